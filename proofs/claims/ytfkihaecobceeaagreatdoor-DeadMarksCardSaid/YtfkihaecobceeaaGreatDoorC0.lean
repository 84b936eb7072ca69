/- A part of the program's functions, printed as the executor's code, and that they are the program's. -/
import Derived.Test.YtfkihaecobceeaaGreatDoorEng4
import Derived.Test.YtfkihaecobceeaaGreatDoorEng1
import Derived.Test.YtfkihaecobceeaaGreatDoorSlots
import Derived.Test.YtfkihaecobceeaaGreatDoorProg
import Derived.KernelRfl
set_option autoImplicit false
set_option linter.all false
set_option maxRecDepth 1000000
namespace Go.Proofs
open Go Go.AX
noncomputable section
def Tryz.c3 : FnK := fun rec recD args H => startK 2 args fun e =>
 seqK (fun K0 =>
 caK rec 4 [] H fun v0 H0 =>
 unK .not v0 fun v1 =>
 condK v1 (K0 .ret (Env.put s4 (.b false) (Env.put s12 v1 (Env.put s4 (.b false) e))) H0 (Ctl.mk [] .none))
 (K0 .norm (Env.put s12 v1 (Env.put s4 (.b false) e)) H0 (Ctl.mk [] .none))) (fun k0 e0 H1 =>
 seqK (fun K1 =>
 binK .lss .no (Env.get s1 e0) (.i .i64 0) fun v2 =>
 gdK v2 false (fun R0 => R0 (Env.get s1 e0) H1 k0) H1 k0 fun v3 H2 k1 =>
 gdK v2 false (fun R1 => binK .gtr .no v3 (.i .i64 12) fun v4 =>
 R1 v4 H2 k1) H2 k1 fun v4 H3 k2 =>
 pkK v2 (.b true) v4 fun v5 =>
 condK v5 (K1 .ret (Env.put s4 (.b true) (Env.put s18 v5 e0)) H3 k2)
 (K1 .norm (Env.put s18 v5 e0) H3 k2)) (fun k3 e1 H4 =>
 seqK (fun K2 =>
 blockK 0 (fun K3 =>
 loopK (fun k4 e2 H5 K4 =>
 binK .lss .no (Env.get s20 e2) (Env.get s19 e2) fun v6 =>
 seqK (fun K5 =>
 condK v6 (K5 .norm (Env.put s21 v6 e2) H5 k4)
 (K5 (.exit 0) (Env.put s21 v6 e2) H5 k4)) (fun k5 e3 H6 =>
 seqK (fun K6 =>
 blockK 1 (fun K7 =>
 binK .add .no (.s [33, 40]) (Env.get s5 e3) fun v7 =>
 binK .add .no v7 (.s [41]) fun v8 =>
 K7 .norm (Env.put s5 v8 e3) H6 k5) K6) (fun k6 e4 H7 =>
 binK .add .no (Env.get s20 e4) (.i .i64 1) fun v9 =>
 K4 .norm (Env.put s20 v9 e4) H7 k6) K4) K4) rounds K3 k3 (Env.put s19 (Env.get s1 e1) (Env.put s20 (.i .i64 0) (Env.put s5 (.s [109, 32, 61, 61, 32, 110, 117, 108, 108]) e1))) H4) K2) (fun k7 e5 H8 =>
 seqK (fun K3 =>
 condK (Env.get s0 e5) (K3 .norm (Env.put s6 (.s [63]) (Env.put s26 (Env.get s0 e5) (Env.put s6 (.s []) e5))) H8 k7)
 (K3 .norm (Env.put s26 (Env.get s0 e5) (Env.put s6 (.s []) e5)) H8 k7)) (fun k8 e6 H9 =>
 binK .add .no (.s [99, 108, 97, 115, 115, 32, 77, 97, 105, 110, 32, 123, 32, 105, 110, 116, 32, 109, 97, 105, 110, 40, 41, 32, 123, 32, 77, 97, 105, 110]) (Env.get s6 e6) fun v10 =>
 binK .add .no v10 (.s [32, 109, 32, 61, 32, 116, 104, 105, 115, 59, 32, 105, 102, 32, 40]) fun v11 =>
 binK .add .no v11 (Env.get s5 e6) fun v12 =>
 binK .add .no v12 (.s [41, 32, 123, 32, 114, 101, 116, 117, 114, 110, 32, 50, 59, 32, 125, 32, 114, 101, 116, 117, 114, 110, 32, 49, 59, 32, 125, 32, 125]) fun v13 =>
 newK 25 [(.i .i64 0), (.i .i64 0)] H9 fun v14 H10 =>
 caK rec 5 [v13] H10 fun v15 H11 =>
 exK 0 v15 fun v16 =>
 exK 1 v15 fun v17 =>
 exK 2 v15 fun v18 =>
 stK 2 v18 v14 H11 fun H12 =>
 seqK (fun K6 =>
 faK 0 v14 fun v7 =>
 ldK false 1 v7 H12 fun v8 =>
 binK .neq .no v8 (.i .i64 0) fun v19 =>
 gdK v19 false (fun R2 => R2 v17 H12 k8) H12 k8 fun v20 H13 k9 =>
 gdK v19 false (fun R3 => binK .eql .no v20 (.i .i64 0) fun v21 =>
 R3 v21 H13 k9) H13 k9 fun v21 H14 k10 =>
 gdK v19 false (fun R4 => R4 (Env.get s0 e6) H14 k10) H14 k10 fun v22 H15 k11 =>
 gdK v19 false (fun R5 => binK .neq .b v21 v22 fun v23 =>
 R5 v23 H15 k11) H15 k11 fun v23 H16 k12 =>
 pkK v19 (.b true) v23 fun v24 =>
 condK v24 (K6 .ret (Env.put s4 (.b false) (Env.put s47 v24 (Env.put s10 v14 (Env.put s8 v16 (Env.put s9 v17 (Env.put s7 v13 e6)))))) H16 k12)
 (K6 .norm (Env.put s47 v24 (Env.put s10 v14 (Env.put s8 v16 (Env.put s9 v17 (Env.put s7 v13 e6))))) H16 k12)) (fun k6 e4 H7 =>
 seqK (fun K7 =>
 .fail) (fun k13 e7 H17 =>
 (endK recD [.slot s4]) .ret e7 H17 k13) (endK recD [.slot s4])) (endK recD [.slot s4])) (endK recD [.slot s4])) (endK recD [.slot s4])) (endK recD [.slot s4])) (endK recD [.slot s4])
theorem Tryz.cOk3 : (compFn Tryz.prog Tryz.f3).map (bodyK 3) = some Tryz.c3 := by kernel_rfl
def Tryz.c16 : FnK := fun rec recD args H => startK 2 args fun e =>
 caK rec 37 [(Env.get s0 e)] H fun v0 H0 =>
 genK roundT rec (.nilCheck (.s s0)) (Ctl.mk [] .none) (Env.put s4 (.i .i64 0) (Env.put s5 .if0 e)) [] H0 fun v1 H1 k0 =>
 faK 1 v1 fun v2 =>
 ldK false 1 v2 H1 fun v3 =>
 apK 5 1 [(.i .u8 0)] H1 v3 (Env.get s1 e) fun v4 H2 =>
 genK roundT rec (.nilCheck (.s s0)) k0 (Env.put s4 (.i .i64 0) (Env.put s5 .if0 e)) [v4, v3, v2, v1] H2 fun v5 H3 k1 =>
 faK 1 v5 fun v6 =>
 stK 1 v4 v6 H3 fun H4 =>
 lnK .s H4 (Env.get s1 e) fun v7 =>
 (endK recD [.slot s4, .slot s5]) .ret (Env.put s4 v7 (Env.put s5 .if0 (Env.put s4 (.i .i64 0) (Env.put s5 .if0 e)))) H4 k1
theorem Tryz.cOk16 : (compFn Tryz.prog Tryz.f16).map (bodyK 16) = some Tryz.c16 := by kernel_rfl
def Tryz.c19 : FnK := fun rec recD args H => startK 1 args fun e =>
 newK 25 [(.i .i64 0), (.i .i64 0)] H fun v0 H0 =>
 newK 102 [.sl0, (.i .i64 0)] H0 fun v1 H1 =>
 newK 25 [(.i .i64 0), (.i .i64 0)] H1 fun v2 H2 =>
 caK rec 41 [(Env.get s0 e)] H2 fun v3 H3 =>
 exK 0 v3 fun v4 =>
 exK 1 v3 fun v5 =>
 stK 2 v4 v1 H3 fun H4 =>
 stK 2 v5 v2 H4 fun H5 =>
 seqK (fun K0 =>
 faK 0 v2 fun v6 =>
 ldK false 1 v6 H5 fun v7 =>
 binK .neq .no v7 (.i .i64 0) fun v8 =>
 condK v8 (ldK true 2 v2 H5 fun v9 =>
 stK 2 v9 v0 H5 fun H6 =>
 K0 .ret (Env.put s2 .p0 (Env.put s16 v8 (Env.put s4 v1 (Env.put s5 v2 (Env.put s2 .p0 (Env.put s3 v0 e)))))) H6 (Ctl.mk [] .none))
 (K0 .norm (Env.put s16 v8 (Env.put s4 v1 (Env.put s5 v2 (Env.put s2 .p0 (Env.put s3 v0 e))))) H5 (Ctl.mk [] .none))) (fun k0 e0 H7 =>
 ldK true 2 (Env.get s4 e0) H7 fun v6 =>
 caK rec 42 [v6] H7 fun v7 H8 =>
 exK 0 v7 fun v8 =>
 exK 1 v7 fun v10 =>
 stK 2 v10 (Env.get s5 e0) H8 fun H9 =>
 seqK (fun K1 =>
 faK 0 (Env.get s5 e0) fun v9 =>
 ldK false 1 v9 H9 fun v11 =>
 binK .neq .no v11 (.i .i64 0) fun v12 =>
 condK v12 (ldK true 2 (Env.get s5 e0) H9 fun v13 =>
 stK 2 v13 (Env.get s3 e0) H9 fun H10 =>
 K1 .ret (Env.put s2 .p0 (Env.put s25 v12 (Env.put s6 v8 e0))) H10 k0)
 (K1 .norm (Env.put s25 v12 (Env.put s6 v8 e0)) H9 k0)) (fun k1 e1 H11 =>
 seqK (fun K2 =>
 newK 25 [(.i .i64 0), (.i .i64 0)] H11 fun v14 H12 =>
 caK rec 43 [(Env.get s6 e1)] H12 fun v15 H13 =>
 exK 0 v15 fun v16 =>
 exK 1 v15 fun v17 =>
 stK 2 v17 v14 H13 fun H14 =>
 faK 0 v14 fun v13 =>
 ldK false 1 v13 H14 fun v18 =>
 binK .neq .no v18 (.i .i64 0) fun v19 =>
 condK v19 (ldK true 2 v14 H14 fun v20 =>
 stK 2 v20 (Env.get s3 e1) H14 fun H15 =>
 K2 .ret (Env.put s2 .p0 (Env.put s34 v19 (Env.put s8 v14 e1))) H15 k1)
 (K2 .norm (Env.put s34 v19 (Env.put s8 v14 e1)) H14 k1)) (fun k2 e2 H16 =>
 bdK [(.i .i64 0), (.i .i64 0)] [] fun v14 =>
 stK 2 v14 (Env.get s3 e2) H16 fun H13 =>
 (endK recD [.slot s2, .cell true 2 s3]) .ret (Env.put s2 (Env.get s6 e2) e2) H13 k2) (endK recD [.slot s2, .cell true 2 s3])) (endK recD [.slot s2, .cell true 2 s3])) (endK recD [.slot s2, .cell true 2 s3])
theorem Tryz.cOk19 : (compFn Tryz.prog Tryz.f19).map (bodyK 19) = some Tryz.c19 := by kernel_rfl
def Tryz.c23 : FnK := fun rec recD args H => startK 2 args fun e =>
 newK 76 [(.i .i64 0), (.i .i64 0), (.i .i64 0), .sl0, (.s []), (.i .i64 0), (.s []), (.i .i64 0), (.s []), (.i .i64 0), (.i .i64 0), (.i .i64 0), .sl0] H fun v0 H0 =>
 genK roundT rec (.nilCheck (.s s0)) (Ctl.mk [] .none) (Env.put s4 v0 e) [] H0 fun v1 H1 k0 =>
 faK 0 v1 fun v2 =>
 faK 0 v2 fun v3 =>
 ldK false 1 v3 H1 fun v4 =>
 iaK .none 13 v4 (Env.get s1 e) fun v5 =>
 ldK true 13 v5 H1 fun v6 =>
 stK 13 v6 v0 H1 fun H2 =>
 (endK recD [.cell true 13 s4]) .ret (Env.put s4 v0 e) H2 k0
theorem Tryz.cOk23 : (compFn Tryz.prog Tryz.f23).map (bodyK 23) = some Tryz.c23 := by kernel_rfl
def Tryz.c26 : FnK := fun rec recD args H => startK 2 args fun e =>
 seqK (fun K0 =>
 binK .lss .no (Env.get s1 e) (.i .i64 0) fun v0 =>
 gdK v0 false (fun R0 => R0 (Env.get s1 e) H (Ctl.mk [] .none)) H (Ctl.mk [] .none) fun v1 H0 k0 =>
 gdK v0 false (fun R1 => R1 (Env.get s0 e) H0 k0) H0 k0 fun v2 H1 k1 =>
 gdK v0 false (fun R2 => genK roundT rec (.nilCheck (.l 0)) k1 (Env.put s4 (.i .i64 0) e) [v2, v1, v0] H1 fun v3 H2 k2 =>
 R2 v3 H2 k2) H1 k1 fun v3 H2 k2 =>
 gdK v0 false (fun R3 => faK 4 v3 fun v4 =>
 R3 v4 H2 k2) H2 k2 fun v4 H3 k3 =>
 gdK v0 false (fun R4 => ldK false 1 v4 H3 fun v5 =>
 R4 v5 H3 k3) H3 k3 fun v5 H4 k4 =>
 gdK v0 false (fun R5 => lnK .sl H4 v5 fun v6 =>
 R5 v6 H4 k4) H4 k4 fun v6 H5 k5 =>
 gdK v0 false (fun R6 => binK .geq .no v1 v6 fun v7 =>
 R6 v7 H5 k5) H5 k5 fun v7 H6 k6 =>
 pkK v0 (.b true) v7 fun v8 =>
 condK v8 (K0 .ret (Env.put s4 (.i .i64 (-1)) (Env.put s15 v8 (Env.put s4 (.i .i64 0) e))) H6 k6)
 (K0 .norm (Env.put s15 v8 (Env.put s4 (.i .i64 0) e)) H6 k6)) (fun k7 e0 H7 =>
 genK roundT rec (.nilCheck (.s s0)) k7 e0 [] H7 fun v0 H8 k8 =>
 faK 4 v0 fun v1 =>
 ldK false 1 v1 H8 fun v2 =>
 iaK .none 1 v2 (Env.get s1 e0) fun v3 =>
 ldK false 1 v3 H8 fun v4 =>
 (endK recD [.slot s4]) .ret (Env.put s4 v4 e0) H8 k8) (endK recD [.slot s4])
theorem Tryz.cOk26 : (compFn Tryz.prog Tryz.f26).map (bodyK 26) = some Tryz.c26 := by kernel_rfl
def Tryz.c27 : FnK := fun rec recD args H => startK 1 args fun e =>
 genK roundT rec (.nilCheck (.s s0)) (Ctl.mk [] .none) (Env.put s2 .sl0 e) [] H fun v0 H0 k0 =>
 faK 6 v0 fun v1 =>
 ldK false 1 v1 H0 fun v2 =>
 caK rec 50 [v2] H0 fun v3 H1 =>
 (endK recD [.slot s2]) .ret (Env.put s2 v3 (Env.put s2 .sl0 e)) H1 k0
theorem Tryz.cOk27 : (compFn Tryz.prog Tryz.f27).map (bodyK 27) = some Tryz.c27 := by kernel_rfl
def Tryz.c30 : FnK := fun rec recD args H => startK 1 args fun e =>
 bxK 74 (Env.get s0 e) H fun v0 H0 =>
 ldK true 4 v0 H0 fun v1 =>
 caK rec 52 [v1] H0 fun v2 H1 =>
 gdK v2 true (fun R0 => faK 2 v0 fun v3 =>
 R0 v3 H1 (Ctl.mk [] .none)) H1 (Ctl.mk [] .none) fun v3 H2 k0 =>
 gdK v2 true (fun R1 => ldK false 1 v3 H2 fun v4 =>
 R1 v4 H2 k0) H2 k0 fun v4 H3 k1 =>
 gdK v2 true (fun R2 => binK .gtr .no v4 (.i .i64 0) fun v5 =>
 R2 v5 H3 k1) H3 k1 fun v5 H4 k2 =>
 gdK v2 true (fun R3 => R3 v5 H4 k2) H4 k2 fun v6 H5 k3 =>
 gdK v6 false (fun R4 => faK 0 v0 fun v7 =>
 R4 v7 H5 k3) H5 k3 fun v7 H6 k4 =>
 gdK v6 false (fun R5 => ldK false 1 v7 H6 fun v8 =>
 R5 v8 H6 k4) H6 k4 fun v8 H7 k5 =>
 gdK v6 false (fun R6 => binK .eql .no v8 (.i .i64 5) fun v9 =>
 R6 v9 H7 k5) H7 k5 fun v9 H8 k6 =>
 gdK v2 true (fun R7 => pkK v6 (.b true) v9 fun v10 =>
 R7 v10 H8 k6) H8 k6 fun v10 H9 k7 =>
 gdK v2 true (fun R8 => R8 v10 H9 k7) H9 k7 fun v11 H10 k8 =>
 gdK v11 false (fun R9 => faK 0 v0 fun v12 =>
 R9 v12 H10 k8) H10 k8 fun v12 H11 k9 =>
 gdK v11 false (fun R10 => ldK false 1 v12 H11 fun v13 =>
 R10 v13 H11 k9) H11 k9 fun v13 H12 k10 =>
 gdK v11 false (fun R11 => binK .eql .no v13 (.i .i64 7) fun v14 =>
 R11 v14 H12 k10) H12 k10 fun v14 H13 k11 =>
 gdK v2 true (fun R12 => pkK v11 (.b true) v14 fun v15 =>
 R12 v15 H13 k11) H13 k11 fun v15 H14 k12 =>
 gdK v2 true (fun R13 => R13 v15 H14 k12) H14 k12 fun v16 H15 k13 =>
 gdK v16 false (fun R14 => faK 0 v0 fun v17 =>
 R14 v17 H15 k13) H15 k13 fun v17 H16 k14 =>
 gdK v16 false (fun R15 => ldK false 1 v17 H16 fun v18 =>
 R15 v18 H16 k14) H16 k14 fun v18 H17 k15 =>
 gdK v16 false (fun R16 => binK .eql .no v18 (.i .i64 8) fun v19 =>
 R16 v19 H17 k15) H17 k15 fun v19 H18 k16 =>
 gdK v2 true (fun R17 => pkK v16 (.b true) v19 fun v20 =>
 R17 v20 H18 k16) H18 k16 fun v20 H19 k17 =>
 pkK v2 v20 (.b false) fun v21 =>
 (endK recD [.slot s2]) .ret (Env.put s2 v21 (Env.put s1 v0 (Env.put s2 (.b false) e))) H19 k17
theorem Tryz.cOk30 : (compFn Tryz.prog Tryz.f30).map (bodyK 30) = some Tryz.c30 := by kernel_rfl
def Tryz.c33 : FnK := fun rec recD args H => startK 2 args fun e =>
 seqK (fun K0 =>
 lnK .s H (Env.get s0 e) fun v0 =>
 binK .gtr .no v0 (.i .i64 65536) fun v1 =>
 condK v1 (K0 .ret (Env.put s4 (.s []) (Env.put s5 (.i .i64 2) (Env.put s13 v1 (Env.put s4 (.s []) (Env.put s5 (.i .i64 0) e))))) H (Ctl.mk [] .none))
 (K0 .norm (Env.put s13 v1 (Env.put s4 (.s []) (Env.put s5 (.i .i64 0) e))) H (Ctl.mk [] .none))) (fun k0 e0 H0 =>
 seqK (fun K1 =>
 lnK .s H0 (Env.get s0 e0) fun v2 =>
 caK rec 57 [v2, (Env.get s1 e0)] H0 fun v3 H1 =>
 binK .neq .no v3 (.i .i64 0) fun v4 =>
 condK v4 (K1 .ret (Env.put s4 (.s []) (Env.put s5 v3 (Env.put s19 v4 (Env.put s6 v3 e0)))) H1 k0)
 (K1 .norm (Env.put s19 v4 (Env.put s6 v3 e0)) H1 k0)) (fun k1 e1 H2 =>
 seqK (fun K2 =>
 lnK .s H2 (Env.get s0 e1) fun v5 =>
 caK rec 58 [v5, (Env.get s1 e1)] H2 fun v6 H3 =>
 binK .gtr .no v6 (.i .i64 65536) fun v7 =>
 condK v7 (K2 .ret (Env.put s4 (.s []) (Env.put s5 (.i .i64 2) (Env.put s25 v7 e1))) H3 k1)
 (K2 .norm (Env.put s25 v7 e1) H3 k1)) (fun k2 e2 H4 =>
 newK 56 [.p0, .sl0] H4 fun v5 H5 =>
 seqK (fun K3 =>
 lnK .sl H5 (Env.get s1 e2) fun v8 =>
 blockK 0 (fun K4 =>
 loopK (fun k3 e3 H6 K5 =>
 binK .lss .no (Env.get s28 e3) (Env.get s27 e3) fun v9 =>
 seqK (fun K6 =>
 condK v9 (K6 .norm (Env.put s29 v9 e3) H6 k3)
 (K6 (.exit 0) (Env.put s29 v9 e3) H6 k3)) (fun k4 e4 H7 =>
 seqK (fun K7 =>
 blockK 1 (fun K8 =>
 iaK .none 3 (Env.get s26 e4) (Env.get s28 e4) fun v10 =>
 ldK true 3 v10 H7 fun v11 =>
 newK 45 [(.i .i64 0), (.i .i64 0), (.s [])] H7 fun v12 H8 =>
 stK 3 v11 v12 H8 fun H9 =>
 faK 0 v12 fun v13 =>
 faK 0 v13 fun v14 =>
 ldK false 1 v14 H9 fun v15 =>
 slK .none (Env.get s0 e4) (.some (Env.get s8 e4)) (.some v15) .none fun v16 =>
 caK rec 16 [(Env.get s7 e4), v16] H9 fun v17 H10 =>
 faK 2 v12 fun v18 =>
 ldK false 1 v18 H10 fun v19 =>
 caK rec 16 [(Env.get s7 e4), v19] H10 fun v20 H11 =>
 faK 0 v12 fun v21 =>
 faK 1 v21 fun v22 =>
 ldK false 1 v22 H11 fun v23 =>
 K8 .norm (Env.put s8 v23 (Env.put s10 v12 e4)) H11 k4) K7) (fun k5 e5 H12 =>
 binK .add .no (Env.get s28 e5) (.i .i64 1) fun v24 =>
 K5 .norm (Env.put s28 v24 e5) H12 k5) K5) K5) rounds K4 k2 (Env.put s26 (Env.get s1 e2) (Env.put s27 v8 (Env.put s28 (.i .i64 0) (Env.put s8 (.i .i64 0) (Env.put s7 v5 e2))))) H5) K3) (fun k6 e6 H13 =>
 slK .none (Env.get s0 e6) (.some (Env.get s8 e6)) .none .none fun v8 =>
 caK rec 16 [(Env.get s7 e6), v8] H13 fun v25 H14 =>
 caK rec 18 [(Env.get s7 e6)] H14 fun v26 H15 =>
 (endK recD [.slot s4, .slot s5]) .ret (Env.put s4 v26 (Env.put s5 (.i .i64 0) e6)) H15 k6) (endK recD [.slot s4, .slot s5])) (endK recD [.slot s4, .slot s5])) (endK recD [.slot s4, .slot s5])) (endK recD [.slot s4, .slot s5])
theorem Tryz.cOk33 : (compFn Tryz.prog Tryz.f33).map (bodyK 33) = some Tryz.c33 := by kernel_rfl
def Tryz.c44 : FnK := fun rec recD args H => startK 1 args fun e =>
 genK roundT rec (.mkMap .none) (Ctl.mk [] .none) (Env.put s2 .p0 e) [] H fun v0 H0 k0 =>
 bdK [.sl0, .m0] [(1, 1, v0)] fun v1 =>
 bxK 184 v1 H0 fun v2 H1 =>
 seqK (fun K0 =>
 caK rec 79 [(Env.get s0 e)] H1 fun v3 H2 =>
 lnK .sl H2 v3 fun v4 =>
 blockK 0 (fun K1 =>
 loopK (fun k1 e0 H3 K2 =>
 binK .lss .no (Env.get s12 e0) (Env.get s11 e0) fun v5 =>
 seqK (fun K3 =>
 condK v5 (K3 .norm (Env.put s13 v5 e0) H3 k1)
 (K3 (.exit 0) (Env.put s13 v5 e0) H3 k1)) (fun k2 e1 H4 =>
 seqK (fun K4 =>
 blockK 1 (fun K5 =>
 iaK .none 1 (Env.get s10 e1) (Env.get s12 e1) fun v6 =>
 ldK false 1 v6 H4 fun v7 =>
 caK rec 80 [(Env.get s3 e1), (Env.get s0 e1), v7] H4 fun v8 H5 =>
 K5 .norm (Env.put s5 v7 e1) H5 k2) K4) (fun k3 e2 H6 =>
 binK .add .no (Env.get s12 e2) (.i .i64 1) fun v9 =>
 K2 .norm (Env.put s12 v9 e2) H6 k3) K2) K2) rounds K1 k0 (Env.put s10 v3 (Env.put s11 v4 (Env.put s12 (.i .i64 0) (Env.put s3 v2 (Env.put s2 .p0 e))))) H2) K0) (fun k4 e3 H7 =>
 genK roundT rec (.nilCheck (.s s3)) k4 e3 [] H7 fun v3 H2 k5 =>
 faK 0 v3 fun v4 =>
 ldK false 1 v4 H2 fun v10 =>
 caK rec 81 [v10, (.f 82 [] [])] H2 fun v11 H8 =>
 genK roundT rec (.nilCheck (.s s3)) k5 e3 [] H8 fun v12 H9 k6 =>
 faK 0 v12 fun v13 =>
 ldK false 1 v13 H9 fun v14 =>
 caK rec 83 [v14] H9 fun v15 H10 =>
 genK roundT rec (.nilCheck (.s s3)) k6 e3 [v15, v14, v13, v12] H10 fun v16 H11 k7 =>
 faK 0 v16 fun v17 =>
 stK 1 v15 v17 H11 fun H12 =>
 (endK recD [.slot s2]) .ret (Env.put s2 (Env.get s3 e3) e3) H12 k7) (endK recD [.slot s2])
theorem Tryz.cOk44 : (compFn Tryz.prog Tryz.f44).map (bodyK 44) = some Tryz.c44 := by kernel_rfl
def Tryz.c47 : FnK := fun rec recD args H => startK 3 args fun e =>
 caK rec 93 [(Env.get s0 e), (Env.get s1 e)] H fun v0 H0 =>
 seqK (fun K0 =>
 binK .eql .ptr v0 .p0 fun v1 =>
 condK v1 (K0 .ret (Env.put s6 .p0 (Env.put s16 v1 (Env.put s7 v0 (Env.put s6 .p0 e)))) H0 (Ctl.mk [] .none))
 (K0 .norm (Env.put s16 v1 (Env.put s7 v0 (Env.put s6 .p0 e))) H0 (Ctl.mk [] .none))) (fun k0 e0 H1 =>
 genK roundT rec (.mkMap .none) k0 e0 [] H1 fun v1 H2 k1 =>
 genK roundT rec (.mkMap .none) k1 e0 [v1] H2 fun v2 H3 k2 =>
 genK roundT rec (.mkMap .none) k2 e0 [v2, v1] H3 fun v3 H4 k3 =>
 genK roundT rec (.mkMap .none) k3 e0 [v3, v2, v1] H4 fun v4 H5 k4 =>
 bdK [.p0, (.i .i64 0), (.i .u64 0), .m0, .m0, (.i .u64 0), (.b false), .m0, (.i .i64 0), .m0] [(0, 1, (Env.get s0 e0)), (1, 1, (Env.get s1 e0)), (3, 1, v1), (4, 1, v2), (7, 1, v3), (9, 1, v4)] fun v5 =>
 bxK 210 v5 H5 fun v6 H6 =>
 seqK (fun K1 =>
 caK rec 27 [(Env.get s0 e0)] H6 fun v7 H7 =>
 iaK .none 8 v7 (Env.get s1 e0) fun v8 =>
 faK 7 v8 fun v9 =>
 ldK false 1 v9 H7 fun v10 =>
 caK rec 28 [v10] H7 fun v11 H8 =>
 lnK .sl H8 v11 fun v12 =>
 blockK 0 (fun K2 =>
 loopK (fun k5 e1 H9 K3 =>
 binK .lss .no (Env.get s33 e1) (Env.get s32 e1) fun v13 =>
 seqK (fun K4 =>
 condK v13 (K4 .norm (Env.put s34 v13 e1) H9 k5)
 (K4 (.exit 0) (Env.put s34 v13 e1) H9 k5)) (fun k6 e2 H10 =>
 seqK (fun K5 =>
 blockK 1 (fun K6 =>
 iaK .none 7 (Env.get s31 e2) (Env.get s33 e2) fun v14 =>
 ldK true 7 v14 H10 fun v15 =>
 newK 82 [(.s []), (.i .i64 0), (.s []), (.i .i64 0), (.s []), (.i .i64 0), (.b false)] H10 fun v16 H11 =>
 stK 7 v15 v16 H11 fun H12 =>
 faK 1 v16 fun v17 =>
 ldK true 4 v17 H12 fun v18 =>
 caK rec 31 [v18] H12 fun v19 H13 =>
 binK .eql .no v19 (.i .u8 32) fun v20 =>
 condK v20 (genK roundT rec (.nilCheck (.s s8)) k6 (Env.put s41 v20 (Env.put s10 v16 (Env.put s9 (Env.get s33 e2) e2))) [] H13 fun v21 H14 k7 =>
 faK 2 v21 fun v22 =>
 ldK false 1 v22 H14 fun v23 =>
 genK roundT rec (.convInt .u64 (.s s9)) k7 (Env.put s41 v20 (Env.put s10 v16 (Env.put s9 (Env.get s33 e2) e2))) [v23, v22, v21] H14 fun v24 H15 k8 =>
 binK .shl .no (.i .u64 1) v24 fun v25 =>
 binK .or .no v23 v25 fun v26 =>
 genK roundT rec (.nilCheck (.s s8)) k8 (Env.put s41 v20 (Env.put s10 v16 (Env.put s9 (Env.get s33 e2) e2))) [v26, v25, v24, v23, v22, v21] H15 fun v27 H16 k9 =>
 faK 2 v27 fun v28 =>
 stK 1 v26 v28 H16 fun H17 =>
 K6 .norm (Env.put s41 v20 (Env.put s10 v16 (Env.put s9 (Env.get s33 e2) e2))) H17 k9)
 (K6 .norm (Env.put s41 v20 (Env.put s10 v16 (Env.put s9 (Env.get s33 e2) e2))) H13 k6)) K5) (fun k10 e3 H18 =>
 binK .add .no (Env.get s33 e3) (.i .i64 1) fun v29 =>
 K3 .norm (Env.put s33 v29 e3) H18 k10) K3) K3) rounds K2 k4 (Env.put s31 v11 (Env.put s32 v12 (Env.put s33 (.i .i64 0) (Env.put s8 v6 e0)))) H8) K1) (fun k11 e4 H19 =>
 caK rec 94 [(Env.get s7 e4)] H19 fun v7 H7 =>
 genK roundT rec (.mkSlice 175 1 [(.i .u64 0)] 8 (.l 0) (.l 0)) k11 e4 [v7] H7 fun v8 H20 k12 =>
 caK rec 94 [(Env.get s7 e4)] H20 fun v9 H21 =>
 genK roundT rec (.mkSlice 4 1 [(.b false)] 1 (.l 0) (.l 0)) k12 e4 [v9, v8, v7] H21 fun v10 H22 k13 =>
 bdK [.p0, .p0, (.b false), .sl0, .sl0, .sl0] [(0, 1, (Env.get s8 e4)), (1, 1, (Env.get s7 e4)), (2, 1, (Env.get s2 e4)), (3, 1, v8), (4, 1, v10)] fun v11 =>
 bxK 214 v11 H22 fun v12 H23 =>
 caK rec 95 [v12] H23 fun v30 H24 =>
 (endK recD [.slot s6]) .ret (Env.put s6 (Env.get s8 e4) (Env.put s11 v12 e4)) H24 k13) (endK recD [.slot s6])) (endK recD [.slot s6])
theorem Tryz.cOk47 : (compFn Tryz.prog Tryz.f47).map (bodyK 47) = some Tryz.c47 := by kernel_rfl
def Tryz.c48 : FnK := fun rec recD args H => startK 2 args fun e =>
 genK roundT rec (.nilCheck (.s s0)) (Ctl.mk [] .none) e [] H fun v0 H0 k0 =>
 faK 0 v0 fun v1 =>
 ldK false 1 v1 H0 fun v2 =>
 newK 76 [(.i .i64 0), (.i .i64 0), (.i .i64 0), .sl0, (.s []), (.i .i64 0), (.s []), (.i .i64 0), (.s []), (.i .i64 0), (.i .i64 0), (.i .i64 0), .sl0] H0 fun v3 H1 =>
 caK rec 23 [v2, (Env.get s1 e)] H1 fun v4 H2 =>
 stK 13 v4 v3 H2 fun H3 =>
 faK 0 v3 fun v5 =>
 ldK false 1 v5 H3 fun v6 =>
 blockK 0 (fun K0 =>
 binK .eql .no v6 (.i .i64 8) fun v7 =>
 condK v7 (faK 3 v3 fun v8 =>
 ldK false 1 v8 H3 fun v9 =>
 lnK .sl H3 v9 fun v10 =>
 blockK 3 (fun K1 =>
 loopK (fun k1 e0 H4 K2 =>
 binK .lss .no (Env.get s43 e0) (Env.get s42 e0) fun v11 =>
 seqK (fun K3 =>
 condK v11 (K3 .norm (Env.put s44 v11 e0) H4 k1)
 (K3 (.exit 3) (Env.put s44 v11 e0) H4 k1)) (fun k2 e1 H5 =>
 seqK (fun K4 =>
 blockK 4 (fun K5 =>
 iaK .none 1 (Env.get s41 e1) (Env.get s43 e1) fun v12 =>
 ldK false 1 v12 H5 fun v13 =>
 caK rec 48 [(Env.get s0 e1), v13] H5 fun v14 H6 =>
 K5 .norm (Env.put s6 v13 e1) H6 k2) K4) (fun k3 e2 H7 =>
 binK .add .no (Env.get s43 e2) (.i .i64 1) fun v15 =>
 K2 .norm (Env.put s43 v15 e2) H7 k3) K2) K2) rounds K1 k0 (Env.put s41 v9 (Env.put s42 v10 (Env.put s43 (.i .i64 0) (Env.put s38 v7 (Env.put s26 v6 (Env.put s4 v3 e)))))) H3) K0)
 (binK .eql .no v6 (.i .i64 9) fun v8 =>
 condK v8 (faK 3 v3 fun v16 =>
 ldK false 1 v16 H3 fun v17 =>
 lnK .sl H3 v17 fun v18 =>
 blockK 5 (fun K6 =>
 loopK (fun k2 e1 H5 K3 =>
 binK .lss .no (Env.get s56 e1) (Env.get s55 e1) fun v15 =>
 seqK (fun K7 =>
 condK v15 (K7 .norm (Env.put s57 v15 e1) H5 k2)
 (K7 (.exit 5) (Env.put s57 v15 e1) H5 k2)) (fun k4 e3 H8 =>
 seqK (fun K8 =>
 blockK 6 (fun K9 =>
 iaK .none 1 (Env.get s54 e3) (Env.get s56 e3) fun v19 =>
 ldK false 1 v19 H8 fun v20 =>
 faK 5 (Env.get s4 e3) fun v21 =>
 ldK true 4 v21 H8 fun v22 =>
 caK rec 96 [(Env.get s0 e3), v20] H8 fun v23 H9 =>
 boolK (and (again ⟨.load true 4 (.l 0), .none, []⟩ v22 (Env.put s8 v20 e3) [v21] H9) true) (caK rec 92 [(Env.get s1 e3), v22] H9 fun v24 H10 =>
 caK rec 90 [(Env.get s0 e3), v20, v23, v24, (.i .i64 1)] H10 fun v25 H11 =>
 K9 .norm (Env.put s8 v20 e3) H11 k4)) K8) (fun k5 e4 H12 =>
 binK .add .no (Env.get s56 e4) (.i .i64 1) fun v14 =>
 K3 .norm (Env.put s56 v14 e4) H12 k5) K3) K3) rounds K6 k0 (Env.put s54 v17 (Env.put s55 v18 (Env.put s56 (.i .i64 0) (Env.put s51 v8 (Env.put s38 v7 (Env.put s26 v6 (Env.put s4 v3 e))))))) H3) K0)
 (binK .eql .no v6 (.i .i64 10) fun v16 =>
 condK v16 (ldK true 13 v3 H3 fun v26 =>
 caK rec 97 [(Env.get s0 e), v26] H3 fun v27 H13 =>
 K0 .norm (Env.put s71 v16 (Env.put s51 v8 (Env.put s38 v7 (Env.put s26 v6 (Env.put s4 v3 e))))) H13 k0)
 (seqK (fun K3 =>
 binK .eql .no v6 (.i .i64 11) fun v15 =>
 condK v15 (K3 .norm (Env.put s76 v15 (Env.put s71 v16 (Env.put s51 v8 (Env.put s38 v7 (Env.put s26 v6 (Env.put s4 v3 e)))))) H3 k0)
 (binK .eql .no v6 (.i .i64 12) fun v12 =>
 K3 .norm (Env.put s76 v12 (Env.put s76 v15 (Env.put s71 v16 (Env.put s51 v8 (Env.put s38 v7 (Env.put s26 v6 (Env.put s4 v3 e))))))) H3 k0)) (fun k2 e1 H5 =>
 condK (Env.get s76 e1) (faK 3 (Env.get s4 e1) fun v28 =>
 ldK false 1 v28 H5 fun v29 =>
 iaK .none 1 v29 (.i .i64 0) fun v30 =>
 ldK false 1 v30 H5 fun v31 =>
 caK rec 96 [(Env.get s0 e1), v31] H5 fun v32 H14 =>
 faK 3 (Env.get s4 e1) fun v14 =>
 ldK false 1 v14 H14 fun v33 =>
 slK (.some 1) v33 (.some (.i .i64 1)) .none .none fun v34 =>
 lnK .sl H14 v34 fun v35 =>
 blockK 7 (fun K10 =>
 loopK (fun k6 e5 H15 K11 =>
 binK .lss .no (Env.get s89 e5) (Env.get s88 e5) fun v36 =>
 seqK (fun K12 =>
 condK v36 (K12 .norm (Env.put s90 v36 e5) H15 k6)
 (K12 (.exit 7) (Env.put s90 v36 e5) H15 k6)) (fun k7 e6 H16 =>
 seqK (fun K13 =>
 blockK 8 (fun K14 =>
 iaK .none 1 (Env.get s87 e6) (Env.get s89 e6) fun v37 =>
 ldK false 1 v37 H16 fun v38 =>
 caK rec 48 [(Env.get s0 e6), v38] H16 fun v39 H17 =>
 K14 .norm (Env.put s10 v38 e6) H17 k7) K13) (fun k8 e7 H18 =>
 binK .add .no (Env.get s89 e7) (.i .i64 1) fun v40 =>
 K11 .norm (Env.put s89 v40 e7) H18 k8) K11) K11) rounds K10 k2 (Env.put s87 v34 (Env.put s88 v35 (Env.put s89 (.i .i64 0) e1))) H14) K0)
 (binK .eql .no (Env.get s26 e1) (.i .i64 15) fun v28 =>
 condK v28 (genK roundT rec (.nilCheck (.s s0)) k2 (Env.put s97 v28 e1) [] H5 fun v41 H19 k9 =>
 faK 0 v41 fun v42 =>
 ldK false 1 v42 H19 fun v43 =>
 genK roundT rec (.nilCheck (.s s0)) k9 (Env.put s97 v28 e1) [v43, v42, v41] H19 fun v44 H20 k10 =>
 faK 2 v44 fun v45 =>
 ldK false 1 v45 H20 fun v46 =>
 newK 86 [(.s []), (.i .i64 0), (.b false), (.i .i64 0), (.s []), (.i .i64 0), (.s []), .p0] H20 fun v47 H21 =>
 caK rec 27 [v43] H21 fun v48 H22 =>
 boolK (and (again ⟨.load false 1 (.l 0), .none, []⟩ v46 (Env.put s97 v28 e1) [v45, v44, v43, v42, v41] H22) true) (iaK .none 8 v48 v46 fun v49 =>
 ldK true 8 v49 H22 fun v50 =>
 stK 8 v50 v47 H22 fun H23 =>
 faK 3 (Env.get s4 e1) fun v21 =>
 ldK false 1 v21 H23 fun v22 =>
 lnK .sl H23 v22 fun v23 =>
 blockK 9 (fun K15 =>
 loopK (fun k7 e6 H16 K12 =>
 binK .lss .no (Env.get s113 e6) (Env.get s112 e6) fun v40 =>
 seqK (fun K16 =>
 condK v40 (K16 .norm (Env.put s114 v40 e6) H16 k7)
 (K16 (.exit 9) (Env.put s114 v40 e6) H16 k7)) (fun k11 e8 H24 =>
 seqK (fun K17 =>
 blockK 10 (fun K18 =>
 iaK .none 1 (Env.get s111 e8) (Env.get s113 e8) fun v51 =>
 ldK false 1 v51 H24 fun v52 =>
 faK 1 (Env.get s11 e8) fun v53 =>
 ldK false 1 v53 H24 fun v54 =>
 faK 3 (Env.get s11 e8) fun v55 =>
 ldK true 4 v55 H24 fun v56 =>
 caK rec 96 [(Env.get s0 e8), v52] H24 fun v57 H25 =>
 boolK (and (again ⟨.load true 4 (.l 0), .none, []⟩ v56 (Env.put s13 v52 e8) [v55, v54, v53] H25) (and (again ⟨.load false 1 (.l 0), .none, []⟩ v54 (Env.put s13 v52 e8) [v53] H25) true)) (caK rec 92 [v54, v56] H25 fun v58 H26 =>
 caK rec 90 [(Env.get s0 e8), v52, v57, v58, (.i .i64 1)] H26 fun v59 H27 =>
 K18 .norm (Env.put s13 v52 e8) H27 k11)) K17) (fun k12 e9 H28 =>
 binK .add .no (Env.get s113 e9) (.i .i64 1) fun v39 =>
 K12 .norm (Env.put s113 v39 e9) H28 k12) K12) K12) rounds K15 k10 (Env.put s111 v22 (Env.put s112 v23 (Env.put s113 (.i .i64 0) (Env.put s11 v47 (Env.put s97 v28 e1))))) H23) K0))
 (binK .eql .no (Env.get s26 e1) (.i .i64 17) fun v41 =>
 condK v41 (genK roundT rec (.nilCheck (.s s0)) k2 (Env.put s129 v41 (Env.put s97 v28 e1)) [] H5 fun v36 H29 k13 =>
 faK 0 v36 fun v60 =>
 ldK false 1 v60 H29 fun v61 =>
 genK roundT rec (.nilCheck (.s s0)) k13 (Env.put s129 v41 (Env.put s97 v28 e1)) [v61, v60, v36] H29 fun v62 H30 k14 =>
 faK 2 v62 fun v63 =>
 ldK false 1 v63 H30 fun v64 =>
 caK rec 27 [v61] H30 fun v65 H31 =>
 boolK (and (again ⟨.load false 1 (.l 0), .none, []⟩ v64 (Env.put s129 v41 (Env.put s97 v28 e1)) [v63, v62, v61, v60, v36] H31) true) (iaK .none 8 v65 v64 fun v66 =>
 faK 0 v66 fun v67 =>
 ldK false 1 v67 H31 fun v68 =>
 genK roundT rec (.nilCheck (.s s0)) k14 (Env.put s14 v68 (Env.put s129 v41 (Env.put s97 v28 e1))) [] H31 fun v69 H32 k15 =>
 faK 0 v69 fun v70 =>
 ldK false 1 v70 H32 fun v71 =>
 genK roundT rec (.nilCheck (.s s0)) k15 (Env.put s14 v68 (Env.put s129 v41 (Env.put s97 v28 e1))) [v71, v70, v69] H32 fun v72 H33 k16 =>
 faK 0 v72 fun v73 =>
 ldK false 1 v73 H33 fun v74 =>
 newK 163 [(.s []), (.s []), (.i .i64 0), (.i .i64 0), (.s []), (.i .i64 0), (.s []), .sl0] H33 fun v75 H34 =>
 caK rec 87 [v71] H34 fun v76 H35 =>
 boolK (and (again ⟨.load false 1 (.l 0), .none, []⟩ v74 (Env.put s14 v68 (Env.put s129 v41 (Env.put s97 v28 e1))) [v73, v72, v71, v70, v69] H35) true) (caK rec 87 [v74] H35 fun v77 H36 =>
 caK rec 89 [v77, v68] H36 fun v78 H37 =>
 caK rec 98 [v76, v78] H37 fun v79 H38 =>
 exK 0 v79 fun v80 =>
 exK 1 v79 fun v81 =>
 stK 8 v80 v75 H38 fun H39 =>
 faK 3 (Env.get s4 e1) fun v40 =>
 ldK false 1 v40 H39 fun v82 =>
 ldK true 8 v75 H39 fun v83 =>
 caK rec 99 [(Env.get s0 e1), v82, v83] H39 fun v84 H40 =>
 K0 .norm (Env.put s15 v75 (Env.put s14 v68 (Env.put s129 v41 (Env.put s97 v28 e1)))) H40 k16)))
 (faK 3 (Env.get s4 e1) fun v36 =>
 ldK false 1 v36 H5 fun v60 =>
 lnK .sl H5 v60 fun v61 =>
 blockK 1 (fun K12 =>
 loopK (fun k8 e7 H18 K13 =>
 binK .lss .no (Env.get s30 e7) (Env.get s29 e7) fun v85 =>
 seqK (fun K17 =>
 condK v85 (K17 .norm (Env.put s31 v85 e7) H18 k8)
 (K17 (.exit 1) (Env.put s31 v85 e7) H18 k8)) (fun k12 e9 H28 =>
 seqK (fun K18 =>
 blockK 2 (fun K19 =>
 iaK .none 1 (Env.get s28 e9) (Env.get s30 e9) fun v53 =>
 ldK false 1 v53 H28 fun v54 =>
 caK rec 96 [(Env.get s0 e9), v54] H28 fun v86 H41 =>
 K19 .norm (Env.put s18 v54 e9) H41 k12) K18) (fun k17 e10 H42 =>
 binK .add .no (Env.get s30 e10) (.i .i64 1) fun v87 =>
 K13 .norm (Env.put s30 v87 e10) H42 k17) K13) K13) rounds K12 k2 (Env.put s28 v60 (Env.put s29 v61 (Env.put s30 (.i .i64 0) (Env.put s129 v41 (Env.put s97 v28 e1))))) H5) K0)))) K0)))) (endK recD [])
theorem Tryz.cOk48 : (compFn Tryz.prog Tryz.f48).map (bodyK 48) = some Tryz.c48 := by kernel_rfl
def Tryz.c53 : FnK := fun rec recD args H => startK 2 args fun e =>
 lnK .sl H (Env.get s0 e) fun v0 =>
 caK rec 103 [(Env.get s0 e), v0, (Env.get s1 e)] H fun v1 H0 =>
 (endK recD []) .norm e H0 (Ctl.mk [] .none)
theorem Tryz.cOk53 : (compFn Tryz.prog Tryz.f53).map (bodyK 53) = some Tryz.c53 := by kernel_rfl
def Tryz.c54 : FnK := fun rec recD args H => startK 2 args fun e =>
 bxK 49 (Env.get s0 e) H fun v0 H0 =>
 bxK 49 (Env.get s1 e) H0 fun v1 H1 =>
 faK 0 v0 fun v2 =>
 faK 0 v2 fun v3 =>
 faK 0 v3 fun v4 =>
 ldK false 1 v4 H1 fun v5 =>
 faK 0 v1 fun v6 =>
 faK 0 v6 fun v7 =>
 faK 0 v7 fun v8 =>
 ldK false 1 v8 H1 fun v9 =>
 faK 0 v0 fun v10 =>
 faK 0 v10 fun v11 =>
 faK 1 v11 fun v12 =>
 ldK false 1 v12 H1 fun v13 =>
 faK 0 v1 fun v14 =>
 faK 0 v14 fun v15 =>
 faK 1 v15 fun v16 =>
 ldK false 1 v16 H1 fun v17 =>
 faK 3 v0 fun v18 =>
 ldK false 1 v18 H1 fun v19 =>
 faK 3 v1 fun v20 =>
 ldK false 1 v20 H1 fun v21 =>
 faK 4 v0 fun v22 =>
 faK 0 v22 fun v23 =>
 ldK false 1 v23 H1 fun v24 =>
 faK 4 v1 fun v25 =>
 faK 0 v25 fun v26 =>
 ldK false 1 v26 H1 fun v27 =>
 caK rec 56 [v5, v9] H1 fun v28 H2 =>
 boolK (and (again ⟨.load false 1 (.l 0), .none, []⟩ v27 (Env.put s2 v0 (Env.put s3 v1 (Env.put s4 (.i .i64 0) e))) [v26, v25, v24, v23, v22, v21, v20, v19, v18, v17, v16, v15, v14, v13, v12, v11, v10, v9, v8, v7, v6, v5, v4, v3, v2] H2) (and (again ⟨.load false 1 (.l 0), .none, []⟩ v24 (Env.put s2 v0 (Env.put s3 v1 (Env.put s4 (.i .i64 0) e))) [v23, v22, v21, v20, v19, v18, v17, v16, v15, v14, v13, v12, v11, v10, v9, v8, v7, v6, v5, v4, v3, v2] H2) (and (again ⟨.load false 1 (.l 0), .none, []⟩ v21 (Env.put s2 v0 (Env.put s3 v1 (Env.put s4 (.i .i64 0) e))) [v20, v19, v18, v17, v16, v15, v14, v13, v12, v11, v10, v9, v8, v7, v6, v5, v4, v3, v2] H2) (and (again ⟨.load false 1 (.l 0), .none, []⟩ v19 (Env.put s2 v0 (Env.put s3 v1 (Env.put s4 (.i .i64 0) e))) [v18, v17, v16, v15, v14, v13, v12, v11, v10, v9, v8, v7, v6, v5, v4, v3, v2] H2) (and (again ⟨.load false 1 (.l 0), .none, []⟩ v17 (Env.put s2 v0 (Env.put s3 v1 (Env.put s4 (.i .i64 0) e))) [v16, v15, v14, v13, v12, v11, v10, v9, v8, v7, v6, v5, v4, v3, v2] H2) (and (again ⟨.load false 1 (.l 0), .none, []⟩ v13 (Env.put s2 v0 (Env.put s3 v1 (Env.put s4 (.i .i64 0) e))) [v12, v11, v10, v9, v8, v7, v6, v5, v4, v3, v2] H2) true)))))) (caK rec 56 [v13, v17] H2 fun v29 H3 =>
 boolK (and (again ⟨.load false 1 (.l 0), .none, []⟩ v27 (Env.put s2 v0 (Env.put s3 v1 (Env.put s4 (.i .i64 0) e))) [v26, v25, v24, v23, v22, v21, v20, v19, v18, v17, v16, v15, v14, v13, v12, v11, v10, v9, v8, v7, v6, v5, v4, v3, v2] H3) (and (again ⟨.load false 1 (.l 0), .none, []⟩ v24 (Env.put s2 v0 (Env.put s3 v1 (Env.put s4 (.i .i64 0) e))) [v23, v22, v21, v20, v19, v18, v17, v16, v15, v14, v13, v12, v11, v10, v9, v8, v7, v6, v5, v4, v3, v2] H3) (and (again ⟨.load false 1 (.l 0), .none, []⟩ v21 (Env.put s2 v0 (Env.put s3 v1 (Env.put s4 (.i .i64 0) e))) [v20, v19, v18, v17, v16, v15, v14, v13, v12, v11, v10, v9, v8, v7, v6, v5, v4, v3, v2] H3) (and (again ⟨.load false 1 (.l 0), .none, []⟩ v19 (Env.put s2 v0 (Env.put s3 v1 (Env.put s4 (.i .i64 0) e))) [v18, v17, v16, v15, v14, v13, v12, v11, v10, v9, v8, v7, v6, v5, v4, v3, v2] H3) true)))) (caK rec 56 [v19, v21] H3 fun v30 H4 =>
 boolK (and (again ⟨.load false 1 (.l 0), .none, []⟩ v27 (Env.put s2 v0 (Env.put s3 v1 (Env.put s4 (.i .i64 0) e))) [v26, v25, v24, v23, v22, v21, v20, v19, v18, v17, v16, v15, v14, v13, v12, v11, v10, v9, v8, v7, v6, v5, v4, v3, v2] H4) (and (again ⟨.load false 1 (.l 0), .none, []⟩ v24 (Env.put s2 v0 (Env.put s3 v1 (Env.put s4 (.i .i64 0) e))) [v23, v22, v21, v20, v19, v18, v17, v16, v15, v14, v13, v12, v11, v10, v9, v8, v7, v6, v5, v4, v3, v2] H4) true)) (caK rec 56 [v24, v27] H4 fun v31 H5 =>
 genK roundT rec (.buildSlice 3 4 1 [(.i .i64 0)] [(0, (.l 3)), (1, (.l 2)), (2, (.l 1)), (3, (.l 0))]) (Ctl.mk [] .none) (Env.put s2 v0 (Env.put s3 v1 (Env.put s4 (.i .i64 0) e))) [v31, v30, v29, v28, v27, v26, v25, v24, v23, v22, v21, v20, v19, v18, v17, v16, v15, v14, v13, v12, v11, v10, v9, v8, v7, v6, v5, v4, v3, v2] H5 fun v32 H6 k0 =>
 caK rec 55 [v32] H6 fun v33 H7 =>
 (endK recD [.slot s4]) .ret (Env.put s4 v33 (Env.put s2 v0 (Env.put s3 v1 (Env.put s4 (.i .i64 0) e)))) H7 k0)))
theorem Tryz.cOk54 : (compFn Tryz.prog Tryz.f54).map (bodyK 54) = some Tryz.c54 := by kernel_rfl
def Tryz.c56 : FnK := fun rec recD args H => startK 2 args fun e =>
 caK rec 104 [(Env.get s0 e)] H fun v0 H0 =>
 caK rec 104 [(Env.get s1 e)] H0 fun v1 H1 =>
 seqK (fun K0 =>
 condK v0 (seqK (fun K1 =>
 condK v1 (K1 .ret (Env.put s4 (.i .i64 0) (Env.put s12 v1 (Env.put s11 v0 (Env.put s6 v1 (Env.put s5 v0 (Env.put s4 (.i .i64 0) e)))))) H1 (Ctl.mk [] .none))
 (K1 .norm (Env.put s12 v1 (Env.put s11 v0 (Env.put s6 v1 (Env.put s5 v0 (Env.put s4 (.i .i64 0) e))))) H1 (Ctl.mk [] .none))) (fun k0 e0 H2 =>
 K0 .ret (Env.put s4 (.i .i64 (-1)) e0) H2 k0) K0)
 (K0 .norm (Env.put s11 v0 (Env.put s6 v1 (Env.put s5 v0 (Env.put s4 (.i .i64 0) e)))) H1 (Ctl.mk [] .none))) (fun k1 e1 H3 =>
 seqK (fun K2 =>
 condK (Env.get s6 e1) (K2 .ret (Env.put s4 (.i .i64 1) (Env.put s13 (Env.get s6 e1) e1)) H3 k1)
 (K2 .norm (Env.put s13 (Env.get s6 e1) e1) H3 k1)) (fun k2 e2 H4 =>
 seqK (fun K3 =>
 binK .lss .no (Env.get s0 e2) (Env.get s1 e2) fun v2 =>
 condK v2 (K3 .ret (Env.put s4 (.i .i64 (-1)) (Env.put s16 v2 e2)) H4 k2)
 (K3 .norm (Env.put s16 v2 e2) H4 k2)) (fun k3 e3 H5 =>
 seqK (fun K4 =>
 binK .gtr .no (Env.get s0 e3) (Env.get s1 e3) fun v3 =>
 condK v3 (K4 .ret (Env.put s4 (.i .i64 1) (Env.put s19 v3 e3)) H5 k3)
 (K4 .norm (Env.put s19 v3 e3) H5 k3)) (fun k4 e4 H6 =>
 (endK recD [.slot s4]) .ret (Env.put s4 (.i .i64 0) e4) H6 k4) (endK recD [.slot s4])) (endK recD [.slot s4])) (endK recD [.slot s4])) (endK recD [.slot s4])
theorem Tryz.cOk56 : (compFn Tryz.prog Tryz.f56).map (bodyK 56) = some Tryz.c56 := by kernel_rfl
def Tryz.c67 : FnK := fun rec recD args H => startK 1 args fun e =>
 seqK (fun K0 =>
 blockK 0 (fun K1 =>
 loopK (fun k0 e0 H0 K2 =>
 blockK 1 (fun K3 =>
 newK 234 [(.i .i64 0), (.i .i64 0), (.i .i64 0)] H0 fun v0 H1 =>
 caK rec 111 [(Env.get s0 e0)] H1 fun v1 H2 =>
 exK 0 v1 fun v2 =>
 exK 1 v1 fun v3 =>
 stK 3 v2 v0 H2 fun H3 =>
 seqK (fun K4 =>
 faK 0 v0 fun v4 =>
 ldK false 1 v4 H3 fun v5 =>
 binK .eql .no v5 (.i .i64 0) fun v6 =>
 condK v6 (K4 (.exit 0) (Env.put s12 v6 (Env.put s3 v0 e0)) H3 k0)
 (K4 .norm (Env.put s12 v6 (Env.put s3 v0 e0)) H3 k0)) (fun k1 e1 H4 =>
 lnK .sl H4 (Env.get s2 e1) fun v4 =>
 binK .add .no v4 (.i .i64 1) fun v5 =>
 caK rec 112 [(Env.get s0 e1), v5] H4 fun v6 H5 =>
 caK rec 113 [(Env.get s0 e1)] H5 fun v7 H6 =>
 genK roundT rec (.buildSlice 3 1 1 [(.i .i64 0)] [(0, (.l 0))]) k1 e1 [v7] H6 fun v8 H7 k2 =>
 apK 3 1 [(.i .i64 0)] H7 (Env.get s2 e1) v8 fun v9 H8 =>
 K3 .norm (Env.put s2 v9 e1) H8 k2) K3) K2) rounds K1 (Ctl.mk [] .none) (Env.put s2 .sl0 e) H) K0) (fun k3 e2 H9 =>
 bdK [(.i .i64 0), (.i .i64 0), (.i .i64 0), .sl0, (.s []), (.i .i64 0), (.s []), (.i .i64 0), (.s []), (.i .i64 0), (.i .i64 0), (.i .i64 0), .sl0] [(0, 1, (.i .i64 1)), (3, 1, (Env.get s2 e2))] fun v10 =>
 caK rec 114 [(Env.get s0 e2), v10, (.i .i64 0)] H9 fun v11 H10 =>
 (endK recD []) .norm e2 H10 k3) (endK recD [])
theorem Tryz.cOk67 : (compFn Tryz.prog Tryz.f67).map (bodyK 67) = some Tryz.c67 := by kernel_rfl
def Tryz.c75 : FnK := fun rec recD args H => startK 1 args fun e =>
 genK roundT rec (.nilCheck (.s s0)) (Ctl.mk [] .none) e [] H fun v0 H0 k0 =>
 faK 0 v0 fun v1 =>
 ldK false 1 v1 H0 fun v2 =>
 genK roundT rec (.nilCheck (.l 0)) k0 e [v2, v1, v0] H0 fun v3 H1 k1 =>
 faK 6 v3 fun v4 =>
 ldK false 1 v4 H1 fun v5 =>
 genK roundT rec (.nilCheck (.s s0)) k1 e [v5, v4, v3, v2, v1, v0] H1 fun v6 H2 k2 =>
 faK 1 v6 fun v7 =>
 ldK false 1 v7 H2 fun v8 =>
 iaK .none 8 v5 v8 fun v9 =>
 ldK true 8 v9 H2 fun v10 =>
 newK 86 [(.s []), (.i .i64 0), (.b false), (.i .i64 0), (.s []), (.i .i64 0), (.s []), .p0] H2 fun v11 H3 =>
 stK 8 v10 v11 H3 fun H4 =>
 genK roundT rec (.nilCheck (.s s0)) k2 (Env.put s2 v11 e) [] H4 fun v12 H5 k3 =>
 faK 0 v12 fun v13 =>
 ldK false 1 v13 H5 fun v14 =>
 genK roundT rec (.nilCheck (.l 0)) k3 (Env.put s2 v11 e) [v14, v13, v12] H5 fun v15 H6 k4 =>
 faK 0 v15 fun v16 =>
 faK 0 v16 fun v17 =>
 ldK false 1 v17 H6 fun v18 =>
 faK 1 v11 fun v19 =>
 ldK false 1 v19 H6 fun v20 =>
 iaK .none 13 v18 v20 fun v21 =>
 faK 3 v21 fun v22 =>
 ldK false 1 v22 H6 fun v23 =>
 seqK (fun K0 =>
 lnK .sl H6 v23 fun v24 =>
 binK .sub .no v24 (.i .i64 1) fun v25 =>
 slK (.some 1) v23 .none (.some v25) .none fun v26 =>
 lnK .sl H6 v26 fun v27 =>
 blockK 0 (fun K1 =>
 loopK (fun k5 e0 H7 K2 =>
 binK .lss .no (Env.get s42 e0) (Env.get s41 e0) fun v28 =>
 seqK (fun K3 =>
 condK v28 (K3 .norm (Env.put s43 v28 e0) H7 k5)
 (K3 (.exit 0) (Env.put s43 v28 e0) H7 k5)) (fun k6 e1 H8 =>
 seqK (fun K4 =>
 blockK 1 (fun K5 =>
 iaK .none 1 (Env.get s40 e1) (Env.get s42 e1) fun v29 =>
 ldK false 1 v29 H8 fun v30 =>
 caK rec 126 [(Env.get s0 e1), v30] H8 fun v31 H9 =>
 K5 .norm (Env.put s5 v30 e1) H9 k6) K4) (fun k7 e2 H10 =>
 binK .add .no (Env.get s42 e2) (.i .i64 1) fun v32 =>
 K2 .norm (Env.put s42 v32 e2) H10 k7) K2) K2) rounds K1 k4 (Env.put s40 v26 (Env.put s41 v27 (Env.put s42 (.i .i64 0) (Env.put s3 v23 (Env.put s2 v11 e))))) H6) K0) (fun k8 e3 H11 =>
 genK roundT rec (.nilCheck (.s s0)) k8 e3 [] H11 fun v24 H12 k9 =>
 faK 0 v24 fun v25 =>
 ldK false 1 v25 H12 fun v26 =>
 genK roundT rec (.nilCheck (.l 0)) k9 e3 [v26, v25, v24] H12 fun v27 H13 k10 =>
 faK 0 v27 fun v33 =>
 faK 0 v33 fun v34 =>
 ldK false 1 v34 H13 fun v35 =>
 lnK .sl H13 (Env.get s3 e3) fun v36 =>
 binK .sub .no v36 (.i .i64 1) fun v37 =>
 iaK .none 1 (Env.get s3 e3) v37 fun v38 =>
 ldK false 1 v38 H13 fun v39 =>
 iaK .none 13 v35 v39 fun v40 =>
 ldK true 13 v40 H13 fun v41 =>
 newK 76 [(.i .i64 0), (.i .i64 0), (.i .i64 0), .sl0, (.s []), (.i .i64 0), (.s []), (.i .i64 0), (.s []), (.i .i64 0), (.i .i64 0), (.i .i64 0), .sl0] H13 fun v42 H14 =>
 stK 13 v41 v42 H14 fun H15 =>
 seqK (fun K6 =>
 faK 2 (Env.get s2 e3) fun v43 =>
 ldK false 1 v43 H15 fun v44 =>
 condK v44 (ldK true 8 (Env.get s2 e3) H15 fun v32 =>
 ldK true 13 v42 H15 fun v45 =>
 caK rec 127 [(Env.get s0 e3), v32, v45] H15 fun v46 H16 =>
 K6 .norm (Env.put s7 v46 (Env.put s67 v44 (Env.put s7 (.i .i64 (-1)) (Env.put s6 v42 e3)))) H16 k10)
 (K6 .norm (Env.put s67 v44 (Env.put s7 (.i .i64 (-1)) (Env.put s6 v42 e3))) H15 k10)) (fun k11 e4 H17 =>
 faK 3 (Env.get s6 e4) fun v43 =>
 ldK false 1 v43 H17 fun v44 =>
 lnK .sl H17 v44 fun v47 =>
 blockK 2 (fun K4 =>
 loopK (fun k12 e5 H18 K5 =>
 binK .lss .no (Env.get s75 e5) (Env.get s74 e5) fun v29 =>
 seqK (fun K7 =>
 condK v29 (K7 .norm (Env.put s76 v29 e5) H18 k12)
 (K7 (.exit 2) (Env.put s76 v29 e5) H18 k12)) (fun k13 e6 H19 =>
 seqK (fun K8 =>
 blockK 3 (fun K9 =>
 iaK .none 1 (Env.get s73 e6) (Env.get s75 e6) fun v48 =>
 ldK false 1 v48 H19 fun v49 =>
 seqK (fun K10 =>
 binK .eql .no (Env.get s75 e6) (.i .i64 0) fun v50 =>
 gdK v50 true (fun R0 => R0 v49 H19 k13) H19 k13 fun v51 H20 k14 =>
 gdK v50 true (fun R1 => R1 (Env.get s7 e6) H20 k14) H20 k14 fun v52 H21 k15 =>
 gdK v50 true (fun R2 => binK .eql .no v51 v52 fun v53 =>
 R2 v53 H21 k15) H21 k15 fun v53 H22 k16 =>
 pkK v50 v53 (.b false) fun v54 =>
 condK v54 (K10 (.exit 3) (Env.put s86 v54 (Env.put s8 (Env.get s75 e6) (Env.put s9 v49 e6))) H22 k16)
 (K10 .norm (Env.put s86 v54 (Env.put s8 (Env.get s75 e6) (Env.put s9 v49 e6))) H22 k16)) (fun k17 e7 H23 =>
 caK rec 128 [(Env.get s0 e7), (Env.get s9 e7)] H23 fun v55 H24 =>
 K9 .norm e7 H24 k17) K9) K8) (fun k18 e8 H25 =>
 binK .add .no (Env.get s75 e8) (.i .i64 1) fun v56 =>
 K5 .norm (Env.put s75 v56 e8) H25 k18) K5) K5) rounds K4 k11 (Env.put s73 v44 (Env.put s74 v47 (Env.put s75 (.i .i64 0) e4))) H17) (endK recD [])) (endK recD [])) (endK recD [])
theorem Tryz.cOk75 : (compFn Tryz.prog Tryz.f75).map (bodyK 75) = some Tryz.c75 := by kernel_rfl
def Tryz.c94 : FnK := fun rec recD args H => startK 1 args fun e =>
 genK roundT rec (.nilCheck (.s s0)) (Ctl.mk [] .none) (Env.put s2 (.i .i64 0) e) [] H fun v0 H0 k0 =>
 faK 1 v0 fun v1 =>
 ldK false 1 v1 H0 fun v2 =>
 lnK .sl H0 v2 fun v3 =>
 (endK recD [.slot s2]) .ret (Env.put s2 v3 (Env.put s2 (.i .i64 0) e)) H0 k0
theorem Tryz.cOk94 : (compFn Tryz.prog Tryz.f94).map (bodyK 94) = some Tryz.c94 := by kernel_rfl
def Tryz.c95 : FnK := fun rec recD args H => startK 1 args fun e =>
 genK roundT rec (.nilCheck (.s s0)) (Ctl.mk [] .none) e [] H fun v0 H0 k0 =>
 faK 1 v0 fun v1 =>
 ldK false 1 v1 H0 fun v2 =>
 caK rec 146 [v2] H0 fun v3 H1 =>
 genK roundT rec (.nilCheck (.s s0)) k0 (Env.put s2 v3 e) [] H1 fun v4 H2 k1 =>
 faK 1 v4 fun v5 =>
 ldK false 1 v5 H2 fun v6 =>
 caK rec 94 [v6] H2 fun v7 H3 =>
 genK roundT rec (.mkSlice 4 1 [(.b false)] 1 (.l 0) (.l 0)) k1 (Env.put s2 v3 e) [v7, v6, v5, v4] H3 fun v8 H4 k2 =>
 genK roundT rec (.nilCheck (.s s0)) k2 (Env.put s2 v3 e) [v8, v7, v6, v5, v4] H4 fun v9 H5 k3 =>
 faK 5 v9 fun v10 =>
 stK 1 v8 v10 H5 fun H6 =>
 genK roundT rec (.nilCheck (.s s0)) k3 (Env.put s2 v3 e) [] H6 fun v11 H7 k4 =>
 faK 1 v11 fun v12 =>
 ldK false 1 v12 H7 fun v13 =>
 caK rec 148 [v13] H7 fun v14 H8 =>
 caK rec 149 [(Env.get s0 e)] H8 fun v15 H9 =>
 caK rec 147 [(Env.get s0 e), v14, v15] H9 fun v16 H10 =>
 seqK (fun K0 =>
 blockK 0 (fun K1 =>
 loopK (fun k5 e0 H11 K2 =>
 seqK (fun K3 =>
 condK (Env.get s3 e0) (K3 .norm (Env.put s30 (Env.get s3 e0) e0) H11 k5)
 (K3 (.exit 0) (Env.put s30 (Env.get s3 e0) e0) H11 k5)) (fun k6 e1 H12 =>
 blockK 1 (fun K4 =>
 genK roundT rec (.nilCheck (.s s0)) k6 (Env.put s3 (.b false) e1) [] H12 fun v17 H13 k7 =>
 faK 0 v17 fun v18 =>
 ldK false 1 v18 H13 fun v19 =>
 genK roundT rec (.nilCheck (.l 0)) k7 (Env.put s3 (.b false) e1) [v19, v18, v17] H13 fun v20 H14 k8 =>
 faK 8 v20 fun v21 =>
 ldK false 1 v21 H14 fun v22 =>
 binK .add .no v22 (.i .i64 1) fun v23 =>
 genK roundT rec (.nilCheck (.l 4)) k8 (Env.put s3 (.b false) e1) [v23, v22, v21, v20, v19, v18, v17] H14 fun v24 H15 k9 =>
 faK 8 v24 fun v25 =>
 stK 1 v23 v25 H15 fun H16 =>
 lnK .sl H16 (Env.get s2 e1) fun v26 =>
 blockK 2 (fun K5 =>
 loopK (fun k10 e2 H17 K6 =>
 binK .lss .no (Env.get s43 e2) (Env.get s42 e2) fun v27 =>
 seqK (fun K7 =>
 condK v27 (K7 .norm (Env.put s44 v27 e2) H17 k10)
 (K7 (.exit 2) (Env.put s44 v27 e2) H17 k10)) (fun k11 e3 H18 =>
 seqK (fun K8 =>
 blockK 3 (fun K9 =>
 iaK .none 1 (Env.get s41 e3) (Env.get s43 e3) fun v28 =>
 ldK false 1 v28 H18 fun v29 =>
 genK roundT rec (.nilCheck (.s s0)) k11 (Env.put s5 v29 e3) [] H18 fun v30 H19 k12 =>
 faK 5 v30 fun v31 =>
 ldK false 1 v31 H19 fun v32 =>
 iaK .none 1 v32 v29 fun v33 =>
 ldK false 1 v33 H19 fun v34 =>
 condK v34 (genK roundT rec (.nilCheck (.s s0)) k12 (Env.put s53 v34 (Env.put s5 v29 e3)) [] H19 fun v35 H20 k13 =>
 faK 5 v35 fun v36 =>
 ldK false 1 v36 H20 fun v37 =>
 iaK .none 1 v37 v29 fun v38 =>
 stK 1 (.b false) v38 H20 fun H21 =>
 caK rec 150 [(Env.get s0 e3), v29] H21 fun v39 H22 =>
 K9 .norm (Env.put s3 (.b true) (Env.put s53 v34 (Env.put s5 v29 e3))) H22 k13)
 (K9 .norm (Env.put s53 v34 (Env.put s5 v29 e3)) H19 k12)) K8) (fun k14 e4 H23 =>
 binK .add .no (Env.get s43 e4) (.i .i64 1) fun v40 =>
 K6 .norm (Env.put s43 v40 e4) H23 k14) K6) K6) rounds K5 k9 (Env.put s41 (Env.get s2 e1) (Env.put s42 v26 (Env.put s43 (.i .i64 0) (Env.put s3 (.b false) e1)))) H16) K4) K2) K2) rounds K1 k4 (Env.put s3 (.b true) (Env.put s2 v3 e)) H10) K0) (fun k15 e5 H24 =>
 genK roundT rec (.nilCheck (.s s0)) k15 e5 [] H24 fun v41 H25 k16 =>
 faK 1 v41 fun v42 =>
 ldK false 1 v42 H25 fun v43 =>
 caK rec 94 [v43] H25 fun v44 H26 =>
 blockK 4 (fun K1 =>
 loopK (fun k5 e0 H11 K2 =>
 binK .lss .no (Env.get s69 e0) (Env.get s68 e0) fun v45 =>
 seqK (fun K10 =>
 condK v45 (K10 .norm (Env.put s70 v45 e0) H11 k5)
 (K10 (.exit 4) (Env.put s70 v45 e0) H11 k5)) (fun k17 e6 H27 =>
 seqK (fun K11 =>
 blockK 5 (fun K12 =>
 genK roundT rec (.nilCheck (.s s0)) k17 (Env.put s6 (Env.get s69 e6) e6) [] H27 fun v46 H28 k18 =>
 faK 4 v46 fun v47 =>
 ldK false 1 v47 H28 fun v48 =>
 iaK .none 1 v48 (Env.get s69 e6) fun v49 =>
 ldK false 1 v49 H28 fun v50 =>
 condK v50 (caK rec 151 [(Env.get s0 e6), (Env.get s69 e6)] H28 fun v51 H29 =>
 K12 .norm (Env.put s78 v50 (Env.put s6 (Env.get s69 e6) e6)) H29 k18)
 (K12 .norm (Env.put s78 v50 (Env.put s6 (Env.get s69 e6) e6)) H28 k18)) K11) (fun k19 e7 H30 =>
 binK .add .no (Env.get s69 e7) (.i .i64 1) fun v52 =>
 K2 .norm (Env.put s69 v52 e7) H30 k19) K2) K2) rounds K1 k16 (Env.put s68 v44 (Env.put s69 (.i .i64 0) e5)) H26) (endK recD [])) (endK recD [])
theorem Tryz.cOk95 : (compFn Tryz.prog Tryz.f95).map (bodyK 95) = some Tryz.c95 := by kernel_rfl
def Tryz.c96 : FnK := fun rec recD args H => startK 2 args fun e =>
 newK 202 [(.i .i64 0), (.s []), (.i .i64 0), (.s []), .sl0] H fun v0 H0 =>
 genK roundT rec (.nilCheck (.s s0)) (Ctl.mk [] .none) (Env.put s4 v0 e) [] H0 fun v1 H1 k0 =>
 faK 0 v1 fun v2 =>
 ldK false 1 v2 H1 fun v3 =>
 newK 76 [(.i .i64 0), (.i .i64 0), (.i .i64 0), .sl0, (.s []), (.i .i64 0), (.s []), (.i .i64 0), (.s []), (.i .i64 0), (.i .i64 0), (.i .i64 0), .sl0] H1 fun v4 H2 =>
 caK rec 23 [v3, (Env.get s1 e)] H2 fun v5 H3 =>
 stK 13 v5 v4 H3 fun H4 =>
 seqK (fun K0 =>
 faK 0 v4 fun v6 =>
 ldK false 1 v6 H4 fun v7 =>
 blockK 0 (fun K1 =>
 binK .eql .no v7 (.i .i64 25) fun v8 =>
 condK v8 (newK 202 [(.i .i64 0), (.s []), (.i .i64 0), (.s []), .sl0] H4 fun v9 H5 =>
 caK rec 152 [(Env.get s0 e), (Env.get s1 e)] H5 fun v10 H6 =>
 stK 5 v10 v9 H6 fun H7 =>
 seqK (fun K2 =>
 faK 0 v9 fun v11 =>
 ldK true 4 v11 H7 fun v12 =>
 caK rec 31 [v12] H7 fun v13 H8 =>
 binK .eql .no v13 (.i .u8 63) fun v14 =>
 gdK v14 true (fun R0 => R0 (Env.get s0 e) H8 k0) H8 k0 fun v15 H9 k1 =>
 gdK v14 true (fun R1 => genK roundT rec (.nilCheck (.l 0)) k1 (Env.put s6 v9 (Env.put s26 v8 (Env.put s25 v7 (Env.put s5 v4 (Env.put s4 v0 e))))) [v15, v14, v13, v12, v11] H9 fun v16 H10 k2 =>
 R1 v16 H10 k2) H9 k1 fun v16 H10 k2 =>
 gdK v14 true (fun R2 => faK 1 v16 fun v17 =>
 R2 v17 H10 k2) H10 k2 fun v17 H11 k3 =>
 gdK v14 true (fun R3 => ldK false 1 v17 H11 fun v18 =>
 R3 v18 H11 k3) H11 k3 fun v18 H12 k4 =>
 gdK v14 true (fun R4 => R4 (Env.get s1 e) H12 k4) H12 k4 fun v19 H13 k5 =>
 gdK v14 true (fun R5 => caK rec 153 [v18, v19] H13 fun v20 H14 =>
 R5 v20 H14 k5) H13 k5 fun v20 H14 k6 =>
 pkK v14 v20 (.b false) fun v21 =>
 condK v21 (ldK true 5 v9 H14 fun v22 =>
 caK rec 154 [v22, (.i .u8 32)] H14 fun v23 H15 =>
 stK 5 v23 v0 H15 fun H16 =>
 K2 .ret (Env.put s42 v21 (Env.put s6 v9 (Env.put s26 v8 (Env.put s25 v7 (Env.put s5 v4 (Env.put s4 v0 e)))))) H16 k6)
 (K2 .norm (Env.put s42 v21 (Env.put s6 v9 (Env.put s26 v8 (Env.put s25 v7 (Env.put s5 v4 (Env.put s4 v0 e)))))) H14 k6)) (fun k7 e0 H17 =>
 ldK true 5 (Env.get s6 e0) H17 fun v11 =>
 stK 5 v11 (Env.get s4 e0) H17 fun H18 =>
 K1 .ret e0 H18 k7) K1)
 (binK .eql .no v7 (.i .i64 34) fun v9 =>
 condK v9 (faK 3 v4 fun v11 =>
 ldK false 1 v11 H4 fun v12 =>
 iaK .none 1 v12 (.i .i64 0) fun v13 =>
 ldK false 1 v13 H4 fun v14 =>
 faK 3 v4 fun v15 =>
 ldK false 1 v15 H4 fun v16 =>
 iaK .none 1 v16 (.i .i64 1) fun v17 =>
 ldK false 1 v17 H4 fun v18 =>
 newK 202 [(.i .i64 0), (.s []), (.i .i64 0), (.s []), .sl0] H4 fun v19 H13 =>
 newK 202 [(.i .i64 0), (.s []), (.i .i64 0), (.s []), .sl0] H13 fun v20 H14 =>
 caK rec 96 [(Env.get s0 e), v14] H14 fun v21 H19 =>
 boolK (and (again ⟨.load false 1 (.l 0), .none, []⟩ v18 (Env.put s46 v9 (Env.put s26 v8 (Env.put s25 v7 (Env.put s5 v4 (Env.put s4 v0 e))))) [v17, v16, v15, v14, v13, v12, v11] H19) (and (again ⟨.load false 1 (.l 0), .none, []⟩ v16 (Env.put s46 v9 (Env.put s26 v8 (Env.put s25 v7 (Env.put s5 v4 (Env.put s4 v0 e))))) [v15, v14, v13, v12, v11] H19) true)) (caK rec 96 [(Env.get s0 e), v18] H19 fun v24 H20 =>
 stK 5 v21 v19 H20 fun H21 =>
 stK 5 v24 v20 H21 fun H22 =>
 seqK (fun K3 =>
 ldK true 5 v19 H22 fun v22 =>
 ldK true 5 v20 H22 fun v23 =>
 bdK [(.i .i64 0), (.s []), (.i .i64 0), (.s []), .sl0, (.i .i64 0), (.s []), (.i .i64 0), (.s []), .sl0] [(0, 5, v22), (5, 5, v23)] fun v25 =>
 blockK 1 (fun K4 =>
 loopK (fun k8 e1 H23 K5 =>
 binK .lss .no (Env.get s63 e1) (.i .i64 2) fun v26 =>
 seqK (fun K6 =>
 condK v26 (K6 .norm (Env.put s64 v26 e1) H23 k8)
 (K6 (.exit 1) (Env.put s64 v26 e1) H23 k8)) (fun k9 e2 H24 =>
 seqK (fun K7 =>
 blockK 2 (fun K8 =>
 ixK (.some (2, true, 5)) (Env.get s62 e2) (Env.get s63 e2) fun v27 =>
 newK 202 [(.i .i64 0), (.s []), (.i .i64 0), (.s []), .sl0] H24 fun v28 H25 =>
 stK 5 v27 v28 H25 fun H26 =>
 faK 0 v28 fun v29 =>
 ldK true 4 v29 H26 fun v30 =>
 caK rec 31 [v30] H26 fun v31 H27 =>
 binK .eql .no v31 (.i .u8 111) fun v32 =>
 gdK v32 true (fun R6 => faK 4 (Env.get s5 e2) fun v33 =>
 R6 v33 H27 k9) H27 k9 fun v33 H28 k10 =>
 gdK v32 true (fun R7 => ldK false 1 v33 H28 fun v34 =>
 R7 v34 H28 k10) H28 k10 fun v34 H29 k11 =>
 gdK v32 true (fun R8 => binK .eql .no v34 (.s [61, 61]) fun v35 =>
 R8 v35 H29 k11) H29 k11 fun v35 H30 k12 =>
 gdK v32 true (fun R9 => R9 v35 H30 k12) H30 k12 fun v36 H31 k13 =>
 gdK v36 false (fun R10 => faK 4 (Env.get s5 e2) fun v37 =>
 R10 v37 H31 k13) H31 k13 fun v37 H32 k14 =>
 gdK v36 false (fun R11 => ldK false 1 v37 H32 fun v38 =>
 R11 v38 H32 k14) H32 k14 fun v38 H33 k15 =>
 gdK v36 false (fun R12 => binK .eql .no v38 (.s [33, 61]) fun v39 =>
 R12 v39 H33 k15) H33 k15 fun v39 H34 k16 =>
 gdK v32 true (fun R13 => pkK v36 (.b true) v39 fun v40 =>
 R13 v40 H34 k16) H34 k16 fun v40 H35 k17 =>
 pkK v32 v40 (.b false) fun v41 =>
 condK v41 (faK 3 (Env.get s5 e2) fun v42 =>
 ldK false 1 v42 H35 fun v43 =>
 iaK .none 1 v43 (Env.get s63 e2) fun v44 =>
 ldK false 1 v44 H35 fun v45 =>
 ldK true 5 v28 H35 fun v46 =>
 caK rec 143 [v46] H35 fun v47 H36 =>
 boolK (and (again ⟨.load false 1 (.l 0), .none, []⟩ v45 (Env.put s80 v41 (Env.put s10 v28 (Env.put s9 (Env.get s63 e2) e2))) [v44, v43, v42] H36) (and (again ⟨.load false 1 (.l 0), .none, []⟩ v43 (Env.put s80 v41 (Env.put s10 v28 (Env.put s9 (Env.get s63 e2) e2))) [v42] H36) true)) (caK rec 86 [] H36 fun v48 H37 =>
 boolK (and (again ⟨.load false 1 (.l 0), .none, []⟩ v45 (Env.put s80 v41 (Env.put s10 v28 (Env.put s9 (Env.get s63 e2) e2))) [v44, v43, v42] H37) (and (again ⟨.load false 1 (.l 0), .none, []⟩ v43 (Env.put s80 v41 (Env.put s10 v28 (Env.put s9 (Env.get s63 e2) e2))) [v42] H37) true)) (caK rec 85 [(Env.get s0 e2), (.i .i64 7), v45, v47, v48] H37 fun v49 H38 =>
 K8 .norm (Env.put s80 v41 (Env.put s10 v28 (Env.put s9 (Env.get s63 e2) e2))) H38 k17)))
 (K8 .norm (Env.put s80 v41 (Env.put s10 v28 (Env.put s9 (Env.get s63 e2) e2))) H35 k17)) K7) (fun k18 e3 H39 =>
 binK .add .no (Env.get s63 e3) (.i .i64 1) fun v50 =>
 K5 .norm (Env.put s63 v50 e3) H39 k18) K5) K5) rounds K4 k0 (Env.put s62 v25 (Env.put s63 (.i .i64 0) (Env.put s7 v19 (Env.put s8 v20 (Env.put s46 v9 (Env.put s26 v8 (Env.put s25 v7 (Env.put s5 v4 (Env.put s4 v0 e))))))))) H22) K3) (fun k19 e4 H40 =>
 genK roundT rec (.nilCheck (.s s0)) k19 e4 [] H40 fun v22 H41 k20 =>
 faK 0 v22 fun v23 =>
 ldK false 1 v23 H41 fun v25 =>
 caK rec 156 [v25, (Env.get s1 e4)] H41 fun v51 H42 =>
 caK rec 155 [v51] H42 fun v52 H43 =>
 stK 5 v52 (Env.get s4 e4) H43 fun H44 =>
 K1 .ret e4 H44 k20) K1))
 (binK .eql .no v7 (.i .i64 26) fun v11 =>
 condK v11 (faK 3 v4 fun v22 =>
 ldK false 1 v22 H4 fun v23 =>
 iaK .none 1 v23 (.i .i64 0) fun v25 =>
 ldK false 1 v25 H4 fun v51 =>
 faK 4 v4 fun v52 =>
 ldK false 1 v52 H4 fun v53 =>
 caK rec 158 [(Env.get s0 e), v51] H4 fun v54 H45 =>
 boolK (and (again ⟨.load false 1 (.l 0), .none, []⟩ v53 (Env.put s99 v11 (Env.put s46 v9 (Env.put s26 v8 (Env.put s25 v7 (Env.put s5 v4 (Env.put s4 v0 e)))))) [v52, v51, v25, v23, v22] H45) true) (caK rec 157 [(Env.get s0 e), v54, v53] H45 fun v55 H46 =>
 stK 5 v55 v0 H46 fun H47 =>
 K1 .ret (Env.put s99 v11 (Env.put s46 v9 (Env.put s26 v8 (Env.put s25 v7 (Env.put s5 v4 (Env.put s4 v0 e)))))) H47 k0))
 (binK .eql .no v7 (.i .i64 29) fun v22 =>
 condK v22 (faK 3 v4 fun v56 =>
 ldK false 1 v56 H4 fun v57 =>
 iaK .none 1 v57 (.i .i64 0) fun v58 =>
 ldK false 1 v58 H4 fun v59 =>
 newK 202 [(.i .i64 0), (.s []), (.i .i64 0), (.s []), .sl0] H4 fun v60 H48 =>
 caK rec 158 [(Env.get s0 e), v59] H48 fun v61 H49 =>
 stK 5 v61 v60 H49 fun H50 =>
 genK roundT rec (.nilCheck (.s s0)) k0 (Env.put s11 v60 (Env.put s111 v22 (Env.put s99 v11 (Env.put s46 v9 (Env.put s26 v8 (Env.put s25 v7 (Env.put s5 v4 (Env.put s4 v0 e)))))))) [] H50 fun v62 H51 k21 =>
 faK 0 v62 fun v63 =>
 ldK false 1 v63 H51 fun v64 =>
 faK 0 v60 fun v65 =>
 faK 1 v65 fun v66 =>
 ldK false 1 v66 H51 fun v67 =>
 faK 4 v4 fun v68 =>
 ldK false 1 v68 H51 fun v69 =>
 newK 163 [(.s []), (.s []), (.i .i64 0), (.i .i64 0), (.s []), (.i .i64 0), (.s []), .sl0] H51 fun v70 H52 =>
 caK rec 87 [v64] H52 fun v71 H53 =>
 boolK (and (again ⟨.load false 1 (.l 0), .none, []⟩ v69 (Env.put s11 v60 (Env.put s111 v22 (Env.put s99 v11 (Env.put s46 v9 (Env.put s26 v8 (Env.put s25 v7 (Env.put s5 v4 (Env.put s4 v0 e)))))))) [v68, v67, v66, v65, v64, v63, v62] H53) (and (again ⟨.load false 1 (.l 0), .none, []⟩ v67 (Env.put s11 v60 (Env.put s111 v22 (Env.put s99 v11 (Env.put s46 v9 (Env.put s26 v8 (Env.put s25 v7 (Env.put s5 v4 (Env.put s4 v0 e)))))))) [v66, v65, v64, v63, v62] H53) true)) (caK rec 88 [v71, v67, v69] H53 fun v72 H54 =>
 exK 0 v72 fun v73 =>
 exK 1 v72 fun v74 =>
 stK 8 v73 v70 H54 fun H55 =>
 faK 3 v4 fun v50 =>
 ldK false 1 v50 H55 fun v75 =>
 slK (.some 1) v75 (.some (.i .i64 1)) .none .none fun v76 =>
 ldK true 8 v70 H55 fun v77 =>
 caK rec 99 [(Env.get s0 e), v76, v77] H55 fun v78 H56 =>
 faK 2 v70 fun v27 =>
 ldK false 1 v27 H56 fun v28 =>
 faK 3 v70 fun v79 =>
 ldK true 4 v79 H56 fun v80 =>
 caK rec 92 [v28, v80] H56 fun v81 H57 =>
 stK 5 v81 v0 H57 fun H58 =>
 K1 .ret (Env.put s12 v70 (Env.put s11 v60 (Env.put s111 v22 (Env.put s99 v11 (Env.put s46 v9 (Env.put s26 v8 (Env.put s25 v7 (Env.put s5 v4 (Env.put s4 v0 e))))))))) H58 k21))
 (binK .eql .no v7 (.i .i64 27) fun v56 =>
 condK v56 (faK 3 v4 fun v82 =>
 ldK false 1 v82 H4 fun v83 =>
 iaK .none 1 v83 (.i .i64 0) fun v84 =>
 ldK false 1 v84 H4 fun v85 =>
 newK 202 [(.i .i64 0), (.s []), (.i .i64 0), (.s []), .sl0] H4 fun v86 H59 =>
 caK rec 158 [(Env.get s0 e), v85] H59 fun v87 H60 =>
 stK 5 v87 v86 H60 fun H61 =>
 faK 3 v4 fun v88 =>
 ldK false 1 v88 H61 fun v89 =>
 iaK .none 1 v89 (.i .i64 1) fun v90 =>
 ldK false 1 v90 H61 fun v91 =>
 caK rec 96 [(Env.get s0 e), v91] H61 fun v92 H62 =>
 ldK true 5 v86 H62 fun v93 =>
 caK rec 159 [v93] H62 fun v94 H63 =>
 stK 5 v94 v0 H63 fun H64 =>
 K1 .ret (Env.put s14 v86 (Env.put s144 v56 (Env.put s111 v22 (Env.put s99 v11 (Env.put s46 v9 (Env.put s26 v8 (Env.put s25 v7 (Env.put s5 v4 (Env.put s4 v0 e))))))))) H64 k0)
 (binK .eql .no v7 (.i .i64 28) fun v82 =>
 condK v82 (faK 3 v4 fun v27 =>
 ldK false 1 v27 H4 fun v28 =>
 iaK .none 1 v28 (.i .i64 0) fun v79 =>
 ldK false 1 v79 H4 fun v80 =>
 caK rec 158 [(Env.get s0 e), v80] H4 fun v81 H57 =>
 genK roundT rec (.nilCheck (.s s0)) k0 (Env.put s160 v82 (Env.put s144 v56 (Env.put s111 v22 (Env.put s99 v11 (Env.put s46 v9 (Env.put s26 v8 (Env.put s25 v7 (Env.put s5 v4 (Env.put s4 v0 e))))))))) [] H57 fun v29 H65 k22 =>
 faK 0 v29 fun v30 =>
 ldK false 1 v30 H65 fun v31 =>
 caK rec 156 [v31, (Env.get s1 e)] H65 fun v32 H66 =>
 caK rec 155 [v32] H66 fun v33 H28 =>
 stK 5 v33 v0 H28 fun H29 =>
 K1 .ret (Env.put s160 v82 (Env.put s144 v56 (Env.put s111 v22 (Env.put s99 v11 (Env.put s46 v9 (Env.put s26 v8 (Env.put s25 v7 (Env.put s5 v4 (Env.put s4 v0 e))))))))) H29 k22)
 (binK .eql .no v7 (.i .i64 30) fun v27 =>
 condK v27 (genK roundT rec (.nilCheck (.s s0)) k0 (Env.put s175 v27 (Env.put s160 v82 (Env.put s144 v56 (Env.put s111 v22 (Env.put s99 v11 (Env.put s46 v9 (Env.put s26 v8 (Env.put s25 v7 (Env.put s5 v4 (Env.put s4 v0 e)))))))))) [] H4 fun v95 H67 k23 =>
 faK 0 v95 fun v96 =>
 ldK false 1 v96 H67 fun v97 =>
 faK 5 v4 fun v98 =>
 faK 1 v98 fun v99 =>
 ldK false 1 v99 H67 fun v100 =>
 newK 163 [(.s []), (.s []), (.i .i64 0), (.i .i64 0), (.s []), (.i .i64 0), (.s []), .sl0] H67 fun v101 H68 =>
 caK rec 87 [v97] H68 fun v102 H69 =>
 boolK (and (again ⟨.load false 1 (.l 0), .none, []⟩ v100 (Env.put s175 v27 (Env.put s160 v82 (Env.put s144 v56 (Env.put s111 v22 (Env.put s99 v11 (Env.put s46 v9 (Env.put s26 v8 (Env.put s25 v7 (Env.put s5 v4 (Env.put s4 v0 e)))))))))) [v99, v98, v97, v96, v95] H69) true) (caK rec 98 [v102, v100] H69 fun v103 H70 =>
 exK 0 v103 fun v104 =>
 exK 1 v103 fun v105 =>
 stK 8 v104 v101 H70 fun H71 =>
 faK 3 v4 fun v106 =>
 ldK false 1 v106 H71 fun v107 =>
 ldK true 8 v101 H71 fun v108 =>
 caK rec 99 [(Env.get s0 e), v107, v108] H71 fun v109 H72 =>
 genK roundT rec (.nilCheck (.s s0)) k23 (Env.put s15 v101 (Env.put s175 v27 (Env.put s160 v82 (Env.put s144 v56 (Env.put s111 v22 (Env.put s99 v11 (Env.put s46 v9 (Env.put s26 v8 (Env.put s25 v7 (Env.put s5 v4 (Env.put s4 v0 e))))))))))) [] H72 fun v110 H73 k24 =>
 faK 0 v110 fun v111 =>
 ldK false 1 v111 H73 fun v112 =>
 caK rec 156 [v112, (Env.get s1 e)] H73 fun v113 H74 =>
 caK rec 155 [v113] H74 fun v114 H75 =>
 stK 5 v114 v0 H75 fun H76 =>
 K1 .ret (Env.put s15 v101 (Env.put s175 v27 (Env.put s160 v82 (Env.put s144 v56 (Env.put s111 v22 (Env.put s99 v11 (Env.put s46 v9 (Env.put s26 v8 (Env.put s25 v7 (Env.put s5 v4 (Env.put s4 v0 e))))))))))) H76 k24))
 (binK .eql .no v7 (.i .i64 31) fun v95 =>
 condK v95 (ldK true 13 v4 H4 fun v115 =>
 caK rec 160 [(Env.get s0 e), (Env.get s1 e), v115] H4 fun v116 H77 =>
 stK 5 v116 v0 H77 fun H78 =>
 K1 .ret (Env.put s201 v95 (Env.put s175 v27 (Env.put s160 v82 (Env.put s144 v56 (Env.put s111 v22 (Env.put s99 v11 (Env.put s46 v9 (Env.put s26 v8 (Env.put s25 v7 (Env.put s5 v4 (Env.put s4 v0 e))))))))))) H78 k0)
 (binK .eql .no v7 (.i .i64 35) fun v115 =>
 condK v115 (faK 5 v4 fun v117 =>
 ldK true 4 v117 H4 fun v118 =>
 newK 202 [(.i .i64 0), (.s []), (.i .i64 0), (.s []), .sl0] H4 fun v119 H79 =>
 caK rec 92 [(Env.get s1 e), v118] H79 fun v120 H80 =>
 stK 5 v120 v119 H80 fun H81 =>
 faK 3 v4 fun v121 =>
 ldK false 1 v121 H81 fun v122 =>
 iaK .none 1 v122 (.i .i64 0) fun v123 =>
 ldK false 1 v123 H81 fun v124 =>
 faK 3 v4 fun v125 =>
 ldK false 1 v125 H81 fun v126 =>
 iaK .none 1 v126 (.i .i64 0) fun v127 =>
 ldK false 1 v127 H81 fun v128 =>
 ldK true 5 v119 H81 fun v129 =>
 caK rec 96 [(Env.get s0 e), v128] H81 fun v130 H82 =>
 boolK (and (again ⟨.load true 5 (.s s17), .none, []⟩ v129 (Env.put s17 v119 (Env.put s207 v115 (Env.put s201 v95 (Env.put s175 v27 (Env.put s160 v82 (Env.put s144 v56 (Env.put s111 v22 (Env.put s99 v11 (Env.put s46 v9 (Env.put s26 v8 (Env.put s25 v7 (Env.put s5 v4 (Env.put s4 v0 e))))))))))))) [v128, v127, v126, v125, v124, v123, v122, v121] H82) (and (again ⟨.load false 1 (.l 0), .none, []⟩ v124 (Env.put s17 v119 (Env.put s207 v115 (Env.put s201 v95 (Env.put s175 v27 (Env.put s160 v82 (Env.put s144 v56 (Env.put s111 v22 (Env.put s99 v11 (Env.put s46 v9 (Env.put s26 v8 (Env.put s25 v7 (Env.put s5 v4 (Env.put s4 v0 e))))))))))))) [v123, v122, v121] H82) (and (again ⟨.load false 1 (.l 0), .none, []⟩ v122 (Env.put s17 v119 (Env.put s207 v115 (Env.put s201 v95 (Env.put s175 v27 (Env.put s160 v82 (Env.put s144 v56 (Env.put s111 v22 (Env.put s99 v11 (Env.put s46 v9 (Env.put s26 v8 (Env.put s25 v7 (Env.put s5 v4 (Env.put s4 v0 e))))))))))))) [v121] H82) true))) (caK rec 90 [(Env.get s0 e), v124, v130, v129, (.i .i64 1)] H82 fun v131 H83 =>
 ldK true 5 v119 H83 fun v132 =>
 stK 5 v132 v0 H83 fun H84 =>
 K1 .ret (Env.put s17 v119 (Env.put s207 v115 (Env.put s201 v95 (Env.put s175 v27 (Env.put s160 v82 (Env.put s144 v56 (Env.put s111 v22 (Env.put s99 v11 (Env.put s46 v9 (Env.put s26 v8 (Env.put s25 v7 (Env.put s5 v4 (Env.put s4 v0 e))))))))))))) H84 k0))
 (K1 .norm (Env.put s207 v115 (Env.put s201 v95 (Env.put s175 v27 (Env.put s160 v82 (Env.put s144 v56 (Env.put s111 v22 (Env.put s99 v11 (Env.put s46 v9 (Env.put s26 v8 (Env.put s25 v7 (Env.put s5 v4 (Env.put s4 v0 e)))))))))))) H4 k0)))))))))) K0) (fun k25 e5 H85 =>
 ldK true 13 (Env.get s5 e5) H85 fun v6 =>
 caK rec 161 [(Env.get s0 e5), (Env.get s1 e5), v6] H85 fun v7 H86 =>
 stK 5 v7 (Env.get s4 e5) H86 fun H87 =>
 (endK recD [.cell true 5 s4]) .ret e5 H87 k25) (endK recD [.cell true 5 s4])
theorem Tryz.cOk96 : (compFn Tryz.prog Tryz.f96).map (bodyK 96) = some Tryz.c96 := by kernel_rfl
def Tryz.c101 : FnK := fun rec recD args H => startK 0 args fun e =>
 newK 74 [(.i .i64 0), (.s []), (.i .i64 0), (.s [])] H fun v0 H0 =>
 bdK [(.i .i64 0), (.s []), (.i .i64 0), (.s [])] [(0, 1, (.i .i64 8)), (3, 1, (.s [111]))] fun v1 =>
 stK 4 v1 v0 H0 fun H1 =>
 (endK recD [.cell true 4 s0]) .ret (Env.put s0 v0 e) H1 (Ctl.mk [] .none)
theorem Tryz.cOk101 : (compFn Tryz.prog Tryz.f101).map (bodyK 101) = some Tryz.c101 := by kernel_rfl
def Tryz.c112 : FnK := fun rec recD args H => startK 2 args fun e =>
 binK .gtr .no (Env.get s1 e) (.i .i64 64) fun v0 =>
 condK v0 (newK 234 [(.i .i64 0), (.i .i64 0), (.i .i64 0)] H fun v1 H0 =>
 caK rec 111 [(Env.get s0 e)] H0 fun v2 H1 =>
 exK 0 v2 fun v3 =>
 exK 1 v2 fun v4 =>
 stK 3 v3 v1 H1 fun H2 =>
 faK 1 v1 fun v5 =>
 faK 0 v5 fun v6 =>
 ldK false 1 v6 H2 fun v7 =>
 caK rec 174 [(.i .i64 2), v7] H2 fun v8 H3 =>
 (endK recD []) .norm (Env.put s4 v1 (Env.put s7 v0 e)) H3 (Ctl.mk [] .none))
 ((endK recD []) .norm (Env.put s7 v0 e) H (Ctl.mk [] .none))
theorem Tryz.cOk112 : (compFn Tryz.prog Tryz.f112).map (bodyK 112) = some Tryz.c112 := by kernel_rfl
def Tryz.c114 : FnK := fun rec recD args H => startK 3 args fun e =>
 bxK 76 (Env.get s1 e) H fun v0 H0 =>
 faK 1 v0 fun v1 =>
 faK 0 v1 fun v2 =>
 stK 1 (Env.get s2 e) v2 H0 fun H1 =>
 faK 1 v0 fun v3 =>
 faK 1 v3 fun v4 =>
 stK 1 (Env.get s2 e) v4 H1 fun H2 =>
 seqK (fun K0 =>
 genK roundT rec (.nilCheck (.s s0)) (Ctl.mk [] .none) (Env.put s4 v0 (Env.put s6 (.i .i64 0) e)) [] H2 fun v5 H3 k0 =>
 faK 2 v5 fun v6 =>
 ldK false 1 v6 H3 fun v7 =>
 binK .gtr .no v7 (.i .i64 0) fun v8 =>
 condK v8 (genK roundT rec (.nilCheck (.s s0)) k0 (Env.put s19 v8 (Env.put s4 v0 (Env.put s6 (.i .i64 0) e))) [] H3 fun v9 H4 k1 =>
 faK 1 v9 fun v10 =>
 ldK false 1 v10 H4 fun v11 =>
 genK roundT rec (.nilCheck (.s s0)) k1 (Env.put s19 v8 (Env.put s4 v0 (Env.put s6 (.i .i64 0) e))) [v11, v10, v9] H4 fun v12 H5 k2 =>
 faK 2 v12 fun v13 =>
 ldK false 1 v13 H5 fun v14 =>
 binK .sub .no v14 (.i .i64 1) fun v15 =>
 iaK .none 3 v11 v15 fun v16 =>
 faK 1 v16 fun v17 =>
 faK 1 v17 fun v18 =>
 ldK false 1 v18 H5 fun v19 =>
 genK roundT rec (.extreme true [(.s s2), (.l 0)]) k2 (Env.put s19 v8 (Env.put s4 v0 (Env.put s6 (.i .i64 0) e))) [v19, v18, v17, v16, v15, v14, v13, v12, v11, v10, v9] H5 fun v20 H6 k3 =>
 faK 1 v0 fun v21 =>
 faK 1 v21 fun v22 =>
 stK 1 v20 v22 H6 fun H7 =>
 K0 .norm (Env.put s19 v8 (Env.put s4 v0 (Env.put s6 (.i .i64 0) e))) H7 k3)
 (K0 .norm (Env.put s19 v8 (Env.put s4 v0 (Env.put s6 (.i .i64 0) e))) H3 k0)) (fun k4 e0 H8 =>
 genK roundT rec (.nilCheck (.s s0)) k4 e0 [] H8 fun v5 H3 k0 =>
 faK 4 v5 fun v6 =>
 ldK true 13 (Env.get s4 e0) H3 fun v7 =>
 caK rec 180 [v6, v7] H3 fun v8 H9 =>
 exK 0 v8 fun v23 =>
 exK 1 v8 fun v24 =>
 seqK (fun K1 =>
 unK .not v24 fun v25 =>
 gdK v25 false (fun R0 => R0 v23 H9 k0) H9 k0 fun v26 H10 k5 =>
 gdK v25 false (fun R1 => binK .geq .no v26 (.i .i64 8192) fun v27 =>
 R1 v27 H10 k5) H10 k5 fun v27 H11 k6 =>
 pkK v25 (.b true) v27 fun v28 =>
 condK v28 (caK rec 174 [(.i .i64 2), (Env.get s2 e0)] H11 fun v29 H12 =>
 K1 .norm (Env.put s50 v28 (Env.put s7 v23 (Env.put s8 v24 e0))) H12 k6)
 (K1 .norm (Env.put s50 v28 (Env.put s7 v23 (Env.put s8 v24 e0))) H11 k6)) (fun k7 e1 H13 =>
 (endK recD [.slot s6]) .ret (Env.put s6 (Env.get s7 e1) e1) H13 k7) (endK recD [.slot s6])) (endK recD [.slot s6])
theorem Tryz.cOk114 : (compFn Tryz.prog Tryz.f114).map (bodyK 114) = some Tryz.c114 := by kernel_rfl
def Tryz.c115 : FnK := fun rec recD args H => startK 1 args fun e =>
 bxK 102 (Env.get s0 e) H fun v0 H0 =>
 seqK (fun K0 =>
 faK 0 v0 fun v1 =>
 ldK false 1 v1 H0 fun v2 =>
 lnK .sl H0 v2 fun v3 =>
 binK .gtr .no v3 (.i .i64 16384) fun v4 =>
 condK v4 (K0 .ret (Env.put s2 (.i .i64 2) (Env.put s14 v4 (Env.put s1 v0 (Env.put s2 (.i .i64 0) e)))) H0 (Ctl.mk [] .none))
 (K0 .norm (Env.put s14 v4 (Env.put s1 v0 (Env.put s2 (.i .i64 0) e))) H0 (Ctl.mk [] .none))) (fun k0 e0 H1 =>
 seqK (fun K1 =>
 faK 0 (Env.get s1 e0) fun v5 =>
 ldK false 1 v5 H1 fun v6 =>
 lnK .sl H1 v6 fun v7 =>
 binK .eql .no v7 (.i .i64 0) fun v8 =>
 gdK v8 false (fun R0 => faK 1 (Env.get s1 e0) fun v9 =>
 R0 v9 H1 k0) H1 k0 fun v9 H2 k1 =>
 gdK v8 false (fun R1 => ldK false 1 v9 H2 fun v10 =>
 R1 v10 H2 k1) H2 k1 fun v10 H3 k2 =>
 gdK v8 false (fun R2 => faK 0 (Env.get s1 e0) fun v11 =>
 R2 v11 H3 k2) H3 k2 fun v11 H4 k3 =>
 gdK v8 false (fun R3 => ldK false 1 v11 H4 fun v12 =>
 R3 v12 H4 k3) H4 k3 fun v12 H5 k4 =>
 gdK v8 false (fun R4 => lnK .sl H5 v12 fun v13 =>
 R4 v13 H5 k4) H5 k4 fun v13 H6 k5 =>
 gdK v8 false (fun R5 => binK .sub .no v13 (.i .i64 1) fun v14 =>
 R5 v14 H6 k5) H6 k5 fun v14 H7 k6 =>
 gdK v8 false (fun R6 => binK .neq .no v10 v14 fun v15 =>
 R6 v15 H7 k6) H7 k6 fun v15 H8 k7 =>
 pkK v8 (.b true) v15 fun v16 =>
 gdK v16 false (fun R7 => faK 0 (Env.get s1 e0) fun v17 =>
 R7 v17 H8 k7) H8 k7 fun v17 H9 k8 =>
 gdK v16 false (fun R8 => ldK false 1 v17 H9 fun v18 =>
 R8 v18 H9 k8) H9 k8 fun v18 H10 k9 =>
 gdK v16 false (fun R9 => faK 1 (Env.get s1 e0) fun v19 =>
 R9 v19 H10 k9) H10 k9 fun v19 H11 k10 =>
 gdK v16 false (fun R10 => ldK false 1 v19 H11 fun v20 =>
 R10 v20 H11 k10) H11 k10 fun v20 H12 k11 =>
 gdK v16 false (fun R11 => iaK .none 13 v18 v20 fun v21 =>
 R11 v21 H12 k11) H12 k11 fun v21 H13 k12 =>
 gdK v16 false (fun R12 => faK 0 v21 fun v22 =>
 R12 v22 H13 k12) H13 k12 fun v22 H14 k13 =>
 gdK v16 false (fun R13 => ldK false 1 v22 H14 fun v23 =>
 R13 v23 H14 k13) H14 k13 fun v23 H15 k14 =>
 gdK v16 false (fun R14 => binK .neq .no v23 (.i .i64 1) fun v24 =>
 R14 v24 H15 k14) H15 k14 fun v24 H16 k15 =>
 pkK v16 (.b true) v24 fun v25 =>
 condK v25 (K1 .ret (Env.put s2 (.i .i64 5) (Env.put s37 v25 e0)) H16 k15)
 (K1 .norm (Env.put s37 v25 e0) H16 k15)) (fun k16 e1 H17 =>
 faK 0 (Env.get s1 e1) fun v5 =>
 ldK false 1 v5 H17 fun v6 =>
 lnK .sl H17 v6 fun v7 =>
 genK roundT rec (.mkSlice 4 1 [(.b false)] 1 (.l 0) (.l 0)) k16 e1 [v7, v6, v5] H17 fun v8 H18 k17 =>
 seqK (fun K2 =>
 faK 0 (Env.get s1 e1) fun v26 =>
 ldK false 1 v26 H18 fun v27 =>
 lnK .sl H18 v27 fun v28 =>
 blockK 0 (fun K3 =>
 loopK (fun k18 e2 H19 K4 =>
 binK .lss .no (Env.get s45 e2) (Env.get s44 e2) fun v29 =>
 seqK (fun K5 =>
 condK v29 (K5 .norm (Env.put s46 v29 e2) H19 k18)
 (K5 (.exit 0) (Env.put s46 v29 e2) H19 k18)) (fun k19 e3 H20 =>
 seqK (fun K6 =>
 blockK 1 (fun K7 =>
 iaK .none 13 (Env.get s43 e3) (Env.get s45 e3) fun v30 =>
 ldK true 13 v30 H20 fun v31 =>
 newK 76 [(.i .i64 0), (.i .i64 0), (.i .i64 0), .sl0, (.s []), (.i .i64 0), (.s []), (.i .i64 0), (.s []), (.i .i64 0), (.i .i64 0), (.i .i64 0), .sl0] H20 fun v32 H21 =>
 stK 13 v31 v32 H21 fun H22 =>
 faK 0 v32 fun v33 =>
 ldK false 1 v33 H22 fun v34 =>
 newK 305 [(.s []), (.i .i64 0), (.i .i64 0), (.b false), (.b false)] H22 fun v35 H23 =>
 caK rec 181 [v34] H23 fun v36 H24 =>
 stK 5 v36 v35 H24 fun H25 =>
 seqK (fun K8 =>
 blockK 2 (fun K9 =>
 faK 0 v35 fun v37 =>
 ldK false 1 v37 H25 fun v38 =>
 binK .eql .no v38 (.s []) fun v39 =>
 condK v39 (K9 .ret (Env.put s2 (.i .i64 3) (Env.put s53 v39 (Env.put s6 v35 (Env.put s5 v32 (Env.put s4 (Env.get s45 e3) e3))))) H25 k19)
 (faK 3 v32 fun v40 =>
 ldK false 1 v40 H25 fun v41 =>
 lnK .sl H25 v41 fun v42 =>
 faK 1 v35 fun v43 =>
 ldK false 1 v43 H25 fun v44 =>
 binK .lss .no v42 v44 fun v45 =>
 gdK v45 false (fun R15 => faK 2 v35 fun v46 =>
 R15 v46 H25 k19) H25 k19 fun v46 H26 k20 =>
 gdK v45 false (fun R16 => ldK false 1 v46 H26 fun v47 =>
 R16 v47 H26 k20) H26 k20 fun v47 H27 k21 =>
 gdK v45 false (fun R17 => binK .geq .no v47 (.i .i64 0) fun v48 =>
 R17 v48 H27 k21) H27 k21 fun v48 H28 k22 =>
 gdK v45 false (fun R18 => R18 v48 H28 k22) H28 k22 fun v49 H29 k23 =>
 gdK v49 true (fun R19 => faK 3 v32 fun v50 =>
 R19 v50 H29 k23) H29 k23 fun v50 H30 k24 =>
 gdK v49 true (fun R20 => ldK false 1 v50 H30 fun v51 =>
 R20 v51 H30 k24) H30 k24 fun v51 H31 k25 =>
 gdK v49 true (fun R21 => lnK .sl H31 v51 fun v52 =>
 R21 v52 H31 k25) H31 k25 fun v52 H32 k26 =>
 gdK v49 true (fun R22 => faK 2 v35 fun v53 =>
 R22 v53 H32 k26) H32 k26 fun v53 H33 k27 =>
 gdK v49 true (fun R23 => ldK false 1 v53 H33 fun v54 =>
 R23 v54 H33 k27) H33 k27 fun v54 H34 k28 =>
 gdK v49 true (fun R24 => binK .gtr .no v52 v54 fun v55 =>
 R24 v55 H34 k28) H34 k28 fun v55 H35 k29 =>
 gdK v45 false (fun R25 => pkK v49 v55 (.b false) fun v56 =>
 R25 v56 H35 k29) H35 k29 fun v56 H36 k30 =>
 pkK v45 (.b true) v56 fun v57 =>
 condK v57 (K9 .ret (Env.put s2 (.i .i64 131) (Env.put s57 v57 (Env.put s53 v39 (Env.put s6 v35 (Env.put s5 v32 (Env.put s4 (Env.get s45 e3) e3)))))) H36 k30)
 (seqK (fun K10 =>
 faK 3 v35 fun v58 =>
 ldK false 1 v58 H36 fun v59 =>
 unK .not v59 fun v60 =>
 gdK v60 true (fun R26 => faK 4 v32 fun v61 =>
 R26 v61 H36 k30) H36 k30 fun v61 H37 k31 =>
 gdK v60 true (fun R27 => ldK false 1 v61 H37 fun v62 =>
 R27 v62 H37 k31) H37 k31 fun v62 H38 k32 =>
 gdK v60 true (fun R28 => binK .neq .no v62 (.s []) fun v63 =>
 R28 v63 H38 k32) H38 k32 fun v63 H39 k33 =>
 pkK v60 v63 (.b false) fun v64 =>
 condK v64 (K10 .norm (Env.put s77 v64 (Env.put s57 v57 (Env.put s53 v39 (Env.put s6 v35 (Env.put s5 v32 (Env.put s4 (Env.get s45 e3) e3)))))) H39 k33)
 (faK 4 v35 fun v65 =>
 ldK false 1 v65 H39 fun v66 =>
 faK 5 v32 fun v67 =>
 ldK true 4 v67 H39 fun v68 =>
 caK rec 162 [v68] H39 fun v69 H40 =>
 boolK (and (again ⟨.load false 1 (.l 0), .none, []⟩ v66 (Env.put s77 v64 (Env.put s57 v57 (Env.put s53 v39 (Env.put s6 v35 (Env.put s5 v32 (Env.put s4 (Env.get s45 e3) e3)))))) [v65] H40) true) (binK .neq .b v66 v69 fun v70 =>
 gdK v70 false (fun R29 => faK 4 v35 fun v71 =>
 R29 v71 H40 k33) H40 k33 fun v71 H41 k34 =>
 gdK v70 false (fun R30 => ldK false 1 v71 H41 fun v72 =>
 R30 v72 H41 k34) H41 k34 fun v72 H42 k35 =>
 gdK v70 false (fun R31 => unK .not v72 fun v73 =>
 R31 v73 H42 k35) H42 k35 fun v73 H43 k36 =>
 gdK v70 false (fun R32 => R32 v73 H43 k36) H43 k36 fun v74 H44 k37 =>
 gdK v74 true (fun R33 => faK 5 v32 fun v75 =>
 R33 v75 H44 k37) H44 k37 fun v75 H45 k38 =>
 gdK v74 true (fun R34 => ldK true 4 v75 H45 fun v76 =>
 R34 v76 H45 k38) H45 k38 fun v76 H46 k39 =>
 gdK v74 true (fun R35 => bdK [(.i .i64 0), (.s []), (.i .i64 0), (.s [])] [] fun v77 =>
 R35 v77 H46 k39) H46 k39 fun v77 H47 k40 =>
 gdK v74 true (fun R36 => binK .neq (.flat [(0, .i), (1, .s), (2, .i), (3, .s)]) v76 v77 fun v78 =>
 R36 v78 H47 k40) H47 k40 fun v78 H48 k41 =>
 gdK v70 false (fun R37 => pkK v74 v78 (.b false) fun v79 =>
 R37 v79 H48 k41) H48 k41 fun v79 H49 k42 =>
 pkK v70 (.b true) v79 fun v80 =>
 K10 .norm (Env.put s77 v80 (Env.put s77 v64 (Env.put s57 v57 (Env.put s53 v39 (Env.put s6 v35 (Env.put s5 v32 (Env.put s4 (Env.get s45 e3) e3))))))) H49 k42))) (fun k43 e4 H50 =>
 condK (Env.get s77 e4) (K9 .ret (Env.put s2 (.i .i64 5) e4) H50 k43)
 (K9 .norm e4 H50 k43)) K9))) K8) (fun k44 e5 H51 =>
 faK 3 (Env.get s5 e5) fun v81 =>
 ldK false 1 v81 H51 fun v82 =>
 lnK .sl H51 v82 fun v83 =>
 blockK 3 (fun K11 =>
 loopK (fun k45 e6 H52 K12 =>
 binK .lss .no (Env.get s106 e6) (Env.get s105 e6) fun v40 =>
 seqK (fun K13 =>
 condK v40 (K13 .norm (Env.put s107 v40 e6) H52 k45)
 (K13 (.exit 3) (Env.put s107 v40 e6) H52 k45)) (fun k46 e7 H53 =>
 seqK (fun K10 =>
 blockK 4 (fun K14 =>
 iaK .none 1 (Env.get s104 e7) (Env.get s106 e7) fun v84 =>
 ldK false 1 v84 H53 fun v85 =>
 seqK (fun K15 =>
 binK .lss .no v85 (.i .i64 0) fun v86 =>
 gdK v86 false (fun R38 => R38 v85 H53 k46) H53 k46 fun v87 H54 k47 =>
 gdK v86 false (fun R39 => R39 (Env.get s4 e7) H54 k47) H54 k47 fun v88 H55 k48 =>
 gdK v86 false (fun R40 => binK .geq .no v87 v88 fun v89 =>
 R40 v89 H55 k48) H55 k48 fun v89 H56 k49 =>
 pkK v86 (.b true) v89 fun v90 =>
 condK v90 (K15 .ret (Env.put s2 (.i .i64 7) (Env.put s116 v90 (Env.put s8 v85 e7))) H56 k49)
 (K15 .norm (Env.put s116 v90 (Env.put s8 v85 e7)) H56 k49)) (fun k50 e8 H57 =>
 seqK (fun K16 =>
 iaK .none 1 (Env.get s3 e8) (Env.get s8 e8) fun v91 =>
 ldK false 1 v91 H57 fun v92 =>
 condK v92 (K16 .ret (Env.put s2 (.i .i64 4) (Env.put s120 v92 e8)) H57 k50)
 (K16 .norm (Env.put s120 v92 e8) H57 k50)) (fun k51 e9 H58 =>
 iaK .none 1 (Env.get s3 e9) (Env.get s8 e9) fun v86 =>
 stK 1 (.b true) v86 H58 fun H54 =>
 K14 .norm e9 H54 k51) K14) K14) K10) (fun k43 e4 H50 =>
 binK .add .no (Env.get s106 e4) (.i .i64 1) fun v93 =>
 K12 .norm (Env.put s106 v93 e4) H50 k43) K12) K12) rounds K11 k44 (Env.put s104 v82 (Env.put s105 v83 (Env.put s106 (.i .i64 0) e5))) H51) K7) K7) K6) (fun k52 e10 H59 =>
 binK .add .no (Env.get s45 e10) (.i .i64 1) fun v94 =>
 K4 .norm (Env.put s45 v94 e10) H59 k52) K4) K4) rounds K3 k17 (Env.put s43 v27 (Env.put s44 v28 (Env.put s45 (.i .i64 0) (Env.put s3 v8 e1)))) H18) K2) (fun k53 e11 H60 =>
 seqK (fun K17 =>
 lnK .sl H60 (Env.get s3 e11) fun v95 =>
 blockK 5 (fun K4 =>
 loopK (fun k54 e12 H61 K18 =>
 binK .lss .no (Env.get s128 e12) (Env.get s127 e12) fun v96 =>
 seqK (fun K6 =>
 condK v96 (K6 .norm (Env.put s129 v96 e12) H61 k54)
 (K6 (.exit 5) (Env.put s129 v96 e12) H61 k54)) (fun k52 e10 H59 =>
 seqK (fun K7 =>
 blockK 6 (fun K19 =>
 iaK .none 1 (Env.get s126 e10) (Env.get s128 e10) fun v97 =>
 ldK false 1 v97 H59 fun v98 =>
 unK .not v98 fun v99 =>
 gdK v99 true (fun R41 => R41 (Env.get s128 e10) H59 k52) H59 k52 fun v100 H62 k55 =>
 gdK v99 true (fun R42 => faK 1 (Env.get s1 e10) fun v101 =>
 R42 v101 H62 k55) H62 k55 fun v101 H63 k56 =>
 gdK v99 true (fun R43 => ldK false 1 v101 H63 fun v102 =>
 R43 v102 H63 k56) H63 k56 fun v102 H64 k57 =>
 gdK v99 true (fun R44 => binK .neq .no v100 v102 fun v103 =>
 R44 v103 H64 k57) H64 k57 fun v103 H65 k58 =>
 pkK v99 v103 (.b false) fun v104 =>
 condK v104 (K19 .ret (Env.put s2 (.i .i64 3) (Env.put s140 v104 (Env.put s9 (Env.get s128 e10) (Env.put s10 v98 e10)))) H65 k58)
 (K19 .norm (Env.put s140 v104 (Env.put s9 (Env.get s128 e10) (Env.put s10 v98 e10))) H65 k58)) K7) (fun k59 e13 H66 =>
 binK .add .no (Env.get s128 e13) (.i .i64 1) fun v105 =>
 K18 .norm (Env.put s128 v105 e13) H66 k59) K18) K18) rounds K4 k53 (Env.put s126 (Env.get s3 e11) (Env.put s127 v95 (Env.put s128 (.i .i64 0) e11))) H60) K17) (fun k60 e14 H67 =>
 (endK recD [.slot s2]) .ret (Env.put s2 (.i .i64 0) e14) H67 k60) (endK recD [.slot s2])) (endK recD [.slot s2])) (endK recD [.slot s2])) (endK recD [.slot s2])
theorem Tryz.cOk115 : (compFn Tryz.prog Tryz.f115).map (bodyK 115) = some Tryz.c115 := by kernel_rfl
def Tryz.c117 : FnK := fun rec recD args H => startK 3 args fun e =>
 newK 25 [(.i .i64 0), (.i .i64 0)] H fun v0 H0 =>
 seqK (fun K0 =>
 blockK 0 (fun K1 =>
 binK .eql .no (Env.get s2 e) (.i .i64 0) fun v1 =>
 condK v1 (genK roundT rec (.nilCheck (.s s1)) (Ctl.mk [] .none) (Env.put s17 v1 (Env.put s16 (Env.get s2 e) (Env.put s6 v0 e))) [] H0 fun v2 H1 k0 =>
 faK 2 v2 fun v3 =>
 ldK false 1 v3 H1 fun v4 =>
 binK .neq .no v4 (.s []) fun v5 =>
 gdK v5 true (fun R0 => R0 (Env.get s0 e) H1 k0) H1 k0 fun v6 H2 k1 =>
 gdK v5 true (fun R1 => genK roundT rec (.nilCheck (.l 0)) k1 (Env.put s17 v1 (Env.put s16 (Env.get s2 e) (Env.put s6 v0 e))) [v6, v5, v4, v3, v2] H2 fun v7 H3 k2 =>
 R1 v7 H3 k2) H2 k1 fun v7 H3 k2 =>
 gdK v5 true (fun R2 => faK 3 v7 fun v8 =>
 R2 v8 H3 k2) H3 k2 fun v8 H4 k3 =>
 gdK v5 true (fun R3 => ldK false 1 v8 H4 fun v9 =>
 R3 v9 H4 k3) H4 k3 fun v9 H5 k4 =>
 gdK v5 true (fun R4 => R4 (Env.get s1 e) H5 k4) H5 k4 fun v10 H6 k5 =>
 gdK v5 true (fun R5 => genK roundT rec (.nilCheck (.l 0)) k5 (Env.put s17 v1 (Env.put s16 (Env.get s2 e) (Env.put s6 v0 e))) [v10, v9, v8, v7, v6, v5, v4, v3, v2] H6 fun v11 H7 k6 =>
 R5 v11 H7 k6) H6 k5 fun v11 H7 k6 =>
 gdK v5 true (fun R6 => faK 2 v11 fun v12 =>
 R6 v12 H7 k6) H7 k6 fun v12 H8 k7 =>
 gdK v5 true (fun R7 => ldK false 1 v12 H8 fun v13 =>
 R7 v13 H8 k7) H8 k7 fun v13 H9 k8 =>
 gdK v5 true (fun R8 => genK roundT rec (.lookup .s .p0 false (.l 4) (.l 0)) k8 (Env.put s17 v1 (Env.put s16 (Env.get s2 e) (Env.put s6 v0 e))) [v13, v12, v11, v10, v9, v8, v7, v6, v5, v4, v3, v2] H9 fun v14 H10 k9 =>
 R8 v14 H10 k9) H9 k8 fun v14 H10 k9 =>
 gdK v5 true (fun R9 => binK .eql .ptr v14 .p0 fun v15 =>
 R9 v15 H10 k9) H10 k9 fun v15 H11 k10 =>
 pkK v5 v15 (.b false) fun v16 =>
 condK v16 (genK roundT rec (.nilCheck (.s s0)) k10 (Env.put s35 v16 (Env.put s17 v1 (Env.put s16 (Env.get s2 e) (Env.put s6 v0 e)))) [] H11 fun v17 H12 k11 =>
 faK 0 v17 fun v18 =>
 faK 0 v18 fun v19 =>
 ldK false 1 v19 H12 fun v20 =>
 genK roundT rec (.nilCheck (.s s1)) k11 (Env.put s35 v16 (Env.put s17 v1 (Env.put s16 (Env.get s2 e) (Env.put s6 v0 e)))) [v20, v19, v18, v17] H12 fun v21 H13 k12 =>
 faK 1 v21 fun v22 =>
 ldK false 1 v22 H13 fun v23 =>
 iaK .none 13 v20 v23 fun v24 =>
 faK 3 v24 fun v25 =>
 ldK false 1 v25 H13 fun v26 =>
 iaK .none 1 v26 (.i .i64 0) fun v27 =>
 ldK false 1 v27 H13 fun v28 =>
 caK rec 182 [(Env.get s0 e), (.i .i64 3), v28] H13 fun v29 H14 =>
 stK 2 v29 v0 H14 fun H15 =>
 K1 .ret (Env.put s35 v16 (Env.put s17 v1 (Env.put s16 (Env.get s2 e) (Env.put s6 v0 e)))) H15 k12)
 (K1 .norm (Env.put s35 v16 (Env.put s17 v1 (Env.put s16 (Env.get s2 e) (Env.put s6 v0 e)))) H11 k10))
 (binK .eql .no (Env.get s2 e) (.i .i64 1) fun v2 =>
 condK v2 (seqK (fun K2 =>
 genK roundT rec (.nilCheck (.s s0)) (Ctl.mk [] .none) (Env.put s7 (Env.get s1 e) (Env.put s52 v2 (Env.put s17 v1 (Env.put s16 (Env.get s2 e) (Env.put s6 v0 e))))) [] H0 fun v30 H16 k13 =>
 faK 2 v30 fun v31 =>
 ldK false 1 v31 H16 fun v32 =>
 lnK .sl H16 v32 fun v33 =>
 blockK 1 (fun K3 =>
 loopK (fun k14 e0 H17 K4 =>
 binK .lss .no (Env.get s60 e0) (Env.get s59 e0) fun v34 =>
 seqK (fun K5 =>
 condK v34 (K5 .norm (Env.put s61 v34 e0) H17 k14)
 (K5 (.exit 1) (Env.put s61 v34 e0) H17 k14)) (fun k15 e1 H18 =>
 seqK (fun K6 =>
 blockK 2 (fun K7 =>
 seqK (fun K8 =>
 genK roundT rec (.nilCheck (.s s7)) k15 e1 [] H18 fun v35 H19 k16 =>
 faK 2 v35 fun v36 =>
 ldK false 1 v36 H19 fun v37 =>
 binK .eql .no v37 (.s []) fun v38 =>
 condK v38 (bdK [(.i .i64 0), (.i .i64 0)] [] fun v39 =>
 stK 2 v39 (Env.get s6 e1) H19 fun H20 =>
 K8 .ret (Env.put s66 v38 e1) H20 k16)
 (K8 .norm (Env.put s66 v38 e1) H19 k16)) (fun k17 e2 H21 =>
 genK roundT rec (.nilCheck (.s s0)) k17 e2 [] H21 fun v40 H22 k18 =>
 faK 3 v40 fun v41 =>
 ldK false 1 v41 H22 fun v42 =>
 genK roundT rec (.nilCheck (.s s7)) k18 e2 [v42, v41, v40] H22 fun v43 H23 k19 =>
 faK 2 v43 fun v44 =>
 ldK false 1 v44 H23 fun v45 =>
 genK roundT rec (.lookup .s .p0 false (.l 3) (.l 0)) k19 e2 [v45, v44, v43, v42, v41, v40] H23 fun v46 H24 k20 =>
 K7 .norm (Env.put s7 v46 e2) H24 k20) K7) K6) (fun k21 e3 H25 =>
 binK .add .no (Env.get s60 e3) (.i .i64 1) fun v47 =>
 K4 .norm (Env.put s60 v47 e3) H25 k21) K4) K4) rounds K3 k13 (Env.put s59 v33 (Env.put s60 (.i .i64 0) (Env.put s7 (Env.get s1 e) (Env.put s52 v2 (Env.put s17 v1 (Env.put s16 (Env.get s2 e) (Env.put s6 v0 e))))))) H16) K2) (fun k22 e4 H26 =>
 genK roundT rec (.nilCheck (.s s1)) k22 e4 [] H26 fun v30 H16 k13 =>
 faK 1 v30 fun v31 =>
 ldK false 1 v31 H16 fun v32 =>
 caK rec 182 [(Env.get s0 e4), (.i .i64 110), v32] H16 fun v33 H27 =>
 stK 2 v33 (Env.get s6 e4) H27 fun H28 =>
 K1 .ret e4 H28 k13) K1)
 (binK .eql .no (Env.get s2 e) (.i .i64 2) fun v17 =>
 condK v17 (genK roundT rec (.nilCheck (.s s1)) (Ctl.mk [] .none) (Env.put s84 v17 (Env.put s52 v2 (Env.put s17 v1 (Env.put s16 (Env.get s2 e) (Env.put s6 v0 e))))) [] H0 fun v30 H16 k13 =>
 faK 3 v30 fun v31 =>
 ldK false 1 v31 H16 fun v32 =>
 lnK .sl H16 v32 fun v33 =>
 blockK 3 (fun K3 =>
 loopK (fun k14 e0 H17 K4 =>
 binK .lss .no (Env.get s91 e0) (Env.get s90 e0) fun v34 =>
 seqK (fun K5 =>
 condK v34 (K5 .norm (Env.put s92 v34 e0) H17 k14)
 (K5 (.exit 3) (Env.put s92 v34 e0) H17 k14)) (fun k15 e1 H18 =>
 seqK (fun K6 =>
 blockK 4 (fun K7 =>
 iaK .none 8 (Env.get s89 e1) (Env.get s91 e1) fun v40 =>
 ldK true 8 v40 H18 fun v41 =>
 newK 163 [(.s []), (.s []), (.i .i64 0), (.i .i64 0), (.s []), (.i .i64 0), (.s []), .sl0] H18 fun v42 H29 =>
 stK 8 v41 v42 H29 fun H23 =>
 genK roundT rec (.nilCheck (.s s1)) k15 (Env.put s9 v42 e1) [] H23 fun v48 H30 k23 =>
 faK 2 v48 fun v49 =>
 ldK false 1 v49 H30 fun v50 =>
 faK 1 v42 fun v51 =>
 ldK false 1 v51 H30 fun v52 =>
 newK 163 [(.s []), (.s []), (.i .i64 0), (.i .i64 0), (.s []), (.i .i64 0), (.s []), .sl0] H30 fun v53 H31 =>
 caK rec 185 [(Env.get s0 e1), v50, v52] H31 fun v54 H32 =>
 exK 0 v54 fun v55 =>
 exK 1 v54 fun v56 =>
 stK 8 v55 v53 H32 fun H33 =>
 condK v56 (faK 2 v42 fun v57 =>
 ldK false 1 v57 H33 fun v58 =>
 caK rec 182 [(Env.get s0 e1), (.i .i64 4), v58] H33 fun v59 H34 =>
 stK 2 v59 (Env.get s6 e1) H34 fun H35 =>
 K7 .ret (Env.put s106 v56 (Env.put s11 v56 (Env.put s9 v42 e1))) H35 k23)
 (K7 .norm (Env.put s106 v56 (Env.put s11 v56 (Env.put s9 v42 e1))) H33 k23)) K6) (fun k21 e3 H25 =>
 binK .add .no (Env.get s91 e3) (.i .i64 1) fun v47 =>
 K4 .norm (Env.put s91 v47 e3) H25 k21) K4) K4) rounds K3 k13 (Env.put s89 v32 (Env.put s90 v33 (Env.put s91 (.i .i64 0) (Env.put s84 v17 (Env.put s52 v2 (Env.put s17 v1 (Env.put s16 (Env.get s2 e) (Env.put s6 v0 e)))))))) H16) K1)
 (binK .eql .no (Env.get s2 e) (.i .i64 3) fun v30 =>
 condK v30 (genK roundT rec (.nilCheck (.s s1)) (Ctl.mk [] .none) (Env.put s112 v30 (Env.put s84 v17 (Env.put s52 v2 (Env.put s17 v1 (Env.put s16 (Env.get s2 e) (Env.put s6 v0 e)))))) [] H0 fun v60 H36 k24 =>
 faK 4 v60 fun v61 =>
 ldK false 1 v61 H36 fun v62 =>
 lnK .sl H36 v62 fun v63 =>
 blockK 5 (fun K9 =>
 loopK (fun k15 e1 H18 K5 =>
 binK .lss .no (Env.get s119 e1) (Env.get s118 e1) fun v47 =>
 seqK (fun K8 =>
 condK v47 (K8 .norm (Env.put s120 v47 e1) H18 k15)
 (K8 (.exit 5) (Env.put s120 v47 e1) H18 k15)) (fun k17 e2 H21 =>
 seqK (fun K10 =>
 blockK 6 (fun K11 =>
 iaK .none 8 (Env.get s117 e2) (Env.get s119 e2) fun v64 =>
 ldK true 8 v64 H21 fun v65 =>
 newK 163 [(.s []), (.s []), (.i .i64 0), (.i .i64 0), (.s []), (.i .i64 0), (.s []), .sl0] H21 fun v66 H37 =>
 stK 8 v65 v66 H37 fun H38 =>
 genK roundT rec (.nilCheck (.s s1)) k17 (Env.put s13 v66 e2) [] H38 fun v67 H39 k25 =>
 faK 2 v67 fun v68 =>
 ldK false 1 v68 H39 fun v69 =>
 faK 1 v66 fun v70 =>
 ldK false 1 v70 H39 fun v71 =>
 newK 163 [(.s []), (.s []), (.i .i64 0), (.i .i64 0), (.s []), (.i .i64 0), (.s []), .sl0] H39 fun v72 H40 =>
 caK rec 88 [(Env.get s0 e2), v69, v71] H40 fun v73 H41 =>
 exK 0 v73 fun v74 =>
 exK 1 v73 fun v75 =>
 stK 8 v74 v72 H41 fun H42 =>
 gdK v75 true (fun R10 => ldK true 8 v66 H42 fun v57 =>
 R10 v57 H42 k25) H42 k25 fun v57 H43 k26 =>
 gdK v75 true (fun R11 => ldK true 8 v72 H43 fun v58 =>
 R11 v58 H43 k26) H43 k26 fun v58 H44 k27 =>
 gdK v75 true (fun R12 => caK rec 186 [v57, v58] H44 fun v59 H34 =>
 R12 v59 H34 k27) H44 k27 fun v59 H34 k28 =>
 gdK v75 true (fun R13 => unK .not v59 fun v76 =>
 R13 v76 H34 k28) H34 k28 fun v76 H35 k29 =>
 pkK v75 v76 (.b false) fun v77 =>
 condK v77 (faK 2 v66 fun v78 =>
 ldK false 1 v78 H35 fun v79 =>
 caK rec 182 [(Env.get s0 e2), (.i .i64 111), v79] H35 fun v80 H45 =>
 stK 2 v80 (Env.get s6 e2) H45 fun H46 =>
 K11 .ret (Env.put s140 v77 (Env.put s14 v72 (Env.put s15 v75 (Env.put s13 v66 e2)))) H46 k29)
 (K11 .norm (Env.put s140 v77 (Env.put s14 v72 (Env.put s15 v75 (Env.put s13 v66 e2)))) H35 k29)) K10) (fun k30 e5 H47 =>
 binK .add .no (Env.get s119 e5) (.i .i64 1) fun v35 =>
 K5 .norm (Env.put s119 v35 e5) H47 k30) K5) K5) rounds K9 k24 (Env.put s117 v62 (Env.put s118 v63 (Env.put s119 (.i .i64 0) (Env.put s112 v30 (Env.put s84 v17 (Env.put s52 v2 (Env.put s17 v1 (Env.put s16 (Env.get s2 e) (Env.put s6 v0 e))))))))) H36) K1)
 (K1 .norm (Env.put s112 v30 (Env.put s84 v17 (Env.put s52 v2 (Env.put s17 v1 (Env.put s16 (Env.get s2 e) (Env.put s6 v0 e)))))) H0 (Ctl.mk [] .none)))))) K0) (fun k31 e6 H48 =>
 bdK [(.i .i64 0), (.i .i64 0)] [] fun v81 =>
 stK 2 v81 (Env.get s6 e6) H48 fun H49 =>
 (endK recD [.cell true 2 s6]) .ret e6 H49 k31) (endK recD [.cell true 2 s6])
theorem Tryz.cOk117 : (compFn Tryz.prog Tryz.f117).map (bodyK 117) = some Tryz.c117 := by kernel_rfl
def Tryz.c123 : FnK := fun rec recD args H => startK 2 args fun e =>
 bxK 102 (Env.get s0 e) H fun v0 H0 =>
 newK 25 [(.i .i64 0), (.i .i64 0)] H0 fun v1 H1 =>
 seqK (fun K0 =>
 ldK true 2 v0 H1 fun v2 =>
 caK rec 115 [v2] H1 fun v3 H2 =>
 binK .neq .no v3 (.i .i64 0) fun v4 =>
 condK v4 (bdK [(.i .i64 0), (.i .i64 0)] [(0, 1, v3)] fun v5 =>
 stK 2 v5 v1 H2 fun H3 =>
 K0 .ret (Env.put s4 .p0 (Env.put s14 v4 (Env.put s6 v3 (Env.put s2 v0 (Env.put s4 .p0 (Env.put s5 v1 e)))))) H3 (Ctl.mk [] .none))
 (K0 .norm (Env.put s14 v4 (Env.put s6 v3 (Env.put s2 v0 (Env.put s4 .p0 (Env.put s5 v1 e))))) H2 (Ctl.mk [] .none))) (fun k0 e0 H4 =>
 seqK (fun K1 =>
 binK .lss .no (Env.get s1 e0) (.i .i64 0) fun v6 =>
 gdK v6 false (fun R0 => R0 (Env.get s1 e0) H4 k0) H4 k0 fun v7 H5 k1 =>
 gdK v6 false (fun R1 => faK 0 (Env.get s2 e0) fun v8 =>
 R1 v8 H5 k1) H5 k1 fun v8 H6 k2 =>
 gdK v6 false (fun R2 => ldK false 1 v8 H6 fun v9 =>
 R2 v9 H6 k2) H6 k2 fun v9 H7 k3 =>
 gdK v6 false (fun R3 => lnK .sl H7 v9 fun v10 =>
 R3 v10 H7 k3) H7 k3 fun v10 H8 k4 =>
 gdK v6 false (fun R4 => binK .geq .no v7 v10 fun v11 =>
 R4 v11 H8 k4) H8 k4 fun v11 H9 k5 =>
 pkK v6 (.b true) v11 fun v12 =>
 gdK v12 false (fun R5 => faK 0 (Env.get s2 e0) fun v13 =>
 R5 v13 H9 k5) H9 k5 fun v13 H10 k6 =>
 gdK v12 false (fun R6 => ldK false 1 v13 H10 fun v14 =>
 R6 v14 H10 k6) H10 k6 fun v14 H11 k7 =>
 gdK v12 false (fun R7 => R7 (Env.get s1 e0) H11 k7) H11 k7 fun v15 H12 k8 =>
 gdK v12 false (fun R8 => iaK .none 13 v14 v15 fun v16 =>
 R8 v16 H12 k8) H12 k8 fun v16 H13 k9 =>
 gdK v12 false (fun R9 => faK 0 v16 fun v17 =>
 R9 v17 H13 k9) H13 k9 fun v17 H14 k10 =>
 gdK v12 false (fun R10 => ldK false 1 v17 H14 fun v18 =>
 R10 v18 H14 k10) H14 k10 fun v18 H15 k11 =>
 gdK v12 false (fun R11 => binK .neq .no v18 (.i .i64 6) fun v19 =>
 R11 v19 H15 k11) H15 k11 fun v19 H16 k12 =>
 gdK v12 false (fun R12 => R12 v19 H16 k12) H16 k12 fun v20 H17 k13 =>
 gdK v20 true (fun R13 => faK 0 (Env.get s2 e0) fun v21 =>
 R13 v21 H17 k13) H17 k13 fun v21 H18 k14 =>
 gdK v20 true (fun R14 => ldK false 1 v21 H18 fun v22 =>
 R14 v22 H18 k14) H18 k14 fun v22 H19 k15 =>
 gdK v20 true (fun R15 => R15 (Env.get s1 e0) H19 k15) H19 k15 fun v23 H20 k16 =>
 gdK v20 true (fun R16 => iaK .none 13 v22 v23 fun v24 =>
 R16 v24 H20 k16) H20 k16 fun v24 H21 k17 =>
 gdK v20 true (fun R17 => faK 0 v24 fun v25 =>
 R17 v25 H21 k17) H21 k17 fun v25 H22 k18 =>
 gdK v20 true (fun R18 => ldK false 1 v25 H22 fun v26 =>
 R18 v26 H22 k18) H22 k18 fun v26 H23 k19 =>
 gdK v20 true (fun R19 => binK .neq .no v26 (.i .i64 5) fun v27 =>
 R19 v27 H23 k19) H23 k19 fun v27 H24 k20 =>
 gdK v12 false (fun R20 => pkK v20 v27 (.b false) fun v28 =>
 R20 v28 H24 k20) H24 k20 fun v28 H25 k21 =>
 pkK v12 (.b true) v28 fun v29 =>
 condK v29 (bdK [(.i .i64 0), (.i .i64 0)] [(0, 1, (.i .i64 132))] fun v30 =>
 stK 2 v30 (Env.get s5 e0) H25 fun H26 =>
 K1 .ret (Env.put s4 .p0 (Env.put s43 v29 e0)) H26 k21)
 (K1 .norm (Env.put s43 v29 e0) H25 k21)) (fun k22 e1 H27 =>
 ldK true 2 (Env.get s2 e1) H27 fun v6 =>
 genK roundT rec (.mkMap .none) k22 e1 [v6] H27 fun v7 H5 k1 =>
 bdK [.sl0, (.i .i64 0), .sl0, .m0, .sl0] [(0, 2, v6), (3, 1, v7)] fun v8 =>
 bxK 127 v8 H5 fun v9 H7 =>
 seqK (fun K2 =>
 faK 0 (Env.get s2 e1) fun v30 =>
 ldK false 1 v30 H7 fun v31 =>
 iaK .none 13 v31 (Env.get s1 e1) fun v32 =>
 faK 3 v32 fun v33 =>
 ldK false 1 v33 H7 fun v34 =>
 lnK .sl H7 v34 fun v35 =>
 blockK 0 (fun K3 =>
 loopK (fun k23 e2 H28 K4 =>
 binK .lss .no (Env.get s56 e2) (Env.get s55 e2) fun v36 =>
 seqK (fun K5 =>
 condK v36 (K5 .norm (Env.put s57 v36 e2) H28 k23)
 (K5 (.exit 0) (Env.put s57 v36 e2) H28 k23)) (fun k24 e3 H29 =>
 seqK (fun K6 =>
 blockK 1 (fun K7 =>
 iaK .none 1 (Env.get s54 e3) (Env.get s56 e3) fun v37 =>
 ldK false 1 v37 H29 fun v38 =>
 newK 25 [(.i .i64 0), (.i .i64 0)] H29 fun v39 H30 =>
 caK rec 189 [(Env.get s7 e3), v38] H30 fun v40 H31 =>
 stK 2 v40 v39 H31 fun H32 =>
 faK 0 v39 fun v41 =>
 ldK false 1 v41 H32 fun v42 =>
 binK .neq .no v42 (.i .i64 0) fun v43 =>
 condK v43 (ldK true 2 v39 H32 fun v44 =>
 stK 2 v44 (Env.get s5 e3) H32 fun H33 =>
 K7 .ret (Env.put s4 .p0 (Env.put s65 v43 (Env.put s10 v39 (Env.put s9 v38 e3)))) H33 k24)
 (K7 .norm (Env.put s65 v43 (Env.put s10 v39 (Env.put s9 v38 e3))) H32 k24)) K6) (fun k25 e4 H34 =>
 binK .add .no (Env.get s56 e4) (.i .i64 1) fun v45 =>
 K4 .norm (Env.put s56 v45 e4) H34 k25) K4) K4) rounds K3 k1 (Env.put s54 v34 (Env.put s55 v35 (Env.put s56 (.i .i64 0) (Env.put s7 v9 e1)))) H7) K2) (fun k26 e5 H35 =>
 genK roundT rec (.nilCheck (.s s7)) k26 e5 [] H35 fun v30 H36 k27 =>
 faK 4 v30 fun v31 =>
 stK 1 .sl0 v31 H36 fun H37 =>
 bdK [(.i .i64 0), (.i .i64 0)] [] fun v46 =>
 stK 2 v46 (Env.get s5 e5) H37 fun H38 =>
 (endK recD [.slot s4, .cell true 2 s5]) .ret (Env.put s4 (Env.get s7 e5) e5) H38 k27) (endK recD [.slot s4, .cell true 2 s5])) (endK recD [.slot s4, .cell true 2 s5])) (endK recD [.slot s4, .cell true 2 s5])
theorem Tryz.cOk123 : (compFn Tryz.prog Tryz.f123).map (bodyK 123) = some Tryz.c123 := by kernel_rfl
def Tryz.c125 : FnK := fun rec recD args H => startK 2 args fun e =>
 seqK (fun K0 =>
 genK roundT rec (.nilCheck (.s s0)) (Ctl.mk [] .none) (Env.put s4 (.i .i64 0) e) [] H fun v0 H0 k0 =>
 faK 3 v0 fun v1 =>
 ldK false 1 v1 H0 fun v2 =>
 genK roundT rec (.lookup .i (.i .i64 0) true (.l 0) (.s s1)) k0 (Env.put s4 (.i .i64 0) e) [v2, v1, v0] H0 fun v3 H1 k1 =>
 exK 0 v3 fun v4 =>
 exK 1 v3 fun v5 =>
 condK v5 (K0 .ret (Env.put s4 v4 (Env.put s16 v5 (Env.put s5 v4 (Env.put s6 v5 (Env.put s4 (.i .i64 0) e))))) H1 k1)
 (K0 .norm (Env.put s16 v5 (Env.put s5 v4 (Env.put s6 v5 (Env.put s4 (.i .i64 0) e)))) H1 k1)) (fun k2 e0 H2 =>
 (endK recD [.slot s4]) .ret (Env.put s4 (.i .i64 (-1)) e0) H2 k2) (endK recD [.slot s4])
theorem Tryz.cOk125 : (compFn Tryz.prog Tryz.f125).map (bodyK 125) = some Tryz.c125 := by kernel_rfl
def Tryz.c132 : FnK := fun rec recD args H => startK 3 args fun e =>
 bxK 76 (Env.get s1 e) H fun v0 H0 =>
 bxK 177 (Env.get s2 e) H0 fun v1 H1 =>
 newK 177 [(.i .u64 0), (.b false)] H1 fun v2 H2 =>
 seqK (fun K0 =>
 faK 3 v0 fun v3 =>
 ldK false 1 v3 H2 fun v4 =>
 lnK .sl H2 v4 fun v5 =>
 blockK 0 (fun K1 =>
 loopK (fun k0 e0 H3 K2 =>
 binK .lss .no (Env.get s13 e0) (Env.get s12 e0) fun v6 =>
 seqK (fun K3 =>
 condK v6 (K3 .norm (Env.put s14 v6 e0) H3 k0)
 (K3 (.exit 0) (Env.put s14 v6 e0) H3 k0)) (fun k1 e1 H4 =>
 seqK (fun K4 =>
 blockK 1 (fun K5 =>
 iaK .none 1 (Env.get s11 e1) (Env.get s13 e1) fun v7 =>
 ldK false 1 v7 H4 fun v8 =>
 ldK true 2 (Env.get s5 e1) H4 fun v9 =>
 caK rec 129 [(Env.get s0 e1), v8, v9] H4 fun v10 H5 =>
 K5 .norm (Env.put s8 v8 e1) H5 k1) K4) (fun k2 e2 H6 =>
 binK .add .no (Env.get s13 e2) (.i .i64 1) fun v11 =>
 K2 .norm (Env.put s13 v11 e2) H6 k2) K2) K2) rounds K1 (Ctl.mk [] .none) (Env.put s11 v4 (Env.put s12 v5 (Env.put s13 (.i .i64 0) (Env.put s4 v0 (Env.put s5 v1 (Env.put s6 v2 e)))))) H2) K0) (fun k3 e3 H7 =>
 seqK (fun K6 =>
 faK 0 (Env.get s4 e3) fun v12 =>
 ldK false 1 v12 H7 fun v13 =>
 blockK 2 (fun K2 =>
 binK .eql .no v13 (.i .i64 13) fun v6 =>
 condK v6 (genK roundT rec (.nilCheck (.s s0)) k3 (Env.put s24 v6 (Env.put s23 v13 e3)) [] H7 fun v11 H8 k4 =>
 faK 3 v11 fun v14 =>
 ldK false 1 v14 H8 fun v15 =>
 lnK .sl H8 v15 fun v16 =>
 binK .sub .no v16 (.i .i64 1) fun v17 =>
 genK roundT rec (.nilCheck (.s s0)) k4 (Env.put s9 v17 (Env.put s24 v6 (Env.put s23 v13 e3))) [] H8 fun v7 H9 k5 =>
 faK 3 v7 fun v8 =>
 ldK false 1 v8 H9 fun v18 =>
 genK roundT rec (.nilCheck (.s s0)) k5 (Env.put s9 v17 (Env.put s24 v6 (Env.put s23 v13 e3))) [v18, v8, v7] H9 fun v19 H10 k6 =>
 faK 3 v19 fun v20 =>
 ldK false 1 v20 H10 fun v21 =>
 iaK .none 2 v21 v17 fun v22 =>
 ldK true 2 v22 H10 fun v23 =>
 ldK true 2 (Env.get s5 e3) H10 fun v24 =>
 caK rec 131 [v23, v24] H10 fun v25 H11 =>
 boolK (and (again ⟨.load false 1 (.l 0), .none, []⟩ v18 (Env.put s9 v17 (Env.put s24 v6 (Env.put s23 v13 e3))) [v8, v7] H11) true) (iaK .none 2 v18 v17 fun v26 =>
 stK 2 v25 v26 H11 fun H12 =>
 bdK [(.i .u64 0), (.b false)] [(1, 1, (.b true))] fun v27 =>
 stK 2 v27 (Env.get s6 e3) H12 fun H13 =>
 K2 .ret (Env.put s9 v17 (Env.put s24 v6 (Env.put s23 v13 e3))) H13 k6))
 (seqK (fun K4 =>
 binK .eql .no v13 (.i .i64 14) fun v28 =>
 condK v28 (K4 .norm (Env.put s48 v28 (Env.put s24 v6 (Env.put s23 v13 e3))) H7 k3)
 (binK .eql .no v13 (.i .i64 15) fun v9 =>
 K4 .norm (Env.put s48 v9 (Env.put s48 v28 (Env.put s24 v6 (Env.put s23 v13 e3)))) H7 k3)) (fun k2 e2 H6 =>
 condK (Env.get s48 e2) (bdK [(.i .u64 0), (.b false)] [(1, 1, (.b true))] fun v7 =>
 stK 2 v7 (Env.get s6 e2) H6 fun H14 =>
 K2 .ret e2 H14 k2)
 (K2 .norm e2 H6 k2)) K2)) K6) (fun k7 e4 H15 =>
 ldK true 2 (Env.get s5 e4) H15 fun v12 =>
 stK 2 v12 (Env.get s6 e4) H15 fun H16 =>
 (endK recD [.cell true 2 s6]) .ret e4 H16 k7) (endK recD [.cell true 2 s6])) (endK recD [.cell true 2 s6])
theorem Tryz.cOk132 : (compFn Tryz.prog Tryz.f132).map (bodyK 132) = some Tryz.c132 := by kernel_rfl
def Tryz.c148 : FnK := fun rec recD args H => startK 1 args fun e =>
 genK roundT rec (.nilCheck (.s s0)) (Ctl.mk [] .none) (Env.put s2 (.i .i64 0) e) [] H fun v0 H0 k0 =>
 faK 2 v0 fun v1 =>
 ldK false 1 v1 H0 fun v2 =>
 (endK recD [.slot s2]) .ret (Env.put s2 v2 (Env.put s2 (.i .i64 0) e)) H0 k0
theorem Tryz.cOk148 : (compFn Tryz.prog Tryz.f148).map (bodyK 148) = some Tryz.c148 := by kernel_rfl
def Tryz.c154 : FnK := fun rec recD args H => startK 2 args fun e =>
 bxK 202 (Env.get s0 e) H fun v0 H0 =>
 newK 202 [(.i .i64 0), (.s []), (.i .i64 0), (.s []), .sl0] H0 fun v1 H1 =>
 faK 0 v0 fun v2 =>
 ldK true 4 v2 H1 fun v3 =>
 newK 74 [(.i .i64 0), (.s []), (.i .i64 0), (.s [])] H1 fun v4 H2 =>
 caK rec 224 [v3, (Env.get s1 e)] H2 fun v5 H3 =>
 exK 0 v5 fun v6 =>
 exK 1 v5 fun v7 =>
 stK 4 v6 v4 H3 fun H4 =>
 seqK (fun K0 =>
 binK .neq .no v7 (.i .i64 0) fun v8 =>
 condK v8 (ldK true 5 v0 H4 fun v9 =>
 stK 5 v9 v1 H4 fun H5 =>
 K0 .ret (Env.put s16 v8 (Env.put s5 v4 (Env.put s6 v7 (Env.put s2 v0 (Env.put s4 v1 e))))) H5 (Ctl.mk [] .none))
 (K0 .norm (Env.put s16 v8 (Env.put s5 v4 (Env.put s6 v7 (Env.put s2 v0 (Env.put s4 v1 e))))) H4 (Ctl.mk [] .none))) (fun k0 e0 H6 =>
 ldK true 4 (Env.get s5 e0) H6 fun v8 =>
 faK 4 (Env.get s2 e0) fun v10 =>
 ldK false 1 v10 H6 fun v11 =>
 newK 202 [(.i .i64 0), (.s []), (.i .i64 0), (.s []), .sl0] H6 fun v12 H7 =>
 caK rec 225 [v11] H7 fun v13 H8 =>
 boolK (and (again ⟨.load true 4 (.s s5), .none, []⟩ v8 e0 [] H8) true) (bdK [(.i .i64 0), (.s []), (.i .i64 0), (.s []), .sl0] [(0, 4, v8), (4, 1, v13)] fun v14 =>
 stK 5 v14 v12 H8 fun H9 =>
 faK 4 v12 fun v15 =>
 ldK false 1 v15 H9 fun v16 =>
 faK 4 v12 fun v17 =>
 ldK false 1 v17 H9 fun v18 =>
 lnK .sl H9 v18 fun v19 =>
 binK .sub .no v19 (.i .i64 1) fun v20 =>
 caK rec 86 [] H9 fun v21 H10 =>
 boolK (and (again ⟨.len .sl (.l 0), .none, []⟩ v19 (Env.put s7 v12 e0) [v18, v17, v16, v15] H10) (and (again ⟨.load false 1 (.l 0), .none, []⟩ v18 (Env.put s7 v12 e0) [v17, v16, v15] H10) (and (again ⟨.load false 1 (.l 0), .none, []⟩ v16 (Env.put s7 v12 e0) [v15] H10) true))) (iaK .none 2 v16 v20 fun v22 =>
 stK 2 v21 v22 H10 fun H11 =>
 ldK true 5 v12 H11 fun v23 =>
 stK 5 v23 (Env.get s4 e0) H11 fun H12 =>
 (endK recD [.cell true 5 s4]) .ret (Env.put s7 v12 e0) H12 k0))) (endK recD [.cell true 5 s4])
theorem Tryz.cOk154 : (compFn Tryz.prog Tryz.f154).map (bodyK 154) = some Tryz.c154 := by kernel_rfl
def Tryz.c155 : FnK := fun rec recD args H => startK 1 args fun e =>
 bxK 74 (Env.get s0 e) H fun v0 H0 =>
 newK 202 [(.i .i64 0), (.s []), (.i .i64 0), (.s []), .sl0] H0 fun v1 H1 =>
 ldK true 4 v0 H1 fun v2 =>
 bdK [(.i .i64 0), (.s []), (.i .i64 0), (.s []), .sl0] [(0, 4, v2)] fun v3 =>
 newK 202 [(.i .i64 0), (.s []), (.i .i64 0), (.s []), .sl0] H1 fun v4 H2 =>
 stK 5 v3 v4 H2 fun H3 =>
 seqK (fun K0 =>
 faK 2 v0 fun v5 =>
 ldK false 1 v5 H3 fun v6 =>
 binK .add .no v6 (.i .i64 1) fun v7 =>
 blockK 0 (fun K1 =>
 loopK (fun k0 e0 H4 K2 =>
 binK .lss .no (Env.get s9 e0) (Env.get s8 e0) fun v8 =>
 seqK (fun K3 =>
 condK v8 (K3 .norm (Env.put s10 v8 e0) H4 k0)
 (K3 (.exit 0) (Env.put s10 v8 e0) H4 k0)) (fun k1 e1 H5 =>
 seqK (fun K4 =>
 blockK 1 (fun K5 =>
 faK 4 (Env.get s3 e1) fun v9 =>
 ldK false 1 v9 H5 fun v10 =>
 caK rec 86 [] H5 fun v11 H6 =>
 boolK (and (again ⟨.load false 1 (.l 0), .none, []⟩ v10 e1 [v9] H6) true) (genK roundT rec (.buildSlice 47 1 2 [(.i .i64 0), (.i .i64 0)] [(0, (.l 0))]) k1 e1 [v11, v10, v9] H6 fun v12 H7 k2 =>
 apK 47 2 [(.i .i64 0), (.i .i64 0)] H7 v10 v12 fun v13 H8 =>
 faK 4 (Env.get s3 e1) fun v14 =>
 stK 1 v13 v14 H8 fun H9 =>
 K5 .norm e1 H9 k2)) K4) (fun k3 e2 H10 =>
 binK .add .no (Env.get s9 e2) (.i .i64 1) fun v15 =>
 K2 .norm (Env.put s9 v15 e2) H10 k3) K2) K2) rounds K1 (Ctl.mk [] .none) (Env.put s8 v7 (Env.put s9 (.i .i64 0) (Env.put s3 v4 (Env.put s1 v0 (Env.put s2 v1 e))))) H3) K0) (fun k4 e3 H11 =>
 ldK true 5 (Env.get s3 e3) H11 fun v5 =>
 stK 5 v5 (Env.get s2 e3) H11 fun H12 =>
 (endK recD [.cell true 5 s2]) .ret e3 H12 k4) (endK recD [.cell true 5 s2])
theorem Tryz.cOk155 : (compFn Tryz.prog Tryz.f155).map (bodyK 155) = some Tryz.c155 := by kernel_rfl
def Tryz.c165 : FnK := fun rec recD args H => startK 1 args fun e =>
 seqK (fun K0 =>
 lnK .sl H (Env.get s0 e) fun v0 =>
 blockK 0 (fun K1 =>
 loopK (fun k0 e0 H0 K2 =>
 binK .lss .no (Env.get s7 e0) (Env.get s6 e0) fun v1 =>
 seqK (fun K3 =>
 condK v1 (K3 .norm (Env.put s8 v1 e0) H0 k0)
 (K3 (.exit 0) (Env.put s8 v1 e0) H0 k0)) (fun k1 e1 H1 =>
 seqK (fun K4 =>
 blockK 1 (fun K5 =>
 iaK .none 2 (Env.get s5 e1) (Env.get s7 e1) fun v2 =>
 ldK true 2 v2 H1 fun v3 =>
 newK 43 [(.i .i64 0), (.i .i64 0)] H1 fun v4 H2 =>
 stK 2 v3 v4 H2 fun H3 =>
 ldK true 2 v4 H3 fun v5 =>
 caK rec 105 [v5, (.i .i64 65536)] H3 fun v6 H4 =>
 binK .neq .no v6 (.i .i64 0) fun v7 =>
 condK v7 (K5 .ret (Env.put s2 (.b false) (Env.put s13 v7 (Env.put s4 v4 e1))) H4 k1)
 (K5 .norm (Env.put s13 v7 (Env.put s4 v4 e1)) H4 k1)) K4) (fun k2 e2 H5 =>
 binK .add .no (Env.get s7 e2) (.i .i64 1) fun v8 =>
 K2 .norm (Env.put s7 v8 e2) H5 k2) K2) K2) rounds K1 (Ctl.mk [] .none) (Env.put s5 (Env.get s0 e) (Env.put s6 v0 (Env.put s7 (.i .i64 0) (Env.put s2 (.b false) e)))) H) K0) (fun k3 e3 H6 =>
 (endK recD [.slot s2]) .ret (Env.put s2 (.b true) e3) H6 k3) (endK recD [.slot s2])
theorem Tryz.cOk165 : (compFn Tryz.prog Tryz.f165).map (bodyK 165) = some Tryz.c165 := by kernel_rfl
def Tryz.c171 : FnK := fun rec recD args H => startK 1 args fun e =>
 binK .geq .no (Env.get s0 e) (.i .u8 48) fun v0 =>
 gdK v0 true (fun R0 => R0 (Env.get s0 e) H (Ctl.mk [] .none)) H (Ctl.mk [] .none) fun v1 H0 k0 =>
 gdK v0 true (fun R1 => binK .leq .no v1 (.i .u8 57) fun v2 =>
 R1 v2 H0 k0) H0 k0 fun v2 H1 k1 =>
 pkK v0 v2 (.b false) fun v3 =>
 (endK recD [.slot s2]) .ret (Env.put s2 v3 (Env.put s2 (.b false) e)) H1 k1
theorem Tryz.cOk171 : (compFn Tryz.prog Tryz.f171).map (bodyK 171) = some Tryz.c171 := by kernel_rfl
def Tryz.c176 : FnK := fun rec recD args H => startK 1 args fun e =>
 newK 234 [(.i .i64 0), (.i .i64 0), (.i .i64 0)] H fun v0 H0 =>
 caK rec 111 [(Env.get s0 e)] H0 fun v1 H1 =>
 exK 0 v1 fun v2 =>
 exK 1 v1 fun v3 =>
 stK 3 v2 v0 H1 fun H2 =>
 seqK (fun K0 =>
 faK 0 v0 fun v4 =>
 ldK false 1 v4 H2 fun v5 =>
 binK .neq .no v5 (.i .i64 1) fun v6 =>
 gdK v6 false (fun R0 => R0 v3 H2 (Ctl.mk [] .none)) H2 (Ctl.mk [] .none) fun v7 H3 k0 =>
 gdK v6 false (fun R1 => caK rec 232 [v7] H3 fun v8 H4 =>
 R1 v8 H4 k0) H3 k0 fun v8 H4 k1 =>
 gdK v6 false (fun R2 => unK .not v8 fun v9 =>
 R2 v9 H4 k1) H4 k1 fun v9 H5 k2 =>
 pkK v6 (.b true) v9 fun v10 =>
 condK v10 (faK 1 v0 fun v11 =>
 faK 0 v11 fun v12 =>
 ldK false 1 v12 H5 fun v13 =>
 caK rec 174 [(.i .i64 80), v13] H5 fun v14 H6 =>
 K0 .norm (Env.put s17 v10 (Env.put s3 v0 (Env.put s4 v3 (Env.put s2 (.s []) e)))) H6 k2)
 (K0 .norm (Env.put s17 v10 (Env.put s3 v0 (Env.put s4 v3 (Env.put s2 (.s []) e)))) H5 k2)) (fun k3 e0 H7 =>
 caK rec 231 [(Env.get s0 e0)] H7 fun v4 H8 =>
 (endK recD [.slot s2]) .ret (Env.put s2 (Env.get s4 e0) e0) H8 k3) (endK recD [.slot s2])
theorem Tryz.cOk176 : (compFn Tryz.prog Tryz.f176).map (bodyK 176) = some Tryz.c176 := by kernel_rfl
def Tryz.c181 : FnK := fun rec recD args H => startK 1 args fun e =>
 newK 305 [(.s []), (.i .i64 0), (.i .i64 0), (.b false), (.b false)] H fun v0 H0 =>
 seqK (fun K0 =>
 binK .lss .no (Env.get s0 e) (.i .i64 0) fun v1 =>
 gdK v1 false (fun R0 => R0 (Env.get s0 e) H0 (Ctl.mk [] .none)) H0 (Ctl.mk [] .none) fun v2 H1 k0 =>
 gdK v1 false (fun R1 => binK .geq .no v2 (.i .i64 46) fun v3 =>
 R1 v3 H1 k0) H1 k0 fun v3 H2 k1 =>
 pkK v1 (.b true) v3 fun v4 =>
 condK v4 (bdK [(.s []), (.i .i64 0), (.i .i64 0), (.b false), (.b false)] [] fun v5 =>
 stK 5 v5 v0 H2 fun H3 =>
 K0 .ret (Env.put s8 v4 (Env.put s2 v0 e)) H3 k1)
 (K0 .norm (Env.put s8 v4 (Env.put s2 v0 e)) H2 k1)) (fun k2 e0 H4 =>
 caK rec 236 [] H4 fun v1 H5 =>
 ixK (.some (46, true, 5)) v1 (Env.get s0 e0) fun v2 =>
 stK 5 v2 (Env.get s2 e0) H5 fun H2 =>
 (endK recD [.cell true 5 s2]) .ret e0 H2 k2) (endK recD [.cell true 5 s2])
theorem Tryz.cOk181 : (compFn Tryz.prog Tryz.f181).map (bodyK 181) = some Tryz.c181 := by kernel_rfl
def Tryz.c212 : FnK := fun rec recD args H => startK 1 args fun e =>
 seqK (fun K0 =>
 binK .geq .no (Env.get s0 e) (.i .u64 4294967296) fun v0 =>
 condK v0 (binK .shr .no (Env.get s0 e) (.i .u64 32) fun v1 =>
 K0 .norm (Env.put s2 (.i .i64 32) (Env.put s0 v1 (Env.put s4 v0 (Env.put s2 (.i .i64 0) e)))) H (Ctl.mk [] .none))
 (K0 .norm (Env.put s4 v0 (Env.put s2 (.i .i64 0) e)) H (Ctl.mk [] .none))) (fun k0 e0 H0 =>
 seqK (fun K1 =>
 binK .geq .no (Env.get s0 e0) (.i .u64 65536) fun v2 =>
 condK v2 (binK .shr .no (Env.get s0 e0) (.i .u64 16) fun v3 =>
 binK .add .no (Env.get s2 e0) (.i .i64 16) fun v4 =>
 K1 .norm (Env.put s2 v4 (Env.put s0 v3 (Env.put s8 v2 e0))) H0 k0)
 (K1 .norm (Env.put s8 v2 e0) H0 k0)) (fun k1 e1 H1 =>
 seqK (fun K2 =>
 binK .geq .no (Env.get s0 e1) (.i .u64 256) fun v5 =>
 condK v5 (binK .shr .no (Env.get s0 e1) (.i .u64 8) fun v4 =>
 binK .add .no (Env.get s2 e1) (.i .i64 8) fun v6 =>
 K2 .norm (Env.put s2 v6 (Env.put s0 v4 (Env.put s14 v5 e1))) H1 k1)
 (K2 .norm (Env.put s14 v5 e1) H1 k1)) (fun k2 e2 H2 =>
 genK roundT rec (.convInt .u8 (.s s0)) k2 e2 [] H2 fun v5 H3 k3 =>
 ixK .none (.s [0, 1, 2, 2, 3, 3, 3, 3, 4, 4, 4, 4, 4, 4, 4, 4, 5, 5, 5, 5, 5, 5, 5, 5, 5, 5, 5, 5, 5, 5, 5, 5, 6, 6, 6, 6, 6, 6, 6, 6, 6, 6, 6, 6, 6, 6, 6, 6, 6, 6, 6, 6, 6, 6, 6, 6, 6, 6, 6, 6, 6, 6, 6, 6, 7, 7, 7, 7, 7, 7, 7, 7, 7, 7, 7, 7, 7, 7, 7, 7, 7, 7, 7, 7, 7, 7, 7, 7, 7, 7, 7, 7, 7, 7, 7, 7, 7, 7, 7, 7, 7, 7, 7, 7, 7, 7, 7, 7, 7, 7, 7, 7, 7, 7, 7, 7, 7, 7, 7, 7, 7, 7, 7, 7, 7, 7, 7, 7, 8, 8, 8, 8, 8, 8, 8, 8, 8, 8, 8, 8, 8, 8, 8, 8, 8, 8, 8, 8, 8, 8, 8, 8, 8, 8, 8, 8, 8, 8, 8, 8, 8, 8, 8, 8, 8, 8, 8, 8, 8, 8, 8, 8, 8, 8, 8, 8, 8, 8, 8, 8, 8, 8, 8, 8, 8, 8, 8, 8, 8, 8, 8, 8, 8, 8, 8, 8, 8, 8, 8, 8, 8, 8, 8, 8, 8, 8, 8, 8, 8, 8, 8, 8, 8, 8, 8, 8, 8, 8, 8, 8, 8, 8, 8, 8, 8, 8, 8, 8, 8, 8, 8, 8, 8, 8, 8, 8, 8, 8, 8, 8, 8, 8, 8, 8, 8, 8, 8, 8, 8, 8, 8, 8, 8, 8, 8, 8]) v5 fun v7 =>
 genK roundT rec (.convInt .i64 (.l 0)) k3 e2 [v7, v5] H3 fun v8 H4 k4 =>
 binK .add .no (Env.get s2 e2) v8 fun v9 =>
 (endK recD [.slot s2]) .ret (Env.put s2 v9 e2) H4 k4) (endK recD [.slot s2])) (endK recD [.slot s2])) (endK recD [.slot s2])
theorem Tryz.cOk212 : (compFn Tryz.prog Tryz.f212).map (bodyK 212) = some Tryz.c212 := by kernel_rfl
def Tryz.c215 : FnK := fun rec recD args H => startK 3 args fun e =>
 genK roundT rec (.nilCheck (.s s0)) (Ctl.mk [] .none) (Env.put s6 (.i .i64 0) e) [] H fun v0 H0 k0 =>
 faK 0 v0 fun v1 =>
 ldK false 1 v1 H0 fun v2 =>
 newK 76 [(.i .i64 0), (.i .i64 0), (.i .i64 0), .sl0, (.s []), (.i .i64 0), (.s []), (.i .i64 0), (.s []), (.i .i64 0), (.i .i64 0), (.i .i64 0), .sl0] H0 fun v3 H1 =>
 caK rec 23 [v2, (Env.get s1 e)] H1 fun v4 H2 =>
 stK 13 v4 v3 H2 fun H3 =>
 seqK (fun K0 =>
 faK 0 v3 fun v5 =>
 ldK false 1 v5 H3 fun v6 =>
 blockK 0 (fun K1 =>
 binK .eql .no v6 (.i .i64 25) fun v7 =>
 condK v7 (genK roundT rec (.nilCheck (.s s0)) k0 (Env.put s17 v7 (Env.put s16 v6 (Env.put s7 v3 (Env.put s6 (.i .i64 0) e)))) [] H3 fun v8 H4 k1 =>
 faK 0 v8 fun v9 =>
 ldK false 1 v9 H4 fun v10 =>
 caK rec 29 [v10, (Env.get s1 e)] H4 fun v11 H5 =>
 caK rec 214 [(Env.get s0 e), (.i .i64 2), v11, (Env.get s1 e), (Env.get s2 e)] H5 fun v12 H6 =>
 K1 .ret (Env.put s6 v12 (Env.put s17 v7 (Env.put s16 v6 (Env.put s7 v3 (Env.put s6 (.i .i64 0) e))))) H6 k1)
 (binK .eql .no v6 (.i .i64 34) fun v8 =>
 condK v8 (faK 4 v3 fun v13 =>
 ldK false 1 v13 H3 fun v14 =>
 binK .eql .no v14 (.s [38, 38]) fun v15 =>
 gdK v15 false (fun R0 => faK 4 v3 fun v16 =>
 R0 v16 H3 k0) H3 k0 fun v16 H7 k2 =>
 gdK v15 false (fun R1 => ldK false 1 v16 H7 fun v17 =>
 R1 v17 H7 k2) H7 k2 fun v17 H8 k3 =>
 gdK v15 false (fun R2 => binK .eql .no v17 (.s [124, 124]) fun v18 =>
 R2 v18 H8 k3) H8 k3 fun v18 H9 k4 =>
 pkK v15 (.b true) v18 fun v19 =>
 condK v19 (caK rec 214 [(Env.get s0 e), (.i .i64 1), (.i .i64 (-1)), (Env.get s1 e), (Env.get s2 e)] H9 fun v20 H10 =>
 caK rec 217 [(Env.get s0 e), (Env.get s1 e), v20, v20] H10 fun v21 H11 =>
 K1 .ret (Env.put s6 v21 (Env.put s2 v20 (Env.put s38 v19 (Env.put s29 v8 (Env.put s17 v7 (Env.put s16 v6 (Env.put s7 v3 (Env.put s6 (.i .i64 0) e)))))))) H11 k4)
 (K1 .norm (Env.put s38 v19 (Env.put s29 v8 (Env.put s17 v7 (Env.put s16 v6 (Env.put s7 v3 (Env.put s6 (.i .i64 0) e)))))) H9 k4))
 (binK .eql .no v6 (.i .i64 40) fun v13 =>
 condK v13 (faK 3 v3 fun v20 =>
 ldK false 1 v20 H3 fun v22 =>
 iaK .none 1 v22 (.i .i64 0) fun v23 =>
 ldK false 1 v23 H3 fun v24 =>
 caK rec 251 [(Env.get s0 e), v24] H3 fun v25 H12 =>
 binK .geq .no v25 (.i .i64 0) fun v21 =>
 condK v21 (faK 3 v3 fun v26 =>
 ldK false 1 v26 H12 fun v27 =>
 iaK .none 1 v27 (.i .i64 0) fun v28 =>
 ldK false 1 v28 H12 fun v29 =>
 caK rec 214 [(Env.get s0 e), (.i .i64 7), v25, v29, (Env.get s2 e)] H12 fun v30 H13 =>
 K1 .norm (Env.put s2 v30 (Env.put s57 v21 (Env.put s8 v25 (Env.put s48 v13 (Env.put s29 v8 (Env.put s17 v7 (Env.put s16 v6 (Env.put s7 v3 (Env.put s6 (.i .i64 0) e))))))))) H13 k0)
 (K1 .norm (Env.put s57 v21 (Env.put s8 v25 (Env.put s48 v13 (Env.put s29 v8 (Env.put s17 v7 (Env.put s16 v6 (Env.put s7 v3 (Env.put s6 (.i .i64 0) e)))))))) H12 k0))
 (seqK (fun K2 =>
 binK .eql .no v6 (.i .i64 26) fun v31 =>
 condK v31 (K2 .norm (Env.put s66 v31 (Env.put s48 v13 (Env.put s29 v8 (Env.put s17 v7 (Env.put s16 v6 (Env.put s7 v3 (Env.put s6 (.i .i64 0) e))))))) H3 k0)
 (binK .eql .no v6 (.i .i64 27) fun v26 =>
 condK v26 (K2 .norm (Env.put s66 v26 (Env.put s66 v31 (Env.put s48 v13 (Env.put s29 v8 (Env.put s17 v7 (Env.put s16 v6 (Env.put s7 v3 (Env.put s6 (.i .i64 0) e)))))))) H3 k0)
 (binK .eql .no v6 (.i .i64 28) fun v32 =>
 condK v32 (K2 .norm (Env.put s66 v32 (Env.put s66 v26 (Env.put s66 v31 (Env.put s48 v13 (Env.put s29 v8 (Env.put s17 v7 (Env.put s16 v6 (Env.put s7 v3 (Env.put s6 (.i .i64 0) e))))))))) H3 k0)
 (binK .eql .no v6 (.i .i64 29) fun v33 =>
 K2 .norm (Env.put s66 v33 (Env.put s66 v32 (Env.put s66 v26 (Env.put s66 v31 (Env.put s48 v13 (Env.put s29 v8 (Env.put s17 v7 (Env.put s16 v6 (Env.put s7 v3 (Env.put s6 (.i .i64 0) e)))))))))) H3 k0)))) (fun k5 e0 H14 =>
 condK (Env.get s66 e0) (faK 3 (Env.get s7 e0) fun v21 =>
 ldK false 1 v21 H14 fun v34 =>
 iaK .none 1 v34 (.i .i64 0) fun v35 =>
 ldK false 1 v35 H14 fun v36 =>
 faK 3 (Env.get s7 e0) fun v37 =>
 ldK false 1 v37 H14 fun v38 =>
 slK (.some 1) v38 (.some (.i .i64 1)) .none .none fun v39 =>
 caK rec 218 [(Env.get s0 e0), v39, (Env.get s2 e0)] H14 fun v40 H15 =>
 boolK (and (again ⟨.load false 1 (.l 0), .none, []⟩ v36 e0 [v35, v34, v21] H15) (and (again ⟨.load false 1 (.l 0), .none, []⟩ v34 e0 [v21] H15) true)) (caK rec 252 [(Env.get s0 e0), v36, v40] H15 fun v41 H16 =>
 K1 .ret (Env.put s6 v41 e0) H16 k5))
 (K1 .norm e0 H14 k5)) K1)))) K0) (fun k6 e1 H17 =>
 faK 3 (Env.get s7 e1) fun v5 =>
 ldK false 1 v5 H17 fun v6 =>
 caK rec 218 [(Env.get s0 e1), v6, (Env.get s2 e1)] H17 fun v42 H18 =>
 (endK recD [.slot s6]) .ret (Env.put s6 v42 e1) H18 k6) (endK recD [.slot s6])
theorem Tryz.cOk215 : (compFn Tryz.prog Tryz.f215).map (bodyK 215) = some Tryz.c215 := by kernel_rfl
def Tryz.c217 : FnK := fun rec recD args H => startK 4 args fun e =>
 genK roundT rec (.nilCheck (.s s0)) (Ctl.mk [] .none) (Env.put s8 (.i .i64 0) e) [] H fun v0 H0 k0 =>
 faK 0 v0 fun v1 =>
 ldK false 1 v1 H0 fun v2 =>
 newK 76 [(.i .i64 0), (.i .i64 0), (.i .i64 0), .sl0, (.s []), (.i .i64 0), (.s []), (.i .i64 0), (.s []), (.i .i64 0), (.i .i64 0), (.i .i64 0), .sl0] H0 fun v3 H1 =>
 caK rec 23 [v2, (Env.get s1 e)] H1 fun v4 H2 =>
 stK 13 v4 v3 H2 fun H3 =>
 seqK (fun K0 =>
 faK 0 v3 fun v5 =>
 ldK false 1 v5 H3 fun v6 =>
 blockK 0 (fun K1 =>
 binK .eql .no v6 (.i .i64 33) fun v7 =>
 condK v7 (faK 3 v3 fun v8 =>
 ldK false 1 v8 H3 fun v9 =>
 iaK .none 1 v9 (.i .i64 0) fun v10 =>
 ldK false 1 v10 H3 fun v11 =>
 caK rec 217 [(Env.get s0 e), v11, (Env.get s3 e), (Env.get s2 e)] H3 fun v12 H4 =>
 K1 .ret (Env.put s8 v12 (Env.put s19 v7 (Env.put s18 v6 (Env.put s9 v3 (Env.put s8 (.i .i64 0) e))))) H4 k0)
 (binK .eql .no v6 (.i .i64 43) fun v8 =>
 condK v8 (faK 3 v3 fun v13 =>
 ldK false 1 v13 H3 fun v14 =>
 iaK .none 1 v14 (.i .i64 0) fun v15 =>
 ldK false 1 v15 H3 fun v16 =>
 caK rec 253 [(Env.get s0 e), v16, (Env.get s2 e), (Env.get s3 e)] H3 fun v17 H5 =>
 K1 .ret (Env.put s8 v17 (Env.put s29 v8 (Env.put s19 v7 (Env.put s18 v6 (Env.put s9 v3 (Env.put s8 (.i .i64 0) e)))))) H5 k0)
 (binK .eql .no v6 (.i .i64 44) fun v13 =>
 condK v13 (faK 3 v3 fun v18 =>
 ldK false 1 v18 H3 fun v19 =>
 iaK .none 1 v19 (.i .i64 0) fun v20 =>
 ldK false 1 v20 H3 fun v21 =>
 caK rec 253 [(Env.get s0 e), v21, (Env.get s3 e), (Env.get s2 e)] H3 fun v22 H6 =>
 K1 .ret (Env.put s8 v22 (Env.put s39 v13 (Env.put s29 v8 (Env.put s19 v7 (Env.put s18 v6 (Env.put s9 v3 (Env.put s8 (.i .i64 0) e))))))) H6 k0)
 (binK .eql .no v6 (.i .i64 34) fun v18 =>
 condK v18 (faK 4 v3 fun v23 =>
 ldK false 1 v23 H3 fun v24 =>
 blockK 1 (fun K2 =>
 binK .eql .no v24 (.s [38, 38]) fun v25 =>
 condK v25 (faK 3 v3 fun v26 =>
 ldK false 1 v26 H3 fun v27 =>
 iaK .none 1 v27 (.i .i64 0) fun v28 =>
 ldK false 1 v28 H3 fun v29 =>
 faK 3 v3 fun v30 =>
 ldK false 1 v30 H3 fun v31 =>
 iaK .none 1 v31 (.i .i64 1) fun v32 =>
 ldK false 1 v32 H3 fun v33 =>
 caK rec 217 [(Env.get s0 e), v33, (Env.get s2 e), (Env.get s3 e)] H3 fun v34 H7 =>
 boolK (and (again ⟨.load false 1 (.l 0), .none, []⟩ v29 (Env.put s53 v25 (Env.put s52 v24 (Env.put s49 v18 (Env.put s39 v13 (Env.put s29 v8 (Env.put s19 v7 (Env.put s18 v6 (Env.put s9 v3 (Env.put s8 (.i .i64 0) e))))))))) [v28, v27, v26] H7) (and (again ⟨.load false 1 (.l 0), .none, []⟩ v27 (Env.put s53 v25 (Env.put s52 v24 (Env.put s49 v18 (Env.put s39 v13 (Env.put s29 v8 (Env.put s19 v7 (Env.put s18 v6 (Env.put s9 v3 (Env.put s8 (.i .i64 0) e))))))))) [v26] H7) true)) (caK rec 217 [(Env.get s0 e), v29, v34, (Env.get s3 e)] H7 fun v35 H8 =>
 K2 .ret (Env.put s8 v35 (Env.put s53 v25 (Env.put s52 v24 (Env.put s49 v18 (Env.put s39 v13 (Env.put s29 v8 (Env.put s19 v7 (Env.put s18 v6 (Env.put s9 v3 (Env.put s8 (.i .i64 0) e)))))))))) H8 k0))
 (binK .eql .no v24 (.s [124, 124]) fun v26 =>
 condK v26 (faK 3 v3 fun v36 =>
 ldK false 1 v36 H3 fun v37 =>
 iaK .none 1 v37 (.i .i64 0) fun v38 =>
 ldK false 1 v38 H3 fun v39 =>
 faK 3 v3 fun v40 =>
 ldK false 1 v40 H3 fun v41 =>
 iaK .none 1 v41 (.i .i64 1) fun v42 =>
 ldK false 1 v42 H3 fun v43 =>
 caK rec 217 [(Env.get s0 e), v43, (Env.get s2 e), (Env.get s3 e)] H3 fun v44 H9 =>
 boolK (and (again ⟨.load false 1 (.l 0), .none, []⟩ v39 (Env.put s70 v26 (Env.put s53 v25 (Env.put s52 v24 (Env.put s49 v18 (Env.put s39 v13 (Env.put s29 v8 (Env.put s19 v7 (Env.put s18 v6 (Env.put s9 v3 (Env.put s8 (.i .i64 0) e)))))))))) [v38, v37, v36] H9) (and (again ⟨.load false 1 (.l 0), .none, []⟩ v37 (Env.put s70 v26 (Env.put s53 v25 (Env.put s52 v24 (Env.put s49 v18 (Env.put s39 v13 (Env.put s29 v8 (Env.put s19 v7 (Env.put s18 v6 (Env.put s9 v3 (Env.put s8 (.i .i64 0) e)))))))))) [v36] H9) true)) (caK rec 217 [(Env.get s0 e), v39, (Env.get s2 e), v44] H9 fun v45 H10 =>
 K2 .ret (Env.put s8 v45 (Env.put s70 v26 (Env.put s53 v25 (Env.put s52 v24 (Env.put s49 v18 (Env.put s39 v13 (Env.put s29 v8 (Env.put s19 v7 (Env.put s18 v6 (Env.put s9 v3 (Env.put s8 (.i .i64 0) e))))))))))) H10 k0))
 (seqK (fun K3 =>
 binK .eql .no v24 (.s [61, 61]) fun v46 =>
 condK v46 (K3 .norm (Env.put s87 v46 (Env.put s70 v26 (Env.put s53 v25 (Env.put s52 v24 (Env.put s49 v18 (Env.put s39 v13 (Env.put s29 v8 (Env.put s19 v7 (Env.put s18 v6 (Env.put s9 v3 (Env.put s8 (.i .i64 0) e))))))))))) H3 k0)
 (binK .eql .no v24 (.s [33, 61]) fun v47 =>
 K3 .norm (Env.put s87 v47 (Env.put s87 v46 (Env.put s70 v26 (Env.put s53 v25 (Env.put s52 v24 (Env.put s49 v18 (Env.put s39 v13 (Env.put s29 v8 (Env.put s19 v7 (Env.put s18 v6 (Env.put s9 v3 (Env.put s8 (.i .i64 0) e)))))))))))) H3 k0)) (fun k1 e0 H11 =>
 condK (Env.get s87 e0) (genK roundT rec (.nilCheck (.s s0)) k1 e0 [] H11 fun v48 H12 k2 =>
 faK 0 v48 fun v49 =>
 ldK false 1 v49 H12 fun v50 =>
 caK rec 25 [v50, (Env.get s1 e0)] H12 fun v51 H13 =>
 binK .geq .no v51 (.i .i64 0) fun v52 =>
 condK v52 (seqK (fun K4 =>
 faK 4 (Env.get s9 e0) fun v53 =>
 ldK false 1 v53 H13 fun v54 =>
 binK .eql .no v54 (.s [61, 61]) fun v55 =>
 condK v55 (K4 .norm (Env.put s2 (Env.get s3 e0) (Env.put s3 (Env.get s2 e0) (Env.put s100 v55 (Env.put s97 v52 (Env.put s10 v51 e0))))) H13 k2)
 (K4 .norm (Env.put s100 v55 (Env.put s97 v52 (Env.put s10 v51 e0))) H13 k2)) (fun k3 e1 H14 =>
 caK rec 253 [(Env.get s0 e1), (Env.get s10 e1), (Env.get s2 e1), (Env.get s3 e1)] H14 fun v53 H15 =>
 K2 .ret (Env.put s8 v53 e1) H15 k3) K2)
 (K2 .norm (Env.put s97 v52 (Env.put s10 v51 e0)) H13 k2))
 (K2 .norm e0 H11 k1)) K2))) K1)
 (K1 .norm (Env.put s49 v18 (Env.put s39 v13 (Env.put s29 v8 (Env.put s19 v7 (Env.put s18 v6 (Env.put s9 v3 (Env.put s8 (.i .i64 0) e))))))) H3 k0))))) K0) (fun k4 e2 H16 =>
 bdK [(.i .i64 0), (.i .i64 0), (.i .i64 0), (.i .i64 0), (.i .i64 0)] [(0, 1, (.i .i64 5)), (1, 1, (.i .i64 (-1))), (2, 1, (Env.get s1 e2)), (3, 1, (Env.get s2 e2)), (4, 1, (Env.get s3 e2))] fun v5 =>
 caK rec 144 [(Env.get s0 e2), v5] H16 fun v6 H17 =>
 caK rec 215 [(Env.get s0 e2), (Env.get s1 e2), v6] H17 fun v56 H18 =>
 (endK recD [.slot s8]) .ret (Env.put s8 v56 e2) H18 k4) (endK recD [.slot s8])
theorem Tryz.cOk217 : (compFn Tryz.prog Tryz.f217).map (bodyK 217) = some Tryz.c217 := by kernel_rfl
def Tryz.c220 : FnK := fun rec recD args H => startK 1 args fun e =>
 lnK .sl H (Env.get s0 e) fun v0 =>
 binK .sub .no v0 (.i .i64 1) fun v1 =>
 blockK 0 (fun K0 =>
 loopK (fun k0 e0 H0 K1 =>
 seqK (fun K2 =>
 binK .lss .no (Env.get s2 e0) (Env.get s3 e0) fun v2 =>
 condK v2 (K2 .norm (Env.put s9 v2 e0) H0 k0)
 (K2 (.exit 0) (Env.put s9 v2 e0) H0 k0)) (fun k1 e1 H1 =>
 seqK (fun K3 =>
 blockK 1 (fun K4 =>
 iaK .none 1 (Env.get s0 e1) (Env.get s3 e1) fun v3 =>
 ldK false 1 v3 H1 fun v4 =>
 iaK .none 1 (Env.get s0 e1) (Env.get s2 e1) fun v5 =>
 ldK false 1 v5 H1 fun v6 =>
 iaK .none 1 (Env.get s0 e1) (Env.get s2 e1) fun v7 =>
 stK 1 v4 v7 H1 fun H2 =>
 iaK .none 1 (Env.get s0 e1) (Env.get s3 e1) fun v8 =>
 stK 1 v6 v8 H2 fun H3 =>
 K4 .norm e1 H3 k1) K3) (fun k2 e2 H4 =>
 binK .add .no (Env.get s2 e2) (.i .i64 1) fun v2 =>
 binK .sub .no (Env.get s3 e2) (.i .i64 1) fun v9 =>
 K1 .norm (Env.put s2 v2 (Env.put s3 v9 e2)) H4 k2) K1) K1) rounds K0 (Ctl.mk [] .none) (Env.put s2 (.i .i64 0) (Env.put s3 v1 e)) H) (endK recD [])
theorem Tryz.cOk220 : (compFn Tryz.prog Tryz.f220).map (bodyK 220) = some Tryz.c220 := by kernel_rfl
def Tryz.c221 : FnK := fun rec recD args H => startK 2 args fun e =>
 newK 282 [(.i .i64 0), (.i .i64 0), (.i .i64 0), (.i .i64 0), (.i .i64 0)] H fun v0 H0 =>
 genK roundT rec (.nilCheck (.s s0)) (Ctl.mk [] .none) (Env.put s4 v0 e) [] H0 fun v1 H1 k0 =>
 faK 1 v1 fun v2 =>
 ldK false 1 v2 H1 fun v3 =>
 iaK .none 5 v3 (Env.get s1 e) fun v4 =>
 ldK true 5 v4 H1 fun v5 =>
 stK 5 v5 v0 H1 fun H2 =>
 (endK recD [.cell true 5 s4]) .ret (Env.put s4 v0 e) H2 k0
theorem Tryz.cOk221 : (compFn Tryz.prog Tryz.f221).map (bodyK 221) = some Tryz.c221 := by kernel_rfl
def Tryz.c223 : FnK := fun rec recD args H => startK 3 args fun e =>
 bxK 282 (Env.get s1 e) H fun v0 H0 =>
 seqK (fun K0 =>
 faK 2 v0 fun v1 =>
 ldK false 1 v1 H0 fun v2 =>
 binK .lss .no v2 (.i .i64 0) fun v3 =>
 condK v3 (K0 .ret (Env.put s6 (.b false) (Env.put s11 v3 (Env.put s4 v0 (Env.put s6 (.b false) e)))) H0 (Ctl.mk [] .none))
 (K0 .norm (Env.put s11 v3 (Env.put s4 v0 (Env.put s6 (.b false) e))) H0 (Ctl.mk [] .none))) (fun k0 e0 H1 =>
 genK roundT rec (.nilCheck (.s s0)) k0 e0 [] H1 fun v1 H2 k1 =>
 faK 0 v1 fun v2 =>
 ldK false 1 v2 H2 fun v3 =>
 genK roundT rec (.nilCheck (.l 0)) k1 e0 [v3, v2, v1] H2 fun v4 H3 k2 =>
 faK 0 v4 fun v5 =>
 ldK false 1 v5 H3 fun v6 =>
 faK 2 (Env.get s4 e0) fun v7 =>
 ldK false 1 v7 H3 fun v8 =>
 caK rec 255 [v6, v8] H3 fun v9 H4 =>
 exK 0 v9 fun v10 =>
 exK 1 v9 fun v11 =>
 binK .eql .no v10 (.i .i64 1) fun v12 =>
 gdK v12 false (fun R0 => R0 v10 H4 k2) H4 k2 fun v13 H5 k3 =>
 gdK v12 false (fun R1 => binK .eql .no v13 (.i .i64 3) fun v14 =>
 R1 v14 H5 k3) H5 k3 fun v14 H6 k4 =>
 gdK v12 false (fun R2 => R2 v14 H6 k4) H6 k4 fun v15 H7 k5 =>
 gdK v15 true (fun R3 => R3 (Env.get s2 e0) H7 k5) H7 k5 fun v16 H8 k6 =>
 gdK v15 true (fun R4 => R4 (Env.get s0 e0) H8 k6) H8 k6 fun v17 H9 k7 =>
 gdK v15 true (fun R5 => genK roundT rec (.nilCheck (.l 0)) k7 (Env.put s7 v10 (Env.put s8 v11 e0)) [v17, v16, v15, v14, v13, v12] H9 fun v18 H10 k8 =>
 R5 v18 H10 k8) H9 k7 fun v18 H10 k8 =>
 gdK v15 true (fun R6 => faK 0 v18 fun v19 =>
 R6 v19 H10 k8) H10 k8 fun v19 H11 k9 =>
 gdK v15 true (fun R7 => ldK false 1 v19 H11 fun v20 =>
 R7 v20 H11 k9) H11 k9 fun v20 H12 k10 =>
 gdK v15 true (fun R8 => genK roundT rec (.nilCheck (.l 0)) k10 (Env.put s7 v10 (Env.put s8 v11 e0)) [v20, v19, v18, v17, v16, v15, v14, v13, v12] H12 fun v21 H13 k11 =>
 R8 v21 H13 k11) H12 k10 fun v21 H13 k11 =>
 gdK v15 true (fun R9 => faK 2 v21 fun v22 =>
 R9 v22 H13 k11) H13 k11 fun v22 H14 k12 =>
 gdK v15 true (fun R10 => ldK false 1 v22 H14 fun v23 =>
 R10 v23 H14 k12) H14 k12 fun v23 H15 k13 =>
 gdK v15 true (fun R11 => binK .or .no v16 v23 fun v24 =>
 R11 v24 H15 k13) H15 k13 fun v24 H16 k14 =>
 gdK v15 true (fun R12 => R12 v11 H16 k14) H16 k14 fun v25 H17 k15 =>
 gdK v15 true (fun R13 => caK rec 222 [v25] H17 fun v26 H18 =>
 boolK (and (again ⟨.load false 1 (.l 0), (.some ((.l 7), true)), []⟩ v23 (Env.put s7 v10 (Env.put s8 v11 e0)) [v22, v21, v20, v19, v18, v17, v16, v15, v14, v13, v12] H18) (and (again ⟨.load false 1 (.l 0), (.some ((.l 4), true)), []⟩ v20 (Env.put s7 v10 (Env.put s8 v11 e0)) [v19, v18, v17, v16, v15, v14, v13, v12] H18) true)) (R13 v26 H18 k15)) H17 k15 fun v26 H18 k16 =>
 gdK v15 true (fun R14 => binK .and .no v24 v26 fun v27 =>
 R14 v27 H18 k16) H18 k16 fun v27 H19 k17 =>
 gdK v15 true (fun R15 => binK .neq .no v27 (.i .u64 0) fun v28 =>
 R15 v28 H19 k17) H19 k17 fun v28 H20 k18 =>
 gdK v12 false (fun R16 => pkK v15 v28 (.b false) fun v29 =>
 R16 v29 H20 k18) H20 k18 fun v29 H21 k19 =>
 pkK v12 (.b true) v29 fun v30 =>
 (endK recD [.slot s6]) .ret (Env.put s6 v30 (Env.put s7 v10 (Env.put s8 v11 e0))) H21 k19) (endK recD [.slot s6])
theorem Tryz.cOk223 : (compFn Tryz.prog Tryz.f223).map (bodyK 223) = some Tryz.c223 := by kernel_rfl
def Tryz.c229 : FnK := fun rec recD args H => startK 2 args fun e =>
 lnK .s H (Env.get s0 e) fun v0 =>
 lnK .s H (Env.get s1 e) fun v1 =>
 binK .geq .no v0 v1 fun v2 =>
 gdK v2 true (fun R0 => R0 (Env.get s0 e) H (Ctl.mk [] .none)) H (Ctl.mk [] .none) fun v3 H0 k0 =>
 gdK v2 true (fun R1 => R1 (Env.get s1 e) H0 k0) H0 k0 fun v4 H1 k1 =>
 gdK v2 true (fun R2 => lnK .s H1 v4 fun v5 =>
 R2 v5 H1 k1) H1 k1 fun v5 H2 k2 =>
 gdK v2 true (fun R3 => slK .none v3 .none (.some v5) .none fun v6 =>
 R3 v6 H2 k2) H2 k2 fun v6 H3 k3 =>
 gdK v2 true (fun R4 => R4 (Env.get s1 e) H3 k3) H3 k3 fun v7 H4 k4 =>
 gdK v2 true (fun R5 => binK .eql .no v6 v7 fun v8 =>
 R5 v8 H4 k4) H4 k4 fun v8 H5 k5 =>
 pkK v2 v8 (.b false) fun v9 =>
 (endK recD [.slot s4]) .ret (Env.put s4 v9 (Env.put s4 (.b false) e)) H5 k5
theorem Tryz.cOk229 : (compFn Tryz.prog Tryz.f229).map (bodyK 229) = some Tryz.c229 := by kernel_rfl
def Tryz.c230 : FnK := fun rec recD args H => startK 2 args fun e =>
 caK rec 61 [(Env.get s0 e), (Env.get s1 e)] H fun v0 H0 =>
 (endK recD [.slot s4]) .ret (Env.put s4 v0 (Env.put s4 (.i .i64 0) e)) H0 (Ctl.mk [] .none)
theorem Tryz.cOk230 : (compFn Tryz.prog Tryz.f230).map (bodyK 230) = some Tryz.c230 := by kernel_rfl
def Tryz.c237 : FnK := fun rec recD args H => startK 2 args fun e =>
 bxK 74 (Env.get s0 e) H fun v0 H0 =>
 bxK 74 (Env.get s1 e) H0 fun v1 H1 =>
 ldK true 4 v0 H1 fun v2 =>
 caK rec 52 [v2] H1 fun v3 H2 =>
 gdK v3 true (fun R0 => ldK true 4 v1 H2 fun v4 =>
 R0 v4 H2 (Ctl.mk [] .none)) H2 (Ctl.mk [] .none) fun v4 H3 k0 =>
 gdK v3 true (fun R1 => caK rec 52 [v4] H3 fun v5 H4 =>
 R1 v5 H4 k0) H3 k0 fun v5 H4 k1 =>
 pkK v3 v5 (.b false) fun v6 =>
 gdK v6 true (fun R2 => ldK true 4 v0 H4 fun v7 =>
 R2 v7 H4 k1) H4 k1 fun v7 H5 k2 =>
 gdK v6 true (fun R3 => ldK true 4 v1 H5 fun v8 =>
 R3 v8 H5 k2) H5 k2 fun v8 H6 k3 =>
 gdK v6 true (fun R4 => caK rec 261 [v7] H6 fun v9 H7 =>
 boolK (and (again ⟨.load true 4 (.s s3), (.some ((.l 1), true)), []⟩ v8 (Env.put s2 v0 (Env.put s3 v1 (Env.put s4 (.b false) e))) [v7, v6, v5, v4, v3, v2] H7) true) (R4 v9 H7 k3)) H6 k3 fun v9 H7 k4 =>
 gdK v6 true (fun R5 => caK rec 261 [v8] H7 fun v10 H8 =>
 R5 v10 H8 k4) H7 k4 fun v10 H8 k5 =>
 gdK v6 true (fun R6 => binK .eql (.flat [(0, .i), (1, .s), (2, .i), (3, .s)]) v9 v10 fun v11 =>
 R6 v11 H8 k5) H8 k5 fun v11 H9 k6 =>
 pkK v6 v11 (.b false) fun v12 =>
 (endK recD [.slot s4]) .ret (Env.put s4 v12 (Env.put s2 v0 (Env.put s3 v1 (Env.put s4 (.b false) e)))) H9 k6
theorem Tryz.cOk237 : (compFn Tryz.prog Tryz.f237).map (bodyK 237) = some Tryz.c237 := by kernel_rfl
def Tryz.c240 : FnK := fun rec recD args H => startK 3 args fun e =>
 bxK 74 (Env.get s1 e) H fun v0 H0 =>
 bxK 74 (Env.get s2 e) H0 fun v1 H1 =>
 seqK (fun K0 =>
 blockK 0 (fun K1 =>
 ldK true 4 v0 H1 fun v2 =>
 caK rec 100 [] H1 fun v3 H2 =>
 boolK (and (again ⟨.load true 4 (.s s4), .none, []⟩ v2 (Env.put s4 v0 (Env.put s5 v1 (Env.put s6 (.b false) e))) [] H2) true) (binK .eql (.flat [(0, .i), (1, .s), (2, .i), (3, .s)]) v2 v3 fun v4 =>
 gdK v4 false (fun R0 => ldK true 4 v0 H2 fun v5 =>
 R0 v5 H2 (Ctl.mk [] .none)) H2 (Ctl.mk [] .none) fun v5 H3 k0 =>
 gdK v4 false (fun R1 => caK rec 101 [] H3 fun v6 H4 =>
 boolK (and (again ⟨.load true 4 (.s s4), (.some ((.l 0), false)), []⟩ v5 (Env.put s4 v0 (Env.put s5 v1 (Env.put s6 (.b false) e))) [v4, v3, v2] H4) true) (R1 v6 H4 k0)) H3 k0 fun v6 H4 k1 =>
 gdK v4 false (fun R2 => binK .eql (.flat [(0, .i), (1, .s), (2, .i), (3, .s)]) v5 v6 fun v7 =>
 R2 v7 H4 k1) H4 k1 fun v7 H5 k2 =>
 pkK v4 (.b true) v7 fun v8 =>
 condK v8 (ldK true 4 v1 H5 fun v9 =>
 caK rec 30 [v9] H5 fun v10 H6 =>
 gdK v10 true (fun R3 => ldK true 4 v1 H6 fun v11 =>
 R3 v11 H6 k2) H6 k2 fun v11 H7 k3 =>
 gdK v10 true (fun R4 => caK rec 100 [] H7 fun v12 H8 =>
 boolK (and (again ⟨.load true 4 (.s s5), (.some ((.l 0), true)), []⟩ v11 (Env.put s7 v8 (Env.put s4 v0 (Env.put s5 v1 (Env.put s6 (.b false) e)))) [v10, v9] H8) true) (R4 v12 H8 k3)) H7 k3 fun v12 H8 k4 =>
 gdK v10 true (fun R5 => binK .neq (.flat [(0, .i), (1, .s), (2, .i), (3, .s)]) v11 v12 fun v13 =>
 R5 v13 H8 k4) H8 k4 fun v13 H9 k5 =>
 pkK v10 v13 (.b false) fun v14 =>
 gdK v14 true (fun R6 => ldK true 4 v1 H9 fun v15 =>
 R6 v15 H9 k5) H9 k5 fun v15 H10 k6 =>
 gdK v14 true (fun R7 => caK rec 101 [] H10 fun v16 H11 =>
 boolK (and (again ⟨.load true 4 (.s s5), (.some ((.l 0), true)), []⟩ v15 (Env.put s7 v8 (Env.put s4 v0 (Env.put s5 v1 (Env.put s6 (.b false) e)))) [v14, v13, v12, v11, v10, v9] H11) true) (R7 v16 H11 k6)) H10 k6 fun v16 H11 k7 =>
 gdK v14 true (fun R8 => binK .neq (.flat [(0, .i), (1, .s), (2, .i), (3, .s)]) v15 v16 fun v17 =>
 R8 v17 H11 k7) H11 k7 fun v17 H12 k8 =>
 pkK v14 v17 (.b false) fun v18 =>
 K1 .ret (Env.put s6 v18 (Env.put s7 v8 (Env.put s4 v0 (Env.put s5 v1 (Env.put s6 (.b false) e))))) H12 k8)
 (ldK true 4 v0 H5 fun v9 =>
 caK rec 52 [v9] H5 fun v10 H6 =>
 unK .not v10 fun v11 =>
 gdK v11 false (fun R4 => ldK true 4 v1 H6 fun v12 =>
 R4 v12 H6 k2) H6 k2 fun v12 H8 k4 =>
 gdK v11 false (fun R5 => caK rec 52 [v12] H8 fun v13 H9 =>
 R5 v13 H9 k4) H8 k4 fun v13 H9 k5 =>
 gdK v11 false (fun R9 => unK .not v13 fun v14 =>
 R9 v14 H9 k5) H9 k5 fun v14 H13 k9 =>
 pkK v11 (.b true) v14 fun v15 =>
 gdK v15 false (fun R7 => faK 0 v0 fun v16 =>
 R7 v16 H13 k9) H13 k9 fun v16 H11 k7 =>
 gdK v15 false (fun R8 => ldK false 1 v16 H11 fun v17 =>
 R8 v17 H11 k7) H11 k7 fun v17 H12 k8 =>
 gdK v15 false (fun R10 => binK .eql .no v17 (.i .i64 6) fun v18 =>
 R10 v18 H12 k8) H12 k8 fun v18 H14 k10 =>
 pkK v15 (.b true) v18 fun v19 =>
 condK v19 (K1 .ret (Env.put s6 (.b false) (Env.put s28 v19 (Env.put s7 v8 (Env.put s4 v0 (Env.put s5 v1 (Env.put s6 (.b false) e)))))) H14 k10)
 (K1 .norm (Env.put s28 v19 (Env.put s7 v8 (Env.put s4 v0 (Env.put s5 v1 (Env.put s6 (.b false) e))))) H14 k10)))) K0) (fun k11 e0 H15 =>
 ldK true 4 (Env.get s4 e0) H15 fun v20 =>
 ldK true 4 (Env.get s5 e0) H15 fun v21 =>
 caK rec 237 [v20, v21] H15 fun v22 H16 =>
 gdK v22 false (fun R11 => faK 2 (Env.get s4 e0) fun v23 =>
 R11 v23 H16 k11) H16 k11 fun v23 H17 k12 =>
 gdK v22 false (fun R12 => ldK false 1 v23 H17 fun v24 =>
 R12 v24 H17 k12) H17 k12 fun v24 H18 k13 =>
 gdK v22 false (fun R13 => binK .eql .no v24 (.i .i64 0) fun v25 =>
 R13 v25 H18 k13) H18 k13 fun v25 H19 k14 =>
 gdK v22 false (fun R14 => R14 v25 H19 k14) H19 k14 fun v26 H20 k15 =>
 gdK v26 true (fun R15 => faK 2 (Env.get s5 e0) fun v27 =>
 R15 v27 H20 k15) H20 k15 fun v27 H21 k16 =>
 gdK v26 true (fun R16 => ldK false 1 v27 H21 fun v28 =>
 R16 v28 H21 k16) H21 k16 fun v28 H22 k17 =>
 gdK v26 true (fun R17 => binK .eql .no v28 (.i .i64 0) fun v29 =>
 R17 v29 H22 k17) H22 k17 fun v29 H23 k18 =>
 gdK v22 false (fun R18 => pkK v26 v29 (.b false) fun v30 =>
 R18 v30 H23 k18) H23 k18 fun v30 H24 k19 =>
 gdK v22 false (fun R19 => R19 v30 H24 k19) H24 k19 fun v31 H25 k20 =>
 gdK v31 true (fun R20 => faK 0 (Env.get s4 e0) fun v32 =>
 R20 v32 H25 k20) H25 k20 fun v32 H26 k21 =>
 gdK v31 true (fun R21 => ldK false 1 v32 H26 fun v33 =>
 R21 v33 H26 k21) H26 k21 fun v33 H27 k22 =>
 gdK v31 true (fun R22 => binK .eql .no v33 (.i .i64 5) fun v34 =>
 R22 v34 H27 k22) H27 k22 fun v34 H28 k23 =>
 gdK v22 false (fun R23 => pkK v31 v34 (.b false) fun v35 =>
 R23 v35 H28 k23) H28 k23 fun v35 H29 k24 =>
 gdK v22 false (fun R24 => R24 v35 H29 k24) H29 k24 fun v36 H30 k25 =>
 gdK v36 true (fun R25 => faK 0 (Env.get s5 e0) fun v37 =>
 R25 v37 H30 k25) H30 k25 fun v37 H31 k26 =>
 gdK v36 true (fun R26 => ldK false 1 v37 H31 fun v38 =>
 R26 v38 H31 k26) H31 k26 fun v38 H32 k27 =>
 gdK v36 true (fun R27 => binK .eql .no v38 (.i .i64 5) fun v39 =>
 R27 v39 H32 k27) H32 k27 fun v39 H33 k28 =>
 gdK v22 false (fun R28 => pkK v36 v39 (.b false) fun v40 =>
 R28 v40 H33 k28) H33 k28 fun v40 H34 k29 =>
 gdK v22 false (fun R29 => R29 v40 H34 k29) H34 k29 fun v41 H35 k30 =>
 gdK v41 true (fun R30 => R30 (Env.get s0 e0) H35 k30) H35 k30 fun v42 H36 k31 =>
 gdK v41 true (fun R31 => faK 1 (Env.get s4 e0) fun v43 =>
 R31 v43 H36 k31) H36 k31 fun v43 H37 k32 =>
 gdK v41 true (fun R32 => ldK false 1 v43 H37 fun v44 =>
 R32 v44 H37 k32) H37 k32 fun v44 H38 k33 =>
 gdK v41 true (fun R33 => faK 1 (Env.get s5 e0) fun v45 =>
 R33 v45 H38 k33) H38 k33 fun v45 H39 k34 =>
 gdK v41 true (fun R34 => ldK false 1 v45 H39 fun v46 =>
 R34 v46 H39 k34) H39 k34 fun v46 H40 k35 =>
 gdK v41 true (fun R35 => caK rec 263 [v42, v44, v46] H40 fun v47 H41 =>
 R35 v47 H41 k35) H40 k35 fun v47 H41 k36 =>
 gdK v22 false (fun R36 => pkK v41 v47 (.b false) fun v48 =>
 R36 v48 H41 k36) H41 k36 fun v48 H42 k37 =>
 pkK v22 (.b true) v48 fun v49 =>
 (endK recD [.slot s6]) .ret (Env.put s6 v49 e0) H42 k37) (endK recD [.slot s6])
theorem Tryz.cOk240 : (compFn Tryz.prog Tryz.f240).map (bodyK 240) = some Tryz.c240 := by kernel_rfl
def Tryz.c253 : FnK := fun rec recD args H => startK 4 args fun e =>
 genK roundT rec (.nilCheck (.s s0)) (Ctl.mk [] .none) (Env.put s8 (.i .i64 0) e) [] H fun v0 H0 k0 =>
 faK 0 v0 fun v1 =>
 ldK false 1 v1 H0 fun v2 =>
 caK rec 29 [v2, (Env.get s1 e)] H0 fun v3 H1 =>
 bdK [(.i .i64 0), (.i .i64 0), (.i .i64 0), (.i .i64 0), (.i .i64 0)] [(0, 1, (.i .i64 4)), (1, 1, v3), (2, 1, (Env.get s1 e)), (3, 1, (Env.get s2 e)), (4, 1, (Env.get s3 e))] fun v4 =>
 caK rec 144 [(Env.get s0 e), v4] H1 fun v5 H2 =>
 caK rec 215 [(Env.get s0 e), (Env.get s1 e), v5] H2 fun v6 H3 =>
 (endK recD [.slot s8]) .ret (Env.put s8 v6 (Env.put s8 (.i .i64 0) e)) H3 k0
theorem Tryz.cOk253 : (compFn Tryz.prog Tryz.f253).map (bodyK 253) = some Tryz.c253 := by kernel_rfl
def Tryz.c258 : FnK := fun rec recD args H => startK 1 args fun e =>
 genK roundT rec (.nilCheck (.s s0)) (Ctl.mk [] .none) e [] H fun v0 H0 k0 =>
 faK 3 v0 fun v1 =>
 ldK false 1 v1 H0 fun v2 =>
 binK .add .no v2 (.i .i64 1) fun v3 =>
 genK roundT rec (.nilCheck (.s s0)) k0 e [v3, v2, v1, v0] H0 fun v4 H1 k1 =>
 faK 3 v4 fun v5 =>
 stK 1 v3 v5 H1 fun H2 =>
 genK roundT rec (.nilCheck (.s s0)) k1 e [] H2 fun v6 H3 k2 =>
 faK 3 v6 fun v7 =>
 ldK false 1 v7 H3 fun v8 =>
 binK .gtr .no v8 (.i .i64 60) fun v9 =>
 condK v9 (newK 234 [(.i .i64 0), (.i .i64 0), (.i .i64 0)] H3 fun v10 H4 =>
 caK rec 111 [(Env.get s0 e)] H4 fun v11 H5 =>
 exK 0 v11 fun v12 =>
 exK 1 v11 fun v13 =>
 stK 3 v12 v10 H5 fun H6 =>
 faK 1 v10 fun v14 =>
 faK 0 v14 fun v15 =>
 ldK false 1 v15 H6 fun v16 =>
 caK rec 174 [(.i .i64 6), v16] H6 fun v17 H7 =>
 (endK recD []) .norm (Env.put s2 v10 (Env.put s15 v9 e)) H7 k2)
 ((endK recD []) .norm (Env.put s15 v9 e) H3 k2)
theorem Tryz.cOk258 : (compFn Tryz.prog Tryz.f258).map (bodyK 258) = some Tryz.c258 := by kernel_rfl
def Tryz.c278 : FnK := fun rec recD args H => startK 2 args fun e =>
 newK 234 [(.i .i64 0), (.i .i64 0), (.i .i64 0)] H fun v0 H0 =>
 caK rec 111 [(Env.get s0 e)] H0 fun v1 H1 =>
 exK 0 v1 fun v2 =>
 exK 1 v1 fun v3 =>
 stK 3 v2 v0 H1 fun H2 =>
 seqK (fun K0 =>
 caK rec 178 [(Env.get s0 e), (.s [63])] H2 fun v4 H3 =>
 unK .not v4 fun v5 =>
 condK v5 (K0 .ret (Env.put s4 (.b false) (Env.put s15 v5 (Env.put s5 v0 (Env.put s4 (.b false) e)))) H3 (Ctl.mk [] .none))
 (K0 .norm (Env.put s15 v5 (Env.put s5 v0 (Env.put s4 (.b false) e))) H3 (Ctl.mk [] .none))) (fun k0 e0 H4 =>
 genK roundT rec (.nilCheck (.s s1)) k0 e0 [] H4 fun v4 H3 k1 =>
 faK 5 v4 fun v5 =>
 faK 2 v5 fun v6 =>
 ldK false 1 v6 H3 fun v7 =>
 seqK (fun K1 =>
 genK roundT rec (.nilCheck (.s s1)) k1 (Env.put s7 v7 e0) [] H3 fun v8 H5 k2 =>
 faK 5 v8 fun v9 =>
 faK 0 v9 fun v10 =>
 ldK false 1 v10 H5 fun v11 =>
 binK .neq .no v11 (.i .i64 5) fun v12 =>
 gdK v12 true (fun R0 => R0 v7 H5 k2) H5 k2 fun v13 H6 k3 =>
 gdK v12 true (fun R1 => binK .eql .no v13 (.i .i64 0) fun v14 =>
 R1 v14 H6 k3) H6 k3 fun v14 H7 k4 =>
 pkK v12 v14 (.b false) fun v15 =>
 gdK v15 false (fun R2 => R2 (Env.get s1 e0) H7 k4) H7 k4 fun v16 H8 k5 =>
 gdK v15 false (fun R3 => genK roundT rec (.nilCheck (.l 0)) k5 (Env.put s7 v7 e0) [v16, v15, v14, v13, v12, v11, v10, v9, v8] H8 fun v17 H9 k6 =>
 R3 v17 H9 k6) H8 k5 fun v17 H9 k6 =>
 gdK v15 false (fun R4 => faK 5 v17 fun v18 =>
 R4 v18 H9 k6) H9 k6 fun v18 H10 k7 =>
 gdK v15 false (fun R5 => faK 3 v18 fun v19 =>
 R5 v19 H10 k7) H10 k7 fun v19 H11 k8 =>
 gdK v15 false (fun R6 => ldK false 1 v19 H11 fun v20 =>
 R6 v20 H11 k8) H11 k8 fun v20 H12 k9 =>
 gdK v15 false (fun R7 => R7 v7 H12 k9) H12 k9 fun v21 H13 k10 =>
 gdK v15 false (fun R8 => ixK .none v20 v21 fun v22 =>
 R8 v22 H13 k10) H13 k10 fun v22 H14 k11 =>
 gdK v15 false (fun R9 => binK .neq .no v22 (.i .u8 32) fun v23 =>
 R9 v23 H14 k11) H14 k11 fun v23 H15 k12 =>
 pkK v15 (.b true) v23 fun v24 =>
 condK v24 (faK 1 (Env.get s5 e0) fun v25 =>
 faK 0 v25 fun v26 =>
 ldK false 1 v26 H15 fun v27 =>
 caK rec 174 [(.i .i64 81), v27] H15 fun v28 H16 =>
 K1 .norm (Env.put s40 v24 (Env.put s7 v7 e0)) H16 k12)
 (K1 .norm (Env.put s40 v24 (Env.put s7 v7 e0)) H15 k12)) (fun k13 e1 H17 =>
 genK roundT rec (.nilCheck (.s s1)) k13 e1 [] H17 fun v8 H5 k2 =>
 faK 5 v8 fun v9 =>
 faK 3 v9 fun v10 =>
 ldK false 1 v10 H5 fun v11 =>
 slK .none v11 .none (.some (Env.get s7 e1)) .none fun v12 =>
 binK .add .no v12 (.s [63]) fun v13 =>
 genK roundT rec (.nilCheck (.s s1)) k2 e1 [v13, v12, v11, v10, v9, v8] H5 fun v14 H7 k4 =>
 faK 5 v14 fun v15 =>
 faK 3 v15 fun v16 =>
 stK 1 v13 v16 H7 fun H9 =>
 caK rec 231 [(Env.get s0 e1)] H9 fun v25 H18 =>
 genK roundT rec (.nilCheck (.s s1)) k4 e1 [v25] H18 fun v26 H19 k14 =>
 faK 10 v26 fun v27 =>
 faK 1 v27 fun v28 =>
 stK 1 v25 v28 H19 fun H20 =>
 (endK recD [.slot s4]) .ret (Env.put s4 (.b true) e1) H20 k14) (endK recD [.slot s4])) (endK recD [.slot s4])
theorem Tryz.cOk278 : (compFn Tryz.prog Tryz.f278).map (bodyK 278) = some Tryz.c278 := by kernel_rfl
def Tryz.c285 : FnK := fun rec recD args H => startK 2 args fun e =>
 newK 234 [(.i .i64 0), (.i .i64 0), (.i .i64 0)] H fun v0 H0 =>
 caK rec 111 [(Env.get s0 e)] H0 fun v1 H1 =>
 exK 0 v1 fun v2 =>
 exK 1 v1 fun v3 =>
 stK 3 v2 v0 H1 fun H2 =>
 seqK (fun K0 =>
 binK .gtr .no (Env.get s1 e) (.i .i64 5) fun v4 =>
 condK v4 (caK rec 291 [(Env.get s0 e)] H2 fun v5 H3 =>
 K0 .ret (Env.put s4 v5 (Env.put s18 v4 (Env.put s5 v0 (Env.put s4 (.i .i64 0) e)))) H3 (Ctl.mk [] .none))
 (K0 .norm (Env.put s18 v4 (Env.put s5 v0 (Env.put s4 (.i .i64 0) e))) H2 (Ctl.mk [] .none))) (fun k0 e0 H4 =>
 binK .add .no (Env.get s1 e0) (.i .i64 1) fun v4 =>
 caK rec 285 [(Env.get s0 e0), v4] H4 fun v6 H5 =>
 blockK 0 (fun K1 =>
 loopK (fun k1 e1 H6 K2 =>
 blockK 1 (fun K3 =>
 newK 234 [(.i .i64 0), (.i .i64 0), (.i .i64 0)] H6 fun v7 H7 =>
 caK rec 111 [(Env.get s0 e1)] H7 fun v8 H8 =>
 exK 0 v8 fun v9 =>
 exK 1 v8 fun v10 =>
 stK 3 v9 v7 H8 fun H9 =>
 blockK 2 (fun K4 =>
 faK 0 v7 fun v11 =>
 ldK false 1 v11 H9 fun v12 =>
 binK .eql .no v12 (.i .i64 5) fun v13 =>
 gdK v13 true (fun R0 => R0 v10 H9 k1) H9 k1 fun v14 H10 k2 =>
 gdK v13 true (fun R1 => R1 (Env.get s1 e1) H10 k2) H10 k2 fun v15 H11 k3 =>
 gdK v13 true (fun R2 => caK rec 292 [v14] H11 fun v16 H12 =>
 R2 v16 H12 k3) H11 k3 fun v16 H12 k4 =>
 gdK v13 true (fun R3 => binK .eql .no v16 v15 fun v17 =>
 R3 v17 H12 k4) H12 k4 fun v17 H13 k5 =>
 pkK v13 v17 (.b false) fun v18 =>
 condK v18 (caK rec 231 [(Env.get s0 e1)] H13 fun v19 H14 =>
 binK .add .no (Env.get s1 e1) (.i .i64 1) fun v20 =>
 caK rec 285 [(Env.get s0 e1), v20] H14 fun v21 H15 =>
 genK roundT rec (.buildSlice 3 2 1 [(.i .i64 0)] [(0, (.s s7)), (1, (.s s10))]) k5 (Env.put s10 v21 (Env.put s31 v18 (Env.put s8 v7 (Env.put s9 v10 e1)))) [] H15 fun v22 H16 k6 =>
 bdK [(.i .i64 0), (.i .i64 0), (.i .i64 0), .sl0, (.s []), (.i .i64 0), (.s []), (.i .i64 0), (.s []), (.i .i64 0), (.i .i64 0), (.i .i64 0), .sl0] [(0, 1, (.i .i64 34)), (4, 1, v10), (3, 1, v22)] fun v23 =>
 faK 1 (Env.get s5 e1) fun v24 =>
 faK 0 v24 fun v25 =>
 ldK false 1 v25 H16 fun v26 =>
 caK rec 114 [(Env.get s0 e1), v23, v26] H16 fun v27 H17 =>
 K4 .norm (Env.put s7 v27 (Env.put s10 v21 (Env.put s31 v18 (Env.put s8 v7 (Env.put s9 v10 e1))))) H17 k6)
 (binK .eql .no (Env.get s1 e1) (.i .i64 3) fun v19 =>
 gdK v19 true (fun R4 => R4 (Env.get s0 e1) H13 k5) H13 k5 fun v28 H18 k7 =>
 gdK v19 true (fun R5 => caK rec 177 [v28, (.s [105, 115])] H18 fun v29 H19 =>
 R5 v29 H19 k7) H18 k7 fun v29 H19 k8 =>
 pkK v19 v29 (.b false) fun v30 =>
 condK v30 (seqK (fun K5 =>
 caK rec 177 [(Env.get s0 e1), (.s [115, 111, 109, 101])] H19 fun v31 H20 =>
 unK .not v31 fun v32 =>
 condK v32 (caK rec 175 [(Env.get s0 e1), (.s [110, 111, 110, 101])] H20 fun v33 H21 =>
 K5 .norm (Env.put s11 (.i .i64 44) (Env.put s66 v32 (Env.put s11 (.i .i64 43) (Env.put s57 v30 (Env.put s31 v18 (Env.put s8 v7 (Env.put s9 v10 e1))))))) H21 k8)
 (K5 .norm (Env.put s66 v32 (Env.put s11 (.i .i64 43) (Env.put s57 v30 (Env.put s31 v18 (Env.put s8 v7 (Env.put s9 v10 e1)))))) H20 k8)) (fun k9 e2 H22 =>
 genK roundT rec (.buildSlice 3 1 1 [(.i .i64 0)] [(0, (.s s7))]) k9 e2 [] H22 fun v34 H23 k10 =>
 bdK [(.i .i64 0), (.i .i64 0), (.i .i64 0), .sl0, (.s []), (.i .i64 0), (.s []), (.i .i64 0), (.s []), (.i .i64 0), (.i .i64 0), (.i .i64 0), .sl0] [(0, 1, (Env.get s11 e2)), (3, 1, v34)] fun v35 =>
 faK 1 (Env.get s5 e2) fun v36 =>
 faK 0 v36 fun v37 =>
 ldK false 1 v37 H23 fun v38 =>
 caK rec 114 [(Env.get s0 e2), v35, v38] H23 fun v39 H24 =>
 K4 .norm (Env.put s7 v39 e2) H24 k10) K4)
 (K4 .ret (Env.put s4 (Env.get s7 e1) (Env.put s57 v30 (Env.put s31 v18 (Env.put s8 v7 (Env.put s9 v10 e1))))) H19 k8))) K3) K2) rounds K1 k0 (Env.put s7 v6 e0) H5) (endK recD [.slot s4])) (endK recD [.slot s4])
theorem Tryz.cOk285 : (compFn Tryz.prog Tryz.f285).map (bodyK 285) = some Tryz.c285 := by kernel_rfl
def Tryz.c291 : FnK := fun rec recD args H => startK 1 args fun e =>
 newK 234 [(.i .i64 0), (.i .i64 0), (.i .i64 0)] H fun v0 H0 =>
 caK rec 111 [(Env.get s0 e)] H0 fun v1 H1 =>
 exK 0 v1 fun v2 =>
 exK 1 v1 fun v3 =>
 stK 3 v2 v0 H1 fun H2 =>
 seqK (fun K0 =>
 faK 0 v0 fun v4 =>
 ldK false 1 v4 H2 fun v5 =>
 binK .neq .no v5 (.i .i64 5) fun v6 =>
 gdK v6 false (fun R0 => R0 v3 H2 (Ctl.mk [] .none)) H2 (Ctl.mk [] .none) fun v7 H3 k0 =>
 gdK v6 false (fun R1 => binK .neq .no v7 (.s [33]) fun v8 =>
 R1 v8 H3 k0) H3 k0 fun v8 H4 k1 =>
 gdK v6 false (fun R2 => R2 v8 H4 k1) H4 k1 fun v9 H5 k2 =>
 gdK v9 true (fun R3 => R3 v3 H5 k2) H5 k2 fun v10 H6 k3 =>
 gdK v9 true (fun R4 => binK .neq .no v10 (.s [45]) fun v11 =>
 R4 v11 H6 k3) H6 k3 fun v11 H7 k4 =>
 gdK v6 false (fun R5 => pkK v9 v11 (.b false) fun v12 =>
 R5 v12 H7 k4) H7 k4 fun v12 H8 k5 =>
 pkK v6 (.b true) v12 fun v13 =>
 condK v13 (caK rec 295 [(Env.get s0 e)] H8 fun v14 H9 =>
 K0 .ret (Env.put s2 v14 (Env.put s22 v13 (Env.put s3 v0 (Env.put s4 v3 (Env.put s2 (.i .i64 0) e))))) H9 k5)
 (K0 .norm (Env.put s22 v13 (Env.put s3 v0 (Env.put s4 v3 (Env.put s2 (.i .i64 0) e)))) H8 k5)) (fun k6 e0 H10 =>
 caK rec 258 [(Env.get s0 e0)] H10 fun v4 H11 =>
 caK rec 231 [(Env.get s0 e0)] H11 fun v15 H12 =>
 caK rec 291 [(Env.get s0 e0)] H12 fun v16 H13 =>
 genK roundT rec (.nilCheck (.s s0)) k6 (Env.put s5 v16 e0) [] H13 fun v17 H14 k7 =>
 faK 3 v17 fun v18 =>
 ldK false 1 v18 H14 fun v19 =>
 binK .sub .no v19 (.i .i64 1) fun v20 =>
 genK roundT rec (.nilCheck (.s s0)) k7 (Env.put s5 v16 e0) [v20, v19, v18, v17] H14 fun v21 H15 k8 =>
 faK 3 v21 fun v22 =>
 stK 1 v20 v22 H15 fun H16 =>
 seqK (fun K1 =>
 binK .eql .no (Env.get s4 e0) (.s [45]) fun v23 =>
 condK v23 (K1 .norm (Env.put s6 (.i .i64 32) (Env.put s39 v23 (Env.put s6 (.i .i64 33) (Env.put s5 v16 e0)))) H16 k8)
 (K1 .norm (Env.put s39 v23 (Env.put s6 (.i .i64 33) (Env.put s5 v16 e0))) H16 k8)) (fun k9 e1 H17 =>
 genK roundT rec (.buildSlice 3 1 1 [(.i .i64 0)] [(0, (.s s5))]) k9 e1 [] H17 fun v23 H18 k10 =>
 bdK [(.i .i64 0), (.i .i64 0), (.i .i64 0), .sl0, (.s []), (.i .i64 0), (.s []), (.i .i64 0), (.s []), (.i .i64 0), (.i .i64 0), (.i .i64 0), .sl0] [(0, 1, (Env.get s6 e1)), (3, 1, v23)] fun v24 =>
 faK 1 (Env.get s3 e1) fun v25 =>
 faK 0 v25 fun v26 =>
 ldK false 1 v26 H18 fun v27 =>
 caK rec 114 [(Env.get s0 e1), v24, v27] H18 fun v28 H19 =>
 (endK recD [.slot s2]) .ret (Env.put s2 v28 e1) H19 k10) (endK recD [.slot s2])) (endK recD [.slot s2])
theorem Tryz.cOk291 : (compFn Tryz.prog Tryz.f291).map (bodyK 291) = some Tryz.c291 := by kernel_rfl
def Tryz.c292 : FnK := fun rec recD args H => startK 1 args fun e =>
 seqK (fun K0 =>
 blockK 0 (fun K1 =>
 binK .eql .no (Env.get s0 e) (.s [124, 124]) fun v0 =>
 condK v0 (K1 .ret (Env.put s2 (.i .i64 0) (Env.put s4 v0 (Env.put s3 (Env.get s0 e) (Env.put s2 (.i .i64 0) e)))) H (Ctl.mk [] .none))
 (binK .eql .no (Env.get s0 e) (.s [38, 38]) fun v1 =>
 condK v1 (K1 .ret (Env.put s2 (.i .i64 1) (Env.put s6 v1 (Env.put s4 v0 (Env.put s3 (Env.get s0 e) (Env.put s2 (.i .i64 0) e))))) H (Ctl.mk [] .none))
 (seqK (fun K2 =>
 binK .eql .no (Env.get s0 e) (.s [61, 61]) fun v2 =>
 condK v2 (K2 .norm (Env.put s8 v2 (Env.put s6 v1 (Env.put s4 v0 (Env.put s3 (Env.get s0 e) (Env.put s2 (.i .i64 0) e))))) H (Ctl.mk [] .none))
 (binK .eql .no (Env.get s0 e) (.s [33, 61]) fun v3 =>
 K2 .norm (Env.put s8 v3 (Env.put s8 v2 (Env.put s6 v1 (Env.put s4 v0 (Env.put s3 (Env.get s0 e) (Env.put s2 (.i .i64 0) e)))))) H (Ctl.mk [] .none))) (fun k0 e0 H0 =>
 condK (Env.get s8 e0) (K1 .ret (Env.put s2 (.i .i64 2) e0) H0 k0)
 (seqK (fun K3 =>
 binK .eql .no (Env.get s3 e0) (.s [60]) fun v3 =>
 condK v3 (K3 .norm (Env.put s11 v3 e0) H0 k0)
 (binK .eql .no (Env.get s3 e0) (.s [60, 61]) fun v4 =>
 condK v4 (K3 .norm (Env.put s11 v4 (Env.put s11 v3 e0)) H0 k0)
 (binK .eql .no (Env.get s3 e0) (.s [62]) fun v5 =>
 condK v5 (K3 .norm (Env.put s11 v5 (Env.put s11 v4 (Env.put s11 v3 e0))) H0 k0)
 (binK .eql .no (Env.get s3 e0) (.s [62, 61]) fun v6 =>
 K3 .norm (Env.put s11 v6 (Env.put s11 v5 (Env.put s11 v4 (Env.put s11 v3 e0)))) H0 k0)))) (fun k1 e1 H1 =>
 condK (Env.get s11 e1) (K1 .ret (Env.put s2 (.i .i64 3) e1) H1 k1)
 (seqK (fun K4 =>
 binK .eql .no (Env.get s3 e1) (.s [43]) fun v7 =>
 condK v7 (K4 .norm (Env.put s16 v7 e1) H1 k1)
 (binK .eql .no (Env.get s3 e1) (.s [45]) fun v8 =>
 K4 .norm (Env.put s16 v8 (Env.put s16 v7 e1)) H1 k1)) (fun k2 e2 H2 =>
 condK (Env.get s16 e2) (K1 .ret (Env.put s2 (.i .i64 4) e2) H2 k2)
 (seqK (fun K5 =>
 binK .eql .no (Env.get s3 e2) (.s [42]) fun v8 =>
 condK v8 (K5 .norm (Env.put s19 v8 e2) H2 k2)
 (binK .eql .no (Env.get s3 e2) (.s [47]) fun v9 =>
 condK v9 (K5 .norm (Env.put s19 v9 (Env.put s19 v8 e2)) H2 k2)
 (binK .eql .no (Env.get s3 e2) (.s [37]) fun v10 =>
 K5 .norm (Env.put s19 v10 (Env.put s19 v9 (Env.put s19 v8 e2))) H2 k2))) (fun k3 e3 H3 =>
 condK (Env.get s19 e3) (K1 .ret (Env.put s2 (.i .i64 5) e3) H3 k3)
 (K1 .norm e3 H3 k3)) K1)) K1)) K1)) K1))) K0) (fun k4 e4 H4 =>
 (endK recD [.slot s2]) .ret (Env.put s2 (.i .i64 (-1)) e4) H4 k4) (endK recD [.slot s2])
theorem Tryz.cOk292 : (compFn Tryz.prog Tryz.f292).map (bodyK 292) = some Tryz.c292 := by kernel_rfl
def Tryz.c295 : FnK := fun rec recD args H => startK 1 args fun e =>
 newK 234 [(.i .i64 0), (.i .i64 0), (.i .i64 0)] H fun v0 H0 =>
 caK rec 111 [(Env.get s0 e)] H0 fun v1 H1 =>
 exK 0 v1 fun v2 =>
 exK 1 v1 fun v3 =>
 stK 3 v2 v0 H1 fun H2 =>
 caK rec 296 [(Env.get s0 e)] H2 fun v4 H3 =>
 blockK 0 (fun K0 =>
 loopK (fun k0 e0 H4 K1 =>
 blockK 1 (fun K2 =>
 blockK 2 (fun K3 =>
 caK rec 177 [(Env.get s0 e0), (.s [33])] H4 fun v5 H5 =>
 condK v5 (genK roundT rec (.buildSlice 3 1 1 [(.i .i64 0)] [(0, (.s s5))]) k0 (Env.put s15 v5 e0) [] H5 fun v6 H6 k1 =>
 bdK [(.i .i64 0), (.i .i64 0), (.i .i64 0), .sl0, (.s []), (.i .i64 0), (.s []), (.i .i64 0), (.s []), (.i .i64 0), (.i .i64 0), (.i .i64 0), .sl0] [(0, 1, (.i .i64 40)), (3, 1, v6)] fun v7 =>
 faK 1 (Env.get s3 e0) fun v8 =>
 faK 0 v8 fun v9 =>
 ldK false 1 v9 H6 fun v10 =>
 caK rec 114 [(Env.get s0 e0), v7, v10] H6 fun v11 H7 =>
 K3 .norm (Env.put s5 v11 (Env.put s15 v5 e0)) H7 k1)
 (caK rec 177 [(Env.get s0 e0), (.s [91])] H5 fun v12 H8 =>
 condK v12 (caK rec 274 [(Env.get s0 e0)] H8 fun v13 H9 =>
 caK rec 175 [(Env.get s0 e0), (.s [93])] H9 fun v14 H10 =>
 genK roundT rec (.buildSlice 3 2 1 [(.i .i64 0)] [(0, (.s s5)), (1, (.s s6))]) k0 (Env.put s6 v13 (Env.put s26 v12 (Env.put s15 v5 e0))) [] H10 fun v15 H11 k2 =>
 bdK [(.i .i64 0), (.i .i64 0), (.i .i64 0), .sl0, (.s []), (.i .i64 0), (.s []), (.i .i64 0), (.s []), (.i .i64 0), (.i .i64 0), (.i .i64 0), .sl0] [(0, 1, (.i .i64 27)), (3, 1, v15)] fun v16 =>
 faK 1 (Env.get s3 e0) fun v17 =>
 faK 0 v17 fun v18 =>
 ldK false 1 v18 H11 fun v19 =>
 caK rec 114 [(Env.get s0 e0), v16, v19] H11 fun v20 H12 =>
 K3 .norm (Env.put s5 v20 (Env.put s6 v13 (Env.put s26 v12 (Env.put s15 v5 e0)))) H12 k2)
 (caK rec 177 [(Env.get s0 e0), (.s [46])] H8 fun v13 H9 =>
 condK v13 (faK 1 (Env.get s3 e0) fun v14 =>
 faK 0 v14 fun v21 =>
 ldK false 1 v21 H9 fun v22 =>
 caK rec 297 [(Env.get s0 e0), (Env.get s5 e0), v22] H9 fun v23 H13 =>
 K3 .norm (Env.put s5 v23 (Env.put s42 v13 (Env.put s26 v12 (Env.put s15 v5 e0)))) H13 k0)
 (K3 .ret (Env.put s2 (Env.get s5 e0) (Env.put s42 v13 (Env.put s26 v12 (Env.put s15 v5 e0)))) H9 k0)))) K2) K1) rounds K0 (Ctl.mk [] .none) (Env.put s5 v4 (Env.put s3 v0 (Env.put s2 (.i .i64 0) e))) H3) (endK recD [.slot s2])
theorem Tryz.cOk295 : (compFn Tryz.prog Tryz.f295).map (bodyK 295) = some Tryz.c295 := by kernel_rfl
def Tryz.c298 : FnK := fun rec recD args H => startK 1 args fun e =>
 seqK (fun K0 =>
 caK rec 303 [(Env.get s0 e)] H fun v0 H0 =>
 unK .not v0 fun v1 =>
 gdK v1 false (fun R0 => R0 (Env.get s0 e) H0 (Ctl.mk [] .none)) H0 (Ctl.mk [] .none) fun v2 H1 k0 =>
 gdK v1 false (fun R1 => lnK .s H1 v2 fun v3 =>
 R1 v3 H1 k0) H1 k0 fun v3 H2 k1 =>
 gdK v1 false (fun R2 => binK .gtr .no v3 (.i .i64 1) fun v4 =>
 R2 v4 H2 k1) H2 k1 fun v4 H3 k2 =>
 gdK v1 false (fun R3 => R3 v4 H3 k2) H3 k2 fun v5 H4 k3 =>
 gdK v5 true (fun R4 => R4 (Env.get s0 e) H4 k3) H4 k3 fun v6 H5 k4 =>
 gdK v5 true (fun R5 => ixK .none v6 (.i .i64 0) fun v7 =>
 R5 v7 H5 k4) H5 k4 fun v7 H6 k5 =>
 gdK v5 true (fun R6 => binK .eql .no v7 (.i .u8 48) fun v8 =>
 R6 v8 H6 k5) H6 k5 fun v8 H7 k6 =>
 gdK v1 false (fun R7 => pkK v5 v8 (.b false) fun v9 =>
 R7 v9 H7 k6) H7 k6 fun v9 H8 k7 =>
 pkK v1 (.b true) v9 fun v10 =>
 condK v10 (K0 .ret (Env.put s2 (.i .i64 0) (Env.put s3 (.i .i64 5) (Env.put s18 v10 (Env.put s2 (.i .i64 0) (Env.put s3 (.i .i64 0) e))))) H8 k7)
 (K0 .norm (Env.put s18 v10 (Env.put s2 (.i .i64 0) (Env.put s3 (.i .i64 0) e))) H8 k7)) (fun k8 e0 H9 =>
 caK rec 304 [(Env.get s0 e0), (.i .i64 10), (.i .i64 64)] H9 fun v0 H0 =>
 exK 0 v0 fun v1 =>
 exK 1 v0 fun v2 =>
 seqK (fun K1 =>
 binK .neq .ifc v2 .if0 fun v11 =>
 condK v11 (K1 .ret (Env.put s2 (.i .i64 0) (Env.put s3 (.i .i64 1) (Env.put s25 v11 (Env.put s4 v1 (Env.put s5 v2 e0))))) H0 k8)
 (K1 .norm (Env.put s25 v11 (Env.put s4 v1 (Env.put s5 v2 e0))) H0 k8)) (fun k9 e1 H10 =>
 (endK recD [.slot s2, .slot s3]) .ret (Env.put s2 (Env.get s4 e1) (Env.put s3 (.i .i64 0) e1)) H10 k9) (endK recD [.slot s2, .slot s3])) (endK recD [.slot s2, .slot s3])
theorem Tryz.cOk298 : (compFn Tryz.prog Tryz.f298).map (bodyK 298) = some Tryz.c298 := by kernel_rfl
def Tryz.c299 : FnK := fun rec recD args H => startK 3 args fun e =>
 bxK 76 (Env.get s1 e) H fun v0 H0 =>
 newK 234 [(.i .i64 0), (.i .i64 0), (.i .i64 0)] H0 fun v1 H1 =>
 caK rec 111 [(Env.get s0 e)] H1 fun v2 H2 =>
 exK 0 v2 fun v3 =>
 exK 1 v2 fun v4 =>
 stK 3 v3 v1 H2 fun H3 =>
 seqK (fun K0 =>
 binK .neq .no (Env.get s2 e) (.i .i64 0) fun v5 =>
 condK v5 (faK 1 v1 fun v6 =>
 faK 0 v6 fun v7 =>
 ldK false 1 v7 H3 fun v8 =>
 caK rec 174 [(Env.get s2 e), v8] H3 fun v9 H4 =>
 K0 .norm (Env.put s15 v5 (Env.put s7 v1 (Env.put s4 v0 (Env.put s6 (.i .i64 0) e)))) H4 (Ctl.mk [] .none))
 (K0 .norm (Env.put s15 v5 (Env.put s7 v1 (Env.put s4 v0 (Env.put s6 (.i .i64 0) e)))) H3 (Ctl.mk [] .none))) (fun k0 e0 H5 =>
 caK rec 231 [(Env.get s0 e0)] H5 fun v5 H6 =>
 ldK true 13 (Env.get s4 e0) H6 fun v6 =>
 faK 1 (Env.get s7 e0) fun v7 =>
 faK 0 v7 fun v8 =>
 ldK false 1 v8 H6 fun v9 =>
 caK rec 114 [(Env.get s0 e0), v6, v9] H6 fun v10 H7 =>
 (endK recD [.slot s6]) .ret (Env.put s6 v10 e0) H7 k0) (endK recD [.slot s6])
theorem Tryz.cOk299 : (compFn Tryz.prog Tryz.f299).map (bodyK 299) = some Tryz.c299 := by kernel_rfl
end
end Go.Proofs
