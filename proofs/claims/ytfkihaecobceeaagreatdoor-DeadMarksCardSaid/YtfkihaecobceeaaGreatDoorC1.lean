/- A part of the program's functions, printed as the executor's code, and that they are the program's. -/
import Derived.Test.YtfkihaecobceeaaGreatDoorEng4
import Derived.Test.YtfkihaecobceeaaGreatDoorEng1
import Derived.Test.YtfkihaecobceeaaGreatDoorSlots
import Derived.Test.YtfkihaecobceeaaGreatDoorProg
import Derived.KernelRfl
set_option autoImplicit false
set_option linter.all false
set_option maxRecDepth 1000000
namespace Go.Proofs
open Go Go.AX
noncomputable section
def Tryz.c4 : FnK := fun rec recD args H => startK 0 args fun e =>
 newK 25 [(.i .i64 0), (.i .i64 0)] H fun v0 H0 =>
 caK rec 5 [(.s [99, 108, 97, 115, 115, 32, 77, 97, 105, 110, 32, 123, 32, 105, 110, 116, 32, 109, 97, 105, 110, 40, 41, 32, 123, 32, 77, 97, 105, 110, 32, 109, 32, 61, 32, 116, 104, 105, 115, 59, 32, 105, 102, 32, 40, 109, 32, 61, 61, 32, 110, 117, 108, 108, 32, 124, 124, 32, 110, 117, 108, 108, 32, 33, 61, 32, 109, 32, 38, 38, 32, 105, 110, 112, 117, 116, 40, 41, 32, 62, 32, 48, 41, 32, 123, 32, 114, 101, 116, 117, 114, 110, 32, 50, 59, 32, 125, 32, 114, 101, 116, 117, 114, 110, 32, 49, 59, 32, 125, 32, 125])] H0 fun v1 H1 =>
 exK 0 v1 fun v2 =>
 exK 1 v1 fun v3 =>
 exK 2 v1 fun v4 =>
 stK 2 v4 v0 H1 fun H2 =>
 newK 25 [(.i .i64 0), (.i .i64 0)] H2 fun v5 H3 =>
 caK rec 7 [(.s [99, 108, 97, 115, 115, 32, 77, 97, 105, 110, 32, 123, 32, 105, 110, 116, 32, 109, 97, 105, 110, 40, 41, 32, 123, 32, 77, 97, 105, 110, 32, 109, 32, 61, 32, 116, 104, 105, 115, 59, 32, 105, 102, 32, 40, 109, 32, 61, 61, 32, 110, 117, 108, 108, 32, 124, 124, 32, 110, 117, 108, 108, 32, 33, 61, 32, 109, 32, 38, 38, 32, 105, 110, 112, 117, 116, 40, 41, 32, 62, 32, 48, 41, 32, 123, 32, 114, 101, 116, 117, 114, 110, 32, 50, 59, 32, 125, 32, 114, 101, 116, 117, 114, 110, 32, 49, 59, 32, 125, 32, 125])] H3 fun v6 H4 =>
 exK 0 v6 fun v7 =>
 exK 1 v6 fun v8 =>
 stK 2 v8 v5 H4 fun H5 =>
 seqK (fun K0 =>
 binK .eql .ptr v7 .p0 fun v9 =>
 gdK v9 false (fun R0 => faK 0 v0 fun v10 =>
 R0 v10 H5 (Ctl.mk [] .none)) H5 (Ctl.mk [] .none) fun v10 H6 k0 =>
 gdK v9 false (fun R1 => ldK false 1 v10 H6 fun v11 =>
 R1 v11 H6 k0) H6 k0 fun v11 H7 k1 =>
 gdK v9 false (fun R2 => binK .neq .no v11 (.i .i64 0) fun v12 =>
 R2 v12 H7 k1) H7 k1 fun v12 H8 k2 =>
 pkK v9 (.b true) v12 fun v13 =>
 condK v13 (K0 .ret (Env.put s0 (.b false) (Env.put s22 v13 (Env.put s4 v7 (Env.put s3 v0 (Env.put s1 v2 (Env.put s2 v3 (Env.put s0 (.b false) e))))))) H8 k2)
 (K0 .norm (Env.put s22 v13 (Env.put s4 v7 (Env.put s3 v0 (Env.put s1 v2 (Env.put s2 v3 (Env.put s0 (.b false) e)))))) H8 k2)) (fun k3 e0 H9 =>
 caK rec 8 [(Env.get s4 e0)] H9 fun v9 H10 =>
 binK .eql .no (Env.get s2 e0) (.i .i64 2) fun v14 =>
 gdK v14 true (fun R3 => R3 (Env.get s1 e0) H10 k3) H10 k3 fun v15 H11 k4 =>
 gdK v14 true (fun R4 => caK rec 9 [v15, (.s [105, 102, 32, 40, 102, 97, 108, 115, 101, 32, 124, 124, 32, 116, 114, 117, 101, 32, 38, 38, 32, 105, 110, 112, 117, 116, 40, 41, 32, 62, 32, 48, 41, 32, 123])] H11 fun v16 H12 =>
 R4 v16 H12 k4) H11 k4 fun v16 H12 k5 =>
 pkK v14 v16 (.b false) fun v17 =>
 gdK v17 true (fun R5 => R5 v9 H12 k5) H12 k5 fun v18 H13 k6 =>
 gdK v17 true (fun R6 => lnK .sl H13 v18 fun v19 =>
 R6 v19 H13 k6) H13 k6 fun v19 H14 k7 =>
 gdK v17 true (fun R7 => binK .eql .no v19 (.i .i64 2) fun v20 =>
 R7 v20 H14 k7) H14 k7 fun v20 H15 k8 =>
 pkK v17 v20 (.b false) fun v21 =>
 gdK v21 true (fun R8 => R8 v9 H15 k8) H15 k8 fun v22 H16 k9 =>
 gdK v21 true (fun R9 => iaK .none 2 v22 (.i .i64 0) fun v23 =>
 R9 v23 H16 k9) H16 k9 fun v23 H17 k10 =>
 gdK v21 true (fun R10 => faK 1 v23 fun v24 =>
 R10 v24 H17 k10) H17 k10 fun v24 H18 k11 =>
 gdK v21 true (fun R11 => ldK false 1 v24 H18 fun v25 =>
 R11 v25 H18 k11) H18 k11 fun v25 H19 k12 =>
 gdK v21 true (fun R12 => unK .not v25 fun v26 =>
 R12 v26 H19 k12) H19 k12 fun v26 H20 k13 =>
 pkK v21 v26 (.b false) fun v27 =>
 gdK v27 true (fun R13 => R13 v9 H20 k13) H20 k13 fun v28 H21 k14 =>
 gdK v27 true (fun R14 => iaK .none 2 v28 (.i .i64 1) fun v29 =>
 R14 v29 H21 k14) H21 k14 fun v29 H22 k15 =>
 gdK v27 true (fun R15 => faK 1 v29 fun v30 =>
 R15 v30 H22 k15) H22 k15 fun v30 H23 k16 =>
 gdK v27 true (fun R16 => ldK false 1 v30 H23 fun v31 =>
 R16 v31 H23 k16) H23 k16 fun v31 H24 k17 =>
 pkK v27 v31 (.b false) fun v32 =>
 gdK v32 true (fun R17 => R17 (Env.get s4 e0) H24 k17) H24 k17 fun v33 H25 k18 =>
 gdK v32 true (fun R18 => caK rec 10 [v33] H25 fun v34 H26 =>
 R18 v34 H26 k18) H25 k18 fun v34 H26 k19 =>
 gdK v32 true (fun R19 => lnK .sl H26 v34 fun v35 =>
 R19 v35 H26 k19) H26 k19 fun v35 H27 k20 =>
 gdK v32 true (fun R20 => binK .eql .no v35 (.i .i64 2) fun v36 =>
 R20 v36 H27 k20) H27 k20 fun v36 H28 k21 =>
 pkK v32 v36 (.b false) fun v37 =>
 (endK recD [.slot s0]) .ret (Env.put s0 v37 (Env.put s6 v9 e0)) H28 k21) (endK recD [.slot s0])
theorem Tryz.cOk4 : (compFn Tryz.prog Tryz.f4).map (bodyK 4) = some Tryz.c4 := by kernel_rfl
def Tryz.c5 : FnK := fun rec recD args H => startK 1 args fun e =>
 newK 25 [(.i .i64 0), (.i .i64 0)] H fun v0 H0 =>
 newK 25 [(.i .i64 0), (.i .i64 0)] H0 fun v1 H1 =>
 caK rec 7 [(Env.get s0 e)] H1 fun v2 H2 =>
 exK 0 v2 fun v3 =>
 exK 1 v2 fun v4 =>
 stK 2 v4 v1 H2 fun H3 =>
 seqK (fun K0 =>
 faK 0 v1 fun v5 =>
 ldK false 1 v5 H3 fun v6 =>
 binK .neq .no v6 (.i .i64 0) fun v7 =>
 condK v7 (ldK true 2 v1 H3 fun v8 =>
 stK 2 v8 v0 H3 fun H4 =>
 K0 .ret (Env.put s2 (.s []) (Env.put s3 (.i .i64 0) (Env.put s19 v7 (Env.put s6 v1 (Env.put s5 v3 (Env.put s2 (.s []) (Env.put s3 (.i .i64 0) (Env.put s4 v0 e)))))))) H4 (Ctl.mk [] .none))
 (K0 .norm (Env.put s19 v7 (Env.put s6 v1 (Env.put s5 v3 (Env.put s2 (.s []) (Env.put s3 (.i .i64 0) (Env.put s4 v0 e)))))) H3 (Ctl.mk [] .none))) (fun k0 e0 H5 =>
 seqK (fun K1 =>
 caK rec 10 [(Env.get s5 e0)] H5 fun v8 H6 =>
 caK rec 11 [v8] H6 fun v9 H4 =>
 lnK .sl H4 v9 fun v10 =>
 blockK 0 (fun K2 =>
 loopK (fun k1 e1 H7 K3 =>
 binK .lss .no (Env.get s25 e1) (Env.get s24 e1) fun v11 =>
 seqK (fun K4 =>
 condK v11 (K4 .norm (Env.put s26 v11 e1) H7 k1)
 (K4 (.exit 0) (Env.put s26 v11 e1) H7 k1)) (fun k2 e2 H8 =>
 seqK (fun K5 =>
 blockK 1 (fun K6 =>
 iaK .none 6 (Env.get s23 e2) (Env.get s25 e2) fun v12 =>
 ldK true 6 v12 H8 fun v13 =>
 newK 49 [(.i .i64 0), (.i .i64 0), (.s []), (.i .i64 0), (.i .i64 0), (.i .i64 0)] H8 fun v14 H9 =>
 stK 6 v13 v14 H9 fun H10 =>
 ldK true 6 v14 H10 fun v15 =>
 genK roundT rec (.buildSlice 49 1 6 [(.i .i64 0), (.i .i64 0), (.s []), (.i .i64 0), (.i .i64 0), (.i .i64 0)] [(0, (.l 0))]) k2 (Env.put s9 v14 e2) [v15] H10 fun v16 H11 k3 =>
 caK rec 12 [(Env.get s0 e2), v16] H11 fun v17 H12 =>
 exK 0 v17 fun v18 =>
 exK 1 v17 fun v19 =>
 condK v19 (faK 0 v14 fun v20 =>
 faK 0 v20 fun v21 =>
 faK 0 v21 fun v22 =>
 ldK false 1 v22 H12 fun v23 =>
 slK .none (Env.get s0 e2) .none (.some v23) .none fun v24 =>
 faK 0 v14 fun v25 =>
 faK 2 v25 fun v26 =>
 ldK false 1 v26 H12 fun v27 =>
 binK .add .no v24 v27 fun v28 =>
 faK 0 v14 fun v29 =>
 faK 0 v29 fun v30 =>
 faK 1 v30 fun v31 =>
 ldK false 1 v31 H12 fun v32 =>
 slK .none (Env.get s0 e2) (.some v32) .none .none fun v33 =>
 binK .add .no v28 v33 fun v34 =>
 binK .add .no (Env.get s7 e2) (.i .i64 1) fun v35 =>
 K6 .norm (Env.put s7 v35 (Env.put s0 v34 (Env.put s36 v19 (Env.put s11 v19 (Env.put s9 v14 e2))))) H12 k3)
 (K6 .norm (Env.put s36 v19 (Env.put s11 v19 (Env.put s9 v14 e2))) H12 k3)) K5) (fun k4 e3 H13 =>
 binK .add .no (Env.get s25 e3) (.i .i64 1) fun v36 =>
 K3 .norm (Env.put s25 v36 e3) H13 k4) K3) K3) rounds K2 k0 (Env.put s23 v9 (Env.put s24 v10 (Env.put s25 (.i .i64 0) (Env.put s7 (.i .i64 0) e0)))) H4) K1) (fun k5 e4 H14 =>
 bdK [(.i .i64 0), (.i .i64 0)] [] fun v8 =>
 stK 2 v8 (Env.get s4 e4) H14 fun H4 =>
 (endK recD [.slot s2, .slot s3, .cell true 2 s4]) .ret (Env.put s2 (Env.get s0 e4) (Env.put s3 (Env.get s7 e4) e4)) H4 k5) (endK recD [.slot s2, .slot s3, .cell true 2 s4])) (endK recD [.slot s2, .slot s3, .cell true 2 s4])
theorem Tryz.cOk5 : (compFn Tryz.prog Tryz.f5).map (bodyK 5) = some Tryz.c5 := by kernel_rfl
def Tryz.c7 : FnK := fun rec recD args H => startK 1 args fun e =>
 newK 25 [(.i .i64 0), (.i .i64 0)] H fun v0 H0 =>
 newK 25 [(.i .i64 0), (.i .i64 0)] H0 fun v1 H1 =>
 caK rec 19 [(Env.get s0 e)] H1 fun v2 H2 =>
 exK 0 v2 fun v3 =>
 exK 1 v2 fun v4 =>
 stK 2 v4 v1 H2 fun H3 =>
 seqK (fun K0 =>
 faK 0 v1 fun v5 =>
 ldK false 1 v5 H3 fun v6 =>
 binK .neq .no v6 (.i .i64 0) fun v7 =>
 condK v7 (ldK true 2 v1 H3 fun v8 =>
 stK 2 v8 v0 H3 fun H4 =>
 K0 .ret (Env.put s2 .p0 (Env.put s14 v7 (Env.put s5 v1 (Env.put s4 v3 (Env.put s2 .p0 (Env.put s3 v0 e)))))) H4 (Ctl.mk [] .none))
 (K0 .norm (Env.put s14 v7 (Env.put s5 v1 (Env.put s4 v3 (Env.put s2 .p0 (Env.put s3 v0 e))))) H3 (Ctl.mk [] .none))) (fun k0 e0 H5 =>
 seqK (fun K1 =>
 caK rec 20 [(Env.get s4 e0), (.b false)] H5 fun v9 H6 =>
 caK rec 21 [v9] H6 fun v10 H7 =>
 lnK .sl H7 v10 fun v8 =>
 binK .gtr .no v8 (.i .i64 0) fun v11 =>
 condK v11 (iaK .none 6 v10 (.i .i64 0) fun v12 =>
 ldK true 6 v12 H7 fun v13 =>
 iaK .none 6 v10 (.i .i64 0) fun v14 =>
 faK 1 v14 fun v15 =>
 ldK false 1 v15 H7 fun v16 =>
 caK rec 22 [v13] H7 fun v17 H8 =>
 boolK (and (again ⟨.load false 1 (.l 0), .none, []⟩ v16 (Env.put s21 v11 (Env.put s6 v10 e0)) [v15, v14, v13, v12] H8) true) (caK rec 23 [(Env.get s4 e0), v16] H8 fun v18 H9 =>
 fdK true 1 2 v18 fun v19 =>
 fdK false 0 1 v19 fun v20 =>
 bdK [(.i .i64 0), (.i .i64 0)] [(0, 1, v17), (1, 1, v20)] fun v21 =>
 stK 2 v21 (Env.get s3 e0) H9 fun H10 =>
 K1 .ret (Env.put s2 .p0 (Env.put s21 v11 (Env.put s6 v10 e0))) H10 k0))
 (K1 .norm (Env.put s21 v11 (Env.put s6 v10 e0)) H7 k0)) (fun k1 e1 H11 =>
 bdK [(.i .i64 0), (.i .i64 0)] [] fun v9 =>
 stK 2 v9 (Env.get s3 e1) H11 fun H7 =>
 (endK recD [.slot s2, .cell true 2 s3]) .ret (Env.put s2 (Env.get s4 e1) e1) H7 k1) (endK recD [.slot s2, .cell true 2 s3])) (endK recD [.slot s2, .cell true 2 s3])
theorem Tryz.cOk7 : (compFn Tryz.prog Tryz.f7).map (bodyK 7) = some Tryz.c7 := by kernel_rfl
def Tryz.c10 : FnK := fun rec recD args H => startK 1 args fun e =>
 seqK (fun K0 =>
 caK rec 8 [(Env.get s0 e)] H fun v0 H0 =>
 lnK .sl H0 v0 fun v1 =>
 blockK 0 (fun K1 =>
 loopK (fun k0 e0 H1 K2 =>
 binK .lss .no (Env.get s11 e0) (Env.get s10 e0) fun v2 =>
 seqK (fun K3 =>
 condK v2 (K3 .norm (Env.put s12 v2 e0) H1 k0)
 (K3 (.exit 0) (Env.put s12 v2 e0) H1 k0)) (fun k1 e1 H2 =>
 seqK (fun K4 =>
 blockK 1 (fun K5 =>
 iaK .none 2 (Env.get s9 e1) (Env.get s11 e1) fun v3 =>
 ldK true 2 v3 H2 fun v4 =>
 newK 38 [(.i .i64 0), (.b false)] H2 fun v5 H3 =>
 stK 2 v4 v5 H3 fun H4 =>
 seqK (fun K6 =>
 faK 1 v5 fun v6 =>
 ldK false 1 v6 H4 fun v7 =>
 condK v7 (K6 .norm (Env.put s6 (.s [116, 114, 117, 101]) (Env.put s16 v7 (Env.put s6 (.s [102, 97, 108, 115, 101]) (Env.put s5 v5 e1)))) H4 k1)
 (K6 .norm (Env.put s16 v7 (Env.put s6 (.s [102, 97, 108, 115, 101]) (Env.put s5 v5 e1))) H4 k1)) (fun k2 e2 H5 =>
 seqK (fun K7 =>
 faK 0 (Env.get s5 e2) fun v8 =>
 ldK false 1 v8 H5 fun v9 =>
 newK 76 [(.i .i64 0), (.i .i64 0), (.i .i64 0), .sl0, (.s []), (.i .i64 0), (.s []), (.i .i64 0), (.s []), (.i .i64 0), (.i .i64 0), (.i .i64 0), .sl0] H5 fun v10 H6 =>
 caK rec 23 [(Env.get s0 e2), v9] H6 fun v11 H7 =>
 stK 13 v11 v10 H7 fun H8 =>
 faK 1 v10 fun v12 =>
 faK 0 v12 fun v13 =>
 ldK false 1 v13 H8 fun v14 =>
 faK 3 v10 fun v15 =>
 ldK false 1 v15 H8 fun v16 =>
 iaK .none 1 v16 (.i .i64 0) fun v17 =>
 ldK false 1 v17 H8 fun v18 =>
 caK rec 23 [(Env.get s0 e2), v18] H8 fun v19 H9 =>
 boolK (and (again ⟨.load false 1 (.l 0), .none, []⟩ v14 (Env.put s7 v10 e2) [v13, v12] H9) true) (fdK true 1 2 v19 fun v20 =>
 fdK false 0 1 v20 fun v21 =>
 binK .lss .no v14 v21 fun v22 =>
 condK v22 (binK .add .no (.s [32]) (Env.get s6 e2) fun v23 =>
 K7 .norm (Env.put s6 v23 (Env.put s32 v22 (Env.put s7 v10 e2))) H9 k2)
 (K7 .norm (Env.put s32 v22 (Env.put s7 v10 e2)) H9 k2))) (fun k3 e3 H10 =>
 faK 0 (Env.get s5 e3) fun v6 =>
 ldK false 1 v6 H10 fun v7 =>
 faK 0 (Env.get s5 e3) fun v24 =>
 ldK false 1 v24 H10 fun v25 =>
 bdK [(.i .i64 0), (.i .i64 0)] [(0, 1, v25), (1, 1, (.i .i64 (-1)))] fun v26 =>
 caK rec 23 [(Env.get s0 e3), v7] H10 fun v27 H11 =>
 boolK (and (again ⟨.load false 1 (.l 0), .none, []⟩ v25 e3 [v24, v7, v6] H11) true) (fdK true 1 2 v27 fun v28 =>
 bdK [(.i .i64 0), (.i .i64 0), (.s [])] [(0, 2, v28), (2, 1, (Env.get s6 e3))] fun v29 =>
 bdK [(.i .i64 0), (.i .i64 0), (.s []), (.i .i64 0), (.i .i64 0), (.i .i64 0)] [(0, 3, v29), (3, 1, (.i .i64 4)), (4, 2, v26)] fun v30 =>
 genK roundT rec (.buildSlice 49 1 6 [(.i .i64 0), (.i .i64 0), (.s []), (.i .i64 0), (.i .i64 0), (.i .i64 0)] [(0, (.l 0))]) k3 e3 [v30, v29, v28, v27, v26, v25, v24, v7, v6] H11 fun v31 H12 k4 =>
 apK 49 6 [(.i .i64 0), (.i .i64 0), (.s []), (.i .i64 0), (.i .i64 0), (.i .i64 0)] H12 (Env.get s3 e3) v31 fun v32 H13 =>
 K5 .norm (Env.put s3 v32 e3) H13 k4)) K5) K5) K4) (fun k5 e4 H14 =>
 binK .add .no (Env.get s11 e4) (.i .i64 1) fun v33 =>
 K2 .norm (Env.put s11 v33 e4) H14 k5) K2) K2) rounds K1 (Ctl.mk [] .none) (Env.put s9 v0 (Env.put s10 v1 (Env.put s11 (.i .i64 0) (Env.put s3 .sl0 (Env.put s2 .sl0 e))))) H0) K0) (fun k6 e5 H15 =>
 caK rec 32 [(Env.get s3 e5)] H15 fun v0 H0 =>
 (endK recD [.slot s2]) .ret (Env.put s2 (Env.get s3 e5) e5) H0 k6) (endK recD [.slot s2])
theorem Tryz.cOk10 : (compFn Tryz.prog Tryz.f10).map (bodyK 10) = some Tryz.c10 := by kernel_rfl
def Tryz.c24 : FnK := fun rec recD args H => startK 1 args fun e =>
 genK roundT rec (.nilCheck (.s s0)) (Ctl.mk [] .none) (Env.put s2 (.i .i64 0) e) [] H fun v0 H0 k0 =>
 faK 0 v0 fun v1 =>
 faK 0 v1 fun v2 =>
 ldK false 1 v2 H0 fun v3 =>
 lnK .sl H0 v3 fun v4 =>
 (endK recD [.slot s2]) .ret (Env.put s2 v4 (Env.put s2 (.i .i64 0) e)) H0 k0
theorem Tryz.cOk24 : (compFn Tryz.prog Tryz.f24).map (bodyK 24) = some Tryz.c24 := by kernel_rfl
def Tryz.c25 : FnK := fun rec recD args H => startK 2 args fun e =>
 newK 76 [(.i .i64 0), (.i .i64 0), (.i .i64 0), .sl0, (.s []), (.i .i64 0), (.s []), (.i .i64 0), (.s []), (.i .i64 0), (.i .i64 0), (.i .i64 0), .sl0] H fun v0 H0 =>
 caK rec 23 [(Env.get s0 e), (Env.get s1 e)] H0 fun v1 H1 =>
 stK 13 v1 v0 H1 fun H2 =>
 seqK (fun K0 =>
 faK 0 v0 fun v2 =>
 ldK false 1 v2 H2 fun v3 =>
 binK .neq .no v3 (.i .i64 34) fun v4 =>
 gdK v4 false (fun R0 => faK 4 v0 fun v5 =>
 R0 v5 H2 (Ctl.mk [] .none)) H2 (Ctl.mk [] .none) fun v5 H3 k0 =>
 gdK v4 false (fun R1 => ldK false 1 v5 H3 fun v6 =>
 R1 v6 H3 k0) H3 k0 fun v6 H4 k1 =>
 gdK v4 false (fun R2 => binK .neq .no v6 (.s [61, 61]) fun v7 =>
 R2 v7 H4 k1) H4 k1 fun v7 H5 k2 =>
 gdK v4 false (fun R3 => R3 v7 H5 k2) H5 k2 fun v8 H6 k3 =>
 gdK v8 true (fun R4 => faK 4 v0 fun v9 =>
 R4 v9 H6 k3) H6 k3 fun v9 H7 k4 =>
 gdK v8 true (fun R5 => ldK false 1 v9 H7 fun v10 =>
 R5 v10 H7 k4) H7 k4 fun v10 H8 k5 =>
 gdK v8 true (fun R6 => binK .neq .no v10 (.s [33, 61]) fun v11 =>
 R6 v11 H8 k5) H8 k5 fun v11 H9 k6 =>
 gdK v4 false (fun R7 => pkK v8 v11 (.b false) fun v12 =>
 R7 v12 H9 k6) H9 k6 fun v12 H10 k7 =>
 pkK v4 (.b true) v12 fun v13 =>
 condK v13 (K0 .ret (Env.put s4 (.i .i64 (-1)) (Env.put s23 v13 (Env.put s5 v0 (Env.put s4 (.i .i64 0) e)))) H10 k7)
 (K0 .norm (Env.put s23 v13 (Env.put s5 v0 (Env.put s4 (.i .i64 0) e))) H10 k7)) (fun k8 e0 H11 =>
 faK 3 (Env.get s5 e0) fun v2 =>
 ldK false 1 v2 H11 fun v3 =>
 iaK .none 1 v3 (.i .i64 0) fun v4 =>
 ldK false 1 v4 H11 fun v5 =>
 faK 3 (Env.get s5 e0) fun v6 =>
 ldK false 1 v6 H11 fun v7 =>
 iaK .none 1 v7 (.i .i64 1) fun v8 =>
 ldK false 1 v8 H11 fun v9 =>
 caK rec 23 [(Env.get s0 e0), v5] H11 fun v10 H8 =>
 boolK (and (again ⟨.load false 1 (.l 0), .none, []⟩ v9 e0 [v8, v7, v6, v5, v4, v3, v2] H8) (and (again ⟨.load false 1 (.l 0), .none, []⟩ v7 e0 [v6, v5, v4, v3, v2] H8) true)) (fdK false 0 1 v10 fun v11 =>
 caK rec 23 [(Env.get s0 e0), v9] H8 fun v12 H10 =>
 fdK false 0 1 v12 fun v13 =>
 seqK (fun K1 =>
 blockK 0 (fun K2 =>
 binK .eql .no v11 (.i .i64 25) fun v14 =>
 gdK v14 true (fun R8 => R8 v13 H10 k8) H10 k8 fun v15 H12 k9 =>
 gdK v14 true (fun R9 => binK .eql .no v15 (.i .i64 23) fun v16 =>
 R9 v16 H12 k9) H12 k9 fun v16 H13 k10 =>
 pkK v14 v16 (.b false) fun v17 =>
 condK v17 (faK 3 (Env.get s5 e0) fun v18 =>
 ldK false 1 v18 H13 fun v19 =>
 iaK .none 1 v19 (.i .i64 0) fun v20 =>
 ldK false 1 v20 H13 fun v21 =>
 K2 .ret (Env.put s4 v21 (Env.put s38 v17 (Env.put s6 v11 (Env.put s7 v13 e0)))) H13 k10)
 (binK .eql .no v11 (.i .i64 23) fun v18 =>
 gdK v18 true (fun R10 => R10 v13 H13 k10) H13 k10 fun v19 H14 k11 =>
 gdK v18 true (fun R11 => binK .eql .no v19 (.i .i64 25) fun v20 =>
 R11 v20 H14 k11) H14 k11 fun v20 H15 k12 =>
 pkK v18 v20 (.b false) fun v21 =>
 condK v21 (faK 3 (Env.get s5 e0) fun v22 =>
 ldK false 1 v22 H15 fun v23 =>
 iaK .none 1 v23 (.i .i64 1) fun v24 =>
 ldK false 1 v24 H15 fun v25 =>
 K2 .ret (Env.put s4 v25 (Env.put s49 v21 (Env.put s38 v17 (Env.put s6 v11 (Env.put s7 v13 e0))))) H15 k12)
 (K2 .norm (Env.put s49 v21 (Env.put s38 v17 (Env.put s6 v11 (Env.put s7 v13 e0)))) H15 k12))) K1) (fun k13 e1 H16 =>
 (endK recD [.slot s4]) .ret (Env.put s4 (.i .i64 (-1)) e1) H16 k13) (endK recD [.slot s4]))) (endK recD [.slot s4])
theorem Tryz.cOk25 : (compFn Tryz.prog Tryz.f25).map (bodyK 25) = some Tryz.c25 := by kernel_rfl
def Tryz.c29 : FnK := fun rec recD args H => startK 2 args fun e =>
 seqK (fun K0 =>
 binK .lss .no (Env.get s1 e) (.i .i64 0) fun v0 =>
 gdK v0 false (fun R0 => R0 (Env.get s1 e) H (Ctl.mk [] .none)) H (Ctl.mk [] .none) fun v1 H0 k0 =>
 gdK v0 false (fun R1 => R1 (Env.get s0 e) H0 k0) H0 k0 fun v2 H1 k1 =>
 gdK v0 false (fun R2 => genK roundT rec (.nilCheck (.l 0)) k1 (Env.put s4 (.i .i64 0) e) [v2, v1, v0] H1 fun v3 H2 k2 =>
 R2 v3 H2 k2) H1 k1 fun v3 H2 k2 =>
 gdK v0 false (fun R3 => faK 3 v3 fun v4 =>
 R3 v4 H2 k2) H2 k2 fun v4 H3 k3 =>
 gdK v0 false (fun R4 => ldK false 1 v4 H3 fun v5 =>
 R4 v5 H3 k3) H3 k3 fun v5 H4 k4 =>
 gdK v0 false (fun R5 => lnK .sl H4 v5 fun v6 =>
 R5 v6 H4 k4) H4 k4 fun v6 H5 k5 =>
 gdK v0 false (fun R6 => binK .geq .no v1 v6 fun v7 =>
 R6 v7 H5 k5) H5 k5 fun v7 H6 k6 =>
 pkK v0 (.b true) v7 fun v8 =>
 condK v8 (K0 .ret (Env.put s4 (.i .i64 (-1)) (Env.put s15 v8 (Env.put s4 (.i .i64 0) e))) H6 k6)
 (K0 .norm (Env.put s15 v8 (Env.put s4 (.i .i64 0) e)) H6 k6)) (fun k7 e0 H7 =>
 genK roundT rec (.nilCheck (.s s0)) k7 e0 [] H7 fun v0 H8 k8 =>
 faK 3 v0 fun v1 =>
 ldK false 1 v1 H8 fun v2 =>
 iaK .none 1 v2 (Env.get s1 e0) fun v3 =>
 ldK false 1 v3 H8 fun v4 =>
 (endK recD [.slot s4]) .ret (Env.put s4 v4 e0) H8 k8) (endK recD [.slot s4])
theorem Tryz.cOk29 : (compFn Tryz.prog Tryz.f29).map (bodyK 29) = some Tryz.c29 := by kernel_rfl
def Tryz.c32 : FnK := fun rec recD args H => startK 1 args fun e =>
 caK rec 53 [(Env.get s0 e), (.f 54 [] [])] H fun v0 H0 =>
 (endK recD []) .norm e H0 (Ctl.mk [] .none)
theorem Tryz.cOk32 : (compFn Tryz.prog Tryz.f32).map (bodyK 32) = some Tryz.c32 := by kernel_rfl
def Tryz.c41 : FnK := fun rec recD args H => startK 1 args fun e =>
 newK 102 [.sl0, (.i .i64 0)] H fun v0 H0 =>
 newK 25 [(.i .i64 0), (.i .i64 0)] H0 fun v1 H1 =>
 caK rec 65 [(Env.get s0 e)] H1 fun v2 H2 =>
 exK 0 v2 fun v3 =>
 exK 1 v2 fun v4 =>
 stK 2 v4 v1 H2 fun H3 =>
 seqK (fun K0 =>
 faK 0 v1 fun v5 =>
 ldK false 1 v5 H3 fun v6 =>
 binK .neq .no v6 (.i .i64 0) fun v7 =>
 condK v7 (bdK [.sl0, (.i .i64 0)] [] fun v8 =>
 ldK true 2 v1 H3 fun v9 =>
 stK 2 v8 v0 H3 fun H4 =>
 boolK (and (again ⟨.load true 2 (.s s3), .none, []⟩ v9 (Env.put s13 v7 (Env.put s4 v3 (Env.put s2 v0 (Env.put s3 v1 e)))) [v8] H4) true) (stK 2 v9 v1 H4 fun H5 =>
 K0 .ret (Env.put s13 v7 (Env.put s4 v3 (Env.put s2 v0 (Env.put s3 v1 e)))) H5 (Ctl.mk [] .none)))
 (K0 .norm (Env.put s13 v7 (Env.put s4 v3 (Env.put s2 v0 (Env.put s3 v1 e)))) H3 (Ctl.mk [] .none))) (fun k0 e0 H6 =>
 bdK [(.s []), .sl0, (.i .i64 0), (.i .i64 0), .sl0, (.i .i64 0)] [(0, 1, (Env.get s0 e0)), (1, 1, (Env.get s4 e0))] fun v5 =>
 bxK 149 v5 H6 fun v6 H7 =>
 genK roundT rec (.mkFunc 66 [] [(.s s2), (.s s3)]) k0 (Env.put s5 v6 e0) [] H7 fun v10 H8 k1 =>
 genK roundT rec (.defer (.l 0) []) k1 (Env.put s5 v6 e0) [v10] H8 fun v11 H9 k2 =>
 caK rec 67 [v6] H9 fun v12 H10 =>
 genK roundT rec (.nilCheck (.s s5)) k2 (Env.put s5 v6 e0) [] H10 fun v13 H11 k3 =>
 faK 4 v13 fun v14 =>
 bdK [(.i .i64 0), (.i .i64 0)] [] fun v15 =>
 caK rec 68 [v14] H11 fun v16 H12 =>
 stK 2 v16 (Env.get s2 e0) H12 fun H13 =>
 stK 2 v15 (Env.get s3 e0) H13 fun H14 =>
 (endK recD [.cell true 2 s2, .cell true 2 s3]) .ret (Env.put s5 v6 e0) H14 k3) (endK recD [.cell true 2 s2, .cell true 2 s3])
theorem Tryz.cOk41 : (compFn Tryz.prog Tryz.f41).map (bodyK 41) = some Tryz.c41 := by kernel_rfl
def Tryz.c43 : FnK := fun rec recD args H => startK 1 args fun e =>
 newK 25 [(.i .i64 0), (.i .i64 0)] H fun v0 H0 =>
 caK rec 24 [(Env.get s0 e)] H0 fun v1 H1 =>
 genK roundT rec (.mkSlice 4 1 [(.b false)] 1 (.l 0) (.l 0)) (Ctl.mk [] .none) (Env.put s2 .p0 (Env.put s3 v0 e)) [v1] H1 fun v2 H2 k0 =>
 bdK [.sl0, .sl0] [(0, 1, v2)] fun v3 =>
 bxK 170 v3 H2 fun v4 H3 =>
 seqK (fun K0 =>
 caK rec 27 [(Env.get s0 e)] H3 fun v5 H4 =>
 lnK .sl H4 v5 fun v6 =>
 blockK 0 (fun K1 =>
 loopK (fun k1 e0 H5 K2 =>
 binK .lss .no (Env.get s21 e0) (Env.get s20 e0) fun v7 =>
 seqK (fun K3 =>
 condK v7 (K3 .norm (Env.put s22 v7 e0) H5 k1)
 (K3 (.exit 0) (Env.put s22 v7 e0) H5 k1)) (fun k2 e1 H6 =>
 seqK (fun K4 =>
 blockK 1 (fun K5 =>
 iaK .none 8 (Env.get s19 e1) (Env.get s21 e1) fun v8 =>
 ldK true 8 v8 H6 fun v9 =>
 newK 86 [(.s []), (.i .i64 0), (.b false), (.i .i64 0), (.s []), (.i .i64 0), (.s []), .p0] H6 fun v10 H7 =>
 stK 8 v9 v10 H7 fun H8 =>
 genK roundT rec (.nilCheck (.s s4)) k2 (Env.put s6 v10 e1) [] H8 fun v11 H9 k3 =>
 faK 0 v11 fun v12 =>
 ldK false 1 v12 H9 fun v13 =>
 bdK [.p0, (.i .i64 0), (.i .i64 0), .sl0, .sl0] [(0, 1, (Env.get s0 e1)), (4, 1, v13)] fun v14 =>
 bxK 174 v14 H9 fun v15 H10 =>
 faK 1 v10 fun v16 =>
 ldK false 1 v16 H10 fun v17 =>
 caK rec 23 [(Env.get s0 e1), v17] H10 fun v18 H11 =>
 fdK false 3 1 v18 fun v19 =>
 bdK [(.i .u64 0), (.b false)] [] fun v20 =>
 newK 177 [(.i .u64 0), (.b false)] H11 fun v21 H12 =>
 stK 2 v20 v21 H12 fun H13 =>
 seqK (fun K6 =>
 lnK .sl H13 v19 fun v22 =>
 binK .sub .no v22 (.i .i64 1) fun v23 =>
 slK (.some 1) v19 .none (.some v23) .none fun v24 =>
 lnK .sl H13 v24 fun v25 =>
 blockK 2 (fun K7 =>
 loopK (fun k4 e2 H14 K8 =>
 binK .lss .no (Env.get s44 e2) (Env.get s43 e2) fun v26 =>
 seqK (fun K9 =>
 condK v26 (K9 .norm (Env.put s45 v26 e2) H14 k4)
 (K9 (.exit 2) (Env.put s45 v26 e2) H14 k4)) (fun k5 e3 H15 =>
 seqK (fun K10 =>
 blockK 3 (fun K11 =>
 iaK .none 1 (Env.get s42 e3) (Env.get s44 e3) fun v27 =>
 ldK false 1 v27 H15 fun v28 =>
 ldK true 2 (Env.get s9 e3) H15 fun v29 =>
 caK rec 29 [(Env.get s0 e3), v28] H15 fun v30 H16 =>
 boolK (and (again ⟨.load true 2 (.s s9), .none, []⟩ v29 (Env.put s11 v28 e3) [] H16) true) (caK rec 76 [v29, v30] H16 fun v31 H17 =>
 stK 2 v31 (Env.get s9 e3) H17 fun H18 =>
 K11 .norm (Env.put s11 v28 e3) H18 k5)) K10) (fun k6 e4 H19 =>
 binK .add .no (Env.get s44 e4) (.i .i64 1) fun v32 =>
 K8 .norm (Env.put s44 v32 e4) H19 k6) K8) K8) rounds K7 k3 (Env.put s42 v24 (Env.put s43 v25 (Env.put s44 (.i .i64 0) (Env.put s9 v21 (Env.put s8 v19 (Env.put s7 v15 (Env.put s6 v10 e1))))))) H13) K6) (fun k7 e5 H20 =>
 lnK .sl H20 (Env.get s8 e5) fun v22 =>
 binK .sub .no v22 (.i .i64 1) fun v23 =>
 iaK .none 1 (Env.get s8 e5) v23 fun v24 =>
 ldK false 1 v24 H20 fun v25 =>
 ldK true 2 (Env.get s9 e5) H20 fun v33 =>
 newK 177 [(.i .u64 0), (.b false)] H20 fun v34 H21 =>
 caK rec 77 [(Env.get s7 e5), v25, v33] H21 fun v35 H22 =>
 stK 2 v35 v34 H22 fun H23 =>
 genK roundT rec (.nilCheck (.s s4)) k7 (Env.put s12 v34 e5) [] H23 fun v36 H24 k8 =>
 faK 1 v36 fun v37 =>
 ldK false 1 v37 H24 fun v38 =>
 faK 1 v34 fun v39 =>
 ldK false 1 v39 H24 fun v40 =>
 unK .not v40 fun v41 =>
 genK roundT rec (.buildSlice 4 1 1 [(.b false)] [(0, (.l 0))]) k8 (Env.put s12 v34 e5) [v41, v40, v39, v38, v37, v36] H24 fun v42 H25 k9 =>
 apK 4 1 [(.b false)] H25 v38 v42 fun v43 H26 =>
 genK roundT rec (.nilCheck (.s s4)) k9 (Env.put s12 v34 e5) [v43, v42, v41, v40, v39, v38, v37, v36] H26 fun v44 H27 k10 =>
 faK 1 v44 fun v45 =>
 stK 1 v43 v45 H27 fun H28 =>
 seqK (fun K12 =>
 genK roundT rec (.nilCheck (.s s7)) k10 (Env.put s12 v34 e5) [] H28 fun v46 H29 k11 =>
 faK 1 v46 fun v47 =>
 faK 0 v47 fun v48 =>
 ldK false 1 v48 H29 fun v49 =>
 binK .eql .no v49 (.i .i64 0) fun v50 =>
 gdK v50 true (fun R0 => faK 2 (Env.get s6 e5) fun v51 =>
 R0 v51 H29 k11) H29 k11 fun v51 H30 k12 =>
 gdK v50 true (fun R1 => ldK false 1 v51 H30 fun v52 =>
 R1 v52 H30 k12) H30 k12 fun v52 H31 k13 =>
 gdK v50 true (fun R2 => unK .not v52 fun v53 =>
 R2 v53 H31 k13) H31 k13 fun v53 H32 k14 =>
 pkK v50 v53 (.b false) fun v54 =>
 gdK v54 true (fun R3 => faK 3 (Env.get s6 e5) fun v55 =>
 R3 v55 H32 k14) H32 k14 fun v55 H33 k15 =>
 gdK v54 true (fun R4 => faK 0 v55 fun v56 =>
 R4 v56 H33 k15) H33 k15 fun v56 H34 k16 =>
 gdK v54 true (fun R5 => ldK false 1 v56 H34 fun v57 =>
 R5 v57 H34 k16) H34 k16 fun v57 H35 k17 =>
 gdK v54 true (fun R6 => binK .neq .no v57 (.i .i64 6) fun v58 =>
 R6 v58 H35 k17) H35 k17 fun v58 H36 k18 =>
 pkK v54 v58 (.b false) fun v59 =>
 gdK v59 true (fun R7 => faK 1 v34 fun v60 =>
 R7 v60 H36 k18) H36 k18 fun v60 H37 k19 =>
 gdK v59 true (fun R8 => ldK false 1 v60 H37 fun v61 =>
 R8 v61 H37 k19) H37 k19 fun v61 H38 k20 =>
 gdK v59 true (fun R9 => unK .not v61 fun v62 =>
 R9 v62 H38 k20) H38 k20 fun v62 H39 k21 =>
 pkK v59 v62 (.b false) fun v63 =>
 condK v63 (faK 1 (Env.get s6 e5) fun v32 =>
 ldK false 1 v32 H39 fun v64 =>
 caK rec 78 [(Env.get s7 e5), (.i .i64 141), v64] H39 fun v65 H40 =>
 K12 .norm (Env.put s96 v63 (Env.put s12 v34 e5)) H40 k21)
 (K12 .norm (Env.put s96 v63 (Env.put s12 v34 e5)) H39 k21)) (fun k22 e6 H41 =>
 genK roundT rec (.nilCheck (.s s7)) k22 e6 [] H41 fun v46 H29 k11 =>
 faK 1 v46 fun v47 =>
 faK 0 v47 fun v48 =>
 ldK false 1 v48 H29 fun v49 =>
 binK .neq .no v49 (.i .i64 0) fun v50 =>
 condK v50 (genK roundT rec (.nilCheck (.s s7)) k11 (Env.put s106 v50 e6) [] H29 fun v66 H42 k23 =>
 faK 1 v66 fun v67 =>
 ldK true 2 v67 H42 fun v68 =>
 stK 2 v68 (Env.get s3 e6) H42 fun H43 =>
 K5 .ret (Env.put s2 .p0 (Env.put s106 v50 e6)) H43 k23)
 (K5 .norm (Env.put s106 v50 e6) H29 k11)) K5) K5) K4) (fun k24 e7 H44 =>
 binK .add .no (Env.get s21 e7) (.i .i64 1) fun v69 =>
 K2 .norm (Env.put s21 v69 e7) H44 k24) K2) K2) rounds K1 k0 (Env.put s19 v5 (Env.put s20 v6 (Env.put s21 (.i .i64 0) (Env.put s4 v4 (Env.put s2 .p0 (Env.put s3 v0 e)))))) H4) K0) (fun k25 e8 H45 =>
 bdK [(.i .i64 0), (.i .i64 0)] [] fun v5 =>
 stK 2 v5 (Env.get s3 e8) H45 fun H46 =>
 (endK recD [.slot s2, .cell true 2 s3]) .ret (Env.put s2 (Env.get s4 e8) e8) H46 k25) (endK recD [.slot s2, .cell true 2 s3])
theorem Tryz.cOk43 : (compFn Tryz.prog Tryz.f43).map (bodyK 43) = some Tryz.c43 := by kernel_rfl
def Tryz.c45 : FnK := fun rec recD args H => startK 1 args fun e =>
 genK roundT rec (.nilCheck (.s s0)) (Ctl.mk [] .none) e [] H fun v0 H0 k0 =>
 faK 4 v0 fun v1 =>
 ldK false 1 v1 H0 fun v2 =>
 caK rec 84 [v2] H0 fun v3 H1 =>
 lnK .sl H1 v3 fun v4 =>
 blockK 0 (fun K0 =>
 loopK (fun k1 e0 H2 K1 =>
 binK .lss .no (Env.get s11 e0) (Env.get s10 e0) fun v5 =>
 seqK (fun K2 =>
 condK v5 (K2 .norm (Env.put s12 v5 e0) H2 k1)
 (K2 (.exit 0) (Env.put s12 v5 e0) H2 k1)) (fun k2 e1 H3 =>
 seqK (fun K3 =>
 blockK 1 (fun K4 =>
 iaK .none 3 (Env.get s9 e1) (Env.get s11 e1) fun v6 =>
 ldK true 3 v6 H3 fun v7 =>
 newK 189 [(.i .i64 0), (.i .i64 0), (.i .i64 0)] H3 fun v8 H4 =>
 stK 3 v7 v8 H4 fun H5 =>
 genK roundT rec (.nilCheck (.s s0)) k2 (Env.put s3 v8 e1) [] H5 fun v9 H6 k3 =>
 faK 0 v9 fun v10 =>
 ldK false 1 v10 H6 fun v11 =>
 faK 0 v8 fun v12 =>
 ldK false 1 v12 H6 fun v13 =>
 newK 74 [(.i .i64 0), (.s []), (.i .i64 0), (.s [])] H6 fun v14 H7 =>
 caK rec 23 [v11, v13] H7 fun v15 H8 =>
 fdK true 5 4 v15 fun v16 =>
 stK 4 v16 v14 H8 fun H9 =>
 ldK true 4 v14 H9 fun v17 =>
 caK rec 30 [v17] H9 fun v18 H10 =>
 gdK v18 true (fun R0 => ldK true 4 v14 H10 fun v19 =>
 R0 v19 H10 k3) H10 k3 fun v19 H11 k4 =>
 gdK v18 true (fun R1 => caK rec 31 [v19] H11 fun v20 H12 =>
 R1 v20 H12 k4) H11 k4 fun v20 H12 k5 =>
 gdK v18 true (fun R2 => binK .eql .no v20 (.i .u8 32) fun v21 =>
 R2 v21 H12 k5) H12 k5 fun v21 H13 k6 =>
 pkK v18 v21 (.b false) fun v22 =>
 condK v22 (faK 2 v8 fun v23 =>
 ldK false 1 v23 H13 fun v24 =>
 faK 0 v8 fun v25 =>
 ldK false 1 v25 H13 fun v26 =>
 faK 2 v14 fun v27 =>
 ldK false 1 v27 H13 fun v28 =>
 bdK [(.i .i64 0), (.i .i64 0)] [(0, 1, v26), (1, 1, v28)] fun v29 =>
 caK rec 86 [] H13 fun v30 H14 =>
 boolK (and (again ⟨.load false 1 (.l 0), .none, []⟩ v28 (Env.put s29 v22 (Env.put s4 v14 (Env.put s3 v8 e1))) [v27, v26, v25, v24, v23] H14) (and (again ⟨.load false 1 (.l 0), .none, []⟩ v26 (Env.put s29 v22 (Env.put s4 v14 (Env.put s3 v8 e1))) [v25, v24, v23] H14) (and (again ⟨.load false 1 (.l 0), .none, []⟩ v24 (Env.put s29 v22 (Env.put s4 v14 (Env.put s3 v8 e1))) [v23] H14) true))) (caK rec 85 [(Env.get s0 e1), (.i .i64 4), v24, v30, v29] H14 fun v31 H15 =>
 K4 .norm (Env.put s29 v22 (Env.put s4 v14 (Env.put s3 v8 e1))) H15 k6))
 (K4 .norm (Env.put s29 v22 (Env.put s4 v14 (Env.put s3 v8 e1))) H13 k6)) K3) (fun k7 e2 H16 =>
 binK .add .no (Env.get s11 e2) (.i .i64 1) fun v32 =>
 K1 .norm (Env.put s11 v32 e2) H16 k7) K1) K1) rounds K0 k0 (Env.put s9 v3 (Env.put s10 v4 (Env.put s11 (.i .i64 0) e))) H1) (endK recD [])
theorem Tryz.cOk45 : (compFn Tryz.prog Tryz.f45).map (bodyK 45) = some Tryz.c45 := by kernel_rfl
def Tryz.c55 : FnK := fun rec recD args H => startK 1 args fun e =>
 seqK (fun K0 =>
 lnK .sl H (Env.get s0 e) fun v0 =>
 blockK 0 (fun K1 =>
 loopK (fun k0 e0 H0 K2 =>
 binK .lss .no (Env.get s8 e0) (Env.get s7 e0) fun v1 =>
 seqK (fun K3 =>
 condK v1 (K3 .norm (Env.put s9 v1 e0) H0 k0)
 (K3 (.exit 0) (Env.put s9 v1 e0) H0 k0)) (fun k1 e1 H1 =>
 seqK (fun K4 =>
 blockK 1 (fun K5 =>
 iaK .none 1 (Env.get s6 e1) (Env.get s8 e1) fun v2 =>
 ldK false 1 v2 H1 fun v3 =>
 binK .neq .no v3 (Env.get s3 e1) fun v4 =>
 condK v4 (K5 .ret (Env.put s2 v3 (Env.put s14 v4 (Env.put s5 v3 e1))) H1 k1)
 (K5 .norm (Env.put s14 v4 (Env.put s5 v3 e1)) H1 k1)) K4) (fun k2 e2 H2 =>
 binK .add .no (Env.get s8 e2) (.i .i64 1) fun v5 =>
 K2 .norm (Env.put s8 v5 e2) H2 k2) K2) K2) rounds K1 (Ctl.mk [] .none) (Env.put s6 (Env.get s0 e) (Env.put s7 v0 (Env.put s8 (.i .i64 0) (Env.put s3 (.i .i64 0) (Env.put s2 (.i .i64 0) e))))) H) K0) (fun k3 e3 H3 =>
 (endK recD [.slot s2]) .ret (Env.put s2 (Env.get s3 e3) e3) H3 k3) (endK recD [.slot s2])
theorem Tryz.cOk55 : (compFn Tryz.prog Tryz.f55).map (bodyK 55) = some Tryz.c55 := by kernel_rfl
def Tryz.c65 : FnK := fun rec recD args H => startK 1 args fun e =>
 newK 25 [(.i .i64 0), (.i .i64 0)] H fun v0 H0 =>
 seqK (fun K0 =>
 lnK .s H0 (Env.get s0 e) fun v1 =>
 binK .gtr .no v1 (.i .i64 65536) fun v2 =>
 condK v2 (bdK [(.i .i64 0), (.i .i64 0)] [(0, 1, (.i .i64 2))] fun v3 =>
 stK 2 v3 v0 H0 fun H1 =>
 K0 .ret (Env.put s2 .sl0 (Env.put s10 v2 (Env.put s2 .sl0 (Env.put s3 v0 e)))) H1 (Ctl.mk [] .none))
 (K0 .norm (Env.put s10 v2 (Env.put s2 .sl0 (Env.put s3 v0 e))) H0 (Ctl.mk [] .none))) (fun k0 e0 H2 =>
 bdK [(.s []), (.i .i64 0), .sl0] [(0, 1, (Env.get s0 e0))] fun v1 =>
 bxK 230 v1 H2 fun v2 H3 =>
 seqK (fun K1 =>
 caK rec 109 [v2] H3 fun v3 H4 =>
 blockK 0 (fun K2 =>
 loopK (fun k1 e1 H5 K3 =>
 seqK (fun K4 =>
 genK roundT rec (.nilCheck (.s s4)) k1 e1 [] H5 fun v4 H6 k2 =>
 faK 1 v4 fun v5 =>
 ldK false 1 v5 H6 fun v6 =>
 lnK .s H6 (Env.get s0 e1) fun v7 =>
 binK .lss .no v6 v7 fun v8 =>
 condK v8 (K4 .norm (Env.put s23 v8 e1) H6 k2)
 (K4 (.exit 0) (Env.put s23 v8 e1) H6 k2)) (fun k3 e2 H7 =>
 seqK (fun K5 =>
 blockK 1 (fun K6 =>
 genK roundT rec (.nilCheck (.s s4)) k3 e2 [] H7 fun v9 H8 k4 =>
 faK 1 v9 fun v10 =>
 ldK false 1 v10 H8 fun v11 =>
 seqK (fun K7 =>
 genK roundT rec (.nilCheck (.s s4)) k4 (Env.put s5 v11 e2) [] H8 fun v12 H9 k5 =>
 faK 2 v12 fun v13 =>
 ldK false 1 v13 H9 fun v14 =>
 lnK .sl H9 v14 fun v15 =>
 binK .geq .no v15 (.i .i64 16384) fun v16 =>
 condK v16 (bdK [(.i .i64 0), (.i .i64 0)] [(0, 1, (.i .i64 2)), (1, 1, v11)] fun v17 =>
 stK 2 v17 (Env.get s3 e2) H9 fun H10 =>
 K7 .ret (Env.put s2 .sl0 (Env.put s35 v16 (Env.put s5 v11 e2))) H10 k5)
 (K7 .norm (Env.put s35 v16 (Env.put s5 v11 e2)) H9 k5)) (fun k6 e3 H11 =>
 caK rec 110 [(Env.get s4 e3)] H11 fun v12 H9 =>
 exK 0 v12 fun v13 =>
 exK 1 v12 fun v14 =>
 seqK (fun K8 =>
 binK .neq .no v14 (.i .i64 0) fun v17 =>
 condK v17 (bdK [(.i .i64 0), (.i .i64 0)] [(0, 1, v14), (1, 1, (Env.get s5 e3))] fun v18 =>
 stK 2 v18 (Env.get s3 e3) H9 fun H12 =>
 K8 .ret (Env.put s2 .sl0 (Env.put s44 v17 (Env.put s6 v13 (Env.put s7 v14 e3)))) H12 k6)
 (K8 .norm (Env.put s44 v17 (Env.put s6 v13 (Env.put s7 v14 e3))) H9 k6)) (fun k7 e4 H13 =>
 genK roundT rec (.nilCheck (.s s4)) k7 e4 [] H13 fun v19 H14 k8 =>
 faK 2 v19 fun v20 =>
 ldK false 1 v20 H14 fun v21 =>
 genK roundT rec (.nilCheck (.s s4)) k8 e4 [v21, v20, v19] H14 fun v22 H15 k9 =>
 faK 1 v22 fun v23 =>
 ldK false 1 v23 H15 fun v24 =>
 bdK [(.i .i64 0), (.i .i64 0)] [(0, 1, (Env.get s5 e4)), (1, 1, v24)] fun v25 =>
 bdK [(.i .i64 0), (.i .i64 0), (.i .i64 0)] [(0, 1, (Env.get s6 e4)), (1, 2, v25)] fun v26 =>
 genK roundT rec (.buildSlice 234 1 3 [(.i .i64 0), (.i .i64 0), (.i .i64 0)] [(0, (.l 0))]) k9 e4 [v26, v25, v24, v23, v22, v21, v20, v19] H15 fun v27 H16 k10 =>
 apK 234 3 [(.i .i64 0), (.i .i64 0), (.i .i64 0)] H16 v21 v27 fun v28 H17 =>
 genK roundT rec (.nilCheck (.s s4)) k10 e4 [v28, v27, v26, v25, v24, v23, v22, v21, v20, v19] H17 fun v29 H18 k11 =>
 faK 2 v29 fun v30 =>
 stK 1 v28 v30 H18 fun H19 =>
 K6 .norm e4 H19 k11) K6) K6) K5) (fun k12 e5 H20 =>
 caK rec 109 [(Env.get s4 e5)] H20 fun v4 H6 =>
 K3 .norm e5 H6 k12) K3) K3) rounds K2 k0 (Env.put s4 v2 e0) H4) K1) (fun k13 e6 H21 =>
 genK roundT rec (.nilCheck (.s s4)) k13 e6 [] H21 fun v3 H4 k14 =>
 faK 2 v3 fun v31 =>
 ldK false 1 v31 H4 fun v32 =>
 lnK .s H4 (Env.get s0 e6) fun v33 =>
 lnK .s H4 (Env.get s0 e6) fun v34 =>
 bdK [(.i .i64 0), (.i .i64 0)] [(0, 1, v33), (1, 1, v34)] fun v35 =>
 bdK [(.i .i64 0), (.i .i64 0), (.i .i64 0)] [(0, 1, (.i .i64 0)), (1, 2, v35)] fun v36 =>
 genK roundT rec (.buildSlice 234 1 3 [(.i .i64 0), (.i .i64 0), (.i .i64 0)] [(0, (.l 0))]) k14 e6 [v36, v35, v34, v33, v32, v31, v3] H4 fun v37 H22 k15 =>
 bdK [(.i .i64 0), (.i .i64 0)] [] fun v38 =>
 apK 234 3 [(.i .i64 0), (.i .i64 0), (.i .i64 0)] H22 v32 v37 fun v39 H23 =>
 stK 2 v38 (Env.get s3 e6) H23 fun H24 =>
 (endK recD [.slot s2, .cell true 2 s3]) .ret (Env.put s2 v39 e6) H24 k15) (endK recD [.slot s2, .cell true 2 s3])) (endK recD [.slot s2, .cell true 2 s3])
theorem Tryz.cOk65 : (compFn Tryz.prog Tryz.f65).map (bodyK 65) = some Tryz.c65 := by kernel_rfl
def Tryz.c68 : FnK := fun rec recD args H => startK 1 args fun e =>
 newK 102 [.sl0, (.i .i64 0)] H fun v0 H0 =>
 genK roundT rec (.nilCheck (.s s0)) (Ctl.mk [] .none) (Env.put s2 v0 e) [] H0 fun v1 H1 k0 =>
 faK 0 v1 fun v2 =>
 ldK true 2 v2 H1 fun v3 =>
 newK 102 [.sl0, (.i .i64 0)] H1 fun v4 H2 =>
 caK rec 70 [v3] H2 fun v5 H3 =>
 stK 2 v5 v4 H3 fun H4 =>
 faK 0 v4 fun v6 =>
 ldK false 1 v6 H4 fun v7 =>
 lnK .sl H4 v7 fun v8 =>
 binK .sub .no v8 (.i .i64 1) fun v9 =>
 faK 1 v4 fun v10 =>
 stK 1 v9 v10 H4 fun H5 =>
 ldK true 2 v4 H5 fun v11 =>
 stK 2 v11 v0 H5 fun H6 =>
 (endK recD [.cell true 2 s2]) .ret (Env.put s3 v4 (Env.put s2 v0 e)) H6 k0
theorem Tryz.cOk68 : (compFn Tryz.prog Tryz.f68).map (bodyK 68) = some Tryz.c68 := by kernel_rfl
def Tryz.c83 : FnK := fun rec recD args H => startK 1 args fun e =>
 seqK (fun K0 =>
 lnK .sl H (Env.get s0 e) fun v0 =>
 binK .lss .no v0 (.i .i64 2) fun v1 =>
 condK v1 (K0 .ret (Env.put s2 (Env.get s0 e) (Env.put s8 v1 (Env.put s2 .sl0 e))) H (Ctl.mk [] .none))
 (K0 .norm (Env.put s8 v1 (Env.put s2 .sl0 e)) H (Ctl.mk [] .none))) (fun k0 e0 H0 =>
 seqK (fun K1 =>
 blockK 0 (fun K2 =>
 loopK (fun k1 e1 H1 K3 =>
 seqK (fun K4 =>
 lnK .sl H1 (Env.get s0 e1) fun v2 =>
 binK .lss .no (Env.get s3 e1) v2 fun v3 =>
 condK v3 (K4 .norm (Env.put s13 v3 e1) H1 k1)
 (K4 (.exit 0) (Env.put s13 v3 e1) H1 k1)) (fun k2 e2 H2 =>
 seqK (fun K5 =>
 blockK 1 (fun K6 =>
 iaK .none 3 (Env.get s0 e2) (Env.get s3 e2) fun v4 =>
 ldK true 3 v4 H2 fun v5 =>
 binK .sub .no (Env.get s3 e2) (.i .i64 1) fun v6 =>
 iaK .none 3 (Env.get s0 e2) v6 fun v7 =>
 ldK true 3 v7 H2 fun v8 =>
 binK .eql (.flat [(0, .i), (1, .i), (2, .i)]) v5 v8 fun v9 =>
 condK v9 (slK (.some 3) (Env.get s0 e2) (.some (Env.get s3 e2)) .none .none fun v10 =>
 seqK (fun K7 =>
 blockK 2 (fun K8 =>
 loopK (fun k3 e3 H3 K9 =>
 seqK (fun K10 =>
 lnK .sl H3 (Env.get s4 e3) fun v11 =>
 binK .lss .no (Env.get s5 e3) v11 fun v12 =>
 condK v12 (K10 .norm (Env.put s32 v12 e3) H3 k3)
 (K10 (.exit 2) (Env.put s32 v12 e3) H3 k3)) (fun k4 e4 H4 =>
 seqK (fun K11 =>
 blockK 3 (fun K12 =>
 iaK .none 3 (Env.get s4 e4) (Env.get s5 e4) fun v13 =>
 ldK true 3 v13 H4 fun v14 =>
 binK .sub .no (Env.get s5 e4) (.i .i64 1) fun v15 =>
 iaK .none 3 (Env.get s4 e4) v15 fun v16 =>
 ldK true 3 v16 H4 fun v17 =>
 binK .neq (.flat [(0, .i), (1, .i), (2, .i)]) v14 v17 fun v18 =>
 condK v18 (iaK .none 3 (Env.get s4 e4) (Env.get s5 e4) fun v19 =>
 ldK true 3 v19 H4 fun v20 =>
 iaK .none 3 (Env.get s0 e4) (Env.get s3 e4) fun v21 =>
 stK 3 v20 v21 H4 fun H5 =>
 binK .add .no (Env.get s3 e4) (.i .i64 1) fun v22 =>
 K12 .norm (Env.put s3 v22 (Env.put s44 v18 e4)) H5 k4)
 (K12 .norm (Env.put s44 v18 e4) H4 k4)) K11) (fun k5 e5 H6 =>
 binK .add .no (Env.get s5 e5) (.i .i64 1) fun v11 =>
 K9 .norm (Env.put s5 v11 e5) H6 k5) K9) K9) rounds K8 k2 (Env.put s5 (.i .i64 1) (Env.put s4 v10 (Env.put s25 v9 e2))) H2) K7) (fun k6 e6 H7 =>
 slK (.some 3) (Env.get s0 e6) (.some (Env.get s3 e6)) .none .none fun v23 =>
 genK roundT rec (.ext 999 []) k6 e6 [v23] H7 fun v24 H8 k7 =>
 slK (.some 3) (Env.get s0 e6) .none (.some (Env.get s3 e6)) .none fun v25 =>
 K6 .ret (Env.put s2 v25 e6) H8 k7) K6)
 (K6 .norm (Env.put s25 v9 e2) H2 k2)) K5) (fun k8 e7 H9 =>
 binK .add .no (Env.get s3 e7) (.i .i64 1) fun v2 =>
 K3 .norm (Env.put s3 v2 e7) H9 k8) K3) K3) rounds K2 k0 (Env.put s3 (.i .i64 1) e0) H0) K1) (fun k9 e8 H10 =>
 (endK recD [.slot s2]) .ret (Env.put s2 (Env.get s0 e8) e8) H10 k9) (endK recD [.slot s2])) (endK recD [.slot s2])
theorem Tryz.cOk83 : (compFn Tryz.prog Tryz.f83).map (bodyK 83) = some Tryz.c83 := by kernel_rfl
def Tryz.c84 : FnK := fun rec recD args H => startK 1 args fun e =>
 genK roundT rec (.nilCheck (.s s0)) (Ctl.mk [] .none) (Env.put s2 .sl0 e) [] H fun v0 H0 k0 =>
 faK 0 v0 fun v1 =>
 ldK false 1 v1 H0 fun v2 =>
 caK rec 141 [v2] H0 fun v3 H1 =>
 (endK recD [.slot s2]) .ret (Env.put s2 v3 (Env.put s2 .sl0 e)) H1 k0
theorem Tryz.cOk84 : (compFn Tryz.prog Tryz.f84).map (bodyK 84) = some Tryz.c84 := by kernel_rfl
def Tryz.c87 : FnK := fun rec recD args H => startK 1 args fun e =>
 genK roundT rec (.nilCheck (.s s0)) (Ctl.mk [] .none) (Env.put s2 .p0 e) [] H fun v0 H0 k0 =>
 faK 5 v0 fun v1 =>
 ldK false 1 v1 H0 fun v2 =>
 (endK recD [.slot s2]) .ret (Env.put s2 v2 (Env.put s2 .p0 e)) H0 k0
theorem Tryz.cOk87 : (compFn Tryz.prog Tryz.f87).map (bodyK 87) = some Tryz.c87 := by kernel_rfl
def Tryz.c88 : FnK := fun rec recD args H => startK 3 args fun e =>
 newK 163 [(.s []), (.s []), (.i .i64 0), (.i .i64 0), (.s []), (.i .i64 0), (.s []), .sl0] H fun v0 H0 =>
 seqK (fun K0 =>
 caK rec 133 [(Env.get s0 e), (Env.get s1 e)] H0 fun v1 H1 =>
 lnK .sl H1 v1 fun v2 =>
 blockK 0 (fun K1 =>
 loopK (fun k0 e0 H2 K2 =>
 binK .lss .no (Env.get s16 e0) (Env.get s15 e0) fun v3 =>
 seqK (fun K3 =>
 condK v3 (K3 .norm (Env.put s17 v3 e0) H2 k0)
 (K3 (.exit 0) (Env.put s17 v3 e0) H2 k0)) (fun k1 e1 H3 =>
 seqK (fun K4 =>
 blockK 1 (fun K5 =>
 iaK .none 1 (Env.get s14 e1) (Env.get s16 e1) fun v4 =>
 ldK false 1 v4 H3 fun v5 =>
 genK roundT rec (.nilCheck (.s s0)) k1 (Env.put s9 v5 e1) [] H3 fun v6 H4 k2 =>
 faK 3 v6 fun v7 =>
 ldK false 1 v7 H4 fun v8 =>
 genK roundT rec (.lookup .s .p0 false (.l 0) (.s s9)) k2 (Env.put s9 v5 e1) [v8, v7, v6] H4 fun v9 H5 k3 =>
 genK roundT rec (.nilCheck (.l 0)) k3 (Env.put s9 v5 e1) [v9, v8, v7, v6] H5 fun v10 H6 k4 =>
 faK 4 v10 fun v11 =>
 ldK false 1 v11 H6 fun v12 =>
 newK 163 [(.s []), (.s []), (.i .i64 0), (.i .i64 0), (.s []), (.i .i64 0), (.s []), .sl0] H6 fun v13 H7 =>
 caK rec 142 [v12, (Env.get s2 e1)] H7 fun v14 H8 =>
 exK 0 v14 fun v15 =>
 exK 1 v14 fun v16 =>
 stK 8 v15 v13 H8 fun H9 =>
 condK v16 (ldK true 8 v13 H9 fun v17 =>
 stK 8 v17 (Env.get s6 e1) H9 fun H10 =>
 K5 .ret (Env.put s7 (.b true) (Env.put s34 v16 (Env.put s10 v13 (Env.put s11 v16 (Env.put s9 v5 e1))))) H10 k4)
 (K5 .norm (Env.put s34 v16 (Env.put s10 v13 (Env.put s11 v16 (Env.put s9 v5 e1)))) H9 k4)) K4) (fun k5 e2 H11 =>
 binK .add .no (Env.get s16 e2) (.i .i64 1) fun v18 =>
 K2 .norm (Env.put s16 v18 e2) H11 k5) K2) K2) rounds K1 (Ctl.mk [] .none) (Env.put s14 v1 (Env.put s15 v2 (Env.put s16 (.i .i64 0) (Env.put s6 v0 (Env.put s7 (.b false) e))))) H1) K0) (fun k6 e3 H12 =>
 bdK [(.s []), (.s []), (.i .i64 0), (.i .i64 0), (.s []), (.i .i64 0), (.s []), .sl0] [] fun v1 =>
 stK 8 v1 (Env.get s6 e3) H12 fun H13 =>
 (endK recD [.cell true 8 s6, .slot s7]) .ret (Env.put s7 (.b false) e3) H13 k6) (endK recD [.cell true 8 s6, .slot s7])
theorem Tryz.cOk88 : (compFn Tryz.prog Tryz.f88).map (bodyK 88) = some Tryz.c88 := by kernel_rfl
def Tryz.c89 : FnK := fun rec recD args H => startK 2 args fun e =>
 seqK (fun K0 =>
 genK roundT rec (.nilCheck (.s s0)) (Ctl.mk [] .none) (Env.put s4 (.s []) e) [] H fun v0 H0 k0 =>
 faK 3 v0 fun v1 =>
 ldK false 1 v1 H0 fun v2 =>
 genK roundT rec (.lookup .s .p0 false (.l 0) (.s s1)) k0 (Env.put s4 (.s []) e) [v2, v1, v0] H0 fun v3 H1 k1 =>
 binK .neq .ptr v3 .p0 fun v4 =>
 condK v4 (genK roundT rec (.nilCheck (.s s5)) k1 (Env.put s13 v4 (Env.put s5 v3 (Env.put s4 (.s []) e))) [] H1 fun v5 H2 k2 =>
 faK 2 v5 fun v6 =>
 ldK false 1 v6 H2 fun v7 =>
 K0 .ret (Env.put s4 v7 (Env.put s13 v4 (Env.put s5 v3 (Env.put s4 (.s []) e)))) H2 k2)
 (K0 .norm (Env.put s13 v4 (Env.put s5 v3 (Env.put s4 (.s []) e))) H1 k1)) (fun k3 e0 H3 =>
 (endK recD [.slot s4]) .ret (Env.put s4 (.s []) e0) H3 k3) (endK recD [.slot s4])
theorem Tryz.cOk89 : (compFn Tryz.prog Tryz.f89).map (bodyK 89) = some Tryz.c89 := by kernel_rfl
def Tryz.c92 : FnK := fun rec recD args H => startK 2 args fun e =>
 bxK 74 (Env.get s1 e) H fun v0 H0 =>
 newK 202 [(.i .i64 0), (.s []), (.i .i64 0), (.s []), .sl0] H0 fun v1 H1 =>
 ldK true 4 v0 H1 fun v2 =>
 bdK [(.i .i64 0), (.s []), (.i .i64 0), (.s []), .sl0] [(0, 4, v2)] fun v3 =>
 newK 202 [(.i .i64 0), (.s []), (.i .i64 0), (.s []), .sl0] H1 fun v4 H2 =>
 stK 5 v3 v4 H2 fun H3 =>
 seqK (fun K0 =>
 faK 2 v0 fun v5 =>
 ldK false 1 v5 H3 fun v6 =>
 binK .add .no v6 (.i .i64 1) fun v7 =>
 blockK 0 (fun K1 =>
 loopK (fun k0 e0 H4 K2 =>
 binK .lss .no (Env.get s12 e0) (Env.get s11 e0) fun v8 =>
 seqK (fun K3 =>
 condK v8 (K3 .norm (Env.put s13 v8 e0) H4 k0)
 (K3 (.exit 0) (Env.put s13 v8 e0) H4 k0)) (fun k1 e1 H5 =>
 seqK (fun K4 =>
 blockK 1 (fun K5 =>
 faK 4 (Env.get s5 e1) fun v9 =>
 ldK false 1 v9 H5 fun v10 =>
 bdK [(.i .i64 0), (.i .i64 0)] [(0, 1, (Env.get s0 e1)), (1, 1, (Env.get s12 e1))] fun v11 =>
 genK roundT rec (.buildSlice 47 1 2 [(.i .i64 0), (.i .i64 0)] [(0, (.l 0))]) k1 (Env.put s6 (Env.get s12 e1) e1) [v11, v10, v9] H5 fun v12 H6 k2 =>
 apK 47 2 [(.i .i64 0), (.i .i64 0)] H6 v10 v12 fun v13 H7 =>
 faK 4 (Env.get s5 e1) fun v14 =>
 stK 1 v13 v14 H7 fun H8 =>
 K5 .norm (Env.put s6 (Env.get s12 e1) e1) H8 k2) K4) (fun k3 e2 H9 =>
 binK .add .no (Env.get s12 e2) (.i .i64 1) fun v15 =>
 K2 .norm (Env.put s12 v15 e2) H9 k3) K2) K2) rounds K1 (Ctl.mk [] .none) (Env.put s11 v7 (Env.put s12 (.i .i64 0) (Env.put s5 v4 (Env.put s3 v0 (Env.put s4 v1 e))))) H3) K0) (fun k4 e3 H10 =>
 ldK true 5 (Env.get s5 e3) H10 fun v5 =>
 stK 5 v5 (Env.get s4 e3) H10 fun H11 =>
 (endK recD [.cell true 5 s4]) .ret e3 H11 k4) (endK recD [.cell true 5 s4])
theorem Tryz.cOk92 : (compFn Tryz.prog Tryz.f92).map (bodyK 92) = some Tryz.c92 := by kernel_rfl
def Tryz.c103 : FnK := fun rec recD args H => startK 3 args fun e =>
 seqK (fun K0 =>
 blockK 0 (fun K1 =>
 loopK (fun k0 e0 H0 K2 =>
 seqK (fun K3 =>
 binK .leq .no (Env.get s8 e0) (Env.get s1 e0) fun v0 =>
 condK v0 (K3 .norm (Env.put s13 v0 e0) H0 k0)
 (K3 (.exit 0) (Env.put s13 v0 e0) H0 k0)) (fun k1 e1 H1 =>
 blockK 1 (fun K4 =>
 caK rec 163 [(Env.get s0 e1), (Env.get s7 e1), (Env.get s8 e1), (Env.get s2 e1)] H1 fun v1 H2 =>
 binK .add .no (Env.get s8 e1) (Env.get s6 e1) fun v2 =>
 K4 .norm (Env.put s8 v2 (Env.put s7 (Env.get s8 e1) e1)) H2 k1) K2) K2) rounds K1 (Ctl.mk [] .none) (Env.put s7 (.i .i64 0) (Env.put s8 (.i .i64 20) (Env.put s6 (.i .i64 20) e))) H) K0) (fun k2 e2 H3 =>
 caK rec 163 [(Env.get s0 e2), (Env.get s7 e2), (Env.get s1 e2), (Env.get s2 e2)] H3 fun v3 H4 =>
 blockK 2 (fun K3 =>
 loopK (fun k3 e3 H5 K4 =>
 seqK (fun K5 =>
 binK .lss .no (Env.get s6 e3) (Env.get s1 e3) fun v4 =>
 condK v4 (K5 .norm (Env.put s30 v4 e3) H5 k3)
 (K5 (.exit 2) (Env.put s30 v4 e3) H5 k3)) (fun k4 e4 H6 =>
 blockK 3 (fun K6 =>
 binK .mul .no (.i .i64 2) (Env.get s6 e4) fun v5 =>
 seqK (fun K7 =>
 blockK 4 (fun K8 =>
 loopK (fun k5 e5 H7 K9 =>
 seqK (fun K10 =>
 binK .leq .no (Env.get s8 e5) (Env.get s1 e5) fun v6 =>
 condK v6 (K10 .norm (Env.put s35 v6 e5) H7 k5)
 (K10 (.exit 4) (Env.put s35 v6 e5) H7 k5)) (fun k6 e6 H8 =>
 blockK 5 (fun K11 =>
 binK .add .no (Env.get s7 e6) (Env.get s6 e6) fun v7 =>
 caK rec 164 [(Env.get s0 e6), (Env.get s7 e6), v7, (Env.get s8 e6), (Env.get s2 e6)] H8 fun v8 H9 =>
 binK .mul .no (.i .i64 2) (Env.get s6 e6) fun v9 =>
 binK .add .no (Env.get s8 e6) v9 fun v10 =>
 K11 .norm (Env.put s8 v10 (Env.put s7 (Env.get s8 e6) e6)) H9 k6) K9) K9) rounds K8 k4 (Env.put s7 (.i .i64 0) (Env.put s8 v5 e4)) H6) K7) (fun k7 e7 H10 =>
 seqK (fun K8 =>
 binK .add .no (Env.get s7 e7) (Env.get s6 e7) fun v11 =>
 binK .lss .no v11 (Env.get s1 e7) fun v6 =>
 condK v6 (caK rec 164 [(Env.get s0 e7), (Env.get s7 e7), v11, (Env.get s1 e7), (Env.get s2 e7)] H10 fun v12 H11 =>
 K8 .norm (Env.put s54 v6 (Env.put s9 v11 e7)) H11 k7)
 (K8 .norm (Env.put s54 v6 (Env.put s9 v11 e7)) H10 k7)) (fun k8 e8 H12 =>
 binK .mul .no (Env.get s6 e8) (.i .i64 2) fun v13 =>
 K6 .norm (Env.put s6 v13 e8) H12 k8) K6) K6) K4) K4) rounds K3 k2 e2 H4) (endK recD [])) (endK recD [])
theorem Tryz.cOk103 : (compFn Tryz.prog Tryz.f103).map (bodyK 103) = some Tryz.c103 := by kernel_rfl
def Tryz.c110 : FnK := fun rec recD args H => startK 1 args fun e =>
 genK roundT rec (.nilCheck (.s s0)) (Ctl.mk [] .none) (Env.put s2 (.i .i64 0) (Env.put s3 (.i .i64 0) e)) [] H fun v0 H0 k0 =>
 faK 1 v0 fun v1 =>
 ldK false 1 v1 H0 fun v2 =>
 genK roundT rec (.nilCheck (.s s0)) k0 (Env.put s2 (.i .i64 0) (Env.put s3 (.i .i64 0) e)) [v2, v1, v0] H0 fun v3 H1 k1 =>
 faK 0 v3 fun v4 =>
 ldK false 1 v4 H1 fun v5 =>
 genK roundT rec (.nilCheck (.s s0)) k1 (Env.put s2 (.i .i64 0) (Env.put s3 (.i .i64 0) e)) [v5, v4, v3, v2, v1, v0] H1 fun v6 H2 k2 =>
 faK 1 v6 fun v7 =>
 ldK false 1 v7 H2 fun v8 =>
 ixK .none v5 v8 fun v9 =>
 seqK (fun K0 =>
 blockK 0 (fun K1 =>
 caK rec 169 [v9] H2 fun v10 H3 =>
 condK v10 (caK rec 166 [(Env.get s0 e), (.f 170 [] [])] H3 fun v11 H4 =>
 seqK (fun K2 =>
 genK roundT rec (.nilCheck (.s s0)) k2 (Env.put s21 v10 (Env.put s4 v2 (Env.put s5 v9 (Env.put s2 (.i .i64 0) (Env.put s3 (.i .i64 0) e))))) [] H4 fun v12 H5 k3 =>
 faK 1 v12 fun v13 =>
 ldK false 1 v13 H5 fun v14 =>
 binK .sub .no v14 v2 fun v15 =>
 binK .gtr .no v15 (.i .i64 64) fun v16 =>
 condK v16 (K2 .ret (Env.put s2 (.i .i64 0) (Env.put s3 (.i .i64 2) (Env.put s32 v16 (Env.put s21 v10 (Env.put s4 v2 (Env.put s5 v9 (Env.put s2 (.i .i64 0) (Env.put s3 (.i .i64 0) e)))))))) H5 k3)
 (K2 .norm (Env.put s32 v16 (Env.put s21 v10 (Env.put s4 v2 (Env.put s5 v9 (Env.put s2 (.i .i64 0) (Env.put s3 (.i .i64 0) e)))))) H5 k3)) (fun k4 e0 H6 =>
 K1 .ret (Env.put s2 (.i .i64 1) (Env.put s3 (.i .i64 0) e0)) H6 k4) K1)
 (caK rec 171 [v9] H3 fun v11 H4 =>
 condK v11 (caK rec 166 [(Env.get s0 e), (.f 171 [] [])] H4 fun v17 H7 =>
 seqK (fun K3 =>
 genK roundT rec (.nilCheck (.s s0)) k2 (Env.put s6 (.i .i64 2) (Env.put s33 v11 (Env.put s21 v10 (Env.put s4 v2 (Env.put s5 v9 (Env.put s2 (.i .i64 0) (Env.put s3 (.i .i64 0) e))))))) [] H7 fun v18 H8 k5 =>
 faK 1 v18 fun v19 =>
 ldK false 1 v19 H8 fun v20 =>
 binK .add .no v20 (.i .i64 1) fun v21 =>
 genK roundT rec (.nilCheck (.s s0)) k5 (Env.put s6 (.i .i64 2) (Env.put s33 v11 (Env.put s21 v10 (Env.put s4 v2 (Env.put s5 v9 (Env.put s2 (.i .i64 0) (Env.put s3 (.i .i64 0) e))))))) [v21, v20, v19, v18] H8 fun v22 H9 k6 =>
 faK 0 v22 fun v23 =>
 ldK false 1 v23 H9 fun v24 =>
 lnK .s H9 v24 fun v25 =>
 binK .lss .no v21 v25 fun v26 =>
 gdK v26 true (fun R0 => R0 (Env.get s0 e) H9 k6) H9 k6 fun v27 H10 k7 =>
 gdK v26 true (fun R1 => genK roundT rec (.nilCheck (.l 0)) k7 (Env.put s6 (.i .i64 2) (Env.put s33 v11 (Env.put s21 v10 (Env.put s4 v2 (Env.put s5 v9 (Env.put s2 (.i .i64 0) (Env.put s3 (.i .i64 0) e))))))) [v27, v26, v25, v24, v23, v22, v21, v20, v19, v18] H10 fun v28 H11 k8 =>
 R1 v28 H11 k8) H10 k7 fun v28 H11 k8 =>
 gdK v26 true (fun R2 => faK 0 v28 fun v29 =>
 R2 v29 H11 k8) H11 k8 fun v29 H12 k9 =>
 gdK v26 true (fun R3 => ldK false 1 v29 H12 fun v30 =>
 R3 v30 H12 k9) H12 k9 fun v30 H13 k10 =>
 gdK v26 true (fun R4 => R4 (Env.get s0 e) H13 k10) H13 k10 fun v31 H14 k11 =>
 gdK v26 true (fun R5 => genK roundT rec (.nilCheck (.l 0)) k11 (Env.put s6 (.i .i64 2) (Env.put s33 v11 (Env.put s21 v10 (Env.put s4 v2 (Env.put s5 v9 (Env.put s2 (.i .i64 0) (Env.put s3 (.i .i64 0) e))))))) [v31, v30, v29, v28, v27, v26, v25, v24, v23, v22, v21, v20, v19, v18] H14 fun v32 H15 k12 =>
 R5 v32 H15 k12) H14 k11 fun v32 H15 k12 =>
 gdK v26 true (fun R6 => faK 1 v32 fun v33 =>
 R6 v33 H15 k12) H15 k12 fun v33 H16 k13 =>
 gdK v26 true (fun R7 => ldK false 1 v33 H16 fun v34 =>
 R7 v34 H16 k13) H16 k13 fun v34 H17 k14 =>
 gdK v26 true (fun R8 => ixK .none v30 v34 fun v35 =>
 R8 v35 H17 k14) H17 k14 fun v35 H18 k15 =>
 gdK v26 true (fun R9 => binK .eql .no v35 (.i .u8 46) fun v36 =>
 R9 v36 H18 k15) H18 k15 fun v36 H19 k16 =>
 pkK v26 v36 (.b false) fun v37 =>
 gdK v37 true (fun R10 => R10 (Env.get s0 e) H19 k16) H19 k16 fun v38 H20 k17 =>
 gdK v37 true (fun R11 => genK roundT rec (.nilCheck (.l 0)) k17 (Env.put s6 (.i .i64 2) (Env.put s33 v11 (Env.put s21 v10 (Env.put s4 v2 (Env.put s5 v9 (Env.put s2 (.i .i64 0) (Env.put s3 (.i .i64 0) e))))))) [v38, v37, v36, v35, v34, v33, v32, v31, v30, v29, v28, v27, v26, v25, v24, v23, v22, v21, v20, v19, v18] H20 fun v39 H21 k18 =>
 R11 v39 H21 k18) H20 k17 fun v39 H21 k18 =>
 gdK v37 true (fun R12 => faK 0 v39 fun v40 =>
 R12 v40 H21 k18) H21 k18 fun v40 H22 k19 =>
 gdK v37 true (fun R13 => ldK false 1 v40 H22 fun v41 =>
 R13 v41 H22 k19) H22 k19 fun v41 H23 k20 =>
 gdK v37 true (fun R14 => R14 (Env.get s0 e) H23 k20) H23 k20 fun v42 H24 k21 =>
 gdK v37 true (fun R15 => genK roundT rec (.nilCheck (.l 0)) k21 (Env.put s6 (.i .i64 2) (Env.put s33 v11 (Env.put s21 v10 (Env.put s4 v2 (Env.put s5 v9 (Env.put s2 (.i .i64 0) (Env.put s3 (.i .i64 0) e))))))) [v42, v41, v40, v39, v38, v37, v36, v35, v34, v33, v32, v31, v30, v29, v28, v27, v26, v25, v24, v23, v22, v21, v20, v19, v18] H24 fun v43 H25 k22 =>
 R15 v43 H25 k22) H24 k21 fun v43 H25 k22 =>
 gdK v37 true (fun R16 => faK 1 v43 fun v44 =>
 R16 v44 H25 k22) H25 k22 fun v44 H26 k23 =>
 gdK v37 true (fun R17 => ldK false 1 v44 H26 fun v45 =>
 R17 v45 H26 k23) H26 k23 fun v45 H27 k24 =>
 gdK v37 true (fun R18 => binK .add .no v45 (.i .i64 1) fun v46 =>
 R18 v46 H27 k24) H27 k24 fun v46 H28 k25 =>
 gdK v37 true (fun R19 => ixK .none v41 v46 fun v47 =>
 R19 v47 H28 k25) H28 k25 fun v47 H29 k26 =>
 gdK v37 true (fun R20 => caK rec 171 [v47] H29 fun v48 H30 =>
 R20 v48 H30 k26) H29 k26 fun v48 H30 k27 =>
 pkK v37 v48 (.b false) fun v49 =>
 condK v49 (genK roundT rec (.nilCheck (.s s0)) k27 (Env.put s6 (.i .i64 3) (Env.put s73 v49 (Env.put s6 (.i .i64 2) (Env.put s33 v11 (Env.put s21 v10 (Env.put s4 v2 (Env.put s5 v9 (Env.put s2 (.i .i64 0) (Env.put s3 (.i .i64 0) e))))))))) [] H30 fun v50 H31 k28 =>
 faK 1 v50 fun v51 =>
 ldK false 1 v51 H31 fun v52 =>
 binK .add .no v52 (.i .i64 1) fun v53 =>
 genK roundT rec (.nilCheck (.s s0)) k28 (Env.put s6 (.i .i64 3) (Env.put s73 v49 (Env.put s6 (.i .i64 2) (Env.put s33 v11 (Env.put s21 v10 (Env.put s4 v2 (Env.put s5 v9 (Env.put s2 (.i .i64 0) (Env.put s3 (.i .i64 0) e))))))))) [v53, v52, v51, v50] H31 fun v54 H32 k29 =>
 faK 1 v54 fun v55 =>
 stK 1 v53 v55 H32 fun H33 =>
 caK rec 166 [(Env.get s0 e), (.f 171 [] [])] H33 fun v56 H34 =>
 K3 .norm (Env.put s6 (.i .i64 3) (Env.put s73 v49 (Env.put s6 (.i .i64 2) (Env.put s33 v11 (Env.put s21 v10 (Env.put s4 v2 (Env.put s5 v9 (Env.put s2 (.i .i64 0) (Env.put s3 (.i .i64 0) e))))))))) H34 k29)
 (K3 .norm (Env.put s73 v49 (Env.put s6 (.i .i64 2) (Env.put s33 v11 (Env.put s21 v10 (Env.put s4 v2 (Env.put s5 v9 (Env.put s2 (.i .i64 0) (Env.put s3 (.i .i64 0) e)))))))) H30 k27)) (fun k30 e1 H35 =>
 seqK (fun K4 =>
 genK roundT rec (.nilCheck (.s s0)) k30 e1 [] H35 fun v57 H36 k31 =>
 faK 1 v57 fun v58 =>
 ldK false 1 v58 H36 fun v59 =>
 binK .sub .no v59 (Env.get s4 e1) fun v60 =>
 binK .gtr .no v60 (.i .i64 20) fun v61 =>
 condK v61 (K4 .ret (Env.put s2 (.i .i64 0) (Env.put s3 (.i .i64 2) (Env.put s89 v61 e1))) H36 k31)
 (K4 .norm (Env.put s89 v61 e1) H36 k31)) (fun k32 e2 H37 =>
 K1 .ret (Env.put s2 (Env.get s6 e2) (Env.put s3 (.i .i64 0) e2)) H37 k32) K1) K1)
 (binK .eql .no v9 (.i .u8 34) fun v12 =>
 condK v12 (caK rec 172 [(Env.get s0 e)] H4 fun v62 H38 =>
 seqK (fun K4 =>
 binK .eql .no v62 (.i .i64 0) fun v57 =>
 gdK v57 true (fun R21 => R21 (Env.get s0 e) H38 k2) H38 k2 fun v58 H39 k33 =>
 gdK v57 true (fun R22 => genK roundT rec (.nilCheck (.l 0)) k33 (Env.put s7 v62 (Env.put s91 v12 (Env.put s33 v11 (Env.put s21 v10 (Env.put s4 v2 (Env.put s5 v9 (Env.put s2 (.i .i64 0) (Env.put s3 (.i .i64 0) e)))))))) [v58, v57] H39 fun v59 H40 k34 =>
 R22 v59 H40 k34) H39 k33 fun v59 H40 k34 =>
 gdK v57 true (fun R23 => faK 1 v59 fun v60 =>
 R23 v60 H40 k34) H40 k34 fun v60 H41 k35 =>
 gdK v57 true (fun R24 => ldK false 1 v60 H41 fun v61 =>
 R24 v61 H41 k35) H41 k35 fun v61 H42 k36 =>
 gdK v57 true (fun R25 => R25 v2 H42 k36) H42 k36 fun v63 H43 k37 =>
 gdK v57 true (fun R26 => binK .sub .no v61 v63 fun v64 =>
 R26 v64 H43 k37) H43 k37 fun v64 H44 k38 =>
 gdK v57 true (fun R27 => binK .gtr .no v64 (.i .i64 256) fun v65 =>
 R27 v65 H44 k38) H44 k38 fun v65 H45 k39 =>
 pkK v57 v65 (.b false) fun v66 =>
 condK v66 (K4 .norm (Env.put s7 (.i .i64 2) (Env.put s106 v66 (Env.put s7 v62 (Env.put s91 v12 (Env.put s33 v11 (Env.put s21 v10 (Env.put s4 v2 (Env.put s5 v9 (Env.put s2 (.i .i64 0) (Env.put s3 (.i .i64 0) e)))))))))) H45 k39)
 (K4 .norm (Env.put s106 v66 (Env.put s7 v62 (Env.put s91 v12 (Env.put s33 v11 (Env.put s21 v10 (Env.put s4 v2 (Env.put s5 v9 (Env.put s2 (.i .i64 0) (Env.put s3 (.i .i64 0) e))))))))) H45 k39)) (fun k32 e2 H37 =>
 K1 .ret (Env.put s2 (.i .i64 4) (Env.put s3 (Env.get s7 e2) e2)) H37 k32) K1)
 (K1 .norm (Env.put s91 v12 (Env.put s33 v11 (Env.put s21 v10 (Env.put s4 v2 (Env.put s5 v9 (Env.put s2 (.i .i64 0) (Env.put s3 (.i .i64 0) e))))))) H4 k2)))) K0) (fun k40 e3 H46 =>
 caK rec 173 [(Env.get s0 e3)] H46 fun v67 H47 =>
 (endK recD [.slot s2, .slot s3]) .ret (Env.put s2 (.i .i64 5) (Env.put s3 v67 e3)) H47 k40) (endK recD [.slot s2, .slot s3])
theorem Tryz.cOk110 : (compFn Tryz.prog Tryz.f110).map (bodyK 110) = some Tryz.c110 := by kernel_rfl
def Tryz.c121 : FnK := fun rec recD args H => startK 1 args fun e =>
 seqK (fun K0 =>
 binK .eql .sl (Env.get s0 e) .sl0 fun v0 =>
 condK v0 (K0 .ret (Env.put s2 .sl0 (Env.put s4 v0 (Env.put s2 .sl0 e))) H (Ctl.mk [] .none))
 (K0 .norm (Env.put s4 v0 (Env.put s2 .sl0 e)) H (Ctl.mk [] .none))) (fun k0 e0 H0 =>
 genK roundT rec (.buildSlice 9 0 1 [(.s [])] []) k0 e0 [] H0 fun v0 H1 k1 =>
 apK 9 1 [(.s [])] H1 v0 (Env.get s0 e0) fun v1 H2 =>
 (endK recD [.slot s2]) .ret (Env.put s2 v1 e0) H2 k1) (endK recD [.slot s2])
theorem Tryz.cOk121 : (compFn Tryz.prog Tryz.f121).map (bodyK 121) = some Tryz.c121 := by kernel_rfl
def Tryz.c129 : FnK := fun rec recD args H => startK 3 args fun e =>
 bxK 177 (Env.get s2 e) H fun v0 H0 =>
 genK roundT rec (.nilCheck (.s s0)) (Ctl.mk [] .none) (Env.put s5 v0 e) [] H0 fun v1 H1 k0 =>
 faK 0 v1 fun v2 =>
 ldK false 1 v2 H1 fun v3 =>
 newK 76 [(.i .i64 0), (.i .i64 0), (.i .i64 0), .sl0, (.s []), (.i .i64 0), (.s []), (.i .i64 0), (.s []), (.i .i64 0), (.i .i64 0), (.i .i64 0), .sl0] H1 fun v4 H2 =>
 caK rec 23 [v3, (Env.get s1 e)] H2 fun v5 H3 =>
 stK 13 v5 v4 H3 fun H4 =>
 seqK (fun K0 =>
 faK 0 v4 fun v6 =>
 ldK false 1 v6 H4 fun v7 =>
 binK .eql .no v7 (.i .i64 25) fun v8 =>
 gdK v8 true (fun R0 => ldK true 2 v0 H4 fun v9 =>
 R0 v9 H4 k0) H4 k0 fun v9 H5 k1 =>
 gdK v8 true (fun R1 => R1 (Env.get s0 e) H5 k1) H5 k1 fun v10 H6 k2 =>
 gdK v8 true (fun R2 => genK roundT rec (.nilCheck (.l 0)) k2 (Env.put s6 v4 (Env.put s5 v0 e)) [v10, v9, v8, v7, v6] H6 fun v11 H7 k3 =>
 R2 v11 H7 k3) H6 k2 fun v11 H7 k3 =>
 gdK v8 true (fun R3 => faK 0 v11 fun v12 =>
 R3 v12 H7 k3) H7 k3 fun v12 H8 k4 =>
 gdK v8 true (fun R4 => ldK false 1 v12 H8 fun v13 =>
 R4 v13 H8 k4) H8 k4 fun v13 H9 k5 =>
 gdK v8 true (fun R5 => R5 (Env.get s1 e) H9 k5) H9 k5 fun v14 H10 k6 =>
 gdK v8 true (fun R6 => caK rec 29 [v13, v14] H10 fun v15 H11 =>
 boolK (and (again ⟨.load true 2 (.s s5), (.some ((.l 0), true)), []⟩ v9 (Env.put s6 v4 (Env.put s5 v0 e)) [v8, v7, v6] H11) true) (R6 v15 H11 k6)) H10 k6 fun v15 H11 k7 =>
 gdK v8 true (fun R7 => caK rec 196 [v9, v15] H11 fun v16 H12 =>
 R7 v16 H12 k7) H11 k7 fun v16 H12 k8 =>
 gdK v8 true (fun R8 => unK .not v16 fun v17 =>
 R8 v17 H12 k8) H12 k8 fun v17 H13 k9 =>
 pkK v8 v17 (.b false) fun v18 =>
 condK v18 (caK rec 78 [(Env.get s0 e), (.i .i64 140), (Env.get s1 e)] H13 fun v19 H14 =>
 K0 .norm (Env.put s28 v18 (Env.put s6 v4 (Env.put s5 v0 e))) H14 k9)
 (K0 .norm (Env.put s28 v18 (Env.put s6 v4 (Env.put s5 v0 e))) H13 k9)) (fun k10 e0 H15 =>
 faK 3 (Env.get s6 e0) fun v6 =>
 ldK false 1 v6 H15 fun v7 =>
 lnK .sl H15 v7 fun v8 =>
 blockK 0 (fun K1 =>
 loopK (fun k11 e1 H16 K2 =>
 binK .lss .no (Env.get s35 e1) (Env.get s34 e1) fun v20 =>
 seqK (fun K3 =>
 condK v20 (K3 .norm (Env.put s36 v20 e1) H16 k11)
 (K3 (.exit 0) (Env.put s36 v20 e1) H16 k11)) (fun k12 e2 H17 =>
 seqK (fun K4 =>
 blockK 1 (fun K5 =>
 iaK .none 1 (Env.get s33 e2) (Env.get s35 e2) fun v21 =>
 ldK false 1 v21 H17 fun v22 =>
 ldK true 2 (Env.get s5 e2) H17 fun v23 =>
 caK rec 129 [(Env.get s0 e2), v22, v23] H17 fun v24 H18 =>
 K5 .norm (Env.put s8 v22 e2) H18 k12) K4) (fun k13 e3 H19 =>
 binK .add .no (Env.get s35 e3) (.i .i64 1) fun v25 =>
 K2 .norm (Env.put s35 v25 e3) H19 k13) K2) K2) rounds K1 k10 (Env.put s33 v7 (Env.put s34 v8 (Env.put s35 (.i .i64 0) e0))) H15) (endK recD [])) (endK recD [])
theorem Tryz.cOk129 : (compFn Tryz.prog Tryz.f129).map (bodyK 129) = some Tryz.c129 := by kernel_rfl
def Tryz.c135 : FnK := fun rec recD args H => startK 2 args fun e =>
 caK rec 197 [(Env.get s0 e), (Env.get s1 e)] H fun v0 H0 =>
 binK .geq .no v0 (.i .i64 0) fun v1 =>
 (endK recD [.slot s4]) .ret (Env.put s4 v1 (Env.put s4 (.b false) e)) H0 (Ctl.mk [] .none)
theorem Tryz.cOk135 : (compFn Tryz.prog Tryz.f135).map (bodyK 135) = some Tryz.c135 := by kernel_rfl
def Tryz.c139 : FnK := fun rec recD args H => startK 5 args fun e =>
 blockK 0 (fun K0 =>
 loopK (fun k0 e0 H0 K1 =>
 blockK 1 (fun K2 =>
 binK .sub .no (Env.get s2 e0) (Env.get s1 e0) fun v0 =>
 seqK (fun K3 =>
 binK .leq .no v0 (.i .i64 12) fun v1 =>
 condK v1 (caK rec 203 [(Env.get s0 e0), (Env.get s1 e0), (Env.get s2 e0), (Env.get s4 e0)] H0 fun v2 H1 =>
 K3 .ret (Env.put s25 v1 (Env.put s12 v0 e0)) H1 k0)
 (K3 .norm (Env.put s25 v1 (Env.put s12 v0 e0)) H0 k0)) (fun k1 e1 H2 =>
 seqK (fun K4 =>
 binK .eql .no (Env.get s3 e1) (.i .i64 0) fun v3 =>
 condK v3 (caK rec 204 [(Env.get s0 e1), (Env.get s1 e1), (Env.get s2 e1), (Env.get s4 e1)] H2 fun v4 H3 =>
 K4 .ret (Env.put s32 v3 e1) H3 k1)
 (K4 .norm (Env.put s32 v3 e1) H2 k1)) (fun k2 e2 H4 =>
 seqK (fun K5 =>
 unK .not (Env.get s10 e2) fun v5 =>
 condK v5 (caK rec 205 [(Env.get s0 e2), (Env.get s1 e2), (Env.get s2 e2), (Env.get s4 e2)] H4 fun v6 H5 =>
 binK .sub .no (Env.get s3 e2) (.i .i64 1) fun v7 =>
 K5 .norm (Env.put s3 v7 (Env.put s39 v5 e2)) H5 k2)
 (K5 .norm (Env.put s39 v5 e2) H4 k2)) (fun k3 e3 H6 =>
 caK rec 206 [(Env.get s0 e3), (Env.get s1 e3), (Env.get s2 e3), (Env.get s4 e3)] H6 fun v5 H7 =>
 exK 0 v5 fun v8 =>
 exK 1 v5 fun v9 =>
 seqK (fun K6 =>
 binK .eql .no v9 (.i .i64 2) fun v6 =>
 condK v6 (caK rec 207 [(Env.get s0 e3), (Env.get s1 e3), (Env.get s2 e3), (Env.get s4 e3)] H7 fun v10 H8 =>
 binK .sub .no (Env.get s2 e3) (.i .i64 1) fun v11 =>
 binK .sub .no v8 (Env.get s1 e3) fun v12 =>
 binK .sub .no v11 v12 fun v13 =>
 K6 .norm (Env.put s14 (.i .i64 1) (Env.put s13 v13 (Env.put s56 v6 (Env.put s13 v8 (Env.put s14 v9 e3))))) H8 k3)
 (K6 .norm (Env.put s56 v6 (Env.put s13 v8 (Env.put s14 v9 e3))) H7 k3)) (fun k4 e4 H9 =>
 seqK (fun K7 =>
 gdK (Env.get s10 e4) true (fun R0 => R0 (Env.get s11 e4) H9 k4) H9 k4 fun v7 H10 k5 =>
 pkK (Env.get s10 e4) v7 (.b false) fun v14 =>
 gdK v14 true (fun R1 => R1 (Env.get s14 e4) H10 k5) H10 k5 fun v15 H11 k6 =>
 gdK v14 true (fun R2 => binK .eql .no v15 (.i .i64 1) fun v16 =>
 R2 v16 H11 k6) H11 k6 fun v16 H12 k7 =>
 pkK v14 v16 (.b false) fun v17 =>
 condK v17 (caK rec 208 [(Env.get s0 e4), (Env.get s1 e4), (Env.get s2 e4), (Env.get s4 e4)] H12 fun v18 H13 =>
 condK v18 (K7 .ret (Env.put s80 v18 (Env.put s75 v17 e4)) H13 k7)
 (K7 .norm (Env.put s80 v18 (Env.put s75 v17 e4)) H13 k7))
 (K7 .norm (Env.put s75 v17 e4) H12 k7)) (fun k8 e5 H14 =>
 seqK (fun K8 =>
 binK .gtr .no (Env.get s1 e5) (.i .i64 0) fun v19 =>
 gdK v19 true (fun R3 => R3 (Env.get s4 e5) H14 k8) H14 k8 fun v20 H15 k9 =>
 gdK v19 true (fun R4 => R4 (Env.get s0 e5) H15 k9) H15 k9 fun v21 H16 k10 =>
 gdK v19 true (fun R5 => R5 (Env.get s1 e5) H16 k10) H16 k10 fun v22 H17 k11 =>
 gdK v19 true (fun R6 => binK .sub .no v22 (.i .i64 1) fun v23 =>
 R6 v23 H17 k11) H17 k11 fun v23 H18 k12 =>
 gdK v19 true (fun R7 => iaK .none 3 v21 v23 fun v24 =>
 R7 v24 H18 k12) H18 k12 fun v24 H19 k13 =>
 gdK v19 true (fun R8 => ldK true 3 v24 H19 fun v25 =>
 R8 v25 H19 k13) H19 k13 fun v25 H20 k14 =>
 gdK v19 true (fun R9 => R9 (Env.get s0 e5) H20 k14) H20 k14 fun v26 H21 k15 =>
 gdK v19 true (fun R10 => R10 (Env.get s13 e5) H21 k15) H21 k15 fun v27 H22 k16 =>
 gdK v19 true (fun R11 => iaK .none 3 v26 v27 fun v28 =>
 R11 v28 H22 k16) H22 k16 fun v28 H23 k17 =>
 gdK v19 true (fun R12 => ldK true 3 v28 H23 fun v29 =>
 R12 v29 H23 k17) H23 k17 fun v29 H24 k18 =>
 gdK v19 true (fun R13 => genK roundT rec (.callV (.l 9) [(.l 4), (.l 0)]) k18 e5 [v29, v28, v27, v26, v25, v24, v23, v22, v21, v20, v19] H24 fun v30 H25 k19 =>
 R13 v30 H25 k19) H24 k18 fun v30 H25 k19 =>
 gdK v19 true (fun R14 => binK .lss .no v30 (.i .i64 0) fun v31 =>
 R14 v31 H25 k19) H25 k19 fun v31 H26 k20 =>
 gdK v19 true (fun R15 => unK .not v31 fun v32 =>
 R15 v32 H26 k20) H26 k20 fun v32 H27 k21 =>
 pkK v19 v32 (.b false) fun v33 =>
 condK v33 (caK rec 209 [(Env.get s0 e5), (Env.get s1 e5), (Env.get s2 e5), (Env.get s13 e5), (Env.get s4 e5)] H27 fun v11 H28 =>
 K8 (.exit 1) (Env.put s1 v11 (Env.put s15 v11 (Env.put s97 v33 e5))) H28 k21)
 (K8 .norm (Env.put s97 v33 e5) H27 k21)) (fun k22 e6 H29 =>
 caK rec 210 [(Env.get s0 e6), (Env.get s1 e6), (Env.get s2 e6), (Env.get s13 e6), (Env.get s4 e6)] H29 fun v19 H30 =>
 exK 0 v19 fun v20 =>
 exK 1 v19 fun v21 =>
 binK .sub .no v20 (Env.get s1 e6) fun v34 =>
 binK .sub .no (Env.get s2 e6) v20 fun v35 =>
 binK .quo .no (Env.get s12 e6) (.i .i64 8) fun v36 =>
 binK .lss .no v34 v35 fun v37 =>
 condK v37 (binK .geq .no v34 v36 fun v38 =>
 caK rec 139 [(Env.get s0 e6), (Env.get s1 e6), v20, (Env.get s3 e6), (Env.get s4 e6)] H30 fun v39 H31 =>
 binK .add .no v20 (.i .i64 1) fun v40 =>
 K2 .norm (Env.put s1 v40 (Env.put s10 v38 (Env.put s125 v37 (Env.put s20 v36 (Env.put s18 v34 (Env.put s19 v35 (Env.put s11 v21 (Env.put s16 v20 (Env.put s17 v21 e6))))))))) H31 k22)
 (binK .geq .no v35 v36 fun v38 =>
 binK .add .no v20 (.i .i64 1) fun v39 =>
 caK rec 139 [(Env.get s0 e6), v39, (Env.get s2 e6), (Env.get s3 e6), (Env.get s4 e6)] H30 fun v41 H32 =>
 K2 .norm (Env.put s2 v20 (Env.put s10 v38 (Env.put s125 v37 (Env.put s20 v36 (Env.put s18 v34 (Env.put s19 v35 (Env.put s11 v21 (Env.put s16 v20 (Env.put s17 v21 e6))))))))) H32 k22)) K2) K2) K2) K2) K2) K2) K1) rounds K0 (Ctl.mk [] .none) (Env.put s11 (.b true) (Env.put s10 (.b true) e)) H) (endK recD [])
theorem Tryz.cOk139 : (compFn Tryz.prog Tryz.f139).map (bodyK 139) = some Tryz.c139 := by kernel_rfl
def Tryz.c140 : FnK := fun rec recD args H => startK 1 args fun e =>
 seqK (fun K0 =>
 condK (.b false) (genK roundT rec (.convInt .u32 (.s s0)) (Ctl.mk [] .none) (Env.put s2 (.i .i64 0) e) [] H fun v0 H0 k0 =>
 caK rec 211 [v0] H0 fun v1 H1 =>
 K0 .ret (Env.put s2 v1 (Env.put s2 (.i .i64 0) e)) H1 k0)
 (K0 .norm (Env.put s2 (.i .i64 0) e) H (Ctl.mk [] .none))) (fun k1 e0 H2 =>
 caK rec 212 [(Env.get s0 e0)] H2 fun v2 H3 =>
 (endK recD [.slot s2]) .ret (Env.put s2 v2 e0) H3 k1) (endK recD [.slot s2])
theorem Tryz.cOk140 : (compFn Tryz.prog Tryz.f140).map (bodyK 140) = some Tryz.c140 := by kernel_rfl
def Tryz.c141 : FnK := fun rec recD args H => startK 1 args fun e =>
 seqK (fun K0 =>
 binK .eql .sl (Env.get s0 e) .sl0 fun v0 =>
 condK v0 (K0 .ret (Env.put s2 .sl0 (Env.put s4 v0 (Env.put s2 .sl0 e))) H (Ctl.mk [] .none))
 (K0 .norm (Env.put s4 v0 (Env.put s2 .sl0 e)) H (Ctl.mk [] .none))) (fun k0 e0 H0 =>
 genK roundT rec (.buildSlice 189 0 3 [(.i .i64 0), (.i .i64 0), (.i .i64 0)] []) k0 e0 [] H0 fun v0 H1 k1 =>
 apK 189 3 [(.i .i64 0), (.i .i64 0), (.i .i64 0)] H1 v0 (Env.get s0 e0) fun v1 H2 =>
 (endK recD [.slot s2]) .ret (Env.put s2 v1 e0) H2 k1) (endK recD [.slot s2])
theorem Tryz.cOk141 : (compFn Tryz.prog Tryz.f141).map (bodyK 141) = some Tryz.c141 := by kernel_rfl
def Tryz.c142 : FnK := fun rec recD args H => startK 2 args fun e =>
 newK 163 [(.s []), (.s []), (.i .i64 0), (.i .i64 0), (.s []), (.i .i64 0), (.s []), .sl0] H fun v0 H0 =>
 seqK (fun K0 =>
 lnK .sl H0 (Env.get s0 e) fun v1 =>
 blockK 0 (fun K1 =>
 loopK (fun k0 e0 H1 K2 =>
 binK .lss .no (Env.get s10 e0) (Env.get s9 e0) fun v2 =>
 seqK (fun K3 =>
 condK v2 (K3 .norm (Env.put s11 v2 e0) H1 k0)
 (K3 (.exit 0) (Env.put s11 v2 e0) H1 k0)) (fun k1 e1 H2 =>
 seqK (fun K4 =>
 blockK 1 (fun K5 =>
 iaK .none 8 (Env.get s8 e1) (Env.get s10 e1) fun v3 =>
 ldK true 8 v3 H2 fun v4 =>
 newK 163 [(.s []), (.s []), (.i .i64 0), (.i .i64 0), (.s []), (.i .i64 0), (.s []), .sl0] H2 fun v5 H3 =>
 stK 8 v4 v5 H3 fun H4 =>
 faK 1 v5 fun v6 =>
 ldK false 1 v6 H4 fun v7 =>
 binK .eql .no v7 (Env.get s1 e1) fun v8 =>
 condK v8 (ldK true 8 v5 H4 fun v9 =>
 caK rec 122 [v9] H4 fun v10 H5 =>
 stK 8 v10 (Env.get s4 e1) H5 fun H6 =>
 K5 .ret (Env.put s5 (.b true) (Env.put s17 v8 (Env.put s7 v5 e1))) H6 k1)
 (K5 .norm (Env.put s17 v8 (Env.put s7 v5 e1)) H4 k1)) K4) (fun k2 e2 H7 =>
 binK .add .no (Env.get s10 e2) (.i .i64 1) fun v11 =>
 K2 .norm (Env.put s10 v11 e2) H7 k2) K2) K2) rounds K1 (Ctl.mk [] .none) (Env.put s8 (Env.get s0 e) (Env.put s9 v1 (Env.put s10 (.i .i64 0) (Env.put s4 v0 (Env.put s5 (.b false) e))))) H0) K0) (fun k3 e3 H8 =>
 bdK [(.s []), (.s []), (.i .i64 0), (.i .i64 0), (.s []), (.i .i64 0), (.s []), .sl0] [] fun v1 =>
 stK 8 v1 (Env.get s4 e3) H8 fun H9 =>
 (endK recD [.cell true 8 s4, .slot s5]) .ret (Env.put s5 (.b false) e3) H9 k3) (endK recD [.cell true 8 s4, .slot s5])
theorem Tryz.cOk142 : (compFn Tryz.prog Tryz.f142).map (bodyK 142) = some Tryz.c142 := by kernel_rfl
def Tryz.c144 : FnK := fun rec recD args H => startK 2 args fun e =>
 bxK 282 (Env.get s1 e) H fun v0 H0 =>
 genK roundT rec (.nilCheck (.s s0)) (Ctl.mk [] .none) (Env.put s3 v0 (Env.put s4 (.i .i64 0) e)) [] H0 fun v1 H1 k0 =>
 faK 1 v1 fun v2 =>
 ldK false 1 v2 H1 fun v3 =>
 ldK true 5 v0 H1 fun v4 =>
 genK roundT rec (.buildSlice 282 1 5 [(.i .i64 0), (.i .i64 0), (.i .i64 0), (.i .i64 0), (.i .i64 0)] [(0, (.l 0))]) k0 (Env.put s3 v0 (Env.put s4 (.i .i64 0) e)) [v4, v3, v2, v1] H1 fun v5 H2 k1 =>
 apK 282 5 [(.i .i64 0), (.i .i64 0), (.i .i64 0), (.i .i64 0), (.i .i64 0)] H2 v3 v5 fun v6 H3 =>
 genK roundT rec (.nilCheck (.s s0)) k1 (Env.put s3 v0 (Env.put s4 (.i .i64 0) e)) [v6, v5, v4, v3, v2, v1] H3 fun v7 H4 k2 =>
 faK 1 v7 fun v8 =>
 stK 1 v6 v8 H4 fun H5 =>
 genK roundT rec (.nilCheck (.s s0)) k2 (Env.put s3 v0 (Env.put s4 (.i .i64 0) e)) [] H5 fun v9 H6 k3 =>
 faK 1 v9 fun v10 =>
 ldK false 1 v10 H6 fun v11 =>
 lnK .sl H6 v11 fun v12 =>
 binK .sub .no v12 (.i .i64 1) fun v13 =>
 (endK recD [.slot s4]) .ret (Env.put s4 v13 (Env.put s3 v0 (Env.put s4 (.i .i64 0) e))) H6 k3
theorem Tryz.cOk144 : (compFn Tryz.prog Tryz.f144).map (bodyK 144) = some Tryz.c144 := by kernel_rfl
def Tryz.c146 : FnK := fun rec recD args H => startK 1 args fun e =>
 genK roundT rec (.nilCheck (.s s0)) (Ctl.mk [] .none) (Env.put s2 .sl0 e) [] H fun v0 H0 k0 =>
 faK 1 v0 fun v1 =>
 ldK false 1 v1 H0 fun v2 =>
 lnK .sl H0 v2 fun v3 =>
 genK roundT rec (.mkSlice 3 1 [(.i .i64 0)] 8 (.l 0) (.l 0)) k0 (Env.put s2 .sl0 e) [v3, v2, v1, v0] H0 fun v4 H1 k1 =>
 genK roundT rec (.nilCheck (.s s0)) k1 (Env.put s4 .sl0 (Env.put s3 v4 (Env.put s2 .sl0 e))) [] H1 fun v5 H2 k2 =>
 faK 2 v5 fun v6 =>
 ldK false 1 v6 H2 fun v7 =>
 genK roundT rec (.buildSlice 3 1 1 [(.i .i64 0)] [(0, (.l 0))]) k2 (Env.put s4 .sl0 (Env.put s3 v4 (Env.put s2 .sl0 e))) [v7, v6, v5] H2 fun v8 H3 k3 =>
 seqK (fun K0 =>
 blockK 0 (fun K1 =>
 loopK (fun k4 e0 H4 K2 =>
 seqK (fun K3 =>
 lnK .sl H4 (Env.get s5 e0) fun v9 =>
 binK .gtr .no v9 (.i .i64 0) fun v10 =>
 condK v10 (K3 .norm (Env.put s22 v10 e0) H4 k4)
 (K3 (.exit 0) (Env.put s22 v10 e0) H4 k4)) (fun k5 e1 H5 =>
 blockK 1 (fun K4 =>
 lnK .sl H5 (Env.get s5 e1) fun v11 =>
 binK .sub .no v11 (.i .i64 1) fun v12 =>
 iaK .none 1 (Env.get s5 e1) v12 fun v13 =>
 ldK false 1 v13 H5 fun v14 =>
 seqK (fun K5 =>
 iaK .none 1 (Env.get s3 e1) v14 fun v15 =>
 ldK false 1 v15 H5 fun v16 =>
 blockK 2 (fun K6 =>
 binK .eql .no v16 (.i .i64 0) fun v17 =>
 condK v17 (iaK .none 1 (Env.get s3 e1) v14 fun v18 =>
 stK 1 (.i .i64 1) v18 H5 fun H6 =>
 seqK (fun K7 =>
 caK rec 219 [(Env.get s0 e1), v14] H6 fun v19 H7 =>
 lnK .sl H7 v19 fun v20 =>
 blockK 3 (fun K8 =>
 loopK (fun k6 e2 H8 K9 =>
 binK .lss .no (Env.get s42 e2) (Env.get s41 e2) fun v21 =>
 seqK (fun K10 =>
 condK v21 (K10 .norm (Env.put s43 v21 e2) H8 k6)
 (K10 (.exit 3) (Env.put s43 v21 e2) H8 k6)) (fun k7 e3 H9 =>
 seqK (fun K11 =>
 blockK 4 (fun K12 =>
 iaK .none 1 (Env.get s40 e3) (Env.get s42 e3) fun v22 =>
 ldK false 1 v22 H9 fun v23 =>
 iaK .none 1 (Env.get s3 e3) v23 fun v24 =>
 ldK false 1 v24 H9 fun v25 =>
 binK .eql .no v25 (.i .i64 0) fun v26 =>
 condK v26 (genK roundT rec (.buildSlice 3 1 1 [(.i .i64 0)] [(0, (.s s8))]) k7 (Env.put s50 v26 (Env.put s8 v23 e3)) [] H9 fun v27 H10 k8 =>
 apK 3 1 [(.i .i64 0)] H10 (Env.get s5 e3) v27 fun v28 H11 =>
 K12 .norm (Env.put s5 v28 (Env.put s50 v26 (Env.put s8 v23 e3))) H11 k8)
 (K12 .norm (Env.put s50 v26 (Env.put s8 v23 e3)) H9 k7)) K11) (fun k9 e4 H12 =>
 binK .add .no (Env.get s42 e4) (.i .i64 1) fun v29 =>
 K9 .norm (Env.put s42 v29 e4) H12 k9) K9) K9) rounds K8 k5 (Env.put s40 v19 (Env.put s41 v20 (Env.put s42 (.i .i64 0) (Env.put s33 v17 (Env.put s32 v16 (Env.put s6 v14 e1)))))) H7) K7) (fun k10 e5 H13 =>
 K6 (.exit 1) e5 H13 k10) K6)
 (binK .eql .no v16 (.i .i64 1) fun v18 =>
 condK v18 (iaK .none 1 (Env.get s3 e1) v14 fun v19 =>
 stK 1 (.i .i64 2) v19 H5 fun H14 =>
 genK roundT rec (.buildSlice 3 1 1 [(.i .i64 0)] [(0, (.s s6))]) k5 (Env.put s56 v18 (Env.put s33 v17 (Env.put s32 v16 (Env.put s6 v14 e1)))) [] H14 fun v30 H15 k11 =>
 apK 3 1 [(.i .i64 0)] H15 (Env.get s4 e1) v30 fun v31 H16 =>
 K6 .norm (Env.put s4 v31 (Env.put s56 v18 (Env.put s33 v17 (Env.put s32 v16 (Env.put s6 v14 e1))))) H16 k11)
 (K6 .norm (Env.put s56 v18 (Env.put s33 v17 (Env.put s32 v16 (Env.put s6 v14 e1)))) H5 k5))) K5) (fun k12 e6 H17 =>
 lnK .sl H17 (Env.get s5 e6) fun v32 =>
 binK .sub .no v32 (.i .i64 1) fun v33 =>
 slK (.some 1) (Env.get s5 e6) .none (.some v33) .none fun v34 =>
 K4 .norm (Env.put s5 v34 e6) H17 k12) K4) K2) K2) rounds K1 k3 (Env.put s5 v8 (Env.put s4 .sl0 (Env.put s3 v4 (Env.put s2 .sl0 e)))) H3) K0) (fun k13 e7 H18 =>
 caK rec 220 [(Env.get s4 e7)] H18 fun v35 H19 =>
 (endK recD [.slot s2]) .ret (Env.put s2 (Env.get s4 e7) e7) H19 k13) (endK recD [.slot s2])
theorem Tryz.cOk146 : (compFn Tryz.prog Tryz.f146).map (bodyK 146) = some Tryz.c146 := by kernel_rfl
def Tryz.c153 : FnK := fun rec recD args H => startK 2 args fun e =>
 genK roundT rec (.nilCheck (.s s0)) (Ctl.mk [] .none) (Env.put s4 (.b false) e) [] H fun v0 H0 k0 =>
 faK 3 v0 fun v1 =>
 ldK false 1 v1 H0 fun v2 =>
 genK roundT rec (.lookup .i (.b false) true (.l 0) (.s s1)) k0 (Env.put s4 (.b false) e) [v2, v1, v0] H0 fun v3 H1 k1 =>
 exK 0 v3 fun v4 =>
 exK 1 v3 fun v5 =>
 gdK v4 false (fun R0 => R0 v5 H1 k1) H1 k1 fun v6 H2 k2 =>
 gdK v4 false (fun R1 => unK .not v6 fun v7 =>
 R1 v7 H2 k2) H2 k2 fun v7 H3 k3 =>
 pkK v4 (.b true) v7 fun v8 =>
 (endK recD [.slot s4]) .ret (Env.put s4 v8 (Env.put s5 v4 (Env.put s6 v5 (Env.put s4 (.b false) e)))) H3 k3
theorem Tryz.cOk153 : (compFn Tryz.prog Tryz.f153).map (bodyK 153) = some Tryz.c153 := by kernel_rfl
def Tryz.c162 : FnK := fun rec recD args H => startK 1 args fun e =>
 bxK 74 (Env.get s0 e) H fun v0 H0 =>
 seqK (fun K0 =>
 faK 2 v0 fun v1 =>
 ldK false 1 v1 H0 fun v2 =>
 binK .lss .no v2 (.i .i64 0) fun v3 =>
 gdK v3 false (fun R0 => faK 2 v0 fun v4 =>
 R0 v4 H0 (Ctl.mk [] .none)) H0 (Ctl.mk [] .none) fun v4 H1 k0 =>
 gdK v3 false (fun R1 => ldK false 1 v4 H1 fun v5 =>
 R1 v5 H1 k0) H1 k0 fun v5 H2 k1 =>
 gdK v3 false (fun R2 => binK .gtr .no v5 (.i .i64 4) fun v6 =>
 R2 v6 H2 k1) H2 k1 fun v6 H3 k2 =>
 pkK v3 (.b true) v6 fun v7 =>
 gdK v7 false (fun R3 => faK 3 v0 fun v8 =>
 R3 v8 H3 k2) H3 k2 fun v8 H4 k3 =>
 gdK v7 false (fun R4 => ldK false 1 v8 H4 fun v9 =>
 R4 v9 H4 k3) H4 k3 fun v9 H5 k4 =>
 gdK v7 false (fun R5 => lnK .s H5 v9 fun v10 =>
 R5 v10 H5 k4) H5 k4 fun v10 H6 k5 =>
 gdK v7 false (fun R6 => faK 2 v0 fun v11 =>
 R6 v11 H6 k5) H6 k5 fun v11 H7 k6 =>
 gdK v7 false (fun R7 => ldK false 1 v11 H7 fun v12 =>
 R7 v12 H7 k6) H7 k6 fun v12 H8 k7 =>
 gdK v7 false (fun R8 => binK .add .no v12 (.i .i64 1) fun v13 =>
 R8 v13 H8 k7) H8 k7 fun v13 H9 k8 =>
 gdK v7 false (fun R9 => binK .neq .no v10 v13 fun v14 =>
 R9 v14 H9 k8) H9 k8 fun v14 H10 k9 =>
 pkK v7 (.b true) v14 fun v15 =>
 gdK v15 false (fun R10 => faK 0 v0 fun v16 =>
 R10 v16 H10 k9) H10 k9 fun v16 H11 k10 =>
 gdK v15 false (fun R11 => ldK false 1 v16 H11 fun v17 =>
 R11 v17 H11 k10) H11 k10 fun v17 H12 k11 =>
 gdK v15 false (fun R12 => binK .lss .no v17 (.i .i64 1) fun v18 =>
 R12 v18 H12 k11) H12 k11 fun v18 H13 k12 =>
 pkK v15 (.b true) v18 fun v19 =>
 gdK v19 false (fun R13 => faK 0 v0 fun v20 =>
 R13 v20 H13 k12) H13 k12 fun v20 H14 k13 =>
 gdK v19 false (fun R14 => ldK false 1 v20 H14 fun v21 =>
 R14 v21 H14 k13) H14 k13 fun v21 H15 k14 =>
 gdK v19 false (fun R15 => binK .gtr .no v21 (.i .i64 6) fun v22 =>
 R15 v22 H15 k14) H15 k14 fun v22 H16 k15 =>
 pkK v19 (.b true) v22 fun v23 =>
 gdK v23 false (fun R16 => faK 0 v0 fun v24 =>
 R16 v24 H16 k15) H16 k15 fun v24 H17 k16 =>
 gdK v23 false (fun R17 => ldK false 1 v24 H17 fun v25 =>
 R17 v25 H17 k16) H17 k16 fun v25 H18 k17 =>
 gdK v23 false (fun R18 => binK .eql .no v25 (.i .i64 5) fun v26 =>
 R18 v26 H18 k17) H18 k17 fun v26 H19 k18 =>
 gdK v23 false (fun R19 => faK 1 v0 fun v27 =>
 R19 v27 H19 k18) H19 k18 fun v27 H20 k19 =>
 gdK v23 false (fun R20 => ldK false 1 v27 H20 fun v28 =>
 R20 v28 H20 k19) H20 k19 fun v28 H21 k20 =>
 gdK v23 false (fun R21 => binK .neq .no v28 (.s []) fun v29 =>
 R21 v29 H21 k20) H21 k20 fun v29 H22 k21 =>
 gdK v23 false (fun R22 => binK .neq .b v26 v29 fun v30 =>
 R22 v30 H22 k21) H22 k21 fun v30 H23 k22 =>
 pkK v23 (.b true) v30 fun v31 =>
 gdK v31 false (fun R23 => faK 0 v0 fun v32 =>
 R23 v32 H23 k22) H23 k22 fun v32 H24 k23 =>
 gdK v31 false (fun R24 => ldK false 1 v32 H24 fun v33 =>
 R24 v33 H24 k23) H24 k23 fun v33 H25 k24 =>
 gdK v31 false (fun R25 => binK .eql .no v33 (.i .i64 6) fun v34 =>
 R25 v34 H25 k24) H25 k24 fun v34 H26 k25 =>
 gdK v31 false (fun R26 => R26 v34 H26 k25) H26 k25 fun v35 H27 k26 =>
 gdK v35 true (fun R27 => faK 2 v0 fun v36 =>
 R27 v36 H27 k26) H27 k26 fun v36 H28 k27 =>
 gdK v35 true (fun R28 => ldK false 1 v36 H28 fun v37 =>
 R28 v37 H28 k27) H28 k27 fun v37 H29 k28 =>
 gdK v35 true (fun R29 => binK .gtr .no v37 (.i .i64 0) fun v38 =>
 R29 v38 H29 k28) H29 k28 fun v38 H30 k29 =>
 gdK v31 false (fun R30 => pkK v35 v38 (.b false) fun v39 =>
 R30 v39 H30 k29) H30 k29 fun v39 H31 k30 =>
 pkK v31 (.b true) v39 fun v40 =>
 condK v40 (K0 .ret (Env.put s2 (.b false) (Env.put s49 v40 (Env.put s1 v0 (Env.put s2 (.b false) e)))) H31 k30)
 (K0 .norm (Env.put s49 v40 (Env.put s1 v0 (Env.put s2 (.b false) e))) H31 k30)) (fun k31 e0 H32 =>
 seqK (fun K1 =>
 faK 3 (Env.get s1 e0) fun v41 =>
 ldK false 1 v41 H32 fun v42 =>
 lnK .s H32 v42 fun v43 =>
 blockK 0 (fun K2 =>
 loopK (fun k32 e1 H33 K3 =>
 binK .lss .no (Env.get s53 e1) (Env.get s52 e1) fun v44 =>
 seqK (fun K4 =>
 condK v44 (K4 .norm (Env.put s54 v44 e1) H33 k32)
 (K4 (.exit 0) (Env.put s54 v44 e1) H33 k32)) (fun k33 e2 H34 =>
 seqK (fun K5 =>
 blockK 1 (fun K6 =>
 faK 3 (Env.get s1 e2) fun v45 =>
 ldK false 1 v45 H34 fun v46 =>
 ixK .none v46 (Env.get s53 e2) fun v47 =>
 blockK 2 (fun K7 =>
 binK .eql .no v47 (.i .u8 32) fun v48 =>
 condK v48 (K7 .norm (Env.put s60 v48 (Env.put s59 v47 (Env.put s3 (Env.get s53 e2) e2))) H34 k33)
 (seqK (fun K8 =>
 binK .eql .no v47 (.i .u8 63) fun v49 =>
 condK v49 (K8 .norm (Env.put s62 v49 (Env.put s60 v48 (Env.put s59 v47 (Env.put s3 (Env.get s53 e2) e2)))) H34 k33)
 (binK .eql .no v47 (.i .u8 111) fun v50 =>
 K8 .norm (Env.put s62 v50 (Env.put s62 v49 (Env.put s60 v48 (Env.put s59 v47 (Env.put s3 (Env.get s53 e2) e2))))) H34 k33)) (fun k34 e3 H35 =>
 condK (Env.get s62 e3) (binK .eql .no (Env.get s3 e3) (.i .i64 0) fun v51 =>
 gdK v51 true (fun R31 => faK 0 (Env.get s1 e3) fun v52 =>
 R31 v52 H35 k34) H35 k34 fun v52 H36 k35 =>
 gdK v51 true (fun R32 => ldK false 1 v52 H36 fun v53 =>
 R32 v53 H36 k35) H36 k35 fun v53 H37 k36 =>
 gdK v51 true (fun R33 => binK .neq .no v53 (.i .i64 5) fun v54 =>
 R33 v54 H37 k36) H37 k36 fun v54 H38 k37 =>
 pkK v51 v54 (.b false) fun v55 =>
 gdK v55 false (fun R34 => faK 3 (Env.get s1 e3) fun v56 =>
 R34 v56 H38 k37) H38 k37 fun v56 H39 k38 =>
 gdK v55 false (fun R35 => ldK false 1 v56 H39 fun v57 =>
 R35 v57 H39 k38) H39 k38 fun v57 H40 k39 =>
 gdK v55 false (fun R36 => R36 (Env.get s3 e3) H40 k39) H40 k39 fun v58 H41 k40 =>
 gdK v55 false (fun R37 => ixK .none v57 v58 fun v59 =>
 R37 v59 H41 k40) H41 k40 fun v59 H42 k41 =>
 gdK v55 false (fun R38 => binK .eql .no v59 (.i .u8 111) fun v60 =>
 R38 v60 H42 k41) H42 k41 fun v60 H43 k42 =>
 gdK v55 false (fun R39 => R39 v60 H43 k42) H43 k42 fun v61 H44 k43 =>
 gdK v61 true (fun R40 => R40 (Env.get s3 e3) H44 k43) H44 k43 fun v62 H45 k44 =>
 gdK v61 true (fun R41 => faK 2 (Env.get s1 e3) fun v63 =>
 R41 v63 H45 k44) H45 k44 fun v63 H46 k45 =>
 gdK v61 true (fun R42 => ldK false 1 v63 H46 fun v64 =>
 R42 v64 H46 k45) H46 k45 fun v64 H47 k46 =>
 gdK v61 true (fun R43 => binK .lss .no v62 v64 fun v65 =>
 R43 v65 H47 k46) H47 k46 fun v65 H48 k47 =>
 gdK v55 false (fun R44 => pkK v61 v65 (.b false) fun v66 =>
 R44 v66 H48 k47) H48 k47 fun v66 H49 k48 =>
 pkK v55 (.b true) v66 fun v67 =>
 condK v67 (K7 .ret (Env.put s2 (.b false) (Env.put s84 v67 e3)) H49 k48)
 (K7 .norm (Env.put s84 v67 e3) H49 k48))
 (K7 .ret (Env.put s2 (.b false) e3) H35 k34)) K7)) K6) K5) (fun k49 e4 H50 =>
 binK .add .no (Env.get s53 e4) (.i .i64 1) fun v68 =>
 K3 .norm (Env.put s53 v68 e4) H50 k49) K3) K3) rounds K2 k31 (Env.put s52 v43 (Env.put s53 (.i .i64 0) e0)) H32) K1) (fun k50 e5 H51 =>
 (endK recD [.slot s2]) .ret (Env.put s2 (.b true) e5) H51 k50) (endK recD [.slot s2])) (endK recD [.slot s2])
theorem Tryz.cOk162 : (compFn Tryz.prog Tryz.f162).map (bodyK 162) = some Tryz.c162 := by kernel_rfl
def Tryz.c178 : FnK := fun rec recD args H => startK 2 args fun e =>
 newK 234 [(.i .i64 0), (.i .i64 0), (.i .i64 0)] H fun v0 H0 =>
 caK rec 111 [(Env.get s0 e)] H0 fun v1 H1 =>
 exK 0 v1 fun v2 =>
 exK 1 v1 fun v3 =>
 stK 3 v2 v0 H1 fun H2 =>
 faK 0 v0 fun v4 =>
 ldK false 1 v4 H2 fun v5 =>
 binK .eql .no v5 (.i .i64 1) fun v6 =>
 gdK v6 false (fun R0 => faK 0 v0 fun v7 =>
 R0 v7 H2 (Ctl.mk [] .none)) H2 (Ctl.mk [] .none) fun v7 H3 k0 =>
 gdK v6 false (fun R1 => ldK false 1 v7 H3 fun v8 =>
 R1 v8 H3 k0) H3 k0 fun v8 H4 k1 =>
 gdK v6 false (fun R2 => binK .eql .no v8 (.i .i64 5) fun v9 =>
 R2 v9 H4 k1) H4 k1 fun v9 H5 k2 =>
 pkK v6 (.b true) v9 fun v10 =>
 gdK v10 true (fun R3 => R3 v3 H5 k2) H5 k2 fun v11 H6 k3 =>
 gdK v10 true (fun R4 => R4 (Env.get s1 e) H6 k3) H6 k3 fun v12 H7 k4 =>
 gdK v10 true (fun R5 => binK .eql .no v11 v12 fun v13 =>
 R5 v13 H7 k4) H7 k4 fun v13 H8 k5 =>
 pkK v10 v13 (.b false) fun v14 =>
 (endK recD [.slot s4]) .ret (Env.put s4 v14 (Env.put s5 v0 (Env.put s6 v3 (Env.put s4 (.b false) e)))) H8 k5
theorem Tryz.cOk178 : (compFn Tryz.prog Tryz.f178).map (bodyK 178) = some Tryz.c178 := by kernel_rfl
def Tryz.c180 : FnK := fun rec recD args H => startK 2 args fun e =>
 bxK 76 (Env.get s1 e) H fun v0 H0 =>
 seqK (fun K0 =>
 genK roundT rec (.nilCheck (.s s0)) (Ctl.mk [] .none) (Env.put s3 v0 (Env.put s4 (.i .i64 0) (Env.put s5 (.b false) e))) [] H0 fun v1 H1 k0 =>
 faK 0 v1 fun v2 =>
 faK 0 v2 fun v3 =>
 ldK false 1 v3 H1 fun v4 =>
 lnK .sl H1 v4 fun v5 =>
 binK .geq .no v5 (.i .i64 16384) fun v6 =>
 condK v6 (K0 .ret (Env.put s4 (.i .i64 0) (Env.put s5 (.b false) (Env.put s12 v6 (Env.put s3 v0 (Env.put s4 (.i .i64 0) (Env.put s5 (.b false) e)))))) H1 k0)
 (K0 .norm (Env.put s12 v6 (Env.put s3 v0 (Env.put s4 (.i .i64 0) (Env.put s5 (.b false) e)))) H1 k0)) (fun k1 e0 H2 =>
 faK 3 (Env.get s3 e0) fun v1 =>
 ldK false 1 v1 H2 fun v2 =>
 faK 12 (Env.get s3 e0) fun v3 =>
 ldK false 1 v3 H2 fun v4 =>
 caK rec 120 [v2] H2 fun v5 H3 =>
 boolK (and (again ⟨.load false 1 (.l 0), .none, []⟩ v4 e0 [v3, v2, v1] H3) true) (faK 3 (Env.get s3 e0) fun v6 =>
 caK rec 120 [v4] H3 fun v7 H4 =>
 stK 1 v5 v6 H4 fun H5 =>
 faK 12 (Env.get s3 e0) fun v8 =>
 stK 1 v7 v8 H5 fun H6 =>
 genK roundT rec (.nilCheck (.s s0)) k1 e0 [] H6 fun v9 H7 k2 =>
 faK 0 v9 fun v10 =>
 faK 0 v10 fun v11 =>
 ldK false 1 v11 H7 fun v12 =>
 ldK true 13 (Env.get s3 e0) H7 fun v13 =>
 genK roundT rec (.buildSlice 76 1 13 [(.i .i64 0), (.i .i64 0), (.i .i64 0), .sl0, (.s []), (.i .i64 0), (.s []), (.i .i64 0), (.s []), (.i .i64 0), (.i .i64 0), (.i .i64 0), .sl0] [(0, (.l 0))]) k2 e0 [v13, v12, v11, v10, v9] H7 fun v14 H8 k3 =>
 apK 76 13 [(.i .i64 0), (.i .i64 0), (.i .i64 0), .sl0, (.s []), (.i .i64 0), (.s []), (.i .i64 0), (.s []), (.i .i64 0), (.i .i64 0), (.i .i64 0), .sl0] H8 v12 v14 fun v15 H9 =>
 genK roundT rec (.nilCheck (.s s0)) k3 e0 [v15, v14, v13, v12, v11, v10, v9] H9 fun v16 H10 k4 =>
 faK 0 v16 fun v17 =>
 faK 0 v17 fun v18 =>
 stK 1 v15 v18 H10 fun H11 =>
 genK roundT rec (.nilCheck (.s s0)) k4 e0 [] H11 fun v19 H12 k5 =>
 faK 0 v19 fun v20 =>
 faK 0 v20 fun v21 =>
 ldK false 1 v21 H12 fun v22 =>
 lnK .sl H12 v22 fun v23 =>
 binK .sub .no v23 (.i .i64 1) fun v24 =>
 (endK recD [.slot s4, .slot s5]) .ret (Env.put s4 v24 (Env.put s5 (.b true) e0)) H12 k5)) (endK recD [.slot s4, .slot s5])
theorem Tryz.cOk180 : (compFn Tryz.prog Tryz.f180).map (bodyK 180) = some Tryz.c180 := by kernel_rfl
def Tryz.c183 : FnK := fun rec recD args H => startK 2 args fun e =>
 newK 25 [(.i .i64 0), (.i .i64 0)] H fun v0 H0 =>
 genK roundT rec (.nilCheck (.s s0)) (Ctl.mk [] .none) (Env.put s4 v0 e) [] H0 fun v1 H1 k0 =>
 faK 0 v1 fun v2 =>
 faK 0 v2 fun v3 =>
 ldK false 1 v3 H1 fun v4 =>
 genK roundT rec (.nilCheck (.s s1)) k0 (Env.put s4 v0 e) [v4, v3, v2, v1] H1 fun v5 H2 k1 =>
 faK 2 v5 fun v6 =>
 ldK false 1 v6 H2 fun v7 =>
 iaK .none 13 v4 v7 fun v8 =>
 faK 3 v8 fun v9 =>
 ldK false 1 v9 H2 fun v10 =>
 seqK (fun K0 =>
 lnK .sl H2 v10 fun v11 =>
 blockK 0 (fun K1 =>
 loopK (fun k2 e0 H3 K2 =>
 binK .lss .no (Env.get s23 e0) (Env.get s22 e0) fun v12 =>
 seqK (fun K3 =>
 condK v12 (K3 .norm (Env.put s24 v12 e0) H3 k2)
 (K3 (.exit 0) (Env.put s24 v12 e0) H3 k2)) (fun k3 e1 H4 =>
 seqK (fun K4 =>
 blockK 1 (fun K5 =>
 iaK .none 1 (Env.get s21 e1) (Env.get s23 e1) fun v13 =>
 ldK false 1 v13 H4 fun v14 =>
 genK roundT rec (.nilCheck (.s s0)) k3 (Env.put s6 (Env.get s23 e1) (Env.put s7 v14 e1)) [] H4 fun v15 H5 k4 =>
 faK 0 v15 fun v16 =>
 faK 0 v16 fun v17 =>
 ldK false 1 v17 H5 fun v18 =>
 iaK .none 13 v18 v14 fun v19 =>
 ldK true 13 v19 H5 fun v20 =>
 newK 76 [(.i .i64 0), (.i .i64 0), (.i .i64 0), .sl0, (.s []), (.i .i64 0), (.s []), (.i .i64 0), (.s []), (.i .i64 0), (.i .i64 0), (.i .i64 0), .sl0] H5 fun v21 H6 =>
 stK 13 v20 v21 H6 fun H7 =>
 seqK (fun K6 =>
 lnK .sl H7 (Env.get s5 e1) fun v22 =>
 binK .sub .no v22 (.i .i64 1) fun v23 =>
 binK .eql .no (Env.get s23 e1) v23 fun v24 =>
 condK v24 (seqK (fun K7 =>
 faK 0 v21 fun v25 =>
 ldK false 1 v25 H7 fun v26 =>
 binK .neq .no v26 (.i .i64 8) fun v27 =>
 condK v27 (caK rec 182 [(Env.get s0 e1), (.i .i64 132), v14] H7 fun v28 H8 =>
 stK 2 v28 (Env.get s4 e1) H8 fun H9 =>
 K7 .ret (Env.put s43 v27 (Env.put s40 v24 (Env.put s8 v21 (Env.put s6 (Env.get s23 e1) (Env.put s7 v14 e1))))) H9 k4)
 (K7 .norm (Env.put s43 v27 (Env.put s40 v24 (Env.put s8 v21 (Env.put s6 (Env.get s23 e1) (Env.put s7 v14 e1))))) H7 k4)) (fun k5 e2 H10 =>
 K6 (.exit 0) e2 H10 k5) K6)
 (K6 .norm (Env.put s40 v24 (Env.put s8 v21 (Env.put s6 (Env.get s23 e1) (Env.put s7 v14 e1)))) H7 k4)) (fun k6 e3 H11 =>
 seqK (fun K8 =>
 faK 0 (Env.get s8 e3) fun v29 =>
 ldK false 1 v29 H11 fun v30 =>
 binK .neq .no v30 (.i .i64 7) fun v31 =>
 condK v31 (caK rec 182 [(Env.get s0 e3), (.i .i64 132), (Env.get s7 e3)] H11 fun v25 H12 =>
 stK 2 v25 (Env.get s4 e3) H12 fun H13 =>
 K8 .ret (Env.put s49 v31 e3) H13 k6)
 (K8 .norm (Env.put s49 v31 e3) H11 k6)) (fun k7 e4 H14 =>
 genK roundT rec (.nilCheck (.s s1)) k7 e4 [] H14 fun v22 H15 k8 =>
 faK 7 v22 fun v23 =>
 ldK false 1 v23 H15 fun v24 =>
 faK 5 (Env.get s8 e4) fun v32 =>
 ldK true 4 v32 H15 fun v33 =>
 genK roundT rec (.buildSlice 74 1 4 [(.i .i64 0), (.s []), (.i .i64 0), (.s [])] [(0, (.l 0))]) k8 e4 [v33, v32, v24, v23, v22] H15 fun v34 H16 k9 =>
 apK 74 4 [(.i .i64 0), (.s []), (.i .i64 0), (.s [])] H16 v24 v34 fun v35 H17 =>
 genK roundT rec (.nilCheck (.s s1)) k9 e4 [v35, v34, v33, v32, v24, v23, v22] H17 fun v36 H18 k10 =>
 faK 7 v36 fun v37 =>
 stK 1 v35 v37 H18 fun H19 =>
 K5 .norm e4 H19 k10) K5) K5) K4) (fun k11 e5 H20 =>
 binK .add .no (Env.get s23 e5) (.i .i64 1) fun v38 =>
 K2 .norm (Env.put s23 v38 e5) H20 k11) K2) K2) rounds K1 k1 (Env.put s21 v10 (Env.put s22 v11 (Env.put s23 (.i .i64 0) (Env.put s5 v10 (Env.put s4 v0 e))))) H2) K0) (fun k12 e6 H21 =>
 bdK [(.i .i64 0), (.i .i64 0)] [] fun v11 =>
 stK 2 v11 (Env.get s4 e6) H21 fun H22 =>
 (endK recD [.cell true 2 s4]) .ret e6 H22 k12) (endK recD [.cell true 2 s4])
theorem Tryz.cOk183 : (compFn Tryz.prog Tryz.f183).map (bodyK 183) = some Tryz.c183 := by kernel_rfl
def Tryz.c187 : FnK := fun rec recD args H => startK 2 args fun e =>
 bxK 74 (Env.get s0 e) H fun v0 H0 =>
 ldK true 4 v0 H0 fun v1 =>
 caK rec 52 [v1] H0 fun v2 H1 =>
 gdK v2 true (fun R0 => faK 2 v0 fun v3 =>
 R0 v3 H1 (Ctl.mk [] .none)) H1 (Ctl.mk [] .none) fun v3 H2 k0 =>
 gdK v2 true (fun R1 => ldK false 1 v3 H2 fun v4 =>
 R1 v4 H2 k0) H2 k0 fun v4 H3 k1 =>
 gdK v2 true (fun R2 => binK .eql .no v4 (.i .i64 0) fun v5 =>
 R2 v5 H3 k1) H3 k1 fun v5 H4 k2 =>
 pkK v2 v5 (.b false) fun v6 =>
 gdK v6 true (fun R3 => faK 0 v0 fun v7 =>
 R3 v7 H4 k2) H4 k2 fun v7 H5 k3 =>
 gdK v6 true (fun R4 => ldK false 1 v7 H5 fun v8 =>
 R4 v8 H5 k3) H5 k3 fun v8 H6 k4 =>
 gdK v6 true (fun R5 => R5 (Env.get s1 e) H6 k4) H6 k4 fun v9 H7 k5 =>
 gdK v6 true (fun R6 => binK .eql .no v8 v9 fun v10 =>
 R6 v10 H7 k5) H7 k5 fun v10 H8 k6 =>
 pkK v6 v10 (.b false) fun v11 =>
 gdK v11 true (fun R7 => R7 (Env.get s1 e) H8 k6) H8 k6 fun v12 H9 k7 =>
 gdK v11 true (fun R8 => binK .neq .no v12 (.i .i64 5) fun v13 =>
 R8 v13 H9 k7) H9 k7 fun v13 H10 k8 =>
 pkK v11 v13 (.b false) fun v14 =>
 (endK recD [.slot s4]) .ret (Env.put s4 v14 (Env.put s2 v0 (Env.put s4 (.b false) e))) H10 k8
theorem Tryz.cOk187 : (compFn Tryz.prog Tryz.f187).map (bodyK 187) = some Tryz.c187 := by kernel_rfl
def Tryz.c195 : FnK := fun rec recD args H => startK 3 args fun e =>
 bxK 76 (Env.get s2 e) H fun v0 H0 =>
 genK roundT rec (.nilCheck (.s s0)) (Ctl.mk [] .none) (Env.put s5 v0 e) [] H0 fun v1 H1 k0 =>
 faK 0 v1 fun v2 =>
 ldK false 1 v2 H1 fun v3 =>
 genK roundT rec (.nilCheck (.l 0)) k0 (Env.put s5 v0 e) [v3, v2, v1] H1 fun v4 H2 k1 =>
 faK 6 v4 fun v5 =>
 ldK false 1 v5 H2 fun v6 =>
 genK roundT rec (.nilCheck (.s s0)) k1 (Env.put s5 v0 e) [v6, v5, v4, v3, v2, v1] H2 fun v7 H3 k2 =>
 faK 1 v7 fun v8 =>
 ldK false 1 v8 H3 fun v9 =>
 iaK .none 8 v6 v9 fun v10 =>
 ldK true 8 v10 H3 fun v11 =>
 newK 86 [(.s []), (.i .i64 0), (.b false), (.i .i64 0), (.s []), (.i .i64 0), (.s []), .p0] H3 fun v12 H4 =>
 stK 8 v11 v12 H4 fun H5 =>
 faK 2 v12 fun v13 =>
 ldK false 1 v13 H5 fun v14 =>
 gdK v14 false (fun R0 => faK 3 v12 fun v15 =>
 R0 v15 H5 k2) H5 k2 fun v15 H6 k3 =>
 gdK v14 false (fun R1 => faK 0 v15 fun v16 =>
 R1 v16 H6 k3) H6 k3 fun v16 H7 k4 =>
 gdK v14 false (fun R2 => ldK false 1 v16 H7 fun v17 =>
 R2 v17 H7 k4) H7 k4 fun v17 H8 k5 =>
 gdK v14 false (fun R3 => binK .eql .no v17 (.i .i64 6) fun v18 =>
 R3 v18 H8 k5) H8 k5 fun v18 H9 k6 =>
 pkK v14 (.b true) v18 fun v19 =>
 blockK 0 (fun K0 =>
 faK 3 v0 fun v20 =>
 ldK false 1 v20 H9 fun v21 =>
 lnK .sl H9 v21 fun v22 =>
 binK .eql .no v22 (.i .i64 0) fun v23 =>
 binK .neq .b v19 v23 fun v24 =>
 condK v24 (genK roundT rec (.nilCheck (.s s0)) k6 (Env.put s29 v24 (Env.put s7 v19 (Env.put s6 v12 (Env.put s5 v0 e)))) [] H9 fun v25 H10 k7 =>
 faK 0 v25 fun v26 =>
 ldK false 1 v26 H10 fun v27 =>
 caK rec 190 [v27, (.i .i64 131), (Env.get s1 e)] H10 fun v28 H11 =>
 K0 .norm (Env.put s29 v24 (Env.put s7 v19 (Env.put s6 v12 (Env.put s5 v0 e)))) H11 k7)
 (unK .not v19 fun v29 =>
 condK v29 (faK 3 v0 fun v30 =>
 ldK false 1 v30 H9 fun v31 =>
 iaK .none 1 v31 (.i .i64 0) fun v32 =>
 ldK false 1 v32 H9 fun v33 =>
 faK 3 v12 fun v34 =>
 ldK true 4 v34 H9 fun v35 =>
 caK rec 192 [(Env.get s0 e), v33, v35] H9 fun v36 H12 =>
 K0 .norm (Env.put s42 v29 (Env.put s29 v24 (Env.put s7 v19 (Env.put s6 v12 (Env.put s5 v0 e))))) H12 k6)
 (K0 .norm (Env.put s42 v29 (Env.put s29 v24 (Env.put s7 v19 (Env.put s6 v12 (Env.put s5 v0 e))))) H9 k6))) (endK recD [])
theorem Tryz.cOk195 : (compFn Tryz.prog Tryz.f195).map (bodyK 195) = some Tryz.c195 := by kernel_rfl
def Tryz.c213 : FnK := fun rec recD args H => startK 1 args fun e =>
 bxK 72 (Env.get s0 e) H fun v0 H0 =>
 genK roundT rec (.mkFunc 250 [] [(.s s1)]) (Ctl.mk [] .none) (Env.put s1 v0 (Env.put s2 .f0 e)) [] H0 fun v1 H1 k0 =>
 (endK recD [.slot s2]) .ret (Env.put s2 v1 (Env.put s1 v0 (Env.put s2 .f0 e))) H1 k0
theorem Tryz.cOk213 : (compFn Tryz.prog Tryz.f213).map (bodyK 213) = some Tryz.c213 := by kernel_rfl
def Tryz.c214 : FnK := fun rec recD args H => startK 5 args fun e =>
 bdK [(.i .i64 0), (.i .i64 0), (.i .i64 0), (.i .i64 0), (.i .i64 0)] [(0, 1, (Env.get s1 e)), (1, 1, (Env.get s2 e)), (2, 1, (Env.get s3 e)), (3, 1, (Env.get s4 e)), (4, 1, (.i .i64 (-1)))] fun v0 =>
 caK rec 144 [(Env.get s0 e), v0] H fun v1 H0 =>
 (endK recD [.slot s10]) .ret (Env.put s10 v1 (Env.put s10 (.i .i64 0) e)) H0 (Ctl.mk [] .none)
theorem Tryz.cOk214 : (compFn Tryz.prog Tryz.f214).map (bodyK 214) = some Tryz.c214 := by kernel_rfl
def Tryz.c218 : FnK := fun rec recD args H => startK 3 args fun e =>
 bxK 205 (Env.get s0 e) H fun v0 H0 =>
 bxK 3 (Env.get s2 e) H0 fun v1 H1 =>
 seqK (fun K0 =>
 caK rec 213 [(Env.get s1 e)] H1 fun v2 H2 =>
 blockK 0 (fun K1 =>
 rangeK rec v2 218 [s11, s12] (.reg ⟨[], [(s8, (.s s12))], []⟩) (.block 1 (.reg ⟨[⟨.load false 1 (.s s3), .none, []⟩,
 ⟨.load false 1 (.s s5), .none, []⟩,
 ⟨.callF 215 [(.l 1), (.s s8), (.l 0)], .none, []⟩,
 ⟨.store 1 (.s s5) (.l 0), .none, []⟩], [], []⟩)) (Ctl.mk [] .none) (Env.put s10 v2 (Env.put s3 v0 (Env.put s5 v1 (Env.put s6 (.i .i64 0) e)))) H2 K1) K0) (fun k0 e0 H3 =>
 ldK false 1 (Env.get s5 e0) H3 fun v2 =>
 (endK recD [.slot s6]) .ret (Env.put s6 v2 e0) H3 k0) (endK recD [.slot s6])
theorem Tryz.cOk218 : (compFn Tryz.prog Tryz.f218).map (bodyK 218) = some Tryz.c218 := by kernel_rfl
def Tryz.c231 : FnK := fun rec recD args H => startK 1 args fun e =>
 genK roundT rec (.nilCheck (.s s0)) (Ctl.mk [] .none) (Env.put s2 (.i .i64 0) e) [] H fun v0 H0 k0 =>
 faK 1 v0 fun v1 =>
 ldK false 1 v1 H0 fun v2 =>
 genK roundT rec (.nilCheck (.s s0)) k0 (Env.put s2 (.i .i64 0) e) [v2, v1, v0] H0 fun v3 H1 k1 =>
 faK 2 v3 fun v4 =>
 ldK false 1 v4 H1 fun v5 =>
 iaK .none 3 v2 v5 fun v6 =>
 ldK true 3 v6 H1 fun v7 =>
 newK 234 [(.i .i64 0), (.i .i64 0), (.i .i64 0)] H1 fun v8 H2 =>
 stK 3 v7 v8 H2 fun H3 =>
 seqK (fun K0 =>
 faK 0 v8 fun v9 =>
 ldK false 1 v9 H3 fun v10 =>
 binK .neq .no v10 (.i .i64 0) fun v11 =>
 condK v11 (genK roundT rec (.nilCheck (.s s0)) k1 (Env.put s16 v11 (Env.put s3 v8 (Env.put s2 (.i .i64 0) e))) [] H3 fun v12 H4 k2 =>
 faK 2 v12 fun v13 =>
 ldK false 1 v13 H4 fun v14 =>
 binK .add .no v14 (.i .i64 1) fun v15 =>
 genK roundT rec (.nilCheck (.s s0)) k2 (Env.put s16 v11 (Env.put s3 v8 (Env.put s2 (.i .i64 0) e))) [v15, v14, v13, v12] H4 fun v16 H5 k3 =>
 faK 2 v16 fun v17 =>
 stK 1 v15 v17 H5 fun H6 =>
 K0 .norm (Env.put s16 v11 (Env.put s3 v8 (Env.put s2 (.i .i64 0) e))) H6 k3)
 (K0 .norm (Env.put s16 v11 (Env.put s3 v8 (Env.put s2 (.i .i64 0) e))) H3 k1)) (fun k4 e0 H7 =>
 faK 1 (Env.get s3 e0) fun v9 =>
 faK 1 v9 fun v10 =>
 ldK false 1 v10 H7 fun v11 =>
 (endK recD [.slot s2]) .ret (Env.put s2 v11 e0) H7 k4) (endK recD [.slot s2])
theorem Tryz.cOk231 : (compFn Tryz.prog Tryz.f231).map (bodyK 231) = some Tryz.c231 := by kernel_rfl
def Tryz.c232 : FnK := fun rec recD args H => startK 1 args fun e =>
 seqK (fun K0 =>
 lnK .s H (Env.get s0 e) fun v0 =>
 blockK 0 (fun K1 =>
 loopK (fun k0 e0 H0 K2 =>
 binK .lss .no (Env.get s6 e0) (Env.get s5 e0) fun v1 =>
 seqK (fun K3 =>
 condK v1 (K3 .norm (Env.put s7 v1 e0) H0 k0)
 (K3 (.exit 0) (Env.put s7 v1 e0) H0 k0)) (fun k1 e1 H1 =>
 seqK (fun K4 =>
 blockK 1 (fun K5 =>
 ixK .none (Env.get s0 e1) (Env.get s6 e1) fun v2 =>
 caK rec 169 [v2] H1 fun v3 H2 =>
 unK .not v3 fun v4 =>
 gdK v4 true (fun R0 => R0 (Env.get s6 e1) H2 k1) H2 k1 fun v5 H3 k2 =>
 gdK v4 true (fun R1 => binK .eql .no v5 (.i .i64 0) fun v6 =>
 R1 v6 H3 k2) H3 k2 fun v6 H4 k3 =>
 gdK v4 true (fun R2 => R2 v6 H4 k3) H4 k3 fun v7 H5 k4 =>
 gdK v7 false (fun R3 => R3 (Env.get s0 e1) H5 k4) H5 k4 fun v8 H6 k5 =>
 gdK v7 false (fun R4 => R4 (Env.get s6 e1) H6 k5) H6 k5 fun v9 H7 k6 =>
 gdK v7 false (fun R5 => ixK .none v8 v9 fun v10 =>
 R5 v10 H7 k6) H7 k6 fun v10 H8 k7 =>
 gdK v7 false (fun R6 => caK rec 171 [v10] H8 fun v11 H9 =>
 R6 v11 H9 k7) H8 k7 fun v11 H9 k8 =>
 gdK v7 false (fun R7 => unK .not v11 fun v12 =>
 R7 v12 H9 k8) H9 k8 fun v12 H10 k9 =>
 gdK v4 true (fun R8 => pkK v7 (.b true) v12 fun v13 =>
 R8 v13 H10 k9) H10 k9 fun v13 H11 k10 =>
 pkK v4 v13 (.b false) fun v14 =>
 condK v14 (K5 .ret (Env.put s2 (.b false) (Env.put s24 v14 (Env.put s3 (Env.get s6 e1) e1))) H11 k10)
 (K5 .norm (Env.put s24 v14 (Env.put s3 (Env.get s6 e1) e1)) H11 k10)) K4) (fun k11 e2 H12 =>
 binK .add .no (Env.get s6 e2) (.i .i64 1) fun v15 =>
 K2 .norm (Env.put s6 v15 e2) H12 k11) K2) K2) rounds K1 (Ctl.mk [] .none) (Env.put s5 v0 (Env.put s6 (.i .i64 0) (Env.put s2 (.b false) e))) H) K0) (fun k12 e3 H13 =>
 binK .neq .no (Env.get s0 e3) (.s []) fun v0 =>
 gdK v0 true (fun R9 => R9 (Env.get s0 e3) H13 k12) H13 k12 fun v16 H14 k13 =>
 gdK v0 true (fun R10 => lnK .s H14 v16 fun v17 =>
 R10 v17 H14 k13) H14 k13 fun v17 H15 k14 =>
 gdK v0 true (fun R11 => binK .leq .no v17 (.i .i64 64) fun v18 =>
 R11 v18 H15 k14) H15 k14 fun v18 H16 k15 =>
 pkK v0 v18 (.b false) fun v19 =>
 gdK v19 true (fun R12 => R12 (Env.get s0 e3) H16 k15) H16 k15 fun v20 H17 k16 =>
 gdK v19 true (fun R13 => caK rec 257 [v20] H17 fun v21 H18 =>
 R13 v21 H18 k16) H17 k16 fun v21 H18 k17 =>
 gdK v19 true (fun R14 => unK .not v21 fun v22 =>
 R14 v22 H18 k17) H18 k17 fun v22 H19 k18 =>
 pkK v19 v22 (.b false) fun v23 =>
 (endK recD [.slot s2]) .ret (Env.put s2 v23 e3) H19 k18) (endK recD [.slot s2])
theorem Tryz.cOk232 : (compFn Tryz.prog Tryz.f232).map (bodyK 232) = some Tryz.c232 := by kernel_rfl
def Tryz.c233 : FnK := fun rec recD args H => startK 1 args fun e =>
 caK rec 175 [(Env.get s0 e), (.s [40])] H fun v0 H0 =>
 seqK (fun K0 =>
 blockK 0 (fun K1 =>
 loopK (fun k0 e0 H1 K2 =>
 seqK (fun K3 =>
 caK rec 177 [(Env.get s0 e0), (.s [41])] H1 fun v1 H2 =>
 unK .not v1 fun v2 =>
 condK v2 (K3 .norm (Env.put s11 v2 e0) H2 k0)
 (K3 (.exit 0) (Env.put s11 v2 e0) H2 k0)) (fun k1 e1 H3 =>
 blockK 1 (fun K4 =>
 seqK (fun K5 =>
 lnK .sl H3 (Env.get s3 e1) fun v3 =>
 binK .gtr .no v3 (.i .i64 0) fun v4 =>
 condK v4 (caK rec 175 [(Env.get s0 e1), (.s [44])] H3 fun v5 H4 =>
 K5 .norm (Env.put s14 v4 e1) H4 k1)
 (K5 .norm (Env.put s14 v4 e1) H3 k1)) (fun k2 e2 H5 =>
 lnK .sl H5 (Env.get s3 e2) fun v3 =>
 binK .add .no v3 (.i .i64 1) fun v4 =>
 caK rec 112 [(Env.get s0 e2), v4] H5 fun v6 H6 =>
 newK 234 [(.i .i64 0), (.i .i64 0), (.i .i64 0)] H6 fun v5 H4 =>
 caK rec 111 [(Env.get s0 e2)] H4 fun v7 H7 =>
 exK 0 v7 fun v8 =>
 exK 1 v7 fun v9 =>
 stK 3 v8 v5 H7 fun H8 =>
 newK 76 [(.i .i64 0), (.i .i64 0), (.i .i64 0), .sl0, (.s []), (.i .i64 0), (.s []), (.i .i64 0), (.s []), (.i .i64 0), (.i .i64 0), (.i .i64 0), .sl0] H8 fun v10 H9 =>
 caK rec 235 [(Env.get s0 e2), (.b false)] H9 fun v11 H10 =>
 stK 13 v11 v10 H10 fun H11 =>
 faK 0 v10 fun v12 =>
 caK rec 176 [(Env.get s0 e2)] H11 fun v13 H12 =>
 stK 1 (.i .i64 7) v12 H12 fun H13 =>
 faK 4 v10 fun v14 =>
 stK 1 v13 v14 H13 fun H14 =>
 ldK true 13 v10 H14 fun v15 =>
 faK 1 v5 fun v16 =>
 faK 0 v16 fun v17 =>
 ldK false 1 v17 H14 fun v18 =>
 caK rec 114 [(Env.get s0 e2), v15, v18] H14 fun v19 H15 =>
 genK roundT rec (.buildSlice 3 1 1 [(.i .i64 0)] [(0, (.l 0))]) k2 (Env.put s6 v10 (Env.put s4 v5 e2)) [v19, v18, v17, v16, v15] H15 fun v20 H16 k3 =>
 apK 3 1 [(.i .i64 0)] H16 (Env.get s3 e2) v20 fun v21 H17 =>
 K4 .norm (Env.put s3 v21 (Env.put s6 v10 (Env.put s4 v5 e2))) H17 k3) K4) K2) K2) rounds K1 (Ctl.mk [] .none) (Env.put s3 .sl0 (Env.put s2 .sl0 e)) H0) K0) (fun k4 e3 H18 =>
 (endK recD [.slot s2]) .ret (Env.put s2 (Env.get s3 e3) e3) H18 k4) (endK recD [.slot s2])
theorem Tryz.cOk233 : (compFn Tryz.prog Tryz.f233).map (bodyK 233) = some Tryz.c233 := by kernel_rfl
def Tryz.c236 : FnK := fun rec recD args H => startK 0 args fun e =>
 newK 352 [(.s []), (.i .i64 0), (.i .i64 0), (.b false), (.b false), (.s []), (.i .i64 0), (.i .i64 0), (.b false), (.b false), (.s []), (.i .i64 0), (.i .i64 0), (.b false), (.b false), (.s []), (.i .i64 0), (.i .i64 0), (.b false), (.b false), (.s []), (.i .i64 0), (.i .i64 0), (.b false), (.b false), (.s []), (.i .i64 0), (.i .i64 0), (.b false), (.b false), (.s []), (.i .i64 0), (.i .i64 0), (.b false), (.b false), (.s []), (.i .i64 0), (.i .i64 0), (.b false), (.b false), (.s []), (.i .i64 0), (.i .i64 0), (.b false), (.b false), (.s []), (.i .i64 0), (.i .i64 0), (.b false), (.b false), (.s []), (.i .i64 0), (.i .i64 0), (.b false), (.b false), (.s []), (.i .i64 0), (.i .i64 0), (.b false), (.b false), (.s []), (.i .i64 0), (.i .i64 0), (.b false), (.b false), (.s []), (.i .i64 0), (.i .i64 0), (.b false), (.b false), (.s []), (.i .i64 0), (.i .i64 0), (.b false), (.b false), (.s []), (.i .i64 0), (.i .i64 0), (.b false), (.b false), (.s []), (.i .i64 0), (.i .i64 0), (.b false), (.b false), (.s []), (.i .i64 0), (.i .i64 0), (.b false), (.b false), (.s []), (.i .i64 0), (.i .i64 0), (.b false), (.b false), (.s []), (.i .i64 0), (.i .i64 0), (.b false), (.b false), (.s []), (.i .i64 0), (.i .i64 0), (.b false), (.b false), (.s []), (.i .i64 0), (.i .i64 0), (.b false), (.b false), (.s []), (.i .i64 0), (.i .i64 0), (.b false), (.b false), (.s []), (.i .i64 0), (.i .i64 0), (.b false), (.b false), (.s []), (.i .i64 0), (.i .i64 0), (.b false), (.b false), (.s []), (.i .i64 0), (.i .i64 0), (.b false), (.b false), (.s []), (.i .i64 0), (.i .i64 0), (.b false), (.b false), (.s []), (.i .i64 0), (.i .i64 0), (.b false), (.b false), (.s []), (.i .i64 0), (.i .i64 0), (.b false), (.b false), (.s []), (.i .i64 0), (.i .i64 0), (.b false), (.b false), (.s []), (.i .i64 0), (.i .i64 0), (.b false), (.b false), (.s []), (.i .i64 0), (.i .i64 0), (.b false), (.b false), (.s []), (.i .i64 0), (.i .i64 0), (.b false), (.b false), (.s []), (.i .i64 0), (.i .i64 0), (.b false), (.b false), (.s []), (.i .i64 0), (.i .i64 0), (.b false), (.b false), (.s []), (.i .i64 0), (.i .i64 0), (.b false), (.b false), (.s []), (.i .i64 0), (.i .i64 0), (.b false), (.b false), (.s []), (.i .i64 0), (.i .i64 0), (.b false), (.b false), (.s []), (.i .i64 0), (.i .i64 0), (.b false), (.b false), (.s []), (.i .i64 0), (.i .i64 0), (.b false), (.b false), (.s []), (.i .i64 0), (.i .i64 0), (.b false), (.b false), (.s []), (.i .i64 0), (.i .i64 0), (.b false), (.b false), (.s []), (.i .i64 0), (.i .i64 0), (.b false), (.b false), (.s []), (.i .i64 0), (.i .i64 0), (.b false), (.b false), (.s []), (.i .i64 0), (.i .i64 0), (.b false), (.b false), (.s []), (.i .i64 0), (.i .i64 0), (.b false), (.b false)] H fun v0 H0 =>
 bdK [(.s []), (.i .i64 0), (.i .i64 0), (.b false), (.b false)] [(0, 1, (.s [112, 114, 111, 103, 114, 97, 109])), (1, 1, (.i .i64 0)), (2, 1, (.i .i64 (-1))), (3, 1, (.b false)), (4, 1, (.b false))] fun v1 =>
 bdK [(.s []), (.i .i64 0), (.i .i64 0), (.b false), (.b false)] [(0, 1, (.s [99, 108, 97, 115, 115])), (1, 1, (.i .i64 0)), (2, 1, (.i .i64 (-1))), (3, 1, (.b true)), (4, 1, (.b false))] fun v2 =>
 bdK [(.s []), (.i .i64 0), (.i .i64 0), (.b false), (.b false)] [(0, 1, (.s [101, 120, 116, 101, 110, 100, 115])), (1, 1, (.i .i64 0)), (2, 1, (.i .i64 0)), (3, 1, (.b true)), (4, 1, (.b false))] fun v3 =>
 bdK [(.s []), (.i .i64 0), (.i .i64 0), (.b false), (.b false)] [(0, 1, (.s [102, 105, 101, 108, 100])), (1, 1, (.i .i64 0)), (2, 1, (.i .i64 0)), (3, 1, (.b true)), (4, 1, (.b true))] fun v4 =>
 bdK [(.s []), (.i .i64 0), (.i .i64 0), (.b false), (.b false)] [(0, 1, (.s [105, 110, 105, 116])), (1, 1, (.i .i64 1)), (2, 1, (.i .i64 (-1))), (3, 1, (.b false)), (4, 1, (.b false))] fun v5 =>
 bdK [(.s []), (.i .i64 0), (.i .i64 0), (.b false), (.b false)] [(0, 1, (.s [109, 101, 116, 104, 111, 100])), (1, 1, (.i .i64 1)), (2, 1, (.i .i64 (-1))), (3, 1, (.b true)), (4, 1, (.b true))] fun v6 =>
 bdK [(.s []), (.i .i64 0), (.i .i64 0), (.b false), (.b false)] [(0, 1, (.s [112, 97, 114, 97, 109])), (1, 1, (.i .i64 0)), (2, 1, (.i .i64 0)), (3, 1, (.b true)), (4, 1, (.b true))] fun v7 =>
 bdK [(.s []), (.i .i64 0), (.i .i64 0), (.b false), (.b false)] [(0, 1, (.s [98, 108, 111, 99, 107])), (1, 1, (.i .i64 0)), (2, 1, (.i .i64 (-1))), (3, 1, (.b false)), (4, 1, (.b false))] fun v8 =>
 bdK [(.s []), (.i .i64 0), (.i .i64 0), (.b false), (.b false)] [(0, 1, (.s [100, 101, 99, 108])), (1, 1, (.i .i64 0)), (2, 1, (.i .i64 1)), (3, 1, (.b true)), (4, 1, (.b true))] fun v9 =>
 bdK [(.s []), (.i .i64 0), (.i .i64 0), (.b false), (.b false)] [(0, 1, (.s [97, 115, 115, 105, 103, 110])), (1, 1, (.i .i64 2)), (2, 1, (.i .i64 2)), (3, 1, (.b false)), (4, 1, (.b false))] fun v10 =>
 bdK [(.s []), (.i .i64 0), (.i .i64 0), (.b false), (.b false)] [(0, 1, (.s [105, 102])), (1, 1, (.i .i64 2)), (2, 1, (.i .i64 3)), (3, 1, (.b false)), (4, 1, (.b false))] fun v11 =>
 bdK [(.s []), (.i .i64 0), (.i .i64 0), (.b false), (.b false)] [(0, 1, (.s [119, 104, 105, 108, 101])), (1, 1, (.i .i64 2)), (2, 1, (.i .i64 2)), (3, 1, (.b false)), (4, 1, (.b false))] fun v12 =>
 bdK [(.s []), (.i .i64 0), (.i .i64 0), (.b false), (.b false)] [(0, 1, (.s [98, 114, 101, 97, 107])), (1, 1, (.i .i64 0)), (2, 1, (.i .i64 0)), (3, 1, (.b false)), (4, 1, (.b false))] fun v13 =>
 bdK [(.s []), (.i .i64 0), (.i .i64 0), (.b false), (.b false)] [(0, 1, (.s [99, 111, 110, 116, 105, 110, 117, 101])), (1, 1, (.i .i64 0)), (2, 1, (.i .i64 0)), (3, 1, (.b false)), (4, 1, (.b false))] fun v14 =>
 bdK [(.s []), (.i .i64 0), (.i .i64 0), (.b false), (.b false)] [(0, 1, (.s [114, 101, 116, 117, 114, 110])), (1, 1, (.i .i64 0)), (2, 1, (.i .i64 1)), (3, 1, (.b false)), (4, 1, (.b false))] fun v15 =>
 bdK [(.s []), (.i .i64 0), (.i .i64 0), (.b false), (.b false)] [(0, 1, (.s [112, 114, 105, 110, 116])), (1, 1, (.i .i64 1)), (2, 1, (.i .i64 1)), (3, 1, (.b false)), (4, 1, (.b false))] fun v16 =>
 bdK [(.s []), (.i .i64 0), (.i .i64 0), (.b false), (.b false)] [(0, 1, (.s [115, 117, 112, 101, 114])), (1, 1, (.i .i64 0)), (2, 1, (.i .i64 (-1))), (3, 1, (.b false)), (4, 1, (.b false))] fun v17 =>
 bdK [(.s []), (.i .i64 0), (.i .i64 0), (.b false), (.b false)] [(0, 1, (.s [101, 120, 112, 114])), (1, 1, (.i .i64 1)), (2, 1, (.i .i64 1)), (3, 1, (.b false)), (4, 1, (.b false))] fun v18 =>
 bdK [(.s []), (.i .i64 0), (.i .i64 0), (.b false), (.b false)] [(0, 1, (.s [105, 110, 116])), (1, 1, (.i .i64 0)), (2, 1, (.i .i64 0)), (3, 1, (.b false)), (4, 1, (.b false))] fun v19 =>
 bdK [(.s []), (.i .i64 0), (.i .i64 0), (.b false), (.b false)] [(0, 1, (.s [100, 111, 117, 98, 108, 101])), (1, 1, (.i .i64 0)), (2, 1, (.i .i64 0)), (3, 1, (.b true)), (4, 1, (.b false))] fun v20 =>
 bdK [(.s []), (.i .i64 0), (.i .i64 0), (.b false), (.b false)] [(0, 1, (.s [98, 111, 111, 108])), (1, 1, (.i .i64 0)), (2, 1, (.i .i64 0)), (3, 1, (.b false)), (4, 1, (.b false))] fun v21 =>
 bdK [(.s []), (.i .i64 0), (.i .i64 0), (.b false), (.b false)] [(0, 1, (.s [115, 116, 114])), (1, 1, (.i .i64 0)), (2, 1, (.i .i64 0)), (3, 1, (.b true)), (4, 1, (.b false))] fun v22 =>
 bdK [(.s []), (.i .i64 0), (.i .i64 0), (.b false), (.b false)] [(0, 1, (.s [110, 117, 108, 108])), (1, 1, (.i .i64 0)), (2, 1, (.i .i64 0)), (3, 1, (.b false)), (4, 1, (.b false))] fun v23 =>
 bdK [(.s []), (.i .i64 0), (.i .i64 0), (.b false), (.b false)] [(0, 1, (.s [116, 104, 105, 115])), (1, 1, (.i .i64 0)), (2, 1, (.i .i64 0)), (3, 1, (.b false)), (4, 1, (.b false))] fun v24 =>
 bdK [(.s []), (.i .i64 0), (.i .i64 0), (.b false), (.b false)] [(0, 1, (.s [118, 97, 114])), (1, 1, (.i .i64 0)), (2, 1, (.i .i64 0)), (3, 1, (.b true)), (4, 1, (.b false))] fun v25 =>
 bdK [(.s []), (.i .i64 0), (.i .i64 0), (.b false), (.b false)] [(0, 1, (.s [103, 101, 116])), (1, 1, (.i .i64 1)), (2, 1, (.i .i64 1)), (3, 1, (.b true)), (4, 1, (.b false))] fun v26 =>
 bdK [(.s []), (.i .i64 0), (.i .i64 0), (.b false), (.b false)] [(0, 1, (.s [105, 110, 100, 101, 120])), (1, 1, (.i .i64 2)), (2, 1, (.i .i64 2)), (3, 1, (.b false)), (4, 1, (.b false))] fun v27 =>
 bdK [(.s []), (.i .i64 0), (.i .i64 0), (.b false), (.b false)] [(0, 1, (.s [108, 101, 110, 103, 116, 104])), (1, 1, (.i .i64 1)), (2, 1, (.i .i64 1)), (3, 1, (.b false)), (4, 1, (.b false))] fun v28 =>
 bdK [(.s []), (.i .i64 0), (.i .i64 0), (.b false), (.b false)] [(0, 1, (.s [99, 97, 108, 108])), (1, 1, (.i .i64 1)), (2, 1, (.i .i64 (-1))), (3, 1, (.b true)), (4, 1, (.b false))] fun v29 =>
 bdK [(.s []), (.i .i64 0), (.i .i64 0), (.b false), (.b false)] [(0, 1, (.s [110, 101, 119])), (1, 1, (.i .i64 0)), (2, 1, (.i .i64 (-1))), (3, 1, (.b false)), (4, 1, (.b true))] fun v30 =>
 bdK [(.s []), (.i .i64 0), (.i .i64 0), (.b false), (.b false)] [(0, 1, (.s [97, 114, 114, 97, 121])), (1, 1, (.i .i64 1)), (2, 1, (.i .i64 1)), (3, 1, (.b false)), (4, 1, (.b true))] fun v31 =>
 bdK [(.s []), (.i .i64 0), (.i .i64 0), (.b false), (.b false)] [(0, 1, (.s [110, 101, 103])), (1, 1, (.i .i64 1)), (2, 1, (.i .i64 1)), (3, 1, (.b false)), (4, 1, (.b false))] fun v32 =>
 bdK [(.s []), (.i .i64 0), (.i .i64 0), (.b false), (.b false)] [(0, 1, (.s [110, 111, 116])), (1, 1, (.i .i64 1)), (2, 1, (.i .i64 1)), (3, 1, (.b false)), (4, 1, (.b false))] fun v33 =>
 bdK [(.s []), (.i .i64 0), (.i .i64 0), (.b false), (.b false)] [(0, 1, (.s [98, 105, 110, 97, 114, 121])), (1, 1, (.i .i64 2)), (2, 1, (.i .i64 2)), (3, 1, (.b true)), (4, 1, (.b false))] fun v34 =>
 bdK [(.s []), (.i .i64 0), (.i .i64 0), (.b false), (.b false)] [(0, 1, (.s [99, 97, 115, 116])), (1, 1, (.i .i64 1)), (2, 1, (.i .i64 1)), (3, 1, (.b false)), (4, 1, (.b true))] fun v35 =>
 bdK [(.s []), (.i .i64 0), (.i .i64 0), (.b false), (.b false)] [(0, 1, (.s [116, 111, 105, 110, 116])), (1, 1, (.i .i64 1)), (2, 1, (.i .i64 1)), (3, 1, (.b false)), (4, 1, (.b false))] fun v36 =>
 bdK [(.s []), (.i .i64 0), (.i .i64 0), (.b false), (.b false)] [(0, 1, (.s [116, 111, 100, 111, 117, 98, 108, 101])), (1, 1, (.i .i64 1)), (2, 1, (.i .i64 1)), (3, 1, (.b false)), (4, 1, (.b false))] fun v37 =>
 bdK [(.s []), (.i .i64 0), (.i .i64 0), (.b false), (.b false)] [(0, 1, (.s [105, 110, 112, 117, 116])), (1, 1, (.i .i64 0)), (2, 1, (.i .i64 0)), (3, 1, (.b false)), (4, 1, (.b false))] fun v38 =>
 bdK [(.s []), (.i .i64 0), (.i .i64 0), (.b false), (.b false)] [(0, 1, (.s [97, 115, 107])), (1, 1, (.i .i64 1)), (2, 1, (.i .i64 1)), (3, 1, (.b false)), (4, 1, (.b false))] fun v39 =>
 bdK [(.s []), (.i .i64 0), (.i .i64 0), (.b false), (.b false)] [(0, 1, (.s [103, 117, 97, 114, 100])), (1, 1, (.i .i64 1)), (2, 1, (.i .i64 1)), (3, 1, (.b false)), (4, 1, (.b false))] fun v40 =>
 bdK [(.s []), (.i .i64 0), (.i .i64 0), (.b false), (.b false)] [(0, 1, (.s [115, 111, 109, 101])), (1, 1, (.i .i64 1)), (2, 1, (.i .i64 1)), (3, 1, (.b false)), (4, 1, (.b false))] fun v41 =>
 bdK [(.s []), (.i .i64 0), (.i .i64 0), (.b false), (.b false)] [(0, 1, (.s [110, 111, 110, 101])), (1, 1, (.i .i64 0)), (2, 1, (.i .i64 0)), (3, 1, (.b false)), (4, 1, (.b false))] fun v42 =>
 bdK [(.s []), (.i .i64 0), (.i .i64 0), (.b false), (.b false)] [(0, 1, (.s [105, 115, 115, 111, 109, 101])), (1, 1, (.i .i64 1)), (2, 1, (.i .i64 1)), (3, 1, (.b false)), (4, 1, (.b false))] fun v43 =>
 bdK [(.s []), (.i .i64 0), (.i .i64 0), (.b false), (.b false)] [(0, 1, (.s [105, 115, 110, 111, 110, 101])), (1, 1, (.i .i64 1)), (2, 1, (.i .i64 1)), (3, 1, (.b false)), (4, 1, (.b false))] fun v44 =>
 bdK [(.s []), (.i .i64 0), (.i .i64 0), (.b false), (.b false)] [(0, 1, (.s [118, 97, 108])), (1, 1, (.i .i64 1)), (2, 1, (.i .i64 1)), (3, 1, (.b false)), (4, 1, (.b false))] fun v45 =>
 bdK [(.s []), (.i .i64 0), (.i .i64 0), (.b false), (.b false), (.s []), (.i .i64 0), (.i .i64 0), (.b false), (.b false), (.s []), (.i .i64 0), (.i .i64 0), (.b false), (.b false), (.s []), (.i .i64 0), (.i .i64 0), (.b false), (.b false), (.s []), (.i .i64 0), (.i .i64 0), (.b false), (.b false), (.s []), (.i .i64 0), (.i .i64 0), (.b false), (.b false), (.s []), (.i .i64 0), (.i .i64 0), (.b false), (.b false), (.s []), (.i .i64 0), (.i .i64 0), (.b false), (.b false), (.s []), (.i .i64 0), (.i .i64 0), (.b false), (.b false), (.s []), (.i .i64 0), (.i .i64 0), (.b false), (.b false), (.s []), (.i .i64 0), (.i .i64 0), (.b false), (.b false), (.s []), (.i .i64 0), (.i .i64 0), (.b false), (.b false), (.s []), (.i .i64 0), (.i .i64 0), (.b false), (.b false), (.s []), (.i .i64 0), (.i .i64 0), (.b false), (.b false), (.s []), (.i .i64 0), (.i .i64 0), (.b false), (.b false), (.s []), (.i .i64 0), (.i .i64 0), (.b false), (.b false), (.s []), (.i .i64 0), (.i .i64 0), (.b false), (.b false), (.s []), (.i .i64 0), (.i .i64 0), (.b false), (.b false), (.s []), (.i .i64 0), (.i .i64 0), (.b false), (.b false), (.s []), (.i .i64 0), (.i .i64 0), (.b false), (.b false), (.s []), (.i .i64 0), (.i .i64 0), (.b false), (.b false), (.s []), (.i .i64 0), (.i .i64 0), (.b false), (.b false), (.s []), (.i .i64 0), (.i .i64 0), (.b false), (.b false), (.s []), (.i .i64 0), (.i .i64 0), (.b false), (.b false), (.s []), (.i .i64 0), (.i .i64 0), (.b false), (.b false), (.s []), (.i .i64 0), (.i .i64 0), (.b false), (.b false), (.s []), (.i .i64 0), (.i .i64 0), (.b false), (.b false), (.s []), (.i .i64 0), (.i .i64 0), (.b false), (.b false), (.s []), (.i .i64 0), (.i .i64 0), (.b false), (.b false), (.s []), (.i .i64 0), (.i .i64 0), (.b false), (.b false), (.s []), (.i .i64 0), (.i .i64 0), (.b false), (.b false), (.s []), (.i .i64 0), (.i .i64 0), (.b false), (.b false), (.s []), (.i .i64 0), (.i .i64 0), (.b false), (.b false), (.s []), (.i .i64 0), (.i .i64 0), (.b false), (.b false), (.s []), (.i .i64 0), (.i .i64 0), (.b false), (.b false), (.s []), (.i .i64 0), (.i .i64 0), (.b false), (.b false), (.s []), (.i .i64 0), (.i .i64 0), (.b false), (.b false), (.s []), (.i .i64 0), (.i .i64 0), (.b false), (.b false), (.s []), (.i .i64 0), (.i .i64 0), (.b false), (.b false), (.s []), (.i .i64 0), (.i .i64 0), (.b false), (.b false), (.s []), (.i .i64 0), (.i .i64 0), (.b false), (.b false), (.s []), (.i .i64 0), (.i .i64 0), (.b false), (.b false), (.s []), (.i .i64 0), (.i .i64 0), (.b false), (.b false), (.s []), (.i .i64 0), (.i .i64 0), (.b false), (.b false), (.s []), (.i .i64 0), (.i .i64 0), (.b false), (.b false), (.s []), (.i .i64 0), (.i .i64 0), (.b false), (.b false)] [(5, 5, v1), (10, 5, v2), (15, 5, v3), (20, 5, v4), (25, 5, v5), (30, 5, v6), (35, 5, v7), (40, 5, v8), (45, 5, v9), (50, 5, v10), (55, 5, v11), (60, 5, v12), (65, 5, v13), (70, 5, v14), (75, 5, v15), (80, 5, v16), (85, 5, v17), (90, 5, v18), (95, 5, v19), (100, 5, v20), (105, 5, v21), (110, 5, v22), (115, 5, v23), (120, 5, v24), (125, 5, v25), (130, 5, v26), (135, 5, v27), (140, 5, v28), (145, 5, v29), (150, 5, v30), (155, 5, v31), (160, 5, v32), (165, 5, v33), (170, 5, v34), (175, 5, v35), (180, 5, v36), (185, 5, v37), (190, 5, v38), (195, 5, v39), (200, 5, v40), (205, 5, v41), (210, 5, v42), (215, 5, v43), (220, 5, v44), (225, 5, v45)] fun v46 =>
 stK 230 v46 v0 H0 fun H1 =>
 (endK recD [.cell true 230 s0]) .ret (Env.put s0 v0 e) H1 (Ctl.mk [] .none)
theorem Tryz.cOk236 : (compFn Tryz.prog Tryz.f236).map (bodyK 236) = some Tryz.c236 := by kernel_rfl
def Tryz.c260 : FnK := fun rec recD args H => startK 1 args fun e =>
 newK 76 [(.i .i64 0), (.i .i64 0), (.i .i64 0), .sl0, (.s []), (.i .i64 0), (.s []), (.i .i64 0), (.s []), (.i .i64 0), (.i .i64 0), (.i .i64 0), .sl0] H fun v0 H0 =>
 newK 76 [(.i .i64 0), (.i .i64 0), (.i .i64 0), .sl0, (.s []), (.i .i64 0), (.s []), (.i .i64 0), (.s []), (.i .i64 0), (.i .i64 0), (.i .i64 0), .sl0] H0 fun v1 H1 =>
 caK rec 277 [(Env.get s0 e)] H1 fun v2 H2 =>
 stK 13 v2 v1 H2 fun H3 =>
 seqK (fun K0 =>
 blockK 0 (fun K1 =>
 loopK (fun k0 e0 H4 K2 =>
 seqK (fun K3 =>
 caK rec 278 [(Env.get s0 e0), (Env.get s3 e0)] H4 fun v3 H5 =>
 gdK v3 false (fun R0 => R0 (Env.get s0 e0) H5 k0) H5 k0 fun v4 H6 k1 =>
 gdK v3 false (fun R1 => caK rec 279 [v4, (Env.get s3 e0)] H6 fun v5 H7 =>
 R1 v5 H7 k1) H6 k1 fun v5 H7 k2 =>
 pkK v3 (.b true) v5 fun v6 =>
 condK v6 (K3 .norm (Env.put s11 v6 e0) H7 k2)
 (K3 (.exit 0) (Env.put s11 v6 e0) H7 k2)) (fun k3 e1 H8 =>
 blockK 1 (fun K4 =>
 K4 .norm e1 H8 k3) K2) K2) rounds K1 (Ctl.mk [] .none) (Env.put s3 v1 (Env.put s2 v0 e)) H3) K0) (fun k4 e2 H9 =>
 ldK true 13 (Env.get s3 e2) H9 fun v7 =>
 stK 13 v7 (Env.get s2 e2) H9 fun H10 =>
 (endK recD [.cell true 13 s2]) .ret e2 H10 k4) (endK recD [.cell true 13 s2])
theorem Tryz.cOk260 : (compFn Tryz.prog Tryz.f260).map (bodyK 260) = some Tryz.c260 := by kernel_rfl
def Tryz.c272 : FnK := fun rec recD args H => startK 2 args fun e =>
 seqK (fun K0 =>
 lnK .sl H (Env.get s0 e) fun v0 =>
 blockK 0 (fun K1 =>
 loopK (fun k0 e0 H0 K2 =>
 binK .lss .no (Env.get s8 e0) (Env.get s7 e0) fun v1 =>
 seqK (fun K3 =>
 condK v1 (K3 .norm (Env.put s9 v1 e0) H0 k0)
 (K3 (.exit 0) (Env.put s9 v1 e0) H0 k0)) (fun k1 e1 H1 =>
 seqK (fun K4 =>
 blockK 1 (fun K5 =>
 iaK .none 1 (Env.get s0 e1) (Env.get s8 e1) fun v2 =>
 ldK false 1 v2 H1 fun v3 =>
 binK .eql .no (Env.get s1 e1) v3 fun v4 =>
 condK v4 (K5 .ret (Env.put s4 (Env.get s8 e1) (Env.put s16 v4 (Env.put s5 (Env.get s8 e1) e1))) H1 k1)
 (K5 .norm (Env.put s16 v4 (Env.put s5 (Env.get s8 e1) e1)) H1 k1)) K4) (fun k2 e2 H2 =>
 binK .add .no (Env.get s8 e2) (.i .i64 1) fun v5 =>
 K2 .norm (Env.put s8 v5 e2) H2 k2) K2) K2) rounds K1 (Ctl.mk [] .none) (Env.put s7 v0 (Env.put s8 (.i .i64 0) (Env.put s4 (.i .i64 0) e))) H) K0) (fun k3 e3 H3 =>
 (endK recD [.slot s4]) .ret (Env.put s4 (.i .i64 (-1)) e3) H3 k3) (endK recD [.slot s4])
theorem Tryz.cOk272 : (compFn Tryz.prog Tryz.f272).map (bodyK 272) = some Tryz.c272 := by kernel_rfl
def Tryz.c296 : FnK := fun rec recD args H => startK 1 args fun e =>
 newK 234 [(.i .i64 0), (.i .i64 0), (.i .i64 0)] H fun v0 H0 =>
 caK rec 111 [(Env.get s0 e)] H0 fun v1 H1 =>
 exK 0 v1 fun v2 =>
 exK 1 v1 fun v3 =>
 stK 3 v2 v0 H1 fun H2 =>
 seqK (fun K0 =>
 faK 0 v0 fun v4 =>
 ldK false 1 v4 H2 fun v5 =>
 blockK 0 (fun K1 =>
 binK .eql .no v5 (.i .i64 2) fun v6 =>
 condK v6 (caK rec 298 [v3] H2 fun v7 H3 =>
 exK 0 v7 fun v8 =>
 exK 1 v7 fun v9 =>
 bdK [(.i .i64 0), (.i .i64 0), (.i .i64 0), .sl0, (.s []), (.i .i64 0), (.s []), (.i .i64 0), (.s []), (.i .i64 0), (.i .i64 0), (.i .i64 0), .sl0] [(0, 1, (.i .i64 19)), (9, 1, v8)] fun v10 =>
 caK rec 299 [(Env.get s0 e), v10, v9] H3 fun v11 H4 =>
 K1 .ret (Env.put s2 v11 (Env.put s5 v8 (Env.put s6 v9 (Env.put s18 v6 (Env.put s17 v5 (Env.put s3 v0 (Env.put s4 v3 (Env.put s2 (.i .i64 0) e)))))))) H4 (Ctl.mk [] .none))
 (binK .eql .no v5 (.i .i64 3) fun v7 =>
 condK v7 (caK rec 300 [v3] H2 fun v12 H5 =>
 exK 0 v12 fun v13 =>
 exK 1 v12 fun v14 =>
 genK roundT rec (.convInt .i64 (.s s7)) (Ctl.mk [] .none) (Env.put s7 v13 (Env.put s8 v14 (Env.put s30 v7 (Env.put s18 v6 (Env.put s17 v5 (Env.put s3 v0 (Env.put s4 v3 (Env.put s2 (.i .i64 0) e)))))))) [] H5 fun v15 H6 k0 =>
 bdK [(.i .i64 0), (.i .i64 0), (.i .i64 0), .sl0, (.s []), (.i .i64 0), (.s []), (.i .i64 0), (.s []), (.i .i64 0), (.i .i64 0), (.i .i64 0), .sl0] [(0, 1, (.i .i64 20)), (4, 1, v3), (9, 1, v15)] fun v16 =>
 caK rec 299 [(Env.get s0 e), v16, v14] H6 fun v17 H7 =>
 K1 .ret (Env.put s2 v17 (Env.put s7 v13 (Env.put s8 v14 (Env.put s30 v7 (Env.put s18 v6 (Env.put s17 v5 (Env.put s3 v0 (Env.put s4 v3 (Env.put s2 (.i .i64 0) e))))))))) H7 k0)
 (binK .eql .no v5 (.i .i64 4) fun v12 =>
 condK v12 (caK rec 301 [v3] H2 fun v18 H8 =>
 exK 0 v18 fun v19 =>
 exK 1 v18 fun v20 =>
 bdK [(.i .i64 0), (.i .i64 0), (.i .i64 0), .sl0, (.s []), (.i .i64 0), (.s []), (.i .i64 0), (.s []), (.i .i64 0), (.i .i64 0), (.i .i64 0), .sl0] [(0, 1, (.i .i64 22)), (4, 1, v19)] fun v21 =>
 caK rec 299 [(Env.get s0 e), v21, v20] H8 fun v22 H9 =>
 K1 .ret (Env.put s2 v22 (Env.put s9 v19 (Env.put s10 v20 (Env.put s44 v12 (Env.put s30 v7 (Env.put s18 v6 (Env.put s17 v5 (Env.put s3 v0 (Env.put s4 v3 (Env.put s2 (.i .i64 0) e)))))))))) H9 (Ctl.mk [] .none))
 (binK .eql .no v5 (.i .i64 5) fun v18 =>
 condK v18 (binK .eql .no v3 (.s [40]) fun v23 =>
 condK v23 (caK rec 286 [(Env.get s0 e)] H2 fun v24 H10 =>
 K1 .ret (Env.put s2 v24 (Env.put s59 v23 (Env.put s56 v18 (Env.put s44 v12 (Env.put s30 v7 (Env.put s18 v6 (Env.put s17 v5 (Env.put s3 v0 (Env.put s4 v3 (Env.put s2 (.i .i64 0) e)))))))))) H10 (Ctl.mk [] .none))
 (K1 .norm (Env.put s59 v23 (Env.put s56 v18 (Env.put s44 v12 (Env.put s30 v7 (Env.put s18 v6 (Env.put s17 v5 (Env.put s3 v0 (Env.put s4 v3 (Env.put s2 (.i .i64 0) e))))))))) H2 (Ctl.mk [] .none)))
 (binK .eql .no v5 (.i .i64 1) fun v23 =>
 condK v23 (seqK (fun K2 =>
 caK rec 232 [v3] H2 fun v25 H11 =>
 condK v25 (bdK [(.i .i64 0), (.i .i64 0), (.i .i64 0), .sl0, (.s []), (.i .i64 0), (.s []), (.i .i64 0), (.s []), (.i .i64 0), (.i .i64 0), (.i .i64 0), .sl0] [(0, 1, (.i .i64 25)), (4, 1, v3)] fun v26 =>
 caK rec 299 [(Env.get s0 e), v26, (.i .i64 0)] H11 fun v27 H12 =>
 K2 .ret (Env.put s2 v27 (Env.put s65 v25 (Env.put s62 v23 (Env.put s56 v18 (Env.put s44 v12 (Env.put s30 v7 (Env.put s18 v6 (Env.put s17 v5 (Env.put s3 v0 (Env.put s4 v3 (Env.put s2 (.i .i64 0) e))))))))))) H12 (Ctl.mk [] .none))
 (K2 .norm (Env.put s65 v25 (Env.put s62 v23 (Env.put s56 v18 (Env.put s44 v12 (Env.put s30 v7 (Env.put s18 v6 (Env.put s17 v5 (Env.put s3 v0 (Env.put s4 v3 (Env.put s2 (.i .i64 0) e)))))))))) H11 (Ctl.mk [] .none))) (fun k1 e0 H13 =>
 ldK true 3 (Env.get s3 e0) H13 fun v25 =>
 caK rec 302 [(Env.get s0 e0), v25, (Env.get s4 e0)] H13 fun v28 H14 =>
 K1 .ret (Env.put s2 v28 e0) H14 k1) K1)
 (K1 .norm (Env.put s62 v23 (Env.put s56 v18 (Env.put s44 v12 (Env.put s30 v7 (Env.put s18 v6 (Env.put s17 v5 (Env.put s3 v0 (Env.put s4 v3 (Env.put s2 (.i .i64 0) e))))))))) H2 (Ctl.mk [] .none))))))) K0) (fun k2 e1 H15 =>
 faK 1 (Env.get s3 e1) fun v4 =>
 faK 0 v4 fun v5 =>
 ldK false 1 v5 H15 fun v29 =>
 caK rec 174 [(.i .i64 80), v29] H15 fun v30 H16 =>
 (endK recD [.slot s2]) .ret (Env.put s2 (.i .i64 0) e1) H16 k2) (endK recD [.slot s2])
theorem Tryz.cOk296 : (compFn Tryz.prog Tryz.f296).map (bodyK 296) = some Tryz.c296 := by kernel_rfl
def Tryz.c302 : FnK := fun rec recD args H => startK 3 args fun e =>
 bxK 234 (Env.get s1 e) H fun v0 H0 =>
 bdK [(.i .i64 0), (.i .i64 0), (.i .i64 0), .sl0, (.s []), (.i .i64 0), (.s []), (.i .i64 0), (.s []), (.i .i64 0), (.i .i64 0), (.i .i64 0), .sl0] [] fun v1 =>
 newK 76 [(.i .i64 0), (.i .i64 0), (.i .i64 0), .sl0, (.s []), (.i .i64 0), (.s []), (.i .i64 0), (.s []), (.i .i64 0), (.i .i64 0), (.i .i64 0), .sl0] H0 fun v2 H1 =>
 stK 13 v1 v2 H1 fun H2 =>
 seqK (fun K0 =>
 blockK 0 (fun K1 =>
 binK .eql .no (Env.get s2 e) (.s [116, 114, 117, 101]) fun v3 =>
 condK v3 (bdK [(.i .i64 0), (.i .i64 0), (.i .i64 0), .sl0, (.s []), (.i .i64 0), (.s []), (.i .i64 0), (.s []), (.i .i64 0), (.i .i64 0), (.i .i64 0), .sl0] [(0, 1, (.i .i64 21)), (9, 1, (.i .i64 1))] fun v4 =>
 caK rec 299 [(Env.get s0 e), v4, (.i .i64 0)] H2 fun v5 H3 =>
 K1 .ret (Env.put s6 v5 (Env.put s14 v3 (Env.put s9 (Env.get s2 e) (Env.put s7 v2 (Env.put s4 v0 (Env.put s6 (.i .i64 0) e)))))) H3 (Ctl.mk [] .none))
 (binK .eql .no (Env.get s2 e) (.s [102, 97, 108, 115, 101]) fun v4 =>
 condK v4 (bdK [(.i .i64 0), (.i .i64 0), (.i .i64 0), .sl0, (.s []), (.i .i64 0), (.s []), (.i .i64 0), (.s []), (.i .i64 0), (.i .i64 0), (.i .i64 0), .sl0] [(0, 1, (.i .i64 21))] fun v6 =>
 caK rec 299 [(Env.get s0 e), v6, (.i .i64 0)] H2 fun v7 H4 =>
 K1 .ret (Env.put s6 v7 (Env.put s19 v4 (Env.put s14 v3 (Env.put s9 (Env.get s2 e) (Env.put s7 v2 (Env.put s4 v0 (Env.put s6 (.i .i64 0) e))))))) H4 (Ctl.mk [] .none))
 (binK .eql .no (Env.get s2 e) (.s [110, 117, 108, 108]) fun v6 =>
 condK v6 (bdK [(.i .i64 0), (.i .i64 0), (.i .i64 0), .sl0, (.s []), (.i .i64 0), (.s []), (.i .i64 0), (.s []), (.i .i64 0), (.i .i64 0), (.i .i64 0), .sl0] [(0, 1, (.i .i64 23))] fun v8 =>
 caK rec 299 [(Env.get s0 e), v8, (.i .i64 0)] H2 fun v9 H5 =>
 K1 .ret (Env.put s6 v9 (Env.put s24 v6 (Env.put s19 v4 (Env.put s14 v3 (Env.put s9 (Env.get s2 e) (Env.put s7 v2 (Env.put s4 v0 (Env.put s6 (.i .i64 0) e)))))))) H5 (Ctl.mk [] .none))
 (binK .eql .no (Env.get s2 e) (.s [110, 111, 110, 101]) fun v8 =>
 condK v8 (bdK [(.i .i64 0), (.i .i64 0), (.i .i64 0), .sl0, (.s []), (.i .i64 0), (.s []), (.i .i64 0), (.s []), (.i .i64 0), (.i .i64 0), (.i .i64 0), .sl0] [(0, 1, (.i .i64 42))] fun v10 =>
 caK rec 299 [(Env.get s0 e), v10, (.i .i64 0)] H2 fun v11 H6 =>
 K1 .ret (Env.put s6 v11 (Env.put s29 v8 (Env.put s24 v6 (Env.put s19 v4 (Env.put s14 v3 (Env.put s9 (Env.get s2 e) (Env.put s7 v2 (Env.put s4 v0 (Env.put s6 (.i .i64 0) e))))))))) H6 (Ctl.mk [] .none))
 (binK .eql .no (Env.get s2 e) (.s [116, 104, 105, 115]) fun v10 =>
 condK v10 (bdK [(.i .i64 0), (.i .i64 0), (.i .i64 0), .sl0, (.s []), (.i .i64 0), (.s []), (.i .i64 0), (.s []), (.i .i64 0), (.i .i64 0), (.i .i64 0), .sl0] [(0, 1, (.i .i64 24))] fun v12 =>
 caK rec 299 [(Env.get s0 e), v12, (.i .i64 0)] H2 fun v13 H7 =>
 K1 .ret (Env.put s6 v13 (Env.put s34 v10 (Env.put s29 v8 (Env.put s24 v6 (Env.put s19 v4 (Env.put s14 v3 (Env.put s9 (Env.get s2 e) (Env.put s7 v2 (Env.put s4 v0 (Env.put s6 (.i .i64 0) e)))))))))) H7 (Ctl.mk [] .none))
 (binK .eql .no (Env.get s2 e) (.s [105, 110, 112, 117, 116]) fun v12 =>
 condK v12 (caK rec 231 [(Env.get s0 e)] H2 fun v14 H8 =>
 caK rec 175 [(Env.get s0 e), (.s [40])] H8 fun v15 H9 =>
 caK rec 175 [(Env.get s0 e), (.s [41])] H9 fun v16 H10 =>
 faK 0 v2 fun v17 =>
 stK 1 (.i .i64 38) v17 H10 fun H11 =>
 K1 .norm (Env.put s39 v12 (Env.put s34 v10 (Env.put s29 v8 (Env.put s24 v6 (Env.put s19 v4 (Env.put s14 v3 (Env.put s9 (Env.get s2 e) (Env.put s7 v2 (Env.put s4 v0 (Env.put s6 (.i .i64 0) e)))))))))) H11 (Ctl.mk [] .none))
 (seqK (fun K2 =>
 binK .eql .no (Env.get s2 e) (.s [115, 111, 109, 101]) fun v18 =>
 condK v18 (K2 .norm (Env.put s48 v18 (Env.put s39 v12 (Env.put s34 v10 (Env.put s29 v8 (Env.put s24 v6 (Env.put s19 v4 (Env.put s14 v3 (Env.put s9 (Env.get s2 e) (Env.put s7 v2 (Env.put s4 v0 (Env.put s6 (.i .i64 0) e))))))))))) H2 (Ctl.mk [] .none))
 (binK .eql .no (Env.get s2 e) (.s [97, 115, 107]) fun v16 =>
 condK v16 (K2 .norm (Env.put s48 v16 (Env.put s48 v18 (Env.put s39 v12 (Env.put s34 v10 (Env.put s29 v8 (Env.put s24 v6 (Env.put s19 v4 (Env.put s14 v3 (Env.put s9 (Env.get s2 e) (Env.put s7 v2 (Env.put s4 v0 (Env.put s6 (.i .i64 0) e)))))))))))) H2 (Ctl.mk [] .none))
 (binK .eql .no (Env.get s2 e) (.s [116, 111, 105, 110, 116]) fun v19 =>
 condK v19 (K2 .norm (Env.put s48 v19 (Env.put s48 v16 (Env.put s48 v18 (Env.put s39 v12 (Env.put s34 v10 (Env.put s29 v8 (Env.put s24 v6 (Env.put s19 v4 (Env.put s14 v3 (Env.put s9 (Env.get s2 e) (Env.put s7 v2 (Env.put s4 v0 (Env.put s6 (.i .i64 0) e))))))))))))) H2 (Ctl.mk [] .none))
 (binK .eql .no (Env.get s2 e) (.s [116, 111, 100, 111, 117, 98, 108, 101]) fun v20 =>
 K2 .norm (Env.put s48 v20 (Env.put s48 v19 (Env.put s48 v16 (Env.put s48 v18 (Env.put s39 v12 (Env.put s34 v10 (Env.put s29 v8 (Env.put s24 v6 (Env.put s19 v4 (Env.put s14 v3 (Env.put s9 (Env.get s2 e) (Env.put s7 v2 (Env.put s4 v0 (Env.put s6 (.i .i64 0) e)))))))))))))) H2 (Ctl.mk [] .none))))) (fun k0 e0 H12 =>
 condK (Env.get s48 e0) (caK rec 231 [(Env.get s0 e0)] H12 fun v15 H9 =>
 caK rec 286 [(Env.get s0 e0)] H9 fun v16 H10 =>
 genK roundT rec (.buildSlice 3 1 1 [(.i .i64 0)] [(0, (.l 0))]) k0 e0 [v16] H10 fun v21 H13 k1 =>
 bdK [(.i .i64 0), (.i .i64 0), (.i .i64 0), .sl0, (.s []), (.i .i64 0), (.s []), (.i .i64 0), (.s []), (.i .i64 0), (.i .i64 0), (.i .i64 0), .sl0] [(0, 1, (.i .i64 41)), (3, 1, v21)] fun v22 =>
 stK 13 v22 (Env.get s7 e0) H13 fun H14 =>
 blockK 1 (fun K3 =>
 binK .eql .no (Env.get s2 e0) (.s [97, 115, 107]) fun v20 =>
 condK v20 (faK 0 (Env.get s7 e0) fun v23 =>
 stK 1 (.i .i64 39) v23 H14 fun H15 =>
 K3 .norm (Env.put s60 v20 (Env.put s59 (Env.get s2 e0) e0)) H15 k1)
 (binK .eql .no (Env.get s2 e0) (.s [116, 111, 105, 110, 116]) fun v24 =>
 condK v24 (faK 0 (Env.get s7 e0) fun v25 =>
 stK 1 (.i .i64 36) v25 H14 fun H16 =>
 K3 .norm (Env.put s63 v24 (Env.put s60 v20 (Env.put s59 (Env.get s2 e0) e0))) H16 k1)
 (binK .eql .no (Env.get s2 e0) (.s [116, 111, 100, 111, 117, 98, 108, 101]) fun v26 =>
 condK v26 (faK 0 (Env.get s7 e0) fun v27 =>
 stK 1 (.i .i64 37) v27 H14 fun H17 =>
 K3 .norm (Env.put s66 v26 (Env.put s63 v24 (Env.put s60 v20 (Env.put s59 (Env.get s2 e0) e0)))) H17 k1)
 (K3 .norm (Env.put s66 v26 (Env.put s63 v24 (Env.put s60 v20 (Env.put s59 (Env.get s2 e0) e0)))) H14 k1)))) K1)
 (binK .eql .no (Env.get s9 e0) (.s [99, 97, 115, 116]) fun v15 =>
 condK v15 (caK rec 231 [(Env.get s0 e0)] H12 fun v17 H18 =>
 caK rec 175 [(Env.get s0 e0), (.s [60])] H18 fun v19 H19 =>
 caK rec 235 [(Env.get s0 e0), (.b false)] H19 fun v20 H20 =>
 stK 13 v20 (Env.get s7 e0) H20 fun H21 =>
 caK rec 175 [(Env.get s0 e0), (.s [62])] H21 fun v23 H22 =>
 faK 0 (Env.get s7 e0) fun v24 =>
 caK rec 286 [(Env.get s0 e0)] H22 fun v28 H23 =>
 genK roundT rec (.buildSlice 3 1 1 [(.i .i64 0)] [(0, (.l 0))]) k0 (Env.put s69 v15 e0) [v28, v24] H23 fun v29 H24 k2 =>
 stK 1 (.i .i64 35) v24 H24 fun H25 =>
 faK 3 (Env.get s7 e0) fun v30 =>
 stK 1 v29 v30 H25 fun H26 =>
 K1 .norm (Env.put s69 v15 e0) H26 k2)
 (binK .eql .no (Env.get s9 e0) (.s [110, 101, 119]) fun v17 =>
 condK v17 (caK rec 231 [(Env.get s0 e0)] H12 fun v31 H27 =>
 caK rec 309 [(Env.get s0 e0)] H27 fun v20 H20 =>
 stK 13 v20 (Env.get s7 e0) H20 fun H21 =>
 K1 .norm (Env.put s84 v17 (Env.put s69 v15 e0)) H21 k0)
 (faK 1 (Env.get s4 e0) fun v19 =>
 faK 0 v19 fun v32 =>
 ldK false 1 v32 H12 fun v33 =>
 caK rec 174 [(.i .i64 80), v33] H12 fun v34 H28 =>
 K1 .norm (Env.put s84 v17 (Env.put s69 v15 e0)) H28 k0)))) K1))))))) K0) (fun k3 e1 H29 =>
 ldK true 13 (Env.get s7 e1) H29 fun v35 =>
 faK 1 (Env.get s4 e1) fun v36 =>
 faK 0 v36 fun v37 =>
 ldK false 1 v37 H29 fun v38 =>
 caK rec 114 [(Env.get s0 e1), v35, v38] H29 fun v39 H30 =>
 (endK recD [.slot s6]) .ret (Env.put s6 v39 e1) H30 k3) (endK recD [.slot s6])
theorem Tryz.cOk302 : (compFn Tryz.prog Tryz.f302).map (bodyK 302) = some Tryz.c302 := by kernel_rfl
def Tryz.c303 : FnK := fun rec recD args H => startK 1 args fun e =>
 seqK (fun K0 =>
 lnK .s H (Env.get s0 e) fun v0 =>
 blockK 0 (fun K1 =>
 loopK (fun k0 e0 H0 K2 =>
 binK .lss .no (Env.get s6 e0) (Env.get s5 e0) fun v1 =>
 seqK (fun K3 =>
 condK v1 (K3 .norm (Env.put s7 v1 e0) H0 k0)
 (K3 (.exit 0) (Env.put s7 v1 e0) H0 k0)) (fun k1 e1 H1 =>
 seqK (fun K4 =>
 blockK 1 (fun K5 =>
 ixK .none (Env.get s0 e1) (Env.get s6 e1) fun v2 =>
 binK .lss .no v2 (.i .u8 48) fun v3 =>
 gdK v3 false (fun R0 => R0 (Env.get s0 e1) H1 k1) H1 k1 fun v4 H2 k2 =>
 gdK v3 false (fun R1 => R1 (Env.get s6 e1) H2 k2) H2 k2 fun v5 H3 k3 =>
 gdK v3 false (fun R2 => ixK .none v4 v5 fun v6 =>
 R2 v6 H3 k3) H3 k3 fun v6 H4 k4 =>
 gdK v3 false (fun R3 => binK .gtr .no v6 (.i .u8 57) fun v7 =>
 R3 v7 H4 k4) H4 k4 fun v7 H5 k5 =>
 pkK v3 (.b true) v7 fun v8 =>
 condK v8 (K5 .ret (Env.put s2 (.b false) (Env.put s18 v8 (Env.put s3 (Env.get s6 e1) e1))) H5 k5)
 (K5 .norm (Env.put s18 v8 (Env.put s3 (Env.get s6 e1) e1)) H5 k5)) K4) (fun k6 e2 H6 =>
 binK .add .no (Env.get s6 e2) (.i .i64 1) fun v9 =>
 K2 .norm (Env.put s6 v9 e2) H6 k6) K2) K2) rounds K1 (Ctl.mk [] .none) (Env.put s5 v0 (Env.put s6 (.i .i64 0) (Env.put s2 (.b false) e))) H) K0) (fun k7 e3 H7 =>
 binK .neq .no (Env.get s0 e3) (.s []) fun v0 =>
 (endK recD [.slot s2]) .ret (Env.put s2 v0 e3) H7 k7) (endK recD [.slot s2])
theorem Tryz.cOk303 : (compFn Tryz.prog Tryz.f303).map (bodyK 303) = some Tryz.c303 := by kernel_rfl
def Tryz.c304 : FnK := fun rec recD args H => startK 3 args fun e =>
 caK rec 310 [(Env.get s0 e), (Env.get s1 e), (Env.get s2 e)] H fun v0 H0 =>
 exK 0 v0 fun v1 =>
 exK 1 v0 fun v2 =>
 seqK (fun K0 =>
 binK .neq .ifc v2 .if0 fun v3 =>
 condK v3 (caK rec 311 [(.s [80, 97, 114, 115, 101, 73, 110, 116]), (Env.get s0 e), (Env.get s1 e), (Env.get s2 e), v2] H0 fun v4 H1 =>
 K0 .ret (Env.put s6 v1 (Env.put s7 v4 (Env.put s17 v3 (Env.put s8 v1 (Env.put s7 v2 (Env.put s6 (.i .i64 0) (Env.put s7 .if0 e))))))) H1 (Ctl.mk [] .none))
 (K0 .norm (Env.put s17 v3 (Env.put s8 v1 (Env.put s7 v2 (Env.put s6 (.i .i64 0) (Env.put s7 .if0 e))))) H0 (Ctl.mk [] .none))) (fun k0 e0 H2 =>
 (endK recD [.slot s6, .slot s7]) .ret (Env.put s6 (Env.get s8 e0) (Env.put s7 .if0 e0)) H2 k0) (endK recD [.slot s6, .slot s7])
theorem Tryz.cOk304 : (compFn Tryz.prog Tryz.f304).map (bodyK 304) = some Tryz.c304 := by kernel_rfl
def Tryz.c310 : FnK := fun rec recD args H => startK 3 args fun e =>
 seqK (fun K0 =>
 binK .eql .no (Env.get s0 e) (.s []) fun v0 =>
 condK v0 (genK roundT rec (.mkIface 405 (.c (.i .i64 2))) (Ctl.mk [] .none) (Env.put s13 v0 (Env.put s6 (.i .i64 0) (Env.put s7 .if0 e))) [] H fun v1 H0 k0 =>
 K0 .ret (Env.put s6 (.i .i64 0) (Env.put s7 v1 (Env.put s13 v0 (Env.put s6 (.i .i64 0) (Env.put s7 .if0 e))))) H0 k0)
 (K0 .norm (Env.put s13 v0 (Env.put s6 (.i .i64 0) (Env.put s7 .if0 e))) H (Ctl.mk [] .none))) (fun k1 e0 H1 =>
 seqK (fun K1 =>
 ixK .none (Env.get s0 e0) (.i .i64 0) fun v1 =>
 blockK 0 (fun K2 =>
 binK .eql .no v1 (.i .u8 43) fun v2 =>
 condK v2 (slK .none (Env.get s0 e0) (.some (.i .i64 1)) .none .none fun v3 =>
 K2 .norm (Env.put s0 v3 (Env.put s17 v2 (Env.put s16 v1 (Env.put s8 (.b false) e0)))) H1 k1)
 (binK .eql .no v1 (.i .u8 45) fun v4 =>
 condK v4 (slK .none (Env.get s0 e0) (.some (.i .i64 1)) .none .none fun v5 =>
 K2 .norm (Env.put s8 (.b true) (Env.put s0 v5 (Env.put s21 v4 (Env.put s17 v2 (Env.put s16 v1 (Env.put s8 (.b false) e0)))))) H1 k1)
 (K2 .norm (Env.put s21 v4 (Env.put s17 v2 (Env.put s16 v1 (Env.put s8 (.b false) e0)))) H1 k1))) K1) (fun k2 e1 H2 =>
 caK rec 316 [(Env.get s0 e1), (Env.get s1 e1), (Env.get s2 e1)] H2 fun v6 H3 =>
 exK 0 v6 fun v7 =>
 exK 1 v6 fun v8 =>
 seqK (fun K3 =>
 binK .neq .ifc v8 .if0 fun v3 =>
 gdK v3 true (fun R0 => R0 v8 H3 k2) H3 k2 fun v9 H4 k3 =>
 gdK v3 true (fun R1 => genK roundT rec (.mkIface 405 (.c (.i .i64 1))) k3 (Env.put s9 v7 (Env.put s7 v8 (Env.put s9 (.i .u64 0) e1))) [v9, v3] H4 fun v10 H5 k4 =>
 R1 v10 H5 k4) H4 k3 fun v10 H5 k4 =>
 gdK v3 true (fun R2 => genK roundT rec (.ext 999 []) k4 (Env.put s9 v7 (Env.put s7 v8 (Env.put s9 (.i .u64 0) e1))) [v10, v9, v3] H5 fun v11 H6 k5 =>
 R2 v11 H6 k5) H5 k4 fun v11 H6 k5 =>
 pkK v3 v11 (.b false) fun v12 =>
 condK v12 (K3 .ret (Env.put s6 (.i .i64 0) (Env.put s7 v8 (Env.put s38 v12 (Env.put s9 v7 (Env.put s7 v8 (Env.put s9 (.i .u64 0) e1)))))) H6 k5)
 (K3 .norm (Env.put s38 v12 (Env.put s9 v7 (Env.put s7 v8 (Env.put s9 (.i .u64 0) e1)))) H6 k5)) (fun k6 e2 H7 =>
 seqK (fun K4 =>
 binK .eql .no (Env.get s2 e2) (.i .i64 0) fun v4 =>
 condK v4 (K4 .norm (Env.put s2 (.i .i64 64) (Env.put s41 v4 e2)) H7 k6)
 (K4 .norm (Env.put s41 v4 e2) H7 k6)) (fun k7 e3 H8 =>
 binK .sub .no (Env.get s2 e3) (.i .i64 1) fun v4 =>
 genK roundT rec (.convInt .u64 (.l 0)) k7 e3 [v4] H8 fun v13 H9 k8 =>
 binK .shl .no (.i .u64 1) v13 fun v14 =>
 seqK (fun K5 =>
 unK .not (Env.get s8 e3) fun v5 =>
 gdK v5 true (fun R3 => R3 (Env.get s9 e3) H9 k8) H9 k8 fun v15 H10 k9 =>
 gdK v5 true (fun R4 => R4 v14 H10 k9) H10 k9 fun v16 H11 k10 =>
 gdK v5 true (fun R5 => binK .geq .no v15 v16 fun v17 =>
 R5 v17 H11 k10) H11 k10 fun v17 H12 k11 =>
 pkK v5 v17 (.b false) fun v18 =>
 condK v18 (binK .sub .no v14 (.i .u64 1) fun v19 =>
 genK roundT rec (.convInt .i64 (.l 0)) k11 (Env.put s52 v18 (Env.put s10 v14 e3)) [v19] H12 fun v20 H13 k12 =>
 genK roundT rec (.mkIface 405 (.c (.i .i64 1))) k12 (Env.put s52 v18 (Env.put s10 v14 e3)) [v20, v19] H13 fun v21 H14 k13 =>
 K5 .ret (Env.put s6 v20 (Env.put s7 v21 (Env.put s52 v18 (Env.put s10 v14 e3)))) H14 k13)
 (K5 .norm (Env.put s52 v18 (Env.put s10 v14 e3)) H12 k11)) (fun k14 e4 H15 =>
 seqK (fun K6 =>
 gdK (Env.get s8 e4) true (fun R6 => R6 (Env.get s9 e4) H15 k14) H15 k14 fun v22 H16 k15 =>
 gdK (Env.get s8 e4) true (fun R7 => R7 (Env.get s10 e4) H16 k15) H16 k15 fun v23 H17 k16 =>
 gdK (Env.get s8 e4) true (fun R8 => binK .gtr .no v22 v23 fun v24 =>
 R8 v24 H17 k16) H17 k16 fun v24 H18 k17 =>
 pkK (Env.get s8 e4) v24 (.b false) fun v25 =>
 condK v25 (genK roundT rec (.convInt .i64 (.s s10)) k17 (Env.put s62 v25 e4) [] H18 fun v26 H19 k18 =>
 unK .neg v26 fun v27 =>
 genK roundT rec (.mkIface 405 (.c (.i .i64 1))) k18 (Env.put s62 v25 e4) [v27, v26] H19 fun v28 H20 k19 =>
 K6 .ret (Env.put s6 v27 (Env.put s7 v28 (Env.put s62 v25 e4))) H20 k19)
 (K6 .norm (Env.put s62 v25 e4) H18 k17)) (fun k20 e5 H21 =>
 genK roundT rec (.convInt .i64 (.s s9)) k20 e5 [] H21 fun v22 H16 k15 =>
 seqK (fun K7 =>
 condK (Env.get s8 e5) (unK .neg v22 fun v29 =>
 K7 .norm (Env.put s11 v29 (Env.put s69 (Env.get s8 e5) (Env.put s11 v22 e5))) H16 k15)
 (K7 .norm (Env.put s69 (Env.get s8 e5) (Env.put s11 v22 e5)) H16 k15)) (fun k21 e6 H22 =>
 (endK recD [.slot s6, .slot s7]) .ret (Env.put s6 (Env.get s11 e6) (Env.put s7 .if0 e6)) H22 k21) (endK recD [.slot s6, .slot s7])) (endK recD [.slot s6, .slot s7])) (endK recD [.slot s6, .slot s7])) (endK recD [.slot s6, .slot s7])) (endK recD [.slot s6, .slot s7])) (endK recD [.slot s6, .slot s7])) (endK recD [.slot s6, .slot s7])
theorem Tryz.cOk310 : (compFn Tryz.prog Tryz.f310).map (bodyK 310) = some Tryz.c310 := by kernel_rfl
def Tryz.c316 : FnK := fun rec recD args H => startK 3 args fun e =>
 seqK (fun K0 =>
 binK .eql .no (Env.get s0 e) (.s []) fun v0 =>
 condK v0 (genK roundT rec (.mkIface 405 (.c (.i .i64 2))) (Ctl.mk [] .none) (Env.put s19 v0 (Env.put s6 (.i .u64 0) (Env.put s7 .if0 e))) [] H fun v1 H0 k0 =>
 K0 .ret (Env.put s6 (.i .u64 0) (Env.put s7 v1 (Env.put s19 v0 (Env.put s6 (.i .u64 0) (Env.put s7 .if0 e))))) H0 k0)
 (K0 .norm (Env.put s19 v0 (Env.put s6 (.i .u64 0) (Env.put s7 .if0 e))) H (Ctl.mk [] .none))) (fun k1 e0 H1 =>
 binK .eql .no (Env.get s1 e0) (.i .i64 0) fun v0 =>
 seqK (fun K1 =>
 blockK 0 (fun K2 =>
 binK .leq .no (.i .i64 2) (Env.get s1 e0) fun v2 =>
 gdK v2 true (fun R0 => R0 (Env.get s1 e0) H1 k1) H1 k1 fun v3 H2 k2 =>
 gdK v2 true (fun R1 => binK .leq .no v3 (.i .i64 36) fun v4 =>
 R1 v4 H2 k2) H2 k2 fun v4 H3 k3 =>
 pkK v2 v4 (.b false) fun v5 =>
 condK v5 (K2 .norm (Env.put s25 v5 (Env.put s9 (Env.get s0 e0) (Env.put s8 v0 e0))) H3 k3)
 (binK .eql .no (Env.get s1 e0) (.i .i64 0) fun v6 =>
 condK v6 (ixK .none (Env.get s0 e0) (.i .i64 0) fun v7 =>
 binK .eql .no v7 (.i .u8 48) fun v8 =>
 condK v8 (blockK 1 (fun K3 =>
 lnK .s H3 (Env.get s0 e0) fun v9 =>
 binK .geq .no v9 (.i .i64 3) fun v10 =>
 gdK v10 true (fun R2 => R2 (Env.get s0 e0) H3 k3) H3 k3 fun v11 H4 k4 =>
 gdK v10 true (fun R3 => ixK .none v11 (.i .i64 1) fun v12 =>
 R3 v12 H4 k4) H4 k4 fun v12 H5 k5 =>
 gdK v10 true (fun R4 => caK rec 323 [v12] H5 fun v13 H6 =>
 R4 v13 H6 k5) H5 k5 fun v13 H6 k6 =>
 gdK v10 true (fun R5 => binK .eql .no v13 (.i .u8 98) fun v14 =>
 R5 v14 H6 k6) H6 k6 fun v14 H7 k7 =>
 pkK v10 v14 (.b false) fun v15 =>
 condK v15 (slK .none (Env.get s0 e0) (.some (.i .i64 2)) .none .none fun v16 =>
 K3 .norm (Env.put s0 v16 (Env.put s1 (.i .i64 2) (Env.put s40 v15 (Env.put s37 v8 (Env.put s1 (.i .i64 10) (Env.put s32 v6 (Env.put s25 v5 (Env.put s9 (Env.get s0 e0) (Env.put s8 v0 e0))))))))) H7 k7)
 (lnK .s H7 (Env.get s0 e0) fun v17 =>
 binK .geq .no v17 (.i .i64 3) fun v18 =>
 gdK v18 true (fun R6 => R6 (Env.get s0 e0) H7 k7) H7 k7 fun v19 H8 k8 =>
 gdK v18 true (fun R7 => ixK .none v19 (.i .i64 1) fun v20 =>
 R7 v20 H8 k8) H8 k8 fun v20 H9 k9 =>
 gdK v18 true (fun R8 => caK rec 323 [v20] H9 fun v21 H10 =>
 R8 v21 H10 k9) H9 k9 fun v21 H10 k10 =>
 gdK v18 true (fun R9 => binK .eql .no v21 (.i .u8 111) fun v22 =>
 R9 v22 H10 k10) H10 k10 fun v22 H11 k11 =>
 pkK v18 v22 (.b false) fun v23 =>
 condK v23 (slK .none (Env.get s0 e0) (.some (.i .i64 2)) .none .none fun v24 =>
 K3 .norm (Env.put s0 v24 (Env.put s1 (.i .i64 8) (Env.put s52 v23 (Env.put s40 v15 (Env.put s37 v8 (Env.put s1 (.i .i64 10) (Env.put s32 v6 (Env.put s25 v5 (Env.put s9 (Env.get s0 e0) (Env.put s8 v0 e0)))))))))) H11 k11)
 (lnK .s H11 (Env.get s0 e0) fun v25 =>
 binK .geq .no v25 (.i .i64 3) fun v26 =>
 gdK v26 true (fun R10 => R10 (Env.get s0 e0) H11 k11) H11 k11 fun v27 H12 k12 =>
 gdK v26 true (fun R11 => ixK .none v27 (.i .i64 1) fun v28 =>
 R11 v28 H12 k12) H12 k12 fun v28 H13 k13 =>
 gdK v26 true (fun R12 => caK rec 323 [v28] H13 fun v29 H14 =>
 R12 v29 H14 k13) H13 k13 fun v29 H14 k14 =>
 gdK v26 true (fun R13 => binK .eql .no v29 (.i .u8 120) fun v30 =>
 R13 v30 H14 k14) H14 k14 fun v30 H15 k15 =>
 pkK v26 v30 (.b false) fun v31 =>
 condK v31 (slK .none (Env.get s0 e0) (.some (.i .i64 2)) .none .none fun v32 =>
 K3 .norm (Env.put s0 v32 (Env.put s1 (.i .i64 16) (Env.put s64 v31 (Env.put s52 v23 (Env.put s40 v15 (Env.put s37 v8 (Env.put s1 (.i .i64 10) (Env.put s32 v6 (Env.put s25 v5 (Env.put s9 (Env.get s0 e0) (Env.put s8 v0 e0))))))))))) H15 k15)
 (slK .none (Env.get s0 e0) (.some (.i .i64 1)) .none .none fun v32 =>
 K3 .norm (Env.put s0 v32 (Env.put s1 (.i .i64 8) (Env.put s64 v31 (Env.put s52 v23 (Env.put s40 v15 (Env.put s37 v8 (Env.put s1 (.i .i64 10) (Env.put s32 v6 (Env.put s25 v5 (Env.put s9 (Env.get s0 e0) (Env.put s8 v0 e0))))))))))) H15 k15)))) K2)
 (K2 .norm (Env.put s37 v8 (Env.put s1 (.i .i64 10) (Env.put s32 v6 (Env.put s25 v5 (Env.put s9 (Env.get s0 e0) (Env.put s8 v0 e0)))))) H3 k3))
 (genK roundT rec (.mkIface 405 (.c (.i .i64 3))) k3 (Env.put s32 v6 (Env.put s25 v5 (Env.put s9 (Env.get s0 e0) (Env.put s8 v0 e0)))) [] H3 fun v33 H16 k16 =>
 K2 .ret (Env.put s6 (.i .u64 0) (Env.put s7 v33 (Env.put s32 v6 (Env.put s25 v5 (Env.put s9 (Env.get s0 e0) (Env.put s8 v0 e0)))))) H16 k16))) K1) (fun k17 e1 H17 =>
 seqK (fun K2 =>
 binK .eql .no (Env.get s2 e1) (.i .i64 0) fun v2 =>
 condK v2 (K2 .norm (Env.put s2 (.i .i64 64) (Env.put s77 v2 e1)) H17 k17)
 (binK .lss .no (Env.get s2 e1) (.i .i64 0) fun v6 =>
 gdK v6 false (fun R14 => R14 (Env.get s2 e1) H17 k17) H17 k17 fun v34 H18 k18 =>
 gdK v6 false (fun R15 => binK .gtr .no v34 (.i .i64 64) fun v35 =>
 R15 v35 H18 k18) H18 k18 fun v35 H19 k19 =>
 pkK v6 (.b true) v35 fun v36 =>
 condK v36 (genK roundT rec (.mkIface 405 (.c (.i .i64 4))) k19 (Env.put s83 v36 (Env.put s77 v2 e1)) [] H19 fun v33 H16 k16 =>
 K2 .ret (Env.put s6 (.i .u64 0) (Env.put s7 v33 (Env.put s83 v36 (Env.put s77 v2 e1)))) H16 k16)
 (K2 .norm (Env.put s83 v36 (Env.put s77 v2 e1)) H19 k19))) (fun k20 e2 H20 =>
 seqK (fun K4 =>
 blockK 2 (fun K5 =>
 binK .eql .no (Env.get s1 e2) (.i .i64 10) fun v33 =>
 condK v33 (K5 .norm (Env.put s10 (.i .u64 1844674407370955162) (Env.put s90 v33 (Env.put s85 (Env.get s1 e2) (Env.put s10 (.i .u64 0) e2)))) H20 k20)
 (binK .eql .no (Env.get s1 e2) (.i .i64 16) fun v37 =>
 condK v37 (K5 .norm (Env.put s10 (.i .u64 1152921504606846976) (Env.put s92 v37 (Env.put s90 v33 (Env.put s85 (Env.get s1 e2) (Env.put s10 (.i .u64 0) e2))))) H20 k20)
 (genK roundT rec (.convInt .u64 (.s s1)) k20 (Env.put s92 v37 (Env.put s90 v33 (Env.put s85 (Env.get s1 e2) (Env.put s10 (.i .u64 0) e2)))) [] H20 fun v38 H21 k21 =>
 binK .quo .no (.i .u64 18446744073709551615) v38 fun v39 =>
 binK .add .no v39 (.i .u64 1) fun v40 =>
 K5 .norm (Env.put s10 v40 (Env.put s92 v37 (Env.put s90 v33 (Env.put s85 (Env.get s1 e2) (Env.put s10 (.i .u64 0) e2))))) H21 k21))) K4) (fun k22 e3 H22 =>
 genK roundT rec (.convInt .u64 (.s s2)) k22 e3 [] H22 fun v6 H23 k23 =>
 binK .shl .no (.i .u64 1) v6 fun v34 =>
 binK .sub .no v34 (.i .u64 1) fun v35 =>
 seqK (fun K6 =>
 genK roundT rec (.strBytes 5 (.s s0)) k23 (Env.put s13 (.i .u64 0) (Env.put s12 (.b false) (Env.put s11 v35 e3))) [] H23 fun v41 H24 k24 =>
 lnK .sl H24 v41 fun v42 =>
 blockK 3 (fun K7 =>
 loopK (fun k25 e4 H25 K8 =>
 binK .lss .no (Env.get s101 e4) (Env.get s100 e4) fun v43 =>
 seqK (fun K9 =>
 condK v43 (K9 .norm (Env.put s102 v43 e4) H25 k25)
 (K9 (.exit 3) (Env.put s102 v43 e4) H25 k25)) (fun k26 e5 H26 =>
 seqK (fun K10 =>
 blockK 4 (fun K11 =>
 iaK .none 1 (Env.get s99 e5) (Env.get s101 e5) fun v24 =>
 ldK false 1 v24 H26 fun v44 =>
 seqK (fun K12 =>
 blockK 5 (fun K13 =>
 binK .eql .no v44 (.i .u8 95) fun v45 =>
 gdK v45 true (fun R16 => R16 (Env.get s8 e5) H26 k26) H26 k26 fun v46 H27 k27 =>
 pkK v45 v46 (.b false) fun v47 =>
 condK v47 (K13 (.exit 4) (Env.put s12 (.b true) (Env.put s106 v47 (Env.put s16 (.i .u8 0) (Env.put s15 v44 e5)))) H27 k27)
 (binK .leq .no (.i .u8 48) v44 fun v48 =>
 gdK v48 true (fun R17 => R17 v44 H27 k27) H27 k27 fun v49 H28 k28 =>
 gdK v48 true (fun R18 => binK .leq .no v49 (.i .u8 57) fun v50 =>
 R18 v50 H28 k28) H28 k28 fun v50 H29 k29 =>
 pkK v48 v50 (.b false) fun v51 =>
 condK v51 (binK .sub .no v44 (.i .u8 48) fun v52 =>
 K13 .norm (Env.put s16 v52 (Env.put s112 v51 (Env.put s106 v47 (Env.put s16 (.i .u8 0) (Env.put s15 v44 e5))))) H29 k29)
 (caK rec 323 [v44] H29 fun v53 H30 =>
 binK .leq .no (.i .u8 97) v53 fun v54 =>
 gdK v54 true (fun R19 => R19 v44 H30 k29) H30 k29 fun v55 H31 k30 =>
 gdK v54 true (fun R20 => caK rec 323 [v55] H31 fun v56 H32 =>
 R20 v56 H32 k30) H31 k30 fun v56 H32 k31 =>
 gdK v54 true (fun R21 => binK .leq .no v56 (.i .u8 122) fun v57 =>
 R21 v57 H32 k31) H32 k31 fun v57 H33 k32 =>
 pkK v54 v57 (.b false) fun v58 =>
 condK v58 (caK rec 323 [v44] H33 fun v59 H34 =>
 binK .sub .no v59 (.i .u8 97) fun v60 =>
 binK .add .no v60 (.i .u8 10) fun v61 =>
 K13 .norm (Env.put s16 v61 (Env.put s121 v58 (Env.put s112 v51 (Env.put s106 v47 (Env.put s16 (.i .u8 0) (Env.put s15 v44 e5)))))) H34 k32)
 (genK roundT rec (.mkIface 405 (.c (.i .i64 2))) k32 (Env.put s121 v58 (Env.put s112 v51 (Env.put s106 v47 (Env.put s16 (.i .u8 0) (Env.put s15 v44 e5))))) [] H33 fun v62 H35 k33 =>
 K13 .ret (Env.put s6 (.i .u64 0) (Env.put s7 v62 (Env.put s121 v58 (Env.put s112 v51 (Env.put s106 v47 (Env.put s16 (.i .u8 0) (Env.put s15 v44 e5))))))) H35 k33)))) K12) (fun k34 e6 H36 =>
 seqK (fun K13 =>
 genK roundT rec (.convInt .u8 (.s s1)) k34 e6 [] H36 fun v45 H37 k35 =>
 binK .geq .no (Env.get s16 e6) v45 fun v46 =>
 condK v46 (genK roundT rec (.mkIface 405 (.c (.i .i64 2))) k35 (Env.put s137 v46 e6) [] H37 fun v48 H38 k36 =>
 K13 .ret (Env.put s6 (.i .u64 0) (Env.put s7 v48 (Env.put s137 v46 e6))) H38 k36)
 (K13 .norm (Env.put s137 v46 e6) H37 k35)) (fun k37 e7 H39 =>
 seqK (fun K14 =>
 binK .geq .no (Env.get s13 e7) (Env.get s10 e7) fun v63 =>
 condK v63 (genK roundT rec (.mkIface 405 (.c (.i .i64 1))) k37 (Env.put s141 v63 e7) [] H39 fun v64 H40 k38 =>
 K14 .ret (Env.put s6 (Env.get s11 e7) (Env.put s7 v64 (Env.put s141 v63 e7))) H40 k38)
 (K14 .norm (Env.put s141 v63 e7) H39 k37)) (fun k39 e8 H41 =>
 genK roundT rec (.convInt .u64 (.s s1)) k39 e8 [] H41 fun v63 H42 k40 =>
 binK .mul .no (Env.get s13 e8) v63 fun v65 =>
 genK roundT rec (.convInt .u64 (.s s16)) k40 (Env.put s13 v65 e8) [] H42 fun v48 H38 k36 =>
 binK .add .no v65 v48 fun v49 =>
 seqK (fun K15 =>
 binK .lss .no v49 v65 fun v53 =>
 gdK v53 false (fun R22 => R22 v49 H38 k36) H38 k36 fun v54 H43 k41 =>
 gdK v53 false (fun R19 => R19 (Env.get s11 e8) H43 k41) H43 k41 fun v55 H31 k30 =>
 gdK v53 false (fun R20 => binK .gtr .no v54 v55 fun v56 =>
 R20 v56 H31 k30) H31 k30 fun v56 H32 k31 =>
 pkK v53 (.b true) v56 fun v57 =>
 condK v57 (genK roundT rec (.mkIface 405 (.c (.i .i64 1))) k31 (Env.put s159 v57 (Env.put s17 v49 (Env.put s13 v65 e8))) [] H32 fun v62 H35 k33 =>
 K15 .ret (Env.put s6 (Env.get s11 e8) (Env.put s7 v62 (Env.put s159 v57 (Env.put s17 v49 (Env.put s13 v65 e8))))) H35 k33)
 (K15 .norm (Env.put s159 v57 (Env.put s17 v49 (Env.put s13 v65 e8))) H32 k31)) (fun k42 e9 H44 =>
 K11 .norm (Env.put s13 (Env.get s17 e9) e9) H44 k42) K11) K11) K11) K11) K10) (fun k43 e10 H45 =>
 binK .add .no (Env.get s101 e10) (.i .i64 1) fun v66 =>
 K8 .norm (Env.put s101 v66 e10) H45 k43) K8) K8) rounds K7 k24 (Env.put s99 v41 (Env.put s100 v42 (Env.put s101 (.i .i64 0) (Env.put s13 (.i .u64 0) (Env.put s12 (.b false) (Env.put s11 v35 e3)))))) H24) K6) (fun k44 e11 H46 =>
 seqK (fun K16 =>
 gdK (Env.get s12 e11) true (fun R23 => R23 (Env.get s9 e11) H46 k44) H46 k44 fun v38 H21 k21 =>
 gdK (Env.get s12 e11) true (fun R24 => caK rec 324 [v38] H21 fun v39 H47 =>
 R24 v39 H47 k21) H21 k21 fun v39 H47 k45 =>
 gdK (Env.get s12 e11) true (fun R25 => unK .not v39 fun v40 =>
 R25 v40 H47 k45) H47 k45 fun v40 H48 k46 =>
 pkK (Env.get s12 e11) v40 (.b false) fun v67 =>
 condK v67 (genK roundT rec (.mkIface 405 (.c (.i .i64 2))) k46 (Env.put s169 v67 e11) [] H48 fun v43 H49 k47 =>
 K16 .ret (Env.put s6 (.i .u64 0) (Env.put s7 v43 (Env.put s169 v67 e11))) H49 k47)
 (K16 .norm (Env.put s169 v67 e11) H48 k46)) (fun k48 e12 H50 =>
 (endK recD [.slot s6, .slot s7]) .ret (Env.put s6 (Env.get s13 e12) (Env.put s7 .if0 e12)) H50 k48) (endK recD [.slot s6, .slot s7])) (endK recD [.slot s6, .slot s7])) (endK recD [.slot s6, .slot s7])) (endK recD [.slot s6, .slot s7])) (endK recD [.slot s6, .slot s7])) (endK recD [.slot s6, .slot s7])
theorem Tryz.cOk316 : (compFn Tryz.prog Tryz.f316).map (bodyK 316) = some Tryz.c316 := by kernel_rfl
end
end Go.Proofs
