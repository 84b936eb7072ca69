/- A part of the program's functions, printed as the executor's code, and that they are the program's. -/
import Derived.Test.YtfkihaecobceeaaGreatDoorEng4
import Derived.Test.YtfkihaecobceeaaGreatDoorEng1
import Derived.Test.YtfkihaecobceeaaGreatDoorSlots
import Derived.Test.YtfkihaecobceeaaGreatDoorProg
import Derived.KernelRfl
set_option autoImplicit false
set_option linter.all false
set_option maxRecDepth 1000000
namespace Go.Proofs
open Go Go.AX
noncomputable section
def Tryz.c12 : FnK := fun rec recD args H => startK 2 args fun e =>
 caK rec 34 [(Env.get s1 e)] H fun v0 H0 =>
 caK rec 33 [(Env.get s0 e), v0] H0 fun v1 H1 =>
 exK 0 v1 fun v2 =>
 exK 1 v1 fun v3 =>
 seqK (fun K0 =>
 binK .neq .no v3 (.i .i64 0) fun v4 =>
 condK v4 (K0 .ret (Env.put s4 .p0 (Env.put s5 (.b false) (Env.put s18 v4 (Env.put s6 v2 (Env.put s7 v3 (Env.put s4 .p0 (Env.put s5 (.b false) e))))))) H1 (Ctl.mk [] .none))
 (K0 .norm (Env.put s18 v4 (Env.put s6 v2 (Env.put s7 v3 (Env.put s4 .p0 (Env.put s5 (.b false) e))))) H1 (Ctl.mk [] .none))) (fun k0 e0 H2 =>
 newK 25 [(.i .i64 0), (.i .i64 0)] H2 fun v4 H3 =>
 caK rec 7 [(Env.get s6 e0)] H3 fun v5 H4 =>
 exK 0 v5 fun v6 =>
 exK 1 v5 fun v7 =>
 stK 2 v7 v4 H4 fun H5 =>
 faK 0 v4 fun v8 =>
 ldK false 1 v8 H5 fun v9 =>
 binK .eql .no v9 (.i .i64 0) fun v10 =>
 (endK recD [.slot s4, .slot s5]) .ret (Env.put s4 v6 (Env.put s5 v10 (Env.put s9 v4 (Env.put s8 v6 e0)))) H5 k0) (endK recD [.slot s4, .slot s5])
theorem Tryz.cOk12 : (compFn Tryz.prog Tryz.f12).map (bodyK 12) = some Tryz.c12 := by kernel_rfl
def Tryz.c20 : FnK := fun rec recD args H => startK 2 args fun e =>
 bdK [.sl0] [] fun v0 =>
 bxK 111 v0 H fun v1 H0 =>
 caK rec 44 [(Env.get s0 e)] H0 fun v2 H1 =>
 bdK [.p0, .p0, (.i .i64 0), .p0, .p0] [(0, 1, (Env.get s0 e)), (3, 1, v1), (4, 1, v2)] fun v3 =>
 bxK 116 v3 H1 fun v4 H2 =>
 caK rec 45 [v4] H2 fun v5 H3 =>
 caK rec 46 [v4] H3 fun v6 H4 =>
 seqK (fun K0 =>
 caK rec 27 [(Env.get s0 e)] H4 fun v7 H5 =>
 lnK .sl H5 v7 fun v8 =>
 blockK 0 (fun K1 =>
 loopK (fun k0 e0 H6 K2 =>
 binK .lss .no (Env.get s23 e0) (Env.get s22 e0) fun v9 =>
 seqK (fun K3 =>
 condK v9 (K3 .norm (Env.put s24 v9 e0) H6 k0)
 (K3 (.exit 0) (Env.put s24 v9 e0) H6 k0)) (fun k1 e1 H7 =>
 seqK (fun K4 =>
 blockK 1 (fun K5 =>
 iaK .none 8 (Env.get s21 e1) (Env.get s23 e1) fun v10 =>
 ldK true 8 v10 H7 fun v11 =>
 newK 86 [(.s []), (.i .i64 0), (.b false), (.i .i64 0), (.s []), (.i .i64 0), (.s []), .p0] H7 fun v12 H8 =>
 stK 8 v11 v12 H8 fun H9 =>
 caK rec 47 [(Env.get s0 e1), (Env.get s23 e1), (Env.get s1 e1)] H9 fun v13 H10 =>
 genK roundT rec (.nilCheck (.s s5)) k1 (Env.put s7 v12 (Env.put s6 (Env.get s23 e1) e1)) [v13] H10 fun v14 H11 k2 =>
 faK 2 v14 fun v15 =>
 stK 1 (Env.get s23 e1) v15 H11 fun H12 =>
 genK roundT rec (.nilCheck (.s s5)) k2 (Env.put s7 v12 (Env.put s6 (Env.get s23 e1) e1)) [AX.undef, v15, v14, v13] H12 fun v16 H13 k3 =>
 faK 1 v16 fun v17 =>
 stK 1 v13 v17 H13 fun H14 =>
 faK 1 v12 fun v18 =>
 ldK false 1 v18 H14 fun v19 =>
 caK rec 23 [(Env.get s0 e1), v19] H14 fun v20 H15 =>
 fdK false 3 1 v20 fun v21 =>
 lnK .sl H15 v21 fun v22 =>
 binK .sub .no v22 (.i .i64 1) fun v23 =>
 iaK .none 1 v21 v23 fun v24 =>
 ldK false 1 v24 H15 fun v25 =>
 caK rec 48 [(Env.get s5 e1), v25] H15 fun v26 H16 =>
 K5 .norm (Env.put s8 v21 (Env.put s7 v12 (Env.put s6 (Env.get s23 e1) e1))) H16 k3) K4) (fun k4 e2 H17 =>
 binK .add .no (Env.get s23 e2) (.i .i64 1) fun v27 =>
 K2 .norm (Env.put s23 v27 e2) H17 k4) K2) K2) rounds K1 (Ctl.mk [] .none) (Env.put s21 v7 (Env.put s22 v8 (Env.put s23 (.i .i64 0) (Env.put s5 v4 (Env.put s4 .p0 e))))) H5) K0) (fun k5 e3 H18 =>
 genK roundT rec (.nilCheck (.s s5)) k5 e3 [] H18 fun v7 H5 k6 =>
 faK 3 v7 fun v8 =>
 ldK false 1 v8 H5 fun v28 =>
 (endK recD [.slot s4]) .ret (Env.put s4 v28 e3) H5 k6) (endK recD [.slot s4])
theorem Tryz.cOk20 : (compFn Tryz.prog Tryz.f20).map (bodyK 20) = some Tryz.c20 := by kernel_rfl
def Tryz.c28 : FnK := fun rec recD args H => startK 1 args fun e =>
 genK roundT rec (.nilCheck (.s s0)) (Ctl.mk [] .none) (Env.put s2 .sl0 e) [] H fun v0 H0 k0 =>
 faK 2 v0 fun v1 =>
 ldK false 1 v1 H0 fun v2 =>
 caK rec 51 [v2] H0 fun v3 H1 =>
 (endK recD [.slot s2]) .ret (Env.put s2 v3 (Env.put s2 .sl0 e)) H1 k0
theorem Tryz.cOk28 : (compFn Tryz.prog Tryz.f28).map (bodyK 28) = some Tryz.c28 := by kernel_rfl
def Tryz.c31 : FnK := fun rec recD args H => startK 1 args fun e =>
 bxK 74 (Env.get s0 e) H fun v0 H0 =>
 seqK (fun K0 =>
 ldK true 4 v0 H0 fun v1 =>
 caK rec 52 [v1] H0 fun v2 H1 =>
 unK .not v2 fun v3 =>
 condK v3 (K0 .ret (Env.put s2 (.i .u8 32) (Env.put s5 v3 (Env.put s1 v0 (Env.put s2 (.i .u8 0) e)))) H1 (Ctl.mk [] .none))
 (K0 .norm (Env.put s5 v3 (Env.put s1 v0 (Env.put s2 (.i .u8 0) e))) H1 (Ctl.mk [] .none))) (fun k0 e0 H2 =>
 faK 3 (Env.get s1 e0) fun v1 =>
 ldK false 1 v1 H2 fun v2 =>
 faK 3 (Env.get s1 e0) fun v3 =>
 ldK false 1 v3 H2 fun v4 =>
 lnK .s H2 v4 fun v5 =>
 binK .sub .no v5 (.i .i64 1) fun v6 =>
 ixK .none v2 v6 fun v7 =>
 (endK recD [.slot s2]) .ret (Env.put s2 v7 e0) H2 k0) (endK recD [.slot s2])
theorem Tryz.cOk31 : (compFn Tryz.prog Tryz.f31).map (bodyK 31) = some Tryz.c31 := by kernel_rfl
def Tryz.c42 : FnK := fun rec recD args H => startK 1 args fun e =>
 bxK 102 (Env.get s0 e) H fun v0 H0 =>
 newK 31 [.p0] H0 fun v1 H1 =>
 newK 25 [(.i .i64 0), (.i .i64 0)] H1 fun v2 H2 =>
 ldK true 2 v0 H2 fun v3 =>
 caK rec 69 [v3] H2 fun v4 H3 =>
 exK 0 v4 fun v5 =>
 exK 1 v4 fun v6 =>
 stK 2 v6 v2 H3 fun H4 =>
 seqK (fun K0 =>
 faK 0 v2 fun v7 =>
 ldK false 1 v7 H4 fun v8 =>
 binK .neq .no v8 (.i .i64 0) fun v9 =>
 condK v9 (ldK true 2 v2 H4 fun v10 =>
 stK 1 .p0 v1 H4 fun H5 =>
 boolK (and (again ⟨.load true 2 (.s s3), .none, []⟩ v10 (Env.put s17 v9 (Env.put s4 v5 (Env.put s1 v0 (Env.put s2 v1 (Env.put s3 v2 e))))) [] H5) true) (stK 2 v10 v2 H5 fun H6 =>
 K0 .ret (Env.put s17 v9 (Env.put s4 v5 (Env.put s1 v0 (Env.put s2 v1 (Env.put s3 v2 e))))) H6 (Ctl.mk [] .none)))
 (K0 .norm (Env.put s17 v9 (Env.put s4 v5 (Env.put s1 v0 (Env.put s2 v1 (Env.put s3 v2 e))))) H4 (Ctl.mk [] .none))) (fun k0 e0 H7 =>
 ldK true 2 (Env.get s1 e0) H7 fun v7 =>
 faK 0 (Env.get s1 e0) fun v8 =>
 ldK false 1 v8 H7 fun v9 =>
 lnK .sl H7 v9 fun v11 =>
 genK roundT rec (.mkSlice 74 4 [(.i .i64 0), (.s []), (.i .i64 0), (.s [])] 48 (.l 0) (.l 0)) k0 e0 [v11, v9, v8, v7] H7 fun v12 H8 k1 =>
 caK rec 70 [v7] H8 fun v13 H9 =>
 boolK (and (again ⟨.len .sl (.l 0), .none, []⟩ v11 e0 [v9, v8, v7] H9) (and (again ⟨.load false 1 (.l 0), .none, []⟩ v9 e0 [v8, v7] H9) true)) (bdK [.sl0, (.i .i64 0), .sl0, .sl0, .sl0, .p0, .sl0] [(0, 2, v13), (5, 1, (Env.get s4 e0)), (2, 1, v12)] fun v14 =>
 bxK 122 v14 H9 fun v15 H10 =>
 stK 1 v15 (Env.get s2 e0) H10 fun H11 =>
 seqK (fun K1 =>
 faK 0 (Env.get s1 e0) fun v10 =>
 ldK false 1 v10 H11 fun v16 =>
 lnK .sl H11 v16 fun v17 =>
 blockK 0 (fun K2 =>
 loopK (fun k2 e1 H12 K3 =>
 binK .lss .no (Env.get s31 e1) (Env.get s30 e1) fun v18 =>
 seqK (fun K4 =>
 condK v18 (K4 .norm (Env.put s32 v18 e1) H12 k2)
 (K4 (.exit 0) (Env.put s32 v18 e1) H12 k2)) (fun k3 e2 H13 =>
 seqK (fun K5 =>
 blockK 1 (fun K6 =>
 ldK false 1 (Env.get s2 e2) H13 fun v19 =>
 ldK false 1 (Env.get s2 e2) H13 fun v20 =>
 ldK false 1 (Env.get s2 e2) H13 fun v21 =>
 genK roundT rec (.nilCheck (.l 0)) k3 e2 [v21, v20, v19] H13 fun v22 H14 k4 =>
 faK 3 v22 fun v23 =>
 ldK false 1 v23 H14 fun v24 =>
 genK roundT rec (.buildSlice 3 1 1 [(.i .i64 0)] [(0, (.c (.i .i64 (-1))))]) k4 e2 [v24, v23, v22, v21, v20, v19] H14 fun v25 H15 k5 =>
 ldK false 1 (Env.get s2 e2) H15 fun v26 =>
 genK roundT rec (.nilCheck (.l 0)) k5 e2 [v26, v25, v24, v23, v22, v21, v20, v19] H15 fun v27 H16 k6 =>
 faK 4 v27 fun v28 =>
 ldK false 1 v28 H16 fun v29 =>
 genK roundT rec (.buildSlice 3 1 1 [(.i .i64 0)] [(0, (.c (.i .i64 (-1))))]) k6 e2 [v29, v28, v27, v26, v25, v24, v23, v22, v21, v20, v19] H16 fun v30 H17 k7 =>
 apK 3 1 [(.i .i64 0)] H17 v24 v25 fun v31 H18 =>
 boolK (and (again ⟨.load false 1 (.l 0), .none, []⟩ v29 e2 [v28, v27, v26, v25, v24, v23, v22, v21, v20, v19] H18) (and (again ⟨.load false 1 (.s s2), .none, []⟩ v26 e2 [v25, v24, v23, v22, v21, v20, v19] H18) (and (again ⟨.load false 1 (.s s2), .none, []⟩ v20 e2 [v19] H18) (and (again ⟨.load false 1 (.s s2), .none, []⟩ v19 e2 [] H18) true)))) (apK 3 1 [(.i .i64 0)] H18 v29 v30 fun v32 H19 =>
 boolK (and (again ⟨.load false 1 (.s s2), .none, []⟩ v20 e2 [v19] H19) (and (again ⟨.load false 1 (.s s2), .none, []⟩ v19 e2 [] H19) true)) (genK roundT rec (.nilCheck (.l 13)) k7 e2 [v32, v31, v30, v29, v28, v27, v26, v25, v24, v23, v22, v21, v20, v19] H19 fun v33 H20 k8 =>
 faK 3 v33 fun v34 =>
 stK 1 v31 v34 H20 fun H21 =>
 boolK (and (again ⟨.load false 1 (.s s2), .none, []⟩ v20 e2 [v19] H21) true) (genK roundT rec (.nilCheck (.l 15)) k8 e2 [AX.undef, v34, v33, v32, v31, v30, v29, v28, v27, v26, v25, v24, v23, v22, v21, v20, v19] H21 fun v35 H22 k9 =>
 faK 4 v35 fun v36 =>
 stK 1 v32 v36 H22 fun H23 =>
 K6 .norm e2 H23 k9)))) K5) (fun k10 e3 H24 =>
 binK .add .no (Env.get s31 e3) (.i .i64 1) fun v37 =>
 K3 .norm (Env.put s31 v37 e3) H24 k10) K3) K3) rounds K2 k1 (Env.put s30 v17 (Env.put s31 (.i .i64 0) e0)) H11) K1) (fun k11 e4 H25 =>
 genK roundT rec (.mkFunc 71 [] [(.s s2), (.s s3)]) k11 e4 [] H25 fun v10 H26 k12 =>
 genK roundT rec (.defer (.l 0) []) k12 e4 [v10] H26 fun v16 H5 k13 =>
 seqK (fun K2 =>
 caK rec 72 [(Env.get s4 e4)] H5 fun v38 H27 =>
 lnK .sl H27 v38 fun v39 =>
 blockK 2 (fun K7 =>
 loopK (fun k3 e2 H13 K4 =>
 binK .lss .no (Env.get s56 e2) (Env.get s55 e2) fun v37 =>
 seqK (fun K8 =>
 condK v37 (K8 .norm (Env.put s57 v37 e2) H13 k3)
 (K8 (.exit 2) (Env.put s57 v37 e2) H13 k3)) (fun k14 e5 H28 =>
 seqK (fun K9 =>
 blockK 3 (fun K10 =>
 iaK .none 1 (Env.get s54 e5) (Env.get s56 e5) fun v40 =>
 ldK false 1 v40 H28 fun v41 =>
 caK rec 73 [(Env.get s4 e5), v41] H28 fun v42 H29 =>
 lnK .sl H29 v42 fun v43 =>
 blockK 4 (fun K11 =>
 loopK (fun k15 e6 H30 K12 =>
 binK .lss .no (Env.get s64 e6) (Env.get s63 e6) fun v44 =>
 seqK (fun K13 =>
 condK v44 (K13 .norm (Env.put s65 v44 e6) H30 k15)
 (K13 (.exit 4) (Env.put s65 v44 e6) H30 k15)) (fun k16 e7 H31 =>
 seqK (fun K14 =>
 blockK 5 (fun K15 =>
 iaK .none 8 (Env.get s62 e7) (Env.get s64 e7) fun v45 =>
 ldK true 8 v45 H31 fun v46 =>
 newK 163 [(.s []), (.s []), (.i .i64 0), (.i .i64 0), (.s []), (.i .i64 0), (.s []), .sl0] H31 fun v47 H32 =>
 stK 8 v46 v47 H32 fun H33 =>
 faK 0 (Env.get s1 e7) fun v48 =>
 ldK false 1 v48 H33 fun v49 =>
 faK 2 v47 fun v50 =>
 ldK false 1 v50 H33 fun v51 =>
 iaK .none 13 v49 v51 fun v52 =>
 faK 0 v52 fun v53 =>
 ldK false 1 v53 H33 fun v54 =>
 binK .neq .no v54 (.i .i64 4) fun v55 =>
 condK v55 (ldK false 1 (Env.get s2 e7) H33 fun v56 =>
 ldK true 8 v47 H33 fun v57 =>
 caK rec 74 [v56, v57] H33 fun v58 H34 =>
 K15 .norm (Env.put s75 v55 (Env.put s8 v47 e7)) H34 k16)
 (K15 .norm (Env.put s75 v55 (Env.put s8 v47 e7)) H33 k16)) K14) (fun k17 e8 H35 =>
 binK .add .no (Env.get s64 e8) (.i .i64 1) fun v59 =>
 K12 .norm (Env.put s64 v59 e8) H35 k17) K12) K12) rounds K11 k14 (Env.put s62 v42 (Env.put s63 v43 (Env.put s64 (.i .i64 0) (Env.put s6 v41 e5)))) H29) K10) K9) (fun k18 e9 H36 =>
 binK .add .no (Env.get s56 e9) (.i .i64 1) fun v60 =>
 K4 .norm (Env.put s56 v60 e9) H36 k18) K4) K4) rounds K7 k13 (Env.put s54 v38 (Env.put s55 v39 (Env.put s56 (.i .i64 0) e4))) H27) K2) (fun k19 e10 H37 =>
 seqK (fun K3 =>
 ldK false 1 (Env.get s2 e10) H37 fun v18 =>
 genK roundT rec (.nilCheck (.l 0)) k19 e10 [v18] H37 fun v61 H38 k20 =>
 faK 6 v61 fun v62 =>
 ldK false 1 v62 H38 fun v63 =>
 lnK .sl H38 v63 fun v64 =>
 blockK 6 (fun K4 =>
 loopK (fun k10 e3 H24 K5 =>
 binK .lss .no (Env.get s86 e3) (Env.get s85 e3) fun v19 =>
 seqK (fun K9 =>
 condK v19 (K9 .norm (Env.put s87 v19 e3) H24 k10)
 (K9 (.exit 6) (Env.put s87 v19 e3) H24 k10)) (fun k18 e9 H36 =>
 seqK (fun K10 =>
 blockK 7 (fun K16 =>
 ldK false 1 (Env.get s2 e9) H36 fun v42 =>
 bdK [.p0, (.i .i64 0), (.i .i64 0)] [(0, 1, v42), (1, 1, (Env.get s86 e9))] fun v43 =>
 bxK 167 v43 H36 fun v65 H39 =>
 caK rec 75 [v65] H39 fun v66 H40 =>
 K16 .norm (Env.put s9 (Env.get s86 e9) e9) H40 k18) K10) (fun k21 e11 H41 =>
 binK .add .no (Env.get s86 e11) (.i .i64 1) fun v67 =>
 K5 .norm (Env.put s86 v67 e11) H41 k21) K5) K5) rounds K4 k20 (Env.put s85 v64 (Env.put s86 (.i .i64 0) e10)) H38) K3) (fun k2 e1 H12 =>
 ldK false 1 (Env.get s2 e1) H12 fun v18 =>
 bdK [(.i .i64 0), (.i .i64 0)] [] fun v61 =>
 stK 1 v18 (Env.get s2 e1) H12 fun H42 =>
 stK 2 v61 (Env.get s3 e1) H42 fun H43 =>
 (endK recD [.cell false 1 s2, .cell true 2 s3]) .ret e1 H43 k2) (endK recD [.cell false 1 s2, .cell true 2 s3])) (endK recD [.cell false 1 s2, .cell true 2 s3])) (endK recD [.cell false 1 s2, .cell true 2 s3]))) (endK recD [.cell false 1 s2, .cell true 2 s3])
theorem Tryz.cOk42 : (compFn Tryz.prog Tryz.f42).map (bodyK 42) = some Tryz.c42 := by kernel_rfl
def Tryz.c46 : FnK := fun rec recD args H => startK 1 args fun e =>
 genK roundT rec (.nilCheck (.s s0)) (Ctl.mk [] .none) e [] H fun v0 H0 k0 =>
 faK 0 v0 fun v1 =>
 ldK false 1 v1 H0 fun v2 =>
 caK rec 87 [v2] H0 fun v3 H1 =>
 caK rec 72 [v3] H1 fun v4 H2 =>
 lnK .sl H2 v4 fun v5 =>
 blockK 0 (fun K0 =>
 loopK (fun k1 e0 H3 K1 =>
 binK .lss .no (Env.get s18 e0) (Env.get s17 e0) fun v6 =>
 seqK (fun K2 =>
 condK v6 (K2 .norm (Env.put s19 v6 e0) H3 k1)
 (K2 (.exit 0) (Env.put s19 v6 e0) H3 k1)) (fun k2 e1 H4 =>
 seqK (fun K3 =>
 blockK 1 (fun K4 =>
 iaK .none 1 (Env.get s16 e1) (Env.get s18 e1) fun v7 =>
 ldK false 1 v7 H4 fun v8 =>
 caK rec 73 [(Env.get s2 e1), v8] H4 fun v9 H5 =>
 lnK .sl H5 v9 fun v10 =>
 blockK 2 (fun K5 =>
 loopK (fun k3 e2 H6 K6 =>
 binK .lss .no (Env.get s26 e2) (Env.get s25 e2) fun v11 =>
 seqK (fun K7 =>
 condK v11 (K7 .norm (Env.put s27 v11 e2) H6 k3)
 (K7 (.exit 2) (Env.put s27 v11 e2) H6 k3)) (fun k4 e3 H7 =>
 seqK (fun K8 =>
 blockK 3 (fun K9 =>
 iaK .none 8 (Env.get s24 e3) (Env.get s26 e3) fun v12 =>
 ldK true 8 v12 H7 fun v13 =>
 newK 163 [(.s []), (.s []), (.i .i64 0), (.i .i64 0), (.s []), (.i .i64 0), (.s []), .sl0] H7 fun v14 H8 =>
 stK 8 v13 v14 H8 fun H9 =>
 faK 1 v14 fun v15 =>
 ldK false 1 v15 H9 fun v16 =>
 newK 163 [(.s []), (.s []), (.i .i64 0), (.i .i64 0), (.s []), (.i .i64 0), (.s []), .sl0] H9 fun v17 H10 =>
 caK rec 89 [(Env.get s2 e3), (Env.get s4 e3)] H10 fun v18 H11 =>
 boolK (and (again ⟨.load false 1 (.l 0), .none, []⟩ v16 (Env.put s6 v14 e3) [v15] H11) true) (caK rec 88 [(Env.get s2 e3), v18, v16] H11 fun v19 H12 =>
 exK 0 v19 fun v20 =>
 exK 1 v19 fun v21 =>
 stK 8 v20 v17 H12 fun H13 =>
 seqK (fun K10 =>
 genK roundT rec (.nilCheck (.s s0)) k4 (Env.put s7 v17 (Env.put s8 v21 (Env.put s6 v14 e3))) [] H13 fun v22 H14 k5 =>
 faK 0 v22 fun v23 =>
 ldK false 1 v23 H14 fun v24 =>
 faK 2 v14 fun v25 =>
 ldK false 1 v25 H14 fun v26 =>
 caK rec 23 [v24, v26] H14 fun v27 H15 =>
 fdK false 0 1 v27 fun v28 =>
 binK .neq .no v28 (.i .i64 6) fun v29 =>
 gdK v29 false (fun R0 => R0 v21 H15 k5) H15 k5 fun v30 H16 k6 =>
 gdK v29 false (fun R1 => unK .not v30 fun v31 =>
 R1 v31 H16 k6) H16 k6 fun v31 H17 k7 =>
 pkK v29 (.b true) v31 fun v32 =>
 condK v32 (K10 (.exit 3) (Env.put s52 v32 (Env.put s7 v17 (Env.put s8 v21 (Env.put s6 v14 e3)))) H17 k7)
 (K10 .norm (Env.put s52 v32 (Env.put s7 v17 (Env.put s8 v21 (Env.put s6 v14 e3)))) H17 k7)) (fun k8 e4 H18 =>
 seqK (fun K11 =>
 faK 7 (Env.get s6 e4) fun v33 =>
 ldK false 1 v33 H18 fun v34 =>
 lnK .sl H18 v34 fun v35 =>
 blockK 4 (fun K12 =>
 loopK (fun k9 e5 H19 K13 =>
 binK .lss .no (Env.get s56 e5) (Env.get s55 e5) fun v36 =>
 seqK (fun K14 =>
 condK v36 (K14 .norm (Env.put s57 v36 e5) H19 k9)
 (K14 (.exit 4) (Env.put s57 v36 e5) H19 k9)) (fun k10 e6 H20 =>
 seqK (fun K15 =>
 blockK 5 (fun K16 =>
 faK 2 (Env.get s6 e6) fun v37 =>
 ldK false 1 v37 H20 fun v38 =>
 ldK true 8 (Env.get s7 e6) H20 fun v39 =>
 ldK true 8 (Env.get s6 e6) H20 fun v40 =>
 caK rec 91 [(Env.get s0 e6), v39, (Env.get s56 e6)] H20 fun v41 H21 =>
 boolK (and (again ⟨.load true 8 (.s s6), .none, []⟩ v40 (Env.put s9 (Env.get s56 e6) e6) [v39, v38, v37] H21) (and (again ⟨.load false 1 (.l 0), .none, []⟩ v38 (Env.put s9 (Env.get s56 e6) e6) [v37] H21) true)) (caK rec 91 [(Env.get s0 e6), v40, (Env.get s56 e6)] H21 fun v42 H22 =>
 boolK (and (again ⟨.load false 1 (.l 0), .none, []⟩ v38 (Env.put s9 (Env.get s56 e6) e6) [v37] H22) true) (caK rec 90 [(Env.get s0 e6), v38, v41, v42, (.i .i64 6)] H22 fun v43 H23 =>
 K16 .norm (Env.put s9 (Env.get s56 e6) e6) H23 k10))) K15) (fun k11 e7 H24 =>
 binK .add .no (Env.get s56 e7) (.i .i64 1) fun v44 =>
 K13 .norm (Env.put s56 v44 e7) H24 k11) K13) K13) rounds K12 k8 (Env.put s55 v35 (Env.put s56 (.i .i64 0) e4)) H18) K11) (fun k12 e8 H25 =>
 faK 2 (Env.get s6 e8) fun v22 =>
 ldK false 1 v22 H25 fun v23 =>
 faK 2 (Env.get s6 e8) fun v24 =>
 ldK false 1 v24 H25 fun v25 =>
 faK 3 (Env.get s6 e8) fun v26 =>
 ldK true 4 v26 H25 fun v27 =>
 faK 2 (Env.get s7 e8) fun v28 =>
 ldK false 1 v28 H25 fun v29 =>
 faK 3 (Env.get s7 e8) fun v30 =>
 ldK true 4 v30 H25 fun v31 =>
 caK rec 92 [v25, v27] H25 fun v32 H26 =>
 boolK (and (again ⟨.load true 4 (.l 0), .none, []⟩ v31 e8 [v30, v29, v28, v27, v26, v25, v24, v23, v22] H26) (and (again ⟨.load false 1 (.l 0), .none, []⟩ v29 e8 [v28, v27, v26, v25, v24, v23, v22] H26) (and (again ⟨.load false 1 (.l 0), .none, []⟩ v23 e8 [v22] H26) true))) (caK rec 92 [v29, v31] H26 fun v45 H27 =>
 boolK (and (again ⟨.load false 1 (.l 0), .none, []⟩ v23 e8 [v22] H27) true) (caK rec 90 [(Env.get s0 e8), v23, v32, v45, (.i .i64 6)] H27 fun v46 H28 =>
 K9 .norm e8 H28 k12))) K9) K9)) K8) (fun k13 e9 H29 =>
 binK .add .no (Env.get s26 e9) (.i .i64 1) fun v47 =>
 K6 .norm (Env.put s26 v47 e9) H29 k13) K6) K6) rounds K5 k2 (Env.put s24 v9 (Env.put s25 v10 (Env.put s26 (.i .i64 0) (Env.put s4 v8 e1)))) H5) K4) K3) (fun k14 e10 H30 =>
 binK .add .no (Env.get s18 e10) (.i .i64 1) fun v48 =>
 K1 .norm (Env.put s18 v48 e10) H30 k14) K1) K1) rounds K0 k0 (Env.put s16 v4 (Env.put s17 v5 (Env.put s18 (.i .i64 0) (Env.put s2 v3 e)))) H2) (endK recD [])
theorem Tryz.cOk46 : (compFn Tryz.prog Tryz.f46).map (bodyK 46) = some Tryz.c46 := by kernel_rfl
def Tryz.c50 : FnK := fun rec recD args H => startK 1 args fun e =>
 seqK (fun K0 =>
 binK .eql .sl (Env.get s0 e) .sl0 fun v0 =>
 condK v0 (K0 .ret (Env.put s2 .sl0 (Env.put s4 v0 (Env.put s2 .sl0 e))) H (Ctl.mk [] .none))
 (K0 .norm (Env.put s4 v0 (Env.put s2 .sl0 e)) H (Ctl.mk [] .none))) (fun k0 e0 H0 =>
 genK roundT rec (.buildSlice 86 0 8 [(.s []), (.i .i64 0), (.b false), (.i .i64 0), (.s []), (.i .i64 0), (.s []), .p0] []) k0 e0 [] H0 fun v0 H1 k1 =>
 apK 86 8 [(.s []), (.i .i64 0), (.b false), (.i .i64 0), (.s []), (.i .i64 0), (.s []), .p0] H1 v0 (Env.get s0 e0) fun v1 H2 =>
 (endK recD [.slot s2]) .ret (Env.put s2 v1 e0) H2 k1) (endK recD [.slot s2])
theorem Tryz.cOk50 : (compFn Tryz.prog Tryz.f50).map (bodyK 50) = some Tryz.c50 := by kernel_rfl
def Tryz.c51 : FnK := fun rec recD args H => startK 1 args fun e =>
 seqK (fun K0 =>
 binK .eql .sl (Env.get s0 e) .sl0 fun v0 =>
 condK v0 (K0 .ret (Env.put s2 .sl0 (Env.put s4 v0 (Env.put s2 .sl0 e))) H (Ctl.mk [] .none))
 (K0 .norm (Env.put s4 v0 (Env.put s2 .sl0 e)) H (Ctl.mk [] .none))) (fun k0 e0 H0 =>
 genK roundT rec (.buildSlice 82 0 7 [(.s []), (.i .i64 0), (.s []), (.i .i64 0), (.s []), (.i .i64 0), (.b false)] []) k0 e0 [] H0 fun v0 H1 k1 =>
 apK 82 7 [(.s []), (.i .i64 0), (.s []), (.i .i64 0), (.s []), (.i .i64 0), (.b false)] H1 v0 (Env.get s0 e0) fun v1 H2 =>
 (endK recD [.slot s2]) .ret (Env.put s2 v1 e0) H2 k1) (endK recD [.slot s2])
theorem Tryz.cOk51 : (compFn Tryz.prog Tryz.f51).map (bodyK 51) = some Tryz.c51 := by kernel_rfl
def Tryz.c52 : FnK := fun rec recD args H => startK 1 args fun e =>
 bxK 74 (Env.get s0 e) H fun v0 H0 =>
 ldK true 4 v0 H0 fun v1 =>
 caK rec 100 [] H0 fun v2 H1 =>
 boolK (and (again ⟨.load true 4 (.s s1), .none, []⟩ v1 (Env.put s1 v0 (Env.put s2 (.b false) e)) [] H1) true) (binK .eql (.flat [(0, .i), (1, .s), (2, .i), (3, .s)]) v1 v2 fun v3 =>
 gdK v3 false (fun R0 => ldK true 4 v0 H1 fun v4 =>
 R0 v4 H1 (Ctl.mk [] .none)) H1 (Ctl.mk [] .none) fun v4 H2 k0 =>
 gdK v3 false (fun R1 => caK rec 101 [] H2 fun v5 H3 =>
 boolK (and (again ⟨.load true 4 (.s s1), (.some ((.l 0), false)), []⟩ v4 (Env.put s1 v0 (Env.put s2 (.b false) e)) [v3, v2, v1] H3) true) (R1 v5 H3 k0)) H2 k0 fun v5 H3 k1 =>
 gdK v3 false (fun R2 => binK .eql (.flat [(0, .i), (1, .s), (2, .i), (3, .s)]) v4 v5 fun v6 =>
 R2 v6 H3 k1) H3 k1 fun v6 H4 k2 =>
 pkK v3 (.b true) v6 fun v7 =>
 gdK v7 false (fun R3 => ldK true 4 v0 H4 fun v8 =>
 R3 v8 H4 k2) H4 k2 fun v8 H5 k3 =>
 gdK v7 false (fun R4 => caK rec 102 [v8] H5 fun v9 H6 =>
 R4 v9 H6 k3) H5 k3 fun v9 H6 k4 =>
 gdK v7 false (fun R5 => binK .neq .no v9 (.s []) fun v10 =>
 R5 v10 H6 k4) H6 k4 fun v10 H7 k5 =>
 pkK v7 (.b true) v10 fun v11 =>
 (endK recD [.slot s2]) .ret (Env.put s2 v11 (Env.put s1 v0 (Env.put s2 (.b false) e))) H7 k5)
theorem Tryz.cOk52 : (compFn Tryz.prog Tryz.f52).map (bodyK 52) = some Tryz.c52 := by kernel_rfl
def Tryz.c57 : FnK := fun rec recD args H => startK 2 args fun e =>
 seqK (fun K0 =>
 lnK .sl H (Env.get s1 e) fun v0 =>
 binK .gtr .no v0 (.i .i64 4096) fun v1 =>
 condK v1 (K0 .ret (Env.put s4 (.i .i64 2) (Env.put s11 v1 (Env.put s4 (.i .i64 0) e))) H (Ctl.mk [] .none))
 (K0 .norm (Env.put s11 v1 (Env.put s4 (.i .i64 0) e)) H (Ctl.mk [] .none))) (fun k0 e0 H0 =>
 seqK (fun K1 =>
 lnK .sl H0 (Env.get s1 e0) fun v2 =>
 blockK 0 (fun K2 =>
 loopK (fun k1 e1 H1 K3 =>
 binK .lss .no (Env.get s14 e1) (Env.get s13 e1) fun v3 =>
 seqK (fun K4 =>
 condK v3 (K4 .norm (Env.put s15 v3 e1) H1 k1)
 (K4 (.exit 0) (Env.put s15 v3 e1) H1 k1)) (fun k2 e2 H2 =>
 seqK (fun K5 =>
 blockK 1 (fun K6 =>
 iaK .none 3 (Env.get s12 e2) (Env.get s14 e2) fun v4 =>
 ldK true 3 v4 H2 fun v5 =>
 newK 45 [(.i .i64 0), (.i .i64 0), (.s [])] H2 fun v6 H3 =>
 stK 3 v5 v6 H3 fun H4 =>
 seqK (fun K7 =>
 faK 2 v6 fun v7 =>
 ldK false 1 v7 H4 fun v8 =>
 lnK .s H4 v8 fun v9 =>
 binK .gtr .no v9 (.i .i64 65536) fun v10 =>
 condK v10 (K7 .ret (Env.put s4 (.i .i64 2) (Env.put s21 v10 (Env.put s6 v6 e2))) H4 k2)
 (K7 .norm (Env.put s21 v10 (Env.put s6 v6 e2)) H4 k2)) (fun k3 e3 H5 =>
 faK 0 (Env.get s6 e3) fun v7 =>
 ldK true 2 v7 H5 fun v8 =>
 caK rec 105 [v8, (Env.get s0 e3)] H5 fun v9 H6 =>
 binK .neq .no v9 (.i .i64 0) fun v11 =>
 condK v11 (K6 .ret (Env.put s4 v9 (Env.put s27 v11 (Env.put s7 v9 e3))) H6 k3)
 (K6 .norm (Env.put s27 v11 (Env.put s7 v9 e3)) H6 k3)) K6) K5) (fun k4 e4 H7 =>
 binK .add .no (Env.get s14 e4) (.i .i64 1) fun v12 =>
 K3 .norm (Env.put s14 v12 e4) H7 k4) K3) K3) rounds K2 k0 (Env.put s12 (Env.get s1 e0) (Env.put s13 v2 (Env.put s14 (.i .i64 0) e0))) H0) K1) (fun k5 e5 H8 =>
 seqK (fun K8 =>
 blockK 2 (fun K3 =>
 loopK (fun k6 e6 H9 K9 =>
 seqK (fun K10 =>
 lnK .sl H9 (Env.get s1 e6) fun v13 =>
 binK .lss .no (Env.get s8 e6) v13 fun v14 =>
 condK v14 (K10 .norm (Env.put s33 v14 e6) H9 k6)
 (K10 (.exit 2) (Env.put s33 v14 e6) H9 k6)) (fun k7 e7 H10 =>
 seqK (fun K4 =>
 blockK 3 (fun K5 =>
 binK .sub .no (Env.get s8 e7) (.i .i64 1) fun v15 =>
 iaK .none 3 (Env.get s1 e7) v15 fun v16 =>
 faK 0 v16 fun v17 =>
 faK 1 v17 fun v18 =>
 ldK false 1 v18 H10 fun v19 =>
 iaK .none 3 (Env.get s1 e7) (Env.get s8 e7) fun v20 =>
 faK 0 v20 fun v21 =>
 faK 0 v21 fun v22 =>
 ldK false 1 v22 H10 fun v23 =>
 binK .gtr .no v19 v23 fun v24 =>
 condK v24 (K5 .ret (Env.put s4 (.i .i64 7) (Env.put s49 v24 e7)) H10 k7)
 (K5 .norm (Env.put s49 v24 e7) H10 k7)) K4) (fun k2 e2 H2 =>
 binK .add .no (Env.get s8 e2) (.i .i64 1) fun v13 =>
 K9 .norm (Env.put s8 v13 e2) H2 k2) K9) K9) rounds K3 k5 (Env.put s8 (.i .i64 1) e5) H8) K8) (fun k8 e8 H11 =>
 (endK recD [.slot s4]) .ret (Env.put s4 (.i .i64 0) e8) H11 k8) (endK recD [.slot s4])) (endK recD [.slot s4])) (endK recD [.slot s4])
theorem Tryz.cOk57 : (compFn Tryz.prog Tryz.f57).map (bodyK 57) = some Tryz.c57 := by kernel_rfl
def Tryz.c66 : FnK := fun rec recD args H => startK 2 args fun e =>
 genK roundT rec (.recover) (Ctl.mk [] .none) e [] H fun v0 H0 k0 =>
 binK .neq .ifc v0 .if0 fun v1 =>
 condK v1 (genK roundT rec (.tassert 25 (.ag [(.i .i64 0), (.i .i64 0)]) true (.s s2)) k0 (Env.put s7 v1 (Env.put s2 v0 e)) [] H0 fun v2 H1 k1 =>
 exK 0 v2 fun v3 =>
 exK 1 v2 fun v4 =>
 newK 25 [(.i .i64 0), (.i .i64 0)] H1 fun v5 H2 =>
 stK 2 v3 v5 H2 fun H3 =>
 seqK (fun K0 =>
 unK .not v4 fun v6 =>
 condK v6 (genK roundT rec (.panic (.s s2)) k1 (Env.put s14 v6 (Env.put s3 v5 (Env.put s4 v4 (Env.put s7 v1 (Env.put s2 v0 e))))) [] H3 fun v7 H4 k2 =>
 K0 .norm (Env.put s14 v6 (Env.put s3 v5 (Env.put s4 v4 (Env.put s7 v1 (Env.put s2 v0 e))))) H4 k2)
 (K0 .norm (Env.put s14 v6 (Env.put s3 v5 (Env.put s4 v4 (Env.put s7 v1 (Env.put s2 v0 e))))) H3 k1)) (fun k3 e0 H5 =>
 bdK [.sl0, (.i .i64 0)] [] fun v8 =>
 ldK true 2 (Env.get s3 e0) H5 fun v9 =>
 stK 2 v8 (Env.get s0 e0) H5 fun H6 =>
 boolK (and (again ⟨.load true 2 (.s s3), .none, []⟩ v9 e0 [v8] H6) true) (stK 2 v9 (Env.get s1 e0) H6 fun H7 =>
 (endK recD []) .norm e0 H7 k3)) (endK recD []))
 ((endK recD []) .norm (Env.put s7 v1 (Env.put s2 v0 e)) H0 k0)
theorem Tryz.cOk66 : (compFn Tryz.prog Tryz.f66).map (bodyK 66) = some Tryz.c66 := by kernel_rfl
def Tryz.c69 : FnK := fun rec recD args H => startK 1 args fun e =>
 bxK 102 (Env.get s0 e) H fun v0 H0 =>
 newK 25 [(.i .i64 0), (.i .i64 0)] H0 fun v1 H1 =>
 seqK (fun K0 =>
 ldK true 2 v0 H1 fun v2 =>
 caK rec 115 [v2] H1 fun v3 H2 =>
 binK .neq .no v3 (.i .i64 0) fun v4 =>
 condK v4 (bdK [(.i .i64 0), (.i .i64 0)] [(0, 1, v3)] fun v5 =>
 stK 2 v5 v1 H2 fun H3 =>
 K0 .ret (Env.put s2 .p0 (Env.put s19 v4 (Env.put s4 v3 (Env.put s1 v0 (Env.put s2 .p0 (Env.put s3 v1 e)))))) H3 (Ctl.mk [] .none))
 (K0 .norm (Env.put s19 v4 (Env.put s4 v3 (Env.put s1 v0 (Env.put s2 .p0 (Env.put s3 v1 e))))) H2 (Ctl.mk [] .none))) (fun k0 e0 H4 =>
 ldK true 2 (Env.get s1 e0) H4 fun v2 =>
 genK roundT rec (.mkMap .none) k0 e0 [v2] H4 fun v3 H2 k1 =>
 bdK [.sl0, (.i .i64 0), .sl0, .m0] [(0, 2, v2), (3, 1, v3)] fun v6 =>
 bxK 242 v6 H2 fun v7 H5 =>
 seqK (fun K1 =>
 faK 0 (Env.get s1 e0) fun v8 =>
 ldK false 1 v8 H5 fun v9 =>
 faK 1 (Env.get s1 e0) fun v10 =>
 ldK false 1 v10 H5 fun v11 =>
 iaK .none 13 v9 v11 fun v12 =>
 faK 3 v12 fun v13 =>
 ldK false 1 v13 H5 fun v14 =>
 lnK .sl H5 v14 fun v15 =>
 blockK 0 (fun K2 =>
 loopK (fun k2 e1 H6 K3 =>
 binK .lss .no (Env.get s34 e1) (Env.get s33 e1) fun v16 =>
 seqK (fun K4 =>
 condK v16 (K4 .norm (Env.put s35 v16 e1) H6 k2)
 (K4 (.exit 0) (Env.put s35 v16 e1) H6 k2)) (fun k3 e2 H7 =>
 seqK (fun K5 =>
 blockK 1 (fun K6 =>
 iaK .none 1 (Env.get s32 e2) (Env.get s34 e2) fun v17 =>
 ldK false 1 v17 H7 fun v18 =>
 newK 25 [(.i .i64 0), (.i .i64 0)] H7 fun v19 H8 =>
 caK rec 116 [(Env.get s5 e2), v18] H8 fun v20 H9 =>
 stK 2 v20 v19 H9 fun H10 =>
 faK 0 v19 fun v21 =>
 ldK false 1 v21 H10 fun v22 =>
 binK .neq .no v22 (.i .i64 0) fun v23 =>
 condK v23 (ldK true 2 v19 H10 fun v24 =>
 stK 2 v24 (Env.get s3 e2) H10 fun H11 =>
 K6 .ret (Env.put s2 .p0 (Env.put s43 v23 (Env.put s8 v19 (Env.put s7 v18 e2)))) H11 k3)
 (K6 .norm (Env.put s43 v23 (Env.put s8 v19 (Env.put s7 v18 e2))) H10 k3)) K5) (fun k4 e3 H12 =>
 binK .add .no (Env.get s34 e3) (.i .i64 1) fun v25 =>
 K3 .norm (Env.put s34 v25 e3) H12 k4) K3) K3) rounds K2 k1 (Env.put s32 v14 (Env.put s33 v15 (Env.put s34 (.i .i64 0) (Env.put s5 v7 e0)))) H5) K1) (fun k5 e4 H13 =>
 seqK (fun K7 =>
 bdK [(.i .i64 0), (.i .i64 0), (.i .i64 0), (.i .i64 0)] [(0, 1, (.i .i64 0)), (1, 1, (.i .i64 1)), (2, 1, (.i .i64 2)), (3, 1, (.i .i64 3))] fun v26 =>
 blockK 2 (fun K3 =>
 loopK (fun k6 e5 H14 K8 =>
 binK .lss .no (Env.get s47 e5) (.i .i64 4) fun v27 =>
 seqK (fun K5 =>
 condK v27 (K5 .norm (Env.put s48 v27 e5) H14 k6)
 (K5 (.exit 2) (Env.put s48 v27 e5) H14 k6)) (fun k4 e3 H12 =>
 seqK (fun K6 =>
 blockK 3 (fun K9 =>
 ixK (.some (4, false, 1)) (Env.get s46 e3) (Env.get s47 e3) fun v28 =>
 seqK (fun K10 =>
 genK roundT rec (.nilCheck (.s s5)) k4 (Env.put s10 v28 e3) [] H12 fun v21 H15 k7 =>
 faK 2 v21 fun v22 =>
 ldK false 1 v22 H15 fun v23 =>
 lnK .sl H15 v23 fun v29 =>
 blockK 4 (fun K11 =>
 loopK (fun k8 e6 H16 K12 =>
 binK .lss .no (Env.get s55 e6) (Env.get s54 e6) fun v30 =>
 seqK (fun K13 =>
 condK v30 (K13 .norm (Env.put s56 v30 e6) H16 k8)
 (K13 (.exit 4) (Env.put s56 v30 e6) H16 k8)) (fun k9 e7 H17 =>
 seqK (fun K14 =>
 blockK 5 (fun K15 =>
 iaK .none 1 (Env.get s53 e7) (Env.get s55 e7) fun v31 =>
 ldK false 1 v31 H17 fun v32 =>
 genK roundT rec (.nilCheck (.s s5)) k9 (Env.put s12 v32 e7) [] H17 fun v33 H18 k10 =>
 faK 3 v33 fun v34 =>
 ldK false 1 v34 H18 fun v35 =>
 genK roundT rec (.lookup .s .p0 false (.l 0) (.s s12)) k10 (Env.put s12 v32 e7) [v35, v34, v33] H18 fun v36 H19 k11 =>
 newK 25 [(.i .i64 0), (.i .i64 0)] H19 fun v37 H20 =>
 caK rec 117 [(Env.get s5 e7), v36, (Env.get s10 e7)] H20 fun v38 H21 =>
 stK 2 v38 v37 H21 fun H22 =>
 faK 0 v37 fun v39 =>
 ldK false 1 v39 H22 fun v40 =>
 binK .neq .no v40 (.i .i64 0) fun v41 =>
 condK v41 (ldK true 2 v37 H22 fun v42 =>
 stK 2 v42 (Env.get s3 e7) H22 fun H23 =>
 K15 .ret (Env.put s2 .p0 (Env.put s70 v41 (Env.put s13 v37 (Env.put s12 v32 e7)))) H23 k11)
 (K15 .norm (Env.put s70 v41 (Env.put s13 v37 (Env.put s12 v32 e7))) H22 k11)) K14) (fun k12 e8 H24 =>
 binK .add .no (Env.get s55 e8) (.i .i64 1) fun v43 =>
 K12 .norm (Env.put s55 v43 e8) H24 k12) K12) K12) rounds K11 k7 (Env.put s53 v23 (Env.put s54 v29 (Env.put s55 (.i .i64 0) (Env.put s10 v28 e3)))) H15) K10) (fun k13 e9 H25 =>
 newK 25 [(.i .i64 0), (.i .i64 0)] H25 fun v21 H15 =>
 caK rec 118 [(Env.get s5 e9), (Env.get s10 e9)] H15 fun v22 H26 =>
 stK 2 v22 v21 H26 fun H27 =>
 faK 0 v21 fun v44 =>
 ldK false 1 v44 H27 fun v45 =>
 binK .neq .no v45 (.i .i64 0) fun v46 =>
 condK v46 (ldK true 2 v21 H27 fun v47 =>
 stK 2 v47 (Env.get s3 e9) H27 fun H28 =>
 K9 .ret (Env.put s2 .p0 (Env.put s78 v46 (Env.put s14 v21 e9))) H28 k13)
 (K9 .norm (Env.put s78 v46 (Env.put s14 v21 e9)) H27 k13)) K9) K6) (fun k14 e10 H29 =>
 binK .add .no (Env.get s47 e10) (.i .i64 1) fun v48 =>
 K8 .norm (Env.put s47 v48 e10) H29 k14) K8) K8) rounds K3 k5 (Env.put s46 v26 (Env.put s47 (.i .i64 0) e4)) H13) K7) (fun k15 e11 H30 =>
 seqK (fun K16 =>
 newK 25 [(.i .i64 0), (.i .i64 0)] H30 fun v5 H31 =>
 caK rec 119 [(Env.get s5 e11)] H31 fun v49 H3 =>
 stK 2 v49 v5 H3 fun H32 =>
 faK 0 v5 fun v16 =>
 ldK false 1 v16 H32 fun v50 =>
 binK .neq .no v50 (.i .i64 0) fun v51 =>
 condK v51 (ldK true 2 v5 H32 fun v25 =>
 stK 2 v25 (Env.get s3 e11) H32 fun H33 =>
 K16 .ret (Env.put s2 .p0 (Env.put s85 v51 (Env.put s15 v5 e11))) H33 k15)
 (K16 .norm (Env.put s85 v51 (Env.put s15 v5 e11)) H32 k15)) (fun k16 e12 H34 =>
 bdK [(.i .i64 0), (.i .i64 0)] [] fun v5 =>
 stK 2 v5 (Env.get s3 e12) H34 fun H3 =>
 (endK recD [.slot s2, .cell true 2 s3]) .ret (Env.put s2 (Env.get s5 e12) e12) H3 k16) (endK recD [.slot s2, .cell true 2 s3])) (endK recD [.slot s2, .cell true 2 s3])) (endK recD [.slot s2, .cell true 2 s3])) (endK recD [.slot s2, .cell true 2 s3])
theorem Tryz.cOk69 : (compFn Tryz.prog Tryz.f69).map (bodyK 69) = some Tryz.c69 := by kernel_rfl
def Tryz.c72 : FnK := fun rec recD args H => startK 1 args fun e =>
 genK roundT rec (.nilCheck (.s s0)) (Ctl.mk [] .none) (Env.put s2 .sl0 e) [] H fun v0 H0 k0 =>
 faK 2 v0 fun v1 =>
 ldK false 1 v1 H0 fun v2 =>
 caK rec 121 [v2] H0 fun v3 H1 =>
 (endK recD [.slot s2]) .ret (Env.put s2 v3 (Env.put s2 .sl0 e)) H1 k0
theorem Tryz.cOk72 : (compFn Tryz.prog Tryz.f72).map (bodyK 72) = some Tryz.c72 := by kernel_rfl
def Tryz.c74 : FnK := fun rec recD args H => startK 2 args fun e =>
 bxK 163 (Env.get s1 e) H fun v0 H0 =>
 genK roundT rec (.nilCheck (.s s0)) (Ctl.mk [] .none) (Env.put s3 v0 e) [] H0 fun v1 H1 k0 =>
 faK 0 v1 fun v2 =>
 ldK true 2 v2 H1 fun v3 =>
 faK 2 v0 fun v4 =>
 ldK false 1 v4 H1 fun v5 =>
 newK 25 [(.i .i64 0), (.i .i64 0)] H1 fun v6 H2 =>
 caK rec 123 [v3, v5] H2 fun v7 H3 =>
 exK 0 v7 fun v8 =>
 exK 1 v7 fun v9 =>
 stK 2 v9 v6 H3 fun H4 =>
 seqK (fun K0 =>
 faK 0 v6 fun v10 =>
 ldK false 1 v10 H4 fun v11 =>
 binK .neq .no v11 (.i .i64 0) fun v12 =>
 condK v12 (ldK true 2 v6 H4 fun v13 =>
 bdK [(.i .i64 0), (.i .i64 0)] [(0, 2, v13)] fun v14 =>
 genK roundT rec (.mkIface 156 (.l 0)) k0 (Env.put s20 v12 (Env.put s5 v6 (Env.put s4 v8 (Env.put s3 v0 e)))) [v14, v13] H4 fun v15 H5 k1 =>
 genK roundT rec (.panic (.l 0)) k1 (Env.put s20 v12 (Env.put s5 v6 (Env.put s4 v8 (Env.put s3 v0 e)))) [v15, v14, v13] H5 fun v16 H6 k2 =>
 K0 .norm (Env.put s20 v12 (Env.put s5 v6 (Env.put s4 v8 (Env.put s3 v0 e)))) H6 k2)
 (K0 .norm (Env.put s20 v12 (Env.put s5 v6 (Env.put s4 v8 (Env.put s3 v0 e)))) H4 k0)) (fun k3 e0 H7 =>
 seqK (fun K1 =>
 genK roundT rec (.nilCheck (.s s0)) k3 e0 [] H7 fun v17 H8 k4 =>
 faK 0 v17 fun v18 =>
 ldK true 2 v18 H8 fun v19 =>
 faK 2 (Env.get s3 e0) fun v20 =>
 ldK false 1 v20 H8 fun v21 =>
 caK rec 124 [v19, v21] H8 fun v22 H9 =>
 lnK .sl H9 v22 fun v23 =>
 blockK 0 (fun K2 =>
 loopK (fun k5 e1 H10 K3 =>
 binK .lss .no (Env.get s32 e1) (Env.get s31 e1) fun v24 =>
 seqK (fun K4 =>
 condK v24 (K4 .norm (Env.put s33 v24 e1) H10 k5)
 (K4 (.exit 0) (Env.put s33 v24 e1) H10 k5)) (fun k6 e2 H11 =>
 seqK (fun K5 =>
 blockK 1 (fun K6 =>
 iaK .none 1 (Env.get s30 e2) (Env.get s32 e2) fun v25 =>
 ldK false 1 v25 H11 fun v26 =>
 genK roundT rec (.nilCheck (.s s0)) k6 (Env.put s7 v26 e2) [] H11 fun v27 H12 k7 =>
 faK 4 v27 fun v28 =>
 ldK false 1 v28 H12 fun v29 =>
 genK roundT rec (.nilCheck (.s s0)) k7 (Env.put s7 v26 e2) [v29, v28, v27] H12 fun v30 H13 k8 =>
 faK 3 v30 fun v31 =>
 ldK false 1 v31 H13 fun v32 =>
 genK roundT rec (.nilCheck (.s s0)) k8 (Env.put s7 v26 e2) [v32, v31, v30, v29, v28, v27] H13 fun v33 H14 k9 =>
 faK 6 v33 fun v34 =>
 ldK false 1 v34 H14 fun v35 =>
 lnK .sl H14 v35 fun v36 =>
 caK rec 125 [(Env.get s4 e2), v26] H14 fun v37 H15 =>
 boolK (and (again ⟨.len .sl (.l 0), .none, []⟩ v36 (Env.put s7 v26 e2) [v35, v34, v33, v32, v31, v30, v29, v28, v27] H15) (and (again ⟨.load false 1 (.l 0), .none, []⟩ v35 (Env.put s7 v26 e2) [v34, v33, v32, v31, v30, v29, v28, v27] H15) (and (again ⟨.load false 1 (.l 0), .none, []⟩ v32 (Env.put s7 v26 e2) [v31, v30, v29, v28, v27] H15) (and (again ⟨.load false 1 (.l 0), .none, []⟩ v29 (Env.put s7 v26 e2) [v28, v27] H15) true)))) (iaK .none 1 v29 v26 fun v38 =>
 stK 1 v36 v38 H15 fun H16 =>
 iaK .none 1 v32 v26 fun v39 =>
 stK 1 v37 v39 H16 fun H17 =>
 K6 .norm (Env.put s7 v26 e2) H17 k9)) K5) (fun k10 e3 H18 =>
 binK .add .no (Env.get s32 e3) (.i .i64 1) fun v40 =>
 K3 .norm (Env.put s32 v40 e3) H18 k10) K3) K3) rounds K2 k4 (Env.put s30 v22 (Env.put s31 v23 (Env.put s32 (.i .i64 0) e0))) H9) K1) (fun k11 e4 H19 =>
 genK roundT rec (.nilCheck (.s s0)) k11 e4 [] H19 fun v10 H20 k12 =>
 faK 6 v10 fun v11 =>
 ldK false 1 v11 H20 fun v12 =>
 faK 0 (Env.get s3 e4) fun v41 =>
 ldK false 1 v41 H20 fun v42 =>
 faK 2 (Env.get s3 e4) fun v43 =>
 ldK false 1 v43 H20 fun v44 =>
 genK roundT rec (.nilCheck (.s s0)) k12 e4 [v44, v43, v42, v41, v12, v11, v10] H20 fun v45 H21 k13 =>
 faK 0 v45 fun v46 =>
 faK 0 v46 fun v47 =>
 ldK false 1 v47 H21 fun v48 =>
 faK 2 (Env.get s3 e4) fun v49 =>
 ldK false 1 v49 H21 fun v50 =>
 iaK .none 13 v48 v50 fun v51 =>
 faK 0 v51 fun v52 =>
 ldK false 1 v52 H21 fun v53 =>
 binK .eql .no v53 (.i .i64 5) fun v54 =>
 faK 3 (Env.get s3 e4) fun v55 =>
 ldK true 4 v55 H21 fun v56 =>
 bdK [(.s []), (.i .i64 0), (.b false), (.i .i64 0), (.s []), (.i .i64 0), (.s []), .p0] [(0, 1, v42), (1, 1, v44), (2, 1, v54), (3, 4, v56), (7, 1, (Env.get s4 e4))] fun v57 =>
 genK roundT rec (.buildSlice 86 1 8 [(.s []), (.i .i64 0), (.b false), (.i .i64 0), (.s []), (.i .i64 0), (.s []), .p0] [(0, (.l 0))]) k13 e4 [v57, v56, v55, v54, v53, v52, v51, v50, v49, v48, v47, v46, v45, v44, v43, v42, v41, v12, v11, v10] H21 fun v58 H22 k14 =>
 apK 86 8 [(.s []), (.i .i64 0), (.b false), (.i .i64 0), (.s []), (.i .i64 0), (.s []), .p0] H22 v12 v58 fun v59 H23 =>
 genK roundT rec (.nilCheck (.s s0)) k14 e4 [v59, v58, v57, v56, v55, v54, v53, v52, v51, v50, v49, v48, v47, v46, v45, v44, v43, v42, v41, v12, v11, v10] H23 fun v60 H24 k15 =>
 faK 6 v60 fun v61 =>
 stK 1 v59 v61 H24 fun H25 =>
 (endK recD []) .norm e4 H25 k15) (endK recD [])) (endK recD [])
theorem Tryz.cOk74 : (compFn Tryz.prog Tryz.f74).map (bodyK 74) = some Tryz.c74 := by kernel_rfl
def Tryz.c77 : FnK := fun rec recD args H => startK 3 args fun e =>
 bxK 177 (Env.get s2 e) H fun v0 H0 =>
 newK 177 [(.i .u64 0), (.b false)] H0 fun v1 H1 =>
 genK roundT rec (.nilCheck (.s s0)) (Ctl.mk [] .none) (Env.put s5 v0 (Env.put s6 v1 e)) [] H1 fun v2 H2 k0 =>
 faK 0 v2 fun v3 =>
 ldK false 1 v3 H2 fun v4 =>
 newK 76 [(.i .i64 0), (.i .i64 0), (.i .i64 0), .sl0, (.s []), (.i .i64 0), (.s []), (.i .i64 0), (.s []), (.i .i64 0), (.i .i64 0), (.i .i64 0), .sl0] H2 fun v5 H3 =>
 caK rec 23 [v4, (Env.get s1 e)] H3 fun v6 H4 =>
 stK 13 v6 v5 H4 fun H5 =>
 genK roundT rec (.nilCheck (.s s0)) k0 (Env.put s7 v5 (Env.put s5 v0 (Env.put s6 v1 e))) [] H5 fun v7 H6 k1 =>
 faK 4 v7 fun v8 =>
 ldK false 1 v8 H6 fun v9 =>
 genK roundT rec (.nilCheck (.s s0)) k1 (Env.put s7 v5 (Env.put s5 v0 (Env.put s6 v1 e))) [v9, v8, v7] H6 fun v10 H7 k2 =>
 faK 4 v10 fun v11 =>
 ldK false 1 v11 H7 fun v12 =>
 iaK .none 1 v12 (Env.get s1 e) fun v13 =>
 ldK false 1 v13 H7 fun v14 =>
 gdK v14 false (fun R0 => faK 1 v0 fun v15 =>
 R0 v15 H7 k2) H7 k2 fun v15 H8 k3 =>
 gdK v14 false (fun R1 => ldK false 1 v15 H8 fun v16 =>
 R1 v16 H8 k3) H8 k3 fun v16 H9 k4 =>
 gdK v14 false (fun R2 => unK .not v16 fun v17 =>
 R2 v17 H9 k4) H9 k4 fun v17 H10 k5 =>
 pkK v14 (.b true) v17 fun v18 =>
 iaK .none 1 v9 (Env.get s1 e) fun v19 =>
 stK 1 v18 v19 H10 fun H11 =>
 seqK (fun K0 =>
 faK 0 v5 fun v20 =>
 ldK false 1 v20 H11 fun v21 =>
 blockK 0 (fun K1 =>
 binK .eql .no v21 (.i .i64 8) fun v22 =>
 condK v22 (seqK (fun K2 =>
 faK 3 v5 fun v23 =>
 ldK false 1 v23 H11 fun v24 =>
 lnK .sl H11 v24 fun v25 =>
 blockK 1 (fun K3 =>
 loopK (fun k6 e0 H12 K4 =>
 binK .lss .no (Env.get s47 e0) (Env.get s46 e0) fun v26 =>
 seqK (fun K5 =>
 condK v26 (K5 .norm (Env.put s48 v26 e0) H12 k6)
 (K5 (.exit 1) (Env.put s48 v26 e0) H12 k6)) (fun k7 e1 H13 =>
 seqK (fun K6 =>
 blockK 2 (fun K7 =>
 iaK .none 1 (Env.get s45 e1) (Env.get s47 e1) fun v27 =>
 ldK false 1 v27 H13 fun v28 =>
 ldK true 2 (Env.get s5 e1) H13 fun v29 =>
 caK rec 77 [(Env.get s0 e1), v28, v29] H13 fun v30 H14 =>
 stK 2 v30 (Env.get s5 e1) H14 fun H15 =>
 K7 .norm (Env.put s9 v28 e1) H15 k7) K6) (fun k8 e2 H16 =>
 binK .add .no (Env.get s47 e2) (.i .i64 1) fun v31 =>
 K4 .norm (Env.put s47 v31 e2) H16 k8) K4) K4) rounds K3 k5 (Env.put s45 v24 (Env.put s46 v25 (Env.put s47 (.i .i64 0) (Env.put s42 v22 (Env.put s41 v21 (Env.put s7 v5 (Env.put s5 v0 (Env.put s6 v1 e)))))))) H11) K2) (fun k9 e3 H17 =>
 ldK true 2 (Env.get s5 e3) H17 fun v23 =>
 stK 2 v23 (Env.get s6 e3) H17 fun H18 =>
 K1 .ret e3 H18 k9) K1)
 (binK .eql .no v21 (.i .i64 9) fun v32 =>
 condK v32 (seqK (fun K3 =>
 faK 3 v5 fun v33 =>
 ldK false 1 v33 H11 fun v34 =>
 lnK .sl H11 v34 fun v35 =>
 blockK 3 (fun K8 =>
 loopK (fun k7 e1 H13 K5 =>
 binK .lss .no (Env.get s62 e1) (Env.get s61 e1) fun v31 =>
 seqK (fun K9 =>
 condK v31 (K9 .norm (Env.put s63 v31 e1) H13 k7)
 (K9 (.exit 3) (Env.put s63 v31 e1) H13 k7)) (fun k10 e4 H19 =>
 seqK (fun K10 =>
 blockK 4 (fun K11 =>
 iaK .none 1 (Env.get s60 e4) (Env.get s62 e4) fun v36 =>
 ldK false 1 v36 H19 fun v37 =>
 ldK true 2 (Env.get s5 e4) H19 fun v38 =>
 caK rec 129 [(Env.get s0 e4), v37, v38] H19 fun v39 H20 =>
 K11 .norm (Env.put s11 v37 e4) H20 k10) K10) (fun k11 e5 H21 =>
 binK .add .no (Env.get s62 e5) (.i .i64 1) fun v29 =>
 K5 .norm (Env.put s62 v29 e5) H21 k11) K5) K5) rounds K8 k5 (Env.put s60 v34 (Env.put s61 v35 (Env.put s62 (.i .i64 0) (Env.put s57 v32 (Env.put s42 v22 (Env.put s41 v21 (Env.put s7 v5 (Env.put s5 v0 (Env.put s6 v1 e))))))))) H11) K3) (fun k12 e6 H22 =>
 seqK (fun K4 =>
 faK 3 (Env.get s7 e6) fun v26 =>
 ldK false 1 v26 H22 fun v40 =>
 lnK .sl H22 v40 fun v41 =>
 binK .gtr .no v41 (.i .i64 0) fun v42 =>
 condK v42 (ldK true 2 (Env.get s5 e6) H22 fun v31 =>
 genK roundT rec (.nilCheck (.s s0)) k12 (Env.put s74 v42 e6) [v31] H22 fun v43 H23 k13 =>
 faK 0 v43 fun v44 =>
 ldK false 1 v44 H23 fun v45 =>
 caK rec 29 [v45, (Env.get s1 e6)] H23 fun v46 H24 =>
 boolK (and (again ⟨.load true 2 (.s s5), .none, []⟩ v31 (Env.put s74 v42 e6) [] H24) true) (caK rec 76 [v31, v46] H24 fun v47 H25 =>
 stK 2 v47 (Env.get s6 e6) H25 fun H26 =>
 K4 .ret (Env.put s74 v42 e6) H26 k13))
 (K4 .norm (Env.put s74 v42 e6) H22 k12)) (fun k6 e0 H12 =>
 ldK true 2 (Env.get s5 e0) H12 fun v26 =>
 genK roundT rec (.nilCheck (.s s0)) k6 e0 [v26] H12 fun v40 H27 k14 =>
 faK 0 v40 fun v41 =>
 ldK false 1 v41 H27 fun v42 =>
 caK rec 29 [v42, (Env.get s1 e0)] H27 fun v48 H28 =>
 boolK (and (again ⟨.load true 2 (.s s5), .none, []⟩ v26 e0 [] H28) true) (caK rec 130 [v26, v48] H28 fun v49 H29 =>
 stK 2 v49 (Env.get s6 e0) H29 fun H30 =>
 K1 .ret e0 H30 k14)) K1) K1)
 (binK .eql .no v21 (.i .i64 10) fun v50 =>
 condK v50 (faK 3 v5 fun v51 =>
 ldK false 1 v51 H11 fun v52 =>
 iaK .none 1 v52 (.i .i64 0) fun v53 =>
 ldK false 1 v53 H11 fun v54 =>
 seqK (fun K6 =>
 genK roundT rec (.nilCheck (.s s0)) k5 (Env.put s12 v54 (Env.put s91 v50 (Env.put s57 v32 (Env.put s42 v22 (Env.put s41 v21 (Env.put s7 v5 (Env.put s5 v0 (Env.put s6 v1 e)))))))) [] H11 fun v55 H31 k15 =>
 faK 0 v55 fun v56 =>
 ldK false 1 v56 H31 fun v57 =>
 caK rec 23 [v57, v54] H31 fun v58 H32 =>
 fdK false 0 1 v58 fun v59 =>
 binK .neq .no v59 (.i .i64 25) fun v60 =>
 condK v60 (ldK true 2 v0 H32 fun v61 =>
 caK rec 129 [(Env.get s0 e), v54, v61] H32 fun v62 H33 =>
 faK 3 v5 fun v38 =>
 ldK false 1 v38 H33 fun v39 =>
 iaK .none 1 v39 (.i .i64 1) fun v63 =>
 ldK false 1 v63 H33 fun v64 =>
 ldK true 2 v0 H33 fun v65 =>
 caK rec 129 [(Env.get s0 e), v64, v65] H33 fun v66 H34 =>
 ldK true 2 v0 H34 fun v67 =>
 stK 2 v67 v1 H34 fun H35 =>
 K6 .ret (Env.put s104 v60 (Env.put s12 v54 (Env.put s91 v50 (Env.put s57 v32 (Env.put s42 v22 (Env.put s41 v21 (Env.put s7 v5 (Env.put s5 v0 (Env.put s6 v1 e))))))))) H35 k15)
 (K6 .norm (Env.put s104 v60 (Env.put s12 v54 (Env.put s91 v50 (Env.put s57 v32 (Env.put s42 v22 (Env.put s41 v21 (Env.put s7 v5 (Env.put s5 v0 (Env.put s6 v1 e))))))))) H32 k15)) (fun k8 e2 H16 =>
 faK 3 (Env.get s7 e2) fun v55 =>
 ldK false 1 v55 H16 fun v56 =>
 iaK .none 1 v56 (.i .i64 1) fun v57 =>
 ldK false 1 v57 H16 fun v58 =>
 ldK true 2 (Env.get s5 e2) H16 fun v59 =>
 caK rec 129 [(Env.get s0 e2), v58, v59] H16 fun v60 H36 =>
 ldK true 2 (Env.get s5 e2) H36 fun v29 =>
 genK roundT rec (.nilCheck (.s s0)) k8 e2 [v29] H36 fun v30 H14 k16 =>
 faK 0 v30 fun v68 =>
 ldK false 1 v68 H14 fun v69 =>
 caK rec 29 [v69, (Env.get s12 e2)] H14 fun v70 H37 =>
 boolK (and (again ⟨.load true 2 (.s s5), .none, []⟩ v29 e2 [] H37) true) (caK rec 76 [v29, v70] H37 fun v71 H38 =>
 stK 2 v71 (Env.get s6 e2) H38 fun H39 =>
 K1 .ret e2 H39 k16)) K1)
 (binK .eql .no v21 (.i .i64 11) fun v51 =>
 condK v51 (faK 3 v5 fun v55 =>
 ldK false 1 v55 H11 fun v56 =>
 iaK .none 1 v56 (.i .i64 0) fun v57 =>
 ldK false 1 v57 H11 fun v58 =>
 ldK true 2 v0 H11 fun v59 =>
 caK rec 129 [(Env.get s0 e), v58, v59] H11 fun v60 H36 =>
 faK 3 v5 fun v29 =>
 ldK false 1 v29 H36 fun v30 =>
 iaK .none 1 v30 (.i .i64 1) fun v68 =>
 ldK false 1 v68 H36 fun v69 =>
 ldK true 2 v0 H36 fun v70 =>
 ldK true 2 v0 H36 fun v71 =>
 newK 177 [(.i .u64 0), (.b false)] H36 fun v72 H39 =>
 newK 177 [(.i .u64 0), (.b false)] H39 fun v73 H40 =>
 caK rec 77 [(Env.get s0 e), v69, v70] H40 fun v74 H41 =>
 boolK (and (again ⟨.load true 2 (.s s5), .none, []⟩ v71 (Env.put s132 v51 (Env.put s91 v50 (Env.put s57 v32 (Env.put s42 v22 (Env.put s41 v21 (Env.put s7 v5 (Env.put s5 v0 (Env.put s6 v1 e)))))))) [v70, v69, v68, v30, v29] H41) true) (stK 2 v74 v72 H41 fun H42 =>
 boolK (and (again ⟨.load true 2 (.s s5), .none, []⟩ v71 (Env.put s132 v51 (Env.put s91 v50 (Env.put s57 v32 (Env.put s42 v22 (Env.put s41 v21 (Env.put s7 v5 (Env.put s5 v0 (Env.put s6 v1 e)))))))) [v70, v69, v68, v30, v29] H42) true) (stK 2 v71 v73 H42 fun H43 =>
 seqK (fun K12 =>
 faK 3 v5 fun v38 =>
 ldK false 1 v38 H43 fun v39 =>
 lnK .sl H43 v39 fun v63 =>
 binK .gtr .no v63 (.i .i64 2) fun v64 =>
 condK v64 (faK 3 v5 fun v67 =>
 ldK false 1 v67 H43 fun v75 =>
 iaK .none 1 v75 (.i .i64 2) fun v76 =>
 ldK false 1 v76 H43 fun v77 =>
 ldK true 2 v0 H43 fun v78 =>
 caK rec 77 [(Env.get s0 e), v77, v78] H43 fun v79 H44 =>
 stK 2 v79 v73 H44 fun H45 =>
 K12 .norm (Env.put s152 v64 (Env.put s13 v72 (Env.put s14 v73 (Env.put s132 v51 (Env.put s91 v50 (Env.put s57 v32 (Env.put s42 v22 (Env.put s41 v21 (Env.put s7 v5 (Env.put s5 v0 (Env.put s6 v1 e))))))))))) H45 k5)
 (K12 .norm (Env.put s152 v64 (Env.put s13 v72 (Env.put s14 v73 (Env.put s132 v51 (Env.put s91 v50 (Env.put s57 v32 (Env.put s42 v22 (Env.put s41 v21 (Env.put s7 v5 (Env.put s5 v0 (Env.put s6 v1 e))))))))))) H43 k5)) (fun k17 e7 H46 =>
 ldK true 2 (Env.get s13 e7) H46 fun v38 =>
 ldK true 2 (Env.get s14 e7) H46 fun v39 =>
 caK rec 131 [v38, v39] H46 fun v63 H47 =>
 stK 2 v63 (Env.get s6 e7) H47 fun H48 =>
 K1 .ret e7 H48 k17) K1)))
 (binK .eql .no v21 (.i .i64 12) fun v55 =>
 condK v55 (faK 3 v5 fun v61 =>
 ldK false 1 v61 H11 fun v62 =>
 iaK .none 1 v62 (.i .i64 0) fun v80 =>
 ldK false 1 v80 H11 fun v81 =>
 ldK true 2 v0 H11 fun v82 =>
 caK rec 129 [(Env.get s0 e), v81, v82] H11 fun v83 H49 =>
 genK roundT rec (.nilCheck (.s s0)) k5 (Env.put s163 v55 (Env.put s132 v51 (Env.put s91 v50 (Env.put s57 v32 (Env.put s42 v22 (Env.put s41 v21 (Env.put s7 v5 (Env.put s5 v0 (Env.put s6 v1 e))))))))) [] H49 fun v38 H50 k18 =>
 faK 3 v38 fun v39 =>
 ldK false 1 v39 H50 fun v63 =>
 ldK true 2 v0 H50 fun v64 =>
 genK roundT rec (.buildSlice 177 1 2 [(.i .u64 0), (.b false)] [(0, (.l 0))]) k18 (Env.put s163 v55 (Env.put s132 v51 (Env.put s91 v50 (Env.put s57 v32 (Env.put s42 v22 (Env.put s41 v21 (Env.put s7 v5 (Env.put s5 v0 (Env.put s6 v1 e))))))))) [v64, v63, v39, v38] H50 fun v65 H51 k19 =>
 apK 177 2 [(.i .u64 0), (.b false)] H51 v63 v65 fun v66 H34 =>
 genK roundT rec (.nilCheck (.s s0)) k19 (Env.put s163 v55 (Env.put s132 v51 (Env.put s91 v50 (Env.put s57 v32 (Env.put s42 v22 (Env.put s41 v21 (Env.put s7 v5 (Env.put s5 v0 (Env.put s6 v1 e))))))))) [v66, v65, v64, v63, v39, v38] H34 fun v84 H52 k20 =>
 faK 3 v84 fun v85 =>
 stK 1 v66 v85 H52 fun H53 =>
 faK 3 v5 fun v67 =>
 ldK false 1 v67 H53 fun v75 =>
 iaK .none 1 v75 (.i .i64 1) fun v76 =>
 ldK false 1 v76 H53 fun v77 =>
 ldK true 2 v0 H53 fun v78 =>
 caK rec 77 [(Env.get s0 e), v77, v78] H53 fun v79 H44 =>
 genK roundT rec (.nilCheck (.s s0)) k20 (Env.put s163 v55 (Env.put s132 v51 (Env.put s91 v50 (Env.put s57 v32 (Env.put s42 v22 (Env.put s41 v21 (Env.put s7 v5 (Env.put s5 v0 (Env.put s6 v1 e))))))))) [] H44 fun v86 H54 k21 =>
 faK 3 v86 fun v87 =>
 ldK false 1 v87 H54 fun v88 =>
 genK roundT rec (.nilCheck (.s s0)) k21 (Env.put s163 v55 (Env.put s132 v51 (Env.put s91 v50 (Env.put s57 v32 (Env.put s42 v22 (Env.put s41 v21 (Env.put s7 v5 (Env.put s5 v0 (Env.put s6 v1 e))))))))) [v88, v87, v86] H54 fun v89 H55 k22 =>
 faK 3 v89 fun v90 =>
 ldK false 1 v90 H55 fun v91 =>
 lnK .sl H55 v91 fun v92 =>
 binK .sub .no v92 (.i .i64 1) fun v93 =>
 iaK .none 2 v88 v93 fun v94 =>
 ldK true 2 v94 H55 fun v95 =>
 newK 177 [(.i .u64 0), (.b false)] H55 fun v96 H56 =>
 stK 2 v95 v96 H56 fun H57 =>
 genK roundT rec (.nilCheck (.s s0)) k22 (Env.put s15 v96 (Env.put s163 v55 (Env.put s132 v51 (Env.put s91 v50 (Env.put s57 v32 (Env.put s42 v22 (Env.put s41 v21 (Env.put s7 v5 (Env.put s5 v0 (Env.put s6 v1 e)))))))))) [] H57 fun v97 H58 k23 =>
 faK 3 v97 fun v98 =>
 ldK false 1 v98 H58 fun v99 =>
 genK roundT rec (.nilCheck (.s s0)) k23 (Env.put s15 v96 (Env.put s163 v55 (Env.put s132 v51 (Env.put s91 v50 (Env.put s57 v32 (Env.put s42 v22 (Env.put s41 v21 (Env.put s7 v5 (Env.put s5 v0 (Env.put s6 v1 e)))))))))) [v99, v98, v97] H58 fun v100 H59 k24 =>
 faK 3 v100 fun v101 =>
 ldK false 1 v101 H59 fun v102 =>
 lnK .sl H59 v102 fun v103 =>
 binK .sub .no v103 (.i .i64 1) fun v104 =>
 slK (.some 2) v99 .none (.some v104) .none fun v105 =>
 genK roundT rec (.nilCheck (.s s0)) k24 (Env.put s15 v96 (Env.put s163 v55 (Env.put s132 v51 (Env.put s91 v50 (Env.put s57 v32 (Env.put s42 v22 (Env.put s41 v21 (Env.put s7 v5 (Env.put s5 v0 (Env.put s6 v1 e)))))))))) [v105, v104, v103, v102, v101, v100, v99, v98, v97] H59 fun v106 H60 k25 =>
 faK 3 v106 fun v107 =>
 stK 1 v105 v107 H60 fun H61 =>
 ldK true 2 v96 H61 fun v108 =>
 stK 2 v108 v1 H61 fun H62 =>
 K1 .ret (Env.put s15 v96 (Env.put s163 v55 (Env.put s132 v51 (Env.put s91 v50 (Env.put s57 v32 (Env.put s42 v22 (Env.put s41 v21 (Env.put s7 v5 (Env.put s5 v0 (Env.put s6 v1 e)))))))))) H62 k25)
 (K1 .norm (Env.put s163 v55 (Env.put s132 v51 (Env.put s91 v50 (Env.put s57 v32 (Env.put s42 v22 (Env.put s41 v21 (Env.put s7 v5 (Env.put s5 v0 (Env.put s6 v1 e))))))))) H11 k5)))))) K0) (fun k26 e8 H63 =>
 ldK true 13 (Env.get s7 e8) H63 fun v20 =>
 ldK true 2 (Env.get s5 e8) H63 fun v21 =>
 caK rec 132 [(Env.get s0 e8), v20, v21] H63 fun v109 H64 =>
 stK 2 v109 (Env.get s6 e8) H64 fun H65 =>
 (endK recD [.cell true 2 s6]) .ret e8 H65 k26) (endK recD [.cell true 2 s6])
theorem Tryz.cOk77 : (compFn Tryz.prog Tryz.f77).map (bodyK 77) = some Tryz.c77 := by kernel_rfl
def Tryz.c79 : FnK := fun rec recD args H => startK 1 args fun e =>
 seqK (fun K0 =>
 caK rec 87 [(Env.get s0 e)] H fun v0 H0 =>
 caK rec 72 [v0] H0 fun v1 H1 =>
 lnK .sl H1 v1 fun v2 =>
 blockK 0 (fun K1 =>
 loopK (fun k0 e0 H2 K2 =>
 binK .lss .no (Env.get s13 e0) (Env.get s12 e0) fun v3 =>
 seqK (fun K3 =>
 condK v3 (K3 .norm (Env.put s14 v3 e0) H2 k0)
 (K3 (.exit 0) (Env.put s14 v3 e0) H2 k0)) (fun k1 e1 H3 =>
 seqK (fun K4 =>
 blockK 1 (fun K5 =>
 iaK .none 1 (Env.get s11 e1) (Env.get s13 e1) fun v4 =>
 ldK false 1 v4 H3 fun v5 =>
 caK rec 87 [(Env.get s0 e1)] H3 fun v6 H4 =>
 caK rec 133 [v6, v5] H4 fun v7 H5 =>
 caK rec 134 [v7] H5 fun v8 H6 =>
 lnK .sl H6 v7 fun v9 =>
 blockK 2 (fun K6 =>
 loopK (fun k2 e2 H7 K7 =>
 binK .lss .no (Env.get s25 e2) (Env.get s24 e2) fun v10 =>
 seqK (fun K8 =>
 condK v10 (K8 .norm (Env.put s26 v10 e2) H7 k2)
 (K8 (.exit 2) (Env.put s26 v10 e2) H7 k2)) (fun k3 e3 H8 =>
 seqK (fun K9 =>
 blockK 3 (fun K10 =>
 iaK .none 1 (Env.get s23 e3) (Env.get s25 e3) fun v11 =>
 ldK false 1 v11 H8 fun v12 =>
 caK rec 135 [(Env.get s3 e3), v12] H8 fun v13 H9 =>
 unK .not v13 fun v14 =>
 condK v14 (genK roundT rec (.buildSlice 9 1 1 [(.s [])] [(0, (.s s8))]) k3 (Env.put s32 v14 (Env.put s8 v12 e3)) [] H9 fun v15 H10 k4 =>
 apK 9 1 [(.s [])] H10 (Env.get s3 e3) v15 fun v16 H11 =>
 K10 .norm (Env.put s3 v16 (Env.put s32 v14 (Env.put s8 v12 e3))) H11 k4)
 (K10 .norm (Env.put s32 v14 (Env.put s8 v12 e3)) H9 k3)) K9) (fun k5 e4 H12 =>
 binK .add .no (Env.get s25 e4) (.i .i64 1) fun v17 =>
 K7 .norm (Env.put s25 v17 e4) H12 k5) K7) K7) rounds K6 k1 (Env.put s23 v7 (Env.put s24 v9 (Env.put s25 (.i .i64 0) (Env.put s6 v7 (Env.put s5 v5 e1))))) H6) K5) K4) (fun k6 e5 H13 =>
 binK .add .no (Env.get s13 e5) (.i .i64 1) fun v18 =>
 K2 .norm (Env.put s13 v18 e5) H13 k6) K2) K2) rounds K1 (Ctl.mk [] .none) (Env.put s11 v1 (Env.put s12 v2 (Env.put s13 (.i .i64 0) (Env.put s3 .sl0 (Env.put s2 .sl0 e))))) H1) K0) (fun k7 e6 H14 =>
 (endK recD [.slot s2]) .ret (Env.put s2 (Env.get s3 e6) e6) H14 k7) (endK recD [.slot s2])
theorem Tryz.cOk79 : (compFn Tryz.prog Tryz.f79).map (bodyK 79) = some Tryz.c79 := by kernel_rfl
def Tryz.c80 : FnK := fun rec recD args H => startK 3 args fun e =>
 genK roundT rec (.mkMap .none) (Ctl.mk [] .none) e [] H fun v0 H0 k0 =>
 genK roundT rec (.nilCheck (.s s0)) k0 e [v0] H0 fun v1 H1 k1 =>
 faK 1 v1 fun v2 =>
 ldK false 1 v2 H1 fun v3 =>
 caK rec 87 [(Env.get s1 e)] H1 fun v4 H2 =>
 boolK (and (again ⟨.load false 1 (.l 0), .none, []⟩ v3 e [v2, v1, v0] H2) true) (caK rec 89 [v4, (Env.get s2 e)] H2 fun v5 H3 =>
 boolK (and (again ⟨.load false 1 (.l 0), .none, []⟩ v3 e [v2, v1, v0] H3) true) (genK roundT rec (.lookup .s (.b false) false (.l 2) (.l 0)) k1 e [v5, v4, v3, v2, v1, v0] H3 fun v6 H4 k2 =>
 bdK [.p0, .p0, (.s []), .m0, (.b false), (.b false), .sl0] [(0, 1, (Env.get s1 e)), (1, 1, (Env.get s0 e)), (2, 1, (Env.get s2 e)), (3, 1, v0), (4, 1, v6)] fun v7 =>
 bxK 269 v7 H4 fun v8 H5 =>
 seqK (fun K0 =>
 caK rec 87 [(Env.get s1 e)] H5 fun v9 H6 =>
 caK rec 73 [v9, (Env.get s2 e)] H6 fun v10 H7 =>
 lnK .sl H7 v10 fun v11 =>
 blockK 0 (fun K1 =>
 loopK (fun k3 e0 H8 K2 =>
 binK .lss .no (Env.get s32 e0) (Env.get s31 e0) fun v12 =>
 seqK (fun K3 =>
 condK v12 (K3 .norm (Env.put s33 v12 e0) H8 k3)
 (K3 (.exit 0) (Env.put s33 v12 e0) H8 k3)) (fun k4 e1 H9 =>
 seqK (fun K4 =>
 blockK 1 (fun K5 =>
 iaK .none 8 (Env.get s30 e1) (Env.get s32 e1) fun v13 =>
 ldK true 8 v13 H9 fun v14 =>
 newK 163 [(.s []), (.s []), (.i .i64 0), (.i .i64 0), (.s []), (.i .i64 0), (.s []), .sl0] H9 fun v15 H10 =>
 stK 8 v14 v15 H10 fun H11 =>
 faK 2 v15 fun v16 =>
 ldK false 1 v16 H11 fun v17 =>
 caK rec 23 [(Env.get s1 e1), v17] H11 fun v18 H12 =>
 fdK false 0 1 v18 fun v19 =>
 blockK 2 (fun K6 =>
 binK .eql .no v19 (.i .i64 4) fun v20 =>
 condK v20 (genK roundT rec (.nilCheck (.s s6)) k4 (Env.put s41 v20 (Env.put s40 v19 (Env.put s9 v15 e1))) [] H12 fun v21 H13 k5 =>
 faK 3 v21 fun v22 =>
 ldK false 1 v22 H13 fun v23 =>
 faK 1 v15 fun v24 =>
 ldK false 1 v24 H13 fun v25 =>
 faK 2 v15 fun v26 =>
 ldK false 1 v26 H13 fun v27 =>
 genK roundT rec (.mapUpd .s (.l 4) (.l 2) (.l 0)) k5 (Env.put s41 v20 (Env.put s40 v19 (Env.put s9 v15 e1))) [v27, v26, v25, v24, v23, v22, v21] H13 fun v28 H14 k6 =>
 K6 .norm (Env.put s41 v20 (Env.put s40 v19 (Env.put s9 v15 e1))) H14 k6)
 (binK .eql .no v19 (.i .i64 5) fun v29 =>
 condK v29 (faK 2 v15 fun v30 =>
 ldK false 1 v30 H12 fun v31 =>
 K6 .norm (Env.put s7 v31 (Env.put s51 v29 (Env.put s41 v20 (Env.put s40 v19 (Env.put s9 v15 e1))))) H12 k4)
 (K6 .norm (Env.put s51 v29 (Env.put s41 v20 (Env.put s40 v19 (Env.put s9 v15 e1)))) H12 k4))) K5) K4) (fun k7 e2 H15 =>
 binK .add .no (Env.get s32 e2) (.i .i64 1) fun v32 =>
 K2 .norm (Env.put s32 v32 e2) H15 k7) K2) K2) rounds K1 k2 (Env.put s30 v10 (Env.put s31 v11 (Env.put s32 (.i .i64 0) (Env.put s7 (.i .i64 (-1)) (Env.put s6 v8 e))))) H7) K0) (fun k8 e3 H16 =>
 genK roundT rec (.nilCheck (.s s0)) k8 e3 [] H16 fun v9 H6 k9 =>
 faK 1 v9 fun v10 =>
 ldK false 1 v10 H6 fun v11 =>
 genK roundT rec (.nilCheck (.s s6)) k9 e3 [v11, v10, v9] H6 fun v33 H17 k10 =>
 faK 4 v33 fun v34 =>
 ldK false 1 v34 H17 fun v35 =>
 genK roundT rec (.mapUpd .s (.l 3) (.s s2) (.l 0)) k10 e3 [v35, v34, v33, v11, v10, v9] H17 fun v36 H18 k11 =>
 seqK (fun K1 =>
 binK .lss .no (Env.get s7 e3) (.i .i64 0) fun v37 =>
 condK v37 (bdK [.sl0, (.b false)] [] fun v38 =>
 caK rec 87 [(Env.get s1 e3)] H18 fun v39 H19 =>
 caK rec 137 [v39, (Env.get s2 e3)] H19 fun v40 H20 =>
 caK rec 136 [(Env.get s6 e3), v38, (.i .i64 1), v40] H20 fun v41 H21 =>
 K1 .ret (Env.put s66 v37 e3) H21 k11)
 (K1 .norm (Env.put s66 v37 e3) H18 k11)) (fun k12 e4 H22 =>
 seqK (fun K2 =>
 genK roundT rec (.nilCheck (.s s6)) k12 e4 [] H22 fun v12 H23 k13 =>
 faK 4 v12 fun v42 =>
 ldK false 1 v42 H23 fun v43 =>
 condK v43 (bdK [.sl0, (.b false)] [] fun v38 =>
 caK rec 136 [(Env.get s6 e4), v38, (.i .i64 5), (Env.get s7 e4)] H23 fun v39 H19 =>
 K2 .norm (Env.put s77 v43 e4) H19 k13)
 (K2 .norm (Env.put s77 v43 e4) H23 k13)) (fun k3 e0 H8 =>
 caK rec 23 [(Env.get s1 e0), (Env.get s7 e0)] H8 fun v12 H23 =>
 fdK false 3 1 v12 fun v42 =>
 lnK .sl H23 v42 fun v38 =>
 binK .sub .no v38 (.i .i64 1) fun v39 =>
 iaK .none 1 v42 v39 fun v40 =>
 ldK false 1 v40 H23 fun v41 =>
 bdK [.sl0, (.b false)] [] fun v44 =>
 newK 272 [.sl0, (.b false)] H23 fun v45 H24 =>
 caK rec 138 [(Env.get s6 e0), v41, v44] H24 fun v46 H25 =>
 stK 2 v46 v45 H25 fun H26 =>
 ldK true 2 v45 H26 fun v32 =>
 caK rec 136 [(Env.get s6 e0), v32, (.i .i64 2), (Env.get s7 e0)] H26 fun v47 H27 =>
 (endK recD []) .norm (Env.put s11 v45 (Env.put s10 v42 e0)) H27 k3) (endK recD [])) (endK recD [])) (endK recD [])))
theorem Tryz.cOk80 : (compFn Tryz.prog Tryz.f80).map (bodyK 80) = some Tryz.c80 := by kernel_rfl
def Tryz.c100 : FnK := fun rec recD args H => startK 0 args fun e =>
 newK 74 [(.i .i64 0), (.s []), (.i .i64 0), (.s [])] H fun v0 H0 =>
 bdK [(.i .i64 0), (.s []), (.i .i64 0), (.s [])] [(0, 1, (.i .i64 7)), (3, 1, (.s [63]))] fun v1 =>
 stK 4 v1 v0 H0 fun H1 =>
 (endK recD [.cell true 4 s0]) .ret (Env.put s0 v0 e) H1 (Ctl.mk [] .none)
theorem Tryz.cOk100 : (compFn Tryz.prog Tryz.f100).map (bodyK 100) = some Tryz.c100 := by kernel_rfl
def Tryz.c102 : FnK := fun rec recD args H => startK 1 args fun e =>
 bxK 74 (Env.get s0 e) H fun v0 H0 =>
 seqK (fun K0 =>
 ldK true 4 v0 H0 fun v1 =>
 caK rec 162 [v1] H0 fun v2 H1 =>
 unK .not v2 fun v3 =>
 condK v3 (K0 .ret (Env.put s2 (.s []) (Env.put s7 v3 (Env.put s1 v0 (Env.put s2 (.s []) e)))) H1 (Ctl.mk [] .none))
 (K0 .norm (Env.put s7 v3 (Env.put s1 v0 (Env.put s2 (.s []) e))) H1 (Ctl.mk [] .none))) (fun k0 e0 H2 =>
 faK 1 (Env.get s1 e0) fun v1 =>
 ldK false 1 v1 H2 fun v2 =>
 seqK (fun K1 =>
 faK 0 (Env.get s1 e0) fun v4 =>
 ldK false 1 v4 H2 fun v5 =>
 blockK 0 (fun K2 =>
 binK .eql .no v5 (.i .i64 1) fun v6 =>
 condK v6 (K2 .norm (Env.put s3 (.s [105, 110, 116]) (Env.put s12 v6 (Env.put s11 v5 (Env.put s3 v2 e0)))) H2 k0)
 (binK .eql .no v5 (.i .i64 2) fun v7 =>
 condK v7 (K2 .norm (Env.put s3 (.s [98, 111, 111, 108]) (Env.put s14 v7 (Env.put s12 v6 (Env.put s11 v5 (Env.put s3 v2 e0))))) H2 k0)
 (binK .eql .no v5 (.i .i64 3) fun v8 =>
 condK v8 (K2 .norm (Env.put s3 (.s [100, 111, 117, 98, 108, 101]) (Env.put s16 v8 (Env.put s14 v7 (Env.put s12 v6 (Env.put s11 v5 (Env.put s3 v2 e0)))))) H2 k0)
 (binK .eql .no v5 (.i .i64 4) fun v9 =>
 condK v9 (K2 .norm (Env.put s3 (.s [115, 116, 114]) (Env.put s18 v9 (Env.put s16 v8 (Env.put s14 v7 (Env.put s12 v6 (Env.put s11 v5 (Env.put s3 v2 e0))))))) H2 k0)
 (binK .eql .no v5 (.i .i64 6) fun v10 =>
 condK v10 (K2 .norm (Env.put s3 (.s [118, 111, 105, 100]) (Env.put s20 v10 (Env.put s18 v9 (Env.put s16 v8 (Env.put s14 v7 (Env.put s12 v6 (Env.put s11 v5 (Env.put s3 v2 e0)))))))) H2 k0)
 (K2 .norm (Env.put s20 v10 (Env.put s18 v9 (Env.put s16 v8 (Env.put s14 v7 (Env.put s12 v6 (Env.put s11 v5 (Env.put s3 v2 e0))))))) H2 k0)))))) K1) (fun k1 e1 H3 =>
 seqK (fun K3 =>
 faK 3 (Env.get s1 e1) fun v11 =>
 ldK false 1 v11 H3 fun v12 =>
 lnK .s H3 v12 fun v13 =>
 blockK 1 (fun K4 =>
 loopK (fun k2 e2 H4 K5 =>
 binK .lss .no (Env.get s25 e2) (Env.get s24 e2) fun v14 =>
 seqK (fun K6 =>
 condK v14 (K6 .norm (Env.put s26 v14 e2) H4 k2)
 (K6 (.exit 1) (Env.put s26 v14 e2) H4 k2)) (fun k3 e3 H5 =>
 seqK (fun K7 =>
 blockK 2 (fun K8 =>
 seqK (fun K9 =>
 binK .gtr .no (Env.get s25 e3) (.i .i64 0) fun v15 =>
 condK v15 (binK .add .no (Env.get s3 e3) (.s [91, 93]) fun v10 =>
 K9 .norm (Env.put s3 v10 (Env.put s29 v15 (Env.put s4 (Env.get s25 e3) e3))) H5 k3)
 (K9 .norm (Env.put s29 v15 (Env.put s4 (Env.get s25 e3) e3)) H5 k3)) (fun k4 e4 H6 =>
 faK 3 (Env.get s1 e4) fun v15 =>
 ldK false 1 v15 H6 fun v16 =>
 ixK .none v16 (Env.get s4 e4) fun v17 =>
 blockK 3 (fun K10 =>
 binK .eql .no v17 (.i .u8 63) fun v18 =>
 condK v18 (binK .add .no (Env.get s3 e4) (.s [63]) fun v19 =>
 K10 .norm (Env.put s3 v19 (Env.put s36 v18 (Env.put s35 v17 e4))) H6 k4)
 (binK .eql .no v17 (.i .u8 111) fun v20 =>
 condK v20 (binK .add .no (.s [79, 112, 116, 105, 111, 110, 60]) (Env.get s3 e4) fun v21 =>
 binK .add .no v21 (.s [62]) fun v22 =>
 K10 .norm (Env.put s3 v22 (Env.put s40 v20 (Env.put s36 v18 (Env.put s35 v17 e4)))) H6 k4)
 (K10 .norm (Env.put s40 v20 (Env.put s36 v18 (Env.put s35 v17 e4))) H6 k4))) K8) K8) K7) (fun k5 e5 H7 =>
 binK .add .no (Env.get s25 e5) (.i .i64 1) fun v23 =>
 K5 .norm (Env.put s25 v23 e5) H7 k5) K5) K5) rounds K4 k1 (Env.put s24 v13 (Env.put s25 (.i .i64 0) e1)) H3) K3) (fun k6 e6 H8 =>
 (endK recD [.slot s2]) .ret (Env.put s2 (Env.get s3 e6) e6) H8 k6) (endK recD [.slot s2])) (endK recD [.slot s2])) (endK recD [.slot s2])
theorem Tryz.cOk102 : (compFn Tryz.prog Tryz.f102).map (bodyK 102) = some Tryz.c102 := by kernel_rfl
def Tryz.c104 : FnK := fun rec recD args H => startK 1 args fun e =>
 binK .neq .no (Env.get s0 e) (Env.get s0 e) fun v0 =>
 (endK recD [.slot s2]) .ret (Env.put s2 v0 (Env.put s2 (.b false) e)) H (Ctl.mk [] .none)
theorem Tryz.cOk104 : (compFn Tryz.prog Tryz.f104).map (bodyK 104) = some Tryz.c104 := by kernel_rfl
def Tryz.c106 : FnK := fun rec recD args H => startK 1 args fun e =>
 bxK 43 (Env.get s0 e) H fun v0 H0 =>
 seqK (fun K0 =>
 ldK true 2 v0 H0 fun v1 =>
 genK roundT rec (.buildSlice 43 1 2 [(.i .i64 0), (.i .i64 0)] [(0, (.l 0))]) (Ctl.mk [] .none) (Env.put s1 v0 (Env.put s2 (.i .i64 0) e)) [v1] H0 fun v2 H1 k0 =>
 caK rec 165 [v2] H1 fun v3 H2 =>
 unK .not v3 fun v4 =>
 condK v4 (K0 .ret (Env.put s2 (.i .i64 0) (Env.put s6 v4 (Env.put s1 v0 (Env.put s2 (.i .i64 0) e)))) H2 k0)
 (K0 .norm (Env.put s6 v4 (Env.put s1 v0 (Env.put s2 (.i .i64 0) e))) H2 k0)) (fun k1 e0 H3 =>
 faK 1 (Env.get s1 e0) fun v1 =>
 ldK false 1 v1 H3 fun v2 =>
 faK 0 (Env.get s1 e0) fun v3 =>
 ldK false 1 v3 H3 fun v4 =>
 binK .sub .no v2 v4 fun v5 =>
 (endK recD [.slot s2]) .ret (Env.put s2 v5 e0) H3 k1) (endK recD [.slot s2])
theorem Tryz.cOk106 : (compFn Tryz.prog Tryz.f106).map (bodyK 106) = some Tryz.c106 := by kernel_rfl
def Tryz.c109 : FnK := fun rec recD args H => startK 1 args fun e =>
 blockK 0 (fun K0 =>
 loopK (fun k0 e0 H0 K1 =>
 blockK 1 (fun K2 =>
 caK rec 166 [(Env.get s0 e0), (.f 167 [] [])] H0 fun v0 H1 =>
 seqK (fun K3 =>
 genK roundT rec (.nilCheck (.s s0)) k0 e0 [] H1 fun v1 H2 k1 =>
 faK 0 v1 fun v2 =>
 ldK false 1 v2 H2 fun v3 =>
 genK roundT rec (.nilCheck (.s s0)) k1 e0 [v3, v2, v1] H2 fun v4 H3 k2 =>
 faK 1 v4 fun v5 =>
 ldK false 1 v5 H3 fun v6 =>
 slK .none v3 (.some v6) .none .none fun v7 =>
 caK rec 168 [v7, (.s [47, 47])] H3 fun v8 H4 =>
 unK .not v8 fun v9 =>
 condK v9 (K3 .ret (Env.put s14 v9 e0) H4 k2)
 (K3 .norm (Env.put s14 v9 e0) H4 k2)) (fun k3 e1 H5 =>
 blockK 2 (fun K4 =>
 loopK (fun k4 e2 H6 K5 =>
 seqK (fun K6 =>
 genK roundT rec (.nilCheck (.s s0)) k4 e2 [] H6 fun v10 H7 k5 =>
 faK 1 v10 fun v11 =>
 ldK false 1 v11 H7 fun v12 =>
 genK roundT rec (.nilCheck (.s s0)) k5 e2 [v12, v11, v10] H7 fun v13 H8 k6 =>
 faK 0 v13 fun v14 =>
 ldK false 1 v14 H8 fun v15 =>
 lnK .s H8 v15 fun v16 =>
 binK .lss .no v12 v16 fun v17 =>
 gdK v17 true (fun R0 => R0 (Env.get s0 e2) H8 k6) H8 k6 fun v18 H9 k7 =>
 gdK v17 true (fun R1 => genK roundT rec (.nilCheck (.l 0)) k7 e2 [v18, v17, v16, v15, v14, v13, v12, v11, v10] H9 fun v19 H10 k8 =>
 R1 v19 H10 k8) H9 k7 fun v19 H10 k8 =>
 gdK v17 true (fun R2 => faK 0 v19 fun v20 =>
 R2 v20 H10 k8) H10 k8 fun v20 H11 k9 =>
 gdK v17 true (fun R3 => ldK false 1 v20 H11 fun v21 =>
 R3 v21 H11 k9) H11 k9 fun v21 H12 k10 =>
 gdK v17 true (fun R4 => R4 (Env.get s0 e2) H12 k10) H12 k10 fun v22 H13 k11 =>
 gdK v17 true (fun R5 => genK roundT rec (.nilCheck (.l 0)) k11 e2 [v22, v21, v20, v19, v18, v17, v16, v15, v14, v13, v12, v11, v10] H13 fun v23 H14 k12 =>
 R5 v23 H14 k12) H13 k11 fun v23 H14 k12 =>
 gdK v17 true (fun R6 => faK 1 v23 fun v24 =>
 R6 v24 H14 k12) H14 k12 fun v24 H15 k13 =>
 gdK v17 true (fun R7 => ldK false 1 v24 H15 fun v25 =>
 R7 v25 H15 k13) H15 k13 fun v25 H16 k14 =>
 gdK v17 true (fun R8 => ixK .none v21 v25 fun v26 =>
 R8 v26 H16 k14) H16 k14 fun v26 H17 k15 =>
 gdK v17 true (fun R9 => binK .neq .no v26 (.i .u8 10) fun v27 =>
 R9 v27 H17 k15) H17 k15 fun v27 H18 k16 =>
 pkK v17 v27 (.b false) fun v28 =>
 condK v28 (K6 .norm (Env.put s36 v28 e2) H18 k16)
 (K6 (.exit 2) (Env.put s36 v28 e2) H18 k16)) (fun k17 e3 H19 =>
 blockK 3 (fun K7 =>
 genK roundT rec (.nilCheck (.s s0)) k17 e3 [] H19 fun v10 H7 k5 =>
 faK 1 v10 fun v11 =>
 ldK false 1 v11 H7 fun v12 =>
 binK .add .no v12 (.i .i64 1) fun v13 =>
 genK roundT rec (.nilCheck (.s s0)) k5 e3 [v13, v12, v11, v10] H7 fun v14 H20 k18 =>
 faK 1 v14 fun v15 =>
 stK 1 v13 v15 H20 fun H21 =>
 K7 .norm e3 H21 k18) K5) K5) rounds K4 k3 e1 H5) K2) K2) K1) rounds K0 (Ctl.mk [] .none) e H) (endK recD [])
theorem Tryz.cOk109 : (compFn Tryz.prog Tryz.f109).map (bodyK 109) = some Tryz.c109 := by kernel_rfl
def Tryz.c111 : FnK := fun rec recD args H => startK 1 args fun e =>
 newK 234 [(.i .i64 0), (.i .i64 0), (.i .i64 0)] H fun v0 H0 =>
 genK roundT rec (.nilCheck (.s s0)) (Ctl.mk [] .none) (Env.put s2 v0 (Env.put s3 (.s []) e)) [] H0 fun v1 H1 k0 =>
 faK 1 v1 fun v2 =>
 ldK false 1 v2 H1 fun v3 =>
 genK roundT rec (.nilCheck (.s s0)) k0 (Env.put s2 v0 (Env.put s3 (.s []) e)) [v3, v2, v1] H1 fun v4 H2 k1 =>
 faK 2 v4 fun v5 =>
 ldK false 1 v5 H2 fun v6 =>
 iaK .none 3 v3 v6 fun v7 =>
 ldK true 3 v7 H2 fun v8 =>
 newK 234 [(.i .i64 0), (.i .i64 0), (.i .i64 0)] H2 fun v9 H3 =>
 stK 3 v8 v9 H3 fun H4 =>
 ldK true 3 v9 H4 fun v10 =>
 genK roundT rec (.nilCheck (.s s0)) k1 (Env.put s4 v9 (Env.put s2 v0 (Env.put s3 (.s []) e))) [v10] H4 fun v11 H5 k2 =>
 faK 0 v11 fun v12 =>
 ldK false 1 v12 H5 fun v13 =>
 faK 1 v9 fun v14 =>
 faK 0 v14 fun v15 =>
 ldK false 1 v15 H5 fun v16 =>
 faK 1 v9 fun v17 =>
 faK 1 v17 fun v18 =>
 ldK false 1 v18 H5 fun v19 =>
 slK .none v13 (.some v16) (.some v19) .none fun v20 =>
 stK 3 v10 v0 H5 fun H6 =>
 boolK (and (again ⟨.load false 1 (.l 0), .none, []⟩ v19 (Env.put s4 v9 (Env.put s2 v0 (Env.put s3 (.s []) e))) [v18, v17, v16, v15, v14, v13, v12, v11, v10] H6) (and (again ⟨.load false 1 (.l 0), .none, []⟩ v16 (Env.put s4 v9 (Env.put s2 v0 (Env.put s3 (.s []) e))) [v15, v14, v13, v12, v11, v10] H6) (and (again ⟨.load false 1 (.l 0), .none, []⟩ v13 (Env.put s4 v9 (Env.put s2 v0 (Env.put s3 (.s []) e))) [v12, v11, v10] H6) true))) ((endK recD [.cell true 3 s2, .slot s3]) .ret (Env.put s3 v20 (Env.put s4 v9 (Env.put s2 v0 (Env.put s3 (.s []) e)))) H6 k2)
theorem Tryz.cOk111 : (compFn Tryz.prog Tryz.f111).map (bodyK 111) = some Tryz.c111 := by kernel_rfl
def Tryz.c113 : FnK := fun rec recD args H => startK 1 args fun e =>
 newK 234 [(.i .i64 0), (.i .i64 0), (.i .i64 0)] H fun v0 H0 =>
 caK rec 111 [(Env.get s0 e)] H0 fun v1 H1 =>
 exK 0 v1 fun v2 =>
 exK 1 v1 fun v3 =>
 stK 3 v2 v0 H1 fun H2 =>
 caK rec 175 [(Env.get s0 e), (.s [99, 108, 97, 115, 115])] H2 fun v4 H3 =>
 newK 76 [(.i .i64 0), (.i .i64 0), (.i .i64 0), .sl0, (.s []), (.i .i64 0), (.s []), (.i .i64 0), (.s []), (.i .i64 0), (.i .i64 0), (.i .i64 0), .sl0] H3 fun v5 H4 =>
 caK rec 176 [(Env.get s0 e)] H4 fun v6 H5 =>
 bdK [(.i .i64 0), (.i .i64 0), (.i .i64 0), .sl0, (.s []), (.i .i64 0), (.s []), (.i .i64 0), (.s []), (.i .i64 0), (.i .i64 0), (.i .i64 0), .sl0] [(0, 1, (.i .i64 2)), (4, 1, v6)] fun v7 =>
 stK 13 v7 v5 H5 fun H6 =>
 seqK (fun K0 =>
 newK 234 [(.i .i64 0), (.i .i64 0), (.i .i64 0)] H6 fun v8 H7 =>
 caK rec 111 [(Env.get s0 e)] H7 fun v9 H8 =>
 exK 0 v9 fun v10 =>
 exK 1 v9 fun v11 =>
 stK 3 v10 v8 H8 fun H9 =>
 caK rec 177 [(Env.get s0 e), (.s [101, 120, 116, 101, 110, 100, 115])] H9 fun v12 H10 =>
 condK v12 (faK 3 v5 fun v13 =>
 ldK false 1 v13 H10 fun v14 =>
 faK 1 v8 fun v15 =>
 faK 0 v15 fun v16 =>
 ldK false 1 v16 H10 fun v17 =>
 caK rec 176 [(Env.get s0 e)] H10 fun v18 H11 =>
 boolK (and (again ⟨.load false 1 (.l 0), .none, []⟩ v17 (Env.put s24 v12 (Env.put s6 v8 (Env.put s5 v5 (Env.put s3 v0 (Env.put s2 (.i .i64 0) e))))) [v16, v15, v14, v13] H11) (and (again ⟨.load false 1 (.l 0), .none, []⟩ v14 (Env.put s24 v12 (Env.put s6 v8 (Env.put s5 v5 (Env.put s3 v0 (Env.put s2 (.i .i64 0) e))))) [v13] H11) true)) (bdK [(.i .i64 0), (.i .i64 0), (.i .i64 0), .sl0, (.s []), (.i .i64 0), (.s []), (.i .i64 0), (.s []), (.i .i64 0), (.i .i64 0), (.i .i64 0), .sl0] [(0, 1, (.i .i64 3)), (4, 1, v18)] fun v19 =>
 caK rec 114 [(Env.get s0 e), v19, v17] H11 fun v20 H12 =>
 boolK (and (again ⟨.load false 1 (.l 0), .none, []⟩ v14 (Env.put s24 v12 (Env.put s6 v8 (Env.put s5 v5 (Env.put s3 v0 (Env.put s2 (.i .i64 0) e))))) [v13] H12) true) (genK roundT rec (.buildSlice 3 1 1 [(.i .i64 0)] [(0, (.l 0))]) (Ctl.mk [] .none) (Env.put s24 v12 (Env.put s6 v8 (Env.put s5 v5 (Env.put s3 v0 (Env.put s2 (.i .i64 0) e))))) [v20, v19, v18, v17, v16, v15, v14, v13] H12 fun v21 H13 k0 =>
 apK 3 1 [(.i .i64 0)] H13 v14 v21 fun v22 H14 =>
 faK 3 v5 fun v23 =>
 stK 1 v22 v23 H14 fun H15 =>
 K0 .norm (Env.put s24 v12 (Env.put s6 v8 (Env.put s5 v5 (Env.put s3 v0 (Env.put s2 (.i .i64 0) e))))) H15 k0)))
 (K0 .norm (Env.put s24 v12 (Env.put s6 v8 (Env.put s5 v5 (Env.put s3 v0 (Env.put s2 (.i .i64 0) e))))) H10 (Ctl.mk [] .none))) (fun k1 e0 H16 =>
 caK rec 175 [(Env.get s0 e0), (.s [123])] H16 fun v8 H7 =>
 seqK (fun K1 =>
 blockK 0 (fun K2 =>
 loopK (fun k2 e1 H17 K3 =>
 seqK (fun K4 =>
 caK rec 178 [(Env.get s0 e1), (.s [125])] H17 fun v24 H18 =>
 unK .not v24 fun v25 =>
 condK v25 (K4 .norm (Env.put s42 v25 e1) H18 k2)
 (K4 (.exit 0) (Env.put s42 v25 e1) H18 k2)) (fun k3 e2 H19 =>
 blockK 1 (fun K5 =>
 faK 3 (Env.get s5 e2) fun v26 =>
 ldK false 1 v26 H19 fun v27 =>
 lnK .sl H19 v27 fun v28 =>
 binK .add .no v28 (.i .i64 1) fun v29 =>
 caK rec 112 [(Env.get s0 e2), v29] H19 fun v30 H20 =>
 faK 3 (Env.get s5 e2) fun v31 =>
 ldK false 1 v31 H20 fun v32 =>
 caK rec 179 [(Env.get s0 e2)] H20 fun v33 H21 =>
 boolK (and (again ⟨.load false 1 (.l 0), .none, []⟩ v32 e2 [v31] H21) true) (genK roundT rec (.buildSlice 3 1 1 [(.i .i64 0)] [(0, (.l 0))]) k3 e2 [v33, v32, v31] H21 fun v34 H22 k4 =>
 apK 3 1 [(.i .i64 0)] H22 v32 v34 fun v35 H23 =>
 faK 3 (Env.get s5 e2) fun v36 =>
 stK 1 v35 v36 H23 fun H24 =>
 K5 .norm e2 H24 k4)) K3) K3) rounds K2 k1 e0 H7) K1) (fun k5 e3 H25 =>
 caK rec 175 [(Env.get s0 e3), (.s [125])] H25 fun v37 H26 =>
 ldK true 13 (Env.get s5 e3) H26 fun v38 =>
 faK 1 (Env.get s3 e3) fun v39 =>
 faK 0 v39 fun v40 =>
 ldK false 1 v40 H26 fun v41 =>
 caK rec 114 [(Env.get s0 e3), v38, v41] H26 fun v42 H27 =>
 (endK recD [.slot s2]) .ret (Env.put s2 v42 e3) H27 k5) (endK recD [.slot s2])) (endK recD [.slot s2])
theorem Tryz.cOk113 : (compFn Tryz.prog Tryz.f113).map (bodyK 113) = some Tryz.c113 := by kernel_rfl
def Tryz.c116 : FnK := fun rec recD args H => startK 2 args fun e =>
 newK 25 [(.i .i64 0), (.i .i64 0)] H fun v0 H0 =>
 genK roundT rec (.nilCheck (.s s0)) (Ctl.mk [] .none) (Env.put s4 v0 e) [] H0 fun v1 H1 k0 =>
 faK 0 v1 fun v2 =>
 faK 0 v2 fun v3 =>
 ldK false 1 v3 H1 fun v4 =>
 iaK .none 13 v4 (Env.get s1 e) fun v5 =>
 ldK true 13 v5 H1 fun v6 =>
 newK 76 [(.i .i64 0), (.i .i64 0), (.i .i64 0), .sl0, (.s []), (.i .i64 0), (.s []), (.i .i64 0), (.s []), (.i .i64 0), (.i .i64 0), (.i .i64 0), .sl0] H1 fun v7 H2 =>
 stK 13 v6 v7 H2 fun H3 =>
 seqK (fun K0 =>
 faK 0 v7 fun v8 =>
 ldK false 1 v8 H3 fun v9 =>
 binK .neq .no v9 (.i .i64 2) fun v10 =>
 gdK v10 false (fun R0 => faK 4 v7 fun v11 =>
 R0 v11 H3 k0) H3 k0 fun v11 H4 k1 =>
 gdK v10 false (fun R1 => ldK false 1 v11 H4 fun v12 =>
 R1 v12 H4 k1) H4 k1 fun v12 H5 k2 =>
 gdK v10 false (fun R2 => binK .eql .no v12 (.s []) fun v13 =>
 R2 v13 H5 k2) H5 k2 fun v13 H6 k3 =>
 pkK v10 (.b true) v13 fun v14 =>
 condK v14 (caK rec 182 [(Env.get s0 e), (.i .i64 132), (Env.get s1 e)] H6 fun v15 H7 =>
 stK 2 v15 v0 H7 fun H8 =>
 K0 .ret (Env.put s27 v14 (Env.put s5 v7 (Env.put s4 v0 e))) H8 k3)
 (K0 .norm (Env.put s27 v14 (Env.put s5 v7 (Env.put s4 v0 e))) H6 k3)) (fun k4 e0 H9 =>
 seqK (fun K1 =>
 genK roundT rec (.nilCheck (.s s0)) k4 e0 [] H9 fun v16 H10 k5 =>
 faK 3 v16 fun v17 =>
 ldK false 1 v17 H10 fun v18 =>
 faK 4 (Env.get s5 e0) fun v19 =>
 ldK false 1 v19 H10 fun v20 =>
 genK roundT rec (.lookup .s .p0 false (.l 2) (.l 0)) k5 e0 [v20, v19, v18, v17, v16] H10 fun v21 H11 k6 =>
 binK .neq .ptr v21 .p0 fun v22 =>
 condK v22 (caK rec 182 [(Env.get s0 e0), (.i .i64 4), (Env.get s1 e0)] H11 fun v23 H12 =>
 stK 2 v23 (Env.get s4 e0) H12 fun H13 =>
 K1 .ret (Env.put s38 v22 e0) H13 k6)
 (K1 .norm (Env.put s38 v22 e0) H11 k6)) (fun k7 e1 H14 =>
 faK 4 (Env.get s5 e1) fun v16 =>
 ldK false 1 v16 H14 fun v17 =>
 bdK [(.s []), (.i .i64 0), (.s []), .sl0, .sl0, .sl0] [(0, 1, v17), (1, 1, (Env.get s1 e1))] fun v18 =>
 bxK 251 v18 H14 fun v19 H15 =>
 seqK (fun K2 =>
 faK 3 (Env.get s5 e1) fun v23 =>
 ldK false 1 v23 H15 fun v24 =>
 lnK .sl H15 v24 fun v25 =>
 blockK 0 (fun K3 =>
 loopK (fun k8 e2 H16 K4 =>
 binK .lss .no (Env.get s50 e2) (Env.get s49 e2) fun v26 =>
 seqK (fun K5 =>
 condK v26 (K5 .norm (Env.put s51 v26 e2) H16 k8)
 (K5 (.exit 0) (Env.put s51 v26 e2) H16 k8)) (fun k9 e3 H17 =>
 seqK (fun K6 =>
 blockK 1 (fun K7 =>
 iaK .none 1 (Env.get s48 e3) (Env.get s50 e3) fun v27 =>
 ldK false 1 v27 H17 fun v28 =>
 genK roundT rec (.nilCheck (.s s0)) k9 (Env.put s7 (Env.get s50 e3) (Env.put s8 v28 e3)) [] H17 fun v29 H18 k10 =>
 faK 0 v29 fun v30 =>
 faK 0 v30 fun v31 =>
 ldK false 1 v31 H18 fun v32 =>
 iaK .none 13 v32 v28 fun v33 =>
 ldK true 13 v33 H18 fun v34 =>
 newK 76 [(.i .i64 0), (.i .i64 0), (.i .i64 0), .sl0, (.s []), (.i .i64 0), (.s []), (.i .i64 0), (.s []), (.i .i64 0), (.i .i64 0), (.i .i64 0), .sl0] H18 fun v35 H19 =>
 stK 13 v34 v35 H19 fun H20 =>
 genK roundT rec (.nilCheck (.s s6)) k10 (Env.put s9 v35 (Env.put s7 (Env.get s50 e3) (Env.put s8 v28 e3))) [] H20 fun v36 H21 k11 =>
 faK 0 v36 fun v37 =>
 ldK false 1 v37 H21 fun v38 =>
 faK 4 v35 fun v39 =>
 ldK false 1 v39 H21 fun v40 =>
 faK 5 v35 fun v41 =>
 ldK true 4 v41 H21 fun v42 =>
 bdK [(.s []), (.s []), (.i .i64 0), (.i .i64 0), (.s []), (.i .i64 0), (.s []), .sl0] [(0, 1, v38), (1, 1, v40), (2, 1, v28), (3, 4, v42)] fun v43 =>
 newK 163 [(.s []), (.s []), (.i .i64 0), (.i .i64 0), (.s []), (.i .i64 0), (.s []), .sl0] H21 fun v44 H22 =>
 stK 8 v43 v44 H22 fun H23 =>
 faK 0 v35 fun v45 =>
 ldK false 1 v45 H23 fun v46 =>
 blockK 2 (fun K8 =>
 binK .eql .no v46 (.i .i64 3) fun v47 =>
 condK v47 (seqK (fun K9 =>
 binK .gtr .no (Env.get s50 e3) (.i .i64 0) fun v48 =>
 gdK v48 false (fun R3 => faK 4 v35 fun v49 =>
 R3 v49 H23 k11) H23 k11 fun v49 H24 k12 =>
 gdK v48 false (fun R4 => ldK false 1 v49 H24 fun v50 =>
 R4 v50 H24 k12) H24 k12 fun v50 H25 k13 =>
 gdK v48 false (fun R5 => binK .eql .no v50 (.s []) fun v51 =>
 R5 v51 H25 k13) H25 k13 fun v51 H26 k14 =>
 pkK v48 (.b true) v51 fun v52 =>
 condK v52 (caK rec 182 [(Env.get s0 e3), (.i .i64 132), v28] H26 fun v53 H27 =>
 stK 2 v53 (Env.get s4 e3) H27 fun H28 =>
 K9 .ret (Env.put s86 v52 (Env.put s78 v47 (Env.put s74 v46 (Env.put s10 v44 (Env.put s9 v35 (Env.put s7 (Env.get s50 e3) (Env.put s8 v28 e3))))))) H28 k14)
 (K9 .norm (Env.put s86 v52 (Env.put s78 v47 (Env.put s74 v46 (Env.put s10 v44 (Env.put s9 v35 (Env.put s7 (Env.get s50 e3) (Env.put s8 v28 e3))))))) H26 k14)) (fun k15 e4 H29 =>
 faK 4 (Env.get s9 e4) fun v54 =>
 ldK false 1 v54 H29 fun v55 =>
 genK roundT rec (.nilCheck (.s s6)) k15 e4 [v55, v54] H29 fun v56 H30 k16 =>
 faK 2 v56 fun v57 =>
 stK 1 v55 v57 H30 fun H31 =>
 K8 .norm e4 H31 k16) K8)
 (binK .eql .no v46 (.i .i64 4) fun v54 =>
 condK v54 (genK roundT rec (.nilCheck (.s s6)) k11 (Env.put s95 v54 (Env.put s78 v47 (Env.put s74 v46 (Env.put s10 v44 (Env.put s9 v35 (Env.put s7 (Env.get s50 e3) (Env.put s8 v28 e3))))))) [] H23 fun v58 H32 k17 =>
 faK 3 v58 fun v59 =>
 ldK false 1 v59 H32 fun v60 =>
 ldK true 8 v44 H32 fun v61 =>
 genK roundT rec (.buildSlice 163 1 8 [(.s []), (.s []), (.i .i64 0), (.i .i64 0), (.s []), (.i .i64 0), (.s []), .sl0] [(0, (.l 0))]) k17 (Env.put s95 v54 (Env.put s78 v47 (Env.put s74 v46 (Env.put s10 v44 (Env.put s9 v35 (Env.put s7 (Env.get s50 e3) (Env.put s8 v28 e3))))))) [v61, v60, v59, v58] H32 fun v62 H33 k18 =>
 apK 163 8 [(.s []), (.s []), (.i .i64 0), (.i .i64 0), (.s []), (.i .i64 0), (.s []), .sl0] H33 v60 v62 fun v63 H34 =>
 genK roundT rec (.nilCheck (.s s6)) k18 (Env.put s95 v54 (Env.put s78 v47 (Env.put s74 v46 (Env.put s10 v44 (Env.put s9 v35 (Env.put s7 (Env.get s50 e3) (Env.put s8 v28 e3))))))) [v63, v62, v61, v60, v59, v58] H34 fun v64 H35 k19 =>
 faK 3 v64 fun v65 =>
 stK 1 v63 v65 H35 fun H36 =>
 K8 .norm (Env.put s95 v54 (Env.put s78 v47 (Env.put s74 v46 (Env.put s10 v44 (Env.put s9 v35 (Env.put s7 (Env.get s50 e3) (Env.put s8 v28 e3))))))) H36 k19)
 (seqK (fun K10 =>
 binK .eql .no v46 (.i .i64 5) fun v53 =>
 condK v53 (K10 .norm (Env.put s107 v53 (Env.put s95 v54 (Env.put s78 v47 (Env.put s74 v46 (Env.put s10 v44 (Env.put s9 v35 (Env.put s7 (Env.get s50 e3) (Env.put s8 v28 e3)))))))) H23 k11)
 (binK .eql .no v46 (.i .i64 6) fun v66 =>
 K10 .norm (Env.put s107 v66 (Env.put s107 v53 (Env.put s95 v54 (Env.put s78 v47 (Env.put s74 v46 (Env.put s10 v44 (Env.put s9 v35 (Env.put s7 (Env.get s50 e3) (Env.put s8 v28 e3))))))))) H23 k11)) (fun k20 e5 H37 =>
 condK (Env.get s107 e5) (seqK (fun K11 =>
 newK 25 [(.i .i64 0), (.i .i64 0)] H37 fun v66 H38 =>
 caK rec 183 [(Env.get s0 e5), (Env.get s10 e5)] H38 fun v67 H39 =>
 stK 2 v67 v66 H39 fun H40 =>
 faK 0 v66 fun v68 =>
 ldK false 1 v68 H40 fun v69 =>
 binK .neq .no v69 (.i .i64 0) fun v70 =>
 condK v70 (ldK true 2 v66 H40 fun v71 =>
 stK 2 v71 (Env.get s4 e5) H40 fun H41 =>
 K11 .ret (Env.put s114 v70 (Env.put s11 v66 e5)) H41 k20)
 (K11 .norm (Env.put s114 v70 (Env.put s11 v66 e5)) H40 k20)) (fun k21 e6 H42 =>
 faK 0 (Env.get s9 e6) fun v66 =>
 ldK false 1 v66 H42 fun v67 =>
 binK .eql .no v67 (.i .i64 5) fun v72 =>
 condK v72 (genK roundT rec (.nilCheck (.s s6)) k21 (Env.put s118 v72 e6) [] H42 fun v68 H43 k22 =>
 faK 5 v68 fun v69 =>
 ldK false 1 v69 H43 fun v70 =>
 ldK true 8 (Env.get s10 e6) H43 fun v73 =>
 genK roundT rec (.buildSlice 163 1 8 [(.s []), (.s []), (.i .i64 0), (.i .i64 0), (.s []), (.i .i64 0), (.s []), .sl0] [(0, (.l 0))]) k22 (Env.put s118 v72 e6) [v73, v70, v69, v68] H43 fun v74 H44 k23 =>
 apK 163 8 [(.s []), (.s []), (.i .i64 0), (.i .i64 0), (.s []), (.i .i64 0), (.s []), .sl0] H44 v70 v74 fun v75 H45 =>
 genK roundT rec (.nilCheck (.s s6)) k23 (Env.put s118 v72 e6) [v75, v74, v73, v70, v69, v68] H45 fun v76 H46 k24 =>
 faK 5 v76 fun v77 =>
 stK 1 v75 v77 H46 fun H47 =>
 K8 .norm (Env.put s118 v72 e6) H47 k24)
 (genK roundT rec (.nilCheck (.s s6)) k21 (Env.put s118 v72 e6) [] H42 fun v68 H43 k22 =>
 faK 4 v68 fun v69 =>
 ldK false 1 v69 H43 fun v70 =>
 ldK true 8 (Env.get s10 e6) H43 fun v73 =>
 genK roundT rec (.buildSlice 163 1 8 [(.s []), (.s []), (.i .i64 0), (.i .i64 0), (.s []), (.i .i64 0), (.s []), .sl0] [(0, (.l 0))]) k22 (Env.put s118 v72 e6) [v73, v70, v69, v68] H43 fun v74 H44 k23 =>
 apK 163 8 [(.s []), (.s []), (.i .i64 0), (.i .i64 0), (.s []), (.i .i64 0), (.s []), .sl0] H44 v70 v74 fun v75 H45 =>
 genK roundT rec (.nilCheck (.s s6)) k23 (Env.put s118 v72 e6) [v75, v74, v73, v70, v69, v68] H45 fun v76 H46 k24 =>
 faK 4 v76 fun v77 =>
 stK 1 v75 v77 H46 fun H47 =>
 K8 .norm (Env.put s118 v72 e6) H47 k24)) K8)
 (caK rec 182 [(Env.get s0 e5), (.i .i64 132), (Env.get s8 e5)] H37 fun v78 H48 =>
 stK 2 v78 (Env.get s4 e5) H48 fun H49 =>
 K8 .ret e5 H49 k20)) K8))) K7) K6) (fun k25 e7 H50 =>
 binK .add .no (Env.get s50 e7) (.i .i64 1) fun v79 =>
 K4 .norm (Env.put s50 v79 e7) H50 k25) K4) K4) rounds K3 k7 (Env.put s48 v24 (Env.put s49 v25 (Env.put s50 (.i .i64 0) (Env.put s6 v19 e1)))) H15) K2) (fun k26 e8 H51 =>
 genK roundT rec (.nilCheck (.s s0)) k26 e8 [] H51 fun v23 H12 k27 =>
 faK 2 v23 fun v24 =>
 ldK false 1 v24 H12 fun v25 =>
 genK roundT rec (.nilCheck (.s s6)) k27 e8 [v25, v24, v23] H12 fun v80 H52 k28 =>
 faK 0 v80 fun v81 =>
 ldK false 1 v81 H52 fun v82 =>
 genK roundT rec (.buildSlice 9 1 1 [(.s [])] [(0, (.l 0))]) k28 e8 [v82, v81, v80, v25, v24, v23] H52 fun v83 H53 k29 =>
 apK 9 1 [(.s [])] H53 v25 v83 fun v84 H54 =>
 genK roundT rec (.nilCheck (.s s0)) k29 e8 [v84, v83, v82, v81, v80, v25, v24, v23] H54 fun v85 H55 k30 =>
 faK 2 v85 fun v86 =>
 stK 1 v84 v86 H55 fun H56 =>
 genK roundT rec (.nilCheck (.s s0)) k30 e8 [] H56 fun v87 H57 k31 =>
 faK 3 v87 fun v88 =>
 ldK false 1 v88 H57 fun v89 =>
 genK roundT rec (.nilCheck (.s s6)) k31 e8 [v89, v88, v87] H57 fun v90 H58 k32 =>
 faK 0 v90 fun v91 =>
 ldK false 1 v91 H58 fun v92 =>
 genK roundT rec (.mapUpd .s (.l 3) (.l 0) (.s s6)) k32 e8 [v92, v91, v90, v89, v88, v87] H58 fun v93 H59 k33 =>
 caK rec 184 [(Env.get s0 e8), (Env.get s6 e8)] H59 fun v26 H60 =>
 stK 2 v26 (Env.get s4 e8) H60 fun H61 =>
 (endK recD [.cell true 2 s4]) .ret e8 H61 k33) (endK recD [.cell true 2 s4])) (endK recD [.cell true 2 s4])) (endK recD [.cell true 2 s4])
theorem Tryz.cOk116 : (compFn Tryz.prog Tryz.f116).map (bodyK 116) = some Tryz.c116 := by kernel_rfl
def Tryz.c118 : FnK := fun rec recD args H => startK 2 args fun e =>
 newK 25 [(.i .i64 0), (.i .i64 0)] H fun v0 H0 =>
 seqK (fun K0 =>
 binK .gtr .no (Env.get s1 e) (.i .i64 0) fun v1 =>
 condK v1 (bdK [(.i .i64 0), (.i .i64 0)] [] fun v2 =>
 stK 2 v2 v0 H0 fun H1 =>
 K0 .ret (Env.put s9 v1 (Env.put s4 v0 e)) H1 (Ctl.mk [] .none))
 (K0 .norm (Env.put s9 v1 (Env.put s4 v0 e)) H0 (Ctl.mk [] .none))) (fun k0 e0 H2 =>
 seqK (fun K1 =>
 genK roundT rec (.nilCheck (.s s0)) k0 e0 [] H2 fun v3 H3 k1 =>
 faK 0 v3 fun v4 =>
 ldK true 2 v4 H3 fun v5 =>
 genK roundT rec (.nilCheck (.s s0)) k1 e0 [v5, v4, v3] H3 fun v6 H4 k2 =>
 faK 0 v6 fun v7 =>
 faK 1 v7 fun v8 =>
 ldK false 1 v8 H4 fun v9 =>
 caK rec 124 [v5, v9] H4 fun v10 H5 =>
 lnK .sl H5 v10 fun v11 =>
 blockK 0 (fun K2 =>
 loopK (fun k3 e1 H6 K3 =>
 binK .lss .no (Env.get s22 e1) (Env.get s21 e1) fun v12 =>
 seqK (fun K4 =>
 condK v12 (K4 .norm (Env.put s23 v12 e1) H6 k3)
 (K4 (.exit 0) (Env.put s23 v12 e1) H6 k3)) (fun k4 e2 H7 =>
 seqK (fun K5 =>
 blockK 1 (fun K6 =>
 iaK .none 1 (Env.get s20 e2) (Env.get s22 e2) fun v13 =>
 ldK false 1 v13 H7 fun v14 =>
 genK roundT rec (.nilCheck (.s s0)) k4 (Env.put s6 v14 e2) [] H7 fun v15 H8 k5 =>
 faK 0 v15 fun v16 =>
 faK 0 v16 fun v17 =>
 ldK false 1 v17 H8 fun v18 =>
 iaK .none 13 v18 v14 fun v19 =>
 ldK true 13 v19 H8 fun v20 =>
 newK 76 [(.i .i64 0), (.i .i64 0), (.i .i64 0), .sl0, (.s []), (.i .i64 0), (.s []), (.i .i64 0), (.s []), (.i .i64 0), (.i .i64 0), (.i .i64 0), .sl0] H8 fun v21 H9 =>
 stK 13 v20 v21 H9 fun H10 =>
 faK 5 v21 fun v22 =>
 faK 0 v22 fun v23 =>
 ldK false 1 v23 H10 fun v24 =>
 binK .eql .no v24 (.i .i64 5) fun v25 =>
 gdK v25 true (fun R0 => R0 (Env.get s0 e2) H10 k5) H10 k5 fun v26 H11 k6 =>
 gdK v25 true (fun R1 => genK roundT rec (.nilCheck (.l 0)) k6 (Env.put s7 v21 (Env.put s6 v14 e2)) [v26, v25, v24, v23, v22] H11 fun v27 H12 k7 =>
 R1 v27 H12 k7) H11 k6 fun v27 H12 k7 =>
 gdK v25 true (fun R2 => faK 3 v27 fun v28 =>
 R2 v28 H12 k7) H12 k7 fun v28 H13 k8 =>
 gdK v25 true (fun R3 => ldK false 1 v28 H13 fun v29 =>
 R3 v29 H13 k8) H13 k8 fun v29 H14 k9 =>
 gdK v25 true (fun R4 => faK 5 v21 fun v30 =>
 R4 v30 H14 k9) H14 k9 fun v30 H15 k10 =>
 gdK v25 true (fun R5 => faK 1 v30 fun v31 =>
 R5 v31 H15 k10) H15 k10 fun v31 H16 k11 =>
 gdK v25 true (fun R6 => ldK false 1 v31 H16 fun v32 =>
 R6 v32 H16 k11) H16 k11 fun v32 H17 k12 =>
 gdK v25 true (fun R7 => genK roundT rec (.lookup .s .p0 false (.l 3) (.l 0)) k12 (Env.put s7 v21 (Env.put s6 v14 e2)) [v32, v31, v30, v29, v28, v27, v26, v25, v24, v23, v22] H17 fun v33 H18 k13 =>
 R7 v33 H18 k13) H17 k12 fun v33 H18 k13 =>
 gdK v25 true (fun R8 => binK .eql .ptr v33 .p0 fun v34 =>
 R8 v34 H18 k13) H18 k13 fun v34 H19 k14 =>
 pkK v25 v34 (.b false) fun v35 =>
 condK v35 (faK 10 v21 fun v36 =>
 faK 0 v36 fun v37 =>
 ldK false 1 v37 H19 fun v38 =>
 bdK [(.i .i64 0), (.i .i64 0)] [(0, 1, (.i .i64 3)), (1, 1, v38)] fun v39 =>
 stK 2 v39 (Env.get s4 e2) H19 fun H20 =>
 K6 .ret (Env.put s48 v35 (Env.put s7 v21 (Env.put s6 v14 e2))) H20 k14)
 (K6 .norm (Env.put s48 v35 (Env.put s7 v21 (Env.put s6 v14 e2))) H19 k14)) K5) (fun k15 e3 H21 =>
 binK .add .no (Env.get s22 e3) (.i .i64 1) fun v40 =>
 K3 .norm (Env.put s22 v40 e3) H21 k15) K3) K3) rounds K2 k2 (Env.put s20 v10 (Env.put s21 v11 (Env.put s22 (.i .i64 0) e0))) H5) K1) (fun k16 e4 H22 =>
 bdK [(.i .i64 0), (.i .i64 0)] [] fun v3 =>
 stK 2 v3 (Env.get s4 e4) H22 fun H23 =>
 (endK recD [.cell true 2 s4]) .ret e4 H23 k16) (endK recD [.cell true 2 s4])) (endK recD [.cell true 2 s4])
theorem Tryz.cOk118 : (compFn Tryz.prog Tryz.f118).map (bodyK 118) = some Tryz.c118 := by kernel_rfl
def Tryz.c120 : FnK := fun rec recD args H => startK 1 args fun e =>
 seqK (fun K0 =>
 binK .eql .sl (Env.get s0 e) .sl0 fun v0 =>
 condK v0 (K0 .ret (Env.put s2 .sl0 (Env.put s4 v0 (Env.put s2 .sl0 e))) H (Ctl.mk [] .none))
 (K0 .norm (Env.put s4 v0 (Env.put s2 .sl0 e)) H (Ctl.mk [] .none))) (fun k0 e0 H0 =>
 genK roundT rec (.buildSlice 3 0 1 [(.i .i64 0)] []) k0 e0 [] H0 fun v0 H1 k1 =>
 apK 3 1 [(.i .i64 0)] H1 v0 (Env.get s0 e0) fun v1 H2 =>
 (endK recD [.slot s2]) .ret (Env.put s2 v1 e0) H2 k1) (endK recD [.slot s2])
theorem Tryz.cOk120 : (compFn Tryz.prog Tryz.f120).map (bodyK 120) = some Tryz.c120 := by kernel_rfl
def Tryz.c122 : FnK := fun rec recD args H => startK 1 args fun e =>
 bxK 163 (Env.get s0 e) H fun v0 H0 =>
 newK 163 [(.s []), (.s []), (.i .i64 0), (.i .i64 0), (.s []), (.i .i64 0), (.s []), .sl0] H0 fun v1 H1 =>
 faK 7 v0 fun v2 =>
 ldK false 1 v2 H1 fun v3 =>
 caK rec 188 [v3] H1 fun v4 H2 =>
 faK 7 v0 fun v5 =>
 stK 1 v4 v5 H2 fun H3 =>
 ldK true 8 v0 H3 fun v6 =>
 stK 8 v6 v1 H3 fun H4 =>
 (endK recD [.cell true 8 s2]) .ret (Env.put s1 v0 (Env.put s2 v1 e)) H4 (Ctl.mk [] .none)
theorem Tryz.cOk122 : (compFn Tryz.prog Tryz.f122).map (bodyK 122) = some Tryz.c122 := by kernel_rfl
def Tryz.c124 : FnK := fun rec recD args H => startK 2 args fun e =>
 bxK 102 (Env.get s0 e) H fun v0 H0 =>
 genK roundT rec (.buildSlice 3 1 1 [(.i .i64 0)] [(0, (.s s1))]) (Ctl.mk [] .none) (Env.put s5 .sl0 (Env.put s2 v0 (Env.put s4 .sl0 e))) [] H0 fun v1 H1 k0 =>
 seqK (fun K0 =>
 blockK 0 (fun K1 =>
 loopK (fun k1 e0 H2 K2 =>
 seqK (fun K3 =>
 lnK .sl H2 (Env.get s6 e0) fun v2 =>
 binK .gtr .no v2 (.i .i64 0) fun v3 =>
 condK v3 (K3 .norm (Env.put s14 v3 e0) H2 k1)
 (K3 (.exit 0) (Env.put s14 v3 e0) H2 k1)) (fun k2 e1 H3 =>
 blockK 1 (fun K4 =>
 lnK .sl H3 (Env.get s6 e1) fun v4 =>
 binK .sub .no v4 (.i .i64 1) fun v5 =>
 iaK .none 1 (Env.get s6 e1) v5 fun v6 =>
 ldK false 1 v6 H3 fun v7 =>
 lnK .sl H3 (Env.get s6 e1) fun v8 =>
 binK .sub .no v8 (.i .i64 1) fun v9 =>
 slK (.some 1) (Env.get s6 e1) .none (.some v9) .none fun v10 =>
 seqK (fun K5 =>
 binK .lss .no v7 (.i .i64 0) fun v11 =>
 gdK v11 false (fun R0 => R0 v7 H3 k2) H3 k2 fun v12 H4 k3 =>
 gdK v11 false (fun R1 => faK 0 (Env.get s2 e1) fun v13 =>
 R1 v13 H4 k3) H4 k3 fun v13 H5 k4 =>
 gdK v11 false (fun R2 => ldK false 1 v13 H5 fun v14 =>
 R2 v14 H5 k4) H5 k4 fun v14 H6 k5 =>
 gdK v11 false (fun R3 => lnK .sl H6 v14 fun v15 =>
 R3 v15 H6 k5) H6 k5 fun v15 H7 k6 =>
 gdK v11 false (fun R4 => binK .geq .no v12 v15 fun v16 =>
 R4 v16 H7 k6) H7 k6 fun v16 H8 k7 =>
 pkK v11 (.b true) v16 fun v17 =>
 gdK v17 false (fun R5 => R5 (Env.get s5 e1) H8 k7) H8 k7 fun v18 H9 k8 =>
 gdK v17 false (fun R6 => lnK .sl H9 v18 fun v19 =>
 R6 v19 H9 k8) H9 k8 fun v19 H10 k9 =>
 gdK v17 false (fun R7 => binK .geq .no v19 (.i .i64 16384) fun v20 =>
 R7 v20 H10 k9) H10 k9 fun v20 H11 k10 =>
 pkK v17 (.b true) v20 fun v21 =>
 condK v21 (K5 (.exit 1) (Env.put s39 v21 (Env.put s6 v10 (Env.put s7 v7 e1))) H11 k10)
 (K5 .norm (Env.put s39 v21 (Env.put s6 v10 (Env.put s7 v7 e1))) H11 k10)) (fun k11 e2 H12 =>
 genK roundT rec (.buildSlice 3 1 1 [(.i .i64 0)] [(0, (.s s7))]) k11 e2 [] H12 fun v11 H13 k12 =>
 apK 3 1 [(.i .i64 0)] H13 (Env.get s5 e2) v11 fun v12 H4 =>
 faK 0 (Env.get s2 e2) fun v22 =>
 ldK false 1 v22 H4 fun v23 =>
 iaK .none 13 v23 (Env.get s7 e2) fun v24 =>
 faK 3 v24 fun v25 =>
 ldK false 1 v25 H4 fun v26 =>
 lnK .sl H4 v26 fun v27 =>
 binK .sub .no v27 (.i .i64 1) fun v28 =>
 blockK 2 (fun K6 =>
 loopK (fun k13 e3 H14 K7 =>
 seqK (fun K8 =>
 binK .geq .no (Env.get s8 e3) (.i .i64 0) fun v29 =>
 condK v29 (K8 .norm (Env.put s53 v29 e3) H14 k13)
 (K8 (.exit 2) (Env.put s53 v29 e3) H14 k13)) (fun k14 e4 H15 =>
 seqK (fun K9 =>
 blockK 3 (fun K10 =>
 faK 0 (Env.get s2 e4) fun v30 =>
 ldK false 1 v30 H15 fun v31 =>
 iaK .none 13 v31 (Env.get s7 e4) fun v32 =>
 faK 3 v32 fun v33 =>
 ldK false 1 v33 H15 fun v34 =>
 iaK .none 1 v34 (Env.get s8 e4) fun v35 =>
 ldK false 1 v35 H15 fun v36 =>
 binK .lss .no v36 (Env.get s7 e4) fun v37 =>
 condK v37 (genK roundT rec (.buildSlice 3 1 1 [(.i .i64 0)] [(0, (.s s9))]) k14 (Env.put s67 v37 (Env.put s9 v36 e4)) [] H15 fun v38 H16 k15 =>
 apK 3 1 [(.i .i64 0)] H16 (Env.get s6 e4) v38 fun v39 H17 =>
 K10 .norm (Env.put s6 v39 (Env.put s67 v37 (Env.put s9 v36 e4))) H17 k15)
 (K10 .norm (Env.put s67 v37 (Env.put s9 v36 e4)) H15 k14)) K9) (fun k16 e5 H18 =>
 binK .sub .no (Env.get s8 e5) (.i .i64 1) fun v29 =>
 K7 .norm (Env.put s8 v29 e5) H18 k16) K7) K7) rounds K6 k12 (Env.put s8 v28 (Env.put s5 v12 e2)) H4) K4) K4) K2) K2) rounds K1 k0 (Env.put s6 v1 (Env.put s5 .sl0 (Env.put s2 v0 (Env.put s4 .sl0 e)))) H1) K0) (fun k17 e6 H19 =>
 (endK recD [.slot s4]) .ret (Env.put s4 (Env.get s5 e6) e6) H19 k17) (endK recD [.slot s4])
theorem Tryz.cOk124 : (compFn Tryz.prog Tryz.f124).map (bodyK 124) = some Tryz.c124 := by kernel_rfl
def Tryz.c131 : FnK := fun rec recD args H => startK 2 args fun e =>
 bxK 177 (Env.get s0 e) H fun v0 H0 =>
 bxK 177 (Env.get s1 e) H0 fun v1 H1 =>
 newK 177 [(.i .u64 0), (.b false)] H1 fun v2 H2 =>
 seqK (fun K0 =>
 blockK 0 (fun K1 =>
 faK 1 v0 fun v3 =>
 ldK false 1 v3 H2 fun v4 =>
 condK v4 (ldK true 2 v1 H2 fun v5 =>
 stK 2 v5 v2 H2 fun H3 =>
 K1 .ret (Env.put s5 v4 (Env.put s2 v0 (Env.put s3 v1 (Env.put s4 v2 e)))) H3 (Ctl.mk [] .none))
 (faK 1 v1 fun v5 =>
 ldK false 1 v5 H2 fun v6 =>
 condK v6 (ldK true 2 v0 H2 fun v7 =>
 stK 2 v7 v2 H2 fun H4 =>
 K1 .ret (Env.put s9 v6 (Env.put s5 v4 (Env.put s2 v0 (Env.put s3 v1 (Env.put s4 v2 e))))) H4 (Ctl.mk [] .none))
 (K1 .norm (Env.put s9 v6 (Env.put s5 v4 (Env.put s2 v0 (Env.put s3 v1 (Env.put s4 v2 e))))) H2 (Ctl.mk [] .none)))) K0) (fun k0 e0 H5 =>
 faK 0 (Env.get s2 e0) fun v8 =>
 ldK false 1 v8 H5 fun v9 =>
 faK 0 (Env.get s3 e0) fun v10 =>
 ldK false 1 v10 H5 fun v11 =>
 binK .and .no v9 v11 fun v12 =>
 bdK [(.i .u64 0), (.b false)] [(0, 1, v12)] fun v13 =>
 stK 2 v13 (Env.get s4 e0) H5 fun H6 =>
 (endK recD [.cell true 2 s4]) .ret e0 H6 k0) (endK recD [.cell true 2 s4])
theorem Tryz.cOk131 : (compFn Tryz.prog Tryz.f131).map (bodyK 131) = some Tryz.c131 := by kernel_rfl
def Tryz.c133 : FnK := fun rec recD args H => startK 2 args fun e =>
 seqK (fun K0 =>
 genK roundT rec (.nilCheck (.s s0)) (Ctl.mk [] .none) (Env.put s5 .sl0 (Env.put s4 .sl0 e)) [] H fun v0 H0 k0 =>
 faK 3 v0 fun v1 =>
 ldK false 1 v1 H0 fun v2 =>
 genK roundT rec (.lookup .s .p0 false (.l 0) (.s s1)) k0 (Env.put s5 .sl0 (Env.put s4 .sl0 e)) [v2, v1, v0] H0 fun v3 H1 k1 =>
 blockK 0 (fun K1 =>
 loopK (fun k2 e0 H2 K2 =>
 seqK (fun K3 =>
 binK .neq .ptr (Env.get s6 e0) .p0 fun v4 =>
 gdK v4 true (fun R0 => R0 (Env.get s5 e0) H2 k2) H2 k2 fun v5 H3 k3 =>
 gdK v4 true (fun R1 => lnK .sl H3 v5 fun v6 =>
 R1 v6 H3 k3) H3 k3 fun v6 H4 k4 =>
 gdK v4 true (fun R2 => R2 (Env.get s0 e0) H4 k4) H4 k4 fun v7 H5 k5 =>
 gdK v4 true (fun R3 => genK roundT rec (.nilCheck (.l 0)) k5 e0 [v7, v6, v5, v4] H5 fun v8 H6 k6 =>
 R3 v8 H6 k6) H5 k5 fun v8 H6 k6 =>
 gdK v4 true (fun R4 => faK 2 v8 fun v9 =>
 R4 v9 H6 k6) H6 k6 fun v9 H7 k7 =>
 gdK v4 true (fun R5 => ldK false 1 v9 H7 fun v10 =>
 R5 v10 H7 k7) H7 k7 fun v10 H8 k8 =>
 gdK v4 true (fun R6 => lnK .sl H8 v10 fun v11 =>
 R6 v11 H8 k8) H8 k8 fun v11 H9 k9 =>
 gdK v4 true (fun R7 => binK .leq .no v6 v11 fun v12 =>
 R7 v12 H9 k9) H9 k9 fun v12 H10 k10 =>
 pkK v4 v12 (.b false) fun v13 =>
 condK v13 (K3 .norm (Env.put s24 v13 e0) H10 k10)
 (K3 (.exit 0) (Env.put s24 v13 e0) H10 k10)) (fun k11 e1 H11 =>
 seqK (fun K4 =>
 blockK 1 (fun K5 =>
 genK roundT rec (.nilCheck (.s s6)) k11 e1 [] H11 fun v14 H12 k12 =>
 faK 0 v14 fun v15 =>
 ldK false 1 v15 H12 fun v16 =>
 genK roundT rec (.buildSlice 9 1 1 [(.s [])] [(0, (.l 0))]) k12 e1 [v16, v15, v14] H12 fun v17 H13 k13 =>
 apK 9 1 [(.s [])] H13 (Env.get s5 e1) v17 fun v18 H14 =>
 K5 .norm (Env.put s5 v18 e1) H14 k13) K4) (fun k14 e2 H15 =>
 genK roundT rec (.nilCheck (.s s0)) k14 e2 [] H15 fun v4 H16 k15 =>
 faK 3 v4 fun v5 =>
 ldK false 1 v5 H16 fun v6 =>
 genK roundT rec (.nilCheck (.s s6)) k15 e2 [v6, v5, v4] H16 fun v7 H5 k5 =>
 faK 2 v7 fun v8 =>
 ldK false 1 v8 H5 fun v9 =>
 genK roundT rec (.lookup .s .p0 false (.l 3) (.l 0)) k5 e2 [v9, v8, v7, v6, v5, v4] H5 fun v10 H8 k8 =>
 K2 .norm (Env.put s6 v10 e2) H8 k8) K2) K2) rounds K1 k1 (Env.put s6 v3 (Env.put s5 .sl0 (Env.put s4 .sl0 e))) H1) K0) (fun k16 e3 H17 =>
 (endK recD [.slot s4]) .ret (Env.put s4 (Env.get s5 e3) e3) H17 k16) (endK recD [.slot s4])
theorem Tryz.cOk133 : (compFn Tryz.prog Tryz.f133).map (bodyK 133) = some Tryz.c133 := by kernel_rfl
def Tryz.c134 : FnK := fun rec recD args H => startK 1 args fun e =>
 lnK .sl H (Env.get s0 e) fun v0 =>
 binK .sub .no v0 (.i .i64 1) fun v1 =>
 blockK 0 (fun K0 =>
 loopK (fun k0 e0 H0 K1 =>
 seqK (fun K2 =>
 binK .lss .no (Env.get s2 e0) (Env.get s3 e0) fun v2 =>
 condK v2 (K2 .norm (Env.put s9 v2 e0) H0 k0)
 (K2 (.exit 0) (Env.put s9 v2 e0) H0 k0)) (fun k1 e1 H1 =>
 seqK (fun K3 =>
 blockK 1 (fun K4 =>
 iaK .none 1 (Env.get s0 e1) (Env.get s3 e1) fun v3 =>
 ldK false 1 v3 H1 fun v4 =>
 iaK .none 1 (Env.get s0 e1) (Env.get s2 e1) fun v5 =>
 ldK false 1 v5 H1 fun v6 =>
 iaK .none 1 (Env.get s0 e1) (Env.get s2 e1) fun v7 =>
 stK 1 v4 v7 H1 fun H2 =>
 iaK .none 1 (Env.get s0 e1) (Env.get s3 e1) fun v8 =>
 stK 1 v6 v8 H2 fun H3 =>
 K4 .norm e1 H3 k1) K3) (fun k2 e2 H4 =>
 binK .add .no (Env.get s2 e2) (.i .i64 1) fun v2 =>
 binK .sub .no (Env.get s3 e2) (.i .i64 1) fun v9 =>
 K1 .norm (Env.put s2 v2 (Env.put s3 v9 e2)) H4 k2) K1) K1) rounds K0 (Ctl.mk [] .none) (Env.put s2 (.i .i64 0) (Env.put s3 v1 e)) H) (endK recD [])
theorem Tryz.cOk134 : (compFn Tryz.prog Tryz.f134).map (bodyK 134) = some Tryz.c134 := by kernel_rfl
def Tryz.c136 : FnK := fun rec recD args H => startK 4 args fun e =>
 bxK 272 (Env.get s1 e) H fun v0 H0 =>
 genK roundT rec (.nilCheck (.s s0)) (Ctl.mk [] .none) (Env.put s5 v0 e) [] H0 fun v1 H1 k0 =>
 faK 3 v1 fun v2 =>
 ldK false 1 v2 H1 fun v3 =>
 genK roundT rec (.rangeM (.l 0)) k0 (Env.put s5 v0 e) [v3, v2, v1] H1 fun v4 H2 k1 =>
 blockK 0 (fun K0 =>
 loopK (fun k2 e0 H3 K1 =>
 genK roundT rec (.nextM (.s s14)) k2 e0 [] H3 fun v5 H4 k3 =>
 exK 0 v5 fun v6 =>
 seqK (fun K2 =>
 condK v6 (K2 .norm (Env.put s16 v6 e0) H4 k3)
 (K2 (.exit 0) (Env.put s16 v6 e0) H4 k3)) (fun k4 e1 H5 =>
 blockK 1 (fun K3 =>
 genK roundT rec (.entryM (.s s14)) k4 e1 [] H5 fun v7 H6 k5 =>
 exK 0 v7 fun v8 =>
 exK 1 v7 fun v9 =>
 ldK true 2 (Env.get s5 e1) H6 fun v10 =>
 caK rec 198 [v10, v8] H6 fun v11 H7 =>
 unK .not v11 fun v12 =>
 condK v12 (genK roundT rec (.nilCheck (.s s0)) k5 (Env.put s23 v12 (Env.put s8 v8 (Env.put s9 v9 e1))) [] H7 fun v13 H8 k6 =>
 faK 1 v13 fun v14 =>
 ldK false 1 v14 H8 fun v15 =>
 genK roundT rec (.nilCheck (.s s0)) k6 (Env.put s23 v12 (Env.put s8 v8 (Env.put s9 v9 e1))) [v15, v14, v13] H8 fun v16 H9 k7 =>
 faK 1 v16 fun v17 =>
 ldK false 1 v17 H9 fun v18 =>
 genK roundT rec (.nilCheck (.l 0)) k7 (Env.put s23 v12 (Env.put s8 v8 (Env.put s9 v9 e1))) [v18, v17, v16, v15, v14, v13] H9 fun v19 H10 k8 =>
 faK 0 v19 fun v20 =>
 ldK false 1 v20 H10 fun v21 =>
 bdK [(.i .i64 0), (.i .i64 0), (.i .i64 0)] [(0, 1, v9), (1, 1, (Env.get s2 e1)), (2, 1, (Env.get s3 e1))] fun v22 =>
 genK roundT rec (.buildSlice 189 1 3 [(.i .i64 0), (.i .i64 0), (.i .i64 0)] [(0, (.l 0))]) k8 (Env.put s23 v12 (Env.put s8 v8 (Env.put s9 v9 e1))) [v22, v21, v20, v19, v18, v17, v16, v15, v14, v13] H10 fun v23 H11 k9 =>
 apK 189 3 [(.i .i64 0), (.i .i64 0), (.i .i64 0)] H11 v21 v23 fun v24 H12 =>
 boolK (and (again ⟨.load false 1 (.l 0), .none, []⟩ v15 (Env.put s23 v12 (Env.put s8 v8 (Env.put s9 v9 e1))) [v14, v13] H12) true) (genK roundT rec (.nilCheck (.l 9)) k9 (Env.put s23 v12 (Env.put s8 v8 (Env.put s9 v9 e1))) [v24, v23, v22, v21, v20, v19, v18, v17, v16, v15, v14, v13] H12 fun v25 H13 k10 =>
 faK 0 v25 fun v26 =>
 stK 1 v24 v26 H13 fun H14 =>
 K3 .norm (Env.put s23 v12 (Env.put s8 v8 (Env.put s9 v9 e1))) H14 k10))
 (K3 .norm (Env.put s23 v12 (Env.put s8 v8 (Env.put s9 v9 e1))) H7 k5)) K1) K1) rounds K0 k1 (Env.put s14 v4 (Env.put s5 v0 e)) H2) (endK recD [])
theorem Tryz.cOk136 : (compFn Tryz.prog Tryz.f136).map (bodyK 136) = some Tryz.c136 := by kernel_rfl
def Tryz.c151 : FnK := fun rec recD args H => startK 2 args fun e =>
 genK roundT rec (.nilCheck (.s s0)) (Ctl.mk [] .none) e [] H fun v0 H0 k0 =>
 faK 1 v0 fun v1 =>
 ldK false 1 v1 H0 fun v2 =>
 genK roundT rec (.nilCheck (.s s0)) k0 e [v2, v1, v0] H0 fun v3 H1 k1 =>
 faK 3 v3 fun v4 =>
 ldK false 1 v4 H1 fun v5 =>
 iaK .none 1 v5 (Env.get s1 e) fun v6 =>
 ldK false 1 v6 H1 fun v7 =>
 newK 282 [(.i .i64 0), (.i .i64 0), (.i .i64 0), (.i .i64 0), (.i .i64 0)] H1 fun v8 H2 =>
 caK rec 221 [v2, (Env.get s1 e)] H2 fun v9 H3 =>
 boolK (and (again ⟨.load false 1 (.l 0), .none, []⟩ v7 e [v6, v5, v4, v3, v2, v1, v0] H3) (and (again ⟨.load false 1 (.l 0), .none, []⟩ v5 e [v4, v3, v2, v1, v0] H3) true)) (stK 5 v9 v8 H3 fun H4 =>
 boolK (and (again ⟨.load false 1 (.l 0), .none, []⟩ v7 e [v6, v5, v4, v3, v2, v1, v0] H4) (and (again ⟨.load false 1 (.l 0), .none, []⟩ v5 e [v4, v3, v2, v1, v0] H4) true)) (faK 0 v8 fun v10 =>
 ldK false 1 v10 H4 fun v11 =>
 blockK 0 (fun K0 =>
 binK .eql .no v11 (.i .i64 2) fun v12 =>
 condK v12 (genK roundT rec (.nilCheck (.s s0)) k1 (Env.put s21 v12 (Env.put s20 v11 (Env.put s4 v8 (Env.put s5 v7 e)))) [] H4 fun v13 H5 k2 =>
 faK 0 v13 fun v14 =>
 ldK false 1 v14 H5 fun v15 =>
 genK roundT rec (.nilCheck (.l 0)) k2 (Env.put s21 v12 (Env.put s20 v11 (Env.put s4 v8 (Env.put s5 v7 e)))) [v15, v14, v13] H5 fun v16 H6 k3 =>
 faK 9 v16 fun v17 =>
 ldK false 1 v17 H6 fun v18 =>
 faK 2 v8 fun v19 =>
 ldK false 1 v19 H6 fun v20 =>
 genK roundT rec (.mapUpd .i (.l 2) (.l 0) (.c (.b true))) k3 (Env.put s21 v12 (Env.put s20 v11 (Env.put s4 v8 (Env.put s5 v7 e)))) [v20, v19, v18, v17, v16, v15, v14, v13] H6 fun v21 H7 k4 =>
 genK roundT rec (.nilCheck (.s s0)) k4 (Env.put s21 v12 (Env.put s20 v11 (Env.put s4 v8 (Env.put s5 v7 e)))) [] H7 fun v22 H8 k5 =>
 faK 0 v22 fun v23 =>
 ldK false 1 v23 H8 fun v24 =>
 genK roundT rec (.nilCheck (.l 0)) k5 (Env.put s21 v12 (Env.put s20 v11 (Env.put s4 v8 (Env.put s5 v7 e)))) [v24, v23, v22] H8 fun v25 H9 k6 =>
 faK 4 v25 fun v26 =>
 ldK false 1 v26 H9 fun v27 =>
 faK 2 v8 fun v28 =>
 ldK false 1 v28 H9 fun v29 =>
 genK roundT rec (.mapUpd .i (.l 2) (.l 0) (.s s5)) k6 (Env.put s21 v12 (Env.put s20 v11 (Env.put s4 v8 (Env.put s5 v7 e)))) [v29, v28, v27, v26, v25, v24, v23, v22] H9 fun v30 H10 k7 =>
 genK roundT rec (.nilCheck (.s s0)) k7 (Env.put s21 v12 (Env.put s20 v11 (Env.put s4 v8 (Env.put s5 v7 e)))) [] H10 fun v31 H11 k8 =>
 faK 0 v31 fun v32 =>
 ldK false 1 v32 H11 fun v33 =>
 genK roundT rec (.nilCheck (.l 0)) k8 (Env.put s21 v12 (Env.put s20 v11 (Env.put s4 v8 (Env.put s5 v7 e)))) [v33, v32, v31] H11 fun v34 H12 k9 =>
 faK 3 v34 fun v35 =>
 ldK false 1 v35 H12 fun v36 =>
 faK 2 v8 fun v37 =>
 ldK false 1 v37 H12 fun v38 =>
 genK roundT rec (.nilCheck (.s s0)) k9 (Env.put s21 v12 (Env.put s20 v11 (Env.put s4 v8 (Env.put s5 v7 e)))) [v38, v37, v36, v35, v34, v33, v32, v31] H12 fun v39 H13 k10 =>
 faK 0 v39 fun v40 =>
 ldK false 1 v40 H13 fun v41 =>
 genK roundT rec (.nilCheck (.l 0)) k10 (Env.put s21 v12 (Env.put s20 v11 (Env.put s4 v8 (Env.put s5 v7 e)))) [v41, v40, v39, v38, v37, v36, v35, v34, v33, v32, v31] H13 fun v42 H14 k11 =>
 faK 2 v42 fun v43 =>
 ldK false 1 v43 H14 fun v44 =>
 binK .or .no v7 v44 fun v45 =>
 faK 1 v8 fun v46 =>
 ldK false 1 v46 H14 fun v47 =>
 caK rec 222 [v47] H14 fun v48 H15 =>
 boolK (and (again ⟨.load false 1 (.l 0), .none, []⟩ v44 (Env.put s21 v12 (Env.put s20 v11 (Env.put s4 v8 (Env.put s5 v7 e)))) [v43, v42, v41, v40, v39, v38, v37, v36, v35, v34, v33, v32, v31] H15) (and (again ⟨.load false 1 (.l 0), .none, []⟩ v41 (Env.put s21 v12 (Env.put s20 v11 (Env.put s4 v8 (Env.put s5 v7 e)))) [v40, v39, v38, v37, v36, v35, v34, v33, v32, v31] H15) (and (again ⟨.load false 1 (.l 0), .none, []⟩ v38 (Env.put s21 v12 (Env.put s20 v11 (Env.put s4 v8 (Env.put s5 v7 e)))) [v37, v36, v35, v34, v33, v32, v31] H15) (and (again ⟨.load false 1 (.l 0), .none, []⟩ v36 (Env.put s21 v12 (Env.put s20 v11 (Env.put s4 v8 (Env.put s5 v7 e)))) [v35, v34, v33, v32, v31] H15) (and (again ⟨.load false 1 (.l 0), .none, []⟩ v33 (Env.put s21 v12 (Env.put s20 v11 (Env.put s4 v8 (Env.put s5 v7 e)))) [v32, v31] H15) true))))) (binK .and .no v45 v48 fun v49 =>
 binK .neq .no v49 (.i .u64 0) fun v50 =>
 genK roundT rec (.mapUpd .i (.l 14) (.l 12) (.l 0)) k11 (Env.put s21 v12 (Env.put s20 v11 (Env.put s4 v8 (Env.put s5 v7 e)))) [v50, v49, v48, v47, v46, v45, v44, v43, v42, v41, v40, v39, v38, v37, v36, v35, v34, v33, v32, v31] H15 fun v51 H16 k12 =>
 K0 .norm (Env.put s21 v12 (Env.put s20 v11 (Env.put s4 v8 (Env.put s5 v7 e)))) H16 k12))
 (binK .eql .no v11 (.i .i64 8) fun v13 =>
 condK v13 (genK roundT rec (.nilCheck (.s s0)) k1 (Env.put s65 v13 (Env.put s21 v12 (Env.put s20 v11 (Env.put s4 v8 (Env.put s5 v7 e))))) [] H4 fun v22 H8 k5 =>
 faK 0 v22 fun v23 =>
 ldK false 1 v23 H8 fun v24 =>
 genK roundT rec (.nilCheck (.l 0)) k5 (Env.put s65 v13 (Env.put s21 v12 (Env.put s20 v11 (Env.put s4 v8 (Env.put s5 v7 e))))) [v24, v23, v22] H8 fun v25 H9 k6 =>
 faK 7 v25 fun v26 =>
 ldK false 1 v26 H9 fun v27 =>
 faK 2 v8 fun v28 =>
 ldK false 1 v28 H9 fun v29 =>
 genK roundT rec (.mapUpd .i (.l 2) (.l 0) (.s s5)) k6 (Env.put s65 v13 (Env.put s21 v12 (Env.put s20 v11 (Env.put s4 v8 (Env.put s5 v7 e))))) [v29, v28, v27, v26, v25, v24, v23, v22] H9 fun v30 H10 k7 =>
 K0 .norm (Env.put s65 v13 (Env.put s21 v12 (Env.put s20 v11 (Env.put s4 v8 (Env.put s5 v7 e))))) H10 k7)
 (binK .eql .no v11 (.i .i64 9) fun v31 =>
 condK v31 (genK roundT rec (.nilCheck (.s s0)) k1 (Env.put s77 v31 (Env.put s65 v13 (Env.put s21 v12 (Env.put s20 v11 (Env.put s4 v8 (Env.put s5 v7 e)))))) [] H4 fun v52 H17 k13 =>
 faK 0 v52 fun v53 =>
 ldK false 1 v53 H17 fun v54 =>
 genK roundT rec (.nilCheck (.s s0)) k13 (Env.put s77 v31 (Env.put s65 v13 (Env.put s21 v12 (Env.put s20 v11 (Env.put s4 v8 (Env.put s5 v7 e)))))) [v54, v53, v52] H17 fun v55 H18 k14 =>
 faK 0 v55 fun v56 =>
 ldK false 1 v56 H18 fun v57 =>
 genK roundT rec (.nilCheck (.l 3)) k14 (Env.put s77 v31 (Env.put s65 v13 (Env.put s21 v12 (Env.put s20 v11 (Env.put s4 v8 (Env.put s5 v7 e)))))) [v57, v56, v55, v54, v53, v52] H18 fun v58 H19 k15 =>
 faK 5 v58 fun v59 =>
 stK 1 v7 v59 H19 fun H20 =>
 genK roundT rec (.nilCheck (.l 3)) k15 (Env.put s77 v31 (Env.put s65 v13 (Env.put s21 v12 (Env.put s20 v11 (Env.put s4 v8 (Env.put s5 v7 e)))))) [AX.undef, v59, v58, v57, v56, v55, v54, v53, v52] H20 fun v60 H21 k16 =>
 faK 6 v60 fun v61 =>
 stK 1 (.b true) v61 H21 fun H22 =>
 K0 .norm (Env.put s77 v31 (Env.put s65 v13 (Env.put s21 v12 (Env.put s20 v11 (Env.put s4 v8 (Env.put s5 v7 e)))))) H22 k16)
 (K0 .norm (Env.put s77 v31 (Env.put s65 v13 (Env.put s21 v12 (Env.put s20 v11 (Env.put s4 v8 (Env.put s5 v7 e)))))) H4 k1)))) (endK recD [])))
theorem Tryz.cOk151 : (compFn Tryz.prog Tryz.f151).map (bodyK 151) = some Tryz.c151 := by kernel_rfl
def Tryz.c166 : FnK := fun rec recD args H => startK 2 args fun e =>
 blockK 0 (fun K0 =>
 loopK (fun k0 e0 H0 K1 =>
 seqK (fun K2 =>
 genK roundT rec (.nilCheck (.s s0)) k0 e0 [] H0 fun v0 H1 k1 =>
 faK 1 v0 fun v1 =>
 ldK false 1 v1 H1 fun v2 =>
 genK roundT rec (.nilCheck (.s s0)) k1 e0 [v2, v1, v0] H1 fun v3 H2 k2 =>
 faK 0 v3 fun v4 =>
 ldK false 1 v4 H2 fun v5 =>
 lnK .s H2 v5 fun v6 =>
 binK .lss .no v2 v6 fun v7 =>
 gdK v7 true (fun R0 => R0 (Env.get s1 e0) H2 k2) H2 k2 fun v8 H3 k3 =>
 gdK v7 true (fun R1 => R1 (Env.get s0 e0) H3 k3) H3 k3 fun v9 H4 k4 =>
 gdK v7 true (fun R2 => genK roundT rec (.nilCheck (.l 0)) k4 e0 [v9, v8, v7, v6, v5, v4, v3, v2, v1, v0] H4 fun v10 H5 k5 =>
 R2 v10 H5 k5) H4 k4 fun v10 H5 k5 =>
 gdK v7 true (fun R3 => faK 0 v10 fun v11 =>
 R3 v11 H5 k5) H5 k5 fun v11 H6 k6 =>
 gdK v7 true (fun R4 => ldK false 1 v11 H6 fun v12 =>
 R4 v12 H6 k6) H6 k6 fun v12 H7 k7 =>
 gdK v7 true (fun R5 => R5 (Env.get s0 e0) H7 k7) H7 k7 fun v13 H8 k8 =>
 gdK v7 true (fun R6 => genK roundT rec (.nilCheck (.l 0)) k8 e0 [v13, v12, v11, v10, v9, v8, v7, v6, v5, v4, v3, v2, v1, v0] H8 fun v14 H9 k9 =>
 R6 v14 H9 k9) H8 k8 fun v14 H9 k9 =>
 gdK v7 true (fun R7 => faK 1 v14 fun v15 =>
 R7 v15 H9 k9) H9 k9 fun v15 H10 k10 =>
 gdK v7 true (fun R8 => ldK false 1 v15 H10 fun v16 =>
 R8 v16 H10 k10) H10 k10 fun v16 H11 k11 =>
 gdK v7 true (fun R9 => ixK .none v12 v16 fun v17 =>
 R9 v17 H11 k11) H11 k11 fun v17 H12 k12 =>
 gdK v7 true (fun R10 => genK roundT rec (.callV (.l 9) [(.l 0)]) k12 e0 [v17, v16, v15, v14, v13, v12, v11, v10, v9, v8, v7, v6, v5, v4, v3, v2, v1, v0] H12 fun v18 H13 k13 =>
 R10 v18 H13 k13) H12 k12 fun v18 H13 k13 =>
 pkK v7 v18 (.b false) fun v19 =>
 condK v19 (K2 .norm (Env.put s26 v19 e0) H13 k13)
 (K2 (.exit 0) (Env.put s26 v19 e0) H13 k13)) (fun k14 e1 H14 =>
 blockK 1 (fun K3 =>
 genK roundT rec (.nilCheck (.s s0)) k14 e1 [] H14 fun v0 H1 k1 =>
 faK 1 v0 fun v1 =>
 ldK false 1 v1 H1 fun v2 =>
 binK .add .no v2 (.i .i64 1) fun v3 =>
 genK roundT rec (.nilCheck (.s s0)) k1 e1 [v3, v2, v1, v0] H1 fun v4 H15 k15 =>
 faK 1 v4 fun v5 =>
 stK 1 v3 v5 H15 fun H16 =>
 K3 .norm e1 H16 k15) K1) K1) rounds K0 (Ctl.mk [] .none) e H) (endK recD [])
theorem Tryz.cOk166 : (compFn Tryz.prog Tryz.f166).map (bodyK 166) = some Tryz.c166 := by kernel_rfl
def Tryz.c167 : FnK := fun rec recD args H => startK 1 args fun e =>
 binK .eql .no (Env.get s0 e) (.i .u8 32) fun v0 =>
 gdK v0 false (fun R0 => R0 (Env.get s0 e) H (Ctl.mk [] .none)) H (Ctl.mk [] .none) fun v1 H0 k0 =>
 gdK v0 false (fun R1 => binK .eql .no v1 (.i .u8 9) fun v2 =>
 R1 v2 H0 k0) H0 k0 fun v2 H1 k1 =>
 pkK v0 (.b true) v2 fun v3 =>
 gdK v3 false (fun R2 => R2 (Env.get s0 e) H1 k1) H1 k1 fun v4 H2 k2 =>
 gdK v3 false (fun R3 => binK .eql .no v4 (.i .u8 10) fun v5 =>
 R3 v5 H2 k2) H2 k2 fun v5 H3 k3 =>
 pkK v3 (.b true) v5 fun v6 =>
 gdK v6 false (fun R4 => R4 (Env.get s0 e) H3 k3) H3 k3 fun v7 H4 k4 =>
 gdK v6 false (fun R5 => binK .eql .no v7 (.i .u8 13) fun v8 =>
 R5 v8 H4 k4) H4 k4 fun v8 H5 k5 =>
 pkK v6 (.b true) v8 fun v9 =>
 (endK recD [.slot s2]) .ret (Env.put s2 v9 (Env.put s2 (.b false) e)) H5 k5
theorem Tryz.cOk167 : (compFn Tryz.prog Tryz.f167).map (bodyK 167) = some Tryz.c167 := by kernel_rfl
def Tryz.c168 : FnK := fun rec recD args H => startK 2 args fun e =>
 caK rec 229 [(Env.get s0 e), (Env.get s1 e)] H fun v0 H0 =>
 (endK recD [.slot s4]) .ret (Env.put s4 v0 (Env.put s4 (.b false) e)) H0 (Ctl.mk [] .none)
theorem Tryz.cOk168 : (compFn Tryz.prog Tryz.f168).map (bodyK 168) = some Tryz.c168 := by kernel_rfl
def Tryz.c169 : FnK := fun rec recD args H => startK 1 args fun e =>
 binK .geq .no (Env.get s0 e) (.i .u8 97) fun v0 =>
 gdK v0 true (fun R0 => R0 (Env.get s0 e) H (Ctl.mk [] .none)) H (Ctl.mk [] .none) fun v1 H0 k0 =>
 gdK v0 true (fun R1 => binK .leq .no v1 (.i .u8 122) fun v2 =>
 R1 v2 H0 k0) H0 k0 fun v2 H1 k1 =>
 pkK v0 v2 (.b false) fun v3 =>
 gdK v3 false (fun R2 => R2 (Env.get s0 e) H1 k1) H1 k1 fun v4 H2 k2 =>
 gdK v3 false (fun R3 => binK .geq .no v4 (.i .u8 65) fun v5 =>
 R3 v5 H2 k2) H2 k2 fun v5 H3 k3 =>
 gdK v3 false (fun R4 => R4 v5 H3 k3) H3 k3 fun v6 H4 k4 =>
 gdK v6 true (fun R5 => R5 (Env.get s0 e) H4 k4) H4 k4 fun v7 H5 k5 =>
 gdK v6 true (fun R6 => binK .leq .no v7 (.i .u8 90) fun v8 =>
 R6 v8 H5 k5) H5 k5 fun v8 H6 k6 =>
 gdK v3 false (fun R7 => pkK v6 v8 (.b false) fun v9 =>
 R7 v9 H6 k6) H6 k6 fun v9 H7 k7 =>
 pkK v3 (.b true) v9 fun v10 =>
 gdK v10 false (fun R8 => R8 (Env.get s0 e) H7 k7) H7 k7 fun v11 H8 k8 =>
 gdK v10 false (fun R9 => binK .eql .no v11 (.i .u8 95) fun v12 =>
 R9 v12 H8 k8) H8 k8 fun v12 H9 k9 =>
 pkK v10 (.b true) v12 fun v13 =>
 (endK recD [.slot s2]) .ret (Env.put s2 v13 (Env.put s2 (.b false) e)) H9 k9
theorem Tryz.cOk169 : (compFn Tryz.prog Tryz.f169).map (bodyK 169) = some Tryz.c169 := by kernel_rfl
def Tryz.c170 : FnK := fun rec recD args H => startK 1 args fun e =>
 caK rec 169 [(Env.get s0 e)] H fun v0 H0 =>
 gdK v0 false (fun R0 => R0 (Env.get s0 e) H0 (Ctl.mk [] .none)) H0 (Ctl.mk [] .none) fun v1 H1 k0 =>
 gdK v0 false (fun R1 => caK rec 171 [v1] H1 fun v2 H2 =>
 R1 v2 H2 k0) H1 k0 fun v2 H2 k1 =>
 pkK v0 (.b true) v2 fun v3 =>
 (endK recD [.slot s2]) .ret (Env.put s2 v3 (Env.put s2 (.b false) e)) H2 k1
theorem Tryz.cOk170 : (compFn Tryz.prog Tryz.f170).map (bodyK 170) = some Tryz.c170 := by kernel_rfl
def Tryz.c173 : FnK := fun rec recD args H => startK 1 args fun e =>
 genK roundT rec (.nilCheck (.s s0)) (Ctl.mk [] .none) (Env.put s2 (.i .i64 0) e) [] H fun v0 H0 k0 =>
 faK 0 v0 fun v1 =>
 ldK false 1 v1 H0 fun v2 =>
 genK roundT rec (.nilCheck (.s s0)) k0 (Env.put s2 (.i .i64 0) e) [v2, v1, v0] H0 fun v3 H1 k1 =>
 faK 1 v3 fun v4 =>
 ldK false 1 v4 H1 fun v5 =>
 slK .none v2 (.some v5) .none .none fun v6 =>
 seqK (fun K0 =>
 lnK .s H1 v6 fun v7 =>
 binK .gtr .no v7 (.i .i64 1) fun v8 =>
 gdK v8 true (fun R0 => R0 v6 H1 k1) H1 k1 fun v9 H2 k2 =>
 gdK v8 true (fun R1 => slK .none v9 .none (.some (.i .i64 2)) .none fun v10 =>
 R1 v10 H2 k2) H2 k2 fun v10 H3 k3 =>
 gdK v8 true (fun R2 => binK .add .no v10 (.s [32]) fun v11 =>
 R2 v11 H3 k3) H3 k3 fun v11 H4 k4 =>
 gdK v8 true (fun R3 => caK rec 9 [(.s [61, 61, 32, 33, 61, 32, 60, 61, 32, 62, 61, 32, 38, 38, 32, 124, 124, 32]), v11] H4 fun v12 H5 =>
 R3 v12 H5 k4) H4 k4 fun v12 H5 k5 =>
 pkK v8 v12 (.b false) fun v13 =>
 gdK v13 true (fun R4 => R4 v6 H5 k5) H5 k5 fun v14 H6 k6 =>
 gdK v13 true (fun R5 => ixK .none v14 (.i .i64 0) fun v15 =>
 R5 v15 H6 k6) H6 k6 fun v15 H7 k7 =>
 gdK v13 true (fun R6 => binK .neq .no v15 (.i .u8 32) fun v16 =>
 R6 v16 H7 k7) H7 k7 fun v16 H8 k8 =>
 pkK v13 v16 (.b false) fun v17 =>
 gdK v17 true (fun R7 => R7 v6 H8 k8) H8 k8 fun v18 H9 k9 =>
 gdK v17 true (fun R8 => ixK .none v18 (.i .i64 1) fun v19 =>
 R8 v19 H9 k9) H9 k9 fun v19 H10 k10 =>
 gdK v17 true (fun R9 => binK .neq .no v19 (.i .u8 32) fun v20 =>
 R9 v20 H10 k10) H10 k10 fun v20 H11 k11 =>
 pkK v17 v20 (.b false) fun v21 =>
 condK v21 (genK roundT rec (.nilCheck (.s s0)) k11 (Env.put s31 v21 (Env.put s3 v6 (Env.put s2 (.i .i64 0) e))) [] H11 fun v22 H12 k12 =>
 faK 1 v22 fun v23 =>
 ldK false 1 v23 H12 fun v24 =>
 binK .add .no v24 (.i .i64 2) fun v25 =>
 genK roundT rec (.nilCheck (.s s0)) k12 (Env.put s31 v21 (Env.put s3 v6 (Env.put s2 (.i .i64 0) e))) [v25, v24, v23, v22] H12 fun v26 H13 k13 =>
 faK 1 v26 fun v27 =>
 stK 1 v25 v27 H13 fun H14 =>
 K0 .ret (Env.put s2 (.i .i64 0) (Env.put s31 v21 (Env.put s3 v6 (Env.put s2 (.i .i64 0) e)))) H14 k13)
 (K0 .norm (Env.put s31 v21 (Env.put s3 v6 (Env.put s2 (.i .i64 0) e))) H11 k11)) (fun k14 e0 H15 =>
 seqK (fun K1 =>
 ixK .none (Env.get s3 e0) (.i .i64 0) fun v28 =>
 caK rec 230 [(.s [123, 125, 40, 41, 91, 93, 59, 44, 46, 61, 60, 62, 43, 45, 42, 47, 37, 33, 63]), v28] H15 fun v29 H16 =>
 binK .geq .no v29 (.i .i64 0) fun v30 =>
 condK v30 (genK roundT rec (.nilCheck (.s s0)) k14 (Env.put s42 v30 e0) [] H16 fun v31 H17 k15 =>
 faK 1 v31 fun v32 =>
 ldK false 1 v32 H17 fun v33 =>
 binK .add .no v33 (.i .i64 1) fun v34 =>
 genK roundT rec (.nilCheck (.s s0)) k15 (Env.put s42 v30 e0) [v34, v33, v32, v31] H17 fun v35 H18 k16 =>
 faK 1 v35 fun v36 =>
 stK 1 v34 v36 H18 fun H19 =>
 K1 .ret (Env.put s2 (.i .i64 0) (Env.put s42 v30 e0)) H19 k16)
 (K1 .norm (Env.put s42 v30 e0) H16 k14)) (fun k17 e1 H20 =>
 (endK recD [.slot s2]) .ret (Env.put s2 (.i .i64 60) e1) H20 k17) (endK recD [.slot s2])) (endK recD [.slot s2])
theorem Tryz.cOk173 : (compFn Tryz.prog Tryz.f173).map (bodyK 173) = some Tryz.c173 := by kernel_rfl
def Tryz.c179 : FnK := fun rec recD args H => startK 1 args fun e =>
 newK 234 [(.i .i64 0), (.i .i64 0), (.i .i64 0)] H fun v0 H0 =>
 caK rec 111 [(Env.get s0 e)] H0 fun v1 H1 =>
 exK 0 v1 fun v2 =>
 exK 1 v1 fun v3 =>
 stK 3 v2 v0 H1 fun H2 =>
 seqK (fun K0 =>
 faK 0 v0 fun v4 =>
 ldK false 1 v4 H2 fun v5 =>
 binK .eql .no v5 (.i .i64 1) fun v6 =>
 gdK v6 true (fun R0 => R0 v3 H2 (Ctl.mk [] .none)) H2 (Ctl.mk [] .none) fun v7 H3 k0 =>
 gdK v6 true (fun R1 => binK .eql .no v7 (.s [105, 110, 105, 116]) fun v8 =>
 R1 v8 H3 k0) H3 k0 fun v8 H4 k1 =>
 pkK v6 v8 (.b false) fun v9 =>
 condK v9 (caK rec 231 [(Env.get s0 e)] H4 fun v10 H5 =>
 caK rec 233 [(Env.get s0 e)] H5 fun v11 H6 =>
 faK 1 v0 fun v12 =>
 faK 0 v12 fun v13 =>
 ldK false 1 v13 H6 fun v14 =>
 caK rec 234 [(Env.get s0 e)] H6 fun v15 H7 =>
 boolK (and (again ⟨.load false 1 (.l 0), .none, []⟩ v14 (Env.put s5 v11 (Env.put s18 v9 (Env.put s3 v0 (Env.put s4 v3 (Env.put s2 (.i .i64 0) e))))) [v13, v12] H7) true) (genK roundT rec (.buildSlice 3 1 1 [(.i .i64 0)] [(0, (.l 0))]) k1 (Env.put s5 v11 (Env.put s18 v9 (Env.put s3 v0 (Env.put s4 v3 (Env.put s2 (.i .i64 0) e))))) [v15, v14, v13, v12] H7 fun v16 H8 k2 =>
 apK 3 1 [(.i .i64 0)] H8 v11 v16 fun v17 H9 =>
 boolK (and (again ⟨.load false 1 (.l 0), .none, []⟩ v14 (Env.put s5 v11 (Env.put s18 v9 (Env.put s3 v0 (Env.put s4 v3 (Env.put s2 (.i .i64 0) e))))) [v13, v12] H9) true) (bdK [(.i .i64 0), (.i .i64 0), (.i .i64 0), .sl0, (.s []), (.i .i64 0), (.s []), (.i .i64 0), (.s []), (.i .i64 0), (.i .i64 0), (.i .i64 0), .sl0] [(0, 1, (.i .i64 5)), (3, 1, v17)] fun v18 =>
 caK rec 114 [(Env.get s0 e), v18, v14] H9 fun v19 H10 =>
 K0 .ret (Env.put s2 v19 (Env.put s5 v11 (Env.put s18 v9 (Env.put s3 v0 (Env.put s4 v3 (Env.put s2 (.i .i64 0) e)))))) H10 k2)))
 (K0 .norm (Env.put s18 v9 (Env.put s3 v0 (Env.put s4 v3 (Env.put s2 (.i .i64 0) e)))) H4 k1)) (fun k3 e0 H11 =>
 newK 76 [(.i .i64 0), (.i .i64 0), (.i .i64 0), .sl0, (.s []), (.i .i64 0), (.s []), (.i .i64 0), (.s []), (.i .i64 0), (.i .i64 0), (.i .i64 0), .sl0] H11 fun v4 H12 =>
 caK rec 235 [(Env.get s0 e0), (.b true)] H12 fun v5 H13 =>
 stK 13 v5 v4 H13 fun H14 =>
 caK rec 176 [(Env.get s0 e0)] H14 fun v20 H15 =>
 faK 4 v4 fun v21 =>
 stK 1 v20 v21 H15 fun H16 =>
 seqK (fun K1 =>
 caK rec 178 [(Env.get s0 e0), (.s [40])] H16 fun v11 H6 =>
 condK v11 (faK 0 v4 fun v22 =>
 stK 1 (.i .i64 6) v22 H6 fun H17 =>
 caK rec 233 [(Env.get s0 e0)] H17 fun v23 H18 =>
 faK 3 v4 fun v24 =>
 stK 1 v23 v24 H18 fun H19 =>
 faK 3 v4 fun v25 =>
 ldK false 1 v25 H19 fun v26 =>
 caK rec 234 [(Env.get s0 e0)] H19 fun v27 H20 =>
 boolK (and (again ⟨.load false 1 (.l 0), .none, []⟩ v26 (Env.put s40 v11 (Env.put s6 v4 e0)) [v25] H20) true) (genK roundT rec (.buildSlice 3 1 1 [(.i .i64 0)] [(0, (.l 0))]) k3 (Env.put s40 v11 (Env.put s6 v4 e0)) [v27, v26, v25] H20 fun v28 H21 k4 =>
 apK 3 1 [(.i .i64 0)] H21 v26 v28 fun v29 H22 =>
 faK 3 v4 fun v30 =>
 stK 1 v29 v30 H22 fun H23 =>
 ldK true 13 v4 H23 fun v31 =>
 faK 1 (Env.get s3 e0) fun v32 =>
 faK 0 v32 fun v33 =>
 ldK false 1 v33 H23 fun v34 =>
 caK rec 114 [(Env.get s0 e0), v31, v34] H23 fun v35 H24 =>
 K1 .ret (Env.put s2 v35 (Env.put s40 v11 (Env.put s6 v4 e0))) H24 k4))
 (K1 .norm (Env.put s40 v11 (Env.put s6 v4 e0)) H6 k3)) (fun k5 e1 H25 =>
 seqK (fun K2 =>
 faK 5 (Env.get s6 e1) fun v36 =>
 faK 0 v36 fun v37 =>
 ldK false 1 v37 H25 fun v38 =>
 binK .eql .no v38 (.i .i64 6) fun v39 =>
 condK v39 (faK 1 (Env.get s3 e1) fun v22 =>
 faK 0 v22 fun v40 =>
 ldK false 1 v40 H25 fun v41 =>
 caK rec 174 [(.i .i64 80), v41] H25 fun v42 H26 =>
 K2 .norm (Env.put s61 v39 e1) H26 k5)
 (K2 .norm (Env.put s61 v39 e1) H25 k5)) (fun k6 e2 H27 =>
 caK rec 175 [(Env.get s0 e2), (.s [59])] H27 fun v36 H28 =>
 faK 0 (Env.get s6 e2) fun v22 =>
 stK 1 (.i .i64 4) v22 H28 fun H17 =>
 ldK true 13 (Env.get s6 e2) H17 fun v23 =>
 faK 1 (Env.get s3 e2) fun v24 =>
 faK 0 v24 fun v43 =>
 ldK false 1 v43 H17 fun v44 =>
 caK rec 114 [(Env.get s0 e2), v23, v44] H17 fun v45 H29 =>
 (endK recD [.slot s2]) .ret (Env.put s2 v45 e2) H29 k6) (endK recD [.slot s2])) (endK recD [.slot s2])) (endK recD [.slot s2])
theorem Tryz.cOk179 : (compFn Tryz.prog Tryz.f179).map (bodyK 179) = some Tryz.c179 := by kernel_rfl
def Tryz.c188 : FnK := fun rec recD args H => startK 1 args fun e =>
 seqK (fun K0 =>
 binK .eql .sl (Env.get s0 e) .sl0 fun v0 =>
 condK v0 (K0 .ret (Env.put s2 .sl0 (Env.put s4 v0 (Env.put s2 .sl0 e))) H (Ctl.mk [] .none))
 (K0 .norm (Env.put s4 v0 (Env.put s2 .sl0 e)) H (Ctl.mk [] .none))) (fun k0 e0 H0 =>
 genK roundT rec (.buildSlice 74 0 4 [(.i .i64 0), (.s []), (.i .i64 0), (.s [])] []) k0 e0 [] H0 fun v0 H1 k1 =>
 apK 74 4 [(.i .i64 0), (.s []), (.i .i64 0), (.s [])] H1 v0 (Env.get s0 e0) fun v1 H2 =>
 (endK recD [.slot s2]) .ret (Env.put s2 v1 e0) H2 k1) (endK recD [.slot s2])
theorem Tryz.cOk188 : (compFn Tryz.prog Tryz.f188).map (bodyK 188) = some Tryz.c188 := by kernel_rfl
def Tryz.c193 : FnK := fun rec recD args H => startK 2 args fun e =>
 newK 74 [(.i .i64 0), (.s []), (.i .i64 0), (.s [])] H fun v0 H0 =>
 genK roundT rec (.nilCheck (.s s0)) (Ctl.mk [] .none) (Env.put s4 v0 e) [] H0 fun v1 H1 k0 =>
 faK 0 v1 fun v2 =>
 ldK false 1 v2 H1 fun v3 =>
 genK roundT rec (.nilCheck (.l 0)) k0 (Env.put s4 v0 e) [v3, v2, v1] H1 fun v4 H2 k1 =>
 faK 0 v4 fun v5 =>
 faK 0 v5 fun v6 =>
 ldK false 1 v6 H2 fun v7 =>
 iaK .none 13 v7 (Env.get s1 e) fun v8 =>
 ldK true 13 v8 H2 fun v9 =>
 newK 76 [(.i .i64 0), (.i .i64 0), (.i .i64 0), .sl0, (.s []), (.i .i64 0), (.s []), (.i .i64 0), (.s []), (.i .i64 0), (.i .i64 0), (.i .i64 0), .sl0] H2 fun v10 H3 =>
 stK 13 v9 v10 H3 fun H4 =>
 ldK true 13 v10 H4 fun v11 =>
 newK 74 [(.i .i64 0), (.s []), (.i .i64 0), (.s [])] H4 fun v12 H5 =>
 caK rec 241 [(Env.get s0 e), (Env.get s1 e), v11] H5 fun v13 H6 =>
 stK 4 v13 v12 H6 fun H7 =>
 genK roundT rec (.nilCheck (.s s0)) k1 (Env.put s6 v12 (Env.put s5 v10 (Env.put s4 v0 e))) [] H7 fun v14 H8 k2 =>
 faK 0 v14 fun v15 =>
 ldK false 1 v15 H8 fun v16 =>
 genK roundT rec (.nilCheck (.l 0)) k2 (Env.put s6 v12 (Env.put s5 v10 (Env.put s4 v0 e))) [v16, v15, v14] H8 fun v17 H9 k3 =>
 faK 2 v17 fun v18 =>
 ldK false 1 v18 H9 fun v19 =>
 ldK true 4 v12 H9 fun v20 =>
 iaK .none 4 v19 (Env.get s1 e) fun v21 =>
 stK 4 v20 v21 H9 fun H10 =>
 ldK true 4 v12 H10 fun v22 =>
 stK 4 v22 v0 H10 fun H11 =>
 (endK recD [.cell true 4 s4]) .ret (Env.put s6 v12 (Env.put s5 v10 (Env.put s4 v0 e))) H11 k3
theorem Tryz.cOk193 : (compFn Tryz.prog Tryz.f193).map (bodyK 193) = some Tryz.c193 := by kernel_rfl
def Tryz.c196 : FnK := fun rec recD args H => startK 2 args fun e =>
 bxK 177 (Env.get s0 e) H fun v0 H0 =>
 faK 1 v0 fun v1 =>
 ldK false 1 v1 H0 fun v2 =>
 gdK v2 false (fun R0 => faK 0 v0 fun v3 =>
 R0 v3 H0 (Ctl.mk [] .none)) H0 (Ctl.mk [] .none) fun v3 H1 k0 =>
 gdK v2 false (fun R1 => ldK false 1 v3 H1 fun v4 =>
 R1 v4 H1 k0) H1 k0 fun v4 H2 k1 =>
 gdK v2 false (fun R2 => R2 (Env.get s1 e) H2 k1) H2 k1 fun v5 H3 k2 =>
 gdK v2 false (fun R3 => genK roundT rec (.convInt .u64 (.l 0)) k2 (Env.put s2 v0 (Env.put s4 (.b false) e)) [v5, v4, v3, v2, v1] H3 fun v6 H4 k3 =>
 R3 v6 H4 k3) H3 k2 fun v6 H4 k3 =>
 gdK v2 false (fun R4 => binK .shr .no v4 v6 fun v7 =>
 R4 v7 H4 k3) H4 k3 fun v7 H5 k4 =>
 gdK v2 false (fun R5 => binK .and .no v7 (.i .u64 1) fun v8 =>
 R5 v8 H5 k4) H5 k4 fun v8 H6 k5 =>
 gdK v2 false (fun R6 => binK .eql .no v8 (.i .u64 1) fun v9 =>
 R6 v9 H6 k5) H6 k5 fun v9 H7 k6 =>
 pkK v2 (.b true) v9 fun v10 =>
 (endK recD [.slot s4]) .ret (Env.put s4 v10 (Env.put s2 v0 (Env.put s4 (.b false) e))) H7 k6
theorem Tryz.cOk196 : (compFn Tryz.prog Tryz.f196).map (bodyK 196) = some Tryz.c196 := by kernel_rfl
def Tryz.c203 : FnK := fun rec recD args H => startK 4 args fun e =>
 binK .add .no (Env.get s1 e) (.i .i64 1) fun v0 =>
 blockK 0 (fun K0 =>
 loopK (fun k0 e0 H0 K1 =>
 seqK (fun K2 =>
 binK .lss .no (Env.get s8 e0) (Env.get s2 e0) fun v1 =>
 condK v1 (K2 .norm (Env.put s14 v1 e0) H0 k0)
 (K2 (.exit 0) (Env.put s14 v1 e0) H0 k0)) (fun k1 e1 H1 =>
 seqK (fun K3 =>
 blockK 1 (fun K4 =>
 blockK 2 (fun K5 =>
 loopK (fun k2 e2 H2 K6 =>
 seqK (fun K7 =>
 binK .gtr .no (Env.get s9 e2) (Env.get s1 e2) fun v2 =>
 gdK v2 true (fun R0 => R0 (Env.get s3 e2) H2 k2) H2 k2 fun v3 H3 k3 =>
 gdK v2 true (fun R1 => R1 (Env.get s0 e2) H3 k3) H3 k3 fun v4 H4 k4 =>
 gdK v2 true (fun R2 => R2 (Env.get s9 e2) H4 k4) H4 k4 fun v5 H5 k5 =>
 gdK v2 true (fun R3 => iaK .none 3 v4 v5 fun v6 =>
 R3 v6 H5 k5) H5 k5 fun v6 H6 k6 =>
 gdK v2 true (fun R4 => ldK true 3 v6 H6 fun v7 =>
 R4 v7 H6 k6) H6 k6 fun v7 H7 k7 =>
 gdK v2 true (fun R5 => R5 (Env.get s0 e2) H7 k7) H7 k7 fun v8 H8 k8 =>
 gdK v2 true (fun R6 => R6 (Env.get s9 e2) H8 k8) H8 k8 fun v9 H9 k9 =>
 gdK v2 true (fun R7 => binK .sub .no v9 (.i .i64 1) fun v10 =>
 R7 v10 H9 k9) H9 k9 fun v10 H10 k10 =>
 gdK v2 true (fun R8 => iaK .none 3 v8 v10 fun v11 =>
 R8 v11 H10 k10) H10 k10 fun v11 H11 k11 =>
 gdK v2 true (fun R9 => ldK true 3 v11 H11 fun v12 =>
 R9 v12 H11 k11) H11 k11 fun v12 H12 k12 =>
 gdK v2 true (fun R10 => genK roundT rec (.callV (.l 9) [(.l 5), (.l 0)]) k12 e2 [v12, v11, v10, v9, v8, v7, v6, v5, v4, v3, v2] H12 fun v13 H13 k13 =>
 R10 v13 H13 k13) H12 k12 fun v13 H13 k13 =>
 gdK v2 true (fun R11 => binK .lss .no v13 (.i .i64 0) fun v14 =>
 R11 v14 H13 k13) H13 k13 fun v14 H14 k14 =>
 pkK v2 v14 (.b false) fun v15 =>
 condK v15 (K7 .norm (Env.put s34 v15 e2) H14 k14)
 (K7 (.exit 2) (Env.put s34 v15 e2) H14 k14)) (fun k15 e3 H15 =>
 seqK (fun K8 =>
 blockK 3 (fun K9 =>
 binK .sub .no (Env.get s9 e3) (.i .i64 1) fun v16 =>
 binK .sub .no (Env.get s9 e3) (.i .i64 1) fun v17 =>
 iaK .none 3 (Env.get s0 e3) v17 fun v18 =>
 ldK true 3 v18 H15 fun v19 =>
 iaK .none 3 (Env.get s0 e3) (Env.get s9 e3) fun v20 =>
 ldK true 3 v20 H15 fun v21 =>
 iaK .none 3 (Env.get s0 e3) (Env.get s9 e3) fun v22 =>
 stK 3 v19 v22 H15 fun H16 =>
 iaK .none 3 (Env.get s0 e3) v16 fun v23 =>
 stK 3 v21 v23 H16 fun H17 =>
 K9 .norm e3 H17 k15) K8) (fun k16 e4 H18 =>
 binK .sub .no (Env.get s9 e4) (.i .i64 1) fun v2 =>
 K6 .norm (Env.put s9 v2 e4) H18 k16) K6) K6) rounds K5 k1 (Env.put s9 (Env.get s8 e1) e1) H1) K4) K3) (fun k17 e5 H19 =>
 binK .add .no (Env.get s8 e5) (.i .i64 1) fun v1 =>
 K1 .norm (Env.put s8 v1 e5) H19 k17) K1) K1) rounds K0 (Ctl.mk [] .none) (Env.put s8 v0 e) H) (endK recD [])
theorem Tryz.cOk203 : (compFn Tryz.prog Tryz.f203).map (bodyK 203) = some Tryz.c203 := by kernel_rfl
def Tryz.c219 : FnK := fun rec recD args H => startK 2 args fun e =>
 seqK (fun K0 =>
 genK roundT rec (.nilCheck (.s s0)) (Ctl.mk [] .none) (Env.put s5 .sl0 (Env.put s4 .sl0 e)) [] H fun v0 H0 k0 =>
 faK 1 v0 fun v1 =>
 ldK false 1 v1 H0 fun v2 =>
 iaK .none 5 v2 (Env.get s1 e) fun v3 =>
 faK 3 v3 fun v4 =>
 ldK false 1 v4 H0 fun v5 =>
 genK roundT rec (.nilCheck (.s s0)) k0 (Env.put s5 .sl0 (Env.put s4 .sl0 e)) [v5, v4, v3, v2, v1, v0] H0 fun v6 H1 k1 =>
 faK 1 v6 fun v7 =>
 ldK false 1 v7 H1 fun v8 =>
 iaK .none 5 v8 (Env.get s1 e) fun v9 =>
 faK 4 v9 fun v10 =>
 ldK false 1 v10 H1 fun v11 =>
 bdK [(.i .i64 0), (.i .i64 0)] [(0, 1, v5), (1, 1, v11)] fun v12 =>
 blockK 0 (fun K1 =>
 loopK (fun k2 e0 H2 K2 =>
 binK .lss .no (Env.get s25 e0) (.i .i64 2) fun v13 =>
 seqK (fun K3 =>
 condK v13 (K3 .norm (Env.put s26 v13 e0) H2 k2)
 (K3 (.exit 0) (Env.put s26 v13 e0) H2 k2)) (fun k3 e1 H3 =>
 seqK (fun K4 =>
 blockK 1 (fun K5 =>
 ixK (.some (2, false, 1)) (Env.get s24 e1) (Env.get s25 e1) fun v14 =>
 binK .geq .no v14 (.i .i64 0) fun v15 =>
 gdK v15 true (fun R0 => R0 (Env.get s5 e1) H3 k3) H3 k3 fun v16 H4 k4 =>
 gdK v15 true (fun R1 => R1 v14 H4 k4) H4 k4 fun v17 H5 k5 =>
 gdK v15 true (fun R2 => caK rec 254 [v16, v17] H5 fun v18 H6 =>
 R2 v18 H6 k5) H5 k5 fun v18 H6 k6 =>
 gdK v15 true (fun R3 => unK .not v18 fun v19 =>
 R3 v19 H6 k6) H6 k6 fun v19 H7 k7 =>
 pkK v15 v19 (.b false) fun v20 =>
 condK v20 (genK roundT rec (.buildSlice 3 1 1 [(.i .i64 0)] [(0, (.s s7))]) k7 (Env.put s35 v20 (Env.put s7 v14 e1)) [] H7 fun v21 H8 k8 =>
 apK 3 1 [(.i .i64 0)] H8 (Env.get s5 e1) v21 fun v22 H9 =>
 K5 .norm (Env.put s5 v22 (Env.put s35 v20 (Env.put s7 v14 e1))) H9 k8)
 (K5 .norm (Env.put s35 v20 (Env.put s7 v14 e1)) H7 k7)) K4) (fun k9 e2 H10 =>
 binK .add .no (Env.get s25 e2) (.i .i64 1) fun v23 =>
 K2 .norm (Env.put s25 v23 e2) H10 k9) K2) K2) rounds K1 k1 (Env.put s24 v12 (Env.put s25 (.i .i64 0) (Env.put s5 .sl0 (Env.put s4 .sl0 e)))) H1) K0) (fun k10 e3 H11 =>
 (endK recD [.slot s4]) .ret (Env.put s4 (Env.get s5 e3) e3) H11 k10) (endK recD [.slot s4])
theorem Tryz.cOk219 : (compFn Tryz.prog Tryz.f219).map (bodyK 219) = some Tryz.c219 := by kernel_rfl
def Tryz.c222 : FnK := fun rec recD args H => startK 1 args fun e =>
 genK roundT rec (.convInt .u64 (.s s0)) (Ctl.mk [] .none) (Env.put s2 (.i .u64 0) e) [] H fun v0 H0 k0 =>
 binK .shl .no (.i .u64 1) v0 fun v1 =>
 (endK recD [.slot s2]) .ret (Env.put s2 v1 (Env.put s2 (.i .u64 0) e)) H0 k0
theorem Tryz.cOk222 : (compFn Tryz.prog Tryz.f222).map (bodyK 222) = some Tryz.c222 := by kernel_rfl
def Tryz.c234 : FnK := fun rec recD args H => startK 1 args fun e =>
 newK 234 [(.i .i64 0), (.i .i64 0), (.i .i64 0)] H fun v0 H0 =>
 caK rec 111 [(Env.get s0 e)] H0 fun v1 H1 =>
 exK 0 v1 fun v2 =>
 exK 1 v1 fun v3 =>
 stK 3 v2 v0 H1 fun H2 =>
 caK rec 258 [(Env.get s0 e)] H2 fun v4 H3 =>
 caK rec 175 [(Env.get s0 e), (.s [123])] H3 fun v5 H4 =>
 seqK (fun K0 =>
 blockK 0 (fun K1 =>
 loopK (fun k0 e0 H5 K2 =>
 seqK (fun K3 =>
 caK rec 178 [(Env.get s0 e0), (.s [125])] H5 fun v6 H6 =>
 unK .not v6 fun v7 =>
 condK v7 (K3 .norm (Env.put s17 v7 e0) H6 k0)
 (K3 (.exit 0) (Env.put s17 v7 e0) H6 k0)) (fun k1 e1 H7 =>
 blockK 1 (fun K4 =>
 caK rec 259 [(Env.get s0 e1)] H7 fun v6 H6 =>
 genK roundT rec (.buildSlice 3 1 1 [(.i .i64 0)] [(0, (.l 0))]) k1 e1 [v6] H6 fun v7 H8 k2 =>
 apK 3 1 [(.i .i64 0)] H8 (Env.get s5 e1) v7 fun v8 H9 =>
 K4 .norm (Env.put s5 v8 e1) H9 k2) K2) K2) rounds K1 (Ctl.mk [] .none) (Env.put s5 .sl0 (Env.put s3 v0 (Env.put s2 (.i .i64 0) e))) H4) K0) (fun k3 e2 H10 =>
 caK rec 175 [(Env.get s0 e2), (.s [125])] H10 fun v9 H11 =>
 genK roundT rec (.nilCheck (.s s0)) k3 e2 [] H11 fun v10 H12 k4 =>
 faK 3 v10 fun v11 =>
 ldK false 1 v11 H12 fun v12 =>
 binK .sub .no v12 (.i .i64 1) fun v13 =>
 genK roundT rec (.nilCheck (.s s0)) k4 e2 [v13, v12, v11, v10] H12 fun v14 H13 k5 =>
 faK 3 v14 fun v15 =>
 stK 1 v13 v15 H13 fun H14 =>
 bdK [(.i .i64 0), (.i .i64 0), (.i .i64 0), .sl0, (.s []), (.i .i64 0), (.s []), (.i .i64 0), (.s []), (.i .i64 0), (.i .i64 0), (.i .i64 0), .sl0] [(0, 1, (.i .i64 8)), (3, 1, (Env.get s5 e2))] fun v16 =>
 faK 1 (Env.get s3 e2) fun v17 =>
 faK 0 v17 fun v18 =>
 ldK false 1 v18 H14 fun v19 =>
 caK rec 114 [(Env.get s0 e2), v16, v19] H14 fun v20 H15 =>
 (endK recD [.slot s2]) .ret (Env.put s2 v20 e2) H15 k5) (endK recD [.slot s2])
theorem Tryz.cOk234 : (compFn Tryz.prog Tryz.f234).map (bodyK 234) = some Tryz.c234 := by kernel_rfl
def Tryz.c257 : FnK := fun rec recD args H => startK 1 args fun e =>
 binK .neq .no (Env.get s0 e) (.s []) fun v0 =>
 gdK v0 true (fun R0 => R0 (Env.get s0 e) H (Ctl.mk [] .none)) H (Ctl.mk [] .none) fun v1 H0 k0 =>
 gdK v0 true (fun R1 => caK rec 230 [v1, (.i .u8 32)] H0 fun v2 H1 =>
 R1 v2 H1 k0) H0 k0 fun v2 H1 k1 =>
 gdK v0 true (fun R2 => binK .lss .no v2 (.i .i64 0) fun v3 =>
 R2 v3 H1 k1) H1 k1 fun v3 H2 k2 =>
 pkK v0 v3 (.b false) fun v4 =>
 gdK v4 true (fun R3 => R3 (Env.get s0 e) H2 k2) H2 k2 fun v5 H3 k3 =>
 gdK v4 true (fun R4 => binK .add .no (.s [32]) v5 fun v6 =>
 R4 v6 H3 k3) H3 k3 fun v6 H4 k4 =>
 gdK v4 true (fun R5 => binK .add .no v6 (.s [32]) fun v7 =>
 R5 v7 H4 k4) H4 k4 fun v7 H5 k5 =>
 gdK v4 true (fun R6 => caK rec 9 [(.s [32, 99, 108, 97, 115, 115, 32, 101, 120, 116, 101, 110, 100, 115, 32, 105, 110, 105, 116, 32, 105, 110, 116, 32, 98, 111, 111, 108, 32, 100, 111, 117, 98, 108, 101, 32, 115, 116, 114, 32, 118, 111, 105, 100, 32, 79, 112, 116, 105, 111, 110, 32, 105, 102, 32, 101, 108, 115, 101, 32, 119, 104, 105, 108, 101, 32, 98, 114, 101, 97, 107, 32, 99, 111, 110, 116, 105, 110, 117, 101, 32, 114, 101, 116, 117, 114, 110, 32, 112, 114, 105, 110, 116, 32, 115, 117, 112, 101, 114, 32, 116, 104, 105, 115, 32, 110, 117, 108, 108, 32, 110, 111, 110, 101, 32, 115, 111, 109, 101, 32, 105, 115, 32, 116, 114, 117, 101, 32, 102, 97, 108, 115, 101, 32, 110, 101, 119, 32, 99, 97, 115, 116, 32, 116, 111, 105, 110, 116, 32, 116, 111, 100, 111, 117, 98, 108, 101, 32, 105, 110, 112, 117, 116, 32, 97, 115, 107, 32, 108, 101, 110, 103, 116, 104, 32, 118, 97, 108, 32]), v7] H5 fun v8 H6 =>
 R6 v8 H6 k5) H5 k5 fun v8 H6 k6 =>
 pkK v4 v8 (.b false) fun v9 =>
 (endK recD [.slot s2]) .ret (Env.put s2 v9 (Env.put s2 (.b false) e)) H6 k6
theorem Tryz.cOk257 : (compFn Tryz.prog Tryz.f257).map (bodyK 257) = some Tryz.c257 := by kernel_rfl
def Tryz.c261 : FnK := fun rec recD args H => startK 1 args fun e =>
 bxK 74 (Env.get s0 e) H fun v0 H0 =>
 newK 74 [(.i .i64 0), (.s []), (.i .i64 0), (.s [])] H0 fun v1 H1 =>
 seqK (fun K0 =>
 ldK true 4 v0 H1 fun v2 =>
 caK rec 52 [v2] H1 fun v3 H2 =>
 unK .not v3 fun v4 =>
 gdK v4 false (fun R0 => faK 0 v0 fun v5 =>
 R0 v5 H2 (Ctl.mk [] .none)) H2 (Ctl.mk [] .none) fun v5 H3 k0 =>
 gdK v4 false (fun R1 => ldK false 1 v5 H3 fun v6 =>
 R1 v6 H3 k0) H3 k0 fun v6 H4 k1 =>
 gdK v4 false (fun R2 => binK .eql .no v6 (.i .i64 7) fun v7 =>
 R2 v7 H4 k1) H4 k1 fun v7 H5 k2 =>
 pkK v4 (.b true) v7 fun v8 =>
 gdK v8 false (fun R3 => faK 0 v0 fun v9 =>
 R3 v9 H5 k2) H5 k2 fun v9 H6 k3 =>
 gdK v8 false (fun R4 => ldK false 1 v9 H6 fun v10 =>
 R4 v10 H6 k3) H6 k3 fun v10 H7 k4 =>
 gdK v8 false (fun R5 => binK .eql .no v10 (.i .i64 8) fun v11 =>
 R5 v11 H7 k4) H7 k4 fun v11 H8 k5 =>
 pkK v8 (.b true) v11 fun v12 =>
 condK v12 (ldK true 4 v0 H8 fun v13 =>
 stK 4 v13 v1 H8 fun H9 =>
 K0 .ret (Env.put s15 v12 (Env.put s1 v0 (Env.put s2 v1 e))) H9 k5)
 (K0 .norm (Env.put s15 v12 (Env.put s1 v0 (Env.put s2 v1 e))) H8 k5)) (fun k6 e0 H10 =>
 faK 2 (Env.get s1 e0) fun v2 =>
 ldK false 1 v2 H10 fun v3 =>
 binK .add .no v3 (.i .i64 1) fun v4 =>
 caK rec 280 [(.s [32]), v4] H10 fun v5 H3 =>
 faK 3 (Env.get s1 e0) fun v6 =>
 stK 1 v5 v6 H3 fun H5 =>
 ldK true 4 (Env.get s1 e0) H5 fun v14 =>
 stK 4 v14 (Env.get s2 e0) H5 fun H11 =>
 (endK recD [.cell true 4 s2]) .ret e0 H11 k6) (endK recD [.cell true 4 s2])
theorem Tryz.cOk261 : (compFn Tryz.prog Tryz.f261).map (bodyK 261) = some Tryz.c261 := by kernel_rfl
def Tryz.c265 : FnK := fun rec recD args H => startK 1 args fun e =>
 bxK 74 (Env.get s0 e) H fun v0 H0 =>
 ldK true 4 v0 H0 fun v1 =>
 caK rec 52 [v1] H0 fun v2 H1 =>
 gdK v2 true (fun R0 => faK 2 v0 fun v3 =>
 R0 v3 H1 (Ctl.mk [] .none)) H1 (Ctl.mk [] .none) fun v3 H2 k0 =>
 gdK v2 true (fun R1 => ldK false 1 v3 H2 fun v4 =>
 R1 v4 H2 k0) H2 k0 fun v4 H3 k1 =>
 gdK v2 true (fun R2 => binK .eql .no v4 (.i .i64 0) fun v5 =>
 R2 v5 H3 k1) H3 k1 fun v5 H4 k2 =>
 pkK v2 v5 (.b false) fun v6 =>
 gdK v6 true (fun R3 => faK 0 v0 fun v7 =>
 R3 v7 H4 k2) H4 k2 fun v7 H5 k3 =>
 gdK v6 true (fun R4 => ldK false 1 v7 H5 fun v8 =>
 R4 v8 H5 k3) H5 k3 fun v8 H6 k4 =>
 gdK v6 true (fun R5 => binK .eql .no v8 (.i .i64 1) fun v9 =>
 R5 v9 H6 k4) H6 k4 fun v9 H7 k5 =>
 gdK v6 true (fun R6 => R6 v9 H7 k5) H7 k5 fun v10 H8 k6 =>
 gdK v10 false (fun R7 => faK 0 v0 fun v11 =>
 R7 v11 H8 k6) H8 k6 fun v11 H9 k7 =>
 gdK v10 false (fun R8 => ldK false 1 v11 H9 fun v12 =>
 R8 v12 H9 k7) H9 k7 fun v12 H10 k8 =>
 gdK v10 false (fun R9 => binK .eql .no v12 (.i .i64 3) fun v13 =>
 R9 v13 H10 k8) H10 k8 fun v13 H11 k9 =>
 gdK v6 true (fun R10 => pkK v10 (.b true) v13 fun v14 =>
 R10 v14 H11 k9) H11 k9 fun v14 H12 k10 =>
 pkK v6 v14 (.b false) fun v15 =>
 (endK recD [.slot s2]) .ret (Env.put s2 v15 (Env.put s1 v0 (Env.put s2 (.b false) e))) H12 k10
theorem Tryz.cOk265 : (compFn Tryz.prog Tryz.f265).map (bodyK 265) = some Tryz.c265 := by kernel_rfl
def Tryz.c266 : FnK := fun rec recD args H => startK 2 args fun e =>
 bxK 76 (Env.get s1 e) H fun v0 H0 =>
 newK 74 [(.i .i64 0), (.s []), (.i .i64 0), (.s [])] H0 fun v1 H1 =>
 faK 3 v0 fun v2 =>
 ldK false 1 v2 H1 fun v3 =>
 iaK .none 1 v3 (.i .i64 0) fun v4 =>
 ldK false 1 v4 H1 fun v5 =>
 faK 3 v0 fun v6 =>
 ldK false 1 v6 H1 fun v7 =>
 iaK .none 1 v7 (.i .i64 1) fun v8 =>
 ldK false 1 v8 H1 fun v9 =>
 newK 74 [(.i .i64 0), (.s []), (.i .i64 0), (.s [])] H1 fun v10 H2 =>
 newK 74 [(.i .i64 0), (.s []), (.i .i64 0), (.s [])] H2 fun v11 H3 =>
 caK rec 193 [(Env.get s0 e), v5] H3 fun v12 H4 =>
 boolK (and (again ⟨.load false 1 (.l 0), .none, []⟩ v9 (Env.put s3 v0 (Env.put s4 v1 e)) [v8, v7, v6, v5, v4, v3, v2] H4) (and (again ⟨.load false 1 (.l 0), .none, []⟩ v7 (Env.put s3 v0 (Env.put s4 v1 e)) [v6, v5, v4, v3, v2] H4) true)) (caK rec 193 [(Env.get s0 e), v9] H4 fun v13 H5 =>
 stK 4 v12 v10 H5 fun H6 =>
 stK 4 v13 v11 H6 fun H7 =>
 ldK true 4 v10 H7 fun v14 =>
 ldK true 4 v11 H7 fun v15 =>
 binK .eql (.flat [(0, .i), (1, .s), (2, .i), (3, .s)]) v14 v15 fun v16 =>
 gdK v16 true (fun R0 => ldK true 4 v10 H7 fun v17 =>
 R0 v17 H7 (Ctl.mk [] .none)) H7 (Ctl.mk [] .none) fun v17 H8 k0 =>
 gdK v16 true (fun R1 => caK rec 265 [v17] H8 fun v18 H9 =>
 R1 v18 H9 k0) H8 k0 fun v18 H9 k1 =>
 pkK v16 v18 (.b false) fun v19 =>
 seqK (fun K0 =>
 faK 4 v0 fun v20 =>
 ldK false 1 v20 H9 fun v21 =>
 blockK 0 (fun K1 =>
 binK .eql .no v21 (.s [43]) fun v22 =>
 condK v22 (gdK v19 false (fun R2 => R2 v16 H9 k1) H9 k1 fun v23 H10 k2 =>
 gdK v19 false (fun R3 => R3 v23 H10 k2) H10 k2 fun v24 H11 k3 =>
 gdK v24 true (fun R4 => ldK true 4 v10 H11 fun v25 =>
 R4 v25 H11 k3) H11 k3 fun v25 H12 k4 =>
 gdK v24 true (fun R5 => caK rec 187 [v25, (.i .i64 4)] H12 fun v26 H13 =>
 R5 v26 H13 k4) H12 k4 fun v26 H13 k5 =>
 gdK v19 false (fun R6 => pkK v24 v26 (.b false) fun v27 =>
 R6 v27 H13 k5) H13 k5 fun v27 H14 k6 =>
 pkK v19 (.b true) v27 fun v28 =>
 condK v28 (ldK true 4 v10 H14 fun v29 =>
 stK 4 v29 v1 H14 fun H15 =>
 K1 .ret (Env.put s41 v28 (Env.put s32 v22 (Env.put s31 v21 (Env.put s8 v19 (Env.put s7 v16 (Env.put s5 v10 (Env.put s6 v11 (Env.put s3 v0 (Env.put s4 v1 e))))))))) H15 k6)
 (K1 .norm (Env.put s41 v28 (Env.put s32 v22 (Env.put s31 v21 (Env.put s8 v19 (Env.put s7 v16 (Env.put s5 v10 (Env.put s6 v11 (Env.put s3 v0 (Env.put s4 v1 e))))))))) H14 k6))
 (seqK (fun K2 =>
 binK .eql .no v21 (.s [45]) fun v30 =>
 condK v30 (K2 .norm (Env.put s43 v30 (Env.put s32 v22 (Env.put s31 v21 (Env.put s8 v19 (Env.put s7 v16 (Env.put s5 v10 (Env.put s6 v11 (Env.put s3 v0 (Env.put s4 v1 e))))))))) H9 k1)
 (binK .eql .no v21 (.s [42]) fun v31 =>
 condK v31 (K2 .norm (Env.put s43 v31 (Env.put s43 v30 (Env.put s32 v22 (Env.put s31 v21 (Env.put s8 v19 (Env.put s7 v16 (Env.put s5 v10 (Env.put s6 v11 (Env.put s3 v0 (Env.put s4 v1 e)))))))))) H9 k1)
 (binK .eql .no v21 (.s [47]) fun v32 =>
 K2 .norm (Env.put s43 v32 (Env.put s43 v31 (Env.put s43 v30 (Env.put s32 v22 (Env.put s31 v21 (Env.put s8 v19 (Env.put s7 v16 (Env.put s5 v10 (Env.put s6 v11 (Env.put s3 v0 (Env.put s4 v1 e))))))))))) H9 k1))) (fun k7 e0 H16 =>
 condK (Env.get s43 e0) (condK (Env.get s8 e0) (ldK true 4 (Env.get s5 e0) H16 fun v33 =>
 stK 4 v33 (Env.get s4 e0) H16 fun H17 =>
 K1 .ret (Env.put s47 (Env.get s8 e0) e0) H17 k7)
 (K1 .norm (Env.put s47 (Env.get s8 e0) e0) H16 k7))
 (binK .eql .no (Env.get s31 e0) (.s [37]) fun v34 =>
 condK v34 (gdK (Env.get s7 e0) true (fun R7 => ldK true 4 (Env.get s5 e0) H16 fun v33 =>
 R7 v33 H16 k7) H16 k7 fun v33 H18 k8 =>
 gdK (Env.get s7 e0) true (fun R8 => caK rec 187 [v33, (.i .i64 1)] H18 fun v35 H17 =>
 R8 v35 H17 k8) H18 k8 fun v35 H17 k9 =>
 pkK (Env.get s7 e0) v35 (.b false) fun v36 =>
 condK v36 (ldK true 4 (Env.get s5 e0) H17 fun v37 =>
 stK 4 v37 (Env.get s4 e0) H17 fun H19 =>
 K1 .ret (Env.put s55 v36 (Env.put s49 v34 e0)) H19 k9)
 (K1 .norm (Env.put s55 v36 (Env.put s49 v34 e0)) H17 k9))
 (seqK (fun K3 =>
 binK .eql .no (Env.get s31 e0) (.s [60]) fun v32 =>
 condK v32 (K3 .norm (Env.put s57 v32 (Env.put s49 v34 e0)) H16 k7)
 (binK .eql .no (Env.get s31 e0) (.s [60, 61]) fun v38 =>
 condK v38 (K3 .norm (Env.put s57 v38 (Env.put s57 v32 (Env.put s49 v34 e0))) H16 k7)
 (binK .eql .no (Env.get s31 e0) (.s [62]) fun v39 =>
 condK v39 (K3 .norm (Env.put s57 v39 (Env.put s57 v38 (Env.put s57 v32 (Env.put s49 v34 e0)))) H16 k7)
 (binK .eql .no (Env.get s31 e0) (.s [62, 61]) fun v40 =>
 K3 .norm (Env.put s57 v40 (Env.put s57 v39 (Env.put s57 v38 (Env.put s57 v32 (Env.put s49 v34 e0))))) H16 k7)))) (fun k10 e1 H20 =>
 condK (Env.get s57 e1) (condK (Env.get s8 e1) (caK rec 264 [(.i .i64 2)] H20 fun v41 H21 =>
 stK 4 v41 (Env.get s4 e1) H21 fun H22 =>
 K1 .ret (Env.put s62 (Env.get s8 e1) e1) H22 k10)
 (K1 .norm (Env.put s62 (Env.get s8 e1) e1) H20 k10))
 (seqK (fun K4 =>
 binK .eql .no (Env.get s31 e1) (.s [38, 38]) fun v37 =>
 condK v37 (K4 .norm (Env.put s64 v37 e1) H20 k10)
 (binK .eql .no (Env.get s31 e1) (.s [124, 124]) fun v41 =>
 K4 .norm (Env.put s64 v41 (Env.put s64 v37 e1)) H20 k10)) (fun k11 e2 H23 =>
 condK (Env.get s64 e2) (gdK (Env.get s7 e2) true (fun R9 => ldK true 4 (Env.get s5 e2) H23 fun v38 =>
 R9 v38 H23 k11) H23 k11 fun v38 H24 k12 =>
 gdK (Env.get s7 e2) true (fun R10 => caK rec 187 [v38, (.i .i64 2)] H24 fun v42 H25 =>
 R10 v42 H25 k12) H24 k12 fun v42 H25 k13 =>
 pkK (Env.get s7 e2) v42 (.b false) fun v43 =>
 condK v43 (ldK true 4 (Env.get s5 e2) H25 fun v39 =>
 stK 4 v39 (Env.get s4 e2) H25 fun H26 =>
 K1 .ret (Env.put s71 v43 e2) H26 k13)
 (K1 .norm (Env.put s71 v43 e2) H25 k13))
 (seqK (fun K5 =>
 binK .eql .no (Env.get s31 e2) (.s [61, 61]) fun v41 =>
 condK v41 (K5 .norm (Env.put s73 v41 e2) H23 k11)
 (binK .eql .no (Env.get s31 e2) (.s [33, 61]) fun v39 =>
 K5 .norm (Env.put s73 v39 (Env.put s73 v41 e2)) H23 k11)) (fun k14 e3 H27 =>
 condK (Env.get s73 e3) (ldK true 4 (Env.get s5 e3) H27 fun v44 =>
 caK rec 30 [v44] H27 fun v45 H28 =>
 gdK v45 true (fun R11 => ldK true 4 (Env.get s6 e3) H28 fun v46 =>
 R11 v46 H28 k14) H28 k14 fun v46 H29 k15 =>
 gdK v45 true (fun R12 => caK rec 30 [v46] H29 fun v47 H30 =>
 R12 v47 H30 k15) H29 k15 fun v47 H30 k16 =>
 pkK v45 v47 (.b false) fun v48 =>
 gdK v48 true (fun R13 => ldK true 4 (Env.get s5 e3) H30 fun v49 =>
 R13 v49 H30 k16) H30 k16 fun v49 H31 k17 =>
 gdK v48 true (fun R14 => caK rec 101 [] H31 fun v50 H32 =>
 boolK (and (again ⟨.load true 4 (.s s5), (.some ((.l 0), true)), []⟩ v49 e3 [v48, v47, v46, v45, v44] H32) true) (R14 v50 H32 k17)) H31 k17 fun v50 H32 k18 =>
 gdK v48 true (fun R15 => binK .neq (.flat [(0, .i), (1, .s), (2, .i), (3, .s)]) v49 v50 fun v51 =>
 R15 v51 H32 k18) H32 k18 fun v51 H33 k19 =>
 pkK v48 v51 (.b false) fun v52 =>
 gdK v52 true (fun R16 => ldK true 4 (Env.get s6 e3) H33 fun v53 =>
 R16 v53 H33 k19) H33 k19 fun v53 H34 k20 =>
 gdK v52 true (fun R17 => caK rec 101 [] H34 fun v54 H35 =>
 boolK (and (again ⟨.load true 4 (.s s6), (.some ((.l 0), true)), []⟩ v53 e3 [v52, v51, v50, v49, v48, v47, v46, v45, v44] H35) true) (R17 v54 H35 k20)) H34 k20 fun v54 H35 k21 =>
 gdK v52 true (fun R18 => binK .neq (.flat [(0, .i), (1, .s), (2, .i), (3, .s)]) v53 v54 fun v55 =>
 R18 v55 H35 k21) H35 k21 fun v55 H36 k22 =>
 pkK v52 v55 (.b false) fun v56 =>
 gdK v56 true (fun R19 => ldK true 4 (Env.get s5 e3) H36 fun v57 =>
 R19 v57 H36 k22) H36 k22 fun v57 H37 k23 =>
 gdK v56 true (fun R20 => caK rec 100 [] H37 fun v58 H38 =>
 boolK (and (again ⟨.load true 4 (.s s5), (.some ((.s s9), true)), []⟩ v57 (Env.put s9 v56 e3) [] H38) true) (R20 v58 H38 k23)) H37 k23 fun v58 H38 k24 =>
 gdK v56 true (fun R21 => binK .eql (.flat [(0, .i), (1, .s), (2, .i), (3, .s)]) v57 v58 fun v59 =>
 R21 v59 H38 k24) H38 k24 fun v59 H39 k25 =>
 gdK v56 true (fun R22 => R22 v59 H39 k25) H39 k25 fun v60 H40 k26 =>
 gdK v60 true (fun R23 => ldK true 4 (Env.get s6 e3) H40 fun v61 =>
 R23 v61 H40 k26) H40 k26 fun v61 H41 k27 =>
 gdK v60 true (fun R24 => caK rec 100 [] H41 fun v62 H42 =>
 boolK (and (again ⟨.load true 4 (.s s6), (.some ((.l 0), true)), []⟩ v61 (Env.put s9 v56 e3) [v60, v59, v58, v57] H42) true) (R24 v62 H42 k27)) H41 k27 fun v62 H42 k28 =>
 gdK v60 true (fun R25 => binK .eql (.flat [(0, .i), (1, .s), (2, .i), (3, .s)]) v61 v62 fun v63 =>
 R25 v63 H42 k28) H42 k28 fun v63 H43 k29 =>
 gdK v56 true (fun R26 => pkK v60 v63 (.b false) fun v64 =>
 R26 v64 H43 k29) H43 k29 fun v64 H44 k30 =>
 gdK v56 true (fun R27 => R27 v64 H44 k30) H44 k30 fun v65 H45 k31 =>
 gdK v65 false (fun R28 => R28 (Env.get s0 e3) H45 k31) H45 k31 fun v66 H46 k32 =>
 gdK v65 false (fun R29 => genK roundT rec (.nilCheck (.l 0)) k32 (Env.put s9 v56 e3) [v66, v65, v64, v63, v62, v61, v60, v59, v58, v57] H46 fun v67 H47 k33 =>
 R29 v67 H47 k33) H46 k32 fun v67 H47 k33 =>
 gdK v65 false (fun R30 => faK 0 v67 fun v68 =>
 R30 v68 H47 k33) H47 k33 fun v68 H48 k34 =>
 gdK v65 false (fun R31 => ldK false 1 v68 H48 fun v69 =>
 R31 v69 H48 k34) H48 k34 fun v69 H49 k35 =>
 gdK v65 false (fun R32 => genK roundT rec (.nilCheck (.l 0)) k35 (Env.put s9 v56 e3) [v69, v68, v67, v66, v65, v64, v63, v62, v61, v60, v59, v58, v57] H49 fun v70 H50 k36 =>
 R32 v70 H50 k36) H49 k35 fun v70 H50 k36 =>
 gdK v65 false (fun R33 => faK 5 v70 fun v71 =>
 R33 v71 H50 k36) H50 k36 fun v71 H51 k37 =>
 gdK v65 false (fun R34 => ldK false 1 v71 H51 fun v72 =>
 R34 v72 H51 k37) H51 k37 fun v72 H52 k38 =>
 gdK v65 false (fun R35 => ldK true 4 (Env.get s5 e3) H52 fun v73 =>
 R35 v73 H52 k38) H52 k38 fun v73 H53 k39 =>
 gdK v65 false (fun R36 => ldK true 4 (Env.get s6 e3) H53 fun v74 =>
 R36 v74 H53 k39) H53 k39 fun v74 H54 k40 =>
 gdK v65 false (fun R37 => caK rec 240 [v72, v73, v74] H54 fun v75 H55 =>
 R37 v75 H55 k40) H54 k40 fun v75 H55 k41 =>
 gdK v56 true (fun R38 => pkK v65 (.b true) v75 fun v76 =>
 R38 v76 H55 k41) H55 k41 fun v76 H56 k42 =>
 gdK v56 true (fun R39 => R39 v76 H56 k42) H56 k42 fun v77 H57 k43 =>
 gdK v77 false (fun R40 => R40 (Env.get s0 e3) H57 k43) H57 k43 fun v78 H58 k44 =>
 gdK v77 false (fun R41 => genK roundT rec (.nilCheck (.l 0)) k44 (Env.put s9 v56 e3) [v78, v77, v76, v75, v74, v73, v72, v71, v70, v69, v68, v67, v66, v65, v64, v63, v62, v61, v60, v59, v58, v57] H58 fun v79 H59 k45 =>
 R41 v79 H59 k45) H58 k44 fun v79 H59 k45 =>
 gdK v77 false (fun R42 => faK 0 v79 fun v80 =>
 R42 v80 H59 k45) H59 k45 fun v80 H60 k46 =>
 gdK v77 false (fun R43 => ldK false 1 v80 H60 fun v81 =>
 R43 v81 H60 k46) H60 k46 fun v81 H61 k47 =>
 gdK v77 false (fun R44 => genK roundT rec (.nilCheck (.l 0)) k47 (Env.put s9 v56 e3) [v81, v80, v79, v78, v77, v76, v75, v74, v73, v72, v71, v70, v69, v68, v67, v66, v65, v64, v63, v62, v61, v60, v59, v58, v57] H61 fun v82 H62 k48 =>
 R44 v82 H62 k48) H61 k47 fun v82 H62 k48 =>
 gdK v77 false (fun R45 => faK 5 v82 fun v83 =>
 R45 v83 H62 k48) H62 k48 fun v83 H63 k49 =>
 gdK v77 false (fun R46 => ldK false 1 v83 H63 fun v84 =>
 R46 v84 H63 k49) H63 k49 fun v84 H64 k50 =>
 gdK v77 false (fun R47 => ldK true 4 (Env.get s6 e3) H64 fun v85 =>
 R47 v85 H64 k50) H64 k50 fun v85 H65 k51 =>
 gdK v77 false (fun R48 => ldK true 4 (Env.get s5 e3) H65 fun v86 =>
 R48 v86 H65 k51) H65 k51 fun v86 H66 k52 =>
 gdK v77 false (fun R49 => caK rec 240 [v84, v85, v86] H66 fun v87 H67 =>
 R49 v87 H67 k52) H66 k52 fun v87 H67 k53 =>
 gdK v56 true (fun R50 => pkK v77 (.b true) v87 fun v88 =>
 R50 v88 H67 k53) H67 k53 fun v88 H68 k54 =>
 pkK v56 v88 (.b false) fun v89 =>
 gdK v89 false (fun R51 => R51 (Env.get s7 e3) H68 k54) H68 k54 fun v90 H69 k55 =>
 gdK v89 false (fun R52 => R52 v90 H69 k55) H69 k55 fun v91 H70 k56 =>
 gdK v91 true (fun R53 => ldK true 4 (Env.get s5 e3) H70 fun v92 =>
 R53 v92 H70 k56) H70 k56 fun v92 H71 k57 =>
 gdK v91 true (fun R54 => caK rec 30 [v92] H71 fun v93 H72 =>
 R54 v93 H72 k57) H71 k57 fun v93 H72 k58 =>
 gdK v91 true (fun R55 => unK .not v93 fun v94 =>
 R55 v94 H72 k58) H72 k58 fun v94 H73 k59 =>
 gdK v89 false (fun R56 => pkK v91 v94 (.b false) fun v95 =>
 R56 v95 H73 k59) H73 k59 fun v95 H74 k60 =>
 gdK v89 false (fun R57 => R57 v95 H74 k60) H74 k60 fun v96 H75 k61 =>
 gdK v96 true (fun R58 => faK 0 (Env.get s5 e3) fun v97 =>
 R58 v97 H75 k61) H75 k61 fun v97 H76 k62 =>
 gdK v96 true (fun R59 => ldK false 1 v97 H76 fun v98 =>
 R59 v98 H76 k62) H76 k62 fun v98 H77 k63 =>
 gdK v96 true (fun R60 => binK .neq .no v98 (.i .i64 6) fun v99 =>
 R60 v99 H77 k63) H77 k63 fun v99 H78 k64 =>
 gdK v89 false (fun R61 => pkK v96 v99 (.b false) fun v100 =>
 R61 v100 H78 k64) H78 k64 fun v100 H79 k65 =>
 pkK v89 (.b true) v100 fun v101 =>
 condK v101 (caK rec 264 [(.i .i64 2)] H79 fun v102 H80 =>
 stK 4 v102 (Env.get s4 e3) H80 fun H81 =>
 K1 .ret (Env.put s139 v101 (Env.put s9 v56 e3)) H81 k65)
 (K1 .norm (Env.put s139 v101 (Env.put s9 v56 e3)) H79 k65))
 (K1 .norm e3 H27 k14)) K1)) K1)) K1))) K1)) K0) (fun k66 e4 H82 =>
 genK roundT rec (.nilCheck (.s s0)) k66 e4 [] H82 fun v20 H83 k67 =>
 faK 0 v20 fun v21 =>
 ldK false 1 v21 H83 fun v103 =>
 faK 3 (Env.get s3 e4) fun v104 =>
 ldK false 1 v104 H83 fun v105 =>
 iaK .none 1 v105 (.i .i64 1) fun v106 =>
 ldK false 1 v106 H83 fun v107 =>
 caK rec 190 [v103, (.i .i64 130), v107] H83 fun v108 H84 =>
 bdK [(.i .i64 0), (.s []), (.i .i64 0), (.s [])] [] fun v109 =>
 stK 4 v109 (Env.get s4 e4) H84 fun H85 =>
 (endK recD [.cell true 4 s4]) .ret e4 H85 k67) (endK recD [.cell true 4 s4]))
theorem Tryz.cOk266 : (compFn Tryz.prog Tryz.f266).map (bodyK 266) = some Tryz.c266 := by kernel_rfl
def Tryz.c279 : FnK := fun rec recD args H => startK 2 args fun e =>
 newK 234 [(.i .i64 0), (.i .i64 0), (.i .i64 0)] H fun v0 H0 =>
 caK rec 111 [(Env.get s0 e)] H0 fun v1 H1 =>
 exK 0 v1 fun v2 =>
 exK 1 v1 fun v3 =>
 stK 3 v2 v0 H1 fun H2 =>
 seqK (fun K0 =>
 caK rec 284 [(Env.get s0 e), (.i .i64 1)] H2 fun v4 H3 =>
 exK 0 v4 fun v5 =>
 exK 1 v4 fun v6 =>
 caK rec 178 [(Env.get s0 e), (.s [91])] H3 fun v7 H4 =>
 unK .not v7 fun v8 =>
 gdK v8 false (fun R0 => R0 v6 H4 (Ctl.mk [] .none)) H4 (Ctl.mk [] .none) fun v9 H5 k0 =>
 gdK v8 false (fun R1 => binK .neq .no v9 (.s [93]) fun v10 =>
 R1 v10 H5 k0) H5 k0 fun v10 H6 k1 =>
 pkK v8 (.b true) v10 fun v11 =>
 condK v11 (K0 .ret (Env.put s4 (.b false) (Env.put s25 v11 (Env.put s8 v6 (Env.put s5 v0 (Env.put s4 (.b false) e))))) H6 k1)
 (K0 .norm (Env.put s25 v11 (Env.put s8 v6 (Env.put s5 v0 (Env.put s4 (.b false) e)))) H6 k1)) (fun k2 e0 H7 =>
 seqK (fun K1 =>
 genK roundT rec (.nilCheck (.s s1)) k2 e0 [] H7 fun v12 H8 k3 =>
 faK 5 v12 fun v13 =>
 faK 2 v13 fun v14 =>
 ldK false 1 v14 H8 fun v15 =>
 binK .eql .no v15 (.i .i64 4) fun v16 =>
 condK v16 (faK 1 (Env.get s5 e0) fun v17 =>
 faK 0 v17 fun v18 =>
 ldK false 1 v18 H8 fun v19 =>
 caK rec 174 [(.i .i64 2), v19] H8 fun v20 H9 =>
 K1 .norm (Env.put s31 v16 e0) H9 k3)
 (K1 .norm (Env.put s31 v16 e0) H8 k3)) (fun k4 e1 H10 =>
 caK rec 231 [(Env.get s0 e1)] H10 fun v12 H8 =>
 caK rec 231 [(Env.get s0 e1)] H8 fun v17 H11 =>
 genK roundT rec (.nilCheck (.s s1)) k4 e1 [v17] H11 fun v18 H12 k5 =>
 faK 10 v18 fun v19 =>
 faK 1 v19 fun v20 =>
 stK 1 v17 v20 H12 fun H13 =>
 genK roundT rec (.nilCheck (.s s1)) k5 e1 [] H13 fun v21 H14 k6 =>
 faK 5 v21 fun v22 =>
 faK 2 v22 fun v23 =>
 ldK false 1 v23 H14 fun v24 =>
 binK .add .no v24 (.i .i64 1) fun v25 =>
 genK roundT rec (.nilCheck (.s s1)) k6 e1 [v25, v24, v23, v22, v21] H14 fun v26 H15 k7 =>
 faK 5 v26 fun v27 =>
 faK 2 v27 fun v28 =>
 stK 1 v25 v28 H15 fun H16 =>
 genK roundT rec (.nilCheck (.s s1)) k7 e1 [] H16 fun v29 H17 k8 =>
 faK 5 v29 fun v30 =>
 faK 3 v30 fun v31 =>
 ldK false 1 v31 H17 fun v32 =>
 binK .add .no v32 (.s [32]) fun v33 =>
 genK roundT rec (.nilCheck (.s s1)) k8 e1 [v33, v32, v31, v30, v29] H17 fun v34 H18 k9 =>
 faK 5 v34 fun v35 =>
 faK 3 v35 fun v36 =>
 stK 1 v33 v36 H18 fun H19 =>
 genK roundT rec (.nilCheck (.s s1)) k9 e1 [] H19 fun v37 H20 k10 =>
 faK 12 v37 fun v38 =>
 ldK false 1 v38 H20 fun v39 =>
 genK roundT rec (.nilCheck (.s s1)) k10 e1 [v39, v38, v37] H20 fun v40 H21 k11 =>
 faK 10 v40 fun v41 =>
 faK 1 v41 fun v42 =>
 ldK false 1 v42 H21 fun v43 =>
 genK roundT rec (.buildSlice 3 1 1 [(.i .i64 0)] [(0, (.l 0))]) k11 e1 [v43, v42, v41, v40, v39, v38, v37] H21 fun v44 H22 k12 =>
 apK 3 1 [(.i .i64 0)] H22 v39 v44 fun v45 H23 =>
 genK roundT rec (.nilCheck (.s s1)) k12 e1 [v45, v44, v43, v42, v41, v40, v39, v38, v37] H23 fun v46 H24 k13 =>
 faK 12 v46 fun v47 =>
 stK 1 v45 v47 H24 fun H25 =>
 (endK recD [.slot s4]) .ret (Env.put s4 (.b true) e1) H25 k13) (endK recD [.slot s4])) (endK recD [.slot s4])
theorem Tryz.cOk279 : (compFn Tryz.prog Tryz.f279).map (bodyK 279) = some Tryz.c279 := by kernel_rfl
end
end Go.Proofs
