/- A part of the program's functions, printed as the executor's code, and that they are the program's. -/
import Derived.Test.YtkgkmoonkacglaaGreatDoorEng4
import Derived.Test.YtkgkmoonkacglaaGreatDoorEng1
import Derived.Test.YtkgkmoonkacglaaGreatDoorSlots
import Derived.Test.YtkgkmoonkacglaaGreatDoorProg
import Derived.KernelRfl
set_option autoImplicit false
set_option linter.all false
set_option autoImplicit false
set_option maxRecDepth 1000000
set_option linter.all false
namespace Go.Proofs
open Go Go.AX
noncomputable section
def Tryz.c13 : FnK := fun rec recD args H => startK 2 args fun e =>
 newK [(.i .i64 0), (.s []), (.i .i64 0), (.s [])] H fun v2000 H2000 =>
 seqK (fun K3 =>
 binK .lss .no (Env.get s1 e) (.i .i64 0) fun v5000 =>
 gdK v5000 false (fun R5001 => R5001 (Env.get s1 e) H2000 (Ctl.mk [] .none)) H2000 (Ctl.mk [] .none) fun v5001 H5001 k5001 =>
 gdK v5000 false (fun R5002 => R5002 (Env.get s0 e) H5001 k5001) H5001 k5001 fun v5002 H5002 k5002 =>
 gdK v5000 false (fun R5003 => genK roundT rec (.nilCheck (.l 0)) k5002 (Env.put s4 v2000 e) [v5002, v5001, v5000] H5002 fun v5003 H5003 k5003 =>
 R5003 v5003 H5003 k5003) H5002 k5002 fun v5003 H5003 k5003 =>
 gdK v5000 false (fun R5004 => faK 2 v5003 fun v5004 =>
 R5004 v5004 H5003 k5003) H5003 k5003 fun v5004 H5004 k5004 =>
 gdK v5000 false (fun R5005 => ldK false 1 v5004 H5004 fun v5005 =>
 R5005 v5005 H5004 k5004) H5004 k5004 fun v5005 H5005 k5005 =>
 gdK v5000 false (fun R5006 => lnK .sl H5005 v5005 fun v5006 =>
 R5006 v5006 H5005 k5005) H5005 k5005 fun v5006 H5006 k5006 =>
 gdK v5000 false (fun R5007 => binK .geq .no v5001 v5006 fun v5007 =>
 R5007 v5007 H5006 k5006) H5006 k5006 fun v5007 H5007 k5007 =>
 pkK v5000 (.b true) v5007 fun v5008 =>
 condK v5008 (bdK [(.i .i64 0), (.s []), (.i .i64 0), (.s [])] [] fun v8000 =>
 stK 4 v8000 v2000 H5007 fun H8001 =>
 K3 .ret (Env.put s15 v5008 (Env.put s4 v2000 e)) H8001 k5007)
 (K3 .norm (Env.put s15 v5008 (Env.put s4 v2000 e)) H5007 k5007)) (fun k3 e3 H3 =>
 genK roundT rec (.nilCheck (.s s0)) k3 e3 [] H3 fun v5000 H5000 k5000 =>
 faK 2 v5000 fun v5001 =>
 ldK false 1 v5001 H5000 fun v5002 =>
 iaK .none 4 v5002 (Env.get s1 e3) fun v5003 =>
 ldK true 4 v5003 H5000 fun v5004 =>
 stK 4 v5004 (Env.get s4 e3) H5000 fun H5005 =>
 (endK recD [.cell true 4 s4]) .ret e3 H5005 k5000) (endK recD [.cell true 4 s4])
theorem Tryz.cOk13 : (compFn Tryz.prog Tryz.f13).map (bodyK 13) = some Tryz.c13 := by kernel_rfl
def Tryz.c16 : FnK := fun rec recD args H => startK 2 args fun e =>
 seqK (fun K5 =>
 caK rec 9 [(Env.get s0 e)] H fun v7000 H7000 =>
 blockK 0 (fun K8 =>
 loopK (fun k9 e9 H9 K9 =>
 binK .lss .no (Env.get s10 e9) (Env.get s9 e9) fun v11000 =>
 seqK (fun K12 =>
 condK v11000 (K12 .norm (Env.put s11 v11000 e9) H9 k9)
 (K12 (.exit 0) (Env.put s11 v11000 e9) H9 k9)) (fun k12 e12 H12 =>
 seqK (fun K13 =>
 blockK 1 (fun K14 =>
 newK [(.i .i64 0), (.i .i64 0), (.i .i64 0), .sl0, (.s []), (.i .i64 0), (.s []), (.i .i64 0), (.s []), (.i .i64 0), (.i .i64 0), (.i .i64 0), .sl0] H12 fun v18000 H18000 =>
 caK rec 10 [(Env.get s0 e12), (Env.get s10 e12)] H18000 fun v18001 H18001 =>
 stK 13 v18001 v18000 H18001 fun H18002 =>
 faK 0 v18000 fun v20000 =>
 ldK false 1 v20000 H18002 fun v20001 =>
 binK .eql .no v20001 (.i .i64 25) fun v20002 =>
 gdK v20002 true (fun R20003 => faK 4 v18000 fun v20003 =>
 R20003 v20003 H18002 k12) H18002 k12 fun v20003 H20003 k20003 =>
 gdK v20002 true (fun R20004 => ldK false 1 v20003 H20003 fun v20004 =>
 R20004 v20004 H20003 k20003) H20003 k20003 fun v20004 H20004 k20004 =>
 gdK v20002 true (fun R20005 => R20005 (Env.get s1 e12) H20004 k20004) H20004 k20004 fun v20005 H20005 k20005 =>
 gdK v20002 true (fun R20006 => binK .eql .no v20004 v20005 fun v20006 =>
 R20006 v20006 H20005 k20005) H20005 k20005 fun v20006 H20006 k20006 =>
 pkK v20002 v20006 (.b false) fun v20007 =>
 condK v20007 (genK roundT rec (.buildSlice 1 1 [(.i .i64 0)] [(0, (.s s6))]) k20006 (Env.put s24 v20007 (Env.put s7 v18000 (Env.put s6 (Env.get s10 e12) e12))) [] H20006 fun v22000 H22000 k22000 =>
 apK 1 [(.i .i64 0)] H22000 (Env.get s5 e12) v22000 fun v22001 H22001 =>
 K14 .norm (Env.put s5 v22001 (Env.put s24 v20007 (Env.put s7 v18000 (Env.put s6 (Env.get s10 e12) e12)))) H22001 k22000)
 (K14 .norm (Env.put s24 v20007 (Env.put s7 v18000 (Env.put s6 (Env.get s10 e12) e12))) H20006 k20006)) K13) (fun k13 e13 H13 =>
 binK .add .no (Env.get s10 e13) (.i .i64 1) fun v14000 =>
 K9 .norm (Env.put s10 v14000 e13) H13 k13) K9) K9) rounds K8 (Ctl.mk [] .none) (Env.put s9 v7000 (Env.put s10 (.i .i64 0) (Env.put s5 .sl0 (Env.put s4 .sl0 e)))) H7000) K5) (fun k5 e5 H5 =>
 (endK recD [.slot s4]) .ret (Env.put s4 (Env.get s5 e5) e5) H5 k5) (endK recD [.slot s4])
theorem Tryz.cOk16 : (compFn Tryz.prog Tryz.f16).map (bodyK 16) = some Tryz.c16 := by kernel_rfl
def Tryz.c21 : FnK := fun rec recD args H => startK 2 args fun e =>
 genK roundT rec (.nilCheck (.s s0)) (Ctl.mk [] .none) (Env.put s4 (.b false) e) [] H fun v4000 H4000 k4000 =>
 faK 9 v4000 fun v4001 =>
 ldK false 1 v4001 H4000 fun v4002 =>
 genK roundT rec (.lookup .i (.b false) false (.l 0) (.s s1)) k4000 (Env.put s4 (.b false) e) [v4002, v4001, v4000] H4000 fun v4003 H4003 k4003 =>
 (endK recD [.slot s4]) .ret (Env.put s4 v4003 (Env.put s4 (.b false) e)) H4003 k4003
theorem Tryz.cOk21 : (compFn Tryz.prog Tryz.f21).map (bodyK 21) = some Tryz.c21 := by kernel_rfl
def Tryz.c27 : FnK := fun rec recD args H => startK 1 args fun e =>
 newK [.sl0, (.i .i64 0)] H fun v2000 H2000 =>
 newK [(.i .i64 0), (.i .i64 0)] H2000 fun v2001 H2001 =>
 caK rec 46 [(Env.get s0 e)] H2001 fun v4000 H4000 =>
 exK 0 v4000 fun v4001 =>
 exK 1 v4000 fun v4002 =>
 stK 2 v4002 v2001 H4000 fun H4003 =>
 seqK (fun K5 =>
 faK 0 v2001 fun v7000 =>
 ldK false 1 v7000 H4003 fun v7001 =>
 binK .neq .no v7001 (.i .i64 0) fun v7002 =>
 condK v7002 (bdK [.sl0, (.i .i64 0)] [] fun v10000 =>
 ldK true 2 v2001 H4003 fun v10001 =>
 stK 2 v10000 v2000 H4003 fun H10002 =>
 boolK (and (again ⟨.load true 2 (.s s3), .none, []⟩ v10001 (Env.put s13 v7002 (Env.put s4 v4001 (Env.put s2 v2000 (Env.put s3 v2001 e)))) [v10000] H10002) true) (stK 2 v10001 v2001 H10002 fun H10003 =>
 K5 .ret (Env.put s13 v7002 (Env.put s4 v4001 (Env.put s2 v2000 (Env.put s3 v2001 e)))) H10003 (Ctl.mk [] .none)))
 (K5 .norm (Env.put s13 v7002 (Env.put s4 v4001 (Env.put s2 v2000 (Env.put s3 v2001 e)))) H4003 (Ctl.mk [] .none))) (fun k5 e5 H5 =>
 bdK [(.s []), .sl0, (.i .i64 0), (.i .i64 0), .sl0, (.i .i64 0)] [(0, 1, (Env.get s0 e5)), (1, 1, (Env.get s4 e5))] fun v7000 =>
 bxK v7000 H5 fun v7001 H7001 =>
 genK roundT rec (.mkFunc 47 [] [(.s s2), (.s s3)]) k5 (Env.put s5 v7001 e5) [] H7001 fun v9000 H9000 k9000 =>
 genK roundT rec (.defer (.l 0) []) k9000 (Env.put s5 v7001 e5) [v9000] H9000 fun v9001 H9001 k9001 =>
 caK rec 48 [v7001] H9001 fun v11000 H11000 =>
 genK roundT rec (.nilCheck (.s s5)) k9001 (Env.put s5 v7001 e5) [] H11000 fun v13000 H13000 k13000 =>
 faK 4 v13000 fun v13001 =>
 bdK [(.i .i64 0), (.i .i64 0)] [] fun v13002 =>
 caK rec 44 [v13001] H13000 fun v13003 H13003 =>
 stK 2 v13003 (Env.get s2 e5) H13003 fun H13004 =>
 stK 2 v13002 (Env.get s3 e5) H13004 fun H13005 =>
 (endK recD [.cell true 2 s2, .cell true 2 s3]) .ret (Env.put s5 v7001 e5) H13005 k13000) (endK recD [.cell true 2 s2, .cell true 2 s3])
theorem Tryz.cOk27 : (compFn Tryz.prog Tryz.f27).map (bodyK 27) = some Tryz.c27 := by kernel_rfl
def Tryz.c28 : FnK := fun rec recD args H => startK 1 args fun e =>
 bxK (Env.get s0 e) H fun v2000 H2000 =>
 seqK (fun K3 =>
 ldK true 4 v2000 H2000 fun v5000 =>
 caK rec 49 [v5000] H2000 fun v5001 H5001 =>
 unK .not v5001 fun v5002 =>
 condK v5002 (K3 .ret (Env.put s2 (.i .u8 32) (Env.put s5 v5002 (Env.put s1 v2000 (Env.put s2 (.i .u8 0) e)))) H5001 (Ctl.mk [] .none))
 (K3 .norm (Env.put s5 v5002 (Env.put s1 v2000 (Env.put s2 (.i .u8 0) e))) H5001 (Ctl.mk [] .none))) (fun k3 e3 H3 =>
 faK 3 (Env.get s1 e3) fun v5000 =>
 ldK false 1 v5000 H3 fun v5001 =>
 faK 3 (Env.get s1 e3) fun v5002 =>
 ldK false 1 v5002 H3 fun v5003 =>
 lnK .s H3 v5003 fun v5004 =>
 binK .sub .no v5004 (.i .i64 1) fun v5005 =>
 ixK .none v5001 v5005 fun v5006 =>
 (endK recD [.slot s2]) .ret (Env.put s2 v5006 e3) H3 k3) (endK recD [.slot s2])
theorem Tryz.cOk28 : (compFn Tryz.prog Tryz.f28).map (bodyK 28) = some Tryz.c28 := by kernel_rfl
def Tryz.c30 : FnK := fun rec recD args H => startK 1 args fun e =>
 genK roundT rec (.nilCheck (.s s0)) (Ctl.mk [] .none) (Env.put s2 .sl0 e) [] H fun v4000 H4000 k4000 =>
 faK 2 v4000 fun v4001 =>
 ldK false 1 v4001 H4000 fun v4002 =>
 caK rec 52 [v4002] H4000 fun v4003 H4003 =>
 (endK recD [.slot s2]) .ret (Env.put s2 v4003 (Env.put s2 .sl0 e)) H4003 k4000
theorem Tryz.cOk30 : (compFn Tryz.prog Tryz.f30).map (bodyK 30) = some Tryz.c30 := by kernel_rfl
def Tryz.c31 : FnK := fun rec recD args H => startK 1 args fun e =>
 genK roundT rec (.nilCheck (.s s0)) (Ctl.mk [] .none) (Env.put s2 (.i .i64 0) e) [] H fun v4000 H4000 k4000 =>
 faK 1 v4000 fun v4001 =>
 ldK false 1 v4001 H4000 fun v4002 =>
 lnK .sl H4000 v4002 fun v4003 =>
 (endK recD [.slot s2]) .ret (Env.put s2 v4003 (Env.put s2 (.i .i64 0) e)) H4000 k4000
theorem Tryz.cOk31 : (compFn Tryz.prog Tryz.f31).map (bodyK 31) = some Tryz.c31 := by kernel_rfl
def Tryz.c35 : FnK := fun rec recD args H => startK 1 args fun e =>
 bxK (Env.get s0 e) H fun v2000 H2000 =>
 newK [.sl0, (.i .i64 0)] H2000 fun v2001 H2001 =>
 faK 1 v2000 fun v4000 =>
 ldK false 1 v4000 H2001 fun v4001 =>
 bdK [.sl0, (.i .i64 0)] [(1, 1, v4001)] fun v4002 =>
 newK [.sl0, (.i .i64 0)] H2001 fun v4003 H4003 =>
 stK 2 v4002 v4003 H4003 fun H4004 =>
 seqK (fun K5 =>
 faK 0 v2000 fun v7000 =>
 ldK false 1 v7000 H4004 fun v7001 =>
 lnK .sl H4004 v7001 fun v7002 =>
 blockK 0 (fun K8 =>
 loopK (fun k9 e9 H9 K9 =>
 binK .lss .no (Env.get s12 e9) (Env.get s11 e9) fun v11000 =>
 seqK (fun K12 =>
 condK v11000 (K12 .norm (Env.put s13 v11000 e9) H9 k9)
 (K12 (.exit 0) (Env.put s13 v11000 e9) H9 k9)) (fun k12 e12 H12 =>
 seqK (fun K13 =>
 blockK 1 (fun K14 =>
 iaK .none 13 (Env.get s10 e12) (Env.get s12 e12) fun v16000 =>
 ldK true 13 v16000 H12 fun v16001 =>
 newK [(.i .i64 0), (.i .i64 0), (.i .i64 0), .sl0, (.s []), (.i .i64 0), (.s []), (.i .i64 0), (.s []), (.i .i64 0), (.i .i64 0), (.i .i64 0), .sl0] H12 fun v16002 H16002 =>
 stK 13 v16001 v16002 H16002 fun H16003 =>
 faK 3 v16002 fun v18000 =>
 ldK false 1 v18000 H16003 fun v18001 =>
 faK 12 v16002 fun v18002 =>
 ldK false 1 v18002 H16003 fun v18003 =>
 caK rec 59 [v18001] H16003 fun v18004 H18004 =>
 boolK (and (again ⟨.load false 1 (.l 0), .none, []⟩ v18003 (Env.put s5 v16002 e12) [v18002, v18001, v18000] H18004) true) (faK 3 v16002 fun v18005 =>
 caK rec 59 [v18003] H18004 fun v18006 H18006 =>
 stK 1 v18004 v18005 H18006 fun H18007 =>
 faK 12 v16002 fun v18008 =>
 stK 1 v18006 v18008 H18007 fun H18009 =>
 faK 0 (Env.get s3 e12) fun v19000 =>
 ldK false 1 v19000 H18009 fun v19001 =>
 ldK true 13 v16002 H18009 fun v19002 =>
 genK roundT rec (.buildSlice 1 13 [(.i .i64 0), (.i .i64 0), (.i .i64 0), .sl0, (.s []), (.i .i64 0), (.s []), (.i .i64 0), (.s []), (.i .i64 0), (.i .i64 0), (.i .i64 0), .sl0] [(0, (.l 0))]) k12 (Env.put s5 v16002 e12) [v19002, v19001, v19000] H18009 fun v19003 H19003 k19003 =>
 apK 13 [(.i .i64 0), (.i .i64 0), (.i .i64 0), .sl0, (.s []), (.i .i64 0), (.s []), (.i .i64 0), (.s []), (.i .i64 0), (.i .i64 0), (.i .i64 0), .sl0] H19003 v19001 v19003 fun v19004 H19004 =>
 faK 0 (Env.get s3 e12) fun v19005 =>
 stK 1 v19004 v19005 H19004 fun H19006 =>
 K14 .norm (Env.put s5 v16002 e12) H19006 k19003)) K13) (fun k13 e13 H13 =>
 binK .add .no (Env.get s12 e13) (.i .i64 1) fun v14000 =>
 K9 .norm (Env.put s12 v14000 e13) H13 k13) K9) K9) rounds K8 (Ctl.mk [] .none) (Env.put s10 v7001 (Env.put s11 v7002 (Env.put s12 (.i .i64 0) (Env.put s3 v4003 (Env.put s1 v2000 (Env.put s2 v2001 e)))))) H4004) K5) (fun k5 e5 H5 =>
 ldK true 2 (Env.get s3 e5) H5 fun v7000 =>
 stK 2 v7000 (Env.get s2 e5) H5 fun H7001 =>
 (endK recD [.cell true 2 s2]) .ret e5 H7001 k5) (endK recD [.cell true 2 s2])
theorem Tryz.cOk35 : (compFn Tryz.prog Tryz.f35).map (bodyK 35) = some Tryz.c35 := by kernel_rfl
def Tryz.c36 : FnK := fun rec recD args H => startK 1 args fun e =>
 bxK (Env.get s0 e) H fun v2000 H2000 =>
 newK [(.i .i64 0), (.i .i64 0)] H2000 fun v2001 H2001 =>
 seqK (fun K3 =>
 ldK true 2 v2000 H2001 fun v5000 =>
 caK rec 42 [v5000] H2001 fun v5001 H5001 =>
 binK .neq .no v5001 (.i .i64 0) fun v7000 =>
 condK v7000 (bdK [(.i .i64 0), (.i .i64 0)] [(0, 1, v5001)] fun v10000 =>
 stK 2 v10000 v2001 H5001 fun H10001 =>
 K3 .ret (Env.put s2 .p0 (Env.put s19 v7000 (Env.put s4 v5001 (Env.put s1 v2000 (Env.put s2 .p0 (Env.put s3 v2001 e)))))) H10001 (Ctl.mk [] .none))
 (K3 .norm (Env.put s19 v7000 (Env.put s4 v5001 (Env.put s1 v2000 (Env.put s2 .p0 (Env.put s3 v2001 e))))) H5001 (Ctl.mk [] .none))) (fun k3 e3 H3 =>
 ldK true 2 (Env.get s1 e3) H3 fun v5000 =>
 genK roundT rec (.mkMap .none) k3 e3 [v5000] H3 fun v5001 H5001 k5001 =>
 bdK [.sl0, (.i .i64 0), .sl0, .m0] [(0, 2, v5000), (3, 1, v5001)] fun v5002 =>
 bxK v5002 H5001 fun v5003 H5003 =>
 seqK (fun K6 =>
 faK 0 (Env.get s1 e3) fun v8000 =>
 ldK false 1 v8000 H5003 fun v8001 =>
 faK 1 (Env.get s1 e3) fun v8002 =>
 ldK false 1 v8002 H5003 fun v8003 =>
 iaK .none 13 v8001 v8003 fun v8004 =>
 faK 3 v8004 fun v8005 =>
 ldK false 1 v8005 H5003 fun v8006 =>
 lnK .sl H5003 v8006 fun v8007 =>
 blockK 0 (fun K9 =>
 loopK (fun k10 e10 H10 K10 =>
 binK .lss .no (Env.get s34 e10) (Env.get s33 e10) fun v12000 =>
 seqK (fun K13 =>
 condK v12000 (K13 .norm (Env.put s35 v12000 e10) H10 k10)
 (K13 (.exit 0) (Env.put s35 v12000 e10) H10 k10)) (fun k13 e13 H13 =>
 seqK (fun K14 =>
 blockK 1 (fun K15 =>
 iaK .none 1 (Env.get s32 e13) (Env.get s34 e13) fun v17000 =>
 ldK false 1 v17000 H13 fun v17001 =>
 newK [(.i .i64 0), (.i .i64 0)] H13 fun v19000 H19000 =>
 caK rec 60 [(Env.get s5 e13), v17001] H19000 fun v19001 H19001 =>
 stK 2 v19001 v19000 H19001 fun H19002 =>
 faK 0 v19000 fun v21000 =>
 ldK false 1 v21000 H19002 fun v21001 =>
 binK .neq .no v21001 (.i .i64 0) fun v21002 =>
 condK v21002 (ldK true 2 v19000 H19002 fun v24000 =>
 stK 2 v24000 (Env.get s3 e13) H19002 fun H24001 =>
 K15 .ret (Env.put s2 .p0 (Env.put s43 v21002 (Env.put s8 v19000 (Env.put s7 v17001 e13)))) H24001 k13)
 (K15 .norm (Env.put s43 v21002 (Env.put s8 v19000 (Env.put s7 v17001 e13))) H19002 k13)) K14) (fun k14 e14 H14 =>
 binK .add .no (Env.get s34 e14) (.i .i64 1) fun v15000 =>
 K10 .norm (Env.put s34 v15000 e14) H14 k14) K10) K10) rounds K9 k5001 (Env.put s32 v8006 (Env.put s33 v8007 (Env.put s34 (.i .i64 0) (Env.put s5 v5003 e3)))) H5003) K6) (fun k6 e6 H6 =>
 seqK (fun K7 =>
 bdK [(.i .i64 0), (.i .i64 0), (.i .i64 0), (.i .i64 0)] [(0, 1, (.i .i64 0)), (1, 1, (.i .i64 1)), (2, 1, (.i .i64 2)), (3, 1, (.i .i64 3))] fun v9000 =>
 blockK 2 (fun K10 =>
 loopK (fun k11 e11 H11 K11 =>
 binK .lss .no (Env.get s47 e11) (.i .i64 4) fun v13000 =>
 seqK (fun K14 =>
 condK v13000 (K14 .norm (Env.put s48 v13000 e11) H11 k11)
 (K14 (.exit 2) (Env.put s48 v13000 e11) H11 k11)) (fun k14 e14 H14 =>
 seqK (fun K15 =>
 blockK 3 (fun K16 =>
 ixK (.some (4, false, 1)) (Env.get s46 e14) (Env.get s47 e14) fun v18000 =>
 seqK (fun K19 =>
 genK roundT rec (.nilCheck (.s s5)) k14 (Env.put s10 v18000 e14) [] H14 fun v21000 H21000 k21000 =>
 faK 2 v21000 fun v21001 =>
 ldK false 1 v21001 H21000 fun v21002 =>
 lnK .sl H21000 v21002 fun v21003 =>
 blockK 4 (fun K22 =>
 loopK (fun k23 e23 H23 K23 =>
 binK .lss .no (Env.get s55 e23) (Env.get s54 e23) fun v25000 =>
 seqK (fun K26 =>
 condK v25000 (K26 .norm (Env.put s56 v25000 e23) H23 k23)
 (K26 (.exit 4) (Env.put s56 v25000 e23) H23 k23)) (fun k26 e26 H26 =>
 seqK (fun K27 =>
 blockK 5 (fun K28 =>
 iaK .none 1 (Env.get s53 e26) (Env.get s55 e26) fun v30000 =>
 ldK false 1 v30000 H26 fun v30001 =>
 genK roundT rec (.nilCheck (.s s5)) k26 (Env.put s12 v30001 e26) [] H26 fun v32000 H32000 k32000 =>
 faK 3 v32000 fun v32001 =>
 ldK false 1 v32001 H32000 fun v32002 =>
 genK roundT rec (.lookup .s .p0 false (.l 0) (.s s12)) k32000 (Env.put s12 v30001 e26) [v32002, v32001, v32000] H32000 fun v32003 H32003 k32003 =>
 newK [(.i .i64 0), (.i .i64 0)] H32003 fun v32004 H32004 =>
 caK rec 61 [(Env.get s5 e26), v32003, (Env.get s10 e26)] H32004 fun v32005 H32005 =>
 stK 2 v32005 v32004 H32005 fun H32006 =>
 faK 0 v32004 fun v34000 =>
 ldK false 1 v34000 H32006 fun v34001 =>
 binK .neq .no v34001 (.i .i64 0) fun v34002 =>
 condK v34002 (ldK true 2 v32004 H32006 fun v37000 =>
 stK 2 v37000 (Env.get s3 e26) H32006 fun H37001 =>
 K28 .ret (Env.put s2 .p0 (Env.put s70 v34002 (Env.put s13 v32004 (Env.put s12 v30001 e26)))) H37001 k32003)
 (K28 .norm (Env.put s70 v34002 (Env.put s13 v32004 (Env.put s12 v30001 e26))) H32006 k32003)) K27) (fun k27 e27 H27 =>
 binK .add .no (Env.get s55 e27) (.i .i64 1) fun v28000 =>
 K23 .norm (Env.put s55 v28000 e27) H27 k27) K23) K23) rounds K22 k21000 (Env.put s53 v21002 (Env.put s54 v21003 (Env.put s55 (.i .i64 0) (Env.put s10 v18000 e14)))) H21000) K19) (fun k19 e19 H19 =>
 newK [(.i .i64 0), (.i .i64 0)] H19 fun v21000 H21000 =>
 caK rec 62 [(Env.get s5 e19), (Env.get s10 e19)] H21000 fun v21001 H21001 =>
 stK 2 v21001 v21000 H21001 fun H21002 =>
 faK 0 v21000 fun v23000 =>
 ldK false 1 v23000 H21002 fun v23001 =>
 binK .neq .no v23001 (.i .i64 0) fun v23002 =>
 condK v23002 (ldK true 2 v21000 H21002 fun v26000 =>
 stK 2 v26000 (Env.get s3 e19) H21002 fun H26001 =>
 K16 .ret (Env.put s2 .p0 (Env.put s78 v23002 (Env.put s14 v21000 e19))) H26001 k19)
 (K16 .norm (Env.put s78 v23002 (Env.put s14 v21000 e19)) H21002 k19)) K16) K15) (fun k15 e15 H15 =>
 binK .add .no (Env.get s47 e15) (.i .i64 1) fun v16000 =>
 K11 .norm (Env.put s47 v16000 e15) H15 k15) K11) K11) rounds K10 k6 (Env.put s46 v9000 (Env.put s47 (.i .i64 0) e6)) H6) K7) (fun k7 e7 H7 =>
 seqK (fun K8 =>
 newK [(.i .i64 0), (.i .i64 0)] H7 fun v10000 H10000 =>
 caK rec 63 [(Env.get s5 e7)] H10000 fun v10001 H10001 =>
 stK 2 v10001 v10000 H10001 fun H10002 =>
 faK 0 v10000 fun v12000 =>
 ldK false 1 v12000 H10002 fun v12001 =>
 binK .neq .no v12001 (.i .i64 0) fun v12002 =>
 condK v12002 (ldK true 2 v10000 H10002 fun v15000 =>
 stK 2 v15000 (Env.get s3 e7) H10002 fun H15001 =>
 K8 .ret (Env.put s2 .p0 (Env.put s85 v12002 (Env.put s15 v10000 e7))) H15001 k7)
 (K8 .norm (Env.put s85 v12002 (Env.put s15 v10000 e7)) H10002 k7)) (fun k8 e8 H8 =>
 bdK [(.i .i64 0), (.i .i64 0)] [] fun v10000 =>
 stK 2 v10000 (Env.get s3 e8) H8 fun H10001 =>
 (endK recD [.slot s2, .cell true 2 s3]) .ret (Env.put s2 (Env.get s5 e8) e8) H10001 k8) (endK recD [.slot s2, .cell true 2 s3])) (endK recD [.slot s2, .cell true 2 s3])) (endK recD [.slot s2, .cell true 2 s3])) (endK recD [.slot s2, .cell true 2 s3])
theorem Tryz.cOk36 : (compFn Tryz.prog Tryz.f36).map (bodyK 36) = some Tryz.c36 := by kernel_rfl
def Tryz.c37 : FnK := fun rec recD args H => startK 2 args fun e =>
 genK roundT rec (.recover) (Ctl.mk [] .none) e [] H fun v2000 H2000 k2000 =>
 binK .neq .ifc v2000 .if0 fun v4000 =>
 condK v4000 (genK roundT rec (.tassert 92 (.ag [(.i .i64 0), (.i .i64 0)]) true (.s s2)) k2000 (Env.put s7 v4000 (Env.put s2 v2000 e)) [] H2000 fun v7000 H7000 k7000 =>
 exK 0 v7000 fun v7001 =>
 exK 1 v7000 fun v7002 =>
 newK [(.i .i64 0), (.i .i64 0)] H7000 fun v7003 H7003 =>
 stK 2 v7001 v7003 H7003 fun H7004 =>
 seqK (fun K8 =>
 unK .not v7002 fun v10000 =>
 condK v10000 (genK roundT rec (.panic (.s s2)) k7000 (Env.put s14 v10000 (Env.put s3 v7003 (Env.put s4 v7002 (Env.put s7 v4000 (Env.put s2 v2000 e))))) [] H7004 fun v12000 H12000 k12000 =>
 K8 .norm (Env.put s14 v10000 (Env.put s3 v7003 (Env.put s4 v7002 (Env.put s7 v4000 (Env.put s2 v2000 e))))) H12000 k12000)
 (K8 .norm (Env.put s14 v10000 (Env.put s3 v7003 (Env.put s4 v7002 (Env.put s7 v4000 (Env.put s2 v2000 e))))) H7004 k7000)) (fun k8 e8 H8 =>
 faK 0 (Env.get s3 e8) fun v9000 =>
 ldK true 2 v9000 H8 fun v9001 =>
 stK 1 .p0 (Env.get s0 e8) H8 fun H9002 =>
 boolK (and (again ⟨.load true 2 (.l 0), .none, []⟩ v9001 e8 [v9000] H9002) true) (stK 2 v9001 (Env.get s1 e8) H9002 fun H9003 =>
 (endK recD []) .norm e8 H9003 k8)) (endK recD []))
 ((endK recD []) .norm (Env.put s7 v4000 (Env.put s2 v2000 e)) H2000 k2000)
theorem Tryz.cOk37 : (compFn Tryz.prog Tryz.f37).map (bodyK 37) = some Tryz.c37 := by kernel_rfl
def Tryz.c40 : FnK := fun rec recD args H => startK 2 args fun e =>
 bxK (Env.get s1 e) H fun v2000 H2000 =>
 genK roundT rec (.nilCheck (.s s0)) (Ctl.mk [] .none) (Env.put s3 v2000 e) [] H2000 fun v4000 H4000 k4000 =>
 faK 0 v4000 fun v4001 =>
 ldK true 2 v4001 H4000 fun v4002 =>
 faK 2 v2000 fun v4003 =>
 ldK false 1 v4003 H4000 fun v4004 =>
 newK [(.i .i64 0), (.i .i64 0)] H4000 fun v4005 H4005 =>
 caK rec 66 [v4002, v4004] H4005 fun v4006 H4006 =>
 exK 0 v4006 fun v4007 =>
 exK 1 v4006 fun v4008 =>
 stK 2 v4008 v4005 H4006 fun H4009 =>
 seqK (fun K5 =>
 faK 0 v4005 fun v7000 =>
 ldK false 1 v7000 H4009 fun v7001 =>
 binK .neq .no v7001 (.i .i64 0) fun v7002 =>
 condK v7002 (ldK true 2 v4005 H4009 fun v9000 =>
 bdK [(.i .i64 0), (.i .i64 0)] [(0, 2, v9000)] fun v9001 =>
 genK roundT rec (.mkIface 92 (.l 0)) k4000 (Env.put s20 v7002 (Env.put s5 v4005 (Env.put s4 v4007 (Env.put s3 v2000 e)))) [v9001, v9000] H4009 fun v9002 H9002 k9002 =>
 genK roundT rec (.panic (.l 0)) k9002 (Env.put s20 v7002 (Env.put s5 v4005 (Env.put s4 v4007 (Env.put s3 v2000 e)))) [v9002, v9001, v9000] H9002 fun v9003 H9003 k9003 =>
 K5 .norm (Env.put s20 v7002 (Env.put s5 v4005 (Env.put s4 v4007 (Env.put s3 v2000 e)))) H9003 k9003)
 (K5 .norm (Env.put s20 v7002 (Env.put s5 v4005 (Env.put s4 v4007 (Env.put s3 v2000 e)))) H4009 k4000)) (fun k5 e5 H5 =>
 seqK (fun K6 =>
 genK roundT rec (.nilCheck (.s s0)) k5 e5 [] H5 fun v8000 H8000 k8000 =>
 faK 0 v8000 fun v8001 =>
 ldK true 2 v8001 H8000 fun v8002 =>
 faK 2 (Env.get s3 e5) fun v8003 =>
 ldK false 1 v8003 H8000 fun v8004 =>
 caK rec 67 [v8002, v8004] H8000 fun v8005 H8005 =>
 lnK .sl H8005 v8005 fun v8006 =>
 blockK 0 (fun K9 =>
 loopK (fun k10 e10 H10 K10 =>
 binK .lss .no (Env.get s32 e10) (Env.get s31 e10) fun v12000 =>
 seqK (fun K13 =>
 condK v12000 (K13 .norm (Env.put s33 v12000 e10) H10 k10)
 (K13 (.exit 0) (Env.put s33 v12000 e10) H10 k10)) (fun k13 e13 H13 =>
 seqK (fun K14 =>
 blockK 1 (fun K15 =>
 iaK .none 1 (Env.get s30 e13) (Env.get s32 e13) fun v17000 =>
 ldK false 1 v17000 H13 fun v17001 =>
 genK roundT rec (.nilCheck (.s s0)) k13 (Env.put s7 v17001 e13) [] H13 fun v18000 H18000 k18000 =>
 faK 4 v18000 fun v18001 =>
 ldK false 1 v18001 H18000 fun v18002 =>
 genK roundT rec (.nilCheck (.s s0)) k18000 (Env.put s7 v17001 e13) [v18002, v18001, v18000] H18000 fun v18003 H18003 k18003 =>
 faK 3 v18003 fun v18004 =>
 ldK false 1 v18004 H18003 fun v18005 =>
 genK roundT rec (.nilCheck (.s s0)) k18003 (Env.put s7 v17001 e13) [v18005, v18004, v18003, v18002, v18001, v18000] H18003 fun v18006 H18006 k18006 =>
 faK 6 v18006 fun v18007 =>
 ldK false 1 v18007 H18006 fun v18008 =>
 lnK .sl H18006 v18008 fun v18009 =>
 caK rec 68 [(Env.get s4 e13), v17001] H18006 fun v18010 H18010 =>
 boolK (and (again ⟨.len .sl (.l 0), .none, []⟩ v18009 (Env.put s7 v17001 e13) [v18008, v18007, v18006, v18005, v18004, v18003, v18002, v18001, v18000] H18010) (and (again ⟨.load false 1 (.l 0), .none, []⟩ v18008 (Env.put s7 v17001 e13) [v18007, v18006, v18005, v18004, v18003, v18002, v18001, v18000] H18010) (and (again ⟨.load false 1 (.l 0), .none, []⟩ v18005 (Env.put s7 v17001 e13) [v18004, v18003, v18002, v18001, v18000] H18010) (and (again ⟨.load false 1 (.l 0), .none, []⟩ v18002 (Env.put s7 v17001 e13) [v18001, v18000] H18010) true)))) (iaK .none 1 v18002 v17001 fun v18011 =>
 stK 1 v18009 v18011 H18010 fun H18012 =>
 iaK .none 1 v18005 v17001 fun v18013 =>
 stK 1 v18010 v18013 H18012 fun H18014 =>
 K15 .norm (Env.put s7 v17001 e13) H18014 k18006)) K14) (fun k14 e14 H14 =>
 binK .add .no (Env.get s32 e14) (.i .i64 1) fun v15000 =>
 K10 .norm (Env.put s32 v15000 e14) H14 k14) K10) K10) rounds K9 k8000 (Env.put s30 v8005 (Env.put s31 v8006 (Env.put s32 (.i .i64 0) e5))) H8005) K6) (fun k6 e6 H6 =>
 genK roundT rec (.nilCheck (.s s0)) k6 e6 [] H6 fun v7000 H7000 k7000 =>
 faK 6 v7000 fun v7001 =>
 ldK false 1 v7001 H7000 fun v7002 =>
 faK 0 (Env.get s3 e6) fun v7003 =>
 ldK false 1 v7003 H7000 fun v7004 =>
 faK 2 (Env.get s3 e6) fun v7005 =>
 ldK false 1 v7005 H7000 fun v7006 =>
 genK roundT rec (.nilCheck (.s s0)) k7000 e6 [v7006, v7005, v7004, v7003, v7002, v7001, v7000] H7000 fun v7007 H7007 k7007 =>
 faK 0 v7007 fun v7008 =>
 faK 0 v7008 fun v7009 =>
 ldK false 1 v7009 H7007 fun v7010 =>
 faK 2 (Env.get s3 e6) fun v7011 =>
 ldK false 1 v7011 H7007 fun v7012 =>
 iaK .none 13 v7010 v7012 fun v7013 =>
 faK 0 v7013 fun v7014 =>
 ldK false 1 v7014 H7007 fun v7015 =>
 binK .eql .no v7015 (.i .i64 5) fun v7016 =>
 faK 3 (Env.get s3 e6) fun v7017 =>
 ldK true 4 v7017 H7007 fun v7018 =>
 bdK [(.s []), (.i .i64 0), (.b false), (.i .i64 0), (.s []), (.i .i64 0), (.s []), .p0] [(0, 1, v7004), (1, 1, v7006), (2, 1, v7016), (3, 4, v7018), (7, 1, (Env.get s4 e6))] fun v7019 =>
 genK roundT rec (.buildSlice 1 8 [(.s []), (.i .i64 0), (.b false), (.i .i64 0), (.s []), (.i .i64 0), (.s []), .p0] [(0, (.l 0))]) k7007 e6 [v7019, v7018, v7017, v7016, v7015, v7014, v7013, v7012, v7011, v7010, v7009, v7008, v7007, v7006, v7005, v7004, v7003, v7002, v7001, v7000] H7007 fun v7020 H7020 k7020 =>
 apK 8 [(.s []), (.i .i64 0), (.b false), (.i .i64 0), (.s []), (.i .i64 0), (.s []), .p0] H7020 v7002 v7020 fun v7021 H7021 =>
 genK roundT rec (.nilCheck (.s s0)) k7020 e6 [v7021, v7020, v7019, v7018, v7017, v7016, v7015, v7014, v7013, v7012, v7011, v7010, v7009, v7008, v7007, v7006, v7005, v7004, v7003, v7002, v7001, v7000] H7021 fun v7022 H7022 k7022 =>
 faK 6 v7022 fun v7023 =>
 stK 1 v7021 v7023 H7022 fun H7024 =>
 (endK recD []) .norm e6 H7024 k7022) (endK recD [])) (endK recD [])
theorem Tryz.cOk40 : (compFn Tryz.prog Tryz.f40).map (bodyK 40) = some Tryz.c40 := by kernel_rfl
def Tryz.c41 : FnK := fun rec recD args H => startK 1 args fun e =>
 genK roundT rec (.nilCheck (.s s0)) (Ctl.mk [] .none) e [] H fun v2000 H2000 k2000 =>
 faK 0 v2000 fun v2001 =>
 ldK false 1 v2001 H2000 fun v2002 =>
 genK roundT rec (.nilCheck (.l 0)) k2000 e [v2002, v2001, v2000] H2000 fun v2003 H2003 k2003 =>
 faK 6 v2003 fun v2004 =>
 ldK false 1 v2004 H2003 fun v2005 =>
 genK roundT rec (.nilCheck (.s s0)) k2003 e [v2005, v2004, v2003, v2002, v2001, v2000] H2003 fun v2006 H2006 k2006 =>
 faK 1 v2006 fun v2007 =>
 ldK false 1 v2007 H2006 fun v2008 =>
 iaK .none 8 v2005 v2008 fun v2009 =>
 ldK true 8 v2009 H2006 fun v2010 =>
 newK [(.s []), (.i .i64 0), (.b false), (.i .i64 0), (.s []), (.i .i64 0), (.s []), .p0] H2006 fun v2011 H2011 =>
 stK 8 v2010 v2011 H2011 fun H2012 =>
 genK roundT rec (.nilCheck (.s s0)) k2006 (Env.put s2 v2011 e) [] H2012 fun v4000 H4000 k4000 =>
 faK 0 v4000 fun v4001 =>
 ldK false 1 v4001 H4000 fun v4002 =>
 genK roundT rec (.nilCheck (.l 0)) k4000 (Env.put s2 v2011 e) [v4002, v4001, v4000] H4000 fun v4003 H4003 k4003 =>
 faK 0 v4003 fun v4004 =>
 faK 0 v4004 fun v4005 =>
 ldK false 1 v4005 H4003 fun v4006 =>
 faK 1 v2011 fun v4007 =>
 ldK false 1 v4007 H4003 fun v4008 =>
 iaK .none 13 v4006 v4008 fun v4009 =>
 faK 3 v4009 fun v4010 =>
 ldK false 1 v4010 H4003 fun v4011 =>
 seqK (fun K5 =>
 lnK .sl H4003 v4011 fun v7000 =>
 binK .sub .no v7000 (.i .i64 1) fun v7001 =>
 slK (.some 1) v4011 .none (.some v7001) .none fun v7002 =>
 lnK .sl H4003 v7002 fun v7003 =>
 blockK 0 (fun K8 =>
 loopK (fun k9 e9 H9 K9 =>
 binK .lss .no (Env.get s42 e9) (Env.get s41 e9) fun v11000 =>
 seqK (fun K12 =>
 condK v11000 (K12 .norm (Env.put s43 v11000 e9) H9 k9)
 (K12 (.exit 0) (Env.put s43 v11000 e9) H9 k9)) (fun k12 e12 H12 =>
 seqK (fun K13 =>
 blockK 1 (fun K14 =>
 iaK .none 1 (Env.get s40 e12) (Env.get s42 e12) fun v16000 =>
 ldK false 1 v16000 H12 fun v16001 =>
 caK rec 69 [(Env.get s0 e12), v16001] H12 fun v17000 H17000 =>
 K14 .norm (Env.put s5 v16001 e12) H17000 k12) K13) (fun k13 e13 H13 =>
 binK .add .no (Env.get s42 e13) (.i .i64 1) fun v14000 =>
 K9 .norm (Env.put s42 v14000 e13) H13 k13) K9) K9) rounds K8 k4003 (Env.put s40 v7002 (Env.put s41 v7003 (Env.put s42 (.i .i64 0) (Env.put s3 v4011 (Env.put s2 v2011 e))))) H4003) K5) (fun k5 e5 H5 =>
 genK roundT rec (.nilCheck (.s s0)) k5 e5 [] H5 fun v7000 H7000 k7000 =>
 faK 0 v7000 fun v7001 =>
 ldK false 1 v7001 H7000 fun v7002 =>
 genK roundT rec (.nilCheck (.l 0)) k7000 e5 [v7002, v7001, v7000] H7000 fun v7003 H7003 k7003 =>
 faK 0 v7003 fun v7004 =>
 faK 0 v7004 fun v7005 =>
 ldK false 1 v7005 H7003 fun v7006 =>
 lnK .sl H7003 (Env.get s3 e5) fun v7007 =>
 binK .sub .no v7007 (.i .i64 1) fun v7008 =>
 iaK .none 1 (Env.get s3 e5) v7008 fun v7009 =>
 ldK false 1 v7009 H7003 fun v7010 =>
 iaK .none 13 v7006 v7010 fun v7011 =>
 ldK true 13 v7011 H7003 fun v7012 =>
 newK [(.i .i64 0), (.i .i64 0), (.i .i64 0), .sl0, (.s []), (.i .i64 0), (.s []), (.i .i64 0), (.s []), (.i .i64 0), (.i .i64 0), (.i .i64 0), .sl0] H7003 fun v7013 H7013 =>
 stK 13 v7012 v7013 H7013 fun H7014 =>
 seqK (fun K10 =>
 faK 2 (Env.get s2 e5) fun v12000 =>
 ldK false 1 v12000 H7014 fun v12001 =>
 condK v12001 (ldK true 8 (Env.get s2 e5) H7014 fun v14000 =>
 ldK true 13 v7013 H7014 fun v14001 =>
 caK rec 70 [(Env.get s0 e5), v14000, v14001] H7014 fun v14002 H14002 =>
 K10 .norm (Env.put s7 v14002 (Env.put s67 v12001 (Env.put s7 (.i .i64 (-1)) (Env.put s6 v7013 e5)))) H14002 k7003)
 (K10 .norm (Env.put s67 v12001 (Env.put s7 (.i .i64 (-1)) (Env.put s6 v7013 e5))) H7014 k7003)) (fun k10 e10 H10 =>
 faK 3 (Env.get s6 e10) fun v12000 =>
 ldK false 1 v12000 H10 fun v12001 =>
 lnK .sl H10 v12001 fun v12002 =>
 blockK 2 (fun K13 =>
 loopK (fun k14 e14 H14 K14 =>
 binK .lss .no (Env.get s75 e14) (Env.get s74 e14) fun v16000 =>
 seqK (fun K17 =>
 condK v16000 (K17 .norm (Env.put s76 v16000 e14) H14 k14)
 (K17 (.exit 2) (Env.put s76 v16000 e14) H14 k14)) (fun k17 e17 H17 =>
 seqK (fun K18 =>
 blockK 3 (fun K19 =>
 iaK .none 1 (Env.get s73 e17) (Env.get s75 e17) fun v21000 =>
 ldK false 1 v21000 H17 fun v21001 =>
 seqK (fun K22 =>
 binK .eql .no (Env.get s75 e17) (.i .i64 0) fun v24000 =>
 gdK v24000 true (fun R24001 => R24001 v21001 H17 k17) H17 k17 fun v24001 H24001 k24001 =>
 gdK v24000 true (fun R24002 => R24002 (Env.get s7 e17) H24001 k24001) H24001 k24001 fun v24002 H24002 k24002 =>
 gdK v24000 true (fun R24003 => binK .eql .no v24001 v24002 fun v24003 =>
 R24003 v24003 H24002 k24002) H24002 k24002 fun v24003 H24003 k24003 =>
 pkK v24000 v24003 (.b false) fun v24004 =>
 condK v24004 (K22 (.exit 3) (Env.put s86 v24004 (Env.put s8 (Env.get s75 e17) (Env.put s9 v21001 e17))) H24003 k24003)
 (K22 .norm (Env.put s86 v24004 (Env.put s8 (Env.get s75 e17) (Env.put s9 v21001 e17))) H24003 k24003)) (fun k22 e22 H22 =>
 caK rec 71 [(Env.get s0 e22), (Env.get s9 e22)] H22 fun v23000 H23000 =>
 K19 .norm e22 H23000 k22) K19) K18) (fun k18 e18 H18 =>
 binK .add .no (Env.get s75 e18) (.i .i64 1) fun v19000 =>
 K14 .norm (Env.put s75 v19000 e18) H18 k18) K14) K14) rounds K13 k10 (Env.put s73 v12001 (Env.put s74 v12002 (Env.put s75 (.i .i64 0) e10))) H10) (endK recD [])) (endK recD [])) (endK recD [])
theorem Tryz.cOk41 : (compFn Tryz.prog Tryz.f41).map (bodyK 41) = some Tryz.c41 := by kernel_rfl
def Tryz.c42 : FnK := fun rec recD args H => startK 1 args fun e =>
 bxK (Env.get s0 e) H fun v2000 H2000 =>
 seqK (fun K3 =>
 faK 0 v2000 fun v5000 =>
 ldK false 1 v5000 H2000 fun v5001 =>
 lnK .sl H2000 v5001 fun v5002 =>
 binK .gtr .no v5002 (.i .i64 16384) fun v5003 =>
 condK v5003 (K3 .ret (Env.put s2 (.i .i64 2) (Env.put s14 v5003 (Env.put s1 v2000 (Env.put s2 (.i .i64 0) e)))) H2000 (Ctl.mk [] .none))
 (K3 .norm (Env.put s14 v5003 (Env.put s1 v2000 (Env.put s2 (.i .i64 0) e))) H2000 (Ctl.mk [] .none))) (fun k3 e3 H3 =>
 seqK (fun K4 =>
 faK 0 (Env.get s1 e3) fun v6000 =>
 ldK false 1 v6000 H3 fun v6001 =>
 lnK .sl H3 v6001 fun v6002 =>
 binK .eql .no v6002 (.i .i64 0) fun v6003 =>
 gdK v6003 false (fun R6004 => faK 1 (Env.get s1 e3) fun v6004 =>
 R6004 v6004 H3 k3) H3 k3 fun v6004 H6004 k6004 =>
 gdK v6003 false (fun R6005 => ldK false 1 v6004 H6004 fun v6005 =>
 R6005 v6005 H6004 k6004) H6004 k6004 fun v6005 H6005 k6005 =>
 gdK v6003 false (fun R6006 => faK 0 (Env.get s1 e3) fun v6006 =>
 R6006 v6006 H6005 k6005) H6005 k6005 fun v6006 H6006 k6006 =>
 gdK v6003 false (fun R6007 => ldK false 1 v6006 H6006 fun v6007 =>
 R6007 v6007 H6006 k6006) H6006 k6006 fun v6007 H6007 k6007 =>
 gdK v6003 false (fun R6008 => lnK .sl H6007 v6007 fun v6008 =>
 R6008 v6008 H6007 k6007) H6007 k6007 fun v6008 H6008 k6008 =>
 gdK v6003 false (fun R6009 => binK .sub .no v6008 (.i .i64 1) fun v6009 =>
 R6009 v6009 H6008 k6008) H6008 k6008 fun v6009 H6009 k6009 =>
 gdK v6003 false (fun R6010 => binK .neq .no v6005 v6009 fun v6010 =>
 R6010 v6010 H6009 k6009) H6009 k6009 fun v6010 H6010 k6010 =>
 pkK v6003 (.b true) v6010 fun v6011 =>
 gdK v6011 false (fun R6012 => faK 0 (Env.get s1 e3) fun v6012 =>
 R6012 v6012 H6010 k6010) H6010 k6010 fun v6012 H6012 k6012 =>
 gdK v6011 false (fun R6013 => ldK false 1 v6012 H6012 fun v6013 =>
 R6013 v6013 H6012 k6012) H6012 k6012 fun v6013 H6013 k6013 =>
 gdK v6011 false (fun R6014 => faK 1 (Env.get s1 e3) fun v6014 =>
 R6014 v6014 H6013 k6013) H6013 k6013 fun v6014 H6014 k6014 =>
 gdK v6011 false (fun R6015 => ldK false 1 v6014 H6014 fun v6015 =>
 R6015 v6015 H6014 k6014) H6014 k6014 fun v6015 H6015 k6015 =>
 gdK v6011 false (fun R6016 => iaK .none 13 v6013 v6015 fun v6016 =>
 R6016 v6016 H6015 k6015) H6015 k6015 fun v6016 H6016 k6016 =>
 gdK v6011 false (fun R6017 => faK 0 v6016 fun v6017 =>
 R6017 v6017 H6016 k6016) H6016 k6016 fun v6017 H6017 k6017 =>
 gdK v6011 false (fun R6018 => ldK false 1 v6017 H6017 fun v6018 =>
 R6018 v6018 H6017 k6017) H6017 k6017 fun v6018 H6018 k6018 =>
 gdK v6011 false (fun R6019 => binK .neq .no v6018 (.i .i64 1) fun v6019 =>
 R6019 v6019 H6018 k6018) H6018 k6018 fun v6019 H6019 k6019 =>
 pkK v6011 (.b true) v6019 fun v6020 =>
 condK v6020 (K4 .ret (Env.put s2 (.i .i64 5) (Env.put s37 v6020 e3)) H6019 k6019)
 (K4 .norm (Env.put s37 v6020 e3) H6019 k6019)) (fun k4 e4 H4 =>
 faK 0 (Env.get s1 e4) fun v6000 =>
 ldK false 1 v6000 H4 fun v6001 =>
 lnK .sl H4 v6001 fun v6002 =>
 genK roundT rec (.mkSlice 1 [(.b false)] 1 (.l 0) (.l 0)) k4 e4 [v6002, v6001, v6000] H4 fun v6003 H6003 k6003 =>
 seqK (fun K7 =>
 faK 0 (Env.get s1 e4) fun v9000 =>
 ldK false 1 v9000 H6003 fun v9001 =>
 lnK .sl H6003 v9001 fun v9002 =>
 blockK 0 (fun K10 =>
 loopK (fun k11 e11 H11 K11 =>
 binK .lss .no (Env.get s45 e11) (Env.get s44 e11) fun v13000 =>
 seqK (fun K14 =>
 condK v13000 (K14 .norm (Env.put s46 v13000 e11) H11 k11)
 (K14 (.exit 0) (Env.put s46 v13000 e11) H11 k11)) (fun k14 e14 H14 =>
 seqK (fun K15 =>
 blockK 1 (fun K16 =>
 iaK .none 13 (Env.get s43 e14) (Env.get s45 e14) fun v18000 =>
 ldK true 13 v18000 H14 fun v18001 =>
 newK [(.i .i64 0), (.i .i64 0), (.i .i64 0), .sl0, (.s []), (.i .i64 0), (.s []), (.i .i64 0), (.s []), (.i .i64 0), (.i .i64 0), (.i .i64 0), .sl0] H14 fun v18002 H18002 =>
 stK 13 v18001 v18002 H18002 fun H18003 =>
 faK 0 v18002 fun v20000 =>
 ldK false 1 v20000 H18003 fun v20001 =>
 newK [(.s []), (.i .i64 0), (.i .i64 0), (.b false), (.b false)] H18003 fun v20002 H20002 =>
 caK rec 72 [v20001] H20002 fun v20003 H20003 =>
 stK 5 v20003 v20002 H20003 fun H20004 =>
 seqK (fun K21 =>
 blockK 2 (fun K22 =>
 faK 0 v20002 fun v24000 =>
 ldK false 1 v24000 H20004 fun v24001 =>
 binK .eql .no v24001 (.s []) fun v24002 =>
 condK v24002 (K22 .ret (Env.put s2 (.i .i64 3) (Env.put s53 v24002 (Env.put s6 v20002 (Env.put s5 v18002 (Env.put s4 (Env.get s45 e14) e14))))) H20004 k14)
 (faK 3 v18002 fun v27000 =>
 ldK false 1 v27000 H20004 fun v27001 =>
 lnK .sl H20004 v27001 fun v27002 =>
 faK 1 v20002 fun v27003 =>
 ldK false 1 v27003 H20004 fun v27004 =>
 binK .lss .no v27002 v27004 fun v27005 =>
 gdK v27005 false (fun R27006 => faK 2 v20002 fun v27006 =>
 R27006 v27006 H20004 k14) H20004 k14 fun v27006 H27006 k27006 =>
 gdK v27005 false (fun R27007 => ldK false 1 v27006 H27006 fun v27007 =>
 R27007 v27007 H27006 k27006) H27006 k27006 fun v27007 H27007 k27007 =>
 gdK v27005 false (fun R27008 => binK .geq .no v27007 (.i .i64 0) fun v27008 =>
 R27008 v27008 H27007 k27007) H27007 k27007 fun v27008 H27008 k27008 =>
 gdK v27005 false (fun R27009 => R27009 v27008 H27008 k27008) H27008 k27008 fun v27009 H27009 k27009 =>
 gdK v27009 true (fun R27010 => faK 3 v18002 fun v27010 =>
 R27010 v27010 H27009 k27009) H27009 k27009 fun v27010 H27010 k27010 =>
 gdK v27009 true (fun R27011 => ldK false 1 v27010 H27010 fun v27011 =>
 R27011 v27011 H27010 k27010) H27010 k27010 fun v27011 H27011 k27011 =>
 gdK v27009 true (fun R27012 => lnK .sl H27011 v27011 fun v27012 =>
 R27012 v27012 H27011 k27011) H27011 k27011 fun v27012 H27012 k27012 =>
 gdK v27009 true (fun R27013 => faK 2 v20002 fun v27013 =>
 R27013 v27013 H27012 k27012) H27012 k27012 fun v27013 H27013 k27013 =>
 gdK v27009 true (fun R27014 => ldK false 1 v27013 H27013 fun v27014 =>
 R27014 v27014 H27013 k27013) H27013 k27013 fun v27014 H27014 k27014 =>
 gdK v27009 true (fun R27015 => binK .gtr .no v27012 v27014 fun v27015 =>
 R27015 v27015 H27014 k27014) H27014 k27014 fun v27015 H27015 k27015 =>
 gdK v27005 false (fun R27016 => pkK v27009 v27015 (.b false) fun v27016 =>
 R27016 v27016 H27015 k27015) H27015 k27015 fun v27016 H27016 k27016 =>
 pkK v27005 (.b true) v27016 fun v27017 =>
 condK v27017 (K22 .ret (Env.put s2 (.i .i64 131) (Env.put s57 v27017 (Env.put s53 v24002 (Env.put s6 v20002 (Env.put s5 v18002 (Env.put s4 (Env.get s45 e14) e14)))))) H27016 k27016)
 (seqK (fun K29 =>
 faK 3 v20002 fun v31000 =>
 ldK false 1 v31000 H27016 fun v31001 =>
 unK .not v31001 fun v31002 =>
 gdK v31002 true (fun R31003 => faK 4 v18002 fun v31003 =>
 R31003 v31003 H27016 k27016) H27016 k27016 fun v31003 H31003 k31003 =>
 gdK v31002 true (fun R31004 => ldK false 1 v31003 H31003 fun v31004 =>
 R31004 v31004 H31003 k31003) H31003 k31003 fun v31004 H31004 k31004 =>
 gdK v31002 true (fun R31005 => binK .neq .no v31004 (.s []) fun v31005 =>
 R31005 v31005 H31004 k31004) H31004 k31004 fun v31005 H31005 k31005 =>
 pkK v31002 v31005 (.b false) fun v31006 =>
 condK v31006 (K29 .norm (Env.put s77 v31006 (Env.put s57 v27017 (Env.put s53 v24002 (Env.put s6 v20002 (Env.put s5 v18002 (Env.put s4 (Env.get s45 e14) e14)))))) H31005 k31005)
 (faK 4 v20002 fun v33000 =>
 ldK false 1 v33000 H31005 fun v33001 =>
 faK 5 v18002 fun v33002 =>
 ldK true 4 v33002 H31005 fun v33003 =>
 caK rec 73 [v33003] H31005 fun v33004 H33004 =>
 boolK (and (again ⟨.load false 1 (.l 0), .none, []⟩ v33001 (Env.put s77 v31006 (Env.put s57 v27017 (Env.put s53 v24002 (Env.put s6 v20002 (Env.put s5 v18002 (Env.put s4 (Env.get s45 e14) e14)))))) [v33000] H33004) true) (binK .neq .b v33001 v33004 fun v33005 =>
 gdK v33005 false (fun R33006 => faK 4 v20002 fun v33006 =>
 R33006 v33006 H33004 k31005) H33004 k31005 fun v33006 H33006 k33006 =>
 gdK v33005 false (fun R33007 => ldK false 1 v33006 H33006 fun v33007 =>
 R33007 v33007 H33006 k33006) H33006 k33006 fun v33007 H33007 k33007 =>
 gdK v33005 false (fun R33008 => unK .not v33007 fun v33008 =>
 R33008 v33008 H33007 k33007) H33007 k33007 fun v33008 H33008 k33008 =>
 gdK v33005 false (fun R33009 => R33009 v33008 H33008 k33008) H33008 k33008 fun v33009 H33009 k33009 =>
 gdK v33009 true (fun R33010 => faK 5 v18002 fun v33010 =>
 R33010 v33010 H33009 k33009) H33009 k33009 fun v33010 H33010 k33010 =>
 gdK v33009 true (fun R33011 => ldK true 4 v33010 H33010 fun v33011 =>
 R33011 v33011 H33010 k33010) H33010 k33010 fun v33011 H33011 k33011 =>
 gdK v33009 true (fun R33012 => bdK [(.i .i64 0), (.s []), (.i .i64 0), (.s [])] [] fun v33012 =>
 R33012 v33012 H33011 k33011) H33011 k33011 fun v33012 H33012 k33012 =>
 gdK v33009 true (fun R33013 => binK .neq (.flat [(0, .i), (1, .s), (2, .i), (3, .s)]) v33011 v33012 fun v33013 =>
 R33013 v33013 H33012 k33012) H33012 k33012 fun v33013 H33013 k33013 =>
 gdK v33005 false (fun R33014 => pkK v33009 v33013 (.b false) fun v33014 =>
 R33014 v33014 H33013 k33013) H33013 k33013 fun v33014 H33014 k33014 =>
 pkK v33005 (.b true) v33014 fun v33015 =>
 K29 .norm (Env.put s77 v33015 (Env.put s77 v31006 (Env.put s57 v27017 (Env.put s53 v24002 (Env.put s6 v20002 (Env.put s5 v18002 (Env.put s4 (Env.get s45 e14) e14))))))) H33014 k33014))) (fun k29 e29 H29 =>
 condK (Env.get s77 e29) (K22 .ret (Env.put s2 (.i .i64 5) e29) H29 k29)
 (K22 .norm e29 H29 k29)) K22))) K21) (fun k21 e21 H21 =>
 faK 3 (Env.get s5 e21) fun v23000 =>
 ldK false 1 v23000 H21 fun v23001 =>
 lnK .sl H21 v23001 fun v23002 =>
 blockK 3 (fun K24 =>
 loopK (fun k25 e25 H25 K25 =>
 binK .lss .no (Env.get s106 e25) (Env.get s105 e25) fun v27000 =>
 seqK (fun K28 =>
 condK v27000 (K28 .norm (Env.put s107 v27000 e25) H25 k25)
 (K28 (.exit 3) (Env.put s107 v27000 e25) H25 k25)) (fun k28 e28 H28 =>
 seqK (fun K29 =>
 blockK 4 (fun K30 =>
 iaK .none 1 (Env.get s104 e28) (Env.get s106 e28) fun v32000 =>
 ldK false 1 v32000 H28 fun v32001 =>
 seqK (fun K33 =>
 binK .lss .no v32001 (.i .i64 0) fun v35000 =>
 gdK v35000 false (fun R35001 => R35001 v32001 H28 k28) H28 k28 fun v35001 H35001 k35001 =>
 gdK v35000 false (fun R35002 => R35002 (Env.get s4 e28) H35001 k35001) H35001 k35001 fun v35002 H35002 k35002 =>
 gdK v35000 false (fun R35003 => binK .geq .no v35001 v35002 fun v35003 =>
 R35003 v35003 H35002 k35002) H35002 k35002 fun v35003 H35003 k35003 =>
 pkK v35000 (.b true) v35003 fun v35004 =>
 condK v35004 (K33 .ret (Env.put s2 (.i .i64 7) (Env.put s116 v35004 (Env.put s8 v32001 e28))) H35003 k35003)
 (K33 .norm (Env.put s116 v35004 (Env.put s8 v32001 e28)) H35003 k35003)) (fun k33 e33 H33 =>
 seqK (fun K34 =>
 iaK .none 1 (Env.get s3 e33) (Env.get s8 e33) fun v36000 =>
 ldK false 1 v36000 H33 fun v36001 =>
 condK v36001 (K34 .ret (Env.put s2 (.i .i64 4) (Env.put s120 v36001 e33)) H33 k33)
 (K34 .norm (Env.put s120 v36001 e33) H33 k33)) (fun k34 e34 H34 =>
 iaK .none 1 (Env.get s3 e34) (Env.get s8 e34) fun v35000 =>
 stK 1 (.b true) v35000 H34 fun H35001 =>
 K30 .norm e34 H35001 k34) K30) K30) K29) (fun k29 e29 H29 =>
 binK .add .no (Env.get s106 e29) (.i .i64 1) fun v30000 =>
 K25 .norm (Env.put s106 v30000 e29) H29 k29) K25) K25) rounds K24 k21 (Env.put s104 v23001 (Env.put s105 v23002 (Env.put s106 (.i .i64 0) e21))) H21) K16) K16) K15) (fun k15 e15 H15 =>
 binK .add .no (Env.get s45 e15) (.i .i64 1) fun v16000 =>
 K11 .norm (Env.put s45 v16000 e15) H15 k15) K11) K11) rounds K10 k6003 (Env.put s43 v9001 (Env.put s44 v9002 (Env.put s45 (.i .i64 0) (Env.put s3 v6003 e4)))) H6003) K7) (fun k7 e7 H7 =>
 seqK (fun K8 =>
 lnK .sl H7 (Env.get s3 e7) fun v10000 =>
 blockK 5 (fun K11 =>
 loopK (fun k12 e12 H12 K12 =>
 binK .lss .no (Env.get s128 e12) (Env.get s127 e12) fun v14000 =>
 seqK (fun K15 =>
 condK v14000 (K15 .norm (Env.put s129 v14000 e12) H12 k12)
 (K15 (.exit 5) (Env.put s129 v14000 e12) H12 k12)) (fun k15 e15 H15 =>
 seqK (fun K16 =>
 blockK 6 (fun K17 =>
 iaK .none 1 (Env.get s126 e15) (Env.get s128 e15) fun v19000 =>
 ldK false 1 v19000 H15 fun v19001 =>
 unK .not v19001 fun v21000 =>
 gdK v21000 true (fun R21001 => R21001 (Env.get s128 e15) H15 k15) H15 k15 fun v21001 H21001 k21001 =>
 gdK v21000 true (fun R21002 => faK 1 (Env.get s1 e15) fun v21002 =>
 R21002 v21002 H21001 k21001) H21001 k21001 fun v21002 H21002 k21002 =>
 gdK v21000 true (fun R21003 => ldK false 1 v21002 H21002 fun v21003 =>
 R21003 v21003 H21002 k21002) H21002 k21002 fun v21003 H21003 k21003 =>
 gdK v21000 true (fun R21004 => binK .neq .no v21001 v21003 fun v21004 =>
 R21004 v21004 H21003 k21003) H21003 k21003 fun v21004 H21004 k21004 =>
 pkK v21000 v21004 (.b false) fun v21005 =>
 condK v21005 (K17 .ret (Env.put s2 (.i .i64 3) (Env.put s140 v21005 (Env.put s9 (Env.get s128 e15) (Env.put s10 v19001 e15)))) H21004 k21004)
 (K17 .norm (Env.put s140 v21005 (Env.put s9 (Env.get s128 e15) (Env.put s10 v19001 e15))) H21004 k21004)) K16) (fun k16 e16 H16 =>
 binK .add .no (Env.get s128 e16) (.i .i64 1) fun v17000 =>
 K12 .norm (Env.put s128 v17000 e16) H16 k16) K12) K12) rounds K11 k7 (Env.put s126 (Env.get s3 e7) (Env.put s127 v10000 (Env.put s128 (.i .i64 0) e7))) H7) K8) (fun k8 e8 H8 =>
 (endK recD [.slot s2]) .ret (Env.put s2 (.i .i64 0) e8) H8 k8) (endK recD [.slot s2])) (endK recD [.slot s2])) (endK recD [.slot s2])) (endK recD [.slot s2])
theorem Tryz.cOk42 : (compFn Tryz.prog Tryz.f42).map (bodyK 42) = some Tryz.c42 := by kernel_rfl
def Tryz.c47 : FnK := fun rec recD args H => startK 2 args fun e =>
 genK roundT rec (.recover) (Ctl.mk [] .none) e [] H fun v2000 H2000 k2000 =>
 binK .neq .ifc v2000 .if0 fun v4000 =>
 condK v4000 (genK roundT rec (.tassert 55 (.ag [(.i .i64 0), (.i .i64 0)]) true (.s s2)) k2000 (Env.put s7 v4000 (Env.put s2 v2000 e)) [] H2000 fun v7000 H7000 k7000 =>
 exK 0 v7000 fun v7001 =>
 exK 1 v7000 fun v7002 =>
 newK [(.i .i64 0), (.i .i64 0)] H7000 fun v7003 H7003 =>
 stK 2 v7001 v7003 H7003 fun H7004 =>
 seqK (fun K8 =>
 unK .not v7002 fun v10000 =>
 condK v10000 (genK roundT rec (.panic (.s s2)) k7000 (Env.put s14 v10000 (Env.put s3 v7003 (Env.put s4 v7002 (Env.put s7 v4000 (Env.put s2 v2000 e))))) [] H7004 fun v12000 H12000 k12000 =>
 K8 .norm (Env.put s14 v10000 (Env.put s3 v7003 (Env.put s4 v7002 (Env.put s7 v4000 (Env.put s2 v2000 e))))) H12000 k12000)
 (K8 .norm (Env.put s14 v10000 (Env.put s3 v7003 (Env.put s4 v7002 (Env.put s7 v4000 (Env.put s2 v2000 e))))) H7004 k7000)) (fun k8 e8 H8 =>
 bdK [.sl0, (.i .i64 0)] [] fun v9000 =>
 ldK true 2 (Env.get s3 e8) H8 fun v9001 =>
 stK 2 v9000 (Env.get s0 e8) H8 fun H9002 =>
 boolK (and (again ⟨.load true 2 (.s s3), .none, []⟩ v9001 e8 [v9000] H9002) true) (stK 2 v9001 (Env.get s1 e8) H9002 fun H9003 =>
 (endK recD []) .norm e8 H9003 k8)) (endK recD []))
 ((endK recD []) .norm (Env.put s7 v4000 (Env.put s2 v2000 e)) H2000 k2000)
theorem Tryz.cOk47 : (compFn Tryz.prog Tryz.f47).map (bodyK 47) = some Tryz.c47 := by kernel_rfl
def Tryz.c55 : FnK := fun rec recD args H => startK 1 args fun e =>
 genK roundT rec (.nilCheck (.s s0)) (Ctl.mk [] .none) (Env.put s2 (.i .i64 0) e) [] H fun v4000 H4000 k4000 =>
 faK 2 v4000 fun v4001 =>
 ldK false 1 v4001 H4000 fun v4002 =>
 (endK recD [.slot s2]) .ret (Env.put s2 v4002 (Env.put s2 (.i .i64 0) e)) H4000 k4000
theorem Tryz.cOk55 : (compFn Tryz.prog Tryz.f55).map (bodyK 55) = some Tryz.c55 := by kernel_rfl
def Tryz.c61 : FnK := fun rec recD args H => startK 3 args fun e =>
 newK [(.i .i64 0), (.i .i64 0)] H fun v2000 H2000 =>
 seqK (fun K3 =>
 blockK 0 (fun K6 =>
 binK .eql .no (Env.get s2 e) (.i .i64 0) fun v8000 =>
 condK v8000 (genK roundT rec (.nilCheck (.s s1)) (Ctl.mk [] .none) (Env.put s17 v8000 (Env.put s16 (Env.get s2 e) (Env.put s6 v2000 e))) [] H2000 fun v11000 H11000 k11000 =>
 faK 2 v11000 fun v11001 =>
 ldK false 1 v11001 H11000 fun v11002 =>
 binK .neq .no v11002 (.s []) fun v11003 =>
 gdK v11003 true (fun R11004 => R11004 (Env.get s0 e) H11000 k11000) H11000 k11000 fun v11004 H11004 k11004 =>
 gdK v11003 true (fun R11005 => genK roundT rec (.nilCheck (.l 0)) k11004 (Env.put s17 v8000 (Env.put s16 (Env.get s2 e) (Env.put s6 v2000 e))) [v11004, v11003, v11002, v11001, v11000] H11004 fun v11005 H11005 k11005 =>
 R11005 v11005 H11005 k11005) H11004 k11004 fun v11005 H11005 k11005 =>
 gdK v11003 true (fun R11006 => faK 3 v11005 fun v11006 =>
 R11006 v11006 H11005 k11005) H11005 k11005 fun v11006 H11006 k11006 =>
 gdK v11003 true (fun R11007 => ldK false 1 v11006 H11006 fun v11007 =>
 R11007 v11007 H11006 k11006) H11006 k11006 fun v11007 H11007 k11007 =>
 gdK v11003 true (fun R11008 => R11008 (Env.get s1 e) H11007 k11007) H11007 k11007 fun v11008 H11008 k11008 =>
 gdK v11003 true (fun R11009 => genK roundT rec (.nilCheck (.l 0)) k11008 (Env.put s17 v8000 (Env.put s16 (Env.get s2 e) (Env.put s6 v2000 e))) [v11008, v11007, v11006, v11005, v11004, v11003, v11002, v11001, v11000] H11008 fun v11009 H11009 k11009 =>
 R11009 v11009 H11009 k11009) H11008 k11008 fun v11009 H11009 k11009 =>
 gdK v11003 true (fun R11010 => faK 2 v11009 fun v11010 =>
 R11010 v11010 H11009 k11009) H11009 k11009 fun v11010 H11010 k11010 =>
 gdK v11003 true (fun R11011 => ldK false 1 v11010 H11010 fun v11011 =>
 R11011 v11011 H11010 k11010) H11010 k11010 fun v11011 H11011 k11011 =>
 gdK v11003 true (fun R11012 => genK roundT rec (.lookup .s .p0 false (.l 4) (.l 0)) k11011 (Env.put s17 v8000 (Env.put s16 (Env.get s2 e) (Env.put s6 v2000 e))) [v11011, v11010, v11009, v11008, v11007, v11006, v11005, v11004, v11003, v11002, v11001, v11000] H11011 fun v11012 H11012 k11012 =>
 R11012 v11012 H11012 k11012) H11011 k11011 fun v11012 H11012 k11012 =>
 gdK v11003 true (fun R11013 => binK .eql .ptr v11012 .p0 fun v11013 =>
 R11013 v11013 H11012 k11012) H11012 k11012 fun v11013 H11013 k11013 =>
 pkK v11003 v11013 (.b false) fun v11014 =>
 condK v11014 (genK roundT rec (.nilCheck (.s s0)) k11013 (Env.put s35 v11014 (Env.put s17 v8000 (Env.put s16 (Env.get s2 e) (Env.put s6 v2000 e)))) [] H11013 fun v14000 H14000 k14000 =>
 faK 0 v14000 fun v14001 =>
 faK 0 v14001 fun v14002 =>
 ldK false 1 v14002 H14000 fun v14003 =>
 genK roundT rec (.nilCheck (.s s1)) k14000 (Env.put s35 v11014 (Env.put s17 v8000 (Env.put s16 (Env.get s2 e) (Env.put s6 v2000 e)))) [v14003, v14002, v14001, v14000] H14000 fun v14004 H14004 k14004 =>
 faK 1 v14004 fun v14005 =>
 ldK false 1 v14005 H14004 fun v14006 =>
 iaK .none 13 v14003 v14006 fun v14007 =>
 faK 3 v14007 fun v14008 =>
 ldK false 1 v14008 H14004 fun v14009 =>
 iaK .none 1 v14009 (.i .i64 0) fun v14010 =>
 ldK false 1 v14010 H14004 fun v14011 =>
 caK rec 95 [(Env.get s0 e), (.i .i64 3), v14011] H14004 fun v14012 H14012 =>
 stK 2 v14012 v2000 H14012 fun H14013 =>
 K6 .ret (Env.put s35 v11014 (Env.put s17 v8000 (Env.put s16 (Env.get s2 e) (Env.put s6 v2000 e)))) H14013 k14004)
 (K6 .norm (Env.put s35 v11014 (Env.put s17 v8000 (Env.put s16 (Env.get s2 e) (Env.put s6 v2000 e)))) H11013 k11013))
 (binK .eql .no (Env.get s2 e) (.i .i64 1) fun v11000 =>
 condK v11000 (seqK (fun K15 =>
 genK roundT rec (.nilCheck (.s s0)) (Ctl.mk [] .none) (Env.put s7 (Env.get s1 e) (Env.put s52 v11000 (Env.put s17 v8000 (Env.put s16 (Env.get s2 e) (Env.put s6 v2000 e))))) [] H2000 fun v17000 H17000 k17000 =>
 faK 2 v17000 fun v17001 =>
 ldK false 1 v17001 H17000 fun v17002 =>
 lnK .sl H17000 v17002 fun v17003 =>
 blockK 1 (fun K18 =>
 loopK (fun k19 e19 H19 K19 =>
 binK .lss .no (Env.get s60 e19) (Env.get s59 e19) fun v21000 =>
 seqK (fun K22 =>
 condK v21000 (K22 .norm (Env.put s61 v21000 e19) H19 k19)
 (K22 (.exit 1) (Env.put s61 v21000 e19) H19 k19)) (fun k22 e22 H22 =>
 seqK (fun K23 =>
 blockK 2 (fun K24 =>
 seqK (fun K25 =>
 genK roundT rec (.nilCheck (.s s7)) k22 e22 [] H22 fun v27000 H27000 k27000 =>
 faK 2 v27000 fun v27001 =>
 ldK false 1 v27001 H27000 fun v27002 =>
 binK .eql .no v27002 (.s []) fun v27003 =>
 condK v27003 (bdK [(.i .i64 0), (.i .i64 0)] [] fun v30000 =>
 stK 2 v30000 (Env.get s6 e22) H27000 fun H30001 =>
 K25 .ret (Env.put s66 v27003 e22) H30001 k27000)
 (K25 .norm (Env.put s66 v27003 e22) H27000 k27000)) (fun k25 e25 H25 =>
 genK roundT rec (.nilCheck (.s s0)) k25 e25 [] H25 fun v26000 H26000 k26000 =>
 faK 3 v26000 fun v26001 =>
 ldK false 1 v26001 H26000 fun v26002 =>
 genK roundT rec (.nilCheck (.s s7)) k26000 e25 [v26002, v26001, v26000] H26000 fun v26003 H26003 k26003 =>
 faK 2 v26003 fun v26004 =>
 ldK false 1 v26004 H26003 fun v26005 =>
 genK roundT rec (.lookup .s .p0 false (.l 3) (.l 0)) k26003 e25 [v26005, v26004, v26003, v26002, v26001, v26000] H26003 fun v26006 H26006 k26006 =>
 K24 .norm (Env.put s7 v26006 e25) H26006 k26006) K24) K23) (fun k23 e23 H23 =>
 binK .add .no (Env.get s60 e23) (.i .i64 1) fun v24000 =>
 K19 .norm (Env.put s60 v24000 e23) H23 k23) K19) K19) rounds K18 k17000 (Env.put s59 v17003 (Env.put s60 (.i .i64 0) (Env.put s7 (Env.get s1 e) (Env.put s52 v11000 (Env.put s17 v8000 (Env.put s16 (Env.get s2 e) (Env.put s6 v2000 e))))))) H17000) K15) (fun k15 e15 H15 =>
 genK roundT rec (.nilCheck (.s s1)) k15 e15 [] H15 fun v17000 H17000 k17000 =>
 faK 1 v17000 fun v17001 =>
 ldK false 1 v17001 H17000 fun v17002 =>
 caK rec 95 [(Env.get s0 e15), (.i .i64 110), v17002] H17000 fun v17003 H17003 =>
 stK 2 v17003 (Env.get s6 e15) H17003 fun H17004 =>
 K6 .ret e15 H17004 k17000) K6)
 (binK .eql .no (Env.get s2 e) (.i .i64 2) fun v14000 =>
 condK v14000 (genK roundT rec (.nilCheck (.s s1)) (Ctl.mk [] .none) (Env.put s84 v14000 (Env.put s52 v11000 (Env.put s17 v8000 (Env.put s16 (Env.get s2 e) (Env.put s6 v2000 e))))) [] H2000 fun v17000 H17000 k17000 =>
 faK 3 v17000 fun v17001 =>
 ldK false 1 v17001 H17000 fun v17002 =>
 lnK .sl H17000 v17002 fun v17003 =>
 blockK 3 (fun K18 =>
 loopK (fun k19 e19 H19 K19 =>
 binK .lss .no (Env.get s91 e19) (Env.get s90 e19) fun v21000 =>
 seqK (fun K22 =>
 condK v21000 (K22 .norm (Env.put s92 v21000 e19) H19 k19)
 (K22 (.exit 3) (Env.put s92 v21000 e19) H19 k19)) (fun k22 e22 H22 =>
 seqK (fun K23 =>
 blockK 4 (fun K24 =>
 iaK .none 8 (Env.get s89 e22) (Env.get s91 e22) fun v26000 =>
 ldK true 8 v26000 H22 fun v26001 =>
 newK [(.s []), (.s []), (.i .i64 0), (.i .i64 0), (.s []), (.i .i64 0), (.s []), .sl0] H22 fun v26002 H26002 =>
 stK 8 v26001 v26002 H26002 fun H26003 =>
 genK roundT rec (.nilCheck (.s s1)) k22 (Env.put s9 v26002 e22) [] H26003 fun v28000 H28000 k28000 =>
 faK 2 v28000 fun v28001 =>
 ldK false 1 v28001 H28000 fun v28002 =>
 faK 1 v26002 fun v28003 =>
 ldK false 1 v28003 H28000 fun v28004 =>
 newK [(.s []), (.s []), (.i .i64 0), (.i .i64 0), (.s []), (.i .i64 0), (.s []), .sl0] H28000 fun v28005 H28005 =>
 caK rec 98 [(Env.get s0 e22), v28002, v28004] H28005 fun v28006 H28006 =>
 exK 0 v28006 fun v28007 =>
 exK 1 v28006 fun v28008 =>
 stK 8 v28007 v28005 H28006 fun H28009 =>
 condK v28008 (faK 2 v26002 fun v33000 =>
 ldK false 1 v33000 H28009 fun v33001 =>
 caK rec 95 [(Env.get s0 e22), (.i .i64 4), v33001] H28009 fun v33002 H33002 =>
 stK 2 v33002 (Env.get s6 e22) H33002 fun H33003 =>
 K24 .ret (Env.put s106 v28008 (Env.put s11 v28008 (Env.put s9 v26002 e22))) H33003 k28000)
 (K24 .norm (Env.put s106 v28008 (Env.put s11 v28008 (Env.put s9 v26002 e22))) H28009 k28000)) K23) (fun k23 e23 H23 =>
 binK .add .no (Env.get s91 e23) (.i .i64 1) fun v24000 =>
 K19 .norm (Env.put s91 v24000 e23) H23 k23) K19) K19) rounds K18 k17000 (Env.put s89 v17002 (Env.put s90 v17003 (Env.put s91 (.i .i64 0) (Env.put s84 v14000 (Env.put s52 v11000 (Env.put s17 v8000 (Env.put s16 (Env.get s2 e) (Env.put s6 v2000 e)))))))) H17000) K6)
 (binK .eql .no (Env.get s2 e) (.i .i64 3) fun v17000 =>
 condK v17000 (genK roundT rec (.nilCheck (.s s1)) (Ctl.mk [] .none) (Env.put s112 v17000 (Env.put s84 v14000 (Env.put s52 v11000 (Env.put s17 v8000 (Env.put s16 (Env.get s2 e) (Env.put s6 v2000 e)))))) [] H2000 fun v20000 H20000 k20000 =>
 faK 4 v20000 fun v20001 =>
 ldK false 1 v20001 H20000 fun v20002 =>
 lnK .sl H20000 v20002 fun v20003 =>
 blockK 5 (fun K21 =>
 loopK (fun k22 e22 H22 K22 =>
 binK .lss .no (Env.get s119 e22) (Env.get s118 e22) fun v24000 =>
 seqK (fun K25 =>
 condK v24000 (K25 .norm (Env.put s120 v24000 e22) H22 k22)
 (K25 (.exit 5) (Env.put s120 v24000 e22) H22 k22)) (fun k25 e25 H25 =>
 seqK (fun K26 =>
 blockK 6 (fun K27 =>
 iaK .none 8 (Env.get s117 e25) (Env.get s119 e25) fun v29000 =>
 ldK true 8 v29000 H25 fun v29001 =>
 newK [(.s []), (.s []), (.i .i64 0), (.i .i64 0), (.s []), (.i .i64 0), (.s []), .sl0] H25 fun v29002 H29002 =>
 stK 8 v29001 v29002 H29002 fun H29003 =>
 genK roundT rec (.nilCheck (.s s1)) k25 (Env.put s13 v29002 e25) [] H29003 fun v31000 H31000 k31000 =>
 faK 2 v31000 fun v31001 =>
 ldK false 1 v31001 H31000 fun v31002 =>
 faK 1 v29002 fun v31003 =>
 ldK false 1 v31003 H31000 fun v31004 =>
 newK [(.s []), (.s []), (.i .i64 0), (.i .i64 0), (.s []), (.i .i64 0), (.s []), .sl0] H31000 fun v31005 H31005 =>
 caK rec 99 [(Env.get s0 e25), v31002, v31004] H31005 fun v31006 H31006 =>
 exK 0 v31006 fun v31007 =>
 exK 1 v31006 fun v31008 =>
 stK 8 v31007 v31005 H31006 fun H31009 =>
 gdK v31008 true (fun R33000 => ldK true 8 v29002 H31009 fun v33000 =>
 R33000 v33000 H31009 k31000) H31009 k31000 fun v33000 H33000 k33000 =>
 gdK v31008 true (fun R33001 => ldK true 8 v31005 H33000 fun v33001 =>
 R33001 v33001 H33000 k33000) H33000 k33000 fun v33001 H33001 k33001 =>
 gdK v31008 true (fun R33002 => caK rec 100 [v33000, v33001] H33001 fun v33002 H33002 =>
 R33002 v33002 H33002 k33001) H33001 k33001 fun v33002 H33002 k33002 =>
 gdK v31008 true (fun R33003 => unK .not v33002 fun v33003 =>
 R33003 v33003 H33002 k33002) H33002 k33002 fun v33003 H33003 k33003 =>
 pkK v31008 v33003 (.b false) fun v33004 =>
 condK v33004 (faK 2 v29002 fun v36000 =>
 ldK false 1 v36000 H33003 fun v36001 =>
 caK rec 95 [(Env.get s0 e25), (.i .i64 111), v36001] H33003 fun v36002 H36002 =>
 stK 2 v36002 (Env.get s6 e25) H36002 fun H36003 =>
 K27 .ret (Env.put s140 v33004 (Env.put s14 v31005 (Env.put s15 v31008 (Env.put s13 v29002 e25)))) H36003 k33003)
 (K27 .norm (Env.put s140 v33004 (Env.put s14 v31005 (Env.put s15 v31008 (Env.put s13 v29002 e25)))) H33003 k33003)) K26) (fun k26 e26 H26 =>
 binK .add .no (Env.get s119 e26) (.i .i64 1) fun v27000 =>
 K22 .norm (Env.put s119 v27000 e26) H26 k26) K22) K22) rounds K21 k20000 (Env.put s117 v20002 (Env.put s118 v20003 (Env.put s119 (.i .i64 0) (Env.put s112 v17000 (Env.put s84 v14000 (Env.put s52 v11000 (Env.put s17 v8000 (Env.put s16 (Env.get s2 e) (Env.put s6 v2000 e))))))))) H20000) K6)
 (K6 .norm (Env.put s112 v17000 (Env.put s84 v14000 (Env.put s52 v11000 (Env.put s17 v8000 (Env.put s16 (Env.get s2 e) (Env.put s6 v2000 e)))))) H2000 (Ctl.mk [] .none)))))) K3) (fun k3 e3 H3 =>
 bdK [(.i .i64 0), (.i .i64 0)] [] fun v5000 =>
 stK 2 v5000 (Env.get s6 e3) H3 fun H5001 =>
 (endK recD [.cell true 2 s6]) .ret e3 H5001 k3) (endK recD [.cell true 2 s6])
theorem Tryz.cOk61 : (compFn Tryz.prog Tryz.f61).map (bodyK 61) = some Tryz.c61 := by kernel_rfl
def Tryz.c67 : FnK := fun rec recD args H => startK 2 args fun e =>
 bxK (Env.get s0 e) H fun v2000 H2000 =>
 genK roundT rec (.buildSlice 1 1 [(.i .i64 0)] [(0, (.s s1))]) (Ctl.mk [] .none) (Env.put s5 .sl0 (Env.put s2 v2000 (Env.put s4 .sl0 e))) [] H2000 fun v6000 H6000 k6000 =>
 seqK (fun K7 =>
 blockK 0 (fun K8 =>
 loopK (fun k9 e9 H9 K9 =>
 seqK (fun K10 =>
 lnK .sl H9 (Env.get s6 e9) fun v12000 =>
 binK .gtr .no v12000 (.i .i64 0) fun v12001 =>
 condK v12001 (K10 .norm (Env.put s14 v12001 e9) H9 k9)
 (K10 (.exit 0) (Env.put s14 v12001 e9) H9 k9)) (fun k10 e10 H10 =>
 blockK 1 (fun K11 =>
 lnK .sl H10 (Env.get s6 e10) fun v13000 =>
 binK .sub .no v13000 (.i .i64 1) fun v13001 =>
 iaK .none 1 (Env.get s6 e10) v13001 fun v13002 =>
 ldK false 1 v13002 H10 fun v13003 =>
 lnK .sl H10 (Env.get s6 e10) fun v15000 =>
 binK .sub .no v15000 (.i .i64 1) fun v15001 =>
 slK (.some 1) (Env.get s6 e10) .none (.some v15001) .none fun v15002 =>
 seqK (fun K16 =>
 binK .lss .no v13003 (.i .i64 0) fun v18000 =>
 gdK v18000 false (fun R18001 => R18001 v13003 H10 k10) H10 k10 fun v18001 H18001 k18001 =>
 gdK v18000 false (fun R18002 => faK 0 (Env.get s2 e10) fun v18002 =>
 R18002 v18002 H18001 k18001) H18001 k18001 fun v18002 H18002 k18002 =>
 gdK v18000 false (fun R18003 => ldK false 1 v18002 H18002 fun v18003 =>
 R18003 v18003 H18002 k18002) H18002 k18002 fun v18003 H18003 k18003 =>
 gdK v18000 false (fun R18004 => lnK .sl H18003 v18003 fun v18004 =>
 R18004 v18004 H18003 k18003) H18003 k18003 fun v18004 H18004 k18004 =>
 gdK v18000 false (fun R18005 => binK .geq .no v18001 v18004 fun v18005 =>
 R18005 v18005 H18004 k18004) H18004 k18004 fun v18005 H18005 k18005 =>
 pkK v18000 (.b true) v18005 fun v18006 =>
 gdK v18006 false (fun R18007 => R18007 (Env.get s5 e10) H18005 k18005) H18005 k18005 fun v18007 H18007 k18007 =>
 gdK v18006 false (fun R18008 => lnK .sl H18007 v18007 fun v18008 =>
 R18008 v18008 H18007 k18007) H18007 k18007 fun v18008 H18008 k18008 =>
 gdK v18006 false (fun R18009 => binK .geq .no v18008 (.i .i64 16384) fun v18009 =>
 R18009 v18009 H18008 k18008) H18008 k18008 fun v18009 H18009 k18009 =>
 pkK v18006 (.b true) v18009 fun v18010 =>
 condK v18010 (K16 (.exit 1) (Env.put s39 v18010 (Env.put s6 v15002 (Env.put s7 v13003 e10))) H18009 k18009)
 (K16 .norm (Env.put s39 v18010 (Env.put s6 v15002 (Env.put s7 v13003 e10))) H18009 k18009)) (fun k16 e16 H16 =>
 genK roundT rec (.buildSlice 1 1 [(.i .i64 0)] [(0, (.s s7))]) k16 e16 [] H16 fun v18000 H18000 k18000 =>
 apK 1 [(.i .i64 0)] H18000 (Env.get s5 e16) v18000 fun v18001 H18001 =>
 faK 0 (Env.get s2 e16) fun v20000 =>
 ldK false 1 v20000 H18001 fun v20001 =>
 iaK .none 13 v20001 (Env.get s7 e16) fun v20002 =>
 faK 3 v20002 fun v20003 =>
 ldK false 1 v20003 H18001 fun v20004 =>
 lnK .sl H18001 v20004 fun v20005 =>
 binK .sub .no v20005 (.i .i64 1) fun v20006 =>
 blockK 2 (fun K21 =>
 loopK (fun k22 e22 H22 K22 =>
 seqK (fun K23 =>
 binK .geq .no (Env.get s8 e22) (.i .i64 0) fun v25000 =>
 condK v25000 (K23 .norm (Env.put s53 v25000 e22) H22 k22)
 (K23 (.exit 2) (Env.put s53 v25000 e22) H22 k22)) (fun k23 e23 H23 =>
 seqK (fun K24 =>
 blockK 3 (fun K25 =>
 faK 0 (Env.get s2 e23) fun v27000 =>
 ldK false 1 v27000 H23 fun v27001 =>
 iaK .none 13 v27001 (Env.get s7 e23) fun v27002 =>
 faK 3 v27002 fun v27003 =>
 ldK false 1 v27003 H23 fun v27004 =>
 iaK .none 1 v27004 (Env.get s8 e23) fun v27005 =>
 ldK false 1 v27005 H23 fun v27006 =>
 binK .lss .no v27006 (Env.get s7 e23) fun v29000 =>
 condK v29000 (genK roundT rec (.buildSlice 1 1 [(.i .i64 0)] [(0, (.s s9))]) k23 (Env.put s67 v29000 (Env.put s9 v27006 e23)) [] H23 fun v31000 H31000 k31000 =>
 apK 1 [(.i .i64 0)] H31000 (Env.get s6 e23) v31000 fun v31001 H31001 =>
 K25 .norm (Env.put s6 v31001 (Env.put s67 v29000 (Env.put s9 v27006 e23))) H31001 k31000)
 (K25 .norm (Env.put s67 v29000 (Env.put s9 v27006 e23)) H23 k23)) K24) (fun k24 e24 H24 =>
 binK .sub .no (Env.get s8 e24) (.i .i64 1) fun v25000 =>
 K22 .norm (Env.put s8 v25000 e24) H24 k24) K22) K22) rounds K21 k18000 (Env.put s8 v20006 (Env.put s5 v18001 e16)) H18001) K11) K11) K9) K9) rounds K8 k6000 (Env.put s6 v6000 (Env.put s5 .sl0 (Env.put s2 v2000 (Env.put s4 .sl0 e)))) H6000) K7) (fun k7 e7 H7 =>
 (endK recD [.slot s4]) .ret (Env.put s4 (Env.get s5 e7) e7) H7 k7) (endK recD [.slot s4])
theorem Tryz.cOk67 : (compFn Tryz.prog Tryz.f67).map (bodyK 67) = some Tryz.c67 := by kernel_rfl
def Tryz.c71 : FnK := fun rec recD args H => startK 2 args fun e =>
 genK roundT rec (.nilCheck (.s s0)) (Ctl.mk [] .none) e [] H fun v2000 H2000 k2000 =>
 faK 0 v2000 fun v2001 =>
 ldK false 1 v2001 H2000 fun v2002 =>
 genK roundT rec (.nilCheck (.l 0)) k2000 e [v2002, v2001, v2000] H2000 fun v2003 H2003 k2003 =>
 faK 0 v2003 fun v2004 =>
 faK 0 v2004 fun v2005 =>
 ldK false 1 v2005 H2003 fun v2006 =>
 iaK .none 13 v2006 (Env.get s1 e) fun v2007 =>
 ldK true 13 v2007 H2003 fun v2008 =>
 newK [(.i .i64 0), (.i .i64 0), (.i .i64 0), .sl0, (.s []), (.i .i64 0), (.s []), (.i .i64 0), (.s []), (.i .i64 0), (.i .i64 0), (.i .i64 0), .sl0] H2003 fun v2009 H2009 =>
 stK 13 v2008 v2009 H2009 fun H2010 =>
 faK 0 v2009 fun v4000 =>
 ldK false 1 v4000 H2010 fun v4001 =>
 blockK 0 (fun K5 =>
 binK .eql .no v4001 (.i .i64 8) fun v7000 =>
 condK v7000 (faK 3 v2009 fun v10000 =>
 ldK false 1 v10000 H2010 fun v10001 =>
 lnK .sl H2010 v10001 fun v10002 =>
 blockK 1 (fun K11 =>
 loopK (fun k12 e12 H12 K12 =>
 binK .lss .no (Env.get s37 e12) (Env.get s36 e12) fun v14000 =>
 seqK (fun K15 =>
 condK v14000 (K15 .norm (Env.put s38 v14000 e12) H12 k12)
 (K15 (.exit 1) (Env.put s38 v14000 e12) H12 k12)) (fun k15 e15 H15 =>
 seqK (fun K16 =>
 blockK 2 (fun K17 =>
 iaK .none 1 (Env.get s35 e15) (Env.get s37 e15) fun v19000 =>
 ldK false 1 v19000 H15 fun v19001 =>
 caK rec 71 [(Env.get s0 e15), v19001] H15 fun v20000 H20000 =>
 K17 .norm (Env.put s6 v19001 e15) H20000 k15) K16) (fun k16 e16 H16 =>
 binK .add .no (Env.get s37 e16) (.i .i64 1) fun v17000 =>
 K12 .norm (Env.put s37 v17000 e16) H16 k16) K12) K12) rounds K11 k2003 (Env.put s35 v10001 (Env.put s36 v10002 (Env.put s37 (.i .i64 0) (Env.put s32 v7000 (Env.put s25 v4001 (Env.put s4 v2009 e)))))) H2010) K5)
 (binK .eql .no v4001 (.i .i64 9) fun v10000 =>
 condK v10000 (caK rec 69 [(Env.get s0 e), (Env.get s1 e)] H2010 fun v13000 H13000 =>
 faK 3 v2009 fun v15000 =>
 ldK false 1 v15000 H13000 fun v15001 =>
 lnK .sl H13000 v15001 fun v15002 =>
 binK .gtr .no v15002 (.i .i64 0) fun v15003 =>
 condK v15003 (faK 3 v2009 fun v17000 =>
 ldK false 1 v17000 H13000 fun v17001 =>
 iaK .none 1 v17001 (.i .i64 0) fun v17002 =>
 ldK false 1 v17002 H13000 fun v17003 =>
 faK 5 v2009 fun v17004 =>
 ldK true 4 v17004 H13000 fun v17005 =>
 caK rec 108 [(Env.get s0 e), v17003, v17005] H13000 fun v17006 H17006 =>
 K5 .norm (Env.put s53 v15003 (Env.put s45 v10000 (Env.put s32 v7000 (Env.put s25 v4001 (Env.put s4 v2009 e))))) H17006 k2003)
 (K5 .norm (Env.put s53 v15003 (Env.put s45 v10000 (Env.put s32 v7000 (Env.put s25 v4001 (Env.put s4 v2009 e))))) H13000 k2003))
 (binK .eql .no v4001 (.i .i64 10) fun v13000 =>
 condK v13000 (faK 3 v2009 fun v16000 =>
 ldK false 1 v16000 H2010 fun v16001 =>
 iaK .none 1 v16001 (.i .i64 0) fun v16002 =>
 ldK false 1 v16002 H2010 fun v16003 =>
 newK [(.i .i64 0), (.s []), (.i .i64 0), (.s [])] H2010 fun v16004 H16004 =>
 caK rec 109 [(Env.get s0 e), v16003] H16004 fun v16005 H16005 =>
 stK 4 v16005 v16004 H16005 fun H16006 =>
 seqK (fun K17 =>
 genK roundT rec (.nilCheck (.s s0)) k2003 (Env.put s7 v16004 (Env.put s62 v13000 (Env.put s45 v10000 (Env.put s32 v7000 (Env.put s25 v4001 (Env.put s4 v2009 e)))))) [] H16006 fun v19000 H19000 k19000 =>
 faK 0 v19000 fun v19001 =>
 ldK false 1 v19001 H19000 fun v19002 =>
 genK roundT rec (.nilCheck (.l 0)) k19000 (Env.put s7 v16004 (Env.put s62 v13000 (Env.put s45 v10000 (Env.put s32 v7000 (Env.put s25 v4001 (Env.put s4 v2009 e)))))) [v19002, v19001, v19000] H19000 fun v19003 H19003 k19003 =>
 faK 0 v19003 fun v19004 =>
 faK 0 v19004 fun v19005 =>
 ldK false 1 v19005 H19003 fun v19006 =>
 faK 3 v2009 fun v19007 =>
 ldK false 1 v19007 H19003 fun v19008 =>
 iaK .none 1 v19008 (.i .i64 0) fun v19009 =>
 ldK false 1 v19009 H19003 fun v19010 =>
 iaK .none 13 v19006 v19010 fun v19011 =>
 faK 0 v19011 fun v19012 =>
 ldK false 1 v19012 H19003 fun v19013 =>
 binK .neq .no v19013 (.i .i64 25) fun v21000 =>
 gdK v21000 true (fun R21001 => R21001 v19013 H19003 k19003) H19003 k19003 fun v21001 H21001 k21001 =>
 gdK v21000 true (fun R21002 => binK .neq .no v21001 (.i .i64 26) fun v21002 =>
 R21002 v21002 H21001 k21001) H21001 k21001 fun v21002 H21002 k21002 =>
 pkK v21000 v21002 (.b false) fun v21003 =>
 gdK v21003 true (fun R21004 => R21004 v19013 H21002 k21002) H21002 k21002 fun v21004 H21004 k21004 =>
 gdK v21003 true (fun R21005 => binK .neq .no v21004 (.i .i64 27) fun v21005 =>
 R21005 v21005 H21004 k21004) H21004 k21004 fun v21005 H21005 k21005 =>
 pkK v21003 v21005 (.b false) fun v21006 =>
 condK v21006 (genK roundT rec (.nilCheck (.s s0)) k21005 (Env.put s94 v21006 (Env.put s8 v19013 (Env.put s7 v16004 (Env.put s62 v13000 (Env.put s45 v10000 (Env.put s32 v7000 (Env.put s25 v4001 (Env.put s4 v2009 e)))))))) [] H21005 fun v23000 H23000 k23000 =>
 faK 0 v23000 fun v23001 =>
 ldK false 1 v23001 H23000 fun v23002 =>
 faK 3 v2009 fun v23003 =>
 ldK false 1 v23003 H23000 fun v23004 =>
 iaK .none 1 v23004 (.i .i64 0) fun v23005 =>
 ldK false 1 v23005 H23000 fun v23006 =>
 caK rec 105 [v23002, (.i .i64 132), v23006] H23000 fun v23007 H23007 =>
 K17 .norm (Env.put s94 v21006 (Env.put s8 v19013 (Env.put s7 v16004 (Env.put s62 v13000 (Env.put s45 v10000 (Env.put s32 v7000 (Env.put s25 v4001 (Env.put s4 v2009 e)))))))) H23007 k23000)
 (K17 .norm (Env.put s94 v21006 (Env.put s8 v19013 (Env.put s7 v16004 (Env.put s62 v13000 (Env.put s45 v10000 (Env.put s32 v7000 (Env.put s25 v4001 (Env.put s4 v2009 e)))))))) H21005 k21005)) (fun k17 e17 H17 =>
 faK 3 (Env.get s4 e17) fun v18000 =>
 ldK false 1 v18000 H17 fun v18001 =>
 iaK .none 1 v18001 (.i .i64 1) fun v18002 =>
 ldK false 1 v18002 H17 fun v18003 =>
 ldK true 4 (Env.get s7 e17) H17 fun v18004 =>
 caK rec 108 [(Env.get s0 e17), v18003, v18004] H17 fun v18005 H18005 =>
 K5 .norm e17 H18005 k17) K5)
 (seqK (fun K15 =>
 binK .eql .no v4001 (.i .i64 11) fun v17000 =>
 condK v17000 (K15 .norm (Env.put s111 v17000 (Env.put s62 v13000 (Env.put s45 v10000 (Env.put s32 v7000 (Env.put s25 v4001 (Env.put s4 v2009 e)))))) H2010 k2003)
 (binK .eql .no v4001 (.i .i64 12) fun v19000 =>
 K15 .norm (Env.put s111 v19000 (Env.put s111 v17000 (Env.put s62 v13000 (Env.put s45 v10000 (Env.put s32 v7000 (Env.put s25 v4001 (Env.put s4 v2009 e))))))) H2010 k2003)) (fun k15 e15 H15 =>
 condK (Env.get s111 e15) (faK 3 (Env.get s4 e15) fun v18000 =>
 ldK false 1 v18000 H15 fun v18001 =>
 iaK .none 1 v18001 (.i .i64 0) fun v18002 =>
 ldK false 1 v18002 H15 fun v18003 =>
 caK rec 110 [(Env.get s0 e15), v18003, (.i .i64 2)] H15 fun v18004 H18004 =>
 seqK (fun K19 =>
 faK 0 (Env.get s4 e15) fun v21000 =>
 ldK false 1 v21000 H18004 fun v21001 =>
 binK .eql .no v21001 (.i .i64 12) fun v21002 =>
 condK v21002 (genK roundT rec (.nilCheck (.s s0)) k15 (Env.put s122 v21002 e15) [] H18004 fun v23000 H23000 k23000 =>
 faK 2 v23000 fun v23001 =>
 ldK false 1 v23001 H23000 fun v23002 =>
 binK .add .no v23002 (.i .i64 1) fun v23003 =>
 genK roundT rec (.nilCheck (.s s0)) k23000 (Env.put s122 v21002 e15) [v23003, v23002, v23001, v23000] H23000 fun v23004 H23004 k23004 =>
 faK 2 v23004 fun v23005 =>
 stK 1 v23003 v23005 H23004 fun H23006 =>
 K19 .norm (Env.put s122 v21002 e15) H23006 k23004)
 (K19 .norm (Env.put s122 v21002 e15) H18004 k15)) (fun k19 e19 H19 =>
 seqK (fun K20 =>
 faK 3 (Env.get s4 e19) fun v22000 =>
 ldK false 1 v22000 H19 fun v22001 =>
 slK (.some 1) v22001 (.some (.i .i64 1)) .none .none fun v22002 =>
 lnK .sl H19 v22002 fun v22003 =>
 blockK 3 (fun K23 =>
 loopK (fun k24 e24 H24 K24 =>
 binK .lss .no (Env.get s134 e24) (Env.get s133 e24) fun v26000 =>
 seqK (fun K27 =>
 condK v26000 (K27 .norm (Env.put s135 v26000 e24) H24 k24)
 (K27 (.exit 3) (Env.put s135 v26000 e24) H24 k24)) (fun k27 e27 H27 =>
 seqK (fun K28 =>
 blockK 4 (fun K29 =>
 iaK .none 1 (Env.get s132 e27) (Env.get s134 e27) fun v31000 =>
 ldK false 1 v31000 H27 fun v31001 =>
 seqK (fun K32 =>
 genK roundT rec (.nilCheck (.s s0)) k27 (Env.put s10 v31001 e27) [] H27 fun v34000 H34000 k34000 =>
 faK 0 v34000 fun v34001 =>
 ldK false 1 v34001 H34000 fun v34002 =>
 genK roundT rec (.nilCheck (.l 0)) k34000 (Env.put s10 v31001 e27) [v34002, v34001, v34000] H34000 fun v34003 H34003 k34003 =>
 faK 0 v34003 fun v34004 =>
 faK 0 v34004 fun v34005 =>
 ldK false 1 v34005 H34003 fun v34006 =>
 iaK .none 13 v34006 v31001 fun v34007 =>
 faK 0 v34007 fun v34008 =>
 ldK false 1 v34008 H34003 fun v34009 =>
 binK .neq .no v34009 (.i .i64 8) fun v34010 =>
 condK v34010 (genK roundT rec (.nilCheck (.s s0)) k34003 (Env.put s150 v34010 (Env.put s10 v31001 e27)) [] H34003 fun v36000 H36000 k36000 =>
 faK 0 v36000 fun v36001 =>
 ldK false 1 v36001 H36000 fun v36002 =>
 caK rec 105 [v36002, (.i .i64 132), v31001] H36000 fun v36003 H36003 =>
 K32 .norm (Env.put s150 v34010 (Env.put s10 v31001 e27)) H36003 k36000)
 (K32 .norm (Env.put s150 v34010 (Env.put s10 v31001 e27)) H34003 k34003)) (fun k32 e32 H32 =>
 caK rec 71 [(Env.get s0 e32), (Env.get s10 e32)] H32 fun v33000 H33000 =>
 K29 .norm e32 H33000 k32) K29) K28) (fun k28 e28 H28 =>
 binK .add .no (Env.get s134 e28) (.i .i64 1) fun v29000 =>
 K24 .norm (Env.put s134 v29000 e28) H28 k28) K24) K24) rounds K23 k19 (Env.put s132 v22002 (Env.put s133 v22003 (Env.put s134 (.i .i64 0) e19))) H19) K20) (fun k20 e20 H20 =>
 faK 0 (Env.get s4 e20) fun v22000 =>
 ldK false 1 v22000 H20 fun v22001 =>
 binK .eql .no v22001 (.i .i64 12) fun v22002 =>
 condK v22002 (genK roundT rec (.nilCheck (.s s0)) k20 (Env.put s163 v22002 e20) [] H20 fun v24000 H24000 k24000 =>
 faK 2 v24000 fun v24001 =>
 ldK false 1 v24001 H24000 fun v24002 =>
 binK .sub .no v24002 (.i .i64 1) fun v24003 =>
 genK roundT rec (.nilCheck (.s s0)) k24000 (Env.put s163 v22002 e20) [v24003, v24002, v24001, v24000] H24000 fun v24004 H24004 k24004 =>
 faK 2 v24004 fun v24005 =>
 stK 1 v24003 v24005 H24004 fun H24006 =>
 K5 .norm (Env.put s163 v22002 e20) H24006 k24004)
 (K5 .norm (Env.put s163 v22002 e20) H20 k20)) K5) K5)
 (seqK (fun K17 =>
 binK .eql .no (Env.get s25 e15) (.i .i64 13) fun v19000 =>
 condK v19000 (K17 .norm (Env.put s171 v19000 e15) H15 k15)
 (binK .eql .no (Env.get s25 e15) (.i .i64 14) fun v21000 =>
 K17 .norm (Env.put s171 v21000 (Env.put s171 v19000 e15)) H15 k15)) (fun k17 e17 H17 =>
 condK (Env.get s171 e17) (genK roundT rec (.nilCheck (.s s0)) k17 e17 [] H17 fun v20000 H20000 k20000 =>
 faK 2 v20000 fun v20001 =>
 ldK false 1 v20001 H20000 fun v20002 =>
 binK .eql .no v20002 (.i .i64 0) fun v20003 =>
 condK v20003 (genK roundT rec (.nilCheck (.s s0)) k20000 (Env.put s178 v20003 e17) [] H20000 fun v22000 H22000 k22000 =>
 faK 0 v22000 fun v22001 =>
 ldK false 1 v22001 H22000 fun v22002 =>
 caK rec 105 [v22002, (.i .i64 132), (Env.get s1 e17)] H22000 fun v22003 H22003 =>
 K5 .norm (Env.put s178 v20003 e17) H22003 k22000)
 (K5 .norm (Env.put s178 v20003 e17) H20000 k20000))
 (binK .eql .no (Env.get s25 e17) (.i .i64 15) fun v20000 =>
 condK v20000 (ldK true 13 (Env.get s4 e17) H17 fun v22000 =>
 caK rec 111 [(Env.get s0 e17), (Env.get s1 e17), v22000] H17 fun v22001 H22001 =>
 K5 .norm (Env.put s185 v20000 e17) H22001 k17)
 (binK .eql .no (Env.get s25 e17) (.i .i64 16) fun v23000 =>
 condK v23000 (faK 3 (Env.get s4 e17) fun v26000 =>
 ldK false 1 v26000 H17 fun v26001 =>
 iaK .none 1 v26001 (.i .i64 0) fun v26002 =>
 ldK false 1 v26002 H17 fun v26003 =>
 newK [(.i .i64 0), (.s []), (.i .i64 0), (.s [])] H17 fun v26004 H26004 =>
 caK rec 109 [(Env.get s0 e17), v26003] H26004 fun v26005 H26005 =>
 stK 4 v26005 v26004 H26005 fun H26006 =>
 faK 2 v26004 fun v28000 =>
 ldK false 1 v28000 H26006 fun v28001 =>
 binK .gtr .no v28001 (.i .i64 0) fun v28002 =>
 gdK v28002 false (fun R28003 => faK 0 v26004 fun v28003 =>
 R28003 v28003 H26006 k17) H26006 k17 fun v28003 H28003 k28003 =>
 gdK v28002 false (fun R28004 => ldK false 1 v28003 H28003 fun v28004 =>
 R28004 v28004 H28003 k28003) H28003 k28003 fun v28004 H28004 k28004 =>
 gdK v28002 false (fun R28005 => binK .lss .no v28004 (.i .i64 1) fun v28005 =>
 R28005 v28005 H28004 k28004) H28004 k28004 fun v28005 H28005 k28005 =>
 pkK v28002 (.b true) v28005 fun v28006 =>
 gdK v28006 false (fun R28007 => faK 0 v26004 fun v28007 =>
 R28007 v28007 H28005 k28005) H28005 k28005 fun v28007 H28007 k28007 =>
 gdK v28006 false (fun R28008 => ldK false 1 v28007 H28007 fun v28008 =>
 R28008 v28008 H28007 k28007) H28007 k28007 fun v28008 H28008 k28008 =>
 gdK v28006 false (fun R28009 => binK .gtr .no v28008 (.i .i64 4) fun v28009 =>
 R28009 v28009 H28008 k28008) H28008 k28008 fun v28009 H28009 k28009 =>
 pkK v28006 (.b true) v28009 fun v28010 =>
 condK v28010 (genK roundT rec (.nilCheck (.s s0)) k28009 (Env.put s211 v28010 (Env.put s11 v26004 (Env.put s191 v23000 (Env.put s185 v20000 e17)))) [] H28009 fun v30000 H30000 k30000 =>
 faK 0 v30000 fun v30001 =>
 ldK false 1 v30001 H30000 fun v30002 =>
 faK 3 (Env.get s4 e17) fun v30003 =>
 ldK false 1 v30003 H30000 fun v30004 =>
 iaK .none 1 v30004 (.i .i64 0) fun v30005 =>
 ldK false 1 v30005 H30000 fun v30006 =>
 caK rec 105 [v30002, (.i .i64 130), v30006] H30000 fun v30007 H30007 =>
 K5 .norm (Env.put s211 v28010 (Env.put s11 v26004 (Env.put s191 v23000 (Env.put s185 v20000 e17)))) H30007 k30000)
 (K5 .norm (Env.put s211 v28010 (Env.put s11 v26004 (Env.put s191 v23000 (Env.put s185 v20000 e17)))) H28009 k28009))
 (binK .eql .no (Env.get s25 e17) (.i .i64 18) fun v26000 =>
 condK v26000 (seqK (fun K28 =>
 genK roundT rec (.nilCheck (.s s0)) k17 (Env.put s221 v26000 (Env.put s191 v23000 (Env.put s185 v20000 e17))) [] H17 fun v30000 H30000 k30000 =>
 faK 0 v30000 fun v30001 =>
 ldK false 1 v30001 H30000 fun v30002 =>
 genK roundT rec (.nilCheck (.l 0)) k30000 (Env.put s221 v26000 (Env.put s191 v23000 (Env.put s185 v20000 e17))) [v30002, v30001, v30000] H30000 fun v30003 H30003 k30003 =>
 faK 0 v30003 fun v30004 =>
 faK 0 v30004 fun v30005 =>
 ldK false 1 v30005 H30003 fun v30006 =>
 faK 3 (Env.get s4 e17) fun v30007 =>
 ldK false 1 v30007 H30003 fun v30008 =>
 iaK .none 1 v30008 (.i .i64 0) fun v30009 =>
 ldK false 1 v30009 H30003 fun v30010 =>
 iaK .none 13 v30006 v30010 fun v30011 =>
 faK 0 v30011 fun v30012 =>
 ldK false 1 v30012 H30003 fun v30013 =>
 binK .neq .no v30013 (.i .i64 29) fun v32000 =>
 gdK v32000 true (fun R32001 => R32001 v30013 H30003 k30003) H30003 k30003 fun v32001 H32001 k32001 =>
 gdK v32000 true (fun R32002 => binK .neq .no v32001 (.i .i64 30) fun v32002 =>
 R32002 v32002 H32001 k32001) H32001 k32001 fun v32002 H32002 k32002 =>
 pkK v32000 v32002 (.b false) fun v32003 =>
 condK v32003 (genK roundT rec (.nilCheck (.s s0)) k32002 (Env.put s243 v32003 (Env.put s12 v30013 (Env.put s221 v26000 (Env.put s191 v23000 (Env.put s185 v20000 e17))))) [] H32002 fun v34000 H34000 k34000 =>
 faK 0 v34000 fun v34001 =>
 ldK false 1 v34001 H34000 fun v34002 =>
 faK 3 (Env.get s4 e17) fun v34003 =>
 ldK false 1 v34003 H34000 fun v34004 =>
 iaK .none 1 v34004 (.i .i64 0) fun v34005 =>
 ldK false 1 v34005 H34000 fun v34006 =>
 caK rec 105 [v34002, (.i .i64 132), v34006] H34000 fun v34007 H34007 =>
 K28 .norm (Env.put s243 v32003 (Env.put s12 v30013 (Env.put s221 v26000 (Env.put s191 v23000 (Env.put s185 v20000 e17))))) H34007 k34000)
 (K28 .norm (Env.put s243 v32003 (Env.put s12 v30013 (Env.put s221 v26000 (Env.put s191 v23000 (Env.put s185 v20000 e17))))) H32002 k32002)) (fun k28 e28 H28 =>
 faK 3 (Env.get s4 e28) fun v29000 =>
 ldK false 1 v29000 H28 fun v29001 =>
 iaK .none 1 v29001 (.i .i64 0) fun v29002 =>
 ldK false 1 v29002 H28 fun v29003 =>
 caK rec 109 [(Env.get s0 e28), v29003] H28 fun v29004 H29004 =>
 K5 .norm e28 H29004 k28) K5)
 (genK roundT rec (.nilCheck (.s s0)) k17 (Env.put s221 v26000 (Env.put s191 v23000 (Env.put s185 v20000 e17))) [] H17 fun v28000 H28000 k28000 =>
 faK 0 v28000 fun v28001 =>
 ldK false 1 v28001 H28000 fun v28002 =>
 caK rec 105 [v28002, (.i .i64 132), (Env.get s1 e17)] H28000 fun v28003 H28003 =>
 K5 .norm (Env.put s221 v26000 (Env.put s191 v23000 (Env.put s185 v20000 e17))) H28003 k28000))))) K5)) K5)))) (endK recD [])
theorem Tryz.cOk71 : (compFn Tryz.prog Tryz.f71).map (bodyK 71) = some Tryz.c71 := by kernel_rfl
def Tryz.c72 : FnK := fun rec recD args H => startK 1 args fun e =>
 newK [(.s []), (.i .i64 0), (.i .i64 0), (.b false), (.b false)] H fun v2000 H2000 =>
 seqK (fun K3 =>
 binK .lss .no (Env.get s0 e) (.i .i64 0) fun v5000 =>
 gdK v5000 false (fun R5001 => R5001 (Env.get s0 e) H2000 (Ctl.mk [] .none)) H2000 (Ctl.mk [] .none) fun v5001 H5001 k5001 =>
 gdK v5000 false (fun R5002 => binK .geq .no v5001 (.i .i64 46) fun v5002 =>
 R5002 v5002 H5001 k5001) H5001 k5001 fun v5002 H5002 k5002 =>
 pkK v5000 (.b true) v5002 fun v5003 =>
 condK v5003 (bdK [(.s []), (.i .i64 0), (.i .i64 0), (.b false), (.b false)] [] fun v8000 =>
 stK 5 v8000 v2000 H5002 fun H8001 =>
 K3 .ret (Env.put s8 v5003 (Env.put s2 v2000 e)) H8001 k5002)
 (K3 .norm (Env.put s8 v5003 (Env.put s2 v2000 e)) H5002 k5002)) (fun k3 e3 H3 =>
 caK rec 112 [] H3 fun v5000 H5000 =>
 ixK (.some (46, true, 5)) v5000 (Env.get s0 e3) fun v5001 =>
 stK 5 v5001 (Env.get s2 e3) H5000 fun H5002 =>
 (endK recD [.cell true 5 s2]) .ret e3 H5002 k3) (endK recD [.cell true 5 s2])
theorem Tryz.cOk72 : (compFn Tryz.prog Tryz.f72).map (bodyK 72) = some Tryz.c72 := by kernel_rfl
def Tryz.c79 : FnK := fun rec recD args H => startK 2 args fun e =>
 binK .gtr .no (Env.get s1 e) (.i .i64 64) fun v2000 =>
 condK v2000 (newK [(.i .i64 0), (.i .i64 0), (.i .i64 0)] H fun v5000 H5000 =>
 caK rec 78 [(Env.get s0 e)] H5000 fun v5001 H5001 =>
 exK 0 v5001 fun v5002 =>
 exK 1 v5001 fun v5003 =>
 stK 3 v5002 v5000 H5001 fun H5004 =>
 faK 1 v5000 fun v6000 =>
 faK 0 v6000 fun v6001 =>
 ldK false 1 v6001 H5004 fun v6002 =>
 caK rec 126 [(.i .i64 2), v6002] H5004 fun v6003 H6003 =>
 (endK recD []) .norm (Env.put s4 v5000 (Env.put s7 v2000 e)) H6003 (Ctl.mk [] .none))
 ((endK recD []) .norm (Env.put s7 v2000 e) H (Ctl.mk [] .none))
theorem Tryz.cOk79 : (compFn Tryz.prog Tryz.f79).map (bodyK 79) = some Tryz.c79 := by kernel_rfl
def Tryz.c81 : FnK := fun rec recD args H => startK 3 args fun e =>
 bxK (Env.get s1 e) H fun v2000 H2000 =>
 faK 1 v2000 fun v4000 =>
 faK 0 v4000 fun v4001 =>
 stK 1 (Env.get s2 e) v4001 H2000 fun H4002 =>
 faK 1 v2000 fun v4003 =>
 faK 1 v4003 fun v4004 =>
 stK 1 (Env.get s2 e) v4004 H4002 fun H4005 =>
 seqK (fun K5 =>
 genK roundT rec (.nilCheck (.s s0)) (Ctl.mk [] .none) (Env.put s4 v2000 (Env.put s6 (.i .i64 0) e)) [] H4005 fun v7000 H7000 k7000 =>
 faK 2 v7000 fun v7001 =>
 ldK false 1 v7001 H7000 fun v7002 =>
 binK .gtr .no v7002 (.i .i64 0) fun v7003 =>
 condK v7003 (genK roundT rec (.nilCheck (.s s0)) k7000 (Env.put s19 v7003 (Env.put s4 v2000 (Env.put s6 (.i .i64 0) e))) [] H7000 fun v9000 H9000 k9000 =>
 faK 1 v9000 fun v9001 =>
 ldK false 1 v9001 H9000 fun v9002 =>
 genK roundT rec (.nilCheck (.s s0)) k9000 (Env.put s19 v7003 (Env.put s4 v2000 (Env.put s6 (.i .i64 0) e))) [v9002, v9001, v9000] H9000 fun v9003 H9003 k9003 =>
 faK 2 v9003 fun v9004 =>
 ldK false 1 v9004 H9003 fun v9005 =>
 binK .sub .no v9005 (.i .i64 1) fun v9006 =>
 iaK .none 3 v9002 v9006 fun v9007 =>
 faK 1 v9007 fun v9008 =>
 faK 1 v9008 fun v9009 =>
 ldK false 1 v9009 H9003 fun v9010 =>
 genK roundT rec (.extreme true [(.s s2), (.l 0)]) k9003 (Env.put s19 v7003 (Env.put s4 v2000 (Env.put s6 (.i .i64 0) e))) [v9010, v9009, v9008, v9007, v9006, v9005, v9004, v9003, v9002, v9001, v9000] H9003 fun v9011 H9011 k9011 =>
 faK 1 v2000 fun v9012 =>
 faK 1 v9012 fun v9013 =>
 stK 1 v9011 v9013 H9011 fun H9014 =>
 K5 .norm (Env.put s19 v7003 (Env.put s4 v2000 (Env.put s6 (.i .i64 0) e))) H9014 k9011)
 (K5 .norm (Env.put s19 v7003 (Env.put s4 v2000 (Env.put s6 (.i .i64 0) e))) H7000 k7000)) (fun k5 e5 H5 =>
 genK roundT rec (.nilCheck (.s s0)) k5 e5 [] H5 fun v7000 H7000 k7000 =>
 faK 4 v7000 fun v7001 =>
 ldK true 13 (Env.get s4 e5) H7000 fun v7002 =>
 caK rec 74 [v7001, v7002] H7000 fun v7003 H7003 =>
 exK 0 v7003 fun v7004 =>
 exK 1 v7003 fun v7005 =>
 seqK (fun K8 =>
 unK .not v7005 fun v10000 =>
 gdK v10000 false (fun R10001 => R10001 v7004 H7003 k7000) H7003 k7000 fun v10001 H10001 k10001 =>
 gdK v10000 false (fun R10002 => binK .geq .no v10001 (.i .i64 8192) fun v10002 =>
 R10002 v10002 H10001 k10001) H10001 k10001 fun v10002 H10002 k10002 =>
 pkK v10000 (.b true) v10002 fun v10003 =>
 condK v10003 (caK rec 126 [(.i .i64 2), (Env.get s2 e5)] H10002 fun v12000 H12000 =>
 K8 .norm (Env.put s50 v10003 (Env.put s7 v7004 (Env.put s8 v7005 e5))) H12000 k10002)
 (K8 .norm (Env.put s50 v10003 (Env.put s7 v7004 (Env.put s8 v7005 e5))) H10002 k10002)) (fun k8 e8 H8 =>
 (endK recD [.slot s6]) .ret (Env.put s6 (Env.get s7 e8) e8) H8 k8) (endK recD [.slot s6])) (endK recD [.slot s6])
theorem Tryz.cOk81 : (compFn Tryz.prog Tryz.f81).map (bodyK 81) = some Tryz.c81 := by kernel_rfl
def Tryz.c92 : FnK := fun rec recD args H => startK 1 args fun e =>
 lnK .sl H (Env.get s0 e) fun v2000 =>
 binK .sub .no v2000 (.i .i64 1) fun v2001 =>
 blockK 0 (fun K3 =>
 loopK (fun k4 e4 H4 K4 =>
 seqK (fun K5 =>
 binK .lss .no (Env.get s2 e4) (Env.get s3 e4) fun v7000 =>
 condK v7000 (K5 .norm (Env.put s9 v7000 e4) H4 k4)
 (K5 (.exit 0) (Env.put s9 v7000 e4) H4 k4)) (fun k5 e5 H5 =>
 seqK (fun K6 =>
 blockK 1 (fun K7 =>
 iaK .none 1 (Env.get s0 e5) (Env.get s3 e5) fun v8000 =>
 ldK false 1 v8000 H5 fun v8001 =>
 iaK .none 1 (Env.get s0 e5) (Env.get s2 e5) fun v8002 =>
 ldK false 1 v8002 H5 fun v8003 =>
 iaK .none 1 (Env.get s0 e5) (Env.get s2 e5) fun v8004 =>
 stK 1 v8001 v8004 H5 fun H8005 =>
 iaK .none 1 (Env.get s0 e5) (Env.get s3 e5) fun v8006 =>
 stK 1 v8003 v8006 H8005 fun H8007 =>
 K7 .norm e5 H8007 k5) K6) (fun k6 e6 H6 =>
 binK .add .no (Env.get s2 e6) (.i .i64 1) fun v7000 =>
 binK .sub .no (Env.get s3 e6) (.i .i64 1) fun v7001 =>
 K4 .norm (Env.put s2 v7000 (Env.put s3 v7001 e6)) H6 k6) K4) K4) rounds K3 (Ctl.mk [] .none) (Env.put s2 (.i .i64 0) (Env.put s3 v2001 e)) H) (endK recD [])
theorem Tryz.cOk92 : (compFn Tryz.prog Tryz.f92).map (bodyK 92) = some Tryz.c92 := by kernel_rfl
def Tryz.c93 : FnK := fun rec recD args H => startK 2 args fun e =>
 newK [(.i .i64 0), (.i .i64 0), (.i .i64 0), (.i .i64 0), (.i .i64 0)] H fun v2000 H2000 =>
 genK roundT rec (.nilCheck (.s s0)) (Ctl.mk [] .none) (Env.put s4 v2000 e) [] H2000 fun v4000 H4000 k4000 =>
 faK 1 v4000 fun v4001 =>
 ldK false 1 v4001 H4000 fun v4002 =>
 iaK .none 5 v4002 (Env.get s1 e) fun v4003 =>
 ldK true 5 v4003 H4000 fun v4004 =>
 stK 5 v4004 v2000 H4000 fun H4005 =>
 (endK recD [.cell true 5 s4]) .ret (Env.put s4 v2000 e) H4005 k4000
theorem Tryz.cOk93 : (compFn Tryz.prog Tryz.f93).map (bodyK 93) = some Tryz.c93 := by kernel_rfl
def Tryz.c104 : FnK := fun rec recD args H => startK 2 args fun e =>
 newK [(.i .i64 0), (.i .i64 0)] H fun v2000 H2000 =>
 genK roundT rec (.nilCheck (.s s0)) (Ctl.mk [] .none) (Env.put s4 v2000 e) [] H2000 fun v4000 H4000 k4000 =>
 faK 0 v4000 fun v4001 =>
 faK 0 v4001 fun v4002 =>
 ldK false 1 v4002 H4000 fun v4003 =>
 iaK .none 13 v4003 (Env.get s1 e) fun v4004 =>
 ldK true 13 v4004 H4000 fun v4005 =>
 newK [(.i .i64 0), (.i .i64 0), (.i .i64 0), .sl0, (.s []), (.i .i64 0), (.s []), (.i .i64 0), (.s []), (.i .i64 0), (.i .i64 0), (.i .i64 0), .sl0] H4000 fun v4006 H4006 =>
 stK 13 v4005 v4006 H4006 fun H4007 =>
 seqK (fun K5 =>
 faK 0 v4006 fun v7000 =>
 ldK false 1 v7000 H4007 fun v7001 =>
 blockK 0 (fun K8 =>
 binK .eql .no v7001 (.i .i64 7) fun v10000 =>
 condK v10000 (caK rec 141 [(Env.get s0 e), (Env.get s1 e), (.b true)] H4007 fun v13000 H13000 =>
 stK 2 v13000 v2000 H13000 fun H13001 =>
 K8 .ret (Env.put s20 v10000 (Env.put s19 v7001 (Env.put s5 v4006 (Env.put s4 v2000 e)))) H13001 k4000)
 (binK .eql .no v7001 (.i .i64 25) fun v13000 =>
 condK v13000 (caK rec 142 [(Env.get s0 e), (Env.get s1 e)] H4007 fun v16000 H16000 =>
 stK 2 v16000 v2000 H16000 fun H16001 =>
 K8 .ret (Env.put s25 v13000 (Env.put s20 v10000 (Env.put s19 v7001 (Env.put s5 v4006 (Env.put s4 v2000 e))))) H16001 k4000)
 (K8 .norm (Env.put s25 v13000 (Env.put s20 v10000 (Env.put s19 v7001 (Env.put s5 v4006 (Env.put s4 v2000 e))))) H4007 k4000))) K5) (fun k5 e5 H5 =>
 genK roundT rec (.nilCheck (.s s0)) k5 e5 [] H5 fun v7000 H7000 k7000 =>
 faK 4 v7000 fun v7001 =>
 ldK false 1 v7001 H7000 fun v7002 =>
 lnK .sl H7000 v7002 fun v7003 =>
 seqK (fun K8 =>
 faK 3 (Env.get s5 e5) fun v10000 =>
 ldK false 1 v10000 H7000 fun v10001 =>
 lnK .sl H7000 v10001 fun v10002 =>
 blockK 1 (fun K11 =>
 loopK (fun k12 e12 H12 K12 =>
 binK .lss .no (Env.get s38 e12) (Env.get s37 e12) fun v14000 =>
 seqK (fun K15 =>
 condK v14000 (K15 .norm (Env.put s39 v14000 e12) H12 k12)
 (K15 (.exit 1) (Env.put s39 v14000 e12) H12 k12)) (fun k15 e15 H15 =>
 seqK (fun K16 =>
 blockK 2 (fun K17 =>
 iaK .none 1 (Env.get s36 e15) (Env.get s38 e15) fun v19000 =>
 ldK false 1 v19000 H15 fun v19001 =>
 newK [(.i .i64 0), (.i .i64 0)] H15 fun v21000 H21000 =>
 caK rec 104 [(Env.get s0 e15), v19001] H21000 fun v21001 H21001 =>
 stK 2 v21001 v21000 H21001 fun H21002 =>
 faK 0 v21000 fun v23000 =>
 ldK false 1 v23000 H21002 fun v23001 =>
 binK .neq .no v23001 (.i .i64 0) fun v23002 =>
 condK v23002 (ldK true 2 v21000 H21002 fun v26000 =>
 stK 2 v26000 (Env.get s4 e15) H21002 fun H26001 =>
 K17 .ret (Env.put s47 v23002 (Env.put s9 v21000 (Env.put s8 v19001 e15))) H26001 k15)
 (K17 .norm (Env.put s47 v23002 (Env.put s9 v21000 (Env.put s8 v19001 e15))) H21002 k15)) K16) (fun k16 e16 H16 =>
 binK .add .no (Env.get s38 e16) (.i .i64 1) fun v17000 =>
 K12 .norm (Env.put s38 v17000 e16) H16 k16) K12) K12) rounds K11 k7000 (Env.put s36 v10001 (Env.put s37 v10002 (Env.put s38 (.i .i64 0) (Env.put s6 v7003 e5)))) H7000) K8) (fun k8 e8 H8 =>
 seqK (fun K9 =>
 faK 0 (Env.get s5 e8) fun v11000 =>
 ldK false 1 v11000 H8 fun v11001 =>
 blockK 3 (fun K12 =>
 binK .eql .no v11001 (.i .i64 9) fun v14000 =>
 condK v14000 (caK rec 141 [(Env.get s0 e8), (Env.get s1 e8), (.b false)] H8 fun v17000 H17000 =>
 stK 2 v17000 (Env.get s4 e8) H17000 fun H17001 =>
 K12 .ret (Env.put s52 v14000 (Env.put s51 v11001 e8)) H17001 k8)
 (binK .eql .no v11001 (.i .i64 8) fun v17000 =>
 condK v17000 (genK roundT rec (.nilCheck (.s s0)) k8 (Env.put s57 v17000 (Env.put s52 v14000 (Env.put s51 v11001 e8))) [] H8 fun v19000 H19000 k19000 =>
 faK 4 v19000 fun v19001 =>
 ldK false 1 v19001 H19000 fun v19002 =>
 slK (.some 1) v19002 .none (.some (Env.get s6 e8)) (.some (Env.get s6 e8)) fun v19003 =>
 genK roundT rec (.nilCheck (.s s0)) k19000 (Env.put s57 v17000 (Env.put s52 v14000 (Env.put s51 v11001 e8))) [v19003, v19002, v19001, v19000] H19000 fun v19004 H19004 k19004 =>
 faK 4 v19004 fun v19005 =>
 stK 1 v19003 v19005 H19004 fun H19006 =>
 K12 .norm (Env.put s57 v17000 (Env.put s52 v14000 (Env.put s51 v11001 e8))) H19006 k19004)
 (K12 .norm (Env.put s57 v17000 (Env.put s52 v14000 (Env.put s51 v11001 e8))) H8 k8))) K9) (fun k9 e9 H9 =>
 bdK [(.i .i64 0), (.i .i64 0)] [] fun v11000 =>
 stK 2 v11000 (Env.get s4 e9) H9 fun H11001 =>
 (endK recD [.cell true 2 s4]) .ret e9 H11001 k9) (endK recD [.cell true 2 s4])) (endK recD [.cell true 2 s4])) (endK recD [.cell true 2 s4])
theorem Tryz.cOk104 : (compFn Tryz.prog Tryz.f104).map (bodyK 104) = some Tryz.c104 := by kernel_rfl
def Tryz.c110 : FnK := fun rec recD args H => startK 3 args fun e =>
 caK rec 109 [(Env.get s0 e), (Env.get s1 e)] H fun v2000 H2000 =>
 caK rec 101 [v2000, (Env.get s2 e)] H2000 fun v2001 H2001 =>
 unK .not v2001 fun v2002 =>
 condK v2002 (genK roundT rec (.nilCheck (.s s0)) (Ctl.mk [] .none) (Env.put s11 v2002 e) [] H2001 fun v4000 H4000 k4000 =>
 faK 0 v4000 fun v4001 =>
 ldK false 1 v4001 H4000 fun v4002 =>
 caK rec 105 [v4002, (.i .i64 130), (Env.get s1 e)] H4000 fun v4003 H4003 =>
 (endK recD []) .norm (Env.put s11 v2002 e) H4003 k4000)
 ((endK recD []) .norm (Env.put s11 v2002 e) H2001 (Ctl.mk [] .none))
theorem Tryz.cOk110 : (compFn Tryz.prog Tryz.f110).map (bodyK 110) = some Tryz.c110 := by kernel_rfl
def Tryz.c131 : FnK := fun rec recD args H => startK 1 args fun e =>
 newK [(.i .i64 0), (.i .i64 0), (.i .i64 0)] H fun v4000 H4000 =>
 caK rec 78 [(Env.get s0 e)] H4000 fun v4001 H4001 =>
 exK 0 v4001 fun v4002 =>
 exK 1 v4001 fun v4003 =>
 stK 3 v4002 v4000 H4001 fun H4004 =>
 seqK (fun K5 =>
 faK 0 v4000 fun v7000 =>
 ldK false 1 v7000 H4004 fun v7001 =>
 binK .eql .no v7001 (.i .i64 1) fun v7002 =>
 gdK v7002 true (fun R7003 => R7003 v4003 H4004 (Ctl.mk [] .none)) H4004 (Ctl.mk [] .none) fun v7003 H7003 k7003 =>
 gdK v7002 true (fun R7004 => binK .eql .no v7003 (.s [105, 110, 105, 116]) fun v7004 =>
 R7004 v7004 H7003 k7003) H7003 k7003 fun v7004 H7004 k7004 =>
 pkK v7002 v7004 (.b false) fun v7005 =>
 condK v7005 (caK rec 152 [(Env.get s0 e)] H7004 fun v10000 H10000 =>
 caK rec 154 [(Env.get s0 e)] H10000 fun v12000 H12000 =>
 faK 1 v4000 fun v14000 =>
 faK 0 v14000 fun v14001 =>
 ldK false 1 v14001 H12000 fun v14002 =>
 caK rec 155 [(Env.get s0 e)] H12000 fun v14003 H14003 =>
 boolK (and (again ⟨.load false 1 (.l 0), .none, []⟩ v14002 (Env.put s5 v12000 (Env.put s18 v7005 (Env.put s3 v4000 (Env.put s4 v4003 (Env.put s2 (.i .i64 0) e))))) [v14001, v14000] H14003) true) (genK roundT rec (.buildSlice 1 1 [(.i .i64 0)] [(0, (.l 0))]) k7004 (Env.put s5 v12000 (Env.put s18 v7005 (Env.put s3 v4000 (Env.put s4 v4003 (Env.put s2 (.i .i64 0) e))))) [v14003, v14002, v14001, v14000] H14003 fun v14004 H14004 k14004 =>
 apK 1 [(.i .i64 0)] H14004 v12000 v14004 fun v14005 H14005 =>
 boolK (and (again ⟨.load false 1 (.l 0), .none, []⟩ v14002 (Env.put s5 v12000 (Env.put s18 v7005 (Env.put s3 v4000 (Env.put s4 v4003 (Env.put s2 (.i .i64 0) e))))) [v14001, v14000] H14005) true) (bdK [(.i .i64 0), (.i .i64 0), (.i .i64 0), .sl0, (.s []), (.i .i64 0), (.s []), (.i .i64 0), (.s []), (.i .i64 0), (.i .i64 0), (.i .i64 0), .sl0] [(0, 1, (.i .i64 5)), (3, 1, v14005)] fun v14006 =>
 caK rec 81 [(Env.get s0 e), v14006, v14002] H14005 fun v14007 H14007 =>
 K5 .ret (Env.put s2 v14007 (Env.put s5 v12000 (Env.put s18 v7005 (Env.put s3 v4000 (Env.put s4 v4003 (Env.put s2 (.i .i64 0) e)))))) H14007 k14004)))
 (K5 .norm (Env.put s18 v7005 (Env.put s3 v4000 (Env.put s4 v4003 (Env.put s2 (.i .i64 0) e)))) H7004 k7004)) (fun k5 e5 H5 =>
 newK [(.i .i64 0), (.i .i64 0), (.i .i64 0), .sl0, (.s []), (.i .i64 0), (.s []), (.i .i64 0), (.s []), (.i .i64 0), (.i .i64 0), (.i .i64 0), .sl0] H5 fun v7000 H7000 =>
 caK rec 156 [(Env.get s0 e5), (.b true)] H7000 fun v7001 H7001 =>
 stK 13 v7001 v7000 H7001 fun H7002 =>
 caK rec 128 [(Env.get s0 e5)] H7002 fun v9000 H9000 =>
 faK 4 v7000 fun v9001 =>
 stK 1 v9000 v9001 H9000 fun H9002 =>
 seqK (fun K10 =>
 caK rec 130 [(Env.get s0 e5), (.s [40])] H9002 fun v12000 H12000 =>
 condK v12000 (faK 0 v7000 fun v15000 =>
 stK 1 (.i .i64 6) v15000 H12000 fun H15001 =>
 caK rec 154 [(Env.get s0 e5)] H15001 fun v17000 H17000 =>
 faK 3 v7000 fun v17001 =>
 stK 1 v17000 v17001 H17000 fun H17002 =>
 faK 3 v7000 fun v19000 =>
 ldK false 1 v19000 H17002 fun v19001 =>
 caK rec 155 [(Env.get s0 e5)] H17002 fun v19002 H19002 =>
 boolK (and (again ⟨.load false 1 (.l 0), .none, []⟩ v19001 (Env.put s40 v12000 (Env.put s6 v7000 e5)) [v19000] H19002) true) (genK roundT rec (.buildSlice 1 1 [(.i .i64 0)] [(0, (.l 0))]) k5 (Env.put s40 v12000 (Env.put s6 v7000 e5)) [v19002, v19001, v19000] H19002 fun v19003 H19003 k19003 =>
 apK 1 [(.i .i64 0)] H19003 v19001 v19003 fun v19004 H19004 =>
 faK 3 v7000 fun v19005 =>
 stK 1 v19004 v19005 H19004 fun H19006 =>
 ldK true 13 v7000 H19006 fun v21000 =>
 faK 1 (Env.get s3 e5) fun v21001 =>
 faK 0 v21001 fun v21002 =>
 ldK false 1 v21002 H19006 fun v21003 =>
 caK rec 81 [(Env.get s0 e5), v21000, v21003] H19006 fun v21004 H21004 =>
 K10 .ret (Env.put s2 v21004 (Env.put s40 v12000 (Env.put s6 v7000 e5))) H21004 k19003))
 (K10 .norm (Env.put s40 v12000 (Env.put s6 v7000 e5)) H12000 k5)) (fun k10 e10 H10 =>
 seqK (fun K11 =>
 faK 5 (Env.get s6 e10) fun v13000 =>
 faK 0 v13000 fun v13001 =>
 ldK false 1 v13001 H10 fun v13002 =>
 binK .eql .no v13002 (.i .i64 6) fun v13003 =>
 condK v13003 (faK 1 (Env.get s3 e10) fun v15000 =>
 faK 0 v15000 fun v15001 =>
 ldK false 1 v15001 H10 fun v15002 =>
 caK rec 126 [(.i .i64 80), v15002] H10 fun v15003 H15003 =>
 K11 .norm (Env.put s61 v13003 e10) H15003 k10)
 (K11 .norm (Env.put s61 v13003 e10) H10 k10)) (fun k11 e11 H11 =>
 caK rec 127 [(Env.get s0 e11), (.s [59])] H11 fun v13000 H13000 =>
 faK 0 (Env.get s6 e11) fun v15000 =>
 stK 1 (.i .i64 4) v15000 H13000 fun H15001 =>
 ldK true 13 (Env.get s6 e11) H15001 fun v17000 =>
 faK 1 (Env.get s3 e11) fun v17001 =>
 faK 0 v17001 fun v17002 =>
 ldK false 1 v17002 H15001 fun v17003 =>
 caK rec 81 [(Env.get s0 e11), v17000, v17003] H15001 fun v17004 H17004 =>
 (endK recD [.slot s2]) .ret (Env.put s2 v17004 e11) H17004 k11) (endK recD [.slot s2])) (endK recD [.slot s2])) (endK recD [.slot s2])
theorem Tryz.cOk131 : (compFn Tryz.prog Tryz.f131).map (bodyK 131) = some Tryz.c131 := by kernel_rfl
def Tryz.c133 : FnK := fun rec recD args H => startK 2 args fun e =>
 seqK (fun K3 =>
 genK roundT rec (.nilCheck (.s s0)) (Ctl.mk [] .none) (Env.put s4 (.i .i64 0) e) [] H fun v5000 H5000 k5000 =>
 faK 0 v5000 fun v5001 =>
 ldK false 1 v5001 H5000 fun v5002 =>
 caK rec 10 [v5002, (Env.get s1 e)] H5000 fun v5003 H5003 =>
 fdK false 0 1 v5003 fun v5004 =>
 binK .neq .no v5004 (.i .i64 25) fun v5005 =>
 condK v5005 (K3 .ret (Env.put s4 (.i .i64 (-1)) (Env.put s12 v5005 (Env.put s4 (.i .i64 0) e))) H5003 k5000)
 (K3 .norm (Env.put s12 v5005 (Env.put s4 (.i .i64 0) e)) H5003 k5000)) (fun k3 e3 H3 =>
 genK roundT rec (.nilCheck (.s s0)) k3 e3 [] H3 fun v5000 H5000 k5000 =>
 faK 0 v5000 fun v5001 =>
 ldK false 1 v5001 H5000 fun v5002 =>
 caK rec 14 [v5002, (Env.get s1 e3)] H5000 fun v5003 H5003 =>
 (endK recD [.slot s4]) .ret (Env.put s4 v5003 e3) H5003 k5000) (endK recD [.slot s4])
theorem Tryz.cOk133 : (compFn Tryz.prog Tryz.f133).map (bodyK 133) = some Tryz.c133 := by kernel_rfl
def Tryz.c136 : FnK := fun rec recD args H => startK 2 args fun e =>
 newK [(.i .i64 0), (.i .i64 0), (.i .i64 0), .sl0, (.s []), (.i .i64 0), (.s []), (.i .i64 0), (.s []), (.i .i64 0), (.i .i64 0), (.i .i64 0), .sl0] H fun v4000 H4000 =>
 caK rec 10 [(Env.get s0 e), (Env.get s1 e)] H4000 fun v4001 H4001 =>
 stK 13 v4001 v4000 H4001 fun H4002 =>
 seqK (fun K5 =>
 faK 0 v4000 fun v7000 =>
 ldK false 1 v7000 H4002 fun v7001 =>
 binK .neq .no v7001 (.i .i64 34) fun v7002 =>
 gdK v7002 false (fun R7003 => faK 4 v4000 fun v7003 =>
 R7003 v7003 H4002 (Ctl.mk [] .none)) H4002 (Ctl.mk [] .none) fun v7003 H7003 k7003 =>
 gdK v7002 false (fun R7004 => ldK false 1 v7003 H7003 fun v7004 =>
 R7004 v7004 H7003 k7003) H7003 k7003 fun v7004 H7004 k7004 =>
 gdK v7002 false (fun R7005 => binK .neq .no v7004 (.s [61, 61]) fun v7005 =>
 R7005 v7005 H7004 k7004) H7004 k7004 fun v7005 H7005 k7005 =>
 gdK v7002 false (fun R7006 => R7006 v7005 H7005 k7005) H7005 k7005 fun v7006 H7006 k7006 =>
 gdK v7006 true (fun R7007 => faK 4 v4000 fun v7007 =>
 R7007 v7007 H7006 k7006) H7006 k7006 fun v7007 H7007 k7007 =>
 gdK v7006 true (fun R7008 => ldK false 1 v7007 H7007 fun v7008 =>
 R7008 v7008 H7007 k7007) H7007 k7007 fun v7008 H7008 k7008 =>
 gdK v7006 true (fun R7009 => binK .neq .no v7008 (.s [33, 61]) fun v7009 =>
 R7009 v7009 H7008 k7008) H7008 k7008 fun v7009 H7009 k7009 =>
 gdK v7002 false (fun R7010 => pkK v7006 v7009 (.b false) fun v7010 =>
 R7010 v7010 H7009 k7009) H7009 k7009 fun v7010 H7010 k7010 =>
 pkK v7002 (.b true) v7010 fun v7011 =>
 condK v7011 (K5 .ret (Env.put s4 (.i .i64 (-1)) (Env.put s23 v7011 (Env.put s5 v4000 (Env.put s4 (.i .i64 0) e)))) H7010 k7010)
 (K5 .norm (Env.put s23 v7011 (Env.put s5 v4000 (Env.put s4 (.i .i64 0) e))) H7010 k7010)) (fun k5 e5 H5 =>
 faK 3 (Env.get s5 e5) fun v7000 =>
 ldK false 1 v7000 H5 fun v7001 =>
 iaK .none 1 v7001 (.i .i64 0) fun v7002 =>
 ldK false 1 v7002 H5 fun v7003 =>
 faK 3 (Env.get s5 e5) fun v7004 =>
 ldK false 1 v7004 H5 fun v7005 =>
 iaK .none 1 v7005 (.i .i64 1) fun v7006 =>
 ldK false 1 v7006 H5 fun v7007 =>
 caK rec 10 [(Env.get s0 e5), v7003] H5 fun v7008 H7008 =>
 boolK (and (again ⟨.load false 1 (.l 0), .none, []⟩ v7007 e5 [v7006, v7005, v7004, v7003, v7002, v7001, v7000] H7008) (and (again ⟨.load false 1 (.l 0), .none, []⟩ v7005 e5 [v7004, v7003, v7002, v7001, v7000] H7008) true)) (fdK false 0 1 v7008 fun v7009 =>
 caK rec 10 [(Env.get s0 e5), v7007] H7008 fun v7010 H7010 =>
 fdK false 0 1 v7010 fun v7011 =>
 seqK (fun K8 =>
 blockK 0 (fun K9 =>
 binK .eql .no v7009 (.i .i64 25) fun v11000 =>
 gdK v11000 true (fun R11001 => R11001 v7011 H7010 k5) H7010 k5 fun v11001 H11001 k11001 =>
 gdK v11000 true (fun R11002 => binK .eql .no v11001 (.i .i64 23) fun v11002 =>
 R11002 v11002 H11001 k11001) H11001 k11001 fun v11002 H11002 k11002 =>
 pkK v11000 v11002 (.b false) fun v11003 =>
 condK v11003 (faK 3 (Env.get s5 e5) fun v14000 =>
 ldK false 1 v14000 H11002 fun v14001 =>
 iaK .none 1 v14001 (.i .i64 0) fun v14002 =>
 ldK false 1 v14002 H11002 fun v14003 =>
 K9 .ret (Env.put s4 v14003 (Env.put s38 v11003 (Env.put s6 v7009 (Env.put s7 v7011 e5)))) H11002 k11002)
 (binK .eql .no v7009 (.i .i64 23) fun v14000 =>
 gdK v14000 true (fun R14001 => R14001 v7011 H11002 k11002) H11002 k11002 fun v14001 H14001 k14001 =>
 gdK v14000 true (fun R14002 => binK .eql .no v14001 (.i .i64 25) fun v14002 =>
 R14002 v14002 H14001 k14001) H14001 k14001 fun v14002 H14002 k14002 =>
 pkK v14000 v14002 (.b false) fun v14003 =>
 condK v14003 (faK 3 (Env.get s5 e5) fun v17000 =>
 ldK false 1 v17000 H14002 fun v17001 =>
 iaK .none 1 v17001 (.i .i64 1) fun v17002 =>
 ldK false 1 v17002 H14002 fun v17003 =>
 K9 .ret (Env.put s4 v17003 (Env.put s49 v14003 (Env.put s38 v11003 (Env.put s6 v7009 (Env.put s7 v7011 e5))))) H14002 k14002)
 (K9 .norm (Env.put s49 v14003 (Env.put s38 v11003 (Env.put s6 v7009 (Env.put s7 v7011 e5)))) H14002 k14002))) K8) (fun k8 e8 H8 =>
 (endK recD [.slot s4]) .ret (Env.put s4 (.i .i64 (-1)) e8) H8 k8) (endK recD [.slot s4]))) (endK recD [.slot s4])
theorem Tryz.cOk136 : (compFn Tryz.prog Tryz.f136).map (bodyK 136) = some Tryz.c136 := by kernel_rfl
def Tryz.c143 : FnK := fun rec recD args H => startK 3 args fun e =>
 bxK (Env.get s1 e) H fun v2000 H2000 =>
 bxK (Env.get s2 e) H2000 fun v2001 H2001 =>
 seqK (fun K3 =>
 blockK 0 (fun K4 =>
 ldK true 4 v2000 H2001 fun v6000 =>
 caK rec 82 [] H2001 fun v6001 H6001 =>
 boolK (and (again ⟨.load true 4 (.s s4), .none, []⟩ v6000 (Env.put s4 v2000 (Env.put s5 v2001 (Env.put s6 (.b false) e))) [] H6001) true) (binK .eql (.flat [(0, .i), (1, .s), (2, .i), (3, .s)]) v6000 v6001 fun v6002 =>
 gdK v6002 false (fun R6003 => ldK true 4 v2000 H6001 fun v6003 =>
 R6003 v6003 H6001 (Ctl.mk [] .none)) H6001 (Ctl.mk [] .none) fun v6003 H6003 k6003 =>
 gdK v6002 false (fun R6004 => caK rec 83 [] H6003 fun v6004 H6004 =>
 boolK (and (again ⟨.load true 4 (.s s4), (.some ((.l 0), false)), []⟩ v6003 (Env.put s4 v2000 (Env.put s5 v2001 (Env.put s6 (.b false) e))) [v6002, v6001, v6000] H6004) true) (R6004 v6004 H6004 k6003)) H6003 k6003 fun v6004 H6004 k6004 =>
 gdK v6002 false (fun R6005 => binK .eql (.flat [(0, .i), (1, .s), (2, .i), (3, .s)]) v6003 v6004 fun v6005 =>
 R6005 v6005 H6004 k6004) H6004 k6004 fun v6005 H6005 k6005 =>
 pkK v6002 (.b true) v6005 fun v6006 =>
 condK v6006 (ldK true 4 v2001 H6005 fun v9000 =>
 caK rec 160 [v9000] H6005 fun v9001 H9001 =>
 gdK v9001 true (fun R9002 => ldK true 4 v2001 H9001 fun v9002 =>
 R9002 v9002 H9001 k6005) H9001 k6005 fun v9002 H9002 k9002 =>
 gdK v9001 true (fun R9003 => caK rec 82 [] H9002 fun v9003 H9003 =>
 boolK (and (again ⟨.load true 4 (.s s5), (.some ((.l 0), true)), []⟩ v9002 (Env.put s7 v6006 (Env.put s4 v2000 (Env.put s5 v2001 (Env.put s6 (.b false) e)))) [v9001, v9000] H9003) true) (R9003 v9003 H9003 k9002)) H9002 k9002 fun v9003 H9003 k9003 =>
 gdK v9001 true (fun R9004 => binK .neq (.flat [(0, .i), (1, .s), (2, .i), (3, .s)]) v9002 v9003 fun v9004 =>
 R9004 v9004 H9003 k9003) H9003 k9003 fun v9004 H9004 k9004 =>
 pkK v9001 v9004 (.b false) fun v9005 =>
 gdK v9005 true (fun R9006 => ldK true 4 v2001 H9004 fun v9006 =>
 R9006 v9006 H9004 k9004) H9004 k9004 fun v9006 H9006 k9006 =>
 gdK v9005 true (fun R9007 => caK rec 83 [] H9006 fun v9007 H9007 =>
 boolK (and (again ⟨.load true 4 (.s s5), (.some ((.l 0), true)), []⟩ v9006 (Env.put s7 v6006 (Env.put s4 v2000 (Env.put s5 v2001 (Env.put s6 (.b false) e)))) [v9005, v9004, v9003, v9002, v9001, v9000] H9007) true) (R9007 v9007 H9007 k9006)) H9006 k9006 fun v9007 H9007 k9007 =>
 gdK v9005 true (fun R9008 => binK .neq (.flat [(0, .i), (1, .s), (2, .i), (3, .s)]) v9006 v9007 fun v9008 =>
 R9008 v9008 H9007 k9007) H9007 k9007 fun v9008 H9008 k9008 =>
 pkK v9005 v9008 (.b false) fun v9009 =>
 K4 .ret (Env.put s6 v9009 (Env.put s7 v6006 (Env.put s4 v2000 (Env.put s5 v2001 (Env.put s6 (.b false) e))))) H9008 k9008)
 (ldK true 4 v2000 H6005 fun v9000 =>
 caK rec 49 [v9000] H6005 fun v9001 H9001 =>
 unK .not v9001 fun v9002 =>
 gdK v9002 false (fun R9003 => ldK true 4 v2001 H9001 fun v9003 =>
 R9003 v9003 H9001 k6005) H9001 k6005 fun v9003 H9003 k9003 =>
 gdK v9002 false (fun R9004 => caK rec 49 [v9003] H9003 fun v9004 H9004 =>
 R9004 v9004 H9004 k9003) H9003 k9003 fun v9004 H9004 k9004 =>
 gdK v9002 false (fun R9005 => unK .not v9004 fun v9005 =>
 R9005 v9005 H9004 k9004) H9004 k9004 fun v9005 H9005 k9005 =>
 pkK v9002 (.b true) v9005 fun v9006 =>
 gdK v9006 false (fun R9007 => faK 0 v2000 fun v9007 =>
 R9007 v9007 H9005 k9005) H9005 k9005 fun v9007 H9007 k9007 =>
 gdK v9006 false (fun R9008 => ldK false 1 v9007 H9007 fun v9008 =>
 R9008 v9008 H9007 k9007) H9007 k9007 fun v9008 H9008 k9008 =>
 gdK v9006 false (fun R9009 => binK .eql .no v9008 (.i .i64 6) fun v9009 =>
 R9009 v9009 H9008 k9008) H9008 k9008 fun v9009 H9009 k9009 =>
 pkK v9006 (.b true) v9009 fun v9010 =>
 condK v9010 (K4 .ret (Env.put s6 (.b false) (Env.put s28 v9010 (Env.put s7 v6006 (Env.put s4 v2000 (Env.put s5 v2001 (Env.put s6 (.b false) e)))))) H9009 k9009)
 (K4 .norm (Env.put s28 v9010 (Env.put s7 v6006 (Env.put s4 v2000 (Env.put s5 v2001 (Env.put s6 (.b false) e))))) H9009 k9009)))) K3) (fun k3 e3 H3 =>
 ldK true 4 (Env.get s4 e3) H3 fun v5000 =>
 ldK true 4 (Env.get s5 e3) H3 fun v5001 =>
 caK rec 140 [v5000, v5001] H3 fun v5002 H5002 =>
 gdK v5002 false (fun R5003 => faK 2 (Env.get s4 e3) fun v5003 =>
 R5003 v5003 H5002 k3) H5002 k3 fun v5003 H5003 k5003 =>
 gdK v5002 false (fun R5004 => ldK false 1 v5003 H5003 fun v5004 =>
 R5004 v5004 H5003 k5003) H5003 k5003 fun v5004 H5004 k5004 =>
 gdK v5002 false (fun R5005 => binK .eql .no v5004 (.i .i64 0) fun v5005 =>
 R5005 v5005 H5004 k5004) H5004 k5004 fun v5005 H5005 k5005 =>
 gdK v5002 false (fun R5006 => R5006 v5005 H5005 k5005) H5005 k5005 fun v5006 H5006 k5006 =>
 gdK v5006 true (fun R5007 => faK 2 (Env.get s5 e3) fun v5007 =>
 R5007 v5007 H5006 k5006) H5006 k5006 fun v5007 H5007 k5007 =>
 gdK v5006 true (fun R5008 => ldK false 1 v5007 H5007 fun v5008 =>
 R5008 v5008 H5007 k5007) H5007 k5007 fun v5008 H5008 k5008 =>
 gdK v5006 true (fun R5009 => binK .eql .no v5008 (.i .i64 0) fun v5009 =>
 R5009 v5009 H5008 k5008) H5008 k5008 fun v5009 H5009 k5009 =>
 gdK v5002 false (fun R5010 => pkK v5006 v5009 (.b false) fun v5010 =>
 R5010 v5010 H5009 k5009) H5009 k5009 fun v5010 H5010 k5010 =>
 gdK v5002 false (fun R5011 => R5011 v5010 H5010 k5010) H5010 k5010 fun v5011 H5011 k5011 =>
 gdK v5011 true (fun R5012 => faK 0 (Env.get s4 e3) fun v5012 =>
 R5012 v5012 H5011 k5011) H5011 k5011 fun v5012 H5012 k5012 =>
 gdK v5011 true (fun R5013 => ldK false 1 v5012 H5012 fun v5013 =>
 R5013 v5013 H5012 k5012) H5012 k5012 fun v5013 H5013 k5013 =>
 gdK v5011 true (fun R5014 => binK .eql .no v5013 (.i .i64 5) fun v5014 =>
 R5014 v5014 H5013 k5013) H5013 k5013 fun v5014 H5014 k5014 =>
 gdK v5002 false (fun R5015 => pkK v5011 v5014 (.b false) fun v5015 =>
 R5015 v5015 H5014 k5014) H5014 k5014 fun v5015 H5015 k5015 =>
 gdK v5002 false (fun R5016 => R5016 v5015 H5015 k5015) H5015 k5015 fun v5016 H5016 k5016 =>
 gdK v5016 true (fun R5017 => faK 0 (Env.get s5 e3) fun v5017 =>
 R5017 v5017 H5016 k5016) H5016 k5016 fun v5017 H5017 k5017 =>
 gdK v5016 true (fun R5018 => ldK false 1 v5017 H5017 fun v5018 =>
 R5018 v5018 H5017 k5017) H5017 k5017 fun v5018 H5018 k5018 =>
 gdK v5016 true (fun R5019 => binK .eql .no v5018 (.i .i64 5) fun v5019 =>
 R5019 v5019 H5018 k5018) H5018 k5018 fun v5019 H5019 k5019 =>
 gdK v5002 false (fun R5020 => pkK v5016 v5019 (.b false) fun v5020 =>
 R5020 v5020 H5019 k5019) H5019 k5019 fun v5020 H5020 k5020 =>
 gdK v5002 false (fun R5021 => R5021 v5020 H5020 k5020) H5020 k5020 fun v5021 H5021 k5021 =>
 gdK v5021 true (fun R5022 => R5022 (Env.get s0 e3) H5021 k5021) H5021 k5021 fun v5022 H5022 k5022 =>
 gdK v5021 true (fun R5023 => faK 1 (Env.get s4 e3) fun v5023 =>
 R5023 v5023 H5022 k5022) H5022 k5022 fun v5023 H5023 k5023 =>
 gdK v5021 true (fun R5024 => ldK false 1 v5023 H5023 fun v5024 =>
 R5024 v5024 H5023 k5023) H5023 k5023 fun v5024 H5024 k5024 =>
 gdK v5021 true (fun R5025 => faK 1 (Env.get s5 e3) fun v5025 =>
 R5025 v5025 H5024 k5024) H5024 k5024 fun v5025 H5025 k5025 =>
 gdK v5021 true (fun R5026 => ldK false 1 v5025 H5025 fun v5026 =>
 R5026 v5026 H5025 k5025) H5025 k5025 fun v5026 H5026 k5026 =>
 gdK v5021 true (fun R5027 => caK rec 161 [v5022, v5024, v5026] H5026 fun v5027 H5027 =>
 R5027 v5027 H5027 k5026) H5026 k5026 fun v5027 H5027 k5027 =>
 gdK v5002 false (fun R5028 => pkK v5021 v5027 (.b false) fun v5028 =>
 R5028 v5028 H5027 k5027) H5027 k5027 fun v5028 H5028 k5028 =>
 pkK v5002 (.b true) v5028 fun v5029 =>
 (endK recD [.slot s6]) .ret (Env.put s6 v5029 e3) H5028 k5028) (endK recD [.slot s6])
theorem Tryz.cOk143 : (compFn Tryz.prog Tryz.f143).map (bodyK 143) = some Tryz.c143 := by kernel_rfl
def Tryz.c150 : FnK := fun rec recD args H => startK 2 args fun e =>
 caK rec 170 [(Env.get s0 e), (Env.get s1 e)] H fun v4000 H4000 =>
 (endK recD [.slot s4]) .ret (Env.put s4 v4000 (Env.put s4 (.i .i64 0) e)) H4000 (Ctl.mk [] .none)
theorem Tryz.cOk150 : (compFn Tryz.prog Tryz.f150).map (bodyK 150) = some Tryz.c150 := by kernel_rfl
def Tryz.c152 : FnK := fun rec recD args H => startK 1 args fun e =>
 genK roundT rec (.nilCheck (.s s0)) (Ctl.mk [] .none) (Env.put s2 (.i .i64 0) e) [] H fun v4000 H4000 k4000 =>
 faK 1 v4000 fun v4001 =>
 ldK false 1 v4001 H4000 fun v4002 =>
 genK roundT rec (.nilCheck (.s s0)) k4000 (Env.put s2 (.i .i64 0) e) [v4002, v4001, v4000] H4000 fun v4003 H4003 k4003 =>
 faK 2 v4003 fun v4004 =>
 ldK false 1 v4004 H4003 fun v4005 =>
 iaK .none 3 v4002 v4005 fun v4006 =>
 ldK true 3 v4006 H4003 fun v4007 =>
 newK [(.i .i64 0), (.i .i64 0), (.i .i64 0)] H4003 fun v4008 H4008 =>
 stK 3 v4007 v4008 H4008 fun H4009 =>
 seqK (fun K5 =>
 faK 0 v4008 fun v7000 =>
 ldK false 1 v7000 H4009 fun v7001 =>
 binK .neq .no v7001 (.i .i64 0) fun v7002 =>
 condK v7002 (genK roundT rec (.nilCheck (.s s0)) k4003 (Env.put s16 v7002 (Env.put s3 v4008 (Env.put s2 (.i .i64 0) e))) [] H4009 fun v9000 H9000 k9000 =>
 faK 2 v9000 fun v9001 =>
 ldK false 1 v9001 H9000 fun v9002 =>
 binK .add .no v9002 (.i .i64 1) fun v9003 =>
 genK roundT rec (.nilCheck (.s s0)) k9000 (Env.put s16 v7002 (Env.put s3 v4008 (Env.put s2 (.i .i64 0) e))) [v9003, v9002, v9001, v9000] H9000 fun v9004 H9004 k9004 =>
 faK 2 v9004 fun v9005 =>
 stK 1 v9003 v9005 H9004 fun H9006 =>
 K5 .norm (Env.put s16 v7002 (Env.put s3 v4008 (Env.put s2 (.i .i64 0) e))) H9006 k9004)
 (K5 .norm (Env.put s16 v7002 (Env.put s3 v4008 (Env.put s2 (.i .i64 0) e))) H4009 k4003)) (fun k5 e5 H5 =>
 faK 1 (Env.get s3 e5) fun v7000 =>
 faK 1 v7000 fun v7001 =>
 ldK false 1 v7001 H5 fun v7002 =>
 (endK recD [.slot s2]) .ret (Env.put s2 v7002 e5) H5 k5) (endK recD [.slot s2])
theorem Tryz.cOk152 : (compFn Tryz.prog Tryz.f152).map (bodyK 152) = some Tryz.c152 := by kernel_rfl
def Tryz.c153 : FnK := fun rec recD args H => startK 1 args fun e =>
 seqK (fun K3 =>
 lnK .s H (Env.get s0 e) fun v5000 =>
 blockK 0 (fun K6 =>
 loopK (fun k7 e7 H7 K7 =>
 binK .lss .no (Env.get s6 e7) (Env.get s5 e7) fun v9000 =>
 seqK (fun K10 =>
 condK v9000 (K10 .norm (Env.put s7 v9000 e7) H7 k7)
 (K10 (.exit 0) (Env.put s7 v9000 e7) H7 k7)) (fun k10 e10 H10 =>
 seqK (fun K11 =>
 blockK 1 (fun K12 =>
 ixK .none (Env.get s0 e10) (Env.get s6 e10) fun v16000 =>
 caK rec 121 [v16000] H10 fun v16001 H16001 =>
 unK .not v16001 fun v16002 =>
 gdK v16002 true (fun R16003 => R16003 (Env.get s6 e10) H16001 k10) H16001 k10 fun v16003 H16003 k16003 =>
 gdK v16002 true (fun R16004 => binK .eql .no v16003 (.i .i64 0) fun v16004 =>
 R16004 v16004 H16003 k16003) H16003 k16003 fun v16004 H16004 k16004 =>
 gdK v16002 true (fun R16005 => R16005 v16004 H16004 k16004) H16004 k16004 fun v16005 H16005 k16005 =>
 gdK v16005 false (fun R16006 => R16006 (Env.get s0 e10) H16005 k16005) H16005 k16005 fun v16006 H16006 k16006 =>
 gdK v16005 false (fun R16007 => R16007 (Env.get s6 e10) H16006 k16006) H16006 k16006 fun v16007 H16007 k16007 =>
 gdK v16005 false (fun R16008 => ixK .none v16006 v16007 fun v16008 =>
 R16008 v16008 H16007 k16007) H16007 k16007 fun v16008 H16008 k16008 =>
 gdK v16005 false (fun R16009 => caK rec 123 [v16008] H16008 fun v16009 H16009 =>
 R16009 v16009 H16009 k16008) H16008 k16008 fun v16009 H16009 k16009 =>
 gdK v16005 false (fun R16010 => unK .not v16009 fun v16010 =>
 R16010 v16010 H16009 k16009) H16009 k16009 fun v16010 H16010 k16010 =>
 gdK v16002 true (fun R16011 => pkK v16005 (.b true) v16010 fun v16011 =>
 R16011 v16011 H16010 k16010) H16010 k16010 fun v16011 H16011 k16011 =>
 pkK v16002 v16011 (.b false) fun v16012 =>
 condK v16012 (K12 .ret (Env.put s2 (.b false) (Env.put s24 v16012 (Env.put s3 (Env.get s6 e10) e10))) H16011 k16011)
 (K12 .norm (Env.put s24 v16012 (Env.put s3 (Env.get s6 e10) e10)) H16011 k16011)) K11) (fun k11 e11 H11 =>
 binK .add .no (Env.get s6 e11) (.i .i64 1) fun v12000 =>
 K7 .norm (Env.put s6 v12000 e11) H11 k11) K7) K7) rounds K6 (Ctl.mk [] .none) (Env.put s5 v5000 (Env.put s6 (.i .i64 0) (Env.put s2 (.b false) e))) H) K3) (fun k3 e3 H3 =>
 binK .neq .no (Env.get s0 e3) (.s []) fun v5000 =>
 gdK v5000 true (fun R5001 => R5001 (Env.get s0 e3) H3 k3) H3 k3 fun v5001 H5001 k5001 =>
 gdK v5000 true (fun R5002 => lnK .s H5001 v5001 fun v5002 =>
 R5002 v5002 H5001 k5001) H5001 k5001 fun v5002 H5002 k5002 =>
 gdK v5000 true (fun R5003 => binK .leq .no v5002 (.i .i64 64) fun v5003 =>
 R5003 v5003 H5002 k5002) H5002 k5002 fun v5003 H5003 k5003 =>
 pkK v5000 v5003 (.b false) fun v5004 =>
 gdK v5004 true (fun R5005 => R5005 (Env.get s0 e3) H5003 k5003) H5003 k5003 fun v5005 H5005 k5005 =>
 gdK v5004 true (fun R5006 => caK rec 172 [v5005] H5005 fun v5006 H5006 =>
 R5006 v5006 H5006 k5005) H5005 k5005 fun v5006 H5006 k5006 =>
 gdK v5004 true (fun R5007 => unK .not v5006 fun v5007 =>
 R5007 v5007 H5006 k5006) H5006 k5006 fun v5007 H5007 k5007 =>
 pkK v5004 v5007 (.b false) fun v5008 =>
 (endK recD [.slot s2]) .ret (Env.put s2 v5008 e3) H5007 k5007) (endK recD [.slot s2])
theorem Tryz.cOk153 : (compFn Tryz.prog Tryz.f153).map (bodyK 153) = some Tryz.c153 := by kernel_rfl
def Tryz.c160 : FnK := fun rec recD args H => startK 1 args fun e =>
 bxK (Env.get s0 e) H fun v2000 H2000 =>
 ldK true 4 v2000 H2000 fun v4000 =>
 caK rec 49 [v4000] H2000 fun v4001 H4001 =>
 gdK v4001 true (fun R4002 => faK 2 v2000 fun v4002 =>
 R4002 v4002 H4001 (Ctl.mk [] .none)) H4001 (Ctl.mk [] .none) fun v4002 H4002 k4002 =>
 gdK v4001 true (fun R4003 => ldK false 1 v4002 H4002 fun v4003 =>
 R4003 v4003 H4002 k4002) H4002 k4002 fun v4003 H4003 k4003 =>
 gdK v4001 true (fun R4004 => binK .gtr .no v4003 (.i .i64 0) fun v4004 =>
 R4004 v4004 H4003 k4003) H4003 k4003 fun v4004 H4004 k4004 =>
 gdK v4001 true (fun R4005 => R4005 v4004 H4004 k4004) H4004 k4004 fun v4005 H4005 k4005 =>
 gdK v4005 false (fun R4006 => faK 0 v2000 fun v4006 =>
 R4006 v4006 H4005 k4005) H4005 k4005 fun v4006 H4006 k4006 =>
 gdK v4005 false (fun R4007 => ldK false 1 v4006 H4006 fun v4007 =>
 R4007 v4007 H4006 k4006) H4006 k4006 fun v4007 H4007 k4007 =>
 gdK v4005 false (fun R4008 => binK .eql .no v4007 (.i .i64 5) fun v4008 =>
 R4008 v4008 H4007 k4007) H4007 k4007 fun v4008 H4008 k4008 =>
 gdK v4001 true (fun R4009 => pkK v4005 (.b true) v4008 fun v4009 =>
 R4009 v4009 H4008 k4008) H4008 k4008 fun v4009 H4009 k4009 =>
 gdK v4001 true (fun R4010 => R4010 v4009 H4009 k4009) H4009 k4009 fun v4010 H4010 k4010 =>
 gdK v4010 false (fun R4011 => faK 0 v2000 fun v4011 =>
 R4011 v4011 H4010 k4010) H4010 k4010 fun v4011 H4011 k4011 =>
 gdK v4010 false (fun R4012 => ldK false 1 v4011 H4011 fun v4012 =>
 R4012 v4012 H4011 k4011) H4011 k4011 fun v4012 H4012 k4012 =>
 gdK v4010 false (fun R4013 => binK .eql .no v4012 (.i .i64 7) fun v4013 =>
 R4013 v4013 H4012 k4012) H4012 k4012 fun v4013 H4013 k4013 =>
 gdK v4001 true (fun R4014 => pkK v4010 (.b true) v4013 fun v4014 =>
 R4014 v4014 H4013 k4013) H4013 k4013 fun v4014 H4014 k4014 =>
 gdK v4001 true (fun R4015 => R4015 v4014 H4014 k4014) H4014 k4014 fun v4015 H4015 k4015 =>
 gdK v4015 false (fun R4016 => faK 0 v2000 fun v4016 =>
 R4016 v4016 H4015 k4015) H4015 k4015 fun v4016 H4016 k4016 =>
 gdK v4015 false (fun R4017 => ldK false 1 v4016 H4016 fun v4017 =>
 R4017 v4017 H4016 k4016) H4016 k4016 fun v4017 H4017 k4017 =>
 gdK v4015 false (fun R4018 => binK .eql .no v4017 (.i .i64 8) fun v4018 =>
 R4018 v4018 H4017 k4017) H4017 k4017 fun v4018 H4018 k4018 =>
 gdK v4001 true (fun R4019 => pkK v4015 (.b true) v4018 fun v4019 =>
 R4019 v4019 H4018 k4018) H4018 k4018 fun v4019 H4019 k4019 =>
 pkK v4001 v4019 (.b false) fun v4020 =>
 (endK recD [.slot s2]) .ret (Env.put s2 v4020 (Env.put s1 v2000 (Env.put s2 (.b false) e))) H4019 k4019
theorem Tryz.cOk160 : (compFn Tryz.prog Tryz.f160).map (bodyK 160) = some Tryz.c160 := by kernel_rfl
def Tryz.c177 : FnK := fun rec recD args H => startK 2 args fun e =>
 newK [(.i .i64 0), (.s []), (.i .i64 0), (.s [])] H fun v4000 H4000 =>
 caK rec 109 [(Env.get s0 e), (Env.get s1 e)] H4000 fun v4001 H4001 =>
 stK 4 v4001 v4000 H4001 fun H4002 =>
 seqK (fun K5 =>
 faK 0 v4000 fun v7000 =>
 ldK false 1 v7000 H4002 fun v7001 =>
 binK .neq .no v7001 (.i .i64 5) fun v7002 =>
 gdK v7002 false (fun R7003 => faK 2 v4000 fun v7003 =>
 R7003 v7003 H4002 (Ctl.mk [] .none)) H4002 (Ctl.mk [] .none) fun v7003 H7003 k7003 =>
 gdK v7002 false (fun R7004 => ldK false 1 v7003 H7003 fun v7004 =>
 R7004 v7004 H7003 k7003) H7003 k7003 fun v7004 H7004 k7004 =>
 gdK v7002 false (fun R7005 => binK .gtr .no v7004 (.i .i64 0) fun v7005 =>
 R7005 v7005 H7004 k7004) H7004 k7004 fun v7005 H7005 k7005 =>
 pkK v7002 (.b true) v7005 fun v7006 =>
 condK v7006 (genK roundT rec (.nilCheck (.s s0)) k7005 (Env.put s16 v7006 (Env.put s5 v4000 (Env.put s4 (.s []) e))) [] H7005 fun v9000 H9000 k9000 =>
 faK 0 v9000 fun v9001 =>
 ldK false 1 v9001 H9000 fun v9002 =>
 caK rec 105 [v9002, (.i .i64 130), (Env.get s1 e)] H9000 fun v9003 H9003 =>
 K5 .norm (Env.put s16 v7006 (Env.put s5 v4000 (Env.put s4 (.s []) e))) H9003 k9000)
 (K5 .norm (Env.put s16 v7006 (Env.put s5 v4000 (Env.put s4 (.s []) e))) H7005 k7005)) (fun k5 e5 H5 =>
 faK 1 (Env.get s5 e5) fun v7000 =>
 ldK false 1 v7000 H5 fun v7001 =>
 (endK recD [.slot s4]) .ret (Env.put s4 v7001 e5) H5 k5) (endK recD [.slot s4])
theorem Tryz.cOk177 : (compFn Tryz.prog Tryz.f177).map (bodyK 177) = some Tryz.c177 := by kernel_rfl
def Tryz.c184 : FnK := fun rec recD args H => startK 1 args fun e =>
 caK rec 173 [(Env.get s0 e)] H fun v4000 H4000 =>
 caK rec 195 [(Env.get s0 e), (.i .i64 0)] H4000 fun v6000 H6000 =>
 genK roundT rec (.nilCheck (.s s0)) (Ctl.mk [] .none) (Env.put s3 v6000 (Env.put s2 (.i .i64 0) e)) [] H6000 fun v8000 H8000 k8000 =>
 faK 3 v8000 fun v8001 =>
 ldK false 1 v8001 H8000 fun v8002 =>
 binK .sub .no v8002 (.i .i64 1) fun v8003 =>
 genK roundT rec (.nilCheck (.s s0)) k8000 (Env.put s3 v6000 (Env.put s2 (.i .i64 0) e)) [v8003, v8002, v8001, v8000] H8000 fun v8004 H8004 k8004 =>
 faK 3 v8004 fun v8005 =>
 stK 1 v8003 v8005 H8004 fun H8006 =>
 (endK recD [.slot s2]) .ret (Env.put s2 v6000 (Env.put s3 v6000 (Env.put s2 (.i .i64 0) e))) H8006 k8004
theorem Tryz.cOk184 : (compFn Tryz.prog Tryz.f184).map (bodyK 184) = some Tryz.c184 := by kernel_rfl
def Tryz.c186 : FnK := fun rec recD args H => startK 2 args fun e =>
 caK rec 184 [(Env.get s0 e)] H fun v4000 H4000 =>
 newK [(.i .i64 0), (.i .i64 0), (.i .i64 0)] H4000 fun v6000 H6000 =>
 caK rec 78 [(Env.get s0 e)] H6000 fun v6001 H6001 =>
 exK 0 v6001 fun v6002 =>
 exK 1 v6001 fun v6003 =>
 stK 3 v6002 v6000 H6001 fun H6004 =>
 genK roundT rec (.nilCheck (.s s0)) (Ctl.mk [] .none) (Env.put s6 v6000 (Env.put s5 v4000 (Env.put s4 (.i .i64 0) e))) [] H6004 fun v8000 H8000 k8000 =>
 faK 4 v8000 fun v8001 =>
 caK rec 198 [v8001, v4000] H8000 fun v8002 H8002 =>
 fdK false 0 1 v8002 fun v8003 =>
 seqK (fun K9 =>
 caK rec 129 [(Env.get s0 e), (.s [61])] H8002 fun v11000 H11000 =>
 condK v11000 (seqK (fun K13 =>
 binK .neq .no v8003 (.i .i64 25) fun v15000 =>
 gdK v15000 true (fun R15001 => R15001 v8003 H11000 k8000) H11000 k8000 fun v15001 H15001 k15001 =>
 gdK v15000 true (fun R15002 => binK .neq .no v15001 (.i .i64 26) fun v15002 =>
 R15002 v15002 H15001 k15001) H15001 k15001 fun v15002 H15002 k15002 =>
 pkK v15000 v15002 (.b false) fun v15003 =>
 gdK v15003 true (fun R15004 => R15004 v8003 H15002 k15002) H15002 k15002 fun v15004 H15004 k15004 =>
 gdK v15003 true (fun R15005 => binK .neq .no v15004 (.i .i64 27) fun v15005 =>
 R15005 v15005 H15004 k15004) H15004 k15004 fun v15005 H15005 k15005 =>
 pkK v15003 v15005 (.b false) fun v15006 =>
 condK v15006 (faK 1 v6000 fun v17000 =>
 faK 0 v17000 fun v17001 =>
 ldK false 1 v17001 H15005 fun v17002 =>
 caK rec 126 [(.i .i64 132), v17002] H15005 fun v17003 H17003 =>
 K13 .norm (Env.put s34 v15006 (Env.put s24 v11000 (Env.put s8 v8003 (Env.put s6 v6000 (Env.put s5 v4000 (Env.put s4 (.i .i64 0) e)))))) H17003 k15005)
 (K13 .norm (Env.put s34 v15006 (Env.put s24 v11000 (Env.put s8 v8003 (Env.put s6 v6000 (Env.put s5 v4000 (Env.put s4 (.i .i64 0) e)))))) H15005 k15005)) (fun k13 e13 H13 =>
 caK rec 184 [(Env.get s0 e13)] H13 fun v15000 H15000 =>
 caK rec 127 [(Env.get s0 e13), (.s [59])] H15000 fun v17000 H17000 =>
 genK roundT rec (.buildSlice 2 1 [(.i .i64 0)] [(0, (.s s5)), (1, (.s s9))]) k13 (Env.put s9 v15000 e13) [] H17000 fun v19000 H19000 k19000 =>
 bdK [(.i .i64 0), (.i .i64 0), (.i .i64 0), .sl0, (.s []), (.i .i64 0), (.s []), (.i .i64 0), (.s []), (.i .i64 0), (.i .i64 0), (.i .i64 0), .sl0] [(0, 1, (.i .i64 10)), (3, 1, v19000)] fun v19001 =>
 caK rec 81 [(Env.get s0 e13), v19001, (Env.get s1 e13)] H19000 fun v19002 H19002 =>
 K9 .ret (Env.put s4 v19002 (Env.put s9 v15000 e13)) H19002 k19000) K9)
 (K9 .norm (Env.put s24 v11000 (Env.put s8 v8003 (Env.put s6 v6000 (Env.put s5 v4000 (Env.put s4 (.i .i64 0) e))))) H11000 k8000)) (fun k9 e9 H9 =>
 seqK (fun K10 =>
 binK .neq .no (Env.get s8 e9) (.i .i64 29) fun v12000 =>
 gdK v12000 true (fun R12001 => R12001 (Env.get s8 e9) H9 k9) H9 k9 fun v12001 H12001 k12001 =>
 gdK v12000 true (fun R12002 => binK .neq .no v12001 (.i .i64 30) fun v12002 =>
 R12002 v12002 H12001 k12001) H12001 k12001 fun v12002 H12002 k12002 =>
 pkK v12000 v12002 (.b false) fun v12003 =>
 condK v12003 (caK rec 126 [(.i .i64 132), (Env.get s1 e9)] H12002 fun v14000 H14000 =>
 K10 .norm (Env.put s55 v12003 e9) H14000 k12002)
 (K10 .norm (Env.put s55 v12003 e9) H12002 k12002)) (fun k10 e10 H10 =>
 caK rec 127 [(Env.get s0 e10), (.s [59])] H10 fun v12000 H12000 =>
 genK roundT rec (.buildSlice 1 1 [(.i .i64 0)] [(0, (.s s5))]) k10 e10 [] H12000 fun v14000 H14000 k14000 =>
 bdK [(.i .i64 0), (.i .i64 0), (.i .i64 0), .sl0, (.s []), (.i .i64 0), (.s []), (.i .i64 0), (.s []), (.i .i64 0), (.i .i64 0), (.i .i64 0), .sl0] [(0, 1, (.i .i64 18)), (3, 1, v14000)] fun v14001 =>
 caK rec 81 [(Env.get s0 e10), v14001, (Env.get s1 e10)] H14000 fun v14002 H14002 =>
 (endK recD [.slot s4]) .ret (Env.put s4 v14002 e10) H14002 k14000) (endK recD [.slot s4])) (endK recD [.slot s4])
theorem Tryz.cOk186 : (compFn Tryz.prog Tryz.f186).map (bodyK 186) = some Tryz.c186 := by kernel_rfl
def Tryz.c188 : FnK := fun rec recD args H => startK 2 args fun e =>
 newK [(.i .i64 0), (.i .i64 0), (.i .i64 0)] H fun v4000 H4000 =>
 caK rec 78 [(Env.get s0 e)] H4000 fun v4001 H4001 =>
 exK 0 v4001 fun v4002 =>
 exK 1 v4001 fun v4003 =>
 stK 3 v4002 v4000 H4001 fun H4004 =>
 seqK (fun K5 =>
 caK rec 130 [(Env.get s0 e), (.s [63])] H4004 fun v7000 H7000 =>
 unK .not v7000 fun v7001 =>
 condK v7001 (K5 .ret (Env.put s4 (.b false) (Env.put s15 v7001 (Env.put s5 v4000 (Env.put s4 (.b false) e)))) H7000 (Ctl.mk [] .none))
 (K5 .norm (Env.put s15 v7001 (Env.put s5 v4000 (Env.put s4 (.b false) e))) H7000 (Ctl.mk [] .none))) (fun k5 e5 H5 =>
 genK roundT rec (.nilCheck (.s s1)) k5 e5 [] H5 fun v7000 H7000 k7000 =>
 faK 5 v7000 fun v7001 =>
 faK 2 v7001 fun v7002 =>
 ldK false 1 v7002 H7000 fun v7003 =>
 seqK (fun K8 =>
 genK roundT rec (.nilCheck (.s s1)) k7000 (Env.put s7 v7003 e5) [] H7000 fun v10000 H10000 k10000 =>
 faK 5 v10000 fun v10001 =>
 faK 0 v10001 fun v10002 =>
 ldK false 1 v10002 H10000 fun v10003 =>
 binK .neq .no v10003 (.i .i64 5) fun v10004 =>
 gdK v10004 true (fun R10005 => R10005 v7003 H10000 k10000) H10000 k10000 fun v10005 H10005 k10005 =>
 gdK v10004 true (fun R10006 => binK .eql .no v10005 (.i .i64 0) fun v10006 =>
 R10006 v10006 H10005 k10005) H10005 k10005 fun v10006 H10006 k10006 =>
 pkK v10004 v10006 (.b false) fun v10007 =>
 gdK v10007 false (fun R10008 => R10008 (Env.get s1 e5) H10006 k10006) H10006 k10006 fun v10008 H10008 k10008 =>
 gdK v10007 false (fun R10009 => genK roundT rec (.nilCheck (.l 0)) k10008 (Env.put s7 v7003 e5) [v10008, v10007, v10006, v10005, v10004, v10003, v10002, v10001, v10000] H10008 fun v10009 H10009 k10009 =>
 R10009 v10009 H10009 k10009) H10008 k10008 fun v10009 H10009 k10009 =>
 gdK v10007 false (fun R10010 => faK 5 v10009 fun v10010 =>
 R10010 v10010 H10009 k10009) H10009 k10009 fun v10010 H10010 k10010 =>
 gdK v10007 false (fun R10011 => faK 3 v10010 fun v10011 =>
 R10011 v10011 H10010 k10010) H10010 k10010 fun v10011 H10011 k10011 =>
 gdK v10007 false (fun R10012 => ldK false 1 v10011 H10011 fun v10012 =>
 R10012 v10012 H10011 k10011) H10011 k10011 fun v10012 H10012 k10012 =>
 gdK v10007 false (fun R10013 => R10013 v7003 H10012 k10012) H10012 k10012 fun v10013 H10013 k10013 =>
 gdK v10007 false (fun R10014 => ixK .none v10012 v10013 fun v10014 =>
 R10014 v10014 H10013 k10013) H10013 k10013 fun v10014 H10014 k10014 =>
 gdK v10007 false (fun R10015 => binK .neq .no v10014 (.i .u8 32) fun v10015 =>
 R10015 v10015 H10014 k10014) H10014 k10014 fun v10015 H10015 k10015 =>
 pkK v10007 (.b true) v10015 fun v10016 =>
 condK v10016 (faK 1 (Env.get s5 e5) fun v12000 =>
 faK 0 v12000 fun v12001 =>
 ldK false 1 v12001 H10015 fun v12002 =>
 caK rec 126 [(.i .i64 81), v12002] H10015 fun v12003 H12003 =>
 K8 .norm (Env.put s40 v10016 (Env.put s7 v7003 e5)) H12003 k10015)
 (K8 .norm (Env.put s40 v10016 (Env.put s7 v7003 e5)) H10015 k10015)) (fun k8 e8 H8 =>
 genK roundT rec (.nilCheck (.s s1)) k8 e8 [] H8 fun v10000 H10000 k10000 =>
 faK 5 v10000 fun v10001 =>
 faK 3 v10001 fun v10002 =>
 ldK false 1 v10002 H10000 fun v10003 =>
 slK .none v10003 .none (.some (Env.get s7 e8)) .none fun v10004 =>
 binK .add .no v10004 (.s [63]) fun v10005 =>
 genK roundT rec (.nilCheck (.s s1)) k10000 e8 [v10005, v10004, v10003, v10002, v10001, v10000] H10000 fun v10006 H10006 k10006 =>
 faK 5 v10006 fun v10007 =>
 faK 3 v10007 fun v10008 =>
 stK 1 v10005 v10008 H10006 fun H10009 =>
 caK rec 152 [(Env.get s0 e8)] H10009 fun v12000 H12000 =>
 genK roundT rec (.nilCheck (.s s1)) k10006 e8 [v12000] H12000 fun v12001 H12001 k12001 =>
 faK 10 v12001 fun v12002 =>
 faK 1 v12002 fun v12003 =>
 stK 1 v12000 v12003 H12001 fun H12004 =>
 (endK recD [.slot s4]) .ret (Env.put s4 (.b true) e8) H12004 k12001) (endK recD [.slot s4])) (endK recD [.slot s4])
theorem Tryz.cOk188 : (compFn Tryz.prog Tryz.f188).map (bodyK 188) = some Tryz.c188 := by kernel_rfl
def Tryz.c204 : FnK := fun rec recD args H => startK 3 args fun e =>
 seqK (fun K3 =>
 blockK 0 (fun K4 =>
 caK rec 129 [(Env.get s0 e), (.s [108, 101, 110, 103, 116, 104])] H fun v6000 H6000 =>
 condK v6000 (genK roundT rec (.buildSlice 1 1 [(.i .i64 0)] [(0, (.s s1))]) (Ctl.mk [] .none) (Env.put s8 v6000 (Env.put s6 (.i .i64 0) e)) [] H6000 fun v9000 H9000 k9000 =>
 bdK [(.i .i64 0), (.i .i64 0), (.i .i64 0), .sl0, (.s []), (.i .i64 0), (.s []), (.i .i64 0), (.s []), (.i .i64 0), (.i .i64 0), (.i .i64 0), .sl0] [(0, 1, (.i .i64 28)), (3, 1, v9000)] fun v9001 =>
 caK rec 81 [(Env.get s0 e), v9001, (Env.get s2 e)] H9000 fun v9002 H9002 =>
 K4 .ret (Env.put s6 v9002 (Env.put s8 v6000 (Env.put s6 (.i .i64 0) e))) H9002 k9000)
 (caK rec 129 [(Env.get s0 e), (.s [118, 97, 108])] H6000 fun v9000 H9000 =>
 condK v9000 (genK roundT rec (.buildSlice 1 1 [(.i .i64 0)] [(0, (.s s1))]) (Ctl.mk [] .none) (Env.put s17 v9000 (Env.put s8 v6000 (Env.put s6 (.i .i64 0) e))) [] H9000 fun v12000 H12000 k12000 =>
 bdK [(.i .i64 0), (.i .i64 0), (.i .i64 0), .sl0, (.s []), (.i .i64 0), (.s []), (.i .i64 0), (.s []), (.i .i64 0), (.i .i64 0), (.i .i64 0), .sl0] [(0, 1, (.i .i64 45)), (3, 1, v12000)] fun v12001 =>
 caK rec 81 [(Env.get s0 e), v12001, (Env.get s2 e)] H12000 fun v12002 H12002 =>
 K4 .ret (Env.put s6 v12002 (Env.put s17 v9000 (Env.put s8 v6000 (Env.put s6 (.i .i64 0) e)))) H12002 k12000)
 (K4 .norm (Env.put s17 v9000 (Env.put s8 v6000 (Env.put s6 (.i .i64 0) e))) H9000 (Ctl.mk [] .none)))) K3) (fun k3 e3 H3 =>
 genK roundT rec (.buildSlice 1 1 [(.i .i64 0)] [(0, (.s s1))]) k3 e3 [] H3 fun v5000 H5000 k5000 =>
 newK [(.i .i64 0), (.i .i64 0), (.i .i64 0), .sl0, (.s []), (.i .i64 0), (.s []), (.i .i64 0), (.s []), (.i .i64 0), (.i .i64 0), (.i .i64 0), .sl0] H5000 fun v5001 H5001 =>
 caK rec 128 [(Env.get s0 e3)] H5001 fun v5002 H5002 =>
 bdK [(.i .i64 0), (.i .i64 0), (.i .i64 0), .sl0, (.s []), (.i .i64 0), (.s []), (.i .i64 0), (.s []), (.i .i64 0), (.i .i64 0), (.i .i64 0), .sl0] [(0, 1, (.i .i64 26)), (4, 1, v5002), (3, 1, v5000)] fun v5003 =>
 stK 13 v5003 v5001 H5002 fun H5004 =>
 seqK (fun K6 =>
 caK rec 130 [(Env.get s0 e3), (.s [40])] H5004 fun v8000 H8000 =>
 condK v8000 (faK 3 v5001 fun v10000 =>
 ldK false 1 v10000 H8000 fun v10001 =>
 faK 0 v5001 fun v10002 =>
 caK rec 197 [(Env.get s0 e3)] H8000 fun v10003 H10003 =>
 boolK (and (again ⟨.load false 1 (.l 0), .none, []⟩ v10001 (Env.put s32 v8000 (Env.put s7 v5001 e3)) [v10000] H10003) true) (apK 1 [(.i .i64 0)] H10003 v10001 v10003 fun v10004 H10004 =>
 stK 1 (.i .i64 29) v10002 H10004 fun H10005 =>
 faK 3 v5001 fun v10006 =>
 stK 1 v10004 v10006 H10005 fun H10007 =>
 K6 .norm (Env.put s32 v8000 (Env.put s7 v5001 e3)) H10007 k5000))
 (K6 .norm (Env.put s32 v8000 (Env.put s7 v5001 e3)) H8000 k5000)) (fun k6 e6 H6 =>
 ldK true 13 (Env.get s7 e6) H6 fun v8000 =>
 caK rec 81 [(Env.get s0 e6), v8000, (Env.get s2 e6)] H6 fun v8001 H8001 =>
 (endK recD [.slot s6]) .ret (Env.put s6 v8001 e6) H8001 k6) (endK recD [.slot s6])) (endK recD [.slot s6])
theorem Tryz.cOk204 : (compFn Tryz.prog Tryz.f204).map (bodyK 204) = some Tryz.c204 := by kernel_rfl
def Tryz.c205 : FnK := fun rec recD args H => startK 1 args fun e =>
 seqK (fun K3 =>
 caK rec 210 [(Env.get s0 e)] H fun v5000 H5000 =>
 unK .not v5000 fun v5001 =>
 gdK v5001 false (fun R5002 => R5002 (Env.get s0 e) H5000 (Ctl.mk [] .none)) H5000 (Ctl.mk [] .none) fun v5002 H5002 k5002 =>
 gdK v5001 false (fun R5003 => lnK .s H5002 v5002 fun v5003 =>
 R5003 v5003 H5002 k5002) H5002 k5002 fun v5003 H5003 k5003 =>
 gdK v5001 false (fun R5004 => binK .gtr .no v5003 (.i .i64 1) fun v5004 =>
 R5004 v5004 H5003 k5003) H5003 k5003 fun v5004 H5004 k5004 =>
 gdK v5001 false (fun R5005 => R5005 v5004 H5004 k5004) H5004 k5004 fun v5005 H5005 k5005 =>
 gdK v5005 true (fun R5006 => R5006 (Env.get s0 e) H5005 k5005) H5005 k5005 fun v5006 H5006 k5006 =>
 gdK v5005 true (fun R5007 => ixK .none v5006 (.i .i64 0) fun v5007 =>
 R5007 v5007 H5006 k5006) H5006 k5006 fun v5007 H5007 k5007 =>
 gdK v5005 true (fun R5008 => binK .eql .no v5007 (.i .u8 48) fun v5008 =>
 R5008 v5008 H5007 k5007) H5007 k5007 fun v5008 H5008 k5008 =>
 gdK v5001 false (fun R5009 => pkK v5005 v5008 (.b false) fun v5009 =>
 R5009 v5009 H5008 k5008) H5008 k5008 fun v5009 H5009 k5009 =>
 pkK v5001 (.b true) v5009 fun v5010 =>
 condK v5010 (K3 .ret (Env.put s2 (.i .i64 0) (Env.put s3 (.i .i64 5) (Env.put s18 v5010 (Env.put s2 (.i .i64 0) (Env.put s3 (.i .i64 0) e))))) H5009 k5009)
 (K3 .norm (Env.put s18 v5010 (Env.put s2 (.i .i64 0) (Env.put s3 (.i .i64 0) e))) H5009 k5009)) (fun k3 e3 H3 =>
 caK rec 211 [(Env.get s0 e3), (.i .i64 10), (.i .i64 64)] H3 fun v5000 H5000 =>
 exK 0 v5000 fun v5001 =>
 exK 1 v5000 fun v5002 =>
 seqK (fun K6 =>
 binK .neq .ifc v5002 .if0 fun v8000 =>
 condK v8000 (K6 .ret (Env.put s2 (.i .i64 0) (Env.put s3 (.i .i64 1) (Env.put s25 v8000 (Env.put s4 v5001 (Env.put s5 v5002 e3))))) H5000 k3)
 (K6 .norm (Env.put s25 v8000 (Env.put s4 v5001 (Env.put s5 v5002 e3))) H5000 k3)) (fun k6 e6 H6 =>
 (endK recD [.slot s2, .slot s3]) .ret (Env.put s2 (Env.get s4 e6) (Env.put s3 (.i .i64 0) e6)) H6 k6) (endK recD [.slot s2, .slot s3])) (endK recD [.slot s2, .slot s3])
theorem Tryz.cOk205 : (compFn Tryz.prog Tryz.f205).map (bodyK 205) = some Tryz.c205 := by kernel_rfl
def Tryz.c209 : FnK := fun rec recD args H => startK 3 args fun e =>
 bxK (Env.get s1 e) H fun v2000 H2000 =>
 bdK [(.i .i64 0), (.i .i64 0), (.i .i64 0), .sl0, (.s []), (.i .i64 0), (.s []), (.i .i64 0), (.s []), (.i .i64 0), (.i .i64 0), (.i .i64 0), .sl0] [] fun v4000 =>
 newK [(.i .i64 0), (.i .i64 0), (.i .i64 0), .sl0, (.s []), (.i .i64 0), (.s []), (.i .i64 0), (.s []), (.i .i64 0), (.i .i64 0), (.i .i64 0), .sl0] H2000 fun v4001 H4001 =>
 stK 13 v4000 v4001 H4001 fun H4002 =>
 seqK (fun K5 =>
 blockK 0 (fun K8 =>
 binK .eql .no (Env.get s2 e) (.s [116, 114, 117, 101]) fun v10000 =>
 condK v10000 (bdK [(.i .i64 0), (.i .i64 0), (.i .i64 0), .sl0, (.s []), (.i .i64 0), (.s []), (.i .i64 0), (.s []), (.i .i64 0), (.i .i64 0), (.i .i64 0), .sl0] [(0, 1, (.i .i64 21)), (9, 1, (.i .i64 1))] fun v13000 =>
 caK rec 206 [(Env.get s0 e), v13000, (.i .i64 0)] H4002 fun v13001 H13001 =>
 K8 .ret (Env.put s6 v13001 (Env.put s14 v10000 (Env.put s9 (Env.get s2 e) (Env.put s7 v4001 (Env.put s4 v2000 (Env.put s6 (.i .i64 0) e)))))) H13001 (Ctl.mk [] .none))
 (binK .eql .no (Env.get s2 e) (.s [102, 97, 108, 115, 101]) fun v13000 =>
 condK v13000 (bdK [(.i .i64 0), (.i .i64 0), (.i .i64 0), .sl0, (.s []), (.i .i64 0), (.s []), (.i .i64 0), (.s []), (.i .i64 0), (.i .i64 0), (.i .i64 0), .sl0] [(0, 1, (.i .i64 21))] fun v16000 =>
 caK rec 206 [(Env.get s0 e), v16000, (.i .i64 0)] H4002 fun v16001 H16001 =>
 K8 .ret (Env.put s6 v16001 (Env.put s19 v13000 (Env.put s14 v10000 (Env.put s9 (Env.get s2 e) (Env.put s7 v4001 (Env.put s4 v2000 (Env.put s6 (.i .i64 0) e))))))) H16001 (Ctl.mk [] .none))
 (binK .eql .no (Env.get s2 e) (.s [110, 117, 108, 108]) fun v16000 =>
 condK v16000 (bdK [(.i .i64 0), (.i .i64 0), (.i .i64 0), .sl0, (.s []), (.i .i64 0), (.s []), (.i .i64 0), (.s []), (.i .i64 0), (.i .i64 0), (.i .i64 0), .sl0] [(0, 1, (.i .i64 23))] fun v19000 =>
 caK rec 206 [(Env.get s0 e), v19000, (.i .i64 0)] H4002 fun v19001 H19001 =>
 K8 .ret (Env.put s6 v19001 (Env.put s24 v16000 (Env.put s19 v13000 (Env.put s14 v10000 (Env.put s9 (Env.get s2 e) (Env.put s7 v4001 (Env.put s4 v2000 (Env.put s6 (.i .i64 0) e)))))))) H19001 (Ctl.mk [] .none))
 (binK .eql .no (Env.get s2 e) (.s [110, 111, 110, 101]) fun v19000 =>
 condK v19000 (bdK [(.i .i64 0), (.i .i64 0), (.i .i64 0), .sl0, (.s []), (.i .i64 0), (.s []), (.i .i64 0), (.s []), (.i .i64 0), (.i .i64 0), (.i .i64 0), .sl0] [(0, 1, (.i .i64 42))] fun v22000 =>
 caK rec 206 [(Env.get s0 e), v22000, (.i .i64 0)] H4002 fun v22001 H22001 =>
 K8 .ret (Env.put s6 v22001 (Env.put s29 v19000 (Env.put s24 v16000 (Env.put s19 v13000 (Env.put s14 v10000 (Env.put s9 (Env.get s2 e) (Env.put s7 v4001 (Env.put s4 v2000 (Env.put s6 (.i .i64 0) e))))))))) H22001 (Ctl.mk [] .none))
 (binK .eql .no (Env.get s2 e) (.s [116, 104, 105, 115]) fun v22000 =>
 condK v22000 (bdK [(.i .i64 0), (.i .i64 0), (.i .i64 0), .sl0, (.s []), (.i .i64 0), (.s []), (.i .i64 0), (.s []), (.i .i64 0), (.i .i64 0), (.i .i64 0), .sl0] [(0, 1, (.i .i64 24))] fun v25000 =>
 caK rec 206 [(Env.get s0 e), v25000, (.i .i64 0)] H4002 fun v25001 H25001 =>
 K8 .ret (Env.put s6 v25001 (Env.put s34 v22000 (Env.put s29 v19000 (Env.put s24 v16000 (Env.put s19 v13000 (Env.put s14 v10000 (Env.put s9 (Env.get s2 e) (Env.put s7 v4001 (Env.put s4 v2000 (Env.put s6 (.i .i64 0) e)))))))))) H25001 (Ctl.mk [] .none))
 (binK .eql .no (Env.get s2 e) (.s [105, 110, 112, 117, 116]) fun v25000 =>
 condK v25000 (caK rec 152 [(Env.get s0 e)] H4002 fun v28000 H28000 =>
 caK rec 127 [(Env.get s0 e), (.s [40])] H28000 fun v30000 H30000 =>
 caK rec 127 [(Env.get s0 e), (.s [41])] H30000 fun v32000 H32000 =>
 faK 0 v4001 fun v33000 =>
 stK 1 (.i .i64 38) v33000 H32000 fun H33001 =>
 K8 .norm (Env.put s39 v25000 (Env.put s34 v22000 (Env.put s29 v19000 (Env.put s24 v16000 (Env.put s19 v13000 (Env.put s14 v10000 (Env.put s9 (Env.get s2 e) (Env.put s7 v4001 (Env.put s4 v2000 (Env.put s6 (.i .i64 0) e)))))))))) H33001 (Ctl.mk [] .none))
 (seqK (fun K27 =>
 binK .eql .no (Env.get s2 e) (.s [115, 111, 109, 101]) fun v29000 =>
 condK v29000 (K27 .norm (Env.put s48 v29000 (Env.put s39 v25000 (Env.put s34 v22000 (Env.put s29 v19000 (Env.put s24 v16000 (Env.put s19 v13000 (Env.put s14 v10000 (Env.put s9 (Env.get s2 e) (Env.put s7 v4001 (Env.put s4 v2000 (Env.put s6 (.i .i64 0) e))))))))))) H4002 (Ctl.mk [] .none))
 (binK .eql .no (Env.get s2 e) (.s [97, 115, 107]) fun v32000 =>
 condK v32000 (K27 .norm (Env.put s48 v32000 (Env.put s48 v29000 (Env.put s39 v25000 (Env.put s34 v22000 (Env.put s29 v19000 (Env.put s24 v16000 (Env.put s19 v13000 (Env.put s14 v10000 (Env.put s9 (Env.get s2 e) (Env.put s7 v4001 (Env.put s4 v2000 (Env.put s6 (.i .i64 0) e)))))))))))) H4002 (Ctl.mk [] .none))
 (binK .eql .no (Env.get s2 e) (.s [116, 111, 105, 110, 116]) fun v35000 =>
 condK v35000 (K27 .norm (Env.put s48 v35000 (Env.put s48 v32000 (Env.put s48 v29000 (Env.put s39 v25000 (Env.put s34 v22000 (Env.put s29 v19000 (Env.put s24 v16000 (Env.put s19 v13000 (Env.put s14 v10000 (Env.put s9 (Env.get s2 e) (Env.put s7 v4001 (Env.put s4 v2000 (Env.put s6 (.i .i64 0) e))))))))))))) H4002 (Ctl.mk [] .none))
 (binK .eql .no (Env.get s2 e) (.s [116, 111, 100, 111, 117, 98, 108, 101]) fun v37000 =>
 K27 .norm (Env.put s48 v37000 (Env.put s48 v35000 (Env.put s48 v32000 (Env.put s48 v29000 (Env.put s39 v25000 (Env.put s34 v22000 (Env.put s29 v19000 (Env.put s24 v16000 (Env.put s19 v13000 (Env.put s14 v10000 (Env.put s9 (Env.get s2 e) (Env.put s7 v4001 (Env.put s4 v2000 (Env.put s6 (.i .i64 0) e)))))))))))))) H4002 (Ctl.mk [] .none))))) (fun k27 e27 H27 =>
 condK (Env.get s48 e27) (caK rec 152 [(Env.get s0 e27)] H27 fun v30000 H30000 =>
 caK rec 196 [(Env.get s0 e27)] H30000 fun v32000 H32000 =>
 genK roundT rec (.buildSlice 1 1 [(.i .i64 0)] [(0, (.l 0))]) k27 e27 [v32000] H32000 fun v32001 H32001 k32001 =>
 bdK [(.i .i64 0), (.i .i64 0), (.i .i64 0), .sl0, (.s []), (.i .i64 0), (.s []), (.i .i64 0), (.s []), (.i .i64 0), (.i .i64 0), (.i .i64 0), .sl0] [(0, 1, (.i .i64 41)), (3, 1, v32001)] fun v32002 =>
 stK 13 v32002 (Env.get s7 e27) H32001 fun H32003 =>
 blockK 1 (fun K35 =>
 binK .eql .no (Env.get s2 e27) (.s [97, 115, 107]) fun v37000 =>
 condK v37000 (faK 0 (Env.get s7 e27) fun v39000 =>
 stK 1 (.i .i64 39) v39000 H32003 fun H39001 =>
 K35 .norm (Env.put s60 v37000 (Env.put s59 (Env.get s2 e27) e27)) H39001 k32001)
 (binK .eql .no (Env.get s2 e27) (.s [116, 111, 105, 110, 116]) fun v40000 =>
 condK v40000 (faK 0 (Env.get s7 e27) fun v42000 =>
 stK 1 (.i .i64 36) v42000 H32003 fun H42001 =>
 K35 .norm (Env.put s63 v40000 (Env.put s60 v37000 (Env.put s59 (Env.get s2 e27) e27))) H42001 k32001)
 (binK .eql .no (Env.get s2 e27) (.s [116, 111, 100, 111, 117, 98, 108, 101]) fun v43000 =>
 condK v43000 (faK 0 (Env.get s7 e27) fun v45000 =>
 stK 1 (.i .i64 37) v45000 H32003 fun H45001 =>
 K35 .norm (Env.put s66 v43000 (Env.put s63 v40000 (Env.put s60 v37000 (Env.put s59 (Env.get s2 e27) e27)))) H45001 k32001)
 (K35 .norm (Env.put s66 v43000 (Env.put s63 v40000 (Env.put s60 v37000 (Env.put s59 (Env.get s2 e27) e27)))) H32003 k32001)))) K8)
 (binK .eql .no (Env.get s9 e27) (.s [99, 97, 115, 116]) fun v30000 =>
 condK v30000 (caK rec 152 [(Env.get s0 e27)] H27 fun v33000 H33000 =>
 caK rec 127 [(Env.get s0 e27), (.s [60])] H33000 fun v35000 H35000 =>
 caK rec 156 [(Env.get s0 e27), (.b false)] H35000 fun v37000 H37000 =>
 stK 13 v37000 (Env.get s7 e27) H37000 fun H37001 =>
 caK rec 127 [(Env.get s0 e27), (.s [62])] H37001 fun v39000 H39000 =>
 faK 0 (Env.get s7 e27) fun v40000 =>
 caK rec 196 [(Env.get s0 e27)] H39000 fun v40001 H40001 =>
 genK roundT rec (.buildSlice 1 1 [(.i .i64 0)] [(0, (.l 0))]) k27 (Env.put s69 v30000 e27) [v40001, v40000] H40001 fun v40002 H40002 k40002 =>
 stK 1 (.i .i64 35) v40000 H40002 fun H40003 =>
 faK 3 (Env.get s7 e27) fun v40004 =>
 stK 1 v40002 v40004 H40003 fun H40005 =>
 K8 .norm (Env.put s69 v30000 e27) H40005 k40002)
 (binK .eql .no (Env.get s9 e27) (.s [110, 101, 119]) fun v33000 =>
 condK v33000 (caK rec 152 [(Env.get s0 e27)] H27 fun v36000 H36000 =>
 caK rec 216 [(Env.get s0 e27)] H36000 fun v37000 H37000 =>
 stK 13 v37000 (Env.get s7 e27) H37000 fun H37001 =>
 K8 .norm (Env.put s84 v33000 (Env.put s69 v30000 e27)) H37001 k27)
 (faK 1 (Env.get s4 e27) fun v35000 =>
 faK 0 v35000 fun v35001 =>
 ldK false 1 v35001 H27 fun v35002 =>
 caK rec 126 [(.i .i64 80), v35002] H27 fun v35003 H35003 =>
 K8 .norm (Env.put s84 v33000 (Env.put s69 v30000 e27)) H35003 k27)))) K8))))))) K5) (fun k5 e5 H5 =>
 ldK true 13 (Env.get s7 e5) H5 fun v7000 =>
 faK 1 (Env.get s4 e5) fun v7001 =>
 faK 0 v7001 fun v7002 =>
 ldK false 1 v7002 H5 fun v7003 =>
 caK rec 81 [(Env.get s0 e5), v7000, v7003] H5 fun v7004 H7004 =>
 (endK recD [.slot s6]) .ret (Env.put s6 v7004 e5) H7004 k5) (endK recD [.slot s6])
theorem Tryz.cOk209 : (compFn Tryz.prog Tryz.f209).map (bodyK 209) = some Tryz.c209 := by kernel_rfl
def Tryz.c210 : FnK := fun rec recD args H => startK 1 args fun e =>
 seqK (fun K3 =>
 lnK .s H (Env.get s0 e) fun v5000 =>
 blockK 0 (fun K6 =>
 loopK (fun k7 e7 H7 K7 =>
 binK .lss .no (Env.get s6 e7) (Env.get s5 e7) fun v9000 =>
 seqK (fun K10 =>
 condK v9000 (K10 .norm (Env.put s7 v9000 e7) H7 k7)
 (K10 (.exit 0) (Env.put s7 v9000 e7) H7 k7)) (fun k10 e10 H10 =>
 seqK (fun K11 =>
 blockK 1 (fun K12 =>
 ixK .none (Env.get s0 e10) (Env.get s6 e10) fun v16000 =>
 binK .lss .no v16000 (.i .u8 48) fun v16001 =>
 gdK v16001 false (fun R16002 => R16002 (Env.get s0 e10) H10 k10) H10 k10 fun v16002 H16002 k16002 =>
 gdK v16001 false (fun R16003 => R16003 (Env.get s6 e10) H16002 k16002) H16002 k16002 fun v16003 H16003 k16003 =>
 gdK v16001 false (fun R16004 => ixK .none v16002 v16003 fun v16004 =>
 R16004 v16004 H16003 k16003) H16003 k16003 fun v16004 H16004 k16004 =>
 gdK v16001 false (fun R16005 => binK .gtr .no v16004 (.i .u8 57) fun v16005 =>
 R16005 v16005 H16004 k16004) H16004 k16004 fun v16005 H16005 k16005 =>
 pkK v16001 (.b true) v16005 fun v16006 =>
 condK v16006 (K12 .ret (Env.put s2 (.b false) (Env.put s18 v16006 (Env.put s3 (Env.get s6 e10) e10))) H16005 k16005)
 (K12 .norm (Env.put s18 v16006 (Env.put s3 (Env.get s6 e10) e10)) H16005 k16005)) K11) (fun k11 e11 H11 =>
 binK .add .no (Env.get s6 e11) (.i .i64 1) fun v12000 =>
 K7 .norm (Env.put s6 v12000 e11) H11 k11) K7) K7) rounds K6 (Ctl.mk [] .none) (Env.put s5 v5000 (Env.put s6 (.i .i64 0) (Env.put s2 (.b false) e))) H) K3) (fun k3 e3 H3 =>
 binK .neq .no (Env.get s0 e3) (.s []) fun v5000 =>
 (endK recD [.slot s2]) .ret (Env.put s2 v5000 e3) H3 k3) (endK recD [.slot s2])
theorem Tryz.cOk210 : (compFn Tryz.prog Tryz.f210).map (bodyK 210) = some Tryz.c210 := by kernel_rfl
end
end Go.Proofs
