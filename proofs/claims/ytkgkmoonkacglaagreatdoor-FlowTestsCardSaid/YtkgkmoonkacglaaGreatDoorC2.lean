/- A part of the program's functions, printed as the executor's code, and that they are the program's. -/
import Derived.Test.YtkgkmoonkacglaaGreatDoorEng4
import Derived.Test.YtkgkmoonkacglaaGreatDoorEng1
import Derived.Test.YtkgkmoonkacglaaGreatDoorSlots
import Derived.Test.YtkgkmoonkacglaaGreatDoorProg
import Derived.KernelRfl
set_option autoImplicit false
set_option linter.all false
set_option autoImplicit false
set_option maxRecDepth 1000000
set_option linter.all false
namespace Go.Proofs
open Go Go.AX
noncomputable section
def Tryz.c8 : FnK := fun rec recD args H => startK 1 args fun e =>
 seqK (fun K3 =>
 lnK .s H (Env.get s0 e) fun v5000 =>
 binK .gtr .no v5000 (.i .i64 2000) fun v5001 =>
 condK v5001 (K3 .ret (Env.put s2 .p0 (Env.put s9 v5001 (Env.put s2 .p0 e))) H (Ctl.mk [] .none))
 (K3 .norm (Env.put s9 v5001 (Env.put s2 .p0 e)) H (Ctl.mk [] .none))) (fun k3 e3 H3 =>
 newK [.sl0, (.i .i64 0)] H3 fun v5000 H5000 =>
 newK [(.i .i64 0), (.i .i64 0)] H5000 fun v5001 H5001 =>
 caK rec 27 [(Env.get s0 e3)] H5001 fun v5002 H5002 =>
 exK 0 v5002 fun v5003 =>
 exK 1 v5002 fun v5004 =>
 stK 2 v5003 v5000 H5002 fun H5005 =>
 stK 2 v5004 v5001 H5005 fun H5006 =>
 seqK (fun K6 =>
 faK 0 v5001 fun v8000 =>
 ldK false 1 v8000 H5006 fun v8001 =>
 binK .neq .no v8001 (.i .i64 0) fun v8002 =>
 gdK v8002 false (fun R8003 => faK 0 v5000 fun v8003 =>
 R8003 v8003 H5006 k3) H5006 k3 fun v8003 H8003 k8003 =>
 gdK v8002 false (fun R8004 => ldK false 1 v8003 H8003 fun v8004 =>
 R8004 v8004 H8003 k8003) H8003 k8003 fun v8004 H8004 k8004 =>
 gdK v8002 false (fun R8005 => lnK .sl H8004 v8004 fun v8005 =>
 R8005 v8005 H8004 k8004) H8004 k8004 fun v8005 H8005 k8005 =>
 gdK v8002 false (fun R8006 => binK .gtr .no v8005 (.i .i64 500) fun v8006 =>
 R8006 v8006 H8005 k8005) H8005 k8005 fun v8006 H8006 k8006 =>
 pkK v8002 (.b true) v8006 fun v8007 =>
 condK v8007 (K6 .ret (Env.put s2 .p0 (Env.put s23 v8007 (Env.put s3 v5000 (Env.put s4 v5001 e3)))) H8006 k8006)
 (K6 .norm (Env.put s23 v8007 (Env.put s3 v5000 (Env.put s4 v5001 e3))) H8006 k8006)) (fun k6 e6 H6 =>
 ldK true 2 (Env.get s3 e6) H6 fun v8000 =>
 newK [(.i .i64 0), (.i .i64 0)] H6 fun v8001 H8001 =>
 caK rec 23 [v8000] H8001 fun v8002 H8002 =>
 exK 0 v8002 fun v8003 =>
 exK 1 v8002 fun v8004 =>
 stK 2 v8004 v8001 H8002 fun H8005 =>
 (endK recD [.slot s2]) .ret (Env.put s2 v8003 (Env.put s5 v8003 e6)) H8005 k6) (endK recD [.slot s2])) (endK recD [.slot s2])
theorem Tryz.cOk8 : (compFn Tryz.prog Tryz.f8).map (bodyK 8) = some Tryz.c8 := by kernel_rfl
def Tryz.c9 : FnK := fun rec recD args H => startK 1 args fun e =>
 genK roundT rec (.nilCheck (.s s0)) (Ctl.mk [] .none) (Env.put s2 (.i .i64 0) e) [] H fun v4000 H4000 k4000 =>
 faK 0 v4000 fun v4001 =>
 faK 0 v4001 fun v4002 =>
 ldK false 1 v4002 H4000 fun v4003 =>
 lnK .sl H4000 v4003 fun v4004 =>
 (endK recD [.slot s2]) .ret (Env.put s2 v4004 (Env.put s2 (.i .i64 0) e)) H4000 k4000
theorem Tryz.cOk9 : (compFn Tryz.prog Tryz.f9).map (bodyK 9) = some Tryz.c9 := by kernel_rfl
def Tryz.c12 : FnK := fun rec recD args H => startK 2 args fun e =>
 newK [(.i .i64 0), (.i .i64 0), (.i .i64 0), .sl0, (.s []), (.i .i64 0), (.s []), (.i .i64 0), (.s []), (.i .i64 0), (.i .i64 0), (.i .i64 0), .sl0] H fun v4000 H4000 =>
 caK rec 10 [(Env.get s0 e), (Env.get s1 e)] H4000 fun v4001 H4001 =>
 stK 13 v4001 v4000 H4001 fun H4002 =>
 seqK (fun K5 =>
 faK 0 v4000 fun v7000 =>
 ldK false 1 v7000 H4002 fun v7001 =>
 blockK 0 (fun K8 =>
 binK .eql .no v7001 (.i .i64 25) fun v10000 =>
 condK v10000 (caK rec 14 [(Env.get s0 e), (Env.get s1 e)] H4002 fun v13000 H13000 =>
 K8 .ret (Env.put s4 (.i .i64 3) (Env.put s5 v13000 (Env.put s12 v10000 (Env.put s11 v7001 (Env.put s6 v4000 (Env.put s4 (.i .i64 0) (Env.put s5 (.i .i64 0) e))))))) H13000 (Ctl.mk [] .none))
 (binK .eql .no v7001 (.i .i64 41) fun v13000 =>
 condK v13000 (K8 .ret (Env.put s4 (.i .i64 1) (Env.put s5 (.i .i64 (-1)) (Env.put s17 v13000 (Env.put s12 v10000 (Env.put s11 v7001 (Env.put s6 v4000 (Env.put s4 (.i .i64 0) (Env.put s5 (.i .i64 0) e)))))))) H4002 (Ctl.mk [] .none))
 (K8 .norm (Env.put s17 v13000 (Env.put s12 v10000 (Env.put s11 v7001 (Env.put s6 v4000 (Env.put s4 (.i .i64 0) (Env.put s5 (.i .i64 0) e)))))) H4002 (Ctl.mk [] .none)))) K5) (fun k5 e5 H5 =>
 seqK (fun K6 =>
 caK rec 13 [(Env.get s0 e5), (Env.get s1 e5)] H5 fun v8000 H8000 =>
 caK rec 28 [v8000] H8000 fun v8001 H8001 =>
 binK .eql .no v8001 (.i .u8 32) fun v8002 =>
 condK v8002 (K6 .ret (Env.put s4 (.i .i64 1) (Env.put s5 (.i .i64 (-1)) (Env.put s23 v8002 e5))) H8001 k5)
 (K6 .norm (Env.put s23 v8002 e5) H8001 k5)) (fun k6 e6 H6 =>
 (endK recD [.slot s4, .slot s5]) .ret (Env.put s4 (.i .i64 2) (Env.put s5 (.i .i64 (-1)) e6)) H6 k6) (endK recD [.slot s4, .slot s5])) (endK recD [.slot s4, .slot s5])
theorem Tryz.cOk12 : (compFn Tryz.prog Tryz.f12).map (bodyK 12) = some Tryz.c12 := by kernel_rfl
def Tryz.c33 : FnK := fun rec recD args H => startK 1 args fun e =>
 seqK (fun K3 =>
 binK .eql .sl (Env.get s0 e) .sl0 fun v5000 =>
 condK v5000 (K3 .ret (Env.put s2 .sl0 (Env.put s4 v5000 (Env.put s2 .sl0 e))) H (Ctl.mk [] .none))
 (K3 .norm (Env.put s4 v5000 (Env.put s2 .sl0 e)) H (Ctl.mk [] .none))) (fun k3 e3 H3 =>
 genK roundT rec (.buildSlice 0 8 [(.s []), (.i .i64 0), (.b false), (.i .i64 0), (.s []), (.i .i64 0), (.s []), .p0] []) k3 e3 [] H3 fun v5000 H5000 k5000 =>
 apK 8 [(.s []), (.i .i64 0), (.b false), (.i .i64 0), (.s []), (.i .i64 0), (.s []), .p0] H5000 v5000 (Env.get s0 e3) fun v5001 H5001 =>
 (endK recD [.slot s2]) .ret (Env.put s2 v5001 e3) H5001 k5000) (endK recD [.slot s2])
theorem Tryz.cOk33 : (compFn Tryz.prog Tryz.f33).map (bodyK 33) = some Tryz.c33 := by kernel_rfl
def Tryz.c39 : FnK := fun rec recD args H => startK 2 args fun e =>
 seqK (fun K5 =>
 genK roundT rec (.nilCheck (.s s0)) (Ctl.mk [] .none) (Env.put s5 .sl0 (Env.put s4 .sl0 e)) [] H fun v7000 H7000 k7000 =>
 faK 3 v7000 fun v7001 =>
 ldK false 1 v7001 H7000 fun v7002 =>
 genK roundT rec (.lookup .s .p0 false (.l 0) (.s s1)) k7000 (Env.put s5 .sl0 (Env.put s4 .sl0 e)) [v7002, v7001, v7000] H7000 fun v7003 H7003 k7003 =>
 binK .neq .ptr v7003 .p0 fun v9000 =>
 condK v9000 (genK roundT rec (.nilCheck (.s s6)) k7003 (Env.put s18 v9000 (Env.put s6 v7003 (Env.put s5 .sl0 (Env.put s4 .sl0 e)))) [] H7003 fun v12000 H12000 k12000 =>
 faK 3 v12000 fun v12001 =>
 ldK false 1 v12001 H12000 fun v12002 =>
 genK roundT rec (.nilCheck (.s s6)) k12000 (Env.put s18 v9000 (Env.put s6 v7003 (Env.put s5 .sl0 (Env.put s4 .sl0 e)))) [v12002, v12001, v12000] H12000 fun v12003 H12003 k12003 =>
 faK 4 v12003 fun v12004 =>
 ldK false 1 v12004 H12003 fun v12005 =>
 genK roundT rec (.nilCheck (.s s6)) k12003 (Env.put s18 v9000 (Env.put s6 v7003 (Env.put s5 .sl0 (Env.put s4 .sl0 e)))) [v12005, v12004, v12003, v12002, v12001, v12000] H12003 fun v12006 H12006 k12006 =>
 faK 5 v12006 fun v12007 =>
 ldK false 1 v12007 H12006 fun v12008 =>
 bdK [.sl0, .sl0, .sl0] [(0, 1, v12002), (1, 1, v12005), (2, 1, v12008)] fun v12009 =>
 blockK 0 (fun K13 =>
 loopK (fun k14 e14 H14 K14 =>
 binK .lss .no (Env.get s32 e14) (.i .i64 3) fun v16000 =>
 seqK (fun K17 =>
 condK v16000 (K17 .norm (Env.put s33 v16000 e14) H14 k14)
 (K17 (.exit 0) (Env.put s33 v16000 e14) H14 k14)) (fun k17 e17 H17 =>
 seqK (fun K18 =>
 blockK 1 (fun K19 =>
 ixK (.some (3, false, 1)) (Env.get s31 e17) (Env.get s32 e17) fun v21000 =>
 lnK .sl H17 v21000 fun v23000 =>
 blockK 2 (fun K24 =>
 loopK (fun k25 e25 H25 K25 =>
 binK .lss .no (Env.get s37 e25) (Env.get s36 e25) fun v27000 =>
 seqK (fun K28 =>
 condK v27000 (K28 .norm (Env.put s38 v27000 e25) H25 k25)
 (K28 (.exit 2) (Env.put s38 v27000 e25) H25 k25)) (fun k28 e28 H28 =>
 seqK (fun K29 =>
 blockK 3 (fun K30 =>
 iaK .none 8 (Env.get s35 e28) (Env.get s37 e28) fun v32000 =>
 ldK true 8 v32000 H28 fun v32001 =>
 newK [(.s []), (.s []), (.i .i64 0), (.i .i64 0), (.s []), (.i .i64 0), (.s []), .sl0] H28 fun v32002 H32002 =>
 stK 8 v32001 v32002 H32002 fun H32003 =>
 ldK true 8 v32002 H32003 fun v33000 =>
 caK rec 65 [v33000] H32003 fun v33001 H33001 =>
 genK roundT rec (.buildSlice 1 8 [(.s []), (.s []), (.i .i64 0), (.i .i64 0), (.s []), (.i .i64 0), (.s []), .sl0] [(0, (.l 0))]) k28 (Env.put s10 v32002 e28) [v33001, v33000] H33001 fun v33002 H33002 k33002 =>
 apK 8 [(.s []), (.s []), (.i .i64 0), (.i .i64 0), (.s []), (.i .i64 0), (.s []), .sl0] H33002 (Env.get s5 e28) v33002 fun v33003 H33003 =>
 K30 .norm (Env.put s5 v33003 (Env.put s10 v32002 e28)) H33003 k33002) K29) (fun k29 e29 H29 =>
 binK .add .no (Env.get s37 e29) (.i .i64 1) fun v30000 =>
 K25 .norm (Env.put s37 v30000 e29) H29 k29) K25) K25) rounds K24 k17 (Env.put s35 v21000 (Env.put s36 v23000 (Env.put s37 (.i .i64 0) (Env.put s8 v21000 e17)))) H17) K19) K18) (fun k18 e18 H18 =>
 binK .add .no (Env.get s32 e18) (.i .i64 1) fun v19000 =>
 K14 .norm (Env.put s32 v19000 e18) H18 k18) K14) K14) rounds K13 k12006 (Env.put s31 v12009 (Env.put s32 (.i .i64 0) (Env.put s18 v9000 (Env.put s6 v7003 (Env.put s5 .sl0 (Env.put s4 .sl0 e)))))) H12006) K5)
 (K5 .norm (Env.put s18 v9000 (Env.put s6 v7003 (Env.put s5 .sl0 (Env.put s4 .sl0 e)))) H7003 k7003)) (fun k5 e5 H5 =>
 (endK recD [.slot s4]) .ret (Env.put s4 (Env.get s5 e5) e5) H5 k5) (endK recD [.slot s4])
theorem Tryz.cOk39 : (compFn Tryz.prog Tryz.f39).map (bodyK 39) = some Tryz.c39 := by kernel_rfl
def Tryz.c50 : FnK := fun rec recD args H => startK 2 args fun e =>
 bxK (Env.get s1 e) H fun v2000 H2000 =>
 genK roundT rec (.nilCheck (.s s0)) (Ctl.mk [] .none) (Env.put s3 v2000 (Env.put s4 (.i .i64 0) e)) [] H2000 fun v4000 H4000 k4000 =>
 faK 1 v4000 fun v4001 =>
 ldK false 1 v4001 H4000 fun v4002 =>
 ldK true 5 v2000 H4000 fun v4003 =>
 genK roundT rec (.buildSlice 1 5 [(.i .i64 0), (.i .i64 0), (.i .i64 0), (.i .i64 0), (.i .i64 0)] [(0, (.l 0))]) k4000 (Env.put s3 v2000 (Env.put s4 (.i .i64 0) e)) [v4003, v4002, v4001, v4000] H4000 fun v4004 H4004 k4004 =>
 apK 5 [(.i .i64 0), (.i .i64 0), (.i .i64 0), (.i .i64 0), (.i .i64 0)] H4004 v4002 v4004 fun v4005 H4005 =>
 genK roundT rec (.nilCheck (.s s0)) k4004 (Env.put s3 v2000 (Env.put s4 (.i .i64 0) e)) [v4005, v4004, v4003, v4002, v4001, v4000] H4005 fun v4006 H4006 k4006 =>
 faK 1 v4006 fun v4007 =>
 stK 1 v4005 v4007 H4006 fun H4008 =>
 genK roundT rec (.nilCheck (.s s0)) k4006 (Env.put s3 v2000 (Env.put s4 (.i .i64 0) e)) [] H4008 fun v6000 H6000 k6000 =>
 faK 1 v6000 fun v6001 =>
 ldK false 1 v6001 H6000 fun v6002 =>
 lnK .sl H6000 v6002 fun v6003 =>
 binK .sub .no v6003 (.i .i64 1) fun v6004 =>
 (endK recD [.slot s4]) .ret (Env.put s4 v6004 (Env.put s3 v2000 (Env.put s4 (.i .i64 0) e))) H6000 k6000
theorem Tryz.cOk50 : (compFn Tryz.prog Tryz.f50).map (bodyK 50) = some Tryz.c50 := by kernel_rfl
def Tryz.c57 : FnK := fun rec recD args H => startK 2 args fun e =>
 genK roundT rec (.nilCheck (.s s0)) (Ctl.mk [] .none) e [] H fun v2000 H2000 k2000 =>
 faK 1 v2000 fun v2001 =>
 ldK false 1 v2001 H2000 fun v2002 =>
 genK roundT rec (.nilCheck (.s s0)) k2000 e [v2002, v2001, v2000] H2000 fun v2003 H2003 k2003 =>
 faK 3 v2003 fun v2004 =>
 ldK false 1 v2004 H2003 fun v2005 =>
 iaK .none 1 v2005 (Env.get s1 e) fun v2006 =>
 ldK false 1 v2006 H2003 fun v2007 =>
 newK [(.i .i64 0), (.i .i64 0), (.i .i64 0), (.i .i64 0), (.i .i64 0)] H2003 fun v2008 H2008 =>
 caK rec 93 [v2002, (Env.get s1 e)] H2008 fun v2009 H2009 =>
 boolK (and (again ⟨.load false 1 (.l 0), .none, []⟩ v2007 e [v2006, v2005, v2004, v2003, v2002, v2001, v2000] H2009) (and (again ⟨.load false 1 (.l 0), .none, []⟩ v2005 e [v2004, v2003, v2002, v2001, v2000] H2009) true)) (stK 5 v2009 v2008 H2009 fun H2010 =>
 boolK (and (again ⟨.load false 1 (.l 0), .none, []⟩ v2007 e [v2006, v2005, v2004, v2003, v2002, v2001, v2000] H2010) (and (again ⟨.load false 1 (.l 0), .none, []⟩ v2005 e [v2004, v2003, v2002, v2001, v2000] H2010) true)) (seqK (fun K3 =>
 faK 0 v2008 fun v5000 =>
 ldK false 1 v5000 H2010 fun v5001 =>
 blockK 0 (fun K6 =>
 binK .eql .no v5001 (.i .i64 3) fun v8000 =>
 condK v8000 (faK 1 v2008 fun v11000 =>
 ldK false 1 v11000 H2010 fun v11001 =>
 caK rec 45 [v11001] H2010 fun v11002 H11002 =>
 binK .andNot .no v2007 v11002 fun v11003 =>
 ldK true 5 v2008 H11002 fun v13000 =>
 genK roundT rec (.nilCheck (.s s0)) k2003 (Env.put s5 v11003 (Env.put s23 v8000 (Env.put s22 v5001 (Env.put s4 v2008 (Env.put s5 v2007 e))))) [v13000] H11002 fun v13001 H13001 k13001 =>
 faK 3 v13001 fun v13002 =>
 ldK false 1 v13002 H13001 fun v13003 =>
 iaK .none 1 v13003 (Env.get s1 e) fun v13004 =>
 ldK false 1 v13004 H13001 fun v13005 =>
 caK rec 94 [(Env.get s0 e), v13000, v13005] H13001 fun v13006 H13006 =>
 condK v13006 (faK 1 v2008 fun v15000 =>
 ldK false 1 v15000 H13006 fun v15001 =>
 caK rec 45 [v15001] H13006 fun v15002 H15002 =>
 binK .or .no v11003 v15002 fun v15003 =>
 K6 .norm (Env.put s5 v15003 (Env.put s39 v13006 (Env.put s5 v11003 (Env.put s23 v8000 (Env.put s22 v5001 (Env.put s4 v2008 (Env.put s5 v2007 e))))))) H15002 k13001)
 (K6 .norm (Env.put s39 v13006 (Env.put s5 v11003 (Env.put s23 v8000 (Env.put s22 v5001 (Env.put s4 v2008 (Env.put s5 v2007 e)))))) H13006 k13001))
 (binK .eql .no v5001 (.i .i64 4) fun v11000 =>
 condK v11000 (faK 3 v2008 fun v14000 =>
 ldK false 1 v14000 H2010 fun v14001 =>
 faK 1 v2008 fun v14002 =>
 ldK false 1 v14002 H2010 fun v14003 =>
 caK rec 45 [v14003] H2010 fun v14004 H14004 =>
 boolK (and (again ⟨.load false 1 (.l 0), .none, []⟩ v14001 (Env.put s45 v11000 (Env.put s23 v8000 (Env.put s22 v5001 (Env.put s4 v2008 (Env.put s5 v2007 e))))) [v14000] H14004) true) (binK .or .no v2007 v14004 fun v14005 =>
 caK rec 54 [(Env.get s0 e), v14001, v14005] H14004 fun v14006 H14006 =>
 faK 4 v2008 fun v16000 =>
 ldK false 1 v16000 H14006 fun v16001 =>
 caK rec 54 [(Env.get s0 e), v16001, v2007] H14006 fun v16002 H16002 =>
 K6 .ret (Env.put s45 v11000 (Env.put s23 v8000 (Env.put s22 v5001 (Env.put s4 v2008 (Env.put s5 v2007 e))))) H16002 k2003))
 (binK .eql .no v5001 (.i .i64 7) fun v14000 =>
 condK v14000 (faK 1 v2008 fun v16000 =>
 ldK false 1 v16000 H2010 fun v16001 =>
 caK rec 45 [v16001] H2010 fun v16002 H16002 =>
 binK .or .no v2007 v16002 fun v16003 =>
 K6 .norm (Env.put s5 v16003 (Env.put s61 v14000 (Env.put s45 v11000 (Env.put s23 v8000 (Env.put s22 v5001 (Env.put s4 v2008 (Env.put s5 v2007 e))))))) H16002 k2003)
 (binK .eql .no v5001 (.i .i64 6) fun v17000 =>
 condK v17000 (genK roundT rec (.nilCheck (.s s0)) k2003 (Env.put s68 v17000 (Env.put s61 v14000 (Env.put s45 v11000 (Env.put s23 v8000 (Env.put s22 v5001 (Env.put s4 v2008 (Env.put s5 v2007 e))))))) [] H2010 fun v20000 H20000 k20000 =>
 faK 2 v20000 fun v20001 =>
 ldK false 1 v20001 H20000 fun v20002 =>
 condK v20002 (faK 1 v2008 fun v22000 =>
 ldK false 1 v22000 H20000 fun v22001 =>
 caK rec 45 [v22001] H20000 fun v22002 H22002 =>
 binK .or .no v2007 v22002 fun v22003 =>
 K6 .norm (Env.put s5 v22003 (Env.put s73 v20002 (Env.put s68 v17000 (Env.put s61 v14000 (Env.put s45 v11000 (Env.put s23 v8000 (Env.put s22 v5001 (Env.put s4 v2008 (Env.put s5 v2007 e))))))))) H22002 k20000)
 (K6 .norm (Env.put s73 v20002 (Env.put s68 v17000 (Env.put s61 v14000 (Env.put s45 v11000 (Env.put s23 v8000 (Env.put s22 v5001 (Env.put s4 v2008 (Env.put s5 v2007 e)))))))) H20000 k20000))
 (K6 .norm (Env.put s68 v17000 (Env.put s61 v14000 (Env.put s45 v11000 (Env.put s23 v8000 (Env.put s22 v5001 (Env.put s4 v2008 (Env.put s5 v2007 e))))))) H2010 k2003))))) K3) (fun k3 e3 H3 =>
 genK roundT rec (.nilCheck (.s s0)) k3 e3 [] H3 fun v5000 H5000 k5000 =>
 faK 1 v5000 fun v5001 =>
 ldK false 1 v5001 H5000 fun v5002 =>
 caK rec 91 [v5002, (Env.get s1 e3)] H5000 fun v5003 H5003 =>
 lnK .sl H5003 v5003 fun v5004 =>
 blockK 1 (fun K6 =>
 loopK (fun k7 e7 H7 K7 =>
 binK .lss .no (Env.get s86 e7) (Env.get s85 e7) fun v9000 =>
 seqK (fun K10 =>
 condK v9000 (K10 .norm (Env.put s87 v9000 e7) H7 k7)
 (K10 (.exit 1) (Env.put s87 v9000 e7) H7 k7)) (fun k10 e10 H10 =>
 seqK (fun K11 =>
 blockK 2 (fun K12 =>
 iaK .none 1 (Env.get s84 e10) (Env.get s86 e10) fun v14000 =>
 ldK false 1 v14000 H10 fun v14001 =>
 caK rec 54 [(Env.get s0 e10), v14001, (Env.get s5 e10)] H10 fun v15000 H15000 =>
 K12 .norm (Env.put s7 v14001 e10) H15000 k10) K11) (fun k11 e11 H11 =>
 binK .add .no (Env.get s86 e11) (.i .i64 1) fun v12000 =>
 K7 .norm (Env.put s86 v12000 e11) H11 k11) K7) K7) rounds K6 k5000 (Env.put s84 v5003 (Env.put s85 v5004 (Env.put s86 (.i .i64 0) e3))) H5003) (endK recD [])) (endK recD [])))
theorem Tryz.cOk57 : (compFn Tryz.prog Tryz.f57).map (bodyK 57) = some Tryz.c57 := by kernel_rfl
def Tryz.c60 : FnK := fun rec recD args H => startK 2 args fun e =>
 newK [(.i .i64 0), (.i .i64 0)] H fun v2000 H2000 =>
 genK roundT rec (.nilCheck (.s s0)) (Ctl.mk [] .none) (Env.put s4 v2000 e) [] H2000 fun v4000 H4000 k4000 =>
 faK 0 v4000 fun v4001 =>
 faK 0 v4001 fun v4002 =>
 ldK false 1 v4002 H4000 fun v4003 =>
 iaK .none 13 v4003 (Env.get s1 e) fun v4004 =>
 ldK true 13 v4004 H4000 fun v4005 =>
 newK [(.i .i64 0), (.i .i64 0), (.i .i64 0), .sl0, (.s []), (.i .i64 0), (.s []), (.i .i64 0), (.s []), (.i .i64 0), (.i .i64 0), (.i .i64 0), .sl0] H4000 fun v4006 H4006 =>
 stK 13 v4005 v4006 H4006 fun H4007 =>
 seqK (fun K5 =>
 faK 0 v4006 fun v7000 =>
 ldK false 1 v7000 H4007 fun v7001 =>
 binK .neq .no v7001 (.i .i64 2) fun v7002 =>
 gdK v7002 false (fun R7003 => faK 4 v4006 fun v7003 =>
 R7003 v7003 H4007 k4000) H4007 k4000 fun v7003 H7003 k7003 =>
 gdK v7002 false (fun R7004 => ldK false 1 v7003 H7003 fun v7004 =>
 R7004 v7004 H7003 k7003) H7003 k7003 fun v7004 H7004 k7004 =>
 gdK v7002 false (fun R7005 => binK .eql .no v7004 (.s []) fun v7005 =>
 R7005 v7005 H7004 k7004) H7004 k7004 fun v7005 H7005 k7005 =>
 pkK v7002 (.b true) v7005 fun v7006 =>
 condK v7006 (caK rec 95 [(Env.get s0 e), (.i .i64 132), (Env.get s1 e)] H7005 fun v10000 H10000 =>
 stK 2 v10000 v2000 H10000 fun H10001 =>
 K5 .ret (Env.put s27 v7006 (Env.put s5 v4006 (Env.put s4 v2000 e))) H10001 k7005)
 (K5 .norm (Env.put s27 v7006 (Env.put s5 v4006 (Env.put s4 v2000 e))) H7005 k7005)) (fun k5 e5 H5 =>
 seqK (fun K6 =>
 genK roundT rec (.nilCheck (.s s0)) k5 e5 [] H5 fun v8000 H8000 k8000 =>
 faK 3 v8000 fun v8001 =>
 ldK false 1 v8001 H8000 fun v8002 =>
 faK 4 (Env.get s5 e5) fun v8003 =>
 ldK false 1 v8003 H8000 fun v8004 =>
 genK roundT rec (.lookup .s .p0 false (.l 2) (.l 0)) k8000 e5 [v8004, v8003, v8002, v8001, v8000] H8000 fun v8005 H8005 k8005 =>
 binK .neq .ptr v8005 .p0 fun v8006 =>
 condK v8006 (caK rec 95 [(Env.get s0 e5), (.i .i64 4), (Env.get s1 e5)] H8005 fun v11000 H11000 =>
 stK 2 v11000 (Env.get s4 e5) H11000 fun H11001 =>
 K6 .ret (Env.put s38 v8006 e5) H11001 k8005)
 (K6 .norm (Env.put s38 v8006 e5) H8005 k8005)) (fun k6 e6 H6 =>
 faK 4 (Env.get s5 e6) fun v8000 =>
 ldK false 1 v8000 H6 fun v8001 =>
 bdK [(.s []), (.i .i64 0), (.s []), .sl0, .sl0, .sl0] [(0, 1, v8001), (1, 1, (Env.get s1 e6))] fun v8002 =>
 bxK v8002 H6 fun v8003 H8003 =>
 seqK (fun K9 =>
 faK 3 (Env.get s5 e6) fun v11000 =>
 ldK false 1 v11000 H8003 fun v11001 =>
 lnK .sl H8003 v11001 fun v11002 =>
 blockK 0 (fun K12 =>
 loopK (fun k13 e13 H13 K13 =>
 binK .lss .no (Env.get s50 e13) (Env.get s49 e13) fun v15000 =>
 seqK (fun K16 =>
 condK v15000 (K16 .norm (Env.put s51 v15000 e13) H13 k13)
 (K16 (.exit 0) (Env.put s51 v15000 e13) H13 k13)) (fun k16 e16 H16 =>
 seqK (fun K17 =>
 blockK 1 (fun K18 =>
 iaK .none 1 (Env.get s48 e16) (Env.get s50 e16) fun v20000 =>
 ldK false 1 v20000 H16 fun v20001 =>
 genK roundT rec (.nilCheck (.s s0)) k16 (Env.put s7 (Env.get s50 e16) (Env.put s8 v20001 e16)) [] H16 fun v22000 H22000 k22000 =>
 faK 0 v22000 fun v22001 =>
 faK 0 v22001 fun v22002 =>
 ldK false 1 v22002 H22000 fun v22003 =>
 iaK .none 13 v22003 v20001 fun v22004 =>
 ldK true 13 v22004 H22000 fun v22005 =>
 newK [(.i .i64 0), (.i .i64 0), (.i .i64 0), .sl0, (.s []), (.i .i64 0), (.s []), (.i .i64 0), (.s []), (.i .i64 0), (.i .i64 0), (.i .i64 0), .sl0] H22000 fun v22006 H22006 =>
 stK 13 v22005 v22006 H22006 fun H22007 =>
 genK roundT rec (.nilCheck (.s s6)) k22000 (Env.put s9 v22006 (Env.put s7 (Env.get s50 e16) (Env.put s8 v20001 e16))) [] H22007 fun v24000 H24000 k24000 =>
 faK 0 v24000 fun v24001 =>
 ldK false 1 v24001 H24000 fun v24002 =>
 faK 4 v22006 fun v24003 =>
 ldK false 1 v24003 H24000 fun v24004 =>
 faK 5 v22006 fun v24005 =>
 ldK true 4 v24005 H24000 fun v24006 =>
 bdK [(.s []), (.s []), (.i .i64 0), (.i .i64 0), (.s []), (.i .i64 0), (.s []), .sl0] [(0, 1, v24002), (1, 1, v24004), (2, 1, v20001), (3, 4, v24006)] fun v24007 =>
 newK [(.s []), (.s []), (.i .i64 0), (.i .i64 0), (.s []), (.i .i64 0), (.s []), .sl0] H24000 fun v24008 H24008 =>
 stK 8 v24007 v24008 H24008 fun H24009 =>
 faK 0 v22006 fun v26000 =>
 ldK false 1 v26000 H24009 fun v26001 =>
 blockK 2 (fun K27 =>
 binK .eql .no v26001 (.i .i64 3) fun v29000 =>
 condK v29000 (seqK (fun K31 =>
 binK .gtr .no (Env.get s50 e16) (.i .i64 0) fun v33000 =>
 gdK v33000 false (fun R33001 => faK 4 v22006 fun v33001 =>
 R33001 v33001 H24009 k24000) H24009 k24000 fun v33001 H33001 k33001 =>
 gdK v33000 false (fun R33002 => ldK false 1 v33001 H33001 fun v33002 =>
 R33002 v33002 H33001 k33001) H33001 k33001 fun v33002 H33002 k33002 =>
 gdK v33000 false (fun R33003 => binK .eql .no v33002 (.s []) fun v33003 =>
 R33003 v33003 H33002 k33002) H33002 k33002 fun v33003 H33003 k33003 =>
 pkK v33000 (.b true) v33003 fun v33004 =>
 condK v33004 (caK rec 95 [(Env.get s0 e16), (.i .i64 132), v20001] H33003 fun v36000 H36000 =>
 stK 2 v36000 (Env.get s4 e16) H36000 fun H36001 =>
 K31 .ret (Env.put s86 v33004 (Env.put s78 v29000 (Env.put s74 v26001 (Env.put s10 v24008 (Env.put s9 v22006 (Env.put s7 (Env.get s50 e16) (Env.put s8 v20001 e16))))))) H36001 k33003)
 (K31 .norm (Env.put s86 v33004 (Env.put s78 v29000 (Env.put s74 v26001 (Env.put s10 v24008 (Env.put s9 v22006 (Env.put s7 (Env.get s50 e16) (Env.put s8 v20001 e16))))))) H33003 k33003)) (fun k31 e31 H31 =>
 faK 4 (Env.get s9 e31) fun v32000 =>
 ldK false 1 v32000 H31 fun v32001 =>
 genK roundT rec (.nilCheck (.s s6)) k31 e31 [v32001, v32000] H31 fun v32002 H32002 k32002 =>
 faK 2 v32002 fun v32003 =>
 stK 1 v32001 v32003 H32002 fun H32004 =>
 K27 .norm e31 H32004 k32002) K27)
 (binK .eql .no v26001 (.i .i64 4) fun v32000 =>
 condK v32000 (genK roundT rec (.nilCheck (.s s6)) k24000 (Env.put s95 v32000 (Env.put s78 v29000 (Env.put s74 v26001 (Env.put s10 v24008 (Env.put s9 v22006 (Env.put s7 (Env.get s50 e16) (Env.put s8 v20001 e16))))))) [] H24009 fun v34000 H34000 k34000 =>
 faK 3 v34000 fun v34001 =>
 ldK false 1 v34001 H34000 fun v34002 =>
 ldK true 8 v24008 H34000 fun v34003 =>
 genK roundT rec (.buildSlice 1 8 [(.s []), (.s []), (.i .i64 0), (.i .i64 0), (.s []), (.i .i64 0), (.s []), .sl0] [(0, (.l 0))]) k34000 (Env.put s95 v32000 (Env.put s78 v29000 (Env.put s74 v26001 (Env.put s10 v24008 (Env.put s9 v22006 (Env.put s7 (Env.get s50 e16) (Env.put s8 v20001 e16))))))) [v34003, v34002, v34001, v34000] H34000 fun v34004 H34004 k34004 =>
 apK 8 [(.s []), (.s []), (.i .i64 0), (.i .i64 0), (.s []), (.i .i64 0), (.s []), .sl0] H34004 v34002 v34004 fun v34005 H34005 =>
 genK roundT rec (.nilCheck (.s s6)) k34004 (Env.put s95 v32000 (Env.put s78 v29000 (Env.put s74 v26001 (Env.put s10 v24008 (Env.put s9 v22006 (Env.put s7 (Env.get s50 e16) (Env.put s8 v20001 e16))))))) [v34005, v34004, v34003, v34002, v34001, v34000] H34005 fun v34006 H34006 k34006 =>
 faK 3 v34006 fun v34007 =>
 stK 1 v34005 v34007 H34006 fun H34008 =>
 K27 .norm (Env.put s95 v32000 (Env.put s78 v29000 (Env.put s74 v26001 (Env.put s10 v24008 (Env.put s9 v22006 (Env.put s7 (Env.get s50 e16) (Env.put s8 v20001 e16))))))) H34008 k34006)
 (seqK (fun K34 =>
 binK .eql .no v26001 (.i .i64 5) fun v36000 =>
 condK v36000 (K34 .norm (Env.put s107 v36000 (Env.put s95 v32000 (Env.put s78 v29000 (Env.put s74 v26001 (Env.put s10 v24008 (Env.put s9 v22006 (Env.put s7 (Env.get s50 e16) (Env.put s8 v20001 e16)))))))) H24009 k24000)
 (binK .eql .no v26001 (.i .i64 6) fun v38000 =>
 K34 .norm (Env.put s107 v38000 (Env.put s107 v36000 (Env.put s95 v32000 (Env.put s78 v29000 (Env.put s74 v26001 (Env.put s10 v24008 (Env.put s9 v22006 (Env.put s7 (Env.get s50 e16) (Env.put s8 v20001 e16))))))))) H24009 k24000)) (fun k34 e34 H34 =>
 condK (Env.get s107 e34) (seqK (fun K36 =>
 newK [(.i .i64 0), (.i .i64 0)] H34 fun v38000 H38000 =>
 caK rec 96 [(Env.get s0 e34), (Env.get s10 e34)] H38000 fun v38001 H38001 =>
 stK 2 v38001 v38000 H38001 fun H38002 =>
 faK 0 v38000 fun v40000 =>
 ldK false 1 v40000 H38002 fun v40001 =>
 binK .neq .no v40001 (.i .i64 0) fun v40002 =>
 condK v40002 (ldK true 2 v38000 H38002 fun v43000 =>
 stK 2 v43000 (Env.get s4 e34) H38002 fun H43001 =>
 K36 .ret (Env.put s114 v40002 (Env.put s11 v38000 e34)) H43001 k34)
 (K36 .norm (Env.put s114 v40002 (Env.put s11 v38000 e34)) H38002 k34)) (fun k36 e36 H36 =>
 faK 0 (Env.get s9 e36) fun v38000 =>
 ldK false 1 v38000 H36 fun v38001 =>
 binK .eql .no v38001 (.i .i64 5) fun v38002 =>
 condK v38002 (genK roundT rec (.nilCheck (.s s6)) k36 (Env.put s118 v38002 e36) [] H36 fun v40000 H40000 k40000 =>
 faK 5 v40000 fun v40001 =>
 ldK false 1 v40001 H40000 fun v40002 =>
 ldK true 8 (Env.get s10 e36) H40000 fun v40003 =>
 genK roundT rec (.buildSlice 1 8 [(.s []), (.s []), (.i .i64 0), (.i .i64 0), (.s []), (.i .i64 0), (.s []), .sl0] [(0, (.l 0))]) k40000 (Env.put s118 v38002 e36) [v40003, v40002, v40001, v40000] H40000 fun v40004 H40004 k40004 =>
 apK 8 [(.s []), (.s []), (.i .i64 0), (.i .i64 0), (.s []), (.i .i64 0), (.s []), .sl0] H40004 v40002 v40004 fun v40005 H40005 =>
 genK roundT rec (.nilCheck (.s s6)) k40004 (Env.put s118 v38002 e36) [v40005, v40004, v40003, v40002, v40001, v40000] H40005 fun v40006 H40006 k40006 =>
 faK 5 v40006 fun v40007 =>
 stK 1 v40005 v40007 H40006 fun H40008 =>
 K27 .norm (Env.put s118 v38002 e36) H40008 k40006)
 (genK roundT rec (.nilCheck (.s s6)) k36 (Env.put s118 v38002 e36) [] H36 fun v40000 H40000 k40000 =>
 faK 4 v40000 fun v40001 =>
 ldK false 1 v40001 H40000 fun v40002 =>
 ldK true 8 (Env.get s10 e36) H40000 fun v40003 =>
 genK roundT rec (.buildSlice 1 8 [(.s []), (.s []), (.i .i64 0), (.i .i64 0), (.s []), (.i .i64 0), (.s []), .sl0] [(0, (.l 0))]) k40000 (Env.put s118 v38002 e36) [v40003, v40002, v40001, v40000] H40000 fun v40004 H40004 k40004 =>
 apK 8 [(.s []), (.s []), (.i .i64 0), (.i .i64 0), (.s []), (.i .i64 0), (.s []), .sl0] H40004 v40002 v40004 fun v40005 H40005 =>
 genK roundT rec (.nilCheck (.s s6)) k40004 (Env.put s118 v38002 e36) [v40005, v40004, v40003, v40002, v40001, v40000] H40005 fun v40006 H40006 k40006 =>
 faK 4 v40006 fun v40007 =>
 stK 1 v40005 v40007 H40006 fun H40008 =>
 K27 .norm (Env.put s118 v38002 e36) H40008 k40006)) K27)
 (caK rec 95 [(Env.get s0 e34), (.i .i64 132), (Env.get s8 e34)] H34 fun v37000 H37000 =>
 stK 2 v37000 (Env.get s4 e34) H37000 fun H37001 =>
 K27 .ret e34 H37001 k34)) K27))) K18) K17) (fun k17 e17 H17 =>
 binK .add .no (Env.get s50 e17) (.i .i64 1) fun v18000 =>
 K13 .norm (Env.put s50 v18000 e17) H17 k17) K13) K13) rounds K12 k6 (Env.put s48 v11001 (Env.put s49 v11002 (Env.put s50 (.i .i64 0) (Env.put s6 v8003 e6)))) H8003) K9) (fun k9 e9 H9 =>
 genK roundT rec (.nilCheck (.s s0)) k9 e9 [] H9 fun v11000 H11000 k11000 =>
 faK 2 v11000 fun v11001 =>
 ldK false 1 v11001 H11000 fun v11002 =>
 genK roundT rec (.nilCheck (.s s6)) k11000 e9 [v11002, v11001, v11000] H11000 fun v11003 H11003 k11003 =>
 faK 0 v11003 fun v11004 =>
 ldK false 1 v11004 H11003 fun v11005 =>
 genK roundT rec (.buildSlice 1 1 [(.s [])] [(0, (.l 0))]) k11003 e9 [v11005, v11004, v11003, v11002, v11001, v11000] H11003 fun v11006 H11006 k11006 =>
 apK 1 [(.s [])] H11006 v11002 v11006 fun v11007 H11007 =>
 genK roundT rec (.nilCheck (.s s0)) k11006 e9 [v11007, v11006, v11005, v11004, v11003, v11002, v11001, v11000] H11007 fun v11008 H11008 k11008 =>
 faK 2 v11008 fun v11009 =>
 stK 1 v11007 v11009 H11008 fun H11010 =>
 genK roundT rec (.nilCheck (.s s0)) k11008 e9 [] H11010 fun v13000 H13000 k13000 =>
 faK 3 v13000 fun v13001 =>
 ldK false 1 v13001 H13000 fun v13002 =>
 genK roundT rec (.nilCheck (.s s6)) k13000 e9 [v13002, v13001, v13000] H13000 fun v13003 H13003 k13003 =>
 faK 0 v13003 fun v13004 =>
 ldK false 1 v13004 H13003 fun v13005 =>
 genK roundT rec (.mapUpd .s (.l 3) (.l 0) (.s s6)) k13003 e9 [v13005, v13004, v13003, v13002, v13001, v13000] H13003 fun v13006 H13006 k13006 =>
 caK rec 97 [(Env.get s0 e9), (Env.get s6 e9)] H13006 fun v15000 H15000 =>
 stK 2 v15000 (Env.get s4 e9) H15000 fun H15001 =>
 (endK recD [.cell true 2 s4]) .ret e9 H15001 k13006) (endK recD [.cell true 2 s4])) (endK recD [.cell true 2 s4])) (endK recD [.cell true 2 s4])
theorem Tryz.cOk60 : (compFn Tryz.prog Tryz.f60).map (bodyK 60) = some Tryz.c60 := by kernel_rfl
def Tryz.c64 : FnK := fun rec recD args H => startK 1 args fun e =>
 seqK (fun K3 =>
 binK .eql .sl (Env.get s0 e) .sl0 fun v5000 =>
 condK v5000 (K3 .ret (Env.put s2 .sl0 (Env.put s4 v5000 (Env.put s2 .sl0 e))) H (Ctl.mk [] .none))
 (K3 .norm (Env.put s4 v5000 (Env.put s2 .sl0 e)) H (Ctl.mk [] .none))) (fun k3 e3 H3 =>
 genK roundT rec (.buildSlice 0 1 [(.s [])] []) k3 e3 [] H3 fun v5000 H5000 k5000 =>
 apK 1 [(.s [])] H5000 v5000 (Env.get s0 e3) fun v5001 H5001 =>
 (endK recD [.slot s2]) .ret (Env.put s2 v5001 e3) H5001 k5000) (endK recD [.slot s2])
theorem Tryz.cOk64 : (compFn Tryz.prog Tryz.f64).map (bodyK 64) = some Tryz.c64 := by kernel_rfl
def Tryz.c65 : FnK := fun rec recD args H => startK 1 args fun e =>
 bxK (Env.get s0 e) H fun v2000 H2000 =>
 newK [(.s []), (.s []), (.i .i64 0), (.i .i64 0), (.s []), (.i .i64 0), (.s []), .sl0] H2000 fun v2001 H2001 =>
 faK 7 v2000 fun v4000 =>
 ldK false 1 v4000 H2001 fun v4001 =>
 caK rec 103 [v4001] H2001 fun v4002 H4002 =>
 faK 7 v2000 fun v4003 =>
 stK 1 v4002 v4003 H4002 fun H4004 =>
 ldK true 8 v2000 H4004 fun v6000 =>
 stK 8 v6000 v2001 H4004 fun H6001 =>
 (endK recD [.cell true 8 s2]) .ret (Env.put s1 v2000 (Env.put s2 v2001 e)) H6001 (Ctl.mk [] .none)
theorem Tryz.cOk65 : (compFn Tryz.prog Tryz.f65).map (bodyK 65) = some Tryz.c65 := by kernel_rfl
def Tryz.c66 : FnK := fun rec recD args H => startK 2 args fun e =>
 bxK (Env.get s0 e) H fun v2000 H2000 =>
 newK [(.i .i64 0), (.i .i64 0)] H2000 fun v2001 H2001 =>
 seqK (fun K3 =>
 ldK true 2 v2000 H2001 fun v5000 =>
 caK rec 42 [v5000] H2001 fun v5001 H5001 =>
 binK .neq .no v5001 (.i .i64 0) fun v7000 =>
 condK v7000 (bdK [(.i .i64 0), (.i .i64 0)] [(0, 1, v5001)] fun v10000 =>
 stK 2 v10000 v2001 H5001 fun H10001 =>
 K3 .ret (Env.put s4 .p0 (Env.put s14 v7000 (Env.put s6 v5001 (Env.put s2 v2000 (Env.put s4 .p0 (Env.put s5 v2001 e)))))) H10001 (Ctl.mk [] .none))
 (K3 .norm (Env.put s14 v7000 (Env.put s6 v5001 (Env.put s2 v2000 (Env.put s4 .p0 (Env.put s5 v2001 e))))) H5001 (Ctl.mk [] .none))) (fun k3 e3 H3 =>
 seqK (fun K4 =>
 binK .lss .no (Env.get s1 e3) (.i .i64 0) fun v6000 =>
 gdK v6000 false (fun R6001 => R6001 (Env.get s1 e3) H3 k3) H3 k3 fun v6001 H6001 k6001 =>
 gdK v6000 false (fun R6002 => faK 0 (Env.get s2 e3) fun v6002 =>
 R6002 v6002 H6001 k6001) H6001 k6001 fun v6002 H6002 k6002 =>
 gdK v6000 false (fun R6003 => ldK false 1 v6002 H6002 fun v6003 =>
 R6003 v6003 H6002 k6002) H6002 k6002 fun v6003 H6003 k6003 =>
 gdK v6000 false (fun R6004 => lnK .sl H6003 v6003 fun v6004 =>
 R6004 v6004 H6003 k6003) H6003 k6003 fun v6004 H6004 k6004 =>
 gdK v6000 false (fun R6005 => binK .geq .no v6001 v6004 fun v6005 =>
 R6005 v6005 H6004 k6004) H6004 k6004 fun v6005 H6005 k6005 =>
 pkK v6000 (.b true) v6005 fun v6006 =>
 gdK v6006 false (fun R6007 => faK 0 (Env.get s2 e3) fun v6007 =>
 R6007 v6007 H6005 k6005) H6005 k6005 fun v6007 H6007 k6007 =>
 gdK v6006 false (fun R6008 => ldK false 1 v6007 H6007 fun v6008 =>
 R6008 v6008 H6007 k6007) H6007 k6007 fun v6008 H6008 k6008 =>
 gdK v6006 false (fun R6009 => R6009 (Env.get s1 e3) H6008 k6008) H6008 k6008 fun v6009 H6009 k6009 =>
 gdK v6006 false (fun R6010 => iaK .none 13 v6008 v6009 fun v6010 =>
 R6010 v6010 H6009 k6009) H6009 k6009 fun v6010 H6010 k6010 =>
 gdK v6006 false (fun R6011 => faK 0 v6010 fun v6011 =>
 R6011 v6011 H6010 k6010) H6010 k6010 fun v6011 H6011 k6011 =>
 gdK v6006 false (fun R6012 => ldK false 1 v6011 H6011 fun v6012 =>
 R6012 v6012 H6011 k6011) H6011 k6011 fun v6012 H6012 k6012 =>
 gdK v6006 false (fun R6013 => binK .neq .no v6012 (.i .i64 6) fun v6013 =>
 R6013 v6013 H6012 k6012) H6012 k6012 fun v6013 H6013 k6013 =>
 gdK v6006 false (fun R6014 => R6014 v6013 H6013 k6013) H6013 k6013 fun v6014 H6014 k6014 =>
 gdK v6014 true (fun R6015 => faK 0 (Env.get s2 e3) fun v6015 =>
 R6015 v6015 H6014 k6014) H6014 k6014 fun v6015 H6015 k6015 =>
 gdK v6014 true (fun R6016 => ldK false 1 v6015 H6015 fun v6016 =>
 R6016 v6016 H6015 k6015) H6015 k6015 fun v6016 H6016 k6016 =>
 gdK v6014 true (fun R6017 => R6017 (Env.get s1 e3) H6016 k6016) H6016 k6016 fun v6017 H6017 k6017 =>
 gdK v6014 true (fun R6018 => iaK .none 13 v6016 v6017 fun v6018 =>
 R6018 v6018 H6017 k6017) H6017 k6017 fun v6018 H6018 k6018 =>
 gdK v6014 true (fun R6019 => faK 0 v6018 fun v6019 =>
 R6019 v6019 H6018 k6018) H6018 k6018 fun v6019 H6019 k6019 =>
 gdK v6014 true (fun R6020 => ldK false 1 v6019 H6019 fun v6020 =>
 R6020 v6020 H6019 k6019) H6019 k6019 fun v6020 H6020 k6020 =>
 gdK v6014 true (fun R6021 => binK .neq .no v6020 (.i .i64 5) fun v6021 =>
 R6021 v6021 H6020 k6020) H6020 k6020 fun v6021 H6021 k6021 =>
 gdK v6006 false (fun R6022 => pkK v6014 v6021 (.b false) fun v6022 =>
 R6022 v6022 H6021 k6021) H6021 k6021 fun v6022 H6022 k6022 =>
 pkK v6006 (.b true) v6022 fun v6023 =>
 condK v6023 (bdK [(.i .i64 0), (.i .i64 0)] [(0, 1, (.i .i64 132))] fun v9000 =>
 stK 2 v9000 (Env.get s5 e3) H6022 fun H9001 =>
 K4 .ret (Env.put s4 .p0 (Env.put s43 v6023 e3)) H9001 k6022)
 (K4 .norm (Env.put s43 v6023 e3) H6022 k6022)) (fun k4 e4 H4 =>
 ldK true 2 (Env.get s2 e4) H4 fun v6000 =>
 genK roundT rec (.mkMap .none) k4 e4 [v6000] H4 fun v6001 H6001 k6001 =>
 bdK [.sl0, (.i .i64 0), .sl0, .m0, .sl0] [(0, 2, v6000), (3, 1, v6001)] fun v6002 =>
 bxK v6002 H6001 fun v6003 H6003 =>
 seqK (fun K7 =>
 faK 0 (Env.get s2 e4) fun v9000 =>
 ldK false 1 v9000 H6003 fun v9001 =>
 iaK .none 13 v9001 (Env.get s1 e4) fun v9002 =>
 faK 3 v9002 fun v9003 =>
 ldK false 1 v9003 H6003 fun v9004 =>
 lnK .sl H6003 v9004 fun v9005 =>
 blockK 0 (fun K10 =>
 loopK (fun k11 e11 H11 K11 =>
 binK .lss .no (Env.get s56 e11) (Env.get s55 e11) fun v13000 =>
 seqK (fun K14 =>
 condK v13000 (K14 .norm (Env.put s57 v13000 e11) H11 k11)
 (K14 (.exit 0) (Env.put s57 v13000 e11) H11 k11)) (fun k14 e14 H14 =>
 seqK (fun K15 =>
 blockK 1 (fun K16 =>
 iaK .none 1 (Env.get s54 e14) (Env.get s56 e14) fun v18000 =>
 ldK false 1 v18000 H14 fun v18001 =>
 newK [(.i .i64 0), (.i .i64 0)] H14 fun v20000 H20000 =>
 caK rec 104 [(Env.get s7 e14), v18001] H20000 fun v20001 H20001 =>
 stK 2 v20001 v20000 H20001 fun H20002 =>
 faK 0 v20000 fun v22000 =>
 ldK false 1 v22000 H20002 fun v22001 =>
 binK .neq .no v22001 (.i .i64 0) fun v22002 =>
 condK v22002 (ldK true 2 v20000 H20002 fun v25000 =>
 stK 2 v25000 (Env.get s5 e14) H20002 fun H25001 =>
 K16 .ret (Env.put s4 .p0 (Env.put s65 v22002 (Env.put s10 v20000 (Env.put s9 v18001 e14)))) H25001 k14)
 (K16 .norm (Env.put s65 v22002 (Env.put s10 v20000 (Env.put s9 v18001 e14))) H20002 k14)) K15) (fun k15 e15 H15 =>
 binK .add .no (Env.get s56 e15) (.i .i64 1) fun v16000 =>
 K11 .norm (Env.put s56 v16000 e15) H15 k15) K11) K11) rounds K10 k6001 (Env.put s54 v9004 (Env.put s55 v9005 (Env.put s56 (.i .i64 0) (Env.put s7 v6003 e4)))) H6003) K7) (fun k7 e7 H7 =>
 genK roundT rec (.nilCheck (.s s7)) k7 e7 [] H7 fun v9000 H9000 k9000 =>
 faK 4 v9000 fun v9001 =>
 stK 1 .sl0 v9001 H9000 fun H9002 =>
 bdK [(.i .i64 0), (.i .i64 0)] [] fun v11000 =>
 stK 2 v11000 (Env.get s5 e7) H9002 fun H11001 =>
 (endK recD [.slot s4, .cell true 2 s5]) .ret (Env.put s4 (Env.get s7 e7) e7) H11001 k9000) (endK recD [.slot s4, .cell true 2 s5])) (endK recD [.slot s4, .cell true 2 s5])) (endK recD [.slot s4, .cell true 2 s5])
theorem Tryz.cOk66 : (compFn Tryz.prog Tryz.f66).map (bodyK 66) = some Tryz.c66 := by kernel_rfl
def Tryz.c68 : FnK := fun rec recD args H => startK 2 args fun e =>
 seqK (fun K3 =>
 genK roundT rec (.nilCheck (.s s0)) (Ctl.mk [] .none) (Env.put s4 (.i .i64 0) e) [] H fun v5000 H5000 k5000 =>
 faK 3 v5000 fun v5001 =>
 ldK false 1 v5001 H5000 fun v5002 =>
 genK roundT rec (.lookup .i (.i .i64 0) true (.l 0) (.s s1)) k5000 (Env.put s4 (.i .i64 0) e) [v5002, v5001, v5000] H5000 fun v5003 H5003 k5003 =>
 exK 0 v5003 fun v5004 =>
 exK 1 v5003 fun v5005 =>
 condK v5005 (K3 .ret (Env.put s4 v5004 (Env.put s16 v5005 (Env.put s5 v5004 (Env.put s6 v5005 (Env.put s4 (.i .i64 0) e))))) H5003 k5003)
 (K3 .norm (Env.put s16 v5005 (Env.put s5 v5004 (Env.put s6 v5005 (Env.put s4 (.i .i64 0) e)))) H5003 k5003)) (fun k3 e3 H3 =>
 (endK recD [.slot s4]) .ret (Env.put s4 (.i .i64 (-1)) e3) H3 k3) (endK recD [.slot s4])
theorem Tryz.cOk68 : (compFn Tryz.prog Tryz.f68).map (bodyK 68) = some Tryz.c68 := by kernel_rfl
def Tryz.c73 : FnK := fun rec recD args H => startK 1 args fun e =>
 bxK (Env.get s0 e) H fun v2000 H2000 =>
 seqK (fun K3 =>
 faK 2 v2000 fun v5000 =>
 ldK false 1 v5000 H2000 fun v5001 =>
 binK .lss .no v5001 (.i .i64 0) fun v5002 =>
 gdK v5002 false (fun R5003 => faK 2 v2000 fun v5003 =>
 R5003 v5003 H2000 (Ctl.mk [] .none)) H2000 (Ctl.mk [] .none) fun v5003 H5003 k5003 =>
 gdK v5002 false (fun R5004 => ldK false 1 v5003 H5003 fun v5004 =>
 R5004 v5004 H5003 k5003) H5003 k5003 fun v5004 H5004 k5004 =>
 gdK v5002 false (fun R5005 => binK .gtr .no v5004 (.i .i64 4) fun v5005 =>
 R5005 v5005 H5004 k5004) H5004 k5004 fun v5005 H5005 k5005 =>
 pkK v5002 (.b true) v5005 fun v5006 =>
 gdK v5006 false (fun R5007 => faK 3 v2000 fun v5007 =>
 R5007 v5007 H5005 k5005) H5005 k5005 fun v5007 H5007 k5007 =>
 gdK v5006 false (fun R5008 => ldK false 1 v5007 H5007 fun v5008 =>
 R5008 v5008 H5007 k5007) H5007 k5007 fun v5008 H5008 k5008 =>
 gdK v5006 false (fun R5009 => lnK .s H5008 v5008 fun v5009 =>
 R5009 v5009 H5008 k5008) H5008 k5008 fun v5009 H5009 k5009 =>
 gdK v5006 false (fun R5010 => faK 2 v2000 fun v5010 =>
 R5010 v5010 H5009 k5009) H5009 k5009 fun v5010 H5010 k5010 =>
 gdK v5006 false (fun R5011 => ldK false 1 v5010 H5010 fun v5011 =>
 R5011 v5011 H5010 k5010) H5010 k5010 fun v5011 H5011 k5011 =>
 gdK v5006 false (fun R5012 => binK .add .no v5011 (.i .i64 1) fun v5012 =>
 R5012 v5012 H5011 k5011) H5011 k5011 fun v5012 H5012 k5012 =>
 gdK v5006 false (fun R5013 => binK .neq .no v5009 v5012 fun v5013 =>
 R5013 v5013 H5012 k5012) H5012 k5012 fun v5013 H5013 k5013 =>
 pkK v5006 (.b true) v5013 fun v5014 =>
 gdK v5014 false (fun R5015 => faK 0 v2000 fun v5015 =>
 R5015 v5015 H5013 k5013) H5013 k5013 fun v5015 H5015 k5015 =>
 gdK v5014 false (fun R5016 => ldK false 1 v5015 H5015 fun v5016 =>
 R5016 v5016 H5015 k5015) H5015 k5015 fun v5016 H5016 k5016 =>
 gdK v5014 false (fun R5017 => binK .lss .no v5016 (.i .i64 1) fun v5017 =>
 R5017 v5017 H5016 k5016) H5016 k5016 fun v5017 H5017 k5017 =>
 pkK v5014 (.b true) v5017 fun v5018 =>
 gdK v5018 false (fun R5019 => faK 0 v2000 fun v5019 =>
 R5019 v5019 H5017 k5017) H5017 k5017 fun v5019 H5019 k5019 =>
 gdK v5018 false (fun R5020 => ldK false 1 v5019 H5019 fun v5020 =>
 R5020 v5020 H5019 k5019) H5019 k5019 fun v5020 H5020 k5020 =>
 gdK v5018 false (fun R5021 => binK .gtr .no v5020 (.i .i64 6) fun v5021 =>
 R5021 v5021 H5020 k5020) H5020 k5020 fun v5021 H5021 k5021 =>
 pkK v5018 (.b true) v5021 fun v5022 =>
 gdK v5022 false (fun R5023 => faK 0 v2000 fun v5023 =>
 R5023 v5023 H5021 k5021) H5021 k5021 fun v5023 H5023 k5023 =>
 gdK v5022 false (fun R5024 => ldK false 1 v5023 H5023 fun v5024 =>
 R5024 v5024 H5023 k5023) H5023 k5023 fun v5024 H5024 k5024 =>
 gdK v5022 false (fun R5025 => binK .eql .no v5024 (.i .i64 5) fun v5025 =>
 R5025 v5025 H5024 k5024) H5024 k5024 fun v5025 H5025 k5025 =>
 gdK v5022 false (fun R5026 => faK 1 v2000 fun v5026 =>
 R5026 v5026 H5025 k5025) H5025 k5025 fun v5026 H5026 k5026 =>
 gdK v5022 false (fun R5027 => ldK false 1 v5026 H5026 fun v5027 =>
 R5027 v5027 H5026 k5026) H5026 k5026 fun v5027 H5027 k5027 =>
 gdK v5022 false (fun R5028 => binK .neq .no v5027 (.s []) fun v5028 =>
 R5028 v5028 H5027 k5027) H5027 k5027 fun v5028 H5028 k5028 =>
 gdK v5022 false (fun R5029 => binK .neq .b v5025 v5028 fun v5029 =>
 R5029 v5029 H5028 k5028) H5028 k5028 fun v5029 H5029 k5029 =>
 pkK v5022 (.b true) v5029 fun v5030 =>
 gdK v5030 false (fun R5031 => faK 0 v2000 fun v5031 =>
 R5031 v5031 H5029 k5029) H5029 k5029 fun v5031 H5031 k5031 =>
 gdK v5030 false (fun R5032 => ldK false 1 v5031 H5031 fun v5032 =>
 R5032 v5032 H5031 k5031) H5031 k5031 fun v5032 H5032 k5032 =>
 gdK v5030 false (fun R5033 => binK .eql .no v5032 (.i .i64 6) fun v5033 =>
 R5033 v5033 H5032 k5032) H5032 k5032 fun v5033 H5033 k5033 =>
 gdK v5030 false (fun R5034 => R5034 v5033 H5033 k5033) H5033 k5033 fun v5034 H5034 k5034 =>
 gdK v5034 true (fun R5035 => faK 2 v2000 fun v5035 =>
 R5035 v5035 H5034 k5034) H5034 k5034 fun v5035 H5035 k5035 =>
 gdK v5034 true (fun R5036 => ldK false 1 v5035 H5035 fun v5036 =>
 R5036 v5036 H5035 k5035) H5035 k5035 fun v5036 H5036 k5036 =>
 gdK v5034 true (fun R5037 => binK .gtr .no v5036 (.i .i64 0) fun v5037 =>
 R5037 v5037 H5036 k5036) H5036 k5036 fun v5037 H5037 k5037 =>
 gdK v5030 false (fun R5038 => pkK v5034 v5037 (.b false) fun v5038 =>
 R5038 v5038 H5037 k5037) H5037 k5037 fun v5038 H5038 k5038 =>
 pkK v5030 (.b true) v5038 fun v5039 =>
 condK v5039 (K3 .ret (Env.put s2 (.b false) (Env.put s49 v5039 (Env.put s1 v2000 (Env.put s2 (.b false) e)))) H5038 k5038)
 (K3 .norm (Env.put s49 v5039 (Env.put s1 v2000 (Env.put s2 (.b false) e))) H5038 k5038)) (fun k3 e3 H3 =>
 seqK (fun K4 =>
 faK 3 (Env.get s1 e3) fun v6000 =>
 ldK false 1 v6000 H3 fun v6001 =>
 lnK .s H3 v6001 fun v6002 =>
 blockK 0 (fun K7 =>
 loopK (fun k8 e8 H8 K8 =>
 binK .lss .no (Env.get s53 e8) (Env.get s52 e8) fun v10000 =>
 seqK (fun K11 =>
 condK v10000 (K11 .norm (Env.put s54 v10000 e8) H8 k8)
 (K11 (.exit 0) (Env.put s54 v10000 e8) H8 k8)) (fun k11 e11 H11 =>
 seqK (fun K12 =>
 blockK 1 (fun K13 =>
 faK 3 (Env.get s1 e11) fun v17000 =>
 ldK false 1 v17000 H11 fun v17001 =>
 ixK .none v17001 (Env.get s53 e11) fun v17002 =>
 blockK 2 (fun K18 =>
 binK .eql .no v17002 (.i .u8 32) fun v20000 =>
 condK v20000 (K18 .norm (Env.put s60 v20000 (Env.put s59 v17002 (Env.put s3 (Env.get s53 e11) e11))) H11 k11)
 (seqK (fun K22 =>
 binK .eql .no v17002 (.i .u8 63) fun v24000 =>
 condK v24000 (K22 .norm (Env.put s62 v24000 (Env.put s60 v20000 (Env.put s59 v17002 (Env.put s3 (Env.get s53 e11) e11)))) H11 k11)
 (binK .eql .no v17002 (.i .u8 111) fun v26000 =>
 K22 .norm (Env.put s62 v26000 (Env.put s62 v24000 (Env.put s60 v20000 (Env.put s59 v17002 (Env.put s3 (Env.get s53 e11) e11))))) H11 k11)) (fun k22 e22 H22 =>
 condK (Env.get s62 e22) (binK .eql .no (Env.get s3 e22) (.i .i64 0) fun v25000 =>
 gdK v25000 true (fun R25001 => faK 0 (Env.get s1 e22) fun v25001 =>
 R25001 v25001 H22 k22) H22 k22 fun v25001 H25001 k25001 =>
 gdK v25000 true (fun R25002 => ldK false 1 v25001 H25001 fun v25002 =>
 R25002 v25002 H25001 k25001) H25001 k25001 fun v25002 H25002 k25002 =>
 gdK v25000 true (fun R25003 => binK .neq .no v25002 (.i .i64 5) fun v25003 =>
 R25003 v25003 H25002 k25002) H25002 k25002 fun v25003 H25003 k25003 =>
 pkK v25000 v25003 (.b false) fun v25004 =>
 gdK v25004 false (fun R25005 => faK 3 (Env.get s1 e22) fun v25005 =>
 R25005 v25005 H25003 k25003) H25003 k25003 fun v25005 H25005 k25005 =>
 gdK v25004 false (fun R25006 => ldK false 1 v25005 H25005 fun v25006 =>
 R25006 v25006 H25005 k25005) H25005 k25005 fun v25006 H25006 k25006 =>
 gdK v25004 false (fun R25007 => R25007 (Env.get s3 e22) H25006 k25006) H25006 k25006 fun v25007 H25007 k25007 =>
 gdK v25004 false (fun R25008 => ixK .none v25006 v25007 fun v25008 =>
 R25008 v25008 H25007 k25007) H25007 k25007 fun v25008 H25008 k25008 =>
 gdK v25004 false (fun R25009 => binK .eql .no v25008 (.i .u8 111) fun v25009 =>
 R25009 v25009 H25008 k25008) H25008 k25008 fun v25009 H25009 k25009 =>
 gdK v25004 false (fun R25010 => R25010 v25009 H25009 k25009) H25009 k25009 fun v25010 H25010 k25010 =>
 gdK v25010 true (fun R25011 => R25011 (Env.get s3 e22) H25010 k25010) H25010 k25010 fun v25011 H25011 k25011 =>
 gdK v25010 true (fun R25012 => faK 2 (Env.get s1 e22) fun v25012 =>
 R25012 v25012 H25011 k25011) H25011 k25011 fun v25012 H25012 k25012 =>
 gdK v25010 true (fun R25013 => ldK false 1 v25012 H25012 fun v25013 =>
 R25013 v25013 H25012 k25012) H25012 k25012 fun v25013 H25013 k25013 =>
 gdK v25010 true (fun R25014 => binK .lss .no v25011 v25013 fun v25014 =>
 R25014 v25014 H25013 k25013) H25013 k25013 fun v25014 H25014 k25014 =>
 gdK v25004 false (fun R25015 => pkK v25010 v25014 (.b false) fun v25015 =>
 R25015 v25015 H25014 k25014) H25014 k25014 fun v25015 H25015 k25015 =>
 pkK v25004 (.b true) v25015 fun v25016 =>
 condK v25016 (K18 .ret (Env.put s2 (.b false) (Env.put s84 v25016 e22)) H25015 k25015)
 (K18 .norm (Env.put s84 v25016 e22) H25015 k25015))
 (K18 .ret (Env.put s2 (.b false) e22) H22 k22)) K18)) K13) K12) (fun k12 e12 H12 =>
 binK .add .no (Env.get s53 e12) (.i .i64 1) fun v13000 =>
 K8 .norm (Env.put s53 v13000 e12) H12 k12) K8) K8) rounds K7 k3 (Env.put s52 v6002 (Env.put s53 (.i .i64 0) e3)) H3) K4) (fun k4 e4 H4 =>
 (endK recD [.slot s2]) .ret (Env.put s2 (.b true) e4) H4 k4) (endK recD [.slot s2])) (endK recD [.slot s2])
theorem Tryz.cOk73 : (compFn Tryz.prog Tryz.f73).map (bodyK 73) = some Tryz.c73 := by kernel_rfl
def Tryz.c74 : FnK := fun rec recD args H => startK 2 args fun e =>
 bxK (Env.get s1 e) H fun v2000 H2000 =>
 seqK (fun K3 =>
 genK roundT rec (.nilCheck (.s s0)) (Ctl.mk [] .none) (Env.put s3 v2000 (Env.put s4 (.i .i64 0) (Env.put s5 (.b false) e))) [] H2000 fun v5000 H5000 k5000 =>
 faK 0 v5000 fun v5001 =>
 faK 0 v5001 fun v5002 =>
 ldK false 1 v5002 H5000 fun v5003 =>
 lnK .sl H5000 v5003 fun v5004 =>
 binK .geq .no v5004 (.i .i64 16384) fun v5005 =>
 condK v5005 (K3 .ret (Env.put s4 (.i .i64 0) (Env.put s5 (.b false) (Env.put s12 v5005 (Env.put s3 v2000 (Env.put s4 (.i .i64 0) (Env.put s5 (.b false) e)))))) H5000 k5000)
 (K3 .norm (Env.put s12 v5005 (Env.put s3 v2000 (Env.put s4 (.i .i64 0) (Env.put s5 (.b false) e)))) H5000 k5000)) (fun k3 e3 H3 =>
 faK 3 (Env.get s3 e3) fun v5000 =>
 ldK false 1 v5000 H3 fun v5001 =>
 faK 12 (Env.get s3 e3) fun v5002 =>
 ldK false 1 v5002 H3 fun v5003 =>
 caK rec 59 [v5001] H3 fun v5004 H5004 =>
 boolK (and (again ⟨.load false 1 (.l 0), .none, []⟩ v5003 e3 [v5002, v5001, v5000] H5004) true) (faK 3 (Env.get s3 e3) fun v5005 =>
 caK rec 59 [v5003] H5004 fun v5006 H5006 =>
 stK 1 v5004 v5005 H5006 fun H5007 =>
 faK 12 (Env.get s3 e3) fun v5008 =>
 stK 1 v5006 v5008 H5007 fun H5009 =>
 genK roundT rec (.nilCheck (.s s0)) k3 e3 [] H5009 fun v7000 H7000 k7000 =>
 faK 0 v7000 fun v7001 =>
 faK 0 v7001 fun v7002 =>
 ldK false 1 v7002 H7000 fun v7003 =>
 ldK true 13 (Env.get s3 e3) H7000 fun v7004 =>
 genK roundT rec (.buildSlice 1 13 [(.i .i64 0), (.i .i64 0), (.i .i64 0), .sl0, (.s []), (.i .i64 0), (.s []), (.i .i64 0), (.s []), (.i .i64 0), (.i .i64 0), (.i .i64 0), .sl0] [(0, (.l 0))]) k7000 e3 [v7004, v7003, v7002, v7001, v7000] H7000 fun v7005 H7005 k7005 =>
 apK 13 [(.i .i64 0), (.i .i64 0), (.i .i64 0), .sl0, (.s []), (.i .i64 0), (.s []), (.i .i64 0), (.s []), (.i .i64 0), (.i .i64 0), (.i .i64 0), .sl0] H7005 v7003 v7005 fun v7006 H7006 =>
 genK roundT rec (.nilCheck (.s s0)) k7005 e3 [v7006, v7005, v7004, v7003, v7002, v7001, v7000] H7006 fun v7007 H7007 k7007 =>
 faK 0 v7007 fun v7008 =>
 faK 0 v7008 fun v7009 =>
 stK 1 v7006 v7009 H7007 fun H7010 =>
 genK roundT rec (.nilCheck (.s s0)) k7007 e3 [] H7010 fun v9000 H9000 k9000 =>
 faK 0 v9000 fun v9001 =>
 faK 0 v9001 fun v9002 =>
 ldK false 1 v9002 H9000 fun v9003 =>
 lnK .sl H9000 v9003 fun v9004 =>
 binK .sub .no v9004 (.i .i64 1) fun v9005 =>
 (endK recD [.slot s4, .slot s5]) .ret (Env.put s4 v9005 (Env.put s5 (.b true) e3)) H9000 k9000)) (endK recD [.slot s4, .slot s5])
theorem Tryz.cOk74 : (compFn Tryz.prog Tryz.f74).map (bodyK 74) = some Tryz.c74 := by kernel_rfl
def Tryz.c75 : FnK := fun rec recD args H => startK 2 args fun e =>
 seqK (fun K3 =>
 blockK 0 (fun K6 =>
 binK .eql .no (Env.get s1 e) (.i .i64 0) fun v8000 =>
 condK v8000 (K6 .ret (Env.put s4 (.s []) (Env.put s12 v8000 (Env.put s11 (Env.get s1 e) (Env.put s4 (.s []) e)))) H (Ctl.mk [] .none))
 (binK .eql .no (Env.get s1 e) (.i .i64 1) fun v11000 =>
 condK v11000 (K6 .ret (Env.put s4 (Env.get s0 e) (Env.put s14 v11000 (Env.put s12 v8000 (Env.put s11 (Env.get s1 e) (Env.put s4 (.s []) e))))) H (Ctl.mk [] .none))
 (K6 .norm (Env.put s14 v11000 (Env.put s12 v8000 (Env.put s11 (Env.get s1 e) (Env.put s4 (.s []) e)))) H (Ctl.mk [] .none)))) K3) (fun k3 e3 H3 =>
 seqK (fun K4 =>
 binK .lss .no (Env.get s1 e3) (.i .i64 0) fun v6000 =>
 condK v6000 (genK roundT rec (.mkIface 9 (.c (.s [115, 116, 114, 105, 110, 103, 115, 58, 32, 110, 101, 103, 97, 116, 105, 118, 101, 32, 82, 101, 112, 101, 97, 116, 32, 99, 111, 117, 110, 116]))) k3 (Env.put s18 v6000 e3) [] H3 fun v8000 H8000 k8000 =>
 genK roundT rec (.panic (.l 0)) k8000 (Env.put s18 v6000 e3) [v8000] H8000 fun v8001 H8001 k8001 =>
 K4 .norm (Env.put s18 v6000 e3) H8001 k8001)
 (K4 .norm (Env.put s18 v6000 e3) H3 k3)) (fun k4 e4 H4 =>
 lnK .s H4 (Env.get s0 e4) fun v6000 =>
 genK roundT rec (.convInt .u64 (.l 0)) k4 e4 [v6000] H4 fun v6001 H6001 k6001 =>
 genK roundT rec (.convInt .u64 (.s s1)) k6001 e4 [v6001, v6000] H6001 fun v6002 H6002 k6002 =>
 caK rec 113 [v6001, v6002] H6002 fun v6003 H6003 =>
 exK 0 v6003 fun v6004 =>
 exK 1 v6003 fun v6005 =>
 seqK (fun K7 =>
 binK .gtr .no v6004 (.i .u64 0) fun v9000 =>
 gdK v9000 false (fun R9001 => R9001 v6005 H6003 k6002) H6003 k6002 fun v9001 H9001 k9001 =>
 gdK v9000 false (fun R9002 => binK .gtr .no v9001 (.i .u64 9223372036854775807) fun v9002 =>
 R9002 v9002 H9001 k9001) H9001 k9001 fun v9002 H9002 k9002 =>
 pkK v9000 (.b true) v9002 fun v9003 =>
 condK v9003 (genK roundT rec (.mkIface 9 (.c (.s [115, 116, 114, 105, 110, 103, 115, 58, 32, 82, 101, 112, 101, 97, 116, 32, 111, 117, 116, 112, 117, 116, 32, 108, 101, 110, 103, 116, 104, 32, 111, 118, 101, 114, 102, 108, 111, 119]))) k9002 (Env.put s34 v9003 (Env.put s5 v6004 (Env.put s6 v6005 e4))) [] H9002 fun v11000 H11000 k11000 =>
 genK roundT rec (.panic (.l 0)) k11000 (Env.put s34 v9003 (Env.put s5 v6004 (Env.put s6 v6005 e4))) [v11000] H11000 fun v11001 H11001 k11001 =>
 K7 .norm (Env.put s34 v9003 (Env.put s5 v6004 (Env.put s6 v6005 e4))) H11001 k11001)
 (K7 .norm (Env.put s34 v9003 (Env.put s5 v6004 (Env.put s6 v6005 e4))) H9002 k9002)) (fun k7 e7 H7 =>
 genK roundT rec (.convInt .i64 (.s s6)) k7 e7 [] H7 fun v9000 H9000 k9000 =>
 seqK (fun K10 =>
 lnK .s H9000 (Env.get s0 e7) fun v12000 =>
 binK .eql .no v12000 (.i .i64 0) fun v12001 =>
 condK v12001 (K10 .ret (Env.put s4 (.s []) (Env.put s40 v12001 (Env.put s7 v9000 e7))) H9000 k9000)
 (K10 .norm (Env.put s40 v12001 (Env.put s7 v9000 e7)) H9000 k9000)) (fun k10 e10 H10 =>
 seqK (fun K11 =>
 ixK .none (Env.get s0 e10) (.i .i64 0) fun v13000 =>
 blockK 1 (fun K14 =>
 seqK (fun K15 =>
 binK .eql .no v13000 (.i .u8 32) fun v17000 =>
 condK v17000 (K15 .norm (Env.put s43 v17000 (Env.put s42 v13000 e10)) H10 k10)
 (binK .eql .no v13000 (.i .u8 45) fun v20000 =>
 condK v20000 (K15 .norm (Env.put s43 v20000 (Env.put s43 v17000 (Env.put s42 v13000 e10))) H10 k10)
 (binK .eql .no v13000 (.i .u8 48) fun v23000 =>
 condK v23000 (K15 .norm (Env.put s43 v23000 (Env.put s43 v20000 (Env.put s43 v17000 (Env.put s42 v13000 e10)))) H10 k10)
 (binK .eql .no v13000 (.i .u8 61) fun v26000 =>
 condK v26000 (K15 .norm (Env.put s43 v26000 (Env.put s43 v23000 (Env.put s43 v20000 (Env.put s43 v17000 (Env.put s42 v13000 e10))))) H10 k10)
 (binK .eql .no v13000 (.i .u8 9) fun v28000 =>
 K15 .norm (Env.put s43 v28000 (Env.put s43 v26000 (Env.put s43 v23000 (Env.put s43 v20000 (Env.put s43 v17000 (Env.put s42 v13000 e10)))))) H10 k10))))) (fun k15 e15 H15 =>
 condK (Env.get s43 e15) (blockK 2 (fun K17 =>
 binK .leq .no (Env.get s7 e15) (.i .i64 128) fun v19000 =>
 gdK v19000 true (fun R19001 => R19001 (Env.get s0 e15) H15 k15) H15 k15 fun v19001 H19001 k19001 =>
 gdK v19000 true (fun R19002 => caK rec 114 [(.s [32, 32, 32, 32, 32, 32, 32, 32, 32, 32, 32, 32, 32, 32, 32, 32, 32, 32, 32, 32, 32, 32, 32, 32, 32, 32, 32, 32, 32, 32, 32, 32, 32, 32, 32, 32, 32, 32, 32, 32, 32, 32, 32, 32, 32, 32, 32, 32, 32, 32, 32, 32, 32, 32, 32, 32, 32, 32, 32, 32, 32, 32, 32, 32, 32, 32, 32, 32, 32, 32, 32, 32, 32, 32, 32, 32, 32, 32, 32, 32, 32, 32, 32, 32, 32, 32, 32, 32, 32, 32, 32, 32, 32, 32, 32, 32, 32, 32, 32, 32, 32, 32, 32, 32, 32, 32, 32, 32, 32, 32, 32, 32, 32, 32, 32, 32, 32, 32, 32, 32, 32, 32, 32, 32, 32, 32, 32, 32]), v19001] H19001 fun v19002 H19002 =>
 R19002 v19002 H19002 k19001) H19001 k19001 fun v19002 H19002 k19002 =>
 pkK v19000 v19002 (.b false) fun v19003 =>
 condK v19003 (slK .none (.s [32, 32, 32, 32, 32, 32, 32, 32, 32, 32, 32, 32, 32, 32, 32, 32, 32, 32, 32, 32, 32, 32, 32, 32, 32, 32, 32, 32, 32, 32, 32, 32, 32, 32, 32, 32, 32, 32, 32, 32, 32, 32, 32, 32, 32, 32, 32, 32, 32, 32, 32, 32, 32, 32, 32, 32, 32, 32, 32, 32, 32, 32, 32, 32, 32, 32, 32, 32, 32, 32, 32, 32, 32, 32, 32, 32, 32, 32, 32, 32, 32, 32, 32, 32, 32, 32, 32, 32, 32, 32, 32, 32, 32, 32, 32, 32, 32, 32, 32, 32, 32, 32, 32, 32, 32, 32, 32, 32, 32, 32, 32, 32, 32, 32, 32, 32, 32, 32, 32, 32, 32, 32, 32, 32, 32, 32, 32, 32]) .none (.some (Env.get s7 e15)) .none fun v22000 =>
 K17 .ret (Env.put s4 v22000 (Env.put s49 v19003 e15)) H19002 k19002)
 (binK .leq .no (Env.get s7 e15) (.i .i64 128) fun v22000 =>
 gdK v22000 true (fun R22001 => R22001 (Env.get s0 e15) H19002 k19002) H19002 k19002 fun v22001 H22001 k22001 =>
 gdK v22000 true (fun R22002 => caK rec 114 [(.s [45, 45, 45, 45, 45, 45, 45, 45, 45, 45, 45, 45, 45, 45, 45, 45, 45, 45, 45, 45, 45, 45, 45, 45, 45, 45, 45, 45, 45, 45, 45, 45, 45, 45, 45, 45, 45, 45, 45, 45, 45, 45, 45, 45, 45, 45, 45, 45, 45, 45, 45, 45, 45, 45, 45, 45, 45, 45, 45, 45, 45, 45, 45, 45, 45, 45, 45, 45, 45, 45, 45, 45, 45, 45, 45, 45, 45, 45, 45, 45, 45, 45, 45, 45, 45, 45, 45, 45, 45, 45, 45, 45, 45, 45, 45, 45, 45, 45, 45, 45, 45, 45, 45, 45, 45, 45, 45, 45, 45, 45, 45, 45, 45, 45, 45, 45, 45, 45, 45, 45, 45, 45, 45, 45, 45, 45, 45, 45]), v22001] H22001 fun v22002 H22002 =>
 R22002 v22002 H22002 k22001) H22001 k22001 fun v22002 H22002 k22002 =>
 pkK v22000 v22002 (.b false) fun v22003 =>
 condK v22003 (slK .none (.s [45, 45, 45, 45, 45, 45, 45, 45, 45, 45, 45, 45, 45, 45, 45, 45, 45, 45, 45, 45, 45, 45, 45, 45, 45, 45, 45, 45, 45, 45, 45, 45, 45, 45, 45, 45, 45, 45, 45, 45, 45, 45, 45, 45, 45, 45, 45, 45, 45, 45, 45, 45, 45, 45, 45, 45, 45, 45, 45, 45, 45, 45, 45, 45, 45, 45, 45, 45, 45, 45, 45, 45, 45, 45, 45, 45, 45, 45, 45, 45, 45, 45, 45, 45, 45, 45, 45, 45, 45, 45, 45, 45, 45, 45, 45, 45, 45, 45, 45, 45, 45, 45, 45, 45, 45, 45, 45, 45, 45, 45, 45, 45, 45, 45, 45, 45, 45, 45, 45, 45, 45, 45, 45, 45, 45, 45, 45, 45]) .none (.some (Env.get s7 e15)) .none fun v25000 =>
 K17 .ret (Env.put s4 v25000 (Env.put s58 v22003 (Env.put s49 v19003 e15))) H22002 k22002)
 (binK .leq .no (Env.get s7 e15) (.i .i64 64) fun v25000 =>
 gdK v25000 true (fun R25001 => R25001 (Env.get s0 e15) H22002 k22002) H22002 k22002 fun v25001 H25001 k25001 =>
 gdK v25000 true (fun R25002 => caK rec 114 [(.s [48, 48, 48, 48, 48, 48, 48, 48, 48, 48, 48, 48, 48, 48, 48, 48, 48, 48, 48, 48, 48, 48, 48, 48, 48, 48, 48, 48, 48, 48, 48, 48, 48, 48, 48, 48, 48, 48, 48, 48, 48, 48, 48, 48, 48, 48, 48, 48, 48, 48, 48, 48, 48, 48, 48, 48, 48, 48, 48, 48, 48, 48, 48, 48]), v25001] H25001 fun v25002 H25002 =>
 R25002 v25002 H25002 k25001) H25001 k25001 fun v25002 H25002 k25002 =>
 pkK v25000 v25002 (.b false) fun v25003 =>
 condK v25003 (slK .none (.s [48, 48, 48, 48, 48, 48, 48, 48, 48, 48, 48, 48, 48, 48, 48, 48, 48, 48, 48, 48, 48, 48, 48, 48, 48, 48, 48, 48, 48, 48, 48, 48, 48, 48, 48, 48, 48, 48, 48, 48, 48, 48, 48, 48, 48, 48, 48, 48, 48, 48, 48, 48, 48, 48, 48, 48, 48, 48, 48, 48, 48, 48, 48, 48]) .none (.some (Env.get s7 e15)) .none fun v28000 =>
 K17 .ret (Env.put s4 v28000 (Env.put s67 v25003 (Env.put s58 v22003 (Env.put s49 v19003 e15)))) H25002 k25002)
 (binK .leq .no (Env.get s7 e15) (.i .i64 128) fun v28000 =>
 gdK v28000 true (fun R28001 => R28001 (Env.get s0 e15) H25002 k25002) H25002 k25002 fun v28001 H28001 k28001 =>
 gdK v28000 true (fun R28002 => caK rec 114 [(.s [61, 61, 61, 61, 61, 61, 61, 61, 61, 61, 61, 61, 61, 61, 61, 61, 61, 61, 61, 61, 61, 61, 61, 61, 61, 61, 61, 61, 61, 61, 61, 61, 61, 61, 61, 61, 61, 61, 61, 61, 61, 61, 61, 61, 61, 61, 61, 61, 61, 61, 61, 61, 61, 61, 61, 61, 61, 61, 61, 61, 61, 61, 61, 61, 61, 61, 61, 61, 61, 61, 61, 61, 61, 61, 61, 61, 61, 61, 61, 61, 61, 61, 61, 61, 61, 61, 61, 61, 61, 61, 61, 61, 61, 61, 61, 61, 61, 61, 61, 61, 61, 61, 61, 61, 61, 61, 61, 61, 61, 61, 61, 61, 61, 61, 61, 61, 61, 61, 61, 61, 61, 61, 61, 61, 61, 61, 61, 61]), v28001] H28001 fun v28002 H28002 =>
 R28002 v28002 H28002 k28001) H28001 k28001 fun v28002 H28002 k28002 =>
 pkK v28000 v28002 (.b false) fun v28003 =>
 condK v28003 (slK .none (.s [61, 61, 61, 61, 61, 61, 61, 61, 61, 61, 61, 61, 61, 61, 61, 61, 61, 61, 61, 61, 61, 61, 61, 61, 61, 61, 61, 61, 61, 61, 61, 61, 61, 61, 61, 61, 61, 61, 61, 61, 61, 61, 61, 61, 61, 61, 61, 61, 61, 61, 61, 61, 61, 61, 61, 61, 61, 61, 61, 61, 61, 61, 61, 61, 61, 61, 61, 61, 61, 61, 61, 61, 61, 61, 61, 61, 61, 61, 61, 61, 61, 61, 61, 61, 61, 61, 61, 61, 61, 61, 61, 61, 61, 61, 61, 61, 61, 61, 61, 61, 61, 61, 61, 61, 61, 61, 61, 61, 61, 61, 61, 61, 61, 61, 61, 61, 61, 61, 61, 61, 61, 61, 61, 61, 61, 61, 61, 61]) .none (.some (Env.get s7 e15)) .none fun v31000 =>
 K17 .ret (Env.put s4 v31000 (Env.put s76 v28003 (Env.put s67 v25003 (Env.put s58 v22003 (Env.put s49 v19003 e15))))) H28002 k28002)
 (binK .leq .no (Env.get s7 e15) (.i .i64 64) fun v31000 =>
 gdK v31000 true (fun R31001 => R31001 (Env.get s0 e15) H28002 k28002) H28002 k28002 fun v31001 H31001 k31001 =>
 gdK v31000 true (fun R31002 => caK rec 114 [(.s [9, 9, 9, 9, 9, 9, 9, 9, 9, 9, 9, 9, 9, 9, 9, 9, 9, 9, 9, 9, 9, 9, 9, 9, 9, 9, 9, 9, 9, 9, 9, 9, 9, 9, 9, 9, 9, 9, 9, 9, 9, 9, 9, 9, 9, 9, 9, 9, 9, 9, 9, 9, 9, 9, 9, 9, 9, 9, 9, 9, 9, 9, 9, 9]), v31001] H31001 fun v31002 H31002 =>
 R31002 v31002 H31002 k31001) H31001 k31001 fun v31002 H31002 k31002 =>
 pkK v31000 v31002 (.b false) fun v31003 =>
 condK v31003 (slK .none (.s [9, 9, 9, 9, 9, 9, 9, 9, 9, 9, 9, 9, 9, 9, 9, 9, 9, 9, 9, 9, 9, 9, 9, 9, 9, 9, 9, 9, 9, 9, 9, 9, 9, 9, 9, 9, 9, 9, 9, 9, 9, 9, 9, 9, 9, 9, 9, 9, 9, 9, 9, 9, 9, 9, 9, 9, 9, 9, 9, 9, 9, 9, 9, 9]) .none (.some (Env.get s7 e15)) .none fun v34000 =>
 K17 .ret (Env.put s4 v34000 (Env.put s85 v31003 (Env.put s76 v28003 (Env.put s67 v25003 (Env.put s58 v22003 (Env.put s49 v19003 e15)))))) H31002 k31002)
 (K17 .norm (Env.put s85 v31003 (Env.put s76 v28003 (Env.put s67 v25003 (Env.put s58 v22003 (Env.put s49 v19003 e15))))) H31002 k31002)))))) K14)
 (K14 .norm e15 H15 k15)) K14) K11) (fun k11 e11 H11 =>
 seqK (fun K14 =>
 binK .gtr .no (Env.get s7 e11) (.i .i64 8192) fun v16000 =>
 condK v16000 (lnK .s H11 (Env.get s0 e11) fun v19000 =>
 binK .quo .no (.i .i64 8192) v19000 fun v19001 =>
 lnK .s H11 (Env.get s0 e11) fun v19002 =>
 binK .mul .no v19001 v19002 fun v19003 =>
 binK .eql .no v19003 (.i .i64 0) fun v21000 =>
 condK v21000 (lnK .s H11 (Env.get s0 e11) fun v23000 =>
 K14 .norm (Env.put s8 v23000 (Env.put s104 v21000 (Env.put s8 v19003 (Env.put s96 v16000 (Env.put s8 (Env.get s7 e11) e11))))) H11 k11)
 (K14 .norm (Env.put s104 v21000 (Env.put s8 v19003 (Env.put s96 v16000 (Env.put s8 (Env.get s7 e11) e11)))) H11 k11))
 (K14 .norm (Env.put s96 v16000 (Env.put s8 (Env.get s7 e11) e11)) H11 k11)) (fun k14 e14 H14 =>
 newK [.p0, .sl0] H14 fun v16000 H16000 =>
 caK rec 115 [v16000, (Env.get s7 e14)] H16000 fun v18000 H18000 =>
 caK rec 116 [v16000, (Env.get s0 e14)] H18000 fun v20000 H20000 =>
 seqK (fun K21 =>
 blockK 3 (fun K22 =>
 loopK (fun k23 e23 H23 K23 =>
 seqK (fun K24 =>
 caK rec 117 [(Env.get s9 e23)] H23 fun v26000 H26000 =>
 binK .lss .no v26000 (Env.get s7 e23) fun v26001 =>
 condK v26001 (K24 .norm (Env.put s113 v26001 e23) H26000 k23)
 (K24 (.exit 3) (Env.put s113 v26001 e23) H26000 k23)) (fun k24 e24 H24 =>
 blockK 4 (fun K25 =>
 caK rec 117 [(Env.get s9 e24)] H24 fun v27000 H27000 =>
 binK .sub .no (Env.get s7 e24) v27000 fun v27001 =>
 caK rec 117 [(Env.get s9 e24)] H27000 fun v27002 H27002 =>
 genK roundT rec (.extreme false [(.l 1), (.l 0), (.s s8)]) k24 e24 [v27002, v27001, v27000] H27002 fun v27003 H27003 k27003 =>
 caK rec 118 [(Env.get s9 e24)] H27003 fun v28000 H28000 =>
 slK .none v28000 .none (.some v27003) .none fun v28001 =>
 caK rec 116 [(Env.get s9 e24), v28001] H28000 fun v28002 H28002 =>
 K25 .norm (Env.put s10 v27003 e24) H28002 k27003) K23) K23) rounds K22 k14 (Env.put s9 v16000 e14) H20000) K21) (fun k21 e21 H21 =>
 caK rec 118 [(Env.get s9 e21)] H21 fun v23000 H23000 =>
 (endK recD [.slot s4]) .ret (Env.put s4 v23000 e21) H23000 k21) (endK recD [.slot s4])) (endK recD [.slot s4])) (endK recD [.slot s4])) (endK recD [.slot s4])) (endK recD [.slot s4])) (endK recD [.slot s4])) (endK recD [.slot s4])
theorem Tryz.cOk75 : (compFn Tryz.prog Tryz.f75).map (bodyK 75) = some Tryz.c75 := by kernel_rfl
def Tryz.c82 : FnK := fun rec recD args H => startK 0 args fun e =>
 newK [(.i .i64 0), (.s []), (.i .i64 0), (.s [])] H fun v2000 H2000 =>
 bdK [(.i .i64 0), (.s []), (.i .i64 0), (.s [])] [(0, 1, (.i .i64 7)), (3, 1, (.s [63]))] fun v4000 =>
 stK 4 v4000 v2000 H2000 fun H4001 =>
 (endK recD [.cell true 4 s0]) .ret (Env.put s0 v2000 e) H4001 (Ctl.mk [] .none)
theorem Tryz.cOk82 : (compFn Tryz.prog Tryz.f82).map (bodyK 82) = some Tryz.c82 := by kernel_rfl
def Tryz.c85 : FnK := fun rec recD args H => startK 1 args fun e =>
 bxK (Env.get s0 e) H fun v2000 H2000 =>
 genK roundT rec (.mkFunc 132 [] [(.s s1)]) (Ctl.mk [] .none) (Env.put s1 v2000 (Env.put s2 .f0 e)) [] H2000 fun v4000 H4000 k4000 =>
 (endK recD [.slot s2]) .ret (Env.put s2 v4000 (Env.put s1 v2000 (Env.put s2 .f0 e))) H4000 k4000
theorem Tryz.cOk85 : (compFn Tryz.prog Tryz.f85).map (bodyK 85) = some Tryz.c85 := by kernel_rfl
def Tryz.c88 : FnK := fun rec recD args H => startK 3 args fun e =>
 bxK (Env.get s1 e) H fun v2000 H2000 =>
 genK roundT rec (.nilCheck (.s s0)) (Ctl.mk [] .none) (Env.put s4 v2000 (Env.put s6 (.i .i64 0) e)) [] H2000 fun v4000 H4000 k4000 =>
 faK 0 v4000 fun v4001 =>
 ldK false 1 v4001 H4000 fun v4002 =>
 faK 3 v2000 fun v4003 =>
 ldK false 1 v4003 H4000 fun v4004 =>
 iaK .none 1 v4004 (.i .i64 0) fun v4005 =>
 ldK false 1 v4005 H4000 fun v4006 =>
 newK [(.i .i64 0), (.i .i64 0), (.i .i64 0), .sl0, (.s []), (.i .i64 0), (.s []), (.i .i64 0), (.s []), (.i .i64 0), (.i .i64 0), (.i .i64 0), .sl0] H4000 fun v4007 H4007 =>
 caK rec 10 [v4002, v4006] H4007 fun v4008 H4008 =>
 stK 13 v4008 v4007 H4008 fun H4009 =>
 seqK (fun K5 =>
 faK 0 v4007 fun v7000 =>
 ldK false 1 v7000 H4009 fun v7001 =>
 binK .eql .no v7001 (.i .i64 25) fun v7002 =>
 condK v7002 (faK 3 v2000 fun v10000 =>
 ldK false 1 v10000 H4009 fun v10001 =>
 iaK .none 1 v10001 (.i .i64 1) fun v10002 =>
 ldK false 1 v10002 H4009 fun v10003 =>
 genK roundT rec (.nilCheck (.s s0)) k4000 (Env.put s19 v7002 (Env.put s7 v4007 (Env.put s4 v2000 (Env.put s6 (.i .i64 0) e)))) [v10003, v10002, v10001, v10000] H4009 fun v10004 H10004 k10004 =>
 faK 0 v10004 fun v10005 =>
 ldK false 1 v10005 H10004 fun v10006 =>
 faK 3 v2000 fun v10007 =>
 ldK false 1 v10007 H10004 fun v10008 =>
 iaK .none 1 v10008 (.i .i64 0) fun v10009 =>
 ldK false 1 v10009 H10004 fun v10010 =>
 faK 3 v2000 fun v10011 =>
 ldK false 1 v10011 H10004 fun v10012 =>
 iaK .none 1 v10012 (.i .i64 1) fun v10013 =>
 ldK false 1 v10013 H10004 fun v10014 =>
 caK rec 14 [v10006, v10010] H10004 fun v10015 H10015 =>
 boolK (and (again ⟨.load false 1 (.l 0), .none, []⟩ v10014 (Env.put s19 v7002 (Env.put s7 v4007 (Env.put s4 v2000 (Env.put s6 (.i .i64 0) e)))) [v10013, v10012, v10011, v10010, v10009, v10008, v10007, v10006, v10005, v10004, v10003, v10002, v10001, v10000] H10015) (and (again ⟨.load false 1 (.l 0), .none, []⟩ v10012 (Env.put s19 v7002 (Env.put s7 v4007 (Env.put s4 v2000 (Env.put s6 (.i .i64 0) e)))) [v10011, v10010, v10009, v10008, v10007, v10006, v10005, v10004, v10003, v10002, v10001, v10000] H10015) (and (again ⟨.load false 1 (.l 0), .none, []⟩ v10003 (Env.put s19 v7002 (Env.put s7 v4007 (Env.put s4 v2000 (Env.put s6 (.i .i64 0) e)))) [v10002, v10001, v10000] H10015) (and (again ⟨.load false 1 (.l 0), .none, []⟩ v10001 (Env.put s19 v7002 (Env.put s7 v4007 (Env.put s4 v2000 (Env.put s6 (.i .i64 0) e)))) [v10000] H10015) true)))) (caK rec 86 [(Env.get s0 e), (.i .i64 3), v10015, v10014, (Env.get s2 e)] H10015 fun v10016 H10016 =>
 boolK (and (again ⟨.load false 1 (.l 0), .none, []⟩ v10003 (Env.put s19 v7002 (Env.put s7 v4007 (Env.put s4 v2000 (Env.put s6 (.i .i64 0) e)))) [v10002, v10001, v10000] H10016) (and (again ⟨.load false 1 (.l 0), .none, []⟩ v10001 (Env.put s19 v7002 (Env.put s7 v4007 (Env.put s4 v2000 (Env.put s6 (.i .i64 0) e)))) [v10000] H10016) true)) (caK rec 87 [(Env.get s0 e), v10003, v10016] H10016 fun v10017 H10017 =>
 K5 .ret (Env.put s6 v10017 (Env.put s19 v7002 (Env.put s7 v4007 (Env.put s4 v2000 (Env.put s6 (.i .i64 0) e))))) H10017 k10004)))
 (K5 .norm (Env.put s19 v7002 (Env.put s7 v4007 (Env.put s4 v2000 (Env.put s6 (.i .i64 0) e)))) H4009 k4000)) (fun k5 e5 H5 =>
 faK 3 (Env.get s4 e5) fun v7000 =>
 ldK false 1 v7000 H5 fun v7001 =>
 iaK .none 1 v7001 (.i .i64 1) fun v7002 =>
 ldK false 1 v7002 H5 fun v7003 =>
 caK rec 87 [(Env.get s0 e5), v7003, (Env.get s2 e5)] H5 fun v7004 H7004 =>
 seqK (fun K8 =>
 faK 0 (Env.get s7 e5) fun v10000 =>
 ldK false 1 v10000 H7004 fun v10001 =>
 binK .eql .no v10001 (.i .i64 27) fun v10002 =>
 condK v10002 (faK 3 (Env.get s7 e5) fun v12000 =>
 ldK false 1 v12000 H7004 fun v12001 =>
 iaK .none 1 v12001 (.i .i64 1) fun v12002 =>
 ldK false 1 v12002 H7004 fun v12003 =>
 caK rec 87 [(Env.get s0 e5), v12003, v7004] H7004 fun v12004 H12004 =>
 K8 .norm (Env.put s2 v12004 (Env.put s51 v10002 (Env.put s2 v7004 e5))) H12004 k5)
 (K8 .norm (Env.put s51 v10002 (Env.put s2 v7004 e5)) H7004 k5)) (fun k8 e8 H8 =>
 faK 3 (Env.get s7 e8) fun v10000 =>
 ldK false 1 v10000 H8 fun v10001 =>
 iaK .none 1 v10001 (.i .i64 0) fun v10002 =>
 ldK false 1 v10002 H8 fun v10003 =>
 caK rec 134 [(Env.get s0 e8), v10003, (Env.get s2 e8)] H8 fun v10004 H10004 =>
 (endK recD [.slot s6]) .ret (Env.put s6 v10004 e8) H10004 k8) (endK recD [.slot s6])) (endK recD [.slot s6])
theorem Tryz.cOk88 : (compFn Tryz.prog Tryz.f88).map (bodyK 88) = some Tryz.c88 := by kernel_rfl
def Tryz.c97 : FnK := fun rec recD args H => startK 2 args fun e =>
 newK [(.i .i64 0), (.i .i64 0)] H fun v2000 H2000 =>
 seqK (fun K3 =>
 genK roundT rec (.nilCheck (.s s1)) (Ctl.mk [] .none) (Env.put s4 v2000 e) [] H2000 fun v5000 H5000 k5000 =>
 faK 3 v5000 fun v5001 =>
 ldK false 1 v5001 H5000 fun v5002 =>
 genK roundT rec (.nilCheck (.s s1)) k5000 (Env.put s4 v2000 e) [v5002, v5001, v5000] H5000 fun v5003 H5003 k5003 =>
 faK 4 v5003 fun v5004 =>
 ldK false 1 v5004 H5003 fun v5005 =>
 genK roundT rec (.nilCheck (.s s1)) k5003 (Env.put s4 v2000 e) [v5005, v5004, v5003, v5002, v5001, v5000] H5003 fun v5006 H5006 k5006 =>
 faK 5 v5006 fun v5007 =>
 ldK false 1 v5007 H5006 fun v5008 =>
 bdK [.sl0, .sl0, .sl0] [(0, 1, v5002), (1, 1, v5005), (2, 1, v5008)] fun v5009 =>
 blockK 0 (fun K6 =>
 loopK (fun k7 e7 H7 K7 =>
 binK .lss .no (Env.get s24 e7) (.i .i64 3) fun v9000 =>
 seqK (fun K10 =>
 condK v9000 (K10 .norm (Env.put s25 v9000 e7) H7 k7)
 (K10 (.exit 0) (Env.put s25 v9000 e7) H7 k7)) (fun k10 e10 H10 =>
 seqK (fun K11 =>
 blockK 1 (fun K12 =>
 ixK (.some (3, false, 1)) (Env.get s23 e10) (Env.get s24 e10) fun v14000 =>
 lnK .sl H10 v14000 fun v16000 =>
 blockK 2 (fun K17 =>
 loopK (fun k18 e18 H18 K18 =>
 binK .lss .no (Env.get s29 e18) (Env.get s28 e18) fun v20000 =>
 seqK (fun K21 =>
 condK v20000 (K21 .norm (Env.put s30 v20000 e18) H18 k18)
 (K21 (.exit 2) (Env.put s30 v20000 e18) H18 k18)) (fun k21 e21 H21 =>
 seqK (fun K22 =>
 blockK 3 (fun K23 =>
 iaK .none 8 (Env.get s27 e21) (Env.get s29 e21) fun v25000 =>
 ldK true 8 v25000 H21 fun v25001 =>
 newK [(.s []), (.s []), (.i .i64 0), (.i .i64 0), (.s []), (.i .i64 0), (.s []), .sl0] H21 fun v25002 H25002 =>
 stK 8 v25001 v25002 H25002 fun H25003 =>
 slK (.some 8) (Env.get s6 e21) .none (.some (Env.get s29 e21)) .none fun v27000 =>
 lnK .sl H25003 v27000 fun v27001 =>
 blockK 4 (fun K28 =>
 loopK (fun k29 e29 H29 K29 =>
 binK .lss .no (Env.get s38 e29) (Env.get s37 e29) fun v31000 =>
 seqK (fun K32 =>
 condK v31000 (K32 .norm (Env.put s39 v31000 e29) H29 k29)
 (K32 (.exit 4) (Env.put s39 v31000 e29) H29 k29)) (fun k32 e32 H32 =>
 seqK (fun K33 =>
 blockK 5 (fun K34 =>
 iaK .none 8 (Env.get s36 e32) (Env.get s38 e32) fun v36000 =>
 ldK true 8 v36000 H32 fun v36001 =>
 newK [(.s []), (.s []), (.i .i64 0), (.i .i64 0), (.s []), (.i .i64 0), (.s []), .sl0] H32 fun v36002 H36002 =>
 stK 8 v36001 v36002 H36002 fun H36003 =>
 faK 1 v36002 fun v38000 =>
 ldK false 1 v38000 H36003 fun v38001 =>
 faK 1 (Env.get s8 e32) fun v38002 =>
 ldK false 1 v38002 H36003 fun v38003 =>
 binK .eql .no v38001 v38003 fun v38004 =>
 condK v38004 (faK 2 (Env.get s8 e32) fun v41000 =>
 ldK false 1 v41000 H36003 fun v41001 =>
 caK rec 95 [(Env.get s0 e32), (.i .i64 4), v41001] H36003 fun v41002 H41002 =>
 stK 2 v41002 (Env.get s4 e32) H41002 fun H41003 =>
 K34 .ret (Env.put s46 v38004 (Env.put s10 v36002 e32)) H41003 k32)
 (K34 .norm (Env.put s46 v38004 (Env.put s10 v36002 e32)) H36003 k32)) K33) (fun k33 e33 H33 =>
 binK .add .no (Env.get s38 e33) (.i .i64 1) fun v34000 =>
 K29 .norm (Env.put s38 v34000 e33) H33 k33) K29) K29) rounds K28 k21 (Env.put s36 v27000 (Env.put s37 v27001 (Env.put s38 (.i .i64 0) (Env.put s8 v25002 (Env.put s7 (Env.get s29 e21) e21))))) H25003) K23) K22) (fun k22 e22 H22 =>
 binK .add .no (Env.get s29 e22) (.i .i64 1) fun v23000 =>
 K18 .norm (Env.put s29 v23000 e22) H22 k22) K18) K18) rounds K17 k10 (Env.put s27 v14000 (Env.put s28 v16000 (Env.put s29 (.i .i64 0) (Env.put s6 v14000 e10)))) H10) K12) K11) (fun k11 e11 H11 =>
 binK .add .no (Env.get s24 e11) (.i .i64 1) fun v12000 =>
 K7 .norm (Env.put s24 v12000 e11) H11 k11) K7) K7) rounds K6 k5006 (Env.put s23 v5009 (Env.put s24 (.i .i64 0) (Env.put s4 v2000 e))) H5006) K3) (fun k3 e3 H3 =>
 bdK [(.i .i64 0), (.i .i64 0)] [] fun v5000 =>
 stK 2 v5000 (Env.get s4 e3) H3 fun H5001 =>
 (endK recD [.cell true 2 s4]) .ret e3 H5001 k3) (endK recD [.cell true 2 s4])
theorem Tryz.cOk97 : (compFn Tryz.prog Tryz.f97).map (bodyK 97) = some Tryz.c97 := by kernel_rfl
def Tryz.c102 : FnK := fun rec recD args H => startK 2 args fun e =>
 newK [(.s []), (.s []), (.i .i64 0), (.i .i64 0), (.s []), (.i .i64 0), (.s []), .sl0] H fun v2000 H2000 =>
 seqK (fun K3 =>
 caK rec 138 [(Env.get s0 e), (Env.get s1 e)] H2000 fun v5000 H5000 =>
 lnK .sl H5000 v5000 fun v5001 =>
 blockK 0 (fun K6 =>
 loopK (fun k7 e7 H7 K7 =>
 binK .lss .no (Env.get s13 e7) (Env.get s12 e7) fun v9000 =>
 seqK (fun K10 =>
 condK v9000 (K10 .norm (Env.put s14 v9000 e7) H7 k7)
 (K10 (.exit 0) (Env.put s14 v9000 e7) H7 k7)) (fun k10 e10 H10 =>
 seqK (fun K11 =>
 blockK 1 (fun K12 =>
 iaK .none 1 (Env.get s11 e10) (Env.get s13 e10) fun v14000 =>
 ldK false 1 v14000 H10 fun v14001 =>
 genK roundT rec (.nilCheck (.s s0)) k10 (Env.put s7 v14001 e10) [] H10 fun v16000 H16000 k16000 =>
 faK 3 v16000 fun v16001 =>
 ldK false 1 v16001 H16000 fun v16002 =>
 genK roundT rec (.lookup .s .p0 false (.l 0) (.s s7)) k16000 (Env.put s7 v14001 e10) [v16002, v16001, v16000] H16000 fun v16003 H16003 k16003 =>
 genK roundT rec (.nilCheck (.l 0)) k16003 (Env.put s7 v14001 e10) [v16003, v16002, v16001, v16000] H16003 fun v16004 H16004 k16004 =>
 faK 5 v16004 fun v16005 =>
 ldK false 1 v16005 H16004 fun v16006 =>
 lnK .sl H16004 v16006 fun v18000 =>
 binK .gtr .no v18000 (.i .i64 0) fun v18001 =>
 condK v18001 (iaK .none 8 v16006 (.i .i64 0) fun v21000 =>
 ldK true 8 v21000 H16004 fun v21001 =>
 caK rec 65 [v21001] H16004 fun v21002 H21002 =>
 stK 8 v21002 (Env.get s4 e10) H21002 fun H21003 =>
 K12 .ret (Env.put s5 (.b true) (Env.put s28 v18001 (Env.put s8 v16006 (Env.put s7 v14001 e10)))) H21003 k16004)
 (K12 .norm (Env.put s28 v18001 (Env.put s8 v16006 (Env.put s7 v14001 e10))) H16004 k16004)) K11) (fun k11 e11 H11 =>
 binK .add .no (Env.get s13 e11) (.i .i64 1) fun v12000 =>
 K7 .norm (Env.put s13 v12000 e11) H11 k11) K7) K7) rounds K6 (Ctl.mk [] .none) (Env.put s11 v5000 (Env.put s12 v5001 (Env.put s13 (.i .i64 0) (Env.put s4 v2000 (Env.put s5 (.b false) e))))) H5000) K3) (fun k3 e3 H3 =>
 bdK [(.s []), (.s []), (.i .i64 0), (.i .i64 0), (.s []), (.i .i64 0), (.s []), .sl0] [] fun v5000 =>
 stK 8 v5000 (Env.get s4 e3) H3 fun H5001 =>
 (endK recD [.cell true 8 s4, .slot s5]) .ret (Env.put s5 (.b false) e3) H5001 k3) (endK recD [.cell true 8 s4, .slot s5])
theorem Tryz.cOk102 : (compFn Tryz.prog Tryz.f102).map (bodyK 102) = some Tryz.c102 := by kernel_rfl
def Tryz.c108 : FnK := fun rec recD args H => startK 3 args fun e =>
 bxK (Env.get s2 e) H fun v2000 H2000 =>
 genK roundT rec (.nilCheck (.s s0)) (Ctl.mk [] .none) (Env.put s5 v2000 e) [] H2000 fun v4000 H4000 k4000 =>
 faK 0 v4000 fun v4001 =>
 ldK false 1 v4001 H4000 fun v4002 =>
 genK roundT rec (.nilCheck (.l 0)) k4000 (Env.put s5 v2000 e) [v4002, v4001, v4000] H4000 fun v4003 H4003 k4003 =>
 faK 5 v4003 fun v4004 =>
 ldK false 1 v4004 H4003 fun v4005 =>
 ldK true 4 v2000 H4003 fun v4006 =>
 caK rec 109 [(Env.get s0 e), (Env.get s1 e)] H4003 fun v4007 H4007 =>
 boolK (and (again ⟨.load true 4 (.s s5), .none, []⟩ v4006 (Env.put s5 v2000 e) [v4005, v4004, v4003, v4002, v4001, v4000] H4007) (and (again ⟨.load false 1 (.l 0), .none, []⟩ v4005 (Env.put s5 v2000 e) [v4004, v4003, v4002, v4001, v4000] H4007) (and (again ⟨.load false 1 (.l 0), .none, []⟩ v4002 (Env.put s5 v2000 e) [v4001, v4000] H4007) true))) (caK rec 143 [v4005, v4007, v4006] H4007 fun v4008 H4008 =>
 unK .not v4008 fun v4009 =>
 condK v4009 (genK roundT rec (.nilCheck (.s s0)) k4003 (Env.put s18 v4009 (Env.put s5 v2000 e)) [] H4008 fun v6000 H6000 k6000 =>
 faK 0 v6000 fun v6001 =>
 ldK false 1 v6001 H6000 fun v6002 =>
 caK rec 105 [v6002, (.i .i64 130), (Env.get s1 e)] H6000 fun v6003 H6003 =>
 (endK recD []) .norm (Env.put s18 v4009 (Env.put s5 v2000 e)) H6003 k6000)
 ((endK recD []) .norm (Env.put s18 v4009 (Env.put s5 v2000 e)) H4008 k4003))
theorem Tryz.cOk108 : (compFn Tryz.prog Tryz.f108).map (bodyK 108) = some Tryz.c108 := by kernel_rfl
def Tryz.c112 : FnK := fun rec recD args H => startK 0 args fun e =>
 newK [(.s []), (.i .i64 0), (.i .i64 0), (.b false), (.b false), (.s []), (.i .i64 0), (.i .i64 0), (.b false), (.b false), (.s []), (.i .i64 0), (.i .i64 0), (.b false), (.b false), (.s []), (.i .i64 0), (.i .i64 0), (.b false), (.b false), (.s []), (.i .i64 0), (.i .i64 0), (.b false), (.b false), (.s []), (.i .i64 0), (.i .i64 0), (.b false), (.b false), (.s []), (.i .i64 0), (.i .i64 0), (.b false), (.b false), (.s []), (.i .i64 0), (.i .i64 0), (.b false), (.b false), (.s []), (.i .i64 0), (.i .i64 0), (.b false), (.b false), (.s []), (.i .i64 0), (.i .i64 0), (.b false), (.b false), (.s []), (.i .i64 0), (.i .i64 0), (.b false), (.b false), (.s []), (.i .i64 0), (.i .i64 0), (.b false), (.b false), (.s []), (.i .i64 0), (.i .i64 0), (.b false), (.b false), (.s []), (.i .i64 0), (.i .i64 0), (.b false), (.b false), (.s []), (.i .i64 0), (.i .i64 0), (.b false), (.b false), (.s []), (.i .i64 0), (.i .i64 0), (.b false), (.b false), (.s []), (.i .i64 0), (.i .i64 0), (.b false), (.b false), (.s []), (.i .i64 0), (.i .i64 0), (.b false), (.b false), (.s []), (.i .i64 0), (.i .i64 0), (.b false), (.b false), (.s []), (.i .i64 0), (.i .i64 0), (.b false), (.b false), (.s []), (.i .i64 0), (.i .i64 0), (.b false), (.b false), (.s []), (.i .i64 0), (.i .i64 0), (.b false), (.b false), (.s []), (.i .i64 0), (.i .i64 0), (.b false), (.b false), (.s []), (.i .i64 0), (.i .i64 0), (.b false), (.b false), (.s []), (.i .i64 0), (.i .i64 0), (.b false), (.b false), (.s []), (.i .i64 0), (.i .i64 0), (.b false), (.b false), (.s []), (.i .i64 0), (.i .i64 0), (.b false), (.b false), (.s []), (.i .i64 0), (.i .i64 0), (.b false), (.b false), (.s []), (.i .i64 0), (.i .i64 0), (.b false), (.b false), (.s []), (.i .i64 0), (.i .i64 0), (.b false), (.b false), (.s []), (.i .i64 0), (.i .i64 0), (.b false), (.b false), (.s []), (.i .i64 0), (.i .i64 0), (.b false), (.b false), (.s []), (.i .i64 0), (.i .i64 0), (.b false), (.b false), (.s []), (.i .i64 0), (.i .i64 0), (.b false), (.b false), (.s []), (.i .i64 0), (.i .i64 0), (.b false), (.b false), (.s []), (.i .i64 0), (.i .i64 0), (.b false), (.b false), (.s []), (.i .i64 0), (.i .i64 0), (.b false), (.b false), (.s []), (.i .i64 0), (.i .i64 0), (.b false), (.b false), (.s []), (.i .i64 0), (.i .i64 0), (.b false), (.b false), (.s []), (.i .i64 0), (.i .i64 0), (.b false), (.b false), (.s []), (.i .i64 0), (.i .i64 0), (.b false), (.b false), (.s []), (.i .i64 0), (.i .i64 0), (.b false), (.b false), (.s []), (.i .i64 0), (.i .i64 0), (.b false), (.b false), (.s []), (.i .i64 0), (.i .i64 0), (.b false), (.b false), (.s []), (.i .i64 0), (.i .i64 0), (.b false), (.b false), (.s []), (.i .i64 0), (.i .i64 0), (.b false), (.b false)] H fun v2000 H2000 =>
 bdK [(.s []), (.i .i64 0), (.i .i64 0), (.b false), (.b false)] [(0, 1, (.s [112, 114, 111, 103, 114, 97, 109])), (1, 1, (.i .i64 0)), (2, 1, (.i .i64 (-1))), (3, 1, (.b false)), (4, 1, (.b false))] fun v4000 =>
 bdK [(.s []), (.i .i64 0), (.i .i64 0), (.b false), (.b false)] [(0, 1, (.s [99, 108, 97, 115, 115])), (1, 1, (.i .i64 0)), (2, 1, (.i .i64 (-1))), (3, 1, (.b true)), (4, 1, (.b false))] fun v4001 =>
 bdK [(.s []), (.i .i64 0), (.i .i64 0), (.b false), (.b false)] [(0, 1, (.s [101, 120, 116, 101, 110, 100, 115])), (1, 1, (.i .i64 0)), (2, 1, (.i .i64 0)), (3, 1, (.b true)), (4, 1, (.b false))] fun v4002 =>
 bdK [(.s []), (.i .i64 0), (.i .i64 0), (.b false), (.b false)] [(0, 1, (.s [102, 105, 101, 108, 100])), (1, 1, (.i .i64 0)), (2, 1, (.i .i64 0)), (3, 1, (.b true)), (4, 1, (.b true))] fun v4003 =>
 bdK [(.s []), (.i .i64 0), (.i .i64 0), (.b false), (.b false)] [(0, 1, (.s [105, 110, 105, 116])), (1, 1, (.i .i64 1)), (2, 1, (.i .i64 (-1))), (3, 1, (.b false)), (4, 1, (.b false))] fun v4004 =>
 bdK [(.s []), (.i .i64 0), (.i .i64 0), (.b false), (.b false)] [(0, 1, (.s [109, 101, 116, 104, 111, 100])), (1, 1, (.i .i64 1)), (2, 1, (.i .i64 (-1))), (3, 1, (.b true)), (4, 1, (.b true))] fun v4005 =>
 bdK [(.s []), (.i .i64 0), (.i .i64 0), (.b false), (.b false)] [(0, 1, (.s [112, 97, 114, 97, 109])), (1, 1, (.i .i64 0)), (2, 1, (.i .i64 0)), (3, 1, (.b true)), (4, 1, (.b true))] fun v4006 =>
 bdK [(.s []), (.i .i64 0), (.i .i64 0), (.b false), (.b false)] [(0, 1, (.s [98, 108, 111, 99, 107])), (1, 1, (.i .i64 0)), (2, 1, (.i .i64 (-1))), (3, 1, (.b false)), (4, 1, (.b false))] fun v4007 =>
 bdK [(.s []), (.i .i64 0), (.i .i64 0), (.b false), (.b false)] [(0, 1, (.s [100, 101, 99, 108])), (1, 1, (.i .i64 0)), (2, 1, (.i .i64 1)), (3, 1, (.b true)), (4, 1, (.b true))] fun v4008 =>
 bdK [(.s []), (.i .i64 0), (.i .i64 0), (.b false), (.b false)] [(0, 1, (.s [97, 115, 115, 105, 103, 110])), (1, 1, (.i .i64 2)), (2, 1, (.i .i64 2)), (3, 1, (.b false)), (4, 1, (.b false))] fun v4009 =>
 bdK [(.s []), (.i .i64 0), (.i .i64 0), (.b false), (.b false)] [(0, 1, (.s [105, 102])), (1, 1, (.i .i64 2)), (2, 1, (.i .i64 3)), (3, 1, (.b false)), (4, 1, (.b false))] fun v4010 =>
 bdK [(.s []), (.i .i64 0), (.i .i64 0), (.b false), (.b false)] [(0, 1, (.s [119, 104, 105, 108, 101])), (1, 1, (.i .i64 2)), (2, 1, (.i .i64 2)), (3, 1, (.b false)), (4, 1, (.b false))] fun v4011 =>
 bdK [(.s []), (.i .i64 0), (.i .i64 0), (.b false), (.b false)] [(0, 1, (.s [98, 114, 101, 97, 107])), (1, 1, (.i .i64 0)), (2, 1, (.i .i64 0)), (3, 1, (.b false)), (4, 1, (.b false))] fun v4012 =>
 bdK [(.s []), (.i .i64 0), (.i .i64 0), (.b false), (.b false)] [(0, 1, (.s [99, 111, 110, 116, 105, 110, 117, 101])), (1, 1, (.i .i64 0)), (2, 1, (.i .i64 0)), (3, 1, (.b false)), (4, 1, (.b false))] fun v4013 =>
 bdK [(.s []), (.i .i64 0), (.i .i64 0), (.b false), (.b false)] [(0, 1, (.s [114, 101, 116, 117, 114, 110])), (1, 1, (.i .i64 0)), (2, 1, (.i .i64 1)), (3, 1, (.b false)), (4, 1, (.b false))] fun v4014 =>
 bdK [(.s []), (.i .i64 0), (.i .i64 0), (.b false), (.b false)] [(0, 1, (.s [112, 114, 105, 110, 116])), (1, 1, (.i .i64 1)), (2, 1, (.i .i64 1)), (3, 1, (.b false)), (4, 1, (.b false))] fun v4015 =>
 bdK [(.s []), (.i .i64 0), (.i .i64 0), (.b false), (.b false)] [(0, 1, (.s [115, 117, 112, 101, 114])), (1, 1, (.i .i64 0)), (2, 1, (.i .i64 (-1))), (3, 1, (.b false)), (4, 1, (.b false))] fun v4016 =>
 bdK [(.s []), (.i .i64 0), (.i .i64 0), (.b false), (.b false)] [(0, 1, (.s [101, 120, 112, 114])), (1, 1, (.i .i64 1)), (2, 1, (.i .i64 1)), (3, 1, (.b false)), (4, 1, (.b false))] fun v4017 =>
 bdK [(.s []), (.i .i64 0), (.i .i64 0), (.b false), (.b false)] [(0, 1, (.s [105, 110, 116])), (1, 1, (.i .i64 0)), (2, 1, (.i .i64 0)), (3, 1, (.b false)), (4, 1, (.b false))] fun v4018 =>
 bdK [(.s []), (.i .i64 0), (.i .i64 0), (.b false), (.b false)] [(0, 1, (.s [100, 111, 117, 98, 108, 101])), (1, 1, (.i .i64 0)), (2, 1, (.i .i64 0)), (3, 1, (.b true)), (4, 1, (.b false))] fun v4019 =>
 bdK [(.s []), (.i .i64 0), (.i .i64 0), (.b false), (.b false)] [(0, 1, (.s [98, 111, 111, 108])), (1, 1, (.i .i64 0)), (2, 1, (.i .i64 0)), (3, 1, (.b false)), (4, 1, (.b false))] fun v4020 =>
 bdK [(.s []), (.i .i64 0), (.i .i64 0), (.b false), (.b false)] [(0, 1, (.s [115, 116, 114])), (1, 1, (.i .i64 0)), (2, 1, (.i .i64 0)), (3, 1, (.b true)), (4, 1, (.b false))] fun v4021 =>
 bdK [(.s []), (.i .i64 0), (.i .i64 0), (.b false), (.b false)] [(0, 1, (.s [110, 117, 108, 108])), (1, 1, (.i .i64 0)), (2, 1, (.i .i64 0)), (3, 1, (.b false)), (4, 1, (.b false))] fun v4022 =>
 bdK [(.s []), (.i .i64 0), (.i .i64 0), (.b false), (.b false)] [(0, 1, (.s [116, 104, 105, 115])), (1, 1, (.i .i64 0)), (2, 1, (.i .i64 0)), (3, 1, (.b false)), (4, 1, (.b false))] fun v4023 =>
 bdK [(.s []), (.i .i64 0), (.i .i64 0), (.b false), (.b false)] [(0, 1, (.s [118, 97, 114])), (1, 1, (.i .i64 0)), (2, 1, (.i .i64 0)), (3, 1, (.b true)), (4, 1, (.b false))] fun v4024 =>
 bdK [(.s []), (.i .i64 0), (.i .i64 0), (.b false), (.b false)] [(0, 1, (.s [103, 101, 116])), (1, 1, (.i .i64 1)), (2, 1, (.i .i64 1)), (3, 1, (.b true)), (4, 1, (.b false))] fun v4025 =>
 bdK [(.s []), (.i .i64 0), (.i .i64 0), (.b false), (.b false)] [(0, 1, (.s [105, 110, 100, 101, 120])), (1, 1, (.i .i64 2)), (2, 1, (.i .i64 2)), (3, 1, (.b false)), (4, 1, (.b false))] fun v4026 =>
 bdK [(.s []), (.i .i64 0), (.i .i64 0), (.b false), (.b false)] [(0, 1, (.s [108, 101, 110, 103, 116, 104])), (1, 1, (.i .i64 1)), (2, 1, (.i .i64 1)), (3, 1, (.b false)), (4, 1, (.b false))] fun v4027 =>
 bdK [(.s []), (.i .i64 0), (.i .i64 0), (.b false), (.b false)] [(0, 1, (.s [99, 97, 108, 108])), (1, 1, (.i .i64 1)), (2, 1, (.i .i64 (-1))), (3, 1, (.b true)), (4, 1, (.b false))] fun v4028 =>
 bdK [(.s []), (.i .i64 0), (.i .i64 0), (.b false), (.b false)] [(0, 1, (.s [110, 101, 119])), (1, 1, (.i .i64 0)), (2, 1, (.i .i64 (-1))), (3, 1, (.b false)), (4, 1, (.b true))] fun v4029 =>
 bdK [(.s []), (.i .i64 0), (.i .i64 0), (.b false), (.b false)] [(0, 1, (.s [97, 114, 114, 97, 121])), (1, 1, (.i .i64 1)), (2, 1, (.i .i64 1)), (3, 1, (.b false)), (4, 1, (.b true))] fun v4030 =>
 bdK [(.s []), (.i .i64 0), (.i .i64 0), (.b false), (.b false)] [(0, 1, (.s [110, 101, 103])), (1, 1, (.i .i64 1)), (2, 1, (.i .i64 1)), (3, 1, (.b false)), (4, 1, (.b false))] fun v4031 =>
 bdK [(.s []), (.i .i64 0), (.i .i64 0), (.b false), (.b false)] [(0, 1, (.s [110, 111, 116])), (1, 1, (.i .i64 1)), (2, 1, (.i .i64 1)), (3, 1, (.b false)), (4, 1, (.b false))] fun v4032 =>
 bdK [(.s []), (.i .i64 0), (.i .i64 0), (.b false), (.b false)] [(0, 1, (.s [98, 105, 110, 97, 114, 121])), (1, 1, (.i .i64 2)), (2, 1, (.i .i64 2)), (3, 1, (.b true)), (4, 1, (.b false))] fun v4033 =>
 bdK [(.s []), (.i .i64 0), (.i .i64 0), (.b false), (.b false)] [(0, 1, (.s [99, 97, 115, 116])), (1, 1, (.i .i64 1)), (2, 1, (.i .i64 1)), (3, 1, (.b false)), (4, 1, (.b true))] fun v4034 =>
 bdK [(.s []), (.i .i64 0), (.i .i64 0), (.b false), (.b false)] [(0, 1, (.s [116, 111, 105, 110, 116])), (1, 1, (.i .i64 1)), (2, 1, (.i .i64 1)), (3, 1, (.b false)), (4, 1, (.b false))] fun v4035 =>
 bdK [(.s []), (.i .i64 0), (.i .i64 0), (.b false), (.b false)] [(0, 1, (.s [116, 111, 100, 111, 117, 98, 108, 101])), (1, 1, (.i .i64 1)), (2, 1, (.i .i64 1)), (3, 1, (.b false)), (4, 1, (.b false))] fun v4036 =>
 bdK [(.s []), (.i .i64 0), (.i .i64 0), (.b false), (.b false)] [(0, 1, (.s [105, 110, 112, 117, 116])), (1, 1, (.i .i64 0)), (2, 1, (.i .i64 0)), (3, 1, (.b false)), (4, 1, (.b false))] fun v4037 =>
 bdK [(.s []), (.i .i64 0), (.i .i64 0), (.b false), (.b false)] [(0, 1, (.s [97, 115, 107])), (1, 1, (.i .i64 1)), (2, 1, (.i .i64 1)), (3, 1, (.b false)), (4, 1, (.b false))] fun v4038 =>
 bdK [(.s []), (.i .i64 0), (.i .i64 0), (.b false), (.b false)] [(0, 1, (.s [103, 117, 97, 114, 100])), (1, 1, (.i .i64 1)), (2, 1, (.i .i64 1)), (3, 1, (.b false)), (4, 1, (.b false))] fun v4039 =>
 bdK [(.s []), (.i .i64 0), (.i .i64 0), (.b false), (.b false)] [(0, 1, (.s [115, 111, 109, 101])), (1, 1, (.i .i64 1)), (2, 1, (.i .i64 1)), (3, 1, (.b false)), (4, 1, (.b false))] fun v4040 =>
 bdK [(.s []), (.i .i64 0), (.i .i64 0), (.b false), (.b false)] [(0, 1, (.s [110, 111, 110, 101])), (1, 1, (.i .i64 0)), (2, 1, (.i .i64 0)), (3, 1, (.b false)), (4, 1, (.b false))] fun v4041 =>
 bdK [(.s []), (.i .i64 0), (.i .i64 0), (.b false), (.b false)] [(0, 1, (.s [105, 115, 115, 111, 109, 101])), (1, 1, (.i .i64 1)), (2, 1, (.i .i64 1)), (3, 1, (.b false)), (4, 1, (.b false))] fun v4042 =>
 bdK [(.s []), (.i .i64 0), (.i .i64 0), (.b false), (.b false)] [(0, 1, (.s [105, 115, 110, 111, 110, 101])), (1, 1, (.i .i64 1)), (2, 1, (.i .i64 1)), (3, 1, (.b false)), (4, 1, (.b false))] fun v4043 =>
 bdK [(.s []), (.i .i64 0), (.i .i64 0), (.b false), (.b false)] [(0, 1, (.s [118, 97, 108])), (1, 1, (.i .i64 1)), (2, 1, (.i .i64 1)), (3, 1, (.b false)), (4, 1, (.b false))] fun v4044 =>
 bdK [(.s []), (.i .i64 0), (.i .i64 0), (.b false), (.b false), (.s []), (.i .i64 0), (.i .i64 0), (.b false), (.b false), (.s []), (.i .i64 0), (.i .i64 0), (.b false), (.b false), (.s []), (.i .i64 0), (.i .i64 0), (.b false), (.b false), (.s []), (.i .i64 0), (.i .i64 0), (.b false), (.b false), (.s []), (.i .i64 0), (.i .i64 0), (.b false), (.b false), (.s []), (.i .i64 0), (.i .i64 0), (.b false), (.b false), (.s []), (.i .i64 0), (.i .i64 0), (.b false), (.b false), (.s []), (.i .i64 0), (.i .i64 0), (.b false), (.b false), (.s []), (.i .i64 0), (.i .i64 0), (.b false), (.b false), (.s []), (.i .i64 0), (.i .i64 0), (.b false), (.b false), (.s []), (.i .i64 0), (.i .i64 0), (.b false), (.b false), (.s []), (.i .i64 0), (.i .i64 0), (.b false), (.b false), (.s []), (.i .i64 0), (.i .i64 0), (.b false), (.b false), (.s []), (.i .i64 0), (.i .i64 0), (.b false), (.b false), (.s []), (.i .i64 0), (.i .i64 0), (.b false), (.b false), (.s []), (.i .i64 0), (.i .i64 0), (.b false), (.b false), (.s []), (.i .i64 0), (.i .i64 0), (.b false), (.b false), (.s []), (.i .i64 0), (.i .i64 0), (.b false), (.b false), (.s []), (.i .i64 0), (.i .i64 0), (.b false), (.b false), (.s []), (.i .i64 0), (.i .i64 0), (.b false), (.b false), (.s []), (.i .i64 0), (.i .i64 0), (.b false), (.b false), (.s []), (.i .i64 0), (.i .i64 0), (.b false), (.b false), (.s []), (.i .i64 0), (.i .i64 0), (.b false), (.b false), (.s []), (.i .i64 0), (.i .i64 0), (.b false), (.b false), (.s []), (.i .i64 0), (.i .i64 0), (.b false), (.b false), (.s []), (.i .i64 0), (.i .i64 0), (.b false), (.b false), (.s []), (.i .i64 0), (.i .i64 0), (.b false), (.b false), (.s []), (.i .i64 0), (.i .i64 0), (.b false), (.b false), (.s []), (.i .i64 0), (.i .i64 0), (.b false), (.b false), (.s []), (.i .i64 0), (.i .i64 0), (.b false), (.b false), (.s []), (.i .i64 0), (.i .i64 0), (.b false), (.b false), (.s []), (.i .i64 0), (.i .i64 0), (.b false), (.b false), (.s []), (.i .i64 0), (.i .i64 0), (.b false), (.b false), (.s []), (.i .i64 0), (.i .i64 0), (.b false), (.b false), (.s []), (.i .i64 0), (.i .i64 0), (.b false), (.b false), (.s []), (.i .i64 0), (.i .i64 0), (.b false), (.b false), (.s []), (.i .i64 0), (.i .i64 0), (.b false), (.b false), (.s []), (.i .i64 0), (.i .i64 0), (.b false), (.b false), (.s []), (.i .i64 0), (.i .i64 0), (.b false), (.b false), (.s []), (.i .i64 0), (.i .i64 0), (.b false), (.b false), (.s []), (.i .i64 0), (.i .i64 0), (.b false), (.b false), (.s []), (.i .i64 0), (.i .i64 0), (.b false), (.b false), (.s []), (.i .i64 0), (.i .i64 0), (.b false), (.b false), (.s []), (.i .i64 0), (.i .i64 0), (.b false), (.b false), (.s []), (.i .i64 0), (.i .i64 0), (.b false), (.b false)] [(5, 5, v4000), (10, 5, v4001), (15, 5, v4002), (20, 5, v4003), (25, 5, v4004), (30, 5, v4005), (35, 5, v4006), (40, 5, v4007), (45, 5, v4008), (50, 5, v4009), (55, 5, v4010), (60, 5, v4011), (65, 5, v4012), (70, 5, v4013), (75, 5, v4014), (80, 5, v4015), (85, 5, v4016), (90, 5, v4017), (95, 5, v4018), (100, 5, v4019), (105, 5, v4020), (110, 5, v4021), (115, 5, v4022), (120, 5, v4023), (125, 5, v4024), (130, 5, v4025), (135, 5, v4026), (140, 5, v4027), (145, 5, v4028), (150, 5, v4029), (155, 5, v4030), (160, 5, v4031), (165, 5, v4032), (170, 5, v4033), (175, 5, v4034), (180, 5, v4035), (185, 5, v4036), (190, 5, v4037), (195, 5, v4038), (200, 5, v4039), (205, 5, v4040), (210, 5, v4041), (215, 5, v4042), (220, 5, v4043), (225, 5, v4044)] fun v4045 =>
 stK 230 v4045 v2000 H2000 fun H4046 =>
 (endK recD [.cell true 230 s0]) .ret (Env.put s0 v2000 e) H4046 (Ctl.mk [] .none)
theorem Tryz.cOk112 : (compFn Tryz.prog Tryz.f112).map (bodyK 112) = some Tryz.c112 := by kernel_rfl
def Tryz.c119 : FnK := fun rec recD args H => startK 2 args fun e =>
 blockK 0 (fun K1 =>
 loopK (fun k2 e2 H2 K2 =>
 seqK (fun K3 =>
 genK roundT rec (.nilCheck (.s s0)) k2 e2 [] H2 fun v5000 H5000 k5000 =>
 faK 1 v5000 fun v5001 =>
 ldK false 1 v5001 H5000 fun v5002 =>
 genK roundT rec (.nilCheck (.s s0)) k5000 e2 [v5002, v5001, v5000] H5000 fun v5003 H5003 k5003 =>
 faK 0 v5003 fun v5004 =>
 ldK false 1 v5004 H5003 fun v5005 =>
 lnK .s H5003 v5005 fun v5006 =>
 binK .lss .no v5002 v5006 fun v5007 =>
 gdK v5007 true (fun R5008 => R5008 (Env.get s1 e2) H5003 k5003) H5003 k5003 fun v5008 H5008 k5008 =>
 gdK v5007 true (fun R5009 => R5009 (Env.get s0 e2) H5008 k5008) H5008 k5008 fun v5009 H5009 k5009 =>
 gdK v5007 true (fun R5010 => genK roundT rec (.nilCheck (.l 0)) k5009 e2 [v5009, v5008, v5007, v5006, v5005, v5004, v5003, v5002, v5001, v5000] H5009 fun v5010 H5010 k5010 =>
 R5010 v5010 H5010 k5010) H5009 k5009 fun v5010 H5010 k5010 =>
 gdK v5007 true (fun R5011 => faK 0 v5010 fun v5011 =>
 R5011 v5011 H5010 k5010) H5010 k5010 fun v5011 H5011 k5011 =>
 gdK v5007 true (fun R5012 => ldK false 1 v5011 H5011 fun v5012 =>
 R5012 v5012 H5011 k5011) H5011 k5011 fun v5012 H5012 k5012 =>
 gdK v5007 true (fun R5013 => R5013 (Env.get s0 e2) H5012 k5012) H5012 k5012 fun v5013 H5013 k5013 =>
 gdK v5007 true (fun R5014 => genK roundT rec (.nilCheck (.l 0)) k5013 e2 [v5013, v5012, v5011, v5010, v5009, v5008, v5007, v5006, v5005, v5004, v5003, v5002, v5001, v5000] H5013 fun v5014 H5014 k5014 =>
 R5014 v5014 H5014 k5014) H5013 k5013 fun v5014 H5014 k5014 =>
 gdK v5007 true (fun R5015 => faK 1 v5014 fun v5015 =>
 R5015 v5015 H5014 k5014) H5014 k5014 fun v5015 H5015 k5015 =>
 gdK v5007 true (fun R5016 => ldK false 1 v5015 H5015 fun v5016 =>
 R5016 v5016 H5015 k5015) H5015 k5015 fun v5016 H5016 k5016 =>
 gdK v5007 true (fun R5017 => ixK .none v5012 v5016 fun v5017 =>
 R5017 v5017 H5016 k5016) H5016 k5016 fun v5017 H5017 k5017 =>
 gdK v5007 true (fun R5018 => genK roundT rec (.callV (.l 9) [(.l 0)]) k5017 e2 [v5017, v5016, v5015, v5014, v5013, v5012, v5011, v5010, v5009, v5008, v5007, v5006, v5005, v5004, v5003, v5002, v5001, v5000] H5017 fun v5018 H5018 k5018 =>
 R5018 v5018 H5018 k5018) H5017 k5017 fun v5018 H5018 k5018 =>
 pkK v5007 v5018 (.b false) fun v5019 =>
 condK v5019 (K3 .norm (Env.put s26 v5019 e2) H5018 k5018)
 (K3 (.exit 0) (Env.put s26 v5019 e2) H5018 k5018)) (fun k3 e3 H3 =>
 blockK 1 (fun K4 =>
 genK roundT rec (.nilCheck (.s s0)) k3 e3 [] H3 fun v5000 H5000 k5000 =>
 faK 1 v5000 fun v5001 =>
 ldK false 1 v5001 H5000 fun v5002 =>
 binK .add .no v5002 (.i .i64 1) fun v5003 =>
 genK roundT rec (.nilCheck (.s s0)) k5000 e3 [v5003, v5002, v5001, v5000] H5000 fun v5004 H5004 k5004 =>
 faK 1 v5004 fun v5005 =>
 stK 1 v5003 v5005 H5004 fun H5006 =>
 K4 .norm e3 H5006 k5004) K2) K2) rounds K1 (Ctl.mk [] .none) e H) (endK recD [])
theorem Tryz.cOk119 : (compFn Tryz.prog Tryz.f119).map (bodyK 119) = some Tryz.c119 := by kernel_rfl
def Tryz.c120 : FnK := fun rec recD args H => startK 1 args fun e =>
 binK .eql .no (Env.get s0 e) (.i .u8 32) fun v4000 =>
 gdK v4000 false (fun R4001 => R4001 (Env.get s0 e) H (Ctl.mk [] .none)) H (Ctl.mk [] .none) fun v4001 H4001 k4001 =>
 gdK v4000 false (fun R4002 => binK .eql .no v4001 (.i .u8 9) fun v4002 =>
 R4002 v4002 H4001 k4001) H4001 k4001 fun v4002 H4002 k4002 =>
 pkK v4000 (.b true) v4002 fun v4003 =>
 gdK v4003 false (fun R4004 => R4004 (Env.get s0 e) H4002 k4002) H4002 k4002 fun v4004 H4004 k4004 =>
 gdK v4003 false (fun R4005 => binK .eql .no v4004 (.i .u8 10) fun v4005 =>
 R4005 v4005 H4004 k4004) H4004 k4004 fun v4005 H4005 k4005 =>
 pkK v4003 (.b true) v4005 fun v4006 =>
 gdK v4006 false (fun R4007 => R4007 (Env.get s0 e) H4005 k4005) H4005 k4005 fun v4007 H4007 k4007 =>
 gdK v4006 false (fun R4008 => binK .eql .no v4007 (.i .u8 13) fun v4008 =>
 R4008 v4008 H4007 k4007) H4007 k4007 fun v4008 H4008 k4008 =>
 pkK v4006 (.b true) v4008 fun v4009 =>
 (endK recD [.slot s2]) .ret (Env.put s2 v4009 (Env.put s2 (.b false) e)) H4008 k4008
theorem Tryz.cOk120 : (compFn Tryz.prog Tryz.f120).map (bodyK 120) = some Tryz.c120 := by kernel_rfl
def Tryz.c121 : FnK := fun rec recD args H => startK 1 args fun e =>
 binK .geq .no (Env.get s0 e) (.i .u8 97) fun v4000 =>
 gdK v4000 true (fun R4001 => R4001 (Env.get s0 e) H (Ctl.mk [] .none)) H (Ctl.mk [] .none) fun v4001 H4001 k4001 =>
 gdK v4000 true (fun R4002 => binK .leq .no v4001 (.i .u8 122) fun v4002 =>
 R4002 v4002 H4001 k4001) H4001 k4001 fun v4002 H4002 k4002 =>
 pkK v4000 v4002 (.b false) fun v4003 =>
 gdK v4003 false (fun R4004 => R4004 (Env.get s0 e) H4002 k4002) H4002 k4002 fun v4004 H4004 k4004 =>
 gdK v4003 false (fun R4005 => binK .geq .no v4004 (.i .u8 65) fun v4005 =>
 R4005 v4005 H4004 k4004) H4004 k4004 fun v4005 H4005 k4005 =>
 gdK v4003 false (fun R4006 => R4006 v4005 H4005 k4005) H4005 k4005 fun v4006 H4006 k4006 =>
 gdK v4006 true (fun R4007 => R4007 (Env.get s0 e) H4006 k4006) H4006 k4006 fun v4007 H4007 k4007 =>
 gdK v4006 true (fun R4008 => binK .leq .no v4007 (.i .u8 90) fun v4008 =>
 R4008 v4008 H4007 k4007) H4007 k4007 fun v4008 H4008 k4008 =>
 gdK v4003 false (fun R4009 => pkK v4006 v4008 (.b false) fun v4009 =>
 R4009 v4009 H4008 k4008) H4008 k4008 fun v4009 H4009 k4009 =>
 pkK v4003 (.b true) v4009 fun v4010 =>
 gdK v4010 false (fun R4011 => R4011 (Env.get s0 e) H4009 k4009) H4009 k4009 fun v4011 H4011 k4011 =>
 gdK v4010 false (fun R4012 => binK .eql .no v4011 (.i .u8 95) fun v4012 =>
 R4012 v4012 H4011 k4011) H4011 k4011 fun v4012 H4012 k4012 =>
 pkK v4010 (.b true) v4012 fun v4013 =>
 (endK recD [.slot s2]) .ret (Env.put s2 v4013 (Env.put s2 (.b false) e)) H4012 k4012
theorem Tryz.cOk121 : (compFn Tryz.prog Tryz.f121).map (bodyK 121) = some Tryz.c121 := by kernel_rfl
def Tryz.c125 : FnK := fun rec recD args H => startK 1 args fun e =>
 genK roundT rec (.nilCheck (.s s0)) (Ctl.mk [] .none) (Env.put s2 (.i .i64 0) e) [] H fun v4000 H4000 k4000 =>
 faK 0 v4000 fun v4001 =>
 ldK false 1 v4001 H4000 fun v4002 =>
 genK roundT rec (.nilCheck (.s s0)) k4000 (Env.put s2 (.i .i64 0) e) [v4002, v4001, v4000] H4000 fun v4003 H4003 k4003 =>
 faK 1 v4003 fun v4004 =>
 ldK false 1 v4004 H4003 fun v4005 =>
 slK .none v4002 (.some v4005) .none .none fun v4006 =>
 seqK (fun K5 =>
 lnK .s H4003 v4006 fun v7000 =>
 binK .gtr .no v7000 (.i .i64 1) fun v7001 =>
 gdK v7001 true (fun R7002 => R7002 v4006 H4003 k4003) H4003 k4003 fun v7002 H7002 k7002 =>
 gdK v7001 true (fun R7003 => slK .none v7002 .none (.some (.i .i64 2)) .none fun v7003 =>
 R7003 v7003 H7002 k7002) H7002 k7002 fun v7003 H7003 k7003 =>
 gdK v7001 true (fun R7004 => binK .add .no v7003 (.s [32]) fun v7004 =>
 R7004 v7004 H7003 k7003) H7003 k7003 fun v7004 H7004 k7004 =>
 gdK v7001 true (fun R7005 => caK rec 151 [(.s [61, 61, 32, 33, 61, 32, 60, 61, 32, 62, 61, 32, 38, 38, 32, 124, 124, 32]), v7004] H7004 fun v7005 H7005 =>
 R7005 v7005 H7005 k7004) H7004 k7004 fun v7005 H7005 k7005 =>
 pkK v7001 v7005 (.b false) fun v7006 =>
 gdK v7006 true (fun R7007 => R7007 v4006 H7005 k7005) H7005 k7005 fun v7007 H7007 k7007 =>
 gdK v7006 true (fun R7008 => ixK .none v7007 (.i .i64 0) fun v7008 =>
 R7008 v7008 H7007 k7007) H7007 k7007 fun v7008 H7008 k7008 =>
 gdK v7006 true (fun R7009 => binK .neq .no v7008 (.i .u8 32) fun v7009 =>
 R7009 v7009 H7008 k7008) H7008 k7008 fun v7009 H7009 k7009 =>
 pkK v7006 v7009 (.b false) fun v7010 =>
 gdK v7010 true (fun R7011 => R7011 v4006 H7009 k7009) H7009 k7009 fun v7011 H7011 k7011 =>
 gdK v7010 true (fun R7012 => ixK .none v7011 (.i .i64 1) fun v7012 =>
 R7012 v7012 H7011 k7011) H7011 k7011 fun v7012 H7012 k7012 =>
 gdK v7010 true (fun R7013 => binK .neq .no v7012 (.i .u8 32) fun v7013 =>
 R7013 v7013 H7012 k7012) H7012 k7012 fun v7013 H7013 k7013 =>
 pkK v7010 v7013 (.b false) fun v7014 =>
 condK v7014 (genK roundT rec (.nilCheck (.s s0)) k7013 (Env.put s31 v7014 (Env.put s3 v4006 (Env.put s2 (.i .i64 0) e))) [] H7013 fun v10000 H10000 k10000 =>
 faK 1 v10000 fun v10001 =>
 ldK false 1 v10001 H10000 fun v10002 =>
 binK .add .no v10002 (.i .i64 2) fun v10003 =>
 genK roundT rec (.nilCheck (.s s0)) k10000 (Env.put s31 v7014 (Env.put s3 v4006 (Env.put s2 (.i .i64 0) e))) [v10003, v10002, v10001, v10000] H10000 fun v10004 H10004 k10004 =>
 faK 1 v10004 fun v10005 =>
 stK 1 v10003 v10005 H10004 fun H10006 =>
 K5 .ret (Env.put s2 (.i .i64 0) (Env.put s31 v7014 (Env.put s3 v4006 (Env.put s2 (.i .i64 0) e)))) H10006 k10004)
 (K5 .norm (Env.put s31 v7014 (Env.put s3 v4006 (Env.put s2 (.i .i64 0) e))) H7013 k7013)) (fun k5 e5 H5 =>
 seqK (fun K6 =>
 ixK .none (Env.get s3 e5) (.i .i64 0) fun v8000 =>
 caK rec 150 [(.s [123, 125, 40, 41, 91, 93, 59, 44, 46, 61, 60, 62, 43, 45, 42, 47, 37, 33, 63]), v8000] H5 fun v8001 H8001 =>
 binK .geq .no v8001 (.i .i64 0) fun v8002 =>
 condK v8002 (genK roundT rec (.nilCheck (.s s0)) k5 (Env.put s42 v8002 e5) [] H8001 fun v11000 H11000 k11000 =>
 faK 1 v11000 fun v11001 =>
 ldK false 1 v11001 H11000 fun v11002 =>
 binK .add .no v11002 (.i .i64 1) fun v11003 =>
 genK roundT rec (.nilCheck (.s s0)) k11000 (Env.put s42 v8002 e5) [v11003, v11002, v11001, v11000] H11000 fun v11004 H11004 k11004 =>
 faK 1 v11004 fun v11005 =>
 stK 1 v11003 v11005 H11004 fun H11006 =>
 K6 .ret (Env.put s2 (.i .i64 0) (Env.put s42 v8002 e5)) H11006 k11004)
 (K6 .norm (Env.put s42 v8002 e5) H8001 k5)) (fun k6 e6 H6 =>
 (endK recD [.slot s2]) .ret (Env.put s2 (.i .i64 60) e6) H6 k6) (endK recD [.slot s2])) (endK recD [.slot s2])
theorem Tryz.cOk125 : (compFn Tryz.prog Tryz.f125).map (bodyK 125) = some Tryz.c125 := by kernel_rfl
def Tryz.c134 : FnK := fun rec recD args H => startK 3 args fun e =>
 seqK (fun K3 =>
 caK rec 133 [(Env.get s0 e), (Env.get s1 e)] H fun v5000 H5000 =>
 binK .geq .no v5000 (.i .i64 0) fun v7000 =>
 condK v7000 (caK rec 86 [(Env.get s0 e), (.i .i64 6), v5000, (Env.get s1 e), (Env.get s2 e)] H5000 fun v9000 H9000 =>
 K3 .norm (Env.put s2 v9000 (Env.put s12 v7000 (Env.put s7 v5000 (Env.put s6 (.i .i64 0) e)))) H9000 (Ctl.mk [] .none))
 (K3 .norm (Env.put s12 v7000 (Env.put s7 v5000 (Env.put s6 (.i .i64 0) e))) H5000 (Ctl.mk [] .none))) (fun k3 e3 H3 =>
 caK rec 87 [(Env.get s0 e3), (Env.get s1 e3), (Env.get s2 e3)] H3 fun v5000 H5000 =>
 (endK recD [.slot s6]) .ret (Env.put s6 v5000 e3) H5000 k3) (endK recD [.slot s6])
theorem Tryz.cOk134 : (compFn Tryz.prog Tryz.f134).map (bodyK 134) = some Tryz.c134 := by kernel_rfl
def Tryz.c137 : FnK := fun rec recD args H => startK 2 args fun e =>
 caK rec 157 [(Env.get s0 e), (Env.get s1 e)] H fun v4000 H4000 =>
 binK .geq .no v4000 (.i .i64 0) fun v4001 =>
 (endK recD [.slot s4]) .ret (Env.put s4 v4001 (Env.put s4 (.b false) e)) H4000 (Ctl.mk [] .none)
theorem Tryz.cOk137 : (compFn Tryz.prog Tryz.f137).map (bodyK 137) = some Tryz.c137 := by kernel_rfl
def Tryz.c139 : FnK := fun rec recD args H => startK 2 args fun e =>
 newK [(.s []), (.s []), (.i .i64 0), (.i .i64 0), (.s []), (.i .i64 0), (.s []), .sl0] H fun v2000 H2000 =>
 seqK (fun K3 =>
 lnK .sl H2000 (Env.get s0 e) fun v5000 =>
 blockK 0 (fun K6 =>
 loopK (fun k7 e7 H7 K7 =>
 binK .lss .no (Env.get s10 e7) (Env.get s9 e7) fun v9000 =>
 seqK (fun K10 =>
 condK v9000 (K10 .norm (Env.put s11 v9000 e7) H7 k7)
 (K10 (.exit 0) (Env.put s11 v9000 e7) H7 k7)) (fun k10 e10 H10 =>
 seqK (fun K11 =>
 blockK 1 (fun K12 =>
 iaK .none 8 (Env.get s8 e10) (Env.get s10 e10) fun v14000 =>
 ldK true 8 v14000 H10 fun v14001 =>
 newK [(.s []), (.s []), (.i .i64 0), (.i .i64 0), (.s []), (.i .i64 0), (.s []), .sl0] H10 fun v14002 H14002 =>
 stK 8 v14001 v14002 H14002 fun H14003 =>
 faK 1 v14002 fun v16000 =>
 ldK false 1 v16000 H14003 fun v16001 =>
 binK .eql .no v16001 (Env.get s1 e10) fun v16002 =>
 condK v16002 (ldK true 8 v14002 H14003 fun v19000 =>
 caK rec 65 [v19000] H14003 fun v19001 H19001 =>
 stK 8 v19001 (Env.get s4 e10) H19001 fun H19002 =>
 K12 .ret (Env.put s5 (.b true) (Env.put s17 v16002 (Env.put s7 v14002 e10))) H19002 k10)
 (K12 .norm (Env.put s17 v16002 (Env.put s7 v14002 e10)) H14003 k10)) K11) (fun k11 e11 H11 =>
 binK .add .no (Env.get s10 e11) (.i .i64 1) fun v12000 =>
 K7 .norm (Env.put s10 v12000 e11) H11 k11) K7) K7) rounds K6 (Ctl.mk [] .none) (Env.put s8 (Env.get s0 e) (Env.put s9 v5000 (Env.put s10 (.i .i64 0) (Env.put s4 v2000 (Env.put s5 (.b false) e))))) H2000) K3) (fun k3 e3 H3 =>
 bdK [(.s []), (.s []), (.i .i64 0), (.i .i64 0), (.s []), (.i .i64 0), (.s []), .sl0] [] fun v5000 =>
 stK 8 v5000 (Env.get s4 e3) H3 fun H5001 =>
 (endK recD [.cell true 8 s4, .slot s5]) .ret (Env.put s5 (.b false) e3) H5001 k3) (endK recD [.cell true 8 s4, .slot s5])
theorem Tryz.cOk139 : (compFn Tryz.prog Tryz.f139).map (bodyK 139) = some Tryz.c139 := by kernel_rfl
def Tryz.c141 : FnK := fun rec recD args H => startK 3 args fun e =>
 newK [(.i .i64 0), (.i .i64 0)] H fun v2000 H2000 =>
 genK roundT rec (.nilCheck (.s s0)) (Ctl.mk [] .none) (Env.put s6 v2000 e) [] H2000 fun v4000 H4000 k4000 =>
 faK 0 v4000 fun v4001 =>
 faK 0 v4001 fun v4002 =>
 ldK false 1 v4002 H4000 fun v4003 =>
 iaK .none 13 v4003 (Env.get s1 e) fun v4004 =>
 ldK true 13 v4004 H4000 fun v4005 =>
 newK [(.i .i64 0), (.i .i64 0), (.i .i64 0), .sl0, (.s []), (.i .i64 0), (.s []), (.i .i64 0), (.s []), (.i .i64 0), (.i .i64 0), (.i .i64 0), .sl0] H4000 fun v4006 H4006 =>
 stK 13 v4005 v4006 H4006 fun H4007 =>
 seqK (fun K5 =>
 genK roundT rec (.nilCheck (.s s0)) k4000 (Env.put s7 v4006 (Env.put s6 v2000 e)) [] H4007 fun v7000 H7000 k7000 =>
 faK 2 v7000 fun v7001 =>
 ldK false 1 v7001 H7000 fun v7002 =>
 lnK .sl H7000 v7002 fun v7003 =>
 blockK 0 (fun K8 =>
 loopK (fun k9 e9 H9 K9 =>
 binK .lss .no (Env.get s23 e9) (Env.get s22 e9) fun v11000 =>
 seqK (fun K12 =>
 condK v11000 (K12 .norm (Env.put s24 v11000 e9) H9 k9)
 (K12 (.exit 0) (Env.put s24 v11000 e9) H9 k9)) (fun k12 e12 H12 =>
 seqK (fun K13 =>
 blockK 1 (fun K14 =>
 iaK .none 7 (Env.get s21 e12) (Env.get s23 e12) fun v16000 =>
 ldK true 7 v16000 H12 fun v16001 =>
 newK [(.s []), (.i .i64 0), (.s []), (.i .i64 0), (.s []), (.i .i64 0), (.b false)] H12 fun v16002 H16002 =>
 stK 7 v16001 v16002 H16002 fun H16003 =>
 faK 0 v16002 fun v18000 =>
 ldK false 1 v18000 H16003 fun v18001 =>
 faK 4 (Env.get s7 e12) fun v18002 =>
 ldK false 1 v18002 H16003 fun v18003 =>
 binK .eql .no v18001 v18003 fun v18004 =>
 condK v18004 (caK rec 159 [(Env.get s0 e12), (.i .i64 4), (Env.get s1 e12)] H16003 fun v21000 H21000 =>
 stK 2 v21000 (Env.get s6 e12) H21000 fun H21001 =>
 K14 .ret (Env.put s31 v18004 (Env.put s9 v16002 e12)) H21001 k12)
 (K14 .norm (Env.put s31 v18004 (Env.put s9 v16002 e12)) H16003 k12)) K13) (fun k13 e13 H13 =>
 binK .add .no (Env.get s23 e13) (.i .i64 1) fun v14000 =>
 K9 .norm (Env.put s23 v14000 e13) H13 k13) K9) K9) rounds K8 k7000 (Env.put s21 v7002 (Env.put s22 v7003 (Env.put s23 (.i .i64 0) (Env.put s7 v4006 (Env.put s6 v2000 e))))) H7000) K5) (fun k5 e5 H5 =>
 seqK (fun K6 =>
 genK roundT rec (.nilCheck (.s s0)) k5 e5 [] H5 fun v8000 H8000 k8000 =>
 faK 2 v8000 fun v8001 =>
 ldK false 1 v8001 H8000 fun v8002 =>
 lnK .sl H8000 v8002 fun v8003 =>
 binK .eql .no v8003 (.i .i64 64) fun v8004 =>
 condK v8004 (caK rec 159 [(Env.get s0 e5), (.i .i64 2), (Env.get s1 e5)] H8000 fun v11000 H11000 =>
 stK 2 v11000 (Env.get s6 e5) H11000 fun H11001 =>
 K6 .ret (Env.put s41 v8004 e5) H11001 k8000)
 (K6 .norm (Env.put s41 v8004 e5) H8000 k8000)) (fun k6 e6 H6 =>
 genK roundT rec (.nilCheck (.s s0)) k6 e6 [] H6 fun v8000 H8000 k8000 =>
 faK 4 v8000 fun v8001 =>
 ldK false 1 v8001 H8000 fun v8002 =>
 genK roundT rec (.nilCheck (.s s0)) k8000 e6 [v8002, v8001, v8000] H8000 fun v8003 H8003 k8003 =>
 faK 2 v8003 fun v8004 =>
 ldK false 1 v8004 H8003 fun v8005 =>
 lnK .sl H8003 v8005 fun v8006 =>
 genK roundT rec (.buildSlice 1 1 [(.i .i64 0)] [(0, (.l 0))]) k8003 e6 [v8006, v8005, v8004, v8003, v8002, v8001, v8000] H8003 fun v8007 H8007 k8007 =>
 apK 1 [(.i .i64 0)] H8007 v8002 v8007 fun v8008 H8008 =>
 genK roundT rec (.nilCheck (.s s0)) k8007 e6 [v8008, v8007, v8006, v8005, v8004, v8003, v8002, v8001, v8000] H8008 fun v8009 H8009 k8009 =>
 faK 4 v8009 fun v8010 =>
 stK 1 v8008 v8010 H8009 fun H8011 =>
 genK roundT rec (.nilCheck (.s s0)) k8009 e6 [] H8011 fun v10000 H10000 k10000 =>
 faK 3 v10000 fun v10001 =>
 ldK false 1 v10001 H10000 fun v10002 =>
 genK roundT rec (.nilCheck (.s s0)) k10000 e6 [v10002, v10001, v10000] H10000 fun v10003 H10003 k10003 =>
 faK 2 v10003 fun v10004 =>
 ldK false 1 v10004 H10003 fun v10005 =>
 lnK .sl H10003 v10005 fun v10006 =>
 genK roundT rec (.mapUpd .i (.l 4) (.s s1) (.l 0)) k10003 e6 [v10006, v10005, v10004, v10003, v10002, v10001, v10000] H10003 fun v10007 H10007 k10007 =>
 genK roundT rec (.nilCheck (.s s0)) k10007 e6 [] H10007 fun v12000 H12000 k12000 =>
 faK 2 v12000 fun v12001 =>
 ldK false 1 v12001 H12000 fun v12002 =>
 faK 4 (Env.get s7 e6) fun v12003 =>
 ldK false 1 v12003 H12000 fun v12004 =>
 faK 5 (Env.get s7 e6) fun v12005 =>
 ldK true 4 v12005 H12000 fun v12006 =>
 bdK [(.s []), (.i .i64 0), (.s []), (.i .i64 0), (.s []), (.i .i64 0), (.b false)] [(0, 1, v12004), (1, 4, v12006), (5, 1, (Env.get s1 e6)), (6, 1, (Env.get s2 e6))] fun v12007 =>
 genK roundT rec (.buildSlice 1 7 [(.s []), (.i .i64 0), (.s []), (.i .i64 0), (.s []), (.i .i64 0), (.b false)] [(0, (.l 0))]) k12000 e6 [v12007, v12006, v12005, v12004, v12003, v12002, v12001, v12000] H12000 fun v12008 H12008 k12008 =>
 apK 7 [(.s []), (.i .i64 0), (.s []), (.i .i64 0), (.s []), (.i .i64 0), (.b false)] H12008 v12002 v12008 fun v12009 H12009 =>
 genK roundT rec (.nilCheck (.s s0)) k12008 e6 [v12009, v12008, v12007, v12006, v12005, v12004, v12003, v12002, v12001, v12000] H12009 fun v12010 H12010 k12010 =>
 faK 2 v12010 fun v12011 =>
 stK 1 v12009 v12011 H12010 fun H12012 =>
 bdK [(.i .i64 0), (.i .i64 0)] [] fun v14000 =>
 stK 2 v14000 (Env.get s6 e6) H12012 fun H14001 =>
 (endK recD [.cell true 2 s6]) .ret e6 H14001 k12010) (endK recD [.cell true 2 s6])) (endK recD [.cell true 2 s6])
theorem Tryz.cOk141 : (compFn Tryz.prog Tryz.f141).map (bodyK 141) = some Tryz.c141 := by kernel_rfl
def Tryz.c155 : FnK := fun rec recD args H => startK 1 args fun e =>
 newK [(.i .i64 0), (.i .i64 0), (.i .i64 0)] H fun v4000 H4000 =>
 caK rec 78 [(Env.get s0 e)] H4000 fun v4001 H4001 =>
 exK 0 v4001 fun v4002 =>
 exK 1 v4001 fun v4003 =>
 stK 3 v4002 v4000 H4001 fun H4004 =>
 caK rec 173 [(Env.get s0 e)] H4004 fun v6000 H6000 =>
 caK rec 127 [(Env.get s0 e), (.s [123])] H6000 fun v8000 H8000 =>
 seqK (fun K11 =>
 blockK 0 (fun K12 =>
 loopK (fun k13 e13 H13 K13 =>
 seqK (fun K14 =>
 caK rec 130 [(Env.get s0 e13), (.s [125])] H13 fun v16000 H16000 =>
 unK .not v16000 fun v16001 =>
 condK v16001 (K14 .norm (Env.put s17 v16001 e13) H16000 k13)
 (K14 (.exit 0) (Env.put s17 v16001 e13) H16000 k13)) (fun k14 e14 H14 =>
 blockK 1 (fun K15 =>
 caK rec 174 [(Env.get s0 e14)] H14 fun v16000 H16000 =>
 genK roundT rec (.buildSlice 1 1 [(.i .i64 0)] [(0, (.l 0))]) k14 e14 [v16000] H16000 fun v16001 H16001 k16001 =>
 apK 1 [(.i .i64 0)] H16001 (Env.get s5 e14) v16001 fun v16002 H16002 =>
 K15 .norm (Env.put s5 v16002 e14) H16002 k16001) K13) K13) rounds K12 (Ctl.mk [] .none) (Env.put s5 .sl0 (Env.put s3 v4000 (Env.put s2 (.i .i64 0) e))) H8000) K11) (fun k11 e11 H11 =>
 caK rec 127 [(Env.get s0 e11), (.s [125])] H11 fun v13000 H13000 =>
 genK roundT rec (.nilCheck (.s s0)) k11 e11 [] H13000 fun v15000 H15000 k15000 =>
 faK 3 v15000 fun v15001 =>
 ldK false 1 v15001 H15000 fun v15002 =>
 binK .sub .no v15002 (.i .i64 1) fun v15003 =>
 genK roundT rec (.nilCheck (.s s0)) k15000 e11 [v15003, v15002, v15001, v15000] H15000 fun v15004 H15004 k15004 =>
 faK 3 v15004 fun v15005 =>
 stK 1 v15003 v15005 H15004 fun H15006 =>
 bdK [(.i .i64 0), (.i .i64 0), (.i .i64 0), .sl0, (.s []), (.i .i64 0), (.s []), (.i .i64 0), (.s []), (.i .i64 0), (.i .i64 0), (.i .i64 0), .sl0] [(0, 1, (.i .i64 8)), (3, 1, (Env.get s5 e11))] fun v17000 =>
 faK 1 (Env.get s3 e11) fun v17001 =>
 faK 0 v17001 fun v17002 =>
 ldK false 1 v17002 H15006 fun v17003 =>
 caK rec 81 [(Env.get s0 e11), v17000, v17003] H15006 fun v17004 H17004 =>
 (endK recD [.slot s2]) .ret (Env.put s2 v17004 e11) H17004 k15004) (endK recD [.slot s2])
theorem Tryz.cOk155 : (compFn Tryz.prog Tryz.f155).map (bodyK 155) = some Tryz.c155 := by kernel_rfl
def Tryz.c174 : FnK := fun rec recD args H => startK 1 args fun e =>
 newK [(.i .i64 0), (.i .i64 0), (.i .i64 0)] H fun v4000 H4000 =>
 caK rec 78 [(Env.get s0 e)] H4000 fun v4001 H4001 =>
 exK 0 v4001 fun v4002 =>
 exK 1 v4001 fun v4003 =>
 stK 3 v4002 v4000 H4001 fun H4004 =>
 seqK (fun K5 =>
 faK 0 v4000 fun v7000 =>
 ldK false 1 v7000 H4004 fun v7001 =>
 binK .eql .no v7001 (.i .i64 5) fun v7002 =>
 gdK v7002 true (fun R7003 => R7003 v4003 H4004 (Ctl.mk [] .none)) H4004 (Ctl.mk [] .none) fun v7003 H7003 k7003 =>
 gdK v7002 true (fun R7004 => binK .eql .no v7003 (.s [123]) fun v7004 =>
 R7004 v7004 H7003 k7003) H7003 k7003 fun v7004 H7004 k7004 =>
 pkK v7002 v7004 (.b false) fun v7005 =>
 condK v7005 (caK rec 155 [(Env.get s0 e)] H7004 fun v10000 H10000 =>
 K5 .ret (Env.put s2 v10000 (Env.put s19 v7005 (Env.put s3 v4000 (Env.put s4 v4003 (Env.put s2 (.i .i64 0) e))))) H10000 k7004)
 (K5 .norm (Env.put s19 v7005 (Env.put s3 v4000 (Env.put s4 v4003 (Env.put s2 (.i .i64 0) e)))) H7004 k7004)) (fun k5 e5 H5 =>
 seqK (fun K6 =>
 caK rec 183 [(Env.get s0 e5)] H5 fun v8000 H8000 =>
 condK v8000 (newK [(.i .i64 0), (.i .i64 0), (.i .i64 0), .sl0, (.s []), (.i .i64 0), (.s []), (.i .i64 0), (.s []), (.i .i64 0), (.i .i64 0), (.i .i64 0), .sl0] H8000 fun v11000 H11000 =>
 caK rec 156 [(Env.get s0 e5), (.b false)] H11000 fun v11001 H11001 =>
 stK 13 v11001 v11000 H11001 fun H11002 =>
 faK 0 v11000 fun v13000 =>
 caK rec 128 [(Env.get s0 e5)] H11002 fun v13001 H13001 =>
 stK 1 (.i .i64 9) v13000 H13001 fun H13002 =>
 faK 4 v11000 fun v13003 =>
 stK 1 v13001 v13003 H13002 fun H13004 =>
 seqK (fun K14 =>
 caK rec 129 [(Env.get s0 e5), (.s [61])] H13004 fun v16000 H16000 =>
 condK v16000 (caK rec 184 [(Env.get s0 e5)] H16000 fun v18000 H18000 =>
 genK roundT rec (.buildSlice 1 1 [(.i .i64 0)] [(0, (.l 0))]) k5 (Env.put s31 v16000 (Env.put s5 v11000 (Env.put s23 v8000 e5))) [v18000] H18000 fun v18001 H18001 k18001 =>
 faK 3 v11000 fun v18002 =>
 stK 1 v18001 v18002 H18001 fun H18003 =>
 K14 .norm (Env.put s31 v16000 (Env.put s5 v11000 (Env.put s23 v8000 e5))) H18003 k18001)
 (K14 .norm (Env.put s31 v16000 (Env.put s5 v11000 (Env.put s23 v8000 e5))) H16000 k5)) (fun k14 e14 H14 =>
 caK rec 127 [(Env.get s0 e14), (.s [59])] H14 fun v16000 H16000 =>
 ldK true 13 (Env.get s5 e14) H16000 fun v18000 =>
 faK 1 (Env.get s3 e14) fun v18001 =>
 faK 0 v18001 fun v18002 =>
 ldK false 1 v18002 H16000 fun v18003 =>
 caK rec 81 [(Env.get s0 e14), v18000, v18003] H16000 fun v18004 H18004 =>
 K6 .ret (Env.put s2 v18004 e14) H18004 k14) K6)
 (K6 .norm (Env.put s23 v8000 e5) H8000 k5)) (fun k6 e6 H6 =>
 seqK (fun K7 =>
 faK 0 (Env.get s3 e6) fun v9000 =>
 ldK false 1 v9000 H6 fun v9001 =>
 binK .eql .no v9001 (.i .i64 1) fun v9002 =>
 condK v9002 (newK [(.i .i64 0), (.i .i64 0), (.i .i64 0), .sl0, (.s []), (.i .i64 0), (.s []), (.i .i64 0), (.s []), (.i .i64 0), (.i .i64 0), (.i .i64 0), .sl0] H6 fun v12000 H12000 =>
 caK rec 185 [(Env.get s0 e6), (Env.get s4 e6)] H12000 fun v12001 H12001 =>
 exK 0 v12001 fun v12002 =>
 exK 1 v12001 fun v12003 =>
 stK 13 v12002 v12000 H12001 fun H12004 =>
 condK v12003 (ldK true 13 v12000 H12004 fun v17000 =>
 faK 1 (Env.get s3 e6) fun v17001 =>
 faK 0 v17001 fun v17002 =>
 ldK false 1 v17002 H12004 fun v17003 =>
 caK rec 81 [(Env.get s0 e6), v17000, v17003] H12004 fun v17004 H17004 =>
 K7 .ret (Env.put s2 v17004 (Env.put s53 v12003 (Env.put s6 v12000 (Env.put s7 v12003 (Env.put s46 v9002 e6))))) H17004 k6)
 (K7 .norm (Env.put s53 v12003 (Env.put s6 v12000 (Env.put s7 v12003 (Env.put s46 v9002 e6)))) H12004 k6))
 (K7 .norm (Env.put s46 v9002 e6) H6 k6)) (fun k7 e7 H7 =>
 faK 1 (Env.get s3 e7) fun v9000 =>
 faK 0 v9000 fun v9001 =>
 ldK false 1 v9001 H7 fun v9002 =>
 caK rec 186 [(Env.get s0 e7), v9002] H7 fun v9003 H9003 =>
 (endK recD [.slot s2]) .ret (Env.put s2 v9003 e7) H9003 k7) (endK recD [.slot s2])) (endK recD [.slot s2])) (endK recD [.slot s2])
theorem Tryz.cOk174 : (compFn Tryz.prog Tryz.f174).map (bodyK 174) = some Tryz.c174 := by kernel_rfl
def Tryz.c175 : FnK := fun rec recD args H => startK 1 args fun e =>
 newK [(.i .i64 0), (.i .i64 0), (.i .i64 0), .sl0, (.s []), (.i .i64 0), (.s []), (.i .i64 0), (.s []), (.i .i64 0), (.i .i64 0), (.i .i64 0), .sl0] H fun v2000 H2000 =>
 newK [(.i .i64 0), (.i .i64 0), (.i .i64 0), .sl0, (.s []), (.i .i64 0), (.s []), (.i .i64 0), (.s []), (.i .i64 0), (.i .i64 0), (.i .i64 0), .sl0] H2000 fun v4000 H4000 =>
 caK rec 187 [(Env.get s0 e)] H4000 fun v4001 H4001 =>
 stK 13 v4001 v4000 H4001 fun H4002 =>
 seqK (fun K5 =>
 blockK 0 (fun K6 =>
 loopK (fun k7 e7 H7 K7 =>
 seqK (fun K8 =>
 caK rec 188 [(Env.get s0 e7), (Env.get s3 e7)] H7 fun v10000 H10000 =>
 gdK v10000 false (fun R10001 => R10001 (Env.get s0 e7) H10000 k7) H10000 k7 fun v10001 H10001 k10001 =>
 gdK v10000 false (fun R10002 => caK rec 189 [v10001, (Env.get s3 e7)] H10001 fun v10002 H10002 =>
 R10002 v10002 H10002 k10001) H10001 k10001 fun v10002 H10002 k10002 =>
 pkK v10000 (.b true) v10002 fun v10003 =>
 condK v10003 (K8 .norm (Env.put s11 v10003 e7) H10002 k10002)
 (K8 (.exit 0) (Env.put s11 v10003 e7) H10002 k10002)) (fun k8 e8 H8 =>
 blockK 1 (fun K9 =>
 K9 .norm e8 H8 k8) K7) K7) rounds K6 (Ctl.mk [] .none) (Env.put s3 v4000 (Env.put s2 v2000 e)) H4002) K5) (fun k5 e5 H5 =>
 ldK true 13 (Env.get s3 e5) H5 fun v7000 =>
 stK 13 v7000 (Env.get s2 e5) H5 fun H7001 =>
 (endK recD [.cell true 13 s2]) .ret e5 H7001 k5) (endK recD [.cell true 13 s2])
theorem Tryz.cOk175 : (compFn Tryz.prog Tryz.f175).map (bodyK 175) = some Tryz.c175 := by kernel_rfl
def Tryz.c185 : FnK := fun rec recD args H => startK 2 args fun e =>
 newK [(.i .i64 0), (.i .i64 0), (.i .i64 0), .sl0, (.s []), (.i .i64 0), (.s []), (.i .i64 0), (.s []), (.i .i64 0), (.i .i64 0), (.i .i64 0), .sl0] H fun v2000 H2000 =>
 bdK [(.i .i64 0), (.i .i64 0), (.i .i64 0), .sl0, (.s []), (.i .i64 0), (.s []), (.i .i64 0), (.s []), (.i .i64 0), (.i .i64 0), (.i .i64 0), .sl0] [] fun v4000 =>
 newK [(.i .i64 0), (.i .i64 0), (.i .i64 0), .sl0, (.s []), (.i .i64 0), (.s []), (.i .i64 0), (.s []), (.i .i64 0), (.i .i64 0), (.i .i64 0), .sl0] H2000 fun v4001 H4001 =>
 stK 13 v4000 v4001 H4001 fun H4002 =>
 seqK (fun K5 =>
 blockK 0 (fun K8 =>
 binK .eql .no (Env.get s1 e) (.s [105, 102]) fun v10000 =>
 condK v10000 (caK rec 152 [(Env.get s0 e)] H4002 fun v13000 H13000 =>
 caK rec 196 [(Env.get s0 e)] H13000 fun v15000 H15000 =>
 caK rec 155 [(Env.get s0 e)] H15000 fun v15001 H15001 =>
 genK roundT rec (.buildSlice 2 1 [(.i .i64 0)] [(0, (.l 1)), (1, (.l 0))]) (Ctl.mk [] .none) (Env.put s10 v10000 (Env.put s8 (Env.get s1 e) (Env.put s6 v4001 (Env.put s4 v2000 (Env.put s5 (.b false) e))))) [v15001, v15000] H15001 fun v15002 H15002 k15002 =>
 bdK [(.i .i64 0), (.i .i64 0), (.i .i64 0), .sl0, (.s []), (.i .i64 0), (.s []), (.i .i64 0), (.s []), (.i .i64 0), (.i .i64 0), (.i .i64 0), .sl0] [(0, 1, (.i .i64 11)), (3, 1, v15002)] fun v15003 =>
 stK 13 v15003 v4001 H15002 fun H15004 =>
 seqK (fun K16 =>
 caK rec 129 [(Env.get s0 e), (.s [101, 108, 115, 101])] H15004 fun v18000 H18000 =>
 condK v18000 (faK 3 v4001 fun v20000 =>
 ldK false 1 v20000 H18000 fun v20001 =>
 caK rec 155 [(Env.get s0 e)] H18000 fun v20002 H20002 =>
 boolK (and (again ⟨.load false 1 (.l 0), .none, []⟩ v20001 (Env.put s21 v18000 (Env.put s10 v10000 (Env.put s8 (Env.get s1 e) (Env.put s6 v4001 (Env.put s4 v2000 (Env.put s5 (.b false) e)))))) [v20000] H20002) true) (genK roundT rec (.buildSlice 1 1 [(.i .i64 0)] [(0, (.l 0))]) k15002 (Env.put s21 v18000 (Env.put s10 v10000 (Env.put s8 (Env.get s1 e) (Env.put s6 v4001 (Env.put s4 v2000 (Env.put s5 (.b false) e)))))) [v20002, v20001, v20000] H20002 fun v20003 H20003 k20003 =>
 apK 1 [(.i .i64 0)] H20003 v20001 v20003 fun v20004 H20004 =>
 faK 3 v4001 fun v20005 =>
 stK 1 v20004 v20005 H20004 fun H20006 =>
 K16 .norm (Env.put s21 v18000 (Env.put s10 v10000 (Env.put s8 (Env.get s1 e) (Env.put s6 v4001 (Env.put s4 v2000 (Env.put s5 (.b false) e)))))) H20006 k20003))
 (K16 .norm (Env.put s21 v18000 (Env.put s10 v10000 (Env.put s8 (Env.get s1 e) (Env.put s6 v4001 (Env.put s4 v2000 (Env.put s5 (.b false) e)))))) H18000 k15002)) (fun k16 e16 H16 =>
 ldK true 13 (Env.get s6 e16) H16 fun v18000 =>
 stK 13 v18000 (Env.get s4 e16) H16 fun H18001 =>
 K8 .ret (Env.put s5 (.b true) e16) H18001 k16) K8)
 (binK .eql .no (Env.get s1 e) (.s [119, 104, 105, 108, 101]) fun v13000 =>
 condK v13000 (caK rec 152 [(Env.get s0 e)] H4002 fun v16000 H16000 =>
 caK rec 196 [(Env.get s0 e)] H16000 fun v18000 H18000 =>
 caK rec 155 [(Env.get s0 e)] H18000 fun v18001 H18001 =>
 genK roundT rec (.buildSlice 2 1 [(.i .i64 0)] [(0, (.l 1)), (1, (.l 0))]) (Ctl.mk [] .none) (Env.put s30 v13000 (Env.put s10 v10000 (Env.put s8 (Env.get s1 e) (Env.put s6 v4001 (Env.put s4 v2000 (Env.put s5 (.b false) e)))))) [v18001, v18000] H18001 fun v18002 H18002 k18002 =>
 bdK [(.i .i64 0), (.i .i64 0), (.i .i64 0), .sl0, (.s []), (.i .i64 0), (.s []), (.i .i64 0), (.s []), (.i .i64 0), (.i .i64 0), (.i .i64 0), .sl0] [(0, 1, (.i .i64 12)), (3, 1, v18002)] fun v18003 =>
 stK 13 v18003 v2000 H18002 fun H18004 =>
 K8 .ret (Env.put s5 (.b true) (Env.put s30 v13000 (Env.put s10 v10000 (Env.put s8 (Env.get s1 e) (Env.put s6 v4001 (Env.put s4 v2000 (Env.put s5 (.b false) e))))))) H18004 k18002)
 (binK .eql .no (Env.get s1 e) (.s [98, 114, 101, 97, 107]) fun v16000 =>
 condK v16000 (faK 0 v4001 fun v19000 =>
 stK 1 (.i .i64 13) v19000 H4002 fun H19001 =>
 caK rec 152 [(Env.get s0 e)] H19001 fun v20000 H20000 =>
 K8 .norm (Env.put s40 v16000 (Env.put s30 v13000 (Env.put s10 v10000 (Env.put s8 (Env.get s1 e) (Env.put s6 v4001 (Env.put s4 v2000 (Env.put s5 (.b false) e))))))) H20000 (Ctl.mk [] .none))
 (binK .eql .no (Env.get s1 e) (.s [99, 111, 110, 116, 105, 110, 117, 101]) fun v19000 =>
 condK v19000 (faK 0 v4001 fun v22000 =>
 stK 1 (.i .i64 14) v22000 H4002 fun H22001 =>
 caK rec 152 [(Env.get s0 e)] H22001 fun v23000 H23000 =>
 K8 .norm (Env.put s45 v19000 (Env.put s40 v16000 (Env.put s30 v13000 (Env.put s10 v10000 (Env.put s8 (Env.get s1 e) (Env.put s6 v4001 (Env.put s4 v2000 (Env.put s5 (.b false) e)))))))) H23000 (Ctl.mk [] .none))
 (binK .eql .no (Env.get s1 e) (.s [114, 101, 116, 117, 114, 110]) fun v22000 =>
 condK v22000 (faK 0 v4001 fun v25000 =>
 stK 1 (.i .i64 15) v25000 H4002 fun H25001 =>
 caK rec 152 [(Env.get s0 e)] H25001 fun v27000 H27000 =>
 caK rec 130 [(Env.get s0 e), (.s [59])] H27000 fun v29000 H29000 =>
 unK .not v29000 fun v29001 =>
 condK v29001 (caK rec 184 [(Env.get s0 e)] H29000 fun v31000 H31000 =>
 genK roundT rec (.buildSlice 1 1 [(.i .i64 0)] [(0, (.l 0))]) (Ctl.mk [] .none) (Env.put s57 v29001 (Env.put s50 v22000 (Env.put s45 v19000 (Env.put s40 v16000 (Env.put s30 v13000 (Env.put s10 v10000 (Env.put s8 (Env.get s1 e) (Env.put s6 v4001 (Env.put s4 v2000 (Env.put s5 (.b false) e)))))))))) [v31000] H31000 fun v31001 H31001 k31001 =>
 faK 3 v4001 fun v31002 =>
 stK 1 v31001 v31002 H31001 fun H31003 =>
 K8 .norm (Env.put s57 v29001 (Env.put s50 v22000 (Env.put s45 v19000 (Env.put s40 v16000 (Env.put s30 v13000 (Env.put s10 v10000 (Env.put s8 (Env.get s1 e) (Env.put s6 v4001 (Env.put s4 v2000 (Env.put s5 (.b false) e)))))))))) H31003 k31001)
 (K8 .norm (Env.put s57 v29001 (Env.put s50 v22000 (Env.put s45 v19000 (Env.put s40 v16000 (Env.put s30 v13000 (Env.put s10 v10000 (Env.put s8 (Env.get s1 e) (Env.put s6 v4001 (Env.put s4 v2000 (Env.put s5 (.b false) e)))))))))) H29000 (Ctl.mk [] .none)))
 (binK .eql .no (Env.get s1 e) (.s [112, 114, 105, 110, 116]) fun v25000 =>
 condK v25000 (caK rec 152 [(Env.get s0 e)] H4002 fun v28000 H28000 =>
 caK rec 196 [(Env.get s0 e)] H28000 fun v29000 H29000 =>
 genK roundT rec (.buildSlice 1 1 [(.i .i64 0)] [(0, (.l 0))]) (Ctl.mk [] .none) (Env.put s62 v25000 (Env.put s50 v22000 (Env.put s45 v19000 (Env.put s40 v16000 (Env.put s30 v13000 (Env.put s10 v10000 (Env.put s8 (Env.get s1 e) (Env.put s6 v4001 (Env.put s4 v2000 (Env.put s5 (.b false) e)))))))))) [v29000] H29000 fun v29001 H29001 k29001 =>
 bdK [(.i .i64 0), (.i .i64 0), (.i .i64 0), .sl0, (.s []), (.i .i64 0), (.s []), (.i .i64 0), (.s []), (.i .i64 0), (.i .i64 0), (.i .i64 0), .sl0] [(0, 1, (.i .i64 16)), (3, 1, v29001)] fun v29002 =>
 stK 13 v29002 v4001 H29001 fun H29003 =>
 K8 .norm (Env.put s62 v25000 (Env.put s50 v22000 (Env.put s45 v19000 (Env.put s40 v16000 (Env.put s30 v13000 (Env.put s10 v10000 (Env.put s8 (Env.get s1 e) (Env.put s6 v4001 (Env.put s4 v2000 (Env.put s5 (.b false) e)))))))))) H29003 k29001)
 (binK .eql .no (Env.get s1 e) (.s [115, 117, 112, 101, 114]) fun v28000 =>
 condK v28000 (caK rec 152 [(Env.get s0 e)] H4002 fun v31000 H31000 =>
 caK rec 197 [(Env.get s0 e)] H31000 fun v32000 H32000 =>
 bdK [(.i .i64 0), (.i .i64 0), (.i .i64 0), .sl0, (.s []), (.i .i64 0), (.s []), (.i .i64 0), (.s []), (.i .i64 0), (.i .i64 0), (.i .i64 0), .sl0] [(0, 1, (.i .i64 17)), (3, 1, v32000)] fun v32001 =>
 stK 13 v32001 v4001 H32000 fun H32002 =>
 K8 .norm (Env.put s70 v28000 (Env.put s62 v25000 (Env.put s50 v22000 (Env.put s45 v19000 (Env.put s40 v16000 (Env.put s30 v13000 (Env.put s10 v10000 (Env.put s8 (Env.get s1 e) (Env.put s6 v4001 (Env.put s4 v2000 (Env.put s5 (.b false) e))))))))))) H32002 (Ctl.mk [] .none))
 (ldK true 13 v4001 H4002 fun v31000 =>
 stK 13 v31000 v2000 H4002 fun H31001 =>
 K8 .ret (Env.put s5 (.b false) (Env.put s70 v28000 (Env.put s62 v25000 (Env.put s50 v22000 (Env.put s45 v19000 (Env.put s40 v16000 (Env.put s30 v13000 (Env.put s10 v10000 (Env.put s8 (Env.get s1 e) (Env.put s6 v4001 (Env.put s4 v2000 (Env.put s5 (.b false) e)))))))))))) H31001 (Ctl.mk [] .none))))))))) K5) (fun k5 e5 H5 =>
 caK rec 127 [(Env.get s0 e5), (.s [59])] H5 fun v7000 H7000 =>
 ldK true 13 (Env.get s6 e5) H7000 fun v9000 =>
 stK 13 v9000 (Env.get s4 e5) H7000 fun H9001 =>
 (endK recD [.cell true 13 s4, .slot s5]) .ret (Env.put s5 (.b true) e5) H9001 k5) (endK recD [.cell true 13 s4, .slot s5])
theorem Tryz.cOk185 : (compFn Tryz.prog Tryz.f185).map (bodyK 185) = some Tryz.c185 := by kernel_rfl
def Tryz.c187 : FnK := fun rec recD args H => startK 1 args fun e =>
 newK [(.i .i64 0), (.i .i64 0), (.i .i64 0), .sl0, (.s []), (.i .i64 0), (.s []), (.i .i64 0), (.s []), (.i .i64 0), (.i .i64 0), (.i .i64 0), .sl0] H fun v2000 H2000 =>
 newK [(.i .i64 0), (.i .i64 0), (.i .i64 0)] H2000 fun v4000 H4000 =>
 caK rec 78 [(Env.get s0 e)] H4000 fun v4001 H4001 =>
 exK 0 v4001 fun v4002 =>
 exK 1 v4001 fun v4003 =>
 stK 3 v4002 v4000 H4001 fun H4004 =>
 bdK [(.i .i64 0), (.s []), (.i .i64 0), (.s [])] [(3, 1, (.s [32]))] fun v6000 =>
 faK 1 v4000 fun v6001 =>
 ldK true 2 v6001 H4004 fun v6002 =>
 bdK [(.i .i64 0), (.i .i64 0), (.i .i64 0), .sl0, (.s []), (.i .i64 0), (.s []), (.i .i64 0), (.s []), (.i .i64 0), (.i .i64 0), (.i .i64 0), .sl0] [(5, 4, v6000), (10, 2, v6002)] fun v6003 =>
 newK [(.i .i64 0), (.i .i64 0), (.i .i64 0), .sl0, (.s []), (.i .i64 0), (.s []), (.i .i64 0), (.s []), (.i .i64 0), (.i .i64 0), (.i .i64 0), .sl0] H4004 fun v6004 H6004 =>
 stK 13 v6003 v6004 H6004 fun H6005 =>
 seqK (fun K7 =>
 blockK 0 (fun K8 =>
 faK 0 v4000 fun v10000 =>
 ldK false 1 v10000 H6005 fun v10001 =>
 binK .neq .no v10001 (.i .i64 1) fun v10002 =>
 condK v10002 (faK 1 v4000 fun v12000 =>
 faK 0 v12000 fun v12001 =>
 ldK false 1 v12001 H6005 fun v12002 =>
 caK rec 126 [(.i .i64 80), v12002] H6005 fun v12003 H12003 =>
 K8 .norm (Env.put s27 v10002 (Env.put s5 v6004 (Env.put s3 v4000 (Env.put s4 v4003 (Env.put s2 v2000 e))))) H12003 (Ctl.mk [] .none))
 (binK .eql .no v4003 (.s [105, 110, 116]) fun v13000 =>
 condK v13000 (faK 5 v6004 fun v15000 =>
 faK 0 v15000 fun v15001 =>
 stK 1 (.i .i64 1) v15001 H6005 fun H15002 =>
 K8 .norm (Env.put s35 v13000 (Env.put s27 v10002 (Env.put s5 v6004 (Env.put s3 v4000 (Env.put s4 v4003 (Env.put s2 v2000 e)))))) H15002 (Ctl.mk [] .none))
 (binK .eql .no v4003 (.s [98, 111, 111, 108]) fun v16000 =>
 condK v16000 (faK 5 v6004 fun v18000 =>
 faK 0 v18000 fun v18001 =>
 stK 1 (.i .i64 2) v18001 H6005 fun H18002 =>
 K8 .norm (Env.put s40 v16000 (Env.put s35 v13000 (Env.put s27 v10002 (Env.put s5 v6004 (Env.put s3 v4000 (Env.put s4 v4003 (Env.put s2 v2000 e))))))) H18002 (Ctl.mk [] .none))
 (binK .eql .no v4003 (.s [100, 111, 117, 98, 108, 101]) fun v19000 =>
 condK v19000 (faK 5 v6004 fun v21000 =>
 faK 0 v21000 fun v21001 =>
 stK 1 (.i .i64 3) v21001 H6005 fun H21002 =>
 K8 .norm (Env.put s45 v19000 (Env.put s40 v16000 (Env.put s35 v13000 (Env.put s27 v10002 (Env.put s5 v6004 (Env.put s3 v4000 (Env.put s4 v4003 (Env.put s2 v2000 e)))))))) H21002 (Ctl.mk [] .none))
 (binK .eql .no v4003 (.s [115, 116, 114]) fun v22000 =>
 condK v22000 (faK 5 v6004 fun v24000 =>
 faK 0 v24000 fun v24001 =>
 stK 1 (.i .i64 4) v24001 H6005 fun H24002 =>
 K8 .norm (Env.put s50 v22000 (Env.put s45 v19000 (Env.put s40 v16000 (Env.put s35 v13000 (Env.put s27 v10002 (Env.put s5 v6004 (Env.put s3 v4000 (Env.put s4 v4003 (Env.put s2 v2000 e))))))))) H24002 (Ctl.mk [] .none))
 (seqK (fun K24 =>
 caK rec 153 [v4003] H6005 fun v26000 H26000 =>
 unK .not v26000 fun v26001 =>
 condK v26001 (faK 1 v4000 fun v28000 =>
 faK 0 v28000 fun v28001 =>
 ldK false 1 v28001 H26000 fun v28002 =>
 caK rec 126 [(.i .i64 80), v28002] H26000 fun v28003 H28003 =>
 K24 .norm (Env.put s17 v26001 (Env.put s50 v22000 (Env.put s45 v19000 (Env.put s40 v16000 (Env.put s35 v13000 (Env.put s27 v10002 (Env.put s5 v6004 (Env.put s3 v4000 (Env.put s4 v4003 (Env.put s2 v2000 e)))))))))) H28003 (Ctl.mk [] .none))
 (K24 .norm (Env.put s17 v26001 (Env.put s50 v22000 (Env.put s45 v19000 (Env.put s40 v16000 (Env.put s35 v13000 (Env.put s27 v10002 (Env.put s5 v6004 (Env.put s3 v4000 (Env.put s4 v4003 (Env.put s2 v2000 e)))))))))) H26000 (Ctl.mk [] .none))) (fun k24 e24 H24 =>
 faK 5 (Env.get s5 e24) fun v25000 =>
 faK 0 v25000 fun v25001 =>
 stK 1 (.i .i64 5) v25001 H24 fun H25002 =>
 faK 5 (Env.get s5 e24) fun v25003 =>
 faK 1 v25003 fun v25004 =>
 stK 1 (Env.get s4 e24) v25004 H25002 fun H25005 =>
 K8 .norm e24 H25005 k24) K8)))))) K7) (fun k7 e7 H7 =>
 caK rec 152 [(Env.get s0 e7)] H7 fun v9000 H9000 =>
 genK roundT rec (.buildSlice 1 1 [(.i .i64 0)] [(0, (.l 0))]) k7 e7 [v9000] H9000 fun v9001 H9001 k9001 =>
 faK 12 (Env.get s5 e7) fun v9002 =>
 stK 1 v9001 v9002 H9001 fun H9003 =>
 ldK true 13 (Env.get s5 e7) H9003 fun v11000 =>
 stK 13 v11000 (Env.get s2 e7) H9003 fun H11001 =>
 (endK recD [.cell true 13 s2]) .ret e7 H11001 k9001) (endK recD [.cell true 13 s2])
theorem Tryz.cOk187 : (compFn Tryz.prog Tryz.f187).map (bodyK 187) = some Tryz.c187 := by kernel_rfl
def Tryz.c196 : FnK := fun rec recD args H => startK 1 args fun e =>
 caK rec 127 [(Env.get s0 e), (.s [40])] H fun v4000 H4000 =>
 caK rec 184 [(Env.get s0 e)] H4000 fun v6000 H6000 =>
 caK rec 127 [(Env.get s0 e), (.s [41])] H6000 fun v8000 H8000 =>
 (endK recD [.slot s2]) .ret (Env.put s2 v6000 (Env.put s3 v6000 (Env.put s2 (.i .i64 0) e))) H8000 (Ctl.mk [] .none)
theorem Tryz.cOk196 : (compFn Tryz.prog Tryz.f196).map (bodyK 196) = some Tryz.c196 := by kernel_rfl
def Tryz.c201 : FnK := fun rec recD args H => startK 1 args fun e =>
 seqK (fun K3 =>
 blockK 0 (fun K6 =>
 binK .eql .no (Env.get s0 e) (.s [124, 124]) fun v8000 =>
 condK v8000 (K6 .ret (Env.put s2 (.i .i64 0) (Env.put s4 v8000 (Env.put s3 (Env.get s0 e) (Env.put s2 (.i .i64 0) e)))) H (Ctl.mk [] .none))
 (binK .eql .no (Env.get s0 e) (.s [38, 38]) fun v11000 =>
 condK v11000 (K6 .ret (Env.put s2 (.i .i64 1) (Env.put s6 v11000 (Env.put s4 v8000 (Env.put s3 (Env.get s0 e) (Env.put s2 (.i .i64 0) e))))) H (Ctl.mk [] .none))
 (seqK (fun K13 =>
 binK .eql .no (Env.get s0 e) (.s [61, 61]) fun v15000 =>
 condK v15000 (K13 .norm (Env.put s8 v15000 (Env.put s6 v11000 (Env.put s4 v8000 (Env.put s3 (Env.get s0 e) (Env.put s2 (.i .i64 0) e))))) H (Ctl.mk [] .none))
 (binK .eql .no (Env.get s0 e) (.s [33, 61]) fun v17000 =>
 K13 .norm (Env.put s8 v17000 (Env.put s8 v15000 (Env.put s6 v11000 (Env.put s4 v8000 (Env.put s3 (Env.get s0 e) (Env.put s2 (.i .i64 0) e)))))) H (Ctl.mk [] .none))) (fun k13 e13 H13 =>
 condK (Env.get s8 e13) (K6 .ret (Env.put s2 (.i .i64 2) e13) H13 k13)
 (seqK (fun K15 =>
 binK .eql .no (Env.get s3 e13) (.s [60]) fun v17000 =>
 condK v17000 (K15 .norm (Env.put s11 v17000 e13) H13 k13)
 (binK .eql .no (Env.get s3 e13) (.s [60, 61]) fun v20000 =>
 condK v20000 (K15 .norm (Env.put s11 v20000 (Env.put s11 v17000 e13)) H13 k13)
 (binK .eql .no (Env.get s3 e13) (.s [62]) fun v23000 =>
 condK v23000 (K15 .norm (Env.put s11 v23000 (Env.put s11 v20000 (Env.put s11 v17000 e13))) H13 k13)
 (binK .eql .no (Env.get s3 e13) (.s [62, 61]) fun v25000 =>
 K15 .norm (Env.put s11 v25000 (Env.put s11 v23000 (Env.put s11 v20000 (Env.put s11 v17000 e13)))) H13 k13)))) (fun k15 e15 H15 =>
 condK (Env.get s11 e15) (K6 .ret (Env.put s2 (.i .i64 3) e15) H15 k15)
 (seqK (fun K17 =>
 binK .eql .no (Env.get s3 e15) (.s [43]) fun v19000 =>
 condK v19000 (K17 .norm (Env.put s16 v19000 e15) H15 k15)
 (binK .eql .no (Env.get s3 e15) (.s [45]) fun v21000 =>
 K17 .norm (Env.put s16 v21000 (Env.put s16 v19000 e15)) H15 k15)) (fun k17 e17 H17 =>
 condK (Env.get s16 e17) (K6 .ret (Env.put s2 (.i .i64 4) e17) H17 k17)
 (seqK (fun K19 =>
 binK .eql .no (Env.get s3 e17) (.s [42]) fun v21000 =>
 condK v21000 (K19 .norm (Env.put s19 v21000 e17) H17 k17)
 (binK .eql .no (Env.get s3 e17) (.s [47]) fun v24000 =>
 condK v24000 (K19 .norm (Env.put s19 v24000 (Env.put s19 v21000 e17)) H17 k17)
 (binK .eql .no (Env.get s3 e17) (.s [37]) fun v26000 =>
 K19 .norm (Env.put s19 v26000 (Env.put s19 v24000 (Env.put s19 v21000 e17))) H17 k17))) (fun k19 e19 H19 =>
 condK (Env.get s19 e19) (K6 .ret (Env.put s2 (.i .i64 5) e19) H19 k19)
 (K6 .norm e19 H19 k19)) K6)) K6)) K6)) K6))) K3) (fun k3 e3 H3 =>
 (endK recD [.slot s2]) .ret (Env.put s2 (.i .i64 (-1)) e3) H3 k3) (endK recD [.slot s2])
theorem Tryz.cOk201 : (compFn Tryz.prog Tryz.f201).map (bodyK 201) = some Tryz.c201 := by kernel_rfl
def Tryz.c202 : FnK := fun rec recD args H => startK 1 args fun e =>
 newK [(.i .i64 0), (.i .i64 0), (.i .i64 0)] H fun v4000 H4000 =>
 caK rec 78 [(Env.get s0 e)] H4000 fun v4001 H4001 =>
 exK 0 v4001 fun v4002 =>
 exK 1 v4001 fun v4003 =>
 stK 3 v4002 v4000 H4001 fun H4004 =>
 caK rec 203 [(Env.get s0 e)] H4004 fun v6000 H6000 =>
 blockK 0 (fun K7 =>
 loopK (fun k8 e8 H8 K8 =>
 blockK 1 (fun K9 =>
 blockK 2 (fun K10 =>
 caK rec 129 [(Env.get s0 e8), (.s [33])] H8 fun v12000 H12000 =>
 condK v12000 (genK roundT rec (.buildSlice 1 1 [(.i .i64 0)] [(0, (.s s5))]) k8 (Env.put s15 v12000 e8) [] H12000 fun v14000 H14000 k14000 =>
 bdK [(.i .i64 0), (.i .i64 0), (.i .i64 0), .sl0, (.s []), (.i .i64 0), (.s []), (.i .i64 0), (.s []), (.i .i64 0), (.i .i64 0), (.i .i64 0), .sl0] [(0, 1, (.i .i64 40)), (3, 1, v14000)] fun v14001 =>
 faK 1 (Env.get s3 e8) fun v14002 =>
 faK 0 v14002 fun v14003 =>
 ldK false 1 v14003 H14000 fun v14004 =>
 caK rec 81 [(Env.get s0 e8), v14001, v14004] H14000 fun v14005 H14005 =>
 K10 .norm (Env.put s5 v14005 (Env.put s15 v12000 e8)) H14005 k14000)
 (caK rec 129 [(Env.get s0 e8), (.s [91])] H12000 fun v15000 H15000 =>
 condK v15000 (caK rec 184 [(Env.get s0 e8)] H15000 fun v18000 H18000 =>
 caK rec 127 [(Env.get s0 e8), (.s [93])] H18000 fun v20000 H20000 =>
 genK roundT rec (.buildSlice 2 1 [(.i .i64 0)] [(0, (.s s5)), (1, (.s s6))]) k8 (Env.put s6 v18000 (Env.put s26 v15000 (Env.put s15 v12000 e8))) [] H20000 fun v21000 H21000 k21000 =>
 bdK [(.i .i64 0), (.i .i64 0), (.i .i64 0), .sl0, (.s []), (.i .i64 0), (.s []), (.i .i64 0), (.s []), (.i .i64 0), (.i .i64 0), (.i .i64 0), .sl0] [(0, 1, (.i .i64 27)), (3, 1, v21000)] fun v21001 =>
 faK 1 (Env.get s3 e8) fun v21002 =>
 faK 0 v21002 fun v21003 =>
 ldK false 1 v21003 H21000 fun v21004 =>
 caK rec 81 [(Env.get s0 e8), v21001, v21004] H21000 fun v21005 H21005 =>
 K10 .norm (Env.put s5 v21005 (Env.put s6 v18000 (Env.put s26 v15000 (Env.put s15 v12000 e8)))) H21005 k21000)
 (caK rec 129 [(Env.get s0 e8), (.s [46])] H15000 fun v18000 H18000 =>
 condK v18000 (faK 1 (Env.get s3 e8) fun v20000 =>
 faK 0 v20000 fun v20001 =>
 ldK false 1 v20001 H18000 fun v20002 =>
 caK rec 204 [(Env.get s0 e8), (Env.get s5 e8), v20002] H18000 fun v20003 H20003 =>
 K10 .norm (Env.put s5 v20003 (Env.put s42 v18000 (Env.put s26 v15000 (Env.put s15 v12000 e8)))) H20003 k8)
 (K10 .ret (Env.put s2 (Env.get s5 e8) (Env.put s42 v18000 (Env.put s26 v15000 (Env.put s15 v12000 e8)))) H18000 k8)))) K9) K8) rounds K7 (Ctl.mk [] .none) (Env.put s5 v6000 (Env.put s3 v4000 (Env.put s2 (.i .i64 0) e))) H6000) (endK recD [.slot s2])
theorem Tryz.cOk202 : (compFn Tryz.prog Tryz.f202).map (bodyK 202) = some Tryz.c202 := by kernel_rfl
def Tryz.c203 : FnK := fun rec recD args H => startK 1 args fun e =>
 newK [(.i .i64 0), (.i .i64 0), (.i .i64 0)] H fun v4000 H4000 =>
 caK rec 78 [(Env.get s0 e)] H4000 fun v4001 H4001 =>
 exK 0 v4001 fun v4002 =>
 exK 1 v4001 fun v4003 =>
 stK 3 v4002 v4000 H4001 fun H4004 =>
 seqK (fun K5 =>
 faK 0 v4000 fun v7000 =>
 ldK false 1 v7000 H4004 fun v7001 =>
 blockK 0 (fun K8 =>
 binK .eql .no v7001 (.i .i64 2) fun v10000 =>
 condK v10000 (caK rec 205 [v4003] H4004 fun v13000 H13000 =>
 exK 0 v13000 fun v13001 =>
 exK 1 v13000 fun v13002 =>
 bdK [(.i .i64 0), (.i .i64 0), (.i .i64 0), .sl0, (.s []), (.i .i64 0), (.s []), (.i .i64 0), (.s []), (.i .i64 0), (.i .i64 0), (.i .i64 0), .sl0] [(0, 1, (.i .i64 19)), (9, 1, v13001)] fun v15000 =>
 caK rec 206 [(Env.get s0 e), v15000, v13002] H13000 fun v15001 H15001 =>
 K8 .ret (Env.put s2 v15001 (Env.put s5 v13001 (Env.put s6 v13002 (Env.put s18 v10000 (Env.put s17 v7001 (Env.put s3 v4000 (Env.put s4 v4003 (Env.put s2 (.i .i64 0) e)))))))) H15001 (Ctl.mk [] .none))
 (binK .eql .no v7001 (.i .i64 3) fun v13000 =>
 condK v13000 (caK rec 207 [v4003] H4004 fun v16000 H16000 =>
 exK 0 v16000 fun v16001 =>
 exK 1 v16000 fun v16002 =>
 genK roundT rec (.convInt .i64 (.s s7)) (Ctl.mk [] .none) (Env.put s7 v16001 (Env.put s8 v16002 (Env.put s30 v13000 (Env.put s18 v10000 (Env.put s17 v7001 (Env.put s3 v4000 (Env.put s4 v4003 (Env.put s2 (.i .i64 0) e)))))))) [] H16000 fun v18000 H18000 k18000 =>
 bdK [(.i .i64 0), (.i .i64 0), (.i .i64 0), .sl0, (.s []), (.i .i64 0), (.s []), (.i .i64 0), (.s []), (.i .i64 0), (.i .i64 0), (.i .i64 0), .sl0] [(0, 1, (.i .i64 20)), (4, 1, v4003), (9, 1, v18000)] fun v18001 =>
 caK rec 206 [(Env.get s0 e), v18001, v16002] H18000 fun v18002 H18002 =>
 K8 .ret (Env.put s2 v18002 (Env.put s7 v16001 (Env.put s8 v16002 (Env.put s30 v13000 (Env.put s18 v10000 (Env.put s17 v7001 (Env.put s3 v4000 (Env.put s4 v4003 (Env.put s2 (.i .i64 0) e))))))))) H18002 k18000)
 (binK .eql .no v7001 (.i .i64 4) fun v16000 =>
 condK v16000 (caK rec 208 [v4003] H4004 fun v19000 H19000 =>
 exK 0 v19000 fun v19001 =>
 exK 1 v19000 fun v19002 =>
 bdK [(.i .i64 0), (.i .i64 0), (.i .i64 0), .sl0, (.s []), (.i .i64 0), (.s []), (.i .i64 0), (.s []), (.i .i64 0), (.i .i64 0), (.i .i64 0), .sl0] [(0, 1, (.i .i64 22)), (4, 1, v19001)] fun v21000 =>
 caK rec 206 [(Env.get s0 e), v21000, v19002] H19000 fun v21001 H21001 =>
 K8 .ret (Env.put s2 v21001 (Env.put s9 v19001 (Env.put s10 v19002 (Env.put s44 v16000 (Env.put s30 v13000 (Env.put s18 v10000 (Env.put s17 v7001 (Env.put s3 v4000 (Env.put s4 v4003 (Env.put s2 (.i .i64 0) e)))))))))) H21001 (Ctl.mk [] .none))
 (binK .eql .no v7001 (.i .i64 5) fun v19000 =>
 condK v19000 (binK .eql .no v4003 (.s [40]) fun v22000 =>
 condK v22000 (caK rec 196 [(Env.get s0 e)] H4004 fun v25000 H25000 =>
 K8 .ret (Env.put s2 v25000 (Env.put s59 v22000 (Env.put s56 v19000 (Env.put s44 v16000 (Env.put s30 v13000 (Env.put s18 v10000 (Env.put s17 v7001 (Env.put s3 v4000 (Env.put s4 v4003 (Env.put s2 (.i .i64 0) e)))))))))) H25000 (Ctl.mk [] .none))
 (K8 .norm (Env.put s59 v22000 (Env.put s56 v19000 (Env.put s44 v16000 (Env.put s30 v13000 (Env.put s18 v10000 (Env.put s17 v7001 (Env.put s3 v4000 (Env.put s4 v4003 (Env.put s2 (.i .i64 0) e))))))))) H4004 (Ctl.mk [] .none)))
 (binK .eql .no v7001 (.i .i64 1) fun v22000 =>
 condK v22000 (seqK (fun K24 =>
 caK rec 153 [v4003] H4004 fun v26000 H26000 =>
 condK v26000 (bdK [(.i .i64 0), (.i .i64 0), (.i .i64 0), .sl0, (.s []), (.i .i64 0), (.s []), (.i .i64 0), (.s []), (.i .i64 0), (.i .i64 0), (.i .i64 0), .sl0] [(0, 1, (.i .i64 25)), (4, 1, v4003)] fun v29000 =>
 caK rec 206 [(Env.get s0 e), v29000, (.i .i64 0)] H26000 fun v29001 H29001 =>
 K24 .ret (Env.put s2 v29001 (Env.put s65 v26000 (Env.put s62 v22000 (Env.put s56 v19000 (Env.put s44 v16000 (Env.put s30 v13000 (Env.put s18 v10000 (Env.put s17 v7001 (Env.put s3 v4000 (Env.put s4 v4003 (Env.put s2 (.i .i64 0) e))))))))))) H29001 (Ctl.mk [] .none))
 (K24 .norm (Env.put s65 v26000 (Env.put s62 v22000 (Env.put s56 v19000 (Env.put s44 v16000 (Env.put s30 v13000 (Env.put s18 v10000 (Env.put s17 v7001 (Env.put s3 v4000 (Env.put s4 v4003 (Env.put s2 (.i .i64 0) e)))))))))) H26000 (Ctl.mk [] .none))) (fun k24 e24 H24 =>
 ldK true 3 (Env.get s3 e24) H24 fun v26000 =>
 caK rec 209 [(Env.get s0 e24), v26000, (Env.get s4 e24)] H24 fun v26001 H26001 =>
 K8 .ret (Env.put s2 v26001 e24) H26001 k24) K8)
 (K8 .norm (Env.put s62 v22000 (Env.put s56 v19000 (Env.put s44 v16000 (Env.put s30 v13000 (Env.put s18 v10000 (Env.put s17 v7001 (Env.put s3 v4000 (Env.put s4 v4003 (Env.put s2 (.i .i64 0) e))))))))) H4004 (Ctl.mk [] .none))))))) K5) (fun k5 e5 H5 =>
 faK 1 (Env.get s3 e5) fun v7000 =>
 faK 0 v7000 fun v7001 =>
 ldK false 1 v7001 H5 fun v7002 =>
 caK rec 126 [(.i .i64 80), v7002] H5 fun v7003 H7003 =>
 (endK recD [.slot s2]) .ret (Env.put s2 (.i .i64 0) e5) H7003 k5) (endK recD [.slot s2])
theorem Tryz.cOk203 : (compFn Tryz.prog Tryz.f203).map (bodyK 203) = some Tryz.c203 := by kernel_rfl
def Tryz.c206 : FnK := fun rec recD args H => startK 3 args fun e =>
 bxK (Env.get s1 e) H fun v2000 H2000 =>
 newK [(.i .i64 0), (.i .i64 0), (.i .i64 0)] H2000 fun v4000 H4000 =>
 caK rec 78 [(Env.get s0 e)] H4000 fun v4001 H4001 =>
 exK 0 v4001 fun v4002 =>
 exK 1 v4001 fun v4003 =>
 stK 3 v4002 v4000 H4001 fun H4004 =>
 seqK (fun K5 =>
 binK .neq .no (Env.get s2 e) (.i .i64 0) fun v7000 =>
 condK v7000 (faK 1 v4000 fun v9000 =>
 faK 0 v9000 fun v9001 =>
 ldK false 1 v9001 H4004 fun v9002 =>
 caK rec 126 [(Env.get s2 e), v9002] H4004 fun v9003 H9003 =>
 K5 .norm (Env.put s15 v7000 (Env.put s7 v4000 (Env.put s4 v2000 (Env.put s6 (.i .i64 0) e)))) H9003 (Ctl.mk [] .none))
 (K5 .norm (Env.put s15 v7000 (Env.put s7 v4000 (Env.put s4 v2000 (Env.put s6 (.i .i64 0) e)))) H4004 (Ctl.mk [] .none))) (fun k5 e5 H5 =>
 caK rec 152 [(Env.get s0 e5)] H5 fun v7000 H7000 =>
 ldK true 13 (Env.get s4 e5) H7000 fun v9000 =>
 faK 1 (Env.get s7 e5) fun v9001 =>
 faK 0 v9001 fun v9002 =>
 ldK false 1 v9002 H7000 fun v9003 =>
 caK rec 81 [(Env.get s0 e5), v9000, v9003] H7000 fun v9004 H9004 =>
 (endK recD [.slot s6]) .ret (Env.put s6 v9004 e5) H9004 k5) (endK recD [.slot s6])
theorem Tryz.cOk206 : (compFn Tryz.prog Tryz.f206).map (bodyK 206) = some Tryz.c206 := by kernel_rfl
def Tryz.c211 : FnK := fun rec recD args H => startK 3 args fun e =>
 caK rec 217 [(Env.get s0 e), (Env.get s1 e), (Env.get s2 e)] H fun v4000 H4000 =>
 exK 0 v4000 fun v4001 =>
 exK 1 v4000 fun v4002 =>
 seqK (fun K5 =>
 binK .neq .ifc v4002 .if0 fun v7000 =>
 condK v7000 (caK rec 218 [(.s [80, 97, 114, 115, 101, 73, 110, 116]), (Env.get s0 e), (Env.get s1 e), (Env.get s2 e), v4002] H4000 fun v10000 H10000 =>
 K5 .ret (Env.put s6 v4001 (Env.put s7 v10000 (Env.put s17 v7000 (Env.put s8 v4001 (Env.put s7 v4002 (Env.put s6 (.i .i64 0) (Env.put s7 .if0 e))))))) H10000 (Ctl.mk [] .none))
 (K5 .norm (Env.put s17 v7000 (Env.put s8 v4001 (Env.put s7 v4002 (Env.put s6 (.i .i64 0) (Env.put s7 .if0 e))))) H4000 (Ctl.mk [] .none))) (fun k5 e5 H5 =>
 (endK recD [.slot s6, .slot s7]) .ret (Env.put s6 (Env.get s8 e5) (Env.put s7 .if0 e5)) H5 k5) (endK recD [.slot s6, .slot s7])
theorem Tryz.cOk211 : (compFn Tryz.prog Tryz.f211).map (bodyK 211) = some Tryz.c211 := by kernel_rfl
end
end Go.Proofs
