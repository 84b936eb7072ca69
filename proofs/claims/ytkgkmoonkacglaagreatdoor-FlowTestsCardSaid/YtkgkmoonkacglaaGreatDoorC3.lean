/- A part of the program's functions, printed as the executor's code, and that they are the program's. -/
import Derived.Test.YtkgkmoonkacglaaGreatDoorEng4
import Derived.Test.YtkgkmoonkacglaaGreatDoorEng1
import Derived.Test.YtkgkmoonkacglaaGreatDoorSlots
import Derived.Test.YtkgkmoonkacglaaGreatDoorProg
import Derived.KernelRfl
set_option autoImplicit false
set_option linter.all false
set_option autoImplicit false
set_option maxRecDepth 1000000
set_option linter.all false
namespace Go.Proofs
open Go Go.AX
noncomputable section
def Tryz.c4 : FnK := fun rec recD args H => startK 2 args fun e =>
 seqK (fun K3 =>
 caK rec 7 [] H fun v5000 H5000 =>
 unK .not v5000 fun v5001 =>
 condK v5001 (K3 .ret (Env.put s4 (.b false) (Env.put s12 v5001 (Env.put s4 (.b false) e))) H5000 (Ctl.mk [] .none))
 (K3 .norm (Env.put s12 v5001 (Env.put s4 (.b false) e)) H5000 (Ctl.mk [] .none))) (fun k3 e3 H3 =>
 seqK (fun K4 =>
 binK .lss .no (Env.get s0 e3) (.i .i64 0) fun v6000 =>
 gdK v6000 false (fun R6001 => R6001 (Env.get s0 e3) H3 k3) H3 k3 fun v6001 H6001 k6001 =>
 gdK v6000 false (fun R6002 => binK .gtr .no v6001 (.i .i64 20) fun v6002 =>
 R6002 v6002 H6001 k6001) H6001 k6001 fun v6002 H6002 k6002 =>
 pkK v6000 (.b true) v6002 fun v6003 =>
 gdK v6003 false (fun R6004 => R6004 (Env.get s1 e3) H6002 k6002) H6002 k6002 fun v6004 H6004 k6004 =>
 gdK v6003 false (fun R6005 => binK .lss .no v6004 (.i .i64 0) fun v6005 =>
 R6005 v6005 H6004 k6004) H6004 k6004 fun v6005 H6005 k6005 =>
 pkK v6003 (.b true) v6005 fun v6006 =>
 gdK v6006 false (fun R6007 => R6007 (Env.get s1 e3) H6005 k6005) H6005 k6005 fun v6007 H6007 k6007 =>
 gdK v6006 false (fun R6008 => binK .gtr .no v6007 (.i .i64 5) fun v6008 =>
 R6008 v6008 H6007 k6007) H6007 k6007 fun v6008 H6008 k6008 =>
 pkK v6006 (.b true) v6008 fun v6009 =>
 condK v6009 (K4 .ret (Env.put s4 (.b true) (Env.put s26 v6009 e3)) H6008 k6008)
 (K4 .norm (Env.put s26 v6009 e3) H6008 k6008)) (fun k4 e4 H4 =>
 bdK [(.s []), (.s []), (.s []), (.s []), (.s []), (.s [])] [(0, 1, (.s [109, 32, 33, 61, 32, 110, 117, 108, 108])), (1, 1, (.s [110, 117, 108, 108, 32, 33, 61, 32, 109])), (2, 1, (.s [109, 32, 61, 61, 32, 110, 117, 108, 108])), (3, 1, (.s [109, 32, 33, 61, 32, 110, 117, 108, 108, 32, 38, 38, 32, 105, 110, 112, 117, 116, 40, 41, 32, 62, 32, 48])), (4, 1, (.s [105, 110, 112, 117, 116, 40, 41, 32, 62, 32, 48, 32, 38, 38, 32, 109, 32, 33, 61, 32, 110, 117, 108, 108])), (5, 1, (.s [109, 32, 33, 61, 32, 110, 117, 108, 108, 32, 124, 124, 32, 105, 110, 112, 117, 116, 40, 41, 32, 62, 32, 48]))] fun v6000 =>
 ixK (.some (6, false, 1)) v6000 (Env.get s1 e4) fun v6001 =>
 seqK (fun K7 =>
 blockK 0 (fun K10 =>
 loopK (fun k11 e11 H11 K11 =>
 binK .lss .no (Env.get s31 e11) (Env.get s30 e11) fun v13000 =>
 seqK (fun K14 =>
 condK v13000 (K14 .norm (Env.put s32 v13000 e11) H11 k11)
 (K14 (.exit 0) (Env.put s32 v13000 e11) H11 k11)) (fun k14 e14 H14 =>
 seqK (fun K15 =>
 blockK 1 (fun K16 =>
 binK .add .no (.s [33, 40]) (Env.get s5 e14) fun v17000 =>
 binK .add .no v17000 (.s [41]) fun v17001 =>
 K16 .norm (Env.put s5 v17001 e14) H14 k14) K15) (fun k15 e15 H15 =>
 binK .add .no (Env.get s31 e15) (.i .i64 1) fun v16000 =>
 K11 .norm (Env.put s31 v16000 e15) H15 k15) K11) K11) rounds K10 k4 (Env.put s30 (Env.get s0 e4) (Env.put s31 (.i .i64 0) (Env.put s5 v6001 e4))) H4) K7) (fun k7 e7 H7 =>
 binK .add .no (.s [99, 108, 97, 115, 115, 32, 77, 97, 105, 110, 32, 123, 32, 105, 110, 116, 32, 109, 97, 105, 110, 40, 41, 32, 123, 32, 114, 101, 116, 117, 114, 110, 32, 49, 59, 32, 125, 32, 118, 111, 105, 100, 32, 102, 40, 77, 97, 105, 110, 63, 32, 109, 41, 32, 123, 32, 105, 102, 32, 40]) (Env.get s5 e7) fun v9000 =>
 binK .add .no v9000 (.s [41, 32, 123, 32, 109, 46, 109, 97, 105, 110, 40, 41, 59, 32, 125, 32, 101, 108, 115, 101, 32, 123, 32, 109, 46, 109, 97, 105, 110, 40, 41, 59, 32, 125, 32, 125, 32, 125]) fun v9001 =>
 caK rec 8 [v9001] H7 fun v9002 H9002 =>
 seqK (fun K10 =>
 binK .eql .ptr v9002 .p0 fun v12000 =>
 condK v12000 (K10 .ret (Env.put s4 (.b false) (Env.put s42 v12000 (Env.put s6 v9002 e7))) H9002 k7)
 (K10 .norm (Env.put s42 v12000 (Env.put s6 v9002 e7)) H9002 k7)) (fun k10 e10 H10 =>
 caK rec 15 [(Env.get s6 e10), (.i .i64 1), (.b false)] H10 fun v12000 H12000 =>
 caK rec 16 [(Env.get s6 e10), (.s [109])] H12000 fun v14000 H14000 =>
 iaK .none 1 v14000 (.i .i64 1) fun v16000 =>
 ldK false 1 v16000 H14000 fun v16001 =>
 iaK .none 1 v14000 (.i .i64 2) fun v16002 =>
 ldK false 1 v16002 H14000 fun v16003 =>
 caK rec 17 [v12000, v16001] H14000 fun v16004 H16004 =>
 boolK (and (again ⟨.load false 1 (.l 0), .none, []⟩ v16003 (Env.put s8 v14000 (Env.put s7 v12000 e10)) [v16002, v16001, v16000] H16004) true) (caK rec 17 [v12000, v16003] H16004 fun v16005 H16005 =>
 seqK (fun K17 =>
 binK .rem .no (Env.get s0 e10) (.i .i64 2) fun v19000 =>
 binK .eql .no v19000 (.i .i64 1) fun v19001 =>
 condK v19001 (K17 .norm (Env.put s9 v16005 (Env.put s10 v16004 (Env.put s59 v19001 (Env.put s9 v16004 (Env.put s10 v16005 (Env.put s8 v14000 (Env.put s7 v12000 e10))))))) H16005 k10)
 (K17 .norm (Env.put s59 v19001 (Env.put s9 v16004 (Env.put s10 v16005 (Env.put s8 v14000 (Env.put s7 v12000 e10))))) H16005 k10)) (fun k17 e17 H17 =>
 seqK (fun K18 =>
 blockK 2 (fun K21 =>
 binK .eql .no (Env.get s1 e17) (.i .i64 2) fun v23000 =>
 condK v23000 (unK .not (Env.get s9 e17) fun v26000 =>
 gdK v26000 true (fun R26001 => R26001 (Env.get s10 e17) H17 k17) H17 k17 fun v26001 H26001 k26001 =>
 pkK v26000 v26001 (.b false) fun v26002 =>
 K21 .ret (Env.put s4 v26002 (Env.put s63 v23000 (Env.put s62 (Env.get s1 e17) e17))) H26001 k26001)
 (binK .eql .no (Env.get s1 e17) (.i .i64 5) fun v26000 =>
 condK v26000 (unK .not (Env.get s9 e17) fun v29000 =>
 gdK v29000 true (fun R29001 => R29001 (Env.get s10 e17) H17 k17) H17 k17 fun v29001 H29001 k29001 =>
 gdK v29000 true (fun R29002 => unK .not v29001 fun v29002 =>
 R29002 v29002 H29001 k29001) H29001 k29001 fun v29002 H29002 k29002 =>
 pkK v29000 v29002 (.b false) fun v29003 =>
 K21 .ret (Env.put s4 v29003 (Env.put s70 v26000 (Env.put s63 v23000 (Env.put s62 (Env.get s1 e17) e17)))) H29002 k29002)
 (K21 .norm (Env.put s70 v26000 (Env.put s63 v23000 (Env.put s62 (Env.get s1 e17) e17))) H17 k17))) K18) (fun k18 e18 H18 =>
 gdK (Env.get s9 e18) true (fun R20000 => R20000 (Env.get s10 e18) H18 k18) H18 k18 fun v20000 H20000 k20000 =>
 gdK (Env.get s9 e18) true (fun R20001 => unK .not v20000 fun v20001 =>
 R20001 v20001 H20000 k20000) H20000 k20000 fun v20001 H20001 k20001 =>
 pkK (Env.get s9 e18) v20001 (.b false) fun v20002 =>
 (endK recD [.slot s4]) .ret (Env.put s4 v20002 e18) H20001 k20001) (endK recD [.slot s4])) (endK recD [.slot s4]))) (endK recD [.slot s4])) (endK recD [.slot s4])) (endK recD [.slot s4])) (endK recD [.slot s4])
theorem Tryz.cOk4 : (compFn Tryz.prog Tryz.f4).map (bodyK 4) = some Tryz.c4 := by kernel_rfl
def Tryz.c18 : FnK := fun rec recD args H => startK 1 args fun e =>
 genK roundT rec (.nilCheck (.s s0)) (Ctl.mk [] .none) (Env.put s2 .sl0 e) [] H fun v4000 H4000 k4000 =>
 faK 6 v4000 fun v4001 =>
 ldK false 1 v4001 H4000 fun v4002 =>
 caK rec 33 [v4002] H4000 fun v4003 H4003 =>
 (endK recD [.slot s2]) .ret (Env.put s2 v4003 (Env.put s2 .sl0 e)) H4003 k4000
theorem Tryz.cOk18 : (compFn Tryz.prog Tryz.f18).map (bodyK 18) = some Tryz.c18 := by kernel_rfl
def Tryz.c19 : FnK := fun rec recD args H => startK 1 args fun e =>
 genK roundT rec (.nilCheck (.s s0)) (Ctl.mk [] .none) (Env.put s2 (.i .i64 0) e) [] H fun v4000 H4000 k4000 =>
 faK 8 v4000 fun v4001 =>
 ldK false 1 v4001 H4000 fun v4002 =>
 (endK recD [.slot s2]) .ret (Env.put s2 v4002 (Env.put s2 (.i .i64 0) e)) H4000 k4000
theorem Tryz.cOk19 : (compFn Tryz.prog Tryz.f19).map (bodyK 19) = some Tryz.c19 := by kernel_rfl
def Tryz.c23 : FnK := fun rec recD args H => startK 1 args fun e =>
 bxK (Env.get s0 e) H fun v2000 H2000 =>
 newK [.p0] H2000 fun v2001 H2001 =>
 newK [(.i .i64 0), (.i .i64 0)] H2001 fun v2002 H2002 =>
 ldK true 2 v2000 H2002 fun v4000 =>
 caK rec 36 [v4000] H2002 fun v4001 H4001 =>
 exK 0 v4001 fun v4002 =>
 exK 1 v4001 fun v4003 =>
 stK 2 v4003 v2002 H4001 fun H4004 =>
 seqK (fun K5 =>
 faK 0 v2002 fun v7000 =>
 ldK false 1 v7000 H4004 fun v7001 =>
 binK .neq .no v7001 (.i .i64 0) fun v7002 =>
 condK v7002 (ldK true 2 v2002 H4004 fun v10000 =>
 stK 1 .p0 v2001 H4004 fun H10001 =>
 boolK (and (again ⟨.load true 2 (.s s3), .none, []⟩ v10000 (Env.put s17 v7002 (Env.put s4 v4002 (Env.put s1 v2000 (Env.put s2 v2001 (Env.put s3 v2002 e))))) [] H10001) true) (stK 2 v10000 v2002 H10001 fun H10002 =>
 K5 .ret (Env.put s17 v7002 (Env.put s4 v4002 (Env.put s1 v2000 (Env.put s2 v2001 (Env.put s3 v2002 e))))) H10002 (Ctl.mk [] .none)))
 (K5 .norm (Env.put s17 v7002 (Env.put s4 v4002 (Env.put s1 v2000 (Env.put s2 v2001 (Env.put s3 v2002 e))))) H4004 (Ctl.mk [] .none))) (fun k5 e5 H5 =>
 ldK true 2 (Env.get s1 e5) H5 fun v7000 =>
 faK 0 (Env.get s1 e5) fun v7001 =>
 ldK false 1 v7001 H5 fun v7002 =>
 lnK .sl H5 v7002 fun v7003 =>
 genK roundT rec (.mkSlice 4 [(.i .i64 0), (.s []), (.i .i64 0), (.s [])] 48 (.l 0) (.l 0)) k5 e5 [v7003, v7002, v7001, v7000] H5 fun v7004 H7004 k7004 =>
 caK rec 35 [v7000] H7004 fun v7005 H7005 =>
 boolK (and (again ⟨.len .sl (.l 0), .none, []⟩ v7003 e5 [v7002, v7001, v7000] H7005) (and (again ⟨.load false 1 (.l 0), .none, []⟩ v7002 e5 [v7001, v7000] H7005) true)) (bdK [.sl0, (.i .i64 0), .sl0, .sl0, .sl0, .p0, .sl0] [(0, 2, v7005), (5, 1, (Env.get s4 e5)), (2, 1, v7004)] fun v7006 =>
 bxK v7006 H7005 fun v7007 H7007 =>
 stK 1 v7007 (Env.get s2 e5) H7007 fun H7008 =>
 seqK (fun K8 =>
 faK 0 (Env.get s1 e5) fun v10000 =>
 ldK false 1 v10000 H7008 fun v10001 =>
 lnK .sl H7008 v10001 fun v10002 =>
 blockK 0 (fun K11 =>
 loopK (fun k12 e12 H12 K12 =>
 binK .lss .no (Env.get s31 e12) (Env.get s30 e12) fun v14000 =>
 seqK (fun K15 =>
 condK v14000 (K15 .norm (Env.put s32 v14000 e12) H12 k12)
 (K15 (.exit 0) (Env.put s32 v14000 e12) H12 k12)) (fun k15 e15 H15 =>
 seqK (fun K16 =>
 blockK 1 (fun K17 =>
 ldK false 1 (Env.get s2 e15) H15 fun v18000 =>
 ldK false 1 (Env.get s2 e15) H15 fun v18001 =>
 ldK false 1 (Env.get s2 e15) H15 fun v18002 =>
 genK roundT rec (.nilCheck (.l 0)) k15 e15 [v18002, v18001, v18000] H15 fun v18003 H18003 k18003 =>
 faK 3 v18003 fun v18004 =>
 ldK false 1 v18004 H18003 fun v18005 =>
 genK roundT rec (.buildSlice 1 1 [(.i .i64 0)] [(0, (.c (.i .i64 (-1))))]) k18003 e15 [v18005, v18004, v18003, v18002, v18001, v18000] H18003 fun v18006 H18006 k18006 =>
 ldK false 1 (Env.get s2 e15) H18006 fun v18007 =>
 genK roundT rec (.nilCheck (.l 0)) k18006 e15 [v18007, v18006, v18005, v18004, v18003, v18002, v18001, v18000] H18006 fun v18008 H18008 k18008 =>
 faK 4 v18008 fun v18009 =>
 ldK false 1 v18009 H18008 fun v18010 =>
 genK roundT rec (.buildSlice 1 1 [(.i .i64 0)] [(0, (.c (.i .i64 (-1))))]) k18008 e15 [v18010, v18009, v18008, v18007, v18006, v18005, v18004, v18003, v18002, v18001, v18000] H18008 fun v18011 H18011 k18011 =>
 apK 1 [(.i .i64 0)] H18011 v18005 v18006 fun v18012 H18012 =>
 boolK (and (again ⟨.load false 1 (.l 0), .none, []⟩ v18010 e15 [v18009, v18008, v18007, v18006, v18005, v18004, v18003, v18002, v18001, v18000] H18012) (and (again ⟨.load false 1 (.s s2), .none, []⟩ v18007 e15 [v18006, v18005, v18004, v18003, v18002, v18001, v18000] H18012) (and (again ⟨.load false 1 (.s s2), .none, []⟩ v18001 e15 [v18000] H18012) (and (again ⟨.load false 1 (.s s2), .none, []⟩ v18000 e15 [] H18012) true)))) (apK 1 [(.i .i64 0)] H18012 v18010 v18011 fun v18013 H18013 =>
 boolK (and (again ⟨.load false 1 (.s s2), .none, []⟩ v18001 e15 [v18000] H18013) (and (again ⟨.load false 1 (.s s2), .none, []⟩ v18000 e15 [] H18013) true)) (genK roundT rec (.nilCheck (.l 13)) k18011 e15 [v18013, v18012, v18011, v18010, v18009, v18008, v18007, v18006, v18005, v18004, v18003, v18002, v18001, v18000] H18013 fun v18014 H18014 k18014 =>
 faK 3 v18014 fun v18015 =>
 stK 1 v18012 v18015 H18014 fun H18016 =>
 boolK (and (again ⟨.load false 1 (.s s2), .none, []⟩ v18001 e15 [v18000] H18016) true) (genK roundT rec (.nilCheck (.l 15)) k18014 e15 [AX.undef, v18015, v18014, v18013, v18012, v18011, v18010, v18009, v18008, v18007, v18006, v18005, v18004, v18003, v18002, v18001, v18000] H18016 fun v18017 H18017 k18017 =>
 faK 4 v18017 fun v18018 =>
 stK 1 v18013 v18018 H18017 fun H18019 =>
 K17 .norm e15 H18019 k18017)))) K16) (fun k16 e16 H16 =>
 binK .add .no (Env.get s31 e16) (.i .i64 1) fun v17000 =>
 K12 .norm (Env.put s31 v17000 e16) H16 k16) K12) K12) rounds K11 k7004 (Env.put s30 v10002 (Env.put s31 (.i .i64 0) e5)) H7008) K8) (fun k8 e8 H8 =>
 genK roundT rec (.mkFunc 37 [] [(.s s2), (.s s3)]) k8 e8 [] H8 fun v10000 H10000 k10000 =>
 genK roundT rec (.defer (.l 0) []) k10000 e8 [v10000] H10000 fun v10001 H10001 k10001 =>
 seqK (fun K11 =>
 caK rec 38 [(Env.get s4 e8)] H10001 fun v13000 H13000 =>
 lnK .sl H13000 v13000 fun v13001 =>
 blockK 2 (fun K14 =>
 loopK (fun k15 e15 H15 K15 =>
 binK .lss .no (Env.get s56 e15) (Env.get s55 e15) fun v17000 =>
 seqK (fun K18 =>
 condK v17000 (K18 .norm (Env.put s57 v17000 e15) H15 k15)
 (K18 (.exit 2) (Env.put s57 v17000 e15) H15 k15)) (fun k18 e18 H18 =>
 seqK (fun K19 =>
 blockK 3 (fun K20 =>
 iaK .none 1 (Env.get s54 e18) (Env.get s56 e18) fun v22000 =>
 ldK false 1 v22000 H18 fun v22001 =>
 caK rec 39 [(Env.get s4 e18), v22001] H18 fun v24000 H24000 =>
 lnK .sl H24000 v24000 fun v24001 =>
 blockK 4 (fun K25 =>
 loopK (fun k26 e26 H26 K26 =>
 binK .lss .no (Env.get s64 e26) (Env.get s63 e26) fun v28000 =>
 seqK (fun K29 =>
 condK v28000 (K29 .norm (Env.put s65 v28000 e26) H26 k26)
 (K29 (.exit 4) (Env.put s65 v28000 e26) H26 k26)) (fun k29 e29 H29 =>
 seqK (fun K30 =>
 blockK 5 (fun K31 =>
 iaK .none 8 (Env.get s62 e29) (Env.get s64 e29) fun v33000 =>
 ldK true 8 v33000 H29 fun v33001 =>
 newK [(.s []), (.s []), (.i .i64 0), (.i .i64 0), (.s []), (.i .i64 0), (.s []), .sl0] H29 fun v33002 H33002 =>
 stK 8 v33001 v33002 H33002 fun H33003 =>
 faK 0 (Env.get s1 e29) fun v35000 =>
 ldK false 1 v35000 H33003 fun v35001 =>
 faK 2 v33002 fun v35002 =>
 ldK false 1 v35002 H33003 fun v35003 =>
 iaK .none 13 v35001 v35003 fun v35004 =>
 faK 0 v35004 fun v35005 =>
 ldK false 1 v35005 H33003 fun v35006 =>
 binK .neq .no v35006 (.i .i64 4) fun v35007 =>
 condK v35007 (ldK false 1 (Env.get s2 e29) H33003 fun v37000 =>
 ldK true 8 v33002 H33003 fun v37001 =>
 caK rec 40 [v37000, v37001] H33003 fun v37002 H37002 =>
 K31 .norm (Env.put s75 v35007 (Env.put s8 v33002 e29)) H37002 k29)
 (K31 .norm (Env.put s75 v35007 (Env.put s8 v33002 e29)) H33003 k29)) K30) (fun k30 e30 H30 =>
 binK .add .no (Env.get s64 e30) (.i .i64 1) fun v31000 =>
 K26 .norm (Env.put s64 v31000 e30) H30 k30) K26) K26) rounds K25 k18 (Env.put s62 v24000 (Env.put s63 v24001 (Env.put s64 (.i .i64 0) (Env.put s6 v22001 e18)))) H24000) K20) K19) (fun k19 e19 H19 =>
 binK .add .no (Env.get s56 e19) (.i .i64 1) fun v20000 =>
 K15 .norm (Env.put s56 v20000 e19) H19 k19) K15) K15) rounds K14 k10001 (Env.put s54 v13000 (Env.put s55 v13001 (Env.put s56 (.i .i64 0) e8))) H13000) K11) (fun k11 e11 H11 =>
 seqK (fun K12 =>
 ldK false 1 (Env.get s2 e11) H11 fun v14000 =>
 genK roundT rec (.nilCheck (.l 0)) k11 e11 [v14000] H11 fun v14001 H14001 k14001 =>
 faK 6 v14001 fun v14002 =>
 ldK false 1 v14002 H14001 fun v14003 =>
 lnK .sl H14001 v14003 fun v14004 =>
 blockK 6 (fun K15 =>
 loopK (fun k16 e16 H16 K16 =>
 binK .lss .no (Env.get s86 e16) (Env.get s85 e16) fun v18000 =>
 seqK (fun K19 =>
 condK v18000 (K19 .norm (Env.put s87 v18000 e16) H16 k16)
 (K19 (.exit 6) (Env.put s87 v18000 e16) H16 k16)) (fun k19 e19 H19 =>
 seqK (fun K20 =>
 blockK 7 (fun K21 =>
 ldK false 1 (Env.get s2 e19) H19 fun v24000 =>
 bdK [.p0, (.i .i64 0), (.i .i64 0)] [(0, 1, v24000), (1, 1, (Env.get s86 e19))] fun v24001 =>
 bxK v24001 H19 fun v24002 H24002 =>
 caK rec 41 [v24002] H24002 fun v24003 H24003 =>
 K21 .norm (Env.put s9 (Env.get s86 e19) e19) H24003 k19) K20) (fun k20 e20 H20 =>
 binK .add .no (Env.get s86 e20) (.i .i64 1) fun v21000 =>
 K16 .norm (Env.put s86 v21000 e20) H20 k20) K16) K16) rounds K15 k14001 (Env.put s85 v14004 (Env.put s86 (.i .i64 0) e11)) H14001) K12) (fun k12 e12 H12 =>
 ldK false 1 (Env.get s2 e12) H12 fun v14000 =>
 bdK [(.i .i64 0), (.i .i64 0)] [] fun v14001 =>
 stK 1 v14000 (Env.get s2 e12) H12 fun H14002 =>
 stK 2 v14001 (Env.get s3 e12) H14002 fun H14003 =>
 (endK recD [.cell false 1 s2, .cell true 2 s3]) .ret e12 H14003 k12) (endK recD [.cell false 1 s2, .cell true 2 s3])) (endK recD [.cell false 1 s2, .cell true 2 s3])) (endK recD [.cell false 1 s2, .cell true 2 s3]))) (endK recD [.cell false 1 s2, .cell true 2 s3])
theorem Tryz.cOk23 : (compFn Tryz.prog Tryz.f23).map (bodyK 23) = some Tryz.c23 := by kernel_rfl
def Tryz.c25 : FnK := fun rec recD args H => startK 3 args fun e =>
 seqK (fun K3 =>
 binK .lss .no (Env.get s2 e) (.i .i64 0) fun v5000 =>
 gdK v5000 false (fun R5001 => R5001 (Env.get s2 e) H (Ctl.mk [] .none)) H (Ctl.mk [] .none) fun v5001 H5001 k5001 =>
 gdK v5000 false (fun R5002 => binK .geq .no v5001 (.i .i64 64) fun v5002 =>
 R5002 v5002 H5001 k5001) H5001 k5001 fun v5002 H5002 k5002 =>
 pkK v5000 (.b true) v5002 fun v5003 =>
 condK v5003 (K3 .ret (Env.put s6 (.b false) (Env.put s14 v5003 (Env.put s6 (.b false) e))) H5002 k5002)
 (K3 .norm (Env.put s14 v5003 (Env.put s6 (.b false) e)) H5002 k5002)) (fun k3 e3 H3 =>
 genK roundT rec (.nilCheck (.s s0)) k3 e3 [] H3 fun v5000 H5000 k5000 =>
 faK 4 v5000 fun v5001 =>
 ldK false 1 v5001 H5000 fun v5002 =>
 genK roundT rec (.lookup .i (.i .u64 0) true (.l 0) (.s s1)) k5000 e3 [v5002, v5001, v5000] H5000 fun v5003 H5003 k5003 =>
 exK 0 v5003 fun v5004 =>
 exK 1 v5003 fun v5005 =>
 unK .not v5005 fun v7000 =>
 gdK v7000 false (fun R7001 => R7001 v5004 H5003 k5003) H5003 k5003 fun v7001 H7001 k7001 =>
 gdK v7000 false (fun R7002 => R7002 (Env.get s0 e3) H7001 k7001) H7001 k7001 fun v7002 H7002 k7002 =>
 gdK v7000 false (fun R7003 => genK roundT rec (.nilCheck (.l 0)) k7002 (Env.put s7 v5004 (Env.put s8 v5005 e3)) [v7002, v7001, v7000] H7002 fun v7003 H7003 k7003 =>
 R7003 v7003 H7003 k7003) H7002 k7002 fun v7003 H7003 k7003 =>
 gdK v7000 false (fun R7004 => faK 2 v7003 fun v7004 =>
 R7004 v7004 H7003 k7003) H7003 k7003 fun v7004 H7004 k7004 =>
 gdK v7000 false (fun R7005 => ldK false 1 v7004 H7004 fun v7005 =>
 R7005 v7005 H7004 k7004) H7004 k7004 fun v7005 H7005 k7005 =>
 gdK v7000 false (fun R7006 => binK .or .no v7001 v7005 fun v7006 =>
 R7006 v7006 H7005 k7005) H7005 k7005 fun v7006 H7006 k7006 =>
 gdK v7000 false (fun R7007 => R7007 (Env.get s2 e3) H7006 k7006) H7006 k7006 fun v7007 H7007 k7007 =>
 gdK v7000 false (fun R7008 => caK rec 45 [v7007] H7007 fun v7008 H7008 =>
 boolK (and (again ⟨.load false 1 (.l 0), (.some ((.l 4), false)), []⟩ v7005 (Env.put s7 v5004 (Env.put s8 v5005 e3)) [v7004, v7003, v7002, v7001, v7000] H7008) true) (R7008 v7008 H7008 k7007)) H7007 k7007 fun v7008 H7008 k7008 =>
 gdK v7000 false (fun R7009 => binK .and .no v7006 v7008 fun v7009 =>
 R7009 v7009 H7008 k7008) H7008 k7008 fun v7009 H7009 k7009 =>
 gdK v7000 false (fun R7010 => binK .neq .no v7009 (.i .u64 0) fun v7010 =>
 R7010 v7010 H7009 k7009) H7009 k7009 fun v7010 H7010 k7010 =>
 pkK v7000 (.b true) v7010 fun v7011 =>
 (endK recD [.slot s6]) .ret (Env.put s6 v7011 (Env.put s7 v5004 (Env.put s8 v5005 e3))) H7010 k7010) (endK recD [.slot s6])
theorem Tryz.cOk25 : (compFn Tryz.prog Tryz.f25).map (bodyK 25) = some Tryz.c25 := by kernel_rfl
def Tryz.c29 : FnK := fun rec recD args H => startK 2 args fun e =>
 caK rec 18 [(Env.get s0 e)] H fun v4000 H4000 =>
 seqK (fun K5 =>
 binK .lss .no (Env.get s1 e) (.i .i64 0) fun v7000 =>
 gdK v7000 false (fun R7001 => R7001 (Env.get s1 e) H4000 (Ctl.mk [] .none)) H4000 (Ctl.mk [] .none) fun v7001 H7001 k7001 =>
 gdK v7000 false (fun R7002 => R7002 v4000 H7001 k7001) H7001 k7001 fun v7002 H7002 k7002 =>
 gdK v7000 false (fun R7003 => lnK .sl H7002 v7002 fun v7003 =>
 R7003 v7003 H7002 k7002) H7002 k7002 fun v7003 H7003 k7003 =>
 gdK v7000 false (fun R7004 => binK .geq .no v7001 v7003 fun v7004 =>
 R7004 v7004 H7003 k7003) H7003 k7003 fun v7004 H7004 k7004 =>
 pkK v7000 (.b true) v7004 fun v7005 =>
 condK v7005 (K5 .ret (Env.put s4 .p0 (Env.put s17 v7005 (Env.put s5 v4000 (Env.put s4 .p0 e)))) H7004 k7004)
 (K5 .norm (Env.put s17 v7005 (Env.put s5 v4000 (Env.put s4 .p0 e))) H7004 k7004)) (fun k5 e5 H5 =>
 bdK [.p0, .sl0, (.i .i64 0), (.i .i64 0)] [(0, 1, (Env.get s0 e5))] fun v7000 =>
 bxK v7000 H5 fun v7001 H7001 =>
 iaK .none 8 (Env.get s5 e5) (Env.get s1 e5) fun v9000 =>
 faK 1 v9000 fun v9001 =>
 ldK false 1 v9001 H7001 fun v9002 =>
 caK rec 10 [(Env.get s0 e5), v9002] H7001 fun v9003 H9003 =>
 fdK false 3 1 v9003 fun v9004 =>
 iaK .none 8 (Env.get s5 e5) (Env.get s1 e5) fun v11000 =>
 faK 1 v11000 fun v11001 =>
 ldK false 1 v11001 H9003 fun v11002 =>
 bdK [(.i .i64 0), (.i .i64 0), (.i .i64 0), (.i .i64 0), (.i .i64 0)] [(0, 1, (.i .i64 9)), (1, 1, (.i .i64 (-1))), (2, 1, v11002), (3, 1, (.i .i64 (-1))), (4, 1, (.i .i64 (-1)))] fun v11003 =>
 caK rec 50 [v7001, v11003] H9003 fun v11004 H11004 =>
 genK roundT rec (.nilCheck (.s s6)) k5 (Env.put s7 v9004 (Env.put s6 v7001 e5)) [v11004, v11003, v11002, v11001, v11000] H11004 fun v11005 H11005 k11005 =>
 faK 3 v11005 fun v11006 =>
 stK 1 v11004 v11006 H11005 fun H11007 =>
 lnK .sl H11007 v9004 fun v13000 =>
 binK .sub .no v13000 (.i .i64 1) fun v13001 =>
 iaK .none 1 v9004 v13001 fun v13002 =>
 ldK false 1 v13002 H11007 fun v13003 =>
 genK roundT rec (.nilCheck (.s s6)) k11005 (Env.put s7 v9004 (Env.put s6 v7001 e5)) [v13003, v13002, v13001, v13000] H11007 fun v13004 H13004 k13004 =>
 faK 3 v13004 fun v13005 =>
 ldK false 1 v13005 H13004 fun v13006 =>
 bdK [(.i .i64 0), (.i .i64 0)] [] fun v13007 =>
 caK rec 51 [v7001, v13003, v13006, v13007] H13004 fun v13008 H13008 =>
 genK roundT rec (.nilCheck (.s s6)) k13004 (Env.put s7 v9004 (Env.put s6 v7001 e5)) [v13008, v13007, v13006, v13005, v13004, v13003, v13002, v13001, v13000] H13008 fun v13009 H13009 k13009 =>
 faK 2 v13009 fun v13010 =>
 stK 1 v13008 v13010 H13009 fun H13011 =>
 (endK recD [.slot s4]) .ret (Env.put s4 v7001 (Env.put s7 v9004 (Env.put s6 v7001 e5))) H13011 k13009) (endK recD [.slot s4])
theorem Tryz.cOk29 : (compFn Tryz.prog Tryz.f29).map (bodyK 29) = some Tryz.c29 := by kernel_rfl
def Tryz.c44 : FnK := fun rec recD args H => startK 1 args fun e =>
 newK [.sl0, (.i .i64 0)] H fun v2000 H2000 =>
 genK roundT rec (.nilCheck (.s s0)) (Ctl.mk [] .none) (Env.put s2 v2000 e) [] H2000 fun v4000 H4000 k4000 =>
 faK 0 v4000 fun v4001 =>
 ldK true 2 v4001 H4000 fun v4002 =>
 newK [.sl0, (.i .i64 0)] H4000 fun v4003 H4003 =>
 caK rec 35 [v4002] H4003 fun v4004 H4004 =>
 stK 2 v4004 v4003 H4004 fun H4005 =>
 faK 0 v4003 fun v6000 =>
 ldK false 1 v6000 H4005 fun v6001 =>
 lnK .sl H4005 v6001 fun v6002 =>
 binK .sub .no v6002 (.i .i64 1) fun v6003 =>
 faK 1 v4003 fun v6004 =>
 stK 1 v6003 v6004 H4005 fun H6005 =>
 ldK true 2 v4003 H6005 fun v8000 =>
 stK 2 v8000 v2000 H6005 fun H8001 =>
 (endK recD [.cell true 2 s2]) .ret (Env.put s3 v4003 (Env.put s2 v2000 e)) H8001 k4000
theorem Tryz.cOk44 : (compFn Tryz.prog Tryz.f44).map (bodyK 44) = some Tryz.c44 := by kernel_rfl
def Tryz.c46 : FnK := fun rec recD args H => startK 1 args fun e =>
 newK [(.i .i64 0), (.i .i64 0)] H fun v2000 H2000 =>
 seqK (fun K3 =>
 lnK .s H2000 (Env.get s0 e) fun v5000 =>
 binK .gtr .no v5000 (.i .i64 65536) fun v5001 =>
 condK v5001 (bdK [(.i .i64 0), (.i .i64 0)] [(0, 1, (.i .i64 2))] fun v8000 =>
 stK 2 v8000 v2000 H2000 fun H8001 =>
 K3 .ret (Env.put s2 .sl0 (Env.put s10 v5001 (Env.put s2 .sl0 (Env.put s3 v2000 e)))) H8001 (Ctl.mk [] .none))
 (K3 .norm (Env.put s10 v5001 (Env.put s2 .sl0 (Env.put s3 v2000 e))) H2000 (Ctl.mk [] .none))) (fun k3 e3 H3 =>
 bdK [(.s []), (.i .i64 0), .sl0] [(0, 1, (Env.get s0 e3))] fun v5000 =>
 bxK v5000 H3 fun v5001 H5001 =>
 seqK (fun K6 =>
 caK rec 76 [v5001] H5001 fun v8000 H8000 =>
 blockK 0 (fun K9 =>
 loopK (fun k10 e10 H10 K10 =>
 seqK (fun K11 =>
 genK roundT rec (.nilCheck (.s s4)) k10 e10 [] H10 fun v13000 H13000 k13000 =>
 faK 1 v13000 fun v13001 =>
 ldK false 1 v13001 H13000 fun v13002 =>
 lnK .s H13000 (Env.get s0 e10) fun v13003 =>
 binK .lss .no v13002 v13003 fun v13004 =>
 condK v13004 (K11 .norm (Env.put s23 v13004 e10) H13000 k13000)
 (K11 (.exit 0) (Env.put s23 v13004 e10) H13000 k13000)) (fun k11 e11 H11 =>
 seqK (fun K12 =>
 blockK 1 (fun K13 =>
 genK roundT rec (.nilCheck (.s s4)) k11 e11 [] H11 fun v15000 H15000 k15000 =>
 faK 1 v15000 fun v15001 =>
 ldK false 1 v15001 H15000 fun v15002 =>
 seqK (fun K16 =>
 genK roundT rec (.nilCheck (.s s4)) k15000 (Env.put s5 v15002 e11) [] H15000 fun v18000 H18000 k18000 =>
 faK 2 v18000 fun v18001 =>
 ldK false 1 v18001 H18000 fun v18002 =>
 lnK .sl H18000 v18002 fun v18003 =>
 binK .geq .no v18003 (.i .i64 16384) fun v18004 =>
 condK v18004 (bdK [(.i .i64 0), (.i .i64 0)] [(0, 1, (.i .i64 2)), (1, 1, v15002)] fun v21000 =>
 stK 2 v21000 (Env.get s3 e11) H18000 fun H21001 =>
 K16 .ret (Env.put s2 .sl0 (Env.put s35 v18004 (Env.put s5 v15002 e11))) H21001 k18000)
 (K16 .norm (Env.put s35 v18004 (Env.put s5 v15002 e11)) H18000 k18000)) (fun k16 e16 H16 =>
 caK rec 77 [(Env.get s4 e16)] H16 fun v18000 H18000 =>
 exK 0 v18000 fun v18001 =>
 exK 1 v18000 fun v18002 =>
 seqK (fun K19 =>
 binK .neq .no v18002 (.i .i64 0) fun v21000 =>
 condK v21000 (bdK [(.i .i64 0), (.i .i64 0)] [(0, 1, v18002), (1, 1, (Env.get s5 e16))] fun v24000 =>
 stK 2 v24000 (Env.get s3 e16) H18000 fun H24001 =>
 K19 .ret (Env.put s2 .sl0 (Env.put s44 v21000 (Env.put s6 v18001 (Env.put s7 v18002 e16)))) H24001 k16)
 (K19 .norm (Env.put s44 v21000 (Env.put s6 v18001 (Env.put s7 v18002 e16))) H18000 k16)) (fun k19 e19 H19 =>
 genK roundT rec (.nilCheck (.s s4)) k19 e19 [] H19 fun v20000 H20000 k20000 =>
 faK 2 v20000 fun v20001 =>
 ldK false 1 v20001 H20000 fun v20002 =>
 genK roundT rec (.nilCheck (.s s4)) k20000 e19 [v20002, v20001, v20000] H20000 fun v20003 H20003 k20003 =>
 faK 1 v20003 fun v20004 =>
 ldK false 1 v20004 H20003 fun v20005 =>
 bdK [(.i .i64 0), (.i .i64 0)] [(0, 1, (Env.get s5 e19)), (1, 1, v20005)] fun v20006 =>
 bdK [(.i .i64 0), (.i .i64 0), (.i .i64 0)] [(0, 1, (Env.get s6 e19)), (1, 2, v20006)] fun v20007 =>
 genK roundT rec (.buildSlice 1 3 [(.i .i64 0), (.i .i64 0), (.i .i64 0)] [(0, (.l 0))]) k20003 e19 [v20007, v20006, v20005, v20004, v20003, v20002, v20001, v20000] H20003 fun v20008 H20008 k20008 =>
 apK 3 [(.i .i64 0), (.i .i64 0), (.i .i64 0)] H20008 v20002 v20008 fun v20009 H20009 =>
 genK roundT rec (.nilCheck (.s s4)) k20008 e19 [v20009, v20008, v20007, v20006, v20005, v20004, v20003, v20002, v20001, v20000] H20009 fun v20010 H20010 k20010 =>
 faK 2 v20010 fun v20011 =>
 stK 1 v20009 v20011 H20010 fun H20012 =>
 K13 .norm e19 H20012 k20010) K13) K13) K12) (fun k12 e12 H12 =>
 caK rec 76 [(Env.get s4 e12)] H12 fun v13000 H13000 =>
 K10 .norm e12 H13000 k12) K10) K10) rounds K9 k3 (Env.put s4 v5001 e3) H8000) K6) (fun k6 e6 H6 =>
 genK roundT rec (.nilCheck (.s s4)) k6 e6 [] H6 fun v8000 H8000 k8000 =>
 faK 2 v8000 fun v8001 =>
 ldK false 1 v8001 H8000 fun v8002 =>
 lnK .s H8000 (Env.get s0 e6) fun v8003 =>
 lnK .s H8000 (Env.get s0 e6) fun v8004 =>
 bdK [(.i .i64 0), (.i .i64 0)] [(0, 1, v8003), (1, 1, v8004)] fun v8005 =>
 bdK [(.i .i64 0), (.i .i64 0), (.i .i64 0)] [(0, 1, (.i .i64 0)), (1, 2, v8005)] fun v8006 =>
 genK roundT rec (.buildSlice 1 3 [(.i .i64 0), (.i .i64 0), (.i .i64 0)] [(0, (.l 0))]) k8000 e6 [v8006, v8005, v8004, v8003, v8002, v8001, v8000] H8000 fun v8007 H8007 k8007 =>
 bdK [(.i .i64 0), (.i .i64 0)] [] fun v8008 =>
 apK 3 [(.i .i64 0), (.i .i64 0), (.i .i64 0)] H8007 v8002 v8007 fun v8009 H8009 =>
 stK 2 v8008 (Env.get s3 e6) H8009 fun H8010 =>
 (endK recD [.slot s2, .cell true 2 s3]) .ret (Env.put s2 v8009 e6) H8010 k8007) (endK recD [.slot s2, .cell true 2 s3])) (endK recD [.slot s2, .cell true 2 s3])
theorem Tryz.cOk46 : (compFn Tryz.prog Tryz.f46).map (bodyK 46) = some Tryz.c46 := by kernel_rfl
def Tryz.c48 : FnK := fun rec recD args H => startK 1 args fun e =>
 seqK (fun K3 =>
 blockK 0 (fun K4 =>
 loopK (fun k5 e5 H5 K5 =>
 blockK 1 (fun K6 =>
 newK [(.i .i64 0), (.i .i64 0), (.i .i64 0)] H5 fun v8000 H8000 =>
 caK rec 78 [(Env.get s0 e5)] H8000 fun v8001 H8001 =>
 exK 0 v8001 fun v8002 =>
 exK 1 v8001 fun v8003 =>
 stK 3 v8002 v8000 H8001 fun H8004 =>
 seqK (fun K9 =>
 faK 0 v8000 fun v11000 =>
 ldK false 1 v11000 H8004 fun v11001 =>
 binK .eql .no v11001 (.i .i64 0) fun v11002 =>
 condK v11002 (K9 (.exit 0) (Env.put s12 v11002 (Env.put s3 v8000 e5)) H8004 k5)
 (K9 .norm (Env.put s12 v11002 (Env.put s3 v8000 e5)) H8004 k5)) (fun k9 e9 H9 =>
 lnK .sl H9 (Env.get s2 e9) fun v11000 =>
 binK .add .no v11000 (.i .i64 1) fun v11001 =>
 caK rec 79 [(Env.get s0 e9), v11001] H9 fun v11002 H11002 =>
 caK rec 80 [(Env.get s0 e9)] H11002 fun v12000 H12000 =>
 genK roundT rec (.buildSlice 1 1 [(.i .i64 0)] [(0, (.l 0))]) k9 e9 [v12000] H12000 fun v12001 H12001 k12001 =>
 apK 1 [(.i .i64 0)] H12001 (Env.get s2 e9) v12001 fun v12002 H12002 =>
 K6 .norm (Env.put s2 v12002 e9) H12002 k12001) K6) K5) rounds K4 (Ctl.mk [] .none) (Env.put s2 .sl0 e) H) K3) (fun k3 e3 H3 =>
 bdK [(.i .i64 0), (.i .i64 0), (.i .i64 0), .sl0, (.s []), (.i .i64 0), (.s []), (.i .i64 0), (.s []), (.i .i64 0), (.i .i64 0), (.i .i64 0), .sl0] [(0, 1, (.i .i64 1)), (3, 1, (Env.get s2 e3))] fun v4000 =>
 caK rec 81 [(Env.get s0 e3), v4000, (.i .i64 0)] H3 fun v4001 H4001 =>
 (endK recD []) .norm e3 H4001 k3) (endK recD [])
theorem Tryz.cOk48 : (compFn Tryz.prog Tryz.f48).map (bodyK 48) = some Tryz.c48 := by kernel_rfl
def Tryz.c51 : FnK := fun rec recD args H => startK 4 args fun e =>
 bxK (Env.get s0 e) H fun v2000 H2000 =>
 bxK (Env.get s2 e) H2000 fun v2001 H2001 =>
 bxK (Env.get s3 e) H2001 fun v2002 H2002 =>
 ldK false 1 v2000 H2002 fun v4000 =>
 genK roundT rec (.nilCheck (.l 0)) (Ctl.mk [] .none) (Env.put s4 v2000 (Env.put s6 v2001 (Env.put s7 v2002 (Env.put s8 (.i .i64 0) e)))) [v4000] H2002 fun v4001 H4001 k4001 =>
 faK 0 v4001 fun v4002 =>
 ldK false 1 v4002 H4001 fun v4003 =>
 newK [(.i .i64 0), (.i .i64 0), (.i .i64 0), .sl0, (.s []), (.i .i64 0), (.s []), (.i .i64 0), (.s []), (.i .i64 0), (.i .i64 0), (.i .i64 0), .sl0] H4001 fun v4004 H4004 =>
 caK rec 10 [v4003, (Env.get s1 e)] H4004 fun v4005 H4005 =>
 stK 13 v4005 v4004 H4005 fun H4006 =>
 seqK (fun K5 =>
 faK 0 v4004 fun v7000 =>
 ldK false 1 v7000 H4006 fun v7001 =>
 blockK 0 (fun K8 =>
 binK .eql .no v7001 (.i .i64 8) fun v10000 =>
 condK v10000 (seqK (fun K12 =>
 faK 3 v4004 fun v14000 =>
 ldK false 1 v14000 H4006 fun v14001 =>
 caK rec 85 [v14001] H4006 fun v14002 H14002 =>
 blockK 1 (fun K15 =>
 rangeK rec v14002 51 [s30, s31] (.reg ⟨[], [(s11, (.s s31))], []⟩) (.block 2 (.reg ⟨[⟨.load false 1 (.s s4), .none, []⟩,
 ⟨.load false 1 (.s s6), .none, []⟩,
 ⟨.load true 2 (.s s7), .none, []⟩,
 ⟨.callF 51 [(.l 2), (.s s11), (.l 1), (.l 0)], .none, []⟩,
 ⟨.store 1 (.s s6) (.l 0), .none, []⟩], [], []⟩)) k4001 (Env.put s29 v14002 (Env.put s25 v10000 (Env.put s24 v7001 (Env.put s9 v4004 (Env.put s4 v2000 (Env.put s6 v2001 (Env.put s7 v2002 (Env.put s8 (.i .i64 0) e)))))))) H14002 K15) K12) (fun k12 e12 H12 =>
 ldK false 1 (Env.get s6 e12) H12 fun v14000 =>
 K8 .ret (Env.put s8 v14000 e12) H12 k12) K8)
 (binK .eql .no v7001 (.i .i64 9) fun v13000 =>
 condK v13000 (seqK (fun K15 =>
 faK 3 v4004 fun v17000 =>
 ldK false 1 v17000 H4006 fun v17001 =>
 lnK .sl H4006 v17001 fun v17002 =>
 binK .eql .no v17002 (.i .i64 0) fun v17003 =>
 condK v17003 (ldK false 1 v2000 H4006 fun v20000 =>
 ldK false 1 v2000 H4006 fun v20001 =>
 genK roundT rec (.nilCheck (.l 0)) k4001 (Env.put s43 v17003 (Env.put s38 v13000 (Env.put s25 v10000 (Env.put s24 v7001 (Env.put s9 v4004 (Env.put s4 v2000 (Env.put s6 v2001 (Env.put s7 v2002 (Env.put s8 (.i .i64 0) e))))))))) [v20001, v20000] H4006 fun v20002 H20002 k20002 =>
 faK 0 v20002 fun v20003 =>
 ldK false 1 v20003 H20002 fun v20004 =>
 ldK false 1 v2001 H20002 fun v20005 =>
 caK rec 14 [v20004, (Env.get s1 e)] H20002 fun v20006 H20006 =>
 boolK (and (again ⟨.load false 1 (.s s6), .none, []⟩ v20005 (Env.put s43 v17003 (Env.put s38 v13000 (Env.put s25 v10000 (Env.put s24 v7001 (Env.put s9 v4004 (Env.put s4 v2000 (Env.put s6 v2001 (Env.put s7 v2002 (Env.put s8 (.i .i64 0) e))))))))) [v20004, v20003, v20002, v20001, v20000] H20006) (and (again ⟨.load false 1 (.s s4), .none, []⟩ v20000 (Env.put s43 v17003 (Env.put s38 v13000 (Env.put s25 v10000 (Env.put s24 v7001 (Env.put s9 v4004 (Env.put s4 v2000 (Env.put s6 v2001 (Env.put s7 v2002 (Env.put s8 (.i .i64 0) e))))))))) [] H20006) true)) (caK rec 86 [v20000, (.i .i64 3), v20006, (.i .i64 (-1)), v20005] H20006 fun v20007 H20007 =>
 K15 .ret (Env.put s8 v20007 (Env.put s43 v17003 (Env.put s38 v13000 (Env.put s25 v10000 (Env.put s24 v7001 (Env.put s9 v4004 (Env.put s4 v2000 (Env.put s6 v2001 (Env.put s7 v2002 (Env.put s8 (.i .i64 0) e)))))))))) H20007 k20002))
 (K15 .norm (Env.put s43 v17003 (Env.put s38 v13000 (Env.put s25 v10000 (Env.put s24 v7001 (Env.put s9 v4004 (Env.put s4 v2000 (Env.put s6 v2001 (Env.put s7 v2002 (Env.put s8 (.i .i64 0) e))))))))) H4006 k4001)) (fun k15 e15 H15 =>
 ldK false 1 (Env.get s4 e15) H15 fun v17000 =>
 faK 3 (Env.get s9 e15) fun v17001 =>
 ldK false 1 v17001 H15 fun v17002 =>
 iaK .none 1 v17002 (.i .i64 0) fun v17003 =>
 ldK false 1 v17003 H15 fun v17004 =>
 ldK false 1 (Env.get s4 e15) H15 fun v17005 =>
 ldK false 1 (Env.get s4 e15) H15 fun v17006 =>
 genK roundT rec (.nilCheck (.l 0)) k15 e15 [v17006, v17005, v17004, v17003, v17002, v17001, v17000] H15 fun v17007 H17007 k17007 =>
 faK 0 v17007 fun v17008 =>
 ldK false 1 v17008 H17007 fun v17009 =>
 faK 3 (Env.get s9 e15) fun v17010 =>
 ldK false 1 v17010 H17007 fun v17011 =>
 iaK .none 1 v17011 (.i .i64 0) fun v17012 =>
 ldK false 1 v17012 H17007 fun v17013 =>
 ldK false 1 (Env.get s6 e15) H17007 fun v17014 =>
 caK rec 14 [v17009, (Env.get s1 e15)] H17007 fun v17015 H17015 =>
 boolK (and (again ⟨.load false 1 (.s s6), .none, []⟩ v17014 e15 [v17013, v17012, v17011, v17010, v17009, v17008, v17007, v17006, v17005, v17004, v17003, v17002, v17001, v17000] H17015) (and (again ⟨.load false 1 (.l 0), .none, []⟩ v17013 e15 [v17012, v17011, v17010, v17009, v17008, v17007, v17006, v17005, v17004, v17003, v17002, v17001, v17000] H17015) (and (again ⟨.load false 1 (.l 0), .none, []⟩ v17011 e15 [v17010, v17009, v17008, v17007, v17006, v17005, v17004, v17003, v17002, v17001, v17000] H17015) (and (again ⟨.load false 1 (.s s4), .none, []⟩ v17005 e15 [v17004, v17003, v17002, v17001, v17000] H17015) (and (again ⟨.load false 1 (.l 0), .none, []⟩ v17004 e15 [v17003, v17002, v17001, v17000] H17015) (and (again ⟨.load false 1 (.l 0), .none, []⟩ v17002 e15 [v17001, v17000] H17015) (and (again ⟨.load false 1 (.s s4), .none, []⟩ v17000 e15 [] H17015) true))))))) (caK rec 86 [v17005, (.i .i64 3), v17015, v17013, v17014] H17015 fun v17016 H17016 =>
 boolK (and (again ⟨.load false 1 (.l 0), .none, []⟩ v17004 e15 [v17003, v17002, v17001, v17000] H17016) (and (again ⟨.load false 1 (.l 0), .none, []⟩ v17002 e15 [v17001, v17000] H17016) (and (again ⟨.load false 1 (.s s4), .none, []⟩ v17000 e15 [] H17016) true))) (caK rec 87 [v17000, v17004, v17016] H17016 fun v17017 H17017 =>
 K8 .ret (Env.put s8 v17017 e15) H17017 k17007))) K8)
 (binK .eql .no v7001 (.i .i64 10) fun v16000 =>
 condK v16000 (ldK false 1 v2000 H4006 fun v19000 =>
 ldK true 13 v4004 H4006 fun v19001 =>
 ldK false 1 v2001 H4006 fun v19002 =>
 caK rec 88 [v19000, v19001, v19002] H4006 fun v19003 H19003 =>
 K8 .ret (Env.put s8 v19003 (Env.put s72 v16000 (Env.put s38 v13000 (Env.put s25 v10000 (Env.put s24 v7001 (Env.put s9 v4004 (Env.put s4 v2000 (Env.put s6 v2001 (Env.put s7 v2002 (Env.put s8 (.i .i64 0) e)))))))))) H19003 k4001)
 (binK .eql .no v7001 (.i .i64 11) fun v19000 =>
 condK v19000 (ldK false 1 v2000 H4006 fun v22000 =>
 faK 3 v4004 fun v22001 =>
 ldK false 1 v22001 H4006 fun v22002 =>
 iaK .none 1 v22002 (.i .i64 1) fun v22003 =>
 ldK false 1 v22003 H4006 fun v22004 =>
 ldK false 1 v2001 H4006 fun v22005 =>
 ldK true 2 v2002 H4006 fun v22006 =>
 ldK false 1 v2001 H4006 fun v22007 =>
 caK rec 51 [v22000, v22004, v22005, v22006] H4006 fun v22008 H22008 =>
 boolK (and (again ⟨.load false 1 (.s s6), .none, []⟩ v22007 (Env.put s78 v19000 (Env.put s72 v16000 (Env.put s38 v13000 (Env.put s25 v10000 (Env.put s24 v7001 (Env.put s9 v4004 (Env.put s4 v2000 (Env.put s6 v2001 (Env.put s7 v2002 (Env.put s8 (.i .i64 0) e)))))))))) [v22006, v22005, v22004, v22003, v22002, v22001, v22000] H22008) true) (seqK (fun K23 =>
 faK 3 v4004 fun v25000 =>
 ldK false 1 v25000 H22008 fun v25001 =>
 lnK .sl H22008 v25001 fun v25002 =>
 binK .gtr .no v25002 (.i .i64 2) fun v25003 =>
 condK v25003 (ldK false 1 v2000 H22008 fun v27000 =>
 faK 3 v4004 fun v27001 =>
 ldK false 1 v27001 H22008 fun v27002 =>
 iaK .none 1 v27002 (.i .i64 2) fun v27003 =>
 ldK false 1 v27003 H22008 fun v27004 =>
 ldK false 1 v2001 H22008 fun v27005 =>
 ldK true 2 v2002 H22008 fun v27006 =>
 caK rec 51 [v27000, v27004, v27005, v27006] H22008 fun v27007 H27007 =>
 K23 .norm (Env.put s13 v27007 (Env.put s92 v25003 (Env.put s12 v22008 (Env.put s13 v22007 (Env.put s78 v19000 (Env.put s72 v16000 (Env.put s38 v13000 (Env.put s25 v10000 (Env.put s24 v7001 (Env.put s9 v4004 (Env.put s4 v2000 (Env.put s6 v2001 (Env.put s7 v2002 (Env.put s8 (.i .i64 0) e)))))))))))))) H27007 k4001)
 (K23 .norm (Env.put s92 v25003 (Env.put s12 v22008 (Env.put s13 v22007 (Env.put s78 v19000 (Env.put s72 v16000 (Env.put s38 v13000 (Env.put s25 v10000 (Env.put s24 v7001 (Env.put s9 v4004 (Env.put s4 v2000 (Env.put s6 v2001 (Env.put s7 v2002 (Env.put s8 (.i .i64 0) e))))))))))))) H22008 k4001)) (fun k23 e23 H23 =>
 ldK false 1 (Env.get s4 e23) H23 fun v25000 =>
 faK 3 (Env.get s9 e23) fun v25001 =>
 ldK false 1 v25001 H23 fun v25002 =>
 iaK .none 1 v25002 (.i .i64 0) fun v25003 =>
 ldK false 1 v25003 H23 fun v25004 =>
 caK rec 89 [v25000, v25004, (Env.get s12 e23), (Env.get s13 e23)] H23 fun v25005 H25005 =>
 K8 .ret (Env.put s8 v25005 e23) H25005 k23) K8))
 (binK .eql .no v7001 (.i .i64 12) fun v22000 =>
 condK v22000 (ldK false 1 v2000 H4006 fun v25000 =>
 caK rec 86 [v25000, (.i .i64 1), (.i .i64 (-1)), (Env.get s1 e), (.i .i64 (-1))] H4006 fun v25001 H25001 =>
 ldK false 1 v2000 H25001 fun v27000 =>
 faK 3 v4004 fun v27001 =>
 ldK false 1 v27001 H25001 fun v27002 =>
 iaK .none 1 v27002 (.i .i64 1) fun v27003 =>
 ldK false 1 v27003 H25001 fun v27004 =>
 ldK false 1 v2001 H25001 fun v27005 =>
 bdK [(.i .i64 0), (.i .i64 0)] [(0, 1, v27005), (1, 1, v25001)] fun v27006 =>
 caK rec 51 [v27000, v27004, v25001, v27006] H25001 fun v27007 H27007 =>
 ldK false 1 v2000 H27007 fun v29000 =>
 faK 3 v4004 fun v29001 =>
 ldK false 1 v29001 H27007 fun v29002 =>
 iaK .none 1 v29002 (.i .i64 0) fun v29003 =>
 ldK false 1 v29003 H27007 fun v29004 =>
 ldK false 1 v2001 H27007 fun v29005 =>
 caK rec 89 [v29000, v29004, v27007, v29005] H27007 fun v29006 H29006 =>
 ldK false 1 v2000 H29006 fun v31000 =>
 genK roundT rec (.nilCheck (.l 0)) k4001 (Env.put s16 v29006 (Env.put s15 v27007 (Env.put s14 v25001 (Env.put s109 v22000 (Env.put s78 v19000 (Env.put s72 v16000 (Env.put s38 v13000 (Env.put s25 v10000 (Env.put s24 v7001 (Env.put s9 v4004 (Env.put s4 v2000 (Env.put s6 v2001 (Env.put s7 v2002 (Env.put s8 (.i .i64 0) e)))))))))))))) [v31000] H29006 fun v31001 H31001 k31001 =>
 faK 1 v31001 fun v31002 =>
 ldK false 1 v31002 H31001 fun v31003 =>
 iaK .none 5 v31003 v25001 fun v31004 =>
 faK 3 v31004 fun v31005 =>
 stK 1 v29006 v31005 H31001 fun H31006 =>
 K8 .ret (Env.put s8 v25001 (Env.put s16 v29006 (Env.put s15 v27007 (Env.put s14 v25001 (Env.put s109 v22000 (Env.put s78 v19000 (Env.put s72 v16000 (Env.put s38 v13000 (Env.put s25 v10000 (Env.put s24 v7001 (Env.put s9 v4004 (Env.put s4 v2000 (Env.put s6 v2001 (Env.put s7 v2002 (Env.put s8 (.i .i64 0) e))))))))))))))) H31006 k31001)
 (binK .eql .no v7001 (.i .i64 13) fun v25000 =>
 condK v25000 (faK 0 v2002 fun v28000 =>
 ldK false 1 v28000 H4006 fun v28001 =>
 K8 .ret (Env.put s8 v28001 (Env.put s141 v25000 (Env.put s109 v22000 (Env.put s78 v19000 (Env.put s72 v16000 (Env.put s38 v13000 (Env.put s25 v10000 (Env.put s24 v7001 (Env.put s9 v4004 (Env.put s4 v2000 (Env.put s6 v2001 (Env.put s7 v2002 (Env.put s8 (.i .i64 0) e))))))))))))) H4006 k4001)
 (binK .eql .no v7001 (.i .i64 14) fun v28000 =>
 condK v28000 (faK 1 v2002 fun v31000 =>
 ldK false 1 v31000 H4006 fun v31001 =>
 K8 .ret (Env.put s8 v31001 (Env.put s145 v28000 (Env.put s141 v25000 (Env.put s109 v22000 (Env.put s78 v19000 (Env.put s72 v16000 (Env.put s38 v13000 (Env.put s25 v10000 (Env.put s24 v7001 (Env.put s9 v4004 (Env.put s4 v2000 (Env.put s6 v2001 (Env.put s7 v2002 (Env.put s8 (.i .i64 0) e)))))))))))))) H4006 k4001)
 (binK .eql .no v7001 (.i .i64 15) fun v31000 =>
 condK v31000 (ldK false 1 v2000 H4006 fun v33000 =>
 caK rec 86 [v33000, (.i .i64 8), (.i .i64 (-1)), (Env.get s1 e), (.i .i64 (-1))] H4006 fun v33001 H33001 =>
 stK 1 v33001 v2001 H33001 fun H33002 =>
 K8 .norm (Env.put s149 v31000 (Env.put s145 v28000 (Env.put s141 v25000 (Env.put s109 v22000 (Env.put s78 v19000 (Env.put s72 v16000 (Env.put s38 v13000 (Env.put s25 v10000 (Env.put s24 v7001 (Env.put s9 v4004 (Env.put s4 v2000 (Env.put s6 v2001 (Env.put s7 v2002 (Env.put s8 (.i .i64 0) e)))))))))))))) H33002 k4001)
 (K8 .norm (Env.put s149 v31000 (Env.put s145 v28000 (Env.put s141 v25000 (Env.put s109 v22000 (Env.put s78 v19000 (Env.put s72 v16000 (Env.put s38 v13000 (Env.put s25 v10000 (Env.put s24 v7001 (Env.put s9 v4004 (Env.put s4 v2000 (Env.put s6 v2001 (Env.put s7 v2002 (Env.put s8 (.i .i64 0) e)))))))))))))) H4006 k4001))))))))) K5) (fun k5 e5 H5 =>
 ldK false 1 (Env.get s4 e5) H5 fun v7000 =>
 faK 3 (Env.get s9 e5) fun v7001 =>
 ldK false 1 v7001 H5 fun v7002 =>
 ldK false 1 (Env.get s6 e5) H5 fun v7003 =>
 caK rec 90 [v7000, v7002, v7003] H5 fun v7004 H7004 =>
 (endK recD [.slot s8]) .ret (Env.put s8 v7004 e5) H7004 k5) (endK recD [.slot s8])
theorem Tryz.cOk51 : (compFn Tryz.prog Tryz.f51).map (bodyK 51) = some Tryz.c51 := by kernel_rfl
def Tryz.c52 : FnK := fun rec recD args H => startK 1 args fun e =>
 seqK (fun K3 =>
 binK .eql .sl (Env.get s0 e) .sl0 fun v5000 =>
 condK v5000 (K3 .ret (Env.put s2 .sl0 (Env.put s4 v5000 (Env.put s2 .sl0 e))) H (Ctl.mk [] .none))
 (K3 .norm (Env.put s4 v5000 (Env.put s2 .sl0 e)) H (Ctl.mk [] .none))) (fun k3 e3 H3 =>
 genK roundT rec (.buildSlice 0 7 [(.s []), (.i .i64 0), (.s []), (.i .i64 0), (.s []), (.i .i64 0), (.b false)] []) k3 e3 [] H3 fun v5000 H5000 k5000 =>
 apK 7 [(.s []), (.i .i64 0), (.s []), (.i .i64 0), (.s []), (.i .i64 0), (.b false)] H5000 v5000 (Env.get s0 e3) fun v5001 H5001 =>
 (endK recD [.slot s2]) .ret (Env.put s2 v5001 e3) H5001 k5000) (endK recD [.slot s2])
theorem Tryz.cOk52 : (compFn Tryz.prog Tryz.f52).map (bodyK 52) = some Tryz.c52 := by kernel_rfl
def Tryz.c53 : FnK := fun rec recD args H => startK 1 args fun e =>
 genK roundT rec (.nilCheck (.s s0)) (Ctl.mk [] .none) (Env.put s2 .sl0 e) [] H fun v4000 H4000 k4000 =>
 faK 1 v4000 fun v4001 =>
 ldK false 1 v4001 H4000 fun v4002 =>
 lnK .sl H4000 v4002 fun v4003 =>
 genK roundT rec (.mkSlice 1 [(.i .i64 0)] 8 (.l 0) (.l 0)) k4000 (Env.put s2 .sl0 e) [v4003, v4002, v4001, v4000] H4000 fun v4004 H4004 k4004 =>
 genK roundT rec (.nilCheck (.s s0)) k4004 (Env.put s4 .sl0 (Env.put s3 v4004 (Env.put s2 .sl0 e))) [] H4004 fun v8000 H8000 k8000 =>
 faK 2 v8000 fun v8001 =>
 ldK false 1 v8001 H8000 fun v8002 =>
 genK roundT rec (.buildSlice 1 1 [(.i .i64 0)] [(0, (.l 0))]) k8000 (Env.put s4 .sl0 (Env.put s3 v4004 (Env.put s2 .sl0 e))) [v8002, v8001, v8000] H8000 fun v8003 H8003 k8003 =>
 seqK (fun K9 =>
 blockK 0 (fun K10 =>
 loopK (fun k11 e11 H11 K11 =>
 seqK (fun K12 =>
 lnK .sl H11 (Env.get s5 e11) fun v14000 =>
 binK .gtr .no v14000 (.i .i64 0) fun v14001 =>
 condK v14001 (K12 .norm (Env.put s22 v14001 e11) H11 k11)
 (K12 (.exit 0) (Env.put s22 v14001 e11) H11 k11)) (fun k12 e12 H12 =>
 blockK 1 (fun K13 =>
 lnK .sl H12 (Env.get s5 e12) fun v15000 =>
 binK .sub .no v15000 (.i .i64 1) fun v15001 =>
 iaK .none 1 (Env.get s5 e12) v15001 fun v15002 =>
 ldK false 1 v15002 H12 fun v15003 =>
 seqK (fun K16 =>
 iaK .none 1 (Env.get s3 e12) v15003 fun v18000 =>
 ldK false 1 v18000 H12 fun v18001 =>
 blockK 2 (fun K19 =>
 binK .eql .no v18001 (.i .i64 0) fun v21000 =>
 condK v21000 (iaK .none 1 (Env.get s3 e12) v15003 fun v24000 =>
 stK 1 (.i .i64 1) v24000 H12 fun H24001 =>
 seqK (fun K25 =>
 caK rec 91 [(Env.get s0 e12), v15003] H24001 fun v27000 H27000 =>
 lnK .sl H27000 v27000 fun v27001 =>
 blockK 3 (fun K28 =>
 loopK (fun k29 e29 H29 K29 =>
 binK .lss .no (Env.get s42 e29) (Env.get s41 e29) fun v31000 =>
 seqK (fun K32 =>
 condK v31000 (K32 .norm (Env.put s43 v31000 e29) H29 k29)
 (K32 (.exit 3) (Env.put s43 v31000 e29) H29 k29)) (fun k32 e32 H32 =>
 seqK (fun K33 =>
 blockK 4 (fun K34 =>
 iaK .none 1 (Env.get s40 e32) (Env.get s42 e32) fun v36000 =>
 ldK false 1 v36000 H32 fun v36001 =>
 iaK .none 1 (Env.get s3 e32) v36001 fun v38000 =>
 ldK false 1 v38000 H32 fun v38001 =>
 binK .eql .no v38001 (.i .i64 0) fun v38002 =>
 condK v38002 (genK roundT rec (.buildSlice 1 1 [(.i .i64 0)] [(0, (.s s8))]) k32 (Env.put s50 v38002 (Env.put s8 v36001 e32)) [] H32 fun v40000 H40000 k40000 =>
 apK 1 [(.i .i64 0)] H40000 (Env.get s5 e32) v40000 fun v40001 H40001 =>
 K34 .norm (Env.put s5 v40001 (Env.put s50 v38002 (Env.put s8 v36001 e32))) H40001 k40000)
 (K34 .norm (Env.put s50 v38002 (Env.put s8 v36001 e32)) H32 k32)) K33) (fun k33 e33 H33 =>
 binK .add .no (Env.get s42 e33) (.i .i64 1) fun v34000 =>
 K29 .norm (Env.put s42 v34000 e33) H33 k33) K29) K29) rounds K28 k12 (Env.put s40 v27000 (Env.put s41 v27001 (Env.put s42 (.i .i64 0) (Env.put s33 v21000 (Env.put s32 v18001 (Env.put s6 v15003 e12)))))) H27000) K25) (fun k25 e25 H25 =>
 K19 (.exit 1) e25 H25 k25) K19)
 (binK .eql .no v18001 (.i .i64 1) fun v24000 =>
 condK v24000 (iaK .none 1 (Env.get s3 e12) v15003 fun v27000 =>
 stK 1 (.i .i64 2) v27000 H12 fun H27001 =>
 genK roundT rec (.buildSlice 1 1 [(.i .i64 0)] [(0, (.s s6))]) k12 (Env.put s56 v24000 (Env.put s33 v21000 (Env.put s32 v18001 (Env.put s6 v15003 e12)))) [] H27001 fun v28000 H28000 k28000 =>
 apK 1 [(.i .i64 0)] H28000 (Env.get s4 e12) v28000 fun v28001 H28001 =>
 K19 .norm (Env.put s4 v28001 (Env.put s56 v24000 (Env.put s33 v21000 (Env.put s32 v18001 (Env.put s6 v15003 e12))))) H28001 k28000)
 (K19 .norm (Env.put s56 v24000 (Env.put s33 v21000 (Env.put s32 v18001 (Env.put s6 v15003 e12)))) H12 k12))) K16) (fun k16 e16 H16 =>
 lnK .sl H16 (Env.get s5 e16) fun v17000 =>
 binK .sub .no v17000 (.i .i64 1) fun v17001 =>
 slK (.some 1) (Env.get s5 e16) .none (.some v17001) .none fun v17002 =>
 K13 .norm (Env.put s5 v17002 e16) H16 k16) K13) K11) K11) rounds K10 k8003 (Env.put s5 v8003 (Env.put s4 .sl0 (Env.put s3 v4004 (Env.put s2 .sl0 e)))) H8003) K9) (fun k9 e9 H9 =>
 caK rec 92 [(Env.get s4 e9)] H9 fun v11000 H11000 =>
 (endK recD [.slot s2]) .ret (Env.put s2 (Env.get s4 e9) e9) H11000 k9) (endK recD [.slot s2])
theorem Tryz.cOk53 : (compFn Tryz.prog Tryz.f53).map (bodyK 53) = some Tryz.c53 := by kernel_rfl
def Tryz.c56 : FnK := fun rec recD args H => startK 1 args fun e =>
 seqK (fun K5 =>
 genK roundT rec (.nilCheck (.s s0)) (Ctl.mk [] .none) (Env.put s3 (.i .u64 0) (Env.put s2 (.i .u64 0) e)) [] H fun v7000 H7000 k7000 =>
 faK 0 v7000 fun v7001 =>
 ldK false 1 v7001 H7000 fun v7002 =>
 genK roundT rec (.nilCheck (.l 0)) k7000 (Env.put s3 (.i .u64 0) (Env.put s2 (.i .u64 0) e)) [v7002, v7001, v7000] H7000 fun v7003 H7003 k7003 =>
 faK 0 v7003 fun v7004 =>
 ldK false 1 v7004 H7003 fun v7005 =>
 genK roundT rec (.nilCheck (.s s0)) k7003 (Env.put s3 (.i .u64 0) (Env.put s2 (.i .u64 0) e)) [v7005, v7004, v7003, v7002, v7001, v7000] H7003 fun v7006 H7006 k7006 =>
 faK 0 v7006 fun v7007 =>
 ldK false 1 v7007 H7006 fun v7008 =>
 genK roundT rec (.nilCheck (.l 0)) k7006 (Env.put s3 (.i .u64 0) (Env.put s2 (.i .u64 0) e)) [v7008, v7007, v7006, v7005, v7004, v7003, v7002, v7001, v7000] H7006 fun v7009 H7009 k7009 =>
 faK 1 v7009 fun v7010 =>
 ldK false 1 v7010 H7009 fun v7011 =>
 caK rec 18 [v7005] H7009 fun v7012 H7012 =>
 boolK (and (again ⟨.load false 1 (.l 0), .none, []⟩ v7011 (Env.put s3 (.i .u64 0) (Env.put s2 (.i .u64 0) e)) [v7010, v7009, v7008, v7007, v7006, v7005, v7004, v7003, v7002, v7001, v7000] H7012) (and (again ⟨.load false 1 (.l 0), .none, []⟩ v7008 (Env.put s3 (.i .u64 0) (Env.put s2 (.i .u64 0) e)) [v7007, v7006, v7005, v7004, v7003, v7002, v7001, v7000] H7012) true)) (iaK .none 8 v7012 v7011 fun v7013 =>
 faK 7 v7013 fun v7014 =>
 ldK false 1 v7014 H7012 fun v7015 =>
 caK rec 30 [v7015] H7012 fun v7016 H7016 =>
 lnK .sl H7016 v7016 fun v7017 =>
 blockK 0 (fun K8 =>
 loopK (fun k9 e9 H9 K9 =>
 binK .lss .no (Env.get s26 e9) (Env.get s25 e9) fun v11000 =>
 seqK (fun K12 =>
 condK v11000 (K12 .norm (Env.put s27 v11000 e9) H9 k9)
 (K12 (.exit 0) (Env.put s27 v11000 e9) H9 k9)) (fun k12 e12 H12 =>
 seqK (fun K13 =>
 blockK 1 (fun K14 =>
 iaK .none 7 (Env.get s24 e12) (Env.get s26 e12) fun v16000 =>
 ldK true 7 v16000 H12 fun v16001 =>
 newK [(.s []), (.i .i64 0), (.s []), (.i .i64 0), (.s []), (.i .i64 0), (.b false)] H12 fun v16002 H16002 =>
 stK 7 v16001 v16002 H16002 fun H16003 =>
 faK 6 v16002 fun v18000 =>
 ldK false 1 v18000 H16003 fun v18001 =>
 gdK v18001 true (fun R18002 => R18002 (Env.get s0 e12) H16003 k12) H16003 k12 fun v18002 H18002 k18002 =>
 gdK v18001 true (fun R18003 => genK roundT rec (.nilCheck (.l 0)) k18002 (Env.put s5 v16002 (Env.put s4 (Env.get s26 e12) e12)) [v18002, v18001, v18000] H18002 fun v18003 H18003 k18003 =>
 R18003 v18003 H18003 k18003) H18002 k18002 fun v18003 H18003 k18003 =>
 gdK v18001 true (fun R18004 => faK 0 v18003 fun v18004 =>
 R18004 v18004 H18003 k18003) H18003 k18003 fun v18004 H18004 k18004 =>
 gdK v18001 true (fun R18005 => ldK false 1 v18004 H18004 fun v18005 =>
 R18005 v18005 H18004 k18004) H18004 k18004 fun v18005 H18005 k18005 =>
 gdK v18001 true (fun R18006 => genK roundT rec (.nilCheck (.l 0)) k18005 (Env.put s5 v16002 (Env.put s4 (Env.get s26 e12) e12)) [v18005, v18004, v18003, v18002, v18001, v18000] H18005 fun v18006 H18006 k18006 =>
 R18006 v18006 H18006 k18006) H18005 k18005 fun v18006 H18006 k18006 =>
 gdK v18001 true (fun R18007 => faK 2 v18006 fun v18007 =>
 R18007 v18007 H18006 k18006) H18006 k18006 fun v18007 H18007 k18007 =>
 gdK v18001 true (fun R18008 => ldK false 1 v18007 H18007 fun v18008 =>
 R18008 v18008 H18007 k18007) H18007 k18007 fun v18008 H18008 k18008 =>
 gdK v18001 true (fun R18009 => R18009 (Env.get s26 e12) H18008 k18008) H18008 k18008 fun v18009 H18009 k18009 =>
 gdK v18001 true (fun R18010 => genK roundT rec (.convInt .u64 (.l 0)) k18009 (Env.put s5 v16002 (Env.put s4 (Env.get s26 e12) e12)) [v18009, v18008, v18007, v18006, v18005, v18004, v18003, v18002, v18001, v18000] H18009 fun v18010 H18010 k18010 =>
 R18010 v18010 H18010 k18010) H18009 k18009 fun v18010 H18010 k18010 =>
 gdK v18001 true (fun R18011 => binK .shr .no v18008 v18010 fun v18011 =>
 R18011 v18011 H18010 k18010) H18010 k18010 fun v18011 H18011 k18011 =>
 gdK v18001 true (fun R18012 => binK .and .no v18011 (.i .u64 1) fun v18012 =>
 R18012 v18012 H18011 k18011) H18011 k18011 fun v18012 H18012 k18012 =>
 gdK v18001 true (fun R18013 => binK .eql .no v18012 (.i .u64 1) fun v18013 =>
 R18013 v18013 H18012 k18012) H18012 k18012 fun v18013 H18013 k18013 =>
 pkK v18001 v18013 (.b false) fun v18014 =>
 condK v18014 (genK roundT rec (.convInt .u64 (.s s4)) k18013 (Env.put s46 v18014 (Env.put s5 v16002 (Env.put s4 (Env.get s26 e12) e12))) [] H18013 fun v20000 H20000 k20000 =>
 binK .shl .no (.i .u64 1) v20000 fun v20001 =>
 binK .or .no (Env.get s3 e12) v20001 fun v20002 =>
 K14 .norm (Env.put s3 v20002 (Env.put s46 v18014 (Env.put s5 v16002 (Env.put s4 (Env.get s26 e12) e12)))) H20000 k20000)
 (K14 .norm (Env.put s46 v18014 (Env.put s5 v16002 (Env.put s4 (Env.get s26 e12) e12))) H18013 k18013)) K13) (fun k13 e13 H13 =>
 binK .add .no (Env.get s26 e13) (.i .i64 1) fun v14000 =>
 K9 .norm (Env.put s26 v14000 e13) H13 k13) K9) K9) rounds K8 k7009 (Env.put s24 v7016 (Env.put s25 v7017 (Env.put s26 (.i .i64 0) (Env.put s3 (.i .u64 0) (Env.put s2 (.i .u64 0) e))))) H7016) K5)) (fun k5 e5 H5 =>
 (endK recD [.slot s2]) .ret (Env.put s2 (Env.get s3 e5) e5) H5 k5) (endK recD [.slot s2])
theorem Tryz.cOk56 : (compFn Tryz.prog Tryz.f56).map (bodyK 56) = some Tryz.c56 := by kernel_rfl
def Tryz.c59 : FnK := fun rec recD args H => startK 1 args fun e =>
 seqK (fun K3 =>
 binK .eql .sl (Env.get s0 e) .sl0 fun v5000 =>
 condK v5000 (K3 .ret (Env.put s2 .sl0 (Env.put s4 v5000 (Env.put s2 .sl0 e))) H (Ctl.mk [] .none))
 (K3 .norm (Env.put s4 v5000 (Env.put s2 .sl0 e)) H (Ctl.mk [] .none))) (fun k3 e3 H3 =>
 genK roundT rec (.buildSlice 0 1 [(.i .i64 0)] []) k3 e3 [] H3 fun v5000 H5000 k5000 =>
 apK 1 [(.i .i64 0)] H5000 v5000 (Env.get s0 e3) fun v5001 H5001 =>
 (endK recD [.slot s2]) .ret (Env.put s2 v5001 e3) H5001 k5000) (endK recD [.slot s2])
theorem Tryz.cOk59 : (compFn Tryz.prog Tryz.f59).map (bodyK 59) = some Tryz.c59 := by kernel_rfl
def Tryz.c63 : FnK := fun rec recD args H => startK 1 args fun e =>
 newK [(.i .i64 0), (.i .i64 0)] H fun v2000 H2000 =>
 newK [(.s []), (.s []), (.i .i64 0), (.i .i64 0), (.s []), (.i .i64 0), (.s []), .sl0] H2000 fun v4000 H4000 =>
 caK rec 99 [(Env.get s0 e), (.s [77, 97, 105, 110]), (.s [109, 97, 105, 110])] H4000 fun v4001 H4001 =>
 exK 0 v4001 fun v4002 =>
 exK 1 v4001 fun v4003 =>
 stK 8 v4002 v4000 H4001 fun H4004 =>
 seqK (fun K5 =>
 unK .not v4003 fun v7000 =>
 gdK v7000 false (fun R7001 => faK 7 v4000 fun v7001 =>
 R7001 v7001 H4004 (Ctl.mk [] .none)) H4004 (Ctl.mk [] .none) fun v7001 H7001 k7001 =>
 gdK v7000 false (fun R7002 => ldK false 1 v7001 H7001 fun v7002 =>
 R7002 v7002 H7001 k7001) H7001 k7001 fun v7002 H7002 k7002 =>
 gdK v7000 false (fun R7003 => lnK .sl H7002 v7002 fun v7003 =>
 R7003 v7003 H7002 k7002) H7002 k7002 fun v7003 H7003 k7003 =>
 gdK v7000 false (fun R7004 => binK .gtr .no v7003 (.i .i64 0) fun v7004 =>
 R7004 v7004 H7003 k7003) H7003 k7003 fun v7004 H7004 k7004 =>
 pkK v7000 (.b true) v7004 fun v7005 =>
 gdK v7005 false (fun R7006 => faK 3 v4000 fun v7006 =>
 R7006 v7006 H7004 k7004) H7004 k7004 fun v7006 H7006 k7006 =>
 gdK v7005 false (fun R7007 => ldK true 4 v7006 H7006 fun v7007 =>
 R7007 v7007 H7006 k7006) H7006 k7006 fun v7007 H7007 k7007 =>
 gdK v7005 false (fun R7008 => caK rec 101 [v7007, (.i .i64 1)] H7007 fun v7008 H7008 =>
 R7008 v7008 H7008 k7007) H7007 k7007 fun v7008 H7008 k7008 =>
 gdK v7005 false (fun R7009 => unK .not v7008 fun v7009 =>
 R7009 v7009 H7008 k7008) H7008 k7008 fun v7009 H7009 k7009 =>
 pkK v7005 (.b true) v7009 fun v7010 =>
 condK v7010 (bdK [(.i .i64 0), (.i .i64 0)] [(0, 1, (.i .i64 112))] fun v10000 =>
 stK 2 v10000 v2000 H7009 fun H10001 =>
 K5 .ret (Env.put s25 v7010 (Env.put s3 v4000 (Env.put s4 v4003 (Env.put s2 v2000 e)))) H10001 k7009)
 (K5 .norm (Env.put s25 v7010 (Env.put s3 v4000 (Env.put s4 v4003 (Env.put s2 v2000 e)))) H7009 k7009)) (fun k5 e5 H5 =>
 seqK (fun K6 =>
 newK [(.s []), (.s []), (.i .i64 0), (.i .i64 0), (.s []), (.i .i64 0), (.s []), .sl0] H5 fun v8000 H8000 =>
 caK rec 102 [(Env.get s0 e5), (.s [77, 97, 105, 110])] H8000 fun v8001 H8001 =>
 exK 0 v8001 fun v8002 =>
 exK 1 v8001 fun v8003 =>
 stK 8 v8002 v8000 H8001 fun H8004 =>
 gdK v8003 true (fun R10000 => faK 7 v8000 fun v10000 =>
 R10000 v10000 H8004 k5) H8004 k5 fun v10000 H10000 k10000 =>
 gdK v8003 true (fun R10001 => ldK false 1 v10000 H10000 fun v10001 =>
 R10001 v10001 H10000 k10000) H10000 k10000 fun v10001 H10001 k10001 =>
 gdK v8003 true (fun R10002 => lnK .sl H10001 v10001 fun v10002 =>
 R10002 v10002 H10001 k10001) H10001 k10001 fun v10002 H10002 k10002 =>
 gdK v8003 true (fun R10003 => binK .gtr .no v10002 (.i .i64 0) fun v10003 =>
 R10003 v10003 H10002 k10002) H10002 k10002 fun v10003 H10003 k10003 =>
 pkK v8003 v10003 (.b false) fun v10004 =>
 condK v10004 (bdK [(.i .i64 0), (.i .i64 0)] [(0, 1, (.i .i64 112))] fun v13000 =>
 stK 2 v13000 (Env.get s2 e5) H10003 fun H13001 =>
 K6 .ret (Env.put s38 v10004 (Env.put s5 v8000 (Env.put s6 v8003 e5))) H13001 k10003)
 (K6 .norm (Env.put s38 v10004 (Env.put s5 v8000 (Env.put s6 v8003 e5))) H10003 k10003)) (fun k6 e6 H6 =>
 bdK [(.i .i64 0), (.i .i64 0)] [] fun v8000 =>
 stK 2 v8000 (Env.get s2 e6) H6 fun H8001 =>
 (endK recD [.cell true 2 s2]) .ret e6 H8001 k6) (endK recD [.cell true 2 s2])) (endK recD [.cell true 2 s2])
theorem Tryz.cOk63 : (compFn Tryz.prog Tryz.f63).map (bodyK 63) = some Tryz.c63 := by kernel_rfl
def Tryz.c69 : FnK := fun rec recD args H => startK 2 args fun e =>
 genK roundT rec (.nilCheck (.s s0)) (Ctl.mk [] .none) e [] H fun v2000 H2000 k2000 =>
 faK 0 v2000 fun v2001 =>
 ldK false 1 v2001 H2000 fun v2002 =>
 genK roundT rec (.nilCheck (.l 0)) k2000 e [v2002, v2001, v2000] H2000 fun v2003 H2003 k2003 =>
 faK 0 v2003 fun v2004 =>
 faK 0 v2004 fun v2005 =>
 ldK false 1 v2005 H2003 fun v2006 =>
 iaK .none 13 v2006 (Env.get s1 e) fun v2007 =>
 faK 5 v2007 fun v2008 =>
 faK 0 v2008 fun v2009 =>
 ldK false 1 v2009 H2003 fun v2010 =>
 binK .eql .no v2010 (.i .i64 6) fun v2011 =>
 condK v2011 (genK roundT rec (.nilCheck (.s s0)) k2003 (Env.put s17 v2011 e) [] H2003 fun v4000 H4000 k4000 =>
 faK 0 v4000 fun v4001 =>
 ldK false 1 v4001 H4000 fun v4002 =>
 caK rec 105 [v4002, (.i .i64 130), (Env.get s1 e)] H4000 fun v4003 H4003 =>
 (endK recD []) .norm (Env.put s17 v2011 e) H4003 k4000)
 ((endK recD []) .norm (Env.put s17 v2011 e) H2003 k2003)
theorem Tryz.cOk69 : (compFn Tryz.prog Tryz.f69).map (bodyK 69) = some Tryz.c69 := by kernel_rfl
def Tryz.c78 : FnK := fun rec recD args H => startK 1 args fun e =>
 newK [(.i .i64 0), (.i .i64 0), (.i .i64 0)] H fun v2000 H2000 =>
 genK roundT rec (.nilCheck (.s s0)) (Ctl.mk [] .none) (Env.put s2 v2000 (Env.put s3 (.s []) e)) [] H2000 fun v4000 H4000 k4000 =>
 faK 1 v4000 fun v4001 =>
 ldK false 1 v4001 H4000 fun v4002 =>
 genK roundT rec (.nilCheck (.s s0)) k4000 (Env.put s2 v2000 (Env.put s3 (.s []) e)) [v4002, v4001, v4000] H4000 fun v4003 H4003 k4003 =>
 faK 2 v4003 fun v4004 =>
 ldK false 1 v4004 H4003 fun v4005 =>
 iaK .none 3 v4002 v4005 fun v4006 =>
 ldK true 3 v4006 H4003 fun v4007 =>
 newK [(.i .i64 0), (.i .i64 0), (.i .i64 0)] H4003 fun v4008 H4008 =>
 stK 3 v4007 v4008 H4008 fun H4009 =>
 ldK true 3 v4008 H4009 fun v6000 =>
 genK roundT rec (.nilCheck (.s s0)) k4003 (Env.put s4 v4008 (Env.put s2 v2000 (Env.put s3 (.s []) e))) [v6000] H4009 fun v6001 H6001 k6001 =>
 faK 0 v6001 fun v6002 =>
 ldK false 1 v6002 H6001 fun v6003 =>
 faK 1 v4008 fun v6004 =>
 faK 0 v6004 fun v6005 =>
 ldK false 1 v6005 H6001 fun v6006 =>
 faK 1 v4008 fun v6007 =>
 faK 1 v6007 fun v6008 =>
 ldK false 1 v6008 H6001 fun v6009 =>
 slK .none v6003 (.some v6006) (.some v6009) .none fun v6010 =>
 stK 3 v6000 v2000 H6001 fun H6011 =>
 boolK (and (again ⟨.load false 1 (.l 0), .none, []⟩ v6009 (Env.put s4 v4008 (Env.put s2 v2000 (Env.put s3 (.s []) e))) [v6008, v6007, v6006, v6005, v6004, v6003, v6002, v6001, v6000] H6011) (and (again ⟨.load false 1 (.l 0), .none, []⟩ v6006 (Env.put s4 v4008 (Env.put s2 v2000 (Env.put s3 (.s []) e))) [v6005, v6004, v6003, v6002, v6001, v6000] H6011) (and (again ⟨.load false 1 (.l 0), .none, []⟩ v6003 (Env.put s4 v4008 (Env.put s2 v2000 (Env.put s3 (.s []) e))) [v6002, v6001, v6000] H6011) true))) ((endK recD [.cell true 3 s2, .slot s3]) .ret (Env.put s3 v6010 (Env.put s4 v4008 (Env.put s2 v2000 (Env.put s3 (.s []) e)))) H6011 k6001)
theorem Tryz.cOk78 : (compFn Tryz.prog Tryz.f78).map (bodyK 78) = some Tryz.c78 := by kernel_rfl
def Tryz.c80 : FnK := fun rec recD args H => startK 1 args fun e =>
 newK [(.i .i64 0), (.i .i64 0), (.i .i64 0)] H fun v4000 H4000 =>
 caK rec 78 [(Env.get s0 e)] H4000 fun v4001 H4001 =>
 exK 0 v4001 fun v4002 =>
 exK 1 v4001 fun v4003 =>
 stK 3 v4002 v4000 H4001 fun H4004 =>
 caK rec 127 [(Env.get s0 e), (.s [99, 108, 97, 115, 115])] H4004 fun v6000 H6000 =>
 newK [(.i .i64 0), (.i .i64 0), (.i .i64 0), .sl0, (.s []), (.i .i64 0), (.s []), (.i .i64 0), (.s []), (.i .i64 0), (.i .i64 0), (.i .i64 0), .sl0] H6000 fun v8000 H8000 =>
 caK rec 128 [(Env.get s0 e)] H8000 fun v8001 H8001 =>
 bdK [(.i .i64 0), (.i .i64 0), (.i .i64 0), .sl0, (.s []), (.i .i64 0), (.s []), (.i .i64 0), (.s []), (.i .i64 0), (.i .i64 0), (.i .i64 0), .sl0] [(0, 1, (.i .i64 2)), (4, 1, v8001)] fun v8002 =>
 stK 13 v8002 v8000 H8001 fun H8003 =>
 seqK (fun K9 =>
 newK [(.i .i64 0), (.i .i64 0), (.i .i64 0)] H8003 fun v11000 H11000 =>
 caK rec 78 [(Env.get s0 e)] H11000 fun v11001 H11001 =>
 exK 0 v11001 fun v11002 =>
 exK 1 v11001 fun v11003 =>
 stK 3 v11002 v11000 H11001 fun H11004 =>
 caK rec 129 [(Env.get s0 e), (.s [101, 120, 116, 101, 110, 100, 115])] H11004 fun v13000 H13000 =>
 condK v13000 (faK 3 v8000 fun v15000 =>
 ldK false 1 v15000 H13000 fun v15001 =>
 faK 1 v11000 fun v15002 =>
 faK 0 v15002 fun v15003 =>
 ldK false 1 v15003 H13000 fun v15004 =>
 caK rec 128 [(Env.get s0 e)] H13000 fun v15005 H15005 =>
 boolK (and (again ⟨.load false 1 (.l 0), .none, []⟩ v15004 (Env.put s24 v13000 (Env.put s6 v11000 (Env.put s5 v8000 (Env.put s3 v4000 (Env.put s2 (.i .i64 0) e))))) [v15003, v15002, v15001, v15000] H15005) (and (again ⟨.load false 1 (.l 0), .none, []⟩ v15001 (Env.put s24 v13000 (Env.put s6 v11000 (Env.put s5 v8000 (Env.put s3 v4000 (Env.put s2 (.i .i64 0) e))))) [v15000] H15005) true)) (bdK [(.i .i64 0), (.i .i64 0), (.i .i64 0), .sl0, (.s []), (.i .i64 0), (.s []), (.i .i64 0), (.s []), (.i .i64 0), (.i .i64 0), (.i .i64 0), .sl0] [(0, 1, (.i .i64 3)), (4, 1, v15005)] fun v15006 =>
 caK rec 81 [(Env.get s0 e), v15006, v15004] H15005 fun v15007 H15007 =>
 boolK (and (again ⟨.load false 1 (.l 0), .none, []⟩ v15001 (Env.put s24 v13000 (Env.put s6 v11000 (Env.put s5 v8000 (Env.put s3 v4000 (Env.put s2 (.i .i64 0) e))))) [v15000] H15007) true) (genK roundT rec (.buildSlice 1 1 [(.i .i64 0)] [(0, (.l 0))]) (Ctl.mk [] .none) (Env.put s24 v13000 (Env.put s6 v11000 (Env.put s5 v8000 (Env.put s3 v4000 (Env.put s2 (.i .i64 0) e))))) [v15007, v15006, v15005, v15004, v15003, v15002, v15001, v15000] H15007 fun v15008 H15008 k15008 =>
 apK 1 [(.i .i64 0)] H15008 v15001 v15008 fun v15009 H15009 =>
 faK 3 v8000 fun v15010 =>
 stK 1 v15009 v15010 H15009 fun H15011 =>
 K9 .norm (Env.put s24 v13000 (Env.put s6 v11000 (Env.put s5 v8000 (Env.put s3 v4000 (Env.put s2 (.i .i64 0) e))))) H15011 k15008)))
 (K9 .norm (Env.put s24 v13000 (Env.put s6 v11000 (Env.put s5 v8000 (Env.put s3 v4000 (Env.put s2 (.i .i64 0) e))))) H13000 (Ctl.mk [] .none))) (fun k9 e9 H9 =>
 caK rec 127 [(Env.get s0 e9), (.s [123])] H9 fun v11000 H11000 =>
 seqK (fun K12 =>
 blockK 0 (fun K13 =>
 loopK (fun k14 e14 H14 K14 =>
 seqK (fun K15 =>
 caK rec 130 [(Env.get s0 e14), (.s [125])] H14 fun v17000 H17000 =>
 unK .not v17000 fun v17001 =>
 condK v17001 (K15 .norm (Env.put s42 v17001 e14) H17000 k14)
 (K15 (.exit 0) (Env.put s42 v17001 e14) H17000 k14)) (fun k15 e15 H15 =>
 blockK 1 (fun K16 =>
 faK 3 (Env.get s5 e15) fun v18000 =>
 ldK false 1 v18000 H15 fun v18001 =>
 lnK .sl H15 v18001 fun v18002 =>
 binK .add .no v18002 (.i .i64 1) fun v18003 =>
 caK rec 79 [(Env.get s0 e15), v18003] H15 fun v18004 H18004 =>
 faK 3 (Env.get s5 e15) fun v19000 =>
 ldK false 1 v19000 H18004 fun v19001 =>
 caK rec 131 [(Env.get s0 e15)] H18004 fun v19002 H19002 =>
 boolK (and (again ⟨.load false 1 (.l 0), .none, []⟩ v19001 e15 [v19000] H19002) true) (genK roundT rec (.buildSlice 1 1 [(.i .i64 0)] [(0, (.l 0))]) k15 e15 [v19002, v19001, v19000] H19002 fun v19003 H19003 k19003 =>
 apK 1 [(.i .i64 0)] H19003 v19001 v19003 fun v19004 H19004 =>
 faK 3 (Env.get s5 e15) fun v19005 =>
 stK 1 v19004 v19005 H19004 fun H19006 =>
 K16 .norm e15 H19006 k19003)) K14) K14) rounds K13 k9 e9 H11000) K12) (fun k12 e12 H12 =>
 caK rec 127 [(Env.get s0 e12), (.s [125])] H12 fun v14000 H14000 =>
 ldK true 13 (Env.get s5 e12) H14000 fun v16000 =>
 faK 1 (Env.get s3 e12) fun v16001 =>
 faK 0 v16001 fun v16002 =>
 ldK false 1 v16002 H14000 fun v16003 =>
 caK rec 81 [(Env.get s0 e12), v16000, v16003] H14000 fun v16004 H16004 =>
 (endK recD [.slot s2]) .ret (Env.put s2 v16004 e12) H16004 k12) (endK recD [.slot s2])) (endK recD [.slot s2])
theorem Tryz.cOk80 : (compFn Tryz.prog Tryz.f80).map (bodyK 80) = some Tryz.c80 := by kernel_rfl
def Tryz.c86 : FnK := fun rec recD args H => startK 5 args fun e =>
 bdK [(.i .i64 0), (.i .i64 0), (.i .i64 0), (.i .i64 0), (.i .i64 0)] [(0, 1, (Env.get s1 e)), (1, 1, (Env.get s2 e)), (2, 1, (Env.get s3 e)), (3, 1, (Env.get s4 e)), (4, 1, (.i .i64 (-1)))] fun v4000 =>
 caK rec 50 [(Env.get s0 e), v4000] H fun v4001 H4001 =>
 (endK recD [.slot s10]) .ret (Env.put s10 v4001 (Env.put s10 (.i .i64 0) e)) H4001 (Ctl.mk [] .none)
theorem Tryz.cOk86 : (compFn Tryz.prog Tryz.f86).map (bodyK 86) = some Tryz.c86 := by kernel_rfl
def Tryz.c87 : FnK := fun rec recD args H => startK 3 args fun e =>
 genK roundT rec (.nilCheck (.s s0)) (Ctl.mk [] .none) (Env.put s6 (.i .i64 0) e) [] H fun v4000 H4000 k4000 =>
 faK 0 v4000 fun v4001 =>
 ldK false 1 v4001 H4000 fun v4002 =>
 newK [(.i .i64 0), (.i .i64 0), (.i .i64 0), .sl0, (.s []), (.i .i64 0), (.s []), (.i .i64 0), (.s []), (.i .i64 0), (.i .i64 0), (.i .i64 0), .sl0] H4000 fun v4003 H4003 =>
 caK rec 10 [v4002, (Env.get s1 e)] H4003 fun v4004 H4004 =>
 stK 13 v4004 v4003 H4004 fun H4005 =>
 seqK (fun K5 =>
 faK 0 v4003 fun v7000 =>
 ldK false 1 v7000 H4005 fun v7001 =>
 blockK 0 (fun K8 =>
 binK .eql .no v7001 (.i .i64 25) fun v10000 =>
 condK v10000 (genK roundT rec (.nilCheck (.s s0)) k4000 (Env.put s17 v10000 (Env.put s16 v7001 (Env.put s7 v4003 (Env.put s6 (.i .i64 0) e)))) [] H4005 fun v13000 H13000 k13000 =>
 faK 0 v13000 fun v13001 =>
 ldK false 1 v13001 H13000 fun v13002 =>
 caK rec 14 [v13002, (Env.get s1 e)] H13000 fun v13003 H13003 =>
 caK rec 86 [(Env.get s0 e), (.i .i64 2), v13003, (Env.get s1 e), (Env.get s2 e)] H13003 fun v13004 H13004 =>
 K8 .ret (Env.put s6 v13004 (Env.put s17 v10000 (Env.put s16 v7001 (Env.put s7 v4003 (Env.put s6 (.i .i64 0) e))))) H13004 k13000)
 (binK .eql .no v7001 (.i .i64 34) fun v13000 =>
 condK v13000 (faK 4 v4003 fun v16000 =>
 ldK false 1 v16000 H4005 fun v16001 =>
 binK .eql .no v16001 (.s [38, 38]) fun v16002 =>
 gdK v16002 false (fun R16003 => faK 4 v4003 fun v16003 =>
 R16003 v16003 H4005 k4000) H4005 k4000 fun v16003 H16003 k16003 =>
 gdK v16002 false (fun R16004 => ldK false 1 v16003 H16003 fun v16004 =>
 R16004 v16004 H16003 k16003) H16003 k16003 fun v16004 H16004 k16004 =>
 gdK v16002 false (fun R16005 => binK .eql .no v16004 (.s [124, 124]) fun v16005 =>
 R16005 v16005 H16004 k16004) H16004 k16004 fun v16005 H16005 k16005 =>
 pkK v16002 (.b true) v16005 fun v16006 =>
 condK v16006 (caK rec 86 [(Env.get s0 e), (.i .i64 1), (.i .i64 (-1)), (Env.get s1 e), (Env.get s2 e)] H16005 fun v19000 H19000 =>
 caK rec 89 [(Env.get s0 e), (Env.get s1 e), v19000, v19000] H19000 fun v21000 H21000 =>
 K8 .ret (Env.put s6 v21000 (Env.put s2 v19000 (Env.put s38 v16006 (Env.put s29 v13000 (Env.put s17 v10000 (Env.put s16 v7001 (Env.put s7 v4003 (Env.put s6 (.i .i64 0) e)))))))) H21000 k16005)
 (K8 .norm (Env.put s38 v16006 (Env.put s29 v13000 (Env.put s17 v10000 (Env.put s16 v7001 (Env.put s7 v4003 (Env.put s6 (.i .i64 0) e)))))) H16005 k16005))
 (binK .eql .no v7001 (.i .i64 40) fun v16000 =>
 condK v16000 (faK 3 v4003 fun v19000 =>
 ldK false 1 v19000 H4005 fun v19001 =>
 iaK .none 1 v19001 (.i .i64 0) fun v19002 =>
 ldK false 1 v19002 H4005 fun v19003 =>
 caK rec 133 [(Env.get s0 e), v19003] H4005 fun v19004 H19004 =>
 binK .geq .no v19004 (.i .i64 0) fun v21000 =>
 condK v21000 (faK 3 v4003 fun v23000 =>
 ldK false 1 v23000 H19004 fun v23001 =>
 iaK .none 1 v23001 (.i .i64 0) fun v23002 =>
 ldK false 1 v23002 H19004 fun v23003 =>
 caK rec 86 [(Env.get s0 e), (.i .i64 7), v19004, v23003, (Env.get s2 e)] H19004 fun v23004 H23004 =>
 K8 .norm (Env.put s2 v23004 (Env.put s57 v21000 (Env.put s8 v19004 (Env.put s48 v16000 (Env.put s29 v13000 (Env.put s17 v10000 (Env.put s16 v7001 (Env.put s7 v4003 (Env.put s6 (.i .i64 0) e))))))))) H23004 k4000)
 (K8 .norm (Env.put s57 v21000 (Env.put s8 v19004 (Env.put s48 v16000 (Env.put s29 v13000 (Env.put s17 v10000 (Env.put s16 v7001 (Env.put s7 v4003 (Env.put s6 (.i .i64 0) e)))))))) H19004 k4000))
 (seqK (fun K18 =>
 binK .eql .no v7001 (.i .i64 26) fun v20000 =>
 condK v20000 (K18 .norm (Env.put s66 v20000 (Env.put s48 v16000 (Env.put s29 v13000 (Env.put s17 v10000 (Env.put s16 v7001 (Env.put s7 v4003 (Env.put s6 (.i .i64 0) e))))))) H4005 k4000)
 (binK .eql .no v7001 (.i .i64 27) fun v23000 =>
 condK v23000 (K18 .norm (Env.put s66 v23000 (Env.put s66 v20000 (Env.put s48 v16000 (Env.put s29 v13000 (Env.put s17 v10000 (Env.put s16 v7001 (Env.put s7 v4003 (Env.put s6 (.i .i64 0) e)))))))) H4005 k4000)
 (binK .eql .no v7001 (.i .i64 28) fun v26000 =>
 condK v26000 (K18 .norm (Env.put s66 v26000 (Env.put s66 v23000 (Env.put s66 v20000 (Env.put s48 v16000 (Env.put s29 v13000 (Env.put s17 v10000 (Env.put s16 v7001 (Env.put s7 v4003 (Env.put s6 (.i .i64 0) e))))))))) H4005 k4000)
 (binK .eql .no v7001 (.i .i64 29) fun v28000 =>
 K18 .norm (Env.put s66 v28000 (Env.put s66 v26000 (Env.put s66 v23000 (Env.put s66 v20000 (Env.put s48 v16000 (Env.put s29 v13000 (Env.put s17 v10000 (Env.put s16 v7001 (Env.put s7 v4003 (Env.put s6 (.i .i64 0) e)))))))))) H4005 k4000)))) (fun k18 e18 H18 =>
 condK (Env.get s66 e18) (faK 3 (Env.get s7 e18) fun v21000 =>
 ldK false 1 v21000 H18 fun v21001 =>
 iaK .none 1 v21001 (.i .i64 0) fun v21002 =>
 ldK false 1 v21002 H18 fun v21003 =>
 faK 3 (Env.get s7 e18) fun v21004 =>
 ldK false 1 v21004 H18 fun v21005 =>
 slK (.some 1) v21005 (.some (.i .i64 1)) .none .none fun v21006 =>
 caK rec 90 [(Env.get s0 e18), v21006, (Env.get s2 e18)] H18 fun v21007 H21007 =>
 boolK (and (again ⟨.load false 1 (.l 0), .none, []⟩ v21003 e18 [v21002, v21001, v21000] H21007) (and (again ⟨.load false 1 (.l 0), .none, []⟩ v21001 e18 [v21000] H21007) true)) (caK rec 134 [(Env.get s0 e18), v21003, v21007] H21007 fun v21008 H21008 =>
 K8 .ret (Env.put s6 v21008 e18) H21008 k18))
 (K8 .norm e18 H18 k18)) K8)))) K5) (fun k5 e5 H5 =>
 faK 3 (Env.get s7 e5) fun v7000 =>
 ldK false 1 v7000 H5 fun v7001 =>
 caK rec 90 [(Env.get s0 e5), v7001, (Env.get s2 e5)] H5 fun v7002 H7002 =>
 (endK recD [.slot s6]) .ret (Env.put s6 v7002 e5) H7002 k5) (endK recD [.slot s6])
theorem Tryz.cOk87 : (compFn Tryz.prog Tryz.f87).map (bodyK 87) = some Tryz.c87 := by kernel_rfl
def Tryz.c94 : FnK := fun rec recD args H => startK 3 args fun e =>
 bxK (Env.get s1 e) H fun v2000 H2000 =>
 seqK (fun K3 =>
 faK 2 v2000 fun v5000 =>
 ldK false 1 v5000 H2000 fun v5001 =>
 binK .lss .no v5001 (.i .i64 0) fun v5002 =>
 condK v5002 (K3 .ret (Env.put s6 (.b false) (Env.put s11 v5002 (Env.put s4 v2000 (Env.put s6 (.b false) e)))) H2000 (Ctl.mk [] .none))
 (K3 .norm (Env.put s11 v5002 (Env.put s4 v2000 (Env.put s6 (.b false) e))) H2000 (Ctl.mk [] .none))) (fun k3 e3 H3 =>
 genK roundT rec (.nilCheck (.s s0)) k3 e3 [] H3 fun v5000 H5000 k5000 =>
 faK 0 v5000 fun v5001 =>
 ldK false 1 v5001 H5000 fun v5002 =>
 genK roundT rec (.nilCheck (.l 0)) k5000 e3 [v5002, v5001, v5000] H5000 fun v5003 H5003 k5003 =>
 faK 0 v5003 fun v5004 =>
 ldK false 1 v5004 H5003 fun v5005 =>
 faK 2 (Env.get s4 e3) fun v5006 =>
 ldK false 1 v5006 H5003 fun v5007 =>
 caK rec 12 [v5005, v5007] H5003 fun v5008 H5008 =>
 exK 0 v5008 fun v5009 =>
 exK 1 v5008 fun v5010 =>
 binK .eql .no v5009 (.i .i64 1) fun v7000 =>
 gdK v7000 false (fun R7001 => R7001 v5009 H5008 k5003) H5008 k5003 fun v7001 H7001 k7001 =>
 gdK v7000 false (fun R7002 => binK .eql .no v7001 (.i .i64 3) fun v7002 =>
 R7002 v7002 H7001 k7001) H7001 k7001 fun v7002 H7002 k7002 =>
 gdK v7000 false (fun R7003 => R7003 v7002 H7002 k7002) H7002 k7002 fun v7003 H7003 k7003 =>
 gdK v7003 true (fun R7004 => R7004 (Env.get s2 e3) H7003 k7003) H7003 k7003 fun v7004 H7004 k7004 =>
 gdK v7003 true (fun R7005 => R7005 (Env.get s0 e3) H7004 k7004) H7004 k7004 fun v7005 H7005 k7005 =>
 gdK v7003 true (fun R7006 => genK roundT rec (.nilCheck (.l 0)) k7005 (Env.put s7 v5009 (Env.put s8 v5010 e3)) [v7005, v7004, v7003, v7002, v7001, v7000] H7005 fun v7006 H7006 k7006 =>
 R7006 v7006 H7006 k7006) H7005 k7005 fun v7006 H7006 k7006 =>
 gdK v7003 true (fun R7007 => faK 0 v7006 fun v7007 =>
 R7007 v7007 H7006 k7006) H7006 k7006 fun v7007 H7007 k7007 =>
 gdK v7003 true (fun R7008 => ldK false 1 v7007 H7007 fun v7008 =>
 R7008 v7008 H7007 k7007) H7007 k7007 fun v7008 H7008 k7008 =>
 gdK v7003 true (fun R7009 => genK roundT rec (.nilCheck (.l 0)) k7008 (Env.put s7 v5009 (Env.put s8 v5010 e3)) [v7008, v7007, v7006, v7005, v7004, v7003, v7002, v7001, v7000] H7008 fun v7009 H7009 k7009 =>
 R7009 v7009 H7009 k7009) H7008 k7008 fun v7009 H7009 k7009 =>
 gdK v7003 true (fun R7010 => faK 2 v7009 fun v7010 =>
 R7010 v7010 H7009 k7009) H7009 k7009 fun v7010 H7010 k7010 =>
 gdK v7003 true (fun R7011 => ldK false 1 v7010 H7010 fun v7011 =>
 R7011 v7011 H7010 k7010) H7010 k7010 fun v7011 H7011 k7011 =>
 gdK v7003 true (fun R7012 => binK .or .no v7004 v7011 fun v7012 =>
 R7012 v7012 H7011 k7011) H7011 k7011 fun v7012 H7012 k7012 =>
 gdK v7003 true (fun R7013 => R7013 v5010 H7012 k7012) H7012 k7012 fun v7013 H7013 k7013 =>
 gdK v7003 true (fun R7014 => caK rec 45 [v7013] H7013 fun v7014 H7014 =>
 boolK (and (again ⟨.load false 1 (.l 0), (.some ((.l 7), true)), []⟩ v7011 (Env.put s7 v5009 (Env.put s8 v5010 e3)) [v7010, v7009, v7008, v7007, v7006, v7005, v7004, v7003, v7002, v7001, v7000] H7014) (and (again ⟨.load false 1 (.l 0), (.some ((.l 4), true)), []⟩ v7008 (Env.put s7 v5009 (Env.put s8 v5010 e3)) [v7007, v7006, v7005, v7004, v7003, v7002, v7001, v7000] H7014) true)) (R7014 v7014 H7014 k7013)) H7013 k7013 fun v7014 H7014 k7014 =>
 gdK v7003 true (fun R7015 => binK .and .no v7012 v7014 fun v7015 =>
 R7015 v7015 H7014 k7014) H7014 k7014 fun v7015 H7015 k7015 =>
 gdK v7003 true (fun R7016 => binK .neq .no v7015 (.i .u64 0) fun v7016 =>
 R7016 v7016 H7015 k7015) H7015 k7015 fun v7016 H7016 k7016 =>
 gdK v7000 false (fun R7017 => pkK v7003 v7016 (.b false) fun v7017 =>
 R7017 v7017 H7016 k7016) H7016 k7016 fun v7017 H7017 k7017 =>
 pkK v7000 (.b true) v7017 fun v7018 =>
 (endK recD [.slot s6]) .ret (Env.put s6 v7018 (Env.put s7 v5009 (Env.put s8 v5010 e3))) H7017 k7017) (endK recD [.slot s6])
theorem Tryz.cOk94 : (compFn Tryz.prog Tryz.f94).map (bodyK 94) = some Tryz.c94 := by kernel_rfl
def Tryz.c96 : FnK := fun rec recD args H => startK 2 args fun e =>
 newK [(.i .i64 0), (.i .i64 0)] H fun v2000 H2000 =>
 genK roundT rec (.nilCheck (.s s0)) (Ctl.mk [] .none) (Env.put s4 v2000 e) [] H2000 fun v4000 H4000 k4000 =>
 faK 0 v4000 fun v4001 =>
 faK 0 v4001 fun v4002 =>
 ldK false 1 v4002 H4000 fun v4003 =>
 genK roundT rec (.nilCheck (.s s1)) k4000 (Env.put s4 v2000 e) [v4003, v4002, v4001, v4000] H4000 fun v4004 H4004 k4004 =>
 faK 2 v4004 fun v4005 =>
 ldK false 1 v4005 H4004 fun v4006 =>
 iaK .none 13 v4003 v4006 fun v4007 =>
 faK 3 v4007 fun v4008 =>
 ldK false 1 v4008 H4004 fun v4009 =>
 seqK (fun K5 =>
 lnK .sl H4004 v4009 fun v7000 =>
 blockK 0 (fun K8 =>
 loopK (fun k9 e9 H9 K9 =>
 binK .lss .no (Env.get s23 e9) (Env.get s22 e9) fun v11000 =>
 seqK (fun K12 =>
 condK v11000 (K12 .norm (Env.put s24 v11000 e9) H9 k9)
 (K12 (.exit 0) (Env.put s24 v11000 e9) H9 k9)) (fun k12 e12 H12 =>
 seqK (fun K13 =>
 blockK 1 (fun K14 =>
 iaK .none 1 (Env.get s21 e12) (Env.get s23 e12) fun v16000 =>
 ldK false 1 v16000 H12 fun v16001 =>
 genK roundT rec (.nilCheck (.s s0)) k12 (Env.put s6 (Env.get s23 e12) (Env.put s7 v16001 e12)) [] H12 fun v18000 H18000 k18000 =>
 faK 0 v18000 fun v18001 =>
 faK 0 v18001 fun v18002 =>
 ldK false 1 v18002 H18000 fun v18003 =>
 iaK .none 13 v18003 v16001 fun v18004 =>
 ldK true 13 v18004 H18000 fun v18005 =>
 newK [(.i .i64 0), (.i .i64 0), (.i .i64 0), .sl0, (.s []), (.i .i64 0), (.s []), (.i .i64 0), (.s []), (.i .i64 0), (.i .i64 0), (.i .i64 0), .sl0] H18000 fun v18006 H18006 =>
 stK 13 v18005 v18006 H18006 fun H18007 =>
 seqK (fun K19 =>
 lnK .sl H18007 (Env.get s5 e12) fun v21000 =>
 binK .sub .no v21000 (.i .i64 1) fun v21001 =>
 binK .eql .no (Env.get s23 e12) v21001 fun v21002 =>
 condK v21002 (seqK (fun K23 =>
 faK 0 v18006 fun v25000 =>
 ldK false 1 v25000 H18007 fun v25001 =>
 binK .neq .no v25001 (.i .i64 8) fun v25002 =>
 condK v25002 (caK rec 95 [(Env.get s0 e12), (.i .i64 132), v16001] H18007 fun v28000 H28000 =>
 stK 2 v28000 (Env.get s4 e12) H28000 fun H28001 =>
 K23 .ret (Env.put s43 v25002 (Env.put s40 v21002 (Env.put s8 v18006 (Env.put s6 (Env.get s23 e12) (Env.put s7 v16001 e12))))) H28001 k18000)
 (K23 .norm (Env.put s43 v25002 (Env.put s40 v21002 (Env.put s8 v18006 (Env.put s6 (Env.get s23 e12) (Env.put s7 v16001 e12))))) H18007 k18000)) (fun k23 e23 H23 =>
 K19 (.exit 0) e23 H23 k23) K19)
 (K19 .norm (Env.put s40 v21002 (Env.put s8 v18006 (Env.put s6 (Env.get s23 e12) (Env.put s7 v16001 e12)))) H18007 k18000)) (fun k19 e19 H19 =>
 seqK (fun K20 =>
 faK 0 (Env.get s8 e19) fun v22000 =>
 ldK false 1 v22000 H19 fun v22001 =>
 binK .neq .no v22001 (.i .i64 7) fun v22002 =>
 condK v22002 (caK rec 95 [(Env.get s0 e19), (.i .i64 132), (Env.get s7 e19)] H19 fun v25000 H25000 =>
 stK 2 v25000 (Env.get s4 e19) H25000 fun H25001 =>
 K20 .ret (Env.put s49 v22002 e19) H25001 k19)
 (K20 .norm (Env.put s49 v22002 e19) H19 k19)) (fun k20 e20 H20 =>
 genK roundT rec (.nilCheck (.s s1)) k20 e20 [] H20 fun v21000 H21000 k21000 =>
 faK 7 v21000 fun v21001 =>
 ldK false 1 v21001 H21000 fun v21002 =>
 faK 5 (Env.get s8 e20) fun v21003 =>
 ldK true 4 v21003 H21000 fun v21004 =>
 genK roundT rec (.buildSlice 1 4 [(.i .i64 0), (.s []), (.i .i64 0), (.s [])] [(0, (.l 0))]) k21000 e20 [v21004, v21003, v21002, v21001, v21000] H21000 fun v21005 H21005 k21005 =>
 apK 4 [(.i .i64 0), (.s []), (.i .i64 0), (.s [])] H21005 v21002 v21005 fun v21006 H21006 =>
 genK roundT rec (.nilCheck (.s s1)) k21005 e20 [v21006, v21005, v21004, v21003, v21002, v21001, v21000] H21006 fun v21007 H21007 k21007 =>
 faK 7 v21007 fun v21008 =>
 stK 1 v21006 v21008 H21007 fun H21009 =>
 K14 .norm e20 H21009 k21007) K14) K14) K13) (fun k13 e13 H13 =>
 binK .add .no (Env.get s23 e13) (.i .i64 1) fun v14000 =>
 K9 .norm (Env.put s23 v14000 e13) H13 k13) K9) K9) rounds K8 k4004 (Env.put s21 v4009 (Env.put s22 v7000 (Env.put s23 (.i .i64 0) (Env.put s5 v4009 (Env.put s4 v2000 e))))) H4004) K5) (fun k5 e5 H5 =>
 bdK [(.i .i64 0), (.i .i64 0)] [] fun v7000 =>
 stK 2 v7000 (Env.get s4 e5) H5 fun H7001 =>
 (endK recD [.cell true 2 s4]) .ret e5 H7001 k5) (endK recD [.cell true 2 s4])
theorem Tryz.cOk96 : (compFn Tryz.prog Tryz.f96).map (bodyK 96) = some Tryz.c96 := by kernel_rfl
def Tryz.c101 : FnK := fun rec recD args H => startK 2 args fun e =>
 bxK (Env.get s0 e) H fun v2000 H2000 =>
 ldK true 4 v2000 H2000 fun v4000 =>
 caK rec 49 [v4000] H2000 fun v4001 H4001 =>
 gdK v4001 true (fun R4002 => faK 2 v2000 fun v4002 =>
 R4002 v4002 H4001 (Ctl.mk [] .none)) H4001 (Ctl.mk [] .none) fun v4002 H4002 k4002 =>
 gdK v4001 true (fun R4003 => ldK false 1 v4002 H4002 fun v4003 =>
 R4003 v4003 H4002 k4002) H4002 k4002 fun v4003 H4003 k4003 =>
 gdK v4001 true (fun R4004 => binK .eql .no v4003 (.i .i64 0) fun v4004 =>
 R4004 v4004 H4003 k4003) H4003 k4003 fun v4004 H4004 k4004 =>
 pkK v4001 v4004 (.b false) fun v4005 =>
 gdK v4005 true (fun R4006 => faK 0 v2000 fun v4006 =>
 R4006 v4006 H4004 k4004) H4004 k4004 fun v4006 H4006 k4006 =>
 gdK v4005 true (fun R4007 => ldK false 1 v4006 H4006 fun v4007 =>
 R4007 v4007 H4006 k4006) H4006 k4006 fun v4007 H4007 k4007 =>
 gdK v4005 true (fun R4008 => R4008 (Env.get s1 e) H4007 k4007) H4007 k4007 fun v4008 H4008 k4008 =>
 gdK v4005 true (fun R4009 => binK .eql .no v4007 v4008 fun v4009 =>
 R4009 v4009 H4008 k4008) H4008 k4008 fun v4009 H4009 k4009 =>
 pkK v4005 v4009 (.b false) fun v4010 =>
 gdK v4010 true (fun R4011 => R4011 (Env.get s1 e) H4009 k4009) H4009 k4009 fun v4011 H4011 k4011 =>
 gdK v4010 true (fun R4012 => binK .neq .no v4011 (.i .i64 5) fun v4012 =>
 R4012 v4012 H4011 k4011) H4011 k4011 fun v4012 H4012 k4012 =>
 pkK v4010 v4012 (.b false) fun v4013 =>
 (endK recD [.slot s4]) .ret (Env.put s4 v4013 (Env.put s2 v2000 (Env.put s4 (.b false) e))) H4012 k4012
theorem Tryz.cOk101 : (compFn Tryz.prog Tryz.f101).map (bodyK 101) = some Tryz.c101 := by kernel_rfl
def Tryz.c109 : FnK := fun rec recD args H => startK 2 args fun e =>
 newK [(.i .i64 0), (.s []), (.i .i64 0), (.s [])] H fun v2000 H2000 =>
 genK roundT rec (.nilCheck (.s s0)) (Ctl.mk [] .none) (Env.put s4 v2000 e) [] H2000 fun v4000 H4000 k4000 =>
 faK 0 v4000 fun v4001 =>
 ldK false 1 v4001 H4000 fun v4002 =>
 genK roundT rec (.nilCheck (.l 0)) k4000 (Env.put s4 v2000 e) [v4002, v4001, v4000] H4000 fun v4003 H4003 k4003 =>
 faK 0 v4003 fun v4004 =>
 faK 0 v4004 fun v4005 =>
 ldK false 1 v4005 H4003 fun v4006 =>
 iaK .none 13 v4006 (Env.get s1 e) fun v4007 =>
 ldK true 13 v4007 H4003 fun v4008 =>
 newK [(.i .i64 0), (.i .i64 0), (.i .i64 0), .sl0, (.s []), (.i .i64 0), (.s []), (.i .i64 0), (.s []), (.i .i64 0), (.i .i64 0), (.i .i64 0), .sl0] H4003 fun v4009 H4009 =>
 stK 13 v4008 v4009 H4009 fun H4010 =>
 ldK true 13 v4009 H4010 fun v6000 =>
 newK [(.i .i64 0), (.s []), (.i .i64 0), (.s [])] H4010 fun v6001 H6001 =>
 caK rec 144 [(Env.get s0 e), (Env.get s1 e), v6000] H6001 fun v6002 H6002 =>
 stK 4 v6002 v6001 H6002 fun H6003 =>
 genK roundT rec (.nilCheck (.s s0)) k4003 (Env.put s6 v6001 (Env.put s5 v4009 (Env.put s4 v2000 e))) [] H6003 fun v8000 H8000 k8000 =>
 faK 0 v8000 fun v8001 =>
 ldK false 1 v8001 H8000 fun v8002 =>
 genK roundT rec (.nilCheck (.l 0)) k8000 (Env.put s6 v6001 (Env.put s5 v4009 (Env.put s4 v2000 e))) [v8002, v8001, v8000] H8000 fun v8003 H8003 k8003 =>
 faK 2 v8003 fun v8004 =>
 ldK false 1 v8004 H8003 fun v8005 =>
 ldK true 4 v6001 H8003 fun v8006 =>
 iaK .none 4 v8005 (Env.get s1 e) fun v8007 =>
 stK 4 v8006 v8007 H8003 fun H8008 =>
 ldK true 4 v6001 H8008 fun v10000 =>
 stK 4 v10000 v2000 H8008 fun H10001 =>
 (endK recD [.cell true 4 s4]) .ret (Env.put s6 v6001 (Env.put s5 v4009 (Env.put s4 v2000 e))) H10001 k8003
theorem Tryz.cOk109 : (compFn Tryz.prog Tryz.f109).map (bodyK 109) = some Tryz.c109 := by kernel_rfl
def Tryz.c129 : FnK := fun rec recD args H => startK 2 args fun e =>
 seqK (fun K3 =>
 caK rec 130 [(Env.get s0 e), (Env.get s1 e)] H fun v5000 H5000 =>
 unK .not v5000 fun v5001 =>
 condK v5001 (K3 .ret (Env.put s4 (.b false) (Env.put s8 v5001 (Env.put s4 (.b false) e))) H5000 (Ctl.mk [] .none))
 (K3 .norm (Env.put s8 v5001 (Env.put s4 (.b false) e)) H5000 (Ctl.mk [] .none))) (fun k3 e3 H3 =>
 caK rec 152 [(Env.get s0 e3)] H3 fun v5000 H5000 =>
 (endK recD [.slot s4]) .ret (Env.put s4 (.b true) e3) H5000 k3) (endK recD [.slot s4])
theorem Tryz.cOk129 : (compFn Tryz.prog Tryz.f129).map (bodyK 129) = some Tryz.c129 := by kernel_rfl
def Tryz.c130 : FnK := fun rec recD args H => startK 2 args fun e =>
 newK [(.i .i64 0), (.i .i64 0), (.i .i64 0)] H fun v4000 H4000 =>
 caK rec 78 [(Env.get s0 e)] H4000 fun v4001 H4001 =>
 exK 0 v4001 fun v4002 =>
 exK 1 v4001 fun v4003 =>
 stK 3 v4002 v4000 H4001 fun H4004 =>
 faK 0 v4000 fun v6000 =>
 ldK false 1 v6000 H4004 fun v6001 =>
 binK .eql .no v6001 (.i .i64 1) fun v6002 =>
 gdK v6002 false (fun R6003 => faK 0 v4000 fun v6003 =>
 R6003 v6003 H4004 (Ctl.mk [] .none)) H4004 (Ctl.mk [] .none) fun v6003 H6003 k6003 =>
 gdK v6002 false (fun R6004 => ldK false 1 v6003 H6003 fun v6004 =>
 R6004 v6004 H6003 k6003) H6003 k6003 fun v6004 H6004 k6004 =>
 gdK v6002 false (fun R6005 => binK .eql .no v6004 (.i .i64 5) fun v6005 =>
 R6005 v6005 H6004 k6004) H6004 k6004 fun v6005 H6005 k6005 =>
 pkK v6002 (.b true) v6005 fun v6006 =>
 gdK v6006 true (fun R6007 => R6007 v4003 H6005 k6005) H6005 k6005 fun v6007 H6007 k6007 =>
 gdK v6006 true (fun R6008 => R6008 (Env.get s1 e) H6007 k6007) H6007 k6007 fun v6008 H6008 k6008 =>
 gdK v6006 true (fun R6009 => binK .eql .no v6007 v6008 fun v6009 =>
 R6009 v6009 H6008 k6008) H6008 k6008 fun v6009 H6009 k6009 =>
 pkK v6006 v6009 (.b false) fun v6010 =>
 (endK recD [.slot s4]) .ret (Env.put s4 v6010 (Env.put s5 v4000 (Env.put s6 v4003 (Env.put s4 (.b false) e)))) H6009 k6009
theorem Tryz.cOk130 : (compFn Tryz.prog Tryz.f130).map (bodyK 130) = some Tryz.c130 := by kernel_rfl
def Tryz.c132 : FnK := fun rec recD args H => startK 2 args fun e =>
 ldK false 1 (Env.get s1 e) H fun v2000 =>
 lnK .sl H v2000 fun v2001 =>
 binK .sub .no v2001 (.i .i64 1) fun v2002 =>
 blockK 0 (fun K3 =>
 loopK (fun k4 e4 H4 K4 =>
 seqK (fun K5 =>
 binK .geq .no (Env.get s3 e4) (.i .i64 0) fun v7000 =>
 condK v7000 (K5 .norm (Env.put s8 v7000 e4) H4 k4)
 (K5 (.exit 0) (Env.put s8 v7000 e4) H4 k4)) (fun k5 e5 H5 =>
 seqK (fun K6 =>
 blockK 1 (fun K7 =>
 ldK false 1 (Env.get s1 e5) H5 fun v9000 =>
 iaK .none 1 v9000 (Env.get s3 e5) fun v9001 =>
 ldK false 1 v9001 H5 fun v9002 =>
 genK roundT rec (.callV (.s s0) [(.s s3), (.l 0)]) k5 e5 [v9002, v9001, v9000] H5 fun v9003 H9003 k9003 =>
 unK .not v9003 fun v9004 =>
 condK v9004 (K7 .ret (Env.put s18 v9004 e5) H9003 k9003)
 (K7 .norm (Env.put s18 v9004 e5) H9003 k9003)) K6) (fun k6 e6 H6 =>
 binK .sub .no (Env.get s3 e6) (.i .i64 1) fun v7000 =>
 K4 .norm (Env.put s3 v7000 e6) H6 k6) K4) K4) rounds K3 (Ctl.mk [] .none) (Env.put s3 v2002 e) H) (endK recD [])
theorem Tryz.cOk132 : (compFn Tryz.prog Tryz.f132).map (bodyK 132) = some Tryz.c132 := by kernel_rfl
def Tryz.c135 : FnK := fun rec recD args H => startK 4 args fun e =>
 genK roundT rec (.nilCheck (.s s0)) (Ctl.mk [] .none) (Env.put s8 (.i .i64 0) e) [] H fun v4000 H4000 k4000 =>
 faK 0 v4000 fun v4001 =>
 ldK false 1 v4001 H4000 fun v4002 =>
 caK rec 14 [v4002, (Env.get s1 e)] H4000 fun v4003 H4003 =>
 bdK [(.i .i64 0), (.i .i64 0), (.i .i64 0), (.i .i64 0), (.i .i64 0)] [(0, 1, (.i .i64 4)), (1, 1, v4003), (2, 1, (Env.get s1 e)), (3, 1, (Env.get s2 e)), (4, 1, (Env.get s3 e))] fun v4004 =>
 caK rec 50 [(Env.get s0 e), v4004] H4003 fun v4005 H4005 =>
 caK rec 87 [(Env.get s0 e), (Env.get s1 e), v4005] H4005 fun v4006 H4006 =>
 (endK recD [.slot s8]) .ret (Env.put s8 v4006 (Env.put s8 (.i .i64 0) e)) H4006 k4000
theorem Tryz.cOk135 : (compFn Tryz.prog Tryz.f135).map (bodyK 135) = some Tryz.c135 := by kernel_rfl
def Tryz.c138 : FnK := fun rec recD args H => startK 2 args fun e =>
 seqK (fun K5 =>
 genK roundT rec (.nilCheck (.s s0)) (Ctl.mk [] .none) (Env.put s5 .sl0 (Env.put s4 .sl0 e)) [] H fun v7000 H7000 k7000 =>
 faK 3 v7000 fun v7001 =>
 ldK false 1 v7001 H7000 fun v7002 =>
 genK roundT rec (.lookup .s .p0 false (.l 0) (.s s1)) k7000 (Env.put s5 .sl0 (Env.put s4 .sl0 e)) [v7002, v7001, v7000] H7000 fun v7003 H7003 k7003 =>
 blockK 0 (fun K8 =>
 loopK (fun k9 e9 H9 K9 =>
 seqK (fun K10 =>
 binK .neq .ptr (Env.get s6 e9) .p0 fun v12000 =>
 gdK v12000 true (fun R12001 => R12001 (Env.get s5 e9) H9 k9) H9 k9 fun v12001 H12001 k12001 =>
 gdK v12000 true (fun R12002 => lnK .sl H12001 v12001 fun v12002 =>
 R12002 v12002 H12001 k12001) H12001 k12001 fun v12002 H12002 k12002 =>
 gdK v12000 true (fun R12003 => R12003 (Env.get s0 e9) H12002 k12002) H12002 k12002 fun v12003 H12003 k12003 =>
 gdK v12000 true (fun R12004 => genK roundT rec (.nilCheck (.l 0)) k12003 e9 [v12003, v12002, v12001, v12000] H12003 fun v12004 H12004 k12004 =>
 R12004 v12004 H12004 k12004) H12003 k12003 fun v12004 H12004 k12004 =>
 gdK v12000 true (fun R12005 => faK 2 v12004 fun v12005 =>
 R12005 v12005 H12004 k12004) H12004 k12004 fun v12005 H12005 k12005 =>
 gdK v12000 true (fun R12006 => ldK false 1 v12005 H12005 fun v12006 =>
 R12006 v12006 H12005 k12005) H12005 k12005 fun v12006 H12006 k12006 =>
 gdK v12000 true (fun R12007 => lnK .sl H12006 v12006 fun v12007 =>
 R12007 v12007 H12006 k12006) H12006 k12006 fun v12007 H12007 k12007 =>
 gdK v12000 true (fun R12008 => binK .leq .no v12002 v12007 fun v12008 =>
 R12008 v12008 H12007 k12007) H12007 k12007 fun v12008 H12008 k12008 =>
 pkK v12000 v12008 (.b false) fun v12009 =>
 condK v12009 (K10 .norm (Env.put s24 v12009 e9) H12008 k12008)
 (K10 (.exit 0) (Env.put s24 v12009 e9) H12008 k12008)) (fun k10 e10 H10 =>
 seqK (fun K11 =>
 blockK 1 (fun K12 =>
 genK roundT rec (.nilCheck (.s s6)) k10 e10 [] H10 fun v13000 H13000 k13000 =>
 faK 0 v13000 fun v13001 =>
 ldK false 1 v13001 H13000 fun v13002 =>
 genK roundT rec (.buildSlice 1 1 [(.s [])] [(0, (.l 0))]) k13000 e10 [v13002, v13001, v13000] H13000 fun v13003 H13003 k13003 =>
 apK 1 [(.s [])] H13003 (Env.get s5 e10) v13003 fun v13004 H13004 =>
 K12 .norm (Env.put s5 v13004 e10) H13004 k13003) K11) (fun k11 e11 H11 =>
 genK roundT rec (.nilCheck (.s s0)) k11 e11 [] H11 fun v12000 H12000 k12000 =>
 faK 3 v12000 fun v12001 =>
 ldK false 1 v12001 H12000 fun v12002 =>
 genK roundT rec (.nilCheck (.s s6)) k12000 e11 [v12002, v12001, v12000] H12000 fun v12003 H12003 k12003 =>
 faK 2 v12003 fun v12004 =>
 ldK false 1 v12004 H12003 fun v12005 =>
 genK roundT rec (.lookup .s .p0 false (.l 3) (.l 0)) k12003 e11 [v12005, v12004, v12003, v12002, v12001, v12000] H12003 fun v12006 H12006 k12006 =>
 K9 .norm (Env.put s6 v12006 e11) H12006 k12006) K9) K9) rounds K8 k7003 (Env.put s6 v7003 (Env.put s5 .sl0 (Env.put s4 .sl0 e))) H7003) K5) (fun k5 e5 H5 =>
 (endK recD [.slot s4]) .ret (Env.put s4 (Env.get s5 e5) e5) H5 k5) (endK recD [.slot s4])
theorem Tryz.cOk138 : (compFn Tryz.prog Tryz.f138).map (bodyK 138) = some Tryz.c138 := by kernel_rfl
def Tryz.c140 : FnK := fun rec recD args H => startK 2 args fun e =>
 bxK (Env.get s0 e) H fun v2000 H2000 =>
 bxK (Env.get s1 e) H2000 fun v2001 H2001 =>
 ldK true 4 v2000 H2001 fun v4000 =>
 caK rec 49 [v4000] H2001 fun v4001 H4001 =>
 gdK v4001 true (fun R4002 => ldK true 4 v2001 H4001 fun v4002 =>
 R4002 v4002 H4001 (Ctl.mk [] .none)) H4001 (Ctl.mk [] .none) fun v4002 H4002 k4002 =>
 gdK v4001 true (fun R4003 => caK rec 49 [v4002] H4002 fun v4003 H4003 =>
 R4003 v4003 H4003 k4002) H4002 k4002 fun v4003 H4003 k4003 =>
 pkK v4001 v4003 (.b false) fun v4004 =>
 gdK v4004 true (fun R4005 => ldK true 4 v2000 H4003 fun v4005 =>
 R4005 v4005 H4003 k4003) H4003 k4003 fun v4005 H4005 k4005 =>
 gdK v4004 true (fun R4006 => ldK true 4 v2001 H4005 fun v4006 =>
 R4006 v4006 H4005 k4005) H4005 k4005 fun v4006 H4006 k4006 =>
 gdK v4004 true (fun R4007 => caK rec 158 [v4005] H4006 fun v4007 H4007 =>
 boolK (and (again ⟨.load true 4 (.s s3), (.some ((.l 1), true)), []⟩ v4006 (Env.put s2 v2000 (Env.put s3 v2001 (Env.put s4 (.b false) e))) [v4005, v4004, v4003, v4002, v4001, v4000] H4007) true) (R4007 v4007 H4007 k4006)) H4006 k4006 fun v4007 H4007 k4007 =>
 gdK v4004 true (fun R4008 => caK rec 158 [v4006] H4007 fun v4008 H4008 =>
 R4008 v4008 H4008 k4007) H4007 k4007 fun v4008 H4008 k4008 =>
 gdK v4004 true (fun R4009 => binK .eql (.flat [(0, .i), (1, .s), (2, .i), (3, .s)]) v4007 v4008 fun v4009 =>
 R4009 v4009 H4008 k4008) H4008 k4008 fun v4009 H4009 k4009 =>
 pkK v4004 v4009 (.b false) fun v4010 =>
 (endK recD [.slot s4]) .ret (Env.put s4 v4010 (Env.put s2 v2000 (Env.put s3 v2001 (Env.put s4 (.b false) e)))) H4009 k4009
theorem Tryz.cOk140 : (compFn Tryz.prog Tryz.f140).map (bodyK 140) = some Tryz.c140 := by kernel_rfl
def Tryz.c142 : FnK := fun rec recD args H => startK 2 args fun e =>
 newK [(.i .i64 0), (.i .i64 0)] H fun v2000 H2000 =>
 seqK (fun K3 =>
 genK roundT rec (.nilCheck (.s s0)) (Ctl.mk [] .none) (Env.put s4 v2000 e) [] H2000 fun v5000 H5000 k5000 =>
 faK 4 v5000 fun v5001 =>
 ldK false 1 v5001 H5000 fun v5002 =>
 lnK .sl H5000 v5002 fun v5003 =>
 blockK 0 (fun K6 =>
 loopK (fun k7 e7 H7 K7 =>
 binK .lss .no (Env.get s12 e7) (Env.get s11 e7) fun v9000 =>
 seqK (fun K10 =>
 condK v9000 (K10 .norm (Env.put s13 v9000 e7) H7 k7)
 (K10 (.exit 0) (Env.put s13 v9000 e7) H7 k7)) (fun k10 e10 H10 =>
 seqK (fun K11 =>
 blockK 1 (fun K12 =>
 iaK .none 1 (Env.get s10 e10) (Env.get s12 e10) fun v14000 =>
 ldK false 1 v14000 H10 fun v14001 =>
 genK roundT rec (.nilCheck (.s s0)) k10 (Env.put s6 v14001 e10) [] H10 fun v16000 H16000 k16000 =>
 faK 2 v16000 fun v16001 =>
 ldK false 1 v16001 H16000 fun v16002 =>
 iaK .none 7 v16002 v14001 fun v16003 =>
 faK 0 v16003 fun v16004 =>
 ldK false 1 v16004 H16000 fun v16005 =>
 genK roundT rec (.nilCheck (.s s0)) k16000 (Env.put s6 v14001 e10) [v16005, v16004, v16003, v16002, v16001, v16000] H16000 fun v16006 H16006 k16006 =>
 faK 0 v16006 fun v16007 =>
 faK 0 v16007 fun v16008 =>
 ldK false 1 v16008 H16006 fun v16009 =>
 iaK .none 13 v16009 (Env.get s1 e10) fun v16010 =>
 faK 4 v16010 fun v16011 =>
 ldK false 1 v16011 H16006 fun v16012 =>
 binK .eql .no v16005 v16012 fun v16013 =>
 condK v16013 (genK roundT rec (.nilCheck (.s s0)) k16006 (Env.put s33 v16013 (Env.put s6 v14001 e10)) [] H16006 fun v19000 H19000 k19000 =>
 faK 3 v19000 fun v19001 =>
 ldK false 1 v19001 H19000 fun v19002 =>
 genK roundT rec (.mapUpd .i (.l 0) (.s s1) (.s s6)) k19000 (Env.put s33 v16013 (Env.put s6 v14001 e10)) [v19002, v19001, v19000] H19000 fun v19003 H19003 k19003 =>
 bdK [(.i .i64 0), (.i .i64 0)] [] fun v21000 =>
 stK 2 v21000 (Env.get s4 e10) H19003 fun H21001 =>
 K12 .ret (Env.put s33 v16013 (Env.put s6 v14001 e10)) H21001 k19003)
 (K12 .norm (Env.put s33 v16013 (Env.put s6 v14001 e10)) H16006 k16006)) K11) (fun k11 e11 H11 =>
 binK .add .no (Env.get s12 e11) (.i .i64 1) fun v12000 =>
 K7 .norm (Env.put s12 v12000 e11) H11 k11) K7) K7) rounds K6 k5000 (Env.put s10 v5002 (Env.put s11 v5003 (Env.put s12 (.i .i64 0) (Env.put s4 v2000 e)))) H5000) K3) (fun k3 e3 H3 =>
 caK rec 159 [(Env.get s0 e3), (.i .i64 3), (Env.get s1 e3)] H3 fun v5000 H5000 =>
 stK 2 v5000 (Env.get s4 e3) H5000 fun H5001 =>
 (endK recD [.cell true 2 s4]) .ret e3 H5001 k3) (endK recD [.cell true 2 s4])
theorem Tryz.cOk142 : (compFn Tryz.prog Tryz.f142).map (bodyK 142) = some Tryz.c142 := by kernel_rfl
def Tryz.c144 : FnK := fun rec recD args H => startK 3 args fun e =>
 bxK (Env.get s2 e) H fun v2000 H2000 =>
 newK [(.i .i64 0), (.s []), (.i .i64 0), (.s [])] H2000 fun v2001 H2001 =>
 seqK (fun K3 =>
 faK 0 v2000 fun v5000 =>
 ldK false 1 v5000 H2001 fun v5001 =>
 blockK 0 (fun K6 =>
 seqK (fun K7 =>
 binK .eql .no v5001 (.i .i64 19) fun v9000 =>
 condK v9000 (K7 .norm (Env.put s10 v9000 (Env.put s9 v5001 (Env.put s5 v2000 (Env.put s6 v2001 e)))) H2001 (Ctl.mk [] .none))
 (binK .eql .no v5001 (.i .i64 38) fun v11000 =>
 K7 .norm (Env.put s10 v11000 (Env.put s10 v9000 (Env.put s9 v5001 (Env.put s5 v2000 (Env.put s6 v2001 e))))) H2001 (Ctl.mk [] .none))) (fun k7 e7 H7 =>
 condK (Env.get s10 e7) (caK rec 162 [(.i .i64 1)] H7 fun v10000 H10000 =>
 stK 4 v10000 (Env.get s6 e7) H10000 fun H10001 =>
 K6 .ret e7 H10001 k7)
 (binK .eql .no (Env.get s9 e7) (.i .i64 20) fun v10000 =>
 condK v10000 (caK rec 162 [(.i .i64 3)] H7 fun v13000 H13000 =>
 stK 4 v13000 (Env.get s6 e7) H13000 fun H13001 =>
 K6 .ret (Env.put s14 v10000 e7) H13001 k7)
 (binK .eql .no (Env.get s9 e7) (.i .i64 21) fun v13000 =>
 condK v13000 (caK rec 162 [(.i .i64 2)] H7 fun v16000 H16000 =>
 stK 4 v16000 (Env.get s6 e7) H16000 fun H16001 =>
 K6 .ret (Env.put s17 v13000 (Env.put s14 v10000 e7)) H16001 k7)
 (binK .eql .no (Env.get s9 e7) (.i .i64 22) fun v16000 =>
 condK v16000 (caK rec 162 [(.i .i64 4)] H7 fun v19000 H19000 =>
 stK 4 v19000 (Env.get s6 e7) H19000 fun H19001 =>
 K6 .ret (Env.put s20 v16000 (Env.put s17 v13000 (Env.put s14 v10000 e7))) H19001 k7)
 (binK .eql .no (Env.get s9 e7) (.i .i64 23) fun v19000 =>
 condK v19000 (caK rec 82 [] H7 fun v22000 H22000 =>
 stK 4 v22000 (Env.get s6 e7) H22000 fun H22001 =>
 K6 .ret (Env.put s23 v19000 (Env.put s20 v16000 (Env.put s17 v13000 (Env.put s14 v10000 e7)))) H22001 k7)
 (binK .eql .no (Env.get s9 e7) (.i .i64 42) fun v22000 =>
 condK v22000 (caK rec 83 [] H7 fun v25000 H25000 =>
 stK 4 v25000 (Env.get s6 e7) H25000 fun H25001 =>
 K6 .ret (Env.put s26 v22000 (Env.put s23 v19000 (Env.put s20 v16000 (Env.put s17 v13000 (Env.put s14 v10000 e7))))) H25001 k7)
 (binK .eql .no (Env.get s9 e7) (.i .i64 24) fun v25000 =>
 condK v25000 (genK roundT rec (.nilCheck (.s s0)) k7 (Env.put s29 v25000 (Env.put s26 v22000 (Env.put s23 v19000 (Env.put s20 v16000 (Env.put s17 v13000 (Env.put s14 v10000 e7)))))) [] H7 fun v28000 H28000 k28000 =>
 faK 0 v28000 fun v28001 =>
 ldK false 1 v28001 H28000 fun v28002 =>
 genK roundT rec (.nilCheck (.l 0)) k28000 (Env.put s29 v25000 (Env.put s26 v22000 (Env.put s23 v19000 (Env.put s20 v16000 (Env.put s17 v13000 (Env.put s14 v10000 e7)))))) [v28002, v28001, v28000] H28000 fun v28003 H28003 k28003 =>
 faK 6 v28003 fun v28004 =>
 ldK false 1 v28004 H28003 fun v28005 =>
 genK roundT rec (.nilCheck (.s s0)) k28003 (Env.put s29 v25000 (Env.put s26 v22000 (Env.put s23 v19000 (Env.put s20 v16000 (Env.put s17 v13000 (Env.put s14 v10000 e7)))))) [v28005, v28004, v28003, v28002, v28001, v28000] H28003 fun v28006 H28006 k28006 =>
 faK 1 v28006 fun v28007 =>
 ldK false 1 v28007 H28006 fun v28008 =>
 iaK .none 8 v28005 v28008 fun v28009 =>
 faK 0 v28009 fun v28010 =>
 ldK false 1 v28010 H28006 fun v28011 =>
 bdK [(.i .i64 0), (.s []), (.i .i64 0), (.s [])] [(0, 1, (.i .i64 5)), (1, 1, v28011), (3, 1, (.s [32]))] fun v28012 =>
 stK 4 v28012 (Env.get s6 e7) H28006 fun H28013 =>
 K6 .ret (Env.put s29 v25000 (Env.put s26 v22000 (Env.put s23 v19000 (Env.put s20 v16000 (Env.put s17 v13000 (Env.put s14 v10000 e7)))))) H28013 k28006)
 (binK .eql .no (Env.get s9 e7) (.i .i64 25) fun v28000 =>
 condK v28000 (genK roundT rec (.nilCheck (.s s0)) k7 (Env.put s46 v28000 (Env.put s29 v25000 (Env.put s26 v22000 (Env.put s23 v19000 (Env.put s20 v16000 (Env.put s17 v13000 (Env.put s14 v10000 e7))))))) [] H7 fun v31000 H31000 k31000 =>
 faK 0 v31000 fun v31001 =>
 ldK false 1 v31001 H31000 fun v31002 =>
 genK roundT rec (.nilCheck (.l 0)) k31000 (Env.put s46 v28000 (Env.put s29 v25000 (Env.put s26 v22000 (Env.put s23 v19000 (Env.put s20 v16000 (Env.put s17 v13000 (Env.put s14 v10000 e7))))))) [v31002, v31001, v31000] H31000 fun v31003 H31003 k31003 =>
 faK 6 v31003 fun v31004 =>
 ldK false 1 v31004 H31003 fun v31005 =>
 genK roundT rec (.nilCheck (.s s0)) k31003 (Env.put s46 v28000 (Env.put s29 v25000 (Env.put s26 v22000 (Env.put s23 v19000 (Env.put s20 v16000 (Env.put s17 v13000 (Env.put s14 v10000 e7))))))) [v31005, v31004, v31003, v31002, v31001, v31000] H31003 fun v31006 H31006 k31006 =>
 faK 1 v31006 fun v31007 =>
 ldK false 1 v31007 H31006 fun v31008 =>
 iaK .none 8 v31005 v31008 fun v31009 =>
 faK 7 v31009 fun v31010 =>
 ldK false 1 v31010 H31006 fun v31011 =>
 genK roundT rec (.nilCheck (.s s0)) k31006 (Env.put s46 v28000 (Env.put s29 v25000 (Env.put s26 v22000 (Env.put s23 v19000 (Env.put s20 v16000 (Env.put s17 v13000 (Env.put s14 v10000 e7))))))) [v31011, v31010, v31009, v31008, v31007, v31006, v31005, v31004, v31003, v31002, v31001, v31000] H31006 fun v31012 H31012 k31012 =>
 faK 0 v31012 fun v31013 =>
 ldK false 1 v31013 H31012 fun v31014 =>
 genK roundT rec (.nilCheck (.l 0)) k31012 (Env.put s46 v28000 (Env.put s29 v25000 (Env.put s26 v22000 (Env.put s23 v19000 (Env.put s20 v16000 (Env.put s17 v13000 (Env.put s14 v10000 e7))))))) [v31014, v31013, v31012, v31011, v31010, v31009, v31008, v31007, v31006, v31005, v31004, v31003, v31002, v31001, v31000] H31012 fun v31015 H31015 k31015 =>
 faK 3 v31015 fun v31016 =>
 ldK false 1 v31016 H31015 fun v31017 =>
 iaK .none 1 v31017 (Env.get s1 e7) fun v31018 =>
 ldK false 1 v31018 H31015 fun v31019 =>
 caK rec 30 [v31011] H31015 fun v31020 H31020 =>
 boolK (and (again ⟨.load false 1 (.l 0), .none, []⟩ v31019 (Env.put s46 v28000 (Env.put s29 v25000 (Env.put s26 v22000 (Env.put s23 v19000 (Env.put s20 v16000 (Env.put s17 v13000 (Env.put s14 v10000 e7))))))) [v31018, v31017, v31016, v31015, v31014, v31013, v31012, v31011, v31010, v31009, v31008, v31007, v31006, v31005, v31004, v31003, v31002, v31001, v31000] H31020) (and (again ⟨.load false 1 (.l 0), .none, []⟩ v31017 (Env.put s46 v28000 (Env.put s29 v25000 (Env.put s26 v22000 (Env.put s23 v19000 (Env.put s20 v16000 (Env.put s17 v13000 (Env.put s14 v10000 e7))))))) [v31016, v31015, v31014, v31013, v31012, v31011, v31010, v31009, v31008, v31007, v31006, v31005, v31004, v31003, v31002, v31001, v31000] H31020) (and (again ⟨.load false 1 (.l 0), .none, []⟩ v31014 (Env.put s46 v28000 (Env.put s29 v25000 (Env.put s26 v22000 (Env.put s23 v19000 (Env.put s20 v16000 (Env.put s17 v13000 (Env.put s14 v10000 e7))))))) [v31013, v31012, v31011, v31010, v31009, v31008, v31007, v31006, v31005, v31004, v31003, v31002, v31001, v31000] H31020) true))) (iaK .none 7 v31020 v31019 fun v31021 =>
 faK 1 v31021 fun v31022 =>
 ldK true 4 v31022 H31020 fun v31023 =>
 stK 4 v31023 (Env.get s6 e7) H31020 fun H31024 =>
 K6 .ret (Env.put s46 v28000 (Env.put s29 v25000 (Env.put s26 v22000 (Env.put s23 v19000 (Env.put s20 v16000 (Env.put s17 v13000 (Env.put s14 v10000 e7))))))) H31024 k31015))
 (binK .eql .no (Env.get s9 e7) (.i .i64 36) fun v31000 =>
 condK v31000 (faK 3 (Env.get s5 e7) fun v34000 =>
 ldK false 1 v34000 H7 fun v34001 =>
 iaK .none 1 v34001 (.i .i64 0) fun v34002 =>
 ldK false 1 v34002 H7 fun v34003 =>
 caK rec 110 [(Env.get s0 e7), v34003, (.i .i64 3)] H7 fun v34004 H34004 =>
 caK rec 162 [(.i .i64 1)] H34004 fun v36000 H36000 =>
 stK 4 v36000 (Env.get s6 e7) H36000 fun H36001 =>
 K6 .ret (Env.put s76 v31000 (Env.put s46 v28000 (Env.put s29 v25000 (Env.put s26 v22000 (Env.put s23 v19000 (Env.put s20 v16000 (Env.put s17 v13000 (Env.put s14 v10000 e7)))))))) H36001 k7)
 (binK .eql .no (Env.get s9 e7) (.i .i64 37) fun v34000 =>
 condK v34000 (faK 3 (Env.get s5 e7) fun v37000 =>
 ldK false 1 v37000 H7 fun v37001 =>
 iaK .none 1 v37001 (.i .i64 0) fun v37002 =>
 ldK false 1 v37002 H7 fun v37003 =>
 caK rec 110 [(Env.get s0 e7), v37003, (.i .i64 1)] H7 fun v37004 H37004 =>
 caK rec 162 [(.i .i64 3)] H37004 fun v39000 H39000 =>
 stK 4 v39000 (Env.get s6 e7) H39000 fun H39001 =>
 K6 .ret (Env.put s85 v34000 (Env.put s76 v31000 (Env.put s46 v28000 (Env.put s29 v25000 (Env.put s26 v22000 (Env.put s23 v19000 (Env.put s20 v16000 (Env.put s17 v13000 (Env.put s14 v10000 e7))))))))) H39001 k7)
 (binK .eql .no (Env.get s9 e7) (.i .i64 33) fun v37000 =>
 condK v37000 (faK 3 (Env.get s5 e7) fun v40000 =>
 ldK false 1 v40000 H7 fun v40001 =>
 iaK .none 1 v40001 (.i .i64 0) fun v40002 =>
 ldK false 1 v40002 H7 fun v40003 =>
 caK rec 110 [(Env.get s0 e7), v40003, (.i .i64 2)] H7 fun v40004 H40004 =>
 caK rec 162 [(.i .i64 2)] H40004 fun v42000 H42000 =>
 stK 4 v42000 (Env.get s6 e7) H42000 fun H42001 =>
 K6 .ret (Env.put s94 v37000 (Env.put s85 v34000 (Env.put s76 v31000 (Env.put s46 v28000 (Env.put s29 v25000 (Env.put s26 v22000 (Env.put s23 v19000 (Env.put s20 v16000 (Env.put s17 v13000 (Env.put s14 v10000 e7)))))))))) H42001 k7)
 (binK .eql .no (Env.get s9 e7) (.i .i64 32) fun v40000 =>
 condK v40000 (faK 3 (Env.get s5 e7) fun v43000 =>
 ldK false 1 v43000 H7 fun v43001 =>
 iaK .none 1 v43001 (.i .i64 0) fun v43002 =>
 ldK false 1 v43002 H7 fun v43003 =>
 newK [(.i .i64 0), (.s []), (.i .i64 0), (.s [])] H7 fun v43004 H43004 =>
 caK rec 109 [(Env.get s0 e7), v43003] H43004 fun v43005 H43005 =>
 stK 4 v43005 v43004 H43005 fun H43006 =>
 seqK (fun K44 =>
 ldK true 4 v43004 H43006 fun v46000 =>
 caK rec 163 [v46000] H43006 fun v46001 H46001 =>
 unK .not v46001 fun v46002 =>
 condK v46002 (genK roundT rec (.nilCheck (.s s0)) k7 (Env.put s113 v46002 (Env.put s7 v43004 (Env.put s103 v40000 (Env.put s94 v37000 (Env.put s85 v34000 (Env.put s76 v31000 (Env.put s46 v28000 (Env.put s29 v25000 (Env.put s26 v22000 (Env.put s23 v19000 (Env.put s20 v16000 (Env.put s17 v13000 (Env.put s14 v10000 e7))))))))))))) [] H46001 fun v48000 H48000 k48000 =>
 faK 0 v48000 fun v48001 =>
 ldK false 1 v48001 H48000 fun v48002 =>
 faK 3 (Env.get s5 e7) fun v48003 =>
 ldK false 1 v48003 H48000 fun v48004 =>
 iaK .none 1 v48004 (.i .i64 0) fun v48005 =>
 ldK false 1 v48005 H48000 fun v48006 =>
 caK rec 105 [v48002, (.i .i64 130), v48006] H48000 fun v48007 H48007 =>
 K44 .norm (Env.put s113 v46002 (Env.put s7 v43004 (Env.put s103 v40000 (Env.put s94 v37000 (Env.put s85 v34000 (Env.put s76 v31000 (Env.put s46 v28000 (Env.put s29 v25000 (Env.put s26 v22000 (Env.put s23 v19000 (Env.put s20 v16000 (Env.put s17 v13000 (Env.put s14 v10000 e7))))))))))))) H48007 k48000)
 (K44 .norm (Env.put s113 v46002 (Env.put s7 v43004 (Env.put s103 v40000 (Env.put s94 v37000 (Env.put s85 v34000 (Env.put s76 v31000 (Env.put s46 v28000 (Env.put s29 v25000 (Env.put s26 v22000 (Env.put s23 v19000 (Env.put s20 v16000 (Env.put s17 v13000 (Env.put s14 v10000 e7))))))))))))) H46001 k7)) (fun k44 e44 H44 =>
 ldK true 4 (Env.get s7 e44) H44 fun v46000 =>
 stK 4 v46000 (Env.get s6 e44) H44 fun H46001 =>
 K6 .ret e44 H46001 k44) K6)
 (binK .eql .no (Env.get s9 e7) (.i .i64 34) fun v43000 =>
 condK v43000 (ldK true 13 (Env.get s5 e7) H7 fun v46000 =>
 caK rec 164 [(Env.get s0 e7), v46000] H7 fun v46001 H46001 =>
 stK 4 v46001 (Env.get s6 e7) H46001 fun H46002 =>
 K6 .ret (Env.put s124 v43000 (Env.put s103 v40000 (Env.put s94 v37000 (Env.put s85 v34000 (Env.put s76 v31000 (Env.put s46 v28000 (Env.put s29 v25000 (Env.put s26 v22000 (Env.put s23 v19000 (Env.put s20 v16000 (Env.put s17 v13000 (Env.put s14 v10000 e7)))))))))))) H46002 k7)
 (seqK (fun K45 =>
 binK .eql .no (Env.get s9 e7) (.i .i64 26) fun v47000 =>
 condK v47000 (K45 .norm (Env.put s129 v47000 (Env.put s124 v43000 (Env.put s103 v40000 (Env.put s94 v37000 (Env.put s85 v34000 (Env.put s76 v31000 (Env.put s46 v28000 (Env.put s29 v25000 (Env.put s26 v22000 (Env.put s23 v19000 (Env.put s20 v16000 (Env.put s17 v13000 (Env.put s14 v10000 e7))))))))))))) H7 k7)
 (binK .eql .no (Env.get s9 e7) (.i .i64 27) fun v50000 =>
 condK v50000 (K45 .norm (Env.put s129 v50000 (Env.put s129 v47000 (Env.put s124 v43000 (Env.put s103 v40000 (Env.put s94 v37000 (Env.put s85 v34000 (Env.put s76 v31000 (Env.put s46 v28000 (Env.put s29 v25000 (Env.put s26 v22000 (Env.put s23 v19000 (Env.put s20 v16000 (Env.put s17 v13000 (Env.put s14 v10000 e7)))))))))))))) H7 k7)
 (binK .eql .no (Env.get s9 e7) (.i .i64 28) fun v53000 =>
 condK v53000 (K45 .norm (Env.put s129 v53000 (Env.put s129 v50000 (Env.put s129 v47000 (Env.put s124 v43000 (Env.put s103 v40000 (Env.put s94 v37000 (Env.put s85 v34000 (Env.put s76 v31000 (Env.put s46 v28000 (Env.put s29 v25000 (Env.put s26 v22000 (Env.put s23 v19000 (Env.put s20 v16000 (Env.put s17 v13000 (Env.put s14 v10000 e7))))))))))))))) H7 k7)
 (binK .eql .no (Env.get s9 e7) (.i .i64 29) fun v55000 =>
 K45 .norm (Env.put s129 v55000 (Env.put s129 v53000 (Env.put s129 v50000 (Env.put s129 v47000 (Env.put s124 v43000 (Env.put s103 v40000 (Env.put s94 v37000 (Env.put s85 v34000 (Env.put s76 v31000 (Env.put s46 v28000 (Env.put s29 v25000 (Env.put s26 v22000 (Env.put s23 v19000 (Env.put s20 v16000 (Env.put s17 v13000 (Env.put s14 v10000 e7)))))))))))))))) H7 k7)))) (fun k45 e45 H45 =>
 condK (Env.get s129 e45) (ldK true 13 (Env.get s5 e45) H45 fun v48000 =>
 caK rec 165 [(Env.get s0 e45), (Env.get s1 e45), v48000] H45 fun v48001 H48001 =>
 stK 4 v48001 (Env.get s6 e45) H48001 fun H48002 =>
 K6 .ret e45 H48002 k45)
 (seqK (fun K47 =>
 binK .eql .no (Env.get s9 e45) (.i .i64 30) fun v49000 =>
 condK v49000 (K47 .norm (Env.put s138 v49000 e45) H45 k45)
 (binK .eql .no (Env.get s9 e45) (.i .i64 31) fun v52000 =>
 condK v52000 (K47 .norm (Env.put s138 v52000 (Env.put s138 v49000 e45)) H45 k45)
 (binK .eql .no (Env.get s9 e45) (.i .i64 35) fun v54000 =>
 K47 .norm (Env.put s138 v54000 (Env.put s138 v52000 (Env.put s138 v49000 e45))) H45 k45))) (fun k47 e47 H47 =>
 condK (Env.get s138 e47) (ldK true 13 (Env.get s5 e47) H47 fun v50000 =>
 caK rec 166 [(Env.get s0 e47), (Env.get s1 e47), v50000] H47 fun v50001 H50001 =>
 stK 4 v50001 (Env.get s6 e47) H50001 fun H50002 =>
 K6 .ret e47 H50002 k47)
 (K6 .norm e47 H47 k47)) K6)) K6)))))))))))))) K6) K3) (fun k3 e3 H3 =>
 ldK true 13 (Env.get s5 e3) H3 fun v5000 =>
 caK rec 167 [(Env.get s0 e3), (Env.get s1 e3), v5000] H3 fun v5001 H5001 =>
 stK 4 v5001 (Env.get s6 e3) H5001 fun H5002 =>
 (endK recD [.cell true 4 s6]) .ret e3 H5002 k3) (endK recD [.cell true 4 s6])
theorem Tryz.cOk144 : (compFn Tryz.prog Tryz.f144).map (bodyK 144) = some Tryz.c144 := by kernel_rfl
def Tryz.c154 : FnK := fun rec recD args H => startK 1 args fun e =>
 caK rec 127 [(Env.get s0 e), (.s [40])] H fun v6000 H6000 =>
 seqK (fun K7 =>
 blockK 0 (fun K8 =>
 loopK (fun k9 e9 H9 K9 =>
 seqK (fun K10 =>
 caK rec 129 [(Env.get s0 e9), (.s [41])] H9 fun v12000 H12000 =>
 unK .not v12000 fun v12001 =>
 condK v12001 (K10 .norm (Env.put s11 v12001 e9) H12000 k9)
 (K10 (.exit 0) (Env.put s11 v12001 e9) H12000 k9)) (fun k10 e10 H10 =>
 blockK 1 (fun K11 =>
 seqK (fun K12 =>
 lnK .sl H10 (Env.get s3 e10) fun v14000 =>
 binK .gtr .no v14000 (.i .i64 0) fun v14001 =>
 condK v14001 (caK rec 127 [(Env.get s0 e10), (.s [44])] H10 fun v16000 H16000 =>
 K12 .norm (Env.put s14 v14001 e10) H16000 k10)
 (K12 .norm (Env.put s14 v14001 e10) H10 k10)) (fun k12 e12 H12 =>
 lnK .sl H12 (Env.get s3 e12) fun v14000 =>
 binK .add .no v14000 (.i .i64 1) fun v14001 =>
 caK rec 79 [(Env.get s0 e12), v14001] H12 fun v14002 H14002 =>
 newK [(.i .i64 0), (.i .i64 0), (.i .i64 0)] H14002 fun v16000 H16000 =>
 caK rec 78 [(Env.get s0 e12)] H16000 fun v16001 H16001 =>
 exK 0 v16001 fun v16002 =>
 exK 1 v16001 fun v16003 =>
 stK 3 v16002 v16000 H16001 fun H16004 =>
 newK [(.i .i64 0), (.i .i64 0), (.i .i64 0), .sl0, (.s []), (.i .i64 0), (.s []), (.i .i64 0), (.s []), (.i .i64 0), (.i .i64 0), (.i .i64 0), .sl0] H16004 fun v18000 H18000 =>
 caK rec 156 [(Env.get s0 e12), (.b false)] H18000 fun v18001 H18001 =>
 stK 13 v18001 v18000 H18001 fun H18002 =>
 faK 0 v18000 fun v20000 =>
 caK rec 128 [(Env.get s0 e12)] H18002 fun v20001 H20001 =>
 stK 1 (.i .i64 7) v20000 H20001 fun H20002 =>
 faK 4 v18000 fun v20003 =>
 stK 1 v20001 v20003 H20002 fun H20004 =>
 ldK true 13 v18000 H20004 fun v21000 =>
 faK 1 v16000 fun v21001 =>
 faK 0 v21001 fun v21002 =>
 ldK false 1 v21002 H20004 fun v21003 =>
 caK rec 81 [(Env.get s0 e12), v21000, v21003] H20004 fun v21004 H21004 =>
 genK roundT rec (.buildSlice 1 1 [(.i .i64 0)] [(0, (.l 0))]) k12 (Env.put s6 v18000 (Env.put s4 v16000 e12)) [v21004, v21003, v21002, v21001, v21000] H21004 fun v21005 H21005 k21005 =>
 apK 1 [(.i .i64 0)] H21005 (Env.get s3 e12) v21005 fun v21006 H21006 =>
 K11 .norm (Env.put s3 v21006 (Env.put s6 v18000 (Env.put s4 v16000 e12))) H21006 k21005) K11) K9) K9) rounds K8 (Ctl.mk [] .none) (Env.put s3 .sl0 (Env.put s2 .sl0 e)) H6000) K7) (fun k7 e7 H7 =>
 (endK recD [.slot s2]) .ret (Env.put s2 (Env.get s3 e7) e7) H7 k7) (endK recD [.slot s2])
theorem Tryz.cOk154 : (compFn Tryz.prog Tryz.f154).map (bodyK 154) = some Tryz.c154 := by kernel_rfl
def Tryz.c162 : FnK := fun rec recD args H => startK 1 args fun e =>
 newK [(.i .i64 0), (.s []), (.i .i64 0), (.s [])] H fun v2000 H2000 =>
 bdK [(.i .i64 0), (.s []), (.i .i64 0), (.s [])] [(0, 1, (Env.get s0 e)), (3, 1, (.s [32]))] fun v4000 =>
 stK 4 v4000 v2000 H2000 fun H4001 =>
 (endK recD [.cell true 4 s2]) .ret (Env.put s2 v2000 e) H4001 (Ctl.mk [] .none)
theorem Tryz.cOk162 : (compFn Tryz.prog Tryz.f162).map (bodyK 162) = some Tryz.c162 := by kernel_rfl
def Tryz.c165 : FnK := fun rec recD args H => startK 3 args fun e =>
 bxK (Env.get s2 e) H fun v2000 H2000 =>
 newK [(.i .i64 0), (.s []), (.i .i64 0), (.s [])] H2000 fun v2001 H2001 =>
 faK 3 v2000 fun v4000 =>
 ldK false 1 v4000 H2001 fun v4001 =>
 iaK .none 1 v4001 (.i .i64 0) fun v4002 =>
 ldK false 1 v4002 H2001 fun v4003 =>
 seqK (fun K5 =>
 faK 0 v2000 fun v7000 =>
 ldK false 1 v7000 H2001 fun v7001 =>
 blockK 0 (fun K8 =>
 binK .eql .no v7001 (.i .i64 26) fun v10000 =>
 condK v10000 (genK roundT rec (.nilCheck (.s s0)) (Ctl.mk [] .none) (Env.put s20 v10000 (Env.put s19 v7001 (Env.put s7 v4003 (Env.put s5 v2000 (Env.put s6 v2001 e))))) [] H2001 fun v13000 H13000 k13000 =>
 faK 0 v13000 fun v13001 =>
 ldK false 1 v13001 H13000 fun v13002 =>
 genK roundT rec (.nilCheck (.l 0)) k13000 (Env.put s20 v10000 (Env.put s19 v7001 (Env.put s7 v4003 (Env.put s5 v2000 (Env.put s6 v2001 e))))) [v13002, v13001, v13000] H13000 fun v13003 H13003 k13003 =>
 faK 5 v13003 fun v13004 =>
 ldK false 1 v13004 H13003 fun v13005 =>
 faK 4 v2000 fun v13006 =>
 ldK false 1 v13006 H13003 fun v13007 =>
 newK [(.s []), (.s []), (.i .i64 0), (.i .i64 0), (.s []), (.i .i64 0), (.s []), .sl0] H13003 fun v13008 H13008 =>
 caK rec 177 [(Env.get s0 e), v4003] H13008 fun v13009 H13009 =>
 boolK (and (again ⟨.load false 1 (.l 0), .none, []⟩ v13007 (Env.put s20 v10000 (Env.put s19 v7001 (Env.put s7 v4003 (Env.put s5 v2000 (Env.put s6 v2001 e))))) [v13006, v13005, v13004, v13003, v13002, v13001, v13000] H13009) (and (again ⟨.load false 1 (.l 0), .none, []⟩ v13005 (Env.put s20 v10000 (Env.put s19 v7001 (Env.put s7 v4003 (Env.put s5 v2000 (Env.put s6 v2001 e))))) [v13004, v13003, v13002, v13001, v13000] H13009) (and (again ⟨.load false 1 (.l 0), .none, []⟩ v13002 (Env.put s20 v10000 (Env.put s19 v7001 (Env.put s7 v4003 (Env.put s5 v2000 (Env.put s6 v2001 e))))) [v13001, v13000] H13009) true))) (caK rec 98 [v13005, v13009, v13007] H13009 fun v13010 H13010 =>
 exK 0 v13010 fun v13011 =>
 exK 1 v13010 fun v13012 =>
 stK 8 v13011 v13008 H13010 fun H13013 =>
 seqK (fun K14 =>
 unK .not v13012 fun v16000 =>
 condK v16000 (genK roundT rec (.nilCheck (.s s0)) k13003 (Env.put s39 v16000 (Env.put s8 v13008 (Env.put s9 v13012 (Env.put s20 v10000 (Env.put s19 v7001 (Env.put s7 v4003 (Env.put s5 v2000 (Env.put s6 v2001 e)))))))) [] H13013 fun v18000 H18000 k18000 =>
 faK 0 v18000 fun v18001 =>
 ldK false 1 v18001 H18000 fun v18002 =>
 caK rec 105 [v18002, (.i .i64 3), (Env.get s1 e)] H18000 fun v18003 H18003 =>
 K14 .norm (Env.put s39 v16000 (Env.put s8 v13008 (Env.put s9 v13012 (Env.put s20 v10000 (Env.put s19 v7001 (Env.put s7 v4003 (Env.put s5 v2000 (Env.put s6 v2001 e)))))))) H18003 k18000)
 (K14 .norm (Env.put s39 v16000 (Env.put s8 v13008 (Env.put s9 v13012 (Env.put s20 v10000 (Env.put s19 v7001 (Env.put s7 v4003 (Env.put s5 v2000 (Env.put s6 v2001 e)))))))) H13013 k13003)) (fun k14 e14 H14 =>
 faK 3 (Env.get s8 e14) fun v16000 =>
 ldK true 4 v16000 H14 fun v16001 =>
 stK 4 v16001 (Env.get s6 e14) H14 fun H16002 =>
 K8 .ret e14 H16002 k14) K8))
 (binK .eql .no v7001 (.i .i64 29) fun v13000 =>
 condK v13000 (genK roundT rec (.nilCheck (.s s0)) (Ctl.mk [] .none) (Env.put s48 v13000 (Env.put s20 v10000 (Env.put s19 v7001 (Env.put s7 v4003 (Env.put s5 v2000 (Env.put s6 v2001 e)))))) [] H2001 fun v16000 H16000 k16000 =>
 faK 0 v16000 fun v16001 =>
 ldK false 1 v16001 H16000 fun v16002 =>
 genK roundT rec (.nilCheck (.l 0)) k16000 (Env.put s48 v13000 (Env.put s20 v10000 (Env.put s19 v7001 (Env.put s7 v4003 (Env.put s5 v2000 (Env.put s6 v2001 e)))))) [v16002, v16001, v16000] H16000 fun v16003 H16003 k16003 =>
 faK 5 v16003 fun v16004 =>
 ldK false 1 v16004 H16003 fun v16005 =>
 faK 4 v2000 fun v16006 =>
 ldK false 1 v16006 H16003 fun v16007 =>
 newK [(.s []), (.s []), (.i .i64 0), (.i .i64 0), (.s []), (.i .i64 0), (.s []), .sl0] H16003 fun v16008 H16008 =>
 caK rec 177 [(Env.get s0 e), v4003] H16008 fun v16009 H16009 =>
 boolK (and (again ⟨.load false 1 (.l 0), .none, []⟩ v16007 (Env.put s48 v13000 (Env.put s20 v10000 (Env.put s19 v7001 (Env.put s7 v4003 (Env.put s5 v2000 (Env.put s6 v2001 e)))))) [v16006, v16005, v16004, v16003, v16002, v16001, v16000] H16009) (and (again ⟨.load false 1 (.l 0), .none, []⟩ v16005 (Env.put s48 v13000 (Env.put s20 v10000 (Env.put s19 v7001 (Env.put s7 v4003 (Env.put s5 v2000 (Env.put s6 v2001 e)))))) [v16004, v16003, v16002, v16001, v16000] H16009) (and (again ⟨.load false 1 (.l 0), .none, []⟩ v16002 (Env.put s48 v13000 (Env.put s20 v10000 (Env.put s19 v7001 (Env.put s7 v4003 (Env.put s5 v2000 (Env.put s6 v2001 e)))))) [v16001, v16000] H16009) true))) (caK rec 99 [v16005, v16009, v16007] H16009 fun v16010 H16010 =>
 exK 0 v16010 fun v16011 =>
 exK 1 v16010 fun v16012 =>
 stK 8 v16011 v16008 H16010 fun H16013 =>
 seqK (fun K17 =>
 unK .not v16012 fun v19000 =>
 condK v19000 (genK roundT rec (.nilCheck (.s s0)) k16003 (Env.put s67 v19000 (Env.put s10 v16008 (Env.put s11 v16012 (Env.put s48 v13000 (Env.put s20 v10000 (Env.put s19 v7001 (Env.put s7 v4003 (Env.put s5 v2000 (Env.put s6 v2001 e))))))))) [] H16013 fun v21000 H21000 k21000 =>
 faK 0 v21000 fun v21001 =>
 ldK false 1 v21001 H21000 fun v21002 =>
 caK rec 105 [v21002, (.i .i64 3), (Env.get s1 e)] H21000 fun v21003 H21003 =>
 K17 .norm (Env.put s67 v19000 (Env.put s10 v16008 (Env.put s11 v16012 (Env.put s48 v13000 (Env.put s20 v10000 (Env.put s19 v7001 (Env.put s7 v4003 (Env.put s5 v2000 (Env.put s6 v2001 e))))))))) H21003 k21000)
 (K17 .norm (Env.put s67 v19000 (Env.put s10 v16008 (Env.put s11 v16012 (Env.put s48 v13000 (Env.put s20 v10000 (Env.put s19 v7001 (Env.put s7 v4003 (Env.put s5 v2000 (Env.put s6 v2001 e))))))))) H16013 k16003)) (fun k17 e17 H17 =>
 faK 3 (Env.get s5 e17) fun v19000 =>
 ldK false 1 v19000 H17 fun v19001 =>
 slK (.some 1) v19001 (.some (.i .i64 1)) .none .none fun v19002 =>
 faK 7 (Env.get s10 e17) fun v19003 =>
 ldK false 1 v19003 H17 fun v19004 =>
 caK rec 107 [(Env.get s0 e17), (Env.get s1 e17), v19002, v19004] H17 fun v19005 H19005 =>
 faK 3 (Env.get s10 e17) fun v21000 =>
 ldK true 4 v21000 H19005 fun v21001 =>
 stK 4 v21001 (Env.get s6 e17) H19005 fun H21002 =>
 K8 .ret e17 H21002 k17) K8))
 (K8 .norm (Env.put s48 v13000 (Env.put s20 v10000 (Env.put s19 v7001 (Env.put s7 v4003 (Env.put s5 v2000 (Env.put s6 v2001 e)))))) H2001 (Ctl.mk [] .none)))) K5) (fun k5 e5 H5 =>
 newK [(.i .i64 0), (.s []), (.i .i64 0), (.s [])] H5 fun v7000 H7000 =>
 caK rec 109 [(Env.get s0 e5), (Env.get s7 e5)] H7000 fun v7001 H7001 =>
 caK rec 178 [v7001] H7001 fun v7002 H7002 =>
 exK 0 v7002 fun v7003 =>
 exK 1 v7002 fun v7004 =>
 stK 4 v7003 v7000 H7002 fun H7005 =>
 seqK (fun K8 =>
 binK .neq .no v7004 (.i .i64 0) fun v10000 =>
 condK v10000 (genK roundT rec (.nilCheck (.s s0)) k5 (Env.put s92 v10000 (Env.put s12 v7000 (Env.put s13 v7004 e5))) [] H7005 fun v12000 H12000 k12000 =>
 faK 0 v12000 fun v12001 =>
 ldK false 1 v12001 H12000 fun v12002 =>
 caK rec 105 [v12002, (.i .i64 130), (Env.get s7 e5)] H12000 fun v12003 H12003 =>
 K8 .norm (Env.put s92 v10000 (Env.put s12 v7000 (Env.put s13 v7004 e5))) H12003 k12000)
 (K8 .norm (Env.put s92 v10000 (Env.put s12 v7000 (Env.put s13 v7004 e5))) H7005 k5)) (fun k8 e8 H8 =>
 seqK (fun K9 =>
 faK 0 (Env.get s5 e8) fun v11000 =>
 ldK false 1 v11000 H8 fun v11001 =>
 binK .eql .no v11001 (.i .i64 28) fun v11002 =>
 condK v11002 (caK rec 162 [(.i .i64 1)] H8 fun v14000 H14000 =>
 stK 4 v14000 (Env.get s6 e8) H14000 fun H14001 =>
 K9 .ret (Env.put s101 v11002 e8) H14001 k8)
 (K9 .norm (Env.put s101 v11002 e8) H8 k8)) (fun k9 e9 H9 =>
 faK 3 (Env.get s5 e9) fun v11000 =>
 ldK false 1 v11000 H9 fun v11001 =>
 iaK .none 1 v11001 (.i .i64 1) fun v11002 =>
 ldK false 1 v11002 H9 fun v11003 =>
 caK rec 110 [(Env.get s0 e9), v11003, (.i .i64 1)] H9 fun v11004 H11004 =>
 ldK true 4 (Env.get s12 e9) H11004 fun v13000 =>
 stK 4 v13000 (Env.get s6 e9) H11004 fun H13001 =>
 (endK recD [.cell true 4 s6]) .ret e9 H13001 k9) (endK recD [.cell true 4 s6])) (endK recD [.cell true 4 s6])) (endK recD [.cell true 4 s6])
theorem Tryz.cOk165 : (compFn Tryz.prog Tryz.f165).map (bodyK 165) = some Tryz.c165 := by kernel_rfl
def Tryz.c170 : FnK := fun rec recD args H => startK 2 args fun e =>
 genK roundT rec (.ext 999 []) (Ctl.mk [] .none) (Env.put s4 (.i .i64 0) e) [] H fun v4000 H4000 k4000 =>
 (endK recD [.slot s4]) .ret (Env.put s4 v4000 (Env.put s4 (.i .i64 0) e)) H4000 k4000
theorem Tryz.cOk170 : (compFn Tryz.prog Tryz.f170).map (bodyK 170) = some Tryz.c170 := by kernel_rfl
def Tryz.c172 : FnK := fun rec recD args H => startK 1 args fun e =>
 binK .neq .no (Env.get s0 e) (.s []) fun v4000 =>
 gdK v4000 true (fun R4001 => R4001 (Env.get s0 e) H (Ctl.mk [] .none)) H (Ctl.mk [] .none) fun v4001 H4001 k4001 =>
 gdK v4000 true (fun R4002 => caK rec 150 [v4001, (.i .u8 32)] H4001 fun v4002 H4002 =>
 R4002 v4002 H4002 k4001) H4001 k4001 fun v4002 H4002 k4002 =>
 gdK v4000 true (fun R4003 => binK .lss .no v4002 (.i .i64 0) fun v4003 =>
 R4003 v4003 H4002 k4002) H4002 k4002 fun v4003 H4003 k4003 =>
 pkK v4000 v4003 (.b false) fun v4004 =>
 gdK v4004 true (fun R4005 => R4005 (Env.get s0 e) H4003 k4003) H4003 k4003 fun v4005 H4005 k4005 =>
 gdK v4004 true (fun R4006 => binK .add .no (.s [32]) v4005 fun v4006 =>
 R4006 v4006 H4005 k4005) H4005 k4005 fun v4006 H4006 k4006 =>
 gdK v4004 true (fun R4007 => binK .add .no v4006 (.s [32]) fun v4007 =>
 R4007 v4007 H4006 k4006) H4006 k4006 fun v4007 H4007 k4007 =>
 gdK v4004 true (fun R4008 => caK rec 151 [(.s [32, 99, 108, 97, 115, 115, 32, 101, 120, 116, 101, 110, 100, 115, 32, 105, 110, 105, 116, 32, 105, 110, 116, 32, 98, 111, 111, 108, 32, 100, 111, 117, 98, 108, 101, 32, 115, 116, 114, 32, 118, 111, 105, 100, 32, 79, 112, 116, 105, 111, 110, 32, 105, 102, 32, 101, 108, 115, 101, 32, 119, 104, 105, 108, 101, 32, 98, 114, 101, 97, 107, 32, 99, 111, 110, 116, 105, 110, 117, 101, 32, 114, 101, 116, 117, 114, 110, 32, 112, 114, 105, 110, 116, 32, 115, 117, 112, 101, 114, 32, 116, 104, 105, 115, 32, 110, 117, 108, 108, 32, 110, 111, 110, 101, 32, 115, 111, 109, 101, 32, 105, 115, 32, 116, 114, 117, 101, 32, 102, 97, 108, 115, 101, 32, 110, 101, 119, 32, 99, 97, 115, 116, 32, 116, 111, 105, 110, 116, 32, 116, 111, 100, 111, 117, 98, 108, 101, 32, 105, 110, 112, 117, 116, 32, 97, 115, 107, 32, 108, 101, 110, 103, 116, 104, 32, 118, 97, 108, 32]), v4007] H4007 fun v4008 H4008 =>
 R4008 v4008 H4008 k4007) H4007 k4007 fun v4008 H4008 k4008 =>
 pkK v4004 v4008 (.b false) fun v4009 =>
 (endK recD [.slot s2]) .ret (Env.put s2 v4009 (Env.put s2 (.b false) e)) H4008 k4008
theorem Tryz.cOk172 : (compFn Tryz.prog Tryz.f172).map (bodyK 172) = some Tryz.c172 := by kernel_rfl
def Tryz.c173 : FnK := fun rec recD args H => startK 1 args fun e =>
 genK roundT rec (.nilCheck (.s s0)) (Ctl.mk [] .none) e [] H fun v2000 H2000 k2000 =>
 faK 3 v2000 fun v2001 =>
 ldK false 1 v2001 H2000 fun v2002 =>
 binK .add .no v2002 (.i .i64 1) fun v2003 =>
 genK roundT rec (.nilCheck (.s s0)) k2000 e [v2003, v2002, v2001, v2000] H2000 fun v2004 H2004 k2004 =>
 faK 3 v2004 fun v2005 =>
 stK 1 v2003 v2005 H2004 fun H2006 =>
 genK roundT rec (.nilCheck (.s s0)) k2004 e [] H2006 fun v4000 H4000 k4000 =>
 faK 3 v4000 fun v4001 =>
 ldK false 1 v4001 H4000 fun v4002 =>
 binK .gtr .no v4002 (.i .i64 60) fun v4003 =>
 condK v4003 (newK [(.i .i64 0), (.i .i64 0), (.i .i64 0)] H4000 fun v7000 H7000 =>
 caK rec 78 [(Env.get s0 e)] H7000 fun v7001 H7001 =>
 exK 0 v7001 fun v7002 =>
 exK 1 v7001 fun v7003 =>
 stK 3 v7002 v7000 H7001 fun H7004 =>
 faK 1 v7000 fun v8000 =>
 faK 0 v8000 fun v8001 =>
 ldK false 1 v8001 H7004 fun v8002 =>
 caK rec 126 [(.i .i64 6), v8002] H7004 fun v8003 H8003 =>
 (endK recD []) .norm (Env.put s2 v7000 (Env.put s15 v4003 e)) H8003 k4000)
 ((endK recD []) .norm (Env.put s15 v4003 e) H4000 k4000)
theorem Tryz.cOk173 : (compFn Tryz.prog Tryz.f173).map (bodyK 173) = some Tryz.c173 := by kernel_rfl
def Tryz.c189 : FnK := fun rec recD args H => startK 2 args fun e =>
 newK [(.i .i64 0), (.i .i64 0), (.i .i64 0)] H fun v4000 H4000 =>
 caK rec 78 [(Env.get s0 e)] H4000 fun v4001 H4001 =>
 exK 0 v4001 fun v4002 =>
 exK 1 v4001 fun v4003 =>
 stK 3 v4002 v4000 H4001 fun H4004 =>
 seqK (fun K5 =>
 caK rec 194 [(Env.get s0 e), (.i .i64 1)] H4004 fun v7000 H7000 =>
 exK 0 v7000 fun v7001 =>
 exK 1 v7000 fun v7002 =>
 caK rec 130 [(Env.get s0 e), (.s [91])] H7000 fun v9000 H9000 =>
 unK .not v9000 fun v9001 =>
 gdK v9001 false (fun R9002 => R9002 v7002 H9000 (Ctl.mk [] .none)) H9000 (Ctl.mk [] .none) fun v9002 H9002 k9002 =>
 gdK v9001 false (fun R9003 => binK .neq .no v9002 (.s [93]) fun v9003 =>
 R9003 v9003 H9002 k9002) H9002 k9002 fun v9003 H9003 k9003 =>
 pkK v9001 (.b true) v9003 fun v9004 =>
 condK v9004 (K5 .ret (Env.put s4 (.b false) (Env.put s25 v9004 (Env.put s8 v7002 (Env.put s5 v4000 (Env.put s4 (.b false) e))))) H9003 k9003)
 (K5 .norm (Env.put s25 v9004 (Env.put s8 v7002 (Env.put s5 v4000 (Env.put s4 (.b false) e)))) H9003 k9003)) (fun k5 e5 H5 =>
 seqK (fun K6 =>
 genK roundT rec (.nilCheck (.s s1)) k5 e5 [] H5 fun v8000 H8000 k8000 =>
 faK 5 v8000 fun v8001 =>
 faK 2 v8001 fun v8002 =>
 ldK false 1 v8002 H8000 fun v8003 =>
 binK .eql .no v8003 (.i .i64 4) fun v8004 =>
 condK v8004 (faK 1 (Env.get s5 e5) fun v10000 =>
 faK 0 v10000 fun v10001 =>
 ldK false 1 v10001 H8000 fun v10002 =>
 caK rec 126 [(.i .i64 2), v10002] H8000 fun v10003 H10003 =>
 K6 .norm (Env.put s31 v8004 e5) H10003 k8000)
 (K6 .norm (Env.put s31 v8004 e5) H8000 k8000)) (fun k6 e6 H6 =>
 caK rec 152 [(Env.get s0 e6)] H6 fun v8000 H8000 =>
 caK rec 152 [(Env.get s0 e6)] H8000 fun v10000 H10000 =>
 genK roundT rec (.nilCheck (.s s1)) k6 e6 [v10000] H10000 fun v10001 H10001 k10001 =>
 faK 10 v10001 fun v10002 =>
 faK 1 v10002 fun v10003 =>
 stK 1 v10000 v10003 H10001 fun H10004 =>
 genK roundT rec (.nilCheck (.s s1)) k10001 e6 [] H10004 fun v12000 H12000 k12000 =>
 faK 5 v12000 fun v12001 =>
 faK 2 v12001 fun v12002 =>
 ldK false 1 v12002 H12000 fun v12003 =>
 binK .add .no v12003 (.i .i64 1) fun v12004 =>
 genK roundT rec (.nilCheck (.s s1)) k12000 e6 [v12004, v12003, v12002, v12001, v12000] H12000 fun v12005 H12005 k12005 =>
 faK 5 v12005 fun v12006 =>
 faK 2 v12006 fun v12007 =>
 stK 1 v12004 v12007 H12005 fun H12008 =>
 genK roundT rec (.nilCheck (.s s1)) k12005 e6 [] H12008 fun v14000 H14000 k14000 =>
 faK 5 v14000 fun v14001 =>
 faK 3 v14001 fun v14002 =>
 ldK false 1 v14002 H14000 fun v14003 =>
 binK .add .no v14003 (.s [32]) fun v14004 =>
 genK roundT rec (.nilCheck (.s s1)) k14000 e6 [v14004, v14003, v14002, v14001, v14000] H14000 fun v14005 H14005 k14005 =>
 faK 5 v14005 fun v14006 =>
 faK 3 v14006 fun v14007 =>
 stK 1 v14004 v14007 H14005 fun H14008 =>
 genK roundT rec (.nilCheck (.s s1)) k14005 e6 [] H14008 fun v16000 H16000 k16000 =>
 faK 12 v16000 fun v16001 =>
 ldK false 1 v16001 H16000 fun v16002 =>
 genK roundT rec (.nilCheck (.s s1)) k16000 e6 [v16002, v16001, v16000] H16000 fun v16003 H16003 k16003 =>
 faK 10 v16003 fun v16004 =>
 faK 1 v16004 fun v16005 =>
 ldK false 1 v16005 H16003 fun v16006 =>
 genK roundT rec (.buildSlice 1 1 [(.i .i64 0)] [(0, (.l 0))]) k16003 e6 [v16006, v16005, v16004, v16003, v16002, v16001, v16000] H16003 fun v16007 H16007 k16007 =>
 apK 1 [(.i .i64 0)] H16007 v16002 v16007 fun v16008 H16008 =>
 genK roundT rec (.nilCheck (.s s1)) k16007 e6 [v16008, v16007, v16006, v16005, v16004, v16003, v16002, v16001, v16000] H16008 fun v16009 H16009 k16009 =>
 faK 12 v16009 fun v16010 =>
 stK 1 v16008 v16010 H16009 fun H16011 =>
 (endK recD [.slot s4]) .ret (Env.put s4 (.b true) e6) H16011 k16009) (endK recD [.slot s4])) (endK recD [.slot s4])
theorem Tryz.cOk189 : (compFn Tryz.prog Tryz.f189).map (bodyK 189) = some Tryz.c189 := by kernel_rfl
def Tryz.c197 : FnK := fun rec recD args H => startK 1 args fun e =>
 caK rec 127 [(Env.get s0 e), (.s [40])] H fun v6000 H6000 =>
 seqK (fun K7 =>
 blockK 0 (fun K8 =>
 loopK (fun k9 e9 H9 K9 =>
 seqK (fun K10 =>
 caK rec 129 [(Env.get s0 e9), (.s [41])] H9 fun v12000 H12000 =>
 unK .not v12000 fun v12001 =>
 condK v12001 (K10 .norm (Env.put s8 v12001 e9) H12000 k9)
 (K10 (.exit 0) (Env.put s8 v12001 e9) H12000 k9)) (fun k10 e10 H10 =>
 blockK 1 (fun K11 =>
 seqK (fun K12 =>
 lnK .sl H10 (Env.get s3 e10) fun v14000 =>
 binK .gtr .no v14000 (.i .i64 0) fun v14001 =>
 condK v14001 (caK rec 127 [(Env.get s0 e10), (.s [44])] H10 fun v16000 H16000 =>
 K12 .norm (Env.put s11 v14001 e10) H16000 k10)
 (K12 .norm (Env.put s11 v14001 e10) H10 k10)) (fun k12 e12 H12 =>
 lnK .sl H12 (Env.get s3 e12) fun v14000 =>
 binK .add .no v14000 (.i .i64 1) fun v14001 =>
 caK rec 79 [(Env.get s0 e12), v14001] H12 fun v14002 H14002 =>
 caK rec 184 [(Env.get s0 e12)] H14002 fun v15000 H15000 =>
 genK roundT rec (.buildSlice 1 1 [(.i .i64 0)] [(0, (.l 0))]) k12 e12 [v15000] H15000 fun v15001 H15001 k15001 =>
 apK 1 [(.i .i64 0)] H15001 (Env.get s3 e12) v15001 fun v15002 H15002 =>
 K11 .norm (Env.put s3 v15002 e12) H15002 k15001) K11) K9) K9) rounds K8 (Ctl.mk [] .none) (Env.put s3 .sl0 (Env.put s2 .sl0 e)) H6000) K7) (fun k7 e7 H7 =>
 (endK recD [.slot s2]) .ret (Env.put s2 (Env.get s3 e7) e7) H7 k7) (endK recD [.slot s2])
theorem Tryz.cOk197 : (compFn Tryz.prog Tryz.f197).map (bodyK 197) = some Tryz.c197 := by kernel_rfl
def Tryz.c223 : FnK := fun rec recD args H => startK 3 args fun e =>
 seqK (fun K3 =>
 binK .eql .no (Env.get s0 e) (.s []) fun v5000 =>
 condK v5000 (genK roundT rec (.mkIface 271 (.c (.i .i64 2))) (Ctl.mk [] .none) (Env.put s19 v5000 (Env.put s6 (.i .u64 0) (Env.put s7 .if0 e))) [] H fun v8000 H8000 k8000 =>
 K3 .ret (Env.put s6 (.i .u64 0) (Env.put s7 v8000 (Env.put s19 v5000 (Env.put s6 (.i .u64 0) (Env.put s7 .if0 e))))) H8000 k8000)
 (K3 .norm (Env.put s19 v5000 (Env.put s6 (.i .u64 0) (Env.put s7 .if0 e))) H (Ctl.mk [] .none))) (fun k3 e3 H3 =>
 binK .eql .no (Env.get s1 e3) (.i .i64 0) fun v5000 =>
 seqK (fun K8 =>
 blockK 0 (fun K9 =>
 binK .leq .no (.i .i64 2) (Env.get s1 e3) fun v11000 =>
 gdK v11000 true (fun R11001 => R11001 (Env.get s1 e3) H3 k3) H3 k3 fun v11001 H11001 k11001 =>
 gdK v11000 true (fun R11002 => binK .leq .no v11001 (.i .i64 36) fun v11002 =>
 R11002 v11002 H11001 k11001) H11001 k11001 fun v11002 H11002 k11002 =>
 pkK v11000 v11002 (.b false) fun v11003 =>
 condK v11003 (K9 .norm (Env.put s25 v11003 (Env.put s9 (Env.get s0 e3) (Env.put s8 v5000 e3))) H11002 k11002)
 (binK .eql .no (Env.get s1 e3) (.i .i64 0) fun v14000 =>
 condK v14000 (ixK .none (Env.get s0 e3) (.i .i64 0) fun v19000 =>
 binK .eql .no v19000 (.i .u8 48) fun v19001 =>
 condK v19001 (blockK 1 (fun K21 =>
 lnK .s H11002 (Env.get s0 e3) fun v23000 =>
 binK .geq .no v23000 (.i .i64 3) fun v23001 =>
 gdK v23001 true (fun R23002 => R23002 (Env.get s0 e3) H11002 k11002) H11002 k11002 fun v23002 H23002 k23002 =>
 gdK v23001 true (fun R23003 => ixK .none v23002 (.i .i64 1) fun v23003 =>
 R23003 v23003 H23002 k23002) H23002 k23002 fun v23003 H23003 k23003 =>
 gdK v23001 true (fun R23004 => caK rec 230 [v23003] H23003 fun v23004 H23004 =>
 R23004 v23004 H23004 k23003) H23003 k23003 fun v23004 H23004 k23004 =>
 gdK v23001 true (fun R23005 => binK .eql .no v23004 (.i .u8 98) fun v23005 =>
 R23005 v23005 H23004 k23004) H23004 k23004 fun v23005 H23005 k23005 =>
 pkK v23001 v23005 (.b false) fun v23006 =>
 condK v23006 (slK .none (Env.get s0 e3) (.some (.i .i64 2)) .none .none fun v27000 =>
 K21 .norm (Env.put s0 v27000 (Env.put s1 (.i .i64 2) (Env.put s40 v23006 (Env.put s37 v19001 (Env.put s1 (.i .i64 10) (Env.put s32 v14000 (Env.put s25 v11003 (Env.put s9 (Env.get s0 e3) (Env.put s8 v5000 e3))))))))) H23005 k23005)
 (lnK .s H23005 (Env.get s0 e3) fun v26000 =>
 binK .geq .no v26000 (.i .i64 3) fun v26001 =>
 gdK v26001 true (fun R26002 => R26002 (Env.get s0 e3) H23005 k23005) H23005 k23005 fun v26002 H26002 k26002 =>
 gdK v26001 true (fun R26003 => ixK .none v26002 (.i .i64 1) fun v26003 =>
 R26003 v26003 H26002 k26002) H26002 k26002 fun v26003 H26003 k26003 =>
 gdK v26001 true (fun R26004 => caK rec 230 [v26003] H26003 fun v26004 H26004 =>
 R26004 v26004 H26004 k26003) H26003 k26003 fun v26004 H26004 k26004 =>
 gdK v26001 true (fun R26005 => binK .eql .no v26004 (.i .u8 111) fun v26005 =>
 R26005 v26005 H26004 k26004) H26004 k26004 fun v26005 H26005 k26005 =>
 pkK v26001 v26005 (.b false) fun v26006 =>
 condK v26006 (slK .none (Env.get s0 e3) (.some (.i .i64 2)) .none .none fun v30000 =>
 K21 .norm (Env.put s0 v30000 (Env.put s1 (.i .i64 8) (Env.put s52 v26006 (Env.put s40 v23006 (Env.put s37 v19001 (Env.put s1 (.i .i64 10) (Env.put s32 v14000 (Env.put s25 v11003 (Env.put s9 (Env.get s0 e3) (Env.put s8 v5000 e3)))))))))) H26005 k26005)
 (lnK .s H26005 (Env.get s0 e3) fun v29000 =>
 binK .geq .no v29000 (.i .i64 3) fun v29001 =>
 gdK v29001 true (fun R29002 => R29002 (Env.get s0 e3) H26005 k26005) H26005 k26005 fun v29002 H29002 k29002 =>
 gdK v29001 true (fun R29003 => ixK .none v29002 (.i .i64 1) fun v29003 =>
 R29003 v29003 H29002 k29002) H29002 k29002 fun v29003 H29003 k29003 =>
 gdK v29001 true (fun R29004 => caK rec 230 [v29003] H29003 fun v29004 H29004 =>
 R29004 v29004 H29004 k29003) H29003 k29003 fun v29004 H29004 k29004 =>
 gdK v29001 true (fun R29005 => binK .eql .no v29004 (.i .u8 120) fun v29005 =>
 R29005 v29005 H29004 k29004) H29004 k29004 fun v29005 H29005 k29005 =>
 pkK v29001 v29005 (.b false) fun v29006 =>
 condK v29006 (slK .none (Env.get s0 e3) (.some (.i .i64 2)) .none .none fun v33000 =>
 K21 .norm (Env.put s0 v33000 (Env.put s1 (.i .i64 16) (Env.put s64 v29006 (Env.put s52 v26006 (Env.put s40 v23006 (Env.put s37 v19001 (Env.put s1 (.i .i64 10) (Env.put s32 v14000 (Env.put s25 v11003 (Env.put s9 (Env.get s0 e3) (Env.put s8 v5000 e3))))))))))) H29005 k29005)
 (slK .none (Env.get s0 e3) (.some (.i .i64 1)) .none .none fun v33000 =>
 K21 .norm (Env.put s0 v33000 (Env.put s1 (.i .i64 8) (Env.put s64 v29006 (Env.put s52 v26006 (Env.put s40 v23006 (Env.put s37 v19001 (Env.put s1 (.i .i64 10) (Env.put s32 v14000 (Env.put s25 v11003 (Env.put s9 (Env.get s0 e3) (Env.put s8 v5000 e3))))))))))) H29005 k29005)))) K9)
 (K9 .norm (Env.put s37 v19001 (Env.put s1 (.i .i64 10) (Env.put s32 v14000 (Env.put s25 v11003 (Env.put s9 (Env.get s0 e3) (Env.put s8 v5000 e3)))))) H11002 k11002))
 (genK roundT rec (.mkIface 271 (.c (.i .i64 3))) k11002 (Env.put s32 v14000 (Env.put s25 v11003 (Env.put s9 (Env.get s0 e3) (Env.put s8 v5000 e3)))) [] H11002 fun v17000 H17000 k17000 =>
 K9 .ret (Env.put s6 (.i .u64 0) (Env.put s7 v17000 (Env.put s32 v14000 (Env.put s25 v11003 (Env.put s9 (Env.get s0 e3) (Env.put s8 v5000 e3)))))) H17000 k17000))) K8) (fun k8 e8 H8 =>
 seqK (fun K9 =>
 binK .eql .no (Env.get s2 e8) (.i .i64 0) fun v11000 =>
 condK v11000 (K9 .norm (Env.put s2 (.i .i64 64) (Env.put s77 v11000 e8)) H8 k8)
 (binK .lss .no (Env.get s2 e8) (.i .i64 0) fun v14000 =>
 gdK v14000 false (fun R14001 => R14001 (Env.get s2 e8) H8 k8) H8 k8 fun v14001 H14001 k14001 =>
 gdK v14000 false (fun R14002 => binK .gtr .no v14001 (.i .i64 64) fun v14002 =>
 R14002 v14002 H14001 k14001) H14001 k14001 fun v14002 H14002 k14002 =>
 pkK v14000 (.b true) v14002 fun v14003 =>
 condK v14003 (genK roundT rec (.mkIface 271 (.c (.i .i64 4))) k14002 (Env.put s83 v14003 (Env.put s77 v11000 e8)) [] H14002 fun v17000 H17000 k17000 =>
 K9 .ret (Env.put s6 (.i .u64 0) (Env.put s7 v17000 (Env.put s83 v14003 (Env.put s77 v11000 e8)))) H17000 k17000)
 (K9 .norm (Env.put s83 v14003 (Env.put s77 v11000 e8)) H14002 k14002))) (fun k9 e9 H9 =>
 seqK (fun K12 =>
 blockK 2 (fun K15 =>
 binK .eql .no (Env.get s1 e9) (.i .i64 10) fun v17000 =>
 condK v17000 (K15 .norm (Env.put s10 (.i .u64 1844674407370955162) (Env.put s90 v17000 (Env.put s85 (Env.get s1 e9) (Env.put s10 (.i .u64 0) e9)))) H9 k9)
 (binK .eql .no (Env.get s1 e9) (.i .i64 16) fun v20000 =>
 condK v20000 (K15 .norm (Env.put s10 (.i .u64 1152921504606846976) (Env.put s92 v20000 (Env.put s90 v17000 (Env.put s85 (Env.get s1 e9) (Env.put s10 (.i .u64 0) e9))))) H9 k9)
 (genK roundT rec (.convInt .u64 (.s s1)) k9 (Env.put s92 v20000 (Env.put s90 v17000 (Env.put s85 (Env.get s1 e9) (Env.put s10 (.i .u64 0) e9)))) [] H9 fun v22000 H22000 k22000 =>
 binK .quo .no (.i .u64 18446744073709551615) v22000 fun v22001 =>
 binK .add .no v22001 (.i .u64 1) fun v22002 =>
 K15 .norm (Env.put s10 v22002 (Env.put s92 v20000 (Env.put s90 v17000 (Env.put s85 (Env.get s1 e9) (Env.put s10 (.i .u64 0) e9))))) H22000 k22000))) K12) (fun k12 e12 H12 =>
 genK roundT rec (.convInt .u64 (.s s2)) k12 e12 [] H12 fun v14000 H14000 k14000 =>
 binK .shl .no (.i .u64 1) v14000 fun v14001 =>
 binK .sub .no v14001 (.i .u64 1) fun v14002 =>
 seqK (fun K19 =>
 genK roundT rec (.strBytes (.s s0)) k14000 (Env.put s13 (.i .u64 0) (Env.put s12 (.b false) (Env.put s11 v14002 e12))) [] H14000 fun v21000 H21000 k21000 =>
 lnK .sl H21000 v21000 fun v21001 =>
 blockK 3 (fun K22 =>
 loopK (fun k23 e23 H23 K23 =>
 binK .lss .no (Env.get s101 e23) (Env.get s100 e23) fun v25000 =>
 seqK (fun K26 =>
 condK v25000 (K26 .norm (Env.put s102 v25000 e23) H23 k23)
 (K26 (.exit 3) (Env.put s102 v25000 e23) H23 k23)) (fun k26 e26 H26 =>
 seqK (fun K27 =>
 blockK 4 (fun K28 =>
 iaK .none 1 (Env.get s99 e26) (Env.get s101 e26) fun v30000 =>
 ldK false 1 v30000 H26 fun v30001 =>
 seqK (fun K33 =>
 blockK 5 (fun K34 =>
 binK .eql .no v30001 (.i .u8 95) fun v36000 =>
 gdK v36000 true (fun R36001 => R36001 (Env.get s8 e26) H26 k26) H26 k26 fun v36001 H36001 k36001 =>
 pkK v36000 v36001 (.b false) fun v36002 =>
 condK v36002 (K34 (.exit 4) (Env.put s12 (.b true) (Env.put s106 v36002 (Env.put s16 (.i .u8 0) (Env.put s15 v30001 e26)))) H36001 k36001)
 (binK .leq .no (.i .u8 48) v30001 fun v39000 =>
 gdK v39000 true (fun R39001 => R39001 v30001 H36001 k36001) H36001 k36001 fun v39001 H39001 k39001 =>
 gdK v39000 true (fun R39002 => binK .leq .no v39001 (.i .u8 57) fun v39002 =>
 R39002 v39002 H39001 k39001) H39001 k39001 fun v39002 H39002 k39002 =>
 pkK v39000 v39002 (.b false) fun v39003 =>
 condK v39003 (binK .sub .no v30001 (.i .u8 48) fun v41000 =>
 K34 .norm (Env.put s16 v41000 (Env.put s112 v39003 (Env.put s106 v36002 (Env.put s16 (.i .u8 0) (Env.put s15 v30001 e26))))) H39002 k39002)
 (caK rec 230 [v30001] H39002 fun v42000 H42000 =>
 binK .leq .no (.i .u8 97) v42000 fun v42001 =>
 gdK v42001 true (fun R42002 => R42002 v30001 H42000 k39002) H42000 k39002 fun v42002 H42002 k42002 =>
 gdK v42001 true (fun R42003 => caK rec 230 [v42002] H42002 fun v42003 H42003 =>
 R42003 v42003 H42003 k42002) H42002 k42002 fun v42003 H42003 k42003 =>
 gdK v42001 true (fun R42004 => binK .leq .no v42003 (.i .u8 122) fun v42004 =>
 R42004 v42004 H42003 k42003) H42003 k42003 fun v42004 H42004 k42004 =>
 pkK v42001 v42004 (.b false) fun v42005 =>
 condK v42005 (caK rec 230 [v30001] H42004 fun v44000 H44000 =>
 binK .sub .no v44000 (.i .u8 97) fun v44001 =>
 binK .add .no v44001 (.i .u8 10) fun v44002 =>
 K34 .norm (Env.put s16 v44002 (Env.put s121 v42005 (Env.put s112 v39003 (Env.put s106 v36002 (Env.put s16 (.i .u8 0) (Env.put s15 v30001 e26)))))) H44000 k42004)
 (genK roundT rec (.mkIface 271 (.c (.i .i64 2))) k42004 (Env.put s121 v42005 (Env.put s112 v39003 (Env.put s106 v36002 (Env.put s16 (.i .u8 0) (Env.put s15 v30001 e26))))) [] H42004 fun v45000 H45000 k45000 =>
 K34 .ret (Env.put s6 (.i .u64 0) (Env.put s7 v45000 (Env.put s121 v42005 (Env.put s112 v39003 (Env.put s106 v36002 (Env.put s16 (.i .u8 0) (Env.put s15 v30001 e26))))))) H45000 k45000)))) K33) (fun k33 e33 H33 =>
 seqK (fun K34 =>
 genK roundT rec (.convInt .u8 (.s s1)) k33 e33 [] H33 fun v36000 H36000 k36000 =>
 binK .geq .no (Env.get s16 e33) v36000 fun v36001 =>
 condK v36001 (genK roundT rec (.mkIface 271 (.c (.i .i64 2))) k36000 (Env.put s137 v36001 e33) [] H36000 fun v39000 H39000 k39000 =>
 K34 .ret (Env.put s6 (.i .u64 0) (Env.put s7 v39000 (Env.put s137 v36001 e33))) H39000 k39000)
 (K34 .norm (Env.put s137 v36001 e33) H36000 k36000)) (fun k34 e34 H34 =>
 seqK (fun K35 =>
 binK .geq .no (Env.get s13 e34) (Env.get s10 e34) fun v37000 =>
 condK v37000 (genK roundT rec (.mkIface 271 (.c (.i .i64 1))) k34 (Env.put s141 v37000 e34) [] H34 fun v40000 H40000 k40000 =>
 K35 .ret (Env.put s6 (Env.get s11 e34) (Env.put s7 v40000 (Env.put s141 v37000 e34))) H40000 k40000)
 (K35 .norm (Env.put s141 v37000 e34) H34 k34)) (fun k35 e35 H35 =>
 genK roundT rec (.convInt .u64 (.s s1)) k35 e35 [] H35 fun v37000 H37000 k37000 =>
 binK .mul .no (Env.get s13 e35) v37000 fun v37001 =>
 genK roundT rec (.convInt .u64 (.s s16)) k37000 (Env.put s13 v37001 e35) [] H37000 fun v39000 H39000 k39000 =>
 binK .add .no v37001 v39000 fun v39001 =>
 seqK (fun K40 =>
 binK .lss .no v39001 v37001 fun v42000 =>
 gdK v42000 false (fun R42001 => R42001 v39001 H39000 k39000) H39000 k39000 fun v42001 H42001 k42001 =>
 gdK v42000 false (fun R42002 => R42002 (Env.get s11 e35) H42001 k42001) H42001 k42001 fun v42002 H42002 k42002 =>
 gdK v42000 false (fun R42003 => binK .gtr .no v42001 v42002 fun v42003 =>
 R42003 v42003 H42002 k42002) H42002 k42002 fun v42003 H42003 k42003 =>
 pkK v42000 (.b true) v42003 fun v42004 =>
 condK v42004 (genK roundT rec (.mkIface 271 (.c (.i .i64 1))) k42003 (Env.put s159 v42004 (Env.put s17 v39001 (Env.put s13 v37001 e35))) [] H42003 fun v45000 H45000 k45000 =>
 K40 .ret (Env.put s6 (Env.get s11 e35) (Env.put s7 v45000 (Env.put s159 v42004 (Env.put s17 v39001 (Env.put s13 v37001 e35))))) H45000 k45000)
 (K40 .norm (Env.put s159 v42004 (Env.put s17 v39001 (Env.put s13 v37001 e35))) H42003 k42003)) (fun k40 e40 H40 =>
 K28 .norm (Env.put s13 (Env.get s17 e40) e40) H40 k40) K28) K28) K28) K28) K27) (fun k27 e27 H27 =>
 binK .add .no (Env.get s101 e27) (.i .i64 1) fun v28000 =>
 K23 .norm (Env.put s101 v28000 e27) H27 k27) K23) K23) rounds K22 k21000 (Env.put s99 v21000 (Env.put s100 v21001 (Env.put s101 (.i .i64 0) (Env.put s13 (.i .u64 0) (Env.put s12 (.b false) (Env.put s11 v14002 e12)))))) H21000) K19) (fun k19 e19 H19 =>
 seqK (fun K20 =>
 gdK (Env.get s12 e19) true (fun R22000 => R22000 (Env.get s9 e19) H19 k19) H19 k19 fun v22000 H22000 k22000 =>
 gdK (Env.get s12 e19) true (fun R22001 => caK rec 231 [v22000] H22000 fun v22001 H22001 =>
 R22001 v22001 H22001 k22000) H22000 k22000 fun v22001 H22001 k22001 =>
 gdK (Env.get s12 e19) true (fun R22002 => unK .not v22001 fun v22002 =>
 R22002 v22002 H22001 k22001) H22001 k22001 fun v22002 H22002 k22002 =>
 pkK (Env.get s12 e19) v22002 (.b false) fun v22003 =>
 condK v22003 (genK roundT rec (.mkIface 271 (.c (.i .i64 2))) k22002 (Env.put s169 v22003 e19) [] H22002 fun v25000 H25000 k25000 =>
 K20 .ret (Env.put s6 (.i .u64 0) (Env.put s7 v25000 (Env.put s169 v22003 e19))) H25000 k25000)
 (K20 .norm (Env.put s169 v22003 e19) H22002 k22002)) (fun k20 e20 H20 =>
 (endK recD [.slot s6, .slot s7]) .ret (Env.put s6 (Env.get s13 e20) (Env.put s7 .if0 e20)) H20 k20) (endK recD [.slot s6, .slot s7])) (endK recD [.slot s6, .slot s7])) (endK recD [.slot s6, .slot s7])) (endK recD [.slot s6, .slot s7])) (endK recD [.slot s6, .slot s7])) (endK recD [.slot s6, .slot s7])
theorem Tryz.cOk223 : (compFn Tryz.prog Tryz.f223).map (bodyK 223) = some Tryz.c223 := by kernel_rfl
end
end Go.Proofs
