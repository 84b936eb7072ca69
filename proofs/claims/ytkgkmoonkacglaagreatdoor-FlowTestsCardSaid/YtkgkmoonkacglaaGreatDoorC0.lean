/- A part of the program's functions, printed as the executor's code, and that they are the program's. -/
import Derived.Test.YtkgkmoonkacglaaGreatDoorEng4
import Derived.Test.YtkgkmoonkacglaaGreatDoorEng1
import Derived.Test.YtkgkmoonkacglaaGreatDoorSlots
import Derived.Test.YtkgkmoonkacglaaGreatDoorProg
import Derived.KernelRfl
set_option autoImplicit false
set_option linter.all false
set_option autoImplicit false
set_option maxRecDepth 1000000
set_option linter.all false
namespace Go.Proofs
open Go Go.AX
noncomputable section
def Tryz.c7 : FnK := fun rec recD args H => startK 0 args fun e =>
 caK rec 8 [(.s [99, 108, 97, 115, 115, 32, 77, 97, 105, 110, 32, 123, 32, 105, 110, 116, 32, 109, 97, 105, 110, 40, 41, 32, 123, 32, 114, 101, 116, 117, 114, 110, 32, 49, 59, 32, 125, 32, 105, 110, 116, 32, 102, 40, 77, 97, 105, 110, 63, 32, 109, 44, 32, 77, 97, 105, 110, 32, 110, 41, 32, 123, 32, 105, 102, 32, 40, 109, 32, 61, 61, 32, 110, 117, 108, 108, 41, 32, 123, 32, 114, 101, 116, 117, 114, 110, 32, 110, 46, 109, 97, 105, 110, 40, 41, 59, 32, 125, 32, 109, 32, 61, 32, 109, 46, 103, 40, 41, 59, 32, 114, 101, 116, 117, 114, 110, 32, 109, 46, 109, 97, 105, 110, 40, 41, 59, 32, 125, 32, 77, 97, 105, 110, 63, 32, 103, 40, 41, 32, 123, 32, 114, 101, 116, 117, 114, 110, 32, 110, 117, 108, 108, 59, 32, 125, 32, 125])] H fun v4000 H4000 =>
 seqK (fun K5 =>
 binK .eql .ptr v4000 .p0 fun v7000 =>
 gdK v7000 false (fun R7001 => R7001 v4000 H4000 (Ctl.mk [] .none)) H4000 (Ctl.mk [] .none) fun v7001 H7001 k7001 =>
 gdK v7000 false (fun R7002 => caK rec 15 [v7001, (.i .i64 3), (.b true)] H7001 fun v7002 H7002 =>
 R7002 v7002 H7002 k7001) H7001 k7001 fun v7002 H7002 k7002 =>
 gdK v7000 false (fun R7003 => binK .neq .ptr v7002 .p0 fun v7003 =>
 R7003 v7003 H7002 k7002) H7002 k7002 fun v7003 H7003 k7003 =>
 pkK v7000 (.b true) v7003 fun v7004 =>
 condK v7004 (K5 .ret (Env.put s0 (.b false) (Env.put s14 v7004 (Env.put s1 v4000 (Env.put s0 (.b false) e)))) H7003 k7003)
 (K5 .norm (Env.put s14 v7004 (Env.put s1 v4000 (Env.put s0 (.b false) e))) H7003 k7003)) (fun k5 e5 H5 =>
 caK rec 15 [(Env.get s1 e5), (.i .i64 1), (.b false)] H5 fun v7000 H7000 =>
 caK rec 16 [(Env.get s1 e5), (.s [109])] H7000 fun v9000 H9000 =>
 caK rec 16 [(Env.get s1 e5), (.s [110])] H9000 fun v9001 H9001 =>
 seqK (fun K10 =>
 binK .eql .ptr v7000 .p0 fun v12000 =>
 gdK v12000 false (fun R12001 => R12001 v9000 H9001 k5) H9001 k5 fun v12001 H12001 k12001 =>
 gdK v12000 false (fun R12002 => lnK .sl H12001 v12001 fun v12002 =>
 R12002 v12002 H12001 k12001) H12001 k12001 fun v12002 H12002 k12002 =>
 gdK v12000 false (fun R12003 => binK .neq .no v12002 (.i .i64 4) fun v12003 =>
 R12003 v12003 H12002 k12002) H12002 k12002 fun v12003 H12003 k12003 =>
 pkK v12000 (.b true) v12003 fun v12004 =>
 gdK v12004 false (fun R12005 => R12005 v9001 H12003 k12003) H12003 k12003 fun v12005 H12005 k12005 =>
 gdK v12004 false (fun R12006 => lnK .sl H12005 v12005 fun v12006 =>
 R12006 v12006 H12005 k12005) H12005 k12005 fun v12006 H12006 k12006 =>
 gdK v12004 false (fun R12007 => binK .neq .no v12006 (.i .i64 1) fun v12007 =>
 R12007 v12007 H12006 k12006) H12006 k12006 fun v12007 H12007 k12007 =>
 pkK v12004 (.b true) v12007 fun v12008 =>
 condK v12008 (K10 .ret (Env.put s0 (.b false) (Env.put s32 v12008 (Env.put s3 v9000 (Env.put s4 v9001 (Env.put s2 v7000 e5))))) H12007 k12007)
 (K10 .norm (Env.put s32 v12008 (Env.put s3 v9000 (Env.put s4 v9001 (Env.put s2 v7000 e5)))) H12007 k12007)) (fun k10 e10 H10 =>
 iaK .none 1 (Env.get s4 e10) (.i .i64 0) fun v12000 =>
 ldK false 1 v12000 H10 fun v12001 =>
 caK rec 12 [(Env.get s1 e10), v12001] H10 fun v12002 H12002 =>
 exK 0 v12002 fun v12003 =>
 exK 1 v12002 fun v12004 =>
 iaK .none 1 (Env.get s3 e10) (.i .i64 0) fun v14000 =>
 ldK false 1 v14000 H12002 fun v14001 =>
 caK rec 17 [(Env.get s2 e10), v14001] H12002 fun v14002 H14002 =>
 unK .not v14002 fun v14003 =>
 gdK v14003 true (fun R14004 => R14004 (Env.get s2 e10) H14002 k10) H14002 k10 fun v14004 H14004 k14004 =>
 gdK v14003 true (fun R14005 => R14005 (Env.get s3 e10) H14004 k14004) H14004 k14004 fun v14005 H14005 k14005 =>
 gdK v14003 true (fun R14006 => iaK .none 1 v14005 (.i .i64 2) fun v14006 =>
 R14006 v14006 H14005 k14005) H14005 k14005 fun v14006 H14006 k14006 =>
 gdK v14003 true (fun R14007 => ldK false 1 v14006 H14006 fun v14007 =>
 R14007 v14007 H14006 k14006) H14006 k14006 fun v14007 H14007 k14007 =>
 gdK v14003 true (fun R14008 => caK rec 17 [v14004, v14007] H14007 fun v14008 H14008 =>
 R14008 v14008 H14008 k14007) H14007 k14007 fun v14008 H14008 k14008 =>
 pkK v14003 v14008 (.b false) fun v14009 =>
 gdK v14009 true (fun R14010 => R14010 (Env.get s2 e10) H14008 k14008) H14008 k14008 fun v14010 H14010 k14010 =>
 gdK v14009 true (fun R14011 => R14011 (Env.get s3 e10) H14010 k14010) H14010 k14010 fun v14011 H14011 k14011 =>
 gdK v14009 true (fun R14012 => iaK .none 1 v14011 (.i .i64 3) fun v14012 =>
 R14012 v14012 H14011 k14011) H14011 k14011 fun v14012 H14012 k14012 =>
 gdK v14009 true (fun R14013 => ldK false 1 v14012 H14012 fun v14013 =>
 R14013 v14013 H14012 k14012) H14012 k14012 fun v14013 H14013 k14013 =>
 gdK v14009 true (fun R14014 => caK rec 17 [v14010, v14013] H14013 fun v14014 H14014 =>
 R14014 v14014 H14014 k14013) H14013 k14013 fun v14014 H14014 k14014 =>
 gdK v14009 true (fun R14015 => unK .not v14014 fun v14015 =>
 R14015 v14015 H14014 k14014) H14014 k14014 fun v14015 H14015 k14015 =>
 pkK v14009 v14015 (.b false) fun v14016 =>
 gdK v14016 true (fun R14017 => R14017 (Env.get s2 e10) H14015 k14015) H14015 k14015 fun v14017 H14017 k14017 =>
 gdK v14016 true (fun R14018 => R14018 (Env.get s4 e10) H14017 k14017) H14017 k14017 fun v14018 H14018 k14018 =>
 gdK v14016 true (fun R14019 => iaK .none 1 v14018 (.i .i64 0) fun v14019 =>
 R14019 v14019 H14018 k14018) H14018 k14018 fun v14019 H14019 k14019 =>
 gdK v14016 true (fun R14020 => ldK false 1 v14019 H14019 fun v14020 =>
 R14020 v14020 H14019 k14019) H14019 k14019 fun v14020 H14020 k14020 =>
 gdK v14016 true (fun R14021 => caK rec 17 [v14017, v14020] H14020 fun v14021 H14021 =>
 R14021 v14021 H14021 k14020) H14020 k14020 fun v14021 H14021 k14021 =>
 pkK v14016 v14021 (.b false) fun v14022 =>
 gdK v14022 true (fun R14023 => R14023 (Env.get s2 e10) H14021 k14021) H14021 k14021 fun v14023 H14023 k14023 =>
 gdK v14022 true (fun R14024 => R14024 (Env.get s3 e10) H14023 k14023) H14023 k14023 fun v14024 H14024 k14024 =>
 gdK v14022 true (fun R14025 => iaK .none 1 v14024 (.i .i64 3) fun v14025 =>
 R14025 v14025 H14024 k14024) H14024 k14024 fun v14025 H14025 k14025 =>
 gdK v14022 true (fun R14026 => ldK false 1 v14025 H14025 fun v14026 =>
 R14026 v14026 H14025 k14025) H14025 k14025 fun v14026 H14026 k14026 =>
 gdK v14022 true (fun R14027 => caK rec 21 [v14023, v14026] H14026 fun v14027 H14027 =>
 R14027 v14027 H14027 k14026) H14026 k14026 fun v14027 H14027 k14027 =>
 pkK v14022 v14027 (.b false) fun v14028 =>
 gdK v14028 true (fun R14029 => R14029 (Env.get s2 e10) H14027 k14027) H14027 k14027 fun v14029 H14029 k14029 =>
 gdK v14028 true (fun R14030 => R14030 (Env.get s3 e10) H14029 k14029) H14029 k14029 fun v14030 H14030 k14030 =>
 gdK v14028 true (fun R14031 => iaK .none 1 v14030 (.i .i64 2) fun v14031 =>
 R14031 v14031 H14030 k14030) H14030 k14030 fun v14031 H14031 k14031 =>
 gdK v14028 true (fun R14032 => ldK false 1 v14031 H14031 fun v14032 =>
 R14032 v14032 H14031 k14031) H14031 k14031 fun v14032 H14032 k14032 =>
 gdK v14028 true (fun R14033 => caK rec 25 [v14029, v14032, (.i .i64 1)] H14032 fun v14033 H14033 =>
 R14033 v14033 H14033 k14032) H14032 k14032 fun v14033 H14033 k14033 =>
 pkK v14028 v14033 (.b false) fun v14034 =>
 gdK v14034 true (fun R14035 => R14035 (Env.get s2 e10) H14033 k14033) H14033 k14033 fun v14035 H14035 k14035 =>
 gdK v14034 true (fun R14036 => R14036 (Env.get s3 e10) H14035 k14035) H14035 k14035 fun v14036 H14036 k14036 =>
 gdK v14034 true (fun R14037 => iaK .none 1 v14036 (.i .i64 2) fun v14037 =>
 R14037 v14037 H14036 k14036) H14036 k14036 fun v14037 H14037 k14037 =>
 gdK v14034 true (fun R14038 => ldK false 1 v14037 H14037 fun v14038 =>
 R14038 v14038 H14037 k14037) H14037 k14037 fun v14038 H14038 k14038 =>
 gdK v14034 true (fun R14039 => caK rec 25 [v14035, v14038, (.i .i64 0)] H14038 fun v14039 H14039 =>
 R14039 v14039 H14039 k14038) H14038 k14038 fun v14039 H14039 k14039 =>
 pkK v14034 v14039 (.b false) fun v14040 =>
 gdK v14040 true (fun R14041 => R14041 (Env.get s2 e10) H14039 k14039) H14039 k14039 fun v14041 H14041 k14041 =>
 gdK v14040 true (fun R14042 => R14042 (Env.get s3 e10) H14041 k14041) H14041 k14041 fun v14042 H14042 k14042 =>
 gdK v14040 true (fun R14043 => iaK .none 1 v14042 (.i .i64 3) fun v14043 =>
 R14043 v14043 H14042 k14042) H14042 k14042 fun v14043 H14043 k14043 =>
 gdK v14040 true (fun R14044 => ldK false 1 v14043 H14043 fun v14044 =>
 R14044 v14044 H14043 k14043) H14043 k14043 fun v14044 H14044 k14044 =>
 gdK v14040 true (fun R14045 => caK rec 25 [v14041, v14044, (.i .i64 0)] H14044 fun v14045 H14045 =>
 R14045 v14045 H14045 k14044) H14044 k14044 fun v14045 H14045 k14045 =>
 gdK v14040 true (fun R14046 => unK .not v14045 fun v14046 =>
 R14046 v14046 H14045 k14045) H14045 k14045 fun v14046 H14046 k14046 =>
 pkK v14040 v14046 (.b false) fun v14047 =>
 gdK v14047 true (fun R14048 => R14048 (Env.get s2 e10) H14046 k14046) H14046 k14046 fun v14048 H14048 k14048 =>
 gdK v14047 true (fun R14049 => R14049 (Env.get s3 e10) H14048 k14048) H14048 k14048 fun v14049 H14049 k14049 =>
 gdK v14047 true (fun R14050 => iaK .none 1 v14049 (.i .i64 0) fun v14050 =>
 R14050 v14050 H14049 k14049) H14049 k14049 fun v14050 H14050 k14050 =>
 gdK v14047 true (fun R14051 => ldK false 1 v14050 H14050 fun v14051 =>
 R14051 v14051 H14050 k14050) H14050 k14050 fun v14051 H14051 k14051 =>
 gdK v14047 true (fun R14052 => caK rec 25 [v14048, v14051, (.i .i64 64)] H14051 fun v14052 H14052 =>
 R14052 v14052 H14052 k14051) H14051 k14051 fun v14052 H14052 k14052 =>
 gdK v14047 true (fun R14053 => unK .not v14052 fun v14053 =>
 R14053 v14053 H14052 k14052) H14052 k14052 fun v14053 H14053 k14053 =>
 pkK v14047 v14053 (.b false) fun v14054 =>
 gdK v14054 true (fun R14055 => R14055 (Env.get s2 e10) H14053 k14053) H14053 k14053 fun v14055 H14055 k14055 =>
 gdK v14054 true (fun R14056 => caK rec 26 [v14055, (.i .i64 (-1)), (.i .i64 0)] H14055 fun v14056 H14056 =>
 R14056 v14056 H14056 k14055) H14055 k14055 fun v14056 H14056 k14056 =>
 pkK v14054 v14056 (.b false) fun v14057 =>
 gdK v14057 true (fun R14058 => R14058 (Env.get s2 e10) H14056 k14056) H14056 k14056 fun v14058 H14058 k14058 =>
 gdK v14057 true (fun R14059 => caK rec 19 [v14058] H14058 fun v14059 H14059 =>
 R14059 v14059 H14059 k14058) H14058 k14058 fun v14059 H14059 k14059 =>
 gdK v14057 true (fun R14060 => binK .gtr .no v14059 (.i .i64 0) fun v14060 =>
 R14060 v14060 H14059 k14059) H14059 k14059 fun v14060 H14060 k14060 =>
 pkK v14057 v14060 (.b false) fun v14061 =>
 gdK v14061 true (fun R14062 => R14062 v12003 H14060 k14060) H14060 k14060 fun v14062 H14062 k14062 =>
 gdK v14061 true (fun R14063 => binK .eql .no v14062 (.i .i64 3) fun v14063 =>
 R14063 v14063 H14062 k14062) H14062 k14062 fun v14063 H14063 k14063 =>
 pkK v14061 v14063 (.b false) fun v14064 =>
 gdK v14064 true (fun R14065 => R14065 v12004 H14063 k14063) H14063 k14063 fun v14065 H14065 k14065 =>
 gdK v14064 true (fun R14066 => binK .eql .no v14065 (.i .i64 1) fun v14066 =>
 R14066 v14066 H14065 k14065) H14065 k14065 fun v14066 H14066 k14066 =>
 pkK v14064 v14066 (.b false) fun v14067 =>
 gdK v14067 true (fun R14068 => R14068 (Env.get s1 e10) H14066 k14066) H14066 k14066 fun v14068 H14068 k14068 =>
 gdK v14067 true (fun R14069 => R14069 (Env.get s3 e10) H14068 k14068) H14068 k14068 fun v14069 H14069 k14069 =>
 gdK v14067 true (fun R14070 => iaK .none 1 v14069 (.i .i64 3) fun v14070 =>
 R14070 v14070 H14069 k14069) H14069 k14069 fun v14070 H14070 k14070 =>
 gdK v14067 true (fun R14071 => ldK false 1 v14070 H14070 fun v14071 =>
 R14071 v14071 H14070 k14070) H14070 k14070 fun v14071 H14071 k14071 =>
 gdK v14067 true (fun R14072 => caK rec 15 [v14068, (.i .i64 1), (.b true)] H14071 fun v14072 H14072 =>
 boolK (and (again ⟨.load false 1 (.l 0), (.some ((.l 3), true)), []⟩ v14071 (Env.put s5 v12003 (Env.put s6 v12004 e10)) [v14070, v14069, v14068, v14067, v14066, v14065, v14064, v14063, v14062, v14061, v14060, v14059, v14058, v14057, v14056, v14055, v14054, v14053, v14052, v14051, v14050, v14049, v14048, v14047, v14046, v14045, v14044, v14043, v14042, v14041, v14040, v14039, v14038, v14037, v14036, v14035, v14034, v14033, v14032, v14031, v14030, v14029, v14028, v14027, v14026, v14025, v14024, v14023, v14022, v14021, v14020, v14019, v14018, v14017, v14016, v14015, v14014, v14013, v14012, v14011, v14010, v14009, v14008, v14007, v14006, v14005, v14004, v14003, v14002, v14001, v14000] H14072) true) (R14072 v14072 H14072 k14071)) H14071 k14071 fun v14072 H14072 k14072 =>
 gdK v14067 true (fun R14073 => caK rec 17 [v14072, v14071] H14072 fun v14073 H14073 =>
 R14073 v14073 H14073 k14072) H14072 k14072 fun v14073 H14073 k14073 =>
 gdK v14067 true (fun R14074 => binK .eql .b v14073 (.b false) fun v14074 =>
 R14074 v14074 H14073 k14073) H14073 k14073 fun v14074 H14074 k14074 =>
 pkK v14067 v14074 (.b false) fun v14075 =>
 (endK recD [.slot s0]) .ret (Env.put s0 v14075 (Env.put s5 v12003 (Env.put s6 v12004 e10))) H14074 k14074) (endK recD [.slot s0])) (endK recD [.slot s0])
theorem Tryz.cOk7 : (compFn Tryz.prog Tryz.f7).map (bodyK 7) = some Tryz.c7 := by kernel_rfl
def Tryz.c10 : FnK := fun rec recD args H => startK 2 args fun e =>
 newK [(.i .i64 0), (.i .i64 0), (.i .i64 0), .sl0, (.s []), (.i .i64 0), (.s []), (.i .i64 0), (.s []), (.i .i64 0), (.i .i64 0), (.i .i64 0), .sl0] H fun v2000 H2000 =>
 genK roundT rec (.nilCheck (.s s0)) (Ctl.mk [] .none) (Env.put s4 v2000 e) [] H2000 fun v4000 H4000 k4000 =>
 faK 0 v4000 fun v4001 =>
 faK 0 v4001 fun v4002 =>
 ldK false 1 v4002 H4000 fun v4003 =>
 iaK .none 13 v4003 (Env.get s1 e) fun v4004 =>
 ldK true 13 v4004 H4000 fun v4005 =>
 stK 13 v4005 v2000 H4000 fun H4006 =>
 (endK recD [.cell true 13 s4]) .ret (Env.put s4 v2000 e) H4006 k4000
theorem Tryz.cOk10 : (compFn Tryz.prog Tryz.f10).map (bodyK 10) = some Tryz.c10 := by kernel_rfl
def Tryz.c14 : FnK := fun rec recD args H => startK 2 args fun e =>
 seqK (fun K3 =>
 binK .lss .no (Env.get s1 e) (.i .i64 0) fun v5000 =>
 gdK v5000 false (fun R5001 => R5001 (Env.get s1 e) H (Ctl.mk [] .none)) H (Ctl.mk [] .none) fun v5001 H5001 k5001 =>
 gdK v5000 false (fun R5002 => R5002 (Env.get s0 e) H5001 k5001) H5001 k5001 fun v5002 H5002 k5002 =>
 gdK v5000 false (fun R5003 => genK roundT rec (.nilCheck (.l 0)) k5002 (Env.put s4 (.i .i64 0) e) [v5002, v5001, v5000] H5002 fun v5003 H5003 k5003 =>
 R5003 v5003 H5003 k5003) H5002 k5002 fun v5003 H5003 k5003 =>
 gdK v5000 false (fun R5004 => faK 3 v5003 fun v5004 =>
 R5004 v5004 H5003 k5003) H5003 k5003 fun v5004 H5004 k5004 =>
 gdK v5000 false (fun R5005 => ldK false 1 v5004 H5004 fun v5005 =>
 R5005 v5005 H5004 k5004) H5004 k5004 fun v5005 H5005 k5005 =>
 gdK v5000 false (fun R5006 => lnK .sl H5005 v5005 fun v5006 =>
 R5006 v5006 H5005 k5005) H5005 k5005 fun v5006 H5006 k5006 =>
 gdK v5000 false (fun R5007 => binK .geq .no v5001 v5006 fun v5007 =>
 R5007 v5007 H5006 k5006) H5006 k5006 fun v5007 H5007 k5007 =>
 pkK v5000 (.b true) v5007 fun v5008 =>
 condK v5008 (K3 .ret (Env.put s4 (.i .i64 (-1)) (Env.put s15 v5008 (Env.put s4 (.i .i64 0) e))) H5007 k5007)
 (K3 .norm (Env.put s15 v5008 (Env.put s4 (.i .i64 0) e)) H5007 k5007)) (fun k3 e3 H3 =>
 genK roundT rec (.nilCheck (.s s0)) k3 e3 [] H3 fun v5000 H5000 k5000 =>
 faK 3 v5000 fun v5001 =>
 ldK false 1 v5001 H5000 fun v5002 =>
 iaK .none 1 v5002 (Env.get s1 e3) fun v5003 =>
 ldK false 1 v5003 H5000 fun v5004 =>
 (endK recD [.slot s4]) .ret (Env.put s4 v5004 e3) H5000 k5000) (endK recD [.slot s4])
theorem Tryz.cOk14 : (compFn Tryz.prog Tryz.f14).map (bodyK 14) = some Tryz.c14 := by kernel_rfl
def Tryz.c15 : FnK := fun rec recD args H => startK 3 args fun e =>
 caK rec 29 [(Env.get s0 e), (Env.get s1 e)] H fun v4000 H4000 =>
 seqK (fun K5 =>
 binK .eql .ptr v4000 .p0 fun v7000 =>
 condK v7000 (K5 .ret (Env.put s6 .p0 (Env.put s16 v7000 (Env.put s7 v4000 (Env.put s6 .p0 e)))) H4000 (Ctl.mk [] .none))
 (K5 .norm (Env.put s16 v7000 (Env.put s7 v4000 (Env.put s6 .p0 e))) H4000 (Ctl.mk [] .none))) (fun k5 e5 H5 =>
 genK roundT rec (.mkMap .none) k5 e5 [] H5 fun v7000 H7000 k7000 =>
 genK roundT rec (.mkMap .none) k7000 e5 [v7000] H7000 fun v7001 H7001 k7001 =>
 genK roundT rec (.mkMap .none) k7001 e5 [v7001, v7000] H7001 fun v7002 H7002 k7002 =>
 genK roundT rec (.mkMap .none) k7002 e5 [v7002, v7001, v7000] H7002 fun v7003 H7003 k7003 =>
 bdK [.p0, (.i .i64 0), (.i .u64 0), .m0, .m0, (.i .u64 0), (.b false), .m0, (.i .i64 0), .m0] [(0, 1, (Env.get s0 e5)), (1, 1, (Env.get s1 e5)), (3, 1, v7000), (4, 1, v7001), (7, 1, v7002), (9, 1, v7003)] fun v7004 =>
 bxK v7004 H7003 fun v7005 H7005 =>
 seqK (fun K8 =>
 caK rec 18 [(Env.get s0 e5)] H7005 fun v10000 H10000 =>
 iaK .none 8 v10000 (Env.get s1 e5) fun v10001 =>
 faK 7 v10001 fun v10002 =>
 ldK false 1 v10002 H10000 fun v10003 =>
 caK rec 30 [v10003] H10000 fun v10004 H10004 =>
 lnK .sl H10004 v10004 fun v10005 =>
 blockK 0 (fun K11 =>
 loopK (fun k12 e12 H12 K12 =>
 binK .lss .no (Env.get s33 e12) (Env.get s32 e12) fun v14000 =>
 seqK (fun K15 =>
 condK v14000 (K15 .norm (Env.put s34 v14000 e12) H12 k12)
 (K15 (.exit 0) (Env.put s34 v14000 e12) H12 k12)) (fun k15 e15 H15 =>
 seqK (fun K16 =>
 blockK 1 (fun K17 =>
 iaK .none 7 (Env.get s31 e15) (Env.get s33 e15) fun v19000 =>
 ldK true 7 v19000 H15 fun v19001 =>
 newK [(.s []), (.i .i64 0), (.s []), (.i .i64 0), (.s []), (.i .i64 0), (.b false)] H15 fun v19002 H19002 =>
 stK 7 v19001 v19002 H19002 fun H19003 =>
 faK 1 v19002 fun v21000 =>
 ldK true 4 v21000 H19003 fun v21001 =>
 caK rec 28 [v21001] H19003 fun v21002 H21002 =>
 binK .eql .no v21002 (.i .u8 32) fun v21003 =>
 condK v21003 (genK roundT rec (.nilCheck (.s s8)) k15 (Env.put s41 v21003 (Env.put s10 v19002 (Env.put s9 (Env.get s33 e15) e15))) [] H21002 fun v23000 H23000 k23000 =>
 faK 2 v23000 fun v23001 =>
 ldK false 1 v23001 H23000 fun v23002 =>
 genK roundT rec (.convInt .u64 (.s s9)) k23000 (Env.put s41 v21003 (Env.put s10 v19002 (Env.put s9 (Env.get s33 e15) e15))) [v23002, v23001, v23000] H23000 fun v23003 H23003 k23003 =>
 binK .shl .no (.i .u64 1) v23003 fun v23004 =>
 binK .or .no v23002 v23004 fun v23005 =>
 genK roundT rec (.nilCheck (.s s8)) k23003 (Env.put s41 v21003 (Env.put s10 v19002 (Env.put s9 (Env.get s33 e15) e15))) [v23005, v23004, v23003, v23002, v23001, v23000] H23003 fun v23006 H23006 k23006 =>
 faK 2 v23006 fun v23007 =>
 stK 1 v23005 v23007 H23006 fun H23008 =>
 K17 .norm (Env.put s41 v21003 (Env.put s10 v19002 (Env.put s9 (Env.get s33 e15) e15))) H23008 k23006)
 (K17 .norm (Env.put s41 v21003 (Env.put s10 v19002 (Env.put s9 (Env.get s33 e15) e15))) H21002 k15)) K16) (fun k16 e16 H16 =>
 binK .add .no (Env.get s33 e16) (.i .i64 1) fun v17000 =>
 K12 .norm (Env.put s33 v17000 e16) H16 k16) K12) K12) rounds K11 k7003 (Env.put s31 v10004 (Env.put s32 v10005 (Env.put s33 (.i .i64 0) (Env.put s8 v7005 e5)))) H10004) K8) (fun k8 e8 H8 =>
 caK rec 31 [(Env.get s7 e8)] H8 fun v10000 H10000 =>
 genK roundT rec (.mkSlice 1 [(.i .u64 0)] 8 (.l 0) (.l 0)) k8 e8 [v10000] H10000 fun v10001 H10001 k10001 =>
 caK rec 31 [(Env.get s7 e8)] H10001 fun v10002 H10002 =>
 genK roundT rec (.mkSlice 1 [(.b false)] 1 (.l 0) (.l 0)) k10001 e8 [v10002, v10001, v10000] H10002 fun v10003 H10003 k10003 =>
 bdK [.p0, .p0, (.b false), .sl0, .sl0, .sl0] [(0, 1, (Env.get s8 e8)), (1, 1, (Env.get s7 e8)), (2, 1, (Env.get s2 e8)), (3, 1, v10001), (4, 1, v10003)] fun v10004 =>
 bxK v10004 H10003 fun v10005 H10005 =>
 caK rec 32 [v10005] H10005 fun v12000 H12000 =>
 (endK recD [.slot s6]) .ret (Env.put s6 (Env.get s8 e8) (Env.put s11 v10005 e8)) H12000 k10003) (endK recD [.slot s6])) (endK recD [.slot s6])
theorem Tryz.cOk15 : (compFn Tryz.prog Tryz.f15).map (bodyK 15) = some Tryz.c15 := by kernel_rfl
def Tryz.c17 : FnK := fun rec recD args H => startK 2 args fun e =>
 genK roundT rec (.nilCheck (.s s0)) (Ctl.mk [] .none) (Env.put s4 (.b false) e) [] H fun v4000 H4000 k4000 =>
 faK 3 v4000 fun v4001 =>
 ldK false 1 v4001 H4000 fun v4002 =>
 genK roundT rec (.lookup .i (.b false) true (.l 0) (.s s1)) k4000 (Env.put s4 (.b false) e) [v4002, v4001, v4000] H4000 fun v4003 H4003 k4003 =>
 exK 0 v4003 fun v4004 =>
 exK 1 v4003 fun v4005 =>
 gdK v4004 false (fun R6000 => R6000 v4005 H4003 k4003) H4003 k4003 fun v6000 H6000 k6000 =>
 gdK v4004 false (fun R6001 => unK .not v6000 fun v6001 =>
 R6001 v6001 H6000 k6000) H6000 k6000 fun v6001 H6001 k6001 =>
 pkK v4004 (.b true) v6001 fun v6002 =>
 (endK recD [.slot s4]) .ret (Env.put s4 v6002 (Env.put s5 v4004 (Env.put s6 v4005 (Env.put s4 (.b false) e)))) H6001 k6001
theorem Tryz.cOk17 : (compFn Tryz.prog Tryz.f17).map (bodyK 17) = some Tryz.c17 := by kernel_rfl
def Tryz.c26 : FnK := fun rec recD args H => startK 3 args fun e =>
 seqK (fun K3 =>
 binK .lss .no (Env.get s2 e) (.i .i64 0) fun v5000 =>
 gdK v5000 false (fun R5001 => R5001 (Env.get s2 e) H (Ctl.mk [] .none)) H (Ctl.mk [] .none) fun v5001 H5001 k5001 =>
 gdK v5000 false (fun R5002 => binK .geq .no v5001 (.i .i64 64) fun v5002 =>
 R5002 v5002 H5001 k5001) H5001 k5001 fun v5002 H5002 k5002 =>
 pkK v5000 (.b true) v5002 fun v5003 =>
 condK v5003 (K3 .ret (Env.put s6 (.b false) (Env.put s14 v5003 (Env.put s6 (.b false) e))) H5002 k5002)
 (K3 .norm (Env.put s14 v5003 (Env.put s6 (.b false) e)) H5002 k5002)) (fun k3 e3 H3 =>
 seqK (fun K4 =>
 binK .lss .no (Env.get s1 e3) (.i .i64 0) fun v6000 =>
 condK v6000 (genK roundT rec (.nilCheck (.s s0)) k3 (Env.put s16 v6000 e3) [] H3 fun v9000 H9000 k9000 =>
 faK 6 v9000 fun v9001 =>
 ldK false 1 v9001 H9000 fun v9002 =>
 unK .not v9002 fun v9003 =>
 gdK v9003 false (fun R9004 => R9004 (Env.get s0 e3) H9000 k9000) H9000 k9000 fun v9004 H9004 k9004 =>
 gdK v9003 false (fun R9005 => genK roundT rec (.nilCheck (.l 0)) k9004 (Env.put s16 v6000 e3) [v9004, v9003, v9002, v9001, v9000] H9004 fun v9005 H9005 k9005 =>
 R9005 v9005 H9005 k9005) H9004 k9004 fun v9005 H9005 k9005 =>
 gdK v9003 false (fun R9006 => faK 5 v9005 fun v9006 =>
 R9006 v9006 H9005 k9005) H9005 k9005 fun v9006 H9006 k9006 =>
 gdK v9003 false (fun R9007 => ldK false 1 v9006 H9006 fun v9007 =>
 R9007 v9007 H9006 k9006) H9006 k9006 fun v9007 H9007 k9007 =>
 gdK v9003 false (fun R9008 => R9008 (Env.get s0 e3) H9007 k9007) H9007 k9007 fun v9008 H9008 k9008 =>
 gdK v9003 false (fun R9009 => genK roundT rec (.nilCheck (.l 0)) k9008 (Env.put s16 v6000 e3) [v9008, v9007, v9006, v9005, v9004, v9003, v9002, v9001, v9000] H9008 fun v9009 H9009 k9009 =>
 R9009 v9009 H9009 k9009) H9008 k9008 fun v9009 H9009 k9009 =>
 gdK v9003 false (fun R9010 => faK 2 v9009 fun v9010 =>
 R9010 v9010 H9009 k9009) H9009 k9009 fun v9010 H9010 k9010 =>
 gdK v9003 false (fun R9011 => ldK false 1 v9010 H9010 fun v9011 =>
 R9011 v9011 H9010 k9010) H9010 k9010 fun v9011 H9011 k9011 =>
 gdK v9003 false (fun R9012 => binK .or .no v9007 v9011 fun v9012 =>
 R9012 v9012 H9011 k9011) H9011 k9011 fun v9012 H9012 k9012 =>
 gdK v9003 false (fun R9013 => R9013 (Env.get s2 e3) H9012 k9012) H9012 k9012 fun v9013 H9013 k9013 =>
 gdK v9003 false (fun R9014 => caK rec 45 [v9013] H9013 fun v9014 H9014 =>
 boolK (and (again ⟨.load false 1 (.l 0), (.some ((.l 7), false)), []⟩ v9011 (Env.put s16 v6000 e3) [v9010, v9009, v9008, v9007, v9006, v9005, v9004, v9003, v9002, v9001, v9000] H9014) (and (again ⟨.load false 1 (.l 0), (.some ((.l 3), false)), []⟩ v9007 (Env.put s16 v6000 e3) [v9006, v9005, v9004, v9003, v9002, v9001, v9000] H9014) true)) (R9014 v9014 H9014 k9013)) H9013 k9013 fun v9014 H9014 k9014 =>
 gdK v9003 false (fun R9015 => binK .and .no v9012 v9014 fun v9015 =>
 R9015 v9015 H9014 k9014) H9014 k9014 fun v9015 H9015 k9015 =>
 gdK v9003 false (fun R9016 => binK .neq .no v9015 (.i .u64 0) fun v9016 =>
 R9016 v9016 H9015 k9015) H9015 k9015 fun v9016 H9016 k9016 =>
 pkK v9003 (.b true) v9016 fun v9017 =>
 K4 .ret (Env.put s6 v9017 (Env.put s16 v6000 e3)) H9016 k9016)
 (K4 .norm (Env.put s16 v6000 e3) H3 k3)) (fun k4 e4 H4 =>
 genK roundT rec (.nilCheck (.s s0)) k4 e4 [] H4 fun v6000 H6000 k6000 =>
 faK 7 v6000 fun v6001 =>
 ldK false 1 v6001 H6000 fun v6002 =>
 genK roundT rec (.lookup .i (.i .u64 0) true (.l 0) (.s s1)) k6000 e4 [v6002, v6001, v6000] H6000 fun v6003 H6003 k6003 =>
 exK 0 v6003 fun v6004 =>
 exK 1 v6003 fun v6005 =>
 unK .not v6005 fun v8000 =>
 gdK v8000 false (fun R8001 => R8001 v6004 H6003 k6003) H6003 k6003 fun v8001 H8001 k8001 =>
 gdK v8000 false (fun R8002 => R8002 (Env.get s0 e4) H8001 k8001) H8001 k8001 fun v8002 H8002 k8002 =>
 gdK v8000 false (fun R8003 => genK roundT rec (.nilCheck (.l 0)) k8002 (Env.put s7 v6004 (Env.put s8 v6005 e4)) [v8002, v8001, v8000] H8002 fun v8003 H8003 k8003 =>
 R8003 v8003 H8003 k8003) H8002 k8002 fun v8003 H8003 k8003 =>
 gdK v8000 false (fun R8004 => faK 2 v8003 fun v8004 =>
 R8004 v8004 H8003 k8003) H8003 k8003 fun v8004 H8004 k8004 =>
 gdK v8000 false (fun R8005 => ldK false 1 v8004 H8004 fun v8005 =>
 R8005 v8005 H8004 k8004) H8004 k8004 fun v8005 H8005 k8005 =>
 gdK v8000 false (fun R8006 => binK .or .no v8001 v8005 fun v8006 =>
 R8006 v8006 H8005 k8005) H8005 k8005 fun v8006 H8006 k8006 =>
 gdK v8000 false (fun R8007 => R8007 (Env.get s2 e4) H8006 k8006) H8006 k8006 fun v8007 H8007 k8007 =>
 gdK v8000 false (fun R8008 => caK rec 45 [v8007] H8007 fun v8008 H8008 =>
 boolK (and (again ⟨.load false 1 (.l 0), (.some ((.l 4), false)), []⟩ v8005 (Env.put s7 v6004 (Env.put s8 v6005 e4)) [v8004, v8003, v8002, v8001, v8000] H8008) true) (R8008 v8008 H8008 k8007)) H8007 k8007 fun v8008 H8008 k8008 =>
 gdK v8000 false (fun R8009 => binK .and .no v8006 v8008 fun v8009 =>
 R8009 v8009 H8008 k8008) H8008 k8008 fun v8009 H8009 k8009 =>
 gdK v8000 false (fun R8010 => binK .neq .no v8009 (.i .u64 0) fun v8010 =>
 R8010 v8010 H8009 k8009) H8009 k8009 fun v8010 H8010 k8010 =>
 pkK v8000 (.b true) v8010 fun v8011 =>
 (endK recD [.slot s6]) .ret (Env.put s6 v8011 (Env.put s7 v6004 (Env.put s8 v6005 e4))) H8010 k8010) (endK recD [.slot s6])) (endK recD [.slot s6])
theorem Tryz.cOk26 : (compFn Tryz.prog Tryz.f26).map (bodyK 26) = some Tryz.c26 := by kernel_rfl
def Tryz.c32 : FnK := fun rec recD args H => startK 1 args fun e =>
 genK roundT rec (.nilCheck (.s s0)) (Ctl.mk [] .none) e [] H fun v2000 H2000 k2000 =>
 faK 1 v2000 fun v2001 =>
 ldK false 1 v2001 H2000 fun v2002 =>
 caK rec 53 [v2002] H2000 fun v2003 H2003 =>
 genK roundT rec (.nilCheck (.s s0)) k2000 (Env.put s2 v2003 e) [] H2003 fun v4000 H4000 k4000 =>
 faK 1 v4000 fun v4001 =>
 ldK false 1 v4001 H4000 fun v4002 =>
 caK rec 31 [v4002] H4000 fun v4003 H4003 =>
 genK roundT rec (.mkSlice 1 [(.b false)] 1 (.l 0) (.l 0)) k4000 (Env.put s2 v2003 e) [v4003, v4002, v4001, v4000] H4003 fun v4004 H4004 k4004 =>
 genK roundT rec (.nilCheck (.s s0)) k4004 (Env.put s2 v2003 e) [v4004, v4003, v4002, v4001, v4000] H4004 fun v4005 H4005 k4005 =>
 faK 5 v4005 fun v4006 =>
 stK 1 v4004 v4006 H4005 fun H4007 =>
 genK roundT rec (.nilCheck (.s s0)) k4005 (Env.put s2 v2003 e) [] H4007 fun v6000 H6000 k6000 =>
 faK 1 v6000 fun v6001 =>
 ldK false 1 v6001 H6000 fun v6002 =>
 caK rec 55 [v6002] H6000 fun v6003 H6003 =>
 caK rec 56 [(Env.get s0 e)] H6003 fun v6004 H6004 =>
 caK rec 54 [(Env.get s0 e), v6003, v6004] H6004 fun v6005 H6005 =>
 seqK (fun K7 =>
 blockK 0 (fun K10 =>
 loopK (fun k11 e11 H11 K11 =>
 seqK (fun K12 =>
 condK (Env.get s3 e11) (K12 .norm (Env.put s30 (Env.get s3 e11) e11) H11 k11)
 (K12 (.exit 0) (Env.put s30 (Env.get s3 e11) e11) H11 k11)) (fun k12 e12 H12 =>
 blockK 1 (fun K13 =>
 genK roundT rec (.nilCheck (.s s0)) k12 (Env.put s3 (.b false) e12) [] H12 fun v17000 H17000 k17000 =>
 faK 0 v17000 fun v17001 =>
 ldK false 1 v17001 H17000 fun v17002 =>
 genK roundT rec (.nilCheck (.l 0)) k17000 (Env.put s3 (.b false) e12) [v17002, v17001, v17000] H17000 fun v17003 H17003 k17003 =>
 faK 8 v17003 fun v17004 =>
 ldK false 1 v17004 H17003 fun v17005 =>
 binK .add .no v17005 (.i .i64 1) fun v17006 =>
 genK roundT rec (.nilCheck (.l 4)) k17003 (Env.put s3 (.b false) e12) [v17006, v17005, v17004, v17003, v17002, v17001, v17000] H17003 fun v17007 H17007 k17007 =>
 faK 8 v17007 fun v17008 =>
 stK 1 v17006 v17008 H17007 fun H17009 =>
 lnK .sl H17009 (Env.get s2 e12) fun v19000 =>
 blockK 2 (fun K20 =>
 loopK (fun k21 e21 H21 K21 =>
 binK .lss .no (Env.get s43 e21) (Env.get s42 e21) fun v23000 =>
 seqK (fun K24 =>
 condK v23000 (K24 .norm (Env.put s44 v23000 e21) H21 k21)
 (K24 (.exit 2) (Env.put s44 v23000 e21) H21 k21)) (fun k24 e24 H24 =>
 seqK (fun K25 =>
 blockK 3 (fun K26 =>
 iaK .none 1 (Env.get s41 e24) (Env.get s43 e24) fun v28000 =>
 ldK false 1 v28000 H24 fun v28001 =>
 genK roundT rec (.nilCheck (.s s0)) k24 (Env.put s5 v28001 e24) [] H24 fun v30000 H30000 k30000 =>
 faK 5 v30000 fun v30001 =>
 ldK false 1 v30001 H30000 fun v30002 =>
 iaK .none 1 v30002 v28001 fun v30003 =>
 ldK false 1 v30003 H30000 fun v30004 =>
 condK v30004 (genK roundT rec (.nilCheck (.s s0)) k30000 (Env.put s53 v30004 (Env.put s5 v28001 e24)) [] H30000 fun v33000 H33000 k33000 =>
 faK 5 v33000 fun v33001 =>
 ldK false 1 v33001 H33000 fun v33002 =>
 iaK .none 1 v33002 v28001 fun v33003 =>
 stK 1 (.b false) v33003 H33000 fun H33004 =>
 caK rec 57 [(Env.get s0 e24), v28001] H33004 fun v36000 H36000 =>
 K26 .norm (Env.put s3 (.b true) (Env.put s53 v30004 (Env.put s5 v28001 e24))) H36000 k33000)
 (K26 .norm (Env.put s53 v30004 (Env.put s5 v28001 e24)) H30000 k30000)) K25) (fun k25 e25 H25 =>
 binK .add .no (Env.get s43 e25) (.i .i64 1) fun v26000 =>
 K21 .norm (Env.put s43 v26000 e25) H25 k25) K21) K21) rounds K20 k17007 (Env.put s41 (Env.get s2 e12) (Env.put s42 v19000 (Env.put s43 (.i .i64 0) (Env.put s3 (.b false) e12)))) H17009) K13) K11) K11) rounds K10 k6000 (Env.put s3 (.b true) (Env.put s2 v2003 e)) H6005) K7) (fun k7 e7 H7 =>
 genK roundT rec (.nilCheck (.s s0)) k7 e7 [] H7 fun v9000 H9000 k9000 =>
 faK 1 v9000 fun v9001 =>
 ldK false 1 v9001 H9000 fun v9002 =>
 caK rec 31 [v9002] H9000 fun v9003 H9003 =>
 blockK 4 (fun K10 =>
 loopK (fun k11 e11 H11 K11 =>
 binK .lss .no (Env.get s69 e11) (Env.get s68 e11) fun v13000 =>
 seqK (fun K14 =>
 condK v13000 (K14 .norm (Env.put s70 v13000 e11) H11 k11)
 (K14 (.exit 4) (Env.put s70 v13000 e11) H11 k11)) (fun k14 e14 H14 =>
 seqK (fun K15 =>
 blockK 5 (fun K16 =>
 genK roundT rec (.nilCheck (.s s0)) k14 (Env.put s6 (Env.get s69 e14) e14) [] H14 fun v20000 H20000 k20000 =>
 faK 4 v20000 fun v20001 =>
 ldK false 1 v20001 H20000 fun v20002 =>
 iaK .none 1 v20002 (Env.get s69 e14) fun v20003 =>
 ldK false 1 v20003 H20000 fun v20004 =>
 condK v20004 (caK rec 58 [(Env.get s0 e14), (Env.get s69 e14)] H20000 fun v22000 H22000 =>
 K16 .norm (Env.put s78 v20004 (Env.put s6 (Env.get s69 e14) e14)) H22000 k20000)
 (K16 .norm (Env.put s78 v20004 (Env.put s6 (Env.get s69 e14) e14)) H20000 k20000)) K15) (fun k15 e15 H15 =>
 binK .add .no (Env.get s69 e15) (.i .i64 1) fun v16000 =>
 K11 .norm (Env.put s69 v16000 e15) H15 k15) K11) K11) rounds K10 k9000 (Env.put s68 v9003 (Env.put s69 (.i .i64 0) e7)) H9003) (endK recD [])) (endK recD [])
theorem Tryz.cOk32 : (compFn Tryz.prog Tryz.f32).map (bodyK 32) = some Tryz.c32 := by kernel_rfl
def Tryz.c38 : FnK := fun rec recD args H => startK 1 args fun e =>
 genK roundT rec (.nilCheck (.s s0)) (Ctl.mk [] .none) (Env.put s2 .sl0 e) [] H fun v4000 H4000 k4000 =>
 faK 2 v4000 fun v4001 =>
 ldK false 1 v4001 H4000 fun v4002 =>
 caK rec 64 [v4002] H4000 fun v4003 H4003 =>
 (endK recD [.slot s2]) .ret (Env.put s2 v4003 (Env.put s2 .sl0 e)) H4003 k4000
theorem Tryz.cOk38 : (compFn Tryz.prog Tryz.f38).map (bodyK 38) = some Tryz.c38 := by kernel_rfl
def Tryz.c45 : FnK := fun rec recD args H => startK 1 args fun e =>
 genK roundT rec (.convInt .u64 (.s s0)) (Ctl.mk [] .none) (Env.put s2 (.i .u64 0) e) [] H fun v4000 H4000 k4000 =>
 binK .shl .no (.i .u64 1) v4000 fun v4001 =>
 (endK recD [.slot s2]) .ret (Env.put s2 v4001 (Env.put s2 (.i .u64 0) e)) H4000 k4000
theorem Tryz.cOk45 : (compFn Tryz.prog Tryz.f45).map (bodyK 45) = some Tryz.c45 := by kernel_rfl
def Tryz.c49 : FnK := fun rec recD args H => startK 1 args fun e =>
 bxK (Env.get s0 e) H fun v2000 H2000 =>
 ldK true 4 v2000 H2000 fun v4000 =>
 caK rec 82 [] H2000 fun v4001 H4001 =>
 boolK (and (again ⟨.load true 4 (.s s1), .none, []⟩ v4000 (Env.put s1 v2000 (Env.put s2 (.b false) e)) [] H4001) true) (binK .eql (.flat [(0, .i), (1, .s), (2, .i), (3, .s)]) v4000 v4001 fun v4002 =>
 gdK v4002 false (fun R4003 => ldK true 4 v2000 H4001 fun v4003 =>
 R4003 v4003 H4001 (Ctl.mk [] .none)) H4001 (Ctl.mk [] .none) fun v4003 H4003 k4003 =>
 gdK v4002 false (fun R4004 => caK rec 83 [] H4003 fun v4004 H4004 =>
 boolK (and (again ⟨.load true 4 (.s s1), (.some ((.l 0), false)), []⟩ v4003 (Env.put s1 v2000 (Env.put s2 (.b false) e)) [v4002, v4001, v4000] H4004) true) (R4004 v4004 H4004 k4003)) H4003 k4003 fun v4004 H4004 k4004 =>
 gdK v4002 false (fun R4005 => binK .eql (.flat [(0, .i), (1, .s), (2, .i), (3, .s)]) v4003 v4004 fun v4005 =>
 R4005 v4005 H4004 k4004) H4004 k4004 fun v4005 H4005 k4005 =>
 pkK v4002 (.b true) v4005 fun v4006 =>
 gdK v4006 false (fun R4007 => ldK true 4 v2000 H4005 fun v4007 =>
 R4007 v4007 H4005 k4005) H4005 k4005 fun v4007 H4007 k4007 =>
 gdK v4006 false (fun R4008 => caK rec 84 [v4007] H4007 fun v4008 H4008 =>
 R4008 v4008 H4008 k4007) H4007 k4007 fun v4008 H4008 k4008 =>
 gdK v4006 false (fun R4009 => binK .neq .no v4008 (.s []) fun v4009 =>
 R4009 v4009 H4008 k4008) H4008 k4008 fun v4009 H4009 k4009 =>
 pkK v4006 (.b true) v4009 fun v4010 =>
 (endK recD [.slot s2]) .ret (Env.put s2 v4010 (Env.put s1 v2000 (Env.put s2 (.b false) e))) H4009 k4009)
theorem Tryz.cOk49 : (compFn Tryz.prog Tryz.f49).map (bodyK 49) = some Tryz.c49 := by kernel_rfl
def Tryz.c54 : FnK := fun rec recD args H => startK 3 args fun e =>
 seqK (fun K1 =>
 genK roundT rec (.nilCheck (.s s0)) (Ctl.mk [] .none) e [] H fun v3000 H3000 k3000 =>
 faK 4 v3000 fun v3001 =>
 ldK false 1 v3001 H3000 fun v3002 =>
 iaK .none 1 v3002 (Env.get s1 e) fun v3003 =>
 ldK false 1 v3003 H3000 fun v3004 =>
 unK .not v3004 fun v3005 =>
 condK v3005 (genK roundT rec (.nilCheck (.s s0)) k3000 (Env.put s14 v3005 e) [] H3000 fun v6000 H6000 k6000 =>
 faK 4 v6000 fun v6001 =>
 ldK false 1 v6001 H6000 fun v6002 =>
 genK roundT rec (.nilCheck (.s s0)) k6000 (Env.put s14 v3005 e) [v6002, v6001, v6000] H6000 fun v6003 H6003 k6003 =>
 faK 3 v6003 fun v6004 =>
 ldK false 1 v6004 H6003 fun v6005 =>
 genK roundT rec (.nilCheck (.s s0)) k6003 (Env.put s14 v3005 e) [v6005, v6004, v6003, v6002, v6001, v6000] H6003 fun v6006 H6006 k6006 =>
 faK 5 v6006 fun v6007 =>
 ldK false 1 v6007 H6006 fun v6008 =>
 iaK .none 1 v6002 (Env.get s1 e) fun v6009 =>
 stK 1 (.b true) v6009 H6006 fun H6010 =>
 iaK .none 1 v6005 (Env.get s1 e) fun v6011 =>
 stK 1 (Env.get s2 e) v6011 H6010 fun H6012 =>
 iaK .none 1 v6008 (Env.get s1 e) fun v6013 =>
 stK 1 (.b true) v6013 H6012 fun H6014 =>
 K1 .ret (Env.put s14 v3005 e) H6014 k6006)
 (K1 .norm (Env.put s14 v3005 e) H3000 k3000)) (fun k1 e1 H1 =>
 genK roundT rec (.nilCheck (.s s0)) k1 e1 [] H1 fun v3000 H3000 k3000 =>
 faK 3 v3000 fun v3001 =>
 ldK false 1 v3001 H3000 fun v3002 =>
 iaK .none 1 v3002 (Env.get s1 e1) fun v3003 =>
 ldK false 1 v3003 H3000 fun v3004 =>
 binK .and .no v3004 (Env.get s2 e1) fun v3005 =>
 genK roundT rec (.nilCheck (.s s0)) k3000 (Env.put s6 v3005 e1) [] H3000 fun v5000 H5000 k5000 =>
 faK 3 v5000 fun v5001 =>
 ldK false 1 v5001 H5000 fun v5002 =>
 iaK .none 1 v5002 (Env.get s1 e1) fun v5003 =>
 ldK false 1 v5003 H5000 fun v5004 =>
 binK .neq .no v3005 v5004 fun v5005 =>
 condK v5005 (genK roundT rec (.nilCheck (.s s0)) k5000 (Env.put s51 v5005 (Env.put s6 v3005 e1)) [] H5000 fun v7000 H7000 k7000 =>
 faK 3 v7000 fun v7001 =>
 ldK false 1 v7001 H7000 fun v7002 =>
 genK roundT rec (.nilCheck (.s s0)) k7000 (Env.put s51 v5005 (Env.put s6 v3005 e1)) [v7002, v7001, v7000] H7000 fun v7003 H7003 k7003 =>
 faK 5 v7003 fun v7004 =>
 ldK false 1 v7004 H7003 fun v7005 =>
 iaK .none 1 v7002 (Env.get s1 e1) fun v7006 =>
 stK 1 v3005 v7006 H7003 fun H7007 =>
 iaK .none 1 v7005 (Env.get s1 e1) fun v7008 =>
 stK 1 (.b true) v7008 H7007 fun H7009 =>
 (endK recD []) .norm (Env.put s51 v5005 (Env.put s6 v3005 e1)) H7009 k7003)
 ((endK recD []) .norm (Env.put s51 v5005 (Env.put s6 v3005 e1)) H5000 k5000)) (endK recD [])
theorem Tryz.cOk54 : (compFn Tryz.prog Tryz.f54).map (bodyK 54) = some Tryz.c54 := by kernel_rfl
def Tryz.c58 : FnK := fun rec recD args H => startK 2 args fun e =>
 genK roundT rec (.nilCheck (.s s0)) (Ctl.mk [] .none) e [] H fun v2000 H2000 k2000 =>
 faK 1 v2000 fun v2001 =>
 ldK false 1 v2001 H2000 fun v2002 =>
 genK roundT rec (.nilCheck (.s s0)) k2000 e [v2002, v2001, v2000] H2000 fun v2003 H2003 k2003 =>
 faK 3 v2003 fun v2004 =>
 ldK false 1 v2004 H2003 fun v2005 =>
 iaK .none 1 v2005 (Env.get s1 e) fun v2006 =>
 ldK false 1 v2006 H2003 fun v2007 =>
 newK [(.i .i64 0), (.i .i64 0), (.i .i64 0), (.i .i64 0), (.i .i64 0)] H2003 fun v2008 H2008 =>
 caK rec 93 [v2002, (Env.get s1 e)] H2008 fun v2009 H2009 =>
 boolK (and (again ⟨.load false 1 (.l 0), .none, []⟩ v2007 e [v2006, v2005, v2004, v2003, v2002, v2001, v2000] H2009) (and (again ⟨.load false 1 (.l 0), .none, []⟩ v2005 e [v2004, v2003, v2002, v2001, v2000] H2009) true)) (stK 5 v2009 v2008 H2009 fun H2010 =>
 boolK (and (again ⟨.load false 1 (.l 0), .none, []⟩ v2007 e [v2006, v2005, v2004, v2003, v2002, v2001, v2000] H2010) (and (again ⟨.load false 1 (.l 0), .none, []⟩ v2005 e [v2004, v2003, v2002, v2001, v2000] H2010) true)) (faK 0 v2008 fun v4000 =>
 ldK false 1 v4000 H2010 fun v4001 =>
 blockK 0 (fun K5 =>
 binK .eql .no v4001 (.i .i64 2) fun v7000 =>
 condK v7000 (genK roundT rec (.nilCheck (.s s0)) k2003 (Env.put s21 v7000 (Env.put s20 v4001 (Env.put s4 v2008 (Env.put s5 v2007 e)))) [] H2010 fun v10000 H10000 k10000 =>
 faK 0 v10000 fun v10001 =>
 ldK false 1 v10001 H10000 fun v10002 =>
 genK roundT rec (.nilCheck (.l 0)) k10000 (Env.put s21 v7000 (Env.put s20 v4001 (Env.put s4 v2008 (Env.put s5 v2007 e)))) [v10002, v10001, v10000] H10000 fun v10003 H10003 k10003 =>
 faK 9 v10003 fun v10004 =>
 ldK false 1 v10004 H10003 fun v10005 =>
 faK 2 v2008 fun v10006 =>
 ldK false 1 v10006 H10003 fun v10007 =>
 genK roundT rec (.mapUpd .i (.l 2) (.l 0) (.c (.b true))) k10003 (Env.put s21 v7000 (Env.put s20 v4001 (Env.put s4 v2008 (Env.put s5 v2007 e)))) [v10007, v10006, v10005, v10004, v10003, v10002, v10001, v10000] H10003 fun v10008 H10008 k10008 =>
 genK roundT rec (.nilCheck (.s s0)) k10008 (Env.put s21 v7000 (Env.put s20 v4001 (Env.put s4 v2008 (Env.put s5 v2007 e)))) [] H10008 fun v12000 H12000 k12000 =>
 faK 0 v12000 fun v12001 =>
 ldK false 1 v12001 H12000 fun v12002 =>
 genK roundT rec (.nilCheck (.l 0)) k12000 (Env.put s21 v7000 (Env.put s20 v4001 (Env.put s4 v2008 (Env.put s5 v2007 e)))) [v12002, v12001, v12000] H12000 fun v12003 H12003 k12003 =>
 faK 4 v12003 fun v12004 =>
 ldK false 1 v12004 H12003 fun v12005 =>
 faK 2 v2008 fun v12006 =>
 ldK false 1 v12006 H12003 fun v12007 =>
 genK roundT rec (.mapUpd .i (.l 2) (.l 0) (.s s5)) k12003 (Env.put s21 v7000 (Env.put s20 v4001 (Env.put s4 v2008 (Env.put s5 v2007 e)))) [v12007, v12006, v12005, v12004, v12003, v12002, v12001, v12000] H12003 fun v12008 H12008 k12008 =>
 genK roundT rec (.nilCheck (.s s0)) k12008 (Env.put s21 v7000 (Env.put s20 v4001 (Env.put s4 v2008 (Env.put s5 v2007 e)))) [] H12008 fun v13000 H13000 k13000 =>
 faK 0 v13000 fun v13001 =>
 ldK false 1 v13001 H13000 fun v13002 =>
 genK roundT rec (.nilCheck (.l 0)) k13000 (Env.put s21 v7000 (Env.put s20 v4001 (Env.put s4 v2008 (Env.put s5 v2007 e)))) [v13002, v13001, v13000] H13000 fun v13003 H13003 k13003 =>
 faK 3 v13003 fun v13004 =>
 ldK false 1 v13004 H13003 fun v13005 =>
 faK 2 v2008 fun v13006 =>
 ldK false 1 v13006 H13003 fun v13007 =>
 genK roundT rec (.nilCheck (.s s0)) k13003 (Env.put s21 v7000 (Env.put s20 v4001 (Env.put s4 v2008 (Env.put s5 v2007 e)))) [v13007, v13006, v13005, v13004, v13003, v13002, v13001, v13000] H13003 fun v13008 H13008 k13008 =>
 faK 0 v13008 fun v13009 =>
 ldK false 1 v13009 H13008 fun v13010 =>
 genK roundT rec (.nilCheck (.l 0)) k13008 (Env.put s21 v7000 (Env.put s20 v4001 (Env.put s4 v2008 (Env.put s5 v2007 e)))) [v13010, v13009, v13008, v13007, v13006, v13005, v13004, v13003, v13002, v13001, v13000] H13008 fun v13011 H13011 k13011 =>
 faK 2 v13011 fun v13012 =>
 ldK false 1 v13012 H13011 fun v13013 =>
 binK .or .no v2007 v13013 fun v13014 =>
 faK 1 v2008 fun v13015 =>
 ldK false 1 v13015 H13011 fun v13016 =>
 caK rec 45 [v13016] H13011 fun v13017 H13017 =>
 boolK (and (again ⟨.load false 1 (.l 0), .none, []⟩ v13013 (Env.put s21 v7000 (Env.put s20 v4001 (Env.put s4 v2008 (Env.put s5 v2007 e)))) [v13012, v13011, v13010, v13009, v13008, v13007, v13006, v13005, v13004, v13003, v13002, v13001, v13000] H13017) (and (again ⟨.load false 1 (.l 0), .none, []⟩ v13010 (Env.put s21 v7000 (Env.put s20 v4001 (Env.put s4 v2008 (Env.put s5 v2007 e)))) [v13009, v13008, v13007, v13006, v13005, v13004, v13003, v13002, v13001, v13000] H13017) (and (again ⟨.load false 1 (.l 0), .none, []⟩ v13007 (Env.put s21 v7000 (Env.put s20 v4001 (Env.put s4 v2008 (Env.put s5 v2007 e)))) [v13006, v13005, v13004, v13003, v13002, v13001, v13000] H13017) (and (again ⟨.load false 1 (.l 0), .none, []⟩ v13005 (Env.put s21 v7000 (Env.put s20 v4001 (Env.put s4 v2008 (Env.put s5 v2007 e)))) [v13004, v13003, v13002, v13001, v13000] H13017) (and (again ⟨.load false 1 (.l 0), .none, []⟩ v13002 (Env.put s21 v7000 (Env.put s20 v4001 (Env.put s4 v2008 (Env.put s5 v2007 e)))) [v13001, v13000] H13017) true))))) (binK .and .no v13014 v13017 fun v13018 =>
 binK .neq .no v13018 (.i .u64 0) fun v13019 =>
 genK roundT rec (.mapUpd .i (.l 14) (.l 12) (.l 0)) k13011 (Env.put s21 v7000 (Env.put s20 v4001 (Env.put s4 v2008 (Env.put s5 v2007 e)))) [v13019, v13018, v13017, v13016, v13015, v13014, v13013, v13012, v13011, v13010, v13009, v13008, v13007, v13006, v13005, v13004, v13003, v13002, v13001, v13000] H13017 fun v13020 H13020 k13020 =>
 K5 .norm (Env.put s21 v7000 (Env.put s20 v4001 (Env.put s4 v2008 (Env.put s5 v2007 e)))) H13020 k13020))
 (binK .eql .no v4001 (.i .i64 8) fun v10000 =>
 condK v10000 (genK roundT rec (.nilCheck (.s s0)) k2003 (Env.put s65 v10000 (Env.put s21 v7000 (Env.put s20 v4001 (Env.put s4 v2008 (Env.put s5 v2007 e))))) [] H2010 fun v12000 H12000 k12000 =>
 faK 0 v12000 fun v12001 =>
 ldK false 1 v12001 H12000 fun v12002 =>
 genK roundT rec (.nilCheck (.l 0)) k12000 (Env.put s65 v10000 (Env.put s21 v7000 (Env.put s20 v4001 (Env.put s4 v2008 (Env.put s5 v2007 e))))) [v12002, v12001, v12000] H12000 fun v12003 H12003 k12003 =>
 faK 7 v12003 fun v12004 =>
 ldK false 1 v12004 H12003 fun v12005 =>
 faK 2 v2008 fun v12006 =>
 ldK false 1 v12006 H12003 fun v12007 =>
 genK roundT rec (.mapUpd .i (.l 2) (.l 0) (.s s5)) k12003 (Env.put s65 v10000 (Env.put s21 v7000 (Env.put s20 v4001 (Env.put s4 v2008 (Env.put s5 v2007 e))))) [v12007, v12006, v12005, v12004, v12003, v12002, v12001, v12000] H12003 fun v12008 H12008 k12008 =>
 K5 .norm (Env.put s65 v10000 (Env.put s21 v7000 (Env.put s20 v4001 (Env.put s4 v2008 (Env.put s5 v2007 e))))) H12008 k12008)
 (binK .eql .no v4001 (.i .i64 9) fun v13000 =>
 condK v13000 (genK roundT rec (.nilCheck (.s s0)) k2003 (Env.put s77 v13000 (Env.put s65 v10000 (Env.put s21 v7000 (Env.put s20 v4001 (Env.put s4 v2008 (Env.put s5 v2007 e)))))) [] H2010 fun v15000 H15000 k15000 =>
 faK 0 v15000 fun v15001 =>
 ldK false 1 v15001 H15000 fun v15002 =>
 genK roundT rec (.nilCheck (.s s0)) k15000 (Env.put s77 v13000 (Env.put s65 v10000 (Env.put s21 v7000 (Env.put s20 v4001 (Env.put s4 v2008 (Env.put s5 v2007 e)))))) [v15002, v15001, v15000] H15000 fun v15003 H15003 k15003 =>
 faK 0 v15003 fun v15004 =>
 ldK false 1 v15004 H15003 fun v15005 =>
 genK roundT rec (.nilCheck (.l 3)) k15003 (Env.put s77 v13000 (Env.put s65 v10000 (Env.put s21 v7000 (Env.put s20 v4001 (Env.put s4 v2008 (Env.put s5 v2007 e)))))) [v15005, v15004, v15003, v15002, v15001, v15000] H15003 fun v15006 H15006 k15006 =>
 faK 5 v15006 fun v15007 =>
 stK 1 v2007 v15007 H15006 fun H15008 =>
 genK roundT rec (.nilCheck (.l 3)) k15006 (Env.put s77 v13000 (Env.put s65 v10000 (Env.put s21 v7000 (Env.put s20 v4001 (Env.put s4 v2008 (Env.put s5 v2007 e)))))) [AX.undef, v15007, v15006, v15005, v15004, v15003, v15002, v15001, v15000] H15008 fun v15009 H15009 k15009 =>
 faK 6 v15009 fun v15010 =>
 stK 1 (.b true) v15010 H15009 fun H15011 =>
 K5 .norm (Env.put s77 v13000 (Env.put s65 v10000 (Env.put s21 v7000 (Env.put s20 v4001 (Env.put s4 v2008 (Env.put s5 v2007 e)))))) H15011 k15009)
 (K5 .norm (Env.put s77 v13000 (Env.put s65 v10000 (Env.put s21 v7000 (Env.put s20 v4001 (Env.put s4 v2008 (Env.put s5 v2007 e)))))) H2010 k2003)))) (endK recD [])))
theorem Tryz.cOk58 : (compFn Tryz.prog Tryz.f58).map (bodyK 58) = some Tryz.c58 := by kernel_rfl
def Tryz.c62 : FnK := fun rec recD args H => startK 2 args fun e =>
 newK [(.i .i64 0), (.i .i64 0)] H fun v2000 H2000 =>
 seqK (fun K3 =>
 binK .gtr .no (Env.get s1 e) (.i .i64 0) fun v5000 =>
 condK v5000 (bdK [(.i .i64 0), (.i .i64 0)] [] fun v8000 =>
 stK 2 v8000 v2000 H2000 fun H8001 =>
 K3 .ret (Env.put s9 v5000 (Env.put s4 v2000 e)) H8001 (Ctl.mk [] .none))
 (K3 .norm (Env.put s9 v5000 (Env.put s4 v2000 e)) H2000 (Ctl.mk [] .none))) (fun k3 e3 H3 =>
 seqK (fun K4 =>
 genK roundT rec (.nilCheck (.s s0)) k3 e3 [] H3 fun v6000 H6000 k6000 =>
 faK 0 v6000 fun v6001 =>
 ldK true 2 v6001 H6000 fun v6002 =>
 genK roundT rec (.nilCheck (.s s0)) k6000 e3 [v6002, v6001, v6000] H6000 fun v6003 H6003 k6003 =>
 faK 0 v6003 fun v6004 =>
 faK 1 v6004 fun v6005 =>
 ldK false 1 v6005 H6003 fun v6006 =>
 caK rec 67 [v6002, v6006] H6003 fun v6007 H6007 =>
 lnK .sl H6007 v6007 fun v6008 =>
 blockK 0 (fun K7 =>
 loopK (fun k8 e8 H8 K8 =>
 binK .lss .no (Env.get s22 e8) (Env.get s21 e8) fun v10000 =>
 seqK (fun K11 =>
 condK v10000 (K11 .norm (Env.put s23 v10000 e8) H8 k8)
 (K11 (.exit 0) (Env.put s23 v10000 e8) H8 k8)) (fun k11 e11 H11 =>
 seqK (fun K12 =>
 blockK 1 (fun K13 =>
 iaK .none 1 (Env.get s20 e11) (Env.get s22 e11) fun v15000 =>
 ldK false 1 v15000 H11 fun v15001 =>
 genK roundT rec (.nilCheck (.s s0)) k11 (Env.put s6 v15001 e11) [] H11 fun v17000 H17000 k17000 =>
 faK 0 v17000 fun v17001 =>
 faK 0 v17001 fun v17002 =>
 ldK false 1 v17002 H17000 fun v17003 =>
 iaK .none 13 v17003 v15001 fun v17004 =>
 ldK true 13 v17004 H17000 fun v17005 =>
 newK [(.i .i64 0), (.i .i64 0), (.i .i64 0), .sl0, (.s []), (.i .i64 0), (.s []), (.i .i64 0), (.s []), (.i .i64 0), (.i .i64 0), (.i .i64 0), .sl0] H17000 fun v17006 H17006 =>
 stK 13 v17005 v17006 H17006 fun H17007 =>
 faK 5 v17006 fun v19000 =>
 faK 0 v19000 fun v19001 =>
 ldK false 1 v19001 H17007 fun v19002 =>
 binK .eql .no v19002 (.i .i64 5) fun v19003 =>
 gdK v19003 true (fun R19004 => R19004 (Env.get s0 e11) H17007 k17000) H17007 k17000 fun v19004 H19004 k19004 =>
 gdK v19003 true (fun R19005 => genK roundT rec (.nilCheck (.l 0)) k19004 (Env.put s7 v17006 (Env.put s6 v15001 e11)) [v19004, v19003, v19002, v19001, v19000] H19004 fun v19005 H19005 k19005 =>
 R19005 v19005 H19005 k19005) H19004 k19004 fun v19005 H19005 k19005 =>
 gdK v19003 true (fun R19006 => faK 3 v19005 fun v19006 =>
 R19006 v19006 H19005 k19005) H19005 k19005 fun v19006 H19006 k19006 =>
 gdK v19003 true (fun R19007 => ldK false 1 v19006 H19006 fun v19007 =>
 R19007 v19007 H19006 k19006) H19006 k19006 fun v19007 H19007 k19007 =>
 gdK v19003 true (fun R19008 => faK 5 v17006 fun v19008 =>
 R19008 v19008 H19007 k19007) H19007 k19007 fun v19008 H19008 k19008 =>
 gdK v19003 true (fun R19009 => faK 1 v19008 fun v19009 =>
 R19009 v19009 H19008 k19008) H19008 k19008 fun v19009 H19009 k19009 =>
 gdK v19003 true (fun R19010 => ldK false 1 v19009 H19009 fun v19010 =>
 R19010 v19010 H19009 k19009) H19009 k19009 fun v19010 H19010 k19010 =>
 gdK v19003 true (fun R19011 => genK roundT rec (.lookup .s .p0 false (.l 3) (.l 0)) k19010 (Env.put s7 v17006 (Env.put s6 v15001 e11)) [v19010, v19009, v19008, v19007, v19006, v19005, v19004, v19003, v19002, v19001, v19000] H19010 fun v19011 H19011 k19011 =>
 R19011 v19011 H19011 k19011) H19010 k19010 fun v19011 H19011 k19011 =>
 gdK v19003 true (fun R19012 => binK .eql .ptr v19011 .p0 fun v19012 =>
 R19012 v19012 H19011 k19011) H19011 k19011 fun v19012 H19012 k19012 =>
 pkK v19003 v19012 (.b false) fun v19013 =>
 condK v19013 (faK 10 v17006 fun v22000 =>
 faK 0 v22000 fun v22001 =>
 ldK false 1 v22001 H19012 fun v22002 =>
 bdK [(.i .i64 0), (.i .i64 0)] [(0, 1, (.i .i64 3)), (1, 1, v22002)] fun v22003 =>
 stK 2 v22003 (Env.get s4 e11) H19012 fun H22004 =>
 K13 .ret (Env.put s48 v19013 (Env.put s7 v17006 (Env.put s6 v15001 e11))) H22004 k19012)
 (K13 .norm (Env.put s48 v19013 (Env.put s7 v17006 (Env.put s6 v15001 e11))) H19012 k19012)) K12) (fun k12 e12 H12 =>
 binK .add .no (Env.get s22 e12) (.i .i64 1) fun v13000 =>
 K8 .norm (Env.put s22 v13000 e12) H12 k12) K8) K8) rounds K7 k6003 (Env.put s20 v6007 (Env.put s21 v6008 (Env.put s22 (.i .i64 0) e3))) H6007) K4) (fun k4 e4 H4 =>
 bdK [(.i .i64 0), (.i .i64 0)] [] fun v6000 =>
 stK 2 v6000 (Env.get s4 e4) H4 fun H6001 =>
 (endK recD [.cell true 2 s4]) .ret e4 H6001 k4) (endK recD [.cell true 2 s4])) (endK recD [.cell true 2 s4])
theorem Tryz.cOk62 : (compFn Tryz.prog Tryz.f62).map (bodyK 62) = some Tryz.c62 := by kernel_rfl
def Tryz.c76 : FnK := fun rec recD args H => startK 1 args fun e =>
 blockK 0 (fun K1 =>
 loopK (fun k2 e2 H2 K2 =>
 blockK 1 (fun K3 =>
 caK rec 119 [(Env.get s0 e2), (.f 120 [] [])] H2 fun v5000 H5000 =>
 seqK (fun K6 =>
 genK roundT rec (.nilCheck (.s s0)) k2 e2 [] H5000 fun v8000 H8000 k8000 =>
 faK 0 v8000 fun v8001 =>
 ldK false 1 v8001 H8000 fun v8002 =>
 genK roundT rec (.nilCheck (.s s0)) k8000 e2 [v8002, v8001, v8000] H8000 fun v8003 H8003 k8003 =>
 faK 1 v8003 fun v8004 =>
 ldK false 1 v8004 H8003 fun v8005 =>
 slK .none v8002 (.some v8005) .none .none fun v8006 =>
 caK rec 114 [v8006, (.s [47, 47])] H8003 fun v8007 H8007 =>
 unK .not v8007 fun v8008 =>
 condK v8008 (K6 .ret (Env.put s14 v8008 e2) H8007 k8003)
 (K6 .norm (Env.put s14 v8008 e2) H8007 k8003)) (fun k6 e6 H6 =>
 blockK 2 (fun K7 =>
 loopK (fun k8 e8 H8 K8 =>
 seqK (fun K9 =>
 genK roundT rec (.nilCheck (.s s0)) k8 e8 [] H8 fun v11000 H11000 k11000 =>
 faK 1 v11000 fun v11001 =>
 ldK false 1 v11001 H11000 fun v11002 =>
 genK roundT rec (.nilCheck (.s s0)) k11000 e8 [v11002, v11001, v11000] H11000 fun v11003 H11003 k11003 =>
 faK 0 v11003 fun v11004 =>
 ldK false 1 v11004 H11003 fun v11005 =>
 lnK .s H11003 v11005 fun v11006 =>
 binK .lss .no v11002 v11006 fun v11007 =>
 gdK v11007 true (fun R11008 => R11008 (Env.get s0 e8) H11003 k11003) H11003 k11003 fun v11008 H11008 k11008 =>
 gdK v11007 true (fun R11009 => genK roundT rec (.nilCheck (.l 0)) k11008 e8 [v11008, v11007, v11006, v11005, v11004, v11003, v11002, v11001, v11000] H11008 fun v11009 H11009 k11009 =>
 R11009 v11009 H11009 k11009) H11008 k11008 fun v11009 H11009 k11009 =>
 gdK v11007 true (fun R11010 => faK 0 v11009 fun v11010 =>
 R11010 v11010 H11009 k11009) H11009 k11009 fun v11010 H11010 k11010 =>
 gdK v11007 true (fun R11011 => ldK false 1 v11010 H11010 fun v11011 =>
 R11011 v11011 H11010 k11010) H11010 k11010 fun v11011 H11011 k11011 =>
 gdK v11007 true (fun R11012 => R11012 (Env.get s0 e8) H11011 k11011) H11011 k11011 fun v11012 H11012 k11012 =>
 gdK v11007 true (fun R11013 => genK roundT rec (.nilCheck (.l 0)) k11012 e8 [v11012, v11011, v11010, v11009, v11008, v11007, v11006, v11005, v11004, v11003, v11002, v11001, v11000] H11012 fun v11013 H11013 k11013 =>
 R11013 v11013 H11013 k11013) H11012 k11012 fun v11013 H11013 k11013 =>
 gdK v11007 true (fun R11014 => faK 1 v11013 fun v11014 =>
 R11014 v11014 H11013 k11013) H11013 k11013 fun v11014 H11014 k11014 =>
 gdK v11007 true (fun R11015 => ldK false 1 v11014 H11014 fun v11015 =>
 R11015 v11015 H11014 k11014) H11014 k11014 fun v11015 H11015 k11015 =>
 gdK v11007 true (fun R11016 => ixK .none v11011 v11015 fun v11016 =>
 R11016 v11016 H11015 k11015) H11015 k11015 fun v11016 H11016 k11016 =>
 gdK v11007 true (fun R11017 => binK .neq .no v11016 (.i .u8 10) fun v11017 =>
 R11017 v11017 H11016 k11016) H11016 k11016 fun v11017 H11017 k11017 =>
 pkK v11007 v11017 (.b false) fun v11018 =>
 condK v11018 (K9 .norm (Env.put s36 v11018 e8) H11017 k11017)
 (K9 (.exit 2) (Env.put s36 v11018 e8) H11017 k11017)) (fun k9 e9 H9 =>
 blockK 3 (fun K10 =>
 genK roundT rec (.nilCheck (.s s0)) k9 e9 [] H9 fun v11000 H11000 k11000 =>
 faK 1 v11000 fun v11001 =>
 ldK false 1 v11001 H11000 fun v11002 =>
 binK .add .no v11002 (.i .i64 1) fun v11003 =>
 genK roundT rec (.nilCheck (.s s0)) k11000 e9 [v11003, v11002, v11001, v11000] H11000 fun v11004 H11004 k11004 =>
 faK 1 v11004 fun v11005 =>
 stK 1 v11003 v11005 H11004 fun H11006 =>
 K10 .norm e9 H11006 k11004) K8) K8) rounds K7 k6 e6 H6) K3) K3) K2) rounds K1 (Ctl.mk [] .none) e H) (endK recD [])
theorem Tryz.cOk76 : (compFn Tryz.prog Tryz.f76).map (bodyK 76) = some Tryz.c76 := by kernel_rfl
def Tryz.c77 : FnK := fun rec recD args H => startK 1 args fun e =>
 genK roundT rec (.nilCheck (.s s0)) (Ctl.mk [] .none) (Env.put s2 (.i .i64 0) (Env.put s3 (.i .i64 0) e)) [] H fun v4000 H4000 k4000 =>
 faK 1 v4000 fun v4001 =>
 ldK false 1 v4001 H4000 fun v4002 =>
 genK roundT rec (.nilCheck (.s s0)) k4000 (Env.put s2 (.i .i64 0) (Env.put s3 (.i .i64 0) e)) [v4002, v4001, v4000] H4000 fun v4003 H4003 k4003 =>
 faK 0 v4003 fun v4004 =>
 ldK false 1 v4004 H4003 fun v4005 =>
 genK roundT rec (.nilCheck (.s s0)) k4003 (Env.put s2 (.i .i64 0) (Env.put s3 (.i .i64 0) e)) [v4005, v4004, v4003, v4002, v4001, v4000] H4003 fun v4006 H4006 k4006 =>
 faK 1 v4006 fun v4007 =>
 ldK false 1 v4007 H4006 fun v4008 =>
 ixK .none v4005 v4008 fun v4009 =>
 seqK (fun K5 =>
 blockK 0 (fun K6 =>
 caK rec 121 [v4009] H4006 fun v8000 H8000 =>
 condK v8000 (caK rec 119 [(Env.get s0 e), (.f 122 [] [])] H8000 fun v11000 H11000 =>
 seqK (fun K12 =>
 genK roundT rec (.nilCheck (.s s0)) k4006 (Env.put s21 v8000 (Env.put s4 v4002 (Env.put s5 v4009 (Env.put s2 (.i .i64 0) (Env.put s3 (.i .i64 0) e))))) [] H11000 fun v14000 H14000 k14000 =>
 faK 1 v14000 fun v14001 =>
 ldK false 1 v14001 H14000 fun v14002 =>
 binK .sub .no v14002 v4002 fun v14003 =>
 binK .gtr .no v14003 (.i .i64 64) fun v14004 =>
 condK v14004 (K12 .ret (Env.put s2 (.i .i64 0) (Env.put s3 (.i .i64 2) (Env.put s32 v14004 (Env.put s21 v8000 (Env.put s4 v4002 (Env.put s5 v4009 (Env.put s2 (.i .i64 0) (Env.put s3 (.i .i64 0) e)))))))) H14000 k14000)
 (K12 .norm (Env.put s32 v14004 (Env.put s21 v8000 (Env.put s4 v4002 (Env.put s5 v4009 (Env.put s2 (.i .i64 0) (Env.put s3 (.i .i64 0) e)))))) H14000 k14000)) (fun k12 e12 H12 =>
 K6 .ret (Env.put s2 (.i .i64 1) (Env.put s3 (.i .i64 0) e12)) H12 k12) K6)
 (caK rec 123 [v4009] H8000 fun v11000 H11000 =>
 condK v11000 (caK rec 119 [(Env.get s0 e), (.f 123 [] [])] H11000 fun v16000 H16000 =>
 seqK (fun K17 =>
 genK roundT rec (.nilCheck (.s s0)) k4006 (Env.put s6 (.i .i64 2) (Env.put s33 v11000 (Env.put s21 v8000 (Env.put s4 v4002 (Env.put s5 v4009 (Env.put s2 (.i .i64 0) (Env.put s3 (.i .i64 0) e))))))) [] H16000 fun v19000 H19000 k19000 =>
 faK 1 v19000 fun v19001 =>
 ldK false 1 v19001 H19000 fun v19002 =>
 binK .add .no v19002 (.i .i64 1) fun v19003 =>
 genK roundT rec (.nilCheck (.s s0)) k19000 (Env.put s6 (.i .i64 2) (Env.put s33 v11000 (Env.put s21 v8000 (Env.put s4 v4002 (Env.put s5 v4009 (Env.put s2 (.i .i64 0) (Env.put s3 (.i .i64 0) e))))))) [v19003, v19002, v19001, v19000] H19000 fun v19004 H19004 k19004 =>
 faK 0 v19004 fun v19005 =>
 ldK false 1 v19005 H19004 fun v19006 =>
 lnK .s H19004 v19006 fun v19007 =>
 binK .lss .no v19003 v19007 fun v19008 =>
 gdK v19008 true (fun R19009 => R19009 (Env.get s0 e) H19004 k19004) H19004 k19004 fun v19009 H19009 k19009 =>
 gdK v19008 true (fun R19010 => genK roundT rec (.nilCheck (.l 0)) k19009 (Env.put s6 (.i .i64 2) (Env.put s33 v11000 (Env.put s21 v8000 (Env.put s4 v4002 (Env.put s5 v4009 (Env.put s2 (.i .i64 0) (Env.put s3 (.i .i64 0) e))))))) [v19009, v19008, v19007, v19006, v19005, v19004, v19003, v19002, v19001, v19000] H19009 fun v19010 H19010 k19010 =>
 R19010 v19010 H19010 k19010) H19009 k19009 fun v19010 H19010 k19010 =>
 gdK v19008 true (fun R19011 => faK 0 v19010 fun v19011 =>
 R19011 v19011 H19010 k19010) H19010 k19010 fun v19011 H19011 k19011 =>
 gdK v19008 true (fun R19012 => ldK false 1 v19011 H19011 fun v19012 =>
 R19012 v19012 H19011 k19011) H19011 k19011 fun v19012 H19012 k19012 =>
 gdK v19008 true (fun R19013 => R19013 (Env.get s0 e) H19012 k19012) H19012 k19012 fun v19013 H19013 k19013 =>
 gdK v19008 true (fun R19014 => genK roundT rec (.nilCheck (.l 0)) k19013 (Env.put s6 (.i .i64 2) (Env.put s33 v11000 (Env.put s21 v8000 (Env.put s4 v4002 (Env.put s5 v4009 (Env.put s2 (.i .i64 0) (Env.put s3 (.i .i64 0) e))))))) [v19013, v19012, v19011, v19010, v19009, v19008, v19007, v19006, v19005, v19004, v19003, v19002, v19001, v19000] H19013 fun v19014 H19014 k19014 =>
 R19014 v19014 H19014 k19014) H19013 k19013 fun v19014 H19014 k19014 =>
 gdK v19008 true (fun R19015 => faK 1 v19014 fun v19015 =>
 R19015 v19015 H19014 k19014) H19014 k19014 fun v19015 H19015 k19015 =>
 gdK v19008 true (fun R19016 => ldK false 1 v19015 H19015 fun v19016 =>
 R19016 v19016 H19015 k19015) H19015 k19015 fun v19016 H19016 k19016 =>
 gdK v19008 true (fun R19017 => ixK .none v19012 v19016 fun v19017 =>
 R19017 v19017 H19016 k19016) H19016 k19016 fun v19017 H19017 k19017 =>
 gdK v19008 true (fun R19018 => binK .eql .no v19017 (.i .u8 46) fun v19018 =>
 R19018 v19018 H19017 k19017) H19017 k19017 fun v19018 H19018 k19018 =>
 pkK v19008 v19018 (.b false) fun v19019 =>
 gdK v19019 true (fun R19020 => R19020 (Env.get s0 e) H19018 k19018) H19018 k19018 fun v19020 H19020 k19020 =>
 gdK v19019 true (fun R19021 => genK roundT rec (.nilCheck (.l 0)) k19020 (Env.put s6 (.i .i64 2) (Env.put s33 v11000 (Env.put s21 v8000 (Env.put s4 v4002 (Env.put s5 v4009 (Env.put s2 (.i .i64 0) (Env.put s3 (.i .i64 0) e))))))) [v19020, v19019, v19018, v19017, v19016, v19015, v19014, v19013, v19012, v19011, v19010, v19009, v19008, v19007, v19006, v19005, v19004, v19003, v19002, v19001, v19000] H19020 fun v19021 H19021 k19021 =>
 R19021 v19021 H19021 k19021) H19020 k19020 fun v19021 H19021 k19021 =>
 gdK v19019 true (fun R19022 => faK 0 v19021 fun v19022 =>
 R19022 v19022 H19021 k19021) H19021 k19021 fun v19022 H19022 k19022 =>
 gdK v19019 true (fun R19023 => ldK false 1 v19022 H19022 fun v19023 =>
 R19023 v19023 H19022 k19022) H19022 k19022 fun v19023 H19023 k19023 =>
 gdK v19019 true (fun R19024 => R19024 (Env.get s0 e) H19023 k19023) H19023 k19023 fun v19024 H19024 k19024 =>
 gdK v19019 true (fun R19025 => genK roundT rec (.nilCheck (.l 0)) k19024 (Env.put s6 (.i .i64 2) (Env.put s33 v11000 (Env.put s21 v8000 (Env.put s4 v4002 (Env.put s5 v4009 (Env.put s2 (.i .i64 0) (Env.put s3 (.i .i64 0) e))))))) [v19024, v19023, v19022, v19021, v19020, v19019, v19018, v19017, v19016, v19015, v19014, v19013, v19012, v19011, v19010, v19009, v19008, v19007, v19006, v19005, v19004, v19003, v19002, v19001, v19000] H19024 fun v19025 H19025 k19025 =>
 R19025 v19025 H19025 k19025) H19024 k19024 fun v19025 H19025 k19025 =>
 gdK v19019 true (fun R19026 => faK 1 v19025 fun v19026 =>
 R19026 v19026 H19025 k19025) H19025 k19025 fun v19026 H19026 k19026 =>
 gdK v19019 true (fun R19027 => ldK false 1 v19026 H19026 fun v19027 =>
 R19027 v19027 H19026 k19026) H19026 k19026 fun v19027 H19027 k19027 =>
 gdK v19019 true (fun R19028 => binK .add .no v19027 (.i .i64 1) fun v19028 =>
 R19028 v19028 H19027 k19027) H19027 k19027 fun v19028 H19028 k19028 =>
 gdK v19019 true (fun R19029 => ixK .none v19023 v19028 fun v19029 =>
 R19029 v19029 H19028 k19028) H19028 k19028 fun v19029 H19029 k19029 =>
 gdK v19019 true (fun R19030 => caK rec 123 [v19029] H19029 fun v19030 H19030 =>
 R19030 v19030 H19030 k19029) H19029 k19029 fun v19030 H19030 k19030 =>
 pkK v19019 v19030 (.b false) fun v19031 =>
 condK v19031 (genK roundT rec (.nilCheck (.s s0)) k19030 (Env.put s6 (.i .i64 3) (Env.put s73 v19031 (Env.put s6 (.i .i64 2) (Env.put s33 v11000 (Env.put s21 v8000 (Env.put s4 v4002 (Env.put s5 v4009 (Env.put s2 (.i .i64 0) (Env.put s3 (.i .i64 0) e))))))))) [] H19030 fun v24000 H24000 k24000 =>
 faK 1 v24000 fun v24001 =>
 ldK false 1 v24001 H24000 fun v24002 =>
 binK .add .no v24002 (.i .i64 1) fun v24003 =>
 genK roundT rec (.nilCheck (.s s0)) k24000 (Env.put s6 (.i .i64 3) (Env.put s73 v19031 (Env.put s6 (.i .i64 2) (Env.put s33 v11000 (Env.put s21 v8000 (Env.put s4 v4002 (Env.put s5 v4009 (Env.put s2 (.i .i64 0) (Env.put s3 (.i .i64 0) e))))))))) [v24003, v24002, v24001, v24000] H24000 fun v24004 H24004 k24004 =>
 faK 1 v24004 fun v24005 =>
 stK 1 v24003 v24005 H24004 fun H24006 =>
 caK rec 119 [(Env.get s0 e), (.f 123 [] [])] H24006 fun v25000 H25000 =>
 K17 .norm (Env.put s6 (.i .i64 3) (Env.put s73 v19031 (Env.put s6 (.i .i64 2) (Env.put s33 v11000 (Env.put s21 v8000 (Env.put s4 v4002 (Env.put s5 v4009 (Env.put s2 (.i .i64 0) (Env.put s3 (.i .i64 0) e))))))))) H25000 k24004)
 (K17 .norm (Env.put s73 v19031 (Env.put s6 (.i .i64 2) (Env.put s33 v11000 (Env.put s21 v8000 (Env.put s4 v4002 (Env.put s5 v4009 (Env.put s2 (.i .i64 0) (Env.put s3 (.i .i64 0) e)))))))) H19030 k19030)) (fun k17 e17 H17 =>
 seqK (fun K18 =>
 genK roundT rec (.nilCheck (.s s0)) k17 e17 [] H17 fun v20000 H20000 k20000 =>
 faK 1 v20000 fun v20001 =>
 ldK false 1 v20001 H20000 fun v20002 =>
 binK .sub .no v20002 (Env.get s4 e17) fun v20003 =>
 binK .gtr .no v20003 (.i .i64 20) fun v20004 =>
 condK v20004 (K18 .ret (Env.put s2 (.i .i64 0) (Env.put s3 (.i .i64 2) (Env.put s89 v20004 e17))) H20000 k20000)
 (K18 .norm (Env.put s89 v20004 e17) H20000 k20000)) (fun k18 e18 H18 =>
 K6 .ret (Env.put s2 (Env.get s6 e18) (Env.put s3 (.i .i64 0) e18)) H18 k18) K6) K6)
 (binK .eql .no v4009 (.i .u8 34) fun v14000 =>
 condK v14000 (caK rec 124 [(Env.get s0 e)] H11000 fun v17000 H17000 =>
 seqK (fun K18 =>
 binK .eql .no v17000 (.i .i64 0) fun v20000 =>
 gdK v20000 true (fun R20001 => R20001 (Env.get s0 e) H17000 k4006) H17000 k4006 fun v20001 H20001 k20001 =>
 gdK v20000 true (fun R20002 => genK roundT rec (.nilCheck (.l 0)) k20001 (Env.put s7 v17000 (Env.put s91 v14000 (Env.put s33 v11000 (Env.put s21 v8000 (Env.put s4 v4002 (Env.put s5 v4009 (Env.put s2 (.i .i64 0) (Env.put s3 (.i .i64 0) e)))))))) [v20001, v20000] H20001 fun v20002 H20002 k20002 =>
 R20002 v20002 H20002 k20002) H20001 k20001 fun v20002 H20002 k20002 =>
 gdK v20000 true (fun R20003 => faK 1 v20002 fun v20003 =>
 R20003 v20003 H20002 k20002) H20002 k20002 fun v20003 H20003 k20003 =>
 gdK v20000 true (fun R20004 => ldK false 1 v20003 H20003 fun v20004 =>
 R20004 v20004 H20003 k20003) H20003 k20003 fun v20004 H20004 k20004 =>
 gdK v20000 true (fun R20005 => R20005 v4002 H20004 k20004) H20004 k20004 fun v20005 H20005 k20005 =>
 gdK v20000 true (fun R20006 => binK .sub .no v20004 v20005 fun v20006 =>
 R20006 v20006 H20005 k20005) H20005 k20005 fun v20006 H20006 k20006 =>
 gdK v20000 true (fun R20007 => binK .gtr .no v20006 (.i .i64 256) fun v20007 =>
 R20007 v20007 H20006 k20006) H20006 k20006 fun v20007 H20007 k20007 =>
 pkK v20000 v20007 (.b false) fun v20008 =>
 condK v20008 (K18 .norm (Env.put s7 (.i .i64 2) (Env.put s106 v20008 (Env.put s7 v17000 (Env.put s91 v14000 (Env.put s33 v11000 (Env.put s21 v8000 (Env.put s4 v4002 (Env.put s5 v4009 (Env.put s2 (.i .i64 0) (Env.put s3 (.i .i64 0) e)))))))))) H20007 k20007)
 (K18 .norm (Env.put s106 v20008 (Env.put s7 v17000 (Env.put s91 v14000 (Env.put s33 v11000 (Env.put s21 v8000 (Env.put s4 v4002 (Env.put s5 v4009 (Env.put s2 (.i .i64 0) (Env.put s3 (.i .i64 0) e))))))))) H20007 k20007)) (fun k18 e18 H18 =>
 K6 .ret (Env.put s2 (.i .i64 4) (Env.put s3 (Env.get s7 e18) e18)) H18 k18) K6)
 (K6 .norm (Env.put s91 v14000 (Env.put s33 v11000 (Env.put s21 v8000 (Env.put s4 v4002 (Env.put s5 v4009 (Env.put s2 (.i .i64 0) (Env.put s3 (.i .i64 0) e))))))) H11000 k4006)))) K5) (fun k5 e5 H5 =>
 caK rec 125 [(Env.get s0 e5)] H5 fun v7000 H7000 =>
 (endK recD [.slot s2, .slot s3]) .ret (Env.put s2 (.i .i64 5) (Env.put s3 v7000 e5)) H7000 k5) (endK recD [.slot s2, .slot s3])
theorem Tryz.cOk77 : (compFn Tryz.prog Tryz.f77).map (bodyK 77) = some Tryz.c77 := by kernel_rfl
def Tryz.c83 : FnK := fun rec recD args H => startK 0 args fun e =>
 newK [(.i .i64 0), (.s []), (.i .i64 0), (.s [])] H fun v2000 H2000 =>
 bdK [(.i .i64 0), (.s []), (.i .i64 0), (.s [])] [(0, 1, (.i .i64 8)), (3, 1, (.s [111]))] fun v4000 =>
 stK 4 v4000 v2000 H2000 fun H4001 =>
 (endK recD [.cell true 4 s0]) .ret (Env.put s0 v2000 e) H4001 (Ctl.mk [] .none)
theorem Tryz.cOk83 : (compFn Tryz.prog Tryz.f83).map (bodyK 83) = some Tryz.c83 := by kernel_rfl
def Tryz.c84 : FnK := fun rec recD args H => startK 1 args fun e =>
 bxK (Env.get s0 e) H fun v2000 H2000 =>
 seqK (fun K3 =>
 ldK true 4 v2000 H2000 fun v5000 =>
 caK rec 73 [v5000] H2000 fun v5001 H5001 =>
 unK .not v5001 fun v5002 =>
 condK v5002 (K3 .ret (Env.put s2 (.s []) (Env.put s7 v5002 (Env.put s1 v2000 (Env.put s2 (.s []) e)))) H5001 (Ctl.mk [] .none))
 (K3 .norm (Env.put s7 v5002 (Env.put s1 v2000 (Env.put s2 (.s []) e))) H5001 (Ctl.mk [] .none))) (fun k3 e3 H3 =>
 faK 1 (Env.get s1 e3) fun v5000 =>
 ldK false 1 v5000 H3 fun v5001 =>
 seqK (fun K6 =>
 faK 0 (Env.get s1 e3) fun v8000 =>
 ldK false 1 v8000 H3 fun v8001 =>
 blockK 0 (fun K9 =>
 binK .eql .no v8001 (.i .i64 1) fun v11000 =>
 condK v11000 (K9 .norm (Env.put s3 (.s [105, 110, 116]) (Env.put s12 v11000 (Env.put s11 v8001 (Env.put s3 v5001 e3)))) H3 k3)
 (binK .eql .no v8001 (.i .i64 2) fun v14000 =>
 condK v14000 (K9 .norm (Env.put s3 (.s [98, 111, 111, 108]) (Env.put s14 v14000 (Env.put s12 v11000 (Env.put s11 v8001 (Env.put s3 v5001 e3))))) H3 k3)
 (binK .eql .no v8001 (.i .i64 3) fun v17000 =>
 condK v17000 (K9 .norm (Env.put s3 (.s [100, 111, 117, 98, 108, 101]) (Env.put s16 v17000 (Env.put s14 v14000 (Env.put s12 v11000 (Env.put s11 v8001 (Env.put s3 v5001 e3)))))) H3 k3)
 (binK .eql .no v8001 (.i .i64 4) fun v20000 =>
 condK v20000 (K9 .norm (Env.put s3 (.s [115, 116, 114]) (Env.put s18 v20000 (Env.put s16 v17000 (Env.put s14 v14000 (Env.put s12 v11000 (Env.put s11 v8001 (Env.put s3 v5001 e3))))))) H3 k3)
 (binK .eql .no v8001 (.i .i64 6) fun v23000 =>
 condK v23000 (K9 .norm (Env.put s3 (.s [118, 111, 105, 100]) (Env.put s20 v23000 (Env.put s18 v20000 (Env.put s16 v17000 (Env.put s14 v14000 (Env.put s12 v11000 (Env.put s11 v8001 (Env.put s3 v5001 e3)))))))) H3 k3)
 (K9 .norm (Env.put s20 v23000 (Env.put s18 v20000 (Env.put s16 v17000 (Env.put s14 v14000 (Env.put s12 v11000 (Env.put s11 v8001 (Env.put s3 v5001 e3))))))) H3 k3)))))) K6) (fun k6 e6 H6 =>
 seqK (fun K7 =>
 faK 3 (Env.get s1 e6) fun v9000 =>
 ldK false 1 v9000 H6 fun v9001 =>
 lnK .s H6 v9001 fun v9002 =>
 blockK 1 (fun K10 =>
 loopK (fun k11 e11 H11 K11 =>
 binK .lss .no (Env.get s25 e11) (Env.get s24 e11) fun v13000 =>
 seqK (fun K14 =>
 condK v13000 (K14 .norm (Env.put s26 v13000 e11) H11 k11)
 (K14 (.exit 1) (Env.put s26 v13000 e11) H11 k11)) (fun k14 e14 H14 =>
 seqK (fun K15 =>
 blockK 2 (fun K16 =>
 seqK (fun K19 =>
 binK .gtr .no (Env.get s25 e14) (.i .i64 0) fun v21000 =>
 condK v21000 (binK .add .no (Env.get s3 e14) (.s [91, 93]) fun v23000 =>
 K19 .norm (Env.put s3 v23000 (Env.put s29 v21000 (Env.put s4 (Env.get s25 e14) e14))) H14 k14)
 (K19 .norm (Env.put s29 v21000 (Env.put s4 (Env.get s25 e14) e14)) H14 k14)) (fun k19 e19 H19 =>
 faK 3 (Env.get s1 e19) fun v21000 =>
 ldK false 1 v21000 H19 fun v21001 =>
 ixK .none v21001 (Env.get s4 e19) fun v21002 =>
 blockK 3 (fun K22 =>
 binK .eql .no v21002 (.i .u8 63) fun v24000 =>
 condK v24000 (binK .add .no (Env.get s3 e19) (.s [63]) fun v26000 =>
 K22 .norm (Env.put s3 v26000 (Env.put s36 v24000 (Env.put s35 v21002 e19))) H19 k19)
 (binK .eql .no v21002 (.i .u8 111) fun v27000 =>
 condK v27000 (binK .add .no (.s [79, 112, 116, 105, 111, 110, 60]) (Env.get s3 e19) fun v29000 =>
 binK .add .no v29000 (.s [62]) fun v29001 =>
 K22 .norm (Env.put s3 v29001 (Env.put s40 v27000 (Env.put s36 v24000 (Env.put s35 v21002 e19)))) H19 k19)
 (K22 .norm (Env.put s40 v27000 (Env.put s36 v24000 (Env.put s35 v21002 e19))) H19 k19))) K16) K16) K15) (fun k15 e15 H15 =>
 binK .add .no (Env.get s25 e15) (.i .i64 1) fun v16000 =>
 K11 .norm (Env.put s25 v16000 e15) H15 k15) K11) K11) rounds K10 k6 (Env.put s24 v9002 (Env.put s25 (.i .i64 0) e6)) H6) K7) (fun k7 e7 H7 =>
 (endK recD [.slot s2]) .ret (Env.put s2 (Env.get s3 e7) e7) H7 k7) (endK recD [.slot s2])) (endK recD [.slot s2])) (endK recD [.slot s2])
theorem Tryz.cOk84 : (compFn Tryz.prog Tryz.f84).map (bodyK 84) = some Tryz.c84 := by kernel_rfl
def Tryz.c89 : FnK := fun rec recD args H => startK 4 args fun e =>
 genK roundT rec (.nilCheck (.s s0)) (Ctl.mk [] .none) (Env.put s8 (.i .i64 0) e) [] H fun v4000 H4000 k4000 =>
 faK 0 v4000 fun v4001 =>
 ldK false 1 v4001 H4000 fun v4002 =>
 newK [(.i .i64 0), (.i .i64 0), (.i .i64 0), .sl0, (.s []), (.i .i64 0), (.s []), (.i .i64 0), (.s []), (.i .i64 0), (.i .i64 0), (.i .i64 0), .sl0] H4000 fun v4003 H4003 =>
 caK rec 10 [v4002, (Env.get s1 e)] H4003 fun v4004 H4004 =>
 stK 13 v4004 v4003 H4004 fun H4005 =>
 seqK (fun K5 =>
 faK 0 v4003 fun v7000 =>
 ldK false 1 v7000 H4005 fun v7001 =>
 blockK 0 (fun K8 =>
 binK .eql .no v7001 (.i .i64 33) fun v10000 =>
 condK v10000 (faK 3 v4003 fun v13000 =>
 ldK false 1 v13000 H4005 fun v13001 =>
 iaK .none 1 v13001 (.i .i64 0) fun v13002 =>
 ldK false 1 v13002 H4005 fun v13003 =>
 caK rec 89 [(Env.get s0 e), v13003, (Env.get s3 e), (Env.get s2 e)] H4005 fun v13004 H13004 =>
 K8 .ret (Env.put s8 v13004 (Env.put s19 v10000 (Env.put s18 v7001 (Env.put s9 v4003 (Env.put s8 (.i .i64 0) e))))) H13004 k4000)
 (binK .eql .no v7001 (.i .i64 43) fun v13000 =>
 condK v13000 (faK 3 v4003 fun v16000 =>
 ldK false 1 v16000 H4005 fun v16001 =>
 iaK .none 1 v16001 (.i .i64 0) fun v16002 =>
 ldK false 1 v16002 H4005 fun v16003 =>
 caK rec 135 [(Env.get s0 e), v16003, (Env.get s2 e), (Env.get s3 e)] H4005 fun v16004 H16004 =>
 K8 .ret (Env.put s8 v16004 (Env.put s29 v13000 (Env.put s19 v10000 (Env.put s18 v7001 (Env.put s9 v4003 (Env.put s8 (.i .i64 0) e)))))) H16004 k4000)
 (binK .eql .no v7001 (.i .i64 44) fun v16000 =>
 condK v16000 (faK 3 v4003 fun v19000 =>
 ldK false 1 v19000 H4005 fun v19001 =>
 iaK .none 1 v19001 (.i .i64 0) fun v19002 =>
 ldK false 1 v19002 H4005 fun v19003 =>
 caK rec 135 [(Env.get s0 e), v19003, (Env.get s3 e), (Env.get s2 e)] H4005 fun v19004 H19004 =>
 K8 .ret (Env.put s8 v19004 (Env.put s39 v16000 (Env.put s29 v13000 (Env.put s19 v10000 (Env.put s18 v7001 (Env.put s9 v4003 (Env.put s8 (.i .i64 0) e))))))) H19004 k4000)
 (binK .eql .no v7001 (.i .i64 34) fun v19000 =>
 condK v19000 (faK 4 v4003 fun v22000 =>
 ldK false 1 v22000 H4005 fun v22001 =>
 blockK 1 (fun K23 =>
 binK .eql .no v22001 (.s [38, 38]) fun v25000 =>
 condK v25000 (faK 3 v4003 fun v28000 =>
 ldK false 1 v28000 H4005 fun v28001 =>
 iaK .none 1 v28001 (.i .i64 0) fun v28002 =>
 ldK false 1 v28002 H4005 fun v28003 =>
 faK 3 v4003 fun v28004 =>
 ldK false 1 v28004 H4005 fun v28005 =>
 iaK .none 1 v28005 (.i .i64 1) fun v28006 =>
 ldK false 1 v28006 H4005 fun v28007 =>
 caK rec 89 [(Env.get s0 e), v28007, (Env.get s2 e), (Env.get s3 e)] H4005 fun v28008 H28008 =>
 boolK (and (again ⟨.load false 1 (.l 0), .none, []⟩ v28003 (Env.put s53 v25000 (Env.put s52 v22001 (Env.put s49 v19000 (Env.put s39 v16000 (Env.put s29 v13000 (Env.put s19 v10000 (Env.put s18 v7001 (Env.put s9 v4003 (Env.put s8 (.i .i64 0) e))))))))) [v28002, v28001, v28000] H28008) (and (again ⟨.load false 1 (.l 0), .none, []⟩ v28001 (Env.put s53 v25000 (Env.put s52 v22001 (Env.put s49 v19000 (Env.put s39 v16000 (Env.put s29 v13000 (Env.put s19 v10000 (Env.put s18 v7001 (Env.put s9 v4003 (Env.put s8 (.i .i64 0) e))))))))) [v28000] H28008) true)) (caK rec 89 [(Env.get s0 e), v28003, v28008, (Env.get s3 e)] H28008 fun v28009 H28009 =>
 K23 .ret (Env.put s8 v28009 (Env.put s53 v25000 (Env.put s52 v22001 (Env.put s49 v19000 (Env.put s39 v16000 (Env.put s29 v13000 (Env.put s19 v10000 (Env.put s18 v7001 (Env.put s9 v4003 (Env.put s8 (.i .i64 0) e)))))))))) H28009 k4000))
 (binK .eql .no v22001 (.s [124, 124]) fun v28000 =>
 condK v28000 (faK 3 v4003 fun v31000 =>
 ldK false 1 v31000 H4005 fun v31001 =>
 iaK .none 1 v31001 (.i .i64 0) fun v31002 =>
 ldK false 1 v31002 H4005 fun v31003 =>
 faK 3 v4003 fun v31004 =>
 ldK false 1 v31004 H4005 fun v31005 =>
 iaK .none 1 v31005 (.i .i64 1) fun v31006 =>
 ldK false 1 v31006 H4005 fun v31007 =>
 caK rec 89 [(Env.get s0 e), v31007, (Env.get s2 e), (Env.get s3 e)] H4005 fun v31008 H31008 =>
 boolK (and (again ⟨.load false 1 (.l 0), .none, []⟩ v31003 (Env.put s70 v28000 (Env.put s53 v25000 (Env.put s52 v22001 (Env.put s49 v19000 (Env.put s39 v16000 (Env.put s29 v13000 (Env.put s19 v10000 (Env.put s18 v7001 (Env.put s9 v4003 (Env.put s8 (.i .i64 0) e)))))))))) [v31002, v31001, v31000] H31008) (and (again ⟨.load false 1 (.l 0), .none, []⟩ v31001 (Env.put s70 v28000 (Env.put s53 v25000 (Env.put s52 v22001 (Env.put s49 v19000 (Env.put s39 v16000 (Env.put s29 v13000 (Env.put s19 v10000 (Env.put s18 v7001 (Env.put s9 v4003 (Env.put s8 (.i .i64 0) e)))))))))) [v31000] H31008) true)) (caK rec 89 [(Env.get s0 e), v31003, (Env.get s2 e), v31008] H31008 fun v31009 H31009 =>
 K23 .ret (Env.put s8 v31009 (Env.put s70 v28000 (Env.put s53 v25000 (Env.put s52 v22001 (Env.put s49 v19000 (Env.put s39 v16000 (Env.put s29 v13000 (Env.put s19 v10000 (Env.put s18 v7001 (Env.put s9 v4003 (Env.put s8 (.i .i64 0) e))))))))))) H31009 k4000))
 (seqK (fun K30 =>
 binK .eql .no v22001 (.s [61, 61]) fun v32000 =>
 condK v32000 (K30 .norm (Env.put s87 v32000 (Env.put s70 v28000 (Env.put s53 v25000 (Env.put s52 v22001 (Env.put s49 v19000 (Env.put s39 v16000 (Env.put s29 v13000 (Env.put s19 v10000 (Env.put s18 v7001 (Env.put s9 v4003 (Env.put s8 (.i .i64 0) e))))))))))) H4005 k4000)
 (binK .eql .no v22001 (.s [33, 61]) fun v34000 =>
 K30 .norm (Env.put s87 v34000 (Env.put s87 v32000 (Env.put s70 v28000 (Env.put s53 v25000 (Env.put s52 v22001 (Env.put s49 v19000 (Env.put s39 v16000 (Env.put s29 v13000 (Env.put s19 v10000 (Env.put s18 v7001 (Env.put s9 v4003 (Env.put s8 (.i .i64 0) e)))))))))))) H4005 k4000)) (fun k30 e30 H30 =>
 condK (Env.get s87 e30) (genK roundT rec (.nilCheck (.s s0)) k30 e30 [] H30 fun v33000 H33000 k33000 =>
 faK 0 v33000 fun v33001 =>
 ldK false 1 v33001 H33000 fun v33002 =>
 caK rec 136 [v33002, (Env.get s1 e30)] H33000 fun v33003 H33003 =>
 binK .geq .no v33003 (.i .i64 0) fun v35000 =>
 condK v35000 (seqK (fun K37 =>
 faK 4 (Env.get s9 e30) fun v39000 =>
 ldK false 1 v39000 H33003 fun v39001 =>
 binK .eql .no v39001 (.s [61, 61]) fun v39002 =>
 condK v39002 (K37 .norm (Env.put s2 (Env.get s3 e30) (Env.put s3 (Env.get s2 e30) (Env.put s100 v39002 (Env.put s97 v35000 (Env.put s10 v33003 e30))))) H33003 k33000)
 (K37 .norm (Env.put s100 v39002 (Env.put s97 v35000 (Env.put s10 v33003 e30))) H33003 k33000)) (fun k37 e37 H37 =>
 caK rec 135 [(Env.get s0 e37), (Env.get s10 e37), (Env.get s2 e37), (Env.get s3 e37)] H37 fun v39000 H39000 =>
 K23 .ret (Env.put s8 v39000 e37) H39000 k37) K23)
 (K23 .norm (Env.put s97 v35000 (Env.put s10 v33003 e30)) H33003 k33000))
 (K23 .norm e30 H30 k30)) K23))) K8)
 (K8 .norm (Env.put s49 v19000 (Env.put s39 v16000 (Env.put s29 v13000 (Env.put s19 v10000 (Env.put s18 v7001 (Env.put s9 v4003 (Env.put s8 (.i .i64 0) e))))))) H4005 k4000))))) K5) (fun k5 e5 H5 =>
 bdK [(.i .i64 0), (.i .i64 0), (.i .i64 0), (.i .i64 0), (.i .i64 0)] [(0, 1, (.i .i64 5)), (1, 1, (.i .i64 (-1))), (2, 1, (Env.get s1 e5)), (3, 1, (Env.get s2 e5)), (4, 1, (Env.get s3 e5))] fun v7000 =>
 caK rec 50 [(Env.get s0 e5), v7000] H5 fun v7001 H7001 =>
 caK rec 87 [(Env.get s0 e5), (Env.get s1 e5), v7001] H7001 fun v7002 H7002 =>
 (endK recD [.slot s8]) .ret (Env.put s8 v7002 e5) H7002 k5) (endK recD [.slot s8])
theorem Tryz.cOk89 : (compFn Tryz.prog Tryz.f89).map (bodyK 89) = some Tryz.c89 := by kernel_rfl
def Tryz.c90 : FnK := fun rec recD args H => startK 3 args fun e =>
 bxK (Env.get s0 e) H fun v2000 H2000 =>
 bxK (Env.get s2 e) H2000 fun v2001 H2001 =>
 seqK (fun K3 =>
 caK rec 85 [(Env.get s1 e)] H2001 fun v5000 H5000 =>
 blockK 0 (fun K6 =>
 rangeK rec v5000 90 [s11, s12] (.reg ⟨[], [(s8, (.s s12))], []⟩) (.block 1 (.reg ⟨[⟨.load false 1 (.s s3), .none, []⟩,
 ⟨.load false 1 (.s s5), .none, []⟩,
 ⟨.callF 87 [(.l 1), (.s s8), (.l 0)], .none, []⟩,
 ⟨.store 1 (.s s5) (.l 0), .none, []⟩], [], []⟩)) (Ctl.mk [] .none) (Env.put s10 v5000 (Env.put s3 v2000 (Env.put s5 v2001 (Env.put s6 (.i .i64 0) e)))) H5000 K6) K3) (fun k3 e3 H3 =>
 ldK false 1 (Env.get s5 e3) H3 fun v5000 =>
 (endK recD [.slot s6]) .ret (Env.put s6 v5000 e3) H3 k3) (endK recD [.slot s6])
theorem Tryz.cOk90 : (compFn Tryz.prog Tryz.f90).map (bodyK 90) = some Tryz.c90 := by kernel_rfl
def Tryz.c91 : FnK := fun rec recD args H => startK 2 args fun e =>
 seqK (fun K5 =>
 genK roundT rec (.nilCheck (.s s0)) (Ctl.mk [] .none) (Env.put s5 .sl0 (Env.put s4 .sl0 e)) [] H fun v7000 H7000 k7000 =>
 faK 1 v7000 fun v7001 =>
 ldK false 1 v7001 H7000 fun v7002 =>
 iaK .none 5 v7002 (Env.get s1 e) fun v7003 =>
 faK 3 v7003 fun v7004 =>
 ldK false 1 v7004 H7000 fun v7005 =>
 genK roundT rec (.nilCheck (.s s0)) k7000 (Env.put s5 .sl0 (Env.put s4 .sl0 e)) [v7005, v7004, v7003, v7002, v7001, v7000] H7000 fun v7006 H7006 k7006 =>
 faK 1 v7006 fun v7007 =>
 ldK false 1 v7007 H7006 fun v7008 =>
 iaK .none 5 v7008 (Env.get s1 e) fun v7009 =>
 faK 4 v7009 fun v7010 =>
 ldK false 1 v7010 H7006 fun v7011 =>
 bdK [(.i .i64 0), (.i .i64 0)] [(0, 1, v7005), (1, 1, v7011)] fun v7012 =>
 blockK 0 (fun K8 =>
 loopK (fun k9 e9 H9 K9 =>
 binK .lss .no (Env.get s25 e9) (.i .i64 2) fun v11000 =>
 seqK (fun K12 =>
 condK v11000 (K12 .norm (Env.put s26 v11000 e9) H9 k9)
 (K12 (.exit 0) (Env.put s26 v11000 e9) H9 k9)) (fun k12 e12 H12 =>
 seqK (fun K13 =>
 blockK 1 (fun K14 =>
 ixK (.some (2, false, 1)) (Env.get s24 e12) (Env.get s25 e12) fun v16000 =>
 binK .geq .no v16000 (.i .i64 0) fun v18000 =>
 gdK v18000 true (fun R18001 => R18001 (Env.get s5 e12) H12 k12) H12 k12 fun v18001 H18001 k18001 =>
 gdK v18000 true (fun R18002 => R18002 v16000 H18001 k18001) H18001 k18001 fun v18002 H18002 k18002 =>
 gdK v18000 true (fun R18003 => caK rec 137 [v18001, v18002] H18002 fun v18003 H18003 =>
 R18003 v18003 H18003 k18002) H18002 k18002 fun v18003 H18003 k18003 =>
 gdK v18000 true (fun R18004 => unK .not v18003 fun v18004 =>
 R18004 v18004 H18003 k18003) H18003 k18003 fun v18004 H18004 k18004 =>
 pkK v18000 v18004 (.b false) fun v18005 =>
 condK v18005 (genK roundT rec (.buildSlice 1 1 [(.i .i64 0)] [(0, (.s s7))]) k18004 (Env.put s35 v18005 (Env.put s7 v16000 e12)) [] H18004 fun v20000 H20000 k20000 =>
 apK 1 [(.i .i64 0)] H20000 (Env.get s5 e12) v20000 fun v20001 H20001 =>
 K14 .norm (Env.put s5 v20001 (Env.put s35 v18005 (Env.put s7 v16000 e12))) H20001 k20000)
 (K14 .norm (Env.put s35 v18005 (Env.put s7 v16000 e12)) H18004 k18004)) K13) (fun k13 e13 H13 =>
 binK .add .no (Env.get s25 e13) (.i .i64 1) fun v14000 =>
 K9 .norm (Env.put s25 v14000 e13) H13 k13) K9) K9) rounds K8 k7006 (Env.put s24 v7012 (Env.put s25 (.i .i64 0) (Env.put s5 .sl0 (Env.put s4 .sl0 e)))) H7006) K5) (fun k5 e5 H5 =>
 (endK recD [.slot s4]) .ret (Env.put s4 (Env.get s5 e5) e5) H5 k5) (endK recD [.slot s4])
theorem Tryz.cOk91 : (compFn Tryz.prog Tryz.f91).map (bodyK 91) = some Tryz.c91 := by kernel_rfl
def Tryz.c99 : FnK := fun rec recD args H => startK 3 args fun e =>
 newK [(.s []), (.s []), (.i .i64 0), (.i .i64 0), (.s []), (.i .i64 0), (.s []), .sl0] H fun v2000 H2000 =>
 seqK (fun K3 =>
 caK rec 138 [(Env.get s0 e), (Env.get s1 e)] H2000 fun v5000 H5000 =>
 lnK .sl H5000 v5000 fun v5001 =>
 blockK 0 (fun K6 =>
 loopK (fun k7 e7 H7 K7 =>
 binK .lss .no (Env.get s16 e7) (Env.get s15 e7) fun v9000 =>
 seqK (fun K10 =>
 condK v9000 (K10 .norm (Env.put s17 v9000 e7) H7 k7)
 (K10 (.exit 0) (Env.put s17 v9000 e7) H7 k7)) (fun k10 e10 H10 =>
 seqK (fun K11 =>
 blockK 1 (fun K12 =>
 iaK .none 1 (Env.get s14 e10) (Env.get s16 e10) fun v14000 =>
 ldK false 1 v14000 H10 fun v14001 =>
 genK roundT rec (.nilCheck (.s s0)) k10 (Env.put s9 v14001 e10) [] H10 fun v16000 H16000 k16000 =>
 faK 3 v16000 fun v16001 =>
 ldK false 1 v16001 H16000 fun v16002 =>
 genK roundT rec (.lookup .s .p0 false (.l 0) (.s s9)) k16000 (Env.put s9 v14001 e10) [v16002, v16001, v16000] H16000 fun v16003 H16003 k16003 =>
 genK roundT rec (.nilCheck (.l 0)) k16003 (Env.put s9 v14001 e10) [v16003, v16002, v16001, v16000] H16003 fun v16004 H16004 k16004 =>
 faK 4 v16004 fun v16005 =>
 ldK false 1 v16005 H16004 fun v16006 =>
 newK [(.s []), (.s []), (.i .i64 0), (.i .i64 0), (.s []), (.i .i64 0), (.s []), .sl0] H16004 fun v16007 H16007 =>
 caK rec 139 [v16006, (Env.get s2 e10)] H16007 fun v16008 H16008 =>
 exK 0 v16008 fun v16009 =>
 exK 1 v16008 fun v16010 =>
 stK 8 v16009 v16007 H16008 fun H16011 =>
 condK v16010 (ldK true 8 v16007 H16011 fun v21000 =>
 stK 8 v21000 (Env.get s6 e10) H16011 fun H21001 =>
 K12 .ret (Env.put s7 (.b true) (Env.put s34 v16010 (Env.put s10 v16007 (Env.put s11 v16010 (Env.put s9 v14001 e10))))) H21001 k16004)
 (K12 .norm (Env.put s34 v16010 (Env.put s10 v16007 (Env.put s11 v16010 (Env.put s9 v14001 e10)))) H16011 k16004)) K11) (fun k11 e11 H11 =>
 binK .add .no (Env.get s16 e11) (.i .i64 1) fun v12000 =>
 K7 .norm (Env.put s16 v12000 e11) H11 k11) K7) K7) rounds K6 (Ctl.mk [] .none) (Env.put s14 v5000 (Env.put s15 v5001 (Env.put s16 (.i .i64 0) (Env.put s6 v2000 (Env.put s7 (.b false) e))))) H5000) K3) (fun k3 e3 H3 =>
 bdK [(.s []), (.s []), (.i .i64 0), (.i .i64 0), (.s []), (.i .i64 0), (.s []), .sl0] [] fun v5000 =>
 stK 8 v5000 (Env.get s6 e3) H3 fun H5001 =>
 (endK recD [.cell true 8 s6, .slot s7]) .ret (Env.put s7 (.b false) e3) H5001 k3) (endK recD [.cell true 8 s6, .slot s7])
theorem Tryz.cOk99 : (compFn Tryz.prog Tryz.f99).map (bodyK 99) = some Tryz.c99 := by kernel_rfl
def Tryz.c103 : FnK := fun rec recD args H => startK 1 args fun e =>
 seqK (fun K3 =>
 binK .eql .sl (Env.get s0 e) .sl0 fun v5000 =>
 condK v5000 (K3 .ret (Env.put s2 .sl0 (Env.put s4 v5000 (Env.put s2 .sl0 e))) H (Ctl.mk [] .none))
 (K3 .norm (Env.put s4 v5000 (Env.put s2 .sl0 e)) H (Ctl.mk [] .none))) (fun k3 e3 H3 =>
 genK roundT rec (.buildSlice 0 4 [(.i .i64 0), (.s []), (.i .i64 0), (.s [])] []) k3 e3 [] H3 fun v5000 H5000 k5000 =>
 apK 4 [(.i .i64 0), (.s []), (.i .i64 0), (.s [])] H5000 v5000 (Env.get s0 e3) fun v5001 H5001 =>
 (endK recD [.slot s2]) .ret (Env.put s2 v5001 e3) H5001 k5000) (endK recD [.slot s2])
theorem Tryz.cOk103 : (compFn Tryz.prog Tryz.f103).map (bodyK 103) = some Tryz.c103 := by kernel_rfl
def Tryz.c107 : FnK := fun rec recD args H => startK 4 args fun e =>
 seqK (fun K1 =>
 lnK .sl H (Env.get s2 e) fun v3000 =>
 lnK .sl H (Env.get s3 e) fun v3001 =>
 binK .neq .no v3000 v3001 fun v3002 =>
 condK v3002 (genK roundT rec (.nilCheck (.s s0)) (Ctl.mk [] .none) (Env.put s14 v3002 e) [] H fun v5000 H5000 k5000 =>
 faK 0 v5000 fun v5001 =>
 ldK false 1 v5001 H5000 fun v5002 =>
 caK rec 105 [v5002, (.i .i64 131), (Env.get s1 e)] H5000 fun v5003 H5003 =>
 K1 .norm (Env.put s14 v3002 e) H5003 k5000)
 (K1 .norm (Env.put s14 v3002 e) H (Ctl.mk [] .none))) (fun k1 e1 H1 =>
 lnK .sl H1 (Env.get s2 e1) fun v3000 =>
 blockK 0 (fun K4 =>
 loopK (fun k5 e5 H5 K5 =>
 binK .lss .no (Env.get s23 e5) (Env.get s22 e5) fun v7000 =>
 seqK (fun K8 =>
 condK v7000 (K8 .norm (Env.put s24 v7000 e5) H5 k5)
 (K8 (.exit 0) (Env.put s24 v7000 e5) H5 k5)) (fun k8 e8 H8 =>
 seqK (fun K9 =>
 blockK 1 (fun K10 =>
 iaK .none 1 (Env.get s21 e8) (Env.get s23 e8) fun v12000 =>
 ldK false 1 v12000 H8 fun v12001 =>
 iaK .none 4 (Env.get s3 e8) (Env.get s23 e8) fun v13000 =>
 ldK true 4 v13000 H8 fun v13001 =>
 caK rec 108 [(Env.get s0 e8), v12001, v13001] H8 fun v13002 H13002 =>
 K10 .norm (Env.put s8 (Env.get s23 e8) (Env.put s9 v12001 e8)) H13002 k8) K9) (fun k9 e9 H9 =>
 binK .add .no (Env.get s23 e9) (.i .i64 1) fun v10000 =>
 K5 .norm (Env.put s23 v10000 e9) H9 k9) K5) K5) rounds K4 k1 (Env.put s21 (Env.get s2 e1) (Env.put s22 v3000 (Env.put s23 (.i .i64 0) e1))) H1) (endK recD [])) (endK recD [])
theorem Tryz.cOk107 : (compFn Tryz.prog Tryz.f107).map (bodyK 107) = some Tryz.c107 := by kernel_rfl
def Tryz.c111 : FnK := fun rec recD args H => startK 3 args fun e =>
 bxK (Env.get s2 e) H fun v2000 H2000 =>
 genK roundT rec (.nilCheck (.s s0)) (Ctl.mk [] .none) (Env.put s5 v2000 e) [] H2000 fun v4000 H4000 k4000 =>
 faK 0 v4000 fun v4001 =>
 ldK false 1 v4001 H4000 fun v4002 =>
 genK roundT rec (.nilCheck (.l 0)) k4000 (Env.put s5 v2000 e) [v4002, v4001, v4000] H4000 fun v4003 H4003 k4003 =>
 faK 6 v4003 fun v4004 =>
 ldK false 1 v4004 H4003 fun v4005 =>
 genK roundT rec (.nilCheck (.s s0)) k4003 (Env.put s5 v2000 e) [v4005, v4004, v4003, v4002, v4001, v4000] H4003 fun v4006 H4006 k4006 =>
 faK 1 v4006 fun v4007 =>
 ldK false 1 v4007 H4006 fun v4008 =>
 iaK .none 8 v4005 v4008 fun v4009 =>
 ldK true 8 v4009 H4006 fun v4010 =>
 newK [(.s []), (.i .i64 0), (.b false), (.i .i64 0), (.s []), (.i .i64 0), (.s []), .p0] H4006 fun v4011 H4011 =>
 stK 8 v4010 v4011 H4011 fun H4012 =>
 faK 2 v4011 fun v6000 =>
 ldK false 1 v6000 H4012 fun v6001 =>
 gdK v6001 false (fun R6002 => faK 3 v4011 fun v6002 =>
 R6002 v6002 H4012 k4006) H4012 k4006 fun v6002 H6002 k6002 =>
 gdK v6001 false (fun R6003 => faK 0 v6002 fun v6003 =>
 R6003 v6003 H6002 k6002) H6002 k6002 fun v6003 H6003 k6003 =>
 gdK v6001 false (fun R6004 => ldK false 1 v6003 H6003 fun v6004 =>
 R6004 v6004 H6003 k6003) H6003 k6003 fun v6004 H6004 k6004 =>
 gdK v6001 false (fun R6005 => binK .eql .no v6004 (.i .i64 6) fun v6005 =>
 R6005 v6005 H6004 k6004) H6004 k6004 fun v6005 H6005 k6005 =>
 pkK v6001 (.b true) v6005 fun v6006 =>
 blockK 0 (fun K7 =>
 faK 3 v2000 fun v9000 =>
 ldK false 1 v9000 H6005 fun v9001 =>
 lnK .sl H6005 v9001 fun v9002 =>
 binK .eql .no v9002 (.i .i64 0) fun v9003 =>
 binK .neq .b v6006 v9003 fun v9004 =>
 condK v9004 (genK roundT rec (.nilCheck (.s s0)) k6005 (Env.put s29 v9004 (Env.put s7 v6006 (Env.put s6 v4011 (Env.put s5 v2000 e)))) [] H6005 fun v11000 H11000 k11000 =>
 faK 0 v11000 fun v11001 =>
 ldK false 1 v11001 H11000 fun v11002 =>
 caK rec 105 [v11002, (.i .i64 131), (Env.get s1 e)] H11000 fun v11003 H11003 =>
 K7 .norm (Env.put s29 v9004 (Env.put s7 v6006 (Env.put s6 v4011 (Env.put s5 v2000 e)))) H11003 k11000)
 (unK .not v6006 fun v12000 =>
 condK v12000 (faK 3 v2000 fun v14000 =>
 ldK false 1 v14000 H6005 fun v14001 =>
 iaK .none 1 v14001 (.i .i64 0) fun v14002 =>
 ldK false 1 v14002 H6005 fun v14003 =>
 faK 3 v4011 fun v14004 =>
 ldK true 4 v14004 H6005 fun v14005 =>
 caK rec 108 [(Env.get s0 e), v14003, v14005] H6005 fun v14006 H14006 =>
 K7 .norm (Env.put s42 v12000 (Env.put s29 v9004 (Env.put s7 v6006 (Env.put s6 v4011 (Env.put s5 v2000 e))))) H14006 k6005)
 (K7 .norm (Env.put s42 v12000 (Env.put s29 v9004 (Env.put s7 v6006 (Env.put s6 v4011 (Env.put s5 v2000 e))))) H6005 k6005))) (endK recD [])
theorem Tryz.cOk111 : (compFn Tryz.prog Tryz.f111).map (bodyK 111) = some Tryz.c111 := by kernel_rfl
def Tryz.c114 : FnK := fun rec recD args H => startK 2 args fun e =>
 caK rec 147 [(Env.get s0 e), (Env.get s1 e)] H fun v4000 H4000 =>
 (endK recD [.slot s4]) .ret (Env.put s4 v4000 (Env.put s4 (.b false) e)) H4000 (Ctl.mk [] .none)
theorem Tryz.cOk114 : (compFn Tryz.prog Tryz.f114).map (bodyK 114) = some Tryz.c114 := by kernel_rfl
def Tryz.c122 : FnK := fun rec recD args H => startK 1 args fun e =>
 caK rec 121 [(Env.get s0 e)] H fun v4000 H4000 =>
 gdK v4000 false (fun R4001 => R4001 (Env.get s0 e) H4000 (Ctl.mk [] .none)) H4000 (Ctl.mk [] .none) fun v4001 H4001 k4001 =>
 gdK v4000 false (fun R4002 => caK rec 123 [v4001] H4001 fun v4002 H4002 =>
 R4002 v4002 H4002 k4001) H4001 k4001 fun v4002 H4002 k4002 =>
 pkK v4000 (.b true) v4002 fun v4003 =>
 (endK recD [.slot s2]) .ret (Env.put s2 v4003 (Env.put s2 (.b false) e)) H4002 k4002
theorem Tryz.cOk122 : (compFn Tryz.prog Tryz.f122).map (bodyK 122) = some Tryz.c122 := by kernel_rfl
def Tryz.c123 : FnK := fun rec recD args H => startK 1 args fun e =>
 binK .geq .no (Env.get s0 e) (.i .u8 48) fun v4000 =>
 gdK v4000 true (fun R4001 => R4001 (Env.get s0 e) H (Ctl.mk [] .none)) H (Ctl.mk [] .none) fun v4001 H4001 k4001 =>
 gdK v4000 true (fun R4002 => binK .leq .no v4001 (.i .u8 57) fun v4002 =>
 R4002 v4002 H4001 k4001) H4001 k4001 fun v4002 H4002 k4002 =>
 pkK v4000 v4002 (.b false) fun v4003 =>
 (endK recD [.slot s2]) .ret (Env.put s2 v4003 (Env.put s2 (.b false) e)) H4002 k4002
theorem Tryz.cOk123 : (compFn Tryz.prog Tryz.f123).map (bodyK 123) = some Tryz.c123 := by kernel_rfl
def Tryz.c127 : FnK := fun rec recD args H => startK 2 args fun e =>
 seqK (fun K3 =>
 caK rec 130 [(Env.get s0 e), (Env.get s1 e)] H fun v5000 H5000 =>
 unK .not v5000 fun v5001 =>
 condK v5001 (newK [(.i .i64 0), (.i .i64 0), (.i .i64 0)] H5000 fun v8000 H8000 =>
 caK rec 78 [(Env.get s0 e)] H8000 fun v8001 H8001 =>
 exK 0 v8001 fun v8002 =>
 exK 1 v8001 fun v8003 =>
 stK 3 v8002 v8000 H8001 fun H8004 =>
 faK 1 v8000 fun v9000 =>
 faK 0 v9000 fun v9001 =>
 ldK false 1 v9001 H8004 fun v9002 =>
 caK rec 126 [(.i .i64 80), v9002] H8004 fun v9003 H9003 =>
 K3 .norm (Env.put s5 v8000 (Env.put s10 v5001 (Env.put s4 (.i .i64 0) e))) H9003 (Ctl.mk [] .none))
 (K3 .norm (Env.put s10 v5001 (Env.put s4 (.i .i64 0) e)) H5000 (Ctl.mk [] .none))) (fun k3 e3 H3 =>
 caK rec 152 [(Env.get s0 e3)] H3 fun v5000 H5000 =>
 (endK recD [.slot s4]) .ret (Env.put s4 v5000 e3) H5000 k3) (endK recD [.slot s4])
theorem Tryz.cOk127 : (compFn Tryz.prog Tryz.f127).map (bodyK 127) = some Tryz.c127 := by kernel_rfl
def Tryz.c128 : FnK := fun rec recD args H => startK 1 args fun e =>
 newK [(.i .i64 0), (.i .i64 0), (.i .i64 0)] H fun v4000 H4000 =>
 caK rec 78 [(Env.get s0 e)] H4000 fun v4001 H4001 =>
 exK 0 v4001 fun v4002 =>
 exK 1 v4001 fun v4003 =>
 stK 3 v4002 v4000 H4001 fun H4004 =>
 seqK (fun K5 =>
 faK 0 v4000 fun v7000 =>
 ldK false 1 v7000 H4004 fun v7001 =>
 binK .neq .no v7001 (.i .i64 1) fun v7002 =>
 gdK v7002 false (fun R7003 => R7003 v4003 H4004 (Ctl.mk [] .none)) H4004 (Ctl.mk [] .none) fun v7003 H7003 k7003 =>
 gdK v7002 false (fun R7004 => caK rec 153 [v7003] H7003 fun v7004 H7004 =>
 R7004 v7004 H7004 k7003) H7003 k7003 fun v7004 H7004 k7004 =>
 gdK v7002 false (fun R7005 => unK .not v7004 fun v7005 =>
 R7005 v7005 H7004 k7004) H7004 k7004 fun v7005 H7005 k7005 =>
 pkK v7002 (.b true) v7005 fun v7006 =>
 condK v7006 (faK 1 v4000 fun v9000 =>
 faK 0 v9000 fun v9001 =>
 ldK false 1 v9001 H7005 fun v9002 =>
 caK rec 126 [(.i .i64 80), v9002] H7005 fun v9003 H9003 =>
 K5 .norm (Env.put s17 v7006 (Env.put s3 v4000 (Env.put s4 v4003 (Env.put s2 (.s []) e)))) H9003 k7005)
 (K5 .norm (Env.put s17 v7006 (Env.put s3 v4000 (Env.put s4 v4003 (Env.put s2 (.s []) e)))) H7005 k7005)) (fun k5 e5 H5 =>
 caK rec 152 [(Env.get s0 e5)] H5 fun v7000 H7000 =>
 (endK recD [.slot s2]) .ret (Env.put s2 (Env.get s4 e5) e5) H7000 k5) (endK recD [.slot s2])
theorem Tryz.cOk128 : (compFn Tryz.prog Tryz.f128).map (bodyK 128) = some Tryz.c128 := by kernel_rfl
def Tryz.c147 : FnK := fun rec recD args H => startK 2 args fun e =>
 lnK .s H (Env.get s0 e) fun v4000 =>
 lnK .s H (Env.get s1 e) fun v4001 =>
 binK .geq .no v4000 v4001 fun v4002 =>
 gdK v4002 true (fun R4003 => R4003 (Env.get s0 e) H (Ctl.mk [] .none)) H (Ctl.mk [] .none) fun v4003 H4003 k4003 =>
 gdK v4002 true (fun R4004 => R4004 (Env.get s1 e) H4003 k4003) H4003 k4003 fun v4004 H4004 k4004 =>
 gdK v4002 true (fun R4005 => lnK .s H4004 v4004 fun v4005 =>
 R4005 v4005 H4004 k4004) H4004 k4004 fun v4005 H4005 k4005 =>
 gdK v4002 true (fun R4006 => slK .none v4003 .none (.some v4005) .none fun v4006 =>
 R4006 v4006 H4005 k4005) H4005 k4005 fun v4006 H4006 k4006 =>
 gdK v4002 true (fun R4007 => R4007 (Env.get s1 e) H4006 k4006) H4006 k4006 fun v4007 H4007 k4007 =>
 gdK v4002 true (fun R4008 => binK .eql .no v4006 v4007 fun v4008 =>
 R4008 v4008 H4007 k4007) H4007 k4007 fun v4008 H4008 k4008 =>
 pkK v4002 v4008 (.b false) fun v4009 =>
 (endK recD [.slot s4]) .ret (Env.put s4 v4009 (Env.put s4 (.b false) e)) H4008 k4008
theorem Tryz.cOk147 : (compFn Tryz.prog Tryz.f147).map (bodyK 147) = some Tryz.c147 := by kernel_rfl
def Tryz.c156 : FnK := fun rec recD args H => startK 2 args fun e =>
 newK [(.i .i64 0), (.i .i64 0), (.i .i64 0), .sl0, (.s []), (.i .i64 0), (.s []), (.i .i64 0), (.s []), (.i .i64 0), (.i .i64 0), (.i .i64 0), .sl0] H fun v2000 H2000 =>
 newK [(.i .i64 0), (.i .i64 0), (.i .i64 0)] H2000 fun v4000 H4000 =>
 caK rec 78 [(Env.get s0 e)] H4000 fun v4001 H4001 =>
 exK 0 v4001 fun v4002 =>
 exK 1 v4001 fun v4003 =>
 stK 3 v4002 v4000 H4001 fun H4004 =>
 seqK (fun K5 =>
 binK .eql .no v4003 (.s [79, 112, 116, 105, 111, 110]) fun v7000 =>
 gdK v7000 true (fun R7001 => faK 0 v4000 fun v7001 =>
 R7001 v7001 H4004 (Ctl.mk [] .none)) H4004 (Ctl.mk [] .none) fun v7001 H7001 k7001 =>
 gdK v7000 true (fun R7002 => ldK false 1 v7001 H7001 fun v7002 =>
 R7002 v7002 H7001 k7001) H7001 k7001 fun v7002 H7002 k7002 =>
 gdK v7000 true (fun R7003 => binK .eql .no v7002 (.i .i64 1) fun v7003 =>
 R7003 v7003 H7002 k7002) H7002 k7002 fun v7003 H7003 k7003 =>
 pkK v7000 v7003 (.b false) fun v7004 =>
 condK v7004 (caK rec 152 [(Env.get s0 e)] H7003 fun v10000 H10000 =>
 caK rec 127 [(Env.get s0 e), (.s [60])] H10000 fun v12000 H12000 =>
 newK [(.i .i64 0), (.i .i64 0), (.i .i64 0), .sl0, (.s []), (.i .i64 0), (.s []), (.i .i64 0), (.s []), (.i .i64 0), (.i .i64 0), (.i .i64 0), .sl0] H12000 fun v14000 H14000 =>
 caK rec 175 [(Env.get s0 e)] H14000 fun v14001 H14001 =>
 stK 13 v14001 v14000 H14001 fun H14002 =>
 caK rec 127 [(Env.get s0 e), (.s [62])] H14002 fun v16000 H16000 =>
 faK 5 v14000 fun v18000 =>
 faK 2 v18000 fun v18001 =>
 ldK false 1 v18001 H16000 fun v18002 =>
 seqK (fun K19 =>
 faK 5 v14000 fun v21000 =>
 faK 0 v21000 fun v21001 =>
 ldK false 1 v21001 H16000 fun v21002 =>
 binK .neq .no v21002 (.i .i64 5) fun v21003 =>
 gdK v21003 true (fun R21004 => R21004 v18002 H16000 k7003) H16000 k7003 fun v21004 H21004 k21004 =>
 gdK v21003 true (fun R21005 => binK .eql .no v21004 (.i .i64 0) fun v21005 =>
 R21005 v21005 H21004 k21004) H21004 k21004 fun v21005 H21005 k21005 =>
 pkK v21003 v21005 (.b false) fun v21006 =>
 gdK v21006 false (fun R21007 => faK 5 v14000 fun v21007 =>
 R21007 v21007 H21005 k21005) H21005 k21005 fun v21007 H21007 k21007 =>
 gdK v21006 false (fun R21008 => faK 3 v21007 fun v21008 =>
 R21008 v21008 H21007 k21007) H21007 k21007 fun v21008 H21008 k21008 =>
 gdK v21006 false (fun R21009 => ldK false 1 v21008 H21008 fun v21009 =>
 R21009 v21009 H21008 k21008) H21008 k21008 fun v21009 H21009 k21009 =>
 gdK v21006 false (fun R21010 => R21010 v18002 H21009 k21009) H21009 k21009 fun v21010 H21010 k21010 =>
 gdK v21006 false (fun R21011 => ixK .none v21009 v21010 fun v21011 =>
 R21011 v21011 H21010 k21010) H21010 k21010 fun v21011 H21011 k21011 =>
 gdK v21006 false (fun R21012 => binK .neq .no v21011 (.i .u8 32) fun v21012 =>
 R21012 v21012 H21011 k21011) H21011 k21011 fun v21012 H21012 k21012 =>
 pkK v21006 (.b true) v21012 fun v21013 =>
 condK v21013 (faK 1 v4000 fun v23000 =>
 faK 0 v23000 fun v23001 =>
 ldK false 1 v23001 H21012 fun v23002 =>
 caK rec 126 [(.i .i64 5), v23002] H21012 fun v23003 H23003 =>
 K19 .norm (Env.put s48 v21013 (Env.put s8 v18002 (Env.put s7 v14000 (Env.put s21 v7004 (Env.put s5 v4000 (Env.put s6 v4003 (Env.put s4 v2000 e))))))) H23003 k21012)
 (K19 .norm (Env.put s48 v21013 (Env.put s8 v18002 (Env.put s7 v14000 (Env.put s21 v7004 (Env.put s5 v4000 (Env.put s6 v4003 (Env.put s4 v2000 e))))))) H21012 k21012)) (fun k19 e19 H19 =>
 faK 5 (Env.get s7 e19) fun v21000 =>
 faK 3 v21000 fun v21001 =>
 ldK false 1 v21001 H19 fun v21002 =>
 slK .none v21002 .none (.some (Env.get s8 e19)) .none fun v21003 =>
 binK .add .no v21003 (.s [111]) fun v21004 =>
 faK 5 (Env.get s7 e19) fun v21005 =>
 faK 3 v21005 fun v21006 =>
 stK 1 v21004 v21006 H19 fun H21007 =>
 faK 1 (Env.get s5 e19) fun v23000 =>
 faK 0 v23000 fun v23001 =>
 ldK false 1 v23001 H21007 fun v23002 =>
 genK roundT rec (.nilCheck (.s s0)) k19 e19 [v23002, v23001, v23000] H21007 fun v23003 H23003 k23003 =>
 faK 1 v23003 fun v23004 =>
 ldK false 1 v23004 H23003 fun v23005 =>
 genK roundT rec (.nilCheck (.s s0)) k23003 e19 [v23005, v23004, v23003, v23002, v23001, v23000] H23003 fun v23006 H23006 k23006 =>
 faK 2 v23006 fun v23007 =>
 ldK false 1 v23007 H23006 fun v23008 =>
 binK .sub .no v23008 (.i .i64 1) fun v23009 =>
 iaK .none 3 v23005 v23009 fun v23010 =>
 faK 1 v23010 fun v23011 =>
 faK 1 v23011 fun v23012 =>
 ldK false 1 v23012 H23006 fun v23013 =>
 bdK [(.i .i64 0), (.i .i64 0)] [(0, 1, v23002), (1, 1, v23013)] fun v23014 =>
 faK 10 (Env.get s7 e19) fun v23015 =>
 stK 2 v23014 v23015 H23006 fun H23016 =>
 ldK true 13 (Env.get s7 e19) H23016 fun v25000 =>
 stK 13 v25000 (Env.get s4 e19) H23016 fun H25001 =>
 K5 .ret e19 H25001 k23006) K5)
 (K5 .norm (Env.put s21 v7004 (Env.put s5 v4000 (Env.put s6 v4003 (Env.put s4 v2000 e)))) H7003 k7003)) (fun k5 e5 H5 =>
 seqK (fun K6 =>
 gdK (Env.get s1 e5) true (fun R8000 => faK 0 (Env.get s5 e5) fun v8000 =>
 R8000 v8000 H5 k5) H5 k5 fun v8000 H8000 k8000 =>
 gdK (Env.get s1 e5) true (fun R8001 => ldK false 1 v8000 H8000 fun v8001 =>
 R8001 v8001 H8000 k8000) H8000 k8000 fun v8001 H8001 k8001 =>
 gdK (Env.get s1 e5) true (fun R8002 => binK .eql .no v8001 (.i .i64 1) fun v8002 =>
 R8002 v8002 H8001 k8001) H8001 k8001 fun v8002 H8002 k8002 =>
 pkK (Env.get s1 e5) v8002 (.b false) fun v8003 =>
 gdK v8003 true (fun R8004 => R8004 (Env.get s6 e5) H8002 k8002) H8002 k8002 fun v8004 H8004 k8004 =>
 gdK v8003 true (fun R8005 => binK .eql .no v8004 (.s [118, 111, 105, 100]) fun v8005 =>
 R8005 v8005 H8004 k8004) H8004 k8004 fun v8005 H8005 k8005 =>
 pkK v8003 v8005 (.b false) fun v8006 =>
 condK v8006 (caK rec 152 [(Env.get s0 e5)] H8005 fun v11000 H11000 =>
 bdK [(.i .i64 0), (.s []), (.i .i64 0), (.s [])] [(0, 1, (.i .i64 6)), (3, 1, (.s [32]))] fun v13000 =>
 faK 1 (Env.get s5 e5) fun v13001 =>
 ldK true 2 v13001 H11000 fun v13002 =>
 genK roundT rec (.buildSlice 1 1 [(.i .i64 0)] [(0, (.s s9))]) k8005 (Env.put s9 v11000 (Env.put s89 v8006 e5)) [v13002, v13001, v13000] H11000 fun v13003 H13003 k13003 =>
 bdK [(.i .i64 0), (.i .i64 0), (.i .i64 0), .sl0, (.s []), (.i .i64 0), (.s []), (.i .i64 0), (.s []), (.i .i64 0), (.i .i64 0), (.i .i64 0), .sl0] [(5, 4, v13000), (10, 2, v13002), (12, 1, v13003)] fun v13004 =>
 stK 13 v13004 (Env.get s4 e5) H13003 fun H13005 =>
 K6 .ret (Env.put s9 v11000 (Env.put s89 v8006 e5)) H13005 k13003)
 (K6 .norm (Env.put s89 v8006 e5) H8005 k8005)) (fun k6 e6 H6 =>
 caK rec 175 [(Env.get s0 e6)] H6 fun v8000 H8000 =>
 stK 13 v8000 (Env.get s4 e6) H8000 fun H8001 =>
 (endK recD [.cell true 13 s4]) .ret e6 H8001 k6) (endK recD [.cell true 13 s4])) (endK recD [.cell true 13 s4])
theorem Tryz.cOk156 : (compFn Tryz.prog Tryz.f156).map (bodyK 156) = some Tryz.c156 := by kernel_rfl
def Tryz.c157 : FnK := fun rec recD args H => startK 2 args fun e =>
 seqK (fun K3 =>
 lnK .sl H (Env.get s0 e) fun v5000 =>
 blockK 0 (fun K6 =>
 loopK (fun k7 e7 H7 K7 =>
 binK .lss .no (Env.get s8 e7) (Env.get s7 e7) fun v9000 =>
 seqK (fun K10 =>
 condK v9000 (K10 .norm (Env.put s9 v9000 e7) H7 k7)
 (K10 (.exit 0) (Env.put s9 v9000 e7) H7 k7)) (fun k10 e10 H10 =>
 seqK (fun K11 =>
 blockK 1 (fun K12 =>
 iaK .none 1 (Env.get s0 e10) (Env.get s8 e10) fun v16000 =>
 ldK false 1 v16000 H10 fun v16001 =>
 binK .eql .no (Env.get s1 e10) v16001 fun v16002 =>
 condK v16002 (K12 .ret (Env.put s4 (Env.get s8 e10) (Env.put s16 v16002 (Env.put s5 (Env.get s8 e10) e10))) H10 k10)
 (K12 .norm (Env.put s16 v16002 (Env.put s5 (Env.get s8 e10) e10)) H10 k10)) K11) (fun k11 e11 H11 =>
 binK .add .no (Env.get s8 e11) (.i .i64 1) fun v12000 =>
 K7 .norm (Env.put s8 v12000 e11) H11 k11) K7) K7) rounds K6 (Ctl.mk [] .none) (Env.put s7 v5000 (Env.put s8 (.i .i64 0) (Env.put s4 (.i .i64 0) e))) H) K3) (fun k3 e3 H3 =>
 (endK recD [.slot s4]) .ret (Env.put s4 (.i .i64 (-1)) e3) H3 k3) (endK recD [.slot s4])
theorem Tryz.cOk157 : (compFn Tryz.prog Tryz.f157).map (bodyK 157) = some Tryz.c157 := by kernel_rfl
def Tryz.c158 : FnK := fun rec recD args H => startK 1 args fun e =>
 bxK (Env.get s0 e) H fun v2000 H2000 =>
 newK [(.i .i64 0), (.s []), (.i .i64 0), (.s [])] H2000 fun v2001 H2001 =>
 seqK (fun K3 =>
 ldK true 4 v2000 H2001 fun v5000 =>
 caK rec 49 [v5000] H2001 fun v5001 H5001 =>
 unK .not v5001 fun v5002 =>
 gdK v5002 false (fun R5003 => faK 0 v2000 fun v5003 =>
 R5003 v5003 H5001 (Ctl.mk [] .none)) H5001 (Ctl.mk [] .none) fun v5003 H5003 k5003 =>
 gdK v5002 false (fun R5004 => ldK false 1 v5003 H5003 fun v5004 =>
 R5004 v5004 H5003 k5003) H5003 k5003 fun v5004 H5004 k5004 =>
 gdK v5002 false (fun R5005 => binK .eql .no v5004 (.i .i64 7) fun v5005 =>
 R5005 v5005 H5004 k5004) H5004 k5004 fun v5005 H5005 k5005 =>
 pkK v5002 (.b true) v5005 fun v5006 =>
 gdK v5006 false (fun R5007 => faK 0 v2000 fun v5007 =>
 R5007 v5007 H5005 k5005) H5005 k5005 fun v5007 H5007 k5007 =>
 gdK v5006 false (fun R5008 => ldK false 1 v5007 H5007 fun v5008 =>
 R5008 v5008 H5007 k5007) H5007 k5007 fun v5008 H5008 k5008 =>
 gdK v5006 false (fun R5009 => binK .eql .no v5008 (.i .i64 8) fun v5009 =>
 R5009 v5009 H5008 k5008) H5008 k5008 fun v5009 H5009 k5009 =>
 pkK v5006 (.b true) v5009 fun v5010 =>
 condK v5010 (ldK true 4 v2000 H5009 fun v8000 =>
 stK 4 v8000 v2001 H5009 fun H8001 =>
 K3 .ret (Env.put s15 v5010 (Env.put s1 v2000 (Env.put s2 v2001 e))) H8001 k5009)
 (K3 .norm (Env.put s15 v5010 (Env.put s1 v2000 (Env.put s2 v2001 e))) H5009 k5009)) (fun k3 e3 H3 =>
 faK 2 (Env.get s1 e3) fun v5000 =>
 ldK false 1 v5000 H3 fun v5001 =>
 binK .add .no v5001 (.i .i64 1) fun v5002 =>
 caK rec 75 [(.s [32]), v5002] H3 fun v5003 H5003 =>
 faK 3 (Env.get s1 e3) fun v5004 =>
 stK 1 v5003 v5004 H5003 fun H5005 =>
 ldK true 4 (Env.get s1 e3) H5005 fun v7000 =>
 stK 4 v7000 (Env.get s2 e3) H5005 fun H7001 =>
 (endK recD [.cell true 4 s2]) .ret e3 H7001 k3) (endK recD [.cell true 4 s2])
theorem Tryz.cOk158 : (compFn Tryz.prog Tryz.f158).map (bodyK 158) = some Tryz.c158 := by kernel_rfl
def Tryz.c163 : FnK := fun rec recD args H => startK 1 args fun e =>
 bxK (Env.get s0 e) H fun v2000 H2000 =>
 ldK true 4 v2000 H2000 fun v4000 =>
 caK rec 49 [v4000] H2000 fun v4001 H4001 =>
 gdK v4001 true (fun R4002 => faK 2 v2000 fun v4002 =>
 R4002 v4002 H4001 (Ctl.mk [] .none)) H4001 (Ctl.mk [] .none) fun v4002 H4002 k4002 =>
 gdK v4001 true (fun R4003 => ldK false 1 v4002 H4002 fun v4003 =>
 R4003 v4003 H4002 k4002) H4002 k4002 fun v4003 H4003 k4003 =>
 gdK v4001 true (fun R4004 => binK .eql .no v4003 (.i .i64 0) fun v4004 =>
 R4004 v4004 H4003 k4003) H4003 k4003 fun v4004 H4004 k4004 =>
 pkK v4001 v4004 (.b false) fun v4005 =>
 gdK v4005 true (fun R4006 => faK 0 v2000 fun v4006 =>
 R4006 v4006 H4004 k4004) H4004 k4004 fun v4006 H4006 k4006 =>
 gdK v4005 true (fun R4007 => ldK false 1 v4006 H4006 fun v4007 =>
 R4007 v4007 H4006 k4006) H4006 k4006 fun v4007 H4007 k4007 =>
 gdK v4005 true (fun R4008 => binK .eql .no v4007 (.i .i64 1) fun v4008 =>
 R4008 v4008 H4007 k4007) H4007 k4007 fun v4008 H4008 k4008 =>
 gdK v4005 true (fun R4009 => R4009 v4008 H4008 k4008) H4008 k4008 fun v4009 H4009 k4009 =>
 gdK v4009 false (fun R4010 => faK 0 v2000 fun v4010 =>
 R4010 v4010 H4009 k4009) H4009 k4009 fun v4010 H4010 k4010 =>
 gdK v4009 false (fun R4011 => ldK false 1 v4010 H4010 fun v4011 =>
 R4011 v4011 H4010 k4010) H4010 k4010 fun v4011 H4011 k4011 =>
 gdK v4009 false (fun R4012 => binK .eql .no v4011 (.i .i64 3) fun v4012 =>
 R4012 v4012 H4011 k4011) H4011 k4011 fun v4012 H4012 k4012 =>
 gdK v4005 true (fun R4013 => pkK v4009 (.b true) v4012 fun v4013 =>
 R4013 v4013 H4012 k4012) H4012 k4012 fun v4013 H4013 k4013 =>
 pkK v4005 v4013 (.b false) fun v4014 =>
 (endK recD [.slot s2]) .ret (Env.put s2 v4014 (Env.put s1 v2000 (Env.put s2 (.b false) e))) H4013 k4013
theorem Tryz.cOk163 : (compFn Tryz.prog Tryz.f163).map (bodyK 163) = some Tryz.c163 := by kernel_rfl
def Tryz.c164 : FnK := fun rec recD args H => startK 2 args fun e =>
 bxK (Env.get s1 e) H fun v2000 H2000 =>
 newK [(.i .i64 0), (.s []), (.i .i64 0), (.s [])] H2000 fun v2001 H2001 =>
 faK 3 v2000 fun v4000 =>
 ldK false 1 v4000 H2001 fun v4001 =>
 iaK .none 1 v4001 (.i .i64 0) fun v4002 =>
 ldK false 1 v4002 H2001 fun v4003 =>
 faK 3 v2000 fun v4004 =>
 ldK false 1 v4004 H2001 fun v4005 =>
 iaK .none 1 v4005 (.i .i64 1) fun v4006 =>
 ldK false 1 v4006 H2001 fun v4007 =>
 newK [(.i .i64 0), (.s []), (.i .i64 0), (.s [])] H2001 fun v4008 H4008 =>
 newK [(.i .i64 0), (.s []), (.i .i64 0), (.s [])] H4008 fun v4009 H4009 =>
 caK rec 109 [(Env.get s0 e), v4003] H4009 fun v4010 H4010 =>
 boolK (and (again ⟨.load false 1 (.l 0), .none, []⟩ v4007 (Env.put s3 v2000 (Env.put s4 v2001 e)) [v4006, v4005, v4004, v4003, v4002, v4001, v4000] H4010) (and (again ⟨.load false 1 (.l 0), .none, []⟩ v4005 (Env.put s3 v2000 (Env.put s4 v2001 e)) [v4004, v4003, v4002, v4001, v4000] H4010) true)) (caK rec 109 [(Env.get s0 e), v4007] H4010 fun v4011 H4011 =>
 stK 4 v4010 v4008 H4011 fun H4012 =>
 stK 4 v4011 v4009 H4012 fun H4013 =>
 ldK true 4 v4008 H4013 fun v6000 =>
 ldK true 4 v4009 H4013 fun v6001 =>
 binK .eql (.flat [(0, .i), (1, .s), (2, .i), (3, .s)]) v6000 v6001 fun v6002 =>
 gdK v6002 true (fun R8000 => ldK true 4 v4008 H4013 fun v8000 =>
 R8000 v8000 H4013 (Ctl.mk [] .none)) H4013 (Ctl.mk [] .none) fun v8000 H8000 k8000 =>
 gdK v6002 true (fun R8001 => caK rec 163 [v8000] H8000 fun v8001 H8001 =>
 R8001 v8001 H8001 k8000) H8000 k8000 fun v8001 H8001 k8001 =>
 pkK v6002 v8001 (.b false) fun v8002 =>
 seqK (fun K9 =>
 faK 4 v2000 fun v11000 =>
 ldK false 1 v11000 H8001 fun v11001 =>
 blockK 0 (fun K12 =>
 binK .eql .no v11001 (.s [43]) fun v14000 =>
 condK v14000 (gdK v8002 false (fun R17000 => R17000 v6002 H8001 k8001) H8001 k8001 fun v17000 H17000 k17000 =>
 gdK v8002 false (fun R17001 => R17001 v17000 H17000 k17000) H17000 k17000 fun v17001 H17001 k17001 =>
 gdK v17001 true (fun R17002 => ldK true 4 v4008 H17001 fun v17002 =>
 R17002 v17002 H17001 k17001) H17001 k17001 fun v17002 H17002 k17002 =>
 gdK v17001 true (fun R17003 => caK rec 101 [v17002, (.i .i64 4)] H17002 fun v17003 H17003 =>
 R17003 v17003 H17003 k17002) H17002 k17002 fun v17003 H17003 k17003 =>
 gdK v8002 false (fun R17004 => pkK v17001 v17003 (.b false) fun v17004 =>
 R17004 v17004 H17003 k17003) H17003 k17003 fun v17004 H17004 k17004 =>
 pkK v8002 (.b true) v17004 fun v17005 =>
 condK v17005 (ldK true 4 v4008 H17004 fun v20000 =>
 stK 4 v20000 v2001 H17004 fun H20001 =>
 K12 .ret (Env.put s41 v17005 (Env.put s32 v14000 (Env.put s31 v11001 (Env.put s8 v8002 (Env.put s7 v6002 (Env.put s5 v4008 (Env.put s6 v4009 (Env.put s3 v2000 (Env.put s4 v2001 e))))))))) H20001 k17004)
 (K12 .norm (Env.put s41 v17005 (Env.put s32 v14000 (Env.put s31 v11001 (Env.put s8 v8002 (Env.put s7 v6002 (Env.put s5 v4008 (Env.put s6 v4009 (Env.put s3 v2000 (Env.put s4 v2001 e))))))))) H17004 k17004))
 (seqK (fun K16 =>
 binK .eql .no v11001 (.s [45]) fun v18000 =>
 condK v18000 (K16 .norm (Env.put s43 v18000 (Env.put s32 v14000 (Env.put s31 v11001 (Env.put s8 v8002 (Env.put s7 v6002 (Env.put s5 v4008 (Env.put s6 v4009 (Env.put s3 v2000 (Env.put s4 v2001 e))))))))) H8001 k8001)
 (binK .eql .no v11001 (.s [42]) fun v21000 =>
 condK v21000 (K16 .norm (Env.put s43 v21000 (Env.put s43 v18000 (Env.put s32 v14000 (Env.put s31 v11001 (Env.put s8 v8002 (Env.put s7 v6002 (Env.put s5 v4008 (Env.put s6 v4009 (Env.put s3 v2000 (Env.put s4 v2001 e)))))))))) H8001 k8001)
 (binK .eql .no v11001 (.s [47]) fun v23000 =>
 K16 .norm (Env.put s43 v23000 (Env.put s43 v21000 (Env.put s43 v18000 (Env.put s32 v14000 (Env.put s31 v11001 (Env.put s8 v8002 (Env.put s7 v6002 (Env.put s5 v4008 (Env.put s6 v4009 (Env.put s3 v2000 (Env.put s4 v2001 e))))))))))) H8001 k8001))) (fun k16 e16 H16 =>
 condK (Env.get s43 e16) (condK (Env.get s8 e16) (ldK true 4 (Env.get s5 e16) H16 fun v22000 =>
 stK 4 v22000 (Env.get s4 e16) H16 fun H22001 =>
 K12 .ret (Env.put s47 (Env.get s8 e16) e16) H22001 k16)
 (K12 .norm (Env.put s47 (Env.get s8 e16) e16) H16 k16))
 (binK .eql .no (Env.get s31 e16) (.s [37]) fun v19000 =>
 condK v19000 (gdK (Env.get s7 e16) true (fun R22000 => ldK true 4 (Env.get s5 e16) H16 fun v22000 =>
 R22000 v22000 H16 k16) H16 k16 fun v22000 H22000 k22000 =>
 gdK (Env.get s7 e16) true (fun R22001 => caK rec 101 [v22000, (.i .i64 1)] H22000 fun v22001 H22001 =>
 R22001 v22001 H22001 k22000) H22000 k22000 fun v22001 H22001 k22001 =>
 pkK (Env.get s7 e16) v22001 (.b false) fun v22002 =>
 condK v22002 (ldK true 4 (Env.get s5 e16) H22001 fun v25000 =>
 stK 4 v25000 (Env.get s4 e16) H22001 fun H25001 =>
 K12 .ret (Env.put s55 v22002 (Env.put s49 v19000 e16)) H25001 k22001)
 (K12 .norm (Env.put s55 v22002 (Env.put s49 v19000 e16)) H22001 k22001))
 (seqK (fun K21 =>
 binK .eql .no (Env.get s31 e16) (.s [60]) fun v23000 =>
 condK v23000 (K21 .norm (Env.put s57 v23000 (Env.put s49 v19000 e16)) H16 k16)
 (binK .eql .no (Env.get s31 e16) (.s [60, 61]) fun v26000 =>
 condK v26000 (K21 .norm (Env.put s57 v26000 (Env.put s57 v23000 (Env.put s49 v19000 e16))) H16 k16)
 (binK .eql .no (Env.get s31 e16) (.s [62]) fun v29000 =>
 condK v29000 (K21 .norm (Env.put s57 v29000 (Env.put s57 v26000 (Env.put s57 v23000 (Env.put s49 v19000 e16)))) H16 k16)
 (binK .eql .no (Env.get s31 e16) (.s [62, 61]) fun v31000 =>
 K21 .norm (Env.put s57 v31000 (Env.put s57 v29000 (Env.put s57 v26000 (Env.put s57 v23000 (Env.put s49 v19000 e16))))) H16 k16)))) (fun k21 e21 H21 =>
 condK (Env.get s57 e21) (condK (Env.get s8 e21) (caK rec 162 [(.i .i64 2)] H21 fun v27000 H27000 =>
 stK 4 v27000 (Env.get s4 e21) H27000 fun H27001 =>
 K12 .ret (Env.put s62 (Env.get s8 e21) e21) H27001 k21)
 (K12 .norm (Env.put s62 (Env.get s8 e21) e21) H21 k21))
 (seqK (fun K23 =>
 binK .eql .no (Env.get s31 e21) (.s [38, 38]) fun v25000 =>
 condK v25000 (K23 .norm (Env.put s64 v25000 e21) H21 k21)
 (binK .eql .no (Env.get s31 e21) (.s [124, 124]) fun v27000 =>
 K23 .norm (Env.put s64 v27000 (Env.put s64 v25000 e21)) H21 k21)) (fun k23 e23 H23 =>
 condK (Env.get s64 e23) (gdK (Env.get s7 e23) true (fun R26000 => ldK true 4 (Env.get s5 e23) H23 fun v26000 =>
 R26000 v26000 H23 k23) H23 k23 fun v26000 H26000 k26000 =>
 gdK (Env.get s7 e23) true (fun R26001 => caK rec 101 [v26000, (.i .i64 2)] H26000 fun v26001 H26001 =>
 R26001 v26001 H26001 k26000) H26000 k26000 fun v26001 H26001 k26001 =>
 pkK (Env.get s7 e23) v26001 (.b false) fun v26002 =>
 condK v26002 (ldK true 4 (Env.get s5 e23) H26001 fun v29000 =>
 stK 4 v29000 (Env.get s4 e23) H26001 fun H29001 =>
 K12 .ret (Env.put s71 v26002 e23) H29001 k26001)
 (K12 .norm (Env.put s71 v26002 e23) H26001 k26001))
 (seqK (fun K25 =>
 binK .eql .no (Env.get s31 e23) (.s [61, 61]) fun v27000 =>
 condK v27000 (K25 .norm (Env.put s73 v27000 e23) H23 k23)
 (binK .eql .no (Env.get s31 e23) (.s [33, 61]) fun v29000 =>
 K25 .norm (Env.put s73 v29000 (Env.put s73 v27000 e23)) H23 k23)) (fun k25 e25 H25 =>
 condK (Env.get s73 e25) (ldK true 4 (Env.get s5 e25) H25 fun v28000 =>
 caK rec 160 [v28000] H25 fun v28001 H28001 =>
 gdK v28001 true (fun R28002 => ldK true 4 (Env.get s6 e25) H28001 fun v28002 =>
 R28002 v28002 H28001 k25) H28001 k25 fun v28002 H28002 k28002 =>
 gdK v28001 true (fun R28003 => caK rec 160 [v28002] H28002 fun v28003 H28003 =>
 R28003 v28003 H28003 k28002) H28002 k28002 fun v28003 H28003 k28003 =>
 pkK v28001 v28003 (.b false) fun v28004 =>
 gdK v28004 true (fun R28005 => ldK true 4 (Env.get s5 e25) H28003 fun v28005 =>
 R28005 v28005 H28003 k28003) H28003 k28003 fun v28005 H28005 k28005 =>
 gdK v28004 true (fun R28006 => caK rec 83 [] H28005 fun v28006 H28006 =>
 boolK (and (again ⟨.load true 4 (.s s5), (.some ((.l 0), true)), []⟩ v28005 e25 [v28004, v28003, v28002, v28001, v28000] H28006) true) (R28006 v28006 H28006 k28005)) H28005 k28005 fun v28006 H28006 k28006 =>
 gdK v28004 true (fun R28007 => binK .neq (.flat [(0, .i), (1, .s), (2, .i), (3, .s)]) v28005 v28006 fun v28007 =>
 R28007 v28007 H28006 k28006) H28006 k28006 fun v28007 H28007 k28007 =>
 pkK v28004 v28007 (.b false) fun v28008 =>
 gdK v28008 true (fun R28009 => ldK true 4 (Env.get s6 e25) H28007 fun v28009 =>
 R28009 v28009 H28007 k28007) H28007 k28007 fun v28009 H28009 k28009 =>
 gdK v28008 true (fun R28010 => caK rec 83 [] H28009 fun v28010 H28010 =>
 boolK (and (again ⟨.load true 4 (.s s6), (.some ((.l 0), true)), []⟩ v28009 e25 [v28008, v28007, v28006, v28005, v28004, v28003, v28002, v28001, v28000] H28010) true) (R28010 v28010 H28010 k28009)) H28009 k28009 fun v28010 H28010 k28010 =>
 gdK v28008 true (fun R28011 => binK .neq (.flat [(0, .i), (1, .s), (2, .i), (3, .s)]) v28009 v28010 fun v28011 =>
 R28011 v28011 H28010 k28010) H28010 k28010 fun v28011 H28011 k28011 =>
 pkK v28008 v28011 (.b false) fun v28012 =>
 gdK v28012 true (fun R30000 => ldK true 4 (Env.get s5 e25) H28011 fun v30000 =>
 R30000 v30000 H28011 k28011) H28011 k28011 fun v30000 H30000 k30000 =>
 gdK v28012 true (fun R30001 => caK rec 82 [] H30000 fun v30001 H30001 =>
 boolK (and (again ⟨.load true 4 (.s s5), (.some ((.s s9), true)), []⟩ v30000 (Env.put s9 v28012 e25) [] H30001) true) (R30001 v30001 H30001 k30000)) H30000 k30000 fun v30001 H30001 k30001 =>
 gdK v28012 true (fun R30002 => binK .eql (.flat [(0, .i), (1, .s), (2, .i), (3, .s)]) v30000 v30001 fun v30002 =>
 R30002 v30002 H30001 k30001) H30001 k30001 fun v30002 H30002 k30002 =>
 gdK v28012 true (fun R30003 => R30003 v30002 H30002 k30002) H30002 k30002 fun v30003 H30003 k30003 =>
 gdK v30003 true (fun R30004 => ldK true 4 (Env.get s6 e25) H30003 fun v30004 =>
 R30004 v30004 H30003 k30003) H30003 k30003 fun v30004 H30004 k30004 =>
 gdK v30003 true (fun R30005 => caK rec 82 [] H30004 fun v30005 H30005 =>
 boolK (and (again ⟨.load true 4 (.s s6), (.some ((.l 0), true)), []⟩ v30004 (Env.put s9 v28012 e25) [v30003, v30002, v30001, v30000] H30005) true) (R30005 v30005 H30005 k30004)) H30004 k30004 fun v30005 H30005 k30005 =>
 gdK v30003 true (fun R30006 => binK .eql (.flat [(0, .i), (1, .s), (2, .i), (3, .s)]) v30004 v30005 fun v30006 =>
 R30006 v30006 H30005 k30005) H30005 k30005 fun v30006 H30006 k30006 =>
 gdK v28012 true (fun R30007 => pkK v30003 v30006 (.b false) fun v30007 =>
 R30007 v30007 H30006 k30006) H30006 k30006 fun v30007 H30007 k30007 =>
 gdK v28012 true (fun R30008 => R30008 v30007 H30007 k30007) H30007 k30007 fun v30008 H30008 k30008 =>
 gdK v30008 false (fun R30009 => R30009 (Env.get s0 e25) H30008 k30008) H30008 k30008 fun v30009 H30009 k30009 =>
 gdK v30008 false (fun R30010 => genK roundT rec (.nilCheck (.l 0)) k30009 (Env.put s9 v28012 e25) [v30009, v30008, v30007, v30006, v30005, v30004, v30003, v30002, v30001, v30000] H30009 fun v30010 H30010 k30010 =>
 R30010 v30010 H30010 k30010) H30009 k30009 fun v30010 H30010 k30010 =>
 gdK v30008 false (fun R30011 => faK 0 v30010 fun v30011 =>
 R30011 v30011 H30010 k30010) H30010 k30010 fun v30011 H30011 k30011 =>
 gdK v30008 false (fun R30012 => ldK false 1 v30011 H30011 fun v30012 =>
 R30012 v30012 H30011 k30011) H30011 k30011 fun v30012 H30012 k30012 =>
 gdK v30008 false (fun R30013 => genK roundT rec (.nilCheck (.l 0)) k30012 (Env.put s9 v28012 e25) [v30012, v30011, v30010, v30009, v30008, v30007, v30006, v30005, v30004, v30003, v30002, v30001, v30000] H30012 fun v30013 H30013 k30013 =>
 R30013 v30013 H30013 k30013) H30012 k30012 fun v30013 H30013 k30013 =>
 gdK v30008 false (fun R30014 => faK 5 v30013 fun v30014 =>
 R30014 v30014 H30013 k30013) H30013 k30013 fun v30014 H30014 k30014 =>
 gdK v30008 false (fun R30015 => ldK false 1 v30014 H30014 fun v30015 =>
 R30015 v30015 H30014 k30014) H30014 k30014 fun v30015 H30015 k30015 =>
 gdK v30008 false (fun R30016 => ldK true 4 (Env.get s5 e25) H30015 fun v30016 =>
 R30016 v30016 H30015 k30015) H30015 k30015 fun v30016 H30016 k30016 =>
 gdK v30008 false (fun R30017 => ldK true 4 (Env.get s6 e25) H30016 fun v30017 =>
 R30017 v30017 H30016 k30016) H30016 k30016 fun v30017 H30017 k30017 =>
 gdK v30008 false (fun R30018 => caK rec 143 [v30015, v30016, v30017] H30017 fun v30018 H30018 =>
 R30018 v30018 H30018 k30017) H30017 k30017 fun v30018 H30018 k30018 =>
 gdK v28012 true (fun R30019 => pkK v30008 (.b true) v30018 fun v30019 =>
 R30019 v30019 H30018 k30018) H30018 k30018 fun v30019 H30019 k30019 =>
 gdK v28012 true (fun R30020 => R30020 v30019 H30019 k30019) H30019 k30019 fun v30020 H30020 k30020 =>
 gdK v30020 false (fun R30021 => R30021 (Env.get s0 e25) H30020 k30020) H30020 k30020 fun v30021 H30021 k30021 =>
 gdK v30020 false (fun R30022 => genK roundT rec (.nilCheck (.l 0)) k30021 (Env.put s9 v28012 e25) [v30021, v30020, v30019, v30018, v30017, v30016, v30015, v30014, v30013, v30012, v30011, v30010, v30009, v30008, v30007, v30006, v30005, v30004, v30003, v30002, v30001, v30000] H30021 fun v30022 H30022 k30022 =>
 R30022 v30022 H30022 k30022) H30021 k30021 fun v30022 H30022 k30022 =>
 gdK v30020 false (fun R30023 => faK 0 v30022 fun v30023 =>
 R30023 v30023 H30022 k30022) H30022 k30022 fun v30023 H30023 k30023 =>
 gdK v30020 false (fun R30024 => ldK false 1 v30023 H30023 fun v30024 =>
 R30024 v30024 H30023 k30023) H30023 k30023 fun v30024 H30024 k30024 =>
 gdK v30020 false (fun R30025 => genK roundT rec (.nilCheck (.l 0)) k30024 (Env.put s9 v28012 e25) [v30024, v30023, v30022, v30021, v30020, v30019, v30018, v30017, v30016, v30015, v30014, v30013, v30012, v30011, v30010, v30009, v30008, v30007, v30006, v30005, v30004, v30003, v30002, v30001, v30000] H30024 fun v30025 H30025 k30025 =>
 R30025 v30025 H30025 k30025) H30024 k30024 fun v30025 H30025 k30025 =>
 gdK v30020 false (fun R30026 => faK 5 v30025 fun v30026 =>
 R30026 v30026 H30025 k30025) H30025 k30025 fun v30026 H30026 k30026 =>
 gdK v30020 false (fun R30027 => ldK false 1 v30026 H30026 fun v30027 =>
 R30027 v30027 H30026 k30026) H30026 k30026 fun v30027 H30027 k30027 =>
 gdK v30020 false (fun R30028 => ldK true 4 (Env.get s6 e25) H30027 fun v30028 =>
 R30028 v30028 H30027 k30027) H30027 k30027 fun v30028 H30028 k30028 =>
 gdK v30020 false (fun R30029 => ldK true 4 (Env.get s5 e25) H30028 fun v30029 =>
 R30029 v30029 H30028 k30028) H30028 k30028 fun v30029 H30029 k30029 =>
 gdK v30020 false (fun R30030 => caK rec 143 [v30027, v30028, v30029] H30029 fun v30030 H30030 =>
 R30030 v30030 H30030 k30029) H30029 k30029 fun v30030 H30030 k30030 =>
 gdK v28012 true (fun R30031 => pkK v30020 (.b true) v30030 fun v30031 =>
 R30031 v30031 H30030 k30030) H30030 k30030 fun v30031 H30031 k30031 =>
 pkK v28012 v30031 (.b false) fun v30032 =>
 gdK v30032 false (fun R30033 => R30033 (Env.get s7 e25) H30031 k30031) H30031 k30031 fun v30033 H30033 k30033 =>
 gdK v30032 false (fun R30034 => R30034 v30033 H30033 k30033) H30033 k30033 fun v30034 H30034 k30034 =>
 gdK v30034 true (fun R30035 => ldK true 4 (Env.get s5 e25) H30034 fun v30035 =>
 R30035 v30035 H30034 k30034) H30034 k30034 fun v30035 H30035 k30035 =>
 gdK v30034 true (fun R30036 => caK rec 160 [v30035] H30035 fun v30036 H30036 =>
 R30036 v30036 H30036 k30035) H30035 k30035 fun v30036 H30036 k30036 =>
 gdK v30034 true (fun R30037 => unK .not v30036 fun v30037 =>
 R30037 v30037 H30036 k30036) H30036 k30036 fun v30037 H30037 k30037 =>
 gdK v30032 false (fun R30038 => pkK v30034 v30037 (.b false) fun v30038 =>
 R30038 v30038 H30037 k30037) H30037 k30037 fun v30038 H30038 k30038 =>
 gdK v30032 false (fun R30039 => R30039 v30038 H30038 k30038) H30038 k30038 fun v30039 H30039 k30039 =>
 gdK v30039 true (fun R30040 => faK 0 (Env.get s5 e25) fun v30040 =>
 R30040 v30040 H30039 k30039) H30039 k30039 fun v30040 H30040 k30040 =>
 gdK v30039 true (fun R30041 => ldK false 1 v30040 H30040 fun v30041 =>
 R30041 v30041 H30040 k30040) H30040 k30040 fun v30041 H30041 k30041 =>
 gdK v30039 true (fun R30042 => binK .neq .no v30041 (.i .i64 6) fun v30042 =>
 R30042 v30042 H30041 k30041) H30041 k30041 fun v30042 H30042 k30042 =>
 gdK v30032 false (fun R30043 => pkK v30039 v30042 (.b false) fun v30043 =>
 R30043 v30043 H30042 k30042) H30042 k30042 fun v30043 H30043 k30043 =>
 pkK v30032 (.b true) v30043 fun v30044 =>
 condK v30044 (caK rec 162 [(.i .i64 2)] H30043 fun v33000 H33000 =>
 stK 4 v33000 (Env.get s4 e25) H33000 fun H33001 =>
 K12 .ret (Env.put s139 v30044 (Env.put s9 v28012 e25)) H33001 k30043)
 (K12 .norm (Env.put s139 v30044 (Env.put s9 v28012 e25)) H30043 k30043))
 (K12 .norm e25 H25 k25)) K12)) K12)) K12))) K12)) K9) (fun k9 e9 H9 =>
 genK roundT rec (.nilCheck (.s s0)) k9 e9 [] H9 fun v11000 H11000 k11000 =>
 faK 0 v11000 fun v11001 =>
 ldK false 1 v11001 H11000 fun v11002 =>
 faK 3 (Env.get s3 e9) fun v11003 =>
 ldK false 1 v11003 H11000 fun v11004 =>
 iaK .none 1 v11004 (.i .i64 1) fun v11005 =>
 ldK false 1 v11005 H11000 fun v11006 =>
 caK rec 105 [v11002, (.i .i64 130), v11006] H11000 fun v11007 H11007 =>
 bdK [(.i .i64 0), (.s []), (.i .i64 0), (.s [])] [] fun v13000 =>
 stK 4 v13000 (Env.get s4 e9) H11007 fun H13001 =>
 (endK recD [.cell true 4 s4]) .ret e9 H13001 k11000) (endK recD [.cell true 4 s4]))
theorem Tryz.cOk164 : (compFn Tryz.prog Tryz.f164).map (bodyK 164) = some Tryz.c164 := by kernel_rfl
def Tryz.c183 : FnK := fun rec recD args H => startK 1 args fun e =>
 caK rec 194 [(Env.get s0 e), (.i .i64 0)] H fun v4000 H4000 =>
 exK 0 v4000 fun v4001 =>
 exK 1 v4000 fun v4002 =>
 seqK (fun K5 =>
 binK .neq .no v4001 (.i .i64 1) fun v7000 =>
 condK v7000 (K5 .ret (Env.put s2 (.b false) (Env.put s13 v7000 (Env.put s3 v4001 (Env.put s4 v4002 (Env.put s2 (.b false) e))))) H4000 (Ctl.mk [] .none))
 (K5 .norm (Env.put s13 v7000 (Env.put s3 v4001 (Env.put s4 v4002 (Env.put s2 (.b false) e)))) H4000 (Ctl.mk [] .none))) (fun k5 e5 H5 =>
 seqK (fun K6 =>
 caK rec 153 [(Env.get s4 e5)] H5 fun v8000 H8000 =>
 unK .not v8000 fun v8001 =>
 condK v8001 (binK .add .no (.s [32]) (Env.get s4 e5) fun v11000 =>
 binK .add .no v11000 (.s [32]) fun v11001 =>
 caK rec 151 [(.s [32, 105, 110, 116, 32, 98, 111, 111, 108, 32, 100, 111, 117, 98, 108, 101, 32, 115, 116, 114, 32, 79, 112, 116, 105, 111, 110, 32]), v11001] H8000 fun v11002 H11002 =>
 K6 .ret (Env.put s2 v11002 (Env.put s16 v8001 e5)) H11002 k5)
 (K6 .norm (Env.put s16 v8001 e5) H8000 k5)) (fun k6 e6 H6 =>
 caK rec 194 [(Env.get s0 e6), (.i .i64 1)] H6 fun v8000 H8000 =>
 exK 0 v8000 fun v8001 =>
 exK 1 v8000 fun v8002 =>
 caK rec 194 [(Env.get s0 e6), (.i .i64 2)] H8000 fun v10000 H10000 =>
 exK 0 v10000 fun v10001 =>
 exK 1 v10000 fun v10002 =>
 binK .eql .no v8001 (.i .i64 1) fun v12000 =>
 gdK v12000 true (fun R12001 => R12001 v8002 H10000 k6) H10000 k6 fun v12001 H12001 k12001 =>
 gdK v12000 true (fun R12002 => caK rec 153 [v12001] H12001 fun v12002 H12002 =>
 R12002 v12002 H12002 k12001) H12001 k12001 fun v12002 H12002 k12002 =>
 pkK v12000 v12002 (.b false) fun v12003 =>
 gdK v12003 false (fun R12004 => R12004 v8001 H12002 k12002) H12002 k12002 fun v12004 H12004 k12004 =>
 gdK v12003 false (fun R12005 => binK .eql .no v12004 (.i .i64 5) fun v12005 =>
 R12005 v12005 H12004 k12004) H12004 k12004 fun v12005 H12005 k12005 =>
 gdK v12003 false (fun R12006 => R12006 v12005 H12005 k12005) H12005 k12005 fun v12006 H12006 k12006 =>
 gdK v12006 true (fun R12007 => R12007 v8002 H12006 k12006) H12006 k12006 fun v12007 H12007 k12007 =>
 gdK v12006 true (fun R12008 => binK .eql .no v12007 (.s [63]) fun v12008 =>
 R12008 v12008 H12007 k12007) H12007 k12007 fun v12008 H12008 k12008 =>
 gdK v12006 true (fun R12009 => R12009 v12008 H12008 k12008) H12008 k12008 fun v12009 H12009 k12009 =>
 gdK v12009 false (fun R12010 => R12010 v8002 H12009 k12009) H12009 k12009 fun v12010 H12010 k12010 =>
 gdK v12009 false (fun R12011 => binK .eql .no v12010 (.s [91]) fun v12011 =>
 R12011 v12011 H12010 k12010) H12010 k12010 fun v12011 H12011 k12011 =>
 gdK v12009 false (fun R12012 => R12012 v12011 H12011 k12011) H12011 k12011 fun v12012 H12012 k12012 =>
 gdK v12012 true (fun R12013 => R12013 v10002 H12012 k12012) H12012 k12012 fun v12013 H12013 k12013 =>
 gdK v12012 true (fun R12014 => binK .eql .no v12013 (.s [93]) fun v12014 =>
 R12014 v12014 H12013 k12013) H12013 k12013 fun v12014 H12014 k12014 =>
 gdK v12009 false (fun R12015 => pkK v12012 v12014 (.b false) fun v12015 =>
 R12015 v12015 H12014 k12014) H12014 k12014 fun v12015 H12015 k12015 =>
 gdK v12006 true (fun R12016 => pkK v12009 (.b true) v12015 fun v12016 =>
 R12016 v12016 H12015 k12015) H12015 k12015 fun v12016 H12016 k12016 =>
 gdK v12003 false (fun R12017 => pkK v12006 v12016 (.b false) fun v12017 =>
 R12017 v12017 H12016 k12016) H12016 k12016 fun v12017 H12017 k12017 =>
 pkK v12003 (.b true) v12017 fun v12018 =>
 (endK recD [.slot s2]) .ret (Env.put s2 v12018 (Env.put s6 v10002 (Env.put s3 v8001 (Env.put s4 v8002 e6)))) H12017 k12017) (endK recD [.slot s2])) (endK recD [.slot s2])
theorem Tryz.cOk183 : (compFn Tryz.prog Tryz.f183).map (bodyK 183) = some Tryz.c183 := by kernel_rfl
def Tryz.c194 : FnK := fun rec recD args H => startK 2 args fun e =>
 seqK (fun K3 =>
 genK roundT rec (.nilCheck (.s s0)) (Ctl.mk [] .none) (Env.put s4 (.i .i64 0) (Env.put s5 (.s []) e)) [] H fun v5000 H5000 k5000 =>
 faK 2 v5000 fun v5001 =>
 ldK false 1 v5001 H5000 fun v5002 =>
 binK .add .no v5002 (Env.get s1 e) fun v5003 =>
 genK roundT rec (.nilCheck (.s s0)) k5000 (Env.put s4 (.i .i64 0) (Env.put s5 (.s []) e)) [v5003, v5002, v5001, v5000] H5000 fun v5004 H5004 k5004 =>
 faK 1 v5004 fun v5005 =>
 ldK false 1 v5005 H5004 fun v5006 =>
 lnK .sl H5004 v5006 fun v5007 =>
 binK .geq .no v5003 v5007 fun v5008 =>
 condK v5008 (K3 .ret (Env.put s4 (.i .i64 0) (Env.put s5 (.s []) (Env.put s18 v5008 (Env.put s4 (.i .i64 0) (Env.put s5 (.s []) e))))) H5004 k5004)
 (K3 .norm (Env.put s18 v5008 (Env.put s4 (.i .i64 0) (Env.put s5 (.s []) e))) H5004 k5004)) (fun k3 e3 H3 =>
 genK roundT rec (.nilCheck (.s s0)) k3 e3 [] H3 fun v5000 H5000 k5000 =>
 faK 1 v5000 fun v5001 =>
 ldK false 1 v5001 H5000 fun v5002 =>
 genK roundT rec (.nilCheck (.s s0)) k5000 e3 [v5002, v5001, v5000] H5000 fun v5003 H5003 k5003 =>
 faK 2 v5003 fun v5004 =>
 ldK false 1 v5004 H5003 fun v5005 =>
 binK .add .no v5005 (Env.get s1 e3) fun v5006 =>
 iaK .none 3 v5002 v5006 fun v5007 =>
 ldK true 3 v5007 H5003 fun v5008 =>
 newK [(.i .i64 0), (.i .i64 0), (.i .i64 0)] H5003 fun v5009 H5009 =>
 stK 3 v5008 v5009 H5009 fun H5010 =>
 faK 0 v5009 fun v7000 =>
 ldK false 1 v7000 H5010 fun v7001 =>
 genK roundT rec (.nilCheck (.s s0)) k5003 (Env.put s6 v5009 e3) [v7001, v7000] H5010 fun v7002 H7002 k7002 =>
 faK 0 v7002 fun v7003 =>
 ldK false 1 v7003 H7002 fun v7004 =>
 faK 1 v5009 fun v7005 =>
 faK 0 v7005 fun v7006 =>
 ldK false 1 v7006 H7002 fun v7007 =>
 faK 1 v5009 fun v7008 =>
 faK 1 v7008 fun v7009 =>
 ldK false 1 v7009 H7002 fun v7010 =>
 slK .none v7004 (.some v7007) (.some v7010) .none fun v7011 =>
 (endK recD [.slot s4, .slot s5]) .ret (Env.put s4 v7001 (Env.put s5 v7011 (Env.put s6 v5009 e3))) H7002 k7002) (endK recD [.slot s4, .slot s5])
theorem Tryz.cOk194 : (compFn Tryz.prog Tryz.f194).map (bodyK 194) = some Tryz.c194 := by kernel_rfl
def Tryz.c195 : FnK := fun rec recD args H => startK 2 args fun e =>
 newK [(.i .i64 0), (.i .i64 0), (.i .i64 0)] H fun v4000 H4000 =>
 caK rec 78 [(Env.get s0 e)] H4000 fun v4001 H4001 =>
 exK 0 v4001 fun v4002 =>
 exK 1 v4001 fun v4003 =>
 stK 3 v4002 v4000 H4001 fun H4004 =>
 seqK (fun K5 =>
 binK .gtr .no (Env.get s1 e) (.i .i64 5) fun v7000 =>
 condK v7000 (caK rec 200 [(Env.get s0 e)] H4004 fun v10000 H10000 =>
 K5 .ret (Env.put s4 v10000 (Env.put s18 v7000 (Env.put s5 v4000 (Env.put s4 (.i .i64 0) e)))) H10000 (Ctl.mk [] .none))
 (K5 .norm (Env.put s18 v7000 (Env.put s5 v4000 (Env.put s4 (.i .i64 0) e))) H4004 (Ctl.mk [] .none))) (fun k5 e5 H5 =>
 binK .add .no (Env.get s1 e5) (.i .i64 1) fun v7000 =>
 caK rec 195 [(Env.get s0 e5), v7000] H5 fun v7001 H7001 =>
 blockK 0 (fun K8 =>
 loopK (fun k9 e9 H9 K9 =>
 blockK 1 (fun K10 =>
 newK [(.i .i64 0), (.i .i64 0), (.i .i64 0)] H9 fun v12000 H12000 =>
 caK rec 78 [(Env.get s0 e9)] H12000 fun v12001 H12001 =>
 exK 0 v12001 fun v12002 =>
 exK 1 v12001 fun v12003 =>
 stK 3 v12002 v12000 H12001 fun H12004 =>
 blockK 2 (fun K13 =>
 faK 0 v12000 fun v15000 =>
 ldK false 1 v15000 H12004 fun v15001 =>
 binK .eql .no v15001 (.i .i64 5) fun v15002 =>
 gdK v15002 true (fun R15003 => R15003 v12003 H12004 k9) H12004 k9 fun v15003 H15003 k15003 =>
 gdK v15002 true (fun R15004 => R15004 (Env.get s1 e9) H15003 k15003) H15003 k15003 fun v15004 H15004 k15004 =>
 gdK v15002 true (fun R15005 => caK rec 201 [v15003] H15004 fun v15005 H15005 =>
 R15005 v15005 H15005 k15004) H15004 k15004 fun v15005 H15005 k15005 =>
 gdK v15002 true (fun R15006 => binK .eql .no v15005 v15004 fun v15006 =>
 R15006 v15006 H15005 k15005) H15005 k15005 fun v15006 H15006 k15006 =>
 pkK v15002 v15006 (.b false) fun v15007 =>
 condK v15007 (caK rec 152 [(Env.get s0 e9)] H15006 fun v18000 H18000 =>
 binK .add .no (Env.get s1 e9) (.i .i64 1) fun v20000 =>
 caK rec 195 [(Env.get s0 e9), v20000] H18000 fun v20001 H20001 =>
 genK roundT rec (.buildSlice 2 1 [(.i .i64 0)] [(0, (.s s7)), (1, (.s s10))]) k15006 (Env.put s10 v20001 (Env.put s31 v15007 (Env.put s8 v12000 (Env.put s9 v12003 e9)))) [] H20001 fun v21000 H21000 k21000 =>
 bdK [(.i .i64 0), (.i .i64 0), (.i .i64 0), .sl0, (.s []), (.i .i64 0), (.s []), (.i .i64 0), (.s []), (.i .i64 0), (.i .i64 0), (.i .i64 0), .sl0] [(0, 1, (.i .i64 34)), (4, 1, v12003), (3, 1, v21000)] fun v21001 =>
 faK 1 (Env.get s5 e9) fun v21002 =>
 faK 0 v21002 fun v21003 =>
 ldK false 1 v21003 H21000 fun v21004 =>
 caK rec 81 [(Env.get s0 e9), v21001, v21004] H21000 fun v21005 H21005 =>
 K13 .norm (Env.put s7 v21005 (Env.put s10 v20001 (Env.put s31 v15007 (Env.put s8 v12000 (Env.put s9 v12003 e9))))) H21005 k21000)
 (binK .eql .no (Env.get s1 e9) (.i .i64 3) fun v18000 =>
 gdK v18000 true (fun R18001 => R18001 (Env.get s0 e9) H15006 k15006) H15006 k15006 fun v18001 H18001 k18001 =>
 gdK v18000 true (fun R18002 => caK rec 129 [v18001, (.s [105, 115])] H18001 fun v18002 H18002 =>
 R18002 v18002 H18002 k18001) H18001 k18001 fun v18002 H18002 k18002 =>
 pkK v18000 v18002 (.b false) fun v18003 =>
 condK v18003 (seqK (fun K22 =>
 caK rec 129 [(Env.get s0 e9), (.s [115, 111, 109, 101])] H18002 fun v24000 H24000 =>
 unK .not v24000 fun v24001 =>
 condK v24001 (caK rec 127 [(Env.get s0 e9), (.s [110, 111, 110, 101])] H24000 fun v27000 H27000 =>
 K22 .norm (Env.put s11 (.i .i64 44) (Env.put s66 v24001 (Env.put s11 (.i .i64 43) (Env.put s57 v18003 (Env.put s31 v15007 (Env.put s8 v12000 (Env.put s9 v12003 e9))))))) H27000 k18002)
 (K22 .norm (Env.put s66 v24001 (Env.put s11 (.i .i64 43) (Env.put s57 v18003 (Env.put s31 v15007 (Env.put s8 v12000 (Env.put s9 v12003 e9)))))) H24000 k18002)) (fun k22 e22 H22 =>
 genK roundT rec (.buildSlice 1 1 [(.i .i64 0)] [(0, (.s s7))]) k22 e22 [] H22 fun v23000 H23000 k23000 =>
 bdK [(.i .i64 0), (.i .i64 0), (.i .i64 0), .sl0, (.s []), (.i .i64 0), (.s []), (.i .i64 0), (.s []), (.i .i64 0), (.i .i64 0), (.i .i64 0), .sl0] [(0, 1, (Env.get s11 e22)), (3, 1, v23000)] fun v23001 =>
 faK 1 (Env.get s5 e22) fun v23002 =>
 faK 0 v23002 fun v23003 =>
 ldK false 1 v23003 H23000 fun v23004 =>
 caK rec 81 [(Env.get s0 e22), v23001, v23004] H23000 fun v23005 H23005 =>
 K13 .norm (Env.put s7 v23005 e22) H23005 k23000) K13)
 (K13 .ret (Env.put s4 (Env.get s7 e9) (Env.put s57 v18003 (Env.put s31 v15007 (Env.put s8 v12000 (Env.put s9 v12003 e9))))) H18002 k18002))) K10) K9) rounds K8 k5 (Env.put s7 v7001 e5) H7001) (endK recD [.slot s4])) (endK recD [.slot s4])
theorem Tryz.cOk195 : (compFn Tryz.prog Tryz.f195).map (bodyK 195) = some Tryz.c195 := by kernel_rfl
def Tryz.c198 : FnK := fun rec recD args H => startK 2 args fun e =>
 newK [(.i .i64 0), (.i .i64 0), (.i .i64 0), .sl0, (.s []), (.i .i64 0), (.s []), (.i .i64 0), (.s []), (.i .i64 0), (.i .i64 0), (.i .i64 0), .sl0] H fun v2000 H2000 =>
 genK roundT rec (.nilCheck (.s s0)) (Ctl.mk [] .none) (Env.put s4 v2000 e) [] H2000 fun v4000 H4000 k4000 =>
 faK 0 v4000 fun v4001 =>
 faK 0 v4001 fun v4002 =>
 ldK false 1 v4002 H4000 fun v4003 =>
 iaK .none 13 v4003 (Env.get s1 e) fun v4004 =>
 ldK true 13 v4004 H4000 fun v4005 =>
 newK [(.i .i64 0), (.i .i64 0), (.i .i64 0), .sl0, (.s []), (.i .i64 0), (.s []), (.i .i64 0), (.s []), (.i .i64 0), (.i .i64 0), (.i .i64 0), .sl0] H4000 fun v4006 H4006 =>
 stK 13 v4005 v4006 H4006 fun H4007 =>
 faK 3 v4006 fun v6000 =>
 ldK false 1 v6000 H4007 fun v6001 =>
 faK 12 v4006 fun v6002 =>
 ldK false 1 v6002 H4007 fun v6003 =>
 caK rec 59 [v6001] H4007 fun v6004 H6004 =>
 boolK (and (again ⟨.load false 1 (.l 0), .none, []⟩ v6003 (Env.put s5 v4006 (Env.put s4 v2000 e)) [v6002, v6001, v6000] H6004) true) (faK 3 v4006 fun v6005 =>
 caK rec 59 [v6003] H6004 fun v6006 H6006 =>
 stK 1 v6004 v6005 H6006 fun H6007 =>
 faK 12 v4006 fun v6008 =>
 stK 1 v6006 v6008 H6007 fun H6009 =>
 ldK true 13 v4006 H6009 fun v8000 =>
 stK 13 v8000 v2000 H6009 fun H8001 =>
 (endK recD [.cell true 13 s4]) .ret (Env.put s5 v4006 (Env.put s4 v2000 e)) H8001 k4000)
theorem Tryz.cOk198 : (compFn Tryz.prog Tryz.f198).map (bodyK 198) = some Tryz.c198 := by kernel_rfl
def Tryz.c200 : FnK := fun rec recD args H => startK 1 args fun e =>
 newK [(.i .i64 0), (.i .i64 0), (.i .i64 0)] H fun v4000 H4000 =>
 caK rec 78 [(Env.get s0 e)] H4000 fun v4001 H4001 =>
 exK 0 v4001 fun v4002 =>
 exK 1 v4001 fun v4003 =>
 stK 3 v4002 v4000 H4001 fun H4004 =>
 seqK (fun K5 =>
 faK 0 v4000 fun v7000 =>
 ldK false 1 v7000 H4004 fun v7001 =>
 binK .neq .no v7001 (.i .i64 5) fun v7002 =>
 gdK v7002 false (fun R7003 => R7003 v4003 H4004 (Ctl.mk [] .none)) H4004 (Ctl.mk [] .none) fun v7003 H7003 k7003 =>
 gdK v7002 false (fun R7004 => binK .neq .no v7003 (.s [33]) fun v7004 =>
 R7004 v7004 H7003 k7003) H7003 k7003 fun v7004 H7004 k7004 =>
 gdK v7002 false (fun R7005 => R7005 v7004 H7004 k7004) H7004 k7004 fun v7005 H7005 k7005 =>
 gdK v7005 true (fun R7006 => R7006 v4003 H7005 k7005) H7005 k7005 fun v7006 H7006 k7006 =>
 gdK v7005 true (fun R7007 => binK .neq .no v7006 (.s [45]) fun v7007 =>
 R7007 v7007 H7006 k7006) H7006 k7006 fun v7007 H7007 k7007 =>
 gdK v7002 false (fun R7008 => pkK v7005 v7007 (.b false) fun v7008 =>
 R7008 v7008 H7007 k7007) H7007 k7007 fun v7008 H7008 k7008 =>
 pkK v7002 (.b true) v7008 fun v7009 =>
 condK v7009 (caK rec 202 [(Env.get s0 e)] H7008 fun v10000 H10000 =>
 K5 .ret (Env.put s2 v10000 (Env.put s22 v7009 (Env.put s3 v4000 (Env.put s4 v4003 (Env.put s2 (.i .i64 0) e))))) H10000 k7008)
 (K5 .norm (Env.put s22 v7009 (Env.put s3 v4000 (Env.put s4 v4003 (Env.put s2 (.i .i64 0) e)))) H7008 k7008)) (fun k5 e5 H5 =>
 caK rec 173 [(Env.get s0 e5)] H5 fun v7000 H7000 =>
 caK rec 152 [(Env.get s0 e5)] H7000 fun v9000 H9000 =>
 caK rec 200 [(Env.get s0 e5)] H9000 fun v11000 H11000 =>
 genK roundT rec (.nilCheck (.s s0)) k5 (Env.put s5 v11000 e5) [] H11000 fun v13000 H13000 k13000 =>
 faK 3 v13000 fun v13001 =>
 ldK false 1 v13001 H13000 fun v13002 =>
 binK .sub .no v13002 (.i .i64 1) fun v13003 =>
 genK roundT rec (.nilCheck (.s s0)) k13000 (Env.put s5 v11000 e5) [v13003, v13002, v13001, v13000] H13000 fun v13004 H13004 k13004 =>
 faK 3 v13004 fun v13005 =>
 stK 1 v13003 v13005 H13004 fun H13006 =>
 seqK (fun K16 =>
 binK .eql .no (Env.get s4 e5) (.s [45]) fun v18000 =>
 condK v18000 (K16 .norm (Env.put s6 (.i .i64 32) (Env.put s39 v18000 (Env.put s6 (.i .i64 33) (Env.put s5 v11000 e5)))) H13006 k13004)
 (K16 .norm (Env.put s39 v18000 (Env.put s6 (.i .i64 33) (Env.put s5 v11000 e5))) H13006 k13004)) (fun k16 e16 H16 =>
 genK roundT rec (.buildSlice 1 1 [(.i .i64 0)] [(0, (.s s5))]) k16 e16 [] H16 fun v18000 H18000 k18000 =>
 bdK [(.i .i64 0), (.i .i64 0), (.i .i64 0), .sl0, (.s []), (.i .i64 0), (.s []), (.i .i64 0), (.s []), (.i .i64 0), (.i .i64 0), (.i .i64 0), .sl0] [(0, 1, (Env.get s6 e16)), (3, 1, v18000)] fun v18001 =>
 faK 1 (Env.get s3 e16) fun v18002 =>
 faK 0 v18002 fun v18003 =>
 ldK false 1 v18003 H18000 fun v18004 =>
 caK rec 81 [(Env.get s0 e16), v18001, v18004] H18000 fun v18005 H18005 =>
 (endK recD [.slot s2]) .ret (Env.put s2 v18005 e16) H18005 k18000) (endK recD [.slot s2])) (endK recD [.slot s2])
theorem Tryz.cOk200 : (compFn Tryz.prog Tryz.f200).map (bodyK 200) = some Tryz.c200 := by kernel_rfl
def Tryz.c217 : FnK := fun rec recD args H => startK 3 args fun e =>
 seqK (fun K3 =>
 binK .eql .no (Env.get s0 e) (.s []) fun v5000 =>
 condK v5000 (genK roundT rec (.mkIface 271 (.c (.i .i64 2))) (Ctl.mk [] .none) (Env.put s13 v5000 (Env.put s6 (.i .i64 0) (Env.put s7 .if0 e))) [] H fun v8000 H8000 k8000 =>
 K3 .ret (Env.put s6 (.i .i64 0) (Env.put s7 v8000 (Env.put s13 v5000 (Env.put s6 (.i .i64 0) (Env.put s7 .if0 e))))) H8000 k8000)
 (K3 .norm (Env.put s13 v5000 (Env.put s6 (.i .i64 0) (Env.put s7 .if0 e))) H (Ctl.mk [] .none))) (fun k3 e3 H3 =>
 seqK (fun K6 =>
 ixK .none (Env.get s0 e3) (.i .i64 0) fun v8000 =>
 blockK 0 (fun K9 =>
 binK .eql .no v8000 (.i .u8 43) fun v11000 =>
 condK v11000 (slK .none (Env.get s0 e3) (.some (.i .i64 1)) .none .none fun v13000 =>
 K9 .norm (Env.put s0 v13000 (Env.put s17 v11000 (Env.put s16 v8000 (Env.put s8 (.b false) e3)))) H3 k3)
 (binK .eql .no v8000 (.i .u8 45) fun v14000 =>
 condK v14000 (slK .none (Env.get s0 e3) (.some (.i .i64 1)) .none .none fun v17000 =>
 K9 .norm (Env.put s8 (.b true) (Env.put s0 v17000 (Env.put s21 v14000 (Env.put s17 v11000 (Env.put s16 v8000 (Env.put s8 (.b false) e3)))))) H3 k3)
 (K9 .norm (Env.put s21 v14000 (Env.put s17 v11000 (Env.put s16 v8000 (Env.put s8 (.b false) e3)))) H3 k3))) K6) (fun k6 e6 H6 =>
 caK rec 223 [(Env.get s0 e6), (Env.get s1 e6), (Env.get s2 e6)] H6 fun v10000 H10000 =>
 exK 0 v10000 fun v10001 =>
 exK 1 v10000 fun v10002 =>
 seqK (fun K11 =>
 binK .neq .ifc v10002 .if0 fun v13000 =>
 gdK v13000 true (fun R13001 => R13001 v10002 H10000 k6) H10000 k6 fun v13001 H13001 k13001 =>
 gdK v13000 true (fun R13002 => genK roundT rec (.mkIface 271 (.c (.i .i64 1))) k13001 (Env.put s9 v10001 (Env.put s7 v10002 (Env.put s9 (.i .u64 0) e6))) [v13001, v13000] H13001 fun v13002 H13002 k13002 =>
 R13002 v13002 H13002 k13002) H13001 k13001 fun v13002 H13002 k13002 =>
 gdK v13000 true (fun R13003 => genK roundT rec (.ext 999 []) k13002 (Env.put s9 v10001 (Env.put s7 v10002 (Env.put s9 (.i .u64 0) e6))) [v13002, v13001, v13000] H13002 fun v13003 H13003 k13003 =>
 R13003 v13003 H13003 k13003) H13002 k13002 fun v13003 H13003 k13003 =>
 pkK v13000 v13003 (.b false) fun v13004 =>
 condK v13004 (K11 .ret (Env.put s6 (.i .i64 0) (Env.put s7 v10002 (Env.put s38 v13004 (Env.put s9 v10001 (Env.put s7 v10002 (Env.put s9 (.i .u64 0) e6)))))) H13003 k13003)
 (K11 .norm (Env.put s38 v13004 (Env.put s9 v10001 (Env.put s7 v10002 (Env.put s9 (.i .u64 0) e6)))) H13003 k13003)) (fun k11 e11 H11 =>
 seqK (fun K12 =>
 binK .eql .no (Env.get s2 e11) (.i .i64 0) fun v14000 =>
 condK v14000 (K12 .norm (Env.put s2 (.i .i64 64) (Env.put s41 v14000 e11)) H11 k11)
 (K12 .norm (Env.put s41 v14000 e11) H11 k11)) (fun k12 e12 H12 =>
 binK .sub .no (Env.get s2 e12) (.i .i64 1) fun v14000 =>
 genK roundT rec (.convInt .u64 (.l 0)) k12 e12 [v14000] H12 fun v14001 H14001 k14001 =>
 binK .shl .no (.i .u64 1) v14001 fun v14002 =>
 seqK (fun K15 =>
 unK .not (Env.get s8 e12) fun v17000 =>
 gdK v17000 true (fun R17001 => R17001 (Env.get s9 e12) H14001 k14001) H14001 k14001 fun v17001 H17001 k17001 =>
 gdK v17000 true (fun R17002 => R17002 v14002 H17001 k17001) H17001 k17001 fun v17002 H17002 k17002 =>
 gdK v17000 true (fun R17003 => binK .geq .no v17001 v17002 fun v17003 =>
 R17003 v17003 H17002 k17002) H17002 k17002 fun v17003 H17003 k17003 =>
 pkK v17000 v17003 (.b false) fun v17004 =>
 condK v17004 (binK .sub .no v14002 (.i .u64 1) fun v20000 =>
 genK roundT rec (.convInt .i64 (.l 0)) k17003 (Env.put s52 v17004 (Env.put s10 v14002 e12)) [v20000] H17003 fun v20001 H20001 k20001 =>
 genK roundT rec (.mkIface 271 (.c (.i .i64 1))) k20001 (Env.put s52 v17004 (Env.put s10 v14002 e12)) [v20001, v20000] H20001 fun v20002 H20002 k20002 =>
 K15 .ret (Env.put s6 v20001 (Env.put s7 v20002 (Env.put s52 v17004 (Env.put s10 v14002 e12)))) H20002 k20002)
 (K15 .norm (Env.put s52 v17004 (Env.put s10 v14002 e12)) H17003 k17003)) (fun k15 e15 H15 =>
 seqK (fun K16 =>
 gdK (Env.get s8 e15) true (fun R18000 => R18000 (Env.get s9 e15) H15 k15) H15 k15 fun v18000 H18000 k18000 =>
 gdK (Env.get s8 e15) true (fun R18001 => R18001 (Env.get s10 e15) H18000 k18000) H18000 k18000 fun v18001 H18001 k18001 =>
 gdK (Env.get s8 e15) true (fun R18002 => binK .gtr .no v18000 v18001 fun v18002 =>
 R18002 v18002 H18001 k18001) H18001 k18001 fun v18002 H18002 k18002 =>
 pkK (Env.get s8 e15) v18002 (.b false) fun v18003 =>
 condK v18003 (genK roundT rec (.convInt .i64 (.s s10)) k18002 (Env.put s62 v18003 e15) [] H18002 fun v21000 H21000 k21000 =>
 unK .neg v21000 fun v21001 =>
 genK roundT rec (.mkIface 271 (.c (.i .i64 1))) k21000 (Env.put s62 v18003 e15) [v21001, v21000] H21000 fun v21002 H21002 k21002 =>
 K16 .ret (Env.put s6 v21001 (Env.put s7 v21002 (Env.put s62 v18003 e15))) H21002 k21002)
 (K16 .norm (Env.put s62 v18003 e15) H18002 k18002)) (fun k16 e16 H16 =>
 genK roundT rec (.convInt .i64 (.s s9)) k16 e16 [] H16 fun v18000 H18000 k18000 =>
 seqK (fun K19 =>
 condK (Env.get s8 e16) (unK .neg v18000 fun v23000 =>
 K19 .norm (Env.put s11 v23000 (Env.put s69 (Env.get s8 e16) (Env.put s11 v18000 e16))) H18000 k18000)
 (K19 .norm (Env.put s69 (Env.get s8 e16) (Env.put s11 v18000 e16)) H18000 k18000)) (fun k19 e19 H19 =>
 (endK recD [.slot s6, .slot s7]) .ret (Env.put s6 (Env.get s11 e19) (Env.put s7 .if0 e19)) H19 k19) (endK recD [.slot s6, .slot s7])) (endK recD [.slot s6, .slot s7])) (endK recD [.slot s6, .slot s7])) (endK recD [.slot s6, .slot s7])) (endK recD [.slot s6, .slot s7])) (endK recD [.slot s6, .slot s7])) (endK recD [.slot s6, .slot s7])
theorem Tryz.cOk217 : (compFn Tryz.prog Tryz.f217).map (bodyK 217) = some Tryz.c217 := by kernel_rfl
end
end Go.Proofs
