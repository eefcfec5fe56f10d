/- Functions, as they run. PRINTED by a program of this repo. -/
import Derived.Test.YtahpoedbdhhdfaaGreatDoorN
import Derived.Test.YtahpoedbdhhdfaaGreatDoorM
set_option linter.unusedVariables false
set_option maxRecDepth 100000
namespace Go.Proofs.YtahpoedbdhhdfaaGreatDoor
open Go.Ev
/- cmp.Less[int] -/
noncomputable def f_cmp_Less_int (n : Nat) (call : Caller)  (x0 x1 : AV) (h : AH) : Ans :=
 oP (call n_cmp_isNaN_int [x0] h) fun x6_0 h0 =>
 oB (gq x6_0 true (some x1)) fun x8_1 =>
 oP (gw x6_0 true (call n_cmp_isNaN_int [x8_1] h0) h0) fun x9_2 h2 =>
 oB (gq x6_0 true (evQ (.un .not (.c x9_2)) .e h2)) fun x10_3 =>
 oB (oPick x6_0 x10_3 (.bool false)) fun x11_4 =>
 oB (gq x11_4 false (some x0)) fun x13_5 =>
 oB (gq x11_4 false (some x1)) fun x14_6 =>
 oB (gq x11_4 false (bLt x13_5 x14_6)) fun x15_7 =>
 oB (oPick x11_4 (.bool true) x15_7) fun x16_8 =>
 some (x16_8, h2)
theorem o_cmp_Less_int : FnOK Tryz.prog n_cmp_Less_int (a2 f_cmp_Less_int) := ok2 mixed Tryz.func236 (by kernel_rfl)
/- slices.partitionEqualOrdered[int] -/
noncomputable def f_slices_partitionEqualOrdered_int (n : Nat) (call : Caller)  (x0 x1 x2 x3 : AV) (h : AH) : Ans :=
 oB' (nx 16 h) fun h0 =>
 oB (oIx 1 x0 x3) fun x17_1 =>
 oB (oLd h0 x17_1) fun x18_2 =>
 oB (oIx 1 x0 x1) fun x21_3 =>
 oB (oLd h0 x21_3) fun x22_4 =>
 oB (oIx 1 x0 x1) fun x23_5 =>
 oP (oSt 1 h0 x23_5 x18_2) fun _ h6 =>
 oB (oIx 1 x0 x3) fun x24_7 =>
 oP (oSt 1 h6 x24_7 x22_4) fun _ h8 =>
 oB (bAdd x1 (I 1)) fun x26_9 =>
 oB (bSub x2 (I 1)) fun x28_10 =>
 jnF 1 (fun z9_11 h11 =>
 some (z9_11, h11)) fun j11 =>
 lpF 4 n (fun f12 y10_12 y9_12 y1_12 y0_12 h12 =>
 jnF 4 (fun z10_13 z9_13 z1_13 z0_13 h13 =>
 f12 z10_13 z9_13 z1_13 z0_13 h13) fun j13 =>
 jnF 4 (fun z10_14 z9_14 z1_14 z0_14 h14 =>
 jnF 4 (fun z10_15 z9_15 z1_15 z0_15 h15 =>
 oB (bGt z9_15 z10_15) fun x64_16 =>
 ci x64_16 (
 j11 z9_15 h15) (
 oB' (nx 16 h15) fun h17 =>
 oB (oIx 1 z0_15 z10_15) fun x71_18 =>
 oB (oLd h17 x71_18) fun x72_19 =>
 oB (oIx 1 z0_15 z9_15) fun x75_20 =>
 oB (oLd h17 x75_20) fun x76_21 =>
 oB (oIx 1 z0_15 z9_15) fun x77_22 =>
 oP (oSt 1 h17 x77_22 x72_19) fun _ h23 =>
 oB (oIx 1 z0_15 z10_15) fun x78_24 =>
 oP (oSt 1 h23 x78_24 x76_21) fun _ h25 =>
 oB (bAdd z9_15 (I 1)) fun x80_26 =>
 oB (bSub z10_15 (I 1)) fun x82_27 =>
 j13 x82_27 x80_26 z1_15 z0_15 h25)) fun j15 =>
 lpF 4 n (fun f28 y10_28 y9_28 y1_28 y0_28 h28 =>
 oB' (nx 14 h28) fun h29 =>
 oB (bLe y9_28 y10_28) fun x48_30 =>
 oB (gq x48_30 true (some y0_28)) fun x50_31 =>
 oB (gq x48_30 true (some y1_28)) fun x51_32 =>
 oB (gq x48_30 true (oIx 1 x50_31 x51_32)) fun x52_33 =>
 oB (gq x48_30 true (oLd h29 x52_33)) fun x53_34 =>
 oB (gq x48_30 true (some y0_28)) fun x54_35 =>
 oB (gq x48_30 true (some y10_28)) fun x55_36 =>
 oB (gq x48_30 true (oIx 1 x54_35 x55_36)) fun x56_37 =>
 oB (gq x48_30 true (oLd h29 x56_37)) fun x57_38 =>
 oP (gw x48_30 true (call n_cmp_Less_int [x53_34, x57_38] h29) h29) fun x58_39 h39 =>
 oB (oPick x48_30 x58_39 (.bool false)) fun x59_40 =>
 ci x59_40 (
 jnF 4 (fun z10_41 z9_41 z1_41 z0_41 h41 =>
 f28 z10_41 z9_41 z1_41 z0_41 h41) fun j41 =>
 oB (bSub y10_28 (I 1)) fun x61_42 =>
 j41 x61_42 y9_28 y1_28 y0_28 h39) (
 j15 y10_28 y9_28 y1_28 y0_28 h39)) z10_14 z9_14 z1_14 z0_14 h14) fun j14 =>
 lpF 4 n (fun f43 y10_43 y9_43 y1_43 y0_43 h43 =>
 oB' (nx 15 h43) fun h44 =>
 oB (bLe y9_43 y10_43) fun x31_45 =>
 oB (gq x31_45 true (some y0_43)) fun x33_46 =>
 oB (gq x31_45 true (some y1_43)) fun x34_47 =>
 oB (gq x31_45 true (oIx 1 x33_46 x34_47)) fun x35_48 =>
 oB (gq x31_45 true (oLd h44 x35_48)) fun x36_49 =>
 oB (gq x31_45 true (some y0_43)) fun x37_50 =>
 oB (gq x31_45 true (some y9_43)) fun x38_51 =>
 oB (gq x31_45 true (oIx 1 x37_50 x38_51)) fun x39_52 =>
 oB (gq x31_45 true (oLd h44 x39_52)) fun x40_53 =>
 oP (gw x31_45 true (call n_cmp_Less_int [x36_49, x40_53] h44) h44) fun x41_54 h54 =>
 oB (gq x31_45 true (evQ (.un .not (.c x41_54)) .e h54)) fun x42_55 =>
 oB (oPick x31_45 x42_55 (.bool false)) fun x43_56 =>
 ci x43_56 (
 jnF 4 (fun z10_57 z9_57 z1_57 z0_57 h57 =>
 f43 z10_57 z9_57 z1_57 z0_57 h57) fun j57 =>
 oB (bAdd y9_43 (I 1)) fun x45_58 =>
 j57 y10_43 x45_58 y1_43 y0_43 h54) (
 j14 y10_43 y9_43 y1_43 y0_43 h54)) y10_12 y9_12 y1_12 y0_12 h12) x28_10 x26_9 x1 x0 h8
theorem o_slices_partitionEqualOrdered_int : FnOK Tryz.prog n_slices_partitionEqualOrdered_int (a4 f_slices_partitionEqualOrdered_int) := ok4 mixed Tryz.func237 (by kernel_rfl)
/- slices.partitionOrdered[int] -/
noncomputable def f_slices_partitionOrdered_int (n : Nat) (call : Caller)  (x0 x1 x2 x3 : AV) (h : AH) : Ans :=
 oB' (nx 16 h) fun h0 =>
 oB (oIx 1 x0 x3) fun x18_1 =>
 oB (oLd h0 x18_1) fun x19_2 =>
 oB (oIx 1 x0 x1) fun x22_3 =>
 oB (oLd h0 x22_3) fun x23_4 =>
 oB (oIx 1 x0 x1) fun x24_5 =>
 oP (oSt 1 h0 x24_5 x19_2) fun _ h6 =>
 oB (oIx 1 x0 x3) fun x25_7 =>
 oP (oSt 1 h6 x25_7 x23_4) fun _ h8 =>
 oB (bAdd x1 (I 1)) fun x27_9 =>
 oB (bSub x2 (I 1)) fun x29_10 =>
 jnF 4 (fun z11_11 z10_11 z1_11 z0_11 h11 =>
 jnF 4 (fun z11_12 z10_12 z1_12 z0_12 h12 =>
 oB (bGt z10_12 z11_12) fun x65_13 =>
 ci x65_13 (
 oB' (nx 16 h12) fun h14 =>
 oB (oIx 1 z0_12 z1_12) fun x72_15 =>
 oB (oLd h14 x72_15) fun x73_16 =>
 oB (oIx 1 z0_12 z11_12) fun x76_17 =>
 oB (oLd h14 x76_17) fun x77_18 =>
 oB (oIx 1 z0_12 z11_12) fun x78_19 =>
 oP (oSt 1 h14 x78_19 x73_16) fun _ h20 =>
 oB (oIx 1 z0_12 z1_12) fun x79_21 =>
 oP (oSt 1 h20 x79_21 x77_18) fun _ h22 =>
 some (.tup [z11_12, (.bool true)], h22)) (
 oB' (nx 16 h12) fun h23 =>
 oB (oIx 1 z0_12 z11_12) fun x87_24 =>
 oB (oLd h23 x87_24) fun x88_25 =>
 oB (oIx 1 z0_12 z10_12) fun x91_26 =>
 oB (oLd h23 x91_26) fun x92_27 =>
 oB (oIx 1 z0_12 z10_12) fun x93_28 =>
 oP (oSt 1 h23 x93_28 x88_25) fun _ h29 =>
 oB (oIx 1 z0_12 z11_12) fun x94_30 =>
 oP (oSt 1 h29 x94_30 x92_27) fun _ h31 =>
 oB (bAdd z10_12 (I 1)) fun x96_32 =>
 oB (bSub z11_12 (I 1)) fun x98_33 =>
 jnF 3 (fun z11_34 z1_34 z0_34 h34 =>
 oB' (nx 16 h34) fun h35 =>
 oB (oIx 1 z0_34 z1_34) fun x159_36 =>
 oB (oLd h35 x159_36) fun x160_37 =>
 oB (oIx 1 z0_34 z11_34) fun x163_38 =>
 oB (oLd h35 x163_38) fun x164_39 =>
 oB (oIx 1 z0_34 z11_34) fun x165_40 =>
 oP (oSt 1 h35 x165_40 x160_37) fun _ h41 =>
 oB (oIx 1 z0_34 z1_34) fun x166_42 =>
 oP (oSt 1 h41 x166_42 x164_39) fun _ h43 =>
 some (.tup [z11_34, (.bool false)], h43)) fun j34 =>
 lpF 4 n (fun f44 y11_44 y10_44 y1_44 y0_44 h44 =>
 jnF 4 (fun z11_45 z10_45 z1_45 z0_45 h45 =>
 f44 z11_45 z10_45 z1_45 z0_45 h45) fun j45 =>
 jnF 4 (fun z11_46 z10_46 z1_46 z0_46 h46 =>
 jnF 4 (fun z11_47 z10_47 z1_47 z0_47 h47 =>
 oB (bGt z10_47 z11_47) fun x134_48 =>
 ci x134_48 (
 j34 z11_47 z1_47 z0_47 h47) (
 oB' (nx 16 h47) fun h49 =>
 oB (oIx 1 z0_47 z11_47) fun x141_50 =>
 oB (oLd h49 x141_50) fun x142_51 =>
 oB (oIx 1 z0_47 z10_47) fun x145_52 =>
 oB (oLd h49 x145_52) fun x146_53 =>
 oB (oIx 1 z0_47 z10_47) fun x147_54 =>
 oP (oSt 1 h49 x147_54 x142_51) fun _ h55 =>
 oB (oIx 1 z0_47 z11_47) fun x148_56 =>
 oP (oSt 1 h55 x148_56 x146_53) fun _ h57 =>
 oB (bAdd z10_47 (I 1)) fun x150_58 =>
 oB (bSub z11_47 (I 1)) fun x152_59 =>
 j45 x152_59 x150_58 z1_47 z0_47 h57)) fun j47 =>
 lpF 4 n (fun f60 y11_60 y10_60 y1_60 y0_60 h60 =>
 oB' (nx 15 h60) fun h61 =>
 oB (bLe y10_60 y11_60) fun x117_62 =>
 oB (gq x117_62 true (some y0_60)) fun x119_63 =>
 oB (gq x117_62 true (some y11_60)) fun x120_64 =>
 oB (gq x117_62 true (oIx 1 x119_63 x120_64)) fun x121_65 =>
 oB (gq x117_62 true (oLd h61 x121_65)) fun x122_66 =>
 oB (gq x117_62 true (some y0_60)) fun x123_67 =>
 oB (gq x117_62 true (some y1_60)) fun x124_68 =>
 oB (gq x117_62 true (oIx 1 x123_67 x124_68)) fun x125_69 =>
 oB (gq x117_62 true (oLd h61 x125_69)) fun x126_70 =>
 oP (gw x117_62 true (call n_cmp_Less_int [x122_66, x126_70] h61) h61) fun x127_71 h71 =>
 oB (gq x117_62 true (evQ (.un .not (.c x127_71)) .e h71)) fun x128_72 =>
 oB (oPick x117_62 x128_72 (.bool false)) fun x129_73 =>
 ci x129_73 (
 jnF 4 (fun z11_74 z10_74 z1_74 z0_74 h74 =>
 f60 z11_74 z10_74 z1_74 z0_74 h74) fun j74 =>
 oB (bSub y11_60 (I 1)) fun x131_75 =>
 j74 x131_75 y10_60 y1_60 y0_60 h71) (
 j47 y11_60 y10_60 y1_60 y0_60 h71)) z11_46 z10_46 z1_46 z0_46 h46) fun j46 =>
 lpF 4 n (fun f76 y11_76 y10_76 y1_76 y0_76 h76 =>
 oB' (nx 14 h76) fun h77 =>
 oB (bLe y10_76 y11_76) fun x101_78 =>
 oB (gq x101_78 true (some y0_76)) fun x103_79 =>
 oB (gq x101_78 true (some y10_76)) fun x104_80 =>
 oB (gq x101_78 true (oIx 1 x103_79 x104_80)) fun x105_81 =>
 oB (gq x101_78 true (oLd h77 x105_81)) fun x106_82 =>
 oB (gq x101_78 true (some y0_76)) fun x107_83 =>
 oB (gq x101_78 true (some y1_76)) fun x108_84 =>
 oB (gq x101_78 true (oIx 1 x107_83 x108_84)) fun x109_85 =>
 oB (gq x101_78 true (oLd h77 x109_85)) fun x110_86 =>
 oP (gw x101_78 true (call n_cmp_Less_int [x106_82, x110_86] h77) h77) fun x111_87 h87 =>
 oB (oPick x101_78 x111_87 (.bool false)) fun x112_88 =>
 ci x112_88 (
 jnF 4 (fun z11_89 z10_89 z1_89 z0_89 h89 =>
 f76 z11_89 z10_89 z1_89 z0_89 h89) fun j89 =>
 oB (bAdd y10_76 (I 1)) fun x114_90 =>
 j89 y11_76 x114_90 y1_76 y0_76 h87) (
 j46 y11_76 y10_76 y1_76 y0_76 h87)) y11_44 y10_44 y1_44 y0_44 h44) x98_33 x96_32 z1_12 z0_12 h31)) fun j12 =>
 lpF 4 n (fun f91 y11_91 y10_91 y1_91 y0_91 h91 =>
 oB' (nx 15 h91) fun h92 =>
 oB (bLe y10_91 y11_91) fun x48_93 =>
 oB (gq x48_93 true (some y0_91)) fun x50_94 =>
 oB (gq x48_93 true (some y11_91)) fun x51_95 =>
 oB (gq x48_93 true (oIx 1 x50_94 x51_95)) fun x52_96 =>
 oB (gq x48_93 true (oLd h92 x52_96)) fun x53_97 =>
 oB (gq x48_93 true (some y0_91)) fun x54_98 =>
 oB (gq x48_93 true (some y1_91)) fun x55_99 =>
 oB (gq x48_93 true (oIx 1 x54_98 x55_99)) fun x56_100 =>
 oB (gq x48_93 true (oLd h92 x56_100)) fun x57_101 =>
 oP (gw x48_93 true (call n_cmp_Less_int [x53_97, x57_101] h92) h92) fun x58_102 h102 =>
 oB (gq x48_93 true (evQ (.un .not (.c x58_102)) .e h102)) fun x59_103 =>
 oB (oPick x48_93 x59_103 (.bool false)) fun x60_104 =>
 ci x60_104 (
 jnF 4 (fun z11_105 z10_105 z1_105 z0_105 h105 =>
 f91 z11_105 z10_105 z1_105 z0_105 h105) fun j105 =>
 oB (bSub y11_91 (I 1)) fun x62_106 =>
 j105 x62_106 y10_91 y1_91 y0_91 h102) (
 j12 y11_91 y10_91 y1_91 y0_91 h102)) z11_11 z10_11 z1_11 z0_11 h11) fun j11 =>
 lpF 4 n (fun f107 y11_107 y10_107 y1_107 y0_107 h107 =>
 oB' (nx 14 h107) fun h108 =>
 oB (bLe y10_107 y11_107) fun x32_109 =>
 oB (gq x32_109 true (some y0_107)) fun x34_110 =>
 oB (gq x32_109 true (some y10_107)) fun x35_111 =>
 oB (gq x32_109 true (oIx 1 x34_110 x35_111)) fun x36_112 =>
 oB (gq x32_109 true (oLd h108 x36_112)) fun x37_113 =>
 oB (gq x32_109 true (some y0_107)) fun x38_114 =>
 oB (gq x32_109 true (some y1_107)) fun x39_115 =>
 oB (gq x32_109 true (oIx 1 x38_114 x39_115)) fun x40_116 =>
 oB (gq x32_109 true (oLd h108 x40_116)) fun x41_117 =>
 oP (gw x32_109 true (call n_cmp_Less_int [x37_113, x41_117] h108) h108) fun x42_118 h118 =>
 oB (oPick x32_109 x42_118 (.bool false)) fun x43_119 =>
 ci x43_119 (
 jnF 4 (fun z11_120 z10_120 z1_120 z0_120 h120 =>
 f107 z11_120 z10_120 z1_120 z0_120 h120) fun j120 =>
 oB (bAdd y10_107 (I 1)) fun x45_121 =>
 j120 y11_107 x45_121 y1_107 y0_107 h118) (
 j11 y11_107 y10_107 y1_107 y0_107 h118)) x29_10 x27_9 x1 x0 h8
theorem o_slices_partitionOrdered_int : FnOK Tryz.prog n_slices_partitionOrdered_int (a4 f_slices_partitionOrdered_int) := ok4 mixed Tryz.func238 (by kernel_rfl)
/- corrector/chars.letter -/
noncomputable def f_chars_letter (n : Nat) (call : Caller)  (x0 : AV) (h : AH) : Ans :=
 oB (bGe x0 (U 97)) fun x4_0 =>
 oB (gq x4_0 true (some x0)) fun x6_1 =>
 oB (gq x4_0 true (bLe x6_1 (U 122))) fun x7_2 =>
 oB (oPick x4_0 x7_2 (.bool false)) fun x8_3 =>
 oB (gq x8_3 false (some x0)) fun x10_4 =>
 oB (gq x8_3 false (bGe x10_4 (U 65))) fun x11_5 =>
 oB (gq x8_3 false (some x11_5)) fun x12_6 =>
 oB (gq x12_6 true (some x0)) fun x13_7 =>
 oB (gq x12_6 true (bLe x13_7 (U 90))) fun x14_8 =>
 oB (gq x8_3 false (oPick x12_6 x14_8 (.bool false))) fun x15_9 =>
 oB (oPick x8_3 (.bool true) x15_9) fun x16_10 =>
 oB (gq x16_10 false (some x0)) fun x18_11 =>
 oB (gq x16_10 false (bGe x18_11 (U 48))) fun x19_12 =>
 oB (gq x16_10 false (some x19_12)) fun x20_13 =>
 oB (gq x20_13 true (some x0)) fun x21_14 =>
 oB (gq x20_13 true (bLe x21_14 (U 57))) fun x22_15 =>
 oB (gq x16_10 false (oPick x20_13 x22_15 (.bool false))) fun x23_16 =>
 oB (oPick x16_10 (.bool true) x23_16) fun x24_17 =>
 some (x24_17, h)
theorem o_chars_letter : FnOK Tryz.prog n_chars_letter (a1 f_chars_letter) := ok1 mixed Tryz.func239 (by kernel_rfl)
/- (*corrector/arena.forest).end -/
noncomputable def f_arena_forest_end (n : Nat) (call : Caller)  (x0 x1 : AV) (h : AH) : Ans :=
 oB (oNil x0) fun x8_0 =>
 oB (oFA 0 x8_0) fun x9_1 =>
 oB (oFA 0 x9_1) fun x10_2 =>
 oB (oLd h x10_2) fun x11_3 =>
 oB (oIx 6 x11_3 x1) fun x13_4 =>
 oB (oLdN 6 h x13_4) fun x14_5 =>
 oP (oNew h 98 [(I 0), (I 0), (I 0), (I 0), .nils, (.bool false)]) fun x5_6 h6 =>
 oP (oSt 6 h6 x5_6 x14_5) fun _ h7 =>
 oB (oFA 4 x5_6) fun x15_8 =>
 oB (oLd h7 x15_8) fun x16_9 =>
 oB (oLen x16_9) fun x17_10 =>
 oB (bGt x17_10 (I 0)) fun x19_11 =>
 oB (gq x19_11 true (some x0)) fun x21_12 =>
 oB (gq x19_11 true (oFA 4 x5_6)) fun x22_13 =>
 oB (gq x19_11 true (oLd h7 x22_13)) fun x23_14 =>
 oB (gq x19_11 true (some x17_10)) fun x24_15 =>
 oB (gq x19_11 true (bSub x24_15 (I 1))) fun x25_16 =>
 oB (gq x19_11 true (oIx 1 x23_14 x25_16)) fun x26_17 =>
 oB (gq x19_11 true (oLd h7 x26_17)) fun x27_18 =>
 oP (gw x19_11 true (call n_arena_forest_has [x21_12, x27_18] h7) h7) fun x28_19 h19 =>
 oB (oPick x19_11 x28_19 (.bool false)) fun x29_20 =>
 ci x29_20 (
 oB' (nx 18 h19) fun h21 =>
 oB (oFA 1 x5_6) fun x30_22 =>
 oB (oLd h21 x30_22) fun x31_23 =>
 oB (oNil x0) fun x33_24 =>
 oB (oFA 0 x33_24) fun x34_25 =>
 oB (oFA 0 x34_25) fun x35_26 =>
 oB (oLd h21 x35_26) fun x36_27 =>
 oB (oFA 4 x5_6) fun x37_28 =>
 oB (oLd h21 x37_28) fun x38_29 =>
 oB (bSub x17_10 (I 1)) fun x40_30 =>
 oB (oIx 1 x38_29 x40_30) fun x41_31 =>
 oB (oLd h21 x41_31) fun x42_32 =>
 oB (oIx 6 x36_27 x42_32) fun x43_33 =>
 oB (oFA 2 x43_33) fun x44_34 =>
 oB (oLd h21 x44_34) fun x45_35 =>
 oB (evQ (.maxI (.c x31_23) [(.c x45_35)]) .e h21) fun x46_36 =>
 some (x46_36, h21)) (
 oB (oFA 1 x5_6) fun x47_37 =>
 oB (oLd h19 x47_37) fun x48_38 =>
 some (x48_38, h19))
theorem o_arena_forest_end : FnOK Tryz.prog n_arena_forest_end (a2 f_arena_forest_end) := ok2 mixed Tryz.func240 (by kernel_rfl)
/- (*corrector/flow.reader).value -/
noncomputable def f_flow_reader_value (n : Nat) (call : Caller)  (x0 x1 x2 x3 : AV) (h : AH) : Ans :=
 oP (call n_flow_reader_blanks [x0, x2] h) fun x16_0 h0 =>
 jnF 7 (fun z12_1 z11_1 z10_1 z3_1 z2_1 z1_1 z0_1 h1 =>
 oP (call n_flow_reader_kind [z0_1, z10_1] h1) fun x29_2 h2 =>
 jnF 1 (fun z2_3 h3 =>
 some (.tup [(Ineg 0), z2_3], h3)) fun j3 =>
 oB (bEq .no x29_2 (I 15)) fun x32_4 =>
 oB (gq x32_4 false (some x29_2)) fun x34_5 =>
 oB (gq x32_4 false (bEq .no x34_5 (I 16))) fun x35_6 =>
 oB (oPick x32_4 (.bool true) x35_6) fun x36_7 =>
 oB (gq x36_7 false (some x29_2)) fun x38_8 =>
 oB (gq x36_7 false (bEq .no x38_8 (I 17))) fun x39_9 =>
 oB (oPick x36_7 (.bool true) x39_9) fun x40_10 =>
 ci x40_10 (
 oB (bAdd z10_1 (I 1)) fun x45_11 =>
 oP (call n_flow_reader_add [z0_1, z1_1, (I 7), z11_1, x45_11] h2) fun x46_12 h12 =>
 oB (bAdd z10_1 (I 1)) fun x48_13 =>
 some (.tup [x46_12, x48_13], h12)) (
 oB (bEq .no x29_2 (I 13)) fun x51_14 =>
 ci x51_14 (
 oB (bAdd z10_1 (I 1)) fun x56_15 =>
 oP (call n_flow_reader_add [z0_1, z1_1, (I 8), z11_1, x56_15] h2) fun x57_16 h16 =>
 oB (bAdd z10_1 (I 1)) fun x59_17 =>
 some (.tup [x57_16, x59_17], h16)) (
 oB (bEq .no x29_2 (I 18)) fun x62_18 =>
 ci x62_18 (
 oP (call n_flow_reader_texts [z0_1, z10_1] h2) fun x65_19 h19 =>
 oP (call n_flow_reader_add [z0_1, z1_1, (I 7), z11_1, x65_19] h19) fun x70_20 h20 =>
 some (.tup [x70_20, x65_19], h20)) (
 oP (call n_flow_opens [x29_2] h2) fun x74_21 h21 =>
 oB (gq x74_21 true (some z3_1)) fun x76_22 =>
 oB (gq x74_21 true (bLe x76_22 (I 0))) fun x77_23 =>
 oB (oPick x74_21 x77_23 (.bool false)) fun x78_24 =>
 ci x78_24 (
 oP (call n_flow_reader_closed [z0_1, z10_1] h21) fun x81_25 h25 =>
 oP (call n_flow_reader_wrong [z0_1, (I 10), z1_1, z11_1, x81_25] h25) fun x86_26 h26 =>
 some (.tup [x86_26, x81_25], h26)) (
 oP (call n_flow_opens [x29_2] h21) fun x90_27 h27 =>
 ci x90_27 (
 oP (call n_flow_reader_collection [z0_1, z1_1, z11_1, z10_1, z3_1] h27) fun x96_28 h28 =>
 oB (oEx 0 x96_28) fun x97_29 =>
 oB (oEx 1 x96_28) fun x98_30 =>
 some (.tup [x97_29, x98_30], h28)) (
 oB (bGe z12_1 (I 0)) fun x101_31 =>
 ci x101_31 (
 oB (bAdd z12_1 (I 1)) fun x106_32 =>
 oP (call n_flow_reader_add [z0_1, z1_1, (I 7), z11_1, x106_32] h27) fun x107_33 h33 =>
 oB (bAdd z12_1 (I 1)) fun x109_34 =>
 some (.tup [x107_33, x109_34], h33)) (
 j3 z2_1 h27))))))) fun j1 =>
 lpF 7 n (fun f35 y12_35 y11_35 y10_35 y3_35 y2_35 y1_35 y0_35 h35 =>
 oP (call n_flow_reader_kind [y0_35, y10_35] h35) fun x20_36 h36 =>
 oP (call n_flow_property [x20_36] h36) fun x21_37 h37 =>
 ci x21_37 (
 jnF 7 (fun z12_38 z11_38 z10_38 z3_38 z2_38 z1_38 z0_38 h38 =>
 f35 z12_38 z11_38 z10_38 z3_38 z2_38 z1_38 z0_38 h38) fun j38 =>
 oB (bAdd y10_35 (I 1)) fun x25_39 =>
 oP (call n_flow_reader_blanks [y0_35, x25_39] h37) fun x26_40 h40 =>
 j38 y10_35 y11_35 x26_40 y3_35 y2_35 y1_35 y0_35 h40) (
 j1 y12_35 y11_35 y10_35 y3_35 y2_35 y1_35 y0_35 h37)) (Ineg 0) x16_0 x16_0 x3 x2 x1 x0 h0
theorem o_flow_reader_value : FnOK Tryz.prog n_flow_reader_value (a4 f_flow_reader_value) := ok4 mixed Tryz.func241 (by kernel_rfl)
/- (*corrector/parse.parser).key -/
noncomputable def f_parse_parser_key (n : Nat) (call : Caller)  (x0 x1 x2 : AV) (h : AH) : Ans :=
 oP (oNew h 201 (AV.cells x2)) fun x5_0 h0 =>
 oB (oFA 2 x5_0) fun x9_1 =>
 oB (oLd h0 x9_1) fun x10_2 =>
 oB (oFA 3 x5_0) fun x11_3 =>
 oB (oLd h0 x11_3) fun x12_4 =>
 oB (bSub x12_4 (I 1)) fun x13_5 =>
 oP (call n_parse_parser_over [x0, x10_2, x13_5] h0) fun x14_6 h6 =>
 oB (oFA 2 x5_0) fun x16_7 =>
 oB (oLd h6 x16_7) fun x17_8 =>
 oB (bEq .no x14_6 x17_8) fun x18_9 =>
 ci x18_9 (
 some (.tup [], h6)) (
 oB' (nx 9 h6) fun h10 =>
 oB (oNil x0) fun x20_11 =>
 oB (oFA 1 x20_11) fun x21_12 =>
 oB (oLd h10 x21_12) fun x22_13 =>
 oB (oFA 2 x5_0) fun x23_14 =>
 oB (oLd h10 x23_14) fun x24_15 =>
 oB (evQ (.sl 3 (.c x22_13) (some (.c x24_15)) (some (.c x14_6)) none) .e h10) fun x26_16 =>
 oP (call n_slices_ContainsFunc_api_Token_api_Token [x26_16, (.fn 271 [] [])] h10) fun x27_17 h17 =>
 jnF 5 (fun z7_18 z6_18 z5_18 z1_18 z0_18 h18 =>
 oB (oFA 2 z5_18) fun x31_19 =>
 oB (oLd h18 x31_19) fun x32_20 =>
 oP (call n_parse_parser_add [z0_18, z1_18, z7_18, x32_20, z6_18] h18) fun x34_21 h21 =>
 oB (oNil z0_18) fun x36_22 =>
 oB (oFA 4 x36_22) fun x37_23 =>
 oB (oFA 0 x37_23) fun x38_24 =>
 oB (oLd h21 x38_24) fun x39_25 =>
 oB (oIx 6 x39_25 z1_18) fun x41_26 =>
 oB (oFA 5 x41_26) fun x42_27 =>
 oP (oSt 1 h21 x42_27 (.bool true)) fun _ h28 =>
 some (.tup [], h28)) fun j18 =>
 ci x27_17 (
 j18 (I 8) x14_6 x5_0 x1 x0 h17) (
 j18 (I 7) x14_6 x5_0 x1 x0 h17))
theorem o_parse_parser_key : FnOK Tryz.prog n_parse_parser_key (a3 f_parse_parser_key) := ok3 mixed Tryz.func242 (by kernel_rfl)
/- slices.Backward[[]corrector/api.Token,corrector/api.Token]$1 -/
noncomputable def f_slices_Backward_api_Token_api_Token_1 (n : Nat) (call : Caller)  (x0 x1 : AV) (h : AH) : Ans :=
 oB (oLd h x1) fun x4_0 =>
 oB (oLen x4_0) fun x5_1 =>
 oB (bSub x5_1 (I 1)) fun x6_2 =>
 jnF 0 (fun h3 =>
 some (.tup [], h3)) fun j3 =>
 lpF 3 n (fun f4 y3_4 y1_4 y0_4 h4 =>
 oB (bGe y3_4 (I 0)) fun x8_5 =>
 ci x8_5 (
 jnF 3 (fun z3_6 z1_6 z0_6 h6 =>
 oB (bSub z3_6 (I 1)) fun x10_7 =>
 f4 x10_7 z1_6 z0_6 h6) fun j6 =>
 oB (oLd h4 y1_4) fun x13_8 =>
 oB (oIx 3 x13_8 y3_4) fun x15_9 =>
 oB (oLdN 3 h4 x15_9) fun x16_10 =>
 oP (wOf (.callV (.c y0_4) [(.c y3_4), (.c x16_10)]) call .e h4) fun x17_11 h11 =>
 oB (evQ (.un .not (.c x17_11)) .e h11) fun x18_12 =>
 ci x18_12 (
 some (.tup [], h11)) (
 j6 y3_4 y1_4 y0_4 h11)) (
 j3 h4)) x6_2 x1 x0 h
theorem o_slices_Backward_api_Token_api_Token_1 : FnOK Tryz.prog n_slices_Backward_api_Token_api_Token_1 (a2 f_slices_Backward_api_Token_api_Token_1) := ok2 mixed Tryz.func243 (by kernel_rfl)
/- corrector/block.own -/
noncomputable def f_block_own (n : Nat) (call : Caller)  (x0 : AV) (h : AH) : Ans :=
 oP (call n_strings_IndexAny [x0, (.str [13, 10])] h) fun x5_0 h0 =>
 oB (bGe x5_0 (I 0)) fun x7_1 =>
 ci x7_1 (
 oB (oSlS x0 none (some x5_0)) fun x10_2 =>
 some (x10_2, h0)) (
 some (x0, h0))
theorem o_block_own : FnOK Tryz.prog n_block_own (a1 f_block_own) := ok1 mixed Tryz.func244 (by kernel_rfl)
/- corrector/block.empty -/
noncomputable def f_block_empty (n : Nat) (call : Caller)  (x0 : AV) (h : AH) : Ans :=
 oP (evW (.rangeS (.c x0)) .e h) fun x6_0 h0 =>
 jnF 0 (fun h1 =>
 some ((.bool true), h1)) fun j1 =>
 lpF 1 n (fun f2 y6_2 h2 =>
 oP (evW (.nextS (.c y6_2)) .e h2) fun x7_3 h3 =>
 oB (oEx 0 x7_3) fun x8_4 =>
 ci x8_4 (
 jnF 1 (fun z6_5 h5 =>
 f2 z6_5 h5) fun j5 =>
 oB (oEx 2 x7_3) fun x9_6 =>
 oB (bNe .no x9_6 (R 32)) fun x11_7 =>
 oB (gq x11_7 true (some x9_6)) fun x13_8 =>
 oB (gq x11_7 true (bNe .no x13_8 (R 9))) fun x14_9 =>
 oB (oPick x11_7 x14_9 (.bool false)) fun x15_10 =>
 ci x15_10 (
 some ((.bool false), h3)) (
 j5 y6_2 h3)) (
 j1 h3)) x6_0 h0
theorem o_block_empty : FnOK Tryz.prog n_block_empty (a1 f_block_empty) := ok1 mixed Tryz.func245 (by kernel_rfl)
/- strings.Contains -/
noncomputable def f_strings_Contains (n : Nat) (call : Caller)  (x0 x1 : AV) (h : AH) : Ans :=
 oP (call n_strings_Index [x0, x1] h) fun x7_0 h0 =>
 oB (bGe x7_0 (I 0)) fun x8_1 =>
 some (x8_1, h0)
theorem o_strings_Contains : FnOK Tryz.prog n_strings_Contains (a2 f_strings_Contains) := ok2 mixed Tryz.func246 (by kernel_rfl)
/- corrector/block.spaces -/
noncomputable def f_block_spaces (n : Nat) (call : Caller)  (x0 x1 : AV) (h : AH) : Ans :=
 jnF 1 (fun z5_0 h0 =>
 some (z5_0, h0)) fun j0 =>
 lpF 3 n (fun f1 y5_1 y1_1 y0_1 h1 =>
 oB (oLenS y0_1) fun x8_2 =>
 oB (bLt y5_1 x8_2) fun x9_3 =>
 oB (gq x9_3 true (some y5_1)) fun x11_4 =>
 oB (gq x9_3 true (some y1_1)) fun x12_5 =>
 oB (gq x9_3 true (bLt x11_4 x12_5)) fun x13_6 =>
 oB (oPick x9_3 x13_6 (.bool false)) fun x14_7 =>
 oB (gq x14_7 true (some y0_1)) fun x16_8 =>
 oB (gq x14_7 true (some y5_1)) fun x17_9 =>
 oB (gq x14_7 true (oIxS x16_8 x17_9)) fun x18_10 =>
 oB (gq x14_7 true (bEq .no x18_10 (U 32))) fun x19_11 =>
 oB (oPick x14_7 x19_11 (.bool false)) fun x20_12 =>
 ci x20_12 (
 jnF 3 (fun z5_13 z1_13 z0_13 h13 =>
 f1 z5_13 z1_13 z0_13 h13) fun j13 =>
 oB (bAdd y5_1 (I 1)) fun x22_14 =>
 j13 x22_14 y1_1 y0_1 h1) (
 j0 y5_1 h1)) (I 0) x1 x0 h
theorem o_block_spaces : FnOK Tryz.prog n_block_spaces (a2 f_block_spaces) := ok2 mixed Tryz.func247 (by kernel_rfl)
/- slices.Clone[[]string,string] -/
noncomputable def f_slices_Clone_string_string (n : Nat) (call : Caller)  (x0 : AV) (h : AH) : Ans :=
 oB (bEq .sl x0 .nils) fun x4_0 =>
 ci x4_0 (
 some (.nils, h)) (
 oP (oBuildSl h 9 1 0 [] []) fun x5_1 h1 =>
 oP (evW (.append 9 1 16 [(.str [])] (.c x5_1) (.c x0)) .e h1) fun x7_2 h2 =>
 some (x7_2, h2))
theorem o_slices_Clone_string_string : FnOK Tryz.prog n_slices_Clone_string_string (a1 f_slices_Clone_string_string) := ok1 mixed Tryz.func248 (by kernel_rfl)
/- strings.Join -/
noncomputable def f_strings_Join (n : Nat) (call : Caller)  (x0 x1 : AV) (h : AH) : Ans :=
 oB (oLen x0) fun x12_0 =>
 jnF 2 (fun z1_1 z0_1 h1 =>
 oB (oLenS z1_1) fun x21_2 =>
 oB (bGt x21_2 (I 0)) fun x22_3 =>
 jnF 3 (fun z5_4 z1_4 z0_4 h4 =>
 oB (oLen z0_4) fun x40_5 =>
 jnF 3 (fun z5_6 z1_6 z0_6 h6 =>
 oP (oNew h6 241 [.nilp, .nils]) fun x8_7 h7 =>
 oP (call n_strings_Builder_Grow [x8_7, z5_6] h7) fun x57_8 h8 =>
 oB (oIx 1 z0_6 (I 0)) fun x59_9 =>
 oB (oLd h8 x59_9) fun x60_10 =>
 oP (call n_strings_Builder_WriteString [x8_7, x60_10] h8) fun x61_11 h11 =>
 oB (evQ (.sl 1 (.c z0_6) (some (.c (I 1))) none none) .e h11) fun x63_12 =>
 oB (oLen x63_12) fun x64_13 =>
 jnF 1 (fun z8_14 h14 =>
 oP (call n_strings_Builder_String [z8_14] h14) fun x74_15 h15 =>
 some (x74_15, h15)) fun j14 =>
 lpF 5 n (fun f16 y65_16 y64_16 y63_16 y8_16 y1_16 h16 =>
 oB (bLt y65_16 y64_16) fun x66_17 =>
 ci x66_17 (
 jnF 5 (fun z65_18 z64_18 z63_18 z8_18 z1_18 h18 =>
 oB (bAdd z65_18 (I 1)) fun x73_19 =>
 f16 x73_19 z64_18 z63_18 z8_18 z1_18 h18) fun j18 =>
 oB (oIx 1 y63_16 y65_16) fun x67_20 =>
 oB (oLd h16 x67_20) fun x68_21 =>
 oP (call n_strings_Builder_WriteString [y8_16, y1_16] h16) fun x70_22 h22 =>
 oP (call n_strings_Builder_WriteString [y8_16, x68_21] h22) fun x72_23 h23 =>
 j18 y65_16 y64_16 y63_16 y8_16 y1_16 h23) (
 j14 y8_16 h16)) (I 0) x64_13 x63_12 x8_7 z1_6 h11) fun j6 =>
 lpF 6 n (fun f24 y41_24 y40_24 y39_24 y5_24 y1_24 y0_24 h24 =>
 oB (bLt y41_24 y40_24) fun x42_25 =>
 ci x42_25 (
 jnF 6 (fun z41_26 z40_26 z39_26 z5_26 z1_26 z0_26 h26 =>
 oB (bAdd z41_26 (I 1)) fun x55_27 =>
 f24 x55_27 z40_26 z39_26 z5_26 z1_26 z0_26 h26) fun j26 =>
 oB (oIx 1 y39_24 y41_24) fun x43_28 =>
 oB (oLd h24 x43_28) fun x44_29 =>
 oB (oLenS x44_29) fun x46_30 =>
 oB (bSub (I 9223372036854775807) y5_24) fun x48_31 =>
 oB (bGt x46_30 x48_31) fun x49_32 =>
 jnF 7 (fun z41_33 z40_33 z39_33 z7_33 z5_33 z1_33 z0_33 h33 =>
 oB (oLenS z7_33) fun x53_34 =>
 oB (bAdd z5_33 x53_34) fun x54_35 =>
 j26 z41_33 z40_33 z39_33 x54_35 z1_33 z0_33 h33) fun j33 =>
 ci x49_32 (
 oB (some (.iface 9 (.str [115, 116, 114, 105, 110, 103, 115, 58, 32, 74, 111, 105, 110, 32, 111, 117, 116, 112, 117, 116, 32, 108, 101, 110, 103, 116, 104, 32, 111, 118, 101, 114, 102, 108, 111, 119]))) fun x50_36 =>
 oB (evQ (.bad) .e h24) fun _ =>
 j33 y41_24 y40_24 y39_24 x44_29 y5_24 y1_24 y0_24 h24) (
 j33 y41_24 y40_24 y39_24 x44_29 y5_24 y1_24 y0_24 h24)) (
 j6 y5_24 y1_24 y0_24 h24)) (I 0) x40_5 z0_4 z5_4 z1_4 z0_4 h4) fun j4 =>
 ci x22_3 (
 oB (oLenS z1_1) fun x24_38 =>
 oB (oLen z0_1) fun x26_39 =>
 oB (bSub x26_39 (I 1)) fun x27_40 =>
 oB (binAV .quo .no (I 9223372036854775807) x27_40) fun x28_41 =>
 oB (bGe x24_38 x28_41) fun x29_42 =>
 jnF 3 (fun z5_43 z1_43 z0_43 h43 =>
 oB (oLenS z1_43) fun x33_44 =>
 oB (oLen z0_43) fun x35_45 =>
 oB (bSub x35_45 (I 1)) fun x36_46 =>
 oB (binAV .mul .no x33_44 x36_46) fun x37_47 =>
 oB (bAdd z5_43 x37_47) fun x38_48 =>
 j4 x38_48 z1_43 z0_43 h43) fun j43 =>
 ci x29_42 (
 oB (some (.iface 9 (.str [115, 116, 114, 105, 110, 103, 115, 58, 32, 74, 111, 105, 110, 32, 111, 117, 116, 112, 117, 116, 32, 108, 101, 110, 103, 116, 104, 32, 111, 118, 101, 114, 102, 108, 111, 119]))) fun x30_49 =>
 oB (evQ (.bad) .e h1) fun _ =>
 j43 (I 0) z1_1 z0_1 h1) (
 j43 (I 0) z1_1 z0_1 h1)) (
 j4 (I 0) z1_1 z0_1 h1)) fun j1 =>
 oB (bEq .no x12_0 (I 0)) fun x14_51 =>
 ci x14_51 (
 some ((.str []), h)) (
 oB (bEq .no x12_0 (I 1)) fun x16_52 =>
 ci x16_52 (
 oB (oIx 1 x0 (I 0)) fun x18_53 =>
 oB (oLd h x18_53) fun x19_54 =>
 some (x19_54, h)) (
 j1 x1 x0 h))
theorem o_strings_Join : FnOK Tryz.prog n_strings_Join (a2 f_strings_Join) := ok2 mixed Tryz.func249 (by kernel_rfl)
/- corrector/block.folded -/
noncomputable def f_block_folded (n : Nat) (call : Caller)  (x0 : AV) (h : AH) : Ans :=
 oP (oNew h 241 [.nilp, .nils]) fun x3_0 h0 =>
 oB (oLen x0) fun x9_1 =>
 jnF 1 (fun z3_2 h2 =>
 oP (call n_strings_Builder_String [z3_2] h2) fun x32_3 h3 =>
 some (x32_3, h3)) fun j2 =>
 lpF 6 n (fun f4 y10_4 y9_4 y8_4 y5_4 y4_4 y3_4 h4 =>
 oB (bLt y10_4 y9_4) fun x11_5 =>
 ci x11_5 (
 jnF 6 (fun z10_6 z9_6 z8_6 z5_6 z4_6 z3_6 h6 =>
 oB (bAdd z10_6 (I 1)) fun x31_7 =>
 f4 x31_7 z9_6 z8_6 z5_6 z4_6 z3_6 h6) fun j6 =>
 oB (oIx 1 y8_4 y10_4) fun x12_8 =>
 oB (oLd h4 x12_8) fun x13_9 =>
 oP (call n_block_empty [x13_9] h4) fun x15_10 h10 =>
 ci x15_10 (
 oB (bAdd y5_4 (I 1)) fun x17_11 =>
 j6 y10_4 y9_4 y8_4 x17_11 y4_4 y3_4 h10) (
 oB (bEq .no y4_4 (.str [])) fun x19_12 =>
 jnF 5 (fun z10_13 z9_13 z8_13 z7_13 z3_13 h13 =>
 oP (call n_strings_Builder_WriteString [z3_13, z7_13] h13) fun x29_14 h14 =>
 j6 z10_13 z9_13 z8_13 (I 0) z7_13 z3_13 h14) fun j13 =>
 ci x19_12 (
 oP (call n_strings_Repeat [(.str [10]), y5_4] h10) fun x21_15 h15 =>
 oP (call n_strings_Builder_WriteString [y3_4, x21_15] h15) fun x22_16 h16 =>
 j13 y10_4 y9_4 y8_4 x13_9 y3_4 h16) (
 oP (call n_block_between [y4_4, x13_9, y5_4] h10) fun x26_17 h17 =>
 oP (call n_strings_Builder_WriteString [y3_4, x26_17] h17) fun x27_18 h18 =>
 j13 y10_4 y9_4 y8_4 x13_9 y3_4 h18))) (
 j2 y3_4 h4)) (I 0) x9_1 x0 (I 0) (.str []) x3_0 h0
theorem o_block_folded : FnOK Tryz.prog n_block_folded (a1 f_block_folded) := ok1 mixed Tryz.func250 (by kernel_rfl)
/- corrector/resolve.Int -/
noncomputable def f_resolve_Int (n : Nat) (call : Caller)  (x0 : AV) (h : AH) : Ans :=
 oP (call n_resolve_sign [x0] h) fun x11_0 h0 =>
 oB (oEx 0 x11_0) fun x12_1 =>
 oB (oEx 1 x11_0) fun x13_2 =>
 jnF 3 (fun z6_3 z5_3 z4_3 h3 =>
 oP (call n_resolve_number [z4_3, z6_3] h3) fun x27_4 h4 =>
 oB (oEx 0 x27_4) fun x28_5 =>
 oB (oEx 1 x27_4) fun x29_6 =>
 oB (evQ (.un .not (.c x29_6)) .e h4) fun x31_7 =>
 oB (gq x31_7 false (some x28_5)) fun x33_8 =>
 oB (gq x31_7 false (bEq .no x33_8 (.int .u64 9223372036854775808))) fun x34_9 =>
 oB (gq x31_7 false (some x34_9)) fun x35_10 =>
 oB (gq x35_10 true (some z5_3)) fun x36_11 =>
 oB (gq x35_10 true (evQ (.un .not (.c x36_11)) .e h4)) fun x37_12 =>
 oB (gq x31_7 false (oPick x35_10 x37_12 (.bool false))) fun x38_13 =>
 oB (oPick x31_7 (.bool true) x38_13) fun x39_14 =>
 ci x39_14 (
 some (.tup [(I 0), (.bool false)], h4)) (
 ci z5_3 (
 oB (evQ (.un .neg (.c x28_5)) .e h4) fun x42_15 =>
 oB (oInt .i64 x42_15) fun x43_16 =>
 some (.tup [x43_16, (.bool true)], h4)) (
 oB (oInt .i64 x28_5) fun x45_17 =>
 some (.tup [x45_17, (.bool true)], h4)))) fun j3 =>
 oP (call n_strings_HasPrefix [x0, (.str [48, 111])] h0) fun x16_18 h18 =>
 jnF 3 (fun z6_19 z5_19 z4_19 h19 =>
 j3 z6_19 z5_19 z4_19 h19) fun j19 =>
 ci x16_18 (
 oB (oSlS x0 (some (I 2)) none) fun x18_20 =>
 j19 (I 8) x13_2 x18_20 h18) (
 oP (call n_strings_HasPrefix [x0, (.str [48, 120])] h18) fun x21_21 h21 =>
 jnF 3 (fun z6_22 z5_22 z4_22 h22 =>
 j19 z6_22 z5_22 z4_22 h22) fun j22 =>
 ci x21_21 (
 oB (oSlS x0 (some (I 2)) none) fun x23_23 =>
 j22 (I 16) x13_2 x23_23 h21) (
 j22 (I 10) x13_2 x12_1 h21))
theorem o_resolve_Int : FnOK Tryz.prog n_resolve_Int (a1 f_resolve_Int) := ok1 mixed Tryz.func251 (by kernel_rfl)
/- corrector/resolve.float -/
noncomputable def f_resolve_float (n : Nat) (call : Caller)  (x0 : AV) (h : AH) : Ans :=
 scF n fun m0 => jnF 2 (lpF 2 m0 fun f0 y3_0 y0_0 h0 =>
 oB (bGt y3_0 (I 0)) fun x67_1 =>
 oB (gq x67_1 true (some y0_0)) fun x69_2 =>
 oB (gq x67_1 true (bEq .no x69_2 (.str []))) fun x70_3 =>
 oB (oPick x67_1 x70_3 (.bool false)) fun x71_4 =>
 some (x71_4, h0)) fun f0 =>
 jnF 1 (fun z0_5 h5 =>
 oP (call n_resolve_sign [z0_5] h5) fun x14_6 h6 =>
 oB (oEx 0 x14_6) fun x15_7 =>
 oB (oEx 1 x14_6) fun x16_8 =>
 jnF 1 (fun z0_9 h9 =>
 oP (call n_resolve_digits [z0_9] h9) fun x23_10 h10 =>
 oB (oSlS z0_9 (some x23_10) none) fun x26_11 =>
 oP (call n_strings_CutPrefix [x26_11, (.str [46])] h10) fun x29_12 h12 =>
 oB (oEx 0 x29_12) fun x30_13 =>
 oB (oEx 1 x29_12) fun x31_14 =>
 jnF 2 (fun z3_15 z0_15 h15 =>
 oB (bEq .no z3_15 (I 0)) fun x42_16 =>
 oB (gq x42_16 false (some z0_15)) fun x44_17 =>
 oB (gq x42_16 false (bEq .no x44_17 (.str []))) fun x45_18 =>
 oB (oPick x42_16 (.bool true) x45_18) fun x46_19 =>
 ci x46_19 (
 f0 z3_15 z0_15 h15) (
 oB (oIxS z0_15 (I 0)) fun x48_20 =>
 oB (bNe .no x48_20 (U 101)) fun x49_21 =>
 oB (gq x49_21 true (some z0_15)) fun x51_22 =>
 oB (gq x49_21 true (oIxS x51_22 (I 0))) fun x52_23 =>
 oB (gq x49_21 true (bNe .no x52_23 (U 69))) fun x53_24 =>
 oB (oPick x49_21 x53_24 (.bool false)) fun x54_25 =>
 ci x54_25 (
 some ((.bool false), h15)) (
 oB (oSlS z0_15 (some (I 1)) none) fun x57_26 =>
 oP (call n_resolve_sign [x57_26] h15) fun x58_27 h27 =>
 oB (oEx 0 x58_27) fun x59_28 =>
 oB (oEx 1 x58_27) fun x60_29 =>
 oP (call n_resolve_digits [x59_28] h27) fun x62_30 h30 =>
 oB (oSlS x59_28 (some x62_30) none) fun x65_31 =>
 oB (bGt x62_30 (I 0)) fun x67_32 =>
 oB (gq x67_32 true (some x65_31)) fun x69_33 =>
 oB (gq x67_32 true (bEq .no x69_33 (.str []))) fun x70_34 =>
 oB (oPick x67_32 x70_34 (.bool false)) fun x71_35 =>
 some (x71_35, h30)))) fun j15 =>
 ci x31_14 (
 oP (call n_resolve_digits [x30_13] h12) fun x34_36 h36 =>
 oB (bAdd x23_10 x34_36) fun x37_37 =>
 oB (oSlS x30_13 (some x34_36) none) fun x40_38 =>
 j15 x37_37 x40_38 h36) (
 j15 x23_10 x26_11 h12)) fun j9 =>
 oB (bEq .no x15_7 (.str [46, 105, 110, 102])) fun x19_39 =>
 jnF 2 (fun z18_40 z0_40 h40 =>
 ci z18_40 (
 some ((.bool true), h40)) (
 j9 z0_40 h40)) fun j40 =>
 ci x19_39 (
 j40 x19_39 x15_7 h6) (
 oB (bEq .no x15_7 (.str [46, 73, 110, 102])) fun x20_41 =>
 jnF 2 (fun z18_42 z0_42 h42 =>
 j40 z18_42 z0_42 h42) fun j42 =>
 ci x20_41 (
 j42 x20_41 x15_7 h6) (
 oB (bEq .no x15_7 (.str [46, 73, 78, 70])) fun x21_43 =>
 j42 x21_43 x15_7 h6))) fun j5 =>
 oB (bEq .no x0 (.str [46, 110, 97, 110])) fun x9_44 =>
 jnF 2 (fun z8_45 z0_45 h45 =>
 ci z8_45 (
 some ((.bool true), h45)) (
 j5 z0_45 h45)) fun j45 =>
 ci x9_44 (
 j45 x9_44 x0 h) (
 oB (bEq .no x0 (.str [46, 78, 97, 78])) fun x10_46 =>
 jnF 2 (fun z8_47 z0_47 h47 =>
 j45 z8_47 z0_47 h47) fun j47 =>
 ci x10_46 (
 j47 x10_46 x0 h) (
 oB (bEq .no x0 (.str [46, 78, 65, 78])) fun x11_48 =>
 j47 x11_48 x0 h))
theorem o_resolve_float : FnOK Tryz.prog n_resolve_float (a1 f_resolve_float) := ok1 mixed Tryz.func252 (by kernel_rfl)
/- slices.order2CmpFunc[corrector/api.Diag] -/
noncomputable def f_slices_order2CmpFunc_api_Diag (n : Nat) (call : Caller)  (x0 x1 x2 x3 x4 : AV) (h : AH) : Ans :=
 oB' (nx 11 h) fun h0 =>
 oB (oIx 3 x0 x2) fun x15_1 =>
 oB (oLdN 3 h0 x15_1) fun x16_2 =>
 oB (oIx 3 x0 x1) fun x19_3 =>
 oB (oLdN 3 h0 x19_3) fun x20_4 =>
 oP (wOf (.callV (.c x4) [(.c x16_2), (.c x20_4)]) call .e h0) fun x21_5 h5 =>
 oB (bLt x21_5 (I 0)) fun x22_6 =>
 ci x22_6 (
 oB (oNil x3) fun x24_7 =>
 oB (oLd h5 x24_7) fun x25_8 =>
 oB (bAdd x25_8 (I 1)) fun x26_9 =>
 oB (oNil x3) fun x27_10 =>
 oP (oSt 1 h5 x27_10 x26_9) fun _ h11 =>
 some (.tup [x2, x1], h11)) (
 some (.tup [x1, x2], h5))
theorem o_slices_order2CmpFunc_api_Diag : FnOK Tryz.prog n_slices_order2CmpFunc_api_Diag (a5 f_slices_order2CmpFunc_api_Diag) := ok5 mixed Tryz.func253 (by kernel_rfl)
/- slices.swapRangeCmpFunc[corrector/api.Edit] -/
noncomputable def f_slices_swapRangeCmpFunc_api_Edit (n : Nat) (call : Caller)  (x0 x1 x2 x3 x4 : AV) (h : AH) : Ans :=
 jnF 0 (fun h0 =>
 some (.tup [], h0)) fun j0 =>
 lpF 5 n (fun f1 y10_1 y3_1 y2_1 y1_1 y0_1 h1 =>
 oB (bLt y10_1 y3_1) fun x13_2 =>
 ci x13_2 (
 jnF 5 (fun z10_3 z3_3 z2_3 z1_3 z0_3 h3 =>
 oB (bAdd z10_3 (I 1)) fun x15_4 =>
 f1 x15_4 z3_3 z2_3 z1_3 z0_3 h3) fun j3 =>
 oB' (nx 24 h1) fun h5 =>
 oB (bAdd y1_1 y10_1) fun x19_6 =>
 oB (bAdd y2_1 y10_1) fun x23_7 =>
 oB (bAdd y2_1 y10_1) fun x27_8 =>
 oB (oIx 3 y0_1 x27_8) fun x28_9 =>
 oB (oLdN 3 h5 x28_9) fun x29_10 =>
 oB (bAdd y1_1 y10_1) fun x33_11 =>
 oB (oIx 3 y0_1 x33_11) fun x34_12 =>
 oB (oLdN 3 h5 x34_12) fun x35_13 =>
 oB (oIx 3 y0_1 x19_6) fun x36_14 =>
 oP (oSt 3 h5 x36_14 x29_10) fun _ h15 =>
 oB (oIx 3 y0_1 x23_7) fun x37_16 =>
 oP (oSt 3 h15 x37_16 x35_13) fun _ h17 =>
 j3 y10_1 y3_1 y2_1 y1_1 y0_1 h17) (
 j0 h1)) (I 0) x3 x2 x1 x0 h
theorem o_slices_swapRangeCmpFunc_api_Edit : FnOK Tryz.prog n_slices_swapRangeCmpFunc_api_Edit (a5 f_slices_swapRangeCmpFunc_api_Edit) := ok5 mixed Tryz.func254 (by kernel_rfl)
/- internal/strconv.Itoa -/
noncomputable def f_internal_strconv_Itoa (n : Nat) (call : Caller)  (x0 : AV) (h : AH) : Ans :=
 oP (call n_internal_strconv_FormatInt [x0, (I 10)] h) fun x4_0 h0 =>
 some (x4_0, h0)
theorem o_internal_strconv_Itoa : FnOK Tryz.prog n_internal_strconv_Itoa (a1 f_internal_strconv_Itoa) := ok1 mixed Tryz.func257 (by kernel_rfl)
/- strconv.quoteWith -/
noncomputable def f_strconv_quoteWith (n : Nat) (call : Caller)  (x0 x1 x2 x3 : AV) (h : AH) : Ans :=
 oB (oLenS x0) fun x10_0 =>
 oB (binAV .mul .no (I 3) x10_0) fun x11_1 =>
 oB (binAV .quo .no x11_1 (I 2)) fun x12_2 =>
 oP (evW (.mkSlice 5 1 1 [(U 0)] (.c (I 0)) (.c x12_2)) .e h) fun x13_3 h3 =>
 oP (call n_strconv_appendQuotedWith [x13_3, x0, x1, x2, x3] h3) fun x18_4 h4 =>
 oB (evQ (.b2s (.c x18_4)) .e h4) fun x19_5 =>
 some (x19_5, h4)
theorem o_strconv_quoteWith : FnOK Tryz.prog n_strconv_quoteWith (a4 f_strconv_quoteWith) := ok4 mixed Tryz.func258 (by kernel_rfl)
/- slices.siftDownOrdered[int] -/
noncomputable def f_slices_siftDownOrdered_int (n : Nat) (call : Caller)  (x0 x1 x2 x3 : AV) (h : AH) : Ans :=
 jnF 0 (fun h0 =>
 some (.tup [], h0)) fun j0 =>
 lpF 4 n (fun f1 y8_1 y3_1 y2_1 y0_1 h1 =>
 jnF 4 (fun z8_2 z3_2 z2_2 z0_2 h2 =>
 f1 z8_2 z3_2 z2_2 z0_2 h2) fun j2 =>
 oB (binAV .mul .no (I 2) y8_1) fun x12_3 =>
 oB (bAdd x12_3 (I 1)) fun x13_4 =>
 oB (bGe x13_4 y2_1) fun x16_5 =>
 ci x16_5 (
 j0 h1) (
 oB' (nx 20 h1) fun h6 =>
 oB (bAdd x13_4 (I 1)) fun x18_7 =>
 oB (bLt x18_7 y2_1) fun x20_8 =>
 oB (gq x20_8 true (some y0_1)) fun x22_9 =>
 oB (gq x20_8 true (some y3_1)) fun x23_10 =>
 oB (gq x20_8 true (some x13_4)) fun x24_11 =>
 oB (gq x20_8 true (bAdd x23_10 x24_11)) fun x25_12 =>
 oB (gq x20_8 true (oIx 1 x22_9 x25_12)) fun x26_13 =>
 oB (gq x20_8 true (oLd h6 x26_13)) fun x27_14 =>
 oB (gq x20_8 true (some y0_1)) fun x28_15 =>
 oB (gq x20_8 true (some y3_1)) fun x29_16 =>
 oB (gq x20_8 true (some x13_4)) fun x30_17 =>
 oB (gq x20_8 true (bAdd x29_16 x30_17)) fun x31_18 =>
 oB (gq x20_8 true (bAdd x31_18 (I 1))) fun x32_19 =>
 oB (gq x20_8 true (oIx 1 x28_15 x32_19)) fun x33_20 =>
 oB (gq x20_8 true (oLd h6 x33_20)) fun x34_21 =>
 oP (gw x20_8 true (call n_cmp_Less_int [x27_14, x34_21] h6) h6) fun x35_22 h22 =>
 oB (oPick x20_8 x35_22 (.bool false)) fun x36_23 =>
 jnF 5 (fun z9_24 z8_24 z3_24 z2_24 z0_24 h24 =>
 oB' (nx 14 h24) fun h25 =>
 oB (bAdd z3_24 z8_24) fun x42_26 =>
 oB (oIx 1 z0_24 x42_26) fun x43_27 =>
 oB (oLd h25 x43_27) fun x44_28 =>
 oB (bAdd z3_24 z9_24) fun x48_29 =>
 oB (oIx 1 z0_24 x48_29) fun x49_30 =>
 oB (oLd h25 x49_30) fun x50_31 =>
 oP (call n_cmp_Less_int [x44_28, x50_31] h25) fun x51_32 h32 =>
 oB (evQ (.un .not (.c x51_32)) .e h32) fun x52_33 =>
 ci x52_33 (
 some (.tup [], h32)) (
 oB' (nx 24 h32) fun h34 =>
 oB (bAdd z3_24 z8_24) fun x56_35 =>
 oB (bAdd z3_24 z9_24) fun x60_36 =>
 oB (bAdd z3_24 z9_24) fun x64_37 =>
 oB (oIx 1 z0_24 x64_37) fun x65_38 =>
 oB (oLd h34 x65_38) fun x66_39 =>
 oB (bAdd z3_24 z8_24) fun x70_40 =>
 oB (oIx 1 z0_24 x70_40) fun x71_41 =>
 oB (oLd h34 x71_41) fun x72_42 =>
 oB (oIx 1 z0_24 x56_35) fun x73_43 =>
 oP (oSt 1 h34 x73_43 x66_39) fun _ h44 =>
 oB (oIx 1 z0_24 x60_36) fun x74_45 =>
 oP (oSt 1 h44 x74_45 x72_42) fun _ h46 =>
 j2 z9_24 z3_24 z2_24 z0_24 h46)) fun j24 =>
 ci x36_23 (
 oB (bAdd x13_4 (I 1)) fun x38_47 =>
 j24 x38_47 y8_1 y3_1 y2_1 y0_1 h22) (
 j24 x13_4 y8_1 y3_1 y2_1 y0_1 h22))) x1 x3 x2 x0 h
theorem o_slices_siftDownOrdered_int : FnOK Tryz.prog n_slices_siftDownOrdered_int (a4 f_slices_siftDownOrdered_int) := ok4 mixed Tryz.func259 (by kernel_rfl)
/- slices.medianAdjacentOrdered[int] -/
noncomputable def f_slices_medianAdjacentOrdered_int (n : Nat) (call : Caller)  (x0 x1 x2 : AV) (h : AH) : Ans :=
 oB (bSub x1 (I 1)) fun x9_0 =>
 oB (bAdd x1 (I 1)) fun x12_1 =>
 oP (call n_slices_medianOrdered_int [x0, x9_0, x1, x12_1, x2] h) fun x14_2 h2 =>
 some (x14_2, h2)
theorem o_slices_medianAdjacentOrdered_int : FnOK Tryz.prog n_slices_medianAdjacentOrdered_int (a3 f_slices_medianAdjacentOrdered_int) := ok3 mixed Tryz.func260 (by kernel_rfl)
/- slices.medianOrdered[int] -/
noncomputable def f_slices_medianOrdered_int (n : Nat) (call : Caller)  (x0 x1 x2 x3 x4 : AV) (h : AH) : Ans :=
 oP (call n_slices_order2Ordered_int [x0, x1, x2, x4] h) fun x16_0 h0 =>
 oB (oEx 0 x16_0) fun x17_1 =>
 oB (oEx 1 x16_0) fun x18_2 =>
 oP (call n_slices_order2Ordered_int [x0, x18_2, x3, x4] h0) fun x24_3 h3 =>
 oB (oEx 0 x24_3) fun x25_4 =>
 oB (oEx 1 x24_3) fun x26_5 =>
 oP (call n_slices_order2Ordered_int [x0, x17_1, x25_4, x4] h3) fun x32_6 h6 =>
 oB (oEx 0 x32_6) fun x33_7 =>
 oB (oEx 1 x32_6) fun x34_8 =>
 some (x34_8, h6)
theorem o_slices_medianOrdered_int : FnOK Tryz.prog n_slices_medianOrdered_int (a5 f_slices_medianOrdered_int) := ok5 mixed Tryz.func261 (by kernel_rfl)
/- (*corrector/flow.reader).blanks -/
noncomputable def f_flow_reader_blanks (n : Nat) (call : Caller)  (x0 x1 : AV) (h : AH) : Ans :=
 jnF 1 (fun z1_0 h0 =>
 some (z1_0, h0)) fun j0 =>
 lpF 2 n (fun f1 y1_1 y0_1 h1 =>
 oP (call n_flow_reader_kind [y0_1, y1_1] h1) fun x7_2 h2 =>
 oB (bEq .no x7_2 (I 3)) fun x8_3 =>
 ci x8_3 (
 jnF 2 (fun z1_4 z0_4 h4 =>
 f1 z1_4 z0_4 h4) fun j4 =>
 oB (bAdd y1_1 (I 1)) fun x10_5 =>
 j4 x10_5 y0_1 h2) (
 j0 y1_1 h2)) x1 x0 h
theorem o_flow_reader_blanks : FnOK Tryz.prog n_flow_reader_blanks (a2 f_flow_reader_blanks) := ok2 mixed Tryz.func262 (by kernel_rfl)
/- corrector/flow.property -/
noncomputable def f_flow_property (n : Nat) (call : Caller)  (x0 : AV) (h : AH) : Ans :=
 oB (bEq .no x0 (I 12)) fun x4_0 =>
 oB (gq x4_0 false (some x0)) fun x6_1 =>
 oB (gq x4_0 false (bEq .no x6_1 (I 14))) fun x7_2 =>
 oB (oPick x4_0 (.bool true) x7_2) fun x8_3 =>
 some (x8_3, h)
theorem o_flow_property : FnOK Tryz.prog n_flow_property (a1 f_flow_property) := ok1 mixed Tryz.func263 (by kernel_rfl)
/- (*corrector/flow.reader).kind -/
noncomputable def f_flow_reader_kind (n : Nat) (call : Caller)  (x0 x1 : AV) (h : AH) : Ans :=
 oB (bLt x1 (I 0)) fun x6_0 =>
 oB (gq x6_0 false (some x1)) fun x8_1 =>
 oB (gq x6_0 false (some x0)) fun x9_2 =>
 oB (gq x6_0 false (oNil x9_2)) fun x10_3 =>
 oB (gq x6_0 false (oFA 1 x10_3)) fun x11_4 =>
 oB (gq x6_0 false (oLd h x11_4)) fun x12_5 =>
 oB (gq x6_0 false (bGe x8_1 x12_5)) fun x13_6 =>
 oB (oPick x6_0 (.bool true) x13_6) fun x14_7 =>
 ci x14_7 (
 some ((I 0), h)) (
 oB (oNil x0) fun x16_8 =>
 oB (oFA 0 x16_8) fun x17_9 =>
 oB (oLd h x17_9) fun x18_10 =>
 oB (oIx 3 x18_10 x1) fun x20_11 =>
 oB (oFA 0 x20_11) fun x21_12 =>
 oB (oLd h x21_12) fun x22_13 =>
 some (x22_13, h))
theorem o_flow_reader_kind : FnOK Tryz.prog n_flow_reader_kind (a2 f_flow_reader_kind) := ok2 mixed Tryz.func264 (by kernel_rfl)
/- (*corrector/flow.reader).add -/
noncomputable def f_flow_reader_add (n : Nat) (call : Caller)  (x0 x1 x2 x3 x4 : AV) (h : AH) : Ans :=
 oB (oNil x0) fun x15_0 =>
 oB (oFA 2 x15_0) fun x16_1 =>
 oB (oLdN 1 h x16_1) fun x17_2 =>
 oP (call n_arena_Add [x17_2, x1, x2, x3, x4] h) fun x22_3 h3 =>
 oB (oEx 0 x22_3) fun x23_4 =>
 oB (oEx 1 x22_3) fun x24_5 =>
 oP (oNew h3 59 [.nils]) fun x11_6 h6 =>
 oP (oSt 1 h6 x11_6 x23_4) fun _ h7 =>
 oB (oLdN 1 h7 x11_6) fun x26_8 =>
 oB (oNil x0) fun x27_9 =>
 oB (oFA 2 x27_9) fun x28_10 =>
 oP (oSt 1 h7 x28_10 x26_8) fun _ h11 =>
 some (x24_5, h11)
theorem o_flow_reader_add : FnOK Tryz.prog n_flow_reader_add (a5 f_flow_reader_add) := ok5 mixed Tryz.func265 (by kernel_rfl)
/- (*corrector/flow.reader).texts -/
noncomputable def f_flow_reader_texts (n : Nat) (call : Caller)  (x0 x1 : AV) (h : AH) : Ans :=
 oB (bAdd x1 (I 1)) fun x8_0 =>
 oP (call n_flow_reader_kind [x0, x8_0] h) fun x11_1 h1 =>
 jnF 3 (fun z5_2 z1_2 z0_2 h2 =>
 oP (call n_flow_reader_kind [z0_2, z5_2] h2) fun x28_3 h3 =>
 oB (bNe .no x28_3 (I 19)) fun x29_4 =>
 ci x29_4 (
 oB (bAdd z1_2 (I 1)) fun x31_5 =>
 some (x31_5, h3)) (
 jnF 1 (fun z5_6 h6 =>
 some (z5_6, h6)) fun j6 =>
 lpF 2 n (fun f7 y5_7 y0_7 h7 =>
 oP (call n_flow_reader_kind [y0_7, y5_7] h7) fun x34_8 h8 =>
 oB (bEq .no x34_8 (I 19)) fun x35_9 =>
 ci x35_9 (
 jnF 2 (fun z5_10 z0_10 h10 =>
 f7 z5_10 z0_10 h10) fun j10 =>
 oB (bAdd y5_7 (I 1)) fun x37_11 =>
 j10 x37_11 y0_7 h8) (
 j6 y5_7 h8)) z5_2 z0_2 h3)) fun j2 =>
 lpF 4 n (fun f12 y6_12 y5_12 y1_12 y0_12 h12 =>
 oB (bNe .no y6_12 (I 0)) fun x13_13 =>
 oB (gq x13_13 true (some y6_12)) fun x15_14 =>
 oP (gw x13_13 true (call n_flow_counts [x15_14] h12) h12) fun x16_15 h15 =>
 oB (gq x13_13 true (evQ (.un .not (.c x16_15)) .e h15)) fun x17_16 =>
 oB (oPick x13_13 x17_16 (.bool false)) fun x18_17 =>
 ci x18_17 (
 jnF 3 (fun z5_18 z1_18 z0_18 h18 =>
 oP (call n_flow_reader_kind [z0_18, z5_18] h18) fun x21_19 h19 =>
 f12 x21_19 z5_18 z1_18 z0_18 h19) fun j18 =>
 oB (bAdd y5_12 (I 1)) fun x23_20 =>
 oB (bEq .no y6_12 (I 1)) fun x25_21 =>
 ci x25_21 (
 j2 x23_20 y1_12 y0_12 h15) (
 j18 x23_20 y1_12 y0_12 h15)) (
 j2 y5_12 y1_12 y0_12 h15)) x11_1 x8_0 x1 x0 h1
theorem o_flow_reader_texts : FnOK Tryz.prog n_flow_reader_texts (a2 f_flow_reader_texts) := ok2 mixed Tryz.func266 (by kernel_rfl)
/- corrector/flow.opens -/
noncomputable def f_flow_opens (n : Nat) (call : Caller)  (x0 : AV) (h : AH) : Ans :=
 oB (bEq .no x0 (I 8)) fun x4_0 =>
 oB (gq x4_0 false (some x0)) fun x6_1 =>
 oB (gq x4_0 false (bEq .no x6_1 (I 9))) fun x7_2 =>
 oB (oPick x4_0 (.bool true) x7_2) fun x8_3 =>
 some (x8_3, h)
theorem o_flow_opens : FnOK Tryz.prog n_flow_opens (a1 f_flow_opens) := ok1 mixed Tryz.func267 (by kernel_rfl)
/- (*corrector/flow.reader).closed -/
noncomputable def f_flow_reader_closed (n : Nat) (call : Caller)  (x0 x1 : AV) (h : AH) : Ans :=
 jnF 2 (fun z1_0 z0_0 h0 =>
 oB (oNil z0_0) fun x44_1 =>
 oB (oFA 1 x44_1) fun x45_2 =>
 oB (oLd h0 x45_2) fun x46_3 =>
 oP (call n_flow_reader_over [z0_0, z1_0, x46_3] h0) fun x47_4 h4 =>
 some (x47_4, h4)) fun j0 =>
 lpF 4 n (fun f5 y6_5 y5_5 y1_5 y0_5 h5 =>
 oB (oNil y0_5) fun x11_6 =>
 oB (oFA 1 x11_6) fun x12_7 =>
 oB (oLd h5 x12_7) fun x13_8 =>
 oB (bLt y6_5 x13_8) fun x14_9 =>
 ci x14_9 (
 jnF 4 (fun z6_10 z5_10 z1_10 z0_10 h10 =>
 oB (bAdd z6_10 (I 1)) fun x16_11 =>
 f5 x16_11 z5_10 z1_10 z0_10 h10) fun j10 =>
 oP (call n_flow_reader_kind [y0_5, y6_5] h5) fun x19_12 h12 =>
 jnF 4 (fun z6_13 z5_13 z1_13 z0_13 h13 =>
 oB (bEq .no z5_13 (I 0)) fun x38_14 =>
 ci x38_14 (
 oB (bAdd z6_13 (I 1)) fun x40_15 =>
 some (x40_15, h13)) (
 j10 z6_13 z5_13 z1_13 z0_13 h13)) fun j13 =>
 oP (call n_flow_opens [x19_12] h12) fun x22_16 h16 =>
 jnF 4 (fun z6_17 z5_17 z1_17 z0_17 h17 =>
 j13 z6_17 z5_17 z1_17 z0_17 h17) fun j17 =>
 ci x22_16 (
 oB (bAdd y5_5 (I 1)) fun x24_18 =>
 j17 y6_5 x24_18 y1_5 y0_5 h16) (
 oP (call n_flow_ends [x19_12] h16) fun x27_19 h19 =>
 jnF 4 (fun z6_20 z5_20 z1_20 z0_20 h20 =>
 j17 z6_20 z5_20 z1_20 z0_20 h20) fun j20 =>
 ci x27_19 (
 oB (bSub y5_5 (I 1)) fun x29_21 =>
 j20 y6_5 x29_21 y1_5 y0_5 h19) (
 oP (call n_flow_mark [x19_12] h19) fun x32_22 h22 =>
 ci x32_22 (
 oP (call n_flow_reader_over [y0_5, y1_5, y6_5] h22) fun x36_23 h23 =>
 some (x36_23, h23)) (
 j20 y6_5 y5_5 y1_5 y0_5 h22)))) (
 j0 y1_5 y0_5 h5)) x1 (I 0) x1 x0 h
theorem o_flow_reader_closed : FnOK Tryz.prog n_flow_reader_closed (a2 f_flow_reader_closed) := ok2 mixed Tryz.func268 (by kernel_rfl)
/- (*corrector/flow.reader).wrong -/
noncomputable def f_flow_reader_wrong (n : Nat) (call : Caller)  (x0 x1 x2 x3 x4 : AV) (h : AH) : Ans :=
 oP (call n_flow_reader_tell [x0, x1, x3, x4] h) fun x15_0 h0 =>
 oP (call n_flow_reader_add [x0, x2, (I 11), x3, x4] h0) fun x20_1 h1 =>
 some (x20_1, h1)
theorem o_flow_reader_wrong : FnOK Tryz.prog n_flow_reader_wrong (a5 f_flow_reader_wrong) := ok5 mixed Tryz.func269 (by kernel_rfl)
/- (*corrector/flow.reader).collection -/
noncomputable def f_flow_reader_collection (n : Nat) (call : Caller)  (x0 x1 x2 x3 x4 : AV) (h : AH) : Ans :=
 scF n fun m0 => jnF 8 (lpF 8 m0 fun f0 y14_0 y13_0 y12_0 y11_0 y10_0 y4_0 y3_0 y0_0 h0 =>
 oP (call n_flow_reader_past [y0_0, y11_0] h0) fun x33_1 h1 =>
 oP (call n_flow_reader_kind [y0_0, x33_1] h1) fun x36_2 h2 =>
 oP (call n_flow_reader_key [y0_0, x33_1] h2) fun x39_3 h3 =>
 jnF 8 (fun z14_4 z13_4 z12_4 z11_4 z10_4 z4_4 z3_4 z0_4 h4 =>
 f0 z14_4 z13_4 z12_4 z11_4 z10_4 z4_4 z3_4 z0_4 h4) fun j4 =>
 oB (bEq .no x36_2 y13_0) fun x53_5 =>
 ci x53_5 (
 oB (oNil y0_0) fun x56_6 =>
 oB (oFA 2 x56_6) fun x57_7 =>
 oB (oLdN 1 h3 x57_7) fun x58_8 =>
 oB (bAdd x33_1 (I 1)) fun x61_9 =>
 oP (call n_arena_Grow [x58_8, y10_0, x61_9] h3) fun x62_10 h10 =>
 oB (oNil y0_0) fun x63_11 =>
 oB (oFA 2 x63_11) fun x64_12 =>
 oP (oSt 1 h10 x64_12 x62_10) fun _ h13 =>
 oB (bAdd x33_1 (I 1)) fun x67_14 =>
 some (.tup [y10_0, x67_14], h13)) (
 oB (bEq .no x36_2 (I 0)) fun x70_15 =>
 oB (gq x70_15 false (some x36_2)) fun x72_16 =>
 oP (gw x70_15 false (call n_flow_mark [x72_16] h3) h3) fun x73_17 h17 =>
 oB (oPick x70_15 (.bool true) x73_17) fun x74_18 =>
 ci x74_18 (
 oB (bAdd y3_0 (I 1)) fun x78_19 =>
 oP (call n_flow_reader_tell [y0_0, (I 9), y3_0, x78_19] h17) fun x79_20 h20 =>
 oB (oNil y0_0) fun x82_21 =>
 oB (oFA 2 x82_21) fun x83_22 =>
 oB (oLdN 1 h20 x83_22) fun x84_23 =>
 oP (call n_arena_Grow [x84_23, y10_0, y11_0] h20) fun x87_24 h24 =>
 oB (oNil y0_0) fun x88_25 =>
 oB (oFA 2 x88_25) fun x89_26 =>
 oP (oSt 1 h24 x89_26 x87_24) fun _ h27 =>
 some (.tup [y10_0, y11_0], h27)) (
 oP (call n_flow_ends [x36_2] h17) fun x94_28 h28 =>
 jnF 8 (fun z14_29 z13_29 z12_29 z11_29 z10_29 z4_29 z3_29 z0_29 h29 =>
 j4 z14_29 z13_29 z12_29 z11_29 z10_29 z4_29 z3_29 z0_29 h29) fun j29 =>
 ci x94_28 (
 oB (bAdd x33_1 (I 1)) fun x96_30 =>
 oP (call n_flow_reader_wrong [y0_0, (I 8), y10_0, x33_1, x96_30] h28) fun x101_31 h31 =>
 j29 y14_0 y13_0 y12_0 x96_30 y10_0 y4_0 y3_0 y0_0 h31) (
 oB (bEq .no x36_2 (I 7)) fun x104_32 =>
 oB (gq x104_32 true (some y14_0)) fun x106_33 =>
 oB (oPick x104_32 x106_33 (.bool false)) fun x107_34 =>
 jnF 8 (fun z14_35 z13_35 z12_35 z11_35 z10_35 z4_35 z3_35 z0_35 h35 =>
 j29 z14_35 z13_35 z12_35 z11_35 z10_35 z4_35 z3_35 z0_35 h35) fun j35 =>
 ci x107_34 (
 oB (bAdd x33_1 (I 1)) fun x109_36 =>
 j35 (.bool false) y13_0 y12_0 x109_36 y10_0 y4_0 y3_0 y0_0 h28) (
 oB (bEq .no x36_2 (I 7)) fun x112_37 =>
 jnF 8 (fun z14_38 z13_38 z12_38 z11_38 z10_38 z4_38 z3_38 z0_38 h38 =>
 j35 z14_38 z13_38 z12_38 z11_38 z10_38 z4_38 z3_38 z0_38 h38) fun j38 =>
 ci x112_37 (
 oB (bAdd x33_1 (I 1)) fun x114_39 =>
 oP (call n_flow_reader_wrong [y0_0, (I 8), y10_0, x33_1, x114_39] h28) fun x119_40 h40 =>
 j38 y14_0 y13_0 y12_0 x114_39 y10_0 y4_0 y3_0 y0_0 h40) (
 jnF 8 (fun z14_41 z13_41 z12_41 z11_41 z10_41 z4_41 z3_41 z0_41 h41 =>
 j38 z14_41 z13_41 z12_41 z11_41 z10_41 z4_41 z3_41 z0_41 h41) fun j41 =>
 ci y14_0 (
 oP (call n_flow_reader_stray [y0_0, x33_1] h28) fun x124_42 h42 =>
 oP (call n_flow_reader_wrong [y0_0, (I 8), y10_0, x33_1, x124_42] h42) fun x129_43 h43 =>
 j41 y14_0 y13_0 y12_0 x124_42 y10_0 y4_0 y3_0 y0_0 h43) (
 oB (bGe x39_3 (I 0)) fun x132_44 =>
 jnF 8 (fun z14_45 z13_45 z12_45 z11_45 z10_45 z4_45 z3_45 z0_45 h45 =>
 j41 z14_45 z13_45 z12_45 z11_45 z10_45 z4_45 z3_45 z0_45 h45) fun j45 =>
 ci x132_44 (
 oB (bSub y4_0 (I 1)) fun x138_46 =>
 oP (call n_flow_reader_pair [y0_0, y10_0, x33_1, x39_3, x138_46] h28) fun x139_47 h47 =>
 j45 (.bool true) y13_0 y12_0 x139_47 y10_0 y4_0 y3_0 y0_0 h47) (
 oB (bSub y4_0 (I 1)) fun x46_48 =>
 oP (call n_flow_reader_one [y0_0, y10_0, y12_0, x33_1, x46_48] h28) fun x47_49 h49 =>
 oB (oEx 0 x47_49) fun x48_50 =>
 oB (oEx 1 x47_49) fun x49_51 =>
 j45 x49_51 y13_0 y12_0 x48_50 y10_0 y4_0 y3_0 y0_0 h49)))))))) fun f0 =>
 oP (call n_flow_reader_kind [x0, x3] h) fun x20_52 h52 =>
 oB (bEq .no x20_52 (I 9)) fun x21_53 =>
 jnF 7 (fun z13_54 z12_54 z4_54 z3_54 z2_54 z1_54 z0_54 h54 =>
 oB (bAdd z3_54 (I 1)) fun x27_55 =>
 oP (call n_flow_reader_add [z0_54, z1_54, z12_54, z2_54, x27_55] h54) fun x28_56 h56 =>
 oB (bAdd z3_54 (I 1)) fun x30_57 =>
 oP (call n_flow_reader_past [z0_54, x30_57] h56) fun x33_58 h58 =>
 oP (call n_flow_reader_kind [z0_54, x33_58] h58) fun x36_59 h59 =>
 oP (call n_flow_reader_key [z0_54, x33_58] h59) fun x39_60 h60 =>
 jnF 8 (fun z14_61 z13_61 z12_61 z11_61 z10_61 z4_61 z3_61 z0_61 h61 =>
 f0 z14_61 z13_61 z12_61 z11_61 z10_61 z4_61 z3_61 z0_61 h61) fun j61 =>
 oB (bEq .no x36_59 z13_54) fun x53_62 =>
 ci x53_62 (
 oB (oNil z0_54) fun x56_63 =>
 oB (oFA 2 x56_63) fun x57_64 =>
 oB (oLdN 1 h60 x57_64) fun x58_65 =>
 oB (bAdd x33_58 (I 1)) fun x61_66 =>
 oP (call n_arena_Grow [x58_65, x28_56, x61_66] h60) fun x62_67 h67 =>
 oB (oNil z0_54) fun x63_68 =>
 oB (oFA 2 x63_68) fun x64_69 =>
 oP (oSt 1 h67 x64_69 x62_67) fun _ h70 =>
 oB (bAdd x33_58 (I 1)) fun x67_71 =>
 some (.tup [x28_56, x67_71], h70)) (
 oB (bEq .no x36_59 (I 0)) fun x70_72 =>
 oB (gq x70_72 false (some x36_59)) fun x72_73 =>
 oP (gw x70_72 false (call n_flow_mark [x72_73] h60) h60) fun x73_74 h74 =>
 oB (oPick x70_72 (.bool true) x73_74) fun x74_75 =>
 ci x74_75 (
 oB (bAdd z3_54 (I 1)) fun x78_76 =>
 oP (call n_flow_reader_tell [z0_54, (I 9), z3_54, x78_76] h74) fun x79_77 h77 =>
 oB (oNil z0_54) fun x82_78 =>
 oB (oFA 2 x82_78) fun x83_79 =>
 oB (oLdN 1 h77 x83_79) fun x84_80 =>
 oP (call n_arena_Grow [x84_80, x28_56, x30_57] h77) fun x87_81 h81 =>
 oB (oNil z0_54) fun x88_82 =>
 oB (oFA 2 x88_82) fun x89_83 =>
 oP (oSt 1 h81 x89_83 x87_81) fun _ h84 =>
 some (.tup [x28_56, x30_57], h84)) (
 oP (call n_flow_ends [x36_59] h74) fun x94_85 h85 =>
 jnF 8 (fun z14_86 z13_86 z12_86 z11_86 z10_86 z4_86 z3_86 z0_86 h86 =>
 j61 z14_86 z13_86 z12_86 z11_86 z10_86 z4_86 z3_86 z0_86 h86) fun j86 =>
 ci x94_85 (
 oB (bAdd x33_58 (I 1)) fun x96_87 =>
 oP (call n_flow_reader_wrong [z0_54, (I 8), x28_56, x33_58, x96_87] h85) fun x101_88 h88 =>
 j86 (.bool false) z13_54 z12_54 x96_87 x28_56 z4_54 z3_54 z0_54 h88) (
 oB (bEq .no x36_59 (I 7)) fun x104_89 =>
 oB (gq x104_89 true (some (.bool false))) fun x106_90 =>
 oB (oPick x104_89 x106_90 (.bool false)) fun x107_91 =>
 jnF 8 (fun z14_92 z13_92 z12_92 z11_92 z10_92 z4_92 z3_92 z0_92 h92 =>
 j86 z14_92 z13_92 z12_92 z11_92 z10_92 z4_92 z3_92 z0_92 h92) fun j92 =>
 ci x107_91 (
 oB (bAdd x33_58 (I 1)) fun x109_93 =>
 j92 (.bool false) z13_54 z12_54 x109_93 x28_56 z4_54 z3_54 z0_54 h85) (
 oB (bEq .no x36_59 (I 7)) fun x112_94 =>
 jnF 8 (fun z14_95 z13_95 z12_95 z11_95 z10_95 z4_95 z3_95 z0_95 h95 =>
 j92 z14_95 z13_95 z12_95 z11_95 z10_95 z4_95 z3_95 z0_95 h95) fun j95 =>
 ci x112_94 (
 oB (bAdd x33_58 (I 1)) fun x114_96 =>
 oP (call n_flow_reader_wrong [z0_54, (I 8), x28_56, x33_58, x114_96] h85) fun x119_97 h97 =>
 j95 (.bool false) z13_54 z12_54 x114_96 x28_56 z4_54 z3_54 z0_54 h97) (
 jnF 8 (fun z14_98 z13_98 z12_98 z11_98 z10_98 z4_98 z3_98 z0_98 h98 =>
 j95 z14_98 z13_98 z12_98 z11_98 z10_98 z4_98 z3_98 z0_98 h98) fun j98 =>
 ci (.bool false) (
 oP (call n_flow_reader_stray [z0_54, x33_58] h85) fun x124_99 h99 =>
 oP (call n_flow_reader_wrong [z0_54, (I 8), x28_56, x33_58, x124_99] h99) fun x129_100 h100 =>
 j98 (.bool false) z13_54 z12_54 x124_99 x28_56 z4_54 z3_54 z0_54 h100) (
 oB (bGe x39_60 (I 0)) fun x132_101 =>
 jnF 8 (fun z14_102 z13_102 z12_102 z11_102 z10_102 z4_102 z3_102 z0_102 h102 =>
 j98 z14_102 z13_102 z12_102 z11_102 z10_102 z4_102 z3_102 z0_102 h102) fun j102 =>
 ci x132_101 (
 oB (bSub z4_54 (I 1)) fun x138_103 =>
 oP (call n_flow_reader_pair [z0_54, x28_56, x33_58, x39_60, x138_103] h85) fun x139_104 h104 =>
 j102 (.bool true) z13_54 z12_54 x139_104 x28_56 z4_54 z3_54 z0_54 h104) (
 oB (bSub z4_54 (I 1)) fun x46_105 =>
 oP (call n_flow_reader_one [z0_54, x28_56, z12_54, x33_58, x46_105] h85) fun x47_106 h106 =>
 oB (oEx 0 x47_106) fun x48_107 =>
 oB (oEx 1 x47_106) fun x49_108 =>
 j102 x49_108 z13_54 z12_54 x48_107 x28_56 z4_54 z3_54 z0_54 h106)))))))) fun j54 =>
 ci x21_53 (
 j54 (I 11) (I 10) x4 x3 x2 x1 x0 h52) (
 j54 (I 10) (I 9) x4 x3 x2 x1 x0 h52)
theorem o_flow_reader_collection : FnOK Tryz.prog n_flow_reader_collection (a5 f_flow_reader_collection) := ok5 mixed Tryz.func270 (by kernel_rfl)
/- (*corrector/parse.parser).key$1 -/
noncomputable def f_parse_parser_key_1 (n : Nat) (call : Caller)  (x0 : AV) (h : AH) : Ans :=
 oP (oNew h 131 (AV.cells x0)) fun x1_0 h0 =>
 oB (oFA 0 x1_0) fun x3_1 =>
 oB (oLd h0 x3_1) fun x4_2 =>
 oB (bEq .no x4_2 (I 13)) fun x5_3 =>
 some (x5_3, h0)
theorem o_parse_parser_key_1 : FnOK Tryz.prog n_parse_parser_key_1 (a1 f_parse_parser_key_1) := ok1 mixed Tryz.func271 (by kernel_rfl)
/- strings.IndexAny -/
noncomputable def f_strings_IndexAny (n : Nat) (call : Caller)  (x0 x1 : AV) (h : AH) : Ans :=
 oB (bEq .no x1 (.str [])) fun x12_0 =>
 ci x12_0 (
 some ((Ineg 0), h)) (
 oB (oLenS x1) fun x14_1 =>
 oB (bEq .no x14_1 (I 1)) fun x15_2 =>
 ci x15_2 (
 oB (oIxS x1 (I 0)) fun x17_3 =>
 oB (oInt .i32 x17_3) fun x18_4 =>
 oB (bGe x18_4 (R 128)) fun x20_5 =>
 jnF 2 (fun z5_6 z0_6 h6 =>
 oP (call n_strings_IndexRune [z0_6, z5_6] h6) fun x23_7 h7 =>
 some (x23_7, h7)) fun j6 =>
 ci x20_5 (
 j6 (R 65533) x0 h) (
 j6 x18_4 x0 h)) (
 oB (oLenS x0) fun x25_8 =>
 oP (call n_strings_shouldUseASCIISet [x25_8] h) fun x26_9 h9 =>
 jnF 2 (fun z1_10 z0_10 h10 =>
 oP (evW (.rangeS (.c z0_10)) .e h10) fun x45_11 h11 =>
 jnF 0 (fun h12 =>
 some ((Ineg 0), h12)) fun j12 =>
 lpF 2 n (fun f13 y45_13 y1_13 h13 =>
 oP (evW (.nextS (.c y45_13)) .e h13) fun x46_14 h14 =>
 oB (oEx 0 x46_14) fun x47_15 =>
 ci x47_15 (
 jnF 2 (fun z45_16 z1_16 h16 =>
 f13 z45_16 z1_16 h16) fun j16 =>
 oB (oEx 1 x46_14) fun x48_17 =>
 oB (oEx 2 x46_14) fun x49_18 =>
 oP (call n_strings_IndexRune [y1_13, x49_18] h14) fun x52_19 h19 =>
 oB (bGe x52_19 (I 0)) fun x53_20 =>
 ci x53_20 (
 some (x48_17, h19)) (
 j16 y45_13 y1_13 h19)) (
 j12 h14)) x45_11 z1_10 h11) fun j10 =>
 ci x26_9 (
 oP (call n_strings_makeASCIISet [x1] h9) fun x29_21 h21 =>
 oB (oEx 0 x29_21) fun x30_22 =>
 oB (oEx 1 x29_21) fun x31_23 =>
 oP (oNew h21 321 [(.bool false), (.bool false), (.bool false), (.bool false), (.bool false), (.bool false), (.bool false), (.bool false), (.bool false), (.bool false), (.bool false), (.bool false), (.bool false), (.bool false), (.bool false), (.bool false), (.bool false), (.bool false), (.bool false), (.bool false), (.bool false), (.bool false), (.bool false), (.bool false), (.bool false), (.bool false), (.bool false), (.bool false), (.bool false), (.bool false), (.bool false), (.bool false), (.bool false), (.bool false), (.bool false), (.bool false), (.bool false), (.bool false), (.bool false), (.bool false), (.bool false), (.bool false), (.bool false), (.bool false), (.bool false), (.bool false), (.bool false), (.bool false), (.bool false), (.bool false), (.bool false), (.bool false), (.bool false), (.bool false), (.bool false), (.bool false), (.bool false), (.bool false), (.bool false), (.bool false), (.bool false), (.bool false), (.bool false), (.bool false), (.bool false), (.bool false), (.bool false), (.bool false), (.bool false), (.bool false), (.bool false), (.bool false), (.bool false), (.bool false), (.bool false), (.bool false), (.bool false), (.bool false), (.bool false), (.bool false), (.bool false), (.bool false), (.bool false), (.bool false), (.bool false), (.bool false), (.bool false), (.bool false), (.bool false), (.bool false), (.bool false), (.bool false), (.bool false), (.bool false), (.bool false), (.bool false), (.bool false), (.bool false), (.bool false), (.bool false), (.bool false), (.bool false), (.bool false), (.bool false), (.bool false), (.bool false), (.bool false), (.bool false), (.bool false), (.bool false), (.bool false), (.bool false), (.bool false), (.bool false), (.bool false), (.bool false), (.bool false), (.bool false), (.bool false), (.bool false), (.bool false), (.bool false), (.bool false), (.bool false), (.bool false), (.bool false), (.bool false), (.bool false), (.bool false), (.bool false), (.bool false), (.bool false), (.bool false), (.bool false), (.bool false), (.bool false), (.bool false), (.bool false), (.bool false), (.bool false), (.bool false), (.bool false), (.bool false), (.bool false), (.bool false), (.bool false), (.bool false), (.bool false), (.bool false), (.bool false), (.bool false), (.bool false), (.bool false), (.bool false), (.bool false), (.bool false), (.bool false), (.bool false), (.bool false), (.bool false), (.bool false), (.bool false), (.bool false), (.bool false), (.bool false), (.bool false), (.bool false), (.bool false), (.bool false), (.bool false), (.bool false), (.bool false), (.bool false), (.bool false), (.bool false), (.bool false), (.bool false), (.bool false), (.bool false), (.bool false), (.bool false), (.bool false), (.bool false), (.bool false), (.bool false), (.bool false), (.bool false), (.bool false), (.bool false), (.bool false), (.bool false), (.bool false), (.bool false), (.bool false), (.bool false), (.bool false), (.bool false), (.bool false), (.bool false), (.bool false), (.bool false), (.bool false), (.bool false), (.bool false), (.bool false), (.bool false), (.bool false), (.bool false), (.bool false), (.bool false), (.bool false), (.bool false), (.bool false), (.bool false), (.bool false), (.bool false), (.bool false), (.bool false), (.bool false), (.bool false), (.bool false), (.bool false), (.bool false), (.bool false), (.bool false), (.bool false), (.bool false), (.bool false), (.bool false), (.bool false), (.bool false), (.bool false), (.bool false), (.bool false), (.bool false), (.bool false), (.bool false), (.bool false), (.bool false), (.bool false), (.bool false), (.bool false), (.bool false), (.bool false), (.bool false), (.bool false), (.bool false), (.bool false), (.bool false), (.bool false), (.bool false), (.bool false), (.bool false), (.bool false), (.bool false), (.bool false)]) fun x6_24 h24 =>
 oP (oSt 256 h24 x6_24 x30_22) fun _ h25 =>
 ci x31_23 (
 jnF 0 (fun h26 =>
 some ((Ineg 0), h26)) fun j26 =>
 lpF 3 n (fun f27 y8_27 y6_27 y0_27 h27 =>
 oB (oLenS y0_27) fun x35_28 =>
 oB (bLt y8_27 x35_28) fun x36_29 =>
 ci x36_29 (
 jnF 3 (fun z8_30 z6_30 z0_30 h30 =>
 oB (bAdd z8_30 (I 1)) fun x38_31 =>
 f27 x38_31 z6_30 z0_30 h30) fun j30 =>
 oB (oIxS y0_27 y8_27) fun x41_32 =>
 oP (call n_strings_asciiSet_contains [y6_27, x41_32] h27) fun x42_33 h33 =>
 ci x42_33 (
 some (y8_27, h33)) (
 j30 y8_27 y6_27 y0_27 h33)) (
 j26 h27)) (I 0) x6_24 x0 h25) (
 j10 x1 x0 h25)) (
 j10 x1 x0 h9)))
theorem o_strings_IndexAny : FnOK Tryz.prog n_strings_IndexAny (a2 f_strings_IndexAny) := ok2 mixed Tryz.func272 (by kernel_rfl)
end Go.Proofs.YtahpoedbdhhdfaaGreatDoor
