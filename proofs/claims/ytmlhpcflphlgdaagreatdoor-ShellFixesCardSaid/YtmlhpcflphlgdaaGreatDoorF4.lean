/- Functions, as they run. PRINTED by a program of this repo. -/
import Derived.Test.YtmlhpcflphlgdaaGreatDoorN
import Derived.Test.YtmlhpcflphlgdaaGreatDoorM
set_option linter.unusedVariables false
set_option maxRecDepth 100000
namespace Go.Proofs.YtmlhpcflphlgdaaGreatDoor
open Go.Ev
/- (*corrector/scan.scanner).single -/
noncomputable def f_scan_scanner_single (n : Nat) (call : Caller)  (x0 : AV) (h : AH) : Ans :=
 oB (oNil x0) fun x7_0 =>
 oB (oFA 1 x7_0) fun x8_1 =>
 oB (oLd h x8_1) fun x9_2 =>
 oP (call n_scan_scanner_line [x0, x9_2] h) fun x10_3 h3 =>
 oB (oNil x0) fun x12_4 =>
 oB (oFA 1 x12_4) fun x13_5 =>
 oB (oLd h3 x13_5) fun x14_6 =>
 oB (bAdd x14_6 (I 1)) fun x15_7 =>
 jnF 1 (fun z3_8 h8 =>
 some (z3_8, h8)) fun j8 =>
 lpF 3 n (fun f9 y4_9 y3_9 y0_9 h9 =>
 oB (bLt y4_9 y3_9) fun x18_10 =>
 ci x18_10 (
 jnF 3 (fun z4_11 z3_11 z0_11 h11 =>
 oB (bAdd z4_11 (I 1)) fun x20_12 =>
 f9 x20_12 z3_11 z0_11 h11) fun j11 =>
 oB (oNil y0_9) fun x22_13 =>
 oB (oFA 0 x22_13) fun x23_14 =>
 oB (oLd h9 x23_14) fun x24_15 =>
 oB (oIx 1 x24_15 y4_9) fun x26_16 =>
 oB (oLd h9 x26_16) fun x27_17 =>
 oB (bNe .no x27_17 (U 39)) fun x28_18 =>
 ci x28_18 (
 j11 y4_9 y3_9 y0_9 h9) (
 oB (bAdd y4_9 (I 1)) fun x31_19 =>
 oP (call n_scan_scanner_there [y0_9, x31_19, (U 39)] h9) fun x32_20 h20 =>
 oB (evQ (.un .not (.c x32_20)) .e h20) fun x33_21 =>
 ci x33_21 (
 oB (bAdd y4_9 (I 1)) fun x35_22 =>
 some (x35_22, h20)) (
 oB (bAdd y4_9 (I 1)) fun x37_23 =>
 j11 x37_23 y3_9 y0_9 h20))) (
 j8 y3_9 h9)) x15_7 x10_3 x0 h3
theorem o_scan_scanner_single : FnOK Tryz.prog n_scan_scanner_single (a1 f_scan_scanner_single) := ok1 mixed Tryz.func156 (by kernel_rfl)
/- (*corrector/scan.scanner).double -/
noncomputable def f_scan_scanner_double (n : Nat) (call : Caller)  (x0 : AV) (h : AH) : Ans :=
 oB (oNil x0) fun x7_0 =>
 oB (oFA 1 x7_0) fun x8_1 =>
 oB (oLd h x8_1) fun x9_2 =>
 oP (call n_scan_scanner_line [x0, x9_2] h) fun x10_3 h3 =>
 oB (oNil x0) fun x12_4 =>
 oB (oFA 1 x12_4) fun x13_5 =>
 oB (oLd h3 x13_5) fun x14_6 =>
 oB (bAdd x14_6 (I 1)) fun x15_7 =>
 jnF 1 (fun z3_8 h8 =>
 some (z3_8, h8)) fun j8 =>
 lpF 3 n (fun f9 y4_9 y3_9 y0_9 h9 =>
 oB (bLt y4_9 y3_9) fun x18_10 =>
 ci x18_10 (
 jnF 3 (fun z4_11 z3_11 z0_11 h11 =>
 oB (bAdd z4_11 (I 1)) fun x20_12 =>
 f9 x20_12 z3_11 z0_11 h11) fun j11 =>
 oB (oNil y0_9) fun x22_13 =>
 oB (oFA 0 x22_13) fun x23_14 =>
 oB (oLd h9 x23_14) fun x24_15 =>
 oB (oIx 1 x24_15 y4_9) fun x26_16 =>
 oB (oLd h9 x26_16) fun x27_17 =>
 jnF 3 (fun z4_18 z3_18 z0_18 h18 =>
 j11 z4_18 z3_18 z0_18 h18) fun j18 =>
 oB (bEq .no x27_17 (U 34)) fun x29_19 =>
 ci x29_19 (
 oB (bAdd y4_9 (I 1)) fun x31_20 =>
 some (x31_20, h9)) (
 oB (bEq .no x27_17 (U 92)) fun x33_21 =>
 jnF 3 (fun z4_22 z3_22 z0_22 h22 =>
 j18 z4_22 z3_22 z0_22 h22) fun j22 =>
 ci x33_21 (
 oB (bAdd y4_9 (I 1)) fun x35_23 =>
 j22 x35_23 y3_9 y0_9 h9) (
 j22 y4_9 y3_9 y0_9 h9))) (
 j8 y3_9 h9)) x15_7 x10_3 x0 h3
theorem o_scan_scanner_double : FnOK Tryz.prog n_scan_scanner_double (a1 f_scan_scanner_double) := ok1 mixed Tryz.func157 (by kernel_rfl)
/- (*corrector/scan.scanner).head -/
noncomputable def f_scan_scanner_head (n : Nat) (call : Caller)  (x0 : AV) (h : AH) : Ans :=
 oB' (nx 11 h) fun h0 =>
 oB (oNil x0) fun x7_1 =>
 oB (oFA 0 x7_1) fun x8_2 =>
 oB (oLd h0 x8_2) fun x9_3 =>
 oB (oNil x0) fun x11_4 =>
 oB (oFA 1 x11_4) fun x12_5 =>
 oB (oLd h0 x12_5) fun x13_6 =>
 oB (oIx 1 x9_3 x13_6) fun x14_7 =>
 oB (oLd h0 x14_7) fun x15_8 =>
 oB (oNil x0) fun x17_9 =>
 oB (oFA 3 x17_9) fun x18_10 =>
 oB (oLd h0 x18_10) fun x19_11 =>
 oB (bGt x19_11 (I 0)) fun x20_12 =>
 oB (gq x20_12 false (some x15_8)) fun x22_13 =>
 oB (gq x20_12 false (bNe .no x22_13 (U 124))) fun x23_14 =>
 oB (gq x20_12 false (some x23_14)) fun x24_15 =>
 oB (gq x24_15 true (some x15_8)) fun x25_16 =>
 oB (gq x24_15 true (bNe .no x25_16 (U 62))) fun x26_17 =>
 oB (gq x20_12 false (oPick x24_15 x26_17 (.bool false))) fun x27_18 =>
 oB (oPick x20_12 (.bool true) x27_18) fun x28_19 =>
 ci x28_19 (
 some ((I 0), h0)) (
 oB (oNil x0) fun x30_20 =>
 oB (oFA 1 x30_20) fun x31_21 =>
 oB (oLd h0 x31_21) fun x32_22 =>
 oB (bAdd x32_22 (I 1)) fun x33_23 =>
 oP (call n_scan_scanner_there [x0, x33_23, (U 43)] h0) fun x36_24 h24 =>
 oB (gq x36_24 false (some x0)) fun x38_25 =>
 oB (gq x36_24 false (some x33_23)) fun x39_26 =>
 oP (gw x36_24 false (call n_scan_scanner_there [x38_25, x39_26, (U 45)] h24) h24) fun x40_27 h27 =>
 oB (oPick x36_24 (.bool true) x40_27) fun x41_28 =>
 jnF 2 (fun z4_29 z0_29 h29 =>
 oP (call n_scan_scanner_blanks [z0_29, z4_29] h29) fun x46_30 h30 =>
 oP (call n_scan_scanner_line [z0_29, x46_30] h30) fun x50_31 h31 =>
 oB (bEq .no x46_30 x50_31) fun x51_32 =>
 oB (gq x51_32 false (some x46_30)) fun x53_33 =>
 oB (gq x51_32 false (some z4_29)) fun x54_34 =>
 oB (gq x51_32 false (bGt x53_33 x54_34)) fun x55_35 =>
 oB (gq x51_32 false (some x55_35)) fun x56_36 =>
 oB (gq x56_36 true (some z0_29)) fun x57_37 =>
 oB (gq x56_36 true (some x46_30)) fun x58_38 =>
 oP (gw x56_36 true (call n_scan_scanner_there [x57_37, x58_38, (U 35)] h31) h31) fun x59_39 h39 =>
 oB (gq x51_32 false (oPick x56_36 x59_39 (.bool false))) fun x60_40 =>
 oB (oPick x51_32 (.bool true) x60_40) fun x61_41 =>
 ci x61_41 (
 some (z4_29, h39)) (
 some ((I 0), h39))) fun j29 =>
 ci x41_28 (
 oB (bAdd x33_23 (I 1)) fun x43_42 =>
 j29 x43_42 x0 h27) (
 j29 x33_23 x0 h27))
theorem o_scan_scanner_head : FnOK Tryz.prog n_scan_scanner_head (a1 f_scan_scanner_head) := ok1 mixed Tryz.func158 (by kernel_rfl)
/- (*corrector/scan.scanner).texts -/
noncomputable def f_scan_scanner_texts (n : Nat) (call : Caller)  (x0 x1 : AV) (h : AH) : Ans :=
 scF n fun m0 => jnF 2 (lpF 2 m0 fun f0 y1_0 y0_0 h0 =>
 jnF 0 (fun h1 =>
 some (.tup [], h1)) fun j1 =>
 lpF 2 n (fun f2 y1_2 y0_2 h2 =>
 oB' (nx 19 h2) fun h3 =>
 oB (oNil y0_2) fun x55_4 =>
 oB (oFA 1 x55_4) fun x56_5 =>
 oB (oLd h3 x56_5) fun x57_6 =>
 oB (oNil y0_2) fun x59_7 =>
 oB (oFA 0 x59_7) fun x60_8 =>
 oB (oLd h3 x60_8) fun x61_9 =>
 oB (oLen x61_9) fun x62_10 =>
 oB (bLt x57_6 x62_10) fun x63_11 =>
 oB (gq x63_11 true (some y0_2)) fun x65_12 =>
 oB (gq x63_11 true (some y0_2)) fun x66_13 =>
 oB (gq x63_11 true (oNil x66_13)) fun x67_14 =>
 oB (gq x63_11 true (oFA 1 x67_14)) fun x68_15 =>
 oB (gq x63_11 true (oLd h3 x68_15)) fun x69_16 =>
 oP (gw x63_11 true (call n_scan_scanner_mark [x65_12, x69_16] h3) h3) fun x70_17 h17 =>
 oB (gq x63_11 true (bEq .no x70_17 (I 0))) fun x71_18 =>
 oB (oPick x63_11 x71_18 (.bool false)) fun x72_19 =>
 ci x72_19 (
 jnF 2 (fun z1_20 z0_20 h20 =>
 f2 z1_20 z0_20 h20) fun j20 =>
 oB (oNil y0_2) fun x75_21 =>
 oB (oFA 1 x75_21) fun x76_22 =>
 oB (oLd h17 x76_22) fun x77_23 =>
 oP (call n_scan_scanner_line [y0_2, x77_23] h17) fun x78_24 h24 =>
 oB' (nx 23 h24) fun h25 =>
 oB (oNil y0_2) fun x81_26 =>
 oB (oFA 1 x81_26) fun x82_27 =>
 oB (oLd h25 x82_27) fun x83_28 =>
 oP (call n_scan_scanner_blanks [y0_2, x83_28] h25) fun x84_29 h29 =>
 oB (bNe .no x84_29 x78_24) fun x86_30 =>
 gD x86_30 true fun w31 =>
 oB (cond w31 (some y0_2) (some .undef)) fun x88_32 =>
 gD x86_30 true fun w33 =>
 oB (cond w33 (some y0_2) (some .undef)) fun x89_34 =>
 gD x86_30 true fun w35 =>
 oB (cond w35 (oNil x89_34) (some .undef)) fun x90_36 =>
 gD x86_30 true fun w37 =>
 oB (cond w37 (oFA 1 x90_36) (some .undef)) fun x91_38 =>
 gD x86_30 true fun w39 =>
 oB (cond w39 (oLd h29 x91_38) (some .undef)) fun x92_40 =>
 gD x86_30 true fun w41 =>
 oP (cond w41 (call n_scan_scanner_spaces [x88_32, x92_40] h29) (some (.undef, h29))) fun x93_42 h42 =>
 gD x86_30 true fun w43 =>
 oB (cond w43 (some y0_2) (some .undef)) fun x94_44 =>
 gD x86_30 true fun w45 =>
 oB (cond w45 (oNil x94_44) (some .undef)) fun x95_46 =>
 gD x86_30 true fun w47 =>
 oB (cond w47 (oFA 1 x95_46) (some .undef)) fun x96_48 =>
 gD x86_30 true fun w49 =>
 oB (cond w49 (oLd h42 x96_48) (some .undef)) fun x97_50 =>
 gD x86_30 true fun w51 =>
 oB (cond w51 (bSub x93_42 x97_50) (some .undef)) fun x98_52 =>
 gD x86_30 true fun w53 =>
 oB (cond w53 (some y1_2) (some .undef)) fun x99_54 =>
 gD x86_30 true fun w55 =>
 oB (cond w55 (bLe x98_52 x99_54) (some .undef)) fun x100_56 =>
 oB (oPick x86_30 x100_56 (.bool false)) fun x101_57 =>
 ask1 true (oLd h25 x82_27) x83_28 (
 ask1 w39 (oLd h29 x91_38) x92_40 (
 ask1 w49 (oLd h29 x96_48) x97_50 (
 ask1 w49 (oLd h42 x96_48) x97_50 (
 ci x101_57 (
 j1 h42) (
 oP (call n_scan_scanner_brk [y0_2, x78_24] h42) fun x106_58 h58 =>
 oB (bAdd x78_24 x106_58) fun x107_59 =>
 oP (call n_scan_scanner_token [y0_2, (I 19), x107_59] h58) fun x108_60 h60 =>
 j20 y1_2 y0_2 h60)))))) (
 j1 h17)) y1_0 y0_0 h0) fun f0 =>
 oB (oNil x0) fun x10_61 =>
 oB (oFA 1 x10_61) fun x11_62 =>
 oB (oLd h x11_62) fun x12_63 =>
 oP (call n_scan_scanner_blanks [x0, x12_63] h) fun x13_64 h64 =>
 oB (oNil x0) fun x16_65 =>
 oB (oFA 1 x16_65) fun x17_66 =>
 oB (oLd h64 x17_66) fun x18_67 =>
 oB (bGt x13_64 x18_67) fun x19_68 =>
 jnF 2 (fun z1_69 z0_69 h69 =>
 oB (oNil z0_69) fun x25_70 =>
 oB (oFA 1 x25_70) fun x26_71 =>
 oB (oLd h69 x26_71) fun x27_72 =>
 oP (call n_scan_scanner_line [z0_69, x27_72] h69) fun x28_73 h73 =>
 oB (oNil z0_69) fun x31_74 =>
 oB (oFA 1 x31_74) fun x32_75 =>
 oB (oLd h73 x32_75) fun x33_76 =>
 oB (bGt x28_73 x33_76) fun x34_77 =>
 jnF 2 (fun z1_78 z0_78 h78 =>
 oB (oNil z0_78) fun x40_79 =>
 oB (oFA 1 x40_79) fun x41_80 =>
 oB (oLd h78 x41_80) fun x42_81 =>
 oP (call n_scan_scanner_brk [z0_78, x42_81] h78) fun x43_82 h82 =>
 oB (bEq .no x43_82 (I 0)) fun x45_83 =>
 ci x45_83 (
 some (.tup [], h82)) (
 oB (oNil z0_78) fun x48_84 =>
 oB (oFA 1 x48_84) fun x49_85 =>
 oB (oLd h82 x49_85) fun x50_86 =>
 oB (bAdd x50_86 x43_82) fun x52_87 =>
 oP (call n_scan_scanner_token [z0_78, (I 1), x52_87] h82) fun x53_88 h88 =>
 jnF 0 (fun h89 =>
 some (.tup [], h89)) fun j89 =>
 lpF 2 n (fun f90 y1_90 y0_90 h90 =>
 oB' (nx 19 h90) fun h91 =>
 oB (oNil y0_90) fun x55_92 =>
 oB (oFA 1 x55_92) fun x56_93 =>
 oB (oLd h91 x56_93) fun x57_94 =>
 oB (oNil y0_90) fun x59_95 =>
 oB (oFA 0 x59_95) fun x60_96 =>
 oB (oLd h91 x60_96) fun x61_97 =>
 oB (oLen x61_97) fun x62_98 =>
 oB (bLt x57_94 x62_98) fun x63_99 =>
 oB (gq x63_99 true (some y0_90)) fun x65_100 =>
 oB (gq x63_99 true (some y0_90)) fun x66_101 =>
 oB (gq x63_99 true (oNil x66_101)) fun x67_102 =>
 oB (gq x63_99 true (oFA 1 x67_102)) fun x68_103 =>
 oB (gq x63_99 true (oLd h91 x68_103)) fun x69_104 =>
 oP (gw x63_99 true (call n_scan_scanner_mark [x65_100, x69_104] h91) h91) fun x70_105 h105 =>
 oB (gq x63_99 true (bEq .no x70_105 (I 0))) fun x71_106 =>
 oB (oPick x63_99 x71_106 (.bool false)) fun x72_107 =>
 ci x72_107 (
 jnF 2 (fun z1_108 z0_108 h108 =>
 f90 z1_108 z0_108 h108) fun j108 =>
 oB (oNil y0_90) fun x75_109 =>
 oB (oFA 1 x75_109) fun x76_110 =>
 oB (oLd h105 x76_110) fun x77_111 =>
 oP (call n_scan_scanner_line [y0_90, x77_111] h105) fun x78_112 h112 =>
 oB' (nx 23 h112) fun h113 =>
 oB (oNil y0_90) fun x81_114 =>
 oB (oFA 1 x81_114) fun x82_115 =>
 oB (oLd h113 x82_115) fun x83_116 =>
 oP (call n_scan_scanner_blanks [y0_90, x83_116] h113) fun x84_117 h117 =>
 oB (bNe .no x84_117 x78_112) fun x86_118 =>
 gD x86_118 true fun w119 =>
 oB (cond w119 (some y0_90) (some .undef)) fun x88_120 =>
 gD x86_118 true fun w121 =>
 oB (cond w121 (some y0_90) (some .undef)) fun x89_122 =>
 gD x86_118 true fun w123 =>
 oB (cond w123 (oNil x89_122) (some .undef)) fun x90_124 =>
 gD x86_118 true fun w125 =>
 oB (cond w125 (oFA 1 x90_124) (some .undef)) fun x91_126 =>
 gD x86_118 true fun w127 =>
 oB (cond w127 (oLd h117 x91_126) (some .undef)) fun x92_128 =>
 gD x86_118 true fun w129 =>
 oP (cond w129 (call n_scan_scanner_spaces [x88_120, x92_128] h117) (some (.undef, h117))) fun x93_130 h130 =>
 gD x86_118 true fun w131 =>
 oB (cond w131 (some y0_90) (some .undef)) fun x94_132 =>
 gD x86_118 true fun w133 =>
 oB (cond w133 (oNil x94_132) (some .undef)) fun x95_134 =>
 gD x86_118 true fun w135 =>
 oB (cond w135 (oFA 1 x95_134) (some .undef)) fun x96_136 =>
 gD x86_118 true fun w137 =>
 oB (cond w137 (oLd h130 x96_136) (some .undef)) fun x97_138 =>
 gD x86_118 true fun w139 =>
 oB (cond w139 (bSub x93_130 x97_138) (some .undef)) fun x98_140 =>
 gD x86_118 true fun w141 =>
 oB (cond w141 (some y1_90) (some .undef)) fun x99_142 =>
 gD x86_118 true fun w143 =>
 oB (cond w143 (bLe x98_140 x99_142) (some .undef)) fun x100_144 =>
 oB (oPick x86_118 x100_144 (.bool false)) fun x101_145 =>
 ask1 true (oLd h113 x82_115) x83_116 (
 ask1 w127 (oLd h117 x91_126) x92_128 (
 ask1 w137 (oLd h117 x96_136) x97_138 (
 ask1 w137 (oLd h130 x96_136) x97_138 (
 ci x101_145 (
 j89 h130) (
 oP (call n_scan_scanner_brk [y0_90, x78_112] h130) fun x106_146 h146 =>
 oB (bAdd x78_112 x106_146) fun x107_147 =>
 oP (call n_scan_scanner_token [y0_90, (I 19), x107_147] h146) fun x108_148 h148 =>
 j108 y1_90 y0_90 h148)))))) (
 j89 h105)) z1_78 z0_78 h88)) fun j78 =>
 ci x34_77 (
 oP (call n_scan_scanner_token [z0_69, (I 4), x28_73] h73) fun x37_149 h149 =>
 j78 z1_69 z0_69 h149) (
 j78 z1_69 z0_69 h73)) fun j69 =>
 ci x19_68 (
 oP (call n_scan_scanner_token [x0, (I 3), x13_64] h64) fun x22_150 h150 =>
 j69 x1 x0 h150) (
 j69 x1 x0 h64)
theorem o_scan_scanner_texts : FnOK Tryz.prog n_scan_scanner_texts (a2 f_scan_scanner_texts) := ok2 mixed Tryz.func159 (by kernel_rfl)
/- corrector/runes.Next -/
noncomputable def f_runes_Next (n : Nat) (call : Caller)  (x0 : AV) (h : AH) : Ans :=
 oB (oLen x0) fun x8_0 =>
 oB (bEq .no x8_0 (I 0)) fun x9_1 =>
 ci x9_1 (
 some (.tup [(.int .i32 (.negSucc 0)), (I 0)], h)) (
 oB (oLen x0) fun x12_2 =>
 oB (evQ (.minI (.c x12_2) [(.c (I 4))]) .e h) fun x13_3 =>
 oB (evQ (.sl 1 (.c x0) none (some (.c x13_3)) none) .e h) fun x14_4 =>
 oB (evQ (.b2s (.c x14_4)) .e h) fun x15_5 =>
 oP (evW (.rangeS (.c x15_5)) .e h) fun x17_6 h6 =>
 jnF 2 (fun z4_7 z2_7 h7 =>
 oB (bEq .no z2_7 (R 65533)) fun x40_8 =>
 oB (gq x40_8 true (some z4_7)) fun x42_9 =>
 oB (gq x40_8 true (oLenS x42_9)) fun x43_10 =>
 oB (gq x40_8 true (bLt x43_10 (I 3))) fun x44_11 =>
 oB (oPick x40_8 x44_11 (.bool false)) fun x45_12 =>
 ci x45_12 (
 some (.tup [(.int .i32 (.negSucc 0)), (I 1)], h7)) (
 oB (oLenS z4_7) fun x48_13 =>
 some (.tup [z2_7, x48_13], h7))) fun j7 =>
 lpF 3 n (fun f14 y17_14 y4_14 y2_14 h14 =>
 oP (evW (.nextS (.c y17_14)) .e h14) fun x18_15 h15 =>
 oB (oEx 0 x18_15) fun x19_16 =>
 ci x19_16 (
 jnF 3 (fun z17_17 z4_17 z2_17 h17 =>
 f14 z17_17 z4_17 z2_17 h17) fun j17 =>
 oB (oEx 1 x18_15) fun x20_18 =>
 oB (oEx 2 x18_15) fun x21_19 =>
 jnF 3 (fun z17_20 z6_20 z4_20 h20 =>
 j17 z17_20 z4_20 z6_20 h20) fun j20 =>
 oB (bGt x20_18 (I 0)) fun x24_21 =>
 oB (gq x24_21 true (some y2_14)) fun x26_22 =>
 oB (gq x24_21 true (bEq .no x26_22 (R 65533))) fun x27_23 =>
 oB (oPick x24_21 x27_23 (.bool false)) fun x28_24 =>
 oB (gq x28_24 true (some x20_18)) fun x30_25 =>
 oB (gq x28_24 true (bLt x30_25 (I 3))) fun x31_26 =>
 oB (oPick x28_24 x31_26 (.bool false)) fun x32_27 =>
 ci x32_27 (
 some (.tup [(.int .i32 (.negSucc 0)), (I 1)], h15)) (
 oB (bGt x20_18 (I 0)) fun x35_28 =>
 ci x35_28 (
 some (.tup [y2_14, x20_18], h15)) (
 j20 y17_14 x21_19 y4_14 h15))) (
 j7 y4_14 y2_14 h15)) x17_6 x15_5 (R 0) h6)
theorem o_runes_Next : FnOK Tryz.prog n_runes_Next (a1 f_runes_Next) := ok1 mixed Tryz.func160 (by kernel_rfl)
/- (*corrector/scan.scanner).plain -/
noncomputable def f_scan_scanner_plain (n : Nat) (call : Caller)  (x0 : AV) (h : AH) : Ans :=
 scF n fun m0 => jnF 4 (lpF 4 m0 fun f0 y5_0 y4_0 y3_0 y0_0 h0 =>
 oB' (nx 12 h0) fun h1 =>
 oB (oNil y0_0) fun x26_2 =>
 oB (oFA 0 x26_2) fun x27_3 =>
 oB (oLd h1 x27_3) fun x28_4 =>
 oB (oNil y0_0) fun x30_5 =>
 oB (oFA 1 x30_5) fun x31_6 =>
 oB (oLd h1 x31_6) fun x32_7 =>
 oB (evQ (.sl 1 (.c x28_4) (some (.c x32_7)) (some (.c y3_0)) none) .e h1) fun x34_8 =>
 oB (evQ (.b2s (.c x34_8)) .e h1) fun x35_9 =>
 oP (evW (.rangeS (.c x35_9)) .e h1) fun x36_10 h10 =>
 jnF 1 (fun z4_11 h11 =>
 some (z4_11, h11)) fun j11 =>
 lpF 5 n (fun f12 y36_12 y5_12 y4_12 y3_12 y0_12 h12 =>
 oP (evW (.nextS (.c y36_12)) .e h12) fun x37_13 h13 =>
 oB (oEx 0 x37_13) fun x38_14 =>
 ci x38_14 (
 jnF 5 (fun z36_15 z5_15 z4_15 z3_15 z0_15 h15 =>
 f12 z36_15 z5_15 z4_15 z3_15 z0_15 h15) fun j15 =>
 oB (oEx 1 x37_13) fun x39_16 =>
 oB (oEx 2 x37_13) fun x40_17 =>
 oB (oNil y0_12) fun x42_18 =>
 oB (oFA 1 x42_18) fun x43_19 =>
 oB (oLd h13 x43_19) fun x44_20 =>
 oB (bAdd x44_20 x39_16) fun x46_21 =>
 oB (oNil y0_12) fun x49_22 =>
 oB (oFA 0 x49_22) fun x50_23 =>
 oB (oLd h13 x50_23) fun x51_24 =>
 oB (evQ (.sl 1 (.c x51_24) (some (.c x46_21)) (some (.c y3_12)) none) .e h13) fun x54_25 =>
 oP (call n_runes_Next [x54_25] h13) fun x55_26 h26 =>
 oB (oEx 0 x55_26) fun x56_27 =>
 oB (oEx 1 x55_26) fun x57_28 =>
 jnF 7 (fun z36_29 z10_29 z8_29 z6_29 z4_29 z3_29 z0_29 h29 =>
 oB (bEq .no z8_29 (R 32)) fun x97_30 =>
 oB (gq x97_30 false (some z8_29)) fun x99_31 =>
 oB (gq x97_30 false (bEq .no x99_31 (R 9))) fun x100_32 =>
 oB (oPick x97_30 (.bool true) x100_32) fun x101_33 =>
 oB (evQ (.un .not (.c x101_33)) .e h29) fun x103_34 =>
 jnF 5 (fun z36_35 z5_35 z4_35 z3_35 z0_35 h35 =>
 j15 z36_35 z5_35 z4_35 z3_35 z0_35 h35) fun j35 =>
 ci x103_34 (
 oB (bAdd z6_29 z10_29) fun x106_36 =>
 j35 z36_29 x101_33 x106_36 z3_29 z0_29 h29) (
 j35 z36_29 x101_33 z4_29 z3_29 z0_29 h29)) fun j29 =>
 oB (bGt x39_16 (I 0)) fun x60_37 =>
 oB (gq x60_37 true (some x56_27)) fun x62_38 =>
 oB (gq x60_37 true (bLt x62_38 (R 0))) fun x63_39 =>
 oB (gq x60_37 true (some x63_39)) fun x64_40 =>
 oB (gq x64_40 false (some y0_12)) fun x65_41 =>
 oB (gq x64_40 false (some x46_21)) fun x66_42 =>
 oP (gw x64_40 false (call n_scan_scanner_colon [x65_41, x66_42] h26) h26) fun x67_43 h43 =>
 oB (gq x60_37 true (oPick x64_40 (.bool true) x67_43)) fun x68_44 =>
 oB (gq x60_37 true (some x68_44)) fun x69_45 =>
 oB (gq x69_45 false (some x40_17)) fun x70_46 =>
 oB (gq x69_45 false (bEq .no x70_46 (R 35))) fun x71_47 =>
 oB (gq x69_45 false (some x71_47)) fun x72_48 =>
 oB (gq x72_48 true (some y5_12)) fun x73_49 =>
 oB (gq x69_45 false (oPick x72_48 x73_49 (.bool false))) fun x74_50 =>
 oB (gq x60_37 true (oPick x69_45 (.bool true) x74_50)) fun x75_51 =>
 oB (oPick x60_37 x75_51 (.bool false)) fun x76_52 =>
 ci x76_52 (
 j11 y4_12 h43) (
 oB (bGt x39_16 (I 0)) fun x79_53 =>
 oB (gq x79_53 true (some y0_12)) fun x81_54 =>
 oB (gq x79_53 true (oNil x81_54)) fun x82_55 =>
 oB (gq x79_53 true (oFA 3 x82_55)) fun x83_56 =>
 oB (gq x79_53 true (oLd h43 x83_56)) fun x84_57 =>
 oB (gq x79_53 true (bGt x84_57 (I 0))) fun x85_58 =>
 oB (oPick x79_53 x85_58 (.bool false)) fun x86_59 =>
 oB (gq x86_59 true (some x40_17)) fun x88_60 =>
 oB (gq x86_59 true (bLt x88_60 (R 128))) fun x89_61 =>
 oB (oPick x86_59 x89_61 (.bool false)) fun x90_62 =>
 oB (gq x90_62 true (some x40_17)) fun x92_63 =>
 oB (gq x90_62 true (oInt .u8 x92_63)) fun x93_64 =>
 oP (gw x90_62 true (call n_chars_Flow [x93_64] h43) h43) fun x94_65 h65 =>
 oB (oPick x90_62 x94_65 (.bool false)) fun x95_66 =>
 ci x95_66 (
 j11 y4_12 h65) (
 j29 y36_12 x57_28 x40_17 x46_21 y4_12 y3_12 y0_12 h65))) (
 j11 y4_12 h13)) x36_10 y5_0 y4_0 y3_0 y0_0 h10) fun f0 =>
 oB (oNil x0) fun x13_67 =>
 oB (oFA 1 x13_67) fun x14_68 =>
 oB (oLd h x14_68) fun x15_69 =>
 oP (call n_scan_scanner_line [x0, x15_69] h) fun x16_70 h70 =>
 oB (oNil x0) fun x18_71 =>
 oB (oFA 1 x18_71) fun x19_72 =>
 oB (oLd h70 x19_72) fun x20_73 =>
 oB (oNil x0) fun x22_74 =>
 oB (oFA 1 x22_74) fun x23_75 =>
 oB (oLd h70 x23_75) fun x24_76 =>
 oB' (nx 12 h70) fun h77 =>
 oB (oNil x0) fun x26_78 =>
 oB (oFA 0 x26_78) fun x27_79 =>
 oB (oLd h77 x27_79) fun x28_80 =>
 oB (oNil x0) fun x30_81 =>
 oB (oFA 1 x30_81) fun x31_82 =>
 oB (oLd h77 x31_82) fun x32_83 =>
 oB (evQ (.sl 1 (.c x28_80) (some (.c x32_83)) (some (.c x16_70)) none) .e h77) fun x34_84 =>
 oB (evQ (.b2s (.c x34_84)) .e h77) fun x35_85 =>
 oP (evW (.rangeS (.c x35_85)) .e h77) fun x36_86 h86 =>
 jnF 1 (fun z4_87 h87 =>
 some (z4_87, h87)) fun j87 =>
 lpF 5 n (fun f88 y36_88 y5_88 y4_88 y3_88 y0_88 h88 =>
 oP (evW (.nextS (.c y36_88)) .e h88) fun x37_89 h89 =>
 oB (oEx 0 x37_89) fun x38_90 =>
 ci x38_90 (
 jnF 5 (fun z36_91 z5_91 z4_91 z3_91 z0_91 h91 =>
 f88 z36_91 z5_91 z4_91 z3_91 z0_91 h91) fun j91 =>
 oB (oEx 1 x37_89) fun x39_92 =>
 oB (oEx 2 x37_89) fun x40_93 =>
 oB (oNil y0_88) fun x42_94 =>
 oB (oFA 1 x42_94) fun x43_95 =>
 oB (oLd h89 x43_95) fun x44_96 =>
 oB (bAdd x44_96 x39_92) fun x46_97 =>
 oB (oNil y0_88) fun x49_98 =>
 oB (oFA 0 x49_98) fun x50_99 =>
 oB (oLd h89 x50_99) fun x51_100 =>
 oB (evQ (.sl 1 (.c x51_100) (some (.c x46_97)) (some (.c y3_88)) none) .e h89) fun x54_101 =>
 oP (call n_runes_Next [x54_101] h89) fun x55_102 h102 =>
 oB (oEx 0 x55_102) fun x56_103 =>
 oB (oEx 1 x55_102) fun x57_104 =>
 jnF 7 (fun z36_105 z10_105 z8_105 z6_105 z4_105 z3_105 z0_105 h105 =>
 oB (bEq .no z8_105 (R 32)) fun x97_106 =>
 oB (gq x97_106 false (some z8_105)) fun x99_107 =>
 oB (gq x97_106 false (bEq .no x99_107 (R 9))) fun x100_108 =>
 oB (oPick x97_106 (.bool true) x100_108) fun x101_109 =>
 oB (evQ (.un .not (.c x101_109)) .e h105) fun x103_110 =>
 jnF 5 (fun z36_111 z5_111 z4_111 z3_111 z0_111 h111 =>
 j91 z36_111 z5_111 z4_111 z3_111 z0_111 h111) fun j111 =>
 ci x103_110 (
 oB (bAdd z6_105 z10_105) fun x106_112 =>
 j111 z36_105 x101_109 x106_112 z3_105 z0_105 h105) (
 j111 z36_105 x101_109 z4_105 z3_105 z0_105 h105)) fun j105 =>
 oB (bGt x39_92 (I 0)) fun x60_113 =>
 oB (gq x60_113 true (some x56_103)) fun x62_114 =>
 oB (gq x60_113 true (bLt x62_114 (R 0))) fun x63_115 =>
 oB (gq x60_113 true (some x63_115)) fun x64_116 =>
 oB (gq x64_116 false (some y0_88)) fun x65_117 =>
 oB (gq x64_116 false (some x46_97)) fun x66_118 =>
 oP (gw x64_116 false (call n_scan_scanner_colon [x65_117, x66_118] h102) h102) fun x67_119 h119 =>
 oB (gq x60_113 true (oPick x64_116 (.bool true) x67_119)) fun x68_120 =>
 oB (gq x60_113 true (some x68_120)) fun x69_121 =>
 oB (gq x69_121 false (some x40_93)) fun x70_122 =>
 oB (gq x69_121 false (bEq .no x70_122 (R 35))) fun x71_123 =>
 oB (gq x69_121 false (some x71_123)) fun x72_124 =>
 oB (gq x72_124 true (some y5_88)) fun x73_125 =>
 oB (gq x69_121 false (oPick x72_124 x73_125 (.bool false))) fun x74_126 =>
 oB (gq x60_113 true (oPick x69_121 (.bool true) x74_126)) fun x75_127 =>
 oB (oPick x60_113 x75_127 (.bool false)) fun x76_128 =>
 ci x76_128 (
 j87 y4_88 h119) (
 oB (bGt x39_92 (I 0)) fun x79_129 =>
 oB (gq x79_129 true (some y0_88)) fun x81_130 =>
 oB (gq x79_129 true (oNil x81_130)) fun x82_131 =>
 oB (gq x79_129 true (oFA 3 x82_131)) fun x83_132 =>
 oB (gq x79_129 true (oLd h119 x83_132)) fun x84_133 =>
 oB (gq x79_129 true (bGt x84_133 (I 0))) fun x85_134 =>
 oB (oPick x79_129 x85_134 (.bool false)) fun x86_135 =>
 oB (gq x86_135 true (some x40_93)) fun x88_136 =>
 oB (gq x86_135 true (bLt x88_136 (R 128))) fun x89_137 =>
 oB (oPick x86_135 x89_137 (.bool false)) fun x90_138 =>
 oB (gq x90_138 true (some x40_93)) fun x92_139 =>
 oB (gq x90_138 true (oInt .u8 x92_139)) fun x93_140 =>
 oP (gw x90_138 true (call n_chars_Flow [x93_140] h119) h119) fun x94_141 h141 =>
 oB (oPick x90_138 x94_141 (.bool false)) fun x95_142 =>
 ci x95_142 (
 j87 y4_88 h141) (
 j105 y36_88 x57_104 x40_93 x46_97 y4_88 y3_88 y0_88 h141))) (
 j87 y4_88 h89)) x36_86 (.bool false) x20_73 x16_70 x0 h86
theorem o_scan_scanner_plain : FnOK Tryz.prog n_scan_scanner_plain (a1 f_scan_scanner_plain) := ok1 mixed Tryz.func161 (by kernel_rfl)
/- corrector/walk.Order$1 -/
noncomputable def f_walk_Order_1 (n : Nat) (call : Caller)  (x0 x1 x2 x3 x4 : AV) (h : AH) : Ans :=
 oB (oLdN 1 h x1) fun x8_0 =>
 oP (call n_walk_has [x8_0, x0] h) fun x10_1 h1 =>
 oB (evQ (.un .not (.c x10_1)) .e h1) fun x11_2 =>
 oB (gq x11_2 false (oLd h1 x2)) fun x13_3 =>
 oB (gq x11_2 false (some x0)) fun x14_4 =>
 oB (gq x11_2 false (oIx 1 x13_3 x14_4)) fun x15_5 =>
 oB (gq x11_2 false (oLd h1 x15_5)) fun x16_6 =>
 oB (oPick x11_2 (.bool true) x16_6) fun x17_7 =>
 ci x17_7 (
 some (.tup [], h1)) (
 oB (oLd h1 x2) fun x18_8 =>
 oB (oIx 1 x18_8 x0) fun x20_9 =>
 oP (oSt 1 h1 x20_9 (.bool true)) fun _ h10 =>
 oB (oLd h10 x3) fun x21_11 =>
 oP (oBuildSl h10 3 1 1 [(I 0)] [(0, 1, x0)]) fun x23_12 h12 =>
 oP (evW (.append 3 1 8 [(I 0)] (.c x21_11) (.c x23_12)) .e h12) fun x24_13 h13 =>
 oP (oSt 1 h13 x3 x24_13) fun _ h14 =>
 oB (oFA 0 x1) fun x25_15 =>
 oB (oLd h14 x25_15) fun x26_16 =>
 oB (oIx 6 x26_16 x0) fun x28_17 =>
 oB (oFA 4 x28_17) fun x29_18 =>
 oB (oLd h14 x29_18) fun x30_19 =>
 oB (oLen x30_19) fun x31_20 =>
 jnF 0 (fun h21 =>
 some (.tup [], h21)) fun j21 =>
 lpF 4 n (fun f22 y32_22 y31_22 y30_22 y4_22 h22 =>
 oB (bLt y32_22 y31_22) fun x33_23 =>
 ci x33_23 (
 jnF 4 (fun z32_24 z31_24 z30_24 z4_24 h24 =>
 oB (bAdd z32_24 (I 1)) fun x39_25 =>
 f22 x39_25 z31_24 z30_24 z4_24 h24) fun j24 =>
 oB (oIx 1 y30_22 y32_22) fun x34_26 =>
 oB (oLd h22 x34_26) fun x35_27 =>
 oB (oLd h22 y4_22) fun x36_28 =>
 oP (wOf (.callV (.c x36_28) [(.c x35_27)]) call .e h22) fun x38_29 h29 =>
 j24 y32_22 y31_22 y30_22 y4_22 h29) (
 j21 h22)) (I 0) x31_20 x30_19 x4 h14)
theorem o_walk_Order_1 : FnOK Tryz.prog n_walk_Order_1 (a5 f_walk_Order_1) := ok5 mixed Tryz.func162 (by kernel_rfl)
/- corrector/walk.ends -/
noncomputable def f_walk_ends (n : Nat) (call : Caller)  (x0 x1 x2 : AV) (h : AH) : Ans :=
 jnF 0 (fun h0 =>
 oB (some (.iface 3 (I 0))) fun x61_1 =>
 some (x61_1, h0)) fun j0 =>
 oB (bLt x1 x2) fun x10_2 =>
 oB (gq x10_2 true (some x1)) fun x12_3 =>
 oB (gq x10_2 true (bGe x12_3 (I 0))) fun x13_4 =>
 oB (oPick x10_2 x13_4 (.bool false)) fun x14_5 =>
 oB (gq x14_5 true (some x2)) fun x16_6 =>
 oB (gq x14_5 true (some x0)) fun x17_7 =>
 oB (gq x14_5 true (oLen x17_7)) fun x18_8 =>
 oB (gq x14_5 true (bLe x16_6 x18_8)) fun x19_9 =>
 oB (oPick x14_5 x19_9 (.bool false)) fun x20_10 =>
 ci x20_10 (
 oB' (nx 14 h) fun h11 =>
 oB (oIx 3 x0 x1) fun x23_12 =>
 oB (oFA 1 x23_12) fun x24_13 =>
 oB (oLd h11 x24_13) fun x25_14 =>
 oB (bSub x2 (I 1)) fun x28_15 =>
 oB (oIx 3 x0 x28_15) fun x29_16 =>
 oB (oFA 2 x29_16) fun x30_17 =>
 oB (oLd h11 x30_17) fun x31_18 =>
 oB (oBuild [(I 0), (I 0)] [(0, 1, x25_14), (1, 1, x31_18)]) fun x32_19 =>
 oB (some (.iface 146 x32_19)) fun x33_20 =>
 some (x33_20, h11)) (
 oB (bGe x1 (I 0)) fun x36_21 =>
 oB (gq x36_21 true (some x1)) fun x38_22 =>
 oB (gq x36_21 true (some x0)) fun x39_23 =>
 oB (gq x36_21 true (oLen x39_23)) fun x40_24 =>
 oB (gq x36_21 true (bLt x38_22 x40_24)) fun x41_25 =>
 oB (oPick x36_21 x41_25 (.bool false)) fun x42_26 =>
 ci x42_26 (
 oB (oIx 3 x0 x1) fun x45_27 =>
 oB (oFA 1 x45_27) fun x46_28 =>
 oB (oLd h x46_28) fun x47_29 =>
 oB (some (.iface 3 x47_29)) fun x48_30 =>
 some (x48_30, h)) (
 oB (oLen x0) fun x51_31 =>
 oB (bGt x51_31 (I 0)) fun x52_32 =>
 ci x52_32 (
 oB (oLen x0) fun x55_33 =>
 oB (bSub x55_33 (I 1)) fun x56_34 =>
 oB (oIx 3 x0 x56_34) fun x57_35 =>
 oB (oFA 2 x57_35) fun x58_36 =>
 oB (oLd h x58_36) fun x59_37 =>
 oB (some (.iface 3 x59_37)) fun x60_38 =>
 some (x60_38, h)) (
 j0 h)))
theorem o_walk_ends : FnOK Tryz.prog n_walk_ends (a3 f_walk_ends) := ok3 mixed Tryz.func163 (by kernel_rfl)
/- corrector/diag.Sort$1 -/
noncomputable def f_diag_Sort_1 (n : Nat) (call : Caller)  (x0 x1 : AV) (h : AH) : Ans :=
 oP (oNew h 112 (AV.cells x0)) fun x2_0 h0 =>
 oP (oNew h0 112 (AV.cells x1)) fun x3_1 h1 =>
 oB (oLdN 3 h1 x2_0) fun x5_2 =>
 oB (some (.iface 112 x5_2)) fun x6_3 =>
 oB (oLdN 3 h1 x3_1) fun x7_4 =>
 oB (some (.iface 112 x7_4)) fun x8_5 =>
 oP (call n_diag_order [x6_3, x8_5] h1) fun x9_6 h6 =>
 some (x9_6, h6)
theorem o_diag_Sort_1 : FnOK Tryz.prog n_diag_Sort_1 (a2 f_diag_Sort_1) := ok2 mixed Tryz.func164 (by kernel_rfl)
/- corrector/diag.order -/
noncomputable def f_diag_order (n : Nat) (call : Caller)  (x0 x1 : AV) (h : AH) : Ans :=
 oB (oTa 112 (.agg [(I 0), (I 0), (I 0)]) true x0) fun x11_0 =>
 oB (oEx 0 x11_0) fun x12_1 =>
 oB (oEx 1 x11_0) fun x13_2 =>
 oP (oNew h 112 [(I 0), (I 0), (I 0)]) fun x5_3 h3 =>
 oP (oSt 3 h3 x5_3 x12_1) fun _ h4 =>
 oB (oTa 112 (.agg [(I 0), (I 0), (I 0)]) true x1) fun x16_5 =>
 oB (oEx 0 x16_5) fun x17_6 =>
 oB (oEx 1 x16_5) fun x18_7 =>
 oP (oNew h4 112 [(I 0), (I 0), (I 0)]) fun x7_8 h8 =>
 oP (oSt 3 h8 x7_8 x17_6) fun _ h9 =>
 oB (evQ (.un .not (.c x13_2)) .e h9) fun x20_10 =>
 oB (gq x20_10 false (some x18_7)) fun x22_11 =>
 oB (gq x20_10 false (evQ (.un .not (.c x22_11)) .e h9)) fun x23_12 =>
 oB (oPick x20_10 (.bool true) x23_12) fun x24_13 =>
 ci x24_13 (
 some ((I 0), h9)) (
 oB' (nx 18 h9) fun h14 =>
 oB (oFA 1 x5_3) fun x25_15 =>
 oB (oLd h14 x25_15) fun x26_16 =>
 oB (oFA 1 x7_8) fun x27_17 =>
 oB (oLd h14 x27_17) fun x28_18 =>
 oP (call n_cmp_Compare_int [x26_16, x28_18] h14) fun x29_19 h19 =>
 oB (oFA 2 x5_3) fun x30_20 =>
 oB (oLd h19 x30_20) fun x31_21 =>
 oB (oFA 2 x7_8) fun x32_22 =>
 oB (oLd h19 x32_22) fun x33_23 =>
 oP (call n_cmp_Compare_int [x31_21, x33_23] h19) fun x34_24 h24 =>
 oB (oFA 0 x5_3) fun x35_25 =>
 oB (oLd h24 x35_25) fun x36_26 =>
 oB (oFA 0 x7_8) fun x37_27 =>
 oB (oLd h24 x37_27) fun x38_28 =>
 oP (call n_cmp_Compare_int [x36_26, x38_28] h24) fun x39_29 h29 =>
 fl1 true (evF (.buildSlice 3 1 3 [(I 0), (I 0), (I 0)] [(0, 1, (.c x29_19)), (1, 1, (.c x34_24)), (2, 1, (.c x39_29))]) .e) (Nat.add h9.next 15) fun x40_30 o30 =>
 oB' (lay1 (Nat.add h9.next 15) o30 h29) fun v31 =>
 oP (call n_cmp_Or_int [x40_30] v31) fun x41_32 h32 =>
 ask1 true (oLd h14 x25_15) x26_16 (
 ask1 true (oLd h14 x27_17) x28_18 (
 ask1 true (oLd h14 x30_20) x31_21 (
 ask1 true (oLd h19 x30_20) x31_21 (
 ask1 true (oLd h14 x32_22) x33_23 (
 ask1 true (oLd h19 x32_22) x33_23 (
 ask1 true (oLd h14 x35_25) x36_26 (
 ask1 true (oLd h19 x35_25) x36_26 (
 ask1 true (oLd h24 x35_25) x36_26 (
 ask1 true (oLd h14 x37_27) x38_28 (
 ask1 true (oLd h19 x37_27) x38_28 (
 ask1 true (oLd h24 x37_27) x38_28 (
 some (x41_32, h32))))))))))))))
theorem o_diag_order : FnOK Tryz.prog n_diag_order (a2 f_diag_order) := ok2 mixed Tryz.func165 (by kernel_rfl)
/- slices.Grow[[]corrector/api.Diag,corrector/api.Diag] -/
noncomputable def f_slices_Grow_api_Diag_api_Diag (n : Nat) (call : Caller)  (x0 x1 : AV) (h : AH) : Ans :=
 oB (bLt x1 (I 0)) fun x6_0 =>
 jnF 2 (fun z1_1 z0_1 h1 =>
 oB (evQ (.capSl (.c z0_1)) .e h1) fun x10_2 =>
 oB (oLen z0_1) fun x12_3 =>
 oB (bSub x10_2 x12_3) fun x13_4 =>
 oB (bSub z1_1 x13_4) fun x14_5 =>
 oB (bGt x14_5 (I 0)) fun x16_6 =>
 jnF 1 (fun z0_7 h7 =>
 some (z0_7, h7)) fun j7 =>
 ci x16_6 (
 oB (evQ (.capSl (.c z0_1)) .e h1) fun x19_8 =>
 oB (evQ (.sl 3 (.c z0_1) none (some (.c x19_8)) none) .e h1) fun x20_9 =>
 oP (evW (.grow 112 3 24 (.c x20_9) (.c x14_5)) .e h1) fun x22_10 h10 =>
 oB (oLen z0_1) fun x24_11 =>
 oB (evQ (.sl 3 (.c x22_10) none (some (.c x24_11)) none) .e h10) fun x25_12 =>
 j7 x25_12 h10) (
 j7 z0_1 h1)) fun j1 =>
 ci x6_0 (
 oB (some (.iface 9 (.str [99, 97, 110, 110, 111, 116, 32, 98, 101, 32, 110, 101, 103, 97, 116, 105, 118, 101]))) fun x7_13 =>
 oB (evQ (.bad) .e h) fun _ =>
 j1 x1 x0 h) (
 j1 x1 x0 h)
theorem o_slices_Grow_api_Diag_api_Diag : FnOK Tryz.prog n_slices_Grow_api_Diag_api_Diag (a2 f_slices_Grow_api_Diag_api_Diag) := ok2 mixed Tryz.func166 (by kernel_rfl)
/- corrector/diag.words -/
noncomputable def f_diag_words (n : Nat) (call : Caller)  (h : AH) : Ans :=
 oP (oBuildSl h 9 1 12 [(.str []), (.str []), (.str []), (.str []), (.str []), (.str []), (.str []), (.str []), (.str []), (.str []), (.str []), (.str [])] [(0, 1, (.str [119, 104, 97, 116])), (1, 1, (.str [98, 121, 116, 101])), (2, 1, (.str [116, 97, 98])), (3, 1, (.str [113, 117, 111, 116, 101])), (4, 1, (.str [101, 115, 99, 97, 112, 101])), (5, 1, (.str [109, 105, 120, 101, 100])), (6, 1, (.str [105, 110, 100, 101, 110, 116])), (7, 1, (.str [115, 101, 99, 111, 110, 100])), (8, 1, (.str [115, 116, 114, 97, 121])), (9, 1, (.str [111, 112, 101, 110])), (10, 1, (.str [100, 101, 101, 112])), (11, 1, (.str [97, 108, 105, 97, 115]))]) fun x1_0 h0 =>
 some (x1_0, h0)
theorem o_diag_words : FnOK Tryz.prog n_diag_words (a0 f_diag_words) := ok0 mixed Tryz.func167 (by kernel_rfl)
/- corrector/rows.Rows$1 -/
noncomputable def f_rows_Rows_1 (n : Nat) (call : Caller)  (x0 x1 x2 x3 x4 x5 : AV) (h : AH) : Ans :=
 oB (oLd h x1) fun x8_0 =>
 oB (oBuild [(I 0), (I 0), (I 0), (I 0)] [(1, 1, x8_0), (2, 1, x0)]) fun x10_1 =>
 oP (oNew h 218 [(I 0), (I 0), (I 0), (I 0)]) fun x7_2 h2 =>
 oP (oSt 4 h2 x7_2 x10_1) fun _ h3 =>
 oB (oLd h3 x2) fun x12_4 =>
 oB (oLdN 4 h3 x7_2) fun x13_5 =>
 oB (oLd h3 x3) fun x14_6 =>
 oP (call n_rows_kind [x12_4, x13_5, x14_6] h3) fun x15_7 h7 =>
 oB (oEx 0 x15_7) fun x16_8 =>
 oB (oEx 1 x15_7) fun x17_9 =>
 oB (oFA 0 x7_2) fun x18_10 =>
 oP (oSt 1 h7 x18_10 x16_8) fun _ h11 =>
 oB (oFA 3 x7_2) fun x19_12 =>
 oP (oSt 1 h11 x19_12 x17_9) fun _ h13 =>
 oB (oLd h13 x4) fun x20_14 =>
 oB (oLdN 4 h13 x7_2) fun x21_15 =>
 oP (oBuildSl h13 218 4 1 [(I 0), (I 0), (I 0), (I 0)] [(0, 4, x21_15)]) fun x22_16 h16 =>
 oP (evW (.append 218 4 32 [(I 0), (I 0), (I 0), (I 0)] (.c x20_14) (.c x22_16)) .e h16) fun x23_17 h17 =>
 oP (oSt 1 h17 x4 x23_17) fun _ h18 =>
 oB' (nx 4 h18) fun h19 =>
 oB (oLd h19 x5) fun x25_20 =>
 oP (oSt 1 h19 x1 x0) fun x0_21 h21 =>
 oP (oSt 1 h21 x3 x25_20) fun x0_22 h22 =>
 ask1 true (oLd h19 x5) x25_20 (
 ask1 true (oLd h21 x5) x25_20 (
 some (.tup [], h22)))
theorem o_rows_Rows_1 : FnOK Tryz.prog n_rows_Rows_1 (a6 f_rows_Rows_1) := ok6 mixed Tryz.func168 (by kernel_rfl)
/- corrector/rows.kind -/
noncomputable def f_rows_kind (n : Nat) (call : Caller)  (x0 x1 x2 : AV) (h : AH) : Ans :=
 oP (oNew h 218 (AV.cells x1)) fun x4_0 h0 =>
 oB (oFA 1 x4_0) fun x12_1 =>
 oB (oLd h0 x12_1) fun x13_2 =>
 oB (oFA 2 x4_0) fun x14_3 =>
 oB (oLd h0 x14_3) fun x15_4 =>
 oB (evQ (.sl 3 (.c x0) (some (.c x13_2)) (some (.c x15_4)) none) .e h0) fun x16_5 =>
 oB (oLen x16_5) fun x17_6 =>
 jnF 5 (fun z7_7 z6_7 z4_7 z2_7 z0_7 h7 =>
 oB (oFA 1 z4_7) fun x41_8 =>
 oB (oLd h7 x41_8) fun x42_9 =>
 oB (oIx 3 z0_7 x42_9) fun x43_10 =>
 oB (oFA 0 x43_10) fun x44_11 =>
 oB (oLd h7 x44_11) fun x45_12 =>
 jnF 2 (fun z7_13 z6_13 h13 =>
 some (.tup [z6_13, z7_13], h13)) fun j13 =>
 oB (bEq .no x45_12 (I 19)) fun x48_14 =>
 jnF 2 (fun z7_15 z6_15 h15 =>
 j13 z7_15 z6_15 h15) fun j15 =>
 ci x48_14 (
 j15 z7_7 (I 2) h7) (
 oB (bGt z2_7 (I 0)) fun x51_16 =>
 oB (gq x51_16 true (some x45_12)) fun x53_17 =>
 oB (gq x51_16 true (bNe .no x53_17 (I 20))) fun x54_18 =>
 oB (oPick x51_16 x54_18 (.bool false)) fun x55_19 =>
 oB (gq x55_19 true (some x45_12)) fun x57_20 =>
 oB (gq x55_19 true (bNe .no x57_20 (I 21))) fun x58_21 =>
 oB (oPick x55_19 x58_21 (.bool false)) fun x59_22 =>
 jnF 2 (fun z7_23 z6_23 h23 =>
 j15 z7_23 z6_23 h23) fun j23 =>
 ci x59_22 (
 j23 z7_7 (I 3) h7) (
 j23 z7_7 z6_7 h7))) fun j7 =>
 lpF 8 n (fun f24 y18_24 y17_24 y16_24 y7_24 y6_24 y4_24 y2_24 y0_24 h24 =>
 oB (bLt y18_24 y17_24) fun x19_25 =>
 ci x19_25 (
 jnF 8 (fun z18_26 z17_26 z16_26 z7_26 z6_26 z4_26 z2_26 z0_26 h26 =>
 oB (bAdd z18_26 (I 1)) fun x39_27 =>
 f24 x39_27 z17_26 z16_26 z7_26 z6_26 z4_26 z2_26 z0_26 h26) fun j26 =>
 oB (oIx 3 y16_24 y18_24) fun x20_28 =>
 oB (oLdN 3 h24 x20_28) fun x21_29 =>
 oP (oNew h24 92 [(I 0), (I 0), (I 0)]) fun x9_30 h30 =>
 oP (oSt 3 h30 x9_30 x21_29) fun _ h31 =>
 oB (oLdN 3 h31 x9_30) fun x22_32 =>
 oP (call n_rows_counts [x22_32] h31) fun x23_33 h33 =>
 oB (evQ (.un .not (.c x23_33)) .e h33) fun x24_34 =>
 ci x24_34 (
 j26 y18_24 y17_24 y16_24 y7_24 y6_24 y4_24 y2_24 y0_24 h33) (
 oB' (nx 7 h33) fun h35 =>
 oB (oFA 1 x9_30) fun x25_36 =>
 oB (oLd h35 x25_36) fun x26_37 =>
 oB (oLdN 4 h35 y4_24) fun x28_38 =>
 oP (call n_rows_begin [y0_24, x28_38] h35) fun x29_39 h39 =>
 oB (bSub x26_37 x29_39) fun x30_40 =>
 ask1 true (oLd h35 x25_36) x26_37 (
 ask1 true (oLd h39 x25_36) x26_37 (
 ask1 true (oLdN 4 h35 y4_24) x28_38 (
 oB (oFA 0 x9_30) fun x31_41 =>
 oB (oLd h39 x31_41) fun x32_42 =>
 oB (bEq .no x32_42 (I 20)) fun x33_43 =>
 oB (gq x33_43 false (oFA 0 x9_30)) fun x35_44 =>
 oB (gq x33_43 false (oLd h39 x35_44)) fun x36_45 =>
 oB (gq x33_43 false (bEq .no x36_45 (I 21))) fun x37_46 =>
 oB (oPick x33_43 (.bool true) x37_46) fun x38_47 =>
 jnF 5 (fun z7_48 z6_48 z4_48 z2_48 z0_48 h48 =>
 j7 z7_48 z6_48 z4_48 z2_48 z0_48 h48) fun j48 =>
 ci x38_47 (
 j48 x30_40 (I 4) y4_24 y2_24 y0_24 h39) (
 j48 x30_40 (I 5) y4_24 y2_24 y0_24 h39)))))) (
 j7 y7_24 y6_24 y4_24 y2_24 y0_24 h24)) (I 0) x17_6 x16_5 (Ineg 0) (I 1) x4_0 x2 x0 h0
theorem o_rows_kind : FnOK Tryz.prog n_rows_kind (a3 f_rows_kind) := ok3 mixed Tryz.func169 (by kernel_rfl)
/- corrector/rows.brackets -/
noncomputable def f_rows_brackets (n : Nat) (call : Caller)  (x0 x1 : AV) (h : AH) : Ans :=
 oP (oNew h 92 (AV.cells x0)) fun x2_0 h0 =>
 oB (oFA 0 x2_0) fun x5_1 =>
 oB (oLd h0 x5_1) fun x6_2 =>
 jnF 1 (fun z1_3 h3 =>
 some (z1_3, h3)) fun j3 =>
 oB (bEq .no x6_2 (I 8)) fun x8_4 =>
 jnF 3 (fun z7_5 z6_5 z1_5 h5 =>
 ci z7_5 (
 oB (bAdd z1_5 (I 1)) fun x11_6 =>
 some (x11_6, h5)) (
 oB (bEq .no z6_5 (I 10)) fun x13_7 =>
 jnF 3 (fun z12_8 z6_8 z1_8 h8 =>
 ci z12_8 (
 oB (bSub z1_8 (I 1)) fun x16_9 =>
 oB (evQ (.maxI (.c x16_9) [(.c (I 0))]) .e h8) fun x17_10 =>
 some (x17_10, h8)) (
 oB (bEq .no z6_8 (I 20)) fun x19_11 =>
 jnF 2 (fun z18_12 z1_12 h12 =>
 ci z18_12 (
 some ((I 0), h12)) (
 j3 z1_12 h12)) fun j12 =>
 ci x19_11 (
 j12 x19_11 z1_8 h8) (
 oB (bEq .no z6_8 (I 21)) fun x20_13 =>
 j12 x20_13 z1_8 h8))) fun j8 =>
 ci x13_7 (
 j8 x13_7 z6_5 z1_5 h5) (
 oB (bEq .no z6_5 (I 11)) fun x14_14 =>
 j8 x14_14 z6_5 z1_5 h5))) fun j5 =>
 ci x8_4 (
 j5 x8_4 x6_2 x1 h0) (
 oB (bEq .no x6_2 (I 9)) fun x9_15 =>
 j5 x9_15 x6_2 x1 h0)
theorem o_rows_brackets : FnOK Tryz.prog n_rows_brackets (a2 f_rows_brackets) := ok2 mixed Tryz.func170 (by kernel_rfl)
/- slices.Clone[[]corrector/api.Row,corrector/api.Row] -/
noncomputable def f_slices_Clone_api_Row_api_Row (n : Nat) (call : Caller)  (x0 : AV) (h : AH) : Ans :=
 oB (bEq .sl x0 .nils) fun x4_0 =>
 ci x4_0 (
 some (.nils, h)) (
 oP (oBuildSl h 218 4 0 [] []) fun x5_1 h1 =>
 oP (evW (.append 218 4 32 [(I 0), (I 0), (I 0), (I 0)] (.c x5_1) (.c x0)) .e h1) fun x7_2 h2 =>
 some (x7_2, h2))
theorem o_slices_Clone_api_Row_api_Row : FnOK Tryz.prog n_slices_Clone_api_Row_api_Row (a1 f_slices_Clone_api_Row_api_Row) := ok1 mixed Tryz.func171 (by kernel_rfl)
/- (*corrector/parse.parser).first -/
noncomputable def f_parse_parser_first (n : Nat) (call : Caller)  (x0 x1 x2 : AV) (h : AH) : Ans :=
 jnF 1 (fun z1_0 h0 =>
 some (z1_0, h0)) fun j0 =>
 lpF 3 n (fun f1 y2_1 y1_1 y0_1 h1 =>
 oB (bLt y1_1 y2_1) fun x9_2 =>
 oB (gq x9_2 true (some y0_1)) fun x11_3 =>
 oB (gq x9_2 true (oNil x11_3)) fun x12_4 =>
 oB (gq x9_2 true (oFA 1 x12_4)) fun x13_5 =>
 oB (gq x9_2 true (oLd h1 x13_5)) fun x14_6 =>
 oB (gq x9_2 true (some y1_1)) fun x15_7 =>
 oB (gq x9_2 true (oIx 3 x14_6 x15_7)) fun x16_8 =>
 oB (gq x9_2 true (oLdN 3 h1 x16_8)) fun x17_9 =>
 oP (gw x9_2 true (call n_parse_counts [x17_9] h1) h1) fun x18_10 h10 =>
 oB (gq x9_2 true (evQ (.un .not (.c x18_10)) .e h10)) fun x19_11 =>
 oB (oPick x9_2 x19_11 (.bool false)) fun x20_12 =>
 ci x20_12 (
 jnF 3 (fun z2_13 z1_13 z0_13 h13 =>
 f1 z2_13 z1_13 z0_13 h13) fun j13 =>
 oB (bAdd y1_1 (I 1)) fun x22_14 =>
 j13 y2_1 x22_14 y0_1 h10) (
 j0 y1_1 h10)) x2 x1 x0 h
theorem o_parse_parser_first : FnOK Tryz.prog n_parse_parser_first (a3 f_parse_parser_first) := ok3 mixed Tryz.func172 (by kernel_rfl)
/- (*corrector/parse.parser).amiss -/
noncomputable def f_parse_parser_amiss (n : Nat) (call : Caller)  (x0 x1 x2 x3 : AV) (h : AH) : Ans :=
 oP (call n_parse_parser_first [x0, x2, x3] h) fun x12_0 h0 =>
 oB (bEq .no x12_0 x3) fun x15_1 =>
 ci x15_1 (
 some (.tup [], h0)) (
 oB (oNil x0) fun x17_2 =>
 oB (oFA 8 x17_2) fun x18_3 =>
 oB (oLd h0 x18_3) fun x19_4 =>
 oB (oLen x19_4) fun x20_5 =>
 jnF 0 (fun h6 =>
 some (.tup [], h6)) fun j6 =>
 oB (oNil x0) fun x35_7 =>
 oB (oFA 9 x35_7) fun x36_8 =>
 oB (oLd h0 x36_8) fun x37_9 =>
 oB (bGe x37_9 (I 0)) fun x38_10 =>
 jnF 0 (fun h11 =>
 j6 h11) fun j11 =>
 ci x38_10 (
 oB (oNil x0) fun x42_12 =>
 oB (oFA 9 x42_12) fun x43_13 =>
 oB (oLd h0 x43_13) fun x44_14 =>
 oP (call n_parse_parser_wrong [x0, x1, x44_14, x12_0, x3] h0) fun x47_15 h15 =>
 j11 h15) (
 oB (bGt x20_5 (I 0)) fun x50_16 =>
 oB (gq x50_16 true (some x0)) fun x52_17 =>
 oB (gq x50_16 true (oNil x52_17)) fun x53_18 =>
 oB (gq x50_16 true (oFA 8 x53_18)) fun x54_19 =>
 oB (gq x50_16 true (oLd h0 x54_19)) fun x55_20 =>
 oB (gq x50_16 true (some x20_5)) fun x56_21 =>
 oB (gq x50_16 true (bSub x56_21 (I 1))) fun x57_22 =>
 oB (gq x50_16 true (oIx 5 x55_20 x57_22)) fun x58_23 =>
 oB (gq x50_16 true (oFA 4 x58_23)) fun x59_24 =>
 oB (gq x50_16 true (oLd h0 x59_24)) fun x60_25 =>
 oB (gq x50_16 true (evQ (.un .not (.c x60_25)) .e h0)) fun x61_26 =>
 oB (oPick x50_16 x61_26 (.bool false)) fun x62_27 =>
 jnF 0 (fun h28 =>
 j11 h28) fun j28 =>
 ci x62_27 (
 oB (oNil x0) fun x66_29 =>
 oB (oFA 8 x66_29) fun x67_30 =>
 oB (oLd h0 x67_30) fun x68_31 =>
 oB (bSub x20_5 (I 1)) fun x70_32 =>
 oB (oIx 5 x68_31 x70_32) fun x71_33 =>
 oB (oFA 3 x71_33) fun x72_34 =>
 oB (oLd h0 x72_34) fun x73_35 =>
 oP (call n_parse_parser_wrong [x0, x1, x73_35, x12_0, x3] h0) fun x76_36 h36 =>
 j28 h36) (
 oB (bGt x20_5 (I 0)) fun x79_37 =>
 jnF 0 (fun h38 =>
 j28 h38) fun j38 =>
 ci x79_37 (
 oB (oNil x0) fun x83_39 =>
 oB (oFA 8 x83_39) fun x84_40 =>
 oB (oLd h0 x84_40) fun x85_41 =>
 oB (bSub x20_5 (I 1)) fun x87_42 =>
 oB (oIx 5 x85_41 x87_42) fun x88_43 =>
 oB (oFA 0 x88_43) fun x89_44 =>
 oB (oLd h0 x89_44) fun x90_45 =>
 oP (call n_parse_parser_wrong [x0, x1, x90_45, x12_0, x3] h0) fun x93_46 h46 =>
 j38 h46) (
 oP (call n_parse_parser_document [x0, x12_0] h0) fun x23_47 h47 =>
 oB (oNil x0) fun x27_48 =>
 oB (oFA 6 x27_48) fun x28_49 =>
 oB (oLd h47 x28_49) fun x29_50 =>
 oP (call n_parse_parser_wrong [x0, x1, x29_50, x12_0, x3] h47) fun x32_51 h51 =>
 j38 h51))))
theorem o_parse_parser_amiss : FnOK Tryz.prog n_parse_parser_amiss (a4 f_parse_parser_amiss) := ok4 mixed Tryz.func173 (by kernel_rfl)
/- (*corrector/parse.parser).mark -/
noncomputable def f_parse_parser_mark (n : Nat) (call : Caller)  (x0 x1 x2 : AV) (h : AH) : Ans :=
 oB (oNil x0) fun x10_0 =>
 oB (oFA 8 x10_0) fun x11_1 =>
 oP (oSt 1 h x11_1 .nils) fun _ h2 =>
 oB (oNil x0) fun x13_3 =>
 oB (oFA 1 x13_3) fun x14_4 =>
 oB (oLd h2 x14_4) fun x15_5 =>
 oB (oIx 3 x15_5 x2) fun x17_6 =>
 oB (oFA 0 x17_6) fun x18_7 =>
 oB (oLd h2 x18_7) fun x19_8 =>
 oB (bEq .no x19_8 (I 20)) fun x20_9 =>
 ci x20_9 (
 oB (bAdd x2 (I 1)) fun x25_10 =>
 oP (call n_parse_parser_add [x0, (I 0), (I 2), x2, x25_10] h2) fun x26_11 h11 =>
 oB (oNil x0) fun x27_12 =>
 oB (oFA 6 x27_12) fun x28_13 =>
 oP (oSt 1 h11 x28_13 x26_11) fun _ h14 =>
 oB (oNil x0) fun x33_15 =>
 oB (oFA 6 x33_15) fun x34_16 =>
 oB (oLd h14 x34_16) fun x35_17 =>
 oB (bAdd x2 (I 1)) fun x37_18 =>
 oP (call n_parse_parser_value [x0, x1, x35_17, x37_18] h14) fun x38_19 h19 =>
 oB (oEx 0 x38_19) fun x39_20 =>
 oB (oEx 1 x38_19) fun x40_21 =>
 oB (oNil x0) fun x43_22 =>
 oB (oFA 7 x43_22) fun x44_23 =>
 oP (oSt 1 h19 x44_23 x39_20) fun _ h24 =>
 some (x40_21, h24)) (
 oB (oNil x0) fun x47_25 =>
 oB (oFA 6 x47_25) fun x48_26 =>
 oB (oLd h2 x48_26) fun x49_27 =>
 oB (bGe x49_27 (I 0)) fun x50_28 =>
 jnF 3 (fun z2_29 z1_29 z0_29 h29 =>
 oB (oNil z0_29) fun x67_30 =>
 oB (oFA 6 x67_30) fun x68_31 =>
 oP (oSt 1 h29 x68_31 (Ineg 0)) fun _ h32 =>
 oB (oNil z0_29) fun x69_33 =>
 oB (oFA 7 x69_33) fun x70_34 =>
 oP (oSt 1 h32 x70_34 (.bool false)) fun _ h35 =>
 oB (bAdd z2_29 (I 1)) fun x73_36 =>
 oB (oNil z0_29) fun x75_37 =>
 oB (oFA 2 x75_37) fun x76_38 =>
 oB (oLd h35 x76_38) fun x77_39 =>
 oB (oIx 4 x77_39 z1_29) fun x79_40 =>
 oB (oFA 2 x79_40) fun x80_41 =>
 oB (oLd h35 x80_41) fun x81_42 =>
 oP (call n_parse_parser_wrong [z0_29, (I 8), (I 0), x73_36, x81_42] h35) fun x82_43 h43 =>
 oB (bAdd z1_29 (I 1)) fun x84_44 =>
 some (x84_44, h43)) fun j29 =>
 ci x50_28 (
 oB' (nx 15 h2) fun h45 =>
 oB (oNil x0) fun x53_46 =>
 oB (oFA 4 x53_46) fun x54_47 =>
 oB (oLdN 1 h45 x54_47) fun x55_48 =>
 oB (oNil x0) fun x57_49 =>
 oB (oFA 6 x57_49) fun x58_50 =>
 oB (oLd h45 x58_50) fun x59_51 =>
 oB (bAdd x2 (I 1)) fun x61_52 =>
 oP (call n_arena_Grow [x55_48, x59_51, x61_52] h45) fun x62_53 h53 =>
 oB (oNil x0) fun x63_54 =>
 oB (oFA 4 x63_54) fun x64_55 =>
 oP (oSt 1 h53 x64_55 x62_53) fun _ h56 =>
 j29 x2 x1 x0 h56) (
 j29 x2 x1 x0 h2))
theorem o_parse_parser_mark : FnOK Tryz.prog n_parse_parser_mark (a3 f_parse_parser_mark) := ok3 mixed Tryz.func174 (by kernel_rfl)
/- (*corrector/parse.parser).document -/
noncomputable def f_parse_parser_document (n : Nat) (call : Caller)  (x0 x1 : AV) (h : AH) : Ans :=
 oB (oNil x0) fun x5_0 =>
 oB (oFA 6 x5_0) fun x6_1 =>
 oB (oLd h x6_1) fun x7_2 =>
 oB (bLt x7_2 (I 0)) fun x8_3 =>
 jnF 0 (fun h4 =>
 some (.tup [], h4)) fun j4 =>
 ci x8_3 (
 oP (call n_parse_parser_add [x0, (I 0), (I 2), x1, x1] h) fun x14_5 h5 =>
 oB (oNil x0) fun x15_6 =>
 oB (oFA 6 x15_6) fun x16_7 =>
 oP (oSt 1 h5 x16_7 x14_5) fun _ h8 =>
 oB (oNil x0) fun x17_9 =>
 oB (oFA 7 x17_9) fun x18_10 =>
 oP (oSt 1 h8 x18_10 (.bool false)) fun _ h11 =>
 j4 h11) (
 j4 h)
theorem o_parse_parser_document : FnOK Tryz.prog n_parse_parser_document (a2 f_parse_parser_document) := ok2 mixed Tryz.func175 (by kernel_rfl)
/- corrector/rows.Entries -/
noncomputable def f_rows_Entries (n : Nat) (call : Caller)  (x0 x1 x2 : AV) (h : AH) : Ans :=
 oP (oNew h 89 (AV.cells x1)) fun x4_0 h0 =>
 oP (oNew h0 218 (AV.cells x2)) fun x5_1 h1 =>
 scF n fun m2 => jnF 6 (lpF 6 m2 fun f2 y9_2 y8_2 y7_2 y6_2 y5_2 y4_2 h2 =>
 oB (oLd h2 y8_2) fun x42_3 =>
 oB (oFA 2 y5_2) fun x43_4 =>
 oB (oLd h2 x43_4) fun x44_5 =>
 oB (bLt x42_3 x44_5) fun x45_6 =>
 oB (gq x45_6 true (oLd h2 y4_2)) fun x47_7 =>
 oB (gq x45_6 true (oLd h2 y8_2)) fun x48_8 =>
 oB (gq x45_6 true (oIx 3 x47_7 x48_8)) fun x49_9 =>
 oB (gq x45_6 true (oFA 0 x49_9)) fun x50_10 =>
 oB (gq x45_6 true (oLd h2 x50_10)) fun x51_11 =>
 oB (gq x45_6 true (bEq .no x51_11 (I 5))) fun x52_12 =>
 oB (oPick x45_6 x52_12 (.bool false)) fun x53_13 =>
 ci x53_13 (
 oB' (nx 17 h2) fun h14 =>
 oB (oLd h14 y4_2) fun x55_15 =>
 oB (oLd h14 y8_2) fun x56_16 =>
 oB (oIx 3 x55_15 x56_16) fun x57_17 =>
 oB (oFA 1 x57_17) fun x58_18 =>
 oB (oLd h14 x58_18) fun x59_19 =>
 oB (oLd h14 y4_2) fun x60_20 =>
 oB (oLdN 4 h14 y5_2) fun x61_21 =>
 oP (call n_rows_begin [x60_20, x61_21] h14) fun x62_22 h22 =>
 oB (bSub x59_19 x62_22) fun x63_23 =>
 oB (oLd h22 y8_2) fun x64_24 =>
 oB (oLd h22 y8_2) fun x65_25 =>
 oB (bAdd x65_25 (I 1)) fun x66_26 =>
 oB (oBuild [(.bool false), (I 0), (I 0), (I 0)] [(0, 1, (.bool true)), (1, 1, x63_23), (2, 1, x64_24), (3, 1, x66_26)]) fun x67_27 =>
 fl1 true (evF (.buildSlice 275 4 1 [(.bool false), (I 0), (I 0), (I 0)] [(0, 4, (.c x67_27))]) .e) (Nat.add h2.next 14) fun x68_28 o28 =>
 oB' (lay1 (Nat.add h2.next 14) o28 h22) fun v29 =>
 oP (evW (.append 275 4 32 [(.bool false), (I 0), (I 0), (I 0)] (.c y6_2) (.c x68_28)) .e v29) fun x69_30 h30 =>
 ask1 true (oLd h14 y4_2) x55_15 (
 ask1 true (oLd h22 y4_2) x55_15 (
 ask1 true (oLd h14 y8_2) x56_16 (
 ask1 true (oLd h22 y8_2) x56_16 (
 ask1 true (oLd h14 x58_18) x59_19 (
 ask1 true (oLd h22 x58_18) x59_19 (
 ask1 true (oLd h14 y4_2) x60_20 (
 ask1 true (oLdN 4 h14 y5_2) x61_21 (
 ask1 true (oLd h14 y8_2) x64_24 (
 ask1 true (oLd h22 y8_2) x64_24 (
 ask1 true (oLd h14 y8_2) x65_25 (
 ask1 true (oLd h22 y8_2) x65_25 (
 oB (oLd h30 y8_2) fun x70_31 =>
 oB (bAdd x70_31 (I 1)) fun x71_32 =>
 oP (oSt 1 h30 y8_2 x71_32) fun _ h33 =>
 oB (oLd h33 y8_2) fun x72_34 =>
 oP (wOf (.callV (.c y9_2) []) call .e h33) fun x74_35 h35 =>
 f2 y9_2 y8_2 x72_34 x69_30 y5_2 y4_2 h35))))))))))))) (
 oB (oLd h2 y8_2) fun x75_36 =>
 jnF 6 (fun z10_37 z8_37 z7_37 z6_37 z5_37 z4_37 h37 =>
 oB (oLd h37 z8_37) fun x111_38 =>
 oB (oFA 2 z5_37) fun x112_39 =>
 oB (oLd h37 x112_39) fun x113_40 =>
 oB (bLt x111_38 x113_40) fun x114_41 =>
 oB (gq x114_41 true (oLd h37 z4_37)) fun x116_42 =>
 oB (gq x114_41 true (oLd h37 z8_37)) fun x117_43 =>
 oB (gq x114_41 true (oIx 3 x116_42 x117_43)) fun x118_44 =>
 oB (gq x114_41 true (oFA 0 x118_44)) fun x119_45 =>
 oB (gq x114_41 true (oLd h37 x119_45)) fun x120_46 =>
 oB (gq x114_41 true (bEq .no x120_46 (I 6))) fun x121_47 =>
 oB (oPick x114_41 x121_47 (.bool false)) fun x122_48 =>
 jnF 2 (fun z7_49 z6_49 h49 =>
 oP (call n_slices_Clone_rows_Entry_rows_Entry [z6_49] h49) fun x142_50 h50 =>
 some (.tup [x142_50, z7_49], h50)) fun j49 =>
 ci x122_48 (
 oB' (nx 17 h37) fun h51 =>
 oB (oLd h51 z4_37) fun x124_52 =>
 oB (oIx 3 x124_52 z10_37) fun x126_53 =>
 oB (oFA 1 x126_53) fun x127_54 =>
 oB (oLd h51 x127_54) fun x128_55 =>
 oB (oLd h51 z4_37) fun x129_56 =>
 oB (oLdN 4 h51 z5_37) fun x130_57 =>
 oP (call n_rows_begin [x129_56, x130_57] h51) fun x131_58 h58 =>
 oB (bSub x128_55 x131_58) fun x132_59 =>
 oB (oLd h58 z8_37) fun x134_60 =>
 oB (bAdd x134_60 (I 1)) fun x135_61 =>
 oB (oBuild [(.bool false), (I 0), (I 0), (I 0)] [(0, 1, (.bool false)), (1, 1, x132_59), (2, 1, z10_37), (3, 1, x135_61)]) fun x136_62 =>
 fl1 true (evF (.buildSlice 275 4 1 [(.bool false), (I 0), (I 0), (I 0)] [(0, 4, (.c x136_62))]) .e) (Nat.add h37.next 14) fun x137_63 o63 =>
 oB' (lay1 (Nat.add h37.next 14) o63 h58) fun v64 =>
 oP (evW (.append 275 4 32 [(.bool false), (I 0), (I 0), (I 0)] (.c z6_37) (.c x137_63)) .e v64) fun x138_65 h65 =>
 ask1 true (oLd h51 z4_37) x124_52 (
 ask1 true (oLd h58 z4_37) x124_52 (
 ask1 true (oLd h51 x127_54) x128_55 (
 ask1 true (oLd h58 x127_54) x128_55 (
 ask1 true (oLd h51 z4_37) x129_56 (
 ask1 true (oLdN 4 h51 z5_37) x130_57 (
 ask1 true (oLd h51 z8_37) x134_60 (
 ask1 true (oLd h58 z8_37) x134_60 (
 oB (oLd h65 z8_37) fun x139_66 =>
 oB (bAdd x139_66 (I 1)) fun x140_67 =>
 j49 x140_67 x138_65 h65))))))))) (
 j49 z7_37 z6_37 h37)) fun j37 =>
 lpF 8 n (fun f68 y11_68 y10_68 y9_68 y8_68 y7_68 y6_68 y5_68 y4_68 h68 =>
 oB (oLd h68 y8_68) fun x76_69 =>
 oB (oFA 2 y5_68) fun x77_70 =>
 oB (oLd h68 x77_70) fun x78_71 =>
 oB (bLt x76_69 x78_71) fun x79_72 =>
 oB (gq x79_72 true (oLd h68 y4_68)) fun x81_73 =>
 oB (gq x79_72 true (oLd h68 y8_68)) fun x82_74 =>
 oB (gq x79_72 true (oIx 3 x81_73 x82_74)) fun x83_75 =>
 oB (gq x79_72 true (oLdN 3 h68 x83_75)) fun x84_76 =>
 oP (gw x79_72 true (call n_rows_property [x84_76] h68) h68) fun x85_77 h77 =>
 oB (gq x79_72 true (some x85_77)) fun x86_78 =>
 oB (gq x86_78 true (some y11_68)) fun x87_79 =>
 oB (gq x86_78 true (evQ (.un .not (.c x87_79)) .e h77)) fun x88_80 =>
 oB (gq x79_72 true (oPick x86_78 x88_80 (.bool false))) fun x89_81 =>
 oB (gq x79_72 true (some x89_81)) fun x90_82 =>
 oB (gq x90_82 false (oLd h77 y4_68)) fun x91_83 =>
 oB (gq x90_82 false (oLd h77 y8_68)) fun x92_84 =>
 oB (gq x90_82 false (oIx 3 x91_83 x92_84)) fun x93_85 =>
 oB (gq x90_82 false (oLdN 3 h77 x93_85)) fun x94_86 =>
 oP (gw x90_82 false (call n_rows_name [x94_86] h77) h77) fun x95_87 h87 =>
 oB (gq x90_82 false (some x95_87)) fun x96_88 =>
 oB (gq x96_88 true (some y11_68)) fun x97_89 =>
 oB (gq x96_88 true (evQ (.un .not (.c x97_89)) .e h87)) fun x98_90 =>
 oB (gq x90_82 false (oPick x96_88 x98_90 (.bool false))) fun x99_91 =>
 oB (gq x79_72 true (oPick x90_82 (.bool true) x99_91)) fun x100_92 =>
 oB (oPick x79_72 x100_92 (.bool false)) fun x101_93 =>
 ci x101_93 (
 jnF 8 (fun z11_94 z10_94 z9_94 z8_94 z7_94 z6_94 z5_94 z4_94 h94 =>
 f68 z11_94 z10_94 z9_94 z8_94 z7_94 z6_94 z5_94 z4_94 h94) fun j94 =>
 oB (oLd h87 y4_68) fun x102_95 =>
 oB (oLd h87 y8_68) fun x103_96 =>
 oB (oIx 3 x102_95 x103_96) fun x104_97 =>
 oB (oLdN 3 h87 x104_97) fun x105_98 =>
 oP (call n_rows_name [x105_98] h87) fun x106_99 h99 =>
 oB (oLd h99 y8_68) fun x107_100 =>
 oB (bAdd x107_100 (I 1)) fun x108_101 =>
 oP (oSt 1 h99 y8_68 x108_101) fun _ h102 =>
 oP (wOf (.callV (.c y9_68) []) call .e h102) fun x110_103 h103 =>
 j94 x106_99 y10_68 y9_68 y8_68 y7_68 y6_68 y5_68 y4_68 h103) (
 j37 y10_68 y8_68 y7_68 y6_68 y5_68 y4_68 h87)) (.bool false) x75_36 y9_2 y8_2 y7_2 y6_2 y5_2 y4_2 h2)) fun f2 =>
 oB (oFA 0 x5_1) fun x12_104 =>
 oB (oLd h1 x12_104) fun x13_105 =>
 oB (bNe .no x13_105 (I 5)) fun x14_106 =>
 oB (gq x14_106 false (oFA 1 x5_1)) fun x16_107 =>
 oB (gq x14_106 false (oLd h1 x16_107)) fun x17_108 =>
 oB (gq x14_106 false (bLt x17_108 (I 0))) fun x18_109 =>
 oB (oPick x14_106 (.bool true) x18_109) fun x19_110 =>
 oB (gq x19_110 false (oFA 2 x5_1)) fun x21_111 =>
 oB (gq x19_110 false (oLd h1 x21_111)) fun x22_112 =>
 oB (gq x19_110 false (oLd h1 x4_0)) fun x23_113 =>
 oB (gq x19_110 false (oLen x23_113)) fun x24_114 =>
 oB (gq x19_110 false (bGt x22_112 x24_114)) fun x25_115 =>
 oB (oPick x19_110 (.bool true) x25_115) fun x26_116 =>
 oB (gq x26_116 false (oFA 1 x5_1)) fun x28_117 =>
 oB (gq x26_116 false (oLd h1 x28_117)) fun x29_118 =>
 oB (gq x26_116 false (oFA 2 x5_1)) fun x30_119 =>
 oB (gq x26_116 false (oLd h1 x30_119)) fun x31_120 =>
 oB (gq x26_116 false (bGe x29_118 x31_120)) fun x32_121 =>
 oB (oPick x26_116 (.bool true) x32_121) fun x33_122 =>
 ci x33_122 (
 oB' (nx 4 h1) fun h123 =>
 oB (oFA 1 x5_1) fun x34_124 =>
 oB (oLd h123 x34_124) fun x35_125 =>
 some (.tup [.nils, x35_125], h123)) (
 oB (oFA 1 x5_1) fun x36_126 =>
 oB (oLd h1 x36_126) fun x37_127 =>
 oP (oNew h1 3 [(I 0)]) fun x8_128 h128 =>
 oP (oSt 1 h128 x8_128 x37_127) fun _ h129 =>
 oB (some (.fn n_rows_Entries_1 [] [x8_128, x5_1, x4_0])) fun x38_130 =>
 oP (wOf (.callV (.c x38_130) []) call .e h129) fun x40_131 h131 =>
 oB (oLd h131 x8_128) fun x41_132 =>
 oB (oLd h131 x8_128) fun x42_133 =>
 oB (oFA 2 x5_1) fun x43_134 =>
 oB (oLd h131 x43_134) fun x44_135 =>
 oB (bLt x42_133 x44_135) fun x45_136 =>
 oB (gq x45_136 true (oLd h131 x4_0)) fun x47_137 =>
 oB (gq x45_136 true (oLd h131 x8_128)) fun x48_138 =>
 oB (gq x45_136 true (oIx 3 x47_137 x48_138)) fun x49_139 =>
 oB (gq x45_136 true (oFA 0 x49_139)) fun x50_140 =>
 oB (gq x45_136 true (oLd h131 x50_140)) fun x51_141 =>
 oB (gq x45_136 true (bEq .no x51_141 (I 5))) fun x52_142 =>
 oB (oPick x45_136 x52_142 (.bool false)) fun x53_143 =>
 ci x53_143 (
 oB' (nx 17 h131) fun h144 =>
 oB (oLd h144 x4_0) fun x55_145 =>
 oB (oLd h144 x8_128) fun x56_146 =>
 oB (oIx 3 x55_145 x56_146) fun x57_147 =>
 oB (oFA 1 x57_147) fun x58_148 =>
 oB (oLd h144 x58_148) fun x59_149 =>
 oB (oLd h144 x4_0) fun x60_150 =>
 oB (oLdN 4 h144 x5_1) fun x61_151 =>
 oP (call n_rows_begin [x60_150, x61_151] h144) fun x62_152 h152 =>
 oB (bSub x59_149 x62_152) fun x63_153 =>
 oB (oLd h152 x8_128) fun x64_154 =>
 oB (oLd h152 x8_128) fun x65_155 =>
 oB (bAdd x65_155 (I 1)) fun x66_156 =>
 oB (oBuild [(.bool false), (I 0), (I 0), (I 0)] [(0, 1, (.bool true)), (1, 1, x63_153), (2, 1, x64_154), (3, 1, x66_156)]) fun x67_157 =>
 fl1 true (evF (.buildSlice 275 4 1 [(.bool false), (I 0), (I 0), (I 0)] [(0, 4, (.c x67_157))]) .e) (Nat.add h131.next 14) fun x68_158 o158 =>
 oB' (lay1 (Nat.add h131.next 14) o158 h152) fun v159 =>
 oP (evW (.append 275 4 32 [(.bool false), (I 0), (I 0), (I 0)] (.c .nils) (.c x68_158)) .e v159) fun x69_160 h160 =>
 ask1 true (oLd h144 x4_0) x55_145 (
 ask1 true (oLd h152 x4_0) x55_145 (
 ask1 true (oLd h144 x8_128) x56_146 (
 ask1 true (oLd h152 x8_128) x56_146 (
 ask1 true (oLd h144 x58_148) x59_149 (
 ask1 true (oLd h152 x58_148) x59_149 (
 ask1 true (oLd h144 x4_0) x60_150 (
 ask1 true (oLdN 4 h144 x5_1) x61_151 (
 ask1 true (oLd h144 x8_128) x64_154 (
 ask1 true (oLd h152 x8_128) x64_154 (
 ask1 true (oLd h144 x8_128) x65_155 (
 ask1 true (oLd h152 x8_128) x65_155 (
 oB (oLd h160 x8_128) fun x70_161 =>
 oB (bAdd x70_161 (I 1)) fun x71_162 =>
 oP (oSt 1 h160 x8_128 x71_162) fun _ h163 =>
 oB (oLd h163 x8_128) fun x72_164 =>
 oP (wOf (.callV (.c x38_130) []) call .e h163) fun x74_165 h165 =>
 f2 x38_130 x8_128 x72_164 x69_160 x5_1 x4_0 h165))))))))))))) (
 oB (oLd h131 x8_128) fun x75_166 =>
 jnF 6 (fun z10_167 z8_167 z7_167 z6_167 z5_167 z4_167 h167 =>
 oB (oLd h167 z8_167) fun x111_168 =>
 oB (oFA 2 z5_167) fun x112_169 =>
 oB (oLd h167 x112_169) fun x113_170 =>
 oB (bLt x111_168 x113_170) fun x114_171 =>
 oB (gq x114_171 true (oLd h167 z4_167)) fun x116_172 =>
 oB (gq x114_171 true (oLd h167 z8_167)) fun x117_173 =>
 oB (gq x114_171 true (oIx 3 x116_172 x117_173)) fun x118_174 =>
 oB (gq x114_171 true (oFA 0 x118_174)) fun x119_175 =>
 oB (gq x114_171 true (oLd h167 x119_175)) fun x120_176 =>
 oB (gq x114_171 true (bEq .no x120_176 (I 6))) fun x121_177 =>
 oB (oPick x114_171 x121_177 (.bool false)) fun x122_178 =>
 jnF 2 (fun z7_179 z6_179 h179 =>
 oP (call n_slices_Clone_rows_Entry_rows_Entry [z6_179] h179) fun x142_180 h180 =>
 some (.tup [x142_180, z7_179], h180)) fun j179 =>
 ci x122_178 (
 oB' (nx 17 h167) fun h181 =>
 oB (oLd h181 z4_167) fun x124_182 =>
 oB (oIx 3 x124_182 z10_167) fun x126_183 =>
 oB (oFA 1 x126_183) fun x127_184 =>
 oB (oLd h181 x127_184) fun x128_185 =>
 oB (oLd h181 z4_167) fun x129_186 =>
 oB (oLdN 4 h181 z5_167) fun x130_187 =>
 oP (call n_rows_begin [x129_186, x130_187] h181) fun x131_188 h188 =>
 oB (bSub x128_185 x131_188) fun x132_189 =>
 oB (oLd h188 z8_167) fun x134_190 =>
 oB (bAdd x134_190 (I 1)) fun x135_191 =>
 oB (oBuild [(.bool false), (I 0), (I 0), (I 0)] [(0, 1, (.bool false)), (1, 1, x132_189), (2, 1, z10_167), (3, 1, x135_191)]) fun x136_192 =>
 fl1 true (evF (.buildSlice 275 4 1 [(.bool false), (I 0), (I 0), (I 0)] [(0, 4, (.c x136_192))]) .e) (Nat.add h167.next 14) fun x137_193 o193 =>
 oB' (lay1 (Nat.add h167.next 14) o193 h188) fun v194 =>
 oP (evW (.append 275 4 32 [(.bool false), (I 0), (I 0), (I 0)] (.c z6_167) (.c x137_193)) .e v194) fun x138_195 h195 =>
 ask1 true (oLd h181 z4_167) x124_182 (
 ask1 true (oLd h188 z4_167) x124_182 (
 ask1 true (oLd h181 x127_184) x128_185 (
 ask1 true (oLd h188 x127_184) x128_185 (
 ask1 true (oLd h181 z4_167) x129_186 (
 ask1 true (oLdN 4 h181 z5_167) x130_187 (
 ask1 true (oLd h181 z8_167) x134_190 (
 ask1 true (oLd h188 z8_167) x134_190 (
 oB (oLd h195 z8_167) fun x139_196 =>
 oB (bAdd x139_196 (I 1)) fun x140_197 =>
 j179 x140_197 x138_195 h195))))))))) (
 j179 z7_167 z6_167 h167)) fun j167 =>
 lpF 8 n (fun f198 y11_198 y10_198 y9_198 y8_198 y7_198 y6_198 y5_198 y4_198 h198 =>
 oB (oLd h198 y8_198) fun x76_199 =>
 oB (oFA 2 y5_198) fun x77_200 =>
 oB (oLd h198 x77_200) fun x78_201 =>
 oB (bLt x76_199 x78_201) fun x79_202 =>
 oB (gq x79_202 true (oLd h198 y4_198)) fun x81_203 =>
 oB (gq x79_202 true (oLd h198 y8_198)) fun x82_204 =>
 oB (gq x79_202 true (oIx 3 x81_203 x82_204)) fun x83_205 =>
 oB (gq x79_202 true (oLdN 3 h198 x83_205)) fun x84_206 =>
 oP (gw x79_202 true (call n_rows_property [x84_206] h198) h198) fun x85_207 h207 =>
 oB (gq x79_202 true (some x85_207)) fun x86_208 =>
 oB (gq x86_208 true (some y11_198)) fun x87_209 =>
 oB (gq x86_208 true (evQ (.un .not (.c x87_209)) .e h207)) fun x88_210 =>
 oB (gq x79_202 true (oPick x86_208 x88_210 (.bool false))) fun x89_211 =>
 oB (gq x79_202 true (some x89_211)) fun x90_212 =>
 oB (gq x90_212 false (oLd h207 y4_198)) fun x91_213 =>
 oB (gq x90_212 false (oLd h207 y8_198)) fun x92_214 =>
 oB (gq x90_212 false (oIx 3 x91_213 x92_214)) fun x93_215 =>
 oB (gq x90_212 false (oLdN 3 h207 x93_215)) fun x94_216 =>
 oP (gw x90_212 false (call n_rows_name [x94_216] h207) h207) fun x95_217 h217 =>
 oB (gq x90_212 false (some x95_217)) fun x96_218 =>
 oB (gq x96_218 true (some y11_198)) fun x97_219 =>
 oB (gq x96_218 true (evQ (.un .not (.c x97_219)) .e h217)) fun x98_220 =>
 oB (gq x90_212 false (oPick x96_218 x98_220 (.bool false))) fun x99_221 =>
 oB (gq x79_202 true (oPick x90_212 (.bool true) x99_221)) fun x100_222 =>
 oB (oPick x79_202 x100_222 (.bool false)) fun x101_223 =>
 ci x101_223 (
 jnF 8 (fun z11_224 z10_224 z9_224 z8_224 z7_224 z6_224 z5_224 z4_224 h224 =>
 f198 z11_224 z10_224 z9_224 z8_224 z7_224 z6_224 z5_224 z4_224 h224) fun j224 =>
 oB (oLd h217 y4_198) fun x102_225 =>
 oB (oLd h217 y8_198) fun x103_226 =>
 oB (oIx 3 x102_225 x103_226) fun x104_227 =>
 oB (oLdN 3 h217 x104_227) fun x105_228 =>
 oP (call n_rows_name [x105_228] h217) fun x106_229 h229 =>
 oB (oLd h229 y8_198) fun x107_230 =>
 oB (bAdd x107_230 (I 1)) fun x108_231 =>
 oP (oSt 1 h229 y8_198 x108_231) fun _ h232 =>
 oP (wOf (.callV (.c y9_198) []) call .e h232) fun x110_233 h233 =>
 j224 x106_229 y10_198 y9_198 y8_198 y7_198 y6_198 y5_198 y4_198 h233) (
 j167 y10_198 y8_198 y7_198 y6_198 y5_198 y4_198 h217)) (.bool false) x75_166 x38_130 x8_128 x41_132 .nils x5_1 x4_0 h131))
theorem o_rows_Entries : FnOK Tryz.prog n_rows_Entries (a3 f_rows_Entries) := ok3 mixed Tryz.func176 (by kernel_rfl)
/- (*corrector/parse.parser).loose -/
noncomputable def f_parse_parser_loose (n : Nat) (call : Caller)  (x0 x1 x2 : AV) (h : AH) : Ans :=
 oB (oNil x0) fun x14_0 =>
 oB (oFA 2 x14_0) fun x15_1 =>
 oB (oLd h x15_1) fun x16_2 =>
 oB (oIx 4 x16_2 x1) fun x18_3 =>
 oB (oLdN 4 h x18_3) fun x19_4 =>
 oP (oNew h 218 [(I 0), (I 0), (I 0), (I 0)]) fun x7_5 h5 =>
 oP (oSt 4 h5 x7_5 x19_4) fun _ h6 =>
 oB (oNil x0) fun x21_7 =>
 oB (oFA 8 x21_7) fun x22_8 =>
 oB (oLd h6 x22_8) fun x23_9 =>
 oB (oLen x23_9) fun x24_10 =>
 oB (bSub x24_10 (I 1)) fun x25_11 =>
 jnF 5 (fun z8_12 z7_12 z2_12 z1_12 z0_12 h12 =>
 oB' (nx 9 h12) fun h13 =>
 oB (oNil z0_12) fun x44_14 =>
 oB (oFA 7 x44_14) fun x45_15 =>
 oB (oNil z0_12) fun x47_16 =>
 oB (oFA 6 x47_16) fun x48_17 =>
 oB (oLd h13 x48_17) fun x49_18 =>
 oB (bGe z8_12 (I 0)) fun x51_19 =>
 jnF 7 (fun z10_20 z9_20 z8_20 z7_20 z2_20 z1_20 z0_20 h20 =>
 oB (oNil z9_20) fun x68_21 =>
 oB (oLd h20 x68_21) fun x69_22 =>
 ci x69_22 (
 oB (oFA 1 z7_20) fun x71_23 =>
 oB (oLd h20 x71_23) fun x72_24 =>
 oB (oFA 2 z7_20) fun x73_25 =>
 oB (oLd h20 x73_25) fun x74_26 =>
 oP (call n_parse_parser_amiss [z0_20, (I 7), x72_24, x74_26] h20) fun x75_27 h27 =>
 oB (bAdd z1_20 (I 1)) fun x77_28 =>
 some (x77_28, h27)) (
 oB (oNil z0_20) fun x80_29 =>
 oB (oFA 8 x80_29) fun x81_30 =>
 oB (oLd h20 x81_30) fun x82_31 =>
 oB (bAdd z8_20 (I 1)) fun x84_32 =>
 oB (evQ (.sl 5 (.c x82_31) none (some (.c x84_32)) none) .e h20) fun x85_33 =>
 oB (oNil z0_20) fun x86_34 =>
 oB (oFA 8 x86_34) fun x87_35 =>
 oP (oSt 1 h20 x87_35 x85_33) fun _ h36 =>
 oP (call n_parse_parser_value [z0_20, z1_20, z10_20, z2_20] h36) fun x93_37 h37 =>
 oB (oEx 0 x93_37) fun x94_38 =>
 oB (oEx 1 x93_37) fun x95_39 =>
 oB (oNil z9_20) fun x98_40 =>
 oP (oSt 1 h37 x98_40 x94_38) fun _ h41 =>
 some (x95_39, h41))) fun j20 =>
 ci x51_19 (
 oB' (nx 17 h13) fun h42 =>
 oB (oNil z0_12) fun x53_43 =>
 oB (oFA 8 x53_43) fun x54_44 =>
 oB (oLd h42 x54_44) fun x55_45 =>
 oB (oIx 5 x55_45 z8_12) fun x57_46 =>
 oB (oFA 4 x57_46) fun x58_47 =>
 oB (oNil z0_12) fun x60_48 =>
 oB (oFA 8 x60_48) fun x61_49 =>
 oB (oLd h42 x61_49) fun x62_50 =>
 oB (oIx 5 x62_50 z8_12) fun x64_51 =>
 oB (oFA 3 x64_51) fun x65_52 =>
 oB (oLd h42 x65_52) fun x66_53 =>
 j20 x66_53 x58_47 z8_12 z7_12 z2_12 z1_12 z0_12 h42) (
 j20 x49_18 x45_15 z8_12 z7_12 z2_12 z1_12 z0_12 h13)) fun j12 =>
 lpF 5 n (fun f54 y8_54 y7_54 y2_54 y1_54 y0_54 h54 =>
 oB' (nx 15 h54) fun h55 =>
 oB (bGe y8_54 (I 0)) fun x27_56 =>
 oB (gq x27_56 true (some y0_54)) fun x29_57 =>
 oB (gq x27_56 true (oNil x29_57)) fun x30_58 =>
 oB (gq x27_56 true (oFA 8 x30_58)) fun x31_59 =>
 oB (gq x27_56 true (oLd h55 x31_59)) fun x32_60 =>
 oB (gq x27_56 true (some y8_54)) fun x33_61 =>
 oB (gq x27_56 true (oIx 5 x32_60 x33_61)) fun x34_62 =>
 oB (gq x27_56 true (oFA 2 x34_62)) fun x35_63 =>
 oB (gq x27_56 true (oLd h55 x35_63)) fun x36_64 =>
 oB (gq x27_56 true (oFA 3 y7_54)) fun x37_65 =>
 oB (gq x27_56 true (oLd h55 x37_65)) fun x38_66 =>
 oB (gq x27_56 true (bGe x36_64 x38_66)) fun x39_67 =>
 oB (oPick x27_56 x39_67 (.bool false)) fun x40_68 =>
 ci x40_68 (
 jnF 5 (fun z8_69 z7_69 z2_69 z1_69 z0_69 h69 =>
 f54 z8_69 z7_69 z2_69 z1_69 z0_69 h69) fun j69 =>
 oB (bSub y8_54 (I 1)) fun x42_70 =>
 j69 x42_70 y7_54 y2_54 y1_54 y0_54 h55) (
 j12 y8_54 y7_54 y2_54 y1_54 y0_54 h55)) x25_11 x7_5 x2 x1 x0 h6
theorem o_parse_parser_loose : FnOK Tryz.prog n_parse_parser_loose (a3 f_parse_parser_loose) := ok3 mixed Tryz.func177 (by kernel_rfl)
end Go.Proofs.YtmlhpcflphlgdaaGreatDoor
