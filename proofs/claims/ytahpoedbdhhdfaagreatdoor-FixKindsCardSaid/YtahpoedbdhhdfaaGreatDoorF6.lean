/- Functions, as they run. PRINTED by a program of this repo. -/
import Derived.Test.YtahpoedbdhhdfaaGreatDoorN
import Derived.Test.YtahpoedbdhhdfaaGreatDoorM
set_option linter.unusedVariables false
set_option maxRecDepth 100000
namespace Go.Proofs.YtahpoedbdhhdfaaGreatDoor
open Go.Ev
/- corrector/chars.Flow -/
noncomputable def f_chars_Flow (n : Nat) (call : Caller)  (x0 : AV) (h : AH) : Ans :=
 jnF 0 (fun h0 =>
 some ((.bool false), h0)) fun j0 =>
 jnF 0 (fun h1 =>
 some ((.bool true), h1)) fun j1 =>
 jnF 0 (fun h2 =>
 j1 h2) fun j2 =>
 jnF 0 (fun h3 =>
 j2 h3) fun j3 =>
 oB (bEq .no x0 (U 44)) fun x5_4 =>
 ci x5_4 (
 j3 h) (
 oB (bEq .no x0 (U 91)) fun x7_5 =>
 jnF 2 (fun z6_6 z3_6 h6 =>
 ci z6_6 (
 j2 h6) (
 oB (bEq .no z3_6 (U 123)) fun x10_7 =>
 jnF 1 (fun z9_8 h8 =>
 ci z9_8 (
 j1 h8) (
 j0 h8)) fun j8 =>
 ci x10_7 (
 j8 x10_7 h6) (
 oB (bEq .no z3_6 (U 125)) fun x11_9 =>
 j8 x11_9 h6))) fun j6 =>
 ci x7_5 (
 j6 x7_5 x0 h) (
 oB (bEq .no x0 (U 93)) fun x8_10 =>
 j6 x8_10 x0 h))
theorem o_chars_Flow : FnOK Tryz.prog n_chars_Flow (a1 f_chars_Flow) := ok1 mixed Tryz.func198 (by kernel_rfl)
/- corrector/chars.Name -/
noncomputable def f_chars_Name (n : Nat) (call : Caller)  (x0 : AV) (h : AH) : Ans :=
 oP (call n_chars_letter [x0] h) fun x4_0 h0 =>
 oB (gq x4_0 false (some x0)) fun x6_1 =>
 oB (gq x4_0 false (bEq .no x6_1 (U 95))) fun x7_2 =>
 oB (oPick x4_0 (.bool true) x7_2) fun x8_3 =>
 oB (gq x8_3 false (some x0)) fun x10_4 =>
 oB (gq x8_3 false (bEq .no x10_4 (U 45))) fun x11_5 =>
 oB (oPick x8_3 (.bool true) x11_5) fun x12_6 =>
 some (x12_6, h0)
theorem o_chars_Name : FnOK Tryz.prog n_chars_Name (a1 f_chars_Name) := ok1 mixed Tryz.func199 (by kernel_rfl)
/- (*corrector/scan.scanner).names -/
noncomputable def f_scan_scanner_names (n : Nat) (call : Caller)  (x0 x1 : AV) (h : AH) : Ans :=
 jnF 1 (fun z1_0 h0 =>
 some (z1_0, h0)) fun j0 =>
 lpF 2 n (fun f1 y1_1 y0_1 h1 =>
 oB (oNil y0_1) fun x7_2 =>
 oB (oFA 0 x7_2) fun x8_3 =>
 oB (oLd h1 x8_3) fun x9_4 =>
 oB (oLen x9_4) fun x10_5 =>
 oB (bLt y1_1 x10_5) fun x11_6 =>
 oB (gq x11_6 true (some y0_1)) fun x13_7 =>
 oB (gq x11_6 true (oNil x13_7)) fun x14_8 =>
 oB (gq x11_6 true (oFA 0 x14_8)) fun x15_9 =>
 oB (gq x11_6 true (oLd h1 x15_9)) fun x16_10 =>
 oB (gq x11_6 true (some y1_1)) fun x17_11 =>
 oB (gq x11_6 true (oIx 1 x16_10 x17_11)) fun x18_12 =>
 oB (gq x11_6 true (oLd h1 x18_12)) fun x19_13 =>
 oP (gw x11_6 true (call n_chars_Name [x19_13] h1) h1) fun x20_14 h14 =>
 oB (oPick x11_6 x20_14 (.bool false)) fun x21_15 =>
 ci x21_15 (
 jnF 2 (fun z1_16 z0_16 h16 =>
 f1 z1_16 z0_16 h16) fun j16 =>
 oB (bAdd y1_1 (I 1)) fun x23_17 =>
 j16 x23_17 y0_1 h14) (
 j0 y1_1 h14)) x1 x0 h
theorem o_scan_scanner_names : FnOK Tryz.prog n_scan_scanner_names (a2 f_scan_scanner_names) := ok2 mixed Tryz.func200 (by kernel_rfl)
/- (*corrector/parse.parser).over -/
noncomputable def f_parse_parser_over (n : Nat) (call : Caller)  (x0 x1 x2 : AV) (h : AH) : Ans :=
 jnF 1 (fun z2_0 h0 =>
 some (z2_0, h0)) fun j0 =>
 lpF 3 n (fun f1 y2_1 y1_1 y0_1 h1 =>
 oB (bGt y2_1 y1_1) fun x9_2 =>
 oB (gq x9_2 true (some y0_1)) fun x11_3 =>
 oB (gq x9_2 true (oNil x11_3)) fun x12_4 =>
 oB (gq x9_2 true (oFA 1 x12_4)) fun x13_5 =>
 oB (gq x9_2 true (oLd h1 x13_5)) fun x14_6 =>
 oB (gq x9_2 true (some y2_1)) fun x15_7 =>
 oB (gq x9_2 true (bSub x15_7 (I 1))) fun x16_8 =>
 oB (gq x9_2 true (oIx 3 x14_6 x16_8)) fun x17_9 =>
 oB (gq x9_2 true (oLdN 3 h1 x17_9)) fun x18_10 =>
 oP (gw x9_2 true (call n_parse_counts [x18_10] h1) h1) fun x19_11 h11 =>
 oB (gq x9_2 true (evQ (.un .not (.c x19_11)) .e h11)) fun x20_12 =>
 oB (oPick x9_2 x20_12 (.bool false)) fun x21_13 =>
 ci x21_13 (
 jnF 3 (fun z2_14 z1_14 z0_14 h14 =>
 f1 z2_14 z1_14 z0_14 h14) fun j14 =>
 oB (bSub y2_1 (I 1)) fun x23_15 =>
 j14 x23_15 y1_1 y0_1 h11) (
 j0 y2_1 h11)) x2 x1 x0 h
theorem o_parse_parser_over : FnOK Tryz.prog n_parse_parser_over (a3 f_parse_parser_over) := ok3 mixed Tryz.func201 (by kernel_rfl)
/- corrector/arena.Add -/
noncomputable def f_arena_Add (n : Nat) (call : Caller)  (x0 x1 x2 x3 x4 : AV) (h : AH) : Ans :=
 oP (oNew h 59 (AV.cells x0)) fun x5_0 h0 =>
 oP (oNew h0 59 [.nils]) fun x10_1 h1 =>
 oB (oLdN 1 h1 x5_0) fun x14_2 =>
 oP (call n_arena_own [x14_2] h1) fun x15_3 h3 =>
 oP (call n_arena_forest_has [x15_3, x1] h3) fun x18_4 h4 =>
 oB (evQ (.un .not (.c x18_4)) .e h4) fun x19_5 =>
 oB (gq x19_5 false (some x2)) fun x21_6 =>
 oB (gq x19_5 false (bLt x21_6 (I 1))) fun x22_7 =>
 oB (oPick x19_5 (.bool true) x22_7) fun x23_8 =>
 oB (gq x23_8 false (some x2)) fun x25_9 =>
 oB (gq x23_8 false (bGt x25_9 (I 11))) fun x26_10 =>
 oB (oPick x23_8 (.bool true) x26_10) fun x27_11 =>
 oB (gq x27_11 false (some x3)) fun x29_12 =>
 oB (gq x27_11 false (some x4)) fun x30_13 =>
 oB (gq x27_11 false (bGt x29_12 x30_13)) fun x31_14 =>
 oB (oPick x27_11 (.bool true) x31_14) fun x32_15 =>
 oB (gq x32_15 false (some x4)) fun x34_16 =>
 oB (gq x32_15 false (some x15_3)) fun x35_17 =>
 oB (gq x32_15 false (oNil x35_17)) fun x36_18 =>
 oB (gq x32_15 false (oFA 0 x36_18)) fun x37_19 =>
 oB (gq x32_15 false (oFA 0 x37_19)) fun x38_20 =>
 oB (gq x32_15 false (oLd h4 x38_20)) fun x39_21 =>
 oB (gq x32_15 false (oIx 6 x39_21 (I 0))) fun x40_22 =>
 oB (gq x32_15 false (oFA 2 x40_22)) fun x41_23 =>
 oB (gq x32_15 false (oLd h4 x41_23)) fun x42_24 =>
 oB (gq x32_15 false (bGt x34_16 x42_24)) fun x43_25 =>
 oB (oPick x32_15 (.bool true) x43_25) fun x44_26 =>
 oB (gq x44_26 false (some x3)) fun x46_27 =>
 oB (gq x44_26 false (some x15_3)) fun x47_28 =>
 oB (gq x44_26 false (some x1)) fun x48_29 =>
 oP (gw x44_26 false (call n_arena_forest_end [x47_28, x48_29] h4) h4) fun x49_30 h30 =>
 oB (gq x44_26 false (bLt x46_27 x49_30)) fun x50_31 =>
 oB (oPick x44_26 (.bool true) x50_31) fun x51_32 =>
 ci x51_32 (
 oB (oNil x15_3) fun x53_33 =>
 oB (oFA 0 x53_33) fun x54_34 =>
 oB (oLdN 1 h30 x54_34) fun x55_35 =>
 oP (oSt 1 h30 x10_1 x55_35) fun _ h36 =>
 retT [(10, some (some 1)), (11, none)] (sput 11 (sput 10 Tr.e x10_1) (Ineg 0)) h36) (
 oB (oNil x15_3) fun x57_37 =>
 oB (oFA 0 x57_37) fun x58_38 =>
 oB (oFA 0 x58_38) fun x59_39 =>
 oB (oLd h30 x59_39) fun x60_40 =>
 oB (oLen x60_40) fun x61_41 =>
 oB (oNil x15_3) fun x64_42 =>
 oB (oFA 0 x64_42) fun x65_43 =>
 oB (oFA 0 x65_43) fun x66_44 =>
 oB (oLd h30 x66_44) fun x67_45 =>
 oB (oBuild [(I 0), (I 0), (I 0), (I 0), .nils, (.bool false)] [(0, 1, x2), (1, 1, x3), (2, 1, x4), (3, 1, x1)]) fun x72_46 =>
 oP (oBuildSl h30 98 6 1 [(I 0), (I 0), (I 0), (I 0), .nils, (.bool false)] [(0, 6, x72_46)]) fun x73_47 h47 =>
 oP (evW (.append 98 6 64 [(I 0), (I 0), (I 0), (I 0), .nils, (.bool false)] (.c x67_45) (.c x73_47)) .e h47) fun x74_48 h48 =>
 oB (oNil x15_3) fun x75_49 =>
 oB (oFA 0 x75_49) fun x76_50 =>
 oB (oFA 0 x76_50) fun x77_51 =>
 oP (oSt 1 h48 x77_51 x74_48) fun _ h52 =>
 oB (oNil x15_3) fun x79_53 =>
 oB (oFA 0 x79_53) fun x80_54 =>
 oB (oFA 0 x80_54) fun x81_55 =>
 oB (oLd h52 x81_55) fun x82_56 =>
 oB (oIx 6 x82_56 x1) fun x84_57 =>
 oB (oFA 4 x84_57) fun x85_58 =>
 oB (oLd h52 x85_58) fun x86_59 =>
 oB' (nx 18 h52) fun h60 =>
 oB (oNil x15_3) fun x88_61 =>
 oB (oFA 0 x88_61) fun x89_62 =>
 oB (oFA 0 x89_62) fun x90_63 =>
 oB (oLd h60 x90_63) fun x91_64 =>
 oB (oLen x86_59) fun x95_65 =>
 oB (oLen x86_59) fun x97_66 =>
 oB (evQ (.sl 1 (.c x86_59) none (some (.c x95_65)) (some (.c x97_66))) .e h60) fun x98_67 =>
 fl1 true (evF (.buildSlice 3 1 1 [(I 0)] [(0, 1, (.c x61_41))]) .e) (Nat.add h52.next 13) fun x100_68 o68 =>
 oB' (lay1 (Nat.add h52.next 13) o68 h60) fun v69 =>
 oP (evW (.append 3 1 8 [(I 0)] (.c x98_67) (.c x100_68)) .e v69) fun x101_70 h70 =>
 oB (oIx 6 x91_64 x1) fun x102_71 =>
 oB (oFA 4 x102_71) fun x103_72 =>
 oP (oSt 1 h70 x103_72 x101_70) fun x0_73 h73 =>
 ask1 true (oLd h60 x90_63) x91_64 (
 ask1 true (oLd h70 x90_63) x91_64 (
 oP (call n_arena_forest_grow [x15_3, x1, x4] h73) fun x107_74 h74 =>
 oB (oNil x15_3) fun x109_75 =>
 oB (oFA 0 x109_75) fun x110_76 =>
 oB (oLdN 1 h74 x110_76) fun x111_77 =>
 oP (oSt 1 h74 x10_1 x111_77) fun _ h78 =>
 retT [(10, some (some 1)), (11, none)] (sput 11 (sput 10 Tr.e x10_1) x61_41) h78)))
theorem o_arena_Add : FnOK Tryz.prog n_arena_Add (a5 f_arena_Add) := ok5 mixed Tryz.func202 (by kernel_rfl)
/- corrector/flow.Value -/
noncomputable def f_flow_Value (n : Nat) (call : Caller)  (x0 x1 x2 x3 x4 x5 x6 : AV) (h : AH) : Ans :=
 oP (oNew h 59 (AV.cells x2)) fun x9_0 h0 =>
 oP (oNew h0 59 [.nils]) fun x14_1 h1 =>
 oB (oLen x1) fun x22_2 =>
 oB (evQ (.minI (.c x5) [(.c x22_2)]) .e h1) fun x23_3 =>
 oB (oLdN 1 h1 x9_0) fun x24_4 =>
 oP (call n_arena_Grow [x24_4, (Ineg 0), (I 0)] h1) fun x25_5 h5 =>
 oB (oBuild [.nils, (I 0), .nils, .nils] [(0, 1, x1), (1, 1, x23_3), (2, 1, x25_5)]) fun x26_6 =>
 oP (oNew h5 287 (AV.cells x26_6)) fun x27_7 h7 =>
 oB (bLt x4 (I 0)) fun x29_8 =>
 oB (gq x29_8 false (some x3)) fun x31_9 =>
 oB (gq x29_8 false (bLt x31_9 (I 0))) fun x32_10 =>
 oB (oPick x29_8 (.bool true) x32_10) fun x33_11 =>
 oB (gq x33_11 false (some x3)) fun x35_12 =>
 oB (gq x33_11 false (oFA 0 x9_0)) fun x36_13 =>
 oB (gq x33_11 false (oLd h7 x36_13)) fun x37_14 =>
 oB (gq x33_11 false (oLen x37_14)) fun x38_15 =>
 oB (gq x33_11 false (bGe x35_12 x38_15)) fun x39_16 =>
 oB (oPick x33_11 (.bool true) x39_16) fun x40_17 =>
 ci x40_17 (
 oB (oNil x27_7) fun x42_18 =>
 oB (oFA 2 x42_18) fun x43_19 =>
 oB (oLdN 1 h7 x43_19) fun x44_20 =>
 oP (oSt 1 h7 x14_1 x44_20) fun _ h21 =>
 retT [(14, some (some 1)), (15, none), (16, none), (17, none)] (sput 17 (sput 16 (sput 15 (sput 14 Tr.e x14_1) (Ineg 0)) x4) .nils) h21) (
 oP (call n_flow_reader_value [x27_7, x3, x4, x6] h7) fun x51_22 h22 =>
 oB (oEx 0 x51_22) fun x52_23 =>
 oB (oEx 1 x51_22) fun x53_24 =>
 oB' (nx 15 h22) fun h25 =>
 oB (oNil x27_7) fun x55_26 =>
 oB (oFA 2 x55_26) fun x56_27 =>
 oB (oLdN 1 h25 x56_27) fun x57_28 =>
 oB (oNil x27_7) fun x61_29 =>
 oB (oFA 3 x61_29) fun x62_30 =>
 oB (oLd h25 x62_30) fun x63_31 =>
 oP (call n_slices_Clone_api_Diag_api_Diag [x63_31] h25) fun x64_32 h32 =>
 oP (oSt 1 h32 x14_1 x57_28) fun x0_33 h33 =>
 ask1 true (oLdN 1 h25 x56_27) x57_28 (
 ask1 true (oLdN 1 h32 x56_27) x57_28 (
 ask1 true (oLd h25 x62_30) x63_31 (
 retT [(14, some (some 1)), (15, none), (16, none), (17, none)] (sput 17 (sput 16 (sput 15 (sput 14 Tr.e x14_1) x52_23) x53_24) x64_32) h33))))
theorem o_flow_Value : FnOK Tryz.prog n_flow_Value (a7 f_flow_Value) := ok7 mixed Tryz.func203 (by kernel_rfl)
/- (*corrector/parse.parser).end -/
noncomputable def f_parse_parser_end (n : Nat) (call : Caller)  (x0 x1 : AV) (h : AH) : Ans :=
 jnF 1 (fun z1_0 h0 =>
 some (z1_0, h0)) fun j0 =>
 lpF 2 n (fun f1 y1_1 y0_1 h1 =>
 oB (oNil y0_1) fun x7_2 =>
 oB (oFA 1 x7_2) fun x8_3 =>
 oB (oLd h1 x8_3) fun x9_4 =>
 oB (oLen x9_4) fun x10_5 =>
 oB (bLt y1_1 x10_5) fun x11_6 =>
 oB (gq x11_6 true (some y0_1)) fun x13_7 =>
 oB (gq x11_6 true (oNil x13_7)) fun x14_8 =>
 oB (gq x11_6 true (oFA 1 x14_8)) fun x15_9 =>
 oB (gq x11_6 true (oLd h1 x15_9)) fun x16_10 =>
 oB (gq x11_6 true (some y1_1)) fun x17_11 =>
 oB (gq x11_6 true (oIx 3 x16_10 x17_11)) fun x18_12 =>
 oB (gq x11_6 true (oFA 0 x18_12)) fun x19_13 =>
 oB (gq x11_6 true (oLd h1 x19_13)) fun x20_14 =>
 oB (gq x11_6 true (bNe .no x20_14 (I 20))) fun x21_15 =>
 oB (oPick x11_6 x21_15 (.bool false)) fun x22_16 =>
 oB (gq x22_16 true (some y0_1)) fun x24_17 =>
 oB (gq x22_16 true (oNil x24_17)) fun x25_18 =>
 oB (gq x22_16 true (oFA 1 x25_18)) fun x26_19 =>
 oB (gq x22_16 true (oLd h1 x26_19)) fun x27_20 =>
 oB (gq x22_16 true (some y1_1)) fun x28_21 =>
 oB (gq x22_16 true (oIx 3 x27_20 x28_21)) fun x29_22 =>
 oB (gq x22_16 true (oFA 0 x29_22)) fun x30_23 =>
 oB (gq x22_16 true (oLd h1 x30_23)) fun x31_24 =>
 oB (gq x22_16 true (bNe .no x31_24 (I 21))) fun x32_25 =>
 oB (oPick x22_16 x32_25 (.bool false)) fun x33_26 =>
 ci x33_26 (
 jnF 2 (fun z1_27 z0_27 h27 =>
 f1 z1_27 z0_27 h27) fun j27 =>
 oB (bAdd y1_1 (I 1)) fun x35_28 =>
 j27 x35_28 y0_1 h1) (
 j0 y1_1 h1)) x1 x0 h
theorem o_parse_parser_end : FnOK Tryz.prog n_parse_parser_end (a2 f_parse_parser_end) := ok2 mixed Tryz.func204 (by kernel_rfl)
/- (*corrector/arena.forest).has -/
noncomputable def f_arena_forest_has (n : Nat) (call : Caller)  (x0 x1 : AV) (h : AH) : Ans :=
 oB (bGe x1 (I 0)) fun x6_0 =>
 oB (gq x6_0 true (some x1)) fun x8_1 =>
 oB (gq x6_0 true (some x0)) fun x9_2 =>
 oB (gq x6_0 true (oNil x9_2)) fun x10_3 =>
 oB (gq x6_0 true (oFA 0 x10_3)) fun x11_4 =>
 oB (gq x6_0 true (oFA 0 x11_4)) fun x12_5 =>
 oB (gq x6_0 true (oLd h x12_5)) fun x13_6 =>
 oB (gq x6_0 true (oLen x13_6)) fun x14_7 =>
 oB (gq x6_0 true (bLt x8_1 x14_7)) fun x15_8 =>
 oB (oPick x6_0 x15_8 (.bool false)) fun x16_9 =>
 some (x16_9, h)
theorem o_arena_forest_has : FnOK Tryz.prog n_arena_forest_has (a2 f_arena_forest_has) := ok2 mixed Tryz.func205 (by kernel_rfl)
/- (*corrector/arena.forest).grow -/
noncomputable def f_arena_forest_grow (n : Nat) (call : Caller)  (x0 x1 x2 : AV) (h : AH) : Ans :=
 oB (oNil x0) fun x8_0 =>
 oB (oFA 0 x8_0) fun x9_1 =>
 oB (oFA 0 x9_1) fun x10_2 =>
 oB (oLd h x10_2) fun x11_3 =>
 oB (oLen x11_3) fun x12_4 =>
 jnF 0 (fun h5 =>
 some (.tup [], h5)) fun j5 =>
 lpF 4 n (fun f6 y6_6 y2_6 y1_6 y0_6 h6 =>
 oP (call n_arena_forest_has [y0_6, y1_6] h6) fun x15_7 h7 =>
 oB (gq x15_7 true (some y6_6)) fun x17_8 =>
 oB (gq x15_7 true (bGt x17_8 (I 0))) fun x18_9 =>
 oB (oPick x15_7 x18_9 (.bool false)) fun x19_10 =>
 ci x19_10 (
 jnF 4 (fun z6_11 z2_11 z1_11 z0_11 h11 =>
 oB (bSub z6_11 (I 1)) fun x21_12 =>
 f6 x21_12 z2_11 z1_11 z0_11 h11) fun j11 =>
 oB' (nx 20 h7) fun h13 =>
 oB (oNil y0_6) fun x23_14 =>
 oB (oFA 0 x23_14) fun x24_15 =>
 oB (oFA 0 x24_15) fun x25_16 =>
 oB (oLd h13 x25_16) fun x26_17 =>
 oB (oNil y0_6) fun x29_18 =>
 oB (oFA 0 x29_18) fun x30_19 =>
 oB (oFA 0 x30_19) fun x31_20 =>
 oB (oLd h13 x31_20) fun x32_21 =>
 oB (oIx 6 x32_21 y1_6) fun x34_22 =>
 oB (oFA 2 x34_22) fun x35_23 =>
 oB (oLd h13 x35_23) fun x36_24 =>
 oB (evQ (.maxI (.c x36_24) [(.c y2_6)]) .e h13) fun x38_25 =>
 oB (oIx 6 x26_17 y1_6) fun x39_26 =>
 oB (oFA 2 x39_26) fun x40_27 =>
 oP (oSt 1 h13 x40_27 x38_25) fun _ h28 =>
 oB (oNil y0_6) fun x42_29 =>
 oB (oFA 0 x42_29) fun x43_30 =>
 oB (oFA 0 x43_30) fun x44_31 =>
 oB (oLd h28 x44_31) fun x45_32 =>
 oB (oIx 6 x45_32 y1_6) fun x47_33 =>
 oB (oFA 3 x47_33) fun x48_34 =>
 oB (oLd h28 x48_34) fun x49_35 =>
 j11 y6_6 y2_6 x49_35 y0_6 h28) (
 j5 h7)) x12_4 x2 x1 x0 h
theorem o_arena_forest_grow : FnOK Tryz.prog n_arena_forest_grow (a3 f_arena_forest_grow) := ok3 mixed Tryz.func206 (by kernel_rfl)
/- (*corrector/parse.parser).nest -/
noncomputable def f_parse_parser_nest (n : Nat) (call : Caller)  (x0 x1 x2 x3 : AV) (h : AH) : Ans :=
 oP (oNew h 201 (AV.cells x3)) fun x7_0 h0 =>
 oB (bAdd x1 (I 2)) fun x12_1 =>
 oB (oNil x0) fun x14_2 =>
 oB (oFA 3 x14_2) fun x15_3 =>
 oB (oLd h0 x15_3) fun x16_4 =>
 oB (bGt x12_1 x16_4) fun x17_5 =>
 ci x17_5 (
 some ((I 10), h0)) (
 oB (oNil x0) fun x20_6 =>
 oB (oFA 8 x20_6) fun x21_7 =>
 oB (oLd h0 x21_7) fun x22_8 =>
 oB (bAdd x1 (I 1)) fun x24_9 =>
 oB (evQ (.sl 5 (.c x22_8) none (some (.c x24_9)) none) .e h0) fun x25_10 =>
 oB (oNil x0) fun x26_11 =>
 oB (oFA 8 x26_11) fun x27_12 =>
 oP (oSt 1 h0 x27_12 x25_10) fun _ h13 =>
 oB (oNil x0) fun x29_14 =>
 oB (oFA 6 x29_14) fun x30_15 =>
 oB (oLd h13 x30_15) fun x31_16 =>
 oB (bGe x1 (I 0)) fun x33_17 =>
 jnF 4 (fun z9_18 z7_18 z2_18 z0_18 h18 =>
 oB (oFA 2 z7_18) fun x55_19 =>
 oB (oLd h18 x55_19) fun x56_20 =>
 oB (oFA 2 z7_18) fun x57_21 =>
 oB (oLd h18 x57_21) fun x58_22 =>
 oP (call n_parse_parser_add [z0_18, z9_18, z2_18, x56_20, x58_22] h18) fun x59_23 h23 =>
 oB' (nx 15 h23) fun h24 =>
 oB (oNil z0_18) fun x62_25 =>
 oB (oFA 8 x62_25) fun x63_26 =>
 oB (oLd h24 x63_26) fun x64_27 =>
 oB (oFA 1 z7_18) fun x67_28 =>
 oB (oLd h24 x67_28) fun x68_29 =>
 oB (oBuild [(I 0), (I 0), (I 0), (I 0), (.bool false)] [(0, 1, x59_23), (1, 1, z2_18), (2, 1, x68_29)]) fun x69_30 =>
 fl1 true (evF (.buildSlice 195 5 1 [(I 0), (I 0), (I 0), (I 0), (.bool false)] [(0, 5, (.c x69_30))]) .e) (Nat.add h23.next 10) fun x70_31 o31 =>
 oB' (lay1 (Nat.add h23.next 10) o31 h24) fun v32 =>
 oP (evW (.append 195 5 40 [(I 0), (I 0), (I 0), (I 0), (.bool false)] (.c x64_27) (.c x70_31)) .e v32) fun x71_33 h33 =>
 oB (oNil z0_18) fun x72_34 =>
 oB (oFA 8 x72_34) fun x73_35 =>
 oP (oSt 1 h33 x73_35 x71_33) fun x0_36 h36 =>
 ask1 true (oLd h24 x63_26) x64_27 (
 ask1 true (oLd h24 x67_28) x68_29 (
 oB (oLdN 4 h36 z7_18) fun x75_37 =>
 oP (call n_parse_parser_cur [z0_18, x75_37] h36) fun x76_38 h38 =>
 some ((I 0), h38)))) fun j18 =>
 ci x33_17 (
 oB (oNil x0) fun x35_39 =>
 oB (oFA 8 x35_39) fun x36_40 =>
 oB (oLd h13 x36_40) fun x37_41 =>
 oB (oIx 5 x37_41 x1) fun x39_42 =>
 oB (oFA 3 x39_42) fun x40_43 =>
 oB (oLd h13 x40_43) fun x41_44 =>
 oB (oNil x0) fun x43_45 =>
 oB (oFA 8 x43_45) fun x44_46 =>
 oB (oLd h13 x44_46) fun x45_47 =>
 oB (oIx 5 x45_47 x1) fun x47_48 =>
 oB (oFA 4 x47_48) fun x48_49 =>
 oP (oSt 1 h13 x48_49 (.bool true)) fun _ h50 =>
 j18 x41_44 x7_0 x2 x0 h50) (
 oB (oNil x0) fun x50_51 =>
 oB (oFA 7 x50_51) fun x51_52 =>
 oP (oSt 1 h13 x51_52 (.bool true)) fun _ h53 =>
 j18 x31_16 x7_0 x2 x0 h53))
theorem o_parse_parser_nest : FnOK Tryz.prog n_parse_parser_nest (a4 f_parse_parser_nest) := ok4 mixed Tryz.func207 (by kernel_rfl)
/- (*corrector/parse.parser).cur -/
noncomputable def f_parse_parser_cur (n : Nat) (call : Caller)  (x0 x1 : AV) (h : AH) : Ans :=
 oP (oNew h 201 (AV.cells x1)) fun x3_0 h0 =>
 oB' (nx 12 h0) fun h1 =>
 oB (oNil x0) fun x8_2 =>
 oB (oFA 8 x8_2) fun x9_3 =>
 oB (oLd h1 x9_3) fun x10_4 =>
 oB (oNil x0) fun x12_5 =>
 oB (oFA 8 x12_5) fun x13_6 =>
 oB (oLd h1 x13_6) fun x14_7 =>
 oB (oLen x14_7) fun x15_8 =>
 oB (bSub x15_8 (I 1)) fun x16_9 =>
 oB (oIx 5 x10_4 x16_9) fun x17_10 =>
 oB (oFA 0 x3_0) fun x18_11 =>
 oB (oLd h1 x18_11) fun x19_12 =>
 jnF 4 (fun z5_13 z4_13 z3_13 z0_13 h13 =>
 oB' (nx 12 h13) fun h14 =>
 oB (oNil z4_13) fun x22_15 =>
 oB (oFA 0 x22_15) fun x23_16 =>
 oB (oLd h14 x23_16) fun x24_17 =>
 oB (oFA 2 z3_13) fun x26_18 =>
 oB (oLd h14 x26_18) fun x27_19 =>
 oB (oFA 3 z3_13) fun x28_20 =>
 oB (oLd h14 x28_20) fun x29_21 =>
 oP (call n_parse_parser_add [z0_13, x24_17, z5_13, x27_19, x29_21] h14) fun x30_22 h22 =>
 oB (oFA 0 z3_13) fun x31_23 =>
 oB (oLd h22 x31_23) fun x32_24 =>
 oB (evQ (.un .not (.c x32_24)) .e h22) fun x33_25 =>
 jnF 3 (fun z6_26 z4_26 z0_26 h26 =>
 oB (oNil z4_26) fun x43_27 =>
 oB (oFA 3 x43_27) fun x44_28 =>
 oP (oSt 1 h26 x44_28 z6_26) fun _ h29 =>
 oB (oNil z4_26) fun x45_30 =>
 oB (oFA 4 x45_30) fun x46_31 =>
 oP (oSt 1 h29 x46_31 (.bool false)) fun _ h32 =>
 oB (oNil z0_26) fun x47_33 =>
 oB (oFA 9 x47_33) fun x48_34 =>
 oP (oSt 1 h32 x48_34 z6_26) fun _ h35 =>
 some (.tup [], h35)) fun j26 =>
 ci x33_25 (
 oB (oLdN 4 h22 z3_13) fun x36_36 =>
 oP (call n_parse_parser_key [z0_13, x30_22, x36_36] h22) fun x37_37 h37 =>
 j26 x30_22 z4_13 z0_13 h37) (
 j26 x30_22 z4_13 z0_13 h22)) fun j13 =>
 ci x19_12 (
 j13 (I 4) x17_10 x3_0 x0 h1) (
 j13 (I 6) x17_10 x3_0 x0 h1)
theorem o_parse_parser_cur : FnOK Tryz.prog n_parse_parser_cur (a2 f_parse_parser_cur) := ok2 mixed Tryz.func208 (by kernel_rfl)
/- slices.Index[[]byte,byte] -/
noncomputable def f_slices_Index_byte_byte (n : Nat) (call : Caller)  (x0 x1 : AV) (h : AH) : Ans :=
 oB (oLen x0) fun x7_0 =>
 jnF 0 (fun h1 =>
 some ((Ineg 0), h1)) fun j1 =>
 lpF 4 n (fun f2 y8_2 y7_2 y1_2 y0_2 h2 =>
 oB (bLt y8_2 y7_2) fun x9_3 =>
 ci x9_3 (
 jnF 4 (fun z8_4 z7_4 z1_4 z0_4 h4 =>
 oB (bAdd z8_4 (I 1)) fun x18_5 =>
 f2 x18_5 z7_4 z1_4 z0_4 h4) fun j4 =>
 oB (oIx 1 y0_2 y8_2) fun x14_6 =>
 oB (oLd h2 x14_6) fun x15_7 =>
 oB (bEq .no y1_2 x15_7) fun x16_8 =>
 ci x16_8 (
 some (y8_2, h2)) (
 j4 y8_2 y7_2 y1_2 y0_2 h2)) (
 j1 h2)) (I 0) x7_0 x1 x0 h
theorem o_slices_Index_byte_byte : FnOK Tryz.prog n_slices_Index_byte_byte (a2 f_slices_Index_byte_byte) := ok2 mixed Tryz.func209 (by kernel_rfl)
/- corrector/quote.of -/
noncomputable def f_quote_of (n : Nat) (call : Caller)  (x0 x1 : AV) (h : AH) : Ans :=
 jnF 0 (fun h0 =>
 some (.nili, h0)) fun j0 =>
 oB (bEq .no x0 (I 15)) fun x7_1 =>
 ci x7_1 (
 oB (some (.iface 290 x1)) fun x9_2 =>
 some (x9_2, h)) (
 oB (bEq .no x0 (I 16)) fun x11_3 =>
 ci x11_3 (
 oB (some (.iface 291 x1)) fun x13_4 =>
 some (x13_4, h)) (
 oB (bEq .no x0 (I 17)) fun x15_5 =>
 ci x15_5 (
 oB (some (.iface 292 x1)) fun x17_6 =>
 some (x17_6, h)) (
 j0 h)))
theorem o_quote_of : FnOK Tryz.prog n_quote_of (a2 f_quote_of) := ok2 mixed Tryz.func210 (by kernel_rfl)
/- slices.Clone[[]corrector/api.Node,corrector/api.Node] -/
noncomputable def f_slices_Clone_api_Node_api_Node (n : Nat) (call : Caller)  (x0 : AV) (h : AH) : Ans :=
 oB (bEq .sl x0 .nils) fun x4_0 =>
 ci x4_0 (
 some (.nils, h)) (
 oP (oBuildSl h 98 6 0 [] []) fun x5_1 h1 =>
 oP (evW (.append 98 6 64 [(I 0), (I 0), (I 0), (I 0), .nils, (.bool false)] (.c x5_1) (.c x0)) .e h1) fun x7_2 h2 =>
 some (x7_2, h2))
theorem o_slices_Clone_api_Node_api_Node : FnOK Tryz.prog n_slices_Clone_api_Node_api_Node (a1 f_slices_Clone_api_Node_api_Node) := ok1 mixed Tryz.func211 (by kernel_rfl)
/- slices.Backward[[]corrector/api.Token,corrector/api.Token] -/
noncomputable def f_slices_Backward_api_Token_api_Token (n : Nat) (call : Caller)  (x0 : AV) (h : AH) : Ans :=
 oP (oNew h 56 (AV.cells x0)) fun x1_0 h0 =>
 oB (some (.fn n_slices_Backward_api_Token_api_Token_1 [] [x1_0])) fun x3_1 =>
 some (x3_1, h0)
theorem o_slices_Backward_api_Token_api_Token : FnOK Tryz.prog n_slices_Backward_api_Token_api_Token (a1 f_slices_Backward_api_Token_api_Token) := ok1 mixed Tryz.func212 (by kernel_rfl)
/- corrector/block.Text -/
noncomputable def f_block_Text (n : Nat) (call : Caller)  (x0 x1 : AV) (h : AH) : Ans :=
 oB (oLen x1) fun x17_0 =>
 oP (evW (.mkSlice 9 1 16 [(.str [])] (.c x17_0) (.c x17_0)) .e h) fun x18_1 h1 =>
 oB (oLen x1) fun x20_2 =>
 jnF 5 (fun z7_3 z6_3 z5_3 z1_3 z0_3 h3 =>
 oP (call n_strings_Contains [z0_3, (.str [43])] h3) fun x42_4 h4 =>
 oP (call n_strings_Contains [z0_3, (.str [45])] h4) fun x44_5 h5 =>
 oB (bLt z6_3 (I 0)) fun x46_6 =>
 ci x46_6 (
 ci x42_4 (
 oB (oLen z1_3) fun x49_7 =>
 oP (call n_strings_Repeat [(.str [10]), x49_7] h5) fun x50_8 h8 =>
 some (x50_8, h8)) (
 some ((.str []), h5))) (
 oB' (nx 11 h5) fun h9 =>
 oB (oIx 1 z5_3 z6_3) fun x53_10 =>
 oB (oLd h9 x53_10) fun x54_11 =>
 oB (oIx 1 z5_3 z6_3) fun x57_12 =>
 oB (oLd h9 x57_12) fun x58_13 =>
 oB (oLenS x58_13) fun x59_14 =>
 oP (call n_block_spaces [x54_11, x59_14] h9) fun x60_15 h15 =>
 oB (oLen z5_3) fun x62_16 =>
 jnF 5 (fun z11_17 z10_17 z7_17 z5_17 z0_17 h17 =>
 oB (oLen z5_17) fun x82_18 =>
 oB (bSub x82_18 (I 1)) fun x83_19 =>
 oB (bSub x83_19 z7_17) fun x85_20 =>
 oB (bAdd z7_17 (I 1)) fun x88_21 =>
 oB (evQ (.sl 1 (.c z5_17) none (some (.c x88_21)) none) .e h17) fun x89_22 =>
 oP (call n_slices_Clone_string_string [x89_22] h17) fun x90_23 h23 =>
 oP (call n_strings_Join [x90_23, (.str [10])] h23) fun x92_24 h24 =>
 oP (call n_strings_HasPrefix [z0_17, (.str [62])] h24) fun x94_25 h25 =>
 jnF 4 (fun z15_26 z14_26 z11_26 z10_26 h26 =>
 jnF 1 (fun z15_27 h27 =>
 oB (bAdd z15_27 (.str [10])) fun x108_28 =>
 some (x108_28, h27)) fun j27 =>
 ci z11_26 (
 some (z15_26, h26)) (
 ci z10_26 (
 oB (bAdd (I 1) z14_26) fun x104_29 =>
 oP (call n_strings_Repeat [(.str [10]), x104_29] h26) fun x105_30 h30 =>
 oB (bAdd z15_26 x105_30) fun x106_31 =>
 some (x106_31, h30)) (
 j27 z15_26 h26))) fun j26 =>
 ci x94_25 (
 oP (call n_block_folded [x90_23] h25) fun x96_32 h32 =>
 j26 x96_32 x85_20 z11_17 z10_17 h32) (
 j26 x92_24 x85_20 z11_17 z10_17 h25)) fun j17 =>
 lpF 8 n (fun f33 y63_33 y62_33 y12_33 y11_33 y10_33 y7_33 y5_33 y0_33 h33 =>
 oB (bLt y63_33 y62_33) fun x64_34 =>
 ci x64_34 (
 jnF 8 (fun z63_35 z62_35 z12_35 z11_35 z10_35 z7_35 z5_35 z0_35 h35 =>
 oB (bAdd z63_35 (I 1)) fun x80_36 =>
 f33 x80_36 z62_35 z12_35 z11_35 z10_35 z7_35 z5_35 z0_35 h35) fun j35 =>
 oB' (nx 15 h33) fun h37 =>
 oB (oIx 1 y5_33 y63_33) fun x70_38 =>
 oB (oLd h37 x70_38) fun x71_39 =>
 oB (oIx 1 y5_33 y63_33) fun x74_40 =>
 oB (oLd h37 x74_40) fun x75_41 =>
 oP (call n_block_spaces [x75_41, y12_33] h37) fun x77_42 h42 =>
 oB (oSlS x71_39 (some x77_42) none) fun x78_43 =>
 oB (oIx 1 y5_33 y63_33) fun x79_44 =>
 oP (oSt 1 h42 x79_44 x78_43) fun x0_45 h45 =>
 ask1 true (oLd h37 x70_38) x71_39 (
 ask1 true (oLd h42 x70_38) x71_39 (
 ask1 true (oLd h37 x74_40) x75_41 (
 j35 y63_33 y62_33 y12_33 y11_33 y10_33 y7_33 y5_33 y0_33 h45)))) (
 j17 y11_33 y10_33 y7_33 y5_33 y0_33 h33)) (I 0) x62_16 x60_15 x44_5 x42_4 z7_3 z5_3 z0_3 h15)) fun j3 =>
 lpF 8 n (fun f46 y21_46 y20_46 y19_46 y7_46 y6_46 y5_46 y1_46 y0_46 h46 =>
 oB (bLt y21_46 y20_46) fun x22_47 =>
 ci x22_47 (
 jnF 8 (fun z21_48 z20_48 z19_48 z7_48 z6_48 z5_48 z1_48 z0_48 h48 =>
 oB (bAdd z21_48 (I 1)) fun x40_49 =>
 f46 x40_49 z20_48 z19_48 z7_48 z6_48 z5_48 z1_48 z0_48 h48) fun j48 =>
 oB (oIx 1 y19_46 y21_46) fun x24_50 =>
 oB (oLd h46 x24_50) fun x25_51 =>
 oP (call n_block_own [x25_51] h46) fun x29_52 h52 =>
 oB (oIx 1 y5_46 y21_46) fun x30_53 =>
 oP (oSt 1 h52 x30_53 x29_52) fun _ h54 =>
 oB (oIx 1 y5_46 y21_46) fun x33_55 =>
 oB (oLd h54 x33_55) fun x34_56 =>
 oP (call n_block_empty [x34_56] h54) fun x35_57 h57 =>
 ci x35_57 (
 j48 y21_46 y20_46 y19_46 y7_46 y6_46 y5_46 y1_46 y0_46 h57) (
 oB (bLt y6_46 (I 0)) fun x38_58 =>
 jnF 8 (fun z21_59 z20_59 z19_59 z7_59 z6_59 z5_59 z1_59 z0_59 h59 =>
 j48 z21_59 z20_59 z19_59 z7_59 z6_59 z5_59 z1_59 z0_59 h59) fun j59 =>
 ci x38_58 (
 j59 y21_46 y20_46 y19_46 y21_46 y21_46 y5_46 y1_46 y0_46 h57) (
 j59 y21_46 y20_46 y19_46 y21_46 y6_46 y5_46 y1_46 y0_46 h57))) (
 j3 y7_46 y6_46 y5_46 y1_46 y0_46 h46)) (I 0) x20_2 x1 (Ineg 0) (Ineg 0) x18_1 x1 x0 h1
theorem o_block_Text : FnOK Tryz.prog n_block_Text (a2 f_block_Text) := ok2 mixed Tryz.func213 (by kernel_rfl)
/- corrector/resolve.Kind -/
noncomputable def f_resolve_Kind (n : Nat) (call : Caller)  (x0 : AV) (h : AH) : Ans :=
 jnF 1 (fun z0_0 h0 =>
 oP (call n_resolve_Int [z0_0] h0) fun x21_1 h1 =>
 oB (oEx 0 x21_1) fun x22_2 =>
 oB (oEx 1 x21_1) fun x23_3 =>
 ci x23_3 (
 some ((I 3), h1)) (
 oP (call n_resolve_float [z0_0] h1) fun x26_4 h4 =>
 ci x26_4 (
 some ((I 4), h4)) (
 some ((I 5), h4)))) fun j0 =>
 oB (bEq .no x0 (.str [])) fun x7_5 =>
 jnF 3 (fun z6_6 z5_6 z0_6 h6 =>
 ci z6_6 (
 some ((I 1), h6)) (
 oB (bEq .no z5_6 (.str [116, 114, 117, 101])) fun x13_7 =>
 jnF 2 (fun z12_8 z0_8 h8 =>
 ci z12_8 (
 some ((I 2), h8)) (
 j0 z0_8 h8)) fun j8 =>
 ci x13_7 (
 j8 x13_7 z0_6 h6) (
 oB (bEq .no z5_6 (.str [84, 114, 117, 101])) fun x14_9 =>
 jnF 2 (fun z12_10 z0_10 h10 =>
 j8 z12_10 z0_10 h10) fun j10 =>
 ci x14_9 (
 j10 x14_9 z0_6 h6) (
 oB (bEq .no z5_6 (.str [84, 82, 85, 69])) fun x15_11 =>
 jnF 2 (fun z12_12 z0_12 h12 =>
 j10 z12_12 z0_12 h12) fun j12 =>
 ci x15_11 (
 j12 x15_11 z0_6 h6) (
 oB (bEq .no z5_6 (.str [102, 97, 108, 115, 101])) fun x16_13 =>
 jnF 2 (fun z12_14 z0_14 h14 =>
 j12 z12_14 z0_14 h14) fun j14 =>
 ci x16_13 (
 j14 x16_13 z0_6 h6) (
 oB (bEq .no z5_6 (.str [70, 97, 108, 115, 101])) fun x17_15 =>
 jnF 2 (fun z12_16 z0_16 h16 =>
 j14 z12_16 z0_16 h16) fun j16 =>
 ci x17_15 (
 j16 x17_15 z0_6 h6) (
 oB (bEq .no z5_6 (.str [70, 65, 76, 83, 69])) fun x18_17 =>
 j16 x18_17 z0_6 h6))))))) fun j6 =>
 ci x7_5 (
 j6 x7_5 x0 x0 h) (
 oB (bEq .no x0 (.str [126])) fun x8_18 =>
 jnF 3 (fun z6_19 z5_19 z0_19 h19 =>
 j6 z6_19 z5_19 z0_19 h19) fun j19 =>
 ci x8_18 (
 j19 x8_18 x0 x0 h) (
 oB (bEq .no x0 (.str [110, 117, 108, 108])) fun x9_20 =>
 jnF 3 (fun z6_21 z5_21 z0_21 h21 =>
 j19 z6_21 z5_21 z0_21 h21) fun j21 =>
 ci x9_20 (
 j21 x9_20 x0 x0 h) (
 oB (bEq .no x0 (.str [78, 117, 108, 108])) fun x10_22 =>
 jnF 3 (fun z6_23 z5_23 z0_23 h23 =>
 j21 z6_23 z5_23 z0_23 h23) fun j23 =>
 ci x10_22 (
 j23 x10_22 x0 x0 h) (
 oB (bEq .no x0 (.str [78, 85, 76, 76])) fun x11_24 =>
 j23 x11_24 x0 x0 h))))
theorem o_resolve_Kind : FnOK Tryz.prog n_resolve_Kind (a1 f_resolve_Kind) := ok1 mixed Tryz.func214 (by kernel_rfl)
/- (*corrector/graph.composer).all$1 -/
noncomputable def f_graph_composer_all_1 (n : Nat) (call : Caller)  (x0 x1 x2 x3 : AV) (h : AH) : Ans :=
 oB (oLd h x1) fun x6_0 =>
 oB (oNil x6_0) fun x7_1 =>
 oB (oFA 2 x7_1) fun x8_2 =>
 oB (oFA 0 x8_2) fun x9_3 =>
 oB (oLd h x9_3) fun x10_4 =>
 oB (oIx 6 x10_4 x0) fun x12_5 =>
 oB (oLdN 6 h x12_5) fun x13_6 =>
 oP (oNew h 98 [(I 0), (I 0), (I 0), (I 0), .nils, (.bool false)]) fun x5_7 h7 =>
 oP (oSt 6 h7 x5_7 x13_6) fun _ h8 =>
 jnF 0 (fun h9 =>
 some (.tup [], h9)) fun j9 =>
 oB (oFA 0 x5_7) fun x21_10 =>
 oB (oLd h8 x21_10) fun x22_11 =>
 oB (bEq .no x22_11 (I 11)) fun x23_12 =>
 jnF 0 (fun h13 =>
 j9 h13) fun j13 =>
 ci x23_12 (
 j13 h8) (
 oB (oFA 0 x5_7) fun x25_14 =>
 oB (oLd h8 x25_14) fun x26_15 =>
 oB (bEq .no x26_15 (I 6)) fun x27_16 =>
 oB (gq x27_16 true (oFA 0 x2)) fun x29_17 =>
 oB (gq x27_16 true (oLd h8 x29_17)) fun x30_18 =>
 oB (gq x27_16 true (bEq .no x30_18 (I 9))) fun x31_19 =>
 oB (oPick x27_16 x31_19 (.bool false)) fun x32_20 =>
 jnF 0 (fun h21 =>
 j13 h21) fun j21 =>
 ci x32_20 (
 oB' (nx 14 h8) fun h22 =>
 oB (oLd h22 x1) fun x33_23 =>
 oB (oNil x33_23) fun x34_24 =>
 oB (oFA 3 x34_24) fun x35_25 =>
 oB (oFA 2 x35_25) fun x36_26 =>
 oB (oLd h22 x36_26) fun x37_27 =>
 oB (oLd h22 x1) fun x39_28 =>
 oB (oLd h22 x1) fun x40_29 =>
 oB (oLdN 6 h22 x5_7) fun x41_30 =>
 oP (call n_graph_composer_pair [x40_29, x41_30] h22) fun x42_31 h31 =>
 oB (oBuild [(I 0), (.str []), (.str []), .nils] [(0, 1, (I 7)), (3, 1, x42_31)]) fun x43_32 =>
 oP (call n_graph_composer_value [x39_28, x43_32] h31) fun x44_33 h33 =>
 oB (oIx 1 x37_27 x0) fun x45_34 =>
 oP (oSt 1 h33 x45_34 x44_33) fun x0_35 h35 =>
 ask1 true (oLd h22 x1) x33_23 (
 ask1 true (oLd h31 x1) x33_23 (
 ask1 true (oLd h33 x1) x33_23 (
 ask1 true (oLd h22 x36_26) x37_27 (
 ask1 true (oLd h31 x36_26) x37_27 (
 ask1 true (oLd h33 x36_26) x37_27 (
 ask1 true (oLd h22 x1) x39_28 (
 ask1 true (oLd h31 x1) x39_28 (
 ask1 true (oLd h22 x1) x40_29 (
 ask1 true (oLdN 6 h22 x5_7) x41_30 (
 oB' (nx 12 h35) fun h36 =>
 oB (oLd h36 x3) fun x46_37 =>
 oB (oLd h36 x1) fun x47_38 =>
 oB (oNil x47_38) fun x48_39 =>
 oB (oFA 3 x48_39) fun x49_40 =>
 oB (oFA 2 x49_40) fun x50_41 =>
 oB (oLd h36 x50_41) fun x51_42 =>
 oB (oIx 1 x51_42 x0) fun x53_43 =>
 oB (oLd h36 x53_43) fun x54_44 =>
 fl1 true (evF (.buildSlice 3 1 1 [(I 0)] [(0, 1, (.c x54_44))]) .e) (Nat.add h35.next 9) fun x55_45 o45 =>
 oB' (lay1 (Nat.add h35.next 9) o45 h36) fun v46 =>
 oP (evW (.append 3 1 8 [(I 0)] (.c x46_37) (.c x55_45)) .e v46) fun x56_47 h47 =>
 oP (oSt 1 h47 x3 x56_47) fun x0_48 h48 =>
 ask1 true (oLd h36 x3) x46_37 (
 ask1 true (oLd h36 x1) x47_38 (
 ask1 true (oLd h36 x50_41) x51_42 (
 ask1 true (oLd h36 x53_43) x54_44 (
 j21 h48))))))))))))))) (
 oB (oFA 0 x5_7) fun x58_49 =>
 oB (oLd h8 x58_49) fun x59_50 =>
 oB (bEq .no x59_50 (I 6)) fun x60_51 =>
 jnF 0 (fun h52 =>
 j21 h52) fun j52 =>
 ci x60_51 (
 oB' (nx 6 h8) fun h53 =>
 oB (oLd h53 x3) fun x61_54 =>
 oB (oLd h53 x1) fun x62_55 =>
 oB (oLdN 6 h53 x5_7) fun x63_56 =>
 oP (call n_graph_composer_pair [x62_55, x63_56] h53) fun x64_57 h57 =>
 oP (evW (.append 3 1 8 [(I 0)] (.c x61_54) (.c x64_57)) .e h57) fun x65_58 h58 =>
 oP (oSt 1 h58 x3 x65_58) fun x0_59 h59 =>
 ask1 true (oLd h53 x3) x61_54 (
 ask1 true (oLd h57 x3) x61_54 (
 ask1 true (oLd h53 x1) x62_55 (
 ask1 true (oLdN 6 h53 x5_7) x63_56 (
 j52 h59))))) (
 oB' (nx 7 h8) fun h60 =>
 oB (oLd h60 x3) fun x14_61 =>
 oB (oLd h60 x1) fun x15_62 =>
 oP (call n_graph_composer_node [x15_62, x0] h60) fun x17_63 h63 =>
 fl1 true (evF (.buildSlice 3 1 1 [(I 0)] [(0, 1, (.c x17_63))]) .e) (Nat.add h8.next 4) fun x18_64 o64 =>
 oB' (lay1 (Nat.add h8.next 4) o64 h63) fun v65 =>
 oP (evW (.append 3 1 8 [(I 0)] (.c x14_61) (.c x18_64)) .e v65) fun x19_66 h66 =>
 oP (oSt 1 h66 x3 x19_66) fun x0_67 h67 =>
 ask1 true (oLd h60 x3) x14_61 (
 ask1 true (oLd h63 x3) x14_61 (
 ask1 true (oLd h60 x1) x15_62 (
 j52 h67))))))
theorem o_graph_composer_all_1 : FnOK Tryz.prog n_graph_composer_all_1 (a4 f_graph_composer_all_1) := ok4 mixed Tryz.func215 (by kernel_rfl)
/- (*corrector/graph.composer).pair -/
noncomputable def f_graph_composer_pair (n : Nat) (call : Caller)  (x0 x1 : AV) (h : AH) : Ans :=
 oP (oNew h 98 (AV.cells x1)) fun x3_0 h0 =>
 oB (oFA 4 x3_0) fun x10_1 =>
 oB (oLd h0 x10_1) fun x11_2 =>
 oB (oFA 5 x3_0) fun x12_3 =>
 oB (oLd h0 x12_3) fun x13_4 =>
 oB (gq x13_4 true (some x11_2)) fun x15_5 =>
 oB (gq x13_4 true (oLen x15_5)) fun x16_6 =>
 oB (gq x13_4 true (bGt x16_6 (I 0))) fun x17_7 =>
 oB (oPick x13_4 x17_7 (.bool false)) fun x18_8 =>
 jnF 4 (fun z7_9 z6_9 z5_9 z0_9 h9 =>
 oB (bLt z6_9 (I 0)) fun x39_10 =>
 jnF 4 (fun z7_11 z6_11 z5_11 z0_11 h11 =>
 oB (oLen z5_11) fun x43_12 =>
 jnF 3 (fun z7_13 z6_13 z0_13 h13 =>
 oB (bLt z7_13 (I 0)) fun x67_14 =>
 jnF 2 (fun z7_15 z6_15 h15 =>
 oP (oBuildSl h15 3 1 2 [(I 0), (I 0)] [(0, 1, z6_15), (1, 1, z7_15)]) fun x72_16 h16 =>
 some (x72_16, h16)) fun j15 =>
 ci x67_14 (
 oP (call n_graph_composer_null [z0_13] h13) fun x69_17 h17 =>
 j15 x69_17 z6_13 h17) (
 j15 z7_13 z6_13 h13)) fun j13 =>
 lpF 6 n (fun f18 y44_18 y43_18 y42_18 y7_18 y6_18 y0_18 h18 =>
 oB (bLt y44_18 y43_18) fun x45_19 =>
 ci x45_19 (
 jnF 6 (fun z44_20 z43_20 z42_20 z7_20 z6_20 z0_20 h20 =>
 oB (bAdd z44_20 (I 1)) fun x65_21 =>
 f18 x65_21 z43_20 z42_20 z7_20 z6_20 z0_20 h20) fun j20 =>
 oB (oIx 1 y42_18 y44_18) fun x46_22 =>
 oB (oLd h18 x46_22) fun x47_23 =>
 oB (oNil y0_18) fun x49_24 =>
 oB (oFA 2 x49_24) fun x50_25 =>
 oB (oFA 0 x50_25) fun x51_26 =>
 oB (oLd h18 x51_26) fun x52_27 =>
 oB (oIx 6 x52_27 x47_23) fun x54_28 =>
 oB (oFA 0 x54_28) fun x55_29 =>
 oB (oLd h18 x55_29) fun x56_30 =>
 oB (bNe .no x56_30 (I 11)) fun x57_31 =>
 oB (gq x57_31 true (some y7_18)) fun x59_32 =>
 oB (gq x57_31 true (bLt x59_32 (I 0))) fun x60_33 =>
 oB (oPick x57_31 x60_33 (.bool false)) fun x61_34 =>
 jnF 6 (fun z44_35 z43_35 z42_35 z7_35 z6_35 z0_35 h35 =>
 j20 z44_35 z43_35 z42_35 z7_35 z6_35 z0_35 h35) fun j35 =>
 ci x61_34 (
 oP (call n_graph_composer_node [y0_18, x47_23] h18) fun x64_36 h36 =>
 j35 y44_18 y43_18 y42_18 x64_36 y6_18 y0_18 h36) (
 j35 y44_18 y43_18 y42_18 y7_18 y6_18 y0_18 h18)) (
 j13 y7_18 y6_18 y0_18 h18)) (I 0) x43_12 z5_11 z7_11 z6_11 z0_11 h11) fun j11 =>
 ci x39_10 (
 oP (call n_graph_composer_null [z0_9] h9) fun x41_37 h37 =>
 j11 z7_9 x41_37 z5_9 z0_9 h37) (
 j11 z7_9 z6_9 z5_9 z0_9 h9)) fun j9 =>
 ci x18_8 (
 oB' (nx 12 h0) fun h38 =>
 oB (oNil x0) fun x20_39 =>
 oB (oFA 2 x20_39) fun x21_40 =>
 oB (oFA 0 x21_40) fun x22_41 =>
 oB (oLd h38 x22_41) fun x23_42 =>
 oB (oIx 1 x11_2 (I 0)) fun x25_43 =>
 oB (oLd h38 x25_43) fun x26_44 =>
 oB (oIx 6 x23_42 x26_44) fun x27_45 =>
 oB (oFA 0 x27_45) fun x28_46 =>
 oB (oLd h38 x28_46) fun x29_47 =>
 oB (bNe .no x29_47 (I 11)) fun x30_48 =>
 jnF 4 (fun z7_49 z6_49 z5_49 z0_49 h49 =>
 oB (evQ (.sl 1 (.c z5_49) (some (.c (I 1))) none none) .e h49) fun x37_50 =>
 j9 z7_49 z6_49 x37_50 z0_49 h49) fun j49 =>
 ci x30_48 (
 oB (oIx 1 x11_2 (I 0)) fun x33_51 =>
 oB (oLd h38 x33_51) fun x34_52 =>
 oP (call n_graph_composer_node [x0, x34_52] h38) fun x35_53 h53 =>
 j49 (Ineg 0) x35_53 x11_2 x0 h53) (
 j49 (Ineg 0) (Ineg 0) x11_2 x0 h38)) (
 j9 (Ineg 0) (Ineg 0) x11_2 x0 h0)
theorem o_graph_composer_pair : FnOK Tryz.prog n_graph_composer_pair (a2 f_graph_composer_pair) := ok2 mixed Tryz.func216 (by kernel_rfl)
/- slices.siftDownCmpFunc[corrector/api.Diag] -/
noncomputable def f_slices_siftDownCmpFunc_api_Diag (n : Nat) (call : Caller)  (x0 x1 x2 x3 x4 : AV) (h : AH) : Ans :=
 jnF 0 (fun h0 =>
 some (.tup [], h0)) fun j0 =>
 lpF 5 n (fun f1 y10_1 y4_1 y3_1 y2_1 y0_1 h1 =>
 jnF 5 (fun z10_2 z4_2 z3_2 z2_2 z0_2 h2 =>
 f1 z10_2 z4_2 z3_2 z2_2 z0_2 h2) fun j2 =>
 oB (binAV .mul .no (I 2) y10_1) fun x14_3 =>
 oB (bAdd x14_3 (I 1)) fun x15_4 =>
 oB (bGe x15_4 y2_1) fun x18_5 =>
 ci x18_5 (
 j0 h1) (
 oB' (nx 22 h1) fun h6 =>
 oB (bAdd x15_4 (I 1)) fun x20_7 =>
 oB (bLt x20_7 y2_1) fun x22_8 =>
 oB (gq x22_8 true (some y4_1)) fun x24_9 =>
 oB (gq x22_8 true (some y0_1)) fun x25_10 =>
 oB (gq x22_8 true (some y3_1)) fun x26_11 =>
 oB (gq x22_8 true (some x15_4)) fun x27_12 =>
 oB (gq x22_8 true (bAdd x26_11 x27_12)) fun x28_13 =>
 oB (gq x22_8 true (oIx 3 x25_10 x28_13)) fun x29_14 =>
 oB (gq x22_8 true (oLdN 3 h6 x29_14)) fun x30_15 =>
 oB (gq x22_8 true (some y0_1)) fun x31_16 =>
 oB (gq x22_8 true (some y3_1)) fun x32_17 =>
 oB (gq x22_8 true (some x15_4)) fun x33_18 =>
 oB (gq x22_8 true (bAdd x32_17 x33_18)) fun x34_19 =>
 oB (gq x22_8 true (bAdd x34_19 (I 1))) fun x35_20 =>
 oB (gq x22_8 true (oIx 3 x31_16 x35_20)) fun x36_21 =>
 oB (gq x22_8 true (oLdN 3 h6 x36_21)) fun x37_22 =>
 oP (gw x22_8 true (wOf (.callV (.c x24_9) [(.c x30_15), (.c x37_22)]) call .e h6) h6) fun x38_23 h23 =>
 oB (gq x22_8 true (bLt x38_23 (I 0))) fun x39_24 =>
 oB (oPick x22_8 x39_24 (.bool false)) fun x40_25 =>
 jnF 6 (fun z11_26 z10_26 z4_26 z3_26 z2_26 z0_26 h26 =>
 oB' (nx 16 h26) fun h27 =>
 oB (bAdd z3_26 z10_26) fun x47_28 =>
 oB (oIx 3 z0_26 x47_28) fun x48_29 =>
 oB (oLdN 3 h27 x48_29) fun x49_30 =>
 oB (bAdd z3_26 z11_26) fun x53_31 =>
 oB (oIx 3 z0_26 x53_31) fun x54_32 =>
 oB (oLdN 3 h27 x54_32) fun x55_33 =>
 oP (wOf (.callV (.c z4_26) [(.c x49_30), (.c x55_33)]) call .e h27) fun x56_34 h34 =>
 oB (bLt x56_34 (I 0)) fun x57_35 =>
 oB (evQ (.un .not (.c x57_35)) .e h34) fun x58_36 =>
 ci x58_36 (
 some (.tup [], h34)) (
 oB' (nx 24 h34) fun h37 =>
 oB (bAdd z3_26 z10_26) fun x62_38 =>
 oB (bAdd z3_26 z11_26) fun x66_39 =>
 oB (bAdd z3_26 z11_26) fun x70_40 =>
 oB (oIx 3 z0_26 x70_40) fun x71_41 =>
 oB (oLdN 3 h37 x71_41) fun x72_42 =>
 oB (bAdd z3_26 z10_26) fun x76_43 =>
 oB (oIx 3 z0_26 x76_43) fun x77_44 =>
 oB (oLdN 3 h37 x77_44) fun x78_45 =>
 oB (oIx 3 z0_26 x62_38) fun x79_46 =>
 oP (oSt 3 h37 x79_46 x72_42) fun _ h47 =>
 oB (oIx 3 z0_26 x66_39) fun x80_48 =>
 oP (oSt 3 h47 x80_48 x78_45) fun _ h49 =>
 j2 z11_26 z4_26 z3_26 z2_26 z0_26 h49)) fun j26 =>
 ci x40_25 (
 oB (bAdd x15_4 (I 1)) fun x42_50 =>
 j26 x42_50 y10_1 y4_1 y3_1 y2_1 y0_1 h23) (
 j26 x15_4 y10_1 y4_1 y3_1 y2_1 y0_1 h23))) x1 x4 x3 x2 x0 h
theorem o_slices_siftDownCmpFunc_api_Diag : FnOK Tryz.prog n_slices_siftDownCmpFunc_api_Diag (a5 f_slices_siftDownCmpFunc_api_Diag) := ok5 mixed Tryz.func217 (by kernel_rfl)
/- slices.nextPowerOfTwo -/
noncomputable def f_slices_nextPowerOfTwo (n : Nat) (call : Caller)  (x0 : AV) (h : AH) : Ans :=
 oB (oInt .u64 x0) fun x4_0 =>
 oP (call n_math_bits_Len [x4_0] h) fun x5_1 h1 =>
 oB (binAV .shl .no (.int .u64 1) x5_1) fun x6_2 =>
 some (x6_2, h1)
theorem o_slices_nextPowerOfTwo : FnOK Tryz.prog n_slices_nextPowerOfTwo (a1 f_slices_nextPowerOfTwo) := ok1 mixed Tryz.func218 (by kernel_rfl)
/- (*slices.xorshift).Next -/
noncomputable def f_slices_xorshift_Next (n : Nat) (call : Caller)  (x0 : AV) (h : AH) : Ans :=
 oB' (nx 10 h) fun h0 =>
 oB (oNil x0) fun x4_1 =>
 oB (oLd h0 x4_1) fun x5_2 =>
 oB (oNil x0) fun x7_3 =>
 oB (oLd h0 x7_3) fun x8_4 =>
 oB (binAV .shl .no x8_4 (.int .u64 13)) fun x9_5 =>
 oB (binAV .xor .no x5_2 x9_5) fun x10_6 =>
 oB (oNil x0) fun x11_7 =>
 oP (oSt 1 h0 x11_7 x10_6) fun _ h8 =>
 oB' (nx 10 h8) fun h9 =>
 oB (oNil x0) fun x13_10 =>
 oB (oLd h9 x13_10) fun x14_11 =>
 oB (oNil x0) fun x16_12 =>
 oB (oLd h9 x16_12) fun x17_13 =>
 oB (binAV .shr .no x17_13 (.int .u64 7)) fun x18_14 =>
 oB (binAV .xor .no x14_11 x18_14) fun x19_15 =>
 oB (oNil x0) fun x20_16 =>
 oP (oSt 1 h9 x20_16 x19_15) fun _ h17 =>
 oB' (nx 10 h17) fun h18 =>
 oB (oNil x0) fun x22_19 =>
 oB (oLd h18 x22_19) fun x23_20 =>
 oB (oNil x0) fun x25_21 =>
 oB (oLd h18 x25_21) fun x26_22 =>
 oB (binAV .shl .no x26_22 (.int .u64 17)) fun x27_23 =>
 oB (binAV .xor .no x23_20 x27_23) fun x28_24 =>
 oB (oNil x0) fun x29_25 =>
 oP (oSt 1 h18 x29_25 x28_24) fun _ h26 =>
 oB (oNil x0) fun x31_27 =>
 oB (oLd h26 x31_27) fun x32_28 =>
 some (x32_28, h26)
theorem o_slices_xorshift_Next : FnOK Tryz.prog n_slices_xorshift_Next (a1 f_slices_xorshift_Next) := ok1 mixed Tryz.func219 (by kernel_rfl)
/- slices.medianAdjacentCmpFunc[corrector/api.Diag] -/
noncomputable def f_slices_medianAdjacentCmpFunc_api_Diag (n : Nat) (call : Caller)  (x0 x1 x2 x3 : AV) (h : AH) : Ans :=
 oB (bSub x1 (I 1)) fun x11_0 =>
 oB (bAdd x1 (I 1)) fun x14_1 =>
 oP (call n_slices_medianCmpFunc_api_Diag [x0, x11_0, x1, x14_1, x2, x3] h) fun x17_2 h2 =>
 some (x17_2, h2)
theorem o_slices_medianAdjacentCmpFunc_api_Diag : FnOK Tryz.prog n_slices_medianAdjacentCmpFunc_api_Diag (a4 f_slices_medianAdjacentCmpFunc_api_Diag) := ok4 mixed Tryz.func220 (by kernel_rfl)
/- slices.medianCmpFunc[corrector/api.Diag] -/
noncomputable def f_slices_medianCmpFunc_api_Diag (n : Nat) (call : Caller)  (x0 x1 x2 x3 x4 x5 : AV) (h : AH) : Ans :=
 oP (call n_slices_order2CmpFunc_api_Diag [x0, x1, x2, x4, x5] h) fun x19_0 h0 =>
 oB (oEx 0 x19_0) fun x20_1 =>
 oB (oEx 1 x19_0) fun x21_2 =>
 oP (call n_slices_order2CmpFunc_api_Diag [x0, x21_2, x3, x4, x5] h0) fun x28_3 h3 =>
 oB (oEx 0 x28_3) fun x29_4 =>
 oB (oEx 1 x28_3) fun x30_5 =>
 oP (call n_slices_order2CmpFunc_api_Diag [x0, x20_1, x29_4, x4, x5] h3) fun x37_6 h6 =>
 oB (oEx 0 x37_6) fun x38_7 =>
 oB (oEx 1 x37_6) fun x39_8 =>
 some (x39_8, h6)
theorem o_slices_medianCmpFunc_api_Diag : FnOK Tryz.prog n_slices_medianCmpFunc_api_Diag (a6 f_slices_medianCmpFunc_api_Diag) := ok6 mixed Tryz.func221 (by kernel_rfl)
/- slices.rotateCmpFunc[corrector/api.Edit] -/
noncomputable def f_slices_rotateCmpFunc_api_Edit (n : Nat) (call : Caller)  (x0 x1 x2 x3 x4 : AV) (h : AH) : Ans :=
 oB (bSub x2 x1) fun x14_0 =>
 oB (bSub x3 x2) fun x17_1 =>
 jnF 4 (fun z10_2 z4_2 z2_2 z0_2 h2 =>
 oB (bSub z2_2 z10_2) fun x53_3 =>
 oP (call n_slices_swapRangeCmpFunc_api_Edit [z0_2, x53_3, z2_2, z10_2, z4_2] h2) fun x57_4 h4 =>
 some (.tup [], h4)) fun j2 =>
 lpF 5 n (fun f5 y11_5 y10_5 y4_5 y2_5 y0_5 h5 =>
 oB (bNe .no y10_5 y11_5) fun x20_6 =>
 ci x20_6 (
 jnF 5 (fun z11_7 z10_7 z4_7 z2_7 z0_7 h7 =>
 f5 z11_7 z10_7 z4_7 z2_7 z0_7 h7) fun j7 =>
 oB (bGt y10_5 y11_5) fun x23_8 =>
 jnF 5 (fun z11_9 z10_9 z4_9 z2_9 z0_9 h9 =>
 j7 z11_9 z10_9 z4_9 z2_9 z0_9 h9) fun j9 =>
 ci x23_8 (
 oB (bSub y2_5 y10_5) fun x27_10 =>
 oP (call n_slices_swapRangeCmpFunc_api_Edit [y0_5, x27_10, y2_5, y11_5, y4_5] h5) fun x31_11 h11 =>
 oB (bSub y10_5 y11_5) fun x34_12 =>
 j9 y11_5 x34_12 y4_5 y2_5 y0_5 h11) (
 oB (bSub y2_5 y10_5) fun x38_13 =>
 oB (bAdd y2_5 y11_5) fun x41_14 =>
 oB (bSub x41_14 y10_5) fun x43_15 =>
 oP (call n_slices_swapRangeCmpFunc_api_Edit [y0_5, x38_13, x43_15, y10_5, y4_5] h5) fun x46_16 h16 =>
 oB (bSub y11_5 y10_5) fun x49_17 =>
 j9 x49_17 y10_5 y4_5 y2_5 y0_5 h16)) (
 j2 y10_5 y4_5 y2_5 y0_5 h5)) x17_1 x14_0 x4 x2 x0 h
theorem o_slices_rotateCmpFunc_api_Edit : FnOK Tryz.prog n_slices_rotateCmpFunc_api_Edit (a5 f_slices_rotateCmpFunc_api_Edit) := ok5 mixed Tryz.func222 (by kernel_rfl)
/- math/bits.Mul32 -/
noncomputable def f_math_bits_Mul32 (n : Nat) (call : Caller)  (x0 x1 : AV) (h : AH) : Ans :=
 oB (oInt .u64 x0) fun x8_0 =>
 oB (oInt .u64 x1) fun x10_1 =>
 oB (binAV .mul .no x8_0 x10_1) fun x11_2 =>
 oB (binAV .shr .no x11_2 (.int .u64 32)) fun x13_3 =>
 oB (oInt .u32 x13_3) fun x14_4 =>
 oB (oInt .u32 x11_2) fun x16_5 =>
 some (.tup [x14_4, x16_5], h)
theorem o_math_bits_Mul32 : FnOK Tryz.prog n_math_bits_Mul32 (a2 f_math_bits_Mul32) := ok2 mixed Tryz.func223 (by kernel_rfl)
/- math/bits.Mul64 -/
noncomputable def f_math_bits_Mul64 (n : Nat) (call : Caller)  (x0 x1 : AV) (h : AH) : Ans :=
 oB (binAV .and .no x0 (.int .u64 4294967295)) fun x15_0 =>
 oB (binAV .shr .no x0 (.int .u64 32)) fun x17_1 =>
 oB (binAV .and .no x1 (.int .u64 4294967295)) fun x19_2 =>
 oB (binAV .shr .no x1 (.int .u64 32)) fun x21_3 =>
 oB (binAV .mul .no x15_0 x19_2) fun x24_4 =>
 oB (binAV .mul .no x17_1 x19_2) fun x27_5 =>
 oB (binAV .shr .no x24_4 (.int .u64 32)) fun x29_6 =>
 oB (bAdd x27_5 x29_6) fun x30_7 =>
 oB (binAV .and .no x30_7 (.int .u64 4294967295)) fun x32_8 =>
 oB (binAV .shr .no x30_7 (.int .u64 32)) fun x34_9 =>
 oB (binAV .mul .no x15_0 x21_3) fun x38_10 =>
 oB (bAdd x32_8 x38_10) fun x39_11 =>
 oB (binAV .mul .no x17_1 x21_3) fun x42_12 =>
 oB (bAdd x42_12 x34_9) fun x44_13 =>
 oB (binAV .shr .no x39_11 (.int .u64 32)) fun x46_14 =>
 oB (bAdd x44_13 x46_14) fun x47_15 =>
 oB (binAV .mul .no x0 x1) fun x50_16 =>
 some (.tup [x47_15, x50_16], h)
theorem o_math_bits_Mul64 : FnOK Tryz.prog n_math_bits_Mul64 (a2 f_math_bits_Mul64) := ok2 mixed Tryz.func224 (by kernel_rfl)
/- internal/stringslite.HasPrefix -/
noncomputable def f_internal_stringslite_HasPrefix (n : Nat) (call : Caller)  (x0 x1 : AV) (h : AH) : Ans :=
 oB (oLenS x0) fun x6_0 =>
 oB (oLenS x1) fun x8_1 =>
 oB (bGe x6_0 x8_1) fun x9_2 =>
 oB (gq x9_2 true (some x0)) fun x11_3 =>
 oB (gq x9_2 true (some x1)) fun x12_4 =>
 oB (gq x9_2 true (oLenS x12_4)) fun x13_5 =>
 oB (gq x9_2 true (oSlS x11_3 none (some x13_5))) fun x14_6 =>
 oB (gq x9_2 true (some x1)) fun x15_7 =>
 oB (gq x9_2 true (bEq .no x14_6 x15_7)) fun x16_8 =>
 oB (oPick x9_2 x16_8 (.bool false)) fun x17_9 =>
 some (x17_9, h)
theorem o_internal_stringslite_HasPrefix : FnOK Tryz.prog n_internal_stringslite_HasPrefix (a2 f_internal_stringslite_HasPrefix) := ok2 mixed Tryz.func225 (by kernel_rfl)
/- (*strings.Builder).copyCheck -/
noncomputable def f_strings_Builder_copyCheck (n : Nat) (call : Caller)  (x0 : AV) (h : AH) : Ans :=
 oB (oNil x0) fun x3_0 =>
 oB (oFA 0 x3_0) fun x4_1 =>
 oB (oLd h x4_1) fun x5_2 =>
 oB (bEq .ptr x5_2 .nilp) fun x6_3 =>
 jnF 0 (fun h4 =>
 some (.tup [], h4)) fun j4 =>
 ci x6_3 (
 oB (evQ (.p2u (.c x0)) .e h) fun x9_5 =>
 oB (evQ (.u2p 241 2 (.c x9_5)) .e h) fun x11_6 =>
 oB (oNil x0) fun x12_7 =>
 oB (oFA 0 x12_7) fun x13_8 =>
 oP (oSt 1 h x13_8 x11_6) fun _ h9 =>
 j4 h9) (
 oB (oNil x0) fun x15_10 =>
 oB (oFA 0 x15_10) fun x16_11 =>
 oB (oLd h x16_11) fun x17_12 =>
 oB (bNe .ptr x17_12 x0) fun x19_13 =>
 ci x19_13 (
 none) (
 j4 h))
theorem o_strings_Builder_copyCheck : FnOK Tryz.prog n_strings_Builder_copyCheck (a1 f_strings_Builder_copyCheck) := ok1 mixed Tryz.func226 (by kernel_rfl)
/- (*strings.Builder).grow -/
noncomputable def f_strings_Builder_grow (n : Nat) (call : Caller)  (x0 x1 : AV) (h : AH) : Ans :=
 oB' (nx 16 h) fun h0 =>
 oB (oNil x0) fun x6_1 =>
 oB (oFA 1 x6_1) fun x7_2 =>
 oB (oLd h0 x7_2) fun x8_3 =>
 oB (evQ (.capSl (.c x8_3)) .e h0) fun x9_4 =>
 oB (binAV .mul .no (I 2) x9_4) fun x10_5 =>
 oB (bAdd x10_5 x1) fun x12_6 =>
 oP (evW (.mkNoZero 5 (.c x12_6)) .e h0) fun x13_7 h7 =>
 oB (oNil x0) fun x15_8 =>
 oB (oFA 1 x15_8) fun x16_9 =>
 oB (oLd h7 x16_9) fun x17_10 =>
 oB (oLen x17_10) fun x18_11 =>
 oB (evQ (.sl 1 (.c x13_7) none (some (.c x18_11)) none) .e h7) fun x19_12 =>
 ask1 true (oLd h0 x7_2) x8_3 (
 ask1 true (oLd h0 x16_9) x17_10 (
 ask1 true (oLd h7 x16_9) x17_10 (
 oB (oNil x0) fun x22_13 =>
 oB (oFA 1 x22_13) fun x23_14 =>
 oB (oLd h7 x23_14) fun x24_15 =>
 oP (evW (.copy 1 (.c x19_12) (.c x24_15)) .e h7) fun x25_16 h16 =>
 oB (oNil x0) fun x28_17 =>
 oB (oFA 1 x28_17) fun x29_18 =>
 oP (oSt 1 h16 x29_18 x19_12) fun _ h19 =>
 some (.tup [], h19))))
theorem o_strings_Builder_grow : FnOK Tryz.prog n_strings_Builder_grow (a2 f_strings_Builder_grow) := ok2 mixed Tryz.func227 (by kernel_rfl)
/- strconv.Itoa -/
noncomputable def f_strconv_Itoa (n : Nat) (call : Caller)  (x0 : AV) (h : AH) : Ans :=
 oP (call n_internal_strconv_Itoa [x0] h) fun x4_0 h0 =>
 some (x4_0, h0)
theorem o_strconv_Itoa : FnOK Tryz.prog n_strconv_Itoa (a1 f_strconv_Itoa) := ok1 mixed Tryz.func228 (by kernel_rfl)
/- strconv.Quote -/
noncomputable def f_strconv_Quote (n : Nat) (call : Caller)  (x0 : AV) (h : AH) : Ans :=
 oP (call n_strconv_quoteWith [x0, (U 34), (.bool false), (.bool false)] h) fun x4_0 h0 =>
 some (x4_0, h0)
theorem o_strconv_Quote : FnOK Tryz.prog n_strconv_Quote (a1 f_strconv_Quote) := ok1 mixed Tryz.func229 (by kernel_rfl)
/- slices.insertionSortOrdered[int] -/
noncomputable def f_slices_insertionSortOrdered_int (n : Nat) (call : Caller)  (x0 x1 x2 : AV) (h : AH) : Ans :=
 oB (bAdd x1 (I 1)) fun x9_0 =>
 jnF 0 (fun h1 =>
 some (.tup [], h1)) fun j1 =>
 lpF 4 n (fun f2 y6_2 y2_2 y1_2 y0_2 h2 =>
 oB (bLt y6_2 y2_2) fun x12_3 =>
 ci x12_3 (
 jnF 4 (fun z6_4 z2_4 z1_4 z0_4 h4 =>
 oB (bAdd z6_4 (I 1)) fun x14_5 =>
 f2 x14_5 z2_4 z1_4 z0_4 h4) fun j4 =>
 jnF 4 (fun z6_6 z2_6 z1_6 z0_6 h6 =>
 j4 z6_6 z2_6 z1_6 z0_6 h6) fun j6 =>
 lpF 5 n (fun f7 y7_7 y6_7 y2_7 y1_7 y0_7 h7 =>
 oB' (nx 15 h7) fun h8 =>
 oB (bGt y7_7 y1_7) fun x18_9 =>
 oB (gq x18_9 true (some y0_7)) fun x20_10 =>
 oB (gq x18_9 true (some y7_7)) fun x21_11 =>
 oB (gq x18_9 true (oIx 1 x20_10 x21_11)) fun x22_12 =>
 oB (gq x18_9 true (oLd h8 x22_12)) fun x23_13 =>
 oB (gq x18_9 true (some y0_7)) fun x24_14 =>
 oB (gq x18_9 true (some y7_7)) fun x25_15 =>
 oB (gq x18_9 true (bSub x25_15 (I 1))) fun x26_16 =>
 oB (gq x18_9 true (oIx 1 x24_14 x26_16)) fun x27_17 =>
 oB (gq x18_9 true (oLd h8 x27_17)) fun x28_18 =>
 oP (gw x18_9 true (call n_cmp_Less_int [x23_13, x28_18] h8) h8) fun x29_19 h19 =>
 oB (oPick x18_9 x29_19 (.bool false)) fun x30_20 =>
 ci x30_20 (
 jnF 5 (fun z7_21 z6_21 z2_21 z1_21 z0_21 h21 =>
 oB (bSub z7_21 (I 1)) fun x32_22 =>
 f7 x32_22 z6_21 z2_21 z1_21 z0_21 h21) fun j21 =>
 oB' (nx 18 h19) fun h23 =>
 oB (bSub y7_7 (I 1)) fun x37_24 =>
 oB (bSub y7_7 (I 1)) fun x40_25 =>
 oB (oIx 1 y0_7 x40_25) fun x41_26 =>
 oB (oLd h23 x41_26) fun x42_27 =>
 oB (oIx 1 y0_7 y7_7) fun x45_28 =>
 oB (oLd h23 x45_28) fun x46_29 =>
 oB (oIx 1 y0_7 y7_7) fun x47_30 =>
 oP (oSt 1 h23 x47_30 x42_27) fun _ h31 =>
 oB (oIx 1 y0_7 x37_24) fun x48_32 =>
 oP (oSt 1 h31 x48_32 x46_29) fun _ h33 =>
 j21 y7_7 y6_7 y2_7 y1_7 y0_7 h33) (
 j6 y6_7 y2_7 y1_7 y0_7 h19)) y6_2 y6_2 y2_2 y1_2 y0_2 h2) (
 j1 h2)) x9_0 x2 x1 x0 h
theorem o_slices_insertionSortOrdered_int : FnOK Tryz.prog n_slices_insertionSortOrdered_int (a3 f_slices_insertionSortOrdered_int) := ok3 mixed Tryz.func230 (by kernel_rfl)
/- slices.heapSortOrdered[int] -/
noncomputable def f_slices_heapSortOrdered_int (n : Nat) (call : Caller)  (x0 x1 x2 : AV) (h : AH) : Ans :=
 oB (bSub x2 x1) fun x14_0 =>
 oB (bSub x14_0 (I 1)) fun x16_1 =>
 oB (binAV .quo .no x16_1 (I 2)) fun x17_2 =>
 jnF 4 (fun z8_3 z7_3 z6_3 z0_3 h3 =>
 oB (bSub z8_3 (I 1)) fun x28_4 =>
 jnF 0 (fun h5 =>
 some (.tup [], h5)) fun j5 =>
 lpF 4 n (fun f6 y10_6 y7_6 y6_6 y0_6 h6 =>
 oB (bGe y10_6 (I 0)) fun x30_7 =>
 ci x30_7 (
 jnF 4 (fun z10_8 z7_8 z6_8 z0_8 h8 =>
 oB (bSub z10_8 (I 1)) fun x32_9 =>
 f6 x32_9 z7_8 z6_8 z0_8 h8) fun j8 =>
 oB' (nx 20 h6) fun h10 =>
 oB (bAdd y6_6 y10_6) fun x38_11 =>
 oB (bAdd y6_6 y10_6) fun x42_12 =>
 oB (oIx 1 y0_6 x42_12) fun x43_13 =>
 oB (oLd h10 x43_13) fun x44_14 =>
 oB (oIx 1 y0_6 y6_6) fun x47_15 =>
 oB (oLd h10 x47_15) fun x48_16 =>
 oB (oIx 1 y0_6 y6_6) fun x49_17 =>
 oP (oSt 1 h10 x49_17 x44_14) fun _ h18 =>
 oB (oIx 1 y0_6 x38_11) fun x50_19 =>
 oP (oSt 1 h18 x50_19 x48_16) fun _ h20 =>
 oP (call n_slices_siftDownOrdered_int [y0_6, y7_6, y10_6, y6_6] h20) fun x55_21 h21 =>
 j8 y10_6 y7_6 y6_6 y0_6 h21) (
 j5 h6)) x28_4 z7_3 z6_3 z0_3 h3) fun j3 =>
 lpF 5 n (fun f22 y9_22 y8_22 y7_22 y6_22 y0_22 h22 =>
 oB (bGe y9_22 (I 0)) fun x19_23 =>
 ci x19_23 (
 jnF 5 (fun z9_24 z8_24 z7_24 z6_24 z0_24 h24 =>
 oB (bSub z9_24 (I 1)) fun x21_25 =>
 f22 x21_25 z8_24 z7_24 z6_24 z0_24 h24) fun j24 =>
 oP (call n_slices_siftDownOrdered_int [y0_22, y9_22, y8_22, y6_22] h22) fun x26_26 h26 =>
 j24 y9_22 y8_22 y7_22 y6_22 y0_22 h26) (
 j3 y8_22 y7_22 y6_22 y0_22 h22)) x17_2 x14_0 (I 0) x1 x0 h
theorem o_slices_heapSortOrdered_int : FnOK Tryz.prog n_slices_heapSortOrdered_int (a3 f_slices_heapSortOrdered_int) := ok3 mixed Tryz.func231 (by kernel_rfl)
/- slices.breakPatternsOrdered[int] -/
noncomputable def f_slices_breakPatternsOrdered_int (n : Nat) (call : Caller)  (x0 x1 x2 : AV) (h : AH) : Ans :=
 oB (bSub x2 x1) fun x13_0 =>
 oB (bGe x13_0 (I 8)) fun x15_1 =>
 jnF 0 (fun h2 =>
 some (.tup [], h2)) fun j2 =>
 ci x15_1 (
 oB (oInt .u64 x13_0) fun x17_3 =>
 oP (oNew h 267 [(.int .u64 0)]) fun x7_4 h4 =>
 oP (oSt 1 h4 x7_4 x17_3) fun _ h5 =>
 oP (call n_slices_nextPowerOfTwo [x13_0] h5) fun x19_6 h6 =>
 oB (binAV .quo .no x13_0 (I 4)) fun x22_7 =>
 oB (binAV .mul .no x22_7 (I 2)) fun x23_8 =>
 oB (bAdd x1 x23_8) fun x24_9 =>
 oB (bSub x24_9 (I 1)) fun x25_10 =>
 jnF 0 (fun h11 =>
 j2 h11) fun j11 =>
 lpF 6 n (fun f12 y9_12 y8_12 y7_12 y6_12 y1_12 y0_12 h12 =>
 oB (binAV .quo .no y6_12 (I 4)) fun x29_13 =>
 oB (binAV .mul .no x29_13 (I 2)) fun x30_14 =>
 oB (bAdd y1_12 x30_14) fun x31_15 =>
 oB (bAdd x31_15 (I 1)) fun x32_16 =>
 oB (bLe y9_12 x32_16) fun x33_17 =>
 ci x33_17 (
 jnF 6 (fun z9_18 z8_18 z7_18 z6_18 z1_18 z0_18 h18 =>
 oB (bAdd z9_18 (I 1)) fun x35_19 =>
 f12 x35_19 z8_18 z7_18 z6_18 z1_18 z0_18 h18) fun j18 =>
 oP (call n_slices_xorshift_Next [y7_12] h12) fun x36_20 h20 =>
 oB (bSub y8_12 (.int .u64 1)) fun x38_21 =>
 oB (binAV .and .no x36_20 x38_21) fun x39_22 =>
 oB (oInt .i64 x39_22) fun x40_23 =>
 oB (bGe x40_23 y6_12) fun x43_24 =>
 jnF 7 (fun z10_25 z9_25 z8_25 z7_25 z6_25 z1_25 z0_25 h25 =>
 oB' (nx 20 h25) fun h26 =>
 oB (bAdd z1_25 z10_25) fun x52_27 =>
 oB (bAdd z1_25 z10_25) fun x56_28 =>
 oB (oIx 1 z0_25 x56_28) fun x57_29 =>
 oB (oLd h26 x57_29) fun x58_30 =>
 oB (oIx 1 z0_25 z9_25) fun x61_31 =>
 oB (oLd h26 x61_31) fun x62_32 =>
 oB (oIx 1 z0_25 z9_25) fun x63_33 =>
 oP (oSt 1 h26 x63_33 x58_30) fun _ h34 =>
 oB (oIx 1 z0_25 x52_27) fun x64_35 =>
 oP (oSt 1 h34 x64_35 x62_32) fun _ h36 =>
 j18 z9_25 z8_25 z7_25 z6_25 z1_25 z0_25 h36) fun j25 =>
 ci x43_24 (
 oB (bSub x40_23 y6_12) fun x46_37 =>
 j25 x46_37 y9_12 y8_12 y7_12 y6_12 y1_12 y0_12 h20) (
 j25 x40_23 y9_12 y8_12 y7_12 y6_12 y1_12 y0_12 h20)) (
 j11 h12)) x25_10 x19_6 x7_4 x13_0 x1 x0 h6) (
 j2 h)
theorem o_slices_breakPatternsOrdered_int : FnOK Tryz.prog n_slices_breakPatternsOrdered_int (a3 f_slices_breakPatternsOrdered_int) := ok3 mixed Tryz.func232 (by kernel_rfl)
/- slices.choosePivotOrdered[int] -/
noncomputable def f_slices_choosePivotOrdered_int (n : Nat) (call : Caller)  (x0 x1 x2 : AV) (h : AH) : Ans :=
 oB (bSub x2 x1) fun x15_0 =>
 oP (oNew h 3 [(I 0)]) fun x9_1 h1 =>
 oB (binAV .quo .no x15_0 (I 4)) fun x18_2 =>
 oB (binAV .mul .no x18_2 (I 1)) fun x19_3 =>
 oB (bAdd x1 x19_3) fun x20_4 =>
 oB (binAV .quo .no x15_0 (I 4)) fun x23_5 =>
 oB (binAV .mul .no x23_5 (I 2)) fun x24_6 =>
 oB (bAdd x1 x24_6) fun x25_7 =>
 oB (binAV .quo .no x15_0 (I 4)) fun x28_8 =>
 oB (binAV .mul .no x28_8 (I 3)) fun x29_9 =>
 oB (bAdd x1 x29_9) fun x30_10 =>
 oB (bGe x15_0 (I 8)) fun x32_11 =>
 jnF 2 (fun z11_12 z9_12 h12 =>
 oB (oLd h12 z9_12) fun x49_13 =>
 jnF 2 (fun z7_14 z6_14 h14 =>
 some (.tup [z6_14, z7_14], h14)) fun j14 =>
 oB (bEq .no x49_13 (I 0)) fun x52_15 =>
 ci x52_15 (
 some (.tup [z11_12, (I 1)], h12)) (
 oB (bEq .no x49_13 (I 12)) fun x55_16 =>
 ci x55_16 (
 some (.tup [z11_12, (I 2)], h12)) (
 some (.tup [z11_12, (I 0)], h12)))) fun j12 =>
 ci x32_11 (
 oB (bGe x15_0 (I 50)) fun x34_17 =>
 jnF 5 (fun z12_18 z11_18 z10_18 z9_18 z0_18 h18 =>
 oP (call n_slices_medianOrdered_int [z0_18, z10_18, z11_18, z12_18, z9_18] h18) fun x48_19 h19 =>
 j12 x48_19 z9_18 h19) fun j18 =>
 ci x34_17 (
 oP (call n_slices_medianAdjacentOrdered_int [x0, x20_4, x9_1] h1) fun x37_20 h20 =>
 oP (call n_slices_medianAdjacentOrdered_int [x0, x25_7, x9_1] h20) fun x40_21 h21 =>
 oP (call n_slices_medianAdjacentOrdered_int [x0, x30_10, x9_1] h21) fun x43_22 h22 =>
 j18 x43_22 x40_21 x37_20 x9_1 x0 h22) (
 j18 x30_10 x25_7 x20_4 x9_1 x0 h1)) (
 j12 x25_7 x9_1 h1)
theorem o_slices_choosePivotOrdered_int : FnOK Tryz.prog n_slices_choosePivotOrdered_int (a3 f_slices_choosePivotOrdered_int) := ok3 mixed Tryz.func233 (by kernel_rfl)
/- slices.reverseRangeOrdered[int] -/
noncomputable def f_slices_reverseRangeOrdered_int (n : Nat) (call : Caller)  (x0 x1 x2 : AV) (h : AH) : Ans :=
 oB (bSub x2 (I 1)) fun x10_0 =>
 jnF 0 (fun h1 =>
 some (.tup [], h1)) fun j1 =>
 lpF 3 n (fun f2 y7_2 y6_2 y0_2 h2 =>
 oB (bLt y6_2 y7_2) fun x13_3 =>
 ci x13_3 (
 jnF 3 (fun z7_4 z6_4 z0_4 h4 =>
 f2 z7_4 z6_4 z0_4 h4) fun j4 =>
 oB' (nx 16 h2) fun h5 =>
 oB (oIx 1 y0_2 y7_2) fun x20_6 =>
 oB (oLd h5 x20_6) fun x21_7 =>
 oB (oIx 1 y0_2 y6_2) fun x24_8 =>
 oB (oLd h5 x24_8) fun x25_9 =>
 oB (oIx 1 y0_2 y6_2) fun x26_10 =>
 oP (oSt 1 h5 x26_10 x21_7) fun _ h11 =>
 oB (oIx 1 y0_2 y7_2) fun x27_12 =>
 oP (oSt 1 h11 x27_12 x25_9) fun _ h13 =>
 oB (bAdd y6_2 (I 1)) fun x29_14 =>
 oB (bSub y7_2 (I 1)) fun x31_15 =>
 j4 x31_15 x29_14 y0_2 h13) (
 j1 h2)) x10_0 x1 x0 h
theorem o_slices_reverseRangeOrdered_int : FnOK Tryz.prog n_slices_reverseRangeOrdered_int (a3 f_slices_reverseRangeOrdered_int) := ok3 mixed Tryz.func234 (by kernel_rfl)
/- slices.partialInsertionSortOrdered[int] -/
noncomputable def f_slices_partialInsertionSortOrdered_int (n : Nat) (call : Caller)  (x0 x1 x2 : AV) (h : AH) : Ans :=
 oB (bAdd x1 (I 1)) fun x12_0 =>
 jnF 0 (fun h1 =>
 some ((.bool false), h1)) fun j1 =>
 lpF 5 n (fun f2 y8_2 y7_2 y2_2 y1_2 y0_2 h2 =>
 oB (bLt y8_2 (I 5)) fun x14_3 =>
 ci x14_3 (
 jnF 5 (fun z8_4 z7_4 z2_4 z1_4 z0_4 h4 =>
 oB (bAdd z8_4 (I 1)) fun x16_5 =>
 f2 x16_5 z7_4 z2_4 z1_4 z0_4 h4) fun j4 =>
 jnF 5 (fun z8_6 z7_6 z2_6 z1_6 z0_6 h6 =>
 oB (bEq .no z7_6 z2_6) fun x37_7 =>
 ci x37_7 (
 some ((.bool true), h6)) (
 oB (bSub z2_6 z1_6) fun x40_8 =>
 oB (bLt x40_8 (I 50)) fun x41_9 =>
 ci x41_9 (
 some ((.bool false), h6)) (
 oB' (nx 18 h6) fun h10 =>
 oB (bSub z7_6 (I 1)) fun x46_11 =>
 oB (bSub z7_6 (I 1)) fun x49_12 =>
 oB (oIx 1 z0_6 x49_12) fun x50_13 =>
 oB (oLd h10 x50_13) fun x51_14 =>
 oB (oIx 1 z0_6 z7_6) fun x54_15 =>
 oB (oLd h10 x54_15) fun x55_16 =>
 oB (oIx 1 z0_6 z7_6) fun x56_17 =>
 oP (oSt 1 h10 x56_17 x51_14) fun _ h18 =>
 oB (oIx 1 z0_6 x46_11) fun x57_19 =>
 oP (oSt 1 h18 x57_19 x55_16) fun _ h20 =>
 oB (bSub z7_6 z1_6) fun x60_21 =>
 oB (bGe x60_21 (I 2)) fun x61_22 =>
 jnF 5 (fun z8_23 z7_23 z2_23 z1_23 z0_23 h23 =>
 oB (bSub z2_23 z7_23) fun x97_24 =>
 oB (bGe x97_24 (I 2)) fun x98_25 =>
 jnF 5 (fun z8_26 z7_26 z2_26 z1_26 z0_26 h26 =>
 j4 z8_26 z7_26 z2_26 z1_26 z0_26 h26) fun j26 =>
 ci x98_25 (
 oB (bAdd z7_23 (I 1)) fun x100_27 =>
 jnF 5 (fun z8_28 z7_28 z2_28 z1_28 z0_28 h28 =>
 j26 z8_28 z7_28 z2_28 z1_28 z0_28 h28) fun j28 =>
 lpF 6 n (fun f29 y10_29 y8_29 y7_29 y2_29 y1_29 y0_29 h29 =>
 oB (bLt y10_29 y2_29) fun x103_30 =>
 ci x103_30 (
 jnF 6 (fun z10_31 z8_31 z7_31 z2_31 z1_31 z0_31 h31 =>
 oB (bAdd z10_31 (I 1)) fun x105_32 =>
 f29 x105_32 z8_31 z7_31 z2_31 z1_31 z0_31 h31) fun j31 =>
 oB' (nx 11 h29) fun h33 =>
 oB (oIx 1 y0_29 y10_29) fun x108_34 =>
 oB (oLd h33 x108_34) fun x109_35 =>
 oB (bSub y10_29 (I 1)) fun x112_36 =>
 oB (oIx 1 y0_29 x112_36) fun x113_37 =>
 oB (oLd h33 x113_37) fun x114_38 =>
 oP (call n_cmp_Less_int [x109_35, x114_38] h33) fun x115_39 h39 =>
 oB (evQ (.un .not (.c x115_39)) .e h39) fun x116_40 =>
 ci x116_40 (
 j28 y8_29 y7_29 y2_29 y1_29 y0_29 h39) (
 oB' (nx 18 h39) fun h41 =>
 oB (bSub y10_29 (I 1)) fun x121_42 =>
 oB (bSub y10_29 (I 1)) fun x124_43 =>
 oB (oIx 1 y0_29 x124_43) fun x125_44 =>
 oB (oLd h41 x125_44) fun x126_45 =>
 oB (oIx 1 y0_29 y10_29) fun x129_46 =>
 oB (oLd h41 x129_46) fun x130_47 =>
 oB (oIx 1 y0_29 y10_29) fun x131_48 =>
 oP (oSt 1 h41 x131_48 x126_45) fun _ h49 =>
 oB (oIx 1 y0_29 x121_42) fun x132_50 =>
 oP (oSt 1 h49 x132_50 x130_47) fun _ h51 =>
 j31 y10_29 y8_29 y7_29 y2_29 y1_29 y0_29 h51)) (
 j28 y8_29 y7_29 y2_29 y1_29 y0_29 h29)) x100_27 z8_23 z7_23 z2_23 z1_23 z0_23 h23) (
 j26 z8_23 z7_23 z2_23 z1_23 z0_23 h23)) fun j23 =>
 ci x61_22 (
 oB (bSub z7_6 (I 1)) fun x63_52 =>
 jnF 5 (fun z8_53 z7_53 z2_53 z1_53 z0_53 h53 =>
 j23 z8_53 z7_53 z2_53 z1_53 z0_53 h53) fun j53 =>
 lpF 6 n (fun f54 y9_54 y8_54 y7_54 y2_54 y1_54 y0_54 h54 =>
 oB (bGe y9_54 (I 1)) fun x65_55 =>
 ci x65_55 (
 jnF 6 (fun z9_56 z8_56 z7_56 z2_56 z1_56 z0_56 h56 =>
 oB (bSub z9_56 (I 1)) fun x67_57 =>
 f54 x67_57 z8_56 z7_56 z2_56 z1_56 z0_56 h56) fun j56 =>
 oB' (nx 11 h54) fun h58 =>
 oB (oIx 1 y0_54 y9_54) fun x70_59 =>
 oB (oLd h58 x70_59) fun x71_60 =>
 oB (bSub y9_54 (I 1)) fun x74_61 =>
 oB (oIx 1 y0_54 x74_61) fun x75_62 =>
 oB (oLd h58 x75_62) fun x76_63 =>
 oP (call n_cmp_Less_int [x71_60, x76_63] h58) fun x77_64 h64 =>
 oB (evQ (.un .not (.c x77_64)) .e h64) fun x78_65 =>
 ci x78_65 (
 j53 y8_54 y7_54 y2_54 y1_54 y0_54 h64) (
 oB' (nx 18 h64) fun h66 =>
 oB (bSub y9_54 (I 1)) fun x83_67 =>
 oB (bSub y9_54 (I 1)) fun x86_68 =>
 oB (oIx 1 y0_54 x86_68) fun x87_69 =>
 oB (oLd h66 x87_69) fun x88_70 =>
 oB (oIx 1 y0_54 y9_54) fun x91_71 =>
 oB (oLd h66 x91_71) fun x92_72 =>
 oB (oIx 1 y0_54 y9_54) fun x93_73 =>
 oP (oSt 1 h66 x93_73 x88_70) fun _ h74 =>
 oB (oIx 1 y0_54 x83_67) fun x94_75 =>
 oP (oSt 1 h74 x94_75 x92_72) fun _ h76 =>
 j56 y9_54 y8_54 y7_54 y2_54 y1_54 y0_54 h76)) (
 j53 y8_54 y7_54 y2_54 y1_54 y0_54 h54)) x63_52 z8_6 z7_6 z2_6 z1_6 z0_6 h20) (
 j23 z8_6 z7_6 z2_6 z1_6 z0_6 h20)))) fun j6 =>
 lpF 5 n (fun f77 y8_77 y7_77 y2_77 y1_77 y0_77 h77 =>
 oB' (nx 16 h77) fun h78 =>
 oB (bLt y7_77 y2_77) fun x19_79 =>
 oB (gq x19_79 true (some y0_77)) fun x21_80 =>
 oB (gq x19_79 true (some y7_77)) fun x22_81 =>
 oB (gq x19_79 true (oIx 1 x21_80 x22_81)) fun x23_82 =>
 oB (gq x19_79 true (oLd h78 x23_82)) fun x24_83 =>
 oB (gq x19_79 true (some y0_77)) fun x25_84 =>
 oB (gq x19_79 true (some y7_77)) fun x26_85 =>
 oB (gq x19_79 true (bSub x26_85 (I 1))) fun x27_86 =>
 oB (gq x19_79 true (oIx 1 x25_84 x27_86)) fun x28_87 =>
 oB (gq x19_79 true (oLd h78 x28_87)) fun x29_88 =>
 oP (gw x19_79 true (call n_cmp_Less_int [x24_83, x29_88] h78) h78) fun x30_89 h89 =>
 oB (gq x19_79 true (evQ (.un .not (.c x30_89)) .e h89)) fun x31_90 =>
 oB (oPick x19_79 x31_90 (.bool false)) fun x32_91 =>
 ci x32_91 (
 jnF 5 (fun z8_92 z7_92 z2_92 z1_92 z0_92 h92 =>
 f77 z8_92 z7_92 z2_92 z1_92 z0_92 h92) fun j92 =>
 oB (bAdd y7_77 (I 1)) fun x34_93 =>
 j92 y8_77 x34_93 y2_77 y1_77 y0_77 h89) (
 j6 y8_77 y7_77 y2_77 y1_77 y0_77 h89)) y8_2 y7_2 y2_2 y1_2 y0_2 h2) (
 j1 h2)) (I 0) x12_0 x2 x1 x0 h
theorem o_slices_partialInsertionSortOrdered_int : FnOK Tryz.prog n_slices_partialInsertionSortOrdered_int (a3 f_slices_partialInsertionSortOrdered_int) := ok3 mixed Tryz.func235 (by kernel_rfl)
end Go.Proofs.YtahpoedbdhhdfaaGreatDoor
