/- Functions, as they run. PRINTED by a program of this repo. -/
import Derived.Test.YtmlhpcflphlgdaaGreatDoorN
import Derived.Test.YtmlhpcflphlgdaaGreatDoorM
set_option linter.unusedVariables false
set_option maxRecDepth 100000
namespace Go.Proofs.YtmlhpcflphlgdaaGreatDoor
open Go.Ev
/- internal/strconv.formatBits -/
noncomputable def f_internal_strconv_formatBits (n : Nat) (call : Caller)  (x0 x1 x2 x3 x4 : AV) (h : AH) : Ans :=
 oB (bLt x2 (I 2)) fun x20_0 =>
 oB (gq x20_0 false (some x2)) fun x22_1 =>
 oB (gq x20_0 false (bEq .no x22_1 (I 10))) fun x23_2 =>
 oB (oPick x20_0 (.bool true) x23_2) fun x24_3 =>
 oB (gq x24_3 false (some x2)) fun x26_4 =>
 oB (gq x24_3 false (bGt x26_4 (I 36))) fun x27_5 =>
 oB (oPick x24_3 (.bool true) x27_5) fun x28_6 =>
 jnF 7 (fun z11_7 z10_7 z4_7 z3_7 z2_7 z1_7 z0_7 h7 =>
 oP (oNew h7 368 [(U 0), (U 0), (U 0), (U 0), (U 0), (U 0), (U 0), (U 0), (U 0), (U 0), (U 0), (U 0), (U 0), (U 0), (U 0), (U 0), (U 0), (U 0), (U 0), (U 0), (U 0), (U 0), (U 0), (U 0), (U 0), (U 0), (U 0), (U 0), (U 0), (U 0), (U 0), (U 0), (U 0), (U 0), (U 0), (U 0), (U 0), (U 0), (U 0), (U 0), (U 0), (U 0), (U 0), (U 0), (U 0), (U 0), (U 0), (U 0), (U 0), (U 0), (U 0), (U 0), (U 0), (U 0), (U 0), (U 0), (U 0), (U 0), (U 0), (U 0), (U 0), (U 0), (U 0), (U 0), (U 0)]) fun x12_8 h8 =>
 jnF 9 (fun z13_9 z12_9 z11_9 z10_9 z4_9 z3_9 z2_9 z1_9 z0_9 h9 =>
 oP (call n_internal_strconv_isPowerOfTwo [z2_9] h9) fun x34_10 h10 =>
 jnF 7 (fun z13_11 z12_11 z11_11 z10_11 z4_11 z3_11 z0_11 h11 =>
 jnF 6 (fun z13_12 z12_12 z11_12 z10_12 z4_12 z0_12 h12 =>
 ci z4_12 (
 oB (evQ (.slArr 65 1 (.c z12_12) (some (.c z13_12)) none none) .e h12) fun x97_13 =>
 oP (evW (.append 5 1 1 [(U 0)] (.c z0_12) (.c x97_13)) .e h12) fun x98_14 h14 =>
 some (.tup [x98_14, z11_12], h14)) (
 oB (evQ (.slArr 65 1 (.c z12_12) (some (.c z13_12)) none none) .e h12) fun x100_15 =>
 oB (evQ (.b2s (.c x100_15)) .e h12) fun x101_16 =>
 some (.tup [z10_12, x101_16], h12))) fun j12 =>
 ci z3_11 (
 oB (bSub z13_11 (I 1)) fun x91_17 =>
 oB (evQ (.idxArr 65 1 (.c z12_11) (.c x91_17)) .e h11) fun x93_18 =>
 oP (oSt 1 h11 x93_18 (U 45)) fun _ h19 =>
 j12 x91_17 z12_11 z11_11 z10_11 z4_11 z0_11 h19) (
 j12 z13_11 z12_11 z11_11 z10_11 z4_11 z0_11 h11)) fun j11 =>
 ci x34_10 (
 oB (oInt .u64 z2_9) fun x36_20 =>
 oP (call n_math_bits_TrailingZeros [x36_20] h10) fun x37_21 h21 =>
 oB (oInt .u64 x37_21) fun x38_22 =>
 oB (oInt .u64 z2_9) fun x40_23 =>
 oB (oInt .u64 z2_9) fun x42_24 =>
 oB (bSub x42_24 (.int .u64 1)) fun x43_25 =>
 jnF 8 (fun z13_26 z12_26 z11_26 z10_26 z4_26 z3_26 z1_26 z0_26 h26 =>
 oB (bSub z13_26 (I 1)) fun x59_27 =>
 oB (oIxS (.str [48, 49, 50, 51, 52, 53, 54, 55, 56, 57, 97, 98, 99, 100, 101, 102, 103, 104, 105, 106, 107, 108, 109, 110, 111, 112, 113, 114, 115, 116, 117, 118, 119, 120, 121, 122]) z1_26) fun x62_28 =>
 oB (evQ (.idxArr 65 1 (.c z12_26) (.c x59_27)) .e h26) fun x63_29 =>
 oP (oSt 1 h26 x63_29 x62_28) fun _ h30 =>
 j11 x59_27 z12_26 z11_26 z10_26 z4_26 z3_26 z0_26 h30) fun j26 =>
 lpF 11 n (fun f31 y16_31 y15_31 y14_31 y13_31 y12_31 y11_31 y10_31 y4_31 y3_31 y1_31 y0_31 h31 =>
 oB (bGe y1_31 y15_31) fun x46_32 =>
 ci x46_32 (
 jnF 11 (fun z16_33 z15_33 z14_33 z13_33 z12_33 z11_33 z10_33 z4_33 z3_33 z1_33 z0_33 h33 =>
 f31 z16_33 z15_33 z14_33 z13_33 z12_33 z11_33 z10_33 z4_33 z3_33 z1_33 z0_33 h33) fun j33 =>
 oB (bSub y13_31 (I 1)) fun x48_34 =>
 oB (binAV .and .no y1_31 y16_31) fun x52_35 =>
 oB (oIxS (.str [48, 49, 50, 51, 52, 53, 54, 55, 56, 57, 97, 98, 99, 100, 101, 102, 103, 104, 105, 106, 107, 108, 109, 110, 111, 112, 113, 114, 115, 116, 117, 118, 119, 120, 121, 122]) x52_35) fun x53_36 =>
 oB (evQ (.idxArr 65 1 (.c y12_31) (.c x48_34)) .e h31) fun x54_37 =>
 oP (oSt 1 h31 x54_37 x53_36) fun _ h38 =>
 oB (binAV .shr .no y1_31 y14_31) fun x57_39 =>
 j33 y16_31 y15_31 y14_31 x48_34 y12_31 y11_31 y10_31 y4_31 y3_31 x57_39 y0_31 h38) (
 j26 y13_31 y12_31 y11_31 y10_31 y4_31 y3_31 y1_31 y0_31 h31)) x43_25 x40_23 x38_22 z13_9 z12_9 z11_9 z10_9 z4_9 z3_9 z1_9 z0_9 h21) (
 oB (oInt .u64 z2_9) fun x65_40 =>
 jnF 8 (fun z13_41 z12_41 z11_41 z10_41 z4_41 z3_41 z1_41 z0_41 h41 =>
 oB (bSub z13_41 (I 1)) fun x84_42 =>
 oB (oIxS (.str [48, 49, 50, 51, 52, 53, 54, 55, 56, 57, 97, 98, 99, 100, 101, 102, 103, 104, 105, 106, 107, 108, 109, 110, 111, 112, 113, 114, 115, 116, 117, 118, 119, 120, 121, 122]) z1_41) fun x87_43 =>
 oB (evQ (.idxArr 65 1 (.c z12_41) (.c x84_42)) .e h41) fun x88_44 =>
 oP (oSt 1 h41 x88_44 x87_43) fun _ h45 =>
 j11 x84_42 z12_41 z11_41 z10_41 z4_41 z3_41 z0_41 h45) fun j41 =>
 lpF 9 n (fun f46 y17_46 y13_46 y12_46 y11_46 y10_46 y4_46 y3_46 y1_46 y0_46 h46 =>
 oB (bGe y1_46 y17_46) fun x68_47 =>
 ci x68_47 (
 jnF 9 (fun z17_48 z13_48 z12_48 z11_48 z10_48 z4_48 z3_48 z1_48 z0_48 h48 =>
 f46 z17_48 z13_48 z12_48 z11_48 z10_48 z4_48 z3_48 z1_48 z0_48 h48) fun j48 =>
 oB (bSub y13_46 (I 1)) fun x70_49 =>
 oB (binAV .quo .no y1_46 y17_46) fun x73_50 =>
 oB (binAV .mul .no x73_50 y17_46) fun x78_51 =>
 oB (bSub y1_46 x78_51) fun x79_52 =>
 oB (oIxS (.str [48, 49, 50, 51, 52, 53, 54, 55, 56, 57, 97, 98, 99, 100, 101, 102, 103, 104, 105, 106, 107, 108, 109, 110, 111, 112, 113, 114, 115, 116, 117, 118, 119, 120, 121, 122]) x79_52) fun x80_53 =>
 oB (evQ (.idxArr 65 1 (.c y12_46) (.c x70_49)) .e h46) fun x81_54 =>
 oP (oSt 1 h46 x81_54 x80_53) fun _ h55 =>
 j48 y17_46 x70_49 y12_46 y11_46 y10_46 y4_46 y3_46 x73_50 y0_46 h55) (
 j41 y13_46 y12_46 y11_46 y10_46 y4_46 y3_46 y1_46 y0_46 h46)) x65_40 z13_9 z12_9 z11_9 z10_9 z4_9 z3_9 z1_9 z0_9 h10)) fun j9 =>
 ci z3_7 (
 oB (evQ (.un .neg (.c z1_7)) .e h8) fun x32_56 =>
 j9 (I 65) x12_8 z11_7 z10_7 z4_7 z3_7 z2_7 x32_56 z0_7 h8) (
 j9 (I 65) x12_8 z11_7 z10_7 z4_7 z3_7 z2_7 z1_7 z0_7 h8)) fun j7 =>
 ci x28_6 (
 oB (some (.iface 9 (.str [115, 116, 114, 99, 111, 110, 118, 58, 32, 105, 108, 108, 101, 103, 97, 108, 32, 65, 112, 112, 101, 110, 100, 73, 110, 116, 47, 70, 111, 114, 109, 97, 116, 73, 110, 116, 32, 98, 97, 115, 101]))) fun x29_57 =>
 oB (evQ (.bad) .e h) fun _ =>
 j7 (.str []) .nils x4 x3 x2 x1 x0 h) (
 j7 (.str []) .nils x4 x3 x2 x1 x0 h)
theorem o_internal_strconv_formatBits : FnOK Tryz.prog n_internal_strconv_formatBits (a5 f_internal_strconv_formatBits) := ok5 mixed Tryz.func286 (by kernel_rfl)
/- corrector/chars.letter -/
noncomputable def f_chars_letter (n : Nat) (call : Caller)  (x0 : AV) (h : AH) : Ans :=
 oB (bGe x0 (U 97)) fun x4_0 =>
 oB (gq x4_0 true (some x0)) fun x6_1 =>
 oB (gq x4_0 true (bLe x6_1 (U 122))) fun x7_2 =>
 oB (oPick x4_0 x7_2 (.bool false)) fun x8_3 =>
 oB (gq x8_3 false (some x0)) fun x10_4 =>
 oB (gq x8_3 false (bGe x10_4 (U 65))) fun x11_5 =>
 oB (gq x8_3 false (some x11_5)) fun x12_6 =>
 oB (gq x12_6 true (some x0)) fun x13_7 =>
 oB (gq x12_6 true (bLe x13_7 (U 90))) fun x14_8 =>
 oB (gq x8_3 false (oPick x12_6 x14_8 (.bool false))) fun x15_9 =>
 oB (oPick x8_3 (.bool true) x15_9) fun x16_10 =>
 oB (gq x16_10 false (some x0)) fun x18_11 =>
 oB (gq x16_10 false (bGe x18_11 (U 48))) fun x19_12 =>
 oB (gq x16_10 false (some x19_12)) fun x20_13 =>
 oB (gq x20_13 true (some x0)) fun x21_14 =>
 oB (gq x20_13 true (bLe x21_14 (U 57))) fun x22_15 =>
 oB (gq x16_10 false (oPick x20_13 x22_15 (.bool false))) fun x23_16 =>
 oB (oPick x16_10 (.bool true) x23_16) fun x24_17 =>
 some (x24_17, h)
theorem o_chars_letter : FnOK Tryz.prog n_chars_letter (a1 f_chars_letter) := ok1 mixed Tryz.func287 (by kernel_rfl)
/- (*corrector/parse.parser).over -/
noncomputable def f_parse_parser_over (n : Nat) (call : Caller)  (x0 x1 x2 : AV) (h : AH) : Ans :=
 jnF 1 (fun z2_0 h0 =>
 some (z2_0, h0)) fun j0 =>
 lpF 3 n (fun f1 y2_1 y1_1 y0_1 h1 =>
 oB (bGt y2_1 y1_1) fun x9_2 =>
 oB (gq x9_2 true (some y0_1)) fun x11_3 =>
 oB (gq x9_2 true (oNil x11_3)) fun x12_4 =>
 oB (gq x9_2 true (oFA 1 x12_4)) fun x13_5 =>
 oB (gq x9_2 true (oLd h1 x13_5)) fun x14_6 =>
 oB (gq x9_2 true (some y2_1)) fun x15_7 =>
 oB (gq x9_2 true (bSub x15_7 (I 1))) fun x16_8 =>
 oB (gq x9_2 true (oIx 3 x14_6 x16_8)) fun x17_9 =>
 oB (gq x9_2 true (oLdN 3 h1 x17_9)) fun x18_10 =>
 oP (gw x9_2 true (call n_parse_counts [x18_10] h1) h1) fun x19_11 h11 =>
 oB (gq x9_2 true (evQ (.un .not (.c x19_11)) .e h11)) fun x20_12 =>
 oB (oPick x9_2 x20_12 (.bool false)) fun x21_13 =>
 ci x21_13 (
 jnF 3 (fun z2_14 z1_14 z0_14 h14 =>
 f1 z2_14 z1_14 z0_14 h14) fun j14 =>
 oB (bSub y2_1 (I 1)) fun x23_15 =>
 j14 x23_15 y1_1 y0_1 h11) (
 j0 y2_1 h11)) x2 x1 x0 h
theorem o_parse_parser_over : FnOK Tryz.prog n_parse_parser_over (a3 f_parse_parser_over) := ok3 mixed Tryz.func288 (by kernel_rfl)
/- corrector/arena.Add -/
noncomputable def f_arena_Add (n : Nat) (call : Caller)  (x0 x1 x2 x3 x4 : AV) (h : AH) : Ans :=
 oP (oNew h 100 (AV.cells x0)) fun x5_0 h0 =>
 oP (oNew h0 100 [.nils]) fun x10_1 h1 =>
 oB (oLdN 1 h1 x5_0) fun x14_2 =>
 oP (call n_arena_own [x14_2] h1) fun x15_3 h3 =>
 oP (call n_arena_forest_has [x15_3, x1] h3) fun x18_4 h4 =>
 oB (evQ (.un .not (.c x18_4)) .e h4) fun x19_5 =>
 oB (gq x19_5 false (some x2)) fun x21_6 =>
 oB (gq x19_5 false (bLt x21_6 (I 1))) fun x22_7 =>
 oB (oPick x19_5 (.bool true) x22_7) fun x23_8 =>
 oB (gq x23_8 false (some x2)) fun x25_9 =>
 oB (gq x23_8 false (bGt x25_9 (I 11))) fun x26_10 =>
 oB (oPick x23_8 (.bool true) x26_10) fun x27_11 =>
 oB (gq x27_11 false (some x3)) fun x29_12 =>
 oB (gq x27_11 false (some x4)) fun x30_13 =>
 oB (gq x27_11 false (bGt x29_12 x30_13)) fun x31_14 =>
 oB (oPick x27_11 (.bool true) x31_14) fun x32_15 =>
 oB (gq x32_15 false (some x4)) fun x34_16 =>
 oB (gq x32_15 false (some x15_3)) fun x35_17 =>
 oB (gq x32_15 false (oNil x35_17)) fun x36_18 =>
 oB (gq x32_15 false (oFA 0 x36_18)) fun x37_19 =>
 oB (gq x32_15 false (oFA 0 x37_19)) fun x38_20 =>
 oB (gq x32_15 false (oLd h4 x38_20)) fun x39_21 =>
 oB (gq x32_15 false (oIx 6 x39_21 (I 0))) fun x40_22 =>
 oB (gq x32_15 false (oFA 2 x40_22)) fun x41_23 =>
 oB (gq x32_15 false (oLd h4 x41_23)) fun x42_24 =>
 oB (gq x32_15 false (bGt x34_16 x42_24)) fun x43_25 =>
 oB (oPick x32_15 (.bool true) x43_25) fun x44_26 =>
 oB (gq x44_26 false (some x3)) fun x46_27 =>
 oB (gq x44_26 false (some x15_3)) fun x47_28 =>
 oB (gq x44_26 false (some x1)) fun x48_29 =>
 oP (gw x44_26 false (call n_arena_forest_end [x47_28, x48_29] h4) h4) fun x49_30 h30 =>
 oB (gq x44_26 false (bLt x46_27 x49_30)) fun x50_31 =>
 oB (oPick x44_26 (.bool true) x50_31) fun x51_32 =>
 ci x51_32 (
 oB (oNil x15_3) fun x53_33 =>
 oB (oFA 0 x53_33) fun x54_34 =>
 oB (oLdN 1 h30 x54_34) fun x55_35 =>
 oP (oSt 1 h30 x10_1 x55_35) fun _ h36 =>
 retT [(10, some (some 1)), (11, none)] (sput 11 (sput 10 Tr.e x10_1) (Ineg 0)) h36) (
 oB (oNil x15_3) fun x57_37 =>
 oB (oFA 0 x57_37) fun x58_38 =>
 oB (oFA 0 x58_38) fun x59_39 =>
 oB (oLd h30 x59_39) fun x60_40 =>
 oB (oLen x60_40) fun x61_41 =>
 oB (oNil x15_3) fun x64_42 =>
 oB (oFA 0 x64_42) fun x65_43 =>
 oB (oFA 0 x65_43) fun x66_44 =>
 oB (oLd h30 x66_44) fun x67_45 =>
 oB (oBuild [(I 0), (I 0), (I 0), (I 0), .nils, (.bool false)] [(0, 1, x2), (1, 1, x3), (2, 1, x4), (3, 1, x1)]) fun x72_46 =>
 oP (oBuildSl h30 120 6 1 [(I 0), (I 0), (I 0), (I 0), .nils, (.bool false)] [(0, 6, x72_46)]) fun x73_47 h47 =>
 oP (evW (.append 120 6 64 [(I 0), (I 0), (I 0), (I 0), .nils, (.bool false)] (.c x67_45) (.c x73_47)) .e h47) fun x74_48 h48 =>
 oB (oNil x15_3) fun x75_49 =>
 oB (oFA 0 x75_49) fun x76_50 =>
 oB (oFA 0 x76_50) fun x77_51 =>
 oP (oSt 1 h48 x77_51 x74_48) fun _ h52 =>
 oB (oNil x15_3) fun x79_53 =>
 oB (oFA 0 x79_53) fun x80_54 =>
 oB (oFA 0 x80_54) fun x81_55 =>
 oB (oLd h52 x81_55) fun x82_56 =>
 oB (oIx 6 x82_56 x1) fun x84_57 =>
 oB (oFA 4 x84_57) fun x85_58 =>
 oB (oLd h52 x85_58) fun x86_59 =>
 oB' (nx 18 h52) fun h60 =>
 oB (oNil x15_3) fun x88_61 =>
 oB (oFA 0 x88_61) fun x89_62 =>
 oB (oFA 0 x89_62) fun x90_63 =>
 oB (oLd h60 x90_63) fun x91_64 =>
 oB (oLen x86_59) fun x95_65 =>
 oB (oLen x86_59) fun x97_66 =>
 oB (evQ (.sl 1 (.c x86_59) none (some (.c x95_65)) (some (.c x97_66))) .e h60) fun x98_67 =>
 fl1 true (evF (.buildSlice 3 1 1 [(I 0)] [(0, 1, (.c x61_41))]) .e) (Nat.add h52.next 13) fun x100_68 o68 =>
 oB' (lay1 (Nat.add h52.next 13) o68 h60) fun v69 =>
 oP (evW (.append 3 1 8 [(I 0)] (.c x98_67) (.c x100_68)) .e v69) fun x101_70 h70 =>
 oB (oIx 6 x91_64 x1) fun x102_71 =>
 oB (oFA 4 x102_71) fun x103_72 =>
 oP (oSt 1 h70 x103_72 x101_70) fun x0_73 h73 =>
 ask1 true (oLd h60 x90_63) x91_64 (
 ask1 true (oLd h70 x90_63) x91_64 (
 oP (call n_arena_forest_grow [x15_3, x1, x4] h73) fun x107_74 h74 =>
 oB (oNil x15_3) fun x109_75 =>
 oB (oFA 0 x109_75) fun x110_76 =>
 oB (oLdN 1 h74 x110_76) fun x111_77 =>
 oP (oSt 1 h74 x10_1 x111_77) fun _ h78 =>
 retT [(10, some (some 1)), (11, none)] (sput 11 (sput 10 Tr.e x10_1) x61_41) h78)))
theorem o_arena_Add : FnOK Tryz.prog n_arena_Add (a5 f_arena_Add) := ok5 mixed Tryz.func289 (by kernel_rfl)
/- corrector/flow.Value -/
noncomputable def f_flow_Value (n : Nat) (call : Caller)  (x0 x1 x2 x3 x4 x5 x6 : AV) (h : AH) : Ans :=
 oP (oNew h 100 (AV.cells x2)) fun x9_0 h0 =>
 oP (oNew h0 100 [.nils]) fun x14_1 h1 =>
 oB (oLen x1) fun x22_2 =>
 oB (evQ (.minI (.c x5) [(.c x22_2)]) .e h1) fun x23_3 =>
 oB (oLdN 1 h1 x9_0) fun x24_4 =>
 oP (call n_arena_Grow [x24_4, (Ineg 0), (I 0)] h1) fun x25_5 h5 =>
 oB (oBuild [.nils, (I 0), .nils, .nils] [(0, 1, x1), (1, 1, x23_3), (2, 1, x25_5)]) fun x26_6 =>
 oP (oNew h5 371 (AV.cells x26_6)) fun x27_7 h7 =>
 oB (bLt x4 (I 0)) fun x29_8 =>
 oB (gq x29_8 false (some x3)) fun x31_9 =>
 oB (gq x29_8 false (bLt x31_9 (I 0))) fun x32_10 =>
 oB (oPick x29_8 (.bool true) x32_10) fun x33_11 =>
 oB (gq x33_11 false (some x3)) fun x35_12 =>
 oB (gq x33_11 false (oFA 0 x9_0)) fun x36_13 =>
 oB (gq x33_11 false (oLd h7 x36_13)) fun x37_14 =>
 oB (gq x33_11 false (oLen x37_14)) fun x38_15 =>
 oB (gq x33_11 false (bGe x35_12 x38_15)) fun x39_16 =>
 oB (oPick x33_11 (.bool true) x39_16) fun x40_17 =>
 ci x40_17 (
 oB (oNil x27_7) fun x42_18 =>
 oB (oFA 2 x42_18) fun x43_19 =>
 oB (oLdN 1 h7 x43_19) fun x44_20 =>
 oP (oSt 1 h7 x14_1 x44_20) fun _ h21 =>
 retT [(14, some (some 1)), (15, none), (16, none), (17, none)] (sput 17 (sput 16 (sput 15 (sput 14 Tr.e x14_1) (Ineg 0)) x4) .nils) h21) (
 oP (call n_flow_reader_value [x27_7, x3, x4, x6] h7) fun x51_22 h22 =>
 oB (oEx 0 x51_22) fun x52_23 =>
 oB (oEx 1 x51_22) fun x53_24 =>
 oB' (nx 15 h22) fun h25 =>
 oB (oNil x27_7) fun x55_26 =>
 oB (oFA 2 x55_26) fun x56_27 =>
 oB (oLdN 1 h25 x56_27) fun x57_28 =>
 oB (oNil x27_7) fun x61_29 =>
 oB (oFA 3 x61_29) fun x62_30 =>
 oB (oLd h25 x62_30) fun x63_31 =>
 oP (call n_slices_Clone_api_Diag_api_Diag [x63_31] h25) fun x64_32 h32 =>
 oP (oSt 1 h32 x14_1 x57_28) fun x0_33 h33 =>
 ask1 true (oLdN 1 h25 x56_27) x57_28 (
 ask1 true (oLdN 1 h32 x56_27) x57_28 (
 ask1 true (oLd h25 x62_30) x63_31 (
 retT [(14, some (some 1)), (15, none), (16, none), (17, none)] (sput 17 (sput 16 (sput 15 (sput 14 Tr.e x14_1) x52_23) x53_24) x64_32) h33))))
theorem o_flow_Value : FnOK Tryz.prog n_flow_Value (a7 f_flow_Value) := ok7 mixed Tryz.func290 (by kernel_rfl)
/- (*corrector/parse.parser).end -/
noncomputable def f_parse_parser_end (n : Nat) (call : Caller)  (x0 x1 : AV) (h : AH) : Ans :=
 jnF 1 (fun z1_0 h0 =>
 some (z1_0, h0)) fun j0 =>
 lpF 2 n (fun f1 y1_1 y0_1 h1 =>
 oB (oNil y0_1) fun x7_2 =>
 oB (oFA 1 x7_2) fun x8_3 =>
 oB (oLd h1 x8_3) fun x9_4 =>
 oB (oLen x9_4) fun x10_5 =>
 oB (bLt y1_1 x10_5) fun x11_6 =>
 oB (gq x11_6 true (some y0_1)) fun x13_7 =>
 oB (gq x11_6 true (oNil x13_7)) fun x14_8 =>
 oB (gq x11_6 true (oFA 1 x14_8)) fun x15_9 =>
 oB (gq x11_6 true (oLd h1 x15_9)) fun x16_10 =>
 oB (gq x11_6 true (some y1_1)) fun x17_11 =>
 oB (gq x11_6 true (oIx 3 x16_10 x17_11)) fun x18_12 =>
 oB (gq x11_6 true (oFA 0 x18_12)) fun x19_13 =>
 oB (gq x11_6 true (oLd h1 x19_13)) fun x20_14 =>
 oB (gq x11_6 true (bNe .no x20_14 (I 20))) fun x21_15 =>
 oB (oPick x11_6 x21_15 (.bool false)) fun x22_16 =>
 oB (gq x22_16 true (some y0_1)) fun x24_17 =>
 oB (gq x22_16 true (oNil x24_17)) fun x25_18 =>
 oB (gq x22_16 true (oFA 1 x25_18)) fun x26_19 =>
 oB (gq x22_16 true (oLd h1 x26_19)) fun x27_20 =>
 oB (gq x22_16 true (some y1_1)) fun x28_21 =>
 oB (gq x22_16 true (oIx 3 x27_20 x28_21)) fun x29_22 =>
 oB (gq x22_16 true (oFA 0 x29_22)) fun x30_23 =>
 oB (gq x22_16 true (oLd h1 x30_23)) fun x31_24 =>
 oB (gq x22_16 true (bNe .no x31_24 (I 21))) fun x32_25 =>
 oB (oPick x22_16 x32_25 (.bool false)) fun x33_26 =>
 ci x33_26 (
 jnF 2 (fun z1_27 z0_27 h27 =>
 f1 z1_27 z0_27 h27) fun j27 =>
 oB (bAdd y1_1 (I 1)) fun x35_28 =>
 j27 x35_28 y0_1 h1) (
 j0 y1_1 h1)) x1 x0 h
theorem o_parse_parser_end : FnOK Tryz.prog n_parse_parser_end (a2 f_parse_parser_end) := ok2 mixed Tryz.func291 (by kernel_rfl)
/- (*corrector/arena.forest).has -/
noncomputable def f_arena_forest_has (n : Nat) (call : Caller)  (x0 x1 : AV) (h : AH) : Ans :=
 oB (bGe x1 (I 0)) fun x6_0 =>
 oB (gq x6_0 true (some x1)) fun x8_1 =>
 oB (gq x6_0 true (some x0)) fun x9_2 =>
 oB (gq x6_0 true (oNil x9_2)) fun x10_3 =>
 oB (gq x6_0 true (oFA 0 x10_3)) fun x11_4 =>
 oB (gq x6_0 true (oFA 0 x11_4)) fun x12_5 =>
 oB (gq x6_0 true (oLd h x12_5)) fun x13_6 =>
 oB (gq x6_0 true (oLen x13_6)) fun x14_7 =>
 oB (gq x6_0 true (bLt x8_1 x14_7)) fun x15_8 =>
 oB (oPick x6_0 x15_8 (.bool false)) fun x16_9 =>
 some (x16_9, h)
theorem o_arena_forest_has : FnOK Tryz.prog n_arena_forest_has (a2 f_arena_forest_has) := ok2 mixed Tryz.func292 (by kernel_rfl)
/- (*corrector/arena.forest).grow -/
noncomputable def f_arena_forest_grow (n : Nat) (call : Caller)  (x0 x1 x2 : AV) (h : AH) : Ans :=
 oB (oNil x0) fun x8_0 =>
 oB (oFA 0 x8_0) fun x9_1 =>
 oB (oFA 0 x9_1) fun x10_2 =>
 oB (oLd h x10_2) fun x11_3 =>
 oB (oLen x11_3) fun x12_4 =>
 jnF 0 (fun h5 =>
 some (.tup [], h5)) fun j5 =>
 lpF 4 n (fun f6 y6_6 y2_6 y1_6 y0_6 h6 =>
 oP (call n_arena_forest_has [y0_6, y1_6] h6) fun x15_7 h7 =>
 oB (gq x15_7 true (some y6_6)) fun x17_8 =>
 oB (gq x15_7 true (bGt x17_8 (I 0))) fun x18_9 =>
 oB (oPick x15_7 x18_9 (.bool false)) fun x19_10 =>
 ci x19_10 (
 jnF 4 (fun z6_11 z2_11 z1_11 z0_11 h11 =>
 oB (bSub z6_11 (I 1)) fun x21_12 =>
 f6 x21_12 z2_11 z1_11 z0_11 h11) fun j11 =>
 oB' (nx 20 h7) fun h13 =>
 oB (oNil y0_6) fun x23_14 =>
 oB (oFA 0 x23_14) fun x24_15 =>
 oB (oFA 0 x24_15) fun x25_16 =>
 oB (oLd h13 x25_16) fun x26_17 =>
 oB (oNil y0_6) fun x29_18 =>
 oB (oFA 0 x29_18) fun x30_19 =>
 oB (oFA 0 x30_19) fun x31_20 =>
 oB (oLd h13 x31_20) fun x32_21 =>
 oB (oIx 6 x32_21 y1_6) fun x34_22 =>
 oB (oFA 2 x34_22) fun x35_23 =>
 oB (oLd h13 x35_23) fun x36_24 =>
 oB (evQ (.maxI (.c x36_24) [(.c y2_6)]) .e h13) fun x38_25 =>
 oB (oIx 6 x26_17 y1_6) fun x39_26 =>
 oB (oFA 2 x39_26) fun x40_27 =>
 oP (oSt 1 h13 x40_27 x38_25) fun _ h28 =>
 oB (oNil y0_6) fun x42_29 =>
 oB (oFA 0 x42_29) fun x43_30 =>
 oB (oFA 0 x43_30) fun x44_31 =>
 oB (oLd h28 x44_31) fun x45_32 =>
 oB (oIx 6 x45_32 y1_6) fun x47_33 =>
 oB (oFA 3 x47_33) fun x48_34 =>
 oB (oLd h28 x48_34) fun x49_35 =>
 j11 y6_6 y2_6 x49_35 y0_6 h28) (
 j5 h7)) x12_4 x2 x1 x0 h
theorem o_arena_forest_grow : FnOK Tryz.prog n_arena_forest_grow (a3 f_arena_forest_grow) := ok3 mixed Tryz.func293 (by kernel_rfl)
/- (*corrector/parse.parser).nest -/
noncomputable def f_parse_parser_nest (n : Nat) (call : Caller)  (x0 x1 x2 x3 : AV) (h : AH) : Ans :=
 oP (oNew h 275 (AV.cells x3)) fun x7_0 h0 =>
 oB (bAdd x1 (I 2)) fun x12_1 =>
 oB (oNil x0) fun x14_2 =>
 oB (oFA 3 x14_2) fun x15_3 =>
 oB (oLd h0 x15_3) fun x16_4 =>
 oB (bGt x12_1 x16_4) fun x17_5 =>
 ci x17_5 (
 some ((I 10), h0)) (
 oB (oNil x0) fun x20_6 =>
 oB (oFA 8 x20_6) fun x21_7 =>
 oB (oLd h0 x21_7) fun x22_8 =>
 oB (bAdd x1 (I 1)) fun x24_9 =>
 oB (evQ (.sl 5 (.c x22_8) none (some (.c x24_9)) none) .e h0) fun x25_10 =>
 oB (oNil x0) fun x26_11 =>
 oB (oFA 8 x26_11) fun x27_12 =>
 oP (oSt 1 h0 x27_12 x25_10) fun _ h13 =>
 oB (oNil x0) fun x29_14 =>
 oB (oFA 6 x29_14) fun x30_15 =>
 oB (oLd h13 x30_15) fun x31_16 =>
 oB (bGe x1 (I 0)) fun x33_17 =>
 jnF 4 (fun z9_18 z7_18 z2_18 z0_18 h18 =>
 oB (oFA 2 z7_18) fun x55_19 =>
 oB (oLd h18 x55_19) fun x56_20 =>
 oB (oFA 2 z7_18) fun x57_21 =>
 oB (oLd h18 x57_21) fun x58_22 =>
 oP (call n_parse_parser_add [z0_18, z9_18, z2_18, x56_20, x58_22] h18) fun x59_23 h23 =>
 oB' (nx 15 h23) fun h24 =>
 oB (oNil z0_18) fun x62_25 =>
 oB (oFA 8 x62_25) fun x63_26 =>
 oB (oLd h24 x63_26) fun x64_27 =>
 oB (oFA 1 z7_18) fun x67_28 =>
 oB (oLd h24 x67_28) fun x68_29 =>
 oB (oBuild [(I 0), (I 0), (I 0), (I 0), (.bool false)] [(0, 1, x59_23), (1, 1, z2_18), (2, 1, x68_29)]) fun x69_30 =>
 fl1 true (evF (.buildSlice 269 5 1 [(I 0), (I 0), (I 0), (I 0), (.bool false)] [(0, 5, (.c x69_30))]) .e) (Nat.add h23.next 10) fun x70_31 o31 =>
 oB' (lay1 (Nat.add h23.next 10) o31 h24) fun v32 =>
 oP (evW (.append 269 5 40 [(I 0), (I 0), (I 0), (I 0), (.bool false)] (.c x64_27) (.c x70_31)) .e v32) fun x71_33 h33 =>
 oB (oNil z0_18) fun x72_34 =>
 oB (oFA 8 x72_34) fun x73_35 =>
 oP (oSt 1 h33 x73_35 x71_33) fun x0_36 h36 =>
 ask1 true (oLd h24 x63_26) x64_27 (
 ask1 true (oLd h24 x67_28) x68_29 (
 oB (oLdN 4 h36 z7_18) fun x75_37 =>
 oP (call n_parse_parser_cur [z0_18, x75_37] h36) fun x76_38 h38 =>
 some ((I 0), h38)))) fun j18 =>
 ci x33_17 (
 oB (oNil x0) fun x35_39 =>
 oB (oFA 8 x35_39) fun x36_40 =>
 oB (oLd h13 x36_40) fun x37_41 =>
 oB (oIx 5 x37_41 x1) fun x39_42 =>
 oB (oFA 3 x39_42) fun x40_43 =>
 oB (oLd h13 x40_43) fun x41_44 =>
 oB (oNil x0) fun x43_45 =>
 oB (oFA 8 x43_45) fun x44_46 =>
 oB (oLd h13 x44_46) fun x45_47 =>
 oB (oIx 5 x45_47 x1) fun x47_48 =>
 oB (oFA 4 x47_48) fun x48_49 =>
 oP (oSt 1 h13 x48_49 (.bool true)) fun _ h50 =>
 j18 x41_44 x7_0 x2 x0 h50) (
 oB (oNil x0) fun x50_51 =>
 oB (oFA 7 x50_51) fun x51_52 =>
 oP (oSt 1 h13 x51_52 (.bool true)) fun _ h53 =>
 j18 x31_16 x7_0 x2 x0 h53))
theorem o_parse_parser_nest : FnOK Tryz.prog n_parse_parser_nest (a4 f_parse_parser_nest) := ok4 mixed Tryz.func294 (by kernel_rfl)
/- (*corrector/parse.parser).cur -/
noncomputable def f_parse_parser_cur (n : Nat) (call : Caller)  (x0 x1 : AV) (h : AH) : Ans :=
 oP (oNew h 275 (AV.cells x1)) fun x3_0 h0 =>
 oB' (nx 12 h0) fun h1 =>
 oB (oNil x0) fun x8_2 =>
 oB (oFA 8 x8_2) fun x9_3 =>
 oB (oLd h1 x9_3) fun x10_4 =>
 oB (oNil x0) fun x12_5 =>
 oB (oFA 8 x12_5) fun x13_6 =>
 oB (oLd h1 x13_6) fun x14_7 =>
 oB (oLen x14_7) fun x15_8 =>
 oB (bSub x15_8 (I 1)) fun x16_9 =>
 oB (oIx 5 x10_4 x16_9) fun x17_10 =>
 oB (oFA 0 x3_0) fun x18_11 =>
 oB (oLd h1 x18_11) fun x19_12 =>
 jnF 4 (fun z5_13 z4_13 z3_13 z0_13 h13 =>
 oB' (nx 12 h13) fun h14 =>
 oB (oNil z4_13) fun x22_15 =>
 oB (oFA 0 x22_15) fun x23_16 =>
 oB (oLd h14 x23_16) fun x24_17 =>
 oB (oFA 2 z3_13) fun x26_18 =>
 oB (oLd h14 x26_18) fun x27_19 =>
 oB (oFA 3 z3_13) fun x28_20 =>
 oB (oLd h14 x28_20) fun x29_21 =>
 oP (call n_parse_parser_add [z0_13, x24_17, z5_13, x27_19, x29_21] h14) fun x30_22 h22 =>
 oB (oFA 0 z3_13) fun x31_23 =>
 oB (oLd h22 x31_23) fun x32_24 =>
 oB (evQ (.un .not (.c x32_24)) .e h22) fun x33_25 =>
 jnF 3 (fun z6_26 z4_26 z0_26 h26 =>
 oB (oNil z4_26) fun x43_27 =>
 oB (oFA 3 x43_27) fun x44_28 =>
 oP (oSt 1 h26 x44_28 z6_26) fun _ h29 =>
 oB (oNil z4_26) fun x45_30 =>
 oB (oFA 4 x45_30) fun x46_31 =>
 oP (oSt 1 h29 x46_31 (.bool false)) fun _ h32 =>
 oB (oNil z0_26) fun x47_33 =>
 oB (oFA 9 x47_33) fun x48_34 =>
 oP (oSt 1 h32 x48_34 z6_26) fun _ h35 =>
 some (.tup [], h35)) fun j26 =>
 ci x33_25 (
 oB (oLdN 4 h22 z3_13) fun x36_36 =>
 oP (call n_parse_parser_key [z0_13, x30_22, x36_36] h22) fun x37_37 h37 =>
 j26 x30_22 z4_13 z0_13 h37) (
 j26 x30_22 z4_13 z0_13 h22)) fun j13 =>
 ci x19_12 (
 j13 (I 4) x17_10 x3_0 x0 h1) (
 j13 (I 6) x17_10 x3_0 x0 h1)
theorem o_parse_parser_cur : FnOK Tryz.prog n_parse_parser_cur (a2 f_parse_parser_cur) := ok2 mixed Tryz.func295 (by kernel_rfl)
/- slices.Index[[]byte,byte] -/
noncomputable def f_slices_Index_byte_byte (n : Nat) (call : Caller)  (x0 x1 : AV) (h : AH) : Ans :=
 oB (oLen x0) fun x7_0 =>
 jnF 0 (fun h1 =>
 some ((Ineg 0), h1)) fun j1 =>
 lpF 4 n (fun f2 y8_2 y7_2 y1_2 y0_2 h2 =>
 oB (bLt y8_2 y7_2) fun x9_3 =>
 ci x9_3 (
 jnF 4 (fun z8_4 z7_4 z1_4 z0_4 h4 =>
 oB (bAdd z8_4 (I 1)) fun x18_5 =>
 f2 x18_5 z7_4 z1_4 z0_4 h4) fun j4 =>
 oB (oIx 1 y0_2 y8_2) fun x14_6 =>
 oB (oLd h2 x14_6) fun x15_7 =>
 oB (bEq .no y1_2 x15_7) fun x16_8 =>
 ci x16_8 (
 some (y8_2, h2)) (
 j4 y8_2 y7_2 y1_2 y0_2 h2)) (
 j1 h2)) (I 0) x7_0 x1 x0 h
theorem o_slices_Index_byte_byte : FnOK Tryz.prog n_slices_Index_byte_byte (a2 f_slices_Index_byte_byte) := ok2 mixed Tryz.func296 (by kernel_rfl)
/- corrector/quote.of -/
noncomputable def f_quote_of (n : Nat) (call : Caller)  (x0 x1 : AV) (h : AH) : Ans :=
 jnF 0 (fun h0 =>
 some (.nili, h0)) fun j0 =>
 oB (bEq .no x0 (I 15)) fun x7_1 =>
 ci x7_1 (
 oB (some (.iface 374 x1)) fun x9_2 =>
 some (x9_2, h)) (
 oB (bEq .no x0 (I 16)) fun x11_3 =>
 ci x11_3 (
 oB (some (.iface 375 x1)) fun x13_4 =>
 some (x13_4, h)) (
 oB (bEq .no x0 (I 17)) fun x15_5 =>
 ci x15_5 (
 oB (some (.iface 376 x1)) fun x17_6 =>
 some (x17_6, h)) (
 j0 h)))
theorem o_quote_of : FnOK Tryz.prog n_quote_of (a2 f_quote_of) := ok2 mixed Tryz.func297 (by kernel_rfl)
/- slices.Clone[[]corrector/api.Node,corrector/api.Node] -/
noncomputable def f_slices_Clone_api_Node_api_Node (n : Nat) (call : Caller)  (x0 : AV) (h : AH) : Ans :=
 oB (bEq .sl x0 .nils) fun x4_0 =>
 ci x4_0 (
 some (.nils, h)) (
 oP (oBuildSl h 120 6 0 [] []) fun x5_1 h1 =>
 oP (evW (.append 120 6 64 [(I 0), (I 0), (I 0), (I 0), .nils, (.bool false)] (.c x5_1) (.c x0)) .e h1) fun x7_2 h2 =>
 some (x7_2, h2))
theorem o_slices_Clone_api_Node_api_Node : FnOK Tryz.prog n_slices_Clone_api_Node_api_Node (a1 f_slices_Clone_api_Node_api_Node) := ok1 mixed Tryz.func298 (by kernel_rfl)
/- slices.Backward[[]corrector/api.Token,corrector/api.Token] -/
noncomputable def f_slices_Backward_api_Token_api_Token (n : Nat) (call : Caller)  (x0 : AV) (h : AH) : Ans :=
 oP (oNew h 89 (AV.cells x0)) fun x1_0 h0 =>
 oB (some (.fn n_slices_Backward_api_Token_api_Token_1 [] [x1_0])) fun x3_1 =>
 some (x3_1, h0)
theorem o_slices_Backward_api_Token_api_Token : FnOK Tryz.prog n_slices_Backward_api_Token_api_Token (a1 f_slices_Backward_api_Token_api_Token) := ok1 mixed Tryz.func299 (by kernel_rfl)
/- corrector/block.Text -/
noncomputable def f_block_Text (n : Nat) (call : Caller)  (x0 x1 : AV) (h : AH) : Ans :=
 oB (oLen x1) fun x17_0 =>
 oP (evW (.mkSlice 9 1 16 [(.str [])] (.c x17_0) (.c x17_0)) .e h) fun x18_1 h1 =>
 oB (oLen x1) fun x20_2 =>
 jnF 5 (fun z7_3 z6_3 z5_3 z1_3 z0_3 h3 =>
 oP (call n_strings_Contains [z0_3, (.str [43])] h3) fun x42_4 h4 =>
 oP (call n_strings_Contains [z0_3, (.str [45])] h4) fun x44_5 h5 =>
 oB (bLt z6_3 (I 0)) fun x46_6 =>
 ci x46_6 (
 ci x42_4 (
 oB (oLen z1_3) fun x49_7 =>
 oP (call n_strings_Repeat [(.str [10]), x49_7] h5) fun x50_8 h8 =>
 some (x50_8, h8)) (
 some ((.str []), h5))) (
 oB' (nx 11 h5) fun h9 =>
 oB (oIx 1 z5_3 z6_3) fun x53_10 =>
 oB (oLd h9 x53_10) fun x54_11 =>
 oB (oIx 1 z5_3 z6_3) fun x57_12 =>
 oB (oLd h9 x57_12) fun x58_13 =>
 oB (oLenS x58_13) fun x59_14 =>
 oP (call n_block_spaces [x54_11, x59_14] h9) fun x60_15 h15 =>
 oB (oLen z5_3) fun x62_16 =>
 jnF 5 (fun z11_17 z10_17 z7_17 z5_17 z0_17 h17 =>
 oB (oLen z5_17) fun x82_18 =>
 oB (bSub x82_18 (I 1)) fun x83_19 =>
 oB (bSub x83_19 z7_17) fun x85_20 =>
 oB (bAdd z7_17 (I 1)) fun x88_21 =>
 oB (evQ (.sl 1 (.c z5_17) none (some (.c x88_21)) none) .e h17) fun x89_22 =>
 oP (call n_slices_Clone_string_string [x89_22] h17) fun x90_23 h23 =>
 oP (call n_strings_Join [x90_23, (.str [10])] h23) fun x92_24 h24 =>
 oP (call n_strings_HasPrefix [z0_17, (.str [62])] h24) fun x94_25 h25 =>
 jnF 4 (fun z15_26 z14_26 z11_26 z10_26 h26 =>
 jnF 1 (fun z15_27 h27 =>
 oB (bAdd z15_27 (.str [10])) fun x108_28 =>
 some (x108_28, h27)) fun j27 =>
 ci z11_26 (
 some (z15_26, h26)) (
 ci z10_26 (
 oB (bAdd (I 1) z14_26) fun x104_29 =>
 oP (call n_strings_Repeat [(.str [10]), x104_29] h26) fun x105_30 h30 =>
 oB (bAdd z15_26 x105_30) fun x106_31 =>
 some (x106_31, h30)) (
 j27 z15_26 h26))) fun j26 =>
 ci x94_25 (
 oP (call n_block_folded [x90_23] h25) fun x96_32 h32 =>
 j26 x96_32 x85_20 z11_17 z10_17 h32) (
 j26 x92_24 x85_20 z11_17 z10_17 h25)) fun j17 =>
 lpF 8 n (fun f33 y63_33 y62_33 y12_33 y11_33 y10_33 y7_33 y5_33 y0_33 h33 =>
 oB (bLt y63_33 y62_33) fun x64_34 =>
 ci x64_34 (
 jnF 8 (fun z63_35 z62_35 z12_35 z11_35 z10_35 z7_35 z5_35 z0_35 h35 =>
 oB (bAdd z63_35 (I 1)) fun x80_36 =>
 f33 x80_36 z62_35 z12_35 z11_35 z10_35 z7_35 z5_35 z0_35 h35) fun j35 =>
 oB' (nx 15 h33) fun h37 =>
 oB (oIx 1 y5_33 y63_33) fun x70_38 =>
 oB (oLd h37 x70_38) fun x71_39 =>
 oB (oIx 1 y5_33 y63_33) fun x74_40 =>
 oB (oLd h37 x74_40) fun x75_41 =>
 oP (call n_block_spaces [x75_41, y12_33] h37) fun x77_42 h42 =>
 oB (oSlS x71_39 (some x77_42) none) fun x78_43 =>
 oB (oIx 1 y5_33 y63_33) fun x79_44 =>
 oP (oSt 1 h42 x79_44 x78_43) fun x0_45 h45 =>
 ask1 true (oLd h37 x70_38) x71_39 (
 ask1 true (oLd h42 x70_38) x71_39 (
 ask1 true (oLd h37 x74_40) x75_41 (
 j35 y63_33 y62_33 y12_33 y11_33 y10_33 y7_33 y5_33 y0_33 h45)))) (
 j17 y11_33 y10_33 y7_33 y5_33 y0_33 h33)) (I 0) x62_16 x60_15 x44_5 x42_4 z7_3 z5_3 z0_3 h15)) fun j3 =>
 lpF 8 n (fun f46 y21_46 y20_46 y19_46 y7_46 y6_46 y5_46 y1_46 y0_46 h46 =>
 oB (bLt y21_46 y20_46) fun x22_47 =>
 ci x22_47 (
 jnF 8 (fun z21_48 z20_48 z19_48 z7_48 z6_48 z5_48 z1_48 z0_48 h48 =>
 oB (bAdd z21_48 (I 1)) fun x40_49 =>
 f46 x40_49 z20_48 z19_48 z7_48 z6_48 z5_48 z1_48 z0_48 h48) fun j48 =>
 oB (oIx 1 y19_46 y21_46) fun x24_50 =>
 oB (oLd h46 x24_50) fun x25_51 =>
 oP (call n_block_own [x25_51] h46) fun x29_52 h52 =>
 oB (oIx 1 y5_46 y21_46) fun x30_53 =>
 oP (oSt 1 h52 x30_53 x29_52) fun _ h54 =>
 oB (oIx 1 y5_46 y21_46) fun x33_55 =>
 oB (oLd h54 x33_55) fun x34_56 =>
 oP (call n_block_empty [x34_56] h54) fun x35_57 h57 =>
 ci x35_57 (
 j48 y21_46 y20_46 y19_46 y7_46 y6_46 y5_46 y1_46 y0_46 h57) (
 oB (bLt y6_46 (I 0)) fun x38_58 =>
 jnF 8 (fun z21_59 z20_59 z19_59 z7_59 z6_59 z5_59 z1_59 z0_59 h59 =>
 j48 z21_59 z20_59 z19_59 z7_59 z6_59 z5_59 z1_59 z0_59 h59) fun j59 =>
 ci x38_58 (
 j59 y21_46 y20_46 y19_46 y21_46 y21_46 y5_46 y1_46 y0_46 h57) (
 j59 y21_46 y20_46 y19_46 y21_46 y6_46 y5_46 y1_46 y0_46 h57))) (
 j3 y7_46 y6_46 y5_46 y1_46 y0_46 h46)) (I 0) x20_2 x1 (Ineg 0) (Ineg 0) x18_1 x1 x0 h1
theorem o_block_Text : FnOK Tryz.prog n_block_Text (a2 f_block_Text) := ok2 mixed Tryz.func300 (by kernel_rfl)
/- corrector/resolve.Kind -/
noncomputable def f_resolve_Kind (n : Nat) (call : Caller)  (x0 : AV) (h : AH) : Ans :=
 jnF 1 (fun z0_0 h0 =>
 oP (call n_resolve_Int [z0_0] h0) fun x21_1 h1 =>
 oB (oEx 0 x21_1) fun x22_2 =>
 oB (oEx 1 x21_1) fun x23_3 =>
 ci x23_3 (
 some ((I 3), h1)) (
 oP (call n_resolve_float [z0_0] h1) fun x26_4 h4 =>
 ci x26_4 (
 some ((I 4), h4)) (
 some ((I 5), h4)))) fun j0 =>
 oB (bEq .no x0 (.str [])) fun x7_5 =>
 jnF 3 (fun z6_6 z5_6 z0_6 h6 =>
 ci z6_6 (
 some ((I 1), h6)) (
 oB (bEq .no z5_6 (.str [116, 114, 117, 101])) fun x13_7 =>
 jnF 2 (fun z12_8 z0_8 h8 =>
 ci z12_8 (
 some ((I 2), h8)) (
 j0 z0_8 h8)) fun j8 =>
 ci x13_7 (
 j8 x13_7 z0_6 h6) (
 oB (bEq .no z5_6 (.str [84, 114, 117, 101])) fun x14_9 =>
 jnF 2 (fun z12_10 z0_10 h10 =>
 j8 z12_10 z0_10 h10) fun j10 =>
 ci x14_9 (
 j10 x14_9 z0_6 h6) (
 oB (bEq .no z5_6 (.str [84, 82, 85, 69])) fun x15_11 =>
 jnF 2 (fun z12_12 z0_12 h12 =>
 j10 z12_12 z0_12 h12) fun j12 =>
 ci x15_11 (
 j12 x15_11 z0_6 h6) (
 oB (bEq .no z5_6 (.str [102, 97, 108, 115, 101])) fun x16_13 =>
 jnF 2 (fun z12_14 z0_14 h14 =>
 j12 z12_14 z0_14 h14) fun j14 =>
 ci x16_13 (
 j14 x16_13 z0_6 h6) (
 oB (bEq .no z5_6 (.str [70, 97, 108, 115, 101])) fun x17_15 =>
 jnF 2 (fun z12_16 z0_16 h16 =>
 j14 z12_16 z0_16 h16) fun j16 =>
 ci x17_15 (
 j16 x17_15 z0_6 h6) (
 oB (bEq .no z5_6 (.str [70, 65, 76, 83, 69])) fun x18_17 =>
 j16 x18_17 z0_6 h6))))))) fun j6 =>
 ci x7_5 (
 j6 x7_5 x0 x0 h) (
 oB (bEq .no x0 (.str [126])) fun x8_18 =>
 jnF 3 (fun z6_19 z5_19 z0_19 h19 =>
 j6 z6_19 z5_19 z0_19 h19) fun j19 =>
 ci x8_18 (
 j19 x8_18 x0 x0 h) (
 oB (bEq .no x0 (.str [110, 117, 108, 108])) fun x9_20 =>
 jnF 3 (fun z6_21 z5_21 z0_21 h21 =>
 j19 z6_21 z5_21 z0_21 h21) fun j21 =>
 ci x9_20 (
 j21 x9_20 x0 x0 h) (
 oB (bEq .no x0 (.str [78, 117, 108, 108])) fun x10_22 =>
 jnF 3 (fun z6_23 z5_23 z0_23 h23 =>
 j21 z6_23 z5_23 z0_23 h23) fun j23 =>
 ci x10_22 (
 j23 x10_22 x0 x0 h) (
 oB (bEq .no x0 (.str [78, 85, 76, 76])) fun x11_24 =>
 j23 x11_24 x0 x0 h))))
theorem o_resolve_Kind : FnOK Tryz.prog n_resolve_Kind (a1 f_resolve_Kind) := ok1 mixed Tryz.func301 (by kernel_rfl)
/- (*corrector/graph.composer).all$1 -/
noncomputable def f_graph_composer_all_1 (n : Nat) (call : Caller)  (x0 x1 x2 x3 : AV) (h : AH) : Ans :=
 oB (oLd h x1) fun x6_0 =>
 oB (oNil x6_0) fun x7_1 =>
 oB (oFA 2 x7_1) fun x8_2 =>
 oB (oFA 0 x8_2) fun x9_3 =>
 oB (oLd h x9_3) fun x10_4 =>
 oB (oIx 6 x10_4 x0) fun x12_5 =>
 oB (oLdN 6 h x12_5) fun x13_6 =>
 oP (oNew h 120 [(I 0), (I 0), (I 0), (I 0), .nils, (.bool false)]) fun x5_7 h7 =>
 oP (oSt 6 h7 x5_7 x13_6) fun _ h8 =>
 jnF 0 (fun h9 =>
 some (.tup [], h9)) fun j9 =>
 oB (oFA 0 x5_7) fun x21_10 =>
 oB (oLd h8 x21_10) fun x22_11 =>
 oB (bEq .no x22_11 (I 11)) fun x23_12 =>
 jnF 0 (fun h13 =>
 j9 h13) fun j13 =>
 ci x23_12 (
 j13 h8) (
 oB (oFA 0 x5_7) fun x25_14 =>
 oB (oLd h8 x25_14) fun x26_15 =>
 oB (bEq .no x26_15 (I 6)) fun x27_16 =>
 oB (gq x27_16 true (oFA 0 x2)) fun x29_17 =>
 oB (gq x27_16 true (oLd h8 x29_17)) fun x30_18 =>
 oB (gq x27_16 true (bEq .no x30_18 (I 9))) fun x31_19 =>
 oB (oPick x27_16 x31_19 (.bool false)) fun x32_20 =>
 jnF 0 (fun h21 =>
 j13 h21) fun j21 =>
 ci x32_20 (
 oB' (nx 14 h8) fun h22 =>
 oB (oLd h22 x1) fun x33_23 =>
 oB (oNil x33_23) fun x34_24 =>
 oB (oFA 3 x34_24) fun x35_25 =>
 oB (oFA 2 x35_25) fun x36_26 =>
 oB (oLd h22 x36_26) fun x37_27 =>
 oB (oLd h22 x1) fun x39_28 =>
 oB (oLd h22 x1) fun x40_29 =>
 oB (oLdN 6 h22 x5_7) fun x41_30 =>
 oP (call n_graph_composer_pair [x40_29, x41_30] h22) fun x42_31 h31 =>
 oB (oBuild [(I 0), (.str []), (.str []), .nils] [(0, 1, (I 7)), (3, 1, x42_31)]) fun x43_32 =>
 oP (call n_graph_composer_value [x39_28, x43_32] h31) fun x44_33 h33 =>
 oB (oIx 1 x37_27 x0) fun x45_34 =>
 oP (oSt 1 h33 x45_34 x44_33) fun x0_35 h35 =>
 ask1 true (oLd h22 x1) x33_23 (
 ask1 true (oLd h31 x1) x33_23 (
 ask1 true (oLd h33 x1) x33_23 (
 ask1 true (oLd h22 x36_26) x37_27 (
 ask1 true (oLd h31 x36_26) x37_27 (
 ask1 true (oLd h33 x36_26) x37_27 (
 ask1 true (oLd h22 x1) x39_28 (
 ask1 true (oLd h31 x1) x39_28 (
 ask1 true (oLd h22 x1) x40_29 (
 ask1 true (oLdN 6 h22 x5_7) x41_30 (
 oB' (nx 12 h35) fun h36 =>
 oB (oLd h36 x3) fun x46_37 =>
 oB (oLd h36 x1) fun x47_38 =>
 oB (oNil x47_38) fun x48_39 =>
 oB (oFA 3 x48_39) fun x49_40 =>
 oB (oFA 2 x49_40) fun x50_41 =>
 oB (oLd h36 x50_41) fun x51_42 =>
 oB (oIx 1 x51_42 x0) fun x53_43 =>
 oB (oLd h36 x53_43) fun x54_44 =>
 fl1 true (evF (.buildSlice 3 1 1 [(I 0)] [(0, 1, (.c x54_44))]) .e) (Nat.add h35.next 9) fun x55_45 o45 =>
 oB' (lay1 (Nat.add h35.next 9) o45 h36) fun v46 =>
 oP (evW (.append 3 1 8 [(I 0)] (.c x46_37) (.c x55_45)) .e v46) fun x56_47 h47 =>
 oP (oSt 1 h47 x3 x56_47) fun x0_48 h48 =>
 ask1 true (oLd h36 x3) x46_37 (
 ask1 true (oLd h36 x1) x47_38 (
 ask1 true (oLd h36 x50_41) x51_42 (
 ask1 true (oLd h36 x53_43) x54_44 (
 j21 h48))))))))))))))) (
 oB (oFA 0 x5_7) fun x58_49 =>
 oB (oLd h8 x58_49) fun x59_50 =>
 oB (bEq .no x59_50 (I 6)) fun x60_51 =>
 jnF 0 (fun h52 =>
 j21 h52) fun j52 =>
 ci x60_51 (
 oB' (nx 6 h8) fun h53 =>
 oB (oLd h53 x3) fun x61_54 =>
 oB (oLd h53 x1) fun x62_55 =>
 oB (oLdN 6 h53 x5_7) fun x63_56 =>
 oP (call n_graph_composer_pair [x62_55, x63_56] h53) fun x64_57 h57 =>
 oP (evW (.append 3 1 8 [(I 0)] (.c x61_54) (.c x64_57)) .e h57) fun x65_58 h58 =>
 oP (oSt 1 h58 x3 x65_58) fun x0_59 h59 =>
 ask1 true (oLd h53 x3) x61_54 (
 ask1 true (oLd h57 x3) x61_54 (
 ask1 true (oLd h53 x1) x62_55 (
 ask1 true (oLdN 6 h53 x5_7) x63_56 (
 j52 h59))))) (
 oB' (nx 7 h8) fun h60 =>
 oB (oLd h60 x3) fun x14_61 =>
 oB (oLd h60 x1) fun x15_62 =>
 oP (call n_graph_composer_node [x15_62, x0] h60) fun x17_63 h63 =>
 fl1 true (evF (.buildSlice 3 1 1 [(I 0)] [(0, 1, (.c x17_63))]) .e) (Nat.add h8.next 4) fun x18_64 o64 =>
 oB' (lay1 (Nat.add h8.next 4) o64 h63) fun v65 =>
 oP (evW (.append 3 1 8 [(I 0)] (.c x14_61) (.c x18_64)) .e v65) fun x19_66 h66 =>
 oP (oSt 1 h66 x3 x19_66) fun x0_67 h67 =>
 ask1 true (oLd h60 x3) x14_61 (
 ask1 true (oLd h63 x3) x14_61 (
 ask1 true (oLd h60 x1) x15_62 (
 j52 h67))))))
theorem o_graph_composer_all_1 : FnOK Tryz.prog n_graph_composer_all_1 (a4 f_graph_composer_all_1) := ok4 mixed Tryz.func302 (by kernel_rfl)
/- (*corrector/graph.composer).pair -/
noncomputable def f_graph_composer_pair (n : Nat) (call : Caller)  (x0 x1 : AV) (h : AH) : Ans :=
 oP (oNew h 120 (AV.cells x1)) fun x3_0 h0 =>
 oB (oFA 4 x3_0) fun x10_1 =>
 oB (oLd h0 x10_1) fun x11_2 =>
 oB (oFA 5 x3_0) fun x12_3 =>
 oB (oLd h0 x12_3) fun x13_4 =>
 oB (gq x13_4 true (some x11_2)) fun x15_5 =>
 oB (gq x13_4 true (oLen x15_5)) fun x16_6 =>
 oB (gq x13_4 true (bGt x16_6 (I 0))) fun x17_7 =>
 oB (oPick x13_4 x17_7 (.bool false)) fun x18_8 =>
 jnF 4 (fun z7_9 z6_9 z5_9 z0_9 h9 =>
 oB (bLt z6_9 (I 0)) fun x39_10 =>
 jnF 4 (fun z7_11 z6_11 z5_11 z0_11 h11 =>
 oB (oLen z5_11) fun x43_12 =>
 jnF 3 (fun z7_13 z6_13 z0_13 h13 =>
 oB (bLt z7_13 (I 0)) fun x67_14 =>
 jnF 2 (fun z7_15 z6_15 h15 =>
 oP (oBuildSl h15 3 1 2 [(I 0), (I 0)] [(0, 1, z6_15), (1, 1, z7_15)]) fun x72_16 h16 =>
 some (x72_16, h16)) fun j15 =>
 ci x67_14 (
 oP (call n_graph_composer_null [z0_13] h13) fun x69_17 h17 =>
 j15 x69_17 z6_13 h17) (
 j15 z7_13 z6_13 h13)) fun j13 =>
 lpF 6 n (fun f18 y44_18 y43_18 y42_18 y7_18 y6_18 y0_18 h18 =>
 oB (bLt y44_18 y43_18) fun x45_19 =>
 ci x45_19 (
 jnF 6 (fun z44_20 z43_20 z42_20 z7_20 z6_20 z0_20 h20 =>
 oB (bAdd z44_20 (I 1)) fun x65_21 =>
 f18 x65_21 z43_20 z42_20 z7_20 z6_20 z0_20 h20) fun j20 =>
 oB (oIx 1 y42_18 y44_18) fun x46_22 =>
 oB (oLd h18 x46_22) fun x47_23 =>
 oB (oNil y0_18) fun x49_24 =>
 oB (oFA 2 x49_24) fun x50_25 =>
 oB (oFA 0 x50_25) fun x51_26 =>
 oB (oLd h18 x51_26) fun x52_27 =>
 oB (oIx 6 x52_27 x47_23) fun x54_28 =>
 oB (oFA 0 x54_28) fun x55_29 =>
 oB (oLd h18 x55_29) fun x56_30 =>
 oB (bNe .no x56_30 (I 11)) fun x57_31 =>
 oB (gq x57_31 true (some y7_18)) fun x59_32 =>
 oB (gq x57_31 true (bLt x59_32 (I 0))) fun x60_33 =>
 oB (oPick x57_31 x60_33 (.bool false)) fun x61_34 =>
 jnF 6 (fun z44_35 z43_35 z42_35 z7_35 z6_35 z0_35 h35 =>
 j20 z44_35 z43_35 z42_35 z7_35 z6_35 z0_35 h35) fun j35 =>
 ci x61_34 (
 oP (call n_graph_composer_node [y0_18, x47_23] h18) fun x64_36 h36 =>
 j35 y44_18 y43_18 y42_18 x64_36 y6_18 y0_18 h36) (
 j35 y44_18 y43_18 y42_18 y7_18 y6_18 y0_18 h18)) (
 j13 y7_18 y6_18 y0_18 h18)) (I 0) x43_12 z5_11 z7_11 z6_11 z0_11 h11) fun j11 =>
 ci x39_10 (
 oP (call n_graph_composer_null [z0_9] h9) fun x41_37 h37 =>
 j11 z7_9 x41_37 z5_9 z0_9 h37) (
 j11 z7_9 z6_9 z5_9 z0_9 h9)) fun j9 =>
 ci x18_8 (
 oB' (nx 12 h0) fun h38 =>
 oB (oNil x0) fun x20_39 =>
 oB (oFA 2 x20_39) fun x21_40 =>
 oB (oFA 0 x21_40) fun x22_41 =>
 oB (oLd h38 x22_41) fun x23_42 =>
 oB (oIx 1 x11_2 (I 0)) fun x25_43 =>
 oB (oLd h38 x25_43) fun x26_44 =>
 oB (oIx 6 x23_42 x26_44) fun x27_45 =>
 oB (oFA 0 x27_45) fun x28_46 =>
 oB (oLd h38 x28_46) fun x29_47 =>
 oB (bNe .no x29_47 (I 11)) fun x30_48 =>
 jnF 4 (fun z7_49 z6_49 z5_49 z0_49 h49 =>
 oB (evQ (.sl 1 (.c z5_49) (some (.c (I 1))) none none) .e h49) fun x37_50 =>
 j9 z7_49 z6_49 x37_50 z0_49 h49) fun j49 =>
 ci x30_48 (
 oB (oIx 1 x11_2 (I 0)) fun x33_51 =>
 oB (oLd h38 x33_51) fun x34_52 =>
 oP (call n_graph_composer_node [x0, x34_52] h38) fun x35_53 h53 =>
 j49 (Ineg 0) x35_53 x11_2 x0 h53) (
 j49 (Ineg 0) (Ineg 0) x11_2 x0 h38)) (
 j9 (Ineg 0) (Ineg 0) x11_2 x0 h0)
theorem o_graph_composer_pair : FnOK Tryz.prog n_graph_composer_pair (a2 f_graph_composer_pair) := ok2 mixed Tryz.func303 (by kernel_rfl)
/- slices.siftDownCmpFunc[corrector/api.Diag] -/
noncomputable def f_slices_siftDownCmpFunc_api_Diag (n : Nat) (call : Caller)  (x0 x1 x2 x3 x4 : AV) (h : AH) : Ans :=
 jnF 0 (fun h0 =>
 some (.tup [], h0)) fun j0 =>
 lpF 5 n (fun f1 y10_1 y4_1 y3_1 y2_1 y0_1 h1 =>
 jnF 5 (fun z10_2 z4_2 z3_2 z2_2 z0_2 h2 =>
 f1 z10_2 z4_2 z3_2 z2_2 z0_2 h2) fun j2 =>
 oB (binAV .mul .no (I 2) y10_1) fun x14_3 =>
 oB (bAdd x14_3 (I 1)) fun x15_4 =>
 oB (bGe x15_4 y2_1) fun x18_5 =>
 ci x18_5 (
 j0 h1) (
 oB' (nx 22 h1) fun h6 =>
 oB (bAdd x15_4 (I 1)) fun x20_7 =>
 oB (bLt x20_7 y2_1) fun x22_8 =>
 oB (gq x22_8 true (some y4_1)) fun x24_9 =>
 oB (gq x22_8 true (some y0_1)) fun x25_10 =>
 oB (gq x22_8 true (some y3_1)) fun x26_11 =>
 oB (gq x22_8 true (some x15_4)) fun x27_12 =>
 oB (gq x22_8 true (bAdd x26_11 x27_12)) fun x28_13 =>
 oB (gq x22_8 true (oIx 3 x25_10 x28_13)) fun x29_14 =>
 oB (gq x22_8 true (oLdN 3 h6 x29_14)) fun x30_15 =>
 oB (gq x22_8 true (some y0_1)) fun x31_16 =>
 oB (gq x22_8 true (some y3_1)) fun x32_17 =>
 oB (gq x22_8 true (some x15_4)) fun x33_18 =>
 oB (gq x22_8 true (bAdd x32_17 x33_18)) fun x34_19 =>
 oB (gq x22_8 true (bAdd x34_19 (I 1))) fun x35_20 =>
 oB (gq x22_8 true (oIx 3 x31_16 x35_20)) fun x36_21 =>
 oB (gq x22_8 true (oLdN 3 h6 x36_21)) fun x37_22 =>
 oP (gw x22_8 true (wOf (.callV (.c x24_9) [(.c x30_15), (.c x37_22)]) call .e h6) h6) fun x38_23 h23 =>
 oB (gq x22_8 true (bLt x38_23 (I 0))) fun x39_24 =>
 oB (oPick x22_8 x39_24 (.bool false)) fun x40_25 =>
 jnF 6 (fun z11_26 z10_26 z4_26 z3_26 z2_26 z0_26 h26 =>
 oB' (nx 16 h26) fun h27 =>
 oB (bAdd z3_26 z10_26) fun x47_28 =>
 oB (oIx 3 z0_26 x47_28) fun x48_29 =>
 oB (oLdN 3 h27 x48_29) fun x49_30 =>
 oB (bAdd z3_26 z11_26) fun x53_31 =>
 oB (oIx 3 z0_26 x53_31) fun x54_32 =>
 oB (oLdN 3 h27 x54_32) fun x55_33 =>
 oP (wOf (.callV (.c z4_26) [(.c x49_30), (.c x55_33)]) call .e h27) fun x56_34 h34 =>
 oB (bLt x56_34 (I 0)) fun x57_35 =>
 oB (evQ (.un .not (.c x57_35)) .e h34) fun x58_36 =>
 ci x58_36 (
 some (.tup [], h34)) (
 oB' (nx 24 h34) fun h37 =>
 oB (bAdd z3_26 z10_26) fun x62_38 =>
 oB (bAdd z3_26 z11_26) fun x66_39 =>
 oB (bAdd z3_26 z11_26) fun x70_40 =>
 oB (oIx 3 z0_26 x70_40) fun x71_41 =>
 oB (oLdN 3 h37 x71_41) fun x72_42 =>
 oB (bAdd z3_26 z10_26) fun x76_43 =>
 oB (oIx 3 z0_26 x76_43) fun x77_44 =>
 oB (oLdN 3 h37 x77_44) fun x78_45 =>
 oB (oIx 3 z0_26 x62_38) fun x79_46 =>
 oP (oSt 3 h37 x79_46 x72_42) fun _ h47 =>
 oB (oIx 3 z0_26 x66_39) fun x80_48 =>
 oP (oSt 3 h47 x80_48 x78_45) fun _ h49 =>
 j2 z11_26 z4_26 z3_26 z2_26 z0_26 h49)) fun j26 =>
 ci x40_25 (
 oB (bAdd x15_4 (I 1)) fun x42_50 =>
 j26 x42_50 y10_1 y4_1 y3_1 y2_1 y0_1 h23) (
 j26 x15_4 y10_1 y4_1 y3_1 y2_1 y0_1 h23))) x1 x4 x3 x2 x0 h
theorem o_slices_siftDownCmpFunc_api_Diag : FnOK Tryz.prog n_slices_siftDownCmpFunc_api_Diag (a5 f_slices_siftDownCmpFunc_api_Diag) := ok5 mixed Tryz.func304 (by kernel_rfl)
/- slices.nextPowerOfTwo -/
noncomputable def f_slices_nextPowerOfTwo (n : Nat) (call : Caller)  (x0 : AV) (h : AH) : Ans :=
 oB (oInt .u64 x0) fun x4_0 =>
 oP (call n_math_bits_Len [x4_0] h) fun x5_1 h1 =>
 oB (binAV .shl .no (.int .u64 1) x5_1) fun x6_2 =>
 some (x6_2, h1)
theorem o_slices_nextPowerOfTwo : FnOK Tryz.prog n_slices_nextPowerOfTwo (a1 f_slices_nextPowerOfTwo) := ok1 mixed Tryz.func305 (by kernel_rfl)
/- (*slices.xorshift).Next -/
noncomputable def f_slices_xorshift_Next (n : Nat) (call : Caller)  (x0 : AV) (h : AH) : Ans :=
 oB' (nx 10 h) fun h0 =>
 oB (oNil x0) fun x4_1 =>
 oB (oLd h0 x4_1) fun x5_2 =>
 oB (oNil x0) fun x7_3 =>
 oB (oLd h0 x7_3) fun x8_4 =>
 oB (binAV .shl .no x8_4 (.int .u64 13)) fun x9_5 =>
 oB (binAV .xor .no x5_2 x9_5) fun x10_6 =>
 oB (oNil x0) fun x11_7 =>
 oP (oSt 1 h0 x11_7 x10_6) fun _ h8 =>
 oB' (nx 10 h8) fun h9 =>
 oB (oNil x0) fun x13_10 =>
 oB (oLd h9 x13_10) fun x14_11 =>
 oB (oNil x0) fun x16_12 =>
 oB (oLd h9 x16_12) fun x17_13 =>
 oB (binAV .shr .no x17_13 (.int .u64 7)) fun x18_14 =>
 oB (binAV .xor .no x14_11 x18_14) fun x19_15 =>
 oB (oNil x0) fun x20_16 =>
 oP (oSt 1 h9 x20_16 x19_15) fun _ h17 =>
 oB' (nx 10 h17) fun h18 =>
 oB (oNil x0) fun x22_19 =>
 oB (oLd h18 x22_19) fun x23_20 =>
 oB (oNil x0) fun x25_21 =>
 oB (oLd h18 x25_21) fun x26_22 =>
 oB (binAV .shl .no x26_22 (.int .u64 17)) fun x27_23 =>
 oB (binAV .xor .no x23_20 x27_23) fun x28_24 =>
 oB (oNil x0) fun x29_25 =>
 oP (oSt 1 h18 x29_25 x28_24) fun _ h26 =>
 oB (oNil x0) fun x31_27 =>
 oB (oLd h26 x31_27) fun x32_28 =>
 some (x32_28, h26)
theorem o_slices_xorshift_Next : FnOK Tryz.prog n_slices_xorshift_Next (a1 f_slices_xorshift_Next) := ok1 mixed Tryz.func306 (by kernel_rfl)
/- slices.medianAdjacentCmpFunc[corrector/api.Diag] -/
noncomputable def f_slices_medianAdjacentCmpFunc_api_Diag (n : Nat) (call : Caller)  (x0 x1 x2 x3 : AV) (h : AH) : Ans :=
 oB (bSub x1 (I 1)) fun x11_0 =>
 oB (bAdd x1 (I 1)) fun x14_1 =>
 oP (call n_slices_medianCmpFunc_api_Diag [x0, x11_0, x1, x14_1, x2, x3] h) fun x17_2 h2 =>
 some (x17_2, h2)
theorem o_slices_medianAdjacentCmpFunc_api_Diag : FnOK Tryz.prog n_slices_medianAdjacentCmpFunc_api_Diag (a4 f_slices_medianAdjacentCmpFunc_api_Diag) := ok4 mixed Tryz.func307 (by kernel_rfl)
/- slices.medianCmpFunc[corrector/api.Diag] -/
noncomputable def f_slices_medianCmpFunc_api_Diag (n : Nat) (call : Caller)  (x0 x1 x2 x3 x4 x5 : AV) (h : AH) : Ans :=
 oP (call n_slices_order2CmpFunc_api_Diag [x0, x1, x2, x4, x5] h) fun x19_0 h0 =>
 oB (oEx 0 x19_0) fun x20_1 =>
 oB (oEx 1 x19_0) fun x21_2 =>
 oP (call n_slices_order2CmpFunc_api_Diag [x0, x21_2, x3, x4, x5] h0) fun x28_3 h3 =>
 oB (oEx 0 x28_3) fun x29_4 =>
 oB (oEx 1 x28_3) fun x30_5 =>
 oP (call n_slices_order2CmpFunc_api_Diag [x0, x20_1, x29_4, x4, x5] h3) fun x37_6 h6 =>
 oB (oEx 0 x37_6) fun x38_7 =>
 oB (oEx 1 x37_6) fun x39_8 =>
 some (x39_8, h6)
theorem o_slices_medianCmpFunc_api_Diag : FnOK Tryz.prog n_slices_medianCmpFunc_api_Diag (a6 f_slices_medianCmpFunc_api_Diag) := ok6 mixed Tryz.func308 (by kernel_rfl)
/- (*strings.Builder).WriteByte -/
noncomputable def f_strings_Builder_WriteByte (n : Nat) (call : Caller)  (x0 x1 : AV) (h : AH) : Ans :=
 oP (call n_strings_Builder_copyCheck [x0] h) fun x6_0 h0 =>
 oB (oNil x0) fun x9_1 =>
 oB (oFA 1 x9_1) fun x10_2 =>
 oB (oLd h0 x10_2) fun x11_3 =>
 oP (oBuildSl h0 5 1 1 [(U 0)] [(0, 1, x1)]) fun x13_4 h4 =>
 oP (evW (.append 5 1 1 [(U 0)] (.c x11_3) (.c x13_4)) .e h4) fun x14_5 h5 =>
 oB (oNil x0) fun x15_6 =>
 oB (oFA 1 x15_6) fun x16_7 =>
 oP (oSt 1 h5 x16_7 x14_5) fun _ h8 =>
 some (.nili, h8)
theorem o_strings_Builder_WriteByte : FnOK Tryz.prog n_strings_Builder_WriteByte (a2 f_strings_Builder_WriteByte) := ok2 mixed Tryz.func309 (by kernel_rfl)
/- corrector/quote.sign -/
noncomputable def f_quote_sign (n : Nat) (call : Caller)  (x0 : AV) (h : AH) : Ans :=
 jnF 1 (fun z0_0 h0 =>
 oB (bLt z0_0 (U 32)) fun x20_1 =>
 ci x20_1 (
 oB (binAV .quo .no z0_0 (U 16)) fun x22_2 =>
 oB (oInt .i64 x22_2) fun x23_3 =>
 oP (call n_quote_digit [x23_3] h0) fun x24_4 h4 =>
 oB (evQ (.toStr (.c x24_4)) .e h4) fun x25_5 =>
 oB (bAdd (.str [92, 120]) x25_5) fun x26_6 =>
 oB (binAV .rem .no z0_0 (U 16)) fun x28_7 =>
 oB (oInt .i64 x28_7) fun x29_8 =>
 oP (call n_quote_digit [x29_8] h4) fun x30_9 h9 =>
 oB (evQ (.toStr (.c x30_9)) .e h9) fun x31_10 =>
 oB (bAdd x26_6 x31_10) fun x32_11 =>
 some (x32_11, h9)) (
 oP (oBuildSl h0 5 1 1 [(U 0)] [(0, 1, z0_0)]) fun x34_12 h12 =>
 oB (evQ (.b2s (.c x34_12)) .e h12) fun x35_13 =>
 some (x35_13, h12))) fun j0 =>
 oB (bEq .no x0 (U 34)) fun x5_14 =>
 jnF 3 (fun z4_15 z3_15 z0_15 h15 =>
 ci z4_15 (
 oB (oInt .i32 z0_15) fun x8_16 =>
 oB (evQ (.toStr (.c x8_16)) .e h15) fun x9_17 =>
 oB (bAdd (.str [92]) x9_17) fun x10_18 =>
 some (x10_18, h15)) (
 oB (bEq .no z3_15 (U 0)) fun x12_19 =>
 ci x12_19 (
 some ((.str [92, 48]), h15)) (
 oB (bEq .no z3_15 (U 9)) fun x14_20 =>
 ci x14_20 (
 some ((.str [92, 116]), h15)) (
 oB (bEq .no z3_15 (U 10)) fun x16_21 =>
 ci x16_21 (
 some ((.str [92, 110]), h15)) (
 oB (bEq .no z3_15 (U 13)) fun x18_22 =>
 ci x18_22 (
 some ((.str [92, 114]), h15)) (
 j0 z0_15 h15)))))) fun j15 =>
 ci x5_14 (
 j15 x5_14 x0 x0 h) (
 oB (bEq .no x0 (U 92)) fun x6_23 =>
 j15 x6_23 x0 x0 h)
theorem o_quote_sign : FnOK Tryz.prog n_quote_sign (a1 f_quote_sign) := ok1 mixed Tryz.func310 (by kernel_rfl)
/- corrector/equal.key -/
noncomputable def f_equal_key (n : Nat) (call : Caller)  (x0 x1 : AV) (h : AH) : Ans :=
 oP (oNew h 167 (AV.cells x0)) fun x2_0 h0 =>
 oB' (nx 14 h0) fun h1 =>
 oB (oFA 0 x2_0) fun x9_2 =>
 oB (oLd h1 x9_2) fun x10_3 =>
 oP (call n_strconv_Itoa [x10_3] h1) fun x11_4 h4 =>
 oB (bAdd x11_4 (.str [32])) fun x12_5 =>
 oB (oFA 1 x2_0) fun x13_6 =>
 oB (oLd h4 x13_6) fun x14_7 =>
 oP (call n_strconv_Quote [x14_7] h4) fun x15_8 h8 =>
 oB (bAdd x12_5 x15_8) fun x16_9 =>
 oB (bAdd x16_9 (.str [32])) fun x17_10 =>
 oB (oFA 2 x2_0) fun x18_11 =>
 oB (oLd h8 x18_11) fun x19_12 =>
 oP (call n_strconv_Quote [x19_12] h8) fun x20_13 h13 =>
 oB (bAdd x17_10 x20_13) fun x21_14 =>
 ask1 true (oLd h1 x9_2) x10_3 (
 ask1 true (oLd h1 x13_6) x14_7 (
 ask1 true (oLd h4 x13_6) x14_7 (
 ask1 true (oLd h1 x18_11) x19_12 (
 ask1 true (oLd h4 x18_11) x19_12 (
 ask1 true (oLd h8 x18_11) x19_12 (
 oB (oFA 3 x2_0) fun x22_15 =>
 oB (oLd h13 x22_15) fun x23_16 =>
 oB (oLen x23_16) fun x24_17 =>
 jnF 1 (fun z5_18 h18 =>
 some (z5_18, h18)) fun j18 =>
 lpF 5 n (fun f19 y25_19 y24_19 y23_19 y5_19 y1_19 h19 =>
 oB (bLt y25_19 y24_19) fun x26_20 =>
 ci x26_20 (
 jnF 5 (fun z25_21 z24_21 z23_21 z5_21 z1_21 h21 =>
 oB (bAdd z25_21 (I 1)) fun x46_22 =>
 f19 x46_22 z24_21 z23_21 z5_21 z1_21 h21) fun j21 =>
 oB (oIx 1 y23_19 y25_19) fun x27_23 =>
 oB (oLd h19 x27_23) fun x28_24 =>
 oB (bGe x28_24 (I 0)) fun x30_25 =>
 oB (gq x30_25 true (some x28_24)) fun x32_26 =>
 oB (gq x30_25 true (some y1_19)) fun x33_27 =>
 oB (gq x30_25 true (oLen x33_27)) fun x34_28 =>
 oB (gq x30_25 true (bLt x32_26 x34_28)) fun x35_29 =>
 oB (oPick x30_25 x35_29 (.bool false)) fun x36_30 =>
 jnF 6 (fun z25_31 z24_31 z23_31 z8_31 z5_31 z1_31 h31 =>
 oP (call n_strconv_Itoa [z8_31] h31) fun x43_32 h32 =>
 oB (bAdd (.str [32]) x43_32) fun x44_33 =>
 oB (bAdd z5_31 x44_33) fun x45_34 =>
 j21 z25_31 z24_31 z23_31 x45_34 z1_31 h32) fun j31 =>
 ci x36_30 (
 oB (oIx 1 y1_19 x28_24) fun x39_35 =>
 oB (oLd h19 x39_35) fun x40_36 =>
 j31 y25_19 y24_19 y23_19 x40_36 y5_19 y1_19 h19) (
 j31 y25_19 y24_19 y23_19 (Ineg 0) y5_19 y1_19 h19)) (
 j18 y5_19 h19)) (I 0) x24_17 x23_16 x21_14 x1 h13))))))
theorem o_equal_key : FnOK Tryz.prog n_equal_key (a2 f_equal_key) := ok2 mixed Tryz.func311 (by kernel_rfl)
/- slices.pdqsortOrdered[int] -/
noncomputable def f_slices_pdqsortOrdered_int (n : Nat) (call : Caller)  (x0 x1 x2 x3 : AV) (h : AH) : Ans :=
 jnF 0 (fun h0 =>
 some (.tup [], h0)) fun j0 =>
 lpF 6 n (fun f1 y9_1 y8_1 y3_1 y2_1 y1_1 y0_1 h1 =>
 jnF 6 (fun z9_2 z8_2 z3_2 z2_2 z1_2 z0_2 h2 =>
 f1 z9_2 z8_2 z3_2 z2_2 z1_2 z0_2 h2) fun j2 =>
 oB (bSub y2_1 y1_1) fun x21_3 =>
 oB (bLe x21_3 (I 12)) fun x23_4 =>
 ci x23_4 (
 oP (call n_slices_insertionSortOrdered_int [y0_1, y1_1, y2_1] h1) fun x27_5 h5 =>
 some (.tup [], h5)) (
 oB (bEq .no y3_1 (I 0)) fun x29_6 =>
 ci x29_6 (
 oP (call n_slices_heapSortOrdered_int [y0_1, y1_1, y2_1] h1) fun x33_7 h7 =>
 some (.tup [], h7)) (
 oB (evQ (.un .not (.c y8_1)) .e h1) fun x35_8 =>
 jnF 7 (fun z10_9 z9_9 z8_9 z3_9 z2_9 z1_9 z0_9 h9 =>
 oP (call n_slices_choosePivotOrdered_int [z0_9, z1_9, z2_9] h9) fun x46_10 h10 =>
 oB (oEx 0 x46_10) fun x47_11 =>
 oB (oEx 1 x46_10) fun x48_12 =>
 oB (bEq .no x48_12 (I 2)) fun x50_13 =>
 jnF 9 (fun z12_14 z11_14 z10_14 z9_14 z8_14 z3_14 z2_14 z1_14 z0_14 h14 =>
 oB (gq z8_14 true (some z9_14)) fun x63_15 =>
 oB (oPick z8_14 x63_15 (.bool false)) fun x64_16 =>
 oB (gq x64_16 true (some z12_14)) fun x66_17 =>
 oB (gq x64_16 true (bEq .no x66_17 (I 1))) fun x67_18 =>
 oB (oPick x64_16 x67_18 (.bool false)) fun x68_19 =>
 jnF 8 (fun z11_20 z10_20 z9_20 z8_20 z3_20 z2_20 z1_20 z0_20 h20 =>
 oB' (nx 15 h20) fun h21 =>
 oB (bGt z1_20 (I 0)) fun x74_22 =>
 oB (gq x74_22 true (some z0_20)) fun x76_23 =>
 oB (gq x74_22 true (some z1_20)) fun x77_24 =>
 oB (gq x74_22 true (bSub x77_24 (I 1))) fun x78_25 =>
 oB (gq x74_22 true (oIx 1 x76_23 x78_25)) fun x79_26 =>
 oB (gq x74_22 true (oLd h21 x79_26)) fun x80_27 =>
 oB (gq x74_22 true (some z0_20)) fun x81_28 =>
 oB (gq x74_22 true (some z11_20)) fun x82_29 =>
 oB (gq x74_22 true (oIx 1 x81_28 x82_29)) fun x83_30 =>
 oB (gq x74_22 true (oLd h21 x83_30)) fun x84_31 =>
 oP (gw x74_22 true (call n_cmp_Less_int [x80_27, x84_31] h21) h21) fun x85_32 h32 =>
 oB (gq x74_22 true (evQ (.un .not (.c x85_32)) .e h32)) fun x86_33 =>
 oB (oPick x74_22 x86_33 (.bool false)) fun x87_34 =>
 ci x87_34 (
 oP (call n_slices_partitionEqualOrdered_int [z0_20, z1_20, z2_20, z11_20] h32) fun x92_35 h35 =>
 j2 z9_20 z8_20 z3_20 z2_20 x92_35 z0_20 h35) (
 oP (call n_slices_partitionOrdered_int [z0_20, z1_20, z2_20, z11_20] h32) fun x99_36 h36 =>
 oB (oEx 0 x99_36) fun x100_37 =>
 oB (oEx 1 x99_36) fun x101_38 =>
 oB (bSub x100_37 z1_20) fun x105_39 =>
 oB (bSub z2_20 x100_37) fun x108_40 =>
 oB (binAV .quo .no z10_20 (I 8)) fun x110_41 =>
 oB (bLt x105_39 x108_40) fun x113_42 =>
 jnF 6 (fun z9_43 z8_43 z3_43 z2_43 z1_43 z0_43 h43 =>
 j2 z9_43 z8_43 z3_43 z2_43 z1_43 z0_43 h43) fun j43 =>
 ci x113_42 (
 oB (bGe x105_39 x110_41) fun x116_44 =>
 oP (call n_slices_pdqsortOrdered_int [z0_20, z1_20, x100_37, z3_20] h36) fun x121_45 h45 =>
 oB (bAdd x100_37 (I 1)) fun x123_46 =>
 j43 x101_38 x116_44 z3_20 z2_20 x123_46 z0_20 h45) (
 oB (bGe x108_40 x110_41) fun x126_47 =>
 oB (bAdd x100_37 (I 1)) fun x129_48 =>
 oP (call n_slices_pdqsortOrdered_int [z0_20, x129_48, z2_20, z3_20] h36) fun x132_49 h49 =>
 j43 x101_38 x126_47 z3_20 x100_37 z1_20 z0_20 h49))) fun j20 =>
 ci x68_19 (
 oP (call n_slices_partialInsertionSortOrdered_int [z0_14, z1_14, z2_14] h14) fun x72_50 h50 =>
 ci x72_50 (
 some (.tup [], h50)) (
 j20 z11_14 z10_14 z9_14 z8_14 z3_14 z2_14 z1_14 z0_14 h50)) (
 j20 z11_14 z10_14 z9_14 z8_14 z3_14 z2_14 z1_14 z0_14 h14)) fun j14 =>
 ci x50_13 (
 oP (call n_slices_reverseRangeOrdered_int [z0_9, z1_9, z2_9] h10) fun x54_51 h51 =>
 oB (bSub z2_9 (I 1)) fun x56_52 =>
 oB (bSub x47_11 z1_9) fun x59_53 =>
 oB (bSub x56_52 x59_53) fun x60_54 =>
 j14 (I 1) x60_54 z10_9 z9_9 z8_9 z3_9 z2_9 z1_9 z0_9 h51) (
 j14 x48_12 x47_11 z10_9 z9_9 z8_9 z3_9 z2_9 z1_9 z0_9 h10)) fun j9 =>
 ci x35_8 (
 oP (call n_slices_breakPatternsOrdered_int [y0_1, y1_1, y2_1] h1) fun x39_55 h55 =>
 oB (bSub y3_1 (I 1)) fun x41_56 =>
 j9 x21_3 y9_1 y8_1 x41_56 y2_1 y1_1 y0_1 h55) (
 j9 x21_3 y9_1 y8_1 y3_1 y2_1 y1_1 y0_1 h1)))) (.bool true) (.bool true) x3 x2 x1 x0 h
theorem o_slices_pdqsortOrdered_int : FnOK Tryz.prog n_slices_pdqsortOrdered_int (a4 f_slices_pdqsortOrdered_int) := ok4 mixed Tryz.func312 (by kernel_rfl)
/- slices.IndexFunc[[]corrector/api.Edit,corrector/api.Edit] -/
noncomputable def f_slices_IndexFunc_api_Edit_api_Edit (n : Nat) (call : Caller)  (x0 x1 : AV) (h : AH) : Ans :=
 oB (oLen x0) fun x7_0 =>
 jnF 0 (fun h1 =>
 some ((Ineg 0), h1)) fun j1 =>
 lpF 4 n (fun f2 y8_2 y7_2 y1_2 y0_2 h2 =>
 oB (bLt y8_2 y7_2) fun x9_3 =>
 ci x9_3 (
 jnF 4 (fun z8_4 z7_4 z1_4 z0_4 h4 =>
 oB (bAdd z8_4 (I 1)) fun x18_5 =>
 f2 x18_5 z7_4 z1_4 z0_4 h4) fun j4 =>
 oB (oIx 3 y0_2 y8_2) fun x14_6 =>
 oB (oLdN 3 h2 x14_6) fun x15_7 =>
 oP (wOf (.callV (.c y1_2) [(.c x15_7)]) call .e h2) fun x16_8 h8 =>
 ci x16_8 (
 some (y8_2, h8)) (
 j4 y8_2 y7_2 y1_2 y0_2 h8)) (
 j1 h2)) (I 0) x7_0 x1 x0 h
theorem o_slices_IndexFunc_api_Edit_api_Edit : FnOK Tryz.prog n_slices_IndexFunc_api_Edit_api_Edit (a2 f_slices_IndexFunc_api_Edit_api_Edit) := ok2 mixed Tryz.func313 (by kernel_rfl)
/- corrector/span.Meet -/
noncomputable def f_span_Meet (n : Nat) (call : Caller)  (x0 x1 : AV) (h : AH) : Ans :=
 oP (oNew h 146 (AV.cells x0)) fun x2_0 h0 =>
 oP (oNew h0 146 (AV.cells x1)) fun x3_1 h1 =>
 oB (oFA 0 x2_0) fun x5_2 =>
 oB (oLd h1 x5_2) fun x6_3 =>
 oB (oFA 1 x3_1) fun x7_4 =>
 oB (oLd h1 x7_4) fun x8_5 =>
 oB (bLt x6_3 x8_5) fun x9_6 =>
 oB (gq x9_6 true (oFA 0 x3_1)) fun x11_7 =>
 oB (gq x9_6 true (oLd h1 x11_7)) fun x12_8 =>
 oB (gq x9_6 true (oFA 1 x2_0)) fun x13_9 =>
 oB (gq x9_6 true (oLd h1 x13_9)) fun x14_10 =>
 oB (gq x9_6 true (bLt x12_8 x14_10)) fun x15_11 =>
 oB (oPick x9_6 x15_11 (.bool false)) fun x16_12 =>
 some (x16_12, h1)
theorem o_span_Meet : FnOK Tryz.prog n_span_Meet (a2 f_span_Meet) := ok2 mixed Tryz.func314 (by kernel_rfl)
/- slices.stableCmpFunc[corrector/api.Edit] -/
noncomputable def f_slices_stableCmpFunc_api_Edit (n : Nat) (call : Caller)  (x0 x1 x2 : AV) (h : AH) : Ans :=
 jnF 5 (fun z7_0 z6_0 z2_0 z1_0 z0_0 h0 =>
 oP (call n_slices_insertionSortCmpFunc_api_Edit [z0_0, z7_0, z1_0, z2_0] h0) fun x27_1 h1 =>
 jnF 0 (fun h2 =>
 some (.tup [], h2)) fun j2 =>
 lpF 4 n (fun f3 y6_3 y2_3 y1_3 y0_3 h3 =>
 oB (bLt y6_3 y1_3) fun x30_4 =>
 ci x30_4 (
 jnF 4 (fun z6_5 z2_5 z1_5 z0_5 h5 =>
 f3 z6_5 z2_5 z1_5 z0_5 h5) fun j5 =>
 oB (binAV .mul .no (I 2) y6_3) fun x32_6 =>
 jnF 5 (fun z7_7 z6_7 z2_7 z1_7 z0_7 h7 =>
 oB (bAdd z7_7 z6_7) fun x51_8 =>
 oB (bLt x51_8 z1_7) fun x54_9 =>
 jnF 4 (fun z6_10 z2_10 z1_10 z0_10 h10 =>
 oB (binAV .mul .no z6_10 (I 2)) fun x62_11 =>
 j5 x62_11 z2_10 z1_10 z0_10 h10) fun j10 =>
 ci x54_9 (
 oP (call n_slices_symMergeCmpFunc_api_Edit [z0_7, z7_7, x51_8, z1_7, z2_7] h7) fun x60_12 h12 =>
 j10 z6_7 z2_7 z1_7 z0_7 h12) (
 j10 z6_7 z2_7 z1_7 z0_7 h7)) fun j7 =>
 lpF 6 n (fun f13 y8_13 y7_13 y6_13 y2_13 y1_13 y0_13 h13 =>
 oB (bLe y8_13 y1_13) fun x35_14 =>
 ci x35_14 (
 jnF 6 (fun z8_15 z7_15 z6_15 z2_15 z1_15 z0_15 h15 =>
 f13 z8_15 z7_15 z6_15 z2_15 z1_15 z0_15 h15) fun j15 =>
 oB (bAdd y7_13 y6_13) fun x40_16 =>
 oP (call n_slices_symMergeCmpFunc_api_Edit [y0_13, y7_13, x40_16, y8_13, y2_13] h13) fun x43_17 h17 =>
 oB (binAV .mul .no (I 2) y6_13) fun x47_18 =>
 oB (bAdd y8_13 x47_18) fun x48_19 =>
 j15 x48_19 y8_13 y6_13 y2_13 y1_13 y0_13 h17) (
 j7 y7_13 y6_13 y2_13 y1_13 y0_13 h13)) x32_6 (I 0) y6_3 y2_3 y1_3 y0_3 h3) (
 j2 h3)) z6_0 z2_0 z1_0 z0_0 h1) fun j0 =>
 lpF 6 n (fun f20 y8_20 y7_20 y6_20 y2_20 y1_20 y0_20 h20 =>
 oB (bLe y8_20 y1_20) fun x13_21 =>
 ci x13_21 (
 jnF 6 (fun z8_22 z7_22 z6_22 z2_22 z1_22 z0_22 h22 =>
 f20 z8_22 z7_22 z6_22 z2_22 z1_22 z0_22 h22) fun j22 =>
 oP (call n_slices_insertionSortCmpFunc_api_Edit [y0_20, y7_20, y8_20, y2_20] h20) fun x18_23 h23 =>
 oB (bAdd y8_20 y6_20) fun x22_24 =>
 j22 x22_24 y8_20 y6_20 y2_20 y1_20 y0_20 h23) (
 j0 y7_20 y6_20 y2_20 y1_20 y0_20 h20)) (I 20) (I 0) (I 20) x2 x1 x0 h
theorem o_slices_stableCmpFunc_api_Edit : FnOK Tryz.prog n_slices_stableCmpFunc_api_Edit (a3 f_slices_stableCmpFunc_api_Edit) := ok3 mixed Tryz.func315 (by kernel_rfl)
/- corrector/suggest.put -/
noncomputable def f_suggest_put (n : Nat) (call : Caller)  (x0 x1 : AV) (h : AH) : Ans :=
 oB (oBuild [(I 0), (I 0), (.str [])] [(0, 1, x0), (1, 1, x0), (2, 1, x1)]) fun x8_0 =>
 oB (some (.iface 124 x8_0)) fun x9_1 =>
 some (x9_1, h)
theorem o_suggest_put : FnOK Tryz.prog n_suggest_put (a2 f_suggest_put) := ok2 mixed Tryz.func316 (by kernel_rfl)
/- (*corrector/suggest.mender).sign -/
noncomputable def f_suggest_mender_sign (n : Nat) (call : Caller)  (x0 x1 : AV) (h : AH) : Ans :=
 oB (bLt x1 (I 0)) fun x6_0 =>
 oB (gq x6_0 false (some x1)) fun x8_1 =>
 oB (gq x6_0 false (some x0)) fun x9_2 =>
 oB (gq x6_0 false (oNil x9_2)) fun x10_3 =>
 oB (gq x6_0 false (oFA 0 x10_3)) fun x11_4 =>
 oB (gq x6_0 false (oLd h x11_4)) fun x12_5 =>
 oB (gq x6_0 false (oLen x12_5)) fun x13_6 =>
 oB (gq x6_0 false (bGe x8_1 x13_6)) fun x14_7 =>
 oB (oPick x6_0 (.bool true) x14_7) fun x15_8 =>
 ci x15_8 (
 some ((.str []), h)) (
 oB (oNil x0) fun x17_9 =>
 oB (oFA 0 x17_9) fun x18_10 =>
 oB (oLd h x18_10) fun x19_11 =>
 oB (bAdd x1 (I 1)) fun x22_12 =>
 oB (evQ (.sl 1 (.c x19_11) (some (.c x1)) (some (.c x22_12)) none) .e h) fun x23_13 =>
 oB (evQ (.b2s (.c x23_13)) .e h) fun x24_14 =>
 some (x24_14, h))
theorem o_suggest_mender_sign : FnOK Tryz.prog n_suggest_mender_sign (a2 f_suggest_mender_sign) := ok2 mixed Tryz.func317 (by kernel_rfl)
/- (*corrector/suggest.mender).open -/
noncomputable def f_suggest_mender_open (n : Nat) (call : Caller)  (x0 x1 : AV) (h : AH) : Ans :=
 oP (oNew h 3 (AV.cells x1)) fun x3_0 h0 =>
 oB (oNil x0) fun x11_1 =>
 oB (oFA 1 x11_1) fun x12_2 =>
 oB (oLd h0 x12_2) fun x13_3 =>
 oB (some (.fn n_suggest_mender_open_1 [] [x3_0])) fun x14_4 =>
 oP (call n_slices_IndexFunc_api_Token_api_Token [x13_3, x14_4] h0) fun x15_5 h5 =>
 oB (bLt x15_5 (I 0)) fun x17_6 =>
 ci x17_6 (
 some (.nili, h5)) (
 oB (oNil x0) fun x19_7 =>
 oB (oFA 1 x19_7) fun x20_8 =>
 oB (oLd h5 x20_8) fun x21_9 =>
 oB (oIx 3 x21_9 x15_5) fun x23_10 =>
 oB (oFA 0 x23_10) fun x24_11 =>
 oB (oLd h5 x24_11) fun x25_12 =>
 oB (bEq .no x25_12 (I 9)) fun x26_13 =>
 jnF 3 (fun z6_14 z5_14 z0_14 h14 =>
 oB (oNil z0_14) fun x28_15 =>
 oB (oFA 1 x28_15) fun x29_16 =>
 oB (oLd h14 x29_16) fun x30_17 =>
 oB (oIx 3 x30_17 z5_14) fun x32_18 =>
 oB (oFA 2 x32_18) fun x33_19 =>
 oB (oLd h14 x33_19) fun x34_20 =>
 oB (oNil z0_14) fun x36_21 =>
 oB (oFA 1 x36_21) fun x37_22 =>
 oB (oLd h14 x37_22) fun x38_23 =>
 oB (evQ (.sl 3 (.c x38_23) (some (.c z5_14)) none none) .e h14) fun x40_24 =>
 oB (oLen x40_24) fun x41_25 =>
 jnF 2 (fun z7_26 z6_26 h26 =>
 oP (call n_suggest_put [z7_26, z6_26] h26) fun x56_27 h27 =>
 some (x56_27, h27)) fun j26 =>
 lpF 5 n (fun f28 y42_28 y41_28 y40_28 y7_28 y6_28 h28 =>
 oB (bLt y42_28 y41_28) fun x43_29 =>
 ci x43_29 (
 jnF 5 (fun z42_30 z41_30 z40_30 z7_30 z6_30 h30 =>
 oB (bAdd z42_30 (I 1)) fun x53_31 =>
 f28 x53_31 z41_30 z40_30 z7_30 z6_30 h30) fun j30 =>
 oB (oIx 3 y40_28 y42_28) fun x44_32 =>
 oB (oLdN 3 h28 x44_32) fun x45_33 =>
 oP (oNew h28 92 [(I 0), (I 0), (I 0)]) fun x9_34 h34 =>
 oP (oSt 3 h34 x9_34 x45_33) fun _ h35 =>
 oB (oFA 0 x9_34) fun x46_36 =>
 oB (oLd h35 x46_36) fun x47_37 =>
 oB (bEq .no x47_37 (I 1)) fun x48_38 =>
 ci x48_38 (
 j26 y7_28 y6_28 h35) (
 oB (oLdN 3 h35 x9_34) fun x49_39 =>
 oP (call n_suggest_counts [x49_39] h35) fun x50_40 h40 =>
 jnF 5 (fun z42_41 z41_41 z40_41 z7_41 z6_41 h41 =>
 j30 z42_41 z41_41 z40_41 z7_41 z6_41 h41) fun j41 =>
 ci x50_40 (
 oB (oFA 2 x9_34) fun x51_42 =>
 oB (oLd h40 x51_42) fun x52_43 =>
 j41 y42_28 y41_28 y40_28 x52_43 y6_28 h40) (
 j41 y42_28 y41_28 y40_28 y7_28 y6_28 h40))) (
 j26 y7_28 y6_28 h28)) (I 0) x41_25 x40_24 x34_20 z6_14 h14) fun j14 =>
 ci x26_13 (
 j14 (.str [125]) x15_5 x0 h5) (
 j14 (.str [93]) x15_5 x0 h5))
theorem o_suggest_mender_open : FnOK Tryz.prog n_suggest_mender_open (a2 f_suggest_mender_open) := ok2 mixed Tryz.func318 (by kernel_rfl)
end Go.Proofs.YtmlhpcflphlgdaaGreatDoor
