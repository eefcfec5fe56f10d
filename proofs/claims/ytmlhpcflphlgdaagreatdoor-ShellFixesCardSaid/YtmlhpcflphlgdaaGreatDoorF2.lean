/- Functions, as they run. PRINTED by a program of this repo. -/
import Derived.Test.YtmlhpcflphlgdaaGreatDoorN
import Derived.Test.YtmlhpcflphlgdaaGreatDoorM
set_option linter.unusedVariables false
set_option maxRecDepth 100000
namespace Go.Proofs.YtmlhpcflphlgdaaGreatDoor
open Go.Ev
/- internal/stringslite.IndexByte -/
noncomputable def f_internal_stringslite_IndexByte (n : Nat) (call : Caller)  (x0 x1 : AV) (h : AH) : Ans :=
 oB (evQ (.idxByteStr (.c x0) (.c x1)) .e h) fun x7_0 =>
 some (x7_0, h)
theorem o_internal_stringslite_IndexByte : FnOK Tryz.prog n_internal_stringslite_IndexByte (a2 f_internal_stringslite_IndexByte) := ok2 mixed Tryz.func75 (by kernel_rfl)
/- internal/bytealg.Cutover -/
noncomputable def f_internal_bytealg_Cutover (n : Nat) (call : Caller)  (x0 : AV) (h : AH) : Ans :=
 oB (bAdd x0 (I 16)) fun x4_0 =>
 oB (binAV .quo .no x4_0 (I 8)) fun x5_1 =>
 some (x5_1, h)
theorem o_internal_bytealg_Cutover : FnOK Tryz.prog n_internal_bytealg_Cutover (a1 f_internal_bytealg_Cutover) := ok1 mixed Tryz.func77 (by kernel_rfl)
/- internal/bytealg.IndexRabinKarp[string] -/
noncomputable def f_internal_bytealg_IndexRabinKarp_string (n : Nat) (call : Caller)  (x0 x1 : AV) (h : AH) : Ans :=
 oP (call n_internal_bytealg_hashStr_string [x1] h) fun x13_0 h0 =>
 oB (oEx 0 x13_0) fun x14_1 =>
 oB (oEx 1 x13_0) fun x15_2 =>
 oB (oLenS x1) fun x17_3 =>
 jnF 6 (fun z8_4 z7_4 z6_4 z5_4 z1_4 z0_4 h4 =>
 oB (bEq .no z8_4 z5_4) fun x32_5 =>
 oB (gq x32_5 true (some z0_4)) fun x34_6 =>
 oB (gq x32_5 true (some z7_4)) fun x35_7 =>
 oB (gq x32_5 true (oSlS x34_6 none (some x35_7))) fun x36_8 =>
 oB (gq x32_5 true (some z1_4)) fun x37_9 =>
 oB (gq x32_5 true (bEq .no x36_8 x37_9)) fun x38_10 =>
 oB (oPick x32_5 x38_10 (.bool false)) fun x39_11 =>
 ci x39_11 (
 some ((I 0), h4)) (
 jnF 0 (fun h12 =>
 some ((Ineg 0), h12)) fun j12 =>
 lpF 7 n (fun f13 y10_13 y8_13 y7_13 y6_13 y5_13 y1_13 y0_13 h13 =>
 oB (oLenS y0_13) fun x43_14 =>
 oB (bLt y10_13 x43_14) fun x44_15 =>
 ci x44_15 (
 jnF 7 (fun z10_16 z8_16 z7_16 z6_16 z5_16 z1_16 z0_16 h16 =>
 f13 z10_16 z8_16 z7_16 z6_16 z5_16 z1_16 z0_16 h16) fun j16 =>
 oB (binAV .mul .no y8_13 (.int .u32 16777619)) fun x46_17 =>
 oB (oIxS y0_13 y10_13) fun x50_18 =>
 oB (oInt .u32 x50_18) fun x51_19 =>
 oB (bAdd x46_17 x51_19) fun x52_20 =>
 oB (bSub y10_13 y7_13) fun x58_21 =>
 oB (oIxS y0_13 x58_21) fun x59_22 =>
 oB (oInt .u32 x59_22) fun x60_23 =>
 oB (binAV .mul .no y6_13 x60_23) fun x61_24 =>
 oB (bSub x52_20 x61_24) fun x62_25 =>
 oB (bAdd y10_13 (I 1)) fun x64_26 =>
 oB (bEq .no x62_25 y5_13) fun x67_27 =>
 oB (gq x67_27 true (some y0_13)) fun x69_28 =>
 oB (gq x67_27 true (some x64_26)) fun x70_29 =>
 oB (gq x67_27 true (some y7_13)) fun x71_30 =>
 oB (gq x67_27 true (bSub x70_29 x71_30)) fun x72_31 =>
 oB (gq x67_27 true (some x64_26)) fun x73_32 =>
 oB (gq x67_27 true (oSlS x69_28 (some x72_31) (some x73_32))) fun x74_33 =>
 oB (gq x67_27 true (some y1_13)) fun x75_34 =>
 oB (gq x67_27 true (bEq .no x74_33 x75_34)) fun x76_35 =>
 oB (oPick x67_27 x76_35 (.bool false)) fun x77_36 =>
 ci x77_36 (
 oB (bSub x64_26 y7_13) fun x80_37 =>
 some (x80_37, h13)) (
 j16 x64_26 x62_25 y7_13 y6_13 y5_13 y1_13 y0_13 h13)) (
 j12 h13)) z7_4 z8_4 z7_4 z6_4 z5_4 z1_4 z0_4 h4)) fun j4 =>
 lpF 7 n (fun f38 y9_38 y8_38 y7_38 y6_38 y5_38 y1_38 y0_38 h38 =>
 oB (bLt y9_38 y7_38) fun x20_39 =>
 ci x20_39 (
 jnF 7 (fun z9_40 z8_40 z7_40 z6_40 z5_40 z1_40 z0_40 h40 =>
 oB (bAdd z9_40 (I 1)) fun x22_41 =>
 f38 x22_41 z8_40 z7_40 z6_40 z5_40 z1_40 z0_40 h40) fun j40 =>
 oB (binAV .mul .no y8_38 (.int .u32 16777619)) fun x24_42 =>
 oB (oIxS y0_38 y9_38) fun x27_43 =>
 oB (oInt .u32 x27_43) fun x28_44 =>
 oB (bAdd x24_42 x28_44) fun x29_45 =>
 j40 y9_38 x29_45 y7_38 y6_38 y5_38 y1_38 y0_38 h38) (
 j4 y8_38 y7_38 y6_38 y5_38 y1_38 y0_38 h38)) (I 0) (.int .u32 0) x17_3 x15_2 x14_1 x1 x0 h0
theorem o_internal_bytealg_IndexRabinKarp_string : FnOK Tryz.prog n_internal_bytealg_IndexRabinKarp_string (a2 f_internal_bytealg_IndexRabinKarp_string) := ok2 mixed Tryz.func78 (by kernel_rfl)
/- slices.Grow[[]byte,byte] -/
noncomputable def f_slices_Grow_byte_byte (n : Nat) (call : Caller)  (x0 x1 : AV) (h : AH) : Ans :=
 oB (bLt x1 (I 0)) fun x6_0 =>
 jnF 2 (fun z1_1 z0_1 h1 =>
 oB (evQ (.capSl (.c z0_1)) .e h1) fun x10_2 =>
 oB (oLen z0_1) fun x12_3 =>
 oB (bSub x10_2 x12_3) fun x13_4 =>
 oB (bSub z1_1 x13_4) fun x14_5 =>
 oB (bGt x14_5 (I 0)) fun x16_6 =>
 jnF 1 (fun z0_7 h7 =>
 some (z0_7, h7)) fun j7 =>
 ci x16_6 (
 oB (evQ (.capSl (.c z0_1)) .e h1) fun x19_8 =>
 oB (evQ (.sl 1 (.c z0_1) none (some (.c x19_8)) none) .e h1) fun x20_9 =>
 oP (evW (.grow 5 1 1 (.c x20_9) (.c x14_5)) .e h1) fun x22_10 h10 =>
 oB (oLen z0_1) fun x24_11 =>
 oB (evQ (.sl 1 (.c x22_10) none (some (.c x24_11)) none) .e h10) fun x25_12 =>
 j7 x25_12 h10) (
 j7 z0_1 h1)) fun j1 =>
 ci x6_0 (
 oB (some (.iface 9 (.str [99, 97, 110, 110, 111, 116, 32, 98, 101, 32, 110, 101, 103, 97, 116, 105, 118, 101]))) fun x7_13 =>
 oB (evQ (.bad) .e h) fun _ =>
 j1 x1 x0 h) (
 j1 x1 x0 h)
theorem o_slices_Grow_byte_byte : FnOK Tryz.prog n_slices_Grow_byte_byte (a2 f_slices_Grow_byte_byte) := ok2 mixed Tryz.func79 (by kernel_rfl)
/- strconv.Itoa -/
noncomputable def f_strconv_Itoa (n : Nat) (call : Caller)  (x0 : AV) (h : AH) : Ans :=
 oP (call n_internal_strconv_Itoa [x0] h) fun x4_0 h0 =>
 some (x4_0, h0)
theorem o_strconv_Itoa : FnOK Tryz.prog n_strconv_Itoa (a1 f_strconv_Itoa) := ok1 mixed Tryz.func80 (by kernel_rfl)
/- strings.Join -/
noncomputable def f_strings_Join (n : Nat) (call : Caller)  (x0 x1 : AV) (h : AH) : Ans :=
 oB (oLen x0) fun x12_0 =>
 jnF 2 (fun z1_1 z0_1 h1 =>
 oB (oLenS z1_1) fun x21_2 =>
 oB (bGt x21_2 (I 0)) fun x22_3 =>
 jnF 3 (fun z5_4 z1_4 z0_4 h4 =>
 oB (oLen z0_4) fun x40_5 =>
 jnF 3 (fun z5_6 z1_6 z0_6 h6 =>
 oP (oNew h6 59 [.nilp, .nils]) fun x8_7 h7 =>
 oP (call n_strings_Builder_Grow [x8_7, z5_6] h7) fun x57_8 h8 =>
 oB (oIx 1 z0_6 (I 0)) fun x59_9 =>
 oB (oLd h8 x59_9) fun x60_10 =>
 oP (call n_strings_Builder_WriteString [x8_7, x60_10] h8) fun x61_11 h11 =>
 oB (evQ (.sl 1 (.c z0_6) (some (.c (I 1))) none none) .e h11) fun x63_12 =>
 oB (oLen x63_12) fun x64_13 =>
 jnF 1 (fun z8_14 h14 =>
 oP (call n_strings_Builder_String [z8_14] h14) fun x74_15 h15 =>
 some (x74_15, h15)) fun j14 =>
 lpF 5 n (fun f16 y65_16 y64_16 y63_16 y8_16 y1_16 h16 =>
 oB (bLt y65_16 y64_16) fun x66_17 =>
 ci x66_17 (
 jnF 5 (fun z65_18 z64_18 z63_18 z8_18 z1_18 h18 =>
 oB (bAdd z65_18 (I 1)) fun x73_19 =>
 f16 x73_19 z64_18 z63_18 z8_18 z1_18 h18) fun j18 =>
 oB (oIx 1 y63_16 y65_16) fun x67_20 =>
 oB (oLd h16 x67_20) fun x68_21 =>
 oP (call n_strings_Builder_WriteString [y8_16, y1_16] h16) fun x70_22 h22 =>
 oP (call n_strings_Builder_WriteString [y8_16, x68_21] h22) fun x72_23 h23 =>
 j18 y65_16 y64_16 y63_16 y8_16 y1_16 h23) (
 j14 y8_16 h16)) (I 0) x64_13 x63_12 x8_7 z1_6 h11) fun j6 =>
 lpF 6 n (fun f24 y41_24 y40_24 y39_24 y5_24 y1_24 y0_24 h24 =>
 oB (bLt y41_24 y40_24) fun x42_25 =>
 ci x42_25 (
 jnF 6 (fun z41_26 z40_26 z39_26 z5_26 z1_26 z0_26 h26 =>
 oB (bAdd z41_26 (I 1)) fun x55_27 =>
 f24 x55_27 z40_26 z39_26 z5_26 z1_26 z0_26 h26) fun j26 =>
 oB (oIx 1 y39_24 y41_24) fun x43_28 =>
 oB (oLd h24 x43_28) fun x44_29 =>
 oB (oLenS x44_29) fun x46_30 =>
 oB (bSub (I 9223372036854775807) y5_24) fun x48_31 =>
 oB (bGt x46_30 x48_31) fun x49_32 =>
 jnF 7 (fun z41_33 z40_33 z39_33 z7_33 z5_33 z1_33 z0_33 h33 =>
 oB (oLenS z7_33) fun x53_34 =>
 oB (bAdd z5_33 x53_34) fun x54_35 =>
 j26 z41_33 z40_33 z39_33 x54_35 z1_33 z0_33 h33) fun j33 =>
 ci x49_32 (
 oB (some (.iface 9 (.str [115, 116, 114, 105, 110, 103, 115, 58, 32, 74, 111, 105, 110, 32, 111, 117, 116, 112, 117, 116, 32, 108, 101, 110, 103, 116, 104, 32, 111, 118, 101, 114, 102, 108, 111, 119]))) fun x50_36 =>
 oB (evQ (.bad) .e h24) fun _ =>
 j33 y41_24 y40_24 y39_24 x44_29 y5_24 y1_24 y0_24 h24) (
 j33 y41_24 y40_24 y39_24 x44_29 y5_24 y1_24 y0_24 h24)) (
 j6 y5_24 y1_24 y0_24 h24)) (I 0) x40_5 z0_4 z5_4 z1_4 z0_4 h4) fun j4 =>
 ci x22_3 (
 oB (oLenS z1_1) fun x24_38 =>
 oB (oLen z0_1) fun x26_39 =>
 oB (bSub x26_39 (I 1)) fun x27_40 =>
 oB (binAV .quo .no (I 9223372036854775807) x27_40) fun x28_41 =>
 oB (bGe x24_38 x28_41) fun x29_42 =>
 jnF 3 (fun z5_43 z1_43 z0_43 h43 =>
 oB (oLenS z1_43) fun x33_44 =>
 oB (oLen z0_43) fun x35_45 =>
 oB (bSub x35_45 (I 1)) fun x36_46 =>
 oB (binAV .mul .no x33_44 x36_46) fun x37_47 =>
 oB (bAdd z5_43 x37_47) fun x38_48 =>
 j4 x38_48 z1_43 z0_43 h43) fun j43 =>
 ci x29_42 (
 oB (some (.iface 9 (.str [115, 116, 114, 105, 110, 103, 115, 58, 32, 74, 111, 105, 110, 32, 111, 117, 116, 112, 117, 116, 32, 108, 101, 110, 103, 116, 104, 32, 111, 118, 101, 114, 102, 108, 111, 119]))) fun x30_49 =>
 oB (evQ (.bad) .e h1) fun _ =>
 j43 (I 0) z1_1 z0_1 h1) (
 j43 (I 0) z1_1 z0_1 h1)) (
 j4 (I 0) z1_1 z0_1 h1)) fun j1 =>
 oB (bEq .no x12_0 (I 0)) fun x14_51 =>
 ci x14_51 (
 some ((.str []), h)) (
 oB (bEq .no x12_0 (I 1)) fun x16_52 =>
 ci x16_52 (
 oB (oIx 1 x0 (I 0)) fun x18_53 =>
 oB (oLd h x18_53) fun x19_54 =>
 some (x19_54, h)) (
 j1 x1 x0 h))
theorem o_strings_Join : FnOK Tryz.prog n_strings_Join (a2 f_strings_Join) := ok2 mixed Tryz.func81 (by kernel_rfl)
/- corrector/config.line -/
noncomputable def f_config_line (n : Nat) (call : Caller)  (x0 x1 : AV) (h : AH) : Ans :=
 oB (oLen x1) fun x11_0 =>
 oB (bNe .no x11_0 (I 2)) fun x12_1 =>
 ci x12_1 (
 oB (oLen x1) fun x14_2 =>
 oB (bEq .no x14_2 (I 0)) fun x15_3 =>
 some (x15_3, h)) (
 oB' (nx 10 h) fun h4 =>
 oP (call n_config_rules [] h4) fun x17_5 h5 =>
 oB (oIx 1 x1 (I 0)) fun x19_6 =>
 oB (oLd h5 x19_6) fun x20_7 =>
 oB (evQ (.lookup .s (I 0) true (.c x17_5) (.c x20_7)) .e h5) fun x21_8 =>
 oB (oEx 0 x21_8) fun x22_9 =>
 oB (oEx 1 x21_8) fun x23_10 =>
 ask1 true (oLd h4 x19_6) x20_7 (
 ask1 true (oLd h5 x19_6) x20_7 (
 ask1 true (evQ (.lookup .s (I 0) true (.c x17_5) (.c x20_7)) .e h5) x21_8 (
 ci x23_10 (
 oB' (nx 10 h5) fun h11 =>
 oB (oIx 1 x1 (I 1)) fun x28_12 =>
 oB (oLd h11 x28_12) fun x29_13 =>
 oB (bEq .no x29_13 (.str [111, 110])) fun x30_14 =>
 oB (oNil x0) fun x31_15 =>
 oB (oFA 0 x31_15) fun x32_16 =>
 oB (evQ (.idxArr 10 1 (.c x32_16) (.c x22_9)) .e h11) fun x33_17 =>
 oP (oSt 1 h11 x33_17 x30_14) fun _ h18 =>
 oB (oIx 1 x1 (I 1)) fun x35_19 =>
 oB (oLd h18 x35_19) fun x36_20 =>
 oB (bEq .no x36_20 (.str [111, 110])) fun x37_21 =>
 oB (gq x37_21 false (some x1)) fun x39_22 =>
 oB (gq x37_21 false (oIx 1 x39_22 (I 1))) fun x40_23 =>
 oB (gq x37_21 false (oLd h18 x40_23)) fun x41_24 =>
 oB (gq x37_21 false (bEq .no x41_24 (.str [111, 102, 102]))) fun x42_25 =>
 oB (oPick x37_21 (.bool true) x42_25) fun x43_26 =>
 some (x43_26, h18)) (
 oB (oIx 1 x1 (I 0)) fun x46_27 =>
 oB (oLd h5 x46_27) fun x47_28 =>
 oP (call n_config_place [x0, x47_28] h5) fun x48_29 h29 =>
 oB (oIx 1 x1 (I 1)) fun x51_30 =>
 oB (oLd h29 x51_30) fun x52_31 =>
 oP (call n_config_number [x52_31] h29) fun x53_32 h32 =>
 oB (oEx 0 x53_32) fun x54_33 =>
 oB (oEx 1 x53_32) fun x55_34 =>
 oB (bEq .ptr x48_29 .nilp) fun x57_35 =>
 oB (gq x57_35 false (some x55_34)) fun x59_36 =>
 oB (gq x57_35 false (evQ (.un .not (.c x59_36)) .e h32)) fun x60_37 =>
 oB (oPick x57_35 (.bool true) x60_37) fun x61_38 =>
 ci x61_38 (
 some ((.bool false), h32)) (
 oB (oNil x48_29) fun x64_39 =>
 oP (oSt 1 h32 x64_39 x54_33) fun _ h40 =>
 some ((.bool true), h40)))))))
theorem o_config_line : FnOK Tryz.prog n_config_line (a2 f_config_line) := ok2 mixed Tryz.func82 (by kernel_rfl)
/- corrector/config.words -/
noncomputable def f_config_words (n : Nat) (call : Caller)  (x0 : AV) (h : AH) : Ans :=
 oP (call n_strings_FieldsFunc [x0, (.fn 142 [] [])] h) fun x4_0 h0 =>
 some (x4_0, h0)
theorem o_config_words : FnOK Tryz.prog n_config_words (a1 f_config_words) := ok1 mixed Tryz.func83 (by kernel_rfl)
/- corrector/config.Check -/
noncomputable def f_config_Check (n : Nat) (call : Caller)  (x0 : AV) (h : AH) : Ans :=
 oP (oNew h 36 (AV.cells x0)) fun x1_0 h0 =>
 oB (oFA 10 x1_0) fun x3_1 =>
 oB (oLd h0 x3_1) fun x4_2 =>
 oP (call n_config_within [x4_2, (I 1), (I 500)] h0) fun x5_3 h3 =>
 oB (evQ (.un .not (.c x5_3)) .e h3) fun x6_4 =>
 oB (gq x6_4 false (oFA 11 x1_0)) fun x8_5 =>
 oB (gq x6_4 false (oLd h3 x8_5)) fun x9_6 =>
 oP (gw x6_4 false (call n_config_within [x9_6, (I 1), (I 10)] h3) h3) fun x10_7 h7 =>
 oB (gq x6_4 false (evQ (.un .not (.c x10_7)) .e h7)) fun x11_8 =>
 oB (oPick x6_4 (.bool true) x11_8) fun x12_9 =>
 oB (gq x12_9 false (oFA 12 x1_0)) fun x14_10 =>
 oB (gq x12_9 false (oLd h7 x14_10)) fun x15_11 =>
 oP (gw x12_9 false (call n_config_within [x15_11, (I 0), (I 20)] h7) h7) fun x16_12 h12 =>
 oB (gq x12_9 false (evQ (.un .not (.c x16_12)) .e h12)) fun x17_13 =>
 oB (oPick x12_9 (.bool true) x17_13) fun x18_14 =>
 oB (gq x18_14 false (oFA 13 x1_0)) fun x20_15 =>
 oB (gq x18_14 false (oLd h12 x20_15)) fun x21_16 =>
 oP (gw x18_14 false (call n_config_within [x21_16, (I 1), (I 50)] h12) h12) fun x22_17 h17 =>
 oB (gq x18_14 false (evQ (.un .not (.c x22_17)) .e h17)) fun x23_18 =>
 oB (oPick x18_14 (.bool true) x23_18) fun x24_19 =>
 ci x24_19 (
 some ((I 1), h17)) (
 some ((I 0), h17))
theorem o_config_Check : FnOK Tryz.prog n_config_Check (a1 f_config_Check) := ok1 mixed Tryz.func84 (by kernel_rfl)
/- (*corrector/scan.scanner).begin -/
noncomputable def f_scan_scanner_begin (n : Nat) (call : Caller)  (x0 : AV) (h : AH) : Ans :=
 oB (oNil x0) fun x6_0 =>
 oB (oFA 1 x6_0) fun x7_1 =>
 oB (oLd h x7_1) fun x8_2 =>
 oB (oNil x0) fun x9_3 =>
 oB (oFA 4 x9_3) fun x10_4 =>
 oP (oSt 1 h x10_4 x8_2) fun _ h5 =>
 oB (oNil x0) fun x11_6 =>
 oB (oFA 5 x11_6) fun x12_7 =>
 oP (oSt 1 h5 x12_7 (Ineg 0)) fun _ h8 =>
 oB (oNil x0) fun x13_9 =>
 oB (oFA 6 x13_9) fun x14_10 =>
 oP (oSt 1 h8 x14_10 (.bool true)) fun _ h11 =>
 some (.tup [], h11)
theorem o_scan_scanner_begin : FnOK Tryz.prog n_scan_scanner_begin (a1 f_scan_scanner_begin) := ok1 mixed Tryz.func85 (by kernel_rfl)
/- (*corrector/scan.scanner).begun -/
noncomputable def f_scan_scanner_begun (n : Nat) (call : Caller)  (x0 : AV) (h : AH) : Ans :=
 oB (oNil x0) fun x7_0 =>
 oB (oFA 1 x7_0) fun x8_1 =>
 oB (oLd h x8_1) fun x9_2 =>
 oP (call n_scan_scanner_mark [x0, x9_2] h) fun x10_3 h3 =>
 oB (bNe .no x10_3 (I 0)) fun x12_4 =>
 ci x12_4 (
 oB (oNil x0) fun x14_5 =>
 oB (oFA 3 x14_5) fun x15_6 =>
 oP (oSt 1 h3 x15_6 (I 0)) fun _ h7 =>
 oB (oNil x0) fun x19_8 =>
 oB (oFA 1 x19_8) fun x20_9 =>
 oB (oLd h7 x20_9) fun x21_10 =>
 oB (bAdd x21_10 (I 3)) fun x22_11 =>
 oP (call n_scan_scanner_token [x0, x10_3, x22_11] h7) fun x23_12 h12 =>
 some ((.bool true), h12)) (
 oB (oNil x0) fun x26_13 =>
 oB (oFA 1 x26_13) fun x27_14 =>
 oB (oLd h3 x27_14) fun x28_15 =>
 oP (call n_scan_scanner_spaces [x0, x28_15] h3) fun x29_16 h16 =>
 oB (oNil x0) fun x32_17 =>
 oB (oFA 1 x32_17) fun x33_18 =>
 oB (oLd h16 x33_18) fun x34_19 =>
 oB (bGt x29_16 x34_19) fun x35_20 =>
 ci x35_20 (
 oP (call n_scan_scanner_token [x0, (I 2), x29_16] h16) fun x38_21 h21 =>
 some ((.bool true), h21)) (
 some ((.bool false), h16)))
theorem o_scan_scanner_begun : FnOK Tryz.prog n_scan_scanner_begun (a1 f_scan_scanner_begun) := ok1 mixed Tryz.func86 (by kernel_rfl)
/- (*corrector/scan.scanner).loose -/
noncomputable def f_scan_scanner_loose (n : Nat) (call : Caller)  (x0 : AV) (h : AH) : Ans :=
 oB (oNil x0) fun x8_0 =>
 oB (oFA 1 x8_0) fun x9_1 =>
 oB (oLd h x9_1) fun x10_2 =>
 oP (call n_scan_scanner_brk [x0, x10_2] h) fun x11_3 h3 =>
 oB (bGt x11_3 (I 0)) fun x13_4 =>
 ci x13_4 (
 oB (oNil x0) fun x16_5 =>
 oB (oFA 1 x16_5) fun x17_6 =>
 oB (oLd h3 x17_6) fun x18_7 =>
 oB (bAdd x18_7 x11_3) fun x20_8 =>
 oP (call n_scan_scanner_token [x0, (I 1), x20_8] h3) fun x21_9 h9 =>
 some ((.bool true), h9)) (
 oB (oNil x0) fun x24_10 =>
 oB (oFA 1 x24_10) fun x25_11 =>
 oB (oLd h3 x25_11) fun x26_12 =>
 oP (call n_scan_scanner_blanks [x0, x26_12] h3) fun x27_13 h13 =>
 oB (oNil x0) fun x30_14 =>
 oB (oFA 1 x30_14) fun x31_15 =>
 oB (oLd h13 x31_15) fun x32_16 =>
 oB (bGt x27_13 x32_16) fun x33_17 =>
 ci x33_17 (
 oP (call n_scan_scanner_token [x0, (I 3), x27_13] h13) fun x36_18 h18 =>
 some ((.bool true), h18)) (
 oP (call n_scan_scanner_last [x0] h13) fun x38_19 h19 =>
 oB' (nx 25 h19) fun h20 =>
 oB (oNil x0) fun x41_21 =>
 oB (oFA 1 x41_21) fun x42_22 =>
 oB (oLd h20 x42_22) fun x43_23 =>
 oP (call n_scan_scanner_there [x0, x43_23, (U 35)] h20) fun x44_24 h24 =>
 oB (gq x44_24 true (some x0)) fun x46_25 =>
 oB (gq x44_24 true (oNil x46_25)) fun x47_26 =>
 oB (gq x44_24 true (oFA 1 x47_26)) fun x48_27 =>
 oB (gq x44_24 true (oLd h24 x48_27)) fun x49_28 =>
 oB (gq x44_24 true (some x0)) fun x50_29 =>
 oB (gq x44_24 true (oNil x50_29)) fun x51_30 =>
 oB (gq x44_24 true (oFA 4 x51_30)) fun x52_31 =>
 oB (gq x44_24 true (oLd h24 x52_31)) fun x53_32 =>
 oB (gq x44_24 true (bEq .no x49_28 x53_32)) fun x54_33 =>
 oB (gq x44_24 true (some x54_33)) fun x55_34 =>
 oB (gq x55_34 false (some x38_19)) fun x56_35 =>
 oB (gq x55_34 false (bEq .no x56_35 (I 2))) fun x57_36 =>
 oB (gq x44_24 true (oPick x55_34 (.bool true) x57_36)) fun x58_37 =>
 oB (gq x44_24 true (some x58_37)) fun x59_38 =>
 oB (gq x59_38 false (some x38_19)) fun x60_39 =>
 oB (gq x59_38 false (bEq .no x60_39 (I 3))) fun x61_40 =>
 oB (gq x44_24 true (oPick x59_38 (.bool true) x61_40)) fun x62_41 =>
 oB (oPick x44_24 x62_41 (.bool false)) fun x63_42 =>
 ci x63_42 (
 oB (oNil x0) fun x67_43 =>
 oB (oFA 1 x67_43) fun x68_44 =>
 oB (oLd h24 x68_44) fun x69_45 =>
 oP (call n_scan_scanner_line [x0, x69_45] h24) fun x70_46 h46 =>
 oP (call n_scan_scanner_token [x0, (I 4), x70_46] h46) fun x71_47 h47 =>
 some ((.bool true), h47)) (
 some ((.bool false), h24))))
theorem o_scan_scanner_loose : FnOK Tryz.prog n_scan_scanner_loose (a1 f_scan_scanner_loose) := ok1 mixed Tryz.func87 (by kernel_rfl)
/- (*corrector/scan.scanner).sign -/
noncomputable def f_scan_scanner_sign (n : Nat) (call : Caller)  (x0 : AV) (h : AH) : Ans :=
 oP (call n_scan_scanner_brackets [x0] h) fun x7_0 h0 =>
 oB (bNe .no x7_0 (I 0)) fun x9_1 =>
 ci x9_1 (
 oB (oNil x0) fun x13_2 =>
 oB (oFA 1 x13_2) fun x14_3 =>
 oB (oLd h0 x14_3) fun x15_4 =>
 oB (bAdd x15_4 (I 1)) fun x16_5 =>
 oP (call n_scan_scanner_token [x0, x7_0, x16_5] h0) fun x17_6 h6 =>
 some ((.bool true), h6)) (
 oB (oNil x0) fun x20_7 =>
 oB (oFA 1 x20_7) fun x21_8 =>
 oB (oLd h0 x21_8) fun x22_9 =>
 oP (call n_scan_scanner_there [x0, x22_9, (U 45)] h0) fun x23_10 h10 =>
 oB (gq x23_10 true (some x0)) fun x25_11 =>
 oB (gq x23_10 true (some x0)) fun x26_12 =>
 oB (gq x23_10 true (oNil x26_12)) fun x27_13 =>
 oB (gq x23_10 true (oFA 1 x27_13)) fun x28_14 =>
 oB (gq x23_10 true (oLd h10 x28_14)) fun x29_15 =>
 oB (gq x23_10 true (bAdd x29_15 (I 1))) fun x30_16 =>
 oP (gw x23_10 true (call n_scan_scanner_space [x25_11, x30_16] h10) h10) fun x31_17 h17 =>
 oB (oPick x23_10 x31_17 (.bool false)) fun x32_18 =>
 oB (gq x32_18 true (some x0)) fun x34_19 =>
 oB (gq x32_18 true (oNil x34_19)) fun x35_20 =>
 oB (gq x32_18 true (oFA 3 x35_20)) fun x36_21 =>
 oB (gq x32_18 true (oLd h17 x36_21)) fun x37_22 =>
 oB (gq x32_18 true (bEq .no x37_22 (I 0))) fun x38_23 =>
 oB (oPick x32_18 x38_23 (.bool false)) fun x39_24 =>
 oB (gq x39_24 true (some x0)) fun x41_25 =>
 oB (gq x39_24 true (oNil x41_25)) fun x42_26 =>
 oB (gq x39_24 true (oFA 6 x42_26)) fun x43_27 =>
 oB (gq x39_24 true (oLd h17 x43_27)) fun x44_28 =>
 oB (oPick x39_24 x44_28 (.bool false)) fun x45_29 =>
 ci x45_29 (
 oB (oNil x0) fun x48_30 =>
 oB (oFA 1 x48_30) fun x49_31 =>
 oB (oLd h17 x49_31) fun x50_32 =>
 oB (bAdd x50_32 (I 1)) fun x51_33 =>
 oP (call n_scan_scanner_token [x0, (I 5), x51_33] h17) fun x52_34 h34 =>
 some ((.bool true), h34)) (
 oB (oNil x0) fun x55_35 =>
 oB (oFA 1 x55_35) fun x56_36 =>
 oB (oLd h17 x56_36) fun x57_37 =>
 oP (call n_scan_scanner_colon [x0, x57_37] h17) fun x58_38 h38 =>
 ci x58_38 (
 oB (oNil x0) fun x61_39 =>
 oB (oFA 1 x61_39) fun x62_40 =>
 oB (oLd h38 x62_40) fun x63_41 =>
 oB (bAdd x63_41 (I 1)) fun x64_42 =>
 oP (call n_scan_scanner_token [x0, (I 6), x64_42] h38) fun x65_43 h43 =>
 some ((.bool true), h43)) (
 oP (call n_scan_scanner_property [x0] h38) fun x68_44 h44 =>
 oB (oEx 0 x68_44) fun x69_45 =>
 oB (oEx 1 x68_44) fun x70_46 =>
 oB (bNe .no x69_45 (I 0)) fun x72_47 =>
 ci x72_47 (
 oP (call n_scan_scanner_token [x0, x69_45, x70_46] h44) fun x76_48 h48 =>
 some ((.bool true), h48)) (
 some ((.bool false), h44)))))
theorem o_scan_scanner_sign : FnOK Tryz.prog n_scan_scanner_sign (a1 f_scan_scanner_sign) := ok1 mixed Tryz.func88 (by kernel_rfl)
/- (*corrector/scan.scanner).text -/
noncomputable def f_scan_scanner_text (n : Nat) (call : Caller)  (x0 : AV) (h : AH) : Ans :=
 oB' (nx 10 h) fun h0 =>
 oB (oNil x0) fun x7_1 =>
 oB (oFA 0 x7_1) fun x8_2 =>
 oB (oLd h0 x8_2) fun x9_3 =>
 oB (oNil x0) fun x11_4 =>
 oB (oFA 1 x11_4) fun x12_5 =>
 oB (oLd h0 x12_5) fun x13_6 =>
 oB (oIx 1 x9_3 x13_6) fun x14_7 =>
 oB (oLd h0 x14_7) fun x15_8 =>
 jnF 1 (fun z0_9 h9 =>
 oP (call n_scan_scanner_head [z0_9] h9) fun x29_10 h10 =>
 oB (bGt x29_10 (I 0)) fun x31_11 =>
 ci x31_11 (
 oB (oNil z0_9) fun x33_12 =>
 oB (oFA 5 x33_12) fun x34_13 =>
 oB (oLd h10 x34_13) fun x35_14 =>
 oB (bLt x35_14 (I 0)) fun x37_15 =>
 jnF 3 (fun z3_16 z2_16 z0_16 h16 =>
 oP (call n_scan_scanner_token [z0_16, (I 18), z2_16] h16) fun x50_17 h17 =>
 oP (call n_scan_scanner_texts [z0_16, z3_16] h17) fun x53_18 h18 =>
 some (.tup [], h18)) fun j16 =>
 ci x37_15 (
 oB' (nx 11 h10) fun h19 =>
 oB (oNil z0_9) fun x39_20 =>
 oB (oFA 1 x39_20) fun x40_21 =>
 oB (oLd h19 x40_21) fun x41_22 =>
 oB (oNil z0_9) fun x43_23 =>
 oB (oFA 4 x43_23) fun x44_24 =>
 oB (oLd h19 x44_24) fun x45_25 =>
 oB (bSub x41_22 x45_25) fun x46_26 =>
 oB (bSub x46_26 (I 1)) fun x47_27 =>
 j16 x47_27 x29_10 z0_9 h19) (
 j16 x35_14 x29_10 z0_9 h10)) (
 oB' (nx 15 h10) fun h28 =>
 oB (oNil z0_9) fun x56_29 =>
 oB (oFA 0 x56_29) fun x57_30 =>
 oB (oLd h28 x57_30) fun x58_31 =>
 oB (oNil z0_9) fun x60_32 =>
 oB (oFA 1 x60_32) fun x61_33 =>
 oB (oLd h28 x61_33) fun x62_34 =>
 oB (evQ (.sl 1 (.c x58_31) (some (.c x62_34)) none none) .e h28) fun x63_35 =>
 oP (call n_runes_Next [x63_35] h28) fun x64_36 h36 =>
 oB (oEx 0 x64_36) fun x65_37 =>
 oB (oEx 1 x64_36) fun x66_38 =>
 oB (bLt x65_37 (R 0)) fun x68_39 =>
 ci x68_39 (
 oB (oNil z0_9) fun x71_40 =>
 oB (oFA 1 x71_40) fun x72_41 =>
 oB (oLd h36 x72_41) fun x73_42 =>
 oB (bAdd x73_42 (I 1)) fun x74_43 =>
 oP (call n_scan_scanner_token [z0_9, (I 22), x74_43] h36) fun x75_44 h44 =>
 some (.tup [], h44)) (
 oP (call n_scan_scanner_plain [z0_9] h36) fun x78_45 h45 =>
 oP (call n_scan_scanner_token [z0_9, (I 15), x78_45] h45) fun x79_46 h46 =>
 some (.tup [], h46)))) fun j9 =>
 oB (bEq .no x15_8 (U 39)) fun x17_47 =>
 ci x17_47 (
 oP (call n_scan_scanner_single [x0] h0) fun x20_48 h48 =>
 oP (call n_scan_scanner_token [x0, (I 16), x20_48] h48) fun x21_49 h49 =>
 some (.tup [], h49)) (
 oB (bEq .no x15_8 (U 34)) fun x23_50 =>
 ci x23_50 (
 oP (call n_scan_scanner_double [x0] h0) fun x26_51 h51 =>
 oP (call n_scan_scanner_token [x0, (I 17), x26_51] h51) fun x27_52 h52 =>
 some (.tup [], h52)) (
 j9 x0 h0))
theorem o_scan_scanner_text : FnOK Tryz.prog n_scan_scanner_text (a1 f_scan_scanner_text) := ok1 mixed Tryz.func89 (by kernel_rfl)
/- slices.Clone[[]corrector/api.Token,corrector/api.Token] -/
noncomputable def f_slices_Clone_api_Token_api_Token (n : Nat) (call : Caller)  (x0 : AV) (h : AH) : Ans :=
 oB (bEq .sl x0 .nils) fun x4_0 =>
 ci x4_0 (
 some (.nils, h)) (
 oP (oBuildSl h 92 3 0 [] []) fun x5_1 h1 =>
 oP (evW (.append 92 3 24 [(I 0), (I 0), (I 0)] (.c x5_1) (.c x0)) .e h1) fun x7_2 h2 =>
 some (x7_2, h2))
theorem o_slices_Clone_api_Token_api_Token : FnOK Tryz.prog n_slices_Clone_api_Token_api_Token (a1 f_slices_Clone_api_Token_api_Token) := ok1 mixed Tryz.func90 (by kernel_rfl)
/- corrector/walk.Order -/
noncomputable def f_walk_Order (n : Nat) (call : Caller)  (x0 : AV) (h : AH) : Ans :=
 oP (oNew h 100 (AV.cells x0)) fun x1_0 h0 =>
 oP (oNew h0 50 [.nils]) fun x3_1 h1 =>
 oB (oFA 0 x1_0) fun x6_2 =>
 oB (oLd h1 x6_2) fun x7_3 =>
 oB (oLen x7_3) fun x8_4 =>
 oP (evW (.mkSlice 4 1 1 [(.bool false)] (.c x8_4) (.c x8_4)) .e h1) fun x9_5 h5 =>
 oP (oNew h5 209 [.nils]) fun x4_6 h6 =>
 oP (oSt 1 h6 x4_6 x9_5) fun _ h7 =>
 oP (oNew h7 60 [.nilf]) fun x5_8 h8 =>
 oB (some (.fn n_walk_Order_1 [] [x1_0, x4_6, x3_1, x5_8])) fun x10_9 =>
 oP (oSt 1 h8 x5_8 x10_9) fun _ h10 =>
 oB (oLd h10 x5_8) fun x11_11 =>
 oP (wOf (.callV (.c x11_11) [(.c (I 0))]) call .e h10) fun x12_12 h12 =>
 oB (oLd h12 x3_1) fun x13_13 =>
 oP (call n_slices_Clone_int_int [x13_13] h12) fun x14_14 h14 =>
 some (x14_14, h14)
theorem o_walk_Order : FnOK Tryz.prog n_walk_Order (a1 f_walk_Order) := ok1 mixed Tryz.func91 (by kernel_rfl)
/- corrector/walk.Span -/
noncomputable def f_walk_Span (n : Nat) (call : Caller)  (x0 x1 : AV) (h : AH) : Ans :=
 oP (oNew h 120 (AV.cells x1)) fun x3_0 h0 =>
 oP (oNew h0 146 [(I 0), (I 0)]) fun x4_1 h1 =>
 oB (oFA 1 x3_0) fun x10_2 =>
 oB (oLd h1 x10_2) fun x11_3 =>
 oB (oFA 2 x3_0) fun x12_4 =>
 oB (oLd h1 x12_4) fun x13_5 =>
 oP (call n_walk_ends [x0, x11_3, x13_5] h1) fun x14_6 h6 =>
 oB (oTa 146 (.agg [(I 0), (I 0)]) true x14_6) fun x17_7 =>
 oB (oEx 0 x17_7) fun x18_8 =>
 oB (oEx 1 x17_7) fun x19_9 =>
 oP (oNew h6 146 [(I 0), (I 0)]) fun x6_10 h10 =>
 oP (oSt 2 h10 x6_10 x18_8) fun _ h11 =>
 ci x19_9 (
 oB (oLdN 2 h11 x6_10) fun x21_12 =>
 oP (oSt 2 h11 x4_1 x21_12) fun _ h13 =>
 retT [(4, some (some 2))] (sput 4 Tr.e x4_1) h13) (
 oB (oTa 3 (I 0) false x14_6) fun x23_14 =>
 oB (oBuild [(I 0), (I 0)] [(0, 1, x23_14), (1, 1, x23_14)]) fun x26_15 =>
 oP (oSt 2 h11 x4_1 x26_15) fun _ h16 =>
 retT [(4, some (some 2))] (sput 4 Tr.e x4_1) h16)
theorem o_walk_Span : FnOK Tryz.prog n_walk_Span (a2 f_walk_Span) := ok2 mixed Tryz.func92 (by kernel_rfl)
/- corrector/diag.Sort -/
noncomputable def f_diag_Sort (n : Nat) (call : Caller)  (x0 : AV) (h : AH) : Ans :=
 oP (evW (.mkMap) .e h) fun x9_0 h0 =>
 oB (oLen x0) fun x11_1 =>
 jnF 1 (fun z4_2 h2 =>
 oP (call n_slices_SortFunc_api_Diag_api_Diag [z4_2, (.fn 164 [] [])] h2) fun x34_3 h3 =>
 oP (call n_slices_Clone_api_Diag_api_Diag [z4_2] h3) fun x36_4 h4 =>
 some (x36_4, h4)) fun j2 =>
 lpF 5 n (fun f5 y12_5 y11_5 y10_5 y4_5 y3_5 h5 =>
 oB (bLt y12_5 y11_5) fun x13_6 =>
 ci x13_6 (
 jnF 5 (fun z12_7 z11_7 z10_7 z4_7 z3_7 h7 =>
 oB (bAdd z12_7 (I 1)) fun x32_8 =>
 f5 x32_8 z11_7 z10_7 z4_7 z3_7 h7) fun j7 =>
 oB (oIx 3 y10_5 y12_5) fun x14_9 =>
 oB (oLdN 3 h5 x14_9) fun x15_10 =>
 oP (oNew h5 112 [(I 0), (I 0), (I 0)]) fun x6_11 h11 =>
 oP (oSt 3 h11 x6_11 x15_10) fun _ h12 =>
 oB (oLdN 3 h12 x6_11) fun x18_13 =>
 oB (evQ (.lookup (.is 3) (I 0) true (.c y3_5) (.c x18_13)) .e h12) fun x19_14 =>
 oB (oEx 0 x19_14) fun x20_15 =>
 oB (oEx 1 x19_14) fun x21_16 =>
 oB (evQ (.un .not (.c x21_16)) .e h12) fun x23_17 =>
 jnF 5 (fun z12_18 z11_18 z10_18 z4_18 z3_18 h18 =>
 j7 z12_18 z11_18 z10_18 z4_18 z3_18 h18) fun j18 =>
 ci x23_17 (
 oB (oLdN 3 h12 x6_11) fun x25_19 =>
 oB (oLen y4_5) fun x27_20 =>
 oP (evW (.mapUpd (.is 3) (.c y3_5) (.c x25_19) (.c x27_20)) .e h12) fun _ h21 =>
 oB (oLdN 3 h21 x6_11) fun x29_22 =>
 oP (oBuildSl h21 112 3 1 [(I 0), (I 0), (I 0)] [(0, 3, x29_22)]) fun x30_23 h23 =>
 oP (evW (.append 112 3 24 [(I 0), (I 0), (I 0)] (.c y4_5) (.c x30_23)) .e h23) fun x31_24 h24 =>
 j18 y12_5 y11_5 y10_5 x31_24 y3_5 h24) (
 j18 y12_5 y11_5 y10_5 y4_5 y3_5 h12)) (
 j2 y4_5 h5)) (I 0) x11_1 x0 .nils x9_0 h0
theorem o_diag_Sort : FnOK Tryz.prog n_diag_Sort (a1 f_diag_Sort) := ok1 mixed Tryz.func93 (by kernel_rfl)
/- slices.Concat[[]corrector/api.Diag,corrector/api.Diag] -/
noncomputable def f_slices_Concat_api_Diag_api_Diag (n : Nat) (call : Caller)  (x0 : AV) (h : AH) : Ans :=
 oB (oLen x0) fun x10_0 =>
 jnF 2 (fun z3_1 z0_1 h1 =>
 oP (call n_slices_Grow_api_Diag_api_Diag [.nils, z3_1] h1) fun x24_2 h2 =>
 oB (oLen z0_1) fun x26_3 =>
 jnF 1 (fun z6_4 h4 =>
 some (z6_4, h4)) fun j4 =>
 lpF 4 n (fun f5 y27_5 y26_5 y25_5 y6_5 h5 =>
 oB (bLt y27_5 y26_5) fun x28_6 =>
 ci x28_6 (
 jnF 4 (fun z27_7 z26_7 z25_7 z6_7 h7 =>
 oB (bAdd z27_7 (I 1)) fun x34_8 =>
 f5 x34_8 z26_7 z25_7 z6_7 h7) fun j7 =>
 oB (oIx 1 y25_5 y27_5) fun x29_9 =>
 oB (oLd h5 x29_9) fun x30_10 =>
 oP (evW (.append 112 3 24 [(I 0), (I 0), (I 0)] (.c y6_5) (.c x30_10)) .e h5) fun x33_11 h11 =>
 j7 y27_5 y26_5 y25_5 x33_11 h11) (
 j4 y6_5 h5)) (I 0) x26_3 z0_1 x24_2 h2) fun j1 =>
 lpF 5 n (fun f12 y11_12 y10_12 y9_12 y3_12 y0_12 h12 =>
 oB (bLt y11_12 y10_12) fun x12_13 =>
 ci x12_13 (
 jnF 5 (fun z11_14 z10_14 z9_14 z3_14 z0_14 h14 =>
 oB (bAdd z11_14 (I 1)) fun x22_15 =>
 f12 x22_15 z10_14 z9_14 z3_14 z0_14 h14) fun j14 =>
 oB (oIx 1 y9_12 y11_12) fun x13_16 =>
 oB (oLd h12 x13_16) fun x14_17 =>
 oB (oLen x14_17) fun x17_18 =>
 oB (bAdd y3_12 x17_18) fun x18_19 =>
 oB (bLt x18_19 (I 0)) fun x20_20 =>
 jnF 5 (fun z11_21 z10_21 z9_21 z3_21 z0_21 h21 =>
 j14 z11_21 z10_21 z9_21 z3_21 z0_21 h21) fun j21 =>
 ci x20_20 (
 oB (some (.iface 9 (.str [108, 101, 110, 32, 111, 117, 116, 32, 111, 102, 32, 114, 97, 110, 103, 101]))) fun x21_22 =>
 oB (evQ (.bad) .e h12) fun _ =>
 j21 y11_12 y10_12 y9_12 x18_19 y0_12 h12) (
 j21 y11_12 y10_12 y9_12 x18_19 y0_12 h12)) (
 j1 y3_12 y0_12 h12)) (I 0) x10_0 x0 (I 0) x0 h
theorem o_slices_Concat_api_Diag_api_Diag : FnOK Tryz.prog n_slices_Concat_api_Diag_api_Diag (a1 f_slices_Concat_api_Diag_api_Diag) := ok1 mixed Tryz.func94 (by kernel_rfl)
/- corrector/diag.place -/
noncomputable def f_diag_place (n : Nat) (call : Caller)  (x0 x1 : AV) (h : AH) : Ans :=
 oP (call n_lines_Place [x0, x1] h) fun x10_0 h0 =>
 oB (oEx 0 x10_0) fun x11_1 =>
 oB (oEx 1 x10_0) fun x12_2 =>
 oP (call n_strconv_Itoa [x11_1] h0) fun x14_3 h3 =>
 oB (bAdd x14_3 (.str [58])) fun x15_4 =>
 oP (call n_strconv_Itoa [x12_2] h3) fun x17_5 h5 =>
 oB (bAdd x15_4 x17_5) fun x18_6 =>
 some (x18_6, h5)
theorem o_diag_place : FnOK Tryz.prog n_diag_place (a2 f_diag_place) := ok2 mixed Tryz.func95 (by kernel_rfl)
/- corrector/diag.Text -/
noncomputable def f_diag_Text (n : Nat) (call : Caller)  (x0 : AV) (h : AH) : Ans :=
 oB (bLt x0 (I 1)) fun x4_0 =>
 oB (gq x4_0 false (some x0)) fun x6_1 =>
 oB (gq x4_0 false (bGt x6_1 (I 11))) fun x7_2 =>
 oB (oPick x4_0 (.bool true) x7_2) fun x8_3 =>
 ci x8_3 (
 oP (call n_diag_words [] h) fun x9_4 h4 =>
 oB (oIx 1 x9_4 (I 0)) fun x10_5 =>
 oB (oLd h4 x10_5) fun x11_6 =>
 some (x11_6, h4)) (
 oP (call n_diag_words [] h) fun x12_7 h7 =>
 oB (oIx 1 x12_7 x0) fun x14_8 =>
 oB (oLd h7 x14_8) fun x15_9 =>
 some (x15_9, h7))
theorem o_diag_Text : FnOK Tryz.prog n_diag_Text (a1 f_diag_Text) := ok1 mixed Tryz.func96 (by kernel_rfl)
/- corrector/rows.Rows -/
noncomputable def f_rows_Rows (n : Nat) (call : Caller)  (x0 x1 : AV) (h : AH) : Ans :=
 oP (oNew h 89 (AV.cells x1)) fun x3_0 h0 =>
 scF n fun m1 => jnF 6 (lpF 6 m1 fun f1 y10_1 y9_1 y8_1 y6_1 y5_1 y3_1 h1 =>
 oB (oLd h1 y3_1) fun x13_2 =>
 oB (oLen x13_2) fun x14_3 =>
 oB (bLt y10_1 x14_3) fun x15_4 =>
 ci x15_4 (
 oB' (nx 7 h1) fun h5 =>
 oB (oLd h5 y3_1) fun x16_6 =>
 oB (oIx 3 x16_6 y10_1) fun x18_7 =>
 oB (oLdN 3 h5 x18_7) fun x19_8 =>
 oB (oLd h5 y8_1) fun x20_9 =>
 oP (call n_rows_brackets [x19_8, x20_9] h5) fun x21_10 h10 =>
 oP (oSt 1 h10 y8_1 x21_10) fun _ h11 =>
 oB (oLd h11 y3_1) fun x22_12 =>
 oB (oIx 3 x22_12 y10_1) fun x24_13 =>
 oB (oFA 0 x24_13) fun x25_14 =>
 oB (oLd h11 x25_14) fun x26_15 =>
 oB (bEq .no x26_15 (I 1)) fun x27_16 =>
 oB (gq x27_16 false (oLd h11 y3_1)) fun x29_17 =>
 oB (gq x27_16 false (some y10_1)) fun x30_18 =>
 oB (gq x27_16 false (oIx 3 x29_17 x30_18)) fun x31_19 =>
 oB (gq x27_16 false (oFA 0 x31_19)) fun x32_20 =>
 oB (gq x27_16 false (oLd h11 x32_20)) fun x33_21 =>
 oB (gq x27_16 false (bEq .no x33_21 (I 19))) fun x34_22 =>
 oB (oPick x27_16 (.bool true) x34_22) fun x35_23 =>
 jnF 6 (fun z10_24 z9_24 z8_24 z6_24 z5_24 z3_24 h24 =>
 oB (bAdd z10_24 (I 1)) fun x41_25 =>
 f1 x41_25 z9_24 z8_24 z6_24 z5_24 z3_24 h24) fun j24 =>
 ci x35_23 (
 oB (bAdd y10_1 (I 1)) fun x38_26 =>
 oP (wOf (.callV (.c y9_1) [(.c x38_26)]) call .e h11) fun x39_27 h27 =>
 j24 y10_1 y9_1 y8_1 y6_1 y5_1 y3_1 h27) (
 j24 y10_1 y9_1 y8_1 y6_1 y5_1 y3_1 h11)) (
 oB (oLd h1 y6_1) fun x42_28 =>
 oB (oLd h1 y3_1) fun x43_29 =>
 oB (oLen x43_29) fun x44_30 =>
 oB (bLt x42_28 x44_30) fun x45_31 =>
 jnF 1 (fun z5_32 h32 =>
 oB (oLd h32 z5_32) fun x50_33 =>
 oP (call n_slices_Clone_api_Row_api_Row [x50_33] h32) fun x51_34 h34 =>
 some (x51_34, h34)) fun j32 =>
 ci x45_31 (
 oB (oLd h1 y3_1) fun x47_35 =>
 oB (oLen x47_35) fun x48_36 =>
 oP (wOf (.callV (.c y9_1) [(.c x48_36)]) call .e h1) fun x49_37 h37 =>
 j32 y5_1 h37) (
 j32 y5_1 h1))) fun f1 =>
 oP (oNew h0 152 [.nils]) fun x5_38 h38 =>
 oP (oNew h38 3 [(I 0)]) fun x6_39 h39 =>
 oP (oNew h39 3 [(I 0)]) fun x7_40 h40 =>
 oP (oNew h40 3 [(I 0)]) fun x8_41 h41 =>
 oP (oSt 1 h41 x6_39 (I 0)) fun _ h42 =>
 oP (oSt 1 h42 x7_40 (I 0)) fun _ h43 =>
 oP (oSt 1 h43 x8_41 (I 0)) fun _ h44 =>
 oB (some (.fn n_rows_Rows_1 [] [x6_39, x3_0, x7_40, x5_38, x8_41])) fun x11_45 =>
 oB (oLd h44 x3_0) fun x13_46 =>
 oB (oLen x13_46) fun x14_47 =>
 oB (bLt (I 0) x14_47) fun x15_48 =>
 ci x15_48 (
 oB' (nx 7 h44) fun h49 =>
 oB (oLd h49 x3_0) fun x16_50 =>
 oB (oIx 3 x16_50 (I 0)) fun x18_51 =>
 oB (oLdN 3 h49 x18_51) fun x19_52 =>
 oB (oLd h49 x8_41) fun x20_53 =>
 oP (call n_rows_brackets [x19_52, x20_53] h49) fun x21_54 h54 =>
 oP (oSt 1 h54 x8_41 x21_54) fun _ h55 =>
 oB (oLd h55 x3_0) fun x22_56 =>
 oB (oIx 3 x22_56 (I 0)) fun x24_57 =>
 oB (oFA 0 x24_57) fun x25_58 =>
 oB (oLd h55 x25_58) fun x26_59 =>
 oB (bEq .no x26_59 (I 1)) fun x27_60 =>
 oB (gq x27_60 false (oLd h55 x3_0)) fun x29_61 =>
 oB (gq x27_60 false (some (I 0))) fun x30_62 =>
 oB (gq x27_60 false (oIx 3 x29_61 x30_62)) fun x31_63 =>
 oB (gq x27_60 false (oFA 0 x31_63)) fun x32_64 =>
 oB (gq x27_60 false (oLd h55 x32_64)) fun x33_65 =>
 oB (gq x27_60 false (bEq .no x33_65 (I 19))) fun x34_66 =>
 oB (oPick x27_60 (.bool true) x34_66) fun x35_67 =>
 jnF 6 (fun z10_68 z9_68 z8_68 z6_68 z5_68 z3_68 h68 =>
 oB (bAdd z10_68 (I 1)) fun x41_69 =>
 f1 x41_69 z9_68 z8_68 z6_68 z5_68 z3_68 h68) fun j68 =>
 ci x35_67 (
 oB (bAdd (I 0) (I 1)) fun x38_70 =>
 oP (wOf (.callV (.c x11_45) [(.c x38_70)]) call .e h55) fun x39_71 h71 =>
 j68 (I 0) x11_45 x8_41 x6_39 x5_38 x3_0 h71) (
 j68 (I 0) x11_45 x8_41 x6_39 x5_38 x3_0 h55)) (
 oB (oLd h44 x6_39) fun x42_72 =>
 oB (oLd h44 x3_0) fun x43_73 =>
 oB (oLen x43_73) fun x44_74 =>
 oB (bLt x42_72 x44_74) fun x45_75 =>
 jnF 1 (fun z5_76 h76 =>
 oB (oLd h76 z5_76) fun x50_77 =>
 oP (call n_slices_Clone_api_Row_api_Row [x50_77] h76) fun x51_78 h78 =>
 some (x51_78, h78)) fun j76 =>
 ci x45_75 (
 oB (oLd h44 x3_0) fun x47_79 =>
 oB (oLen x47_79) fun x48_80 =>
 oP (wOf (.callV (.c x11_45) [(.c x48_80)]) call .e h44) fun x49_81 h81 =>
 j76 x5_38 h81) (
 j76 x5_38 h44))
theorem o_rows_Rows : FnOK Tryz.prog n_rows_Rows (a2 f_rows_Rows) := ok2 mixed Tryz.func97 (by kernel_rfl)
/- corrector/arena.New -/
noncomputable def f_arena_New (n : Nat) (call : Caller)  (x0 : AV) (h : AH) : Ans :=
 oP (oNew h 100 [.nils]) fun x2_0 h0 =>
 oB (bLt x0 (I 0)) fun x4_1 =>
 oB (gq x4_1 false (some x0)) fun x6_2 =>
 oB (gq x4_1 false (bGt x6_2 (I 32768))) fun x7_3 =>
 oB (oPick x4_1 (.bool true) x7_3) fun x8_4 =>
 jnF 2 (fun z2_5 z0_5 h5 =>
 oB (oBuild [(I 0), (I 0), (I 0), (I 0), .nils, (.bool false)] [(0, 1, (I 1)), (2, 1, z0_5), (3, 1, (Ineg 0))]) fun x10_6 =>
 oP (oBuildSl h5 120 6 1 [(I 0), (I 0), (I 0), (I 0), .nils, (.bool false)] [(0, 6, x10_6)]) fun x11_7 h7 =>
 oB (oBuild [.nils] [(0, 1, x11_7)]) fun x12_8 =>
 oP (oSt 1 h7 z2_5 x12_8) fun _ h9 =>
 retT [(2, some (some 1))] (sput 2 Tr.e z2_5) h9) fun j5 =>
 ci x8_4 (
 j5 x2_0 (I 0) h0) (
 j5 x2_0 x0 h0)
theorem o_arena_New : FnOK Tryz.prog n_arena_New (a1 f_arena_New) := ok1 mixed Tryz.func98 (by kernel_rfl)
/- (*corrector/parse.parser).row -/
noncomputable def f_parse_parser_row (n : Nat) (call : Caller)  (x0 x1 : AV) (h : AH) : Ans :=
 oB (oNil x0) fun x10_0 =>
 oB (oFA 2 x10_0) fun x11_1 =>
 oB (oLd h x11_1) fun x12_2 =>
 oB (oIx 4 x12_2 x1) fun x14_3 =>
 oB (oLdN 4 h x14_3) fun x15_4 =>
 oP (oNew h 218 [(I 0), (I 0), (I 0), (I 0)]) fun x5_5 h5 =>
 oP (oSt 4 h5 x5_5 x15_4) fun _ h6 =>
 oB (oNil x0) fun x17_7 =>
 oB (oFA 9 x17_7) fun x18_8 =>
 oP (oSt 1 h6 x18_8 (Ineg 0)) fun _ h9 =>
 oB (oFA 1 x5_5) fun x20_10 =>
 oB (oLd h9 x20_10) fun x21_11 =>
 oB (oFA 2 x5_5) fun x22_12 =>
 oB (oLd h9 x22_12) fun x23_13 =>
 oP (call n_parse_parser_first [x0, x21_11, x23_13] h9) fun x24_14 h14 =>
 oB (oFA 0 x5_5) fun x25_15 =>
 oB (oLd h14 x25_15) fun x26_16 =>
 jnF 1 (fun z1_17 h17 =>
 oB (bAdd z1_17 (I 1)) fun x73_18 =>
 some (x73_18, h17)) fun j17 =>
 oB (bEq .no x26_16 (I 2)) fun x28_19 =>
 jnF 6 (fun z27_20 z26_20 z6_20 z5_20 z1_20 z0_20 h20 =>
 jnF 1 (fun z1_21 h21 =>
 j17 z1_21 h21) fun j21 =>
 ci z27_20 (
 oB (oFA 1 z5_20) fun x31_22 =>
 oB (oLd h20 x31_22) fun x32_23 =>
 oB (oFA 2 z5_20) fun x33_24 =>
 oB (oLd h20 x33_24) fun x34_25 =>
 oP (call n_parse_parser_amiss [z0_20, (I 8), x32_23, x34_25] h20) fun x35_26 h26 =>
 j21 z1_20 h26) (
 oB (bEq .no z26_20 (I 4)) fun x37_27 =>
 ci x37_27 (
 oP (call n_parse_parser_mark [z0_20, z1_20, z6_20] h20) fun x41_28 h28 =>
 some (x41_28, h28)) (
 oB (bEq .no z26_20 (I 5)) fun x43_29 =>
 ci x43_29 (
 oP (call n_parse_parser_document [z0_20, z6_20] h20) fun x46_30 h30 =>
 oB' (nx 15 h30) fun h31 =>
 oB (oNil z0_20) fun x49_32 =>
 oB (oFA 0 x49_32) fun x50_33 =>
 oB (oLd h31 x50_33) fun x51_34 =>
 oB (oNil z0_20) fun x53_35 =>
 oB (oFA 1 x53_35) fun x54_36 =>
 oB (oLd h31 x54_36) fun x55_37 =>
 oB (oLdN 4 h31 z5_20) fun x56_38 =>
 oP (call n_rows_Entries [x51_34, x55_37, x56_38] h31) fun x57_39 h39 =>
 oB (oEx 0 x57_39) fun x58_40 =>
 oB (oEx 1 x57_39) fun x59_41 =>
 oB (oLen x58_40) fun x61_42 =>
 oB (bEq .no x61_42 (I 0)) fun x62_43 =>
 ci x62_43 (
 oP (call n_parse_parser_loose [z0_20, z1_20, z6_20] h39) fun x66_44 h44 =>
 some (x66_44, h44)) (
 oP (call n_parse_parser_entries [z0_20, z1_20, x58_40, x59_41] h39) fun x71_45 h45 =>
 some (x71_45, h45))) (
 j21 z1_20 h20)))) fun j20 =>
 ci x28_19 (
 j20 x28_19 x26_16 x24_14 x5_5 x1 x0 h14) (
 oB (bEq .no x26_16 (I 3)) fun x29_46 =>
 j20 x29_46 x26_16 x24_14 x5_5 x1 x0 h14)
theorem o_parse_parser_row : FnOK Tryz.prog n_parse_parser_row (a2 f_parse_parser_row) := ok2 mixed Tryz.func99 (by kernel_rfl)
/- (*corrector/parse.parser).told -/
noncomputable def f_parse_parser_told (n : Nat) (call : Caller)  (x0 : AV) (h : AH) : Ans :=
 oB (oNil x0) fun x9_0 =>
 oB (oFA 0 x9_0) fun x10_1 =>
 oB (oLd h x10_1) fun x11_2 =>
 oP (call n_runes_Bad [x11_2] h) fun x12_3 h3 =>
 oB (oLen x12_3) fun x13_4 =>
 jnF 1 (fun z0_5 h5 =>
 oB (oNil z0_5) fun x25_6 =>
 oB (oFA 2 x25_6) fun x26_7 =>
 oB (oLd h5 x26_7) fun x27_8 =>
 oB (oLen x27_8) fun x28_9 =>
 jnF 1 (fun z0_10 h10 =>
 oB (oNil z0_10) fun x41_11 =>
 oB (oFA 1 x41_11) fun x42_12 =>
 oB (oLd h10 x42_12) fun x43_13 =>
 oB (oLen x43_13) fun x44_14 =>
 jnF 1 (fun z0_15 h15 =>
 oB (oNil z0_15) fun x62_16 =>
 oB (oFA 5 x62_16) fun x63_17 =>
 oB (oLd h15 x63_17) fun x64_18 =>
 oP (call n_slices_SortFunc_api_Diag_api_Diag [x64_18, (.fn 183 [] [])] h15) fun x65_19 h19 =>
 oB (oNil z0_15) fun x68_20 =>
 oB (oFA 5 x68_20) fun x69_21 =>
 oB (oLd h19 x69_21) fun x70_22 =>
 oP (call n_slices_Compact_api_Diag_api_Diag [x70_22] h19) fun x71_23 h23 =>
 oP (call n_slices_Clone_api_Diag_api_Diag [x71_23] h23) fun x72_24 h24 =>
 oB (oNil z0_15) fun x73_25 =>
 oB (oFA 5 x73_25) fun x74_26 =>
 oP (oSt 1 h24 x74_26 x72_24) fun _ h27 =>
 some (.tup [], h27)) fun j15 =>
 lpF 4 n (fun f28 y45_28 y44_28 y43_28 y0_28 h28 =>
 oB (bLt y45_28 y44_28) fun x46_29 =>
 ci x46_29 (
 jnF 4 (fun z45_30 z44_30 z43_30 z0_30 h30 =>
 oB (bAdd z45_30 (I 1)) fun x60_31 =>
 f28 x60_31 z44_30 z43_30 z0_30 h30) fun j30 =>
 oB (oIx 3 y43_28 y45_28) fun x47_32 =>
 oB (oLdN 3 h28 x47_32) fun x48_33 =>
 oP (oNew h28 92 [(I 0), (I 0), (I 0)]) fun x7_34 h34 =>
 oP (oSt 3 h34 x7_34 x48_33) fun _ h35 =>
 oB (oFA 0 x7_34) fun x49_36 =>
 oB (oLd h35 x49_36) fun x50_37 =>
 oB (bEq .no x50_37 (I 16)) fun x51_38 =>
 oB (gq x51_38 false (oFA 0 x7_34)) fun x53_39 =>
 oB (gq x51_38 false (oLd h35 x53_39)) fun x54_40 =>
 oB (gq x51_38 false (bEq .no x54_40 (I 17))) fun x55_41 =>
 oB (oPick x51_38 (.bool true) x55_41) fun x56_42 =>
 jnF 4 (fun z45_43 z44_43 z43_43 z0_43 h43 =>
 j30 z45_43 z44_43 z43_43 z0_43 h43) fun j43 =>
 ci x56_42 (
 oB (oLdN 3 h35 x7_34) fun x58_44 =>
 oP (call n_parse_parser_quoted [y0_28, x58_44] h35) fun x59_45 h45 =>
 j43 y45_28 y44_28 y43_28 y0_28 h45) (
 j43 y45_28 y44_28 y43_28 y0_28 h35)) (
 j15 y0_28 h28)) (I 0) x44_14 x43_13 z0_10 h10) fun j10 =>
 lpF 4 n (fun f46 y29_46 y28_46 y27_46 y0_46 h46 =>
 oB (bLt y29_46 y28_46) fun x30_47 =>
 ci x30_47 (
 jnF 4 (fun z29_48 z28_48 z27_48 z0_48 h48 =>
 oB (bAdd z29_48 (I 1)) fun x39_49 =>
 f46 x39_49 z28_48 z27_48 z0_48 h48) fun j48 =>
 oB (oIx 4 y27_46 y29_46) fun x31_50 =>
 oB (oLdN 4 h46 x31_50) fun x32_51 =>
 oP (oNew h46 218 [(I 0), (I 0), (I 0), (I 0)]) fun x5_52 h52 =>
 oP (oSt 4 h52 x5_52 x32_51) fun _ h53 =>
 oB (oFA 0 x5_52) fun x33_54 =>
 oB (oLd h53 x33_54) fun x34_55 =>
 oB (bEq .no x34_55 (I 5)) fun x35_56 =>
 jnF 4 (fun z29_57 z28_57 z27_57 z0_57 h57 =>
 j48 z29_57 z28_57 z27_57 z0_57 h57) fun j57 =>
 ci x35_56 (
 oB (oLdN 4 h53 x5_52) fun x37_58 =>
 oP (call n_parse_parser_tabs [y0_46, x37_58] h53) fun x38_59 h59 =>
 j57 y29_46 y28_46 y27_46 y0_46 h59) (
 j57 y29_46 y28_46 y27_46 y0_46 h53)) (
 j10 y0_46 h46)) (I 0) x28_9 x27_8 z0_5 h5) fun j5 =>
 lpF 4 n (fun f60 y14_60 y13_60 y12_60 y0_60 h60 =>
 oB (bLt y14_60 y13_60) fun x15_61 =>
 ci x15_61 (
 jnF 4 (fun z14_62 z13_62 z12_62 z0_62 h62 =>
 oB (bAdd z14_62 (I 1)) fun x23_63 =>
 f60 x23_63 z13_62 z12_62 z0_62 h62) fun j62 =>
 oB (oIx 1 y12_60 y14_60) fun x16_64 =>
 oB (oLd h60 x16_64) fun x17_65 =>
 oB (bAdd x17_65 (I 1)) fun x21_66 =>
 oP (call n_parse_parser_tell [y0_60, (I 1), x17_65, x21_66] h60) fun x22_67 h67 =>
 j62 y14_60 y13_60 y12_60 y0_60 h67) (
 j5 y0_60 h60)) (I 0) x13_4 x12_3 x0 h3
theorem o_parse_parser_told : FnOK Tryz.prog n_parse_parser_told (a1 f_parse_parser_told) := ok1 mixed Tryz.func100 (by kernel_rfl)
/- corrector/graph.fits -/
noncomputable def f_graph_fits (n : Nat) (call : Caller)  (x0 x1 x2 : AV) (h : AH) : Ans :=
 oP (oNew h 100 (AV.cells x2)) fun x5_0 h0 =>
 oB (oLen x1) fun x11_1 =>
 jnF 4 (fun z7_2 z5_2 z1_2 z0_2 h2 =>
 oB (oLen z0_2) fun x31_3 =>
 oB (bEq .no z7_2 x31_3) fun x32_4 =>
 oB (gq x32_4 true (oLdN 1 h2 z5_2)) fun x34_5 =>
 oB (gq x32_4 true (some z1_2)) fun x35_6 =>
 oB (gq x32_4 true (oLen x35_6)) fun x36_7 =>
 oP (gw x32_4 true (call n_arena_Check [x34_5, x36_7] h2) h2) fun x37_8 h8 =>
 oB (oPick x32_4 x37_8 (.bool false)) fun x38_9 =>
 some (x38_9, h8)) fun j2 =>
 lpF 7 n (fun f10 y12_10 y11_10 y10_10 y7_10 y5_10 y1_10 y0_10 h10 =>
 oB (bLt y12_10 y11_10) fun x13_11 =>
 ci x13_11 (
 jnF 7 (fun z12_12 z11_12 z10_12 z7_12 z5_12 z1_12 z0_12 h12 =>
 oB (bAdd z12_12 (I 1)) fun x28_13 =>
 f10 x28_13 z11_12 z10_12 z7_12 z5_12 z1_12 z0_12 h12) fun j12 =>
 oB (oIx 3 y10_10 y12_10) fun x14_14 =>
 oB (oLdN 3 h10 x14_14) fun x15_15 =>
 oP (oNew h10 92 [(I 0), (I 0), (I 0)]) fun x9_16 h16 =>
 oP (oSt 3 h16 x9_16 x15_15) fun _ h17 =>
 oB (oFA 1 x9_16) fun x16_18 =>
 oB (oLd h17 x16_18) fun x17_19 =>
 oB (bNe .no x17_19 y7_10) fun x19_20 =>
 oB (gq x19_20 false (oFA 2 x9_16)) fun x21_21 =>
 oB (gq x19_20 false (oLd h17 x21_21)) fun x22_22 =>
 oB (gq x19_20 false (some y7_10)) fun x23_23 =>
 oB (gq x19_20 false (bLe x22_22 x23_23)) fun x24_24 =>
 oB (oPick x19_20 (.bool true) x24_24) fun x25_25 =>
 ci x25_25 (
 some ((.bool false), h17)) (
 oB (oFA 2 x9_16) fun x26_26 =>
 oB (oLd h17 x26_26) fun x27_27 =>
 j12 y12_10 y11_10 y10_10 x27_27 y5_10 y1_10 y0_10 h17)) (
 j2 y7_10 y5_10 y1_10 y0_10 h10)) (I 0) x11_1 x1 (I 0) x5_0 x1 x0 h0
theorem o_graph_fits : FnOK Tryz.prog n_graph_fits (a3 f_graph_fits) := ok3 mixed Tryz.func101 (by kernel_rfl)
/- (*corrector/graph.composer).node -/
noncomputable def f_graph_composer_node (n : Nat) (call : Caller)  (x0 x1 : AV) (h : AH) : Ans :=
 oB (oNil x0) fun x8_0 =>
 oB (oFA 2 x8_0) fun x9_1 =>
 oB (oFA 0 x9_1) fun x10_2 =>
 oB (oLd h x10_2) fun x11_3 =>
 oB (oIx 6 x11_3 x1) fun x13_4 =>
 oB (oLdN 6 h x13_4) fun x14_5 =>
 oP (oNew h 120 [(I 0), (I 0), (I 0), (I 0), .nils, (.bool false)]) fun x5_6 h6 =>
 oP (oSt 6 h6 x5_6 x14_5) fun _ h7 =>
 oB (oFA 0 x5_6) fun x15_8 =>
 oB (oLd h7 x15_8) fun x16_9 =>
 jnF 3 (fun z6_10 z1_10 z0_10 h10 =>
 oB (oNil z0_10) fun x84_11 =>
 oB (oFA 3 x84_11) fun x85_12 =>
 oB (oFA 2 x85_12) fun x86_13 =>
 oB (oLd h10 x86_13) fun x87_14 =>
 oB (oIx 1 x87_14 z1_10) fun x90_15 =>
 oP (oSt 1 h10 x90_15 z6_10) fun _ h16 =>
 some (z6_10, h16)) fun j10 =>
 oB (bEq .no x16_9 (I 2)) fun x18_17 =>
 jnF 6 (fun z17_18 z16_18 z6_18 z5_18 z1_18 z0_18 h18 =>
 jnF 3 (fun z6_19 z1_19 z0_19 h19 =>
 j10 z6_19 z1_19 z0_19 h19) fun j19 =>
 ci z17_18 (
 oB (oLdN 6 h18 z5_18) fun x21_20 =>
 oP (call n_graph_composer_first [z0_18, x21_20] h18) fun x22_21 h21 =>
 j19 x22_21 z1_18 z0_18 h21) (
 oB (bEq .no z16_18 (I 7)) fun x24_22 =>
 jnF 3 (fun z6_23 z1_23 z0_23 h23 =>
 j19 z6_23 z1_23 z0_23 h23) fun j23 =>
 ci x24_22 (
 oB' (nx 11 h18) fun h24 =>
 oB (oLdN 6 h24 z5_18) fun x27_25 =>
 oP (call n_graph_composer_own [z0_18, x27_25] h24) fun x28_26 h26 =>
 oB (oLdN 6 h26 z5_18) fun x31_27 =>
 oP (call n_graph_composer_own [z0_18, x31_27] h26) fun x32_28 h28 =>
 oP (call n_graph_composer_scalar [z0_18, x32_28] h28) fun x33_29 h29 =>
 oP (call n_graph_composer_named [z0_18, x28_26, x33_29] h29) fun x34_30 h30 =>
 ask1 true (oLdN 6 h24 z5_18) x27_25 (
 ask1 true (oLdN 6 h24 z5_18) x31_27 (
 ask1 true (oLdN 6 h26 z5_18) x31_27 (
 j23 x34_30 z1_18 z0_18 h30)))) (
 oB (bEq .no z16_18 (I 8)) fun x36_31 =>
 jnF 3 (fun z6_32 z1_32 z0_32 h32 =>
 j23 z6_32 z1_32 z0_32 h32) fun j32 =>
 ci x36_31 (
 oB' (nx 11 h18) fun h33 =>
 oB (oLdN 6 h33 z5_18) fun x39_34 =>
 oP (call n_graph_composer_own [z0_18, x39_34] h33) fun x40_35 h35 =>
 oB (oLdN 6 h35 z5_18) fun x43_36 =>
 oP (call n_graph_composer_own [z0_18, x43_36] h35) fun x44_37 h37 =>
 oP (call n_graph_composer_alias [z0_18, x44_37] h37) fun x45_38 h38 =>
 oP (call n_graph_composer_named [z0_18, x40_35, x45_38] h38) fun x46_39 h39 =>
 ask1 true (oLdN 6 h33 z5_18) x39_34 (
 ask1 true (oLdN 6 h33 z5_18) x43_36 (
 ask1 true (oLdN 6 h35 z5_18) x43_36 (
 j32 x46_39 z1_18 z0_18 h39)))) (
 oB (bEq .no z16_18 (I 3)) fun x48_40 =>
 jnF 3 (fun z6_41 z1_41 z0_41 h41 =>
 j32 z6_41 z1_41 z0_41 h41) fun j41 =>
 ci x48_40 (
 oB (oLdN 6 h18 z5_18) fun x50_42 =>
 oP (call n_graph_composer_collection [z0_18, x50_42, (I 6), .nils] h18) fun x51_43 h43 =>
 j41 x51_43 z1_18 z0_18 h43) (
 oB (bEq .no z16_18 (I 5)) fun x53_44 =>
 jnF 3 (fun z6_45 z1_45 z0_45 h45 =>
 j41 z6_45 z1_45 z0_45 h45) fun j45 =>
 ci x53_44 (
 oB (oLdN 6 h18 z5_18) fun x55_46 =>
 oP (call n_graph_composer_collection [z0_18, x55_46, (I 7), .nils] h18) fun x56_47 h47 =>
 j45 x56_47 z1_18 z0_18 h47) (
 oB (bEq .no z16_18 (I 9)) fun x58_48 =>
 jnF 3 (fun z6_49 z1_49 z0_49 h49 =>
 j45 z6_49 z1_49 z0_49 h49) fun j49 =>
 ci x58_48 (
 oB' (nx 12 h18) fun h50 =>
 oB (oLdN 6 h50 z5_18) fun x61_51 =>
 oP (call n_graph_composer_own [z0_18, x61_51] h50) fun x62_52 h52 =>
 oB (oLdN 6 h52 z5_18) fun x64_53 =>
 oB (oLdN 6 h52 z5_18) fun x66_54 =>
 oP (call n_graph_composer_own [z0_18, x66_54] h52) fun x67_55 h55 =>
 oP (call n_graph_composer_collection [z0_18, x64_53, (I 6), x67_55] h55) fun x68_56 h56 =>
 oP (call n_graph_composer_named [z0_18, x62_52, x68_56] h56) fun x69_57 h57 =>
 ask1 true (oLdN 6 h50 z5_18) x61_51 (
 ask1 true (oLdN 6 h50 z5_18) x64_53 (
 ask1 true (oLdN 6 h52 z5_18) x64_53 (
 ask1 true (oLdN 6 h55 z5_18) x64_53 (
 ask1 true (oLdN 6 h50 z5_18) x66_54 (
 ask1 true (oLdN 6 h52 z5_18) x66_54 (
 j49 x69_57 z1_18 z0_18 h57))))))) (
 oB (bEq .no z16_18 (I 10)) fun x71_58 =>
 jnF 3 (fun z6_59 z1_59 z0_59 h59 =>
 j49 z6_59 z1_59 z0_59 h59) fun j59 =>
 ci x71_58 (
 oB' (nx 12 h18) fun h60 =>
 oB (oLdN 6 h60 z5_18) fun x74_61 =>
 oP (call n_graph_composer_own [z0_18, x74_61] h60) fun x75_62 h62 =>
 oB (oLdN 6 h62 z5_18) fun x77_63 =>
 oB (oLdN 6 h62 z5_18) fun x79_64 =>
 oP (call n_graph_composer_own [z0_18, x79_64] h62) fun x80_65 h65 =>
 oP (call n_graph_composer_collection [z0_18, x77_63, (I 7), x80_65] h65) fun x81_66 h66 =>
 oP (call n_graph_composer_named [z0_18, x75_62, x81_66] h66) fun x82_67 h67 =>
 ask1 true (oLdN 6 h60 z5_18) x74_61 (
 ask1 true (oLdN 6 h60 z5_18) x77_63 (
 ask1 true (oLdN 6 h62 z5_18) x77_63 (
 ask1 true (oLdN 6 h65 z5_18) x77_63 (
 ask1 true (oLdN 6 h60 z5_18) x79_64 (
 ask1 true (oLdN 6 h62 z5_18) x79_64 (
 j59 x82_67 z1_18 z0_18 h67))))))) (
 j59 z6_18 z1_18 z0_18 h18)))))))) fun j18 =>
 ci x18_17 (
 j18 x18_17 x16_9 (Ineg 0) x5_6 x1 x0 h7) (
 oB (bEq .no x16_9 (I 4)) fun x19_68 =>
 j18 x19_68 x16_9 (Ineg 0) x5_6 x1 x0 h7)
theorem o_graph_composer_node : FnOK Tryz.prog n_graph_composer_node (a2 f_graph_composer_node) := ok2 mixed Tryz.func102 (by kernel_rfl)
/- slices.SortFunc[[]corrector/api.Diag,corrector/api.Diag] -/
noncomputable def f_slices_SortFunc_api_Diag_api_Diag (n : Nat) (call : Caller)  (x0 x1 : AV) (h : AH) : Ans :=
 oB (oLen x0) fun x6_0 =>
 oB (oInt .u64 x6_0) fun x10_1 =>
 oP (call n_math_bits_Len [x10_1] h) fun x11_2 h2 =>
 oP (call n_slices_pdqsortCmpFunc_api_Diag [x0, (I 0), x6_0, x11_2, x1] h2) fun x13_3 h3 =>
 some (.tup [], h3)
theorem o_slices_SortFunc_api_Diag_api_Diag : FnOK Tryz.prog n_slices_SortFunc_api_Diag_api_Diag (a2 f_slices_SortFunc_api_Diag_api_Diag) := ok2 mixed Tryz.func103 (by kernel_rfl)
/- corrector/graph.order -/
noncomputable def f_graph_order (n : Nat) (call : Caller)  (x0 x1 : AV) (h : AH) : Ans :=
 oP (oNew h 112 (AV.cells x0)) fun x2_0 h0 =>
 oP (oNew h0 112 (AV.cells x1)) fun x3_1 h1 =>
 oB' (nx 18 h1) fun h2 =>
 oB (oFA 1 x2_0) fun x5_3 =>
 oB (oLd h2 x5_3) fun x6_4 =>
 oB (oFA 1 x3_1) fun x7_5 =>
 oB (oLd h2 x7_5) fun x8_6 =>
 oP (call n_cmp_Compare_int [x6_4, x8_6] h2) fun x9_7 h7 =>
 oB (oFA 2 x2_0) fun x10_8 =>
 oB (oLd h7 x10_8) fun x11_9 =>
 oB (oFA 2 x3_1) fun x12_10 =>
 oB (oLd h7 x12_10) fun x13_11 =>
 oP (call n_cmp_Compare_int [x11_9, x13_11] h7) fun x14_12 h12 =>
 oB (oFA 0 x2_0) fun x15_13 =>
 oB (oLd h12 x15_13) fun x16_14 =>
 oB (oFA 0 x3_1) fun x17_15 =>
 oB (oLd h12 x17_15) fun x18_16 =>
 oP (call n_cmp_Compare_int [x16_14, x18_16] h12) fun x19_17 h17 =>
 fl1 true (evF (.buildSlice 3 1 3 [(I 0), (I 0), (I 0)] [(0, 1, (.c x9_7)), (1, 1, (.c x14_12)), (2, 1, (.c x19_17))]) .e) (Nat.add h1.next 15) fun x20_18 o18 =>
 oB' (lay1 (Nat.add h1.next 15) o18 h17) fun v19 =>
 oP (call n_cmp_Or_int [x20_18] v19) fun x21_20 h20 =>
 ask1 true (oLd h2 x5_3) x6_4 (
 ask1 true (oLd h2 x7_5) x8_6 (
 ask1 true (oLd h2 x10_8) x11_9 (
 ask1 true (oLd h7 x10_8) x11_9 (
 ask1 true (oLd h2 x12_10) x13_11 (
 ask1 true (oLd h7 x12_10) x13_11 (
 ask1 true (oLd h2 x15_13) x16_14 (
 ask1 true (oLd h7 x15_13) x16_14 (
 ask1 true (oLd h12 x15_13) x16_14 (
 ask1 true (oLd h2 x17_15) x18_16 (
 ask1 true (oLd h7 x17_15) x18_16 (
 ask1 true (oLd h12 x17_15) x18_16 (
 some (x21_20, h20)))))))))))))
theorem o_graph_order : FnOK Tryz.prog n_graph_order (a2 f_graph_order) := ok2 mixed Tryz.func104 (by kernel_rfl)
/- slices.Clone[[]corrector/api.Value,corrector/api.Value] -/
noncomputable def f_slices_Clone_api_Value_api_Value (n : Nat) (call : Caller)  (x0 : AV) (h : AH) : Ans :=
 oB (bEq .sl x0 .nils) fun x4_0 =>
 ci x4_0 (
 some (.nils, h)) (
 oP (oBuildSl h 167 4 0 [] []) fun x5_1 h1 =>
 oP (evW (.append 167 4 64 [(I 0), (.str []), (.str []), .nils] (.c x5_1) (.c x0)) .e h1) fun x7_2 h2 =>
 some (x7_2, h2))
theorem o_slices_Clone_api_Value_api_Value : FnOK Tryz.prog n_slices_Clone_api_Value_api_Value (a1 f_slices_Clone_api_Value_api_Value) := ok1 mixed Tryz.func105 (by kernel_rfl)
/- slices.Clone[[]int,int] -/
noncomputable def f_slices_Clone_int_int (n : Nat) (call : Caller)  (x0 : AV) (h : AH) : Ans :=
 oB (bEq .sl x0 .nils) fun x4_0 =>
 ci x4_0 (
 some (.nils, h)) (
 oP (oBuildSl h 3 1 0 [] []) fun x5_1 h1 =>
 oP (evW (.append 3 1 8 [(I 0)] (.c x5_1) (.c x0)) .e h1) fun x7_2 h2 =>
 some (x7_2, h2))
theorem o_slices_Clone_int_int : FnOK Tryz.prog n_slices_Clone_int_int (a1 f_slices_Clone_int_int) := ok1 mixed Tryz.func106 (by kernel_rfl)
/- slices.Clone[[]corrector/api.Diag,corrector/api.Diag] -/
noncomputable def f_slices_Clone_api_Diag_api_Diag (n : Nat) (call : Caller)  (x0 : AV) (h : AH) : Ans :=
 oB (bEq .sl x0 .nils) fun x4_0 =>
 ci x4_0 (
 some (.nils, h)) (
 oP (oBuildSl h 112 3 0 [] []) fun x5_1 h1 =>
 oP (evW (.append 112 3 24 [(I 0), (I 0), (I 0)] (.c x5_1) (.c x0)) .e h1) fun x7_2 h2 =>
 some (x7_2, h2))
theorem o_slices_Clone_api_Diag_api_Diag : FnOK Tryz.prog n_slices_Clone_api_Diag_api_Diag (a1 f_slices_Clone_api_Diag_api_Diag) := ok1 mixed Tryz.func107 (by kernel_rfl)
/- slices.Compact[[]corrector/api.Diag,corrector/api.Diag] -/
noncomputable def f_slices_Compact_api_Diag_api_Diag (n : Nat) (call : Caller)  (x0 : AV) (h : AH) : Ans :=
 oB (oLen x0) fun x7_0 =>
 oB (bLt x7_0 (I 2)) fun x8_1 =>
 ci x8_1 (
 some (x0, h)) (
 jnF 1 (fun z0_2 h2 =>
 some (z0_2, h2)) fun j2 =>
 lpF 2 n (fun f3 y3_3 y0_3 h3 =>
 oB (oLen y0_3) fun x12_4 =>
 oB (bLt y3_3 x12_4) fun x13_5 =>
 ci x13_5 (
 jnF 2 (fun z3_6 z0_6 h6 =>
 oB (bAdd z3_6 (I 1)) fun x15_7 =>
 f3 x15_7 z0_6 h6) fun j6 =>
 oB' (nx 10 h3) fun h8 =>
 oB (oIx 3 y0_3 y3_3) fun x18_9 =>
 oB (oLdN 3 h8 x18_9) fun x19_10 =>
 oB (bSub y3_3 (I 1)) fun x22_11 =>
 oB (oIx 3 y0_3 x22_11) fun x23_12 =>
 oB (oLdN 3 h8 x23_12) fun x24_13 =>
 oB (bEq (.flat [.i, .i, .i]) x19_10 x24_13) fun x25_14 =>
 ci x25_14 (
 oB (evQ (.sl 3 (.c y0_3) (some (.c y3_3)) none none) .e h8) fun x28_15 =>
 jnF 2 (fun z3_16 z0_16 h16 =>
 oB (evQ (.sl 3 (.c z0_16) (some (.c z3_16)) none none) .e h16) fun x56_17 =>
 oP (evW (.clr 3 [(I 0), (I 0), (I 0)] (.c x56_17)) .e h16) fun _ h18 =>
 oB (evQ (.sl 3 (.c z0_16) none (some (.c z3_16)) none) .e h18) fun x59_19 =>
 some (x59_19, h18)) fun j16 =>
 lpF 4 n (fun f20 y5_20 y4_20 y3_20 y0_20 h20 =>
 oB (oLen y4_20) fun x31_21 =>
 oB (bLt y5_20 x31_21) fun x32_22 =>
 ci x32_22 (
 jnF 4 (fun z5_23 z4_23 z3_23 z0_23 h23 =>
 oB (bAdd z5_23 (I 1)) fun x34_24 =>
 f20 x34_24 z4_23 z3_23 z0_23 h23) fun j23 =>
 oB' (nx 10 h20) fun h25 =>
 oB (oIx 3 y4_20 y5_20) fun x37_26 =>
 oB (oLdN 3 h25 x37_26) fun x38_27 =>
 oB (bSub y5_20 (I 1)) fun x41_28 =>
 oB (oIx 3 y4_20 x41_28) fun x42_29 =>
 oB (oLdN 3 h25 x42_29) fun x43_30 =>
 oB (bNe (.flat [.i, .i, .i]) x38_27 x43_30) fun x44_31 =>
 jnF 4 (fun z5_32 z4_32 z3_32 z0_32 h32 =>
 j23 z5_32 z4_32 z3_32 z0_32 h32) fun j32 =>
 ci x44_31 (
 oB (oIx 3 y4_20 y5_20) fun x49_33 =>
 oB (oLdN 3 h25 x49_33) fun x50_34 =>
 oB (oIx 3 y0_20 y3_20) fun x51_35 =>
 oP (oSt 3 h25 x51_35 x50_34) fun _ h36 =>
 oB (bAdd y3_20 (I 1)) fun x53_37 =>
 j32 y5_20 y4_20 x53_37 y0_20 h36) (
 j32 y5_20 y4_20 y3_20 y0_20 h25)) (
 j16 y3_20 y0_20 h20)) (I 1) x28_15 y3_3 y0_3 h8) (
 j6 y3_3 y0_3 h8)) (
 j2 y0_3 h3)) (I 1) x0 h)
theorem o_slices_Compact_api_Diag_api_Diag : FnOK Tryz.prog n_slices_Compact_api_Diag_api_Diag (a1 f_slices_Compact_api_Diag_api_Diag) := ok1 mixed Tryz.func108 (by kernel_rfl)
/- corrector/equal.count -/
noncomputable def f_equal_count (n : Nat) (call : Caller)  (x0 : AV) (h : AH) : Ans :=
 oP (oNew h 105 (AV.cells x0)) fun x1_0 h0 =>
 oB (oFA 0 x1_0) fun x9_1 =>
 oB (oLd h0 x9_1) fun x10_2 =>
 oB (oLen x10_2) fun x11_3 =>
 jnF 1 (fun z3_4 h4 =>
 some (z3_4, h4)) fun j4 =>
 lpF 4 n (fun f5 y12_5 y11_5 y10_5 y3_5 h5 =>
 oB (bLt y12_5 y11_5) fun x13_6 =>
 ci x13_6 (
 jnF 4 (fun z12_7 z11_7 z10_7 z3_7 h7 =>
 oB (bAdd z12_7 (I 1)) fun x43_8 =>
 f5 x43_8 z11_7 z10_7 z3_7 h7) fun j7 =>
 oB (oIx 4 y10_5 y12_5) fun x14_9 =>
 oB (oLdN 4 h5 x14_9) fun x15_10 =>
 oP (oNew h5 167 [(I 0), (.str []), (.str []), .nils]) fun x5_11 h11 =>
 oP (oSt 4 h11 x5_11 x15_10) fun _ h12 =>
 oB (oFA 3 x5_11) fun x16_13 =>
 oB (oLd h12 x16_13) fun x17_14 =>
 oB (oLen x17_14) fun x18_15 =>
 jnF 5 (fun z12_16 z11_16 z10_16 z6_16 z3_16 h16 =>
 oP (oBuildSl h16 3 1 1 [(I 0)] [(0, 1, z6_16)]) fun x41_17 h17 =>
 oP (evW (.append 3 1 8 [(I 0)] (.c z3_16) (.c x41_17)) .e h17) fun x42_18 h18 =>
 j7 z12_16 z11_16 z10_16 x42_18 h18) fun j16 =>
 lpF 8 n (fun f19 y19_19 y18_19 y17_19 y12_19 y11_19 y10_19 y6_19 y3_19 h19 =>
 oB (bLt y19_19 y18_19) fun x20_20 =>
 ci x20_20 (
 jnF 8 (fun z19_21 z18_21 z17_21 z12_21 z11_21 z10_21 z6_21 z3_21 h21 =>
 oB (bAdd z19_21 (I 1)) fun x38_22 =>
 f19 x38_22 z18_21 z17_21 z12_21 z11_21 z10_21 z6_21 z3_21 h21) fun j21 =>
 oB (oIx 1 y17_19 y19_19) fun x21_23 =>
 oB (oLd h19 x21_23) fun x22_24 =>
 oB (bGe x22_24 (I 0)) fun x24_25 =>
 oB (gq x24_25 true (some x22_24)) fun x26_26 =>
 oB (gq x24_25 true (some y3_19)) fun x27_27 =>
 oB (gq x24_25 true (oLen x27_27)) fun x28_28 =>
 oB (gq x24_25 true (bLt x26_26 x28_28)) fun x29_29 =>
 oB (oPick x24_25 x29_29 (.bool false)) fun x30_30 =>
 jnF 8 (fun z19_31 z18_31 z17_31 z12_31 z11_31 z10_31 z6_31 z3_31 h31 =>
 j21 z19_31 z18_31 z17_31 z12_31 z11_31 z10_31 z6_31 z3_31 h31) fun j31 =>
 ci x30_30 (
 oB (oIx 1 y3_19 x22_24) fun x34_32 =>
 oB (oLd h19 x34_32) fun x35_33 =>
 oB (bAdd y6_19 x35_33) fun x36_34 =>
 oB (evQ (.minI (.c x36_34) [(.c (I 10001))]) .e h19) fun x37_35 =>
 j31 y19_19 y18_19 y17_19 y12_19 y11_19 y10_19 x37_35 y3_19 h19) (
 j31 y19_19 y18_19 y17_19 y12_19 y11_19 y10_19 y6_19 y3_19 h19)) (
 j16 y12_19 y11_19 y10_19 y6_19 y3_19 h19)) (I 0) x18_15 x17_14 y12_5 y11_5 y10_5 (I 1) y3_5 h12) (
 j4 y3_5 h5)) (I 0) x11_3 x10_2 .nils h0
theorem o_equal_count : FnOK Tryz.prog n_equal_count (a1 f_equal_count) := ok1 mixed Tryz.func109 (by kernel_rfl)
/- corrector/equal.write -/
noncomputable def f_equal_write (n : Nat) (call : Caller)  (x0 x1 x2 : AV) (h : AH) : Ans :=
 oP (oNew h 105 (AV.cells x1)) fun x4_0 h0 =>
 oB (oFA 0 x4_0) fun x11_1 =>
 oB (oLd h0 x11_1) fun x12_2 =>
 oB (oIx 4 x12_2 x2) fun x14_3 =>
 oB (oLdN 4 h0 x14_3) fun x15_4 =>
 oP (call n_equal_parts [x15_4] h0) fun x16_5 h5 =>
 oB (oLen x16_5) fun x17_6 =>
 jnF 0 (fun h7 =>
 some (.tup [], h7)) fun j7 =>
 lpF 6 n (fun f8 y18_8 y17_8 y16_8 y4_8 y2_8 y0_8 h8 =>
 oB (bLt y18_8 y17_8) fun x19_9 =>
 ci x19_9 (
 jnF 6 (fun z18_10 z17_10 z16_10 z4_10 z2_10 z0_10 h10 =>
 oB (bAdd z18_10 (I 1)) fun x44_11 =>
 f8 x44_11 z17_10 z16_10 z4_10 z2_10 z0_10 h10) fun j10 =>
 oB (oIx 1 y16_8 y18_8) fun x20_12 =>
 oB (oLd h8 x20_12) fun x21_13 =>
 oB (oTa 9 (.str []) true x21_13) fun x24_14 =>
 oB (oEx 0 x24_14) fun x25_15 =>
 oB (oEx 1 x24_14) fun x26_16 =>
 ci x26_16 (
 oP (call n_strings_Builder_WriteString [y0_8, x25_15] h8) fun x30_17 h17 =>
 j10 y18_8 y17_8 y16_8 y4_8 y2_8 y0_8 h17) (
 oB (oTa 3 (I 0) false x21_13) fun x32_18 =>
 oB (bGe x32_18 (I 0)) fun x34_19 =>
 oB (gq x34_19 true (some x32_18)) fun x36_20 =>
 oB (gq x34_19 true (some y2_8)) fun x37_21 =>
 oB (gq x34_19 true (bLt x36_20 x37_21)) fun x38_22 =>
 oB (oPick x34_19 x38_22 (.bool false)) fun x39_23 =>
 jnF 6 (fun z18_24 z17_24 z16_24 z4_24 z2_24 z0_24 h24 =>
 j10 z18_24 z17_24 z16_24 z4_24 z2_24 z0_24 h24) fun j24 =>
 ci x39_23 (
 oB (oLdN 3 h8 y4_8) fun x41_25 =>
 oP (call n_equal_write [y0_8, x41_25, x32_18] h8) fun x43_26 h26 =>
 j24 y18_8 y17_8 y16_8 y4_8 y2_8 y0_8 h26) (
 j24 y18_8 y17_8 y16_8 y4_8 y2_8 y0_8 h8))) (
 j7 h8)) (I 0) x17_6 x16_5 x4_0 x2 x0 h5
theorem o_equal_write : FnOK Tryz.prog n_equal_write (a3 f_equal_write) := ok3 mixed Tryz.func110 (by kernel_rfl)
/- (*corrector/lint.finder).trail -/
noncomputable def f_lint_finder_trail (n : Nat) (call : Caller)  (x0 : AV) (h : AH) : Ans :=
 oB (oNil x0) fun x6_0 =>
 oB (oFA 15 x6_0) fun x7_1 =>
 oB (oLd h x7_1) fun x8_2 =>
 oB (oLen x8_2) fun x9_3 =>
 jnF 0 (fun h4 =>
 some (.tup [], h4)) fun j4 =>
 lpF 4 n (fun f5 y10_5 y9_5 y8_5 y0_5 h5 =>
 oB (bLt y10_5 y9_5) fun x11_6 =>
 ci x11_6 (
 jnF 4 (fun z10_7 z9_7 z8_7 z0_7 h7 =>
 oB (bAdd z10_7 (I 1)) fun x41_8 =>
 f5 x41_8 z9_7 z8_7 z0_7 h7) fun j7 =>
 oB (oIx 3 y8_5 y10_5) fun x13_9 =>
 oB (oLdN 3 h5 x13_9) fun x14_10 =>
 oP (oNew h5 92 [(I 0), (I 0), (I 0)]) fun x3_11 h11 =>
 oP (oSt 3 h11 x3_11 x14_10) fun _ h12 =>
 oB (bAdd y10_5 (I 1)) fun x17_13 =>
 oP (call n_lint_finder_kind [y0_5, x17_13] h12) fun x18_14 h14 =>
 oB (oFA 0 x3_11) fun x19_15 =>
 oB (oLd h14 x19_15) fun x20_16 =>
 oB (bEq .no x20_16 (I 2)) fun x21_17 =>
 oB (gq x21_17 false (oFA 0 x3_11)) fun x23_18 =>
 oB (gq x21_17 false (oLd h14 x23_18)) fun x24_19 =>
 oB (gq x21_17 false (bEq .no x24_19 (I 3))) fun x25_20 =>
 oB (oPick x21_17 (.bool true) x25_20) fun x26_21 =>
 oB (gq x26_21 true (some x18_14)) fun x28_22 =>
 oB (gq x26_21 true (bEq .no x28_22 (I 0))) fun x29_23 =>
 oB (gq x26_21 true (some x29_23)) fun x30_24 =>
 oB (gq x30_24 false (some x18_14)) fun x31_25 =>
 oB (gq x30_24 false (bEq .no x31_25 (I 1))) fun x32_26 =>
 oB (gq x26_21 true (oPick x30_24 (.bool true) x32_26)) fun x33_27 =>
 oB (oPick x26_21 x33_27 (.bool false)) fun x34_28 =>
 jnF 4 (fun z10_29 z9_29 z8_29 z0_29 h29 =>
 j7 z10_29 z9_29 z8_29 z0_29 h29) fun j29 =>
 ci x34_28 (
 oB (oFA 1 x3_11) fun x36_30 =>
 oB (oLd h14 x36_30) fun x37_31 =>
 oB (oFA 2 x3_11) fun x38_32 =>
 oB (oLd h14 x38_32) fun x39_33 =>
 oP (call n_lint_finder_find [y0_5, (I 1), x37_31, x39_33] h14) fun x40_34 h34 =>
 j29 y10_5 y9_5 y8_5 y0_5 h34) (
 j29 y10_5 y9_5 y8_5 y0_5 h14)) (
 j4 h5)) (I 0) x9_3 x8_2 x0 h
theorem o_lint_finder_trail : FnOK Tryz.prog n_lint_finder_trail (a1 f_lint_finder_trail) := ok1 mixed Tryz.func111 (by kernel_rfl)
/- (*corrector/lint.finder).long -/
noncomputable def f_lint_finder_long (n : Nat) (call : Caller)  (x0 : AV) (h : AH) : Ans :=
 oB (oNil x0) fun x11_0 =>
 oB (oFA 16 x11_0) fun x12_1 =>
 oB (oLd h x12_1) fun x13_2 =>
 oB (oLen x13_2) fun x14_3 =>
 jnF 0 (fun h4 =>
 some (.tup [], h4)) fun j4 =>
 lpF 4 n (fun f5 y15_5 y14_5 y13_5 y0_5 h5 =>
 oB (bLt y15_5 y14_5) fun x16_6 =>
 ci x16_6 (
 jnF 4 (fun z15_7 z14_7 z13_7 z0_7 h7 =>
 oB (bAdd z15_7 (I 1)) fun x88_8 =>
 f5 x88_8 z14_7 z13_7 z0_7 h7) fun j7 =>
 oB (oIx 4 y13_5 y15_5) fun x17_9 =>
 oB (oLdN 4 h5 x17_9) fun x18_10 =>
 oP (oNew h5 218 [(I 0), (I 0), (I 0), (I 0)]) fun x3_11 h11 =>
 oP (oSt 4 h11 x3_11 x18_10) fun _ h12 =>
 oB (oLdN 4 h12 x3_11) fun x21_13 =>
 oP (call n_lint_finder_bytes [y0_5, x21_13] h12) fun x22_14 h14 =>
 oB (oEx 0 x22_14) fun x23_15 =>
 oB (oEx 1 x22_14) fun x24_16 =>
 jnF 6 (fun z15_17 z14_17 z13_17 z5_17 z4_17 z0_17 h17 =>
 jnF 6 (fun z15_18 z14_18 z13_18 z6_18 z5_18 z0_18 h18 =>
 oB (bLt z6_18 z5_18) fun x83_19 =>
 jnF 4 (fun z15_20 z14_20 z13_20 z0_20 h20 =>
 j7 z15_20 z14_20 z13_20 z0_20 h20) fun j20 =>
 ci x83_19 (
 oP (call n_lint_finder_find [z0_18, (I 2), z6_18, z5_18] h18) fun x87_21 h21 =>
 j20 z15_18 z14_18 z13_18 z0_18 h21) (
 j20 z15_18 z14_18 z13_18 z0_18 h18)) fun j18 =>
 lpF 7 n (fun f22 y15_22 y14_22 y13_22 y7_22 y6_22 y5_22 y0_22 h22 =>
 oB (oNil y0_22) fun x55_23 =>
 oB (oFA 1 x55_23) fun x56_24 =>
 oB (oFA 10 x56_24) fun x57_25 =>
 oB (oLd h22 x57_25) fun x58_26 =>
 oB (bLt y7_22 x58_26) fun x59_27 =>
 oB (gq x59_27 true (some y6_22)) fun x61_28 =>
 oB (gq x59_27 true (some y5_22)) fun x62_29 =>
 oB (gq x59_27 true (bLt x61_28 x62_29)) fun x63_30 =>
 oB (oPick x59_27 x63_30 (.bool false)) fun x64_31 =>
 ci x64_31 (
 jnF 7 (fun z15_32 z14_32 z13_32 z7_32 z6_32 z5_32 z0_32 h32 =>
 oB (bAdd z7_32 (I 1)) fun x66_33 =>
 f22 z15_32 z14_32 z13_32 x66_33 z6_32 z5_32 z0_32 h32) fun j32 =>
 oB (oNil y0_22) fun x69_34 =>
 oB (oFA 0 x69_34) fun x70_35 =>
 oB (oLd h22 x70_35) fun x71_36 =>
 oB (evQ (.sl 1 (.c x71_36) (some (.c y6_22)) (some (.c y5_22)) none) .e h22) fun x74_37 =>
 oP (call n_runes_Next [x74_37] h22) fun x75_38 h38 =>
 oB (oEx 0 x75_38) fun x76_39 =>
 oB (oEx 1 x75_38) fun x77_40 =>
 oB (bAdd y6_22 x77_40) fun x80_41 =>
 j32 y15_22 y14_22 y13_22 y7_22 x80_41 y5_22 y0_22 h38) (
 j18 y15_22 y14_22 y13_22 y6_22 y5_22 y0_22 h22)) z15_17 z14_17 z13_17 (I 0) z4_17 z5_17 z0_17 h17) fun j17 =>
 lpF 6 n (fun f42 y15_42 y14_42 y13_42 y5_42 y4_42 y0_42 h42 =>
 oB (bGt y5_42 y4_42) fun x27_43 =>
 oB (gq x27_43 true (some y0_42)) fun x29_44 =>
 oB (gq x27_43 true (oNil x29_44)) fun x30_45 =>
 oB (gq x27_43 true (oFA 0 x30_45)) fun x31_46 =>
 oB (gq x27_43 true (oLd h42 x31_46)) fun x32_47 =>
 oB (gq x27_43 true (some y5_42)) fun x33_48 =>
 oB (gq x27_43 true (bSub x33_48 (I 1))) fun x34_49 =>
 oB (gq x27_43 true (oIx 1 x32_47 x34_49)) fun x35_50 =>
 oB (gq x27_43 true (oLd h42 x35_50)) fun x36_51 =>
 oB (gq x27_43 true (bEq .no x36_51 (U 10))) fun x37_52 =>
 oB (gq x27_43 true (some x37_52)) fun x38_53 =>
 oB (gq x38_53 false (some y0_42)) fun x39_54 =>
 oB (gq x38_53 false (oNil x39_54)) fun x40_55 =>
 oB (gq x38_53 false (oFA 0 x40_55)) fun x41_56 =>
 oB (gq x38_53 false (oLd h42 x41_56)) fun x42_57 =>
 oB (gq x38_53 false (some y5_42)) fun x43_58 =>
 oB (gq x38_53 false (bSub x43_58 (I 1))) fun x44_59 =>
 oB (gq x38_53 false (oIx 1 x42_57 x44_59)) fun x45_60 =>
 oB (gq x38_53 false (oLd h42 x45_60)) fun x46_61 =>
 oB (gq x38_53 false (bEq .no x46_61 (U 13))) fun x47_62 =>
 oB (gq x27_43 true (oPick x38_53 (.bool true) x47_62)) fun x48_63 =>
 oB (oPick x27_43 x48_63 (.bool false)) fun x49_64 =>
 ci x49_64 (
 jnF 6 (fun z15_65 z14_65 z13_65 z5_65 z4_65 z0_65 h65 =>
 f42 z15_65 z14_65 z13_65 z5_65 z4_65 z0_65 h65) fun j65 =>
 oB (bSub y5_42 (I 1)) fun x51_66 =>
 j65 y15_42 y14_42 y13_42 x51_66 y4_42 y0_42 h42) (
 j17 y15_42 y14_42 y13_42 y5_42 y4_42 y0_42 h42)) y15_5 y14_5 y13_5 x24_16 x23_15 y0_5 h14) (
 j4 h5)) (I 0) x14_3 x13_2 x0 h
theorem o_lint_finder_long : FnOK Tryz.prog n_lint_finder_long (a1 f_lint_finder_long) := ok1 mixed Tryz.func112 (by kernel_rfl)
end Go.Proofs.YtmlhpcflphlgdaaGreatDoor
