/- Functions, as they run. PRINTED by a program of this repo. -/
import Derived.Test.YtmlhpcflphlgdaaGreatDoorN
import Derived.Test.YtmlhpcflphlgdaaGreatDoorM
set_option linter.unusedVariables false
set_option maxRecDepth 100000
namespace Go.Proofs.YtmlhpcflphlgdaaGreatDoor
open Go.Ev
/- corrector/api.late -/
noncomputable def f_api_late (n : Nat) (call : Caller)  (x0 : AV) (h : AH) : Ans :=
 jnF 0 (fun h0 =>
 some ((.str [101, 114, 114, 111, 114]), h0)) fun j0 =>
 oB (bEq .no x0 (I 5)) fun x5_1 =>
 ci x5_1 (
 some ((.str [119, 111, 114, 100]), h)) (
 oB (bEq .no x0 (I 6)) fun x7_2 =>
 ci x7_2 (
 some ((.str [111, 118, 101, 114]), h)) (
 oB (bEq .no x0 (I 7)) fun x9_3 =>
 ci x9_3 (
 some ((.str [107, 105, 110, 100]), h)) (
 oB (bEq .no x0 (I 8)) fun x11_4 =>
 ci x11_4 (
 some ((.str [100, 101, 101, 112]), h)) (
 j0 h))))
theorem o_api_late : FnOK Tryz.prog n_api_late (a1 f_api_late) := ok1 mixed Tryz.func42 (by kernel_rfl)
/- corrector/shell.number -/
noncomputable def f_shell_number (n : Nat) (call : Caller)  (x0 : AV) (h : AH) : Ans :=
 oP (call n_strings_TrimPrefix [x0, (.str [45])] h) fun x10_0 h0 =>
 oB (bEq .no x10_0 (.str [])) fun x12_1 =>
 oB (gq x12_1 false (some x10_0)) fun x14_2 =>
 oB (gq x12_1 false (oLenS x14_2)) fun x15_3 =>
 oB (gq x12_1 false (bGt x15_3 (I 9))) fun x16_4 =>
 oB (oPick x12_1 (.bool true) x16_4) fun x17_5 =>
 oB (gq x17_5 false (some x10_0)) fun x19_6 =>
 oB (gq x17_5 false (oIxS x19_6 (I 0))) fun x20_7 =>
 oB (gq x17_5 false (bEq .no x20_7 (U 48))) fun x21_8 =>
 oB (gq x17_5 false (some x21_8)) fun x22_9 =>
 oB (gq x22_9 true (some x0)) fun x23_10 =>
 oB (gq x22_9 true (bNe .no x23_10 (.str [48]))) fun x24_11 =>
 oB (gq x17_5 false (oPick x22_9 x24_11 (.bool false))) fun x25_12 =>
 oB (oPick x17_5 (.bool true) x25_12) fun x26_13 =>
 ci x26_13 (
 some (.tup [(I 0), (.bool false)], h0)) (
 oP (evW (.rangeS (.c x10_0)) .e h0) fun x28_14 h14 =>
 jnF 1 (fun z0_15 h15 =>
 oP (call n_strconv_Atoi [z0_15] h15) fun x40_16 h16 =>
 oB (oEx 0 x40_16) fun x41_17 =>
 oB (oEx 1 x40_16) fun x42_18 =>
 some (.tup [x41_17, (.bool true)], h16)) fun j15 =>
 lpF 2 n (fun f19 y28_19 y0_19 h19 =>
 oP (evW (.nextS (.c y28_19)) .e h19) fun x29_20 h20 =>
 oB (oEx 0 x29_20) fun x30_21 =>
 ci x30_21 (
 jnF 2 (fun z28_22 z0_22 h22 =>
 f19 z28_22 z0_22 h22) fun j22 =>
 oB (oEx 2 x29_20) fun x31_23 =>
 oB (bLt x31_23 (R 48)) fun x33_24 =>
 oB (gq x33_24 false (some x31_23)) fun x35_25 =>
 oB (gq x33_24 false (bGt x35_25 (R 57))) fun x36_26 =>
 oB (oPick x33_24 (.bool true) x36_26) fun x37_27 =>
 ci x37_27 (
 some (.tup [(I 0), (.bool false)], h20)) (
 j22 y28_19 y0_19 h20)) (
 j15 y0_19 h20)) x28_14 x0 h14)
theorem o_shell_number : FnOK Tryz.prog n_shell_number (a1 f_shell_number) := ok1 mixed Tryz.func43 (by kernel_rfl)
/- math/bits.Mul32 -/
noncomputable def f_math_bits_Mul32 (n : Nat) (call : Caller)  (x0 x1 : AV) (h : AH) : Ans :=
 oB (oInt .u64 x0) fun x8_0 =>
 oB (oInt .u64 x1) fun x10_1 =>
 oB (binAV .mul .no x8_0 x10_1) fun x11_2 =>
 oB (binAV .shr .no x11_2 (.int .u64 32)) fun x13_3 =>
 oB (oInt .u32 x13_3) fun x14_4 =>
 oB (oInt .u32 x11_2) fun x16_5 =>
 some (.tup [x14_4, x16_5], h)
theorem o_math_bits_Mul32 : FnOK Tryz.prog n_math_bits_Mul32 (a2 f_math_bits_Mul32) := ok2 mixed Tryz.func44 (by kernel_rfl)
/- math/bits.Mul64 -/
noncomputable def f_math_bits_Mul64 (n : Nat) (call : Caller)  (x0 x1 : AV) (h : AH) : Ans :=
 oB (binAV .and .no x0 (.int .u64 4294967295)) fun x15_0 =>
 oB (binAV .shr .no x0 (.int .u64 32)) fun x17_1 =>
 oB (binAV .and .no x1 (.int .u64 4294967295)) fun x19_2 =>
 oB (binAV .shr .no x1 (.int .u64 32)) fun x21_3 =>
 oB (binAV .mul .no x15_0 x19_2) fun x24_4 =>
 oB (binAV .mul .no x17_1 x19_2) fun x27_5 =>
 oB (binAV .shr .no x24_4 (.int .u64 32)) fun x29_6 =>
 oB (bAdd x27_5 x29_6) fun x30_7 =>
 oB (binAV .and .no x30_7 (.int .u64 4294967295)) fun x32_8 =>
 oB (binAV .shr .no x30_7 (.int .u64 32)) fun x34_9 =>
 oB (binAV .mul .no x15_0 x21_3) fun x38_10 =>
 oB (bAdd x32_8 x38_10) fun x39_11 =>
 oB (binAV .mul .no x17_1 x21_3) fun x42_12 =>
 oB (bAdd x42_12 x34_9) fun x44_13 =>
 oB (binAV .shr .no x39_11 (.int .u64 32)) fun x46_14 =>
 oB (bAdd x44_13 x46_14) fun x47_15 =>
 oB (binAV .mul .no x0 x1) fun x50_16 =>
 some (.tup [x47_15, x50_16], h)
theorem o_math_bits_Mul64 : FnOK Tryz.prog n_math_bits_Mul64 (a2 f_math_bits_Mul64) := ok2 mixed Tryz.func45 (by kernel_rfl)
/- internal/stringslite.HasPrefix -/
noncomputable def f_internal_stringslite_HasPrefix (n : Nat) (call : Caller)  (x0 x1 : AV) (h : AH) : Ans :=
 oB (oLenS x0) fun x6_0 =>
 oB (oLenS x1) fun x8_1 =>
 oB (bGe x6_0 x8_1) fun x9_2 =>
 oB (gq x9_2 true (some x0)) fun x11_3 =>
 oB (gq x9_2 true (some x1)) fun x12_4 =>
 oB (gq x9_2 true (oLenS x12_4)) fun x13_5 =>
 oB (gq x9_2 true (oSlS x11_3 none (some x13_5))) fun x14_6 =>
 oB (gq x9_2 true (some x1)) fun x15_7 =>
 oB (gq x9_2 true (bEq .no x14_6 x15_7)) fun x16_8 =>
 oB (oPick x9_2 x16_8 (.bool false)) fun x17_9 =>
 some (x17_9, h)
theorem o_internal_stringslite_HasPrefix : FnOK Tryz.prog n_internal_stringslite_HasPrefix (a2 f_internal_stringslite_HasPrefix) := ok2 mixed Tryz.func46 (by kernel_rfl)
/- (*strings.Builder).copyCheck -/
noncomputable def f_strings_Builder_copyCheck (n : Nat) (call : Caller)  (x0 : AV) (h : AH) : Ans :=
 oB (oNil x0) fun x3_0 =>
 oB (oFA 0 x3_0) fun x4_1 =>
 oB (oLd h x4_1) fun x5_2 =>
 oB (bEq .ptr x5_2 .nilp) fun x6_3 =>
 jnF 0 (fun h4 =>
 some (.tup [], h4)) fun j4 =>
 ci x6_3 (
 oB (evQ (.p2u (.c x0)) .e h) fun x9_5 =>
 oB (evQ (.u2p 59 2 (.c x9_5)) .e h) fun x11_6 =>
 oB (oNil x0) fun x12_7 =>
 oB (oFA 0 x12_7) fun x13_8 =>
 oP (oSt 1 h x13_8 x11_6) fun _ h9 =>
 j4 h9) (
 oB (oNil x0) fun x15_10 =>
 oB (oFA 0 x15_10) fun x16_11 =>
 oB (oLd h x16_11) fun x17_12 =>
 oB (bNe .ptr x17_12 x0) fun x19_13 =>
 ci x19_13 (
 none) (
 j4 h))
theorem o_strings_Builder_copyCheck : FnOK Tryz.prog n_strings_Builder_copyCheck (a1 f_strings_Builder_copyCheck) := ok1 mixed Tryz.func47 (by kernel_rfl)
/- (*strings.Builder).grow -/
noncomputable def f_strings_Builder_grow (n : Nat) (call : Caller)  (x0 x1 : AV) (h : AH) : Ans :=
 oB' (nx 16 h) fun h0 =>
 oB (oNil x0) fun x6_1 =>
 oB (oFA 1 x6_1) fun x7_2 =>
 oB (oLd h0 x7_2) fun x8_3 =>
 oB (evQ (.capSl (.c x8_3)) .e h0) fun x9_4 =>
 oB (binAV .mul .no (I 2) x9_4) fun x10_5 =>
 oB (bAdd x10_5 x1) fun x12_6 =>
 oP (evW (.mkNoZero 5 (.c x12_6)) .e h0) fun x13_7 h7 =>
 oB (oNil x0) fun x15_8 =>
 oB (oFA 1 x15_8) fun x16_9 =>
 oB (oLd h7 x16_9) fun x17_10 =>
 oB (oLen x17_10) fun x18_11 =>
 oB (evQ (.sl 1 (.c x13_7) none (some (.c x18_11)) none) .e h7) fun x19_12 =>
 ask1 true (oLd h0 x7_2) x8_3 (
 ask1 true (oLd h0 x16_9) x17_10 (
 ask1 true (oLd h7 x16_9) x17_10 (
 oB (oNil x0) fun x22_13 =>
 oB (oFA 1 x22_13) fun x23_14 =>
 oB (oLd h7 x23_14) fun x24_15 =>
 oP (evW (.copy 1 (.c x19_12) (.c x24_15)) .e h7) fun x25_16 h16 =>
 oB (oNil x0) fun x28_17 =>
 oB (oFA 1 x28_17) fun x29_18 =>
 oP (oSt 1 h16 x29_18 x19_12) fun _ h19 =>
 some (.tup [], h19))))
theorem o_strings_Builder_grow : FnOK Tryz.prog n_strings_Builder_grow (a2 f_strings_Builder_grow) := ok2 mixed Tryz.func48 (by kernel_rfl)
/- unicode/utf8.RuneCountInString -/
noncomputable def f_unicode_utf8_RuneCountInString (n : Nat) (call : Caller)  (x0 : AV) (h : AH) : Ans :=
 oP (evW (.rangeS (.c x0)) .e h) fun x4_0 h0 =>
 jnF 1 (fun z2_1 h1 =>
 some (z2_1, h1)) fun j1 =>
 lpF 2 n (fun f2 y4_2 y2_2 h2 =>
 oP (evW (.nextS (.c y4_2)) .e h2) fun x5_3 h3 =>
 oB (oEx 0 x5_3) fun x6_4 =>
 ci x6_4 (
 jnF 2 (fun z4_5 z2_5 h5 =>
 f2 z4_5 z2_5 h5) fun j5 =>
 oB (bAdd y2_2 (I 1)) fun x8_6 =>
 j5 y4_2 x8_6 h3) (
 j1 y2_2 h3)) x4_0 (I 0) h0
theorem o_unicode_utf8_RuneCountInString : FnOK Tryz.prog n_unicode_utf8_RuneCountInString (a1 f_unicode_utf8_RuneCountInString) := ok1 mixed Tryz.func49 (by kernel_rfl)
/- unicode/utf8.DecodeRuneInString -/
noncomputable def f_unicode_utf8_DecodeRuneInString (n : Nat) (call : Caller)  (x0 : AV) (h : AH) : Ans :=
 oB (bNe .no x0 (.str [])) fun x5_0 =>
 oB (gq x5_0 true (some x0)) fun x7_1 =>
 oB (gq x5_0 true (oIxS x7_1 (I 0))) fun x8_2 =>
 oB (gq x5_0 true (bLt x8_2 (U 128))) fun x9_3 =>
 oB (oPick x5_0 x9_3 (.bool false)) fun x10_4 =>
 ci x10_4 (
 oB (oIxS x0 (I 0)) fun x12_5 =>
 oB (oInt .i32 x12_5) fun x13_6 =>
 some (.tup [x13_6, (I 1)], h)) (
 oP (call n_unicode_utf8_decodeRuneInStringSlow [x0] h) fun x16_7 h7 =>
 oB (oEx 0 x16_7) fun x17_8 =>
 oB (oEx 1 x16_7) fun x18_9 =>
 some (.tup [x17_8, x18_9], h7))
theorem o_unicode_utf8_DecodeRuneInString : FnOK Tryz.prog n_unicode_utf8_DecodeRuneInString (a1 f_unicode_utf8_DecodeRuneInString) := ok1 mixed Tryz.func50 (by kernel_rfl)
/- internal/stringslite.Index -/
noncomputable def f_internal_stringslite_Index (n : Nat) (call : Caller)  (x0 x1 : AV) (h : AH) : Ans :=
 oB (oLenS x1) fun x15_0 =>
 jnF 3 (fun z5_1 z1_1 z0_1 h1 =>
 oB (oIxS z1_1 (I 0)) fun x49_2 =>
 oB (oIxS z1_1 (I 1)) fun x51_3 =>
 oB (oLenS z0_1) fun x53_4 =>
 oB (bSub x53_4 z5_1) fun x55_5 =>
 oB (bAdd x55_5 (I 1)) fun x56_6 =>
 jnF 0 (fun h7 =>
 some ((Ineg 0), h7)) fun j7 =>
 lpF 8 n (fun f8 y10_8 y9_8 y8_8 y7_8 y6_8 y5_8 y1_8 y0_8 h8 =>
 oB (bLt y8_8 y9_8) fun x59_9 =>
 ci x59_9 (
 jnF 8 (fun z10_10 z9_10 z8_10 z7_10 z6_10 z5_10 z1_10 z0_10 h10 =>
 f8 z10_10 z9_10 z8_10 z7_10 z6_10 z5_10 z1_10 z0_10 h10) fun j10 =>
 oB (oIxS y0_8 y8_8) fun x62_11 =>
 oB (bNe .no x62_11 y6_8) fun x64_12 =>
 jnF 8 (fun z10_13 z9_13 z8_13 z7_13 z6_13 z5_13 z1_13 z0_13 h13 =>
 oB (bAdd z8_13 (I 1)) fun x80_14 =>
 oB (oIxS z0_13 x80_14) fun x81_15 =>
 oB (bEq .no x81_15 z7_13) fun x83_16 =>
 oB (gq x83_16 true (some z0_13)) fun x85_17 =>
 oB (gq x83_16 true (some z8_13)) fun x86_18 =>
 oB (gq x83_16 true (some z8_13)) fun x87_19 =>
 oB (gq x83_16 true (some z5_13)) fun x88_20 =>
 oB (gq x83_16 true (bAdd x87_19 x88_20)) fun x89_21 =>
 oB (gq x83_16 true (oSlS x85_17 (some x86_18) (some x89_21))) fun x90_22 =>
 oB (gq x83_16 true (some z1_13)) fun x91_23 =>
 oB (gq x83_16 true (bEq .no x90_22 x91_23)) fun x92_24 =>
 oB (oPick x83_16 x92_24 (.bool false)) fun x93_25 =>
 ci x93_25 (
 some (z8_13, h13)) (
 oB (bAdd z8_13 (I 1)) fun x96_26 =>
 oB (bAdd z10_13 (I 1)) fun x98_27 =>
 oB (evQ (.bad) .e h13) fun x100_28 =>
 oB (bLe z5_13 x100_28) fun x101_29 =>
 oB (gq x101_29 true (some x98_27)) fun x103_30 =>
 oB (gq x101_29 true (some x96_26)) fun x104_31 =>
 oP (gw x101_29 true (call n_internal_bytealg_Cutover [x104_31] h13) h13) fun x105_32 h32 =>
 oB (gq x101_29 true (bGt x103_30 x105_32)) fun x106_33 =>
 oB (oPick x101_29 x106_33 (.bool false)) fun x107_34 =>
 ci x107_34 (
 oB (oSlS z0_13 (some x96_26) none) fun x110_35 =>
 oB (evQ (.bad) .e h32) fun x112_36 =>
 oB (bGe x112_36 (I 0)) fun x114_37 =>
 ci x114_37 (
 oB (bAdd x112_36 x96_26) fun x117_38 =>
 some (x117_38, h32)) (
 some ((Ineg 0), h32))) (
 oB (evQ (.bad) .e h32) fun x119_39 =>
 oB (bGt z5_13 x119_39) fun x120_40 =>
 oB (gq x120_40 true (some x98_27)) fun x122_41 =>
 oB (gq x120_40 true (some x96_26)) fun x123_42 =>
 oB (gq x120_40 true (binAV .shr .no x123_42 (.int .u64 4))) fun x124_43 =>
 oB (gq x120_40 true (bAdd (I 4) x124_43)) fun x125_44 =>
 oB (gq x120_40 true (bGe x122_41 x125_44)) fun x126_45 =>
 oB (oPick x120_40 x126_45 (.bool false)) fun x127_46 =>
 oB (gq x127_46 true (some x96_26)) fun x129_47 =>
 oB (gq x127_46 true (some z9_13)) fun x130_48 =>
 oB (gq x127_46 true (bLt x129_47 x130_48)) fun x131_49 =>
 oB (oPick x127_46 x131_49 (.bool false)) fun x132_50 =>
 ci x132_50 (
 oB (oSlS z0_13 (some x96_26) none) fun x135_51 =>
 oP (call n_internal_bytealg_IndexRabinKarp_string [x135_51, z1_13] h32) fun x137_52 h52 =>
 oB (bLt x137_52 (I 0)) fun x139_53 =>
 ci x139_53 (
 some ((Ineg 0), h52)) (
 oB (bAdd x96_26 x137_52) fun x142_54 =>
 some (x142_54, h52))) (
 j10 x98_27 z9_13 x96_26 z7_13 z6_13 z5_13 z1_13 z0_13 h32)))) fun j13 =>
 ci x64_12 (
 oB (bAdd y8_8 (I 1)) fun x67_55 =>
 oB (oSlS y0_8 (some x67_55) (some y9_8)) fun x69_56 =>
 oP (call n_internal_stringslite_IndexByte [x69_56, y6_8] h8) fun x71_57 h57 =>
 oB (bLt x71_57 (I 0)) fun x73_58 =>
 ci x73_58 (
 some ((Ineg 0), h57)) (
 oB (bAdd x71_57 (I 1)) fun x76_59 =>
 oB (bAdd y8_8 x76_59) fun x77_60 =>
 j13 y10_8 y9_8 x77_60 y7_8 y6_8 y5_8 y1_8 y0_8 h57)) (
 j13 y10_8 y9_8 y8_8 y7_8 y6_8 y5_8 y1_8 y0_8 h8)) (
 j7 h8)) (I 0) x56_6 (I 0) x51_3 x49_2 z5_1 z1_1 z0_1 h1) fun j1 =>
 oB (bEq .no x15_0 (I 0)) fun x18_61 =>
 oB (gq x18_61 false (some x1)) fun x20_62 =>
 oB (gq x18_61 false (some x0)) fun x21_63 =>
 oB (gq x18_61 false (bEq .no x20_62 x21_63)) fun x22_64 =>
 oB (oPick x18_61 (.bool true) x22_64) fun x23_65 =>
 ci x23_65 (
 some ((I 0), h)) (
 oB (bEq .no x15_0 (I 1)) fun x26_66 =>
 ci x26_66 (
 oB (oIxS x1 (I 0)) fun x29_67 =>
 oP (call n_internal_stringslite_IndexByte [x0, x29_67] h) fun x30_68 h68 =>
 some (x30_68, h68)) (
 oB (oLenS x0) fun x34_69 =>
 oB (bGe x15_0 x34_69) fun x35_70 =>
 ci x35_70 (
 some ((Ineg 0), h)) (
 oB (evQ (.bad) .e h) fun x38_71 =>
 oB (bLe x15_0 x38_71) fun x39_72 =>
 oB (gq x39_72 true (some x0)) fun x41_73 =>
 oB (gq x39_72 true (oLenS x41_73)) fun x42_74 =>
 oB (gq x39_72 true (bLe x42_74 (I 64))) fun x43_75 =>
 oB (oPick x39_72 x43_75 (.bool false)) fun x44_76 =>
 ci x44_76 (
 oB (evQ (.bad) .e h) fun x47_77 =>
 some (x47_77, h)) (
 j1 x15_0 x1 x0 h))))
theorem o_internal_stringslite_Index : FnOK Tryz.prog n_internal_stringslite_Index (a2 f_internal_stringslite_Index) := ok2 mixed Tryz.func52 (by kernel_rfl)
/- slices.Concat[[]byte,byte] -/
noncomputable def f_slices_Concat_byte_byte (n : Nat) (call : Caller)  (x0 : AV) (h : AH) : Ans :=
 oB (oLen x0) fun x10_0 =>
 jnF 2 (fun z3_1 z0_1 h1 =>
 oP (call n_slices_Grow_byte_byte [.nils, z3_1] h1) fun x24_2 h2 =>
 oB (oLen z0_1) fun x26_3 =>
 jnF 1 (fun z6_4 h4 =>
 some (z6_4, h4)) fun j4 =>
 lpF 4 n (fun f5 y27_5 y26_5 y25_5 y6_5 h5 =>
 oB (bLt y27_5 y26_5) fun x28_6 =>
 ci x28_6 (
 jnF 4 (fun z27_7 z26_7 z25_7 z6_7 h7 =>
 oB (bAdd z27_7 (I 1)) fun x34_8 =>
 f5 x34_8 z26_7 z25_7 z6_7 h7) fun j7 =>
 oB (oIx 1 y25_5 y27_5) fun x29_9 =>
 oB (oLd h5 x29_9) fun x30_10 =>
 oP (evW (.append 5 1 1 [(U 0)] (.c y6_5) (.c x30_10)) .e h5) fun x33_11 h11 =>
 j7 y27_5 y26_5 y25_5 x33_11 h11) (
 j4 y6_5 h5)) (I 0) x26_3 z0_1 x24_2 h2) fun j1 =>
 lpF 5 n (fun f12 y11_12 y10_12 y9_12 y3_12 y0_12 h12 =>
 oB (bLt y11_12 y10_12) fun x12_13 =>
 ci x12_13 (
 jnF 5 (fun z11_14 z10_14 z9_14 z3_14 z0_14 h14 =>
 oB (bAdd z11_14 (I 1)) fun x22_15 =>
 f12 x22_15 z10_14 z9_14 z3_14 z0_14 h14) fun j14 =>
 oB (oIx 1 y9_12 y11_12) fun x13_16 =>
 oB (oLd h12 x13_16) fun x14_17 =>
 oB (oLen x14_17) fun x17_18 =>
 oB (bAdd y3_12 x17_18) fun x18_19 =>
 oB (bLt x18_19 (I 0)) fun x20_20 =>
 jnF 5 (fun z11_21 z10_21 z9_21 z3_21 z0_21 h21 =>
 j14 z11_21 z10_21 z9_21 z3_21 z0_21 h21) fun j21 =>
 ci x20_20 (
 oB (some (.iface 9 (.str [108, 101, 110, 32, 111, 117, 116, 32, 111, 102, 32, 114, 97, 110, 103, 101]))) fun x21_22 =>
 oB (evQ (.bad) .e h12) fun _ =>
 j21 y11_12 y10_12 y9_12 x18_19 y0_12 h12) (
 j21 y11_12 y10_12 y9_12 x18_19 y0_12 h12)) (
 j1 y3_12 y0_12 h12)) (I 0) x10_0 x0 (I 0) x0 h
theorem o_slices_Concat_byte_byte : FnOK Tryz.prog n_slices_Concat_byte_byte (a1 f_slices_Concat_byte_byte) := ok1 mixed Tryz.func53 (by kernel_rfl)
/- corrector/shell.told -/
noncomputable def f_shell_told (n : Nat) (call : Caller)  (x0 : AV) (h : AH) : Ans :=
 oP (oBuildSl h 9 1 1 [(.str [])] [(0, 1, (.str [111, 107]))]) fun x6_0 h0 =>
 oB (oLen x0) fun x8_1 =>
 jnF 1 (fun z3_2 h2 =>
 oP (call n_strings_Join [z3_2, (.str [32])] h2) fun x20_3 h3 =>
 some (x20_3, h3)) fun j2 =>
 lpF 4 n (fun f4 y9_4 y8_4 y7_4 y3_4 h4 =>
 oB (bLt y9_4 y8_4) fun x10_5 =>
 ci x10_5 (
 jnF 4 (fun z9_6 z8_6 z7_6 z3_6 h6 =>
 oB (bAdd z9_6 (I 1)) fun x18_7 =>
 f4 x18_7 z8_6 z7_6 z3_6 h6) fun j6 =>
 oB (oIx 1 y7_4 y9_4) fun x11_8 =>
 oB (oLd h4 x11_8) fun x12_9 =>
 oP (call n_strconv_Itoa [x12_9] h4) fun x15_10 h10 =>
 oP (oBuildSl h10 9 1 1 [(.str [])] [(0, 1, x15_10)]) fun x16_11 h11 =>
 oP (evW (.append 9 1 16 [(.str [])] (.c y3_4) (.c x16_11)) .e h11) fun x17_12 h12 =>
 j6 y9_4 y8_4 y7_4 x17_12 h12) (
 j2 y3_4 h4)) (I 0) x8_1 x0 x6_0 h0
theorem o_shell_told : FnOK Tryz.prog n_shell_told (a1 f_shell_told) := ok1 mixed Tryz.func54 (by kernel_rfl)
/- corrector/config.Parse -/
noncomputable def f_config_Parse (n : Nat) (call : Caller)  (x0 : AV) (h : AH) : Ans :=
 oP (oNew h 36 [(.bool false), (.bool false), (.bool false), (.bool false), (.bool false), (.bool false), (.bool false), (.bool false), (.bool false), (.bool false), (I 0), (I 0), (I 0), (I 0)]) fun x2_0 h0 =>
 oB (oLenS x0) fun x9_1 =>
 oB (bGt x9_1 (I 2000)) fun x10_2 =>
 ci x10_2 (
 oB (oBuild [(.bool false), (.bool false), (.bool false), (.bool false), (.bool false), (.bool false), (.bool false), (.bool false), (.bool false), (.bool false), (I 0), (I 0), (I 0), (I 0)] []) fun x11_3 =>
 oP (oSt 14 h0 x2_0 x11_3) fun _ h4 =>
 retT [(2, some (some 14)), (3, none)] (sput 3 (sput 2 Tr.e x2_0) (I 4)) h4) (
 oP (call n_config_Plain [] h0) fun x12_5 h5 =>
 oP (oNew h5 36 [(.bool false), (.bool false), (.bool false), (.bool false), (.bool false), (.bool false), (.bool false), (.bool false), (.bool false), (.bool false), (I 0), (I 0), (I 0), (I 0)]) fun x4_6 h6 =>
 oP (oSt 14 h6 x4_6 x12_5) fun _ h7 =>
 oP (call n_strings_Split [x0, (.str [10])] h7) fun x14_8 h8 =>
 oB (oLen x14_8) fun x15_9 =>
 jnF 2 (fun z4_10 z2_10 h10 =>
 oB (oLdN 14 h10 z4_10) fun x26_11 =>
 oP (call n_config_Check [x26_11] h10) fun x27_12 h12 =>
 oB (bNe .no x27_12 (I 0)) fun x29_13 =>
 ci x29_13 (
 oB (oBuild [(.bool false), (.bool false), (.bool false), (.bool false), (.bool false), (.bool false), (.bool false), (.bool false), (.bool false), (.bool false), (I 0), (I 0), (I 0), (I 0)] []) fun x30_14 =>
 oP (oSt 14 h12 z2_10 x30_14) fun _ h15 =>
 retT [(2, some (some 14)), (3, none)] (sput 3 (sput 2 Tr.e z2_10) x27_12) h15) (
 oB (oLdN 14 h12 z4_10) fun x32_16 =>
 oP (oSt 14 h12 z2_10 x32_16) fun _ h17 =>
 retT [(2, some (some 14)), (3, none)] (sput 3 (sput 2 Tr.e z2_10) (I 0)) h17)) fun j10 =>
 lpF 5 n (fun f18 y16_18 y15_18 y14_18 y4_18 y2_18 h18 =>
 oB (bLt y16_18 y15_18) fun x17_19 =>
 ci x17_19 (
 jnF 5 (fun z16_20 z15_20 z14_20 z4_20 z2_20 h20 =>
 oB (bAdd z16_20 (I 1)) fun x25_21 =>
 f18 x25_21 z15_20 z14_20 z4_20 z2_20 h20) fun j20 =>
 oB (oIx 1 y14_18 y16_18) fun x18_22 =>
 oB (oLd h18 x18_22) fun x19_23 =>
 oP (call n_config_words [x19_23] h18) fun x21_24 h24 =>
 oP (call n_config_line [y4_18, x21_24] h24) fun x22_25 h25 =>
 oB (evQ (.un .not (.c x22_25)) .e h25) fun x23_26 =>
 ci x23_26 (
 oB (oBuild [(.bool false), (.bool false), (.bool false), (.bool false), (.bool false), (.bool false), (.bool false), (.bool false), (.bool false), (.bool false), (I 0), (I 0), (I 0), (I 0)] []) fun x24_27 =>
 oP (oSt 14 h25 y2_18 x24_27) fun _ h28 =>
 retT [(2, some (some 14)), (3, none)] (sput 3 (sput 2 Tr.e y2_18) (I 5)) h28) (
 j20 y16_18 y15_18 y14_18 y4_18 y2_18 h25)) (
 j10 y4_18 y2_18 h18)) (I 0) x15_9 x14_8 x4_6 x2_0 h8)
theorem o_config_Parse : FnOK Tryz.prog n_config_Parse (a1 f_config_Parse) := ok1 mixed Tryz.func55 (by kernel_rfl)
/- corrector/shell.answer -/
noncomputable def f_shell_answer (n : Nat) (call : Caller)  (x0 x1 : AV) (h : AH) : Ans :=
 oB (bNe .no x0 (I 0)) fun x6_0 =>
 ci x6_0 (
 oP (call n_api_Errno_Error [x0] h) fun x8_1 h1 =>
 some (x8_1, h1)) (
 oP (call n_shell_told [x1] h) fun x10_2 h2 =>
 some (x10_2, h2))
theorem o_shell_answer : FnOK Tryz.prog n_shell_answer (a2 f_shell_answer) := ok2 mixed Tryz.func56 (by kernel_rfl)
/- corrector/scan.Tokens -/
noncomputable def f_scan_Tokens (n : Nat) (call : Caller)  (x0 : AV) (h : AH) : Ans :=
 oB (oLen x0) fun x5_0 =>
 oB (bGt x5_0 (I 16384)) fun x6_1 =>
 ci x6_1 (
 some (.nils, h)) (
 oB (oBuild [.nils, (I 0), .nils, (I 0), (I 0), (I 0), (.bool false)] [(0, 1, x0)]) fun x8_2 =>
 oP (oNew h 142 (AV.cells x8_2)) fun x9_3 h3 =>
 oP (call n_scan_scanner_begin [x9_3] h3) fun x11_4 h4 =>
 jnF 1 (fun z3_5 h5 =>
 oB (oNil z3_5) fun x46_6 =>
 oB (oFA 2 x46_6) fun x47_7 =>
 oB (oLd h5 x47_7) fun x48_8 =>
 oP (call n_slices_Clone_api_Token_api_Token [x48_8] h5) fun x49_9 h9 =>
 some (x49_9, h9)) fun j5 =>
 lpF 1 n (fun f10 y3_10 h10 =>
 oB' (nx 10 h10) fun h11 =>
 oB (oNil y3_10) fun x13_12 =>
 oB (oFA 1 x13_12) fun x14_13 =>
 oB (oLd h11 x14_13) fun x15_14 =>
 oB (oNil y3_10) fun x17_15 =>
 oB (oFA 0 x17_15) fun x18_16 =>
 oB (oLd h11 x18_16) fun x19_17 =>
 oB (oLen x19_17) fun x20_18 =>
 oB (bLt x15_14 x20_18) fun x21_19 =>
 ci x21_19 (
 jnF 1 (fun z3_20 h20 =>
 f10 z3_20 h20) fun j20 =>
 oB' (nx 21 h11) fun h21 =>
 oB (oNil y3_10) fun x23_22 =>
 oB (oFA 1 x23_22) fun x24_23 =>
 oB (oLd h21 x24_23) fun x25_24 =>
 oB (oNil y3_10) fun x27_25 =>
 oB (oFA 4 x27_25) fun x28_26 =>
 oB (oLd h21 x28_26) fun x29_27 =>
 oB (bEq .no x25_24 x29_27) fun x30_28 =>
 oB (gq x30_28 true (some y3_10)) fun x32_29 =>
 oP (gw x30_28 true (call n_scan_scanner_begun [x32_29] h21) h21) fun x33_30 h30 =>
 oB (oPick x30_28 x33_30 (.bool false)) fun x34_31 =>
 oB (gq x34_31 false (some y3_10)) fun x36_32 =>
 oP (gw x34_31 false (call n_scan_scanner_loose [x36_32] h30) h30) fun x37_33 h33 =>
 oB (oPick x34_31 (.bool true) x37_33) fun x38_34 =>
 oB (gq x38_34 false (some y3_10)) fun x40_35 =>
 oP (gw x38_34 false (call n_scan_scanner_sign [x40_35] h33) h33) fun x41_36 h36 =>
 oB (oPick x38_34 (.bool true) x41_36) fun x42_37 =>
 ci x42_37 (
 j20 y3_10 h36) (
 oP (call n_scan_scanner_text [y3_10] h36) fun x44_38 h38 =>
 j20 y3_10 h38)) (
 j5 y3_10 h11)) x9_3 h4)
theorem o_scan_Tokens : FnOK Tryz.prog n_scan_Tokens (a1 f_scan_Tokens) := ok1 mixed Tryz.func57 (by kernel_rfl)
/- (*corrector/shell.script).read -/
noncomputable def f_shell_script_read (n : Nat) (call : Caller)  (x0 : AV) (h : AH) : Ans :=
 oB' (nx 18 h) fun h0 =>
 oB (oNil x0) fun x16_1 =>
 oB (oFA 0 x16_1) fun x17_2 =>
 oB (oLd h0 x17_2) fun x18_3 =>
 oB (oNil x0) fun x20_4 =>
 oB (oFA 1 x20_4) fun x21_5 =>
 oB (oFA 13 x21_5) fun x22_6 =>
 oB (oLd h0 x22_6) fun x23_7 =>
 oP (call n_parse_Tree [x18_3, x23_7] h0) fun x24_8 h8 =>
 oB (oEx 0 x24_8) fun x25_9 =>
 oB (oEx 1 x24_8) fun x26_10 =>
 oB (oEx 2 x24_8) fun x27_11 =>
 fl1 true (evF (.new 100 [.nils]) .e) (Nat.add h.next 14) fun x6_12 o12 =>
 oB' (lay1 (Nat.add h.next 14) o12 h8) fun v13 =>
 oP (oSt 1 v13 x6_12 x26_10) fun x0_14 h14 =>
 ask1 true (oLd h0 x17_2) x18_3 (
 ask1 true (oLd h0 x22_6) x23_7 (
 oB' (nx 13 h14) fun h15 =>
 oB (oNil x0) fun x30_16 =>
 oB (oFA 0 x30_16) fun x31_17 =>
 oB (oLd h15 x31_17) fun x32_18 =>
 oB (oLdN 1 h15 x6_12) fun x34_19 =>
 oP (call n_graph_Compose [x32_18, x25_9, x34_19] h15) fun x35_20 h20 =>
 oB (oEx 0 x35_20) fun x36_21 =>
 oB (oEx 1 x35_20) fun x37_22 =>
 fl1 true (evF (.new 105 [.nils, .nils, .nils]) .e) (Nat.add h14.next 10) fun x8_23 o23 =>
 oB' (lay1 (Nat.add h14.next 10) o23 h20) fun v24 =>
 oP (oSt 3 v24 x8_23 x36_21) fun x0_25 h25 =>
 ask1 true (oLd h15 x31_17) x32_18 (
 ask1 true (oLdN 1 h15 x6_12) x34_19 (
 oB (oLdN 1 h25 x6_12) fun x38_26 =>
 oP (call n_walk_Order [x38_26] h25) fun x39_27 h27 =>
 oB (oLen x39_27) fun x40_28 =>
 jnF 4 (fun z10_29 z9_29 z7_29 z5_29 h29 =>
 oP (oBuildSl h29 93 1 2 [.nils, .nils] [(0, 1, z7_29), (1, 1, z9_29)]) fun x70_30 h30 =>
 oP (call n_slices_Concat_api_Diag_api_Diag [x70_30] h30) fun x71_31 h31 =>
 oP (call n_diag_Sort [x71_31] h31) fun x72_32 h32 =>
 some (.tup [z5_29, z10_29, x72_32], h32)) fun j29 =>
 lpF 8 n (fun f33 y41_33 y40_33 y39_33 y10_33 y9_33 y7_33 y6_33 y5_33 h33 =>
 oB (bLt y41_33 y40_33) fun x42_34 =>
 ci x42_34 (
 jnF 8 (fun z41_35 z40_35 z39_35 z10_35 z9_35 z7_35 z6_35 z5_35 h35 =>
 oB (bAdd z41_35 (I 1)) fun x65_36 =>
 f33 x65_36 z40_35 z39_35 z10_35 z9_35 z7_35 z6_35 z5_35 h35) fun j35 =>
 oB (oIx 1 y39_33 y41_33) fun x43_37 =>
 oB (oLd h33 x43_37) fun x44_38 =>
 oB (oFA 0 y6_33) fun x46_39 =>
 oB (oLd h33 x46_39) fun x47_40 =>
 oB (oIx 6 x47_40 x44_38) fun x49_41 =>
 oB (oLdN 6 h33 x49_41) fun x50_42 =>
 oP (call n_walk_Span [y5_33, x50_42] h33) fun x51_43 h43 =>
 oP (oNew h43 146 [(I 0), (I 0)]) fun x13_44 h44 =>
 oP (oSt 2 h44 x13_44 x51_43) fun _ h45 =>
 oB' (nx 14 h45) fun h46 =>
 oB (oFA 0 y6_33) fun x53_47 =>
 oB (oLd h46 x53_47) fun x54_48 =>
 oB (oIx 6 x54_48 x44_38) fun x56_49 =>
 oB (oFA 0 x56_49) fun x57_50 =>
 oB (oLd h46 x57_50) fun x58_51 =>
 oB (oFA 0 x13_44) fun x59_52 =>
 oB (oLd h46 x59_52) fun x60_53 =>
 oB (oFA 1 x13_44) fun x61_54 =>
 oB (oLd h46 x61_54) fun x62_55 =>
 fl1 true (evF (.buildSlice 3 1 3 [(I 0), (I 0), (I 0)] [(0, 1, (.c x58_51)), (1, 1, (.c x60_53)), (2, 1, (.c x62_55))]) .e) (Nat.add h45.next 11) fun x63_56 o56 =>
 oB' (lay1 (Nat.add h45.next 11) o56 h46) fun v57 =>
 oP (evW (.append 3 1 8 [(I 0)] (.c y10_33) (.c x63_56)) .e v57) fun x64_58 h58 =>
 ask1 true (oLd h46 x53_47) x54_48 (
 ask1 true (oLd h46 x57_50) x58_51 (
 ask1 true (oLd h46 x59_52) x60_53 (
 ask1 true (oLd h46 x61_54) x62_55 (
 j35 y41_33 y40_33 y39_33 x64_58 y9_33 y7_33 y6_33 y5_33 h58))))) (
 j29 y10_33 y9_33 y7_33 y5_33 h33)) (I 0) x40_28 x39_27 .nils x37_22 x27_11 x6_12 x25_9 h27))))
theorem o_shell_script_read : FnOK Tryz.prog n_shell_script_read (a1 f_shell_script_read) := ok1 mixed Tryz.func58 (by kernel_rfl)
/- corrector/shell.Quote -/
noncomputable def f_shell_Quote (n : Nat) (call : Caller)  (x0 : AV) (h : AH) : Ans :=
 oP (oBuildSl h 5 1 1 [(U 0)] [(0, 1, (U 34))]) fun x6_0 h0 =>
 oB (oLen x0) fun x8_1 =>
 jnF 1 (fun z3_2 h2 =>
 oP (oBuildSl h2 5 1 1 [(U 0)] [(0, 1, (U 34))]) fun x57_3 h3 =>
 oP (evW (.append 5 1 1 [(U 0)] (.c z3_2) (.c x57_3)) .e h3) fun x58_4 h4 =>
 oB (evQ (.b2s (.c x58_4)) .e h4) fun x59_5 =>
 some (x59_5, h4)) fun j2 =>
 lpF 4 n (fun f6 y9_6 y8_6 y7_6 y3_6 h6 =>
 oB (bLt y9_6 y8_6) fun x10_7 =>
 ci x10_7 (
 jnF 4 (fun z9_8 z8_8 z7_8 z3_8 h8 =>
 oB (bAdd z9_8 (I 1)) fun x55_9 =>
 f6 x55_9 z8_8 z7_8 z3_8 h8) fun j8 =>
 oB (oIx 1 y7_6 y9_6) fun x11_10 =>
 oB (oLd h6 x11_10) fun x12_11 =>
 jnF 4 (fun z9_12 z8_12 z7_12 z3_12 h12 =>
 j8 z9_12 z8_12 z7_12 z3_12 h12) fun j12 =>
 jnF 5 (fun z9_13 z8_13 z7_13 z5_13 z3_13 h13 =>
 oP (oBuildSl h13 5 1 1 [(U 0)] [(0, 1, z5_13)]) fun x53_14 h14 =>
 oP (evW (.append 5 1 1 [(U 0)] (.c z3_13) (.c x53_14)) .e h14) fun x54_15 h15 =>
 j12 z9_13 z8_13 z7_13 x54_15 h15) fun j13 =>
 jnF 5 (fun z9_16 z8_16 z7_16 z5_16 z3_16 h16 =>
 oB' (nx 10 h16) fun h17 =>
 oB (binAV .shr .no z5_16 (.int .u64 4)) fun x44_18 =>
 oB (oIxS (.str [48, 49, 50, 51, 52, 53, 54, 55, 56, 57, 97, 98, 99, 100, 101, 102]) x44_18) fun x45_19 =>
 oB (binAV .and .no z5_16 (U 15)) fun x47_20 =>
 oB (oIxS (.str [48, 49, 50, 51, 52, 53, 54, 55, 56, 57, 97, 98, 99, 100, 101, 102]) x47_20) fun x48_21 =>
 fl1 true (evF (.buildSlice 5 1 4 [(U 0), (U 0), (U 0), (U 0)] [(0, 1, (.c (U 92))), (1, 1, (.c (U 120))), (2, 1, (.c x45_19)), (3, 1, (.c x48_21))]) .e) (Nat.add h16.next 7) fun x49_22 o22 =>
 oB' (lay1 (Nat.add h16.next 7) o22 h17) fun v23 =>
 oP (evW (.append 5 1 1 [(U 0)] (.c z3_16) (.c x49_22)) .e v23) fun x50_24 h24 =>
 j12 z9_16 z8_16 z7_16 x50_24 h24) fun j16 =>
 jnF 4 (fun z9_25 z8_25 z7_25 z3_25 h25 =>
 oP (oBuildSl h25 5 1 2 [(U 0), (U 0)] [(0, 1, (U 92)), (1, 1, (U 116))]) fun x40_26 h26 =>
 oP (evW (.append 5 1 1 [(U 0)] (.c z3_25) (.c x40_26)) .e h26) fun x41_27 h27 =>
 j12 z9_25 z8_25 z7_25 x41_27 h27) fun j25 =>
 jnF 4 (fun z9_28 z8_28 z7_28 z3_28 h28 =>
 oP (oBuildSl h28 5 1 2 [(U 0), (U 0)] [(0, 1, (U 92)), (1, 1, (U 110))]) fun x37_29 h29 =>
 oP (evW (.append 5 1 1 [(U 0)] (.c z3_28) (.c x37_29)) .e h29) fun x38_30 h30 =>
 j12 z9_28 z8_28 z7_28 x38_30 h30) fun j28 =>
 jnF 5 (fun z9_31 z8_31 z7_31 z5_31 z3_31 h31 =>
 oP (oBuildSl h31 5 1 2 [(U 0), (U 0)] [(0, 1, (U 92)), (1, 1, z5_31)]) fun x34_32 h32 =>
 oP (evW (.append 5 1 1 [(U 0)] (.c z3_31) (.c x34_32)) .e h32) fun x35_33 h33 =>
 j12 z9_31 z8_31 z7_31 x35_33 h33) fun j31 =>
 jnF 5 (fun z9_34 z8_34 z7_34 z5_34 z3_34 h34 =>
 j31 z9_34 z8_34 z7_34 z5_34 z3_34 h34) fun j34 =>
 oB (bEq .no x12_11 (U 92)) fun x15_35 =>
 ci x15_35 (
 j34 y9_6 y8_6 y7_6 x12_11 y3_6 h6) (
 oB (bEq .no x12_11 (U 34)) fun x18_36 =>
 ci x18_36 (
 j31 y9_6 y8_6 y7_6 x12_11 y3_6 h6) (
 oB (bEq .no x12_11 (U 10)) fun x21_37 =>
 ci x21_37 (
 j28 y9_6 y8_6 y7_6 y3_6 h6) (
 oB (bEq .no x12_11 (U 9)) fun x24_38 =>
 ci x24_38 (
 j25 y9_6 y8_6 y7_6 y3_6 h6) (
 oB (bLt x12_11 (U 32)) fun x27_39 =>
 oB (gq x27_39 false (some x12_11)) fun x29_40 =>
 oB (gq x27_39 false (bGt x29_40 (U 126))) fun x30_41 =>
 oB (oPick x27_39 (.bool true) x30_41) fun x31_42 =>
 ci x31_42 (
 j16 y9_6 y8_6 y7_6 x12_11 y3_6 h6) (
 j13 y9_6 y8_6 y7_6 x12_11 y3_6 h6)))))) (
 j2 y3_6 h6)) (I 0) x8_1 x0 x6_0 h0
theorem o_shell_Quote : FnOK Tryz.prog n_shell_Quote (a1 f_shell_Quote) := ok1 mixed Tryz.func59 (by kernel_rfl)
/- corrector/diag.Render -/
noncomputable def f_diag_Render (n : Nat) (call : Caller)  (x0 x1 : AV) (h : AH) : Ans :=
 oP (oNew h 59 [.nilp, .nils]) fun x5_0 h0 =>
 oB (oLen x1) fun x9_1 =>
 jnF 1 (fun z5_2 h2 =>
 oP (call n_strings_Builder_String [z5_2] h2) fun x54_3 h3 =>
 some (x54_3, h3)) fun j2 =>
 lpF 5 n (fun f4 y10_4 y9_4 y8_4 y5_4 y0_4 h4 =>
 oB (bLt y10_4 y9_4) fun x11_5 =>
 ci x11_5 (
 jnF 5 (fun z10_6 z9_6 z8_6 z5_6 z0_6 h6 =>
 oB (bAdd z10_6 (I 1)) fun x53_7 =>
 f4 x53_7 z9_6 z8_6 z5_6 z0_6 h6) fun j6 =>
 oB (oIx 3 y8_4 y10_4) fun x12_8 =>
 oB (oLdN 3 h4 x12_8) fun x13_9 =>
 oP (oNew h4 112 [(I 0), (I 0), (I 0)]) fun x7_10 h10 =>
 oP (oSt 3 h10 x7_10 x13_9) fun _ h11 =>
 oB (oFA 1 x7_10) fun x14_12 =>
 oB (oLd h11 x14_12) fun x15_13 =>
 oB (bGe x15_13 (I 0)) fun x16_14 =>
 oB (gq x16_14 true (oFA 1 x7_10)) fun x18_15 =>
 oB (gq x16_14 true (oLd h11 x18_15)) fun x19_16 =>
 oB (gq x16_14 true (some y0_4)) fun x20_17 =>
 oB (gq x16_14 true (oLen x20_17)) fun x21_18 =>
 oB (gq x16_14 true (bLe x19_16 x21_18)) fun x22_19 =>
 oB (oPick x16_14 x22_19 (.bool false)) fun x23_20 =>
 oB (gq x23_20 true (oFA 2 x7_10)) fun x25_21 =>
 oB (gq x23_20 true (oLd h11 x25_21)) fun x26_22 =>
 oB (gq x23_20 true (bGe x26_22 (I 0))) fun x27_23 =>
 oB (oPick x23_20 x27_23 (.bool false)) fun x28_24 =>
 oB (gq x28_24 true (oFA 2 x7_10)) fun x30_25 =>
 oB (gq x28_24 true (oLd h11 x30_25)) fun x31_26 =>
 oB (gq x28_24 true (some y0_4)) fun x32_27 =>
 oB (gq x28_24 true (oLen x32_27)) fun x33_28 =>
 oB (gq x28_24 true (bLe x31_26 x33_28)) fun x34_29 =>
 oB (oPick x28_24 x34_29 (.bool false)) fun x35_30 =>
 jnF 5 (fun z10_31 z9_31 z8_31 z5_31 z0_31 h31 =>
 j6 z10_31 z9_31 z8_31 z5_31 z0_31 h31) fun j31 =>
 ci x35_30 (
 oB' (nx 17 h11) fun h32 =>
 oB (oFA 1 x7_10) fun x37_33 =>
 oB (oLd h32 x37_33) fun x38_34 =>
 oP (call n_diag_place [y0_4, x38_34] h32) fun x39_35 h35 =>
 oB (bAdd x39_35 (.str [32])) fun x40_36 =>
 oB (oFA 2 x7_10) fun x42_37 =>
 oB (oLd h35 x42_37) fun x43_38 =>
 oP (call n_diag_place [y0_4, x43_38] h35) fun x44_39 h39 =>
 oB (bAdd x40_36 x44_39) fun x45_40 =>
 oB (bAdd x45_40 (.str [32])) fun x46_41 =>
 oB (oFA 0 x7_10) fun x47_42 =>
 oB (oLd h39 x47_42) fun x48_43 =>
 oP (call n_diag_Text [x48_43] h39) fun x49_44 h44 =>
 oB (bAdd x46_41 x49_44) fun x50_45 =>
 oB (bAdd x50_45 (.str [10])) fun x51_46 =>
 oP (call n_strings_Builder_WriteString [y5_4, x51_46] h44) fun x52_47 h47 =>
 ask1 true (oLd h32 x37_33) x38_34 (
 ask1 true (oLd h32 x42_37) x43_38 (
 ask1 true (oLd h35 x42_37) x43_38 (
 ask1 true (oLd h32 x47_42) x48_43 (
 ask1 true (oLd h35 x47_42) x48_43 (
 ask1 true (oLd h39 x47_42) x48_43 (
 j31 y10_4 y9_4 y8_4 y5_4 y0_4 h47))))))) (
 j31 y10_4 y9_4 y8_4 y5_4 y0_4 h11)) (
 j2 y5_4 h4)) (I 0) x9_1 x1 x5_0 x0 h0
theorem o_diag_Render : FnOK Tryz.prog n_diag_Render (a2 f_diag_Render) := ok2 mixed Tryz.func60 (by kernel_rfl)
/- corrector/parse.Tree -/
noncomputable def f_parse_Tree (n : Nat) (call : Caller)  (x0 x1 : AV) (h : AH) : Ans :=
 oP (oNew h 100 [.nils]) fun x5_0 h0 =>
 scF n fun m1 => jnF 5 (lpF 5 m1 fun f1 y9_1 y8_1 y7_1 y5_1 y4_1 h1 =>
 oB (oNil y7_1) fun x34_2 =>
 oB (oFA 2 x34_2) fun x35_3 =>
 oB (oLd h1 x35_3) fun x36_4 =>
 oB (oLen x36_4) fun x37_5 =>
 oB (bLt y9_1 x37_5) fun x38_6 =>
 ci x38_6 (
 oP (wOf (.callV (.c y8_1) [(.c y9_1)]) call .e h1) fun x41_7 h7 =>
 f1 x41_7 y8_1 y7_1 y5_1 y4_1 h7) (
 oP (call n_parse_parser_told [y7_1] h1) fun x43_8 h8 =>
 oB' (nx 12 h8) fun h9 =>
 oB (oNil y7_1) fun x46_10 =>
 oB (oFA 4 x46_10) fun x47_11 =>
 oB (oLdN 1 h9 x47_11) fun x48_12 =>
 oB (oNil y7_1) fun x50_13 =>
 oB (oFA 5 x50_13) fun x51_14 =>
 oB (oLd h9 x51_14) fun x52_15 =>
 oP (oSt 1 h9 y5_1 x48_12) fun x0_16 h16 =>
 ask1 true (oLdN 1 h9 x47_11) x48_12 (
 ask1 true (oLd h9 x51_14) x52_15 (
 ask1 true (oLd h16 x51_14) x52_15 (
 retT [(4, none), (5, some (some 1)), (6, none)] (sput 6 (sput 5 (sput 4 Tr.e y4_1) y5_1) x52_15) h16))))) fun f1 =>
 oB (bLt x1 (I 1)) fun x11_17 =>
 oB (gq x11_17 false (some x1)) fun x13_18 =>
 oB (gq x11_17 false (bGt x13_18 (I 50))) fun x14_19 =>
 oB (oPick x11_17 (.bool true) x14_19) fun x15_20 =>
 ci x15_20 (
 oB (oBuild [.nils] []) fun x16_21 =>
 oP (oSt 1 h0 x5_0 x16_21) fun _ h22 =>
 retT [(4, none), (5, some (some 1)), (6, none)] (sput 6 (sput 5 (sput 4 Tr.e .nils) x5_0) .nils) h22) (
 oP (call n_scan_Tokens [x0] h0) fun x18_23 h23 =>
 oP (call n_rows_Rows [x0, x18_23] h23) fun x23_24 h24 =>
 oB (oLen x18_23) fun x26_25 =>
 oP (call n_arena_New [x26_25] h24) fun x27_26 h26 =>
 oB (oBuild [.nils, .nils, .nils, (I 0), .nils, .nils, (I 0), (.bool false), .nils, (I 0)] [(0, 1, x0), (1, 1, x18_23), (2, 1, x23_24), (3, 1, x1), (4, 1, x27_26), (6, 1, (Ineg 0)), (9, 1, (Ineg 0))]) fun x28_27 =>
 oP (oNew h26 157 (AV.cells x28_27)) fun x29_28 h28 =>
 oB (some (.fn n_parse_parser_row [x29_28] [])) fun x31_29 =>
 oB (oNil x29_28) fun x34_30 =>
 oB (oFA 2 x34_30) fun x35_31 =>
 oB (oLd h28 x35_31) fun x36_32 =>
 oB (oLen x36_32) fun x37_33 =>
 oB (bLt (I 0) x37_33) fun x38_34 =>
 ci x38_34 (
 oP (wOf (.callV (.c x31_29) [(.c (I 0))]) call .e h28) fun x41_35 h35 =>
 f1 x41_35 x31_29 x29_28 x5_0 x18_23 h35) (
 oP (call n_parse_parser_told [x29_28] h28) fun x43_36 h36 =>
 oB' (nx 12 h36) fun h37 =>
 oB (oNil x29_28) fun x46_38 =>
 oB (oFA 4 x46_38) fun x47_39 =>
 oB (oLdN 1 h37 x47_39) fun x48_40 =>
 oB (oNil x29_28) fun x50_41 =>
 oB (oFA 5 x50_41) fun x51_42 =>
 oB (oLd h37 x51_42) fun x52_43 =>
 oP (oSt 1 h37 x5_0 x48_40) fun x0_44 h44 =>
 ask1 true (oLdN 1 h37 x47_39) x48_40 (
 ask1 true (oLd h37 x51_42) x52_43 (
 ask1 true (oLd h44 x51_42) x52_43 (
 retT [(4, none), (5, some (some 1)), (6, none)] (sput 6 (sput 5 (sput 4 Tr.e x18_23) x5_0) x52_43) h44)))))
theorem o_parse_Tree : FnOK Tryz.prog n_parse_Tree (a2 f_parse_Tree) := ok2 mixed Tryz.func61 (by kernel_rfl)
/- corrector/graph.Compose -/
noncomputable def f_graph_Compose (n : Nat) (call : Caller)  (x0 x1 x2 : AV) (h : AH) : Ans :=
 oP (oNew h 100 (AV.cells x2)) fun x5_0 h0 =>
 oP (oNew h0 105 [.nils, .nils, .nils]) fun x6_1 h1 =>
 oB (oLdN 1 h1 x5_0) fun x14_2 =>
 oP (call n_graph_fits [x0, x1, x14_2] h1) fun x15_3 h3 =>
 oB (evQ (.un .not (.c x15_3)) .e h3) fun x16_4 =>
 ci x16_4 (
 oB (oBuild [.nils, .nils, .nils] []) fun x17_5 =>
 oP (oSt 3 h3 x6_1 x17_5) fun _ h6 =>
 retT [(6, some (some 3)), (7, none)] (sput 7 (sput 6 Tr.e x6_1) .nils) h6) (
 oB' (nx 11 h3) fun h7 =>
 oB (oLdN 1 h7 x5_0) fun x20_8 =>
 oB (oFA 0 x5_0) fun x21_9 =>
 oB (oLd h7 x21_9) fun x22_10 =>
 oB (oLen x22_10) fun x23_11 =>
 oP (evW (.mkSlice 3 1 8 [(I 0)] (.c x23_11) (.c x23_11)) .e h7) fun x24_12 h12 =>
 oB (oBuild [.nils, .nils, .nils] [(2, 1, x24_12)]) fun x25_13 =>
 oB (oBuild [.nils, .nils, .nils, .nils, .nils, .nils, .nils, .nilm] [(0, 1, x0), (1, 1, x1), (2, 1, x20_8), (3, 3, x25_13)]) fun x26_14 =>
 fl1 true (evF (.box 162 (.c x26_14)) .e) (Nat.add h3.next 9) fun x27_15 o15 =>
 ask1 true (oLdN 1 h7 x5_0) x20_8 (
 ask1 true (oLdN 1 h12 x5_0) x20_8 (
 ask1 true (oLd h7 x21_9) x22_10 (
 oB' (lay1 (Nat.add h3.next 9) o15 h12) fun v16 =>
 oB (oNil x27_15) fun x29_17 =>
 oB (oFA 3 x29_17) fun x30_18 =>
 oB (oFA 2 x30_18) fun x31_19 =>
 oB (oLd v16 x31_19) fun x32_20 =>
 oB (oLen x32_20) fun x33_21 =>
 jnF 3 (fun z8_22 z6_22 z5_22 h22 =>
 oB (oFA 0 z5_22) fun x45_23 =>
 oB (oLd h22 x45_23) fun x46_24 =>
 oB (oIx 6 x46_24 (I 0)) fun x47_25 =>
 oB (oFA 4 x47_25) fun x48_26 =>
 oB (oLd h22 x48_26) fun x49_27 =>
 oB (oLen x49_27) fun x50_28 =>
 jnF 2 (fun z8_29 z6_29 h29 =>
 oB (oNil z8_29) fun x82_30 =>
 oB (oFA 6 x82_30) fun x83_31 =>
 oB (oLd h29 x83_31) fun x84_32 =>
 oP (call n_slices_SortFunc_api_Diag_api_Diag [x84_32, (.fn 104 [] [])] h29) fun x85_33 h33 =>
 oB' (nx 26 h33) fun h34 =>
 oB (oNil z8_29) fun x87_35 =>
 oB (oFA 3 x87_35) fun x88_36 =>
 oB (oFA 0 x88_36) fun x89_37 =>
 oB (oLd h34 x89_37) fun x90_38 =>
 oP (call n_slices_Clone_api_Value_api_Value [x90_38] h34) fun x91_39 h39 =>
 oB (oNil z8_29) fun x93_40 =>
 oB (oFA 3 x93_40) fun x94_41 =>
 oB (oFA 1 x94_41) fun x95_42 =>
 oB (oLd h39 x95_42) fun x96_43 =>
 oP (call n_slices_Clone_int_int [x96_43] h39) fun x97_44 h44 =>
 oB (oNil z8_29) fun x99_45 =>
 oB (oFA 3 x99_45) fun x100_46 =>
 oB (oFA 2 x100_46) fun x101_47 =>
 oB (oLd h44 x101_47) fun x102_48 =>
 oB (oBuild [.nils, .nils, .nils] [(0, 1, x91_39), (1, 1, x97_44), (2, 1, x102_48)]) fun x103_49 =>
 oB (oNil z8_29) fun x105_50 =>
 oB (oFA 6 x105_50) fun x106_51 =>
 oB (oLd h44 x106_51) fun x107_52 =>
 oP (call n_slices_Compact_api_Diag_api_Diag [x107_52] h44) fun x108_53 h53 =>
 oP (call n_slices_Clone_api_Diag_api_Diag [x108_53] h53) fun x109_54 h54 =>
 oP (oSt 3 h54 z6_29 x103_49) fun x0_55 h55 =>
 ask1 true (oLd h34 x89_37) x90_38 (
 ask1 true (oLd h34 x95_42) x96_43 (
 ask1 true (oLd h39 x95_42) x96_43 (
 ask1 true (oLd h34 x101_47) x102_48 (
 ask1 true (oLd h39 x101_47) x102_48 (
 ask1 true (oLd h44 x101_47) x102_48 (
 ask1 true (oLd h53 x101_47) x102_48 (
 ask1 true (oLd h54 x101_47) x102_48 (
 ask1 true (oLd h34 x106_51) x107_52 (
 ask1 true (oLd h39 x106_51) x107_52 (
 ask1 true (oLd h44 x106_51) x107_52 (
 retT [(6, some (some 3)), (7, none)] (sput 7 (sput 6 Tr.e z6_29) x109_54) h55)))))))))))) fun j29 =>
 lpF 6 n (fun f56 y51_56 y50_56 y49_56 y8_56 y6_56 y5_56 h56 =>
 oB (bLt y51_56 y50_56) fun x52_57 =>
 ci x52_57 (
 jnF 6 (fun z51_58 z50_58 z49_58 z8_58 z6_58 z5_58 h58 =>
 oB (bAdd z51_58 (I 1)) fun x80_59 =>
 f56 x80_59 z50_58 z49_58 z8_58 z6_58 z5_58 h58) fun j58 =>
 oB (oIx 1 y49_56 y51_56) fun x53_60 =>
 oB (oLd h56 x53_60) fun x54_61 =>
 oB (oFA 0 y5_56) fun x55_62 =>
 oB (oLd h56 x55_62) fun x56_63 =>
 oB (oIx 6 x56_63 x54_61) fun x58_64 =>
 oB (oFA 0 x58_64) fun x59_65 =>
 oB (oLd h56 x59_65) fun x60_66 =>
 oB (bEq .no x60_66 (I 2)) fun x61_67 =>
 jnF 6 (fun z51_68 z50_68 z49_68 z8_68 z6_68 z5_68 h68 =>
 j58 z51_68 z50_68 z49_68 z8_68 z6_68 z5_68 h68) fun j68 =>
 ci x61_67 (
 oP (evW (.mkMap) .e h56) fun x63_69 h69 =>
 oB (oNil y8_56) fun x64_70 =>
 oB (oFA 7 x64_70) fun x65_71 =>
 oP (oSt 1 h69 x65_71 x63_69) fun _ h72 =>
 oB' (nx 15 h72) fun h73 =>
 oB (oNil y8_56) fun x68_74 =>
 oB (oFA 3 x68_74) fun x69_75 =>
 oB (oFA 1 x69_75) fun x70_76 =>
 oB (oLd h73 x70_76) fun x71_77 =>
 oP (call n_graph_composer_node [y8_56, x54_61] h73) fun x74_78 h78 =>
 fl1 true (evF (.buildSlice 3 1 1 [(I 0)] [(0, 1, (.c x74_78))]) .e) (Nat.add h72.next 9) fun x75_79 o79 =>
 oB' (lay1 (Nat.add h72.next 9) o79 h78) fun v80 =>
 oP (evW (.append 3 1 8 [(I 0)] (.c x71_77) (.c x75_79)) .e v80) fun x76_81 h81 =>
 oB (oNil y8_56) fun x77_82 =>
 oB (oFA 3 x77_82) fun x78_83 =>
 oB (oFA 1 x78_83) fun x79_84 =>
 oP (oSt 1 h81 x79_84 x76_81) fun x0_85 h85 =>
 ask1 true (oLd h73 x70_76) x71_77 (
 ask1 true (oLd h78 x70_76) x71_77 (
 j68 y51_56 y50_56 y49_56 y8_56 y6_56 y5_56 h85))) (
 j68 y51_56 y50_56 y49_56 y8_56 y6_56 y5_56 h56)) (
 j29 y8_56 y6_56 h56)) (I 0) x50_28 x49_27 z8_22 z6_22 z5_22 h22) fun j22 =>
 lpF 5 n (fun f86 y34_86 y33_86 y8_86 y6_86 y5_86 h86 =>
 oB (bLt y34_86 y33_86) fun x35_87 =>
 ci x35_87 (
 jnF 5 (fun z34_88 z33_88 z8_88 z6_88 z5_88 h88 =>
 oB (bAdd z34_88 (I 1)) fun x44_89 =>
 f86 x44_89 z33_88 z8_88 z6_88 z5_88 h88) fun j88 =>
 oB (oNil y8_86) fun x38_90 =>
 oB (oFA 3 x38_90) fun x39_91 =>
 oB (oFA 2 x39_91) fun x40_92 =>
 oB (oLd h86 x40_92) fun x41_93 =>
 oB (oIx 1 x41_93 y34_86) fun x43_94 =>
 oP (oSt 1 h86 x43_94 (Ineg 0)) fun _ h95 =>
 j88 y34_86 y33_86 y8_86 y6_86 y5_86 h95) (
 j22 y8_86 y6_86 y5_86 h86)) (I 0) x33_21 x27_15 x6_1 x5_0 v16))))
theorem o_graph_Compose : FnOK Tryz.prog n_graph_Compose (a3 f_graph_Compose) := ok3 mixed Tryz.func62 (by kernel_rfl)
/- corrector/equal.Print -/
noncomputable def f_equal_Print (n : Nat) (call : Caller)  (x0 x1 : AV) (h : AH) : Ans :=
 oP (oNew h 105 (AV.cells x0)) fun x2_0 h0 =>
 oB (bLt x1 (I 0)) fun x7_1 =>
 oB (gq x7_1 false (some x1)) fun x9_2 =>
 oB (gq x7_1 false (oFA 0 x2_0)) fun x10_3 =>
 oB (gq x7_1 false (oLd h0 x10_3)) fun x11_4 =>
 oB (gq x7_1 false (oLen x11_4)) fun x12_5 =>
 oB (gq x7_1 false (bGe x9_2 x12_5)) fun x13_6 =>
 oB (oPick x7_1 (.bool true) x13_6) fun x14_7 =>
 oB (gq x14_7 false (oLdN 3 h0 x2_0)) fun x16_8 =>
 oP (gw x14_7 false (call n_equal_count [x16_8] h0) h0) fun x17_9 h9 =>
 oB (gq x14_7 false (some x1)) fun x18_10 =>
 oB (gq x14_7 false (oIx 1 x17_9 x18_10)) fun x19_11 =>
 oB (gq x14_7 false (oLd h9 x19_11)) fun x20_12 =>
 oB (gq x14_7 false (bGt x20_12 (I 10000))) fun x21_13 =>
 oB (oPick x14_7 (.bool true) x21_13) fun x22_14 =>
 ci x22_14 (
 some ((.str []), h9)) (
 oP (oNew h9 59 [.nilp, .nils]) fun x5_15 h15 =>
 oB (oLdN 3 h15 x2_0) fun x23_16 =>
 oP (call n_equal_write [x5_15, x23_16, x1] h15) fun x25_17 h17 =>
 oP (call n_strings_Builder_String [x5_15] h17) fun x26_18 h18 =>
 some (x26_18, h18))
theorem o_equal_Print : FnOK Tryz.prog n_equal_Print (a2 f_equal_Print) := ok2 mixed Tryz.func63 (by kernel_rfl)
/- corrector/lint.Find -/
noncomputable def f_lint_Find (n : Nat) (call : Caller)  (x0 x1 : AV) (h : AH) : Ans :=
 oP (oNew h 36 (AV.cells x1)) fun x3_0 h0 =>
 oB (oLen x0) fun x20_1 =>
 oB (bGt x20_1 (I 16384)) fun x21_2 =>
 ci x21_2 (
 some (.tup [.nils, (I 4)], h0)) (
 oB (oLdN 14 h0 x3_0) fun x22_3 =>
 oP (call n_config_Check [x22_3] h0) fun x23_4 h4 =>
 oB (bNe .no x23_4 (I 0)) fun x25_5 =>
 ci x25_5 (
 some (.tup [.nils, x23_4], h4)) (
 oB (oFA 13 x3_0) fun x29_6 =>
 oB (oLd h4 x29_6) fun x30_7 =>
 oP (call n_parse_Tree [x0, x30_7] h4) fun x31_8 h8 =>
 oB (oEx 0 x31_8) fun x32_9 =>
 oB (oEx 1 x31_8) fun x33_10 =>
 oB (oEx 2 x31_8) fun x34_11 =>
 oP (oNew h8 100 [.nils]) fun x8_12 h12 =>
 oP (oSt 1 h12 x8_12 x33_10) fun _ h13 =>
 oB (oLdN 1 h13 x8_12) fun x38_14 =>
 oP (call n_graph_Compose [x0, x32_9, x38_14] h13) fun x39_15 h15 =>
 oB (oEx 0 x39_15) fun x40_16 =>
 oB (oEx 1 x39_15) fun x41_17 =>
 oP (oNew h15 105 [.nils, .nils, .nils]) fun x10_18 h18 =>
 oP (oSt 3 h18 x10_18 x40_16) fun _ h19 =>
 oB' (nx 11 h19) fun h20 =>
 oB (oLdN 14 h20 x3_0) fun x43_21 =>
 oP (call n_rows_Rows [x0, x32_9] h20) fun x47_22 h22 =>
 oB (oLdN 1 h22 x8_12) fun x48_23 =>
 oB (oLdN 3 h22 x10_18) fun x49_24 =>
 oB (oBuild [.nils, (.bool false), (.bool false), (.bool false), (.bool false), (.bool false), (.bool false), (.bool false), (.bool false), (.bool false), (.bool false), (I 0), (I 0), (I 0), (I 0), .nils, .nils, .nils, .nils, .nils, .nils, .nils] [(0, 1, x0), (1, 14, x43_21), (15, 1, x32_9), (16, 1, x47_22), (17, 1, x48_23), (18, 3, x49_24)]) fun x50_25 =>
 fl1 true (evF (.box 173 (.c x50_25)) .e) (Nat.add h19.next 9) fun x51_26 o26 =>
 ask1 true (oLdN 14 h20 x3_0) x43_21 (
 ask1 true (oLdN 14 h22 x3_0) x43_21 (
 ask1 true (oLdN 1 h20 x8_12) x48_23 (
 ask1 true (oLdN 1 h22 x8_12) x48_23 (
 ask1 true (oLdN 3 h20 x10_18) x49_24 (
 ask1 true (oLdN 3 h22 x10_18) x49_24 (
 oB' (lay1 (Nat.add h19.next 9) o26 h22) fun v27 =>
 oB (some (.fn n_lint_finder_trail [x51_26] [])) fun x53_28 =>
 oB (some (.fn n_lint_finder_long [x51_26] [])) fun x55_29 =>
 oB (some (.fn n_lint_finder_step [x51_26] [])) fun x57_30 =>
 oB (some (.fn n_lint_finder_empty [x51_26] [])) fun x59_31 =>
 oB (some (.fn n_lint_finder_mark [x51_26] [])) fun x61_32 =>
 oB (some (.fn n_lint_finder_hash [x51_26] [])) fun x63_33 =>
 oB (some (.fn n_lint_finder_comma [x51_26] [])) fun x65_34 =>
 oB (some (.fn n_lint_finder_twice [x51_26] [])) fun x67_35 =>
 oB (some (.fn n_lint_finder_end [x51_26] [])) fun x69_36 =>
 oP (oBuildSl v27 1 1 10 [.nilf, .nilf, .nilf, .nilf, .nilf, .nilf, .nilf, .nilf, .nilf, .nilf] [(1, 1, x53_28), (2, 1, x55_29), (3, 1, x57_30), (4, 1, x59_31), (5, 1, x61_32), (6, 1, x63_33), (7, 1, x65_34), (8, 1, x67_35), (9, 1, x69_36)]) fun x70_37 h37 =>
 oB (oLen x70_37) fun x71_38 =>
 jnF 3 (fun z12_39 z7_39 z0_39 h39 =>
 oP (call n_lint_on [z0_39, z7_39] h39) fun x90_40 h40 =>
 oB (oNil z12_39) fun x92_41 =>
 oB (oFA 21 x92_41) fun x93_42 =>
 oB (oLd h40 x93_42) fun x94_43 =>
 oB (oLen x94_43) fun x95_44 =>
 jnF 1 (fun z16_45 h45 =>
 oP (call n_diag_Sort [z16_45] h45) fun x109_46 h46 =>
 some (.tup [x109_46, (I 0)], h46)) fun j45 =>
 lpF 5 n (fun f47 y96_47 y95_47 y94_47 y16_47 y15_47 h47 =>
 oB (bLt y96_47 y95_47) fun x97_48 =>
 ci x97_48 (
 jnF 5 (fun z96_49 z95_49 z94_49 z16_49 z15_49 h49 =>
 oB (bAdd z96_49 (I 1)) fun x107_50 =>
 f47 x107_50 z95_49 z94_49 z16_49 z15_49 h49) fun j49 =>
 oB (oIx 3 y94_47 y96_47) fun x98_51 =>
 oB (oLdN 3 h47 x98_51) fun x99_52 =>
 oP (oNew h47 112 [(I 0), (I 0), (I 0)]) fun x18_53 h53 =>
 oP (oSt 3 h53 x18_53 x99_52) fun _ h54 =>
 oB (oLdN 3 h54 x18_53) fun x101_55 =>
 oP (wOf (.callV (.c y15_47) [(.c x101_55)]) call .e h54) fun x102_56 h56 =>
 jnF 5 (fun z96_57 z95_57 z94_57 z16_57 z15_57 h57 =>
 j49 z96_57 z95_57 z94_57 z16_57 z15_57 h57) fun j57 =>
 ci x102_56 (
 oB (oLdN 3 h56 x18_53) fun x104_58 =>
 oP (oBuildSl h56 112 3 1 [(I 0), (I 0), (I 0)] [(0, 3, x104_58)]) fun x105_59 h59 =>
 oP (evW (.append 112 3 24 [(I 0), (I 0), (I 0)] (.c y16_47) (.c x105_59)) .e h59) fun x106_60 h60 =>
 j57 y96_47 y95_47 y94_47 x106_60 y15_47 h60) (
 j57 y96_47 y95_47 y94_47 y16_47 y15_47 h56)) (
 j45 y16_47 h47)) (I 0) x95_44 x94_43 .nils x90_40 h40) fun j39 =>
 lpF 7 n (fun f61 y72_61 y71_61 y70_61 y12_61 y7_61 y3_61 y0_61 h61 =>
 oB (bLt y72_61 y71_61) fun x73_62 =>
 ci x73_62 (
 jnF 7 (fun z72_63 z71_63 z70_63 z12_63 z7_63 z3_63 z0_63 h63 =>
 oB (bAdd z72_63 (I 1)) fun x87_64 =>
 f61 x87_64 z71_63 z70_63 z12_63 z7_63 z3_63 z0_63 h63) fun j63 =>
 oB (oIx 1 y70_61 y72_61) fun x75_65 =>
 oB (oLd h61 x75_65) fun x76_66 =>
 oB (bGt y72_61 (I 0)) fun x78_67 =>
 oB (gq x78_67 true (some y72_61)) fun x80_68 =>
 oB (gq x78_67 true (oFA 0 y3_61)) fun x81_69 =>
 oB (gq x78_67 true (evQ (.idxArr 10 1 (.c x81_69) (.c x80_68)) .e h61)) fun x82_70 =>
 oB (gq x78_67 true (oLd h61 x82_70)) fun x83_71 =>
 oB (oPick x78_67 x83_71 (.bool false)) fun x84_72 =>
 jnF 7 (fun z72_73 z71_73 z70_73 z12_73 z7_73 z3_73 z0_73 h73 =>
 j63 z72_73 z71_73 z70_73 z12_73 z7_73 z3_73 z0_73 h73) fun j73 =>
 ci x84_72 (
 oP (wOf (.callV (.c x76_66) []) call .e h61) fun x86_74 h74 =>
 j73 y72_61 y71_61 y70_61 y12_61 y7_61 y3_61 y0_61 h74) (
 j73 y72_61 y71_61 y70_61 y12_61 y7_61 y3_61 y0_61 h61)) (
 j39 y12_61 y7_61 y0_61 h61)) (I 0) x71_38 x70_37 x51_26 x32_9 x3_0 x0 h37))))))))
theorem o_lint_Find : FnOK Tryz.prog n_lint_Find (a2 f_lint_Find) := ok2 mixed Tryz.func64 (by kernel_rfl)
/- corrector/fix.Fix -/
noncomputable def f_fix_Fix (n : Nat) (call : Caller)  (x0 x1 x2 : AV) (h : AH) : Ans :=
 oP (oNew h 36 (AV.cells x1)) fun x4_0 h0 =>
 oB (bLt x2 (I 0)) fun x13_1 =>
 oB (gq x13_1 false (some x2)) fun x15_2 =>
 oB (gq x13_1 false (bGt x15_2 (I 20))) fun x16_3 =>
 oB (oPick x13_1 (.bool true) x16_3) fun x17_4 =>
 ci x17_4 (
 some (.tup [.nils, .nils, (I 1)], h0)) (
 oB (oLdN 14 h0 x4_0) fun x18_5 =>
 oB (oBuild [(.bool false), (.bool false), (.bool false), (.bool false), (.bool false), (.bool false), (.bool false), (.bool false), (.bool false), (.bool false), (I 0), (I 0), (I 0), (I 0), .nils, .nils, (I 0), (I 0), .nils, .nils, .nils, .nils] [(0, 14, x18_5)]) fun x19_6 =>
 oP (oNew h0 181 (AV.cells x19_6)) fun x20_7 h7 =>
 oP (call n_fix_fixer_look [x20_7, x0] h7) fun x25_8 h8 =>
 oB (oEx 0 x25_8) fun x26_9 =>
 oB (oEx 1 x25_8) fun x27_10 =>
 oB (oNil x20_7) fun x28_11 =>
 oB (oFA 14 x28_11) fun x29_12 =>
 oP (oSt 7 h8 x29_12 x26_9) fun _ h13 =>
 oB (bNe .no x27_10 (I 0)) fun x31_14 =>
 ci x31_14 (
 some (.tup [.nils, .nils, x27_10], h13)) (
 oB (some (.fn n_fix_fixer_round [x20_7] [])) fun x34_15 =>
 jnF 1 (fun z9_16 h16 =>
 oB' (nx 14 h16) fun h17 =>
 oB (oNil z9_16) fun x45_18 =>
 oB (oFA 14 x45_18) fun x46_19 =>
 oB (oFA 0 x46_19) fun x47_20 =>
 oB (oLd h17 x47_20) fun x48_21 =>
 oP (call n_slices_Clone_byte_byte [x48_21] h17) fun x49_22 h22 =>
 oB (oNil z9_16) fun x51_23 =>
 oB (oFA 21 x51_23) fun x52_24 =>
 oB (oLd h22 x52_24) fun x53_25 =>
 oP (call n_slices_Clone_fix_Round_fix_Round [x53_25] h22) fun x54_26 h26 =>
 ask1 true (oLd h17 x47_20) x48_21 (
 ask1 true (oLd h17 x52_24) x53_25 (
 ask1 true (oLd h22 x52_24) x53_25 (
 some (.tup [x49_22, x54_26, (I 0)], h26))))) fun j16 =>
 lpF 4 n (fun f27 y11_27 y10_27 y9_27 y2_27 h27 =>
 oB (bLt y11_27 y2_27) fun x37_28 =>
 oB (gq x37_28 true (some y10_27)) fun x39_29 =>
 oP (gw x37_28 true (wOf (.callV (.c x39_29) []) call .e h27) h27) fun x40_30 h30 =>
 oB (oPick x37_28 x40_30 (.bool false)) fun x41_31 =>
 ci x41_31 (
 jnF 4 (fun z11_32 z10_32 z9_32 z2_32 h32 =>
 oB (bAdd z11_32 (I 1)) fun x43_33 =>
 f27 x43_33 z10_32 z9_32 z2_32 h32) fun j32 =>
 j32 y11_27 y10_27 y9_27 y2_27 h30) (
 j16 y9_27 h30)) (I 0) x34_15 x20_7 x2 h13))
theorem o_fix_Fix : FnOK Tryz.prog n_fix_Fix (a3 f_fix_Fix) := ok3 mixed Tryz.func65 (by kernel_rfl)
/- corrector/lines.Place -/
noncomputable def f_lines_Place (n : Nat) (call : Caller)  (x0 x1 : AV) (h : AH) : Ans :=
 oB (bLt x1 (I 0)) fun x10_0 =>
 oB (gq x10_0 false (some x1)) fun x12_1 =>
 oB (gq x10_0 false (some x0)) fun x13_2 =>
 oB (gq x10_0 false (oLen x13_2)) fun x14_3 =>
 oB (gq x10_0 false (bGt x12_1 x14_3)) fun x15_4 =>
 oB (oPick x10_0 (.bool true) x15_4) fun x16_5 =>
 ci x16_5 (
 some (.tup [(I 0), (I 0)], h)) (
 oP (call n_lines_Starts [x0] h) fun x18_6 h6 =>
 oB (oLen x18_6) fun x19_7 =>
 jnF 4 (fun z6_8 z4_8 z1_8 z0_8 h8 =>
 oB (evQ (.sl 1 (.c z0_8) (some (.c z6_8)) (some (.c z1_8)) none) .e h8) fun x34_9 =>
 oB (evQ (.b2s (.c x34_9)) .e h8) fun x35_10 =>
 oP (evW (.rangeS (.c x35_10)) .e h8) fun x36_11 h11 =>
 jnF 2 (fun z5_12 z4_12 h12 =>
 some (.tup [z4_12, z5_12], h12)) fun j12 =>
 lpF 3 n (fun f13 y36_13 y5_13 y4_13 h13 =>
 oP (evW (.nextS (.c y36_13)) .e h13) fun x37_14 h14 =>
 oB (oEx 0 x37_14) fun x38_15 =>
 ci x38_15 (
 jnF 3 (fun z36_16 z5_16 z4_16 h16 =>
 f13 z36_16 z5_16 z4_16 h16) fun j16 =>
 oB (bAdd y5_13 (I 1)) fun x40_17 =>
 j16 y36_13 x40_17 y4_13 h14) (
 j12 y5_13 y4_13 h14)) x36_11 (I 1) z4_8 h11) fun j8 =>
 lpF 7 n (fun f18 y20_18 y19_18 y18_18 y6_18 y4_18 y1_18 y0_18 h18 =>
 oB (bLt y20_18 y19_18) fun x21_19 =>
 ci x21_19 (
 jnF 7 (fun z20_20 z19_20 z18_20 z6_20 z4_20 z1_20 z0_20 h20 =>
 oB (bAdd z20_20 (I 1)) fun x30_21 =>
 f18 x30_21 z19_20 z18_20 z6_20 z4_20 z1_20 z0_20 h20) fun j20 =>
 oB (oIx 1 y18_18 y20_18) fun x22_22 =>
 oB (oLd h18 x22_22) fun x23_23 =>
 oB (bLe x23_23 y1_18) fun x26_24 =>
 jnF 7 (fun z20_25 z19_25 z18_25 z6_25 z4_25 z1_25 z0_25 h25 =>
 j20 z20_25 z19_25 z18_25 z6_25 z4_25 z1_25 z0_25 h25) fun j25 =>
 ci x26_24 (
 oB (bAdd y4_18 (I 1)) fun x28_26 =>
 j25 y20_18 y19_18 y18_18 x23_23 x28_26 y1_18 y0_18 h18) (
 j25 y20_18 y19_18 y18_18 y6_18 y4_18 y1_18 y0_18 h18)) (
 j8 y6_18 y4_18 y1_18 y0_18 h18)) (I 0) x19_7 x18_6 (I 0) (I 0) x1 x0 h6)
theorem o_lines_Place : FnOK Tryz.prog n_lines_Place (a2 f_lines_Place) := ok2 mixed Tryz.func66 (by kernel_rfl)
/- corrector/walk.At -/
noncomputable def f_walk_At (n : Nat) (call : Caller)  (x0 x1 x2 : AV) (h : AH) : Ans :=
 oP (oNew h 100 (AV.cells x1)) fun x4_0 h0 =>
 oP (call n_walk_token [x0, x2] h0) fun x12_1 h1 =>
 oP (oNew h1 3 [(I 0)]) fun x7_2 h2 =>
 oP (oSt 1 h2 x7_2 x12_1) fun _ h3 =>
 oB (bLt x2 (I 0)) fun x14_4 =>
 oB (gq x14_4 false (oLd h3 x7_2)) fun x16_5 =>
 oB (gq x14_4 false (bLt x16_5 (I 0))) fun x17_6 =>
 oB (oPick x14_4 (.bool true) x17_6) fun x18_7 =>
 oB (gq x18_7 false (oFA 0 x4_0)) fun x20_8 =>
 oB (gq x18_7 false (oLd h3 x20_8)) fun x21_9 =>
 oB (gq x18_7 false (oLen x21_9)) fun x22_10 =>
 oB (gq x18_7 false (bEq .no x22_10 (I 0))) fun x23_11 =>
 oB (oPick x18_7 (.bool true) x23_11) fun x24_12 =>
 ci x24_12 (
 some ((Ineg 0), h3)) (
 oB (oFA 0 x4_0) fun x25_13 =>
 oB (oLd h3 x25_13) fun x26_14 =>
 oB (oLen x26_14) fun x27_15 =>
 jnF 1 (fun z8_16 h16 =>
 some (z8_16, h16)) fun j16 =>
 lpF 5 n (fun f17 y28_17 y27_17 y8_17 y7_17 y4_17 h17 =>
 oB (bLt y28_17 y27_17) fun x29_18 =>
 ci x29_18 (
 jnF 5 (fun z28_19 z27_19 z8_19 z7_19 z4_19 h19 =>
 oB (bAdd z28_19 (I 1)) fun x49_20 =>
 f17 x49_20 z27_19 z8_19 z7_19 z4_19 h19) fun j19 =>
 oB (oFA 0 y4_17) fun x30_21 =>
 oB (oLd h17 x30_21) fun x31_22 =>
 oB (oIx 6 x31_22 y8_17) fun x33_23 =>
 oB (oFA 4 x33_23) fun x34_24 =>
 oB (oLd h17 x34_24) fun x35_25 =>
 oB (some (.fn n_walk_At_1 [] [y4_17, y7_17])) fun x36_26 =>
 oP (call n_slices_IndexFunc_int_int [x35_25, x36_26] h17) fun x37_27 h27 =>
 oB (bLt x37_27 (I 0)) fun x39_28 =>
 ci x39_28 (
 j16 y8_17 h27) (
 oB (oFA 0 y4_17) fun x40_29 =>
 oB (oLd h27 x40_29) fun x41_30 =>
 oB (oIx 6 x41_30 y8_17) fun x43_31 =>
 oB (oFA 4 x43_31) fun x44_32 =>
 oB (oLd h27 x44_32) fun x45_33 =>
 oB (oIx 1 x45_33 x37_27) fun x47_34 =>
 oB (oLd h27 x47_34) fun x48_35 =>
 j19 y28_17 y27_17 x48_35 y7_17 y4_17 h27)) (
 j16 y8_17 h17)) (I 0) x27_15 (I 0) x7_2 x4_0 h3)
theorem o_walk_At : FnOK Tryz.prog n_walk_At (a3 f_walk_At) := ok3 mixed Tryz.func67 (by kernel_rfl)
/- corrector/edit.Apply -/
noncomputable def f_edit_Apply (n : Nat) (call : Caller)  (x0 x1 : AV) (h : AH) : Ans :=
 oB (oLen x0) fun x12_0 =>
 oP (call n_edit_Check [x12_0, x1] h) fun x14_1 h1 =>
 oB (bNe .no x14_1 (I 0)) fun x16_2 =>
 ci x16_2 (
 some (.tup [.nils, x14_1], h1)) (
 oB (oLen x1) fun x19_3 =>
 jnF 3 (fun z8_4 z7_4 z0_4 h4 =>
 oB (evQ (.sl 1 (.c z0_4) (some (.c z8_4)) none none) .e h4) fun x43_5 =>
 oP (evW (.append 5 1 1 [(U 0)] (.c z7_4) (.c x43_5)) .e h4) fun x44_6 h6 =>
 oB (oLen x44_6) fun x46_7 =>
 oB (bGt x46_7 (I 16384)) fun x47_8 =>
 ci x47_8 (
 some (.tup [.nils, (I 4)], h6)) (
 oP (evW (.append 5 1 1 [(U 0)] (.c .nils) (.c x44_6)) .e h6) fun x49_9 h9 =>
 some (.tup [x49_9, (I 0)], h9))) fun j4 =>
 lpF 6 n (fun f10 y20_10 y19_10 y18_10 y8_10 y7_10 y0_10 h10 =>
 oB (bLt y20_10 y19_10) fun x21_11 =>
 ci x21_11 (
 jnF 6 (fun z20_12 z19_12 z18_12 z8_12 z7_12 z0_12 h12 =>
 oB (bAdd z20_12 (I 1)) fun x39_13 =>
 f10 x39_13 z19_12 z18_12 z8_12 z7_12 z0_12 h12) fun j12 =>
 oB (oIx 3 y18_10 y20_10) fun x22_14 =>
 oB (oLdN 3 h10 x22_14) fun x23_15 =>
 oP (oNew h10 124 [(I 0), (I 0), (.str [])]) fun x10_16 h16 =>
 oP (oSt 3 h16 x10_16 x23_15) fun _ h17 =>
 oB (oFA 0 x10_16) fun x27_18 =>
 oB (oLd h17 x27_18) fun x28_19 =>
 oB (oFA 0 x10_16) fun x29_20 =>
 oB (oLd h17 x29_20) fun x30_21 =>
 oB (evQ (.sl 1 (.c y0_10) (some (.c y8_10)) (some (.c x28_19)) (some (.c x30_21))) .e h17) fun x31_22 =>
 oP (evW (.append 5 1 1 [(U 0)] (.c y7_10) (.c x31_22)) .e h17) fun x32_23 h23 =>
 oB (oFA 2 x10_16) fun x34_24 =>
 oB (oLd h23 x34_24) fun x35_25 =>
 oP (evW (.append 5 1 1 [(U 0)] (.c x32_23) (.c x35_25)) .e h23) fun x36_26 h26 =>
 oB (oFA 1 x10_16) fun x37_27 =>
 oB (oLd h26 x37_27) fun x38_28 =>
 j12 y20_10 y19_10 y18_10 x38_28 x36_26 y0_10 h26) (
 j4 y8_10 y7_10 y0_10 h10)) (I 0) x19_3 x1 (I 0) .nils x0 h1)
theorem o_edit_Apply : FnOK Tryz.prog n_edit_Apply (a2 f_edit_Apply) := ok2 mixed Tryz.func68 (by kernel_rfl)
/- corrector/shell.escape -/
noncomputable def f_shell_escape (n : Nat) (call : Caller)  (x0 : AV) (h : AH) : Ans :=
 oB (oIxS x0 (I 0)) fun x7_0 =>
 oB (bNe .no x7_0 (U 92)) fun x8_1 =>
 ci x8_1 (
 oB (oIxS x0 (I 0)) fun x10_2 =>
 some (.tup [x10_2, (I 1)], h)) (
 oB (oLenS x0) fun x12_3 =>
 oB (bLt x12_3 (I 2)) fun x13_4 =>
 ci x13_4 (
 some (.tup [(U 0), (I 0)], h)) (
 oB (oIxS x0 (I 1)) fun x15_5 =>
 jnF 0 (fun h6 =>
 some (.tup [(U 0), (I 0)], h6)) fun j6 =>
 oB (bEq .no x15_5 (U 92)) fun x17_7 =>
 jnF 3 (fun z16_8 z15_8 z0_8 h8 =>
 ci z16_8 (
 oB (oIxS z0_8 (I 1)) fun x20_9 =>
 some (.tup [x20_9, (I 2)], h8)) (
 oB (bEq .no z15_8 (U 110)) fun x22_10 =>
 ci x22_10 (
 some (.tup [(U 10), (I 2)], h8)) (
 oB (bEq .no z15_8 (U 116)) fun x24_11 =>
 ci x24_11 (
 some (.tup [(U 9), (I 2)], h8)) (
 oB (bEq .no z15_8 (U 120)) fun x26_12 =>
 jnF 0 (fun h13 =>
 j6 h13) fun j13 =>
 ci x26_12 (
 oB (oLenS z0_8) fun x28_14 =>
 oB (bLt x28_14 (I 4)) fun x29_15 =>
 ci x29_15 (
 j6 h8) (
 oB' (nx 8 h8) fun h16 =>
 oB (oIxS z0_8 (I 2)) fun x31_17 =>
 oP (call n_strings_IndexByte [(.str [48, 49, 50, 51, 52, 53, 54, 55, 56, 57, 97, 98, 99, 100, 101, 102]), x31_17] h16) fun x32_18 h18 =>
 oB (oIxS z0_8 (I 3)) fun x34_19 =>
 oP (call n_strings_IndexByte [(.str [48, 49, 50, 51, 52, 53, 54, 55, 56, 57, 97, 98, 99, 100, 101, 102]), x34_19] h18) fun x35_20 h20 =>
 oB (bGe x32_18 (I 0)) fun x37_21 =>
 oB (gq x37_21 true (some x35_20)) fun x39_22 =>
 oB (gq x37_21 true (bGe x39_22 (I 0))) fun x40_23 =>
 oB (oPick x37_21 x40_23 (.bool false)) fun x41_24 =>
 ci x41_24 (
 oB (binAV .mul .no (I 16) x32_18) fun x43_25 =>
 oB (bAdd x43_25 x35_20) fun x45_26 =>
 oB (oInt .u8 x45_26) fun x46_27 =>
 some (.tup [x46_27, (I 4)], h20)) (
 j13 h20))) (
 j13 h8))))) fun j8 =>
 ci x17_7 (
 j8 x17_7 x15_5 x0 h) (
 oB (bEq .no x15_5 (U 34)) fun x18_28 =>
 j8 x18_28 x15_5 x0 h)))
theorem o_shell_escape : FnOK Tryz.prog n_shell_escape (a1 f_shell_escape) := ok1 mixed Tryz.func69 (by kernel_rfl)
/- strings.TrimPrefix -/
noncomputable def f_strings_TrimPrefix (n : Nat) (call : Caller)  (x0 x1 : AV) (h : AH) : Ans :=
 oP (call n_internal_stringslite_TrimPrefix [x0, x1] h) fun x7_0 h0 =>
 some (x7_0, h0)
theorem o_strings_TrimPrefix : FnOK Tryz.prog n_strings_TrimPrefix (a2 f_strings_TrimPrefix) := ok2 mixed Tryz.func70 (by kernel_rfl)
/- strconv.Atoi -/
noncomputable def f_strconv_Atoi (n : Nat) (call : Caller)  (x0 : AV) (h : AH) : Ans :=
 oP (call n_internal_strconv_Atoi [x0] h) fun x8_0 h0 =>
 oB (oEx 0 x8_0) fun x9_1 =>
 oB (oEx 1 x8_0) fun x10_2 =>
 oB (evQ (.isNil true (.c x10_2)) .e h0) fun x12_3 =>
 ci x12_3 (
 oP (call n_strconv_toError [(.str [65, 116, 111, 105]), x0, (I 0), (I 0), x10_2] h0) fun x16_4 h4 =>
 some (.tup [x9_1, x16_4], h4)) (
 some (.tup [x9_1, .nili], h0))
theorem o_strconv_Atoi : FnOK Tryz.prog n_strconv_Atoi (a1 f_strconv_Atoi) := ok1 mixed Tryz.func71 (by kernel_rfl)
/- unicode/utf8.decodeRuneInStringSlow -/
noncomputable def f_unicode_utf8_decodeRuneInStringSlow (n : Nat) (call : Caller)  (x0 : AV) (h : AH) : Ans :=
 oB (oLenS x0) fun x14_0 =>
 oB (bLt x14_0 (I 1)) fun x16_1 =>
 ci x16_1 (
 some (.tup [(R 65533), (I 0)], h)) (
 oB (oIxS x0 (I 0)) fun x18_2 =>
 oB (evQ (.bad) .e h) fun x20_3 =>
 oB (oLd h x20_3) fun x21_4 =>
 oB (bGe x21_4 (U 240)) fun x23_5 =>
 ci x23_5 (
 oB (oInt .i32 x21_4) fun x25_6 =>
 oB (binAV .shl .no x25_6 (.int .u64 31)) fun x26_7 =>
 oB (binAV .shr .no x26_7 (.int .u64 31)) fun x27_8 =>
 oB (oIxS x0 (I 0)) fun x29_9 =>
 oB (oInt .i32 x29_9) fun x30_10 =>
 oB (binAV .andNot .no x30_10 x27_8) fun x32_11 =>
 oB (binAV .and .no (R 65533) x27_8) fun x34_12 =>
 oB (binAV .or .no x32_11 x34_12) fun x35_13 =>
 some (.tup [x35_13, (I 1)], h)) (
 oB (binAV .and .no x21_4 (U 7)) fun x37_14 =>
 oB (oInt .i64 x37_14) fun x38_15 =>
 oB (binAV .shr .no x21_4 (.int .u64 4)) fun x40_16 =>
 oB (evQ (.bad) .e h) fun x41_17 =>
 oB (oLdN 2 h x41_17) fun x42_18 =>
 oP (oNew h 196 [(U 0), (U 0)]) fun x9_19 h19 =>
 oP (oSt 2 h19 x9_19 x42_18) fun _ h20 =>
 oB (bLt x14_0 x38_15) fun x45_21 =>
 ci x45_21 (
 some (.tup [(R 65533), (I 1)], h20)) (
 oB (oIxS x0 (I 1)) fun x47_22 =>
 oB (oFA 0 x9_19) fun x49_23 =>
 oB (oLd h20 x49_23) fun x50_24 =>
 oB (bLt x47_22 x50_24) fun x51_25 =>
 oB (gq x51_25 false (oFA 1 x9_19)) fun x53_26 =>
 oB (gq x51_25 false (oLd h20 x53_26)) fun x54_27 =>
 oB (gq x51_25 false (some x47_22)) fun x55_28 =>
 oB (gq x51_25 false (bLt x54_27 x55_28)) fun x56_29 =>
 oB (oPick x51_25 (.bool true) x56_29) fun x57_30 =>
 ci x57_30 (
 some (.tup [(R 65533), (I 1)], h20)) (
 oB (bLe x38_15 (I 2)) fun x59_31 =>
 ci x59_31 (
 oB (binAV .and .no x18_2 (U 31)) fun x61_32 =>
 oB (oInt .i32 x61_32) fun x62_33 =>
 oB (binAV .shl .no x62_33 (.int .u64 6)) fun x63_34 =>
 oB (binAV .and .no x47_22 (U 63)) fun x65_35 =>
 oB (oInt .i32 x65_35) fun x66_36 =>
 oB (binAV .or .no x63_34 x66_36) fun x67_37 =>
 some (.tup [x67_37, (I 2)], h20)) (
 oB (oIxS x0 (I 2)) fun x69_38 =>
 oB (bLt x69_38 (U 128)) fun x71_39 =>
 oB (gq x71_39 false (some x69_38)) fun x73_40 =>
 oB (gq x71_39 false (bLt (U 191) x73_40)) fun x74_41 =>
 oB (oPick x71_39 (.bool true) x74_41) fun x75_42 =>
 ci x75_42 (
 some (.tup [(R 65533), (I 1)], h20)) (
 oB (bLe x38_15 (I 3)) fun x77_43 =>
 ci x77_43 (
 oB (binAV .and .no x18_2 (U 15)) fun x79_44 =>
 oB (oInt .i32 x79_44) fun x80_45 =>
 oB (binAV .shl .no x80_45 (.int .u64 12)) fun x81_46 =>
 oB (binAV .and .no x47_22 (U 63)) fun x83_47 =>
 oB (oInt .i32 x83_47) fun x84_48 =>
 oB (binAV .shl .no x84_48 (.int .u64 6)) fun x85_49 =>
 oB (binAV .or .no x81_46 x85_49) fun x86_50 =>
 oB (binAV .and .no x69_38 (U 63)) fun x88_51 =>
 oB (oInt .i32 x88_51) fun x89_52 =>
 oB (binAV .or .no x86_50 x89_52) fun x90_53 =>
 some (.tup [x90_53, (I 3)], h20)) (
 oB (oIxS x0 (I 3)) fun x92_54 =>
 oB (bLt x92_54 (U 128)) fun x94_55 =>
 oB (gq x94_55 false (some x92_54)) fun x96_56 =>
 oB (gq x94_55 false (bLt (U 191) x96_56)) fun x97_57 =>
 oB (oPick x94_55 (.bool true) x97_57) fun x98_58 =>
 ci x98_58 (
 some (.tup [(R 65533), (I 1)], h20)) (
 oB (binAV .and .no x18_2 (U 7)) fun x100_59 =>
 oB (oInt .i32 x100_59) fun x101_60 =>
 oB (binAV .shl .no x101_60 (.int .u64 18)) fun x102_61 =>
 oB (binAV .and .no x47_22 (U 63)) fun x104_62 =>
 oB (oInt .i32 x104_62) fun x105_63 =>
 oB (binAV .shl .no x105_63 (.int .u64 12)) fun x106_64 =>
 oB (binAV .or .no x102_61 x106_64) fun x107_65 =>
 oB (binAV .and .no x69_38 (U 63)) fun x109_66 =>
 oB (oInt .i32 x109_66) fun x110_67 =>
 oB (binAV .shl .no x110_67 (.int .u64 6)) fun x111_68 =>
 oB (binAV .or .no x107_65 x111_68) fun x112_69 =>
 oB (binAV .and .no x92_54 (U 63)) fun x114_70 =>
 oB (oInt .i32 x114_70) fun x115_71 =>
 oB (binAV .or .no x112_69 x115_71) fun x116_72 =>
 some (.tup [x116_72, (I 4)], h20)))))))))
theorem o_unicode_utf8_decodeRuneInStringSlow : FnOK Tryz.prog n_unicode_utf8_decodeRuneInStringSlow (a1 f_unicode_utf8_decodeRuneInStringSlow) := ok1 mixed Tryz.func74 (by kernel_rfl)
end Go.Proofs.YtmlhpcflphlgdaaGreatDoor
