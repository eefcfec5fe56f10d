/- Functions, as they run. PRINTED by a program of this repo. -/
import Derived.Test.YtmlhpcflphlgdaaGreatDoorN
import Derived.Test.YtmlhpcflphlgdaaGreatDoorM
set_option linter.unusedVariables false
set_option maxRecDepth 100000
namespace Go.Proofs.YtmlhpcflphlgdaaGreatDoor
open Go.Ev
/- slices.Equal[[]int,int] -/
noncomputable def f_slices_Equal_int_int (n : Nat) (call : Caller)  (x0 x1 : AV) (h : AH) : Ans :=
 oB (oLen x0) fun x7_0 =>
 oB (oLen x1) fun x9_1 =>
 oB (bNe .no x7_0 x9_1) fun x10_2 =>
 ci x10_2 (
 some ((.bool false), h)) (
 oB (oLen x0) fun x12_3 =>
 jnF 0 (fun h4 =>
 some ((.bool true), h4)) fun j4 =>
 lpF 4 n (fun f5 y13_5 y12_5 y1_5 y0_5 h5 =>
 oB (bLt y13_5 y12_5) fun x14_6 =>
 ci x14_6 (
 jnF 4 (fun z13_7 z12_7 z1_7 z0_7 h7 =>
 oB (bAdd z13_7 (I 1)) fun x25_8 =>
 f5 x25_8 z12_7 z1_7 z0_7 h7) fun j7 =>
 oB' (nx 9 h5) fun h9 =>
 oB (oIx 1 y0_5 y13_5) fun x18_10 =>
 oB (oLd h9 x18_10) fun x19_11 =>
 oB (oIx 1 y1_5 y13_5) fun x22_12 =>
 oB (oLd h9 x22_12) fun x23_13 =>
 oB (bNe .no x19_11 x23_13) fun x24_14 =>
 ci x24_14 (
 some ((.bool false), h9)) (
 j7 y13_5 y12_5 y1_5 y0_5 h9)) (
 j4 h5)) (I 0) x12_3 x1 x0 h)
theorem o_slices_Equal_int_int : FnOK Tryz.prog n_slices_Equal_int_int (a2 f_slices_Equal_int_int) := ok2 mixed Tryz.func319 (by kernel_rfl)
/- corrector/equal.docs -/
noncomputable def f_equal_docs (n : Nat) (call : Caller)  (x0 x1 : AV) (h : AH) : Ans :=
 oP (oNew h 105 (AV.cells x0)) fun x2_0 h0 =>
 oB (oFA 1 x2_0) fun x9_1 =>
 oB (oLd h0 x9_1) fun x10_2 =>
 oB (oLen x10_2) fun x11_3 =>
 jnF 1 (fun z5_4 h4 =>
 some (z5_4, h4)) fun j4 =>
 lpF 5 n (fun f5 y12_5 y11_5 y10_5 y5_5 y1_5 h5 =>
 oB (bLt y12_5 y11_5) fun x13_6 =>
 ci x13_6 (
 jnF 5 (fun z12_7 z11_7 z10_7 z5_7 z1_7 h7 =>
 oB (bAdd z12_7 (I 1)) fun x32_8 =>
 f5 x32_8 z11_7 z10_7 z5_7 z1_7 h7) fun j7 =>
 oB (oIx 1 y10_5 y12_5) fun x14_9 =>
 oB (oLd h5 x14_9) fun x15_10 =>
 oB (bGe x15_10 (I 0)) fun x17_11 =>
 oB (gq x17_11 true (some x15_10)) fun x19_12 =>
 oB (gq x17_11 true (some y1_5)) fun x20_13 =>
 oB (gq x17_11 true (oLen x20_13)) fun x21_14 =>
 oB (gq x17_11 true (bLt x19_12 x21_14)) fun x22_15 =>
 oB (oPick x17_11 x22_15 (.bool false)) fun x23_16 =>
 jnF 6 (fun z12_17 z11_17 z10_17 z8_17 z5_17 z1_17 h17 =>
 oP (oBuildSl h17 3 1 1 [(I 0)] [(0, 1, z8_17)]) fun x30_18 h18 =>
 oP (evW (.append 3 1 8 [(I 0)] (.c z5_17) (.c x30_18)) .e h18) fun x31_19 h19 =>
 j7 z12_17 z11_17 z10_17 x31_19 z1_17 h19) fun j17 =>
 ci x23_16 (
 oB (oIx 1 y1_5 x15_10) fun x26_20 =>
 oB (oLd h5 x26_20) fun x27_21 =>
 j17 y12_5 y11_5 y10_5 x27_21 y5_5 y1_5 h5) (
 j17 y12_5 y11_5 y10_5 (Ineg 0) y5_5 y1_5 h5)) (
 j4 y5_5 h5)) (I 0) x11_3 x10_2 .nils x1 h0
theorem o_equal_docs : FnOK Tryz.prog n_equal_docs (a2 f_equal_docs) := ok2 mixed Tryz.func320 (by kernel_rfl)
/- internal/strconv.lower -/
noncomputable def f_internal_strconv_lower (n : Nat) (call : Caller)  (x0 : AV) (h : AH) : Ans :=
 oB (binAV .or .no x0 (U 32)) fun x4_0 =>
 some (x4_0, h)
theorem o_internal_strconv_lower : FnOK Tryz.prog n_internal_strconv_lower (a1 f_internal_strconv_lower) := ok1 mixed Tryz.func321 (by kernel_rfl)
/- internal/strconv.underscoreOK -/
noncomputable def f_internal_strconv_underscoreOK (n : Nat) (call : Caller)  (x0 : AV) (h : AH) : Ans :=
 oB (oLenS x0) fun x7_0 =>
 oB (bGe x7_0 (I 1)) fun x8_1 =>
 oB (gq x8_1 true (some x0)) fun x10_2 =>
 oB (gq x8_1 true (oIxS x10_2 (I 0))) fun x11_3 =>
 oB (gq x8_1 true (bEq .no x11_3 (U 45))) fun x12_4 =>
 oB (gq x8_1 true (some x12_4)) fun x13_5 =>
 oB (gq x13_5 false (some x0)) fun x14_6 =>
 oB (gq x13_5 false (oIxS x14_6 (I 0))) fun x15_7 =>
 oB (gq x13_5 false (bEq .no x15_7 (U 43))) fun x16_8 =>
 oB (gq x8_1 true (oPick x13_5 (.bool true) x16_8)) fun x17_9 =>
 oB (oPick x8_1 x17_9 (.bool false)) fun x18_10 =>
 jnF 3 (fun z4_11 z3_11 z0_11 h11 =>
 oB (oLenS z0_11) fun x22_12 =>
 oB (bGe x22_12 (I 2)) fun x23_13 =>
 oB (gq x23_13 true (some z0_11)) fun x25_14 =>
 oB (gq x23_13 true (oIxS x25_14 (I 0))) fun x26_15 =>
 oB (gq x23_13 true (bEq .no x26_15 (U 48))) fun x27_16 =>
 oB (oPick x23_13 x27_16 (.bool false)) fun x28_17 =>
 oB (gq x28_17 true (some z0_11)) fun x30_18 =>
 oB (gq x28_17 true (oIxS x30_18 (I 1))) fun x31_19 =>
 oP (gw x28_17 true (call n_internal_strconv_lower [x31_19] h11) h11) fun x32_20 h20 =>
 oB (gq x28_17 true (bEq .no x32_20 (U 98))) fun x33_21 =>
 oB (gq x28_17 true (some x33_21)) fun x34_22 =>
 oB (gq x34_22 false (some z0_11)) fun x35_23 =>
 oB (gq x34_22 false (oIxS x35_23 (I 1))) fun x36_24 =>
 oP (gw x34_22 false (call n_internal_strconv_lower [x36_24] h20) h20) fun x37_25 h25 =>
 oB (gq x34_22 false (bEq .no x37_25 (U 111))) fun x38_26 =>
 oB (gq x28_17 true (oPick x34_22 (.bool true) x38_26)) fun x39_27 =>
 oB (gq x28_17 true (some x39_27)) fun x40_28 =>
 oB (gq x40_28 false (some z0_11)) fun x41_29 =>
 oB (gq x40_28 false (oIxS x41_29 (I 1))) fun x42_30 =>
 oP (gw x40_28 false (call n_internal_strconv_lower [x42_30] h25) h25) fun x43_31 h31 =>
 oB (gq x40_28 false (bEq .no x43_31 (U 120))) fun x44_32 =>
 oB (gq x28_17 true (oPick x40_28 (.bool true) x44_32)) fun x45_33 =>
 oB (oPick x28_17 x45_33 (.bool false)) fun x46_34 =>
 jnF 4 (fun z5_35 z4_35 z3_35 z0_35 h35 =>
 jnF 1 (fun z3_36 h36 =>
 oB (bNe .no z3_36 (R 95)) fun x93_37 =>
 some (x93_37, h36)) fun j36 =>
 lpF 4 n (fun f38 y5_38 y4_38 y3_38 y0_38 h38 =>
 oB (oLenS y0_38) fun x53_39 =>
 oB (bLt y4_38 x53_39) fun x54_40 =>
 ci x54_40 (
 jnF 4 (fun z5_41 z4_41 z3_41 z0_41 h41 =>
 oB (bAdd z4_41 (I 1)) fun x56_42 =>
 f38 z5_41 x56_42 z3_41 z0_41 h41) fun j41 =>
 oB (oIxS y0_38 y4_38) fun x59_43 =>
 oB (bLe (U 48) x59_43) fun x60_44 =>
 oB (gq x60_44 true (some y0_38)) fun x62_45 =>
 oB (gq x60_44 true (some y4_38)) fun x63_46 =>
 oB (gq x60_44 true (oIxS x62_45 x63_46)) fun x64_47 =>
 oB (gq x60_44 true (bLe x64_47 (U 57))) fun x65_48 =>
 oB (oPick x60_44 x65_48 (.bool false)) fun x66_49 =>
 oB (gq x66_49 false (some y5_38)) fun x68_50 =>
 oB (gq x66_49 false (some x68_50)) fun x69_51 =>
 oB (gq x69_51 true (some y0_38)) fun x70_52 =>
 oB (gq x69_51 true (some y4_38)) fun x71_53 =>
 oB (gq x69_51 true (oIxS x70_52 x71_53)) fun x72_54 =>
 oP (gw x69_51 true (call n_internal_strconv_lower [x72_54] h38) h38) fun x73_55 h55 =>
 oB (gq x69_51 true (bLe (U 97) x73_55)) fun x74_56 =>
 oB (gq x66_49 false (oPick x69_51 x74_56 (.bool false))) fun x75_57 =>
 oB (gq x66_49 false (some x75_57)) fun x76_58 =>
 oB (gq x76_58 true (some y0_38)) fun x77_59 =>
 oB (gq x76_58 true (some y4_38)) fun x78_60 =>
 oB (gq x76_58 true (oIxS x77_59 x78_60)) fun x79_61 =>
 oP (gw x76_58 true (call n_internal_strconv_lower [x79_61] h55) h55) fun x80_62 h62 =>
 oB (gq x76_58 true (bLe x80_62 (U 102))) fun x81_63 =>
 oB (gq x66_49 false (oPick x76_58 x81_63 (.bool false))) fun x82_64 =>
 oB (oPick x66_49 (.bool true) x82_64) fun x83_65 =>
 ci x83_65 (
 j41 y5_38 y4_38 (R 48) y0_38 h62) (
 oB (oIxS y0_38 y4_38) fun x86_66 =>
 oB (bEq .no x86_66 (U 95)) fun x87_67 =>
 ci x87_67 (
 oB (bNe .no y3_38 (R 48)) fun x89_68 =>
 ci x89_68 (
 some ((.bool false), h62)) (
 j41 y5_38 y4_38 (R 95) y0_38 h62)) (
 oB (bEq .no y3_38 (R 95)) fun x91_69 =>
 ci x91_69 (
 some ((.bool false), h62)) (
 j41 y5_38 y4_38 (R 33) y0_38 h62)))) (
 j36 y3_38 h38)) z5_35 z4_35 z3_35 z0_35 h35) fun j35 =>
 ci x46_34 (
 oB (oIxS z0_11 (I 1)) fun x48_70 =>
 oP (call n_internal_strconv_lower [x48_70] h31) fun x49_71 h71 =>
 oB (bEq .no x49_71 (U 120)) fun x50_72 =>
 j35 x50_72 (I 2) (R 48) z0_11 h71) (
 j35 (.bool false) z4_11 z3_11 z0_11 h31)) fun j11 =>
 ci x18_10 (
 oB (oSlS x0 (some (I 1)) none) fun x20_73 =>
 j11 (I 0) (R 94) x20_73 h) (
 j11 (I 0) (R 94) x0 h)
theorem o_internal_strconv_underscoreOK : FnOK Tryz.prog n_internal_strconv_underscoreOK (a1 f_internal_strconv_underscoreOK) := ok1 mixed Tryz.func322 (by kernel_rfl)
/- internal/strconv.log10Pow2 -/
noncomputable def f_internal_strconv_log10Pow2 (n : Nat) (call : Caller)  (x0 : AV) (h : AH) : Ans :=
 oB (binAV .mul .no x0 (I 78913)) fun x4_0 =>
 oB (binAV .shr .no x4_0 (.int .u64 18)) fun x5_1 =>
 some (x5_1, h)
theorem o_internal_strconv_log10Pow2 : FnOK Tryz.prog n_internal_strconv_log10Pow2 (a1 f_internal_strconv_log10Pow2) := ok1 mixed Tryz.func323 (by kernel_rfl)
/- internal/strconv.bool2[int] -/
noncomputable def f_internal_strconv_bool2_int (n : Nat) (call : Caller)  (x0 : AV) (h : AH) : Ans :=
 ci x0 (
 some ((I 1), h)) (
 some ((I 0), h))
theorem o_internal_strconv_bool2_int : FnOK Tryz.prog n_internal_strconv_bool2_int (a1 f_internal_strconv_bool2_int) := ok1 mixed Tryz.func324 (by kernel_rfl)
/- internal/strconv.isPowerOfTwo -/
noncomputable def f_internal_strconv_isPowerOfTwo (n : Nat) (call : Caller)  (x0 : AV) (h : AH) : Ans :=
 oB (bSub x0 (I 1)) fun x5_0 =>
 oB (binAV .and .no x0 x5_0) fun x6_1 =>
 oB (bEq .no x6_1 (I 0)) fun x7_2 =>
 some (x7_2, h)
theorem o_internal_strconv_isPowerOfTwo : FnOK Tryz.prog n_internal_strconv_isPowerOfTwo (a1 f_internal_strconv_isPowerOfTwo) := ok1 mixed Tryz.func325 (by kernel_rfl)
/- math/bits.TrailingZeros -/
noncomputable def f_math_bits_TrailingZeros (n : Nat) (call : Caller)  (x0 : AV) (h : AH) : Ans :=
 ci (.bool false) (
 oB (oInt .u32 x0) fun x4_0 =>
 oP (call n_math_bits_TrailingZeros32 [x4_0] h) fun x5_1 h1 =>
 some (x5_1, h1)) (
 oP (call n_math_bits_TrailingZeros64 [x0] h) fun x7_2 h2 =>
 some (x7_2, h2))
theorem o_math_bits_TrailingZeros : FnOK Tryz.prog n_math_bits_TrailingZeros (a1 f_math_bits_TrailingZeros) := ok1 mixed Tryz.func326 (by kernel_rfl)
/- (*corrector/arena.forest).end -/
noncomputable def f_arena_forest_end (n : Nat) (call : Caller)  (x0 x1 : AV) (h : AH) : Ans :=
 oB (oNil x0) fun x8_0 =>
 oB (oFA 0 x8_0) fun x9_1 =>
 oB (oFA 0 x9_1) fun x10_2 =>
 oB (oLd h x10_2) fun x11_3 =>
 oB (oIx 6 x11_3 x1) fun x13_4 =>
 oB (oLdN 6 h x13_4) fun x14_5 =>
 oP (oNew h 120 [(I 0), (I 0), (I 0), (I 0), .nils, (.bool false)]) fun x5_6 h6 =>
 oP (oSt 6 h6 x5_6 x14_5) fun _ h7 =>
 oB (oFA 4 x5_6) fun x15_8 =>
 oB (oLd h7 x15_8) fun x16_9 =>
 oB (oLen x16_9) fun x17_10 =>
 oB (bGt x17_10 (I 0)) fun x19_11 =>
 oB (gq x19_11 true (some x0)) fun x21_12 =>
 oB (gq x19_11 true (oFA 4 x5_6)) fun x22_13 =>
 oB (gq x19_11 true (oLd h7 x22_13)) fun x23_14 =>
 oB (gq x19_11 true (some x17_10)) fun x24_15 =>
 oB (gq x19_11 true (bSub x24_15 (I 1))) fun x25_16 =>
 oB (gq x19_11 true (oIx 1 x23_14 x25_16)) fun x26_17 =>
 oB (gq x19_11 true (oLd h7 x26_17)) fun x27_18 =>
 oP (gw x19_11 true (call n_arena_forest_has [x21_12, x27_18] h7) h7) fun x28_19 h19 =>
 oB (oPick x19_11 x28_19 (.bool false)) fun x29_20 =>
 ci x29_20 (
 oB' (nx 18 h19) fun h21 =>
 oB (oFA 1 x5_6) fun x30_22 =>
 oB (oLd h21 x30_22) fun x31_23 =>
 oB (oNil x0) fun x33_24 =>
 oB (oFA 0 x33_24) fun x34_25 =>
 oB (oFA 0 x34_25) fun x35_26 =>
 oB (oLd h21 x35_26) fun x36_27 =>
 oB (oFA 4 x5_6) fun x37_28 =>
 oB (oLd h21 x37_28) fun x38_29 =>
 oB (bSub x17_10 (I 1)) fun x40_30 =>
 oB (oIx 1 x38_29 x40_30) fun x41_31 =>
 oB (oLd h21 x41_31) fun x42_32 =>
 oB (oIx 6 x36_27 x42_32) fun x43_33 =>
 oB (oFA 2 x43_33) fun x44_34 =>
 oB (oLd h21 x44_34) fun x45_35 =>
 oB (evQ (.maxI (.c x31_23) [(.c x45_35)]) .e h21) fun x46_36 =>
 some (x46_36, h21)) (
 oB (oFA 1 x5_6) fun x47_37 =>
 oB (oLd h19 x47_37) fun x48_38 =>
 some (x48_38, h19))
theorem o_arena_forest_end : FnOK Tryz.prog n_arena_forest_end (a2 f_arena_forest_end) := ok2 mixed Tryz.func327 (by kernel_rfl)
/- (*corrector/flow.reader).value -/
noncomputable def f_flow_reader_value (n : Nat) (call : Caller)  (x0 x1 x2 x3 : AV) (h : AH) : Ans :=
 oP (call n_flow_reader_blanks [x0, x2] h) fun x16_0 h0 =>
 jnF 7 (fun z12_1 z11_1 z10_1 z3_1 z2_1 z1_1 z0_1 h1 =>
 oP (call n_flow_reader_kind [z0_1, z10_1] h1) fun x29_2 h2 =>
 jnF 1 (fun z2_3 h3 =>
 some (.tup [(Ineg 0), z2_3], h3)) fun j3 =>
 oB (bEq .no x29_2 (I 15)) fun x32_4 =>
 oB (gq x32_4 false (some x29_2)) fun x34_5 =>
 oB (gq x32_4 false (bEq .no x34_5 (I 16))) fun x35_6 =>
 oB (oPick x32_4 (.bool true) x35_6) fun x36_7 =>
 oB (gq x36_7 false (some x29_2)) fun x38_8 =>
 oB (gq x36_7 false (bEq .no x38_8 (I 17))) fun x39_9 =>
 oB (oPick x36_7 (.bool true) x39_9) fun x40_10 =>
 ci x40_10 (
 oB (bAdd z10_1 (I 1)) fun x45_11 =>
 oP (call n_flow_reader_add [z0_1, z1_1, (I 7), z11_1, x45_11] h2) fun x46_12 h12 =>
 oB (bAdd z10_1 (I 1)) fun x48_13 =>
 some (.tup [x46_12, x48_13], h12)) (
 oB (bEq .no x29_2 (I 13)) fun x51_14 =>
 ci x51_14 (
 oB (bAdd z10_1 (I 1)) fun x56_15 =>
 oP (call n_flow_reader_add [z0_1, z1_1, (I 8), z11_1, x56_15] h2) fun x57_16 h16 =>
 oB (bAdd z10_1 (I 1)) fun x59_17 =>
 some (.tup [x57_16, x59_17], h16)) (
 oB (bEq .no x29_2 (I 18)) fun x62_18 =>
 ci x62_18 (
 oP (call n_flow_reader_texts [z0_1, z10_1] h2) fun x65_19 h19 =>
 oP (call n_flow_reader_add [z0_1, z1_1, (I 7), z11_1, x65_19] h19) fun x70_20 h20 =>
 some (.tup [x70_20, x65_19], h20)) (
 oP (call n_flow_opens [x29_2] h2) fun x74_21 h21 =>
 oB (gq x74_21 true (some z3_1)) fun x76_22 =>
 oB (gq x74_21 true (bLe x76_22 (I 0))) fun x77_23 =>
 oB (oPick x74_21 x77_23 (.bool false)) fun x78_24 =>
 ci x78_24 (
 oP (call n_flow_reader_closed [z0_1, z10_1] h21) fun x81_25 h25 =>
 oP (call n_flow_reader_wrong [z0_1, (I 10), z1_1, z11_1, x81_25] h25) fun x86_26 h26 =>
 some (.tup [x86_26, x81_25], h26)) (
 oP (call n_flow_opens [x29_2] h21) fun x90_27 h27 =>
 ci x90_27 (
 oP (call n_flow_reader_collection [z0_1, z1_1, z11_1, z10_1, z3_1] h27) fun x96_28 h28 =>
 oB (oEx 0 x96_28) fun x97_29 =>
 oB (oEx 1 x96_28) fun x98_30 =>
 some (.tup [x97_29, x98_30], h28)) (
 oB (bGe z12_1 (I 0)) fun x101_31 =>
 ci x101_31 (
 oB (bAdd z12_1 (I 1)) fun x106_32 =>
 oP (call n_flow_reader_add [z0_1, z1_1, (I 7), z11_1, x106_32] h27) fun x107_33 h33 =>
 oB (bAdd z12_1 (I 1)) fun x109_34 =>
 some (.tup [x107_33, x109_34], h33)) (
 j3 z2_1 h27))))))) fun j1 =>
 lpF 7 n (fun f35 y12_35 y11_35 y10_35 y3_35 y2_35 y1_35 y0_35 h35 =>
 oP (call n_flow_reader_kind [y0_35, y10_35] h35) fun x20_36 h36 =>
 oP (call n_flow_property [x20_36] h36) fun x21_37 h37 =>
 ci x21_37 (
 jnF 7 (fun z12_38 z11_38 z10_38 z3_38 z2_38 z1_38 z0_38 h38 =>
 f35 z12_38 z11_38 z10_38 z3_38 z2_38 z1_38 z0_38 h38) fun j38 =>
 oB (bAdd y10_35 (I 1)) fun x25_39 =>
 oP (call n_flow_reader_blanks [y0_35, x25_39] h37) fun x26_40 h40 =>
 j38 y10_35 y11_35 x26_40 y3_35 y2_35 y1_35 y0_35 h40) (
 j1 y12_35 y11_35 y10_35 y3_35 y2_35 y1_35 y0_35 h37)) (Ineg 0) x16_0 x16_0 x3 x2 x1 x0 h0
theorem o_flow_reader_value : FnOK Tryz.prog n_flow_reader_value (a4 f_flow_reader_value) := ok4 mixed Tryz.func328 (by kernel_rfl)
/- (*corrector/parse.parser).key -/
noncomputable def f_parse_parser_key (n : Nat) (call : Caller)  (x0 x1 x2 : AV) (h : AH) : Ans :=
 oP (oNew h 275 (AV.cells x2)) fun x5_0 h0 =>
 oB (oFA 2 x5_0) fun x9_1 =>
 oB (oLd h0 x9_1) fun x10_2 =>
 oB (oFA 3 x5_0) fun x11_3 =>
 oB (oLd h0 x11_3) fun x12_4 =>
 oB (bSub x12_4 (I 1)) fun x13_5 =>
 oP (call n_parse_parser_over [x0, x10_2, x13_5] h0) fun x14_6 h6 =>
 oB (oFA 2 x5_0) fun x16_7 =>
 oB (oLd h6 x16_7) fun x17_8 =>
 oB (bEq .no x14_6 x17_8) fun x18_9 =>
 ci x18_9 (
 some (.tup [], h6)) (
 oB' (nx 9 h6) fun h10 =>
 oB (oNil x0) fun x20_11 =>
 oB (oFA 1 x20_11) fun x21_12 =>
 oB (oLd h10 x21_12) fun x22_13 =>
 oB (oFA 2 x5_0) fun x23_14 =>
 oB (oLd h10 x23_14) fun x24_15 =>
 oB (evQ (.sl 3 (.c x22_13) (some (.c x24_15)) (some (.c x14_6)) none) .e h10) fun x26_16 =>
 oP (call n_slices_ContainsFunc_api_Token_api_Token [x26_16, (.fn 366 [] [])] h10) fun x27_17 h17 =>
 jnF 5 (fun z7_18 z6_18 z5_18 z1_18 z0_18 h18 =>
 oB (oFA 2 z5_18) fun x31_19 =>
 oB (oLd h18 x31_19) fun x32_20 =>
 oP (call n_parse_parser_add [z0_18, z1_18, z7_18, x32_20, z6_18] h18) fun x34_21 h21 =>
 oB (oNil z0_18) fun x36_22 =>
 oB (oFA 4 x36_22) fun x37_23 =>
 oB (oFA 0 x37_23) fun x38_24 =>
 oB (oLd h21 x38_24) fun x39_25 =>
 oB (oIx 6 x39_25 z1_18) fun x41_26 =>
 oB (oFA 5 x41_26) fun x42_27 =>
 oP (oSt 1 h21 x42_27 (.bool true)) fun _ h28 =>
 some (.tup [], h28)) fun j18 =>
 ci x27_17 (
 j18 (I 8) x14_6 x5_0 x1 x0 h17) (
 j18 (I 7) x14_6 x5_0 x1 x0 h17))
theorem o_parse_parser_key : FnOK Tryz.prog n_parse_parser_key (a3 f_parse_parser_key) := ok3 mixed Tryz.func329 (by kernel_rfl)
/- slices.Backward[[]corrector/api.Token,corrector/api.Token]$1 -/
noncomputable def f_slices_Backward_api_Token_api_Token_1 (n : Nat) (call : Caller)  (x0 x1 : AV) (h : AH) : Ans :=
 oB (oLd h x1) fun x4_0 =>
 oB (oLen x4_0) fun x5_1 =>
 oB (bSub x5_1 (I 1)) fun x6_2 =>
 jnF 0 (fun h3 =>
 some (.tup [], h3)) fun j3 =>
 lpF 3 n (fun f4 y3_4 y1_4 y0_4 h4 =>
 oB (bGe y3_4 (I 0)) fun x8_5 =>
 ci x8_5 (
 jnF 3 (fun z3_6 z1_6 z0_6 h6 =>
 oB (bSub z3_6 (I 1)) fun x10_7 =>
 f4 x10_7 z1_6 z0_6 h6) fun j6 =>
 oB (oLd h4 y1_4) fun x13_8 =>
 oB (oIx 3 x13_8 y3_4) fun x15_9 =>
 oB (oLdN 3 h4 x15_9) fun x16_10 =>
 oP (wOf (.callV (.c y0_4) [(.c y3_4), (.c x16_10)]) call .e h4) fun x17_11 h11 =>
 oB (evQ (.un .not (.c x17_11)) .e h11) fun x18_12 =>
 ci x18_12 (
 some (.tup [], h11)) (
 j6 y3_4 y1_4 y0_4 h11)) (
 j3 h4)) x6_2 x1 x0 h
theorem o_slices_Backward_api_Token_api_Token_1 : FnOK Tryz.prog n_slices_Backward_api_Token_api_Token_1 (a2 f_slices_Backward_api_Token_api_Token_1) := ok2 mixed Tryz.func330 (by kernel_rfl)
/- corrector/block.own -/
noncomputable def f_block_own (n : Nat) (call : Caller)  (x0 : AV) (h : AH) : Ans :=
 oP (call n_strings_IndexAny [x0, (.str [13, 10])] h) fun x5_0 h0 =>
 oB (bGe x5_0 (I 0)) fun x7_1 =>
 ci x7_1 (
 oB (oSlS x0 none (some x5_0)) fun x10_2 =>
 some (x10_2, h0)) (
 some (x0, h0))
theorem o_block_own : FnOK Tryz.prog n_block_own (a1 f_block_own) := ok1 mixed Tryz.func331 (by kernel_rfl)
/- corrector/block.empty -/
noncomputable def f_block_empty (n : Nat) (call : Caller)  (x0 : AV) (h : AH) : Ans :=
 oP (evW (.rangeS (.c x0)) .e h) fun x6_0 h0 =>
 jnF 0 (fun h1 =>
 some ((.bool true), h1)) fun j1 =>
 lpF 1 n (fun f2 y6_2 h2 =>
 oP (evW (.nextS (.c y6_2)) .e h2) fun x7_3 h3 =>
 oB (oEx 0 x7_3) fun x8_4 =>
 ci x8_4 (
 jnF 1 (fun z6_5 h5 =>
 f2 z6_5 h5) fun j5 =>
 oB (oEx 2 x7_3) fun x9_6 =>
 oB (bNe .no x9_6 (R 32)) fun x11_7 =>
 oB (gq x11_7 true (some x9_6)) fun x13_8 =>
 oB (gq x11_7 true (bNe .no x13_8 (R 9))) fun x14_9 =>
 oB (oPick x11_7 x14_9 (.bool false)) fun x15_10 =>
 ci x15_10 (
 some ((.bool false), h3)) (
 j5 y6_2 h3)) (
 j1 h3)) x6_0 h0
theorem o_block_empty : FnOK Tryz.prog n_block_empty (a1 f_block_empty) := ok1 mixed Tryz.func332 (by kernel_rfl)
/- strings.Contains -/
noncomputable def f_strings_Contains (n : Nat) (call : Caller)  (x0 x1 : AV) (h : AH) : Ans :=
 oP (call n_strings_Index [x0, x1] h) fun x7_0 h0 =>
 oB (bGe x7_0 (I 0)) fun x8_1 =>
 some (x8_1, h0)
theorem o_strings_Contains : FnOK Tryz.prog n_strings_Contains (a2 f_strings_Contains) := ok2 mixed Tryz.func333 (by kernel_rfl)
/- corrector/block.spaces -/
noncomputable def f_block_spaces (n : Nat) (call : Caller)  (x0 x1 : AV) (h : AH) : Ans :=
 jnF 1 (fun z5_0 h0 =>
 some (z5_0, h0)) fun j0 =>
 lpF 3 n (fun f1 y5_1 y1_1 y0_1 h1 =>
 oB (oLenS y0_1) fun x8_2 =>
 oB (bLt y5_1 x8_2) fun x9_3 =>
 oB (gq x9_3 true (some y5_1)) fun x11_4 =>
 oB (gq x9_3 true (some y1_1)) fun x12_5 =>
 oB (gq x9_3 true (bLt x11_4 x12_5)) fun x13_6 =>
 oB (oPick x9_3 x13_6 (.bool false)) fun x14_7 =>
 oB (gq x14_7 true (some y0_1)) fun x16_8 =>
 oB (gq x14_7 true (some y5_1)) fun x17_9 =>
 oB (gq x14_7 true (oIxS x16_8 x17_9)) fun x18_10 =>
 oB (gq x14_7 true (bEq .no x18_10 (U 32))) fun x19_11 =>
 oB (oPick x14_7 x19_11 (.bool false)) fun x20_12 =>
 ci x20_12 (
 jnF 3 (fun z5_13 z1_13 z0_13 h13 =>
 f1 z5_13 z1_13 z0_13 h13) fun j13 =>
 oB (bAdd y5_1 (I 1)) fun x22_14 =>
 j13 x22_14 y1_1 y0_1 h1) (
 j0 y5_1 h1)) (I 0) x1 x0 h
theorem o_block_spaces : FnOK Tryz.prog n_block_spaces (a2 f_block_spaces) := ok2 mixed Tryz.func334 (by kernel_rfl)
/- slices.Clone[[]string,string] -/
noncomputable def f_slices_Clone_string_string (n : Nat) (call : Caller)  (x0 : AV) (h : AH) : Ans :=
 oB (bEq .sl x0 .nils) fun x4_0 =>
 ci x4_0 (
 some (.nils, h)) (
 oP (oBuildSl h 9 1 0 [] []) fun x5_1 h1 =>
 oP (evW (.append 9 1 16 [(.str [])] (.c x5_1) (.c x0)) .e h1) fun x7_2 h2 =>
 some (x7_2, h2))
theorem o_slices_Clone_string_string : FnOK Tryz.prog n_slices_Clone_string_string (a1 f_slices_Clone_string_string) := ok1 mixed Tryz.func335 (by kernel_rfl)
/- corrector/block.folded -/
noncomputable def f_block_folded (n : Nat) (call : Caller)  (x0 : AV) (h : AH) : Ans :=
 oP (oNew h 59 [.nilp, .nils]) fun x3_0 h0 =>
 oB (oLen x0) fun x9_1 =>
 jnF 1 (fun z3_2 h2 =>
 oP (call n_strings_Builder_String [z3_2] h2) fun x32_3 h3 =>
 some (x32_3, h3)) fun j2 =>
 lpF 6 n (fun f4 y10_4 y9_4 y8_4 y5_4 y4_4 y3_4 h4 =>
 oB (bLt y10_4 y9_4) fun x11_5 =>
 ci x11_5 (
 jnF 6 (fun z10_6 z9_6 z8_6 z5_6 z4_6 z3_6 h6 =>
 oB (bAdd z10_6 (I 1)) fun x31_7 =>
 f4 x31_7 z9_6 z8_6 z5_6 z4_6 z3_6 h6) fun j6 =>
 oB (oIx 1 y8_4 y10_4) fun x12_8 =>
 oB (oLd h4 x12_8) fun x13_9 =>
 oP (call n_block_empty [x13_9] h4) fun x15_10 h10 =>
 ci x15_10 (
 oB (bAdd y5_4 (I 1)) fun x17_11 =>
 j6 y10_4 y9_4 y8_4 x17_11 y4_4 y3_4 h10) (
 oB (bEq .no y4_4 (.str [])) fun x19_12 =>
 jnF 5 (fun z10_13 z9_13 z8_13 z7_13 z3_13 h13 =>
 oP (call n_strings_Builder_WriteString [z3_13, z7_13] h13) fun x29_14 h14 =>
 j6 z10_13 z9_13 z8_13 (I 0) z7_13 z3_13 h14) fun j13 =>
 ci x19_12 (
 oP (call n_strings_Repeat [(.str [10]), y5_4] h10) fun x21_15 h15 =>
 oP (call n_strings_Builder_WriteString [y3_4, x21_15] h15) fun x22_16 h16 =>
 j13 y10_4 y9_4 y8_4 x13_9 y3_4 h16) (
 oP (call n_block_between [y4_4, x13_9, y5_4] h10) fun x26_17 h17 =>
 oP (call n_strings_Builder_WriteString [y3_4, x26_17] h17) fun x27_18 h18 =>
 j13 y10_4 y9_4 y8_4 x13_9 y3_4 h18))) (
 j2 y3_4 h4)) (I 0) x9_1 x0 (I 0) (.str []) x3_0 h0
theorem o_block_folded : FnOK Tryz.prog n_block_folded (a1 f_block_folded) := ok1 mixed Tryz.func336 (by kernel_rfl)
/- corrector/resolve.Int -/
noncomputable def f_resolve_Int (n : Nat) (call : Caller)  (x0 : AV) (h : AH) : Ans :=
 oP (call n_resolve_sign [x0] h) fun x11_0 h0 =>
 oB (oEx 0 x11_0) fun x12_1 =>
 oB (oEx 1 x11_0) fun x13_2 =>
 jnF 3 (fun z6_3 z5_3 z4_3 h3 =>
 oP (call n_resolve_number [z4_3, z6_3] h3) fun x27_4 h4 =>
 oB (oEx 0 x27_4) fun x28_5 =>
 oB (oEx 1 x27_4) fun x29_6 =>
 oB (evQ (.un .not (.c x29_6)) .e h4) fun x31_7 =>
 oB (gq x31_7 false (some x28_5)) fun x33_8 =>
 oB (gq x31_7 false (bEq .no x33_8 (.int .u64 9223372036854775808))) fun x34_9 =>
 oB (gq x31_7 false (some x34_9)) fun x35_10 =>
 oB (gq x35_10 true (some z5_3)) fun x36_11 =>
 oB (gq x35_10 true (evQ (.un .not (.c x36_11)) .e h4)) fun x37_12 =>
 oB (gq x31_7 false (oPick x35_10 x37_12 (.bool false))) fun x38_13 =>
 oB (oPick x31_7 (.bool true) x38_13) fun x39_14 =>
 ci x39_14 (
 some (.tup [(I 0), (.bool false)], h4)) (
 ci z5_3 (
 oB (evQ (.un .neg (.c x28_5)) .e h4) fun x42_15 =>
 oB (oInt .i64 x42_15) fun x43_16 =>
 some (.tup [x43_16, (.bool true)], h4)) (
 oB (oInt .i64 x28_5) fun x45_17 =>
 some (.tup [x45_17, (.bool true)], h4)))) fun j3 =>
 oP (call n_strings_HasPrefix [x0, (.str [48, 111])] h0) fun x16_18 h18 =>
 jnF 3 (fun z6_19 z5_19 z4_19 h19 =>
 j3 z6_19 z5_19 z4_19 h19) fun j19 =>
 ci x16_18 (
 oB (oSlS x0 (some (I 2)) none) fun x18_20 =>
 j19 (I 8) x13_2 x18_20 h18) (
 oP (call n_strings_HasPrefix [x0, (.str [48, 120])] h18) fun x21_21 h21 =>
 jnF 3 (fun z6_22 z5_22 z4_22 h22 =>
 j19 z6_22 z5_22 z4_22 h22) fun j22 =>
 ci x21_21 (
 oB (oSlS x0 (some (I 2)) none) fun x23_23 =>
 j22 (I 16) x13_2 x23_23 h21) (
 j22 (I 10) x13_2 x12_1 h21))
theorem o_resolve_Int : FnOK Tryz.prog n_resolve_Int (a1 f_resolve_Int) := ok1 mixed Tryz.func337 (by kernel_rfl)
/- corrector/resolve.float -/
noncomputable def f_resolve_float (n : Nat) (call : Caller)  (x0 : AV) (h : AH) : Ans :=
 scF n fun m0 => jnF 2 (lpF 2 m0 fun f0 y3_0 y0_0 h0 =>
 oB (bGt y3_0 (I 0)) fun x67_1 =>
 oB (gq x67_1 true (some y0_0)) fun x69_2 =>
 oB (gq x67_1 true (bEq .no x69_2 (.str []))) fun x70_3 =>
 oB (oPick x67_1 x70_3 (.bool false)) fun x71_4 =>
 some (x71_4, h0)) fun f0 =>
 jnF 1 (fun z0_5 h5 =>
 oP (call n_resolve_sign [z0_5] h5) fun x14_6 h6 =>
 oB (oEx 0 x14_6) fun x15_7 =>
 oB (oEx 1 x14_6) fun x16_8 =>
 jnF 1 (fun z0_9 h9 =>
 oP (call n_resolve_digits [z0_9] h9) fun x23_10 h10 =>
 oB (oSlS z0_9 (some x23_10) none) fun x26_11 =>
 oP (call n_strings_CutPrefix [x26_11, (.str [46])] h10) fun x29_12 h12 =>
 oB (oEx 0 x29_12) fun x30_13 =>
 oB (oEx 1 x29_12) fun x31_14 =>
 jnF 2 (fun z3_15 z0_15 h15 =>
 oB (bEq .no z3_15 (I 0)) fun x42_16 =>
 oB (gq x42_16 false (some z0_15)) fun x44_17 =>
 oB (gq x42_16 false (bEq .no x44_17 (.str []))) fun x45_18 =>
 oB (oPick x42_16 (.bool true) x45_18) fun x46_19 =>
 ci x46_19 (
 f0 z3_15 z0_15 h15) (
 oB (oIxS z0_15 (I 0)) fun x48_20 =>
 oB (bNe .no x48_20 (U 101)) fun x49_21 =>
 oB (gq x49_21 true (some z0_15)) fun x51_22 =>
 oB (gq x49_21 true (oIxS x51_22 (I 0))) fun x52_23 =>
 oB (gq x49_21 true (bNe .no x52_23 (U 69))) fun x53_24 =>
 oB (oPick x49_21 x53_24 (.bool false)) fun x54_25 =>
 ci x54_25 (
 some ((.bool false), h15)) (
 oB (oSlS z0_15 (some (I 1)) none) fun x57_26 =>
 oP (call n_resolve_sign [x57_26] h15) fun x58_27 h27 =>
 oB (oEx 0 x58_27) fun x59_28 =>
 oB (oEx 1 x58_27) fun x60_29 =>
 oP (call n_resolve_digits [x59_28] h27) fun x62_30 h30 =>
 oB (oSlS x59_28 (some x62_30) none) fun x65_31 =>
 oB (bGt x62_30 (I 0)) fun x67_32 =>
 oB (gq x67_32 true (some x65_31)) fun x69_33 =>
 oB (gq x67_32 true (bEq .no x69_33 (.str []))) fun x70_34 =>
 oB (oPick x67_32 x70_34 (.bool false)) fun x71_35 =>
 some (x71_35, h30)))) fun j15 =>
 ci x31_14 (
 oP (call n_resolve_digits [x30_13] h12) fun x34_36 h36 =>
 oB (bAdd x23_10 x34_36) fun x37_37 =>
 oB (oSlS x30_13 (some x34_36) none) fun x40_38 =>
 j15 x37_37 x40_38 h36) (
 j15 x23_10 x26_11 h12)) fun j9 =>
 oB (bEq .no x15_7 (.str [46, 105, 110, 102])) fun x19_39 =>
 jnF 2 (fun z18_40 z0_40 h40 =>
 ci z18_40 (
 some ((.bool true), h40)) (
 j9 z0_40 h40)) fun j40 =>
 ci x19_39 (
 j40 x19_39 x15_7 h6) (
 oB (bEq .no x15_7 (.str [46, 73, 110, 102])) fun x20_41 =>
 jnF 2 (fun z18_42 z0_42 h42 =>
 j40 z18_42 z0_42 h42) fun j42 =>
 ci x20_41 (
 j42 x20_41 x15_7 h6) (
 oB (bEq .no x15_7 (.str [46, 73, 78, 70])) fun x21_43 =>
 j42 x21_43 x15_7 h6))) fun j5 =>
 oB (bEq .no x0 (.str [46, 110, 97, 110])) fun x9_44 =>
 jnF 2 (fun z8_45 z0_45 h45 =>
 ci z8_45 (
 some ((.bool true), h45)) (
 j5 z0_45 h45)) fun j45 =>
 ci x9_44 (
 j45 x9_44 x0 h) (
 oB (bEq .no x0 (.str [46, 78, 97, 78])) fun x10_46 =>
 jnF 2 (fun z8_47 z0_47 h47 =>
 j45 z8_47 z0_47 h47) fun j47 =>
 ci x10_46 (
 j47 x10_46 x0 h) (
 oB (bEq .no x0 (.str [46, 78, 65, 78])) fun x11_48 =>
 j47 x11_48 x0 h))
theorem o_resolve_float : FnOK Tryz.prog n_resolve_float (a1 f_resolve_float) := ok1 mixed Tryz.func338 (by kernel_rfl)
/- slices.order2CmpFunc[corrector/api.Diag] -/
noncomputable def f_slices_order2CmpFunc_api_Diag (n : Nat) (call : Caller)  (x0 x1 x2 x3 x4 : AV) (h : AH) : Ans :=
 oB' (nx 11 h) fun h0 =>
 oB (oIx 3 x0 x2) fun x15_1 =>
 oB (oLdN 3 h0 x15_1) fun x16_2 =>
 oB (oIx 3 x0 x1) fun x19_3 =>
 oB (oLdN 3 h0 x19_3) fun x20_4 =>
 oP (wOf (.callV (.c x4) [(.c x16_2), (.c x20_4)]) call .e h0) fun x21_5 h5 =>
 oB (bLt x21_5 (I 0)) fun x22_6 =>
 ci x22_6 (
 oB (oNil x3) fun x24_7 =>
 oB (oLd h5 x24_7) fun x25_8 =>
 oB (bAdd x25_8 (I 1)) fun x26_9 =>
 oB (oNil x3) fun x27_10 =>
 oP (oSt 1 h5 x27_10 x26_9) fun _ h11 =>
 some (.tup [x2, x1], h11)) (
 some (.tup [x1, x2], h5))
theorem o_slices_order2CmpFunc_api_Diag : FnOK Tryz.prog n_slices_order2CmpFunc_api_Diag (a5 f_slices_order2CmpFunc_api_Diag) := ok5 mixed Tryz.func339 (by kernel_rfl)
/- corrector/quote.digit -/
noncomputable def f_quote_digit (n : Nat) (call : Caller)  (x0 : AV) (h : AH) : Ans :=
 oP (evW (.rangeS (.c (.str [48, 49, 50, 51, 52, 53, 54, 55, 56, 57, 97, 98, 99, 100, 101, 102]))) .e h) fun x5_0 h0 =>
 jnF 0 (fun h1 =>
 some ((R 0), h1)) fun j1 =>
 lpF 2 n (fun f2 y5_2 y0_2 h2 =>
 oP (evW (.nextS (.c y5_2)) .e h2) fun x6_3 h3 =>
 oB (oEx 0 x6_3) fun x7_4 =>
 ci x7_4 (
 jnF 2 (fun z5_5 z0_5 h5 =>
 f2 z5_5 z0_5 h5) fun j5 =>
 oB (oEx 1 x6_3) fun x8_6 =>
 oB (oEx 2 x6_3) fun x9_7 =>
 oB (bEq .no x8_6 y0_2) fun x12_8 =>
 ci x12_8 (
 some (x9_7, h3)) (
 j5 y5_2 y0_2 h3)) (
 j1 h3)) x5_0 x0 h0
theorem o_quote_digit : FnOK Tryz.prog n_quote_digit (a1 f_quote_digit) := ok1 mixed Tryz.func340 (by kernel_rfl)
/- strconv.Quote -/
noncomputable def f_strconv_Quote (n : Nat) (call : Caller)  (x0 : AV) (h : AH) : Ans :=
 oP (call n_strconv_quoteWith [x0, (U 34), (.bool false), (.bool false)] h) fun x4_0 h0 =>
 some (x4_0, h0)
theorem o_strconv_Quote : FnOK Tryz.prog n_strconv_Quote (a1 f_strconv_Quote) := ok1 mixed Tryz.func341 (by kernel_rfl)
/- slices.insertionSortOrdered[int] -/
noncomputable def f_slices_insertionSortOrdered_int (n : Nat) (call : Caller)  (x0 x1 x2 : AV) (h : AH) : Ans :=
 oB (bAdd x1 (I 1)) fun x9_0 =>
 jnF 0 (fun h1 =>
 some (.tup [], h1)) fun j1 =>
 lpF 4 n (fun f2 y6_2 y2_2 y1_2 y0_2 h2 =>
 oB (bLt y6_2 y2_2) fun x12_3 =>
 ci x12_3 (
 jnF 4 (fun z6_4 z2_4 z1_4 z0_4 h4 =>
 oB (bAdd z6_4 (I 1)) fun x14_5 =>
 f2 x14_5 z2_4 z1_4 z0_4 h4) fun j4 =>
 jnF 4 (fun z6_6 z2_6 z1_6 z0_6 h6 =>
 j4 z6_6 z2_6 z1_6 z0_6 h6) fun j6 =>
 lpF 5 n (fun f7 y7_7 y6_7 y2_7 y1_7 y0_7 h7 =>
 oB' (nx 15 h7) fun h8 =>
 oB (bGt y7_7 y1_7) fun x18_9 =>
 oB (gq x18_9 true (some y0_7)) fun x20_10 =>
 oB (gq x18_9 true (some y7_7)) fun x21_11 =>
 oB (gq x18_9 true (oIx 1 x20_10 x21_11)) fun x22_12 =>
 oB (gq x18_9 true (oLd h8 x22_12)) fun x23_13 =>
 oB (gq x18_9 true (some y0_7)) fun x24_14 =>
 oB (gq x18_9 true (some y7_7)) fun x25_15 =>
 oB (gq x18_9 true (bSub x25_15 (I 1))) fun x26_16 =>
 oB (gq x18_9 true (oIx 1 x24_14 x26_16)) fun x27_17 =>
 oB (gq x18_9 true (oLd h8 x27_17)) fun x28_18 =>
 oP (gw x18_9 true (call n_cmp_Less_int [x23_13, x28_18] h8) h8) fun x29_19 h19 =>
 oB (oPick x18_9 x29_19 (.bool false)) fun x30_20 =>
 ci x30_20 (
 jnF 5 (fun z7_21 z6_21 z2_21 z1_21 z0_21 h21 =>
 oB (bSub z7_21 (I 1)) fun x32_22 =>
 f7 x32_22 z6_21 z2_21 z1_21 z0_21 h21) fun j21 =>
 oB' (nx 18 h19) fun h23 =>
 oB (bSub y7_7 (I 1)) fun x37_24 =>
 oB (bSub y7_7 (I 1)) fun x40_25 =>
 oB (oIx 1 y0_7 x40_25) fun x41_26 =>
 oB (oLd h23 x41_26) fun x42_27 =>
 oB (oIx 1 y0_7 y7_7) fun x45_28 =>
 oB (oLd h23 x45_28) fun x46_29 =>
 oB (oIx 1 y0_7 y7_7) fun x47_30 =>
 oP (oSt 1 h23 x47_30 x42_27) fun _ h31 =>
 oB (oIx 1 y0_7 x37_24) fun x48_32 =>
 oP (oSt 1 h31 x48_32 x46_29) fun _ h33 =>
 j21 y7_7 y6_7 y2_7 y1_7 y0_7 h33) (
 j6 y6_7 y2_7 y1_7 y0_7 h19)) y6_2 y6_2 y2_2 y1_2 y0_2 h2) (
 j1 h2)) x9_0 x2 x1 x0 h
theorem o_slices_insertionSortOrdered_int : FnOK Tryz.prog n_slices_insertionSortOrdered_int (a3 f_slices_insertionSortOrdered_int) := ok3 mixed Tryz.func342 (by kernel_rfl)
/- slices.heapSortOrdered[int] -/
noncomputable def f_slices_heapSortOrdered_int (n : Nat) (call : Caller)  (x0 x1 x2 : AV) (h : AH) : Ans :=
 oB (bSub x2 x1) fun x14_0 =>
 oB (bSub x14_0 (I 1)) fun x16_1 =>
 oB (binAV .quo .no x16_1 (I 2)) fun x17_2 =>
 jnF 4 (fun z8_3 z7_3 z6_3 z0_3 h3 =>
 oB (bSub z8_3 (I 1)) fun x28_4 =>
 jnF 0 (fun h5 =>
 some (.tup [], h5)) fun j5 =>
 lpF 4 n (fun f6 y10_6 y7_6 y6_6 y0_6 h6 =>
 oB (bGe y10_6 (I 0)) fun x30_7 =>
 ci x30_7 (
 jnF 4 (fun z10_8 z7_8 z6_8 z0_8 h8 =>
 oB (bSub z10_8 (I 1)) fun x32_9 =>
 f6 x32_9 z7_8 z6_8 z0_8 h8) fun j8 =>
 oB' (nx 20 h6) fun h10 =>
 oB (bAdd y6_6 y10_6) fun x38_11 =>
 oB (bAdd y6_6 y10_6) fun x42_12 =>
 oB (oIx 1 y0_6 x42_12) fun x43_13 =>
 oB (oLd h10 x43_13) fun x44_14 =>
 oB (oIx 1 y0_6 y6_6) fun x47_15 =>
 oB (oLd h10 x47_15) fun x48_16 =>
 oB (oIx 1 y0_6 y6_6) fun x49_17 =>
 oP (oSt 1 h10 x49_17 x44_14) fun _ h18 =>
 oB (oIx 1 y0_6 x38_11) fun x50_19 =>
 oP (oSt 1 h18 x50_19 x48_16) fun _ h20 =>
 oP (call n_slices_siftDownOrdered_int [y0_6, y7_6, y10_6, y6_6] h20) fun x55_21 h21 =>
 j8 y10_6 y7_6 y6_6 y0_6 h21) (
 j5 h6)) x28_4 z7_3 z6_3 z0_3 h3) fun j3 =>
 lpF 5 n (fun f22 y9_22 y8_22 y7_22 y6_22 y0_22 h22 =>
 oB (bGe y9_22 (I 0)) fun x19_23 =>
 ci x19_23 (
 jnF 5 (fun z9_24 z8_24 z7_24 z6_24 z0_24 h24 =>
 oB (bSub z9_24 (I 1)) fun x21_25 =>
 f22 x21_25 z8_24 z7_24 z6_24 z0_24 h24) fun j24 =>
 oP (call n_slices_siftDownOrdered_int [y0_22, y9_22, y8_22, y6_22] h22) fun x26_26 h26 =>
 j24 y9_22 y8_22 y7_22 y6_22 y0_22 h26) (
 j3 y8_22 y7_22 y6_22 y0_22 h22)) x17_2 x14_0 (I 0) x1 x0 h
theorem o_slices_heapSortOrdered_int : FnOK Tryz.prog n_slices_heapSortOrdered_int (a3 f_slices_heapSortOrdered_int) := ok3 mixed Tryz.func343 (by kernel_rfl)
/- slices.breakPatternsOrdered[int] -/
noncomputable def f_slices_breakPatternsOrdered_int (n : Nat) (call : Caller)  (x0 x1 x2 : AV) (h : AH) : Ans :=
 oB (bSub x2 x1) fun x13_0 =>
 oB (bGe x13_0 (I 8)) fun x15_1 =>
 jnF 0 (fun h2 =>
 some (.tup [], h2)) fun j2 =>
 ci x15_1 (
 oB (oInt .u64 x13_0) fun x17_3 =>
 oP (oNew h 346 [(.int .u64 0)]) fun x7_4 h4 =>
 oP (oSt 1 h4 x7_4 x17_3) fun _ h5 =>
 oP (call n_slices_nextPowerOfTwo [x13_0] h5) fun x19_6 h6 =>
 oB (binAV .quo .no x13_0 (I 4)) fun x22_7 =>
 oB (binAV .mul .no x22_7 (I 2)) fun x23_8 =>
 oB (bAdd x1 x23_8) fun x24_9 =>
 oB (bSub x24_9 (I 1)) fun x25_10 =>
 jnF 0 (fun h11 =>
 j2 h11) fun j11 =>
 lpF 6 n (fun f12 y9_12 y8_12 y7_12 y6_12 y1_12 y0_12 h12 =>
 oB (binAV .quo .no y6_12 (I 4)) fun x29_13 =>
 oB (binAV .mul .no x29_13 (I 2)) fun x30_14 =>
 oB (bAdd y1_12 x30_14) fun x31_15 =>
 oB (bAdd x31_15 (I 1)) fun x32_16 =>
 oB (bLe y9_12 x32_16) fun x33_17 =>
 ci x33_17 (
 jnF 6 (fun z9_18 z8_18 z7_18 z6_18 z1_18 z0_18 h18 =>
 oB (bAdd z9_18 (I 1)) fun x35_19 =>
 f12 x35_19 z8_18 z7_18 z6_18 z1_18 z0_18 h18) fun j18 =>
 oP (call n_slices_xorshift_Next [y7_12] h12) fun x36_20 h20 =>
 oB (bSub y8_12 (.int .u64 1)) fun x38_21 =>
 oB (binAV .and .no x36_20 x38_21) fun x39_22 =>
 oB (oInt .i64 x39_22) fun x40_23 =>
 oB (bGe x40_23 y6_12) fun x43_24 =>
 jnF 7 (fun z10_25 z9_25 z8_25 z7_25 z6_25 z1_25 z0_25 h25 =>
 oB' (nx 20 h25) fun h26 =>
 oB (bAdd z1_25 z10_25) fun x52_27 =>
 oB (bAdd z1_25 z10_25) fun x56_28 =>
 oB (oIx 1 z0_25 x56_28) fun x57_29 =>
 oB (oLd h26 x57_29) fun x58_30 =>
 oB (oIx 1 z0_25 z9_25) fun x61_31 =>
 oB (oLd h26 x61_31) fun x62_32 =>
 oB (oIx 1 z0_25 z9_25) fun x63_33 =>
 oP (oSt 1 h26 x63_33 x58_30) fun _ h34 =>
 oB (oIx 1 z0_25 x52_27) fun x64_35 =>
 oP (oSt 1 h34 x64_35 x62_32) fun _ h36 =>
 j18 z9_25 z8_25 z7_25 z6_25 z1_25 z0_25 h36) fun j25 =>
 ci x43_24 (
 oB (bSub x40_23 y6_12) fun x46_37 =>
 j25 x46_37 y9_12 y8_12 y7_12 y6_12 y1_12 y0_12 h20) (
 j25 x40_23 y9_12 y8_12 y7_12 y6_12 y1_12 y0_12 h20)) (
 j11 h12)) x25_10 x19_6 x7_4 x13_0 x1 x0 h6) (
 j2 h)
theorem o_slices_breakPatternsOrdered_int : FnOK Tryz.prog n_slices_breakPatternsOrdered_int (a3 f_slices_breakPatternsOrdered_int) := ok3 mixed Tryz.func344 (by kernel_rfl)
/- slices.choosePivotOrdered[int] -/
noncomputable def f_slices_choosePivotOrdered_int (n : Nat) (call : Caller)  (x0 x1 x2 : AV) (h : AH) : Ans :=
 oB (bSub x2 x1) fun x15_0 =>
 oP (oNew h 3 [(I 0)]) fun x9_1 h1 =>
 oB (binAV .quo .no x15_0 (I 4)) fun x18_2 =>
 oB (binAV .mul .no x18_2 (I 1)) fun x19_3 =>
 oB (bAdd x1 x19_3) fun x20_4 =>
 oB (binAV .quo .no x15_0 (I 4)) fun x23_5 =>
 oB (binAV .mul .no x23_5 (I 2)) fun x24_6 =>
 oB (bAdd x1 x24_6) fun x25_7 =>
 oB (binAV .quo .no x15_0 (I 4)) fun x28_8 =>
 oB (binAV .mul .no x28_8 (I 3)) fun x29_9 =>
 oB (bAdd x1 x29_9) fun x30_10 =>
 oB (bGe x15_0 (I 8)) fun x32_11 =>
 jnF 2 (fun z11_12 z9_12 h12 =>
 oB (oLd h12 z9_12) fun x49_13 =>
 jnF 2 (fun z7_14 z6_14 h14 =>
 some (.tup [z6_14, z7_14], h14)) fun j14 =>
 oB (bEq .no x49_13 (I 0)) fun x52_15 =>
 ci x52_15 (
 some (.tup [z11_12, (I 1)], h12)) (
 oB (bEq .no x49_13 (I 12)) fun x55_16 =>
 ci x55_16 (
 some (.tup [z11_12, (I 2)], h12)) (
 some (.tup [z11_12, (I 0)], h12)))) fun j12 =>
 ci x32_11 (
 oB (bGe x15_0 (I 50)) fun x34_17 =>
 jnF 5 (fun z12_18 z11_18 z10_18 z9_18 z0_18 h18 =>
 oP (call n_slices_medianOrdered_int [z0_18, z10_18, z11_18, z12_18, z9_18] h18) fun x48_19 h19 =>
 j12 x48_19 z9_18 h19) fun j18 =>
 ci x34_17 (
 oP (call n_slices_medianAdjacentOrdered_int [x0, x20_4, x9_1] h1) fun x37_20 h20 =>
 oP (call n_slices_medianAdjacentOrdered_int [x0, x25_7, x9_1] h20) fun x40_21 h21 =>
 oP (call n_slices_medianAdjacentOrdered_int [x0, x30_10, x9_1] h21) fun x43_22 h22 =>
 j18 x43_22 x40_21 x37_20 x9_1 x0 h22) (
 j18 x30_10 x25_7 x20_4 x9_1 x0 h1)) (
 j12 x25_7 x9_1 h1)
theorem o_slices_choosePivotOrdered_int : FnOK Tryz.prog n_slices_choosePivotOrdered_int (a3 f_slices_choosePivotOrdered_int) := ok3 mixed Tryz.func345 (by kernel_rfl)
/- slices.reverseRangeOrdered[int] -/
noncomputable def f_slices_reverseRangeOrdered_int (n : Nat) (call : Caller)  (x0 x1 x2 : AV) (h : AH) : Ans :=
 oB (bSub x2 (I 1)) fun x10_0 =>
 jnF 0 (fun h1 =>
 some (.tup [], h1)) fun j1 =>
 lpF 3 n (fun f2 y7_2 y6_2 y0_2 h2 =>
 oB (bLt y6_2 y7_2) fun x13_3 =>
 ci x13_3 (
 jnF 3 (fun z7_4 z6_4 z0_4 h4 =>
 f2 z7_4 z6_4 z0_4 h4) fun j4 =>
 oB' (nx 16 h2) fun h5 =>
 oB (oIx 1 y0_2 y7_2) fun x20_6 =>
 oB (oLd h5 x20_6) fun x21_7 =>
 oB (oIx 1 y0_2 y6_2) fun x24_8 =>
 oB (oLd h5 x24_8) fun x25_9 =>
 oB (oIx 1 y0_2 y6_2) fun x26_10 =>
 oP (oSt 1 h5 x26_10 x21_7) fun _ h11 =>
 oB (oIx 1 y0_2 y7_2) fun x27_12 =>
 oP (oSt 1 h11 x27_12 x25_9) fun _ h13 =>
 oB (bAdd y6_2 (I 1)) fun x29_14 =>
 oB (bSub y7_2 (I 1)) fun x31_15 =>
 j4 x31_15 x29_14 y0_2 h13) (
 j1 h2)) x10_0 x1 x0 h
theorem o_slices_reverseRangeOrdered_int : FnOK Tryz.prog n_slices_reverseRangeOrdered_int (a3 f_slices_reverseRangeOrdered_int) := ok3 mixed Tryz.func346 (by kernel_rfl)
/- slices.partialInsertionSortOrdered[int] -/
noncomputable def f_slices_partialInsertionSortOrdered_int (n : Nat) (call : Caller)  (x0 x1 x2 : AV) (h : AH) : Ans :=
 oB (bAdd x1 (I 1)) fun x12_0 =>
 jnF 0 (fun h1 =>
 some ((.bool false), h1)) fun j1 =>
 lpF 5 n (fun f2 y8_2 y7_2 y2_2 y1_2 y0_2 h2 =>
 oB (bLt y8_2 (I 5)) fun x14_3 =>
 ci x14_3 (
 jnF 5 (fun z8_4 z7_4 z2_4 z1_4 z0_4 h4 =>
 oB (bAdd z8_4 (I 1)) fun x16_5 =>
 f2 x16_5 z7_4 z2_4 z1_4 z0_4 h4) fun j4 =>
 jnF 5 (fun z8_6 z7_6 z2_6 z1_6 z0_6 h6 =>
 oB (bEq .no z7_6 z2_6) fun x37_7 =>
 ci x37_7 (
 some ((.bool true), h6)) (
 oB (bSub z2_6 z1_6) fun x40_8 =>
 oB (bLt x40_8 (I 50)) fun x41_9 =>
 ci x41_9 (
 some ((.bool false), h6)) (
 oB' (nx 18 h6) fun h10 =>
 oB (bSub z7_6 (I 1)) fun x46_11 =>
 oB (bSub z7_6 (I 1)) fun x49_12 =>
 oB (oIx 1 z0_6 x49_12) fun x50_13 =>
 oB (oLd h10 x50_13) fun x51_14 =>
 oB (oIx 1 z0_6 z7_6) fun x54_15 =>
 oB (oLd h10 x54_15) fun x55_16 =>
 oB (oIx 1 z0_6 z7_6) fun x56_17 =>
 oP (oSt 1 h10 x56_17 x51_14) fun _ h18 =>
 oB (oIx 1 z0_6 x46_11) fun x57_19 =>
 oP (oSt 1 h18 x57_19 x55_16) fun _ h20 =>
 oB (bSub z7_6 z1_6) fun x60_21 =>
 oB (bGe x60_21 (I 2)) fun x61_22 =>
 jnF 5 (fun z8_23 z7_23 z2_23 z1_23 z0_23 h23 =>
 oB (bSub z2_23 z7_23) fun x97_24 =>
 oB (bGe x97_24 (I 2)) fun x98_25 =>
 jnF 5 (fun z8_26 z7_26 z2_26 z1_26 z0_26 h26 =>
 j4 z8_26 z7_26 z2_26 z1_26 z0_26 h26) fun j26 =>
 ci x98_25 (
 oB (bAdd z7_23 (I 1)) fun x100_27 =>
 jnF 5 (fun z8_28 z7_28 z2_28 z1_28 z0_28 h28 =>
 j26 z8_28 z7_28 z2_28 z1_28 z0_28 h28) fun j28 =>
 lpF 6 n (fun f29 y10_29 y8_29 y7_29 y2_29 y1_29 y0_29 h29 =>
 oB (bLt y10_29 y2_29) fun x103_30 =>
 ci x103_30 (
 jnF 6 (fun z10_31 z8_31 z7_31 z2_31 z1_31 z0_31 h31 =>
 oB (bAdd z10_31 (I 1)) fun x105_32 =>
 f29 x105_32 z8_31 z7_31 z2_31 z1_31 z0_31 h31) fun j31 =>
 oB' (nx 11 h29) fun h33 =>
 oB (oIx 1 y0_29 y10_29) fun x108_34 =>
 oB (oLd h33 x108_34) fun x109_35 =>
 oB (bSub y10_29 (I 1)) fun x112_36 =>
 oB (oIx 1 y0_29 x112_36) fun x113_37 =>
 oB (oLd h33 x113_37) fun x114_38 =>
 oP (call n_cmp_Less_int [x109_35, x114_38] h33) fun x115_39 h39 =>
 oB (evQ (.un .not (.c x115_39)) .e h39) fun x116_40 =>
 ci x116_40 (
 j28 y8_29 y7_29 y2_29 y1_29 y0_29 h39) (
 oB' (nx 18 h39) fun h41 =>
 oB (bSub y10_29 (I 1)) fun x121_42 =>
 oB (bSub y10_29 (I 1)) fun x124_43 =>
 oB (oIx 1 y0_29 x124_43) fun x125_44 =>
 oB (oLd h41 x125_44) fun x126_45 =>
 oB (oIx 1 y0_29 y10_29) fun x129_46 =>
 oB (oLd h41 x129_46) fun x130_47 =>
 oB (oIx 1 y0_29 y10_29) fun x131_48 =>
 oP (oSt 1 h41 x131_48 x126_45) fun _ h49 =>
 oB (oIx 1 y0_29 x121_42) fun x132_50 =>
 oP (oSt 1 h49 x132_50 x130_47) fun _ h51 =>
 j31 y10_29 y8_29 y7_29 y2_29 y1_29 y0_29 h51)) (
 j28 y8_29 y7_29 y2_29 y1_29 y0_29 h29)) x100_27 z8_23 z7_23 z2_23 z1_23 z0_23 h23) (
 j26 z8_23 z7_23 z2_23 z1_23 z0_23 h23)) fun j23 =>
 ci x61_22 (
 oB (bSub z7_6 (I 1)) fun x63_52 =>
 jnF 5 (fun z8_53 z7_53 z2_53 z1_53 z0_53 h53 =>
 j23 z8_53 z7_53 z2_53 z1_53 z0_53 h53) fun j53 =>
 lpF 6 n (fun f54 y9_54 y8_54 y7_54 y2_54 y1_54 y0_54 h54 =>
 oB (bGe y9_54 (I 1)) fun x65_55 =>
 ci x65_55 (
 jnF 6 (fun z9_56 z8_56 z7_56 z2_56 z1_56 z0_56 h56 =>
 oB (bSub z9_56 (I 1)) fun x67_57 =>
 f54 x67_57 z8_56 z7_56 z2_56 z1_56 z0_56 h56) fun j56 =>
 oB' (nx 11 h54) fun h58 =>
 oB (oIx 1 y0_54 y9_54) fun x70_59 =>
 oB (oLd h58 x70_59) fun x71_60 =>
 oB (bSub y9_54 (I 1)) fun x74_61 =>
 oB (oIx 1 y0_54 x74_61) fun x75_62 =>
 oB (oLd h58 x75_62) fun x76_63 =>
 oP (call n_cmp_Less_int [x71_60, x76_63] h58) fun x77_64 h64 =>
 oB (evQ (.un .not (.c x77_64)) .e h64) fun x78_65 =>
 ci x78_65 (
 j53 y8_54 y7_54 y2_54 y1_54 y0_54 h64) (
 oB' (nx 18 h64) fun h66 =>
 oB (bSub y9_54 (I 1)) fun x83_67 =>
 oB (bSub y9_54 (I 1)) fun x86_68 =>
 oB (oIx 1 y0_54 x86_68) fun x87_69 =>
 oB (oLd h66 x87_69) fun x88_70 =>
 oB (oIx 1 y0_54 y9_54) fun x91_71 =>
 oB (oLd h66 x91_71) fun x92_72 =>
 oB (oIx 1 y0_54 y9_54) fun x93_73 =>
 oP (oSt 1 h66 x93_73 x88_70) fun _ h74 =>
 oB (oIx 1 y0_54 x83_67) fun x94_75 =>
 oP (oSt 1 h74 x94_75 x92_72) fun _ h76 =>
 j56 y9_54 y8_54 y7_54 y2_54 y1_54 y0_54 h76)) (
 j53 y8_54 y7_54 y2_54 y1_54 y0_54 h54)) x63_52 z8_6 z7_6 z2_6 z1_6 z0_6 h20) (
 j23 z8_6 z7_6 z2_6 z1_6 z0_6 h20)))) fun j6 =>
 lpF 5 n (fun f77 y8_77 y7_77 y2_77 y1_77 y0_77 h77 =>
 oB' (nx 16 h77) fun h78 =>
 oB (bLt y7_77 y2_77) fun x19_79 =>
 oB (gq x19_79 true (some y0_77)) fun x21_80 =>
 oB (gq x19_79 true (some y7_77)) fun x22_81 =>
 oB (gq x19_79 true (oIx 1 x21_80 x22_81)) fun x23_82 =>
 oB (gq x19_79 true (oLd h78 x23_82)) fun x24_83 =>
 oB (gq x19_79 true (some y0_77)) fun x25_84 =>
 oB (gq x19_79 true (some y7_77)) fun x26_85 =>
 oB (gq x19_79 true (bSub x26_85 (I 1))) fun x27_86 =>
 oB (gq x19_79 true (oIx 1 x25_84 x27_86)) fun x28_87 =>
 oB (gq x19_79 true (oLd h78 x28_87)) fun x29_88 =>
 oP (gw x19_79 true (call n_cmp_Less_int [x24_83, x29_88] h78) h78) fun x30_89 h89 =>
 oB (gq x19_79 true (evQ (.un .not (.c x30_89)) .e h89)) fun x31_90 =>
 oB (oPick x19_79 x31_90 (.bool false)) fun x32_91 =>
 ci x32_91 (
 jnF 5 (fun z8_92 z7_92 z2_92 z1_92 z0_92 h92 =>
 f77 z8_92 z7_92 z2_92 z1_92 z0_92 h92) fun j92 =>
 oB (bAdd y7_77 (I 1)) fun x34_93 =>
 j92 y8_77 x34_93 y2_77 y1_77 y0_77 h89) (
 j6 y8_77 y7_77 y2_77 y1_77 y0_77 h89)) y8_2 y7_2 y2_2 y1_2 y0_2 h2) (
 j1 h2)) (I 0) x12_0 x2 x1 x0 h
theorem o_slices_partialInsertionSortOrdered_int : FnOK Tryz.prog n_slices_partialInsertionSortOrdered_int (a3 f_slices_partialInsertionSortOrdered_int) := ok3 mixed Tryz.func347 (by kernel_rfl)
/- cmp.Less[int] -/
noncomputable def f_cmp_Less_int (n : Nat) (call : Caller)  (x0 x1 : AV) (h : AH) : Ans :=
 oP (call n_cmp_isNaN_int [x0] h) fun x6_0 h0 =>
 oB (gq x6_0 true (some x1)) fun x8_1 =>
 oP (gw x6_0 true (call n_cmp_isNaN_int [x8_1] h0) h0) fun x9_2 h2 =>
 oB (gq x6_0 true (evQ (.un .not (.c x9_2)) .e h2)) fun x10_3 =>
 oB (oPick x6_0 x10_3 (.bool false)) fun x11_4 =>
 oB (gq x11_4 false (some x0)) fun x13_5 =>
 oB (gq x11_4 false (some x1)) fun x14_6 =>
 oB (gq x11_4 false (bLt x13_5 x14_6)) fun x15_7 =>
 oB (oPick x11_4 (.bool true) x15_7) fun x16_8 =>
 some (x16_8, h2)
theorem o_cmp_Less_int : FnOK Tryz.prog n_cmp_Less_int (a2 f_cmp_Less_int) := ok2 mixed Tryz.func348 (by kernel_rfl)
/- slices.partitionEqualOrdered[int] -/
noncomputable def f_slices_partitionEqualOrdered_int (n : Nat) (call : Caller)  (x0 x1 x2 x3 : AV) (h : AH) : Ans :=
 oB' (nx 16 h) fun h0 =>
 oB (oIx 1 x0 x3) fun x17_1 =>
 oB (oLd h0 x17_1) fun x18_2 =>
 oB (oIx 1 x0 x1) fun x21_3 =>
 oB (oLd h0 x21_3) fun x22_4 =>
 oB (oIx 1 x0 x1) fun x23_5 =>
 oP (oSt 1 h0 x23_5 x18_2) fun _ h6 =>
 oB (oIx 1 x0 x3) fun x24_7 =>
 oP (oSt 1 h6 x24_7 x22_4) fun _ h8 =>
 oB (bAdd x1 (I 1)) fun x26_9 =>
 oB (bSub x2 (I 1)) fun x28_10 =>
 jnF 1 (fun z9_11 h11 =>
 some (z9_11, h11)) fun j11 =>
 lpF 4 n (fun f12 y10_12 y9_12 y1_12 y0_12 h12 =>
 jnF 4 (fun z10_13 z9_13 z1_13 z0_13 h13 =>
 f12 z10_13 z9_13 z1_13 z0_13 h13) fun j13 =>
 jnF 4 (fun z10_14 z9_14 z1_14 z0_14 h14 =>
 jnF 4 (fun z10_15 z9_15 z1_15 z0_15 h15 =>
 oB (bGt z9_15 z10_15) fun x64_16 =>
 ci x64_16 (
 j11 z9_15 h15) (
 oB' (nx 16 h15) fun h17 =>
 oB (oIx 1 z0_15 z10_15) fun x71_18 =>
 oB (oLd h17 x71_18) fun x72_19 =>
 oB (oIx 1 z0_15 z9_15) fun x75_20 =>
 oB (oLd h17 x75_20) fun x76_21 =>
 oB (oIx 1 z0_15 z9_15) fun x77_22 =>
 oP (oSt 1 h17 x77_22 x72_19) fun _ h23 =>
 oB (oIx 1 z0_15 z10_15) fun x78_24 =>
 oP (oSt 1 h23 x78_24 x76_21) fun _ h25 =>
 oB (bAdd z9_15 (I 1)) fun x80_26 =>
 oB (bSub z10_15 (I 1)) fun x82_27 =>
 j13 x82_27 x80_26 z1_15 z0_15 h25)) fun j15 =>
 lpF 4 n (fun f28 y10_28 y9_28 y1_28 y0_28 h28 =>
 oB' (nx 14 h28) fun h29 =>
 oB (bLe y9_28 y10_28) fun x48_30 =>
 oB (gq x48_30 true (some y0_28)) fun x50_31 =>
 oB (gq x48_30 true (some y1_28)) fun x51_32 =>
 oB (gq x48_30 true (oIx 1 x50_31 x51_32)) fun x52_33 =>
 oB (gq x48_30 true (oLd h29 x52_33)) fun x53_34 =>
 oB (gq x48_30 true (some y0_28)) fun x54_35 =>
 oB (gq x48_30 true (some y10_28)) fun x55_36 =>
 oB (gq x48_30 true (oIx 1 x54_35 x55_36)) fun x56_37 =>
 oB (gq x48_30 true (oLd h29 x56_37)) fun x57_38 =>
 oP (gw x48_30 true (call n_cmp_Less_int [x53_34, x57_38] h29) h29) fun x58_39 h39 =>
 oB (oPick x48_30 x58_39 (.bool false)) fun x59_40 =>
 ci x59_40 (
 jnF 4 (fun z10_41 z9_41 z1_41 z0_41 h41 =>
 f28 z10_41 z9_41 z1_41 z0_41 h41) fun j41 =>
 oB (bSub y10_28 (I 1)) fun x61_42 =>
 j41 x61_42 y9_28 y1_28 y0_28 h39) (
 j15 y10_28 y9_28 y1_28 y0_28 h39)) z10_14 z9_14 z1_14 z0_14 h14) fun j14 =>
 lpF 4 n (fun f43 y10_43 y9_43 y1_43 y0_43 h43 =>
 oB' (nx 15 h43) fun h44 =>
 oB (bLe y9_43 y10_43) fun x31_45 =>
 oB (gq x31_45 true (some y0_43)) fun x33_46 =>
 oB (gq x31_45 true (some y1_43)) fun x34_47 =>
 oB (gq x31_45 true (oIx 1 x33_46 x34_47)) fun x35_48 =>
 oB (gq x31_45 true (oLd h44 x35_48)) fun x36_49 =>
 oB (gq x31_45 true (some y0_43)) fun x37_50 =>
 oB (gq x31_45 true (some y9_43)) fun x38_51 =>
 oB (gq x31_45 true (oIx 1 x37_50 x38_51)) fun x39_52 =>
 oB (gq x31_45 true (oLd h44 x39_52)) fun x40_53 =>
 oP (gw x31_45 true (call n_cmp_Less_int [x36_49, x40_53] h44) h44) fun x41_54 h54 =>
 oB (gq x31_45 true (evQ (.un .not (.c x41_54)) .e h54)) fun x42_55 =>
 oB (oPick x31_45 x42_55 (.bool false)) fun x43_56 =>
 ci x43_56 (
 jnF 4 (fun z10_57 z9_57 z1_57 z0_57 h57 =>
 f43 z10_57 z9_57 z1_57 z0_57 h57) fun j57 =>
 oB (bAdd y9_43 (I 1)) fun x45_58 =>
 j57 y10_43 x45_58 y1_43 y0_43 h54) (
 j14 y10_43 y9_43 y1_43 y0_43 h54)) y10_12 y9_12 y1_12 y0_12 h12) x28_10 x26_9 x1 x0 h8
theorem o_slices_partitionEqualOrdered_int : FnOK Tryz.prog n_slices_partitionEqualOrdered_int (a4 f_slices_partitionEqualOrdered_int) := ok4 mixed Tryz.func349 (by kernel_rfl)
/- slices.partitionOrdered[int] -/
noncomputable def f_slices_partitionOrdered_int (n : Nat) (call : Caller)  (x0 x1 x2 x3 : AV) (h : AH) : Ans :=
 oB' (nx 16 h) fun h0 =>
 oB (oIx 1 x0 x3) fun x18_1 =>
 oB (oLd h0 x18_1) fun x19_2 =>
 oB (oIx 1 x0 x1) fun x22_3 =>
 oB (oLd h0 x22_3) fun x23_4 =>
 oB (oIx 1 x0 x1) fun x24_5 =>
 oP (oSt 1 h0 x24_5 x19_2) fun _ h6 =>
 oB (oIx 1 x0 x3) fun x25_7 =>
 oP (oSt 1 h6 x25_7 x23_4) fun _ h8 =>
 oB (bAdd x1 (I 1)) fun x27_9 =>
 oB (bSub x2 (I 1)) fun x29_10 =>
 jnF 4 (fun z11_11 z10_11 z1_11 z0_11 h11 =>
 jnF 4 (fun z11_12 z10_12 z1_12 z0_12 h12 =>
 oB (bGt z10_12 z11_12) fun x65_13 =>
 ci x65_13 (
 oB' (nx 16 h12) fun h14 =>
 oB (oIx 1 z0_12 z1_12) fun x72_15 =>
 oB (oLd h14 x72_15) fun x73_16 =>
 oB (oIx 1 z0_12 z11_12) fun x76_17 =>
 oB (oLd h14 x76_17) fun x77_18 =>
 oB (oIx 1 z0_12 z11_12) fun x78_19 =>
 oP (oSt 1 h14 x78_19 x73_16) fun _ h20 =>
 oB (oIx 1 z0_12 z1_12) fun x79_21 =>
 oP (oSt 1 h20 x79_21 x77_18) fun _ h22 =>
 some (.tup [z11_12, (.bool true)], h22)) (
 oB' (nx 16 h12) fun h23 =>
 oB (oIx 1 z0_12 z11_12) fun x87_24 =>
 oB (oLd h23 x87_24) fun x88_25 =>
 oB (oIx 1 z0_12 z10_12) fun x91_26 =>
 oB (oLd h23 x91_26) fun x92_27 =>
 oB (oIx 1 z0_12 z10_12) fun x93_28 =>
 oP (oSt 1 h23 x93_28 x88_25) fun _ h29 =>
 oB (oIx 1 z0_12 z11_12) fun x94_30 =>
 oP (oSt 1 h29 x94_30 x92_27) fun _ h31 =>
 oB (bAdd z10_12 (I 1)) fun x96_32 =>
 oB (bSub z11_12 (I 1)) fun x98_33 =>
 jnF 3 (fun z11_34 z1_34 z0_34 h34 =>
 oB' (nx 16 h34) fun h35 =>
 oB (oIx 1 z0_34 z1_34) fun x159_36 =>
 oB (oLd h35 x159_36) fun x160_37 =>
 oB (oIx 1 z0_34 z11_34) fun x163_38 =>
 oB (oLd h35 x163_38) fun x164_39 =>
 oB (oIx 1 z0_34 z11_34) fun x165_40 =>
 oP (oSt 1 h35 x165_40 x160_37) fun _ h41 =>
 oB (oIx 1 z0_34 z1_34) fun x166_42 =>
 oP (oSt 1 h41 x166_42 x164_39) fun _ h43 =>
 some (.tup [z11_34, (.bool false)], h43)) fun j34 =>
 lpF 4 n (fun f44 y11_44 y10_44 y1_44 y0_44 h44 =>
 jnF 4 (fun z11_45 z10_45 z1_45 z0_45 h45 =>
 f44 z11_45 z10_45 z1_45 z0_45 h45) fun j45 =>
 jnF 4 (fun z11_46 z10_46 z1_46 z0_46 h46 =>
 jnF 4 (fun z11_47 z10_47 z1_47 z0_47 h47 =>
 oB (bGt z10_47 z11_47) fun x134_48 =>
 ci x134_48 (
 j34 z11_47 z1_47 z0_47 h47) (
 oB' (nx 16 h47) fun h49 =>
 oB (oIx 1 z0_47 z11_47) fun x141_50 =>
 oB (oLd h49 x141_50) fun x142_51 =>
 oB (oIx 1 z0_47 z10_47) fun x145_52 =>
 oB (oLd h49 x145_52) fun x146_53 =>
 oB (oIx 1 z0_47 z10_47) fun x147_54 =>
 oP (oSt 1 h49 x147_54 x142_51) fun _ h55 =>
 oB (oIx 1 z0_47 z11_47) fun x148_56 =>
 oP (oSt 1 h55 x148_56 x146_53) fun _ h57 =>
 oB (bAdd z10_47 (I 1)) fun x150_58 =>
 oB (bSub z11_47 (I 1)) fun x152_59 =>
 j45 x152_59 x150_58 z1_47 z0_47 h57)) fun j47 =>
 lpF 4 n (fun f60 y11_60 y10_60 y1_60 y0_60 h60 =>
 oB' (nx 15 h60) fun h61 =>
 oB (bLe y10_60 y11_60) fun x117_62 =>
 oB (gq x117_62 true (some y0_60)) fun x119_63 =>
 oB (gq x117_62 true (some y11_60)) fun x120_64 =>
 oB (gq x117_62 true (oIx 1 x119_63 x120_64)) fun x121_65 =>
 oB (gq x117_62 true (oLd h61 x121_65)) fun x122_66 =>
 oB (gq x117_62 true (some y0_60)) fun x123_67 =>
 oB (gq x117_62 true (some y1_60)) fun x124_68 =>
 oB (gq x117_62 true (oIx 1 x123_67 x124_68)) fun x125_69 =>
 oB (gq x117_62 true (oLd h61 x125_69)) fun x126_70 =>
 oP (gw x117_62 true (call n_cmp_Less_int [x122_66, x126_70] h61) h61) fun x127_71 h71 =>
 oB (gq x117_62 true (evQ (.un .not (.c x127_71)) .e h71)) fun x128_72 =>
 oB (oPick x117_62 x128_72 (.bool false)) fun x129_73 =>
 ci x129_73 (
 jnF 4 (fun z11_74 z10_74 z1_74 z0_74 h74 =>
 f60 z11_74 z10_74 z1_74 z0_74 h74) fun j74 =>
 oB (bSub y11_60 (I 1)) fun x131_75 =>
 j74 x131_75 y10_60 y1_60 y0_60 h71) (
 j47 y11_60 y10_60 y1_60 y0_60 h71)) z11_46 z10_46 z1_46 z0_46 h46) fun j46 =>
 lpF 4 n (fun f76 y11_76 y10_76 y1_76 y0_76 h76 =>
 oB' (nx 14 h76) fun h77 =>
 oB (bLe y10_76 y11_76) fun x101_78 =>
 oB (gq x101_78 true (some y0_76)) fun x103_79 =>
 oB (gq x101_78 true (some y10_76)) fun x104_80 =>
 oB (gq x101_78 true (oIx 1 x103_79 x104_80)) fun x105_81 =>
 oB (gq x101_78 true (oLd h77 x105_81)) fun x106_82 =>
 oB (gq x101_78 true (some y0_76)) fun x107_83 =>
 oB (gq x101_78 true (some y1_76)) fun x108_84 =>
 oB (gq x101_78 true (oIx 1 x107_83 x108_84)) fun x109_85 =>
 oB (gq x101_78 true (oLd h77 x109_85)) fun x110_86 =>
 oP (gw x101_78 true (call n_cmp_Less_int [x106_82, x110_86] h77) h77) fun x111_87 h87 =>
 oB (oPick x101_78 x111_87 (.bool false)) fun x112_88 =>
 ci x112_88 (
 jnF 4 (fun z11_89 z10_89 z1_89 z0_89 h89 =>
 f76 z11_89 z10_89 z1_89 z0_89 h89) fun j89 =>
 oB (bAdd y10_76 (I 1)) fun x114_90 =>
 j89 y11_76 x114_90 y1_76 y0_76 h87) (
 j46 y11_76 y10_76 y1_76 y0_76 h87)) y11_44 y10_44 y1_44 y0_44 h44) x98_33 x96_32 z1_12 z0_12 h31)) fun j12 =>
 lpF 4 n (fun f91 y11_91 y10_91 y1_91 y0_91 h91 =>
 oB' (nx 15 h91) fun h92 =>
 oB (bLe y10_91 y11_91) fun x48_93 =>
 oB (gq x48_93 true (some y0_91)) fun x50_94 =>
 oB (gq x48_93 true (some y11_91)) fun x51_95 =>
 oB (gq x48_93 true (oIx 1 x50_94 x51_95)) fun x52_96 =>
 oB (gq x48_93 true (oLd h92 x52_96)) fun x53_97 =>
 oB (gq x48_93 true (some y0_91)) fun x54_98 =>
 oB (gq x48_93 true (some y1_91)) fun x55_99 =>
 oB (gq x48_93 true (oIx 1 x54_98 x55_99)) fun x56_100 =>
 oB (gq x48_93 true (oLd h92 x56_100)) fun x57_101 =>
 oP (gw x48_93 true (call n_cmp_Less_int [x53_97, x57_101] h92) h92) fun x58_102 h102 =>
 oB (gq x48_93 true (evQ (.un .not (.c x58_102)) .e h102)) fun x59_103 =>
 oB (oPick x48_93 x59_103 (.bool false)) fun x60_104 =>
 ci x60_104 (
 jnF 4 (fun z11_105 z10_105 z1_105 z0_105 h105 =>
 f91 z11_105 z10_105 z1_105 z0_105 h105) fun j105 =>
 oB (bSub y11_91 (I 1)) fun x62_106 =>
 j105 x62_106 y10_91 y1_91 y0_91 h102) (
 j12 y11_91 y10_91 y1_91 y0_91 h102)) z11_11 z10_11 z1_11 z0_11 h11) fun j11 =>
 lpF 4 n (fun f107 y11_107 y10_107 y1_107 y0_107 h107 =>
 oB' (nx 14 h107) fun h108 =>
 oB (bLe y10_107 y11_107) fun x32_109 =>
 oB (gq x32_109 true (some y0_107)) fun x34_110 =>
 oB (gq x32_109 true (some y10_107)) fun x35_111 =>
 oB (gq x32_109 true (oIx 1 x34_110 x35_111)) fun x36_112 =>
 oB (gq x32_109 true (oLd h108 x36_112)) fun x37_113 =>
 oB (gq x32_109 true (some y0_107)) fun x38_114 =>
 oB (gq x32_109 true (some y1_107)) fun x39_115 =>
 oB (gq x32_109 true (oIx 1 x38_114 x39_115)) fun x40_116 =>
 oB (gq x32_109 true (oLd h108 x40_116)) fun x41_117 =>
 oP (gw x32_109 true (call n_cmp_Less_int [x37_113, x41_117] h108) h108) fun x42_118 h118 =>
 oB (oPick x32_109 x42_118 (.bool false)) fun x43_119 =>
 ci x43_119 (
 jnF 4 (fun z11_120 z10_120 z1_120 z0_120 h120 =>
 f107 z11_120 z10_120 z1_120 z0_120 h120) fun j120 =>
 oB (bAdd y10_107 (I 1)) fun x45_121 =>
 j120 y11_107 x45_121 y1_107 y0_107 h118) (
 j11 y11_107 y10_107 y1_107 y0_107 h118)) x29_10 x27_9 x1 x0 h8
theorem o_slices_partitionOrdered_int : FnOK Tryz.prog n_slices_partitionOrdered_int (a4 f_slices_partitionOrdered_int) := ok4 mixed Tryz.func350 (by kernel_rfl)
/- slices.insertionSortCmpFunc[corrector/api.Edit] -/
noncomputable def f_slices_insertionSortCmpFunc_api_Edit (n : Nat) (call : Caller)  (x0 x1 x2 x3 : AV) (h : AH) : Ans :=
 oB (bAdd x1 (I 1)) fun x11_0 =>
 jnF 0 (fun h1 =>
 some (.tup [], h1)) fun j1 =>
 lpF 5 n (fun f2 y8_2 y3_2 y2_2 y1_2 y0_2 h2 =>
 oB (bLt y8_2 y2_2) fun x14_3 =>
 ci x14_3 (
 jnF 5 (fun z8_4 z3_4 z2_4 z1_4 z0_4 h4 =>
 oB (bAdd z8_4 (I 1)) fun x16_5 =>
 f2 x16_5 z3_4 z2_4 z1_4 z0_4 h4) fun j4 =>
 jnF 5 (fun z8_6 z3_6 z2_6 z1_6 z0_6 h6 =>
 j4 z8_6 z3_6 z2_6 z1_6 z0_6 h6) fun j6 =>
 lpF 6 n (fun f7 y9_7 y8_7 y3_7 y2_7 y1_7 y0_7 h7 =>
 oB' (nx 17 h7) fun h8 =>
 oB (bGt y9_7 y1_7) fun x20_9 =>
 oB (gq x20_9 true (some y3_7)) fun x22_10 =>
 oB (gq x20_9 true (some y0_7)) fun x23_11 =>
 oB (gq x20_9 true (some y9_7)) fun x24_12 =>
 oB (gq x20_9 true (oIx 3 x23_11 x24_12)) fun x25_13 =>
 oB (gq x20_9 true (oLdN 3 h8 x25_13)) fun x26_14 =>
 oB (gq x20_9 true (some y0_7)) fun x27_15 =>
 oB (gq x20_9 true (some y9_7)) fun x28_16 =>
 oB (gq x20_9 true (bSub x28_16 (I 1))) fun x29_17 =>
 oB (gq x20_9 true (oIx 3 x27_15 x29_17)) fun x30_18 =>
 oB (gq x20_9 true (oLdN 3 h8 x30_18)) fun x31_19 =>
 oP (gw x20_9 true (wOf (.callV (.c x22_10) [(.c x26_14), (.c x31_19)]) call .e h8) h8) fun x32_20 h20 =>
 oB (gq x20_9 true (bLt x32_20 (I 0))) fun x33_21 =>
 oB (oPick x20_9 x33_21 (.bool false)) fun x34_22 =>
 ci x34_22 (
 jnF 6 (fun z9_23 z8_23 z3_23 z2_23 z1_23 z0_23 h23 =>
 oB (bSub z9_23 (I 1)) fun x36_24 =>
 f7 x36_24 z8_23 z3_23 z2_23 z1_23 z0_23 h23) fun j23 =>
 oB' (nx 18 h20) fun h25 =>
 oB (bSub y9_7 (I 1)) fun x41_26 =>
 oB (bSub y9_7 (I 1)) fun x44_27 =>
 oB (oIx 3 y0_7 x44_27) fun x45_28 =>
 oB (oLdN 3 h25 x45_28) fun x46_29 =>
 oB (oIx 3 y0_7 y9_7) fun x49_30 =>
 oB (oLdN 3 h25 x49_30) fun x50_31 =>
 oB (oIx 3 y0_7 y9_7) fun x51_32 =>
 oP (oSt 3 h25 x51_32 x46_29) fun _ h33 =>
 oB (oIx 3 y0_7 x41_26) fun x52_34 =>
 oP (oSt 3 h33 x52_34 x50_31) fun _ h35 =>
 j23 y9_7 y8_7 y3_7 y2_7 y1_7 y0_7 h35) (
 j6 y8_7 y3_7 y2_7 y1_7 y0_7 h20)) y8_2 y8_2 y3_2 y2_2 y1_2 y0_2 h2) (
 j1 h2)) x11_0 x3 x2 x1 x0 h
theorem o_slices_insertionSortCmpFunc_api_Edit : FnOK Tryz.prog n_slices_insertionSortCmpFunc_api_Edit (a4 f_slices_insertionSortCmpFunc_api_Edit) := ok4 mixed Tryz.func351 (by kernel_rfl)
/- slices.symMergeCmpFunc[corrector/api.Edit] -/
noncomputable def f_slices_symMergeCmpFunc_api_Edit (n : Nat) (call : Caller)  (x0 x1 x2 x3 x4 : AV) (h : AH) : Ans :=
 oB (bSub x2 x1) fun x27_0 =>
 oB (bEq .no x27_0 (I 1)) fun x28_1 =>
 ci x28_1 (
 jnF 3 (fun z10_2 z1_2 z0_2 h2 =>
 jnF 0 (fun h3 =>
 some (.tup [], h3)) fun j3 =>
 lpF 3 n (fun f4 y13_4 y10_4 y0_4 h4 =>
 oB (bSub y10_4 (I 1)) fun x57_5 =>
 oB (bLt y13_4 x57_5) fun x58_6 =>
 ci x58_6 (
 jnF 3 (fun z13_7 z10_7 z0_7 h7 =>
 oB (bAdd z13_7 (I 1)) fun x60_8 =>
 f4 x60_8 z10_7 z0_7 h7) fun j7 =>
 oB' (nx 18 h4) fun h9 =>
 oB (bAdd y13_4 (I 1)) fun x65_10 =>
 oB (bAdd y13_4 (I 1)) fun x68_11 =>
 oB (oIx 3 y0_4 x68_11) fun x69_12 =>
 oB (oLdN 3 h9 x69_12) fun x70_13 =>
 oB (oIx 3 y0_4 y13_4) fun x73_14 =>
 oB (oLdN 3 h9 x73_14) fun x74_15 =>
 oB (oIx 3 y0_4 y13_4) fun x75_16 =>
 oP (oSt 3 h9 x75_16 x70_13) fun _ h17 =>
 oB (oIx 3 y0_4 x65_10) fun x76_18 =>
 oP (oSt 3 h17 x76_18 x74_15) fun _ h19 =>
 j7 y13_4 y10_4 y0_4 h19) (
 j3 h4)) z1_2 z10_2 z0_2 h2) fun j2 =>
 lpF 5 n (fun f20 y11_20 y10_20 y4_20 y1_20 y0_20 h20 =>
 oB (bLt y10_20 y11_20) fun x33_21 =>
 ci x33_21 (
 jnF 5 (fun z11_22 z10_22 z4_22 z1_22 z0_22 h22 =>
 f20 z11_22 z10_22 z4_22 z1_22 z0_22 h22) fun j22 =>
 oB (bAdd y10_20 y11_20) fun x36_23 =>
 oB (oInt .u64 x36_23) fun x37_24 =>
 oB (binAV .shr .no x37_24 (.int .u64 1)) fun x38_25 =>
 oB (oInt .i64 x38_25) fun x39_26 =>
 oB' (nx 11 h20) fun h27 =>
 oB (oIx 3 y0_20 x39_26) fun x43_28 =>
 oB (oLdN 3 h27 x43_28) fun x44_29 =>
 oB (oIx 3 y0_20 y1_20) fun x47_30 =>
 oB (oLdN 3 h27 x47_30) fun x48_31 =>
 oP (wOf (.callV (.c y4_20) [(.c x44_29), (.c x48_31)]) call .e h27) fun x49_32 h32 =>
 oB (bLt x49_32 (I 0)) fun x50_33 =>
 jnF 5 (fun z11_34 z10_34 z4_34 z1_34 z0_34 h34 =>
 j22 z11_34 z10_34 z4_34 z1_34 z0_34 h34) fun j34 =>
 ci x50_33 (
 oB (bAdd x39_26 (I 1)) fun x52_35 =>
 j34 y11_20 x52_35 y4_20 y1_20 y0_20 h32) (
 j34 x39_26 y10_20 y4_20 y1_20 y0_20 h32)) (
 j2 y10_20 y1_20 y0_20 h20)) x3 x2 x4 x1 x0 h) (
 oB (bSub x3 x2) fun x79_36 =>
 oB (bEq .no x79_36 (I 1)) fun x80_37 =>
 ci x80_37 (
 jnF 3 (fun z14_38 z2_38 z0_38 h38 =>
 jnF 0 (fun h39 =>
 some (.tup [], h39)) fun j39 =>
 lpF 3 n (fun f40 y17_40 y14_40 y0_40 h40 =>
 oB (bGt y17_40 y14_40) fun x110_41 =>
 ci x110_41 (
 jnF 3 (fun z17_42 z14_42 z0_42 h42 =>
 oB (bSub z17_42 (I 1)) fun x112_43 =>
 f40 x112_43 z14_42 z0_42 h42) fun j42 =>
 oB' (nx 18 h40) fun h44 =>
 oB (bSub y17_40 (I 1)) fun x117_45 =>
 oB (bSub y17_40 (I 1)) fun x120_46 =>
 oB (oIx 3 y0_40 x120_46) fun x121_47 =>
 oB (oLdN 3 h44 x121_47) fun x122_48 =>
 oB (oIx 3 y0_40 y17_40) fun x125_49 =>
 oB (oLdN 3 h44 x125_49) fun x126_50 =>
 oB (oIx 3 y0_40 y17_40) fun x127_51 =>
 oP (oSt 3 h44 x127_51 x122_48) fun _ h52 =>
 oB (oIx 3 y0_40 x117_45) fun x128_53 =>
 oP (oSt 3 h52 x128_53 x126_50) fun _ h54 =>
 j42 y17_40 y14_40 y0_40 h54) (
 j39 h40)) z2_38 z14_38 z0_38 h38) fun j38 =>
 lpF 5 n (fun f55 y15_55 y14_55 y4_55 y2_55 y0_55 h55 =>
 oB (bLt y14_55 y15_55) fun x85_56 =>
 ci x85_56 (
 jnF 5 (fun z15_57 z14_57 z4_57 z2_57 z0_57 h57 =>
 f55 z15_57 z14_57 z4_57 z2_57 z0_57 h57) fun j57 =>
 oB (bAdd y14_55 y15_55) fun x88_58 =>
 oB (oInt .u64 x88_58) fun x89_59 =>
 oB (binAV .shr .no x89_59 (.int .u64 1)) fun x90_60 =>
 oB (oInt .i64 x90_60) fun x91_61 =>
 oB' (nx 12 h55) fun h62 =>
 oB (oIx 3 y0_55 y2_55) fun x95_63 =>
 oB (oLdN 3 h62 x95_63) fun x96_64 =>
 oB (oIx 3 y0_55 x91_61) fun x99_65 =>
 oB (oLdN 3 h62 x99_65) fun x100_66 =>
 oP (wOf (.callV (.c y4_55) [(.c x96_64), (.c x100_66)]) call .e h62) fun x101_67 h67 =>
 oB (bLt x101_67 (I 0)) fun x102_68 =>
 oB (evQ (.un .not (.c x102_68)) .e h67) fun x103_69 =>
 jnF 5 (fun z15_70 z14_70 z4_70 z2_70 z0_70 h70 =>
 j57 z15_70 z14_70 z4_70 z2_70 z0_70 h70) fun j70 =>
 ci x103_69 (
 oB (bAdd x91_61 (I 1)) fun x105_71 =>
 j70 y15_55 x105_71 y4_55 y2_55 y0_55 h67) (
 j70 x91_61 y14_55 y4_55 y2_55 y0_55 h67)) (
 j38 y14_55 y2_55 y0_55 h55)) x2 x1 x4 x2 x0 h) (
 oB (bAdd x1 x3) fun x131_72 =>
 oB (oInt .u64 x131_72) fun x132_73 =>
 oB (binAV .shr .no x132_73 (.int .u64 1)) fun x133_74 =>
 oB (oInt .i64 x133_74) fun x134_75 =>
 oB (bAdd x134_75 x2) fun x137_76 =>
 oB (bGt x2 x134_75) fun x140_77 =>
 jnF 9 (fun z21_78 z20_78 z19_78 z18_78 z4_78 z3_78 z2_78 z1_78 z0_78 h78 =>
 oB (bSub z19_78 (I 1)) fun x148_79 =>
 jnF 8 (fun z20_80 z19_80 z18_80 z4_80 z3_80 z2_80 z1_80 z0_80 h80 =>
 oB (bSub z19_80 z20_80) fun x177_81 =>
 oB (bLt z20_80 z2_80) fun x180_82 =>
 oB (gq x180_82 true (some z2_80)) fun x182_83 =>
 oB (gq x180_82 true (some x177_81)) fun x183_84 =>
 oB (gq x180_82 true (bLt x182_83 x183_84)) fun x184_85 =>
 oB (oPick x180_82 x184_85 (.bool false)) fun x185_86 =>
 jnF 7 (fun z24_87 z20_87 z18_87 z4_87 z3_87 z1_87 z0_87 h87 =>
 oB (bLt z1_87 z20_87) fun x194_88 =>
 oB (gq x194_88 true (some z20_87)) fun x196_89 =>
 oB (gq x194_88 true (some z18_87)) fun x197_90 =>
 oB (gq x194_88 true (bLt x196_89 x197_90)) fun x198_91 =>
 oB (oPick x194_88 x198_91 (.bool false)) fun x199_92 =>
 jnF 5 (fun z24_93 z18_93 z4_93 z3_93 z0_93 h93 =>
 oB (bLt z18_93 z24_93) fun x208_94 =>
 oB (gq x208_94 true (some z24_93)) fun x210_95 =>
 oB (gq x208_94 true (some z3_93)) fun x211_96 =>
 oB (gq x208_94 true (bLt x210_95 x211_96)) fun x212_97 =>
 oB (oPick x208_94 x212_97 (.bool false)) fun x213_98 =>
 jnF 0 (fun h99 =>
 some (.tup [], h99)) fun j99 =>
 ci x213_98 (
 oP (call n_slices_symMergeCmpFunc_api_Edit [z0_93, z18_93, z24_93, z3_93, z4_93] h93) fun x219_100 h100 =>
 j99 h100) (
 j99 h93)) fun j93 =>
 ci x199_92 (
 oP (call n_slices_symMergeCmpFunc_api_Edit [z0_87, z1_87, z20_87, z18_87, z4_87] h87) fun x205_101 h101 =>
 j93 z24_87 z18_87 z4_87 z3_87 z0_87 h101) (
 j93 z24_87 z18_87 z4_87 z3_87 z0_87 h87)) fun j87 =>
 ci x185_86 (
 oP (call n_slices_rotateCmpFunc_api_Edit [z0_80, z20_80, z2_80, x177_81, z4_80] h80) fun x191_102 h102 =>
 j87 x177_81 z20_80 z18_80 z4_80 z3_80 z1_80 z0_80 h102) (
 j87 x177_81 z20_80 z18_80 z4_80 z3_80 z1_80 z0_80 h80)) fun j80 =>
 lpF 10 n (fun f103 y22_103 y21_103 y20_103 y19_103 y18_103 y4_103 y3_103 y2_103 y1_103 y0_103 h103 =>
 oB (bLt y20_103 y21_103) fun x151_104 =>
 ci x151_104 (
 jnF 10 (fun z22_105 z21_105 z20_105 z19_105 z18_105 z4_105 z3_105 z2_105 z1_105 z0_105 h105 =>
 f103 z22_105 z21_105 z20_105 z19_105 z18_105 z4_105 z3_105 z2_105 z1_105 z0_105 h105) fun j105 =>
 oB (bAdd y20_103 y21_103) fun x154_106 =>
 oB (oInt .u64 x154_106) fun x155_107 =>
 oB (binAV .shr .no x155_107 (.int .u64 1)) fun x156_108 =>
 oB (oInt .i64 x156_108) fun x157_109 =>
 oB' (nx 14 h103) fun h110 =>
 oB (bSub y22_103 x157_109) fun x162_111 =>
 oB (oIx 3 y0_103 x162_111) fun x163_112 =>
 oB (oLdN 3 h110 x163_112) fun x164_113 =>
 oB (oIx 3 y0_103 x157_109) fun x167_114 =>
 oB (oLdN 3 h110 x167_114) fun x168_115 =>
 oP (wOf (.callV (.c y4_103) [(.c x164_113), (.c x168_115)]) call .e h110) fun x169_116 h116 =>
 oB (bLt x169_116 (I 0)) fun x170_117 =>
 oB (evQ (.un .not (.c x170_117)) .e h116) fun x171_118 =>
 jnF 10 (fun z22_119 z21_119 z20_119 z19_119 z18_119 z4_119 z3_119 z2_119 z1_119 z0_119 h119 =>
 j105 z22_119 z21_119 z20_119 z19_119 z18_119 z4_119 z3_119 z2_119 z1_119 z0_119 h119) fun j119 =>
 ci x171_118 (
 oB (bAdd x157_109 (I 1)) fun x173_120 =>
 j119 y22_103 y21_103 x173_120 y19_103 y18_103 y4_103 y3_103 y2_103 y1_103 y0_103 h116) (
 j119 y22_103 x157_109 y20_103 y19_103 y18_103 y4_103 y3_103 y2_103 y1_103 y0_103 h116)) (
 j80 y20_103 y19_103 y18_103 y4_103 y3_103 y2_103 y1_103 y0_103 h103)) x148_79 z21_78 z20_78 z19_78 z18_78 z4_78 z3_78 z2_78 z1_78 z0_78 h78) fun j78 =>
 ci x140_77 (
 oB (bSub x137_76 x3) fun x143_121 =>
 j78 x134_75 x143_121 x137_76 x134_75 x4 x3 x2 x1 x0 h) (
 j78 x2 x1 x137_76 x134_75 x4 x3 x2 x1 x0 h)))
theorem o_slices_symMergeCmpFunc_api_Edit : FnOK Tryz.prog n_slices_symMergeCmpFunc_api_Edit (a5 f_slices_symMergeCmpFunc_api_Edit) := ok5 mixed Tryz.func352 (by kernel_rfl)
end Go.Proofs.YtmlhpcflphlgdaaGreatDoor
