/- Functions, as they run. PRINTED by a program of this repo. -/
import Derived.Test.YtahpoedbdhhdfaaGreatDoorN
import Derived.Test.YtahpoedbdhhdfaaGreatDoorM
set_option linter.unusedVariables false
set_option maxRecDepth 100000
namespace Go.Proofs.YtahpoedbdhhdfaaGreatDoor
open Go.Ev
/- strings.Index -/
noncomputable def f_strings_Index (n : Nat) (call : Caller)  (x0 x1 : AV) (h : AH) : Ans :=
 oP (call n_internal_stringslite_Index [x0, x1] h) fun x7_0 h0 =>
 some (x7_0, h0)
theorem o_strings_Index : FnOK Tryz.prog n_strings_Index (a2 f_strings_Index) := ok2 mixed Tryz.func273 (by kernel_rfl)
/- corrector/block.between -/
noncomputable def f_block_between (n : Nat) (call : Caller)  (x0 x1 x2 : AV) (h : AH) : Ans :=
 jnF 1 (fun z2_0 h0 =>
 oP (call n_strings_Repeat [(.str [10]), z2_0] h0) fun x22_1 h1 =>
 some (x22_1, h1)) fun j0 =>
 jnF 0 (fun h2 =>
 some ((.str [32]), h2)) fun j2 =>
 jnF 1 (fun z2_3 h3 =>
 oB (bAdd z2_3 (I 1)) fun x19_4 =>
 oP (call n_strings_Repeat [(.str [10]), x19_4] h3) fun x20_5 h5 =>
 some (x20_5, h5)) fun j3 =>
 jnF 1 (fun z2_6 h6 =>
 j3 z2_6 h6) fun j6 =>
 oB (oIxS x0 (I 0)) fun x9_7 =>
 oP (call n_chars_Blank [x9_7] h) fun x10_8 h8 =>
 ci x10_8 (
 j6 x2 h8) (
 oB (oIxS x1 (I 0)) fun x13_9 =>
 oP (call n_chars_Blank [x13_9] h8) fun x14_10 h10 =>
 ci x14_10 (
 j3 x2 h10) (
 oB (bEq .no x2 (I 0)) fun x17_11 =>
 ci x17_11 (
 j2 h10) (
 j0 x2 h10)))
theorem o_block_between : FnOK Tryz.prog n_block_between (a3 f_block_between) := ok3 mixed Tryz.func274 (by kernel_rfl)
/- corrector/resolve.sign -/
noncomputable def f_resolve_sign (n : Nat) (call : Caller)  (x0 : AV) (h : AH) : Ans :=
 oP (call n_strings_CutPrefix [x0, (.str [45])] h) fun x8_0 h0 =>
 oB (oEx 0 x8_0) fun x9_1 =>
 oB (oEx 1 x8_0) fun x10_2 =>
 ci x10_2 (
 some (.tup [x9_1, (.bool true)], h0)) (
 oP (call n_strings_TrimPrefix [x0, (.str [43])] h0) fun x14_3 h3 =>
 some (.tup [x14_3, (.bool false)], h3))
theorem o_resolve_sign : FnOK Tryz.prog n_resolve_sign (a1 f_resolve_sign) := ok1 mixed Tryz.func275 (by kernel_rfl)
/- corrector/resolve.number -/
noncomputable def f_resolve_number (n : Nat) (call : Caller)  (x0 x1 : AV) (h : AH) : Ans :=
 oP (evW (.rangeS (.c x0)) .e h) fun x11_0 h0 =>
 jnF 2 (fun z6_1 z0_1 h1 =>
 oB (bNe .no z0_1 (.str [])) fun x39_2 =>
 some (.tup [z6_1, x39_2], h1)) fun j1 =>
 lpF 4 n (fun f3 y11_3 y6_3 y1_3 y0_3 h3 =>
 oP (evW (.nextS (.c y11_3)) .e h3) fun x12_4 h4 =>
 oB (oEx 0 x12_4) fun x13_5 =>
 ci x13_5 (
 jnF 4 (fun z11_6 z6_6 z1_6 z0_6 h6 =>
 f3 z11_6 z6_6 z1_6 z0_6 h6) fun j6 =>
 oB (oEx 2 x12_4) fun x14_7 =>
 oP (call n_resolve_value [x14_7, y1_3] h4) fun x17_8 h8 =>
 oB (bLt x17_8 (I 0)) fun x19_9 =>
 oB (gq x19_9 false (some y6_3)) fun x21_10 =>
 oB (gq x19_9 false (some x17_8)) fun x22_11 =>
 oB (gq x19_9 false (oInt .u64 x22_11)) fun x23_12 =>
 oB (gq x19_9 false (bSub (.int .u64 9223372036854775808) x23_12)) fun x24_13 =>
 oB (gq x19_9 false (some y1_3)) fun x25_14 =>
 oB (gq x19_9 false (oInt .u64 x25_14)) fun x26_15 =>
 oB (gq x19_9 false (binAV .quo .no x24_13 x26_15)) fun x27_16 =>
 oB (gq x19_9 false (bGt x21_10 x27_16)) fun x28_17 =>
 oB (oPick x19_9 (.bool true) x28_17) fun x29_18 =>
 ci x29_18 (
 some (.tup [(.int .u64 0), (.bool false)], h8)) (
 oB (oInt .u64 y1_3) fun x32_19 =>
 oB (binAV .mul .no y6_3 x32_19) fun x33_20 =>
 oB (oInt .u64 x17_8) fun x35_21 =>
 oB (bAdd x33_20 x35_21) fun x36_22 =>
 j6 y11_3 x36_22 y1_3 y0_3 h8)) (
 j1 y6_3 y0_3 h4)) x11_0 (.int .u64 0) x1 x0 h0
theorem o_resolve_number : FnOK Tryz.prog n_resolve_number (a2 f_resolve_number) := ok2 mixed Tryz.func276 (by kernel_rfl)
/- corrector/resolve.digits -/
noncomputable def f_resolve_digits (n : Nat) (call : Caller)  (x0 : AV) (h : AH) : Ans :=
 oP (evW (.rangeS (.c x0)) .e h) fun x6_0 h0 =>
 jnF 1 (fun z0_1 h1 =>
 oB (oLenS z0_1) fun x19_2 =>
 some (x19_2, h1)) fun j1 =>
 lpF 2 n (fun f3 y6_3 y0_3 h3 =>
 oP (evW (.nextS (.c y6_3)) .e h3) fun x7_4 h4 =>
 oB (oEx 0 x7_4) fun x8_5 =>
 ci x8_5 (
 jnF 2 (fun z6_6 z0_6 h6 =>
 f3 z6_6 z0_6 h6) fun j6 =>
 oB (oEx 1 x7_4) fun x9_7 =>
 oB (oEx 2 x7_4) fun x10_8 =>
 oB (bLt x10_8 (R 48)) fun x12_9 =>
 oB (gq x12_9 false (some x10_8)) fun x14_10 =>
 oB (gq x12_9 false (bGt x14_10 (R 57))) fun x15_11 =>
 oB (oPick x12_9 (.bool true) x15_11) fun x16_12 =>
 ci x16_12 (
 some (x9_7, h4)) (
 j6 y6_3 y0_3 h4)) (
 j1 y0_3 h4)) x6_0 x0 h0
theorem o_resolve_digits : FnOK Tryz.prog n_resolve_digits (a1 f_resolve_digits) := ok1 mixed Tryz.func277 (by kernel_rfl)
/- strings.CutPrefix -/
noncomputable def f_strings_CutPrefix (n : Nat) (call : Caller)  (x0 x1 : AV) (h : AH) : Ans :=
 oP (call n_internal_stringslite_CutPrefix [x0, x1] h) fun x8_0 h0 =>
 oB (oEx 0 x8_0) fun x9_1 =>
 oB (oEx 1 x8_0) fun x10_2 =>
 some (.tup [x9_1, x10_2], h0)
theorem o_strings_CutPrefix : FnOK Tryz.prog n_strings_CutPrefix (a2 f_strings_CutPrefix) := ok2 mixed Tryz.func278 (by kernel_rfl)
/- internal/strconv.FormatInt -/
noncomputable def f_internal_strconv_FormatInt (n : Nat) (call : Caller)  (x0 x1 : AV) (h : AH) : Ans :=
 oB (bEq .no x1 (I 10)) fun x11_0 =>
 ci x11_0 (
 oB (bLe (I 0) x0) fun x13_1 =>
 oB (gq x13_1 true (some x0)) fun x15_2 =>
 oB (gq x13_1 true (bLt x15_2 (I 100))) fun x16_3 =>
 oB (oPick x13_1 x16_3 (.bool false)) fun x17_4 =>
 ci x17_4 (
 oP (call n_internal_strconv_small [x0] h) fun x19_5 h5 =>
 some (x19_5, h5)) (
 oP (oNew h 326 [(U 0), (U 0), (U 0), (U 0), (U 0), (U 0), (U 0), (U 0), (U 0), (U 0), (U 0), (U 0), (U 0), (U 0), (U 0), (U 0), (U 0), (U 0), (U 0), (U 0), (U 0), (U 0), (U 0), (U 0)]) fun x5_6 h6 =>
 oB (oInt .u64 x0) fun x21_7 =>
 oB (bLt x0 (I 0)) fun x23_8 =>
 jnF 3 (fun z6_9 z5_9 z0_9 h9 =>
 oP (call n_internal_strconv_numDigits [z6_9] h9) fun x27_10 h10 =>
 oB (bAdd (I 1) x27_10) fun x29_11 =>
 oB (evQ (.slArr 24 1 (.c z5_9) (some (.c (I 1))) (some (.c x29_11)) none) .e h10) fun x30_12 =>
 oP (call n_internal_strconv_formatBase10 [x30_12, z6_9] h10) fun x32_13 h13 =>
 oB (bLt z0_9 (I 0)) fun x34_14 =>
 ci x34_14 (
 oB (evQ (.idxArr 24 1 (.c z5_9) (.c (I 0))) .e h13) fun x35_15 =>
 oP (oSt 1 h13 x35_15 (U 45)) fun _ h16 =>
 oB (bAdd (I 1) x27_10) fun x37_17 =>
 oB (evQ (.slArr 24 1 (.c z5_9) none (some (.c x37_17)) none) .e h16) fun x38_18 =>
 oB (evQ (.b2s (.c x38_18)) .e h16) fun x39_19 =>
 some (x39_19, h16)) (
 oB (bAdd (I 1) x27_10) fun x41_20 =>
 oB (evQ (.slArr 24 1 (.c z5_9) (some (.c (I 1))) (some (.c x41_20)) none) .e h13) fun x42_21 =>
 oB (evQ (.b2s (.c x42_21)) .e h13) fun x43_22 =>
 some (x43_22, h13))) fun j9 =>
 ci x23_8 (
 oB (evQ (.un .neg (.c x21_7)) .e h6) fun x25_23 =>
 j9 x25_23 x5_6 x0 h6) (
 j9 x21_7 x5_6 x0 h6))) (
 oB (oInt .u64 x0) fun x46_24 =>
 oB (bLt x0 (I 0)) fun x49_25 =>
 oP (call n_internal_strconv_formatBits [.nils, x46_24, x1, x49_25, (.bool false)] h) fun x50_26 h26 =>
 oB (oEx 0 x50_26) fun x51_27 =>
 oB (oEx 1 x50_26) fun x52_28 =>
 some (x52_28, h26))
theorem o_internal_strconv_FormatInt : FnOK Tryz.prog n_internal_strconv_FormatInt (a2 f_internal_strconv_FormatInt) := ok2 mixed Tryz.func279 (by kernel_rfl)
/- strconv.appendQuotedWith -/
noncomputable def f_strconv_appendQuotedWith (n : Nat) (call : Caller)  (x0 x1 x2 x3 x4 : AV) (h : AH) : Ans :=
 oB (evQ (.capSl (.c x0)) .e h) fun x15_0 =>
 oB (oLen x0) fun x17_1 =>
 oB (bSub x15_0 x17_1) fun x18_2 =>
 oB (oLenS x1) fun x20_3 =>
 oB (bLt x18_2 x20_3) fun x21_4 =>
 jnF 5 (fun z4_5 z3_5 z2_5 z1_5 z0_5 h5 =>
 oP (oBuildSl h5 5 1 1 [(U 0)] [(0, 1, z2_5)]) fun x38_6 h6 =>
 oP (evW (.append 5 1 1 [(U 0)] (.c z0_5) (.c x38_6)) .e h6) fun x39_7 h7 =>
 jnF 2 (fun z2_8 z0_8 h8 =>
 oP (oBuildSl h8 5 1 1 [(U 0)] [(0, 1, z2_8)]) fun x81_9 h9 =>
 oP (evW (.append 5 1 1 [(U 0)] (.c z0_8) (.c x81_9)) .e h9) fun x82_10 h10 =>
 some (x82_10, h10)) fun j8 =>
 lpF 5 n (fun f11 y4_11 y3_11 y2_11 y1_11 y0_11 h11 =>
 oB (oLenS y1_11) fun x41_12 =>
 oB (bGt x41_12 (I 0)) fun x42_13 =>
 ci x42_13 (
 jnF 6 (fun z13_14 z4_14 z3_14 z2_14 z1_14 z0_14 h14 =>
 oB (oSlS z1_14 (some z13_14) none) fun x45_15 =>
 f11 z4_14 z3_14 z2_14 x45_15 z0_14 h14) fun j14 =>
 oP (call n_unicode_utf8_DecodeRuneInString [y1_11] h11) fun x48_16 h16 =>
 oB (oEx 0 x48_16) fun x49_17 =>
 oB (oEx 1 x48_16) fun x50_18 =>
 oB (bEq .no x50_18 (I 1)) fun x52_19 =>
 oB (gq x52_19 true (some x49_17)) fun x54_20 =>
 oB (gq x52_19 true (bEq .no x54_20 (R 65533))) fun x55_21 =>
 oB (oPick x52_19 x55_21 (.bool false)) fun x56_22 =>
 ci x56_22 (
 oP (evW (.append 5 1 1 [(U 0)] (.c y0_11) (.c (.str [92, 120]))) .e h16) fun x58_23 h23 =>
 oB (oIxS y1_11 (I 0)) fun x61_24 =>
 oB (binAV .shr .no x61_24 (.int .u64 4)) fun x62_25 =>
 oB (oIxS (.str [48, 49, 50, 51, 52, 53, 54, 55, 56, 57, 97, 98, 99, 100, 101, 102]) x62_25) fun x63_26 =>
 oP (oBuildSl h23 5 1 1 [(U 0)] [(0, 1, x63_26)]) fun x64_27 h27 =>
 oP (evW (.append 5 1 1 [(U 0)] (.c x58_23) (.c x64_27)) .e h27) fun x65_28 h28 =>
 oB (oIxS y1_11 (I 0)) fun x68_29 =>
 oB (binAV .and .no x68_29 (U 15)) fun x69_30 =>
 oB (oIxS (.str [48, 49, 50, 51, 52, 53, 54, 55, 56, 57, 97, 98, 99, 100, 101, 102]) x69_30) fun x70_31 =>
 oP (oBuildSl h28 5 1 1 [(U 0)] [(0, 1, x70_31)]) fun x71_32 h32 =>
 oP (evW (.append 5 1 1 [(U 0)] (.c x65_28) (.c x71_32)) .e h32) fun x72_33 h33 =>
 j14 x50_18 y4_11 y3_11 y2_11 y1_11 x72_33 h33) (
 oP (call n_strconv_appendEscapedRune [y0_11, x49_17, y2_11, y3_11, y4_11] h16) fun x78_34 h34 =>
 j14 x50_18 y4_11 y3_11 y2_11 y1_11 x78_34 h34)) (
 j8 y2_11 y0_11 h11)) z4_5 z3_5 z2_5 z1_5 x39_7 h7) fun j5 =>
 ci x21_4 (
 oB (oLen x0) fun x23_35 =>
 oB (oLen x0) fun x25_36 =>
 oB (bAdd x25_36 (I 1)) fun x26_37 =>
 oB (oLenS x1) fun x28_38 =>
 oB (bAdd x26_37 x28_38) fun x29_39 =>
 oB (bAdd x29_39 (I 1)) fun x30_40 =>
 oP (evW (.mkSlice 5 1 1 [(U 0)] (.c x23_35) (.c x30_40)) .e h) fun x31_41 h41 =>
 oP (evW (.copy 1 (.c x31_41) (.c x0)) .e h41) fun x34_42 h42 =>
 j5 x4 x3 x2 x1 x31_41 h42) (
 j5 x4 x3 x2 x1 x0 h)
theorem o_strconv_appendQuotedWith : FnOK Tryz.prog n_strconv_appendQuotedWith (a5 f_strconv_appendQuotedWith) := ok5 mixed Tryz.func280 (by kernel_rfl)
/- slices.order2Ordered[int] -/
noncomputable def f_slices_order2Ordered_int (n : Nat) (call : Caller)  (x0 x1 x2 x3 : AV) (h : AH) : Ans :=
 oB' (nx 9 h) fun h0 =>
 oB (oIx 1 x0 x2) fun x12_1 =>
 oB (oLd h0 x12_1) fun x13_2 =>
 oB (oIx 1 x0 x1) fun x16_3 =>
 oB (oLd h0 x16_3) fun x17_4 =>
 oP (call n_cmp_Less_int [x13_2, x17_4] h0) fun x18_5 h5 =>
 ci x18_5 (
 oB (oNil x3) fun x20_6 =>
 oB (oLd h5 x20_6) fun x21_7 =>
 oB (bAdd x21_7 (I 1)) fun x22_8 =>
 oB (oNil x3) fun x23_9 =>
 oP (oSt 1 h5 x23_9 x22_8) fun _ h10 =>
 some (.tup [x2, x1], h10)) (
 some (.tup [x1, x2], h5))
theorem o_slices_order2Ordered_int : FnOK Tryz.prog n_slices_order2Ordered_int (a4 f_slices_order2Ordered_int) := ok4 mixed Tryz.func281 (by kernel_rfl)
/- corrector/flow.counts -/
noncomputable def f_flow_counts (n : Nat) (call : Caller)  (x0 : AV) (h : AH) : Ans :=
 jnF 0 (fun h0 =>
 some ((.bool true), h0)) fun j0 =>
 oB (bEq .no x0 (I 1)) fun x5_1 =>
 jnF 1 (fun z4_2 h2 =>
 ci z4_2 (
 some ((.bool false), h2)) (
 j0 h2)) fun j2 =>
 ci x5_1 (
 j2 x5_1 h) (
 oB (bEq .no x0 (I 2)) fun x6_3 =>
 jnF 1 (fun z4_4 h4 =>
 j2 z4_4 h4) fun j4 =>
 ci x6_3 (
 j4 x6_3 h) (
 oB (bEq .no x0 (I 3)) fun x7_5 =>
 jnF 1 (fun z4_6 h6 =>
 j4 z4_6 h6) fun j6 =>
 ci x7_5 (
 j6 x7_5 h) (
 oB (bEq .no x0 (I 4)) fun x8_7 =>
 j6 x8_7 h)))
theorem o_flow_counts : FnOK Tryz.prog n_flow_counts (a1 f_flow_counts) := ok1 mixed Tryz.func282 (by kernel_rfl)
/- corrector/flow.ends -/
noncomputable def f_flow_ends (n : Nat) (call : Caller)  (x0 : AV) (h : AH) : Ans :=
 oB (bEq .no x0 (I 10)) fun x4_0 =>
 oB (gq x4_0 false (some x0)) fun x6_1 =>
 oB (gq x4_0 false (bEq .no x6_1 (I 11))) fun x7_2 =>
 oB (oPick x4_0 (.bool true) x7_2) fun x8_3 =>
 some (x8_3, h)
theorem o_flow_ends : FnOK Tryz.prog n_flow_ends (a1 f_flow_ends) := ok1 mixed Tryz.func283 (by kernel_rfl)
/- corrector/flow.mark -/
noncomputable def f_flow_mark (n : Nat) (call : Caller)  (x0 : AV) (h : AH) : Ans :=
 oB (bEq .no x0 (I 20)) fun x4_0 =>
 oB (gq x4_0 false (some x0)) fun x6_1 =>
 oB (gq x4_0 false (bEq .no x6_1 (I 21))) fun x7_2 =>
 oB (oPick x4_0 (.bool true) x7_2) fun x8_3 =>
 some (x8_3, h)
theorem o_flow_mark : FnOK Tryz.prog n_flow_mark (a1 f_flow_mark) := ok1 mixed Tryz.func284 (by kernel_rfl)
/- (*corrector/flow.reader).over -/
noncomputable def f_flow_reader_over (n : Nat) (call : Caller)  (x0 x1 x2 : AV) (h : AH) : Ans :=
 jnF 1 (fun z2_0 h0 =>
 some (z2_0, h0)) fun j0 =>
 lpF 3 n (fun f1 y2_1 y1_1 y0_1 h1 =>
 oB (bGt y2_1 y1_1) fun x9_2 =>
 oB (gq x9_2 true (some y0_1)) fun x11_3 =>
 oB (gq x9_2 true (oNil x11_3)) fun x12_4 =>
 oB (gq x9_2 true (oFA 0 x12_4)) fun x13_5 =>
 oB (gq x9_2 true (oLd h1 x13_5)) fun x14_6 =>
 oB (gq x9_2 true (some y2_1)) fun x15_7 =>
 oB (gq x9_2 true (bSub x15_7 (I 1))) fun x16_8 =>
 oB (gq x9_2 true (oIx 3 x14_6 x16_8)) fun x17_9 =>
 oB (gq x9_2 true (oFA 0 x17_9)) fun x18_10 =>
 oB (gq x9_2 true (oLd h1 x18_10)) fun x19_11 =>
 oP (gw x9_2 true (call n_flow_counts [x19_11] h1) h1) fun x20_12 h12 =>
 oB (gq x9_2 true (evQ (.un .not (.c x20_12)) .e h12)) fun x21_13 =>
 oB (oPick x9_2 x21_13 (.bool false)) fun x22_14 =>
 ci x22_14 (
 jnF 3 (fun z2_15 z1_15 z0_15 h15 =>
 f1 z2_15 z1_15 z0_15 h15) fun j15 =>
 oB (bSub y2_1 (I 1)) fun x24_16 =>
 j15 x24_16 y1_1 y0_1 h12) (
 j0 y2_1 h12)) x2 x1 x0 h
theorem o_flow_reader_over : FnOK Tryz.prog n_flow_reader_over (a3 f_flow_reader_over) := ok3 mixed Tryz.func285 (by kernel_rfl)
/- (*corrector/flow.reader).tell -/
noncomputable def f_flow_reader_tell (n : Nat) (call : Caller)  (x0 x1 x2 x3 : AV) (h : AH) : Ans :=
 oB' (nx 29 h) fun h0 =>
 oB (oNil x0) fun x10_1 =>
 oB (oFA 3 x10_1) fun x11_2 =>
 oB (oLd h0 x11_2) fun x12_3 =>
 oB (oNil x0) fun x15_4 =>
 oB (oFA 0 x15_4) fun x16_5 =>
 oB (oLd h0 x16_5) fun x17_6 =>
 oB (oIx 3 x17_6 x2) fun x19_7 =>
 oB (oFA 1 x19_7) fun x20_8 =>
 oB (oLd h0 x20_8) fun x21_9 =>
 oB (oNil x0) fun x23_10 =>
 oB (oFA 0 x23_10) fun x24_11 =>
 oB (oLd h0 x24_11) fun x25_12 =>
 oB (bSub x3 (I 1)) fun x27_13 =>
 oB (oIx 3 x25_12 x27_13) fun x28_14 =>
 oB (oFA 2 x28_14) fun x29_15 =>
 oB (oLd h0 x29_15) fun x30_16 =>
 oB (oBuild [(I 0), (I 0), (I 0)] [(0, 1, x1), (1, 1, x21_9), (2, 1, x30_16)]) fun x31_17 =>
 fl1 true (evF (.buildSlice 67 3 1 [(I 0), (I 0), (I 0)] [(0, 3, (.c x31_17))]) .e) (Nat.add h.next 24) fun x32_18 o18 =>
 oB' (lay1 (Nat.add h.next 24) o18 h0) fun v19 =>
 oP (evW (.append 67 3 24 [(I 0), (I 0), (I 0)] (.c x12_3) (.c x32_18)) .e v19) fun x33_20 h20 =>
 oB (oNil x0) fun x34_21 =>
 oB (oFA 3 x34_21) fun x35_22 =>
 oP (oSt 1 h20 x35_22 x33_20) fun x0_23 h23 =>
 ask1 true (oLd h0 x11_2) x12_3 (
 ask1 true (oLd h0 x16_5) x17_6 (
 ask1 true (oLd h0 x20_8) x21_9 (
 ask1 true (oLd h0 x24_11) x25_12 (
 ask1 true (oLd h0 x29_15) x30_16 (
 some (.tup [], h23))))))
theorem o_flow_reader_tell : FnOK Tryz.prog n_flow_reader_tell (a4 f_flow_reader_tell) := ok4 mixed Tryz.func286 (by kernel_rfl)
/- (*corrector/flow.reader).past -/
noncomputable def f_flow_reader_past (n : Nat) (call : Caller)  (x0 x1 : AV) (h : AH) : Ans :=
 oP (call n_flow_reader_kind [x0, x1] h) fun x8_0 h0 =>
 jnF 1 (fun z1_1 h1 =>
 some (z1_1, h1)) fun j1 =>
 lpF 3 n (fun f2 y5_2 y1_2 y0_2 h2 =>
 oB (bNe .no y5_2 (I 0)) fun x10_3 =>
 oB (gq x10_3 true (some y5_2)) fun x12_4 =>
 oP (gw x10_3 true (call n_flow_counts [x12_4] h2) h2) fun x13_5 h5 =>
 oB (gq x10_3 true (evQ (.un .not (.c x13_5)) .e h5)) fun x14_6 =>
 oB (oPick x10_3 x14_6 (.bool false)) fun x15_7 =>
 ci x15_7 (
 jnF 2 (fun z1_8 z0_8 h8 =>
 oP (call n_flow_reader_kind [z0_8, z1_8] h8) fun x18_9 h9 =>
 f2 x18_9 z1_8 z0_8 h9) fun j8 =>
 oB (bAdd y1_2 (I 1)) fun x20_10 =>
 j8 x20_10 y0_2 h5) (
 j1 y1_2 h5)) x8_0 x1 x0 h0
theorem o_flow_reader_past : FnOK Tryz.prog n_flow_reader_past (a2 f_flow_reader_past) := ok2 mixed Tryz.func287 (by kernel_rfl)
/- (*corrector/flow.reader).key -/
noncomputable def f_flow_reader_key (n : Nat) (call : Caller)  (x0 x1 : AV) (h : AH) : Ans :=
 jnF 2 (fun z5_0 z0_0 h0 =>
 oP (call n_flow_reader_kind [z0_0, z5_0] h0) fun x17_1 h1 =>
 oP (call n_flow_name [x17_1] h1) fun x18_2 h2 =>
 jnF 2 (fun z5_3 z0_3 h3 =>
 oP (call n_flow_reader_kind [z0_3, z5_3] h3) fun x25_4 h4 =>
 oB (bEq .no x25_4 (I 6)) fun x26_5 =>
 ci x26_5 (
 some (z5_3, h4)) (
 some ((Ineg 0), h4))) fun j3 =>
 ci x18_2 (
 oB (bAdd z5_0 (I 1)) fun x21_6 =>
 oP (call n_flow_reader_past [z0_0, x21_6] h2) fun x22_7 h7 =>
 j3 x22_7 z0_0 h7) (
 j3 z5_0 z0_0 h2)) fun j0 =>
 lpF 2 n (fun f8 y5_8 y0_8 h8 =>
 oP (call n_flow_reader_kind [y0_8, y5_8] h8) fun x9_9 h9 =>
 oP (call n_flow_property [x9_9] h9) fun x10_10 h10 =>
 ci x10_10 (
 jnF 2 (fun z5_11 z0_11 h11 =>
 f8 z5_11 z0_11 h11) fun j11 =>
 oB (bAdd y5_8 (I 1)) fun x13_12 =>
 oP (call n_flow_reader_past [y0_8, x13_12] h10) fun x14_13 h13 =>
 j11 x14_13 y0_8 h13) (
 j0 y5_8 y0_8 h10)) x1 x0 h
theorem o_flow_reader_key : FnOK Tryz.prog n_flow_reader_key (a2 f_flow_reader_key) := ok2 mixed Tryz.func288 (by kernel_rfl)
/- (*corrector/flow.reader).stray -/
noncomputable def f_flow_reader_stray (n : Nat) (call : Caller)  (x0 x1 : AV) (h : AH) : Ans :=
 jnF 3 (fun z6_0 z1_0 z0_0 h0 =>
 oP (call n_flow_reader_over [z0_0, z1_0, z6_0] h0) fun x48_1 h1 =>
 some (x48_1, h1)) fun j0 =>
 lpF 4 n (fun f2 y6_2 y5_2 y1_2 y0_2 h2 =>
 oB (oNil y0_2) fun x11_3 =>
 oB (oFA 1 x11_3) fun x12_4 =>
 oB (oLd h2 x12_4) fun x13_5 =>
 oB (bLt y6_2 x13_5) fun x14_6 =>
 oB (gq x14_6 true (some y0_2)) fun x16_7 =>
 oB (gq x14_6 true (some y6_2)) fun x17_8 =>
 oP (gw x14_6 true (call n_flow_reader_kind [x16_7, x17_8] h2) h2) fun x18_9 h9 =>
 oP (gw x14_6 true (call n_flow_mark [x18_9] h9) h9) fun x19_10 h10 =>
 oB (gq x14_6 true (evQ (.un .not (.c x19_10)) .e h10)) fun x20_11 =>
 oB (oPick x14_6 x20_11 (.bool false)) fun x21_12 =>
 ci x21_12 (
 jnF 4 (fun z6_13 z5_13 z1_13 z0_13 h13 =>
 oB (bAdd z6_13 (I 1)) fun x23_14 =>
 f2 x23_14 z5_13 z1_13 z0_13 h13) fun j13 =>
 oP (call n_flow_reader_kind [y0_2, y6_2] h10) fun x26_15 h15 =>
 oB (bEq .no y5_2 (I 0)) fun x28_16 =>
 oB (gq x28_16 true (some x26_15)) fun x30_17 =>
 oB (gq x28_16 true (bEq .no x30_17 (I 7))) fun x31_18 =>
 oB (gq x28_16 true (some x31_18)) fun x32_19 =>
 oB (gq x32_19 false (some x26_15)) fun x33_20 =>
 oP (gw x32_19 false (call n_flow_ends [x33_20] h15) h15) fun x34_21 h21 =>
 oB (gq x28_16 true (oPick x32_19 (.bool true) x34_21)) fun x35_22 =>
 oB (oPick x28_16 x35_22 (.bool false)) fun x36_23 =>
 ci x36_23 (
 j0 y6_2 y1_2 y0_2 h21) (
 oP (call n_flow_opens [x26_15] h21) fun x38_24 h24 =>
 jnF 5 (fun z7_25 z6_25 z5_25 z1_25 z0_25 h25 =>
 oP (call n_flow_ends [z7_25] h25) fun x42_26 h26 =>
 jnF 4 (fun z6_27 z5_27 z1_27 z0_27 h27 =>
 j13 z6_27 z5_27 z1_27 z0_27 h27) fun j27 =>
 ci x42_26 (
 oB (bSub z5_25 (I 1)) fun x44_28 =>
 j27 z6_25 x44_28 z1_25 z0_25 h26) (
 j27 z6_25 z5_25 z1_25 z0_25 h26)) fun j25 =>
 ci x38_24 (
 oB (bAdd y5_2 (I 1)) fun x40_29 =>
 j25 x26_15 y6_2 x40_29 y1_2 y0_2 h24) (
 j25 x26_15 y6_2 y5_2 y1_2 y0_2 h24))) (
 j0 y6_2 y1_2 y0_2 h10)) x1 (I 0) x1 x0 h
theorem o_flow_reader_stray : FnOK Tryz.prog n_flow_reader_stray (a2 f_flow_reader_stray) := ok2 mixed Tryz.func289 (by kernel_rfl)
/- (*corrector/flow.reader).pair -/
noncomputable def f_flow_reader_pair (n : Nat) (call : Caller)  (x0 x1 x2 x3 x4 : AV) (h : AH) : Ans :=
 oB (bAdd x3 (I 1)) fun x19_0 =>
 oP (call n_flow_reader_add [x0, x1, (I 6), x2, x19_0] h) fun x20_1 h1 =>
 oP (call n_flow_reader_scalar [x0, x20_1, x2, x3] h1) fun x25_2 h2 =>
 oB (bAdd x3 (I 1)) fun x28_3 =>
 oP (call n_flow_reader_past [x0, x28_3] h2) fun x29_4 h4 =>
 oP (call n_flow_reader_value [x0, x20_1, x29_4, x4] h4) fun x35_5 h5 =>
 oB (oEx 0 x35_5) fun x36_6 =>
 oB (oEx 1 x35_5) fun x37_7 =>
 oB (bGe x36_6 (I 0)) fun x39_8 =>
 ci x39_8 (
 some (x37_7, h5)) (
 oB (bAdd x3 (I 1)) fun x42_9 =>
 some (x42_9, h5))
theorem o_flow_reader_pair : FnOK Tryz.prog n_flow_reader_pair (a5 f_flow_reader_pair) := ok5 mixed Tryz.func290 (by kernel_rfl)
/- (*corrector/flow.reader).one -/
noncomputable def f_flow_reader_one (n : Nat) (call : Caller)  (x0 x1 x2 x3 x4 : AV) (h : AH) : Ans :=
 oB (oNil x0) fun x16_0 =>
 oB (oFA 2 x16_0) fun x17_1 =>
 oB (oLdN 1 h x17_1) fun x18_2 =>
 oP (oNew h 59 [.nils]) fun x12_3 h3 =>
 oP (oSt 1 h3 x12_3 x18_2) fun _ h4 =>
 oB (bEq .no x2 (I 10)) fun x21_5 =>
 jnF 6 (fun z13_6 z12_6 z4_6 z3_6 z1_6 z0_6 h6 =>
 oP (call n_flow_reader_value [z0_6, z13_6, z3_6, z4_6] h6) fun x40_7 h7 =>
 oB (oEx 0 x40_7) fun x41_8 =>
 oB (oEx 1 x40_7) fun x42_9 =>
 oB (bGe x41_8 (I 0)) fun x44_10 =>
 ci x44_10 (
 some (.tup [x42_9, (.bool true)], h7)) (
 oB (oLdN 1 h7 z12_6) fun x47_11 =>
 oB (oNil z0_6) fun x48_12 =>
 oB (oFA 2 x48_12) fun x49_13 =>
 oP (oSt 1 h7 x49_13 x47_11) fun _ h14 =>
 oB (bAdd z3_6 (I 1)) fun x54_15 =>
 oP (call n_flow_reader_wrong [z0_6, (I 8), z1_6, z3_6, x54_15] h14) fun x55_16 h16 =>
 oB (bAdd z3_6 (I 1)) fun x57_17 =>
 some (.tup [x57_17, (.bool false)], h16))) fun j6 =>
 ci x21_5 (
 oP (call n_flow_reader_add [x0, x1, (I 6), x3, x3] h4) fun x26_18 h18 =>
 oB (oNil x0) fun x28_19 =>
 oB (oFA 2 x28_19) fun x29_20 =>
 oB (oFA 0 x29_20) fun x30_21 =>
 oB (oLd h18 x30_21) fun x31_22 =>
 oB (oIx 6 x31_22 x26_18) fun x33_23 =>
 oB (oFA 5 x33_23) fun x34_24 =>
 oP (oSt 1 h18 x34_24 (.bool true)) fun _ h25 =>
 j6 x26_18 x12_3 x4 x3 x1 x0 h25) (
 j6 x1 x12_3 x4 x3 x1 x0 h4)
theorem o_flow_reader_one : FnOK Tryz.prog n_flow_reader_one (a5 f_flow_reader_one) := ok5 mixed Tryz.func291 (by kernel_rfl)
/- strings.IndexRune -/
noncomputable def f_strings_IndexRune (n : Nat) (call : Caller)  (x0 x1 : AV) (h : AH) : Ans :=
 jnF 1 (fun z4_0 h0 =>
 some (z4_0, h0)) fun j0 =>
 oB (bLe (R 0) x1) fun x162_1 =>
 oB (gq x162_1 true (some x1)) fun x164_2 =>
 oB (gq x162_1 true (bLt x164_2 (R 128))) fun x165_3 =>
 oB (oPick x162_1 x165_3 (.bool false)) fun x166_4 =>
 ci x166_4 (
 oB (oInt .u8 x1) fun x169_5 =>
 oP (call n_strings_IndexByte [x0, x169_5] h) fun x170_6 h6 =>
 some (x170_6, h6)) (
 oB (bEq .no x1 (R 65533)) fun x173_7 =>
 ci x173_7 (
 oP (evW (.rangeS (.c x0)) .e h) fun x175_8 h8 =>
 jnF 0 (fun h9 =>
 some ((Ineg 0), h9)) fun j9 =>
 lpF 1 n (fun f10 y175_10 h10 =>
 oP (evW (.nextS (.c y175_10)) .e h10) fun x176_11 h11 =>
 oB (oEx 0 x176_11) fun x177_12 =>
 ci x177_12 (
 jnF 1 (fun z175_13 h13 =>
 f10 z175_13 h13) fun j13 =>
 oB (oEx 1 x176_11) fun x178_14 =>
 oB (oEx 2 x176_11) fun x179_15 =>
 oB (bEq .no x179_15 (R 65533)) fun x181_16 =>
 ci x181_16 (
 some (x178_14, h11)) (
 j13 y175_10 h11)) (
 j9 h11)) x175_8 h8) (
 oP (call n_unicode_utf8_ValidRune [x1] h) fun x185_17 h17 =>
 oB (evQ (.un .not (.c x185_17)) .e h17) fun x186_18 =>
 ci x186_18 (
 some ((Ineg 0), h17)) (
 scF n fun m19 => jnF 5 (lpF 5 m19 fun f19 y9_19 y8_19 y7_19 y1_19 y0_19 h19 =>
 jnF 0 (fun h20 =>
 some ((Ineg 0), h20)) fun j20 =>
 ci (.bool true) (
 oB (bSub y9_19 y8_19) fun x102_21 =>
 oB (oSlS y0_19 (some x102_21) none) fun x103_22 =>
 oB (evQ (.toStr (.c y1_19)) .e h19) fun x105_23 =>
 oB (evQ (.bad) .e h19) fun x106_24 =>
 oB (bGe x106_24 (I 0)) fun x108_25 =>
 ci x108_25 (
 oB (bAdd y9_19 x106_24) fun x111_26 =>
 oB (bSub x111_26 y8_19) fun x113_27 =>
 some (x113_27, h19)) (
 j20 h19)) (
 scF n fun m28 => jnF 6 (lpF 6 m28 fun f28 y15_28 y14_28 y9_28 y8_28 y7_28 y0_28 h28 =>
 jnF 0 (fun h29 =>
 j20 h29) fun j29 =>
 lpF 6 n (fun f30 y15_30 y14_30 y9_30 y8_30 y7_30 y0_30 h30 =>
 oB (oLenS y0_30) fun x123_31 =>
 oB (bLt y9_30 x123_31) fun x124_32 =>
 ci x124_32 (
 jnF 6 (fun z15_33 z14_33 z9_33 z8_33 z7_33 z0_33 h33 =>
 oB (bAdd z9_33 (I 1)) fun x126_34 =>
 f30 z15_33 z14_33 x126_34 z8_33 z7_33 z0_33 h33) fun j33 =>
 oB (oIxS y0_30 y9_30) fun x129_35 =>
 oB (bEq .no x129_35 y14_30) fun x131_36 =>
 oB (gq x131_36 true (some y0_30)) fun x133_37 =>
 oB (gq x131_36 true (some y9_30)) fun x134_38 =>
 oB (gq x131_36 true (bSub x134_38 (I 1))) fun x135_39 =>
 oB (gq x131_36 true (oIxS x133_37 x135_39)) fun x136_40 =>
 oB (gq x131_36 true (some y15_30)) fun x137_41 =>
 oB (gq x131_36 true (bEq .no x136_40 x137_41)) fun x138_42 =>
 oB (oPick x131_36 x138_42 (.bool false)) fun x139_43 =>
 ci x139_43 (
 jnF 2 (fun z9_44 z8_44 h44 =>
 oB (bSub z9_44 z8_44) fun x159_45 =>
 some (x159_45, h44)) fun j44 =>
 lpF 7 n (fun f46 y16_46 y15_46 y14_46 y9_46 y8_46 y7_46 y0_46 h46 =>
 oB (oLenS y7_46) fun x142_47 =>
 oB (bLt y16_46 x142_47) fun x143_48 =>
 ci x143_48 (
 jnF 7 (fun z16_49 z15_49 z14_49 z9_49 z8_49 z7_49 z0_49 h49 =>
 oB (bAdd z16_49 (I 1)) fun x145_50 =>
 f46 x145_50 z15_49 z14_49 z9_49 z8_49 z7_49 z0_49 h49) fun j49 =>
 oB' (nx 11 h46) fun h51 =>
 oB (bSub y9_46 y16_46) fun x149_52 =>
 oB (oIxS y0_46 x149_52) fun x150_53 =>
 oB (bSub y8_46 y16_46) fun x154_54 =>
 oB (oIxS y7_46 x154_54) fun x155_55 =>
 oB (bNe .no x150_53 x155_55) fun x156_56 =>
 ci x156_56 (
 j33 y15_46 y14_46 y9_46 y8_46 y7_46 y0_46 h51) (
 j49 y16_46 y15_46 y14_46 y9_46 y8_46 y7_46 y0_46 h51)) (
 j44 y9_46 y8_46 h46)) (I 2) y15_30 y14_30 y9_30 y8_30 y7_30 y0_30 h30) (
 j33 y15_30 y14_30 y9_30 y8_30 y7_30 y0_30 h30)) (
 j29 h30)) y15_28 y14_28 y9_28 y8_28 y7_28 y0_28 h28) fun f28 =>
 oB (oIxS y7_19 y8_19) fun x116_57 =>
 oB (bSub y8_19 (I 1)) fun x119_58 =>
 oB (oIxS y7_19 x119_58) fun x120_59 =>
 jnF 0 (fun h60 =>
 j20 h60) fun j60 =>
 lpF 6 n (fun f61 y15_61 y14_61 y9_61 y8_61 y7_61 y0_61 h61 =>
 oB (oLenS y0_61) fun x123_62 =>
 oB (bLt y9_61 x123_62) fun x124_63 =>
 ci x124_63 (
 jnF 6 (fun z15_64 z14_64 z9_64 z8_64 z7_64 z0_64 h64 =>
 oB (bAdd z9_64 (I 1)) fun x126_65 =>
 f61 z15_64 z14_64 x126_65 z8_64 z7_64 z0_64 h64) fun j64 =>
 oB (oIxS y0_61 y9_61) fun x129_66 =>
 oB (bEq .no x129_66 y14_61) fun x131_67 =>
 oB (gq x131_67 true (some y0_61)) fun x133_68 =>
 oB (gq x131_67 true (some y9_61)) fun x134_69 =>
 oB (gq x131_67 true (bSub x134_69 (I 1))) fun x135_70 =>
 oB (gq x131_67 true (oIxS x133_68 x135_70)) fun x136_71 =>
 oB (gq x131_67 true (some y15_61)) fun x137_72 =>
 oB (gq x131_67 true (bEq .no x136_71 x137_72)) fun x138_73 =>
 oB (oPick x131_67 x138_73 (.bool false)) fun x139_74 =>
 ci x139_74 (
 jnF 2 (fun z9_75 z8_75 h75 =>
 oB (bSub z9_75 z8_75) fun x159_76 =>
 some (x159_76, h75)) fun j75 =>
 lpF 7 n (fun f77 y16_77 y15_77 y14_77 y9_77 y8_77 y7_77 y0_77 h77 =>
 oB (oLenS y7_77) fun x142_78 =>
 oB (bLt y16_77 x142_78) fun x143_79 =>
 ci x143_79 (
 jnF 7 (fun z16_80 z15_80 z14_80 z9_80 z8_80 z7_80 z0_80 h80 =>
 oB (bAdd z16_80 (I 1)) fun x145_81 =>
 f77 x145_81 z15_80 z14_80 z9_80 z8_80 z7_80 z0_80 h80) fun j80 =>
 oB' (nx 11 h77) fun h82 =>
 oB (bSub y9_77 y16_77) fun x149_83 =>
 oB (oIxS y0_77 x149_83) fun x150_84 =>
 oB (bSub y8_77 y16_77) fun x154_85 =>
 oB (oIxS y7_77 x154_85) fun x155_86 =>
 oB (bNe .no x150_84 x155_86) fun x156_87 =>
 ci x156_87 (
 j64 y15_77 y14_77 y9_77 y8_77 y7_77 y0_77 h82) (
 j80 y16_77 y15_77 y14_77 y9_77 y8_77 y7_77 y0_77 h82)) (
 j75 y9_77 y8_77 h77)) (I 2) y15_61 y14_61 y9_61 y8_61 y7_61 y0_61 h61) (
 j64 y15_61 y14_61 y9_61 y8_61 y7_61 y0_61 h61)) (
 j60 h61)) x120_59 x116_57 y9_19 y8_19 y7_19 y0_19 h19)) fun f19 =>
 oB (evQ (.toStr (.c x1)) .e h17) fun x18_88 =>
 oB (oLenS x18_88) fun x20_89 =>
 oB (bSub x20_89 (I 1)) fun x21_90 =>
 jnF 0 (fun h91 =>
 some ((Ineg 0), h91)) fun j91 =>
 lpF 6 n (fun f92 y10_92 y9_92 y8_92 y7_92 y1_92 y0_92 h92 =>
 oB (oLenS y0_92) fun x25_93 =>
 oB (bLt y9_92 x25_93) fun x26_94 =>
 ci x26_94 (
 jnF 6 (fun z10_95 z9_95 z8_95 z7_95 z1_95 z0_95 h95 =>
 f92 z10_95 z9_95 z8_95 z7_95 z1_95 z0_95 h95) fun j95 =>
 scF n fun m96 => jnF 6 (lpF 6 m96 fun f96 y10_96 y9_96 y8_96 y7_96 y1_96 y0_96 h96 =>
 oB (bAdd y10_96 (I 1)) fun x69_97 =>
 oB (bAdd y9_96 (I 1)) fun x71_98 =>
 oB (gq (.bool true) true (some x69_97)) fun x73_99 =>
 oB (gq (.bool true) true (some x71_98)) fun x74_100 =>
 oP (gw (.bool true) true (call n_internal_bytealg_Cutover [x74_100] h96) h96) fun x75_101 h101 =>
 oB (gq (.bool true) true (bGt x73_99 x75_101)) fun x76_102 =>
 oB (oPick (.bool true) x76_102 (.bool false)) fun x77_103 =>
 oB (gq x77_103 true (some x71_98)) fun x79_104 =>
 oB (gq x77_103 true (some y0_96)) fun x80_105 =>
 oB (gq x77_103 true (oLenS x80_105)) fun x81_106 =>
 oB (gq x77_103 true (bLt x79_104 x81_106)) fun x82_107 =>
 oB (oPick x77_103 x82_107 (.bool false)) fun x83_108 =>
 oB (gq x83_108 false (some (.bool false))) fun x85_109 =>
 oB (gq x85_109 true (some x69_97)) fun x86_110 =>
 oB (gq x85_109 true (some x71_98)) fun x87_111 =>
 oB (gq x85_109 true (binAV .shr .no x87_111 (.int .u64 4))) fun x88_112 =>
 oB (gq x85_109 true (bAdd (I 4) x88_112)) fun x89_113 =>
 oB (gq x85_109 true (bGe x86_110 x89_113)) fun x90_114 =>
 oB (gq x83_108 false (oPick x85_109 x90_114 (.bool false))) fun x91_115 =>
 oB (gq x83_108 false (some x91_115)) fun x92_116 =>
 oB (gq x92_116 true (some x71_98)) fun x93_117 =>
 oB (gq x92_116 true (some y0_96)) fun x94_118 =>
 oB (gq x92_116 true (oLenS x94_118)) fun x95_119 =>
 oB (gq x92_116 true (bLt x93_117 x95_119)) fun x96_120 =>
 oB (gq x83_108 false (oPick x92_116 x96_120 (.bool false))) fun x97_121 =>
 oB (oPick x83_108 (.bool true) x97_121) fun x98_122 =>
 ci x98_122 (
 none) (
 j95 x69_97 x71_98 y8_96 y7_96 y1_96 y0_96 h101)) fun f96 =>
 oB' (nx 7 h92) fun h123 =>
 oB (oIxS y0_92 y9_92) fun x29_124 =>
 oB (oIxS y7_92 y8_92) fun x32_125 =>
 oB (bNe .no x29_124 x32_125) fun x33_126 =>
 jnF 6 (fun z10_127 z9_127 z8_127 z7_127 z1_127 z0_127 h127 =>
 jnF 2 (fun z9_128 z8_128 h128 =>
 oB (bSub z9_128 z8_128) fun x67_129 =>
 some (x67_129, h128)) fun j128 =>
 lpF 7 n (fun f130 y12_130 y10_130 y9_130 y8_130 y7_130 y1_130 y0_130 h130 =>
 oB (oLenS y7_130) fun x50_131 =>
 oB (bLt y12_130 x50_131) fun x51_132 =>
 ci x51_132 (
 jnF 7 (fun z12_133 z10_133 z9_133 z8_133 z7_133 z1_133 z0_133 h133 =>
 oB (bAdd z12_133 (I 1)) fun x53_134 =>
 f130 x53_134 z10_133 z9_133 z8_133 z7_133 z1_133 z0_133 h133) fun j133 =>
 oB' (nx 11 h130) fun h135 =>
 oB (bSub y9_130 y12_130) fun x57_136 =>
 oB (oIxS y0_130 x57_136) fun x58_137 =>
 oB (bSub y8_130 y12_130) fun x62_138 =>
 oB (oIxS y7_130 x62_138) fun x63_139 =>
 oB (bNe .no x58_137 x63_139) fun x64_140 =>
 ci x64_140 (
 f96 y10_130 y9_130 y8_130 y7_130 y1_130 y0_130 h135) (
 j133 y12_130 y10_130 y9_130 y8_130 y7_130 y1_130 y0_130 h135)) (
 j128 y9_130 y8_130 h130)) (I 1) z10_127 z9_127 z8_127 z7_127 z1_127 z0_127 h127) fun j127 =>
 ci x33_126 (
 oB' (nx 9 h123) fun h141 =>
 oB (bAdd y9_92 (I 1)) fun x36_142 =>
 oB (oSlS y0_92 (some x36_142) none) fun x37_143 =>
 oB (oIxS y7_92 y8_92) fun x40_144 =>
 oP (call n_strings_IndexByte [x37_143, x40_144] h141) fun x41_145 h145 =>
 oB (bLt x41_145 (I 0)) fun x43_146 =>
 ci x43_146 (
 some ((Ineg 0), h145)) (
 oB (bAdd x41_145 (I 1)) fun x46_147 =>
 oB (bAdd y9_92 x46_147) fun x47_148 =>
 j127 y10_92 x47_148 y8_92 y7_92 y1_92 y0_92 h145)) (
 j127 y10_92 y9_92 y8_92 y7_92 y1_92 y0_92 h123)) (
 j91 h92)) (I 0) x21_90 x21_90 x18_88 x1 x0 h17)))
theorem o_strings_IndexRune : FnOK Tryz.prog n_strings_IndexRune (a2 f_strings_IndexRune) := ok2 mixed Tryz.func292 (by kernel_rfl)
/- strings.shouldUseASCIISet -/
noncomputable def f_strings_shouldUseASCIISet (n : Nat) (call : Caller)  (x0 : AV) (h : AH) : Ans :=
 oB (bGt x0 (I 8)) fun x4_0 =>
 some (x4_0, h)
theorem o_strings_shouldUseASCIISet : FnOK Tryz.prog n_strings_shouldUseASCIISet (a1 f_strings_shouldUseASCIISet) := ok1 mixed Tryz.func293 (by kernel_rfl)
/- strings.makeASCIISet -/
noncomputable def f_strings_makeASCIISet (n : Nat) (call : Caller)  (x0 : AV) (h : AH) : Ans :=
 oP (oNew h 321 [(.bool false), (.bool false), (.bool false), (.bool false), (.bool false), (.bool false), (.bool false), (.bool false), (.bool false), (.bool false), (.bool false), (.bool false), (.bool false), (.bool false), (.bool false), (.bool false), (.bool false), (.bool false), (.bool false), (.bool false), (.bool false), (.bool false), (.bool false), (.bool false), (.bool false), (.bool false), (.bool false), (.bool false), (.bool false), (.bool false), (.bool false), (.bool false), (.bool false), (.bool false), (.bool false), (.bool false), (.bool false), (.bool false), (.bool false), (.bool false), (.bool false), (.bool false), (.bool false), (.bool false), (.bool false), (.bool false), (.bool false), (.bool false), (.bool false), (.bool false), (.bool false), (.bool false), (.bool false), (.bool false), (.bool false), (.bool false), (.bool false), (.bool false), (.bool false), (.bool false), (.bool false), (.bool false), (.bool false), (.bool false), (.bool false), (.bool false), (.bool false), (.bool false), (.bool false), (.bool false), (.bool false), (.bool false), (.bool false), (.bool false), (.bool false), (.bool false), (.bool false), (.bool false), (.bool false), (.bool false), (.bool false), (.bool false), (.bool false), (.bool false), (.bool false), (.bool false), (.bool false), (.bool false), (.bool false), (.bool false), (.bool false), (.bool false), (.bool false), (.bool false), (.bool false), (.bool false), (.bool false), (.bool false), (.bool false), (.bool false), (.bool false), (.bool false), (.bool false), (.bool false), (.bool false), (.bool false), (.bool false), (.bool false), (.bool false), (.bool false), (.bool false), (.bool false), (.bool false), (.bool false), (.bool false), (.bool false), (.bool false), (.bool false), (.bool false), (.bool false), (.bool false), (.bool false), (.bool false), (.bool false), (.bool false), (.bool false), (.bool false), (.bool false), (.bool false), (.bool false), (.bool false), (.bool false), (.bool false), (.bool false), (.bool false), (.bool false), (.bool false), (.bool false), (.bool false), (.bool false), (.bool false), (.bool false), (.bool false), (.bool false), (.bool false), (.bool false), (.bool false), (.bool false), (.bool false), (.bool false), (.bool false), (.bool false), (.bool false), (.bool false), (.bool false), (.bool false), (.bool false), (.bool false), (.bool false), (.bool false), (.bool false), (.bool false), (.bool false), (.bool false), (.bool false), (.bool false), (.bool false), (.bool false), (.bool false), (.bool false), (.bool false), (.bool false), (.bool false), (.bool false), (.bool false), (.bool false), (.bool false), (.bool false), (.bool false), (.bool false), (.bool false), (.bool false), (.bool false), (.bool false), (.bool false), (.bool false), (.bool false), (.bool false), (.bool false), (.bool false), (.bool false), (.bool false), (.bool false), (.bool false), (.bool false), (.bool false), (.bool false), (.bool false), (.bool false), (.bool false), (.bool false), (.bool false), (.bool false), (.bool false), (.bool false), (.bool false), (.bool false), (.bool false), (.bool false), (.bool false), (.bool false), (.bool false), (.bool false), (.bool false), (.bool false), (.bool false), (.bool false), (.bool false), (.bool false), (.bool false), (.bool false), (.bool false), (.bool false), (.bool false), (.bool false), (.bool false), (.bool false), (.bool false), (.bool false), (.bool false), (.bool false), (.bool false), (.bool false), (.bool false), (.bool false), (.bool false), (.bool false), (.bool false), (.bool false), (.bool false), (.bool false), (.bool false), (.bool false), (.bool false), (.bool false), (.bool false), (.bool false), (.bool false), (.bool false), (.bool false), (.bool false), (.bool false), (.bool false), (.bool false), (.bool false), (.bool false)]) fun x2_0 h0 =>
 jnF 1 (fun z2_1 h1 =>
 oB (oLdN 256 h1 z2_1) fun x20_2 =>
 oP (oSt 256 h1 z2_1 x20_2) fun _ h3 =>
 retT [(2, some (some 256)), (3, none)] (sput 3 (sput 2 Tr.e z2_1) (.bool true)) h3) fun j1 =>
 lpF 3 n (fun f4 y4_4 y2_4 y0_4 h4 =>
 oB (oLenS y0_4) fun x8_5 =>
 oB (bLt y4_4 x8_5) fun x9_6 =>
 ci x9_6 (
 jnF 3 (fun z4_7 z2_7 z0_7 h7 =>
 oB (bAdd z4_7 (I 1)) fun x11_8 =>
 f4 x11_8 z2_7 z0_7 h7) fun j7 =>
 oB (oIxS y0_4 y4_4) fun x14_9 =>
 oB (bGe x14_9 (U 128)) fun x16_10 =>
 ci x16_10 (
 oB (oLdN 256 h4 y2_4) fun x17_11 =>
 oP (oSt 256 h4 y2_4 x17_11) fun _ h12 =>
 retT [(2, some (some 256)), (3, none)] (sput 3 (sput 2 Tr.e y2_4) (.bool false)) h12) (
 oB (evQ (.idxArr 256 1 (.c y2_4) (.c x14_9)) .e h4) fun x19_13 =>
 oP (oSt 1 h4 x19_13 (.bool true)) fun _ h14 =>
 j7 y4_4 y2_4 y0_4 h14)) (
 j1 y2_4 h4)) (I 0) x2_0 x0 h0
theorem o_strings_makeASCIISet : FnOK Tryz.prog n_strings_makeASCIISet (a1 f_strings_makeASCIISet) := ok1 mixed Tryz.func294 (by kernel_rfl)
/- (*strings.asciiSet).contains -/
noncomputable def f_strings_asciiSet_contains (n : Nat) (call : Caller)  (x0 x1 : AV) (h : AH) : Ans :=
 oB (oNil x0) fun x7_0 =>
 oB (evQ (.idxArr 256 1 (.c x7_0) (.c x1)) .e h) fun x8_1 =>
 oB (oLd h x8_1) fun x9_2 =>
 some (x9_2, h)
theorem o_strings_asciiSet_contains : FnOK Tryz.prog n_strings_asciiSet_contains (a2 f_strings_asciiSet_contains) := ok2 mixed Tryz.func295 (by kernel_rfl)
/- internal/stringslite.Index -/
noncomputable def f_internal_stringslite_Index (n : Nat) (call : Caller)  (x0 x1 : AV) (h : AH) : Ans :=
 oB (oLenS x1) fun x15_0 =>
 jnF 3 (fun z5_1 z1_1 z0_1 h1 =>
 oB (oIxS z1_1 (I 0)) fun x49_2 =>
 oB (oIxS z1_1 (I 1)) fun x51_3 =>
 oB (oLenS z0_1) fun x53_4 =>
 oB (bSub x53_4 z5_1) fun x55_5 =>
 oB (bAdd x55_5 (I 1)) fun x56_6 =>
 jnF 0 (fun h7 =>
 some ((Ineg 0), h7)) fun j7 =>
 lpF 8 n (fun f8 y10_8 y9_8 y8_8 y7_8 y6_8 y5_8 y1_8 y0_8 h8 =>
 oB (bLt y8_8 y9_8) fun x59_9 =>
 ci x59_9 (
 jnF 8 (fun z10_10 z9_10 z8_10 z7_10 z6_10 z5_10 z1_10 z0_10 h10 =>
 f8 z10_10 z9_10 z8_10 z7_10 z6_10 z5_10 z1_10 z0_10 h10) fun j10 =>
 oB (oIxS y0_8 y8_8) fun x62_11 =>
 oB (bNe .no x62_11 y6_8) fun x64_12 =>
 jnF 8 (fun z10_13 z9_13 z8_13 z7_13 z6_13 z5_13 z1_13 z0_13 h13 =>
 oB (bAdd z8_13 (I 1)) fun x80_14 =>
 oB (oIxS z0_13 x80_14) fun x81_15 =>
 oB (bEq .no x81_15 z7_13) fun x83_16 =>
 oB (gq x83_16 true (some z0_13)) fun x85_17 =>
 oB (gq x83_16 true (some z8_13)) fun x86_18 =>
 oB (gq x83_16 true (some z8_13)) fun x87_19 =>
 oB (gq x83_16 true (some z5_13)) fun x88_20 =>
 oB (gq x83_16 true (bAdd x87_19 x88_20)) fun x89_21 =>
 oB (gq x83_16 true (oSlS x85_17 (some x86_18) (some x89_21))) fun x90_22 =>
 oB (gq x83_16 true (some z1_13)) fun x91_23 =>
 oB (gq x83_16 true (bEq .no x90_22 x91_23)) fun x92_24 =>
 oB (oPick x83_16 x92_24 (.bool false)) fun x93_25 =>
 ci x93_25 (
 some (z8_13, h13)) (
 oB (bAdd z8_13 (I 1)) fun x96_26 =>
 oB (bAdd z10_13 (I 1)) fun x98_27 =>
 oB (evQ (.bad) .e h13) fun x100_28 =>
 oB (bLe z5_13 x100_28) fun x101_29 =>
 oB (gq x101_29 true (some x98_27)) fun x103_30 =>
 oB (gq x101_29 true (some x96_26)) fun x104_31 =>
 oP (gw x101_29 true (call n_internal_bytealg_Cutover [x104_31] h13) h13) fun x105_32 h32 =>
 oB (gq x101_29 true (bGt x103_30 x105_32)) fun x106_33 =>
 oB (oPick x101_29 x106_33 (.bool false)) fun x107_34 =>
 ci x107_34 (
 oB (oSlS z0_13 (some x96_26) none) fun x110_35 =>
 oB (evQ (.bad) .e h32) fun x112_36 =>
 oB (bGe x112_36 (I 0)) fun x114_37 =>
 ci x114_37 (
 oB (bAdd x112_36 x96_26) fun x117_38 =>
 some (x117_38, h32)) (
 some ((Ineg 0), h32))) (
 oB (evQ (.bad) .e h32) fun x119_39 =>
 oB (bGt z5_13 x119_39) fun x120_40 =>
 oB (gq x120_40 true (some x98_27)) fun x122_41 =>
 oB (gq x120_40 true (some x96_26)) fun x123_42 =>
 oB (gq x120_40 true (binAV .shr .no x123_42 (.int .u64 4))) fun x124_43 =>
 oB (gq x120_40 true (bAdd (I 4) x124_43)) fun x125_44 =>
 oB (gq x120_40 true (bGe x122_41 x125_44)) fun x126_45 =>
 oB (oPick x120_40 x126_45 (.bool false)) fun x127_46 =>
 oB (gq x127_46 true (some x96_26)) fun x129_47 =>
 oB (gq x127_46 true (some z9_13)) fun x130_48 =>
 oB (gq x127_46 true (bLt x129_47 x130_48)) fun x131_49 =>
 oB (oPick x127_46 x131_49 (.bool false)) fun x132_50 =>
 ci x132_50 (
 oB (oSlS z0_13 (some x96_26) none) fun x135_51 =>
 oP (call n_internal_bytealg_IndexRabinKarp_string [x135_51, z1_13] h32) fun x137_52 h52 =>
 oB (bLt x137_52 (I 0)) fun x139_53 =>
 ci x139_53 (
 some ((Ineg 0), h52)) (
 oB (bAdd x96_26 x137_52) fun x142_54 =>
 some (x142_54, h52))) (
 j10 x98_27 z9_13 x96_26 z7_13 z6_13 z5_13 z1_13 z0_13 h32)))) fun j13 =>
 ci x64_12 (
 oB (bAdd y8_8 (I 1)) fun x67_55 =>
 oB (oSlS y0_8 (some x67_55) (some y9_8)) fun x69_56 =>
 oP (call n_internal_stringslite_IndexByte [x69_56, y6_8] h8) fun x71_57 h57 =>
 oB (bLt x71_57 (I 0)) fun x73_58 =>
 ci x73_58 (
 some ((Ineg 0), h57)) (
 oB (bAdd x71_57 (I 1)) fun x76_59 =>
 oB (bAdd y8_8 x76_59) fun x77_60 =>
 j13 y10_8 y9_8 x77_60 y7_8 y6_8 y5_8 y1_8 y0_8 h57)) (
 j13 y10_8 y9_8 y8_8 y7_8 y6_8 y5_8 y1_8 y0_8 h8)) (
 j7 h8)) (I 0) x56_6 (I 0) x51_3 x49_2 z5_1 z1_1 z0_1 h1) fun j1 =>
 oB (bEq .no x15_0 (I 0)) fun x18_61 =>
 oB (gq x18_61 false (some x1)) fun x20_62 =>
 oB (gq x18_61 false (some x0)) fun x21_63 =>
 oB (gq x18_61 false (bEq .no x20_62 x21_63)) fun x22_64 =>
 oB (oPick x18_61 (.bool true) x22_64) fun x23_65 =>
 ci x23_65 (
 some ((I 0), h)) (
 oB (bEq .no x15_0 (I 1)) fun x26_66 =>
 ci x26_66 (
 oB (oIxS x1 (I 0)) fun x29_67 =>
 oP (call n_internal_stringslite_IndexByte [x0, x29_67] h) fun x30_68 h68 =>
 some (x30_68, h68)) (
 oB (oLenS x0) fun x34_69 =>
 oB (bGe x15_0 x34_69) fun x35_70 =>
 ci x35_70 (
 some ((Ineg 0), h)) (
 oB (evQ (.bad) .e h) fun x38_71 =>
 oB (bLe x15_0 x38_71) fun x39_72 =>
 oB (gq x39_72 true (some x0)) fun x41_73 =>
 oB (gq x39_72 true (oLenS x41_73)) fun x42_74 =>
 oB (gq x39_72 true (bLe x42_74 (I 64))) fun x43_75 =>
 oB (oPick x39_72 x43_75 (.bool false)) fun x44_76 =>
 ci x44_76 (
 oB (evQ (.bad) .e h) fun x47_77 =>
 some (x47_77, h)) (
 j1 x15_0 x1 x0 h))))
theorem o_internal_stringslite_Index : FnOK Tryz.prog n_internal_stringslite_Index (a2 f_internal_stringslite_Index) := ok2 mixed Tryz.func296 (by kernel_rfl)
/- strings.TrimPrefix -/
noncomputable def f_strings_TrimPrefix (n : Nat) (call : Caller)  (x0 x1 : AV) (h : AH) : Ans :=
 oP (call n_internal_stringslite_TrimPrefix [x0, x1] h) fun x7_0 h0 =>
 some (x7_0, h0)
theorem o_strings_TrimPrefix : FnOK Tryz.prog n_strings_TrimPrefix (a2 f_strings_TrimPrefix) := ok2 mixed Tryz.func297 (by kernel_rfl)
/- corrector/resolve.value -/
noncomputable def f_resolve_value (n : Nat) (call : Caller)  (x0 x1 : AV) (h : AH) : Ans :=
 jnF 2 (fun z5_0 z1_0 h0 =>
 oB (bGe z5_0 z1_0) fun x40_1 =>
 ci x40_1 (
 some ((Ineg 0), h0)) (
 some (z5_0, h0))) fun j0 =>
 oB (bGe x0 (R 48)) fun x8_2 =>
 oB (gq x8_2 true (some x0)) fun x10_3 =>
 oB (gq x8_2 true (bLe x10_3 (R 57))) fun x11_4 =>
 oB (oPick x8_2 x11_4 (.bool false)) fun x12_5 =>
 jnF 2 (fun z5_6 z1_6 h6 =>
 j0 z5_6 z1_6 h6) fun j6 =>
 ci x12_5 (
 oB (bSub x0 (R 48)) fun x14_7 =>
 oB (oInt .i64 x14_7) fun x15_8 =>
 j6 x15_8 x1 h) (
 oB (bGe x0 (R 97)) fun x18_9 =>
 oB (gq x18_9 true (some x0)) fun x20_10 =>
 oB (gq x18_9 true (bLe x20_10 (R 102))) fun x21_11 =>
 oB (oPick x18_9 x21_11 (.bool false)) fun x22_12 =>
 jnF 2 (fun z5_13 z1_13 h13 =>
 j6 z5_13 z1_13 h13) fun j13 =>
 ci x22_12 (
 oB (bSub x0 (R 97)) fun x24_14 =>
 oB (oInt .i64 x24_14) fun x25_15 =>
 oB (bAdd x25_15 (I 10)) fun x26_16 =>
 j13 x26_16 x1 h) (
 oB (bGe x0 (R 65)) fun x29_17 =>
 oB (gq x29_17 true (some x0)) fun x31_18 =>
 oB (gq x29_17 true (bLe x31_18 (R 70))) fun x32_19 =>
 oB (oPick x29_17 x32_19 (.bool false)) fun x33_20 =>
 jnF 2 (fun z5_21 z1_21 h21 =>
 j13 z5_21 z1_21 h21) fun j21 =>
 ci x33_20 (
 oB (bSub x0 (R 65)) fun x35_22 =>
 oB (oInt .i64 x35_22) fun x36_23 =>
 oB (bAdd x36_23 (I 10)) fun x37_24 =>
 j21 x37_24 x1 h) (
 j21 (Ineg 0) x1 h)))
theorem o_resolve_value : FnOK Tryz.prog n_resolve_value (a2 f_resolve_value) := ok2 mixed Tryz.func298 (by kernel_rfl)
/- internal/stringslite.CutPrefix -/
noncomputable def f_internal_stringslite_CutPrefix (n : Nat) (call : Caller)  (x0 x1 : AV) (h : AH) : Ans :=
 oP (call n_internal_stringslite_HasPrefix [x0, x1] h) fun x8_0 h0 =>
 oB (evQ (.un .not (.c x8_0)) .e h0) fun x9_1 =>
 ci x9_1 (
 some (.tup [x0, (.bool false)], h0)) (
 oB (oLenS x1) fun x13_2 =>
 oB (oSlS x0 (some x13_2) none) fun x14_3 =>
 some (.tup [x14_3, (.bool true)], h0))
theorem o_internal_stringslite_CutPrefix : FnOK Tryz.prog n_internal_stringslite_CutPrefix (a2 f_internal_stringslite_CutPrefix) := ok2 mixed Tryz.func299 (by kernel_rfl)
/- internal/strconv.small -/
noncomputable def f_internal_strconv_small (n : Nat) (call : Caller)  (x0 : AV) (h : AH) : Ans :=
 oB (bLt x0 (I 10)) fun x4_0 =>
 ci x4_0 (
 oB (bAdd x0 (I 1)) fun x7_1 =>
 oB (oSlS (.str [48, 49, 50, 51, 52, 53, 54, 55, 56, 57, 97, 98, 99, 100, 101, 102, 103, 104, 105, 106, 107, 108, 109, 110, 111, 112, 113, 114, 115, 116, 117, 118, 119, 120, 121, 122]) (some x0) (some x7_1)) fun x8_2 =>
 some (x8_2, h)) (
 oB (binAV .mul .no x0 (I 2)) fun x10_3 =>
 oB (binAV .mul .no x0 (I 2)) fun x12_4 =>
 oB (bAdd x12_4 (I 2)) fun x13_5 =>
 oB (oSlS (.str [48, 48, 48, 49, 48, 50, 48, 51, 48, 52, 48, 53, 48, 54, 48, 55, 48, 56, 48, 57, 49, 48, 49, 49, 49, 50, 49, 51, 49, 52, 49, 53, 49, 54, 49, 55, 49, 56, 49, 57, 50, 48, 50, 49, 50, 50, 50, 51, 50, 52, 50, 53, 50, 54, 50, 55, 50, 56, 50, 57, 51, 48, 51, 49, 51, 50, 51, 51, 51, 52, 51, 53, 51, 54, 51, 55, 51, 56, 51, 57, 52, 48, 52, 49, 52, 50, 52, 51, 52, 52, 52, 53, 52, 54, 52, 55, 52, 56, 52, 57, 53, 48, 53, 49, 53, 50, 53, 51, 53, 52, 53, 53, 53, 54, 53, 55, 53, 56, 53, 57, 54, 48, 54, 49, 54, 50, 54, 51, 54, 52, 54, 53, 54, 54, 54, 55, 54, 56, 54, 57, 55, 48, 55, 49, 55, 50, 55, 51, 55, 52, 55, 53, 55, 54, 55, 55, 55, 56, 55, 57, 56, 48, 56, 49, 56, 50, 56, 51, 56, 52, 56, 53, 56, 54, 56, 55, 56, 56, 56, 57, 57, 48, 57, 49, 57, 50, 57, 51, 57, 52, 57, 53, 57, 54, 57, 55, 57, 56, 57, 57]) (some x10_3) (some x13_5)) fun x14_6 =>
 some (x14_6, h))
theorem o_internal_strconv_small : FnOK Tryz.prog n_internal_strconv_small (a1 f_internal_strconv_small) := ok1 mixed Tryz.func300 (by kernel_rfl)
/- internal/strconv.numDigits -/
noncomputable def f_internal_strconv_numDigits (n : Nat) (call : Caller)  (x0 : AV) (h : AH) : Ans :=
 oP (call n_math_bits_Len64 [x0] h) fun x5_0 h0 =>
 oP (call n_internal_strconv_log10Pow2 [x5_0] h0) fun x6_1 h1 =>
 oB (evQ (.bad) .e h1) fun x10_2 =>
 oB (oLd h1 x10_2) fun x11_3 =>
 oB (bGe x0 x11_3) fun x12_4 =>
 oP (call n_internal_strconv_bool2_int [x12_4] h1) fun x13_5 h5 =>
 oB (bAdd x6_1 x13_5) fun x14_6 =>
 some (x14_6, h5)
theorem o_internal_strconv_numDigits : FnOK Tryz.prog n_internal_strconv_numDigits (a1 f_internal_strconv_numDigits) := ok1 mixed Tryz.func301 (by kernel_rfl)
/- internal/strconv.formatBase10 -/
noncomputable def f_internal_strconv_formatBase10 (n : Nat) (call : Caller)  (x0 x1 : AV) (h : AH) : Ans :=
 oB (oLen x0) fun x18_0 =>
 jnF 3 (fun z4_1 z1_1 z0_1 h1 =>
 oB (oInt .u32 z1_1) fun x97_2 =>
 oB (bGe z4_1 (I 4)) fun x99_3 =>
 jnF 3 (fun z12_4 z4_4 z0_4 h4 =>
 oB (bGe z4_4 (I 2)) fun x139_5 =>
 jnF 3 (fun z12_6 z4_6 z0_6 h6 =>
 oB (bGt z4_6 (I 0)) fun x161_7 =>
 jnF 0 (fun h8 =>
 some (.tup [], h8)) fun j8 =>
 ci x161_7 (
 oB (bAdd (.int .u32 48) z12_6) fun x164_9 =>
 oB (oInt .u8 x164_9) fun x165_10 =>
 oB (oIx 1 z0_6 (I 0)) fun x166_11 =>
 oP (oSt 1 h6 x166_11 x165_10) fun _ h12 =>
 j8 h12) (
 j8 h6)) fun j6 =>
 ci x139_5 (
 oB (binAV .rem .no z12_4 (.int .u32 100)) fun x141_13 =>
 oB (binAV .mul .no x141_13 (.int .u32 2)) fun x142_14 =>
 oB (binAV .quo .no z12_4 (.int .u32 100)) fun x144_15 =>
 oB' (nx 15 h4) fun h16 =>
 oB (bSub z4_4 (I 1)) fun x147_17 =>
 oB (bSub z4_4 (I 2)) fun x150_18 =>
 oB (bAdd x142_14 (.int .u32 1)) fun x152_19 =>
 oB (oIxS (.str [48, 48, 48, 49, 48, 50, 48, 51, 48, 52, 48, 53, 48, 54, 48, 55, 48, 56, 48, 57, 49, 48, 49, 49, 49, 50, 49, 51, 49, 52, 49, 53, 49, 54, 49, 55, 49, 56, 49, 57, 50, 48, 50, 49, 50, 50, 50, 51, 50, 52, 50, 53, 50, 54, 50, 55, 50, 56, 50, 57, 51, 48, 51, 49, 51, 50, 51, 51, 51, 52, 51, 53, 51, 54, 51, 55, 51, 56, 51, 57, 52, 48, 52, 49, 52, 50, 52, 51, 52, 52, 52, 53, 52, 54, 52, 55, 52, 56, 52, 57, 53, 48, 53, 49, 53, 50, 53, 51, 53, 52, 53, 53, 53, 54, 53, 55, 53, 56, 53, 57, 54, 48, 54, 49, 54, 50, 54, 51, 54, 52, 54, 53, 54, 54, 54, 55, 54, 56, 54, 57, 55, 48, 55, 49, 55, 50, 55, 51, 55, 52, 55, 53, 55, 54, 55, 55, 55, 56, 55, 57, 56, 48, 56, 49, 56, 50, 56, 51, 56, 52, 56, 53, 56, 54, 56, 55, 56, 56, 56, 57, 57, 48, 57, 49, 57, 50, 57, 51, 57, 52, 57, 53, 57, 54, 57, 55, 57, 56, 57, 57]) x152_19) fun x153_20 =>
 oB (oIxS (.str [48, 48, 48, 49, 48, 50, 48, 51, 48, 52, 48, 53, 48, 54, 48, 55, 48, 56, 48, 57, 49, 48, 49, 49, 49, 50, 49, 51, 49, 52, 49, 53, 49, 54, 49, 55, 49, 56, 49, 57, 50, 48, 50, 49, 50, 50, 50, 51, 50, 52, 50, 53, 50, 54, 50, 55, 50, 56, 50, 57, 51, 48, 51, 49, 51, 50, 51, 51, 51, 52, 51, 53, 51, 54, 51, 55, 51, 56, 51, 57, 52, 48, 52, 49, 52, 50, 52, 51, 52, 52, 52, 53, 52, 54, 52, 55, 52, 56, 52, 57, 53, 48, 53, 49, 53, 50, 53, 51, 53, 52, 53, 53, 53, 54, 53, 55, 53, 56, 53, 57, 54, 48, 54, 49, 54, 50, 54, 51, 54, 52, 54, 53, 54, 54, 54, 55, 54, 56, 54, 57, 55, 48, 55, 49, 55, 50, 55, 51, 55, 52, 55, 53, 55, 54, 55, 55, 55, 56, 55, 57, 56, 48, 56, 49, 56, 50, 56, 51, 56, 52, 56, 53, 56, 54, 56, 55, 56, 56, 56, 57, 57, 48, 57, 49, 57, 50, 57, 51, 57, 52, 57, 53, 57, 54, 57, 55, 57, 56, 57, 57]) x142_14) fun x155_21 =>
 oB (oIx 1 z0_4 x147_17) fun x156_22 =>
 oP (oSt 1 h16 x156_22 x153_20) fun _ h23 =>
 oB (oIx 1 z0_4 x150_18) fun x157_24 =>
 oP (oSt 1 h23 x157_24 x155_21) fun _ h25 =>
 oB (bSub z4_4 (I 2)) fun x159_26 =>
 j6 x144_15 x159_26 z0_4 h25) (
 j6 z12_4 z4_4 z0_4 h4)) fun j4 =>
 ci x99_3 (
 oB (binAV .rem .no x97_2 (.int .u32 10000)) fun x101_27 =>
 oB (binAV .quo .no x97_2 (.int .u32 10000)) fun x103_28 =>
 oB (binAV .quo .no x101_27 (.int .u32 100)) fun x105_29 =>
 oB (binAV .mul .no x105_29 (.int .u32 2)) fun x106_30 =>
 oB (binAV .rem .no x101_27 (.int .u32 100)) fun x108_31 =>
 oB (binAV .mul .no x108_31 (.int .u32 2)) fun x109_32 =>
 oB' (nx 15 h1) fun h33 =>
 oB (bSub z4_1 (I 1)) fun x112_34 =>
 oB (bSub z4_1 (I 2)) fun x115_35 =>
 oB (bAdd x109_32 (.int .u32 1)) fun x117_36 =>
 oB (oIxS (.str [48, 48, 48, 49, 48, 50, 48, 51, 48, 52, 48, 53, 48, 54, 48, 55, 48, 56, 48, 57, 49, 48, 49, 49, 49, 50, 49, 51, 49, 52, 49, 53, 49, 54, 49, 55, 49, 56, 49, 57, 50, 48, 50, 49, 50, 50, 50, 51, 50, 52, 50, 53, 50, 54, 50, 55, 50, 56, 50, 57, 51, 48, 51, 49, 51, 50, 51, 51, 51, 52, 51, 53, 51, 54, 51, 55, 51, 56, 51, 57, 52, 48, 52, 49, 52, 50, 52, 51, 52, 52, 52, 53, 52, 54, 52, 55, 52, 56, 52, 57, 53, 48, 53, 49, 53, 50, 53, 51, 53, 52, 53, 53, 53, 54, 53, 55, 53, 56, 53, 57, 54, 48, 54, 49, 54, 50, 54, 51, 54, 52, 54, 53, 54, 54, 54, 55, 54, 56, 54, 57, 55, 48, 55, 49, 55, 50, 55, 51, 55, 52, 55, 53, 55, 54, 55, 55, 55, 56, 55, 57, 56, 48, 56, 49, 56, 50, 56, 51, 56, 52, 56, 53, 56, 54, 56, 55, 56, 56, 56, 57, 57, 48, 57, 49, 57, 50, 57, 51, 57, 52, 57, 53, 57, 54, 57, 55, 57, 56, 57, 57]) x117_36) fun x118_37 =>
 oB (oIxS (.str [48, 48, 48, 49, 48, 50, 48, 51, 48, 52, 48, 53, 48, 54, 48, 55, 48, 56, 48, 57, 49, 48, 49, 49, 49, 50, 49, 51, 49, 52, 49, 53, 49, 54, 49, 55, 49, 56, 49, 57, 50, 48, 50, 49, 50, 50, 50, 51, 50, 52, 50, 53, 50, 54, 50, 55, 50, 56, 50, 57, 51, 48, 51, 49, 51, 50, 51, 51, 51, 52, 51, 53, 51, 54, 51, 55, 51, 56, 51, 57, 52, 48, 52, 49, 52, 50, 52, 51, 52, 52, 52, 53, 52, 54, 52, 55, 52, 56, 52, 57, 53, 48, 53, 49, 53, 50, 53, 51, 53, 52, 53, 53, 53, 54, 53, 55, 53, 56, 53, 57, 54, 48, 54, 49, 54, 50, 54, 51, 54, 52, 54, 53, 54, 54, 54, 55, 54, 56, 54, 57, 55, 48, 55, 49, 55, 50, 55, 51, 55, 52, 55, 53, 55, 54, 55, 55, 55, 56, 55, 57, 56, 48, 56, 49, 56, 50, 56, 51, 56, 52, 56, 53, 56, 54, 56, 55, 56, 56, 56, 57, 57, 48, 57, 49, 57, 50, 57, 51, 57, 52, 57, 53, 57, 54, 57, 55, 57, 56, 57, 57]) x109_32) fun x120_38 =>
 oB (oIx 1 z0_1 x112_34) fun x121_39 =>
 oP (oSt 1 h33 x121_39 x118_37) fun _ h40 =>
 oB (oIx 1 z0_1 x115_35) fun x122_41 =>
 oP (oSt 1 h40 x122_41 x120_38) fun _ h42 =>
 oB' (nx 15 h42) fun h43 =>
 oB (bSub z4_1 (I 3)) fun x125_44 =>
 oB (bSub z4_1 (I 4)) fun x128_45 =>
 oB (bAdd x106_30 (.int .u32 1)) fun x130_46 =>
 oB (oIxS (.str [48, 48, 48, 49, 48, 50, 48, 51, 48, 52, 48, 53, 48, 54, 48, 55, 48, 56, 48, 57, 49, 48, 49, 49, 49, 50, 49, 51, 49, 52, 49, 53, 49, 54, 49, 55, 49, 56, 49, 57, 50, 48, 50, 49, 50, 50, 50, 51, 50, 52, 50, 53, 50, 54, 50, 55, 50, 56, 50, 57, 51, 48, 51, 49, 51, 50, 51, 51, 51, 52, 51, 53, 51, 54, 51, 55, 51, 56, 51, 57, 52, 48, 52, 49, 52, 50, 52, 51, 52, 52, 52, 53, 52, 54, 52, 55, 52, 56, 52, 57, 53, 48, 53, 49, 53, 50, 53, 51, 53, 52, 53, 53, 53, 54, 53, 55, 53, 56, 53, 57, 54, 48, 54, 49, 54, 50, 54, 51, 54, 52, 54, 53, 54, 54, 54, 55, 54, 56, 54, 57, 55, 48, 55, 49, 55, 50, 55, 51, 55, 52, 55, 53, 55, 54, 55, 55, 55, 56, 55, 57, 56, 48, 56, 49, 56, 50, 56, 51, 56, 52, 56, 53, 56, 54, 56, 55, 56, 56, 56, 57, 57, 48, 57, 49, 57, 50, 57, 51, 57, 52, 57, 53, 57, 54, 57, 55, 57, 56, 57, 57]) x130_46) fun x131_47 =>
 oB (oIxS (.str [48, 48, 48, 49, 48, 50, 48, 51, 48, 52, 48, 53, 48, 54, 48, 55, 48, 56, 48, 57, 49, 48, 49, 49, 49, 50, 49, 51, 49, 52, 49, 53, 49, 54, 49, 55, 49, 56, 49, 57, 50, 48, 50, 49, 50, 50, 50, 51, 50, 52, 50, 53, 50, 54, 50, 55, 50, 56, 50, 57, 51, 48, 51, 49, 51, 50, 51, 51, 51, 52, 51, 53, 51, 54, 51, 55, 51, 56, 51, 57, 52, 48, 52, 49, 52, 50, 52, 51, 52, 52, 52, 53, 52, 54, 52, 55, 52, 56, 52, 57, 53, 48, 53, 49, 53, 50, 53, 51, 53, 52, 53, 53, 53, 54, 53, 55, 53, 56, 53, 57, 54, 48, 54, 49, 54, 50, 54, 51, 54, 52, 54, 53, 54, 54, 54, 55, 54, 56, 54, 57, 55, 48, 55, 49, 55, 50, 55, 51, 55, 52, 55, 53, 55, 54, 55, 55, 55, 56, 55, 57, 56, 48, 56, 49, 56, 50, 56, 51, 56, 52, 56, 53, 56, 54, 56, 55, 56, 56, 56, 57, 57, 48, 57, 49, 57, 50, 57, 51, 57, 52, 57, 53, 57, 54, 57, 55, 57, 56, 57, 57]) x106_30) fun x133_48 =>
 oB (oIx 1 z0_1 x125_44) fun x134_49 =>
 oP (oSt 1 h43 x134_49 x131_47) fun _ h50 =>
 oB (oIx 1 z0_1 x128_45) fun x135_51 =>
 oP (oSt 1 h50 x135_51 x133_48) fun _ h52 =>
 oB (bSub z4_1 (I 4)) fun x137_53 =>
 j4 x103_28 x137_53 z0_1 h52) (
 j4 x97_2 z4_1 z0_1 h1)) fun j1 =>
 lpF 3 n (fun f54 y4_54 y1_54 y0_54 h54 =>
 oB (bGe y4_54 (I 8)) fun x20_55 =>
 ci x20_55 (
 jnF 3 (fun z4_56 z1_56 z0_56 h56 =>
 f54 z4_56 z1_56 z0_56 h56) fun j56 =>
 oB (binAV .rem .no y1_54 (.int .u64 100000000)) fun x22_57 =>
 oB (oInt .u32 x22_57) fun x23_58 =>
 oB (binAV .quo .no y1_54 (.int .u64 100000000)) fun x25_59 =>
 oB (binAV .quo .no x23_58 (.int .u32 10000)) fun x27_60 =>
 oB (binAV .rem .no x23_58 (.int .u32 10000)) fun x29_61 =>
 oB (binAV .quo .no x29_61 (.int .u32 100)) fun x31_62 =>
 oB (binAV .mul .no x31_62 (.int .u32 2)) fun x32_63 =>
 oB (binAV .rem .no x29_61 (.int .u32 100)) fun x34_64 =>
 oB (binAV .mul .no x34_64 (.int .u32 2)) fun x35_65 =>
 oB (binAV .quo .no x27_60 (.int .u32 100)) fun x37_66 =>
 oB (binAV .mul .no x37_66 (.int .u32 2)) fun x38_67 =>
 oB (binAV .rem .no x27_60 (.int .u32 100)) fun x40_68 =>
 oB (binAV .mul .no x40_68 (.int .u32 2)) fun x41_69 =>
 oB' (nx 15 h54) fun h70 =>
 oB (bSub y4_54 (I 1)) fun x44_71 =>
 oB (bSub y4_54 (I 2)) fun x47_72 =>
 oB (bAdd x35_65 (.int .u32 1)) fun x49_73 =>
 oB (oIxS (.str [48, 48, 48, 49, 48, 50, 48, 51, 48, 52, 48, 53, 48, 54, 48, 55, 48, 56, 48, 57, 49, 48, 49, 49, 49, 50, 49, 51, 49, 52, 49, 53, 49, 54, 49, 55, 49, 56, 49, 57, 50, 48, 50, 49, 50, 50, 50, 51, 50, 52, 50, 53, 50, 54, 50, 55, 50, 56, 50, 57, 51, 48, 51, 49, 51, 50, 51, 51, 51, 52, 51, 53, 51, 54, 51, 55, 51, 56, 51, 57, 52, 48, 52, 49, 52, 50, 52, 51, 52, 52, 52, 53, 52, 54, 52, 55, 52, 56, 52, 57, 53, 48, 53, 49, 53, 50, 53, 51, 53, 52, 53, 53, 53, 54, 53, 55, 53, 56, 53, 57, 54, 48, 54, 49, 54, 50, 54, 51, 54, 52, 54, 53, 54, 54, 54, 55, 54, 56, 54, 57, 55, 48, 55, 49, 55, 50, 55, 51, 55, 52, 55, 53, 55, 54, 55, 55, 55, 56, 55, 57, 56, 48, 56, 49, 56, 50, 56, 51, 56, 52, 56, 53, 56, 54, 56, 55, 56, 56, 56, 57, 57, 48, 57, 49, 57, 50, 57, 51, 57, 52, 57, 53, 57, 54, 57, 55, 57, 56, 57, 57]) x49_73) fun x50_74 =>
 oB (oIxS (.str [48, 48, 48, 49, 48, 50, 48, 51, 48, 52, 48, 53, 48, 54, 48, 55, 48, 56, 48, 57, 49, 48, 49, 49, 49, 50, 49, 51, 49, 52, 49, 53, 49, 54, 49, 55, 49, 56, 49, 57, 50, 48, 50, 49, 50, 50, 50, 51, 50, 52, 50, 53, 50, 54, 50, 55, 50, 56, 50, 57, 51, 48, 51, 49, 51, 50, 51, 51, 51, 52, 51, 53, 51, 54, 51, 55, 51, 56, 51, 57, 52, 48, 52, 49, 52, 50, 52, 51, 52, 52, 52, 53, 52, 54, 52, 55, 52, 56, 52, 57, 53, 48, 53, 49, 53, 50, 53, 51, 53, 52, 53, 53, 53, 54, 53, 55, 53, 56, 53, 57, 54, 48, 54, 49, 54, 50, 54, 51, 54, 52, 54, 53, 54, 54, 54, 55, 54, 56, 54, 57, 55, 48, 55, 49, 55, 50, 55, 51, 55, 52, 55, 53, 55, 54, 55, 55, 55, 56, 55, 57, 56, 48, 56, 49, 56, 50, 56, 51, 56, 52, 56, 53, 56, 54, 56, 55, 56, 56, 56, 57, 57, 48, 57, 49, 57, 50, 57, 51, 57, 52, 57, 53, 57, 54, 57, 55, 57, 56, 57, 57]) x35_65) fun x52_75 =>
 oB (oIx 1 y0_54 x44_71) fun x53_76 =>
 oP (oSt 1 h70 x53_76 x50_74) fun _ h77 =>
 oB (oIx 1 y0_54 x47_72) fun x54_78 =>
 oP (oSt 1 h77 x54_78 x52_75) fun _ h79 =>
 oB' (nx 15 h79) fun h80 =>
 oB (bSub y4_54 (I 3)) fun x57_81 =>
 oB (bSub y4_54 (I 4)) fun x60_82 =>
 oB (bAdd x32_63 (.int .u32 1)) fun x62_83 =>
 oB (oIxS (.str [48, 48, 48, 49, 48, 50, 48, 51, 48, 52, 48, 53, 48, 54, 48, 55, 48, 56, 48, 57, 49, 48, 49, 49, 49, 50, 49, 51, 49, 52, 49, 53, 49, 54, 49, 55, 49, 56, 49, 57, 50, 48, 50, 49, 50, 50, 50, 51, 50, 52, 50, 53, 50, 54, 50, 55, 50, 56, 50, 57, 51, 48, 51, 49, 51, 50, 51, 51, 51, 52, 51, 53, 51, 54, 51, 55, 51, 56, 51, 57, 52, 48, 52, 49, 52, 50, 52, 51, 52, 52, 52, 53, 52, 54, 52, 55, 52, 56, 52, 57, 53, 48, 53, 49, 53, 50, 53, 51, 53, 52, 53, 53, 53, 54, 53, 55, 53, 56, 53, 57, 54, 48, 54, 49, 54, 50, 54, 51, 54, 52, 54, 53, 54, 54, 54, 55, 54, 56, 54, 57, 55, 48, 55, 49, 55, 50, 55, 51, 55, 52, 55, 53, 55, 54, 55, 55, 55, 56, 55, 57, 56, 48, 56, 49, 56, 50, 56, 51, 56, 52, 56, 53, 56, 54, 56, 55, 56, 56, 56, 57, 57, 48, 57, 49, 57, 50, 57, 51, 57, 52, 57, 53, 57, 54, 57, 55, 57, 56, 57, 57]) x62_83) fun x63_84 =>
 oB (oIxS (.str [48, 48, 48, 49, 48, 50, 48, 51, 48, 52, 48, 53, 48, 54, 48, 55, 48, 56, 48, 57, 49, 48, 49, 49, 49, 50, 49, 51, 49, 52, 49, 53, 49, 54, 49, 55, 49, 56, 49, 57, 50, 48, 50, 49, 50, 50, 50, 51, 50, 52, 50, 53, 50, 54, 50, 55, 50, 56, 50, 57, 51, 48, 51, 49, 51, 50, 51, 51, 51, 52, 51, 53, 51, 54, 51, 55, 51, 56, 51, 57, 52, 48, 52, 49, 52, 50, 52, 51, 52, 52, 52, 53, 52, 54, 52, 55, 52, 56, 52, 57, 53, 48, 53, 49, 53, 50, 53, 51, 53, 52, 53, 53, 53, 54, 53, 55, 53, 56, 53, 57, 54, 48, 54, 49, 54, 50, 54, 51, 54, 52, 54, 53, 54, 54, 54, 55, 54, 56, 54, 57, 55, 48, 55, 49, 55, 50, 55, 51, 55, 52, 55, 53, 55, 54, 55, 55, 55, 56, 55, 57, 56, 48, 56, 49, 56, 50, 56, 51, 56, 52, 56, 53, 56, 54, 56, 55, 56, 56, 56, 57, 57, 48, 57, 49, 57, 50, 57, 51, 57, 52, 57, 53, 57, 54, 57, 55, 57, 56, 57, 57]) x32_63) fun x65_85 =>
 oB (oIx 1 y0_54 x57_81) fun x66_86 =>
 oP (oSt 1 h80 x66_86 x63_84) fun _ h87 =>
 oB (oIx 1 y0_54 x60_82) fun x67_88 =>
 oP (oSt 1 h87 x67_88 x65_85) fun _ h89 =>
 oB' (nx 15 h89) fun h90 =>
 oB (bSub y4_54 (I 5)) fun x70_91 =>
 oB (bSub y4_54 (I 6)) fun x73_92 =>
 oB (bAdd x41_69 (.int .u32 1)) fun x75_93 =>
 oB (oIxS (.str [48, 48, 48, 49, 48, 50, 48, 51, 48, 52, 48, 53, 48, 54, 48, 55, 48, 56, 48, 57, 49, 48, 49, 49, 49, 50, 49, 51, 49, 52, 49, 53, 49, 54, 49, 55, 49, 56, 49, 57, 50, 48, 50, 49, 50, 50, 50, 51, 50, 52, 50, 53, 50, 54, 50, 55, 50, 56, 50, 57, 51, 48, 51, 49, 51, 50, 51, 51, 51, 52, 51, 53, 51, 54, 51, 55, 51, 56, 51, 57, 52, 48, 52, 49, 52, 50, 52, 51, 52, 52, 52, 53, 52, 54, 52, 55, 52, 56, 52, 57, 53, 48, 53, 49, 53, 50, 53, 51, 53, 52, 53, 53, 53, 54, 53, 55, 53, 56, 53, 57, 54, 48, 54, 49, 54, 50, 54, 51, 54, 52, 54, 53, 54, 54, 54, 55, 54, 56, 54, 57, 55, 48, 55, 49, 55, 50, 55, 51, 55, 52, 55, 53, 55, 54, 55, 55, 55, 56, 55, 57, 56, 48, 56, 49, 56, 50, 56, 51, 56, 52, 56, 53, 56, 54, 56, 55, 56, 56, 56, 57, 57, 48, 57, 49, 57, 50, 57, 51, 57, 52, 57, 53, 57, 54, 57, 55, 57, 56, 57, 57]) x75_93) fun x76_94 =>
 oB (oIxS (.str [48, 48, 48, 49, 48, 50, 48, 51, 48, 52, 48, 53, 48, 54, 48, 55, 48, 56, 48, 57, 49, 48, 49, 49, 49, 50, 49, 51, 49, 52, 49, 53, 49, 54, 49, 55, 49, 56, 49, 57, 50, 48, 50, 49, 50, 50, 50, 51, 50, 52, 50, 53, 50, 54, 50, 55, 50, 56, 50, 57, 51, 48, 51, 49, 51, 50, 51, 51, 51, 52, 51, 53, 51, 54, 51, 55, 51, 56, 51, 57, 52, 48, 52, 49, 52, 50, 52, 51, 52, 52, 52, 53, 52, 54, 52, 55, 52, 56, 52, 57, 53, 48, 53, 49, 53, 50, 53, 51, 53, 52, 53, 53, 53, 54, 53, 55, 53, 56, 53, 57, 54, 48, 54, 49, 54, 50, 54, 51, 54, 52, 54, 53, 54, 54, 54, 55, 54, 56, 54, 57, 55, 48, 55, 49, 55, 50, 55, 51, 55, 52, 55, 53, 55, 54, 55, 55, 55, 56, 55, 57, 56, 48, 56, 49, 56, 50, 56, 51, 56, 52, 56, 53, 56, 54, 56, 55, 56, 56, 56, 57, 57, 48, 57, 49, 57, 50, 57, 51, 57, 52, 57, 53, 57, 54, 57, 55, 57, 56, 57, 57]) x41_69) fun x78_95 =>
 oB (oIx 1 y0_54 x70_91) fun x79_96 =>
 oP (oSt 1 h90 x79_96 x76_94) fun _ h97 =>
 oB (oIx 1 y0_54 x73_92) fun x80_98 =>
 oP (oSt 1 h97 x80_98 x78_95) fun _ h99 =>
 oB' (nx 15 h99) fun h100 =>
 oB (bSub y4_54 (I 7)) fun x83_101 =>
 oB (bSub y4_54 (I 8)) fun x86_102 =>
 oB (bAdd x38_67 (.int .u32 1)) fun x88_103 =>
 oB (oIxS (.str [48, 48, 48, 49, 48, 50, 48, 51, 48, 52, 48, 53, 48, 54, 48, 55, 48, 56, 48, 57, 49, 48, 49, 49, 49, 50, 49, 51, 49, 52, 49, 53, 49, 54, 49, 55, 49, 56, 49, 57, 50, 48, 50, 49, 50, 50, 50, 51, 50, 52, 50, 53, 50, 54, 50, 55, 50, 56, 50, 57, 51, 48, 51, 49, 51, 50, 51, 51, 51, 52, 51, 53, 51, 54, 51, 55, 51, 56, 51, 57, 52, 48, 52, 49, 52, 50, 52, 51, 52, 52, 52, 53, 52, 54, 52, 55, 52, 56, 52, 57, 53, 48, 53, 49, 53, 50, 53, 51, 53, 52, 53, 53, 53, 54, 53, 55, 53, 56, 53, 57, 54, 48, 54, 49, 54, 50, 54, 51, 54, 52, 54, 53, 54, 54, 54, 55, 54, 56, 54, 57, 55, 48, 55, 49, 55, 50, 55, 51, 55, 52, 55, 53, 55, 54, 55, 55, 55, 56, 55, 57, 56, 48, 56, 49, 56, 50, 56, 51, 56, 52, 56, 53, 56, 54, 56, 55, 56, 56, 56, 57, 57, 48, 57, 49, 57, 50, 57, 51, 57, 52, 57, 53, 57, 54, 57, 55, 57, 56, 57, 57]) x88_103) fun x89_104 =>
 oB (oIxS (.str [48, 48, 48, 49, 48, 50, 48, 51, 48, 52, 48, 53, 48, 54, 48, 55, 48, 56, 48, 57, 49, 48, 49, 49, 49, 50, 49, 51, 49, 52, 49, 53, 49, 54, 49, 55, 49, 56, 49, 57, 50, 48, 50, 49, 50, 50, 50, 51, 50, 52, 50, 53, 50, 54, 50, 55, 50, 56, 50, 57, 51, 48, 51, 49, 51, 50, 51, 51, 51, 52, 51, 53, 51, 54, 51, 55, 51, 56, 51, 57, 52, 48, 52, 49, 52, 50, 52, 51, 52, 52, 52, 53, 52, 54, 52, 55, 52, 56, 52, 57, 53, 48, 53, 49, 53, 50, 53, 51, 53, 52, 53, 53, 53, 54, 53, 55, 53, 56, 53, 57, 54, 48, 54, 49, 54, 50, 54, 51, 54, 52, 54, 53, 54, 54, 54, 55, 54, 56, 54, 57, 55, 48, 55, 49, 55, 50, 55, 51, 55, 52, 55, 53, 55, 54, 55, 55, 55, 56, 55, 57, 56, 48, 56, 49, 56, 50, 56, 51, 56, 52, 56, 53, 56, 54, 56, 55, 56, 56, 56, 57, 57, 48, 57, 49, 57, 50, 57, 51, 57, 52, 57, 53, 57, 54, 57, 55, 57, 56, 57, 57]) x38_67) fun x91_105 =>
 oB (oIx 1 y0_54 x83_101) fun x92_106 =>
 oP (oSt 1 h100 x92_106 x89_104) fun _ h107 =>
 oB (oIx 1 y0_54 x86_102) fun x93_108 =>
 oP (oSt 1 h107 x93_108 x91_105) fun _ h109 =>
 oB (bSub y4_54 (I 8)) fun x95_110 =>
 j56 x95_110 x25_59 y0_54 h109) (
 j1 y4_54 y1_54 y0_54 h54)) x18_0 x1 x0 h
theorem o_internal_strconv_formatBase10 : FnOK Tryz.prog n_internal_strconv_formatBase10 (a2 f_internal_strconv_formatBase10) := ok2 mixed Tryz.func302 (by kernel_rfl)
end Go.Proofs.YtahpoedbdhhdfaaGreatDoor
