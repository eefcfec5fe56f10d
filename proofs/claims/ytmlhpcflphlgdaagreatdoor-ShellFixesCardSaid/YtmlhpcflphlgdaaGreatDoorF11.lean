/- Functions, as they run. PRINTED by a program of this repo. -/
import Derived.Test.YtmlhpcflphlgdaaGreatDoorN
import Derived.Test.YtmlhpcflphlgdaaGreatDoorM
set_option linter.unusedVariables false
set_option maxRecDepth 100000
namespace Go.Proofs.YtmlhpcflphlgdaaGreatDoor
open Go.Ev
/- internal/stringslite.CutPrefix -/
noncomputable def f_internal_stringslite_CutPrefix (n : Nat) (call : Caller)  (x0 x1 : AV) (h : AH) : Ans :=
 oP (call n_internal_stringslite_HasPrefix [x0, x1] h) fun x8_0 h0 =>
 oB (evQ (.un .not (.c x8_0)) .e h0) fun x9_1 =>
 ci x9_1 (
 some (.tup [x0, (.bool false)], h0)) (
 oB (oLenS x1) fun x13_2 =>
 oB (oSlS x0 (some x13_2) none) fun x14_3 =>
 some (.tup [x14_3, (.bool true)], h0))
theorem o_internal_stringslite_CutPrefix : FnOK Tryz.prog n_internal_stringslite_CutPrefix (a2 f_internal_stringslite_CutPrefix) := ok2 mixed Tryz.func393 (by kernel_rfl)
/- strconv.appendQuotedWith -/
noncomputable def f_strconv_appendQuotedWith (n : Nat) (call : Caller)  (x0 x1 x2 x3 x4 : AV) (h : AH) : Ans :=
 oB (evQ (.capSl (.c x0)) .e h) fun x15_0 =>
 oB (oLen x0) fun x17_1 =>
 oB (bSub x15_0 x17_1) fun x18_2 =>
 oB (oLenS x1) fun x20_3 =>
 oB (bLt x18_2 x20_3) fun x21_4 =>
 jnF 5 (fun z4_5 z3_5 z2_5 z1_5 z0_5 h5 =>
 oP (oBuildSl h5 5 1 1 [(U 0)] [(0, 1, z2_5)]) fun x38_6 h6 =>
 oP (evW (.append 5 1 1 [(U 0)] (.c z0_5) (.c x38_6)) .e h6) fun x39_7 h7 =>
 jnF 2 (fun z2_8 z0_8 h8 =>
 oP (oBuildSl h8 5 1 1 [(U 0)] [(0, 1, z2_8)]) fun x81_9 h9 =>
 oP (evW (.append 5 1 1 [(U 0)] (.c z0_8) (.c x81_9)) .e h9) fun x82_10 h10 =>
 some (x82_10, h10)) fun j8 =>
 lpF 5 n (fun f11 y4_11 y3_11 y2_11 y1_11 y0_11 h11 =>
 oB (oLenS y1_11) fun x41_12 =>
 oB (bGt x41_12 (I 0)) fun x42_13 =>
 ci x42_13 (
 jnF 6 (fun z13_14 z4_14 z3_14 z2_14 z1_14 z0_14 h14 =>
 oB (oSlS z1_14 (some z13_14) none) fun x45_15 =>
 f11 z4_14 z3_14 z2_14 x45_15 z0_14 h14) fun j14 =>
 oP (call n_unicode_utf8_DecodeRuneInString [y1_11] h11) fun x48_16 h16 =>
 oB (oEx 0 x48_16) fun x49_17 =>
 oB (oEx 1 x48_16) fun x50_18 =>
 oB (bEq .no x50_18 (I 1)) fun x52_19 =>
 oB (gq x52_19 true (some x49_17)) fun x54_20 =>
 oB (gq x52_19 true (bEq .no x54_20 (R 65533))) fun x55_21 =>
 oB (oPick x52_19 x55_21 (.bool false)) fun x56_22 =>
 ci x56_22 (
 oP (evW (.append 5 1 1 [(U 0)] (.c y0_11) (.c (.str [92, 120]))) .e h16) fun x58_23 h23 =>
 oB (oIxS y1_11 (I 0)) fun x61_24 =>
 oB (binAV .shr .no x61_24 (.int .u64 4)) fun x62_25 =>
 oB (oIxS (.str [48, 49, 50, 51, 52, 53, 54, 55, 56, 57, 97, 98, 99, 100, 101, 102]) x62_25) fun x63_26 =>
 oP (oBuildSl h23 5 1 1 [(U 0)] [(0, 1, x63_26)]) fun x64_27 h27 =>
 oP (evW (.append 5 1 1 [(U 0)] (.c x58_23) (.c x64_27)) .e h27) fun x65_28 h28 =>
 oB (oIxS y1_11 (I 0)) fun x68_29 =>
 oB (binAV .and .no x68_29 (U 15)) fun x69_30 =>
 oB (oIxS (.str [48, 49, 50, 51, 52, 53, 54, 55, 56, 57, 97, 98, 99, 100, 101, 102]) x69_30) fun x70_31 =>
 oP (oBuildSl h28 5 1 1 [(U 0)] [(0, 1, x70_31)]) fun x71_32 h32 =>
 oP (evW (.append 5 1 1 [(U 0)] (.c x65_28) (.c x71_32)) .e h32) fun x72_33 h33 =>
 j14 x50_18 y4_11 y3_11 y2_11 y1_11 x72_33 h33) (
 oP (call n_strconv_appendEscapedRune [y0_11, x49_17, y2_11, y3_11, y4_11] h16) fun x78_34 h34 =>
 j14 x50_18 y4_11 y3_11 y2_11 y1_11 x78_34 h34)) (
 j8 y2_11 y0_11 h11)) z4_5 z3_5 z2_5 z1_5 x39_7 h7) fun j5 =>
 ci x21_4 (
 oB (oLen x0) fun x23_35 =>
 oB (oLen x0) fun x25_36 =>
 oB (bAdd x25_36 (I 1)) fun x26_37 =>
 oB (oLenS x1) fun x28_38 =>
 oB (bAdd x26_37 x28_38) fun x29_39 =>
 oB (bAdd x29_39 (I 1)) fun x30_40 =>
 oP (evW (.mkSlice 5 1 1 [(U 0)] (.c x23_35) (.c x30_40)) .e h) fun x31_41 h41 =>
 oP (evW (.copy 1 (.c x31_41) (.c x0)) .e h41) fun x34_42 h42 =>
 j5 x4 x3 x2 x1 x31_41 h42) (
 j5 x4 x3 x2 x1 x0 h)
theorem o_strconv_appendQuotedWith : FnOK Tryz.prog n_strconv_appendQuotedWith (a5 f_strconv_appendQuotedWith) := ok5 mixed Tryz.func394 (by kernel_rfl)
/- slices.order2Ordered[int] -/
noncomputable def f_slices_order2Ordered_int (n : Nat) (call : Caller)  (x0 x1 x2 x3 : AV) (h : AH) : Ans :=
 oB' (nx 9 h) fun h0 =>
 oB (oIx 1 x0 x2) fun x12_1 =>
 oB (oLd h0 x12_1) fun x13_2 =>
 oB (oIx 1 x0 x1) fun x16_3 =>
 oB (oLd h0 x16_3) fun x17_4 =>
 oP (call n_cmp_Less_int [x13_2, x17_4] h0) fun x18_5 h5 =>
 ci x18_5 (
 oB (oNil x3) fun x20_6 =>
 oB (oLd h5 x20_6) fun x21_7 =>
 oB (bAdd x21_7 (I 1)) fun x22_8 =>
 oB (oNil x3) fun x23_9 =>
 oP (oSt 1 h5 x23_9 x22_8) fun _ h10 =>
 some (.tup [x2, x1], h10)) (
 some (.tup [x1, x2], h5))
theorem o_slices_order2Ordered_int : FnOK Tryz.prog n_slices_order2Ordered_int (a4 f_slices_order2Ordered_int) := ok4 mixed Tryz.func395 (by kernel_rfl)
/- slices.swapRangeCmpFunc[corrector/api.Edit] -/
noncomputable def f_slices_swapRangeCmpFunc_api_Edit (n : Nat) (call : Caller)  (x0 x1 x2 x3 x4 : AV) (h : AH) : Ans :=
 jnF 0 (fun h0 =>
 some (.tup [], h0)) fun j0 =>
 lpF 5 n (fun f1 y10_1 y3_1 y2_1 y1_1 y0_1 h1 =>
 oB (bLt y10_1 y3_1) fun x13_2 =>
 ci x13_2 (
 jnF 5 (fun z10_3 z3_3 z2_3 z1_3 z0_3 h3 =>
 oB (bAdd z10_3 (I 1)) fun x15_4 =>
 f1 x15_4 z3_3 z2_3 z1_3 z0_3 h3) fun j3 =>
 oB' (nx 24 h1) fun h5 =>
 oB (bAdd y1_1 y10_1) fun x19_6 =>
 oB (bAdd y2_1 y10_1) fun x23_7 =>
 oB (bAdd y2_1 y10_1) fun x27_8 =>
 oB (oIx 3 y0_1 x27_8) fun x28_9 =>
 oB (oLdN 3 h5 x28_9) fun x29_10 =>
 oB (bAdd y1_1 y10_1) fun x33_11 =>
 oB (oIx 3 y0_1 x33_11) fun x34_12 =>
 oB (oLdN 3 h5 x34_12) fun x35_13 =>
 oB (oIx 3 y0_1 x19_6) fun x36_14 =>
 oP (oSt 3 h5 x36_14 x29_10) fun _ h15 =>
 oB (oIx 3 y0_1 x23_7) fun x37_16 =>
 oP (oSt 3 h15 x37_16 x35_13) fun _ h17 =>
 j3 y10_1 y3_1 y2_1 y1_1 y0_1 h17) (
 j0 h1)) (I 0) x3 x2 x1 x0 h
theorem o_slices_swapRangeCmpFunc_api_Edit : FnOK Tryz.prog n_slices_swapRangeCmpFunc_api_Edit (a5 f_slices_swapRangeCmpFunc_api_Edit) := ok5 mixed Tryz.func396 (by kernel_rfl)
/- corrector/flow.name -/
noncomputable def f_flow_name (n : Nat) (call : Caller)  (x0 : AV) (h : AH) : Ans :=
 jnF 0 (fun h0 =>
 some ((.bool false), h0)) fun j0 =>
 oB (bEq .no x0 (I 15)) fun x5_1 =>
 jnF 1 (fun z4_2 h2 =>
 ci z4_2 (
 some ((.bool true), h2)) (
 j0 h2)) fun j2 =>
 ci x5_1 (
 j2 x5_1 h) (
 oB (bEq .no x0 (I 16)) fun x6_3 =>
 jnF 1 (fun z4_4 h4 =>
 j2 z4_4 h4) fun j4 =>
 ci x6_3 (
 j4 x6_3 h) (
 oB (bEq .no x0 (I 17)) fun x7_5 =>
 jnF 1 (fun z4_6 h6 =>
 j4 z4_6 h6) fun j6 =>
 ci x7_5 (
 j6 x7_5 h) (
 oB (bEq .no x0 (I 13)) fun x8_7 =>
 j6 x8_7 h)))
theorem o_flow_name : FnOK Tryz.prog n_flow_name (a1 f_flow_name) := ok1 mixed Tryz.func397 (by kernel_rfl)
/- (*corrector/flow.reader).scalar -/
noncomputable def f_flow_reader_scalar (n : Nat) (call : Caller)  (x0 x1 x2 x3 : AV) (h : AH) : Ans :=
 oP (call n_flow_reader_over [x0, x2, x3] h) fun x13_0 h0 =>
 oB (bEq .no x13_0 x2) fun x16_1 =>
 ci x16_1 (
 some (.tup [], h0)) (
 oB (oNil x0) fun x18_2 =>
 oB (oFA 0 x18_2) fun x19_3 =>
 oB (oLd h0 x19_3) fun x20_4 =>
 oB (evQ (.sl 3 (.c x20_4) (some (.c x2)) (some (.c x13_0)) none) .e h0) fun x23_5 =>
 oP (call n_slices_ContainsFunc_api_Token_api_Token [x23_5, (.fn 401 [] [])] h0) fun x24_6 h6 =>
 jnF 5 (fun z9_7 z8_7 z2_7 z1_7 z0_7 h7 =>
 oP (call n_flow_reader_add [z0_7, z1_7, z9_7, z2_7, z8_7] h7) fun x30_8 h8 =>
 oB (oNil z0_7) fun x32_9 =>
 oB (oFA 2 x32_9) fun x33_10 =>
 oB (oFA 0 x33_10) fun x34_11 =>
 oB (oLd h8 x34_11) fun x35_12 =>
 oB (oIx 6 x35_12 z1_7) fun x37_13 =>
 oB (oFA 5 x37_13) fun x38_14 =>
 oP (oSt 1 h8 x38_14 (.bool true)) fun _ h15 =>
 some (.tup [], h15)) fun j7 =>
 ci x24_6 (
 j7 (I 8) x13_0 x2 x1 x0 h6) (
 j7 (I 7) x13_0 x2 x1 x0 h6))
theorem o_flow_reader_scalar : FnOK Tryz.prog n_flow_reader_scalar (a4 f_flow_reader_scalar) := ok4 mixed Tryz.func398 (by kernel_rfl)
/- unicode/utf8.ValidRune -/
noncomputable def f_unicode_utf8_ValidRune (n : Nat) (call : Caller)  (x0 : AV) (h : AH) : Ans :=
 jnF 0 (fun h0 =>
 some ((.bool false), h0)) fun j0 =>
 oB (bLe (R 0) x0) fun x5_1 =>
 oB (gq x5_1 true (some x0)) fun x7_2 =>
 oB (gq x5_1 true (bLt x7_2 (R 55296))) fun x8_3 =>
 oB (oPick x5_1 x8_3 (.bool false)) fun x9_4 =>
 ci x9_4 (
 some ((.bool true), h)) (
 oB (bLt (R 57343) x0) fun x12_5 =>
 oB (gq x12_5 true (some x0)) fun x14_6 =>
 oB (gq x12_5 true (bLe x14_6 (R 1114111))) fun x15_7 =>
 oB (oPick x12_5 x15_7 (.bool false)) fun x16_8 =>
 ci x16_8 (
 some ((.bool true), h)) (
 j0 h))
theorem o_unicode_utf8_ValidRune : FnOK Tryz.prog n_unicode_utf8_ValidRune (a1 f_unicode_utf8_ValidRune) := ok1 mixed Tryz.func399 (by kernel_rfl)
/- strconv.appendEscapedRune -/
noncomputable def f_strconv_appendEscapedRune (n : Nat) (call : Caller)  (x0 x1 x2 x3 x4 : AV) (h : AH) : Ans :=
 oB (oInt .i32 x2) fun x15_0 =>
 oB (bEq .no x1 x15_0) fun x16_1 =>
 oB (gq x16_1 false (some x1)) fun x18_2 =>
 oB (gq x16_1 false (bEq .no x18_2 (R 92))) fun x19_3 =>
 oB (oPick x16_1 (.bool true) x19_3) fun x20_4 =>
 ci x20_4 (
 oP (oBuildSl h 5 1 1 [(U 0)] [(0, 1, (U 92))]) fun x22_5 h5 =>
 oP (evW (.append 5 1 1 [(U 0)] (.c x0) (.c x22_5)) .e h5) fun x23_6 h6 =>
 oB (oInt .u8 x1) fun x26_7 =>
 oP (oBuildSl h6 5 1 1 [(U 0)] [(0, 1, x26_7)]) fun x27_8 h8 =>
 oP (evW (.append 5 1 1 [(U 0)] (.c x23_6) (.c x27_8)) .e h8) fun x28_9 h9 =>
 some (x28_9, h9)) (
 jnF 2 (fun z1_10 z0_10 h10 =>
 jnF 1 (fun z0_11 h11 =>
 some (z0_11, h11)) fun j11 =>
 oB (bEq .no z1_10 (R 7)) fun x117_12 =>
 jnF 1 (fun z0_13 h13 =>
 j11 z0_13 h13) fun j13 =>
 ci x117_12 (
 oP (evW (.append 5 1 1 [(U 0)] (.c z0_10) (.c (.str [92, 97]))) .e h10) fun x119_14 h14 =>
 j13 x119_14 h14) (
 oB (bEq .no z1_10 (R 8)) fun x121_15 =>
 jnF 1 (fun z0_16 h16 =>
 j13 z0_16 h16) fun j16 =>
 ci x121_15 (
 oP (evW (.append 5 1 1 [(U 0)] (.c z0_10) (.c (.str [92, 98]))) .e h10) fun x123_17 h17 =>
 j16 x123_17 h17) (
 oB (bEq .no z1_10 (R 12)) fun x125_18 =>
 jnF 1 (fun z0_19 h19 =>
 j16 z0_19 h19) fun j19 =>
 ci x125_18 (
 oP (evW (.append 5 1 1 [(U 0)] (.c z0_10) (.c (.str [92, 102]))) .e h10) fun x127_20 h20 =>
 j19 x127_20 h20) (
 oB (bEq .no z1_10 (R 10)) fun x129_21 =>
 jnF 1 (fun z0_22 h22 =>
 j19 z0_22 h22) fun j22 =>
 ci x129_21 (
 oP (evW (.append 5 1 1 [(U 0)] (.c z0_10) (.c (.str [92, 110]))) .e h10) fun x131_23 h23 =>
 j22 x131_23 h23) (
 oB (bEq .no z1_10 (R 13)) fun x133_24 =>
 jnF 1 (fun z0_25 h25 =>
 j22 z0_25 h25) fun j25 =>
 ci x133_24 (
 oP (evW (.append 5 1 1 [(U 0)] (.c z0_10) (.c (.str [92, 114]))) .e h10) fun x135_26 h26 =>
 j25 x135_26 h26) (
 oB (bEq .no z1_10 (R 9)) fun x137_27 =>
 jnF 1 (fun z0_28 h28 =>
 j25 z0_28 h28) fun j28 =>
 ci x137_27 (
 oP (evW (.append 5 1 1 [(U 0)] (.c z0_10) (.c (.str [92, 116]))) .e h10) fun x139_29 h29 =>
 j28 x139_29 h29) (
 oB (bEq .no z1_10 (R 11)) fun x141_30 =>
 jnF 1 (fun z0_31 h31 =>
 j28 z0_31 h31) fun j31 =>
 ci x141_30 (
 oP (evW (.append 5 1 1 [(U 0)] (.c z0_10) (.c (.str [92, 118]))) .e h10) fun x143_32 h32 =>
 j31 x143_32 h32) (
 jnF 1 (fun z0_33 h33 =>
 j31 z0_33 h33) fun j33 =>
 jnF 2 (fun z1_34 z0_34 h34 =>
 oP (evW (.append 5 1 1 [(U 0)] (.c z0_34) (.c (.str [92, 85]))) .e h34) fun x102_35 h35 =>
 jnF 1 (fun z0_36 h36 =>
 j33 z0_36 h36) fun j36 =>
 lpF 3 n (fun f37 y12_37 y1_37 y0_37 h37 =>
 oB (bGe y12_37 (I 0)) fun x104_38 =>
 ci x104_38 (
 jnF 3 (fun z12_39 z1_39 z0_39 h39 =>
 oB (bSub z12_39 (I 4)) fun x106_40 =>
 f37 x106_40 z1_39 z0_39 h39) fun j39 =>
 oB (oInt .u64 y12_37) fun x110_41 =>
 oB (binAV .shr .no y1_37 x110_41) fun x111_42 =>
 oB (binAV .and .no x111_42 (R 15)) fun x112_43 =>
 oB (oIxS (.str [48, 49, 50, 51, 52, 53, 54, 55, 56, 57, 97, 98, 99, 100, 101, 102]) x112_43) fun x113_44 =>
 oP (oBuildSl h37 5 1 1 [(U 0)] [(0, 1, x113_44)]) fun x114_45 h45 =>
 oP (evW (.append 5 1 1 [(U 0)] (.c y0_37) (.c x114_45)) .e h45) fun x115_46 h46 =>
 j39 y12_37 y1_37 x115_46 h46) (
 j36 y0_37 h37)) (I 28) z1_34 x102_35 h35) fun j34 =>
 jnF 2 (fun z1_47 z0_47 h47 =>
 oP (evW (.append 5 1 1 [(U 0)] (.c z0_47) (.c (.str [92, 117]))) .e h47) fun x87_48 h48 =>
 jnF 1 (fun z0_49 h49 =>
 j33 z0_49 h49) fun j49 =>
 lpF 3 n (fun f50 y11_50 y1_50 y0_50 h50 =>
 oB (bGe y11_50 (I 0)) fun x89_51 =>
 ci x89_51 (
 jnF 3 (fun z11_52 z1_52 z0_52 h52 =>
 oB (bSub z11_52 (I 4)) fun x91_53 =>
 f50 x91_53 z1_52 z0_52 h52) fun j52 =>
 oB (oInt .u64 y11_50) fun x95_54 =>
 oB (binAV .shr .no y1_50 x95_54) fun x96_55 =>
 oB (binAV .and .no x96_55 (R 15)) fun x97_56 =>
 oB (oIxS (.str [48, 49, 50, 51, 52, 53, 54, 55, 56, 57, 97, 98, 99, 100, 101, 102]) x97_56) fun x98_57 =>
 oP (oBuildSl h50 5 1 1 [(U 0)] [(0, 1, x98_57)]) fun x99_58 h58 =>
 oP (evW (.append 5 1 1 [(U 0)] (.c y0_50) (.c x99_58)) .e h58) fun x100_59 h59 =>
 j52 y11_50 y1_50 x100_59 h59) (
 j49 y0_50 h50)) (I 12) z1_47 x87_48 h48) fun j47 =>
 jnF 1 (fun z0_60 h60 =>
 j47 (R 65533) z0_60 h60) fun j60 =>
 jnF 2 (fun z1_61 z0_61 h61 =>
 oP (evW (.append 5 1 1 [(U 0)] (.c z0_61) (.c (.str [92, 120]))) .e h61) fun x71_62 h62 =>
 oB (oInt .u8 z1_61) fun x74_63 =>
 oB (binAV .shr .no x74_63 (.int .u64 4)) fun x75_64 =>
 oB (oIxS (.str [48, 49, 50, 51, 52, 53, 54, 55, 56, 57, 97, 98, 99, 100, 101, 102]) x75_64) fun x76_65 =>
 oP (oBuildSl h62 5 1 1 [(U 0)] [(0, 1, x76_65)]) fun x77_66 h66 =>
 oP (evW (.append 5 1 1 [(U 0)] (.c x71_62) (.c x77_66)) .e h66) fun x78_67 h67 =>
 oB (oInt .u8 z1_61) fun x81_68 =>
 oB (binAV .and .no x81_68 (U 15)) fun x82_69 =>
 oB (oIxS (.str [48, 49, 50, 51, 52, 53, 54, 55, 56, 57, 97, 98, 99, 100, 101, 102]) x82_69) fun x83_70 =>
 oP (oBuildSl h67 5 1 1 [(U 0)] [(0, 1, x83_70)]) fun x84_71 h71 =>
 oP (evW (.append 5 1 1 [(U 0)] (.c x78_67) (.c x84_71)) .e h71) fun x85_72 h72 =>
 j33 x85_72 h72) fun j61 =>
 oB (bLt z1_10 (R 32)) fun x58_73 =>
 oB (gq x58_73 false (some z1_10)) fun x60_74 =>
 oB (gq x58_73 false (bEq .no x60_74 (R 127))) fun x61_75 =>
 oB (oPick x58_73 (.bool true) x61_75) fun x62_76 =>
 ci x62_76 (
 j61 z1_10 z0_10 h10) (
 oP (call n_unicode_utf8_ValidRune [z1_10] h10) fun x65_77 h77 =>
 oB (evQ (.un .not (.c x65_77)) .e h77) fun x66_78 =>
 ci x66_78 (
 j60 z0_10 h77) (
 oB (bLt z1_10 (R 65536)) fun x69_79 =>
 ci x69_79 (
 j47 z1_10 z0_10 h77) (
 j34 z1_10 z0_10 h77))))))))))) fun j10 =>
 ci x3 (
 oB (bLt x1 (R 128)) fun x32_80 =>
 oB (gq x32_80 true (some x1)) fun x34_81 =>
 oP (gw x32_80 true (call n_strconv_IsPrint [x34_81] h) h) fun x35_82 h82 =>
 oB (oPick x32_80 x35_82 (.bool false)) fun x36_83 =>
 ci x36_83 (
 oB (oInt .u8 x1) fun x39_84 =>
 oP (oBuildSl h82 5 1 1 [(U 0)] [(0, 1, x39_84)]) fun x40_85 h85 =>
 oP (evW (.append 5 1 1 [(U 0)] (.c x0) (.c x40_85)) .e h85) fun x41_86 h86 =>
 some (x41_86, h86)) (
 j10 x1 x0 h82)) (
 oP (call n_strconv_IsPrint [x1] h) fun x44_87 h87 =>
 oB (gq x44_87 false (some x4)) fun x46_88 =>
 oB (gq x44_87 false (some x46_88)) fun x47_89 =>
 oB (gq x47_89 true (some x1)) fun x48_90 =>
 oP (gw x47_89 true (call n_strconv_isInGraphicList [x48_90] h87) h87) fun x49_91 h91 =>
 oB (gq x44_87 false (oPick x47_89 x49_91 (.bool false))) fun x50_92 =>
 oB (oPick x44_87 (.bool true) x50_92) fun x51_93 =>
 ci x51_93 (
 oP (call n_unicode_utf8_AppendRune [x0, x1] h91) fun x54_94 h94 =>
 some (x54_94, h94)) (
 j10 x1 x0 h91)))
theorem o_strconv_appendEscapedRune : FnOK Tryz.prog n_strconv_appendEscapedRune (a5 f_strconv_appendEscapedRune) := ok5 mixed Tryz.func400 (by kernel_rfl)
/- (*corrector/flow.reader).scalar$1 -/
noncomputable def f_flow_reader_scalar_1 (n : Nat) (call : Caller)  (x0 : AV) (h : AH) : Ans :=
 oP (oNew h 92 (AV.cells x0)) fun x1_0 h0 =>
 oB (oFA 0 x1_0) fun x3_1 =>
 oB (oLd h0 x3_1) fun x4_2 =>
 oB (bEq .no x4_2 (I 13)) fun x5_3 =>
 some (x5_3, h0)
theorem o_flow_reader_scalar_1 : FnOK Tryz.prog n_flow_reader_scalar_1 (a1 f_flow_reader_scalar_1) := ok1 mixed Tryz.func401 (by kernel_rfl)
/- strconv.IsPrint -/
noncomputable def f_strconv_IsPrint (n : Nat) (call : Caller)  (x0 : AV) (h : AH) : Ans :=
 oB (bLe x0 (R 255)) fun x18_0 =>
 ci x18_0 (
 oB (bLe (R 32) x0) fun x20_1 =>
 oB (gq x20_1 true (some x0)) fun x22_2 =>
 oB (gq x20_1 true (bLe x22_2 (R 126))) fun x23_3 =>
 oB (oPick x20_1 x23_3 (.bool false)) fun x24_4 =>
 ci x24_4 (
 some ((.bool true), h)) (
 oB (bLe (R 161) x0) fun x26_5 =>
 oB (gq x26_5 true (some x0)) fun x28_6 =>
 oB (gq x26_5 true (bLe x28_6 (R 255))) fun x29_7 =>
 oB (oPick x26_5 x29_7 (.bool false)) fun x30_8 =>
 ci x30_8 (
 oB (bNe .no x0 (R 173)) fun x32_9 =>
 some (x32_9, h)) (
 some ((.bool false), h)))) (
 oB (bLe (R 0) x0) fun x34_10 =>
 oB (gq x34_10 true (some x0)) fun x36_11 =>
 oB (gq x34_10 true (bLt x36_11 (R 65536))) fun x37_12 =>
 oB (oPick x34_10 x37_12 (.bool false)) fun x38_13 =>
 ci x38_13 (
 oB' (nx 7 h) fun h14 =>
 oB (oInt .u16 x0) fun x40_15 =>
 oB (evQ (.bad) .e h14) fun x41_16 =>
 oB (evQ (.bad) .e h14) fun x42_17 =>
 oP (call n_strconv_bsearch_uint16_uint16 [x41_16, x40_15] h14) fun x46_18 h18 =>
 oB (oEx 0 x46_18) fun x47_19 =>
 oB (oEx 1 x46_18) fun x48_20 =>
 oB (oLen x41_16) fun x51_21 =>
 oB (bGe x47_19 x51_21) fun x52_22 =>
 oB (gq x52_22 false (some x40_15)) fun x54_23 =>
 oB (gq x52_22 false (some x41_16)) fun x55_24 =>
 oB (gq x52_22 false (some x47_19)) fun x56_25 =>
 oB (gq x52_22 false (binAV .andNot .no x56_25 (I 1))) fun x57_26 =>
 oB (gq x52_22 false (oIx 1 x55_24 x57_26)) fun x58_27 =>
 oB (gq x52_22 false (oLd h18 x58_27)) fun x59_28 =>
 oB (gq x52_22 false (bLt x54_23 x59_28)) fun x60_29 =>
 oB (oPick x52_22 (.bool true) x60_29) fun x61_30 =>
 oB (gq x61_30 false (some x41_16)) fun x63_31 =>
 oB (gq x61_30 false (some x47_19)) fun x64_32 =>
 oB (gq x61_30 false (binAV .or .no x64_32 (I 1))) fun x65_33 =>
 oB (gq x61_30 false (oIx 1 x63_31 x65_33)) fun x66_34 =>
 oB (gq x61_30 false (oLd h18 x66_34)) fun x67_35 =>
 oB (gq x61_30 false (some x40_15)) fun x68_36 =>
 oB (gq x61_30 false (bLt x67_35 x68_36)) fun x69_37 =>
 oB (oPick x61_30 (.bool true) x69_37) fun x70_38 =>
 ci x70_38 (
 some ((.bool false), h18)) (
 oP (call n_strconv_bsearch_uint16_uint16 [x42_17, x40_15] h18) fun x74_39 h39 =>
 oB (oEx 0 x74_39) fun x75_40 =>
 oB (oEx 1 x74_39) fun x76_41 =>
 oB (evQ (.un .not (.c x76_41)) .e h39) fun x78_42 =>
 some (x78_42, h39))) (
 oB' (nx 7 h) fun h43 =>
 oB (oInt .u32 x0) fun x80_44 =>
 oB (evQ (.bad) .e h43) fun x81_45 =>
 oB (evQ (.bad) .e h43) fun x82_46 =>
 oP (call n_strconv_bsearch_uint32_uint32 [x81_45, x80_44] h43) fun x86_47 h47 =>
 oB (oEx 0 x86_47) fun x87_48 =>
 oB (oEx 1 x86_47) fun x88_49 =>
 oB (oLen x81_45) fun x91_50 =>
 oB (bGe x87_48 x91_50) fun x92_51 =>
 oB (gq x92_51 false (some x80_44)) fun x94_52 =>
 oB (gq x92_51 false (some x81_45)) fun x95_53 =>
 oB (gq x92_51 false (some x87_48)) fun x96_54 =>
 oB (gq x92_51 false (binAV .andNot .no x96_54 (I 1))) fun x97_55 =>
 oB (gq x92_51 false (oIx 1 x95_53 x97_55)) fun x98_56 =>
 oB (gq x92_51 false (oLd h47 x98_56)) fun x99_57 =>
 oB (gq x92_51 false (bLt x94_52 x99_57)) fun x100_58 =>
 oB (oPick x92_51 (.bool true) x100_58) fun x101_59 =>
 oB (gq x101_59 false (some x81_45)) fun x103_60 =>
 oB (gq x101_59 false (some x87_48)) fun x104_61 =>
 oB (gq x101_59 false (binAV .or .no x104_61 (I 1))) fun x105_62 =>
 oB (gq x101_59 false (oIx 1 x103_60 x105_62)) fun x106_63 =>
 oB (gq x101_59 false (oLd h47 x106_63)) fun x107_64 =>
 oB (gq x101_59 false (some x80_44)) fun x108_65 =>
 oB (gq x101_59 false (bLt x107_64 x108_65)) fun x109_66 =>
 oB (oPick x101_59 (.bool true) x109_66) fun x110_67 =>
 ci x110_67 (
 some ((.bool false), h47)) (
 oB (bGe x0 (R 131072)) fun x112_68 =>
 ci x112_68 (
 some ((.bool true), h47)) (
 oB (bSub x0 (R 65536)) fun x114_69 =>
 oB (oInt .u16 x114_69) fun x118_70 =>
 oP (call n_strconv_bsearch_uint16_uint16 [x82_46, x118_70] h47) fun x119_71 h71 =>
 oB (oEx 0 x119_71) fun x120_72 =>
 oB (oEx 1 x119_71) fun x121_73 =>
 oB (evQ (.un .not (.c x121_73)) .e h71) fun x123_74 =>
 some (x123_74, h71)))))
theorem o_strconv_IsPrint : FnOK Tryz.prog n_strconv_IsPrint (a1 f_strconv_IsPrint) := ok1 mixed Tryz.func402 (by kernel_rfl)
/- strconv.isInGraphicList -/
noncomputable def f_strconv_isInGraphicList (n : Nat) (call : Caller)  (x0 : AV) (h : AH) : Ans :=
 oB (bGt x0 (R 65535)) fun x6_0 =>
 ci x6_0 (
 some ((.bool false), h)) (
 oB (evQ (.bad) .e h) fun x8_1 =>
 oB (oInt .u16 x0) fun x10_2 =>
 oP (call n_strconv_bsearch_uint16_uint16 [x8_1, x10_2] h) fun x11_3 h3 =>
 oB (oEx 0 x11_3) fun x12_4 =>
 oB (oEx 1 x11_3) fun x13_5 =>
 some (x13_5, h3))
theorem o_strconv_isInGraphicList : FnOK Tryz.prog n_strconv_isInGraphicList (a1 f_strconv_isInGraphicList) := ok1 mixed Tryz.func403 (by kernel_rfl)
/- unicode/utf8.AppendRune -/
noncomputable def f_unicode_utf8_AppendRune (n : Nat) (call : Caller)  (x0 x1 : AV) (h : AH) : Ans :=
 oB (oInt .u32 x1) fun x6_0 =>
 oB (bLe x6_0 (.int .u32 127)) fun x7_1 =>
 ci x7_1 (
 oB (oInt .u8 x1) fun x10_2 =>
 oP (oBuildSl h 5 1 1 [(U 0)] [(0, 1, x10_2)]) fun x11_3 h3 =>
 oP (evW (.append 5 1 1 [(U 0)] (.c x0) (.c x11_3)) .e h3) fun x12_4 h4 =>
 some (x12_4, h4)) (
 oP (call n_unicode_utf8_appendRuneNonASCII [x0, x1] h) fun x15_5 h5 =>
 some (x15_5, h5))
theorem o_unicode_utf8_AppendRune : FnOK Tryz.prog n_unicode_utf8_AppendRune (a2 f_unicode_utf8_AppendRune) := ok2 mixed Tryz.func404 (by kernel_rfl)
/- strconv.bsearch[[]uint16,uint16] -/
noncomputable def f_strconv_bsearch_uint16_uint16 (n : Nat) (call : Caller)  (x0 x1 : AV) (h : AH) : Ans :=
 oB (oLen x0) fun x11_0 =>
 jnF 4 (fun z7_1 z6_1 z1_1 z0_1 h1 =>
 oB' (nx 14 h1) fun h2 =>
 oB (bLt z7_1 z6_1) fun x34_3 =>
 oB (gq x34_3 true (some z0_1)) fun x36_4 =>
 oB (gq x34_3 true (some z7_1)) fun x37_5 =>
 oB (gq x34_3 true (oIx 1 x36_4 x37_5)) fun x38_6 =>
 oB (gq x34_3 true (oLd h2 x38_6)) fun x39_7 =>
 oB (gq x34_3 true (some z1_1)) fun x40_8 =>
 oB (gq x34_3 true (bEq .no x39_7 x40_8)) fun x41_9 =>
 oB (oPick x34_3 x41_9 (.bool false)) fun x42_10 =>
 some (.tup [z7_1, x42_10], h2)) fun j1 =>
 lpF 5 n (fun f11 y8_11 y7_11 y6_11 y1_11 y0_11 h11 =>
 oB (bLt y7_11 y8_11) fun x15_12 =>
 ci x15_12 (
 jnF 5 (fun z8_13 z7_13 z6_13 z1_13 z0_13 h13 =>
 f11 z8_13 z7_13 z6_13 z1_13 z0_13 h13) fun j13 =>
 oB (bSub y8_11 y7_11) fun x19_14 =>
 oB (binAV .shr .no x19_14 (.int .u64 1)) fun x20_15 =>
 oB (bAdd y7_11 x20_15) fun x21_16 =>
 oB (oIx 1 y0_11 x21_16) fun x24_17 =>
 oB (oLd h11 x24_17) fun x25_18 =>
 oB (bLt x25_18 y1_11) fun x27_19 =>
 jnF 5 (fun z8_20 z7_20 z6_20 z1_20 z0_20 h20 =>
 j13 z8_20 z7_20 z6_20 z1_20 z0_20 h20) fun j20 =>
 ci x27_19 (
 oB (bAdd x21_16 (I 1)) fun x29_21 =>
 j20 y8_11 x29_21 y6_11 y1_11 y0_11 h11) (
 j20 x21_16 y7_11 y6_11 y1_11 y0_11 h11)) (
 j1 y7_11 y6_11 y1_11 y0_11 h11)) x11_0 (I 0) x11_0 x1 x0 h
theorem o_strconv_bsearch_uint16_uint16 : FnOK Tryz.prog n_strconv_bsearch_uint16_uint16 (a2 f_strconv_bsearch_uint16_uint16) := ok2 mixed Tryz.func405 (by kernel_rfl)
/- strconv.bsearch[[]uint32,uint32] -/
noncomputable def f_strconv_bsearch_uint32_uint32 (n : Nat) (call : Caller)  (x0 x1 : AV) (h : AH) : Ans :=
 oB (oLen x0) fun x11_0 =>
 jnF 4 (fun z7_1 z6_1 z1_1 z0_1 h1 =>
 oB' (nx 14 h1) fun h2 =>
 oB (bLt z7_1 z6_1) fun x34_3 =>
 oB (gq x34_3 true (some z0_1)) fun x36_4 =>
 oB (gq x34_3 true (some z7_1)) fun x37_5 =>
 oB (gq x34_3 true (oIx 1 x36_4 x37_5)) fun x38_6 =>
 oB (gq x34_3 true (oLd h2 x38_6)) fun x39_7 =>
 oB (gq x34_3 true (some z1_1)) fun x40_8 =>
 oB (gq x34_3 true (bEq .no x39_7 x40_8)) fun x41_9 =>
 oB (oPick x34_3 x41_9 (.bool false)) fun x42_10 =>
 some (.tup [z7_1, x42_10], h2)) fun j1 =>
 lpF 5 n (fun f11 y8_11 y7_11 y6_11 y1_11 y0_11 h11 =>
 oB (bLt y7_11 y8_11) fun x15_12 =>
 ci x15_12 (
 jnF 5 (fun z8_13 z7_13 z6_13 z1_13 z0_13 h13 =>
 f11 z8_13 z7_13 z6_13 z1_13 z0_13 h13) fun j13 =>
 oB (bSub y8_11 y7_11) fun x19_14 =>
 oB (binAV .shr .no x19_14 (.int .u64 1)) fun x20_15 =>
 oB (bAdd y7_11 x20_15) fun x21_16 =>
 oB (oIx 1 y0_11 x21_16) fun x24_17 =>
 oB (oLd h11 x24_17) fun x25_18 =>
 oB (bLt x25_18 y1_11) fun x27_19 =>
 jnF 5 (fun z8_20 z7_20 z6_20 z1_20 z0_20 h20 =>
 j13 z8_20 z7_20 z6_20 z1_20 z0_20 h20) fun j20 =>
 ci x27_19 (
 oB (bAdd x21_16 (I 1)) fun x29_21 =>
 j20 y8_11 x29_21 y6_11 y1_11 y0_11 h11) (
 j20 x21_16 y7_11 y6_11 y1_11 y0_11 h11)) (
 j1 y7_11 y6_11 y1_11 y0_11 h11)) x11_0 (I 0) x11_0 x1 x0 h
theorem o_strconv_bsearch_uint32_uint32 : FnOK Tryz.prog n_strconv_bsearch_uint32_uint32 (a2 f_strconv_bsearch_uint32_uint32) := ok2 mixed Tryz.func406 (by kernel_rfl)
/- unicode/utf8.appendRuneNonASCII -/
noncomputable def f_unicode_utf8_appendRuneNonASCII (n : Nat) (call : Caller)  (x0 x1 : AV) (h : AH) : Ans :=
 oB (oInt .u32 x1) fun x7_0 =>
 jnF 1 (fun z4_1 h1 =>
 some (z4_1, h1)) fun j1 =>
 oB (bLe x7_0 (.int .u32 2047)) fun x13_2 =>
 ci x13_2 (
 oB (binAV .shr .no x1 (.int .u64 6)) fun x16_3 =>
 oB (oInt .u8 x16_3) fun x17_4 =>
 oB (binAV .or .no (U 192) x17_4) fun x18_5 =>
 oB (oInt .u8 x1) fun x20_6 =>
 oB (binAV .and .no x20_6 (U 63)) fun x21_7 =>
 oB (binAV .or .no (U 128) x21_7) fun x22_8 =>
 oP (oBuildSl h 5 1 2 [(U 0), (U 0)] [(0, 1, x18_5), (1, 1, x22_8)]) fun x23_9 h9 =>
 oP (evW (.append 5 1 1 [(U 0)] (.c x0) (.c x23_9)) .e h9) fun x24_10 h10 =>
 some (x24_10, h10)) (
 oB (bLt x7_0 (.int .u32 55296)) fun x27_11 =>
 jnF 4 (fun z25_12 z5_12 z1_12 z0_12 h12 =>
 ci z25_12 (
 oB (binAV .shr .no z1_12 (.int .u64 12)) fun x36_13 =>
 oB (oInt .u8 x36_13) fun x37_14 =>
 oB (binAV .or .no (U 224) x37_14) fun x38_15 =>
 oB (binAV .shr .no z1_12 (.int .u64 6)) fun x40_16 =>
 oB (oInt .u8 x40_16) fun x41_17 =>
 oB (binAV .and .no x41_17 (U 63)) fun x42_18 =>
 oB (binAV .or .no (U 128) x42_18) fun x43_19 =>
 oB (oInt .u8 z1_12) fun x45_20 =>
 oB (binAV .and .no x45_20 (U 63)) fun x46_21 =>
 oB (binAV .or .no (U 128) x46_21) fun x47_22 =>
 oP (oBuildSl h12 5 1 3 [(U 0), (U 0), (U 0)] [(0, 1, x38_15), (1, 1, x43_19), (2, 1, x47_22)]) fun x48_23 h23 =>
 oP (evW (.append 5 1 1 [(U 0)] (.c z0_12) (.c x48_23)) .e h23) fun x49_24 h24 =>
 some (x49_24, h24)) (
 oB (bGt z5_12 (.int .u32 65535)) fun x52_25 =>
 oB (gq x52_25 true (some z5_12)) fun x54_26 =>
 oB (gq x52_25 true (bLe x54_26 (.int .u32 1114111))) fun x55_27 =>
 oB (oPick x52_25 x55_27 (.bool false)) fun x56_28 =>
 ci x56_28 (
 oB (binAV .shr .no z1_12 (.int .u64 18)) fun x59_29 =>
 oB (oInt .u8 x59_29) fun x60_30 =>
 oB (binAV .or .no (U 240) x60_30) fun x61_31 =>
 oB (binAV .shr .no z1_12 (.int .u64 12)) fun x63_32 =>
 oB (oInt .u8 x63_32) fun x64_33 =>
 oB (binAV .and .no x64_33 (U 63)) fun x65_34 =>
 oB (binAV .or .no (U 128) x65_34) fun x66_35 =>
 oB (binAV .shr .no z1_12 (.int .u64 6)) fun x68_36 =>
 oB (oInt .u8 x68_36) fun x69_37 =>
 oB (binAV .and .no x69_37 (U 63)) fun x70_38 =>
 oB (binAV .or .no (U 128) x70_38) fun x71_39 =>
 oB (oInt .u8 z1_12) fun x73_40 =>
 oB (binAV .and .no x73_40 (U 63)) fun x74_41 =>
 oB (binAV .or .no (U 128) x74_41) fun x75_42 =>
 oP (oBuildSl h12 5 1 4 [(U 0), (U 0), (U 0), (U 0)] [(0, 1, x61_31), (1, 1, x66_35), (2, 1, x71_39), (3, 1, x75_42)]) fun x76_43 h43 =>
 oP (evW (.append 5 1 1 [(U 0)] (.c z0_12) (.c x76_43)) .e h43) fun x77_44 h44 =>
 some (x77_44, h44)) (
 oP (oBuildSl h12 5 1 3 [(U 0), (U 0), (U 0)] [(0, 1, (U 239)), (1, 1, (U 191)), (2, 1, (U 189))]) fun x9_45 h45 =>
 oP (evW (.append 5 1 1 [(U 0)] (.c z0_12) (.c x9_45)) .e h45) fun x10_46 h46 =>
 some (x10_46, h46)))) fun j12 =>
 ci x27_11 (
 j12 x27_11 x7_0 x1 x0 h) (
 oB (bLt (.int .u32 57343) x7_0) fun x29_47 =>
 oB (gq x29_47 true (some x7_0)) fun x31_48 =>
 oB (gq x29_47 true (bLe x31_48 (.int .u32 65535))) fun x32_49 =>
 oB (oPick x29_47 x32_49 (.bool false)) fun x33_50 =>
 j12 x33_50 x7_0 x1 x0 h))
theorem o_unicode_utf8_appendRuneNonASCII : FnOK Tryz.prog n_unicode_utf8_appendRuneNonASCII (a2 f_unicode_utf8_appendRuneNonASCII) := ok2 mixed Tryz.func407 (by kernel_rfl)
/- (corrector/quote.plain).tell -/
noncomputable def f_quote_plain_tell (n : Nat) (call : Caller)  (x0 : AV) (h : AH) : Ans :=
 some (.tup [x0, .nils, (.bool true)], h)
theorem o_quote_plain_tell : FnOK Tryz.prog n_quote_plain_tell (a1 f_quote_plain_tell) := ok1 mixed Tryz.func427 (by kernel_rfl)
/- (corrector/quote.single).tell -/
noncomputable def f_quote_single_tell (n : Nat) (call : Caller)  (x0 : AV) (h : AH) : Ans :=
 oP (oNew h 59 [.nilp, .nils]) fun x5_0 h0 =>
 jnF 1 (fun z5_1 h1 =>
 oP (call n_strings_Builder_String [z5_1] h1) fun x38_2 h2 =>
 some (.tup [x38_2, .nils, (.bool false)], h2)) fun j1 =>
 lpF 3 n (fun f3 y7_3 y6_3 y5_3 h3 =>
 oB (oLenS y6_3) fun x11_4 =>
 oB (bLt y7_3 x11_4) fun x12_5 =>
 ci x12_5 (
 jnF 3 (fun z7_6 z6_6 z5_6 h6 =>
 oB (bAdd z7_6 (I 1)) fun x14_7 =>
 f3 x14_7 z6_6 z5_6 h6) fun j6 =>
 oB (oIxS y6_3 y7_3) fun x17_8 =>
 oB (bEq .no x17_8 (U 39)) fun x18_9 =>
 jnF 3 (fun z7_10 z6_10 z5_10 h10 =>
 oB (oIxS z6_10 z7_10) fun x36_11 =>
 oP (call n_strings_Builder_WriteByte [z5_10, x36_11] h10) fun x37_12 h12 =>
 j6 z7_10 z6_10 z5_10 h12) fun j10 =>
 ci x18_9 (
 oB (bAdd y7_3 (I 1)) fun x20_13 =>
 oB (oLenS y6_3) fun x22_14 =>
 oB (bEq .no x20_13 x22_14) fun x23_15 =>
 oB (gq x23_15 false (some y6_3)) fun x25_16 =>
 oB (gq x23_15 false (some y7_3)) fun x26_17 =>
 oB (gq x23_15 false (bAdd x26_17 (I 1))) fun x27_18 =>
 oB (gq x23_15 false (oIxS x25_16 x27_18)) fun x28_19 =>
 oB (gq x23_15 false (bNe .no x28_19 (U 39))) fun x29_20 =>
 oB (oPick x23_15 (.bool true) x29_20) fun x30_21 =>
 ci x30_21 (
 oP (call n_strings_Builder_String [y5_3] h3) fun x31_22 h22 =>
 some (.tup [x31_22, .nils, (.bool true)], h22)) (
 oB (bAdd y7_3 (I 1)) fun x33_23 =>
 j10 x33_23 y6_3 y5_3 h3)) (
 j10 y7_3 y6_3 y5_3 h3)) (
 j1 y5_3 h3)) (I 1) x0 x5_0 h0
theorem o_quote_single_tell : FnOK Tryz.prog n_quote_single_tell (a1 f_quote_single_tell) := ok1 mixed Tryz.func428 (by kernel_rfl)
/- (corrector/quote.double).tell -/
noncomputable def f_quote_double_tell (n : Nat) (call : Caller)  (x0 : AV) (h : AH) : Ans :=
 oP (oNew h 59 [.nilp, .nils]) fun x5_0 h0 =>
 jnF 2 (fun z6_1 z5_1 h1 =>
 oP (call n_strings_Builder_String [z5_1] h1) fun x49_2 h2 =>
 some (.tup [x49_2, z6_1, (.bool false)], h2)) fun j1 =>
 lpF 4 n (fun f3 y8_3 y7_3 y6_3 y5_3 h3 =>
 oB (oLenS y7_3) fun x14_4 =>
 oB (bLt y8_3 x14_4) fun x15_5 =>
 ci x15_5 (
 jnF 4 (fun z8_6 z7_6 z6_6 z5_6 h6 =>
 f3 z8_6 z7_6 z6_6 z5_6 h6) fun j6 =>
 oB (oIxS y7_3 y8_3) fun x18_7 =>
 oB (bEq .no x18_7 (U 34)) fun x19_8 =>
 ci x19_8 (
 oP (call n_strings_Builder_String [y5_3] h3) fun x20_9 h9 =>
 some (.tup [x20_9, y6_3, (.bool true)], h9)) (
 oB (oSlS y7_3 (some y8_3) none) fun x25_10 =>
 oP (call n_chars_Escape [x25_10] h3) fun x26_11 h11 =>
 oB (oEx 0 x26_11) fun x27_12 =>
 oB (oEx 1 x26_11) fun x28_13 =>
 oB (bEq .no x28_13 (I 0)) fun x30_14 =>
 jnF 6 (fun z10_15 z9_15 z8_15 z7_15 z6_15 z5_15 h15 =>
 oP (call n_strings_Builder_WriteString [z5_15, z9_15] h15) fun x45_16 h16 =>
 oB (bAdd z8_15 z10_15) fun x48_17 =>
 j6 x48_17 z7_15 z6_15 z5_15 h16) fun j15 =>
 ci x30_14 (
 oB (bAdd y8_3 (I 1)) fun x34_18 =>
 oB (oSlS y7_3 (some y8_3) (some x34_18)) fun x35_19 =>
 oB (oIxS y7_3 y8_3) fun x38_20 =>
 oB (bEq .no x38_20 (U 92)) fun x39_21 =>
 jnF 6 (fun z10_22 z9_22 z8_22 z7_22 z6_22 z5_22 h22 =>
 j15 z10_22 z9_22 z8_22 z7_22 z6_22 z5_22 h22) fun j22 =>
 ci x39_21 (
 oP (oBuildSl h11 3 1 1 [(I 0)] [(0, 1, y8_3)]) fun x42_23 h23 =>
 oP (evW (.append 3 1 8 [(I 0)] (.c y6_3) (.c x42_23)) .e h23) fun x43_24 h24 =>
 j22 (I 1) x35_19 y8_3 y7_3 x43_24 y5_3 h24) (
 j22 (I 1) x35_19 y8_3 y7_3 y6_3 y5_3 h11)) (
 j15 x28_13 x27_12 y8_3 y7_3 y6_3 y5_3 h11))) (
 j1 y6_3 y5_3 h3)) (I 1) x0 .nils x5_0 h0
theorem o_quote_double_tell : FnOK Tryz.prog n_quote_double_tell (a1 f_quote_double_tell) := ok1 mixed Tryz.func429 (by kernel_rfl)
/- corrector/chars.Escape -/
noncomputable def f_chars_Escape (n : Nat) (call : Caller)  (x0 : AV) (h : AH) : Ans :=
 oB (oLenS x0) fun x9_0 =>
 oB (bLt x9_0 (I 2)) fun x10_1 =>
 oB (gq x10_1 false (some x0)) fun x12_2 =>
 oB (gq x10_1 false (oIxS x12_2 (I 0))) fun x13_3 =>
 oB (gq x10_1 false (bNe .no x13_3 (U 92))) fun x14_4 =>
 oB (oPick x10_1 (.bool true) x14_4) fun x15_5 =>
 ci x15_5 (
 some (.tup [(.str []), (I 0)], h)) (
 oB (oIxS x0 (I 1)) fun x18_6 =>
 oP (call n_chars_plain [x18_6] h) fun x19_7 h7 =>
 oB (oEx 0 x19_7) fun x20_8 =>
 oB (oEx 1 x19_7) fun x21_9 =>
 ci x21_9 (
 some (.tup [x20_8, (I 2)], h7)) (
 oB (oIxS x0 (I 1)) fun x25_10 =>
 oP (call n_chars_digits [x25_10] h7) fun x26_11 h11 =>
 oB (bEq .no x26_11 (I 0)) fun x28_12 =>
 oB (gq x28_12 false (some x0)) fun x30_13 =>
 oB (gq x28_12 false (oLenS x30_13)) fun x31_14 =>
 oB (gq x28_12 false (some x26_11)) fun x32_15 =>
 oB (gq x28_12 false (bAdd (I 2) x32_15)) fun x33_16 =>
 oB (gq x28_12 false (bLt x31_14 x33_16)) fun x34_17 =>
 oB (oPick x28_12 (.bool true) x34_17) fun x35_18 =>
 ci x35_18 (
 some (.tup [(.str []), (I 0)], h11)) (
 oB (bAdd (I 2) x26_11) fun x38_19 =>
 oB (oSlS x0 (some (I 2)) (some x38_19)) fun x39_20 =>
 oP (call n_chars_number [x39_20] h11) fun x40_21 h21 =>
 oB (bLt x40_21 (I 0)) fun x42_22 =>
 oB (gq x42_22 false (some x40_21)) fun x44_23 =>
 oB (gq x42_22 false (bGt x44_23 (I 1114111))) fun x45_24 =>
 oB (oPick x42_22 (.bool true) x45_24) fun x46_25 =>
 oB (gq x46_25 false (some x40_21)) fun x48_26 =>
 oB (gq x46_25 false (oInt .i32 x48_26)) fun x49_27 =>
 oP (gw x46_25 false (call n_unicode_utf8_ValidRune [x49_27] h21) h21) fun x50_28 h28 =>
 oB (gq x46_25 false (evQ (.un .not (.c x50_28)) .e h28)) fun x51_29 =>
 oB (oPick x46_25 (.bool true) x51_29) fun x52_30 =>
 ci x52_30 (
 some (.tup [(.str []), (I 0)], h28)) (
 oB (oInt .i32 x40_21) fun x54_31 =>
 oB (evQ (.toStr (.c x54_31)) .e h28) fun x55_32 =>
 oB (bAdd (I 2) x26_11) fun x57_33 =>
 some (.tup [x55_32, x57_33], h28)))))
theorem o_chars_Escape : FnOK Tryz.prog n_chars_Escape (a1 f_chars_Escape) := ok1 mixed Tryz.func430 (by kernel_rfl)
/- corrector/chars.plain -/
noncomputable def f_chars_plain (n : Nat) (call : Caller)  (x0 : AV) (h : AH) : Ans :=
 jnF 1 (fun z0_0 h0 =>
 oP (call n_strings_IndexByte [(.str [34, 47, 92, 32]), z0_0] h0) fun x16_1 h1 =>
 oB (bGe x16_1 (I 0)) fun x17_2 =>
 ci x17_2 (
 oB (oInt .i32 z0_0) fun x19_3 =>
 oB (evQ (.toStr (.c x19_3)) .e h1) fun x20_4 =>
 some (.tup [x20_4, (.bool true)], h1)) (
 some (.tup [(.str []), (.bool false)], h1))) fun j0 =>
 oB (bEq .no x0 (U 48)) fun x6_5 =>
 ci x6_5 (
 some (.tup [(.str [0]), (.bool true)], h)) (
 oB (bEq .no x0 (U 116)) fun x8_6 =>
 ci x8_6 (
 some (.tup [(.str [9]), (.bool true)], h)) (
 oB (bEq .no x0 (U 110)) fun x10_7 =>
 ci x10_7 (
 some (.tup [(.str [10]), (.bool true)], h)) (
 oB (bEq .no x0 (U 114)) fun x12_8 =>
 ci x12_8 (
 some (.tup [(.str [13]), (.bool true)], h)) (
 oB (bEq .no x0 (U 101)) fun x14_9 =>
 ci x14_9 (
 some (.tup [(.str [27]), (.bool true)], h)) (
 j0 x0 h)))))
theorem o_chars_plain : FnOK Tryz.prog n_chars_plain (a1 f_chars_plain) := ok1 mixed Tryz.func431 (by kernel_rfl)
/- corrector/chars.digits -/
noncomputable def f_chars_digits (n : Nat) (call : Caller)  (x0 : AV) (h : AH) : Ans :=
 jnF 0 (fun h0 =>
 some ((I 0), h0)) fun j0 =>
 oB (bEq .no x0 (U 120)) fun x5_1 =>
 ci x5_1 (
 some ((I 2), h)) (
 oB (bEq .no x0 (U 117)) fun x7_2 =>
 ci x7_2 (
 some ((I 4), h)) (
 oB (bEq .no x0 (U 85)) fun x9_3 =>
 ci x9_3 (
 some ((I 8), h)) (
 j0 h)))
theorem o_chars_digits : FnOK Tryz.prog n_chars_digits (a1 f_chars_digits) := ok1 mixed Tryz.func432 (by kernel_rfl)
/- corrector/chars.number -/
noncomputable def f_chars_number (n : Nat) (call : Caller)  (x0 : AV) (h : AH) : Ans :=
 oP (evW (.rangeS (.c x0)) .e h) fun x7_0 h0 =>
 jnF 1 (fun z3_1 h1 =>
 some (z3_1, h1)) fun j1 =>
 lpF 2 n (fun f2 y7_2 y3_2 h2 =>
 oP (evW (.nextS (.c y7_2)) .e h2) fun x8_3 h3 =>
 oB (oEx 0 x8_3) fun x9_4 =>
 ci x9_4 (
 jnF 2 (fun z7_5 z3_5 h5 =>
 f2 z7_5 z3_5 h5) fun j5 =>
 oB (oEx 2 x8_3) fun x10_6 =>
 jnF 2 (fun z7_7 z3_7 h7 =>
 j5 z7_7 z3_7 h7) fun j7 =>
 oB (bGe x10_6 (R 48)) fun x13_8 =>
 oB (gq x13_8 true (some x10_6)) fun x15_9 =>
 oB (gq x13_8 true (bLe x15_9 (R 57))) fun x16_10 =>
 oB (oPick x13_8 x16_10 (.bool false)) fun x17_11 =>
 jnF 2 (fun z7_12 z3_12 h12 =>
 j7 z7_12 z3_12 h12) fun j12 =>
 ci x17_11 (
 oB (binAV .mul .no (I 16) y3_2) fun x19_13 =>
 oB (bSub x10_6 (R 48)) fun x21_14 =>
 oB (oInt .i64 x21_14) fun x22_15 =>
 oB (bAdd x19_13 x22_15) fun x23_16 =>
 j12 y7_2 x23_16 h3) (
 oB (bGe x10_6 (R 97)) fun x26_17 =>
 oB (gq x26_17 true (some x10_6)) fun x28_18 =>
 oB (gq x26_17 true (bLe x28_18 (R 102))) fun x29_19 =>
 oB (oPick x26_17 x29_19 (.bool false)) fun x30_20 =>
 jnF 2 (fun z7_21 z3_21 h21 =>
 j12 z7_21 z3_21 h21) fun j21 =>
 ci x30_20 (
 oB (binAV .mul .no (I 16) y3_2) fun x32_22 =>
 oB (bSub x10_6 (R 97)) fun x34_23 =>
 oB (oInt .i64 x34_23) fun x35_24 =>
 oB (bAdd x32_22 x35_24) fun x36_25 =>
 oB (bAdd x36_25 (I 10)) fun x37_26 =>
 j21 y7_2 x37_26 h3) (
 oB (bGe x10_6 (R 65)) fun x40_27 =>
 oB (gq x40_27 true (some x10_6)) fun x42_28 =>
 oB (gq x40_27 true (bLe x42_28 (R 70))) fun x43_29 =>
 oB (oPick x40_27 x43_29 (.bool false)) fun x44_30 =>
 ci x44_30 (
 oB (binAV .mul .no (I 16) y3_2) fun x46_31 =>
 oB (bSub x10_6 (R 65)) fun x48_32 =>
 oB (oInt .i64 x48_32) fun x49_33 =>
 oB (bAdd x46_31 x49_33) fun x50_34 =>
 oB (bAdd x50_34 (I 10)) fun x51_35 =>
 j21 y7_2 x51_35 h3) (
 some ((Ineg 0), h3))))) (
 j1 y3_2 h3)) x7_0 (I 0) h0
theorem o_chars_number : FnOK Tryz.prog n_chars_number (a1 f_chars_number) := ok1 mixed Tryz.func433 (by kernel_rfl)
end Go.Proofs.YtmlhpcflphlgdaaGreatDoor
