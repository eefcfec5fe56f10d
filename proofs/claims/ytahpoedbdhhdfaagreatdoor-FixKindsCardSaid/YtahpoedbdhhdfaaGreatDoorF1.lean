/- Functions, as they run. PRINTED by a program of this repo. -/
import Derived.Test.YtahpoedbdhhdfaaGreatDoorN
import Derived.Test.YtahpoedbdhhdfaaGreatDoorM
set_option linter.unusedVariables false
set_option maxRecDepth 100000
namespace Go.Proofs.YtahpoedbdhhdfaaGreatDoor
open Go.Ev
/- (*corrector/lint.finder).empty -/
noncomputable def f_lint_finder_empty (n : Nat) (call : Caller)  (x0 : AV) (h : AH) : Ans :=
 oB (oNil x0) fun x8_0 =>
 oB (oFA 16 x8_0) fun x9_1 =>
 oB (oLd h x9_1) fun x10_2 =>
 oB (oLen x10_2) fun x11_3 =>
 jnF 0 (fun h4 =>
 some (.tup [], h4)) fun j4 =>
 lpF 5 n (fun f5 y12_5 y11_5 y10_5 y2_5 y0_5 h5 =>
 oB (bLt y12_5 y11_5) fun x13_6 =>
 ci x13_6 (
 jnF 5 (fun z12_7 z11_7 z10_7 z2_7 z0_7 h7 =>
 oB (bAdd z12_7 (I 1)) fun x50_8 =>
 f5 x50_8 z11_7 z10_7 z2_7 z0_7 h7) fun j7 =>
 oB (oIx 4 y10_5 y12_5) fun x14_9 =>
 oB (oLdN 4 h5 x14_9) fun x15_10 =>
 oP (oNew h5 125 [(I 0), (I 0), (I 0), (I 0)]) fun x4_11 h11 =>
 oP (oSt 4 h11 x4_11 x15_10) fun _ h12 =>
 oB' (nx 15 h12) fun h13 =>
 oB (oFA 0 x4_11) fun x16_14 =>
 oB (oLd h13 x16_14) fun x17_15 =>
 oB (bNe .no x17_15 (I 1)) fun x18_16 =>
 oB (gq x18_16 false (some y0_5)) fun x20_17 =>
 oB (gq x18_16 false (oNil x20_17)) fun x21_18 =>
 oB (gq x18_16 false (oFA 15 x21_18)) fun x22_19 =>
 oB (gq x18_16 false (oLd h13 x22_19)) fun x23_20 =>
 oB (gq x18_16 false (oFA 1 x4_11)) fun x24_21 =>
 oB (gq x18_16 false (oLd h13 x24_21)) fun x25_22 =>
 oB (gq x18_16 false (oFA 2 x4_11)) fun x26_23 =>
 oB (gq x18_16 false (oLd h13 x26_23)) fun x27_24 =>
 oB (gq x18_16 false (evQ (.sl 3 (.c x23_20) (some (.c x25_22)) (some (.c x27_24)) none) .e h13)) fun x28_25 =>
 oP (gw x18_16 false (call n_slices_ContainsFunc_api_Token_api_Token [x28_25, (.fn 74 [] [])] h13) h13) fun x29_26 h26 =>
 oB (oPick x18_16 (.bool true) x29_26) fun x30_27 =>
 ci x30_27 (
 j7 y12_5 y11_5 y10_5 (I 0) y0_5 h26) (
 oB (bAdd y2_5 (I 1)) fun x32_28 =>
 oB (oNil y0_5) fun x35_29 =>
 oB (oFA 1 x35_29) fun x36_30 =>
 oB (oFA 12 x36_30) fun x37_31 =>
 oB (oLd h26 x37_31) fun x38_32 =>
 oB (bGt x32_28 x38_32) fun x39_33 =>
 jnF 5 (fun z12_34 z11_34 z10_34 z2_34 z0_34 h34 =>
 j7 z12_34 z11_34 z10_34 z2_34 z0_34 h34) fun j34 =>
 ci x39_33 (
 oB (oLdN 4 h26 x4_11) fun x42_35 =>
 oP (call n_lint_finder_bytes [y0_5, x42_35] h26) fun x43_36 h36 =>
 oB (oEx 0 x43_36) fun x44_37 =>
 oB (oEx 1 x43_36) fun x45_38 =>
 oP (call n_lint_finder_find [y0_5, (I 4), x44_37, x45_38] h36) fun x49_39 h39 =>
 j34 y12_5 y11_5 y10_5 x32_28 y0_5 h39) (
 j34 y12_5 y11_5 y10_5 x32_28 y0_5 h26))) (
 j4 h5)) (I 0) x11_3 x10_2 (I 0) x0 h
theorem o_lint_finder_empty : FnOK Tryz.prog n_lint_finder_empty (a1 f_lint_finder_empty) := ok1 mixed Tryz.func30 (by kernel_rfl)
/- (*corrector/lint.finder).mark -/
noncomputable def f_lint_finder_mark (n : Nat) (call : Caller)  (x0 : AV) (h : AH) : Ans :=
 oB (oNil x0) fun x4_0 =>
 oB (oFA 15 x4_0) fun x5_1 =>
 oB (oLd h x5_1) fun x6_2 =>
 oP (call n_slices_IndexFunc_api_Token_api_Token [x6_2, (.fn 76 [] [])] h) fun x7_3 h3 =>
 oB (bGe x7_3 (I 0)) fun x9_4 =>
 oB (gq x9_4 true (some x0)) fun x11_5 =>
 oB (gq x9_4 true (oNil x11_5)) fun x12_6 =>
 oB (gq x9_4 true (oFA 15 x12_6)) fun x13_7 =>
 oB (gq x9_4 true (oLd h3 x13_7)) fun x14_8 =>
 oB (gq x9_4 true (some x7_3)) fun x15_9 =>
 oB (gq x9_4 true (oIx 3 x14_8 x15_9)) fun x16_10 =>
 oB (gq x9_4 true (oFA 0 x16_10)) fun x17_11 =>
 oB (gq x9_4 true (oLd h3 x17_11)) fun x18_12 =>
 oB (gq x9_4 true (bNe .no x18_12 (I 20))) fun x19_13 =>
 oB (oPick x9_4 x19_13 (.bool false)) fun x20_14 =>
 jnF 0 (fun h15 =>
 some (.tup [], h15)) fun j15 =>
 ci x20_14 (
 oP (call n_lint_finder_find [x0, (I 5), (I 0), (I 0)] h3) fun x22_16 h16 =>
 j15 h16) (
 j15 h3)
theorem o_lint_finder_mark : FnOK Tryz.prog n_lint_finder_mark (a1 f_lint_finder_mark) := ok1 mixed Tryz.func31 (by kernel_rfl)
/- (*corrector/lint.finder).hash -/
noncomputable def f_lint_finder_hash (n : Nat) (call : Caller)  (x0 : AV) (h : AH) : Ans :=
 oB (oNil x0) fun x6_0 =>
 oB (oFA 15 x6_0) fun x7_1 =>
 oB (oLd h x7_1) fun x8_2 =>
 oB (oLen x8_2) fun x9_3 =>
 jnF 0 (fun h4 =>
 some (.tup [], h4)) fun j4 =>
 lpF 4 n (fun f5 y10_5 y9_5 y8_5 y0_5 h5 =>
 oB (bLt y10_5 y9_5) fun x11_6 =>
 ci x11_6 (
 jnF 4 (fun z10_7 z9_7 z8_7 z0_7 h7 =>
 oB (bAdd z10_7 (I 1)) fun x52_8 =>
 f5 x52_8 z9_7 z8_7 z0_7 h7) fun j7 =>
 oB (oIx 3 y8_5 y10_5) fun x12_9 =>
 oB (oLdN 3 h5 x12_9) fun x13_10 =>
 oP (oNew h5 131 [(I 0), (I 0), (I 0)]) fun x3_11 h11 =>
 oP (oSt 3 h11 x3_11 x13_10) fun _ h12 =>
 oB (oFA 0 x3_11) fun x14_13 =>
 oB (oLd h12 x14_13) fun x15_14 =>
 oB (bNe .no x15_14 (I 4)) fun x16_15 =>
 oB (gq x16_15 false (oFA 2 x3_11)) fun x18_16 =>
 oB (gq x16_15 false (oLd h12 x18_16)) fun x19_17 =>
 oB (gq x16_15 false (oFA 1 x3_11)) fun x20_18 =>
 oB (gq x16_15 false (oLd h12 x20_18)) fun x21_19 =>
 oB (gq x16_15 false (bAdd x21_19 (I 1))) fun x22_20 =>
 oB (gq x16_15 false (bEq .no x19_17 x22_20)) fun x23_21 =>
 oB (oPick x16_15 (.bool true) x23_21) fun x24_22 =>
 ci x24_22 (
 j7 y10_5 y9_5 y8_5 y0_5 h12) (
 oB' (nx 10 h12) fun h23 =>
 oB (oNil y0_5) fun x26_24 =>
 oB (oFA 0 x26_24) fun x27_25 =>
 oB (oLd h23 x27_25) fun x28_26 =>
 oB (oFA 1 x3_11) fun x29_27 =>
 oB (oLd h23 x29_27) fun x30_28 =>
 oB (bAdd x30_28 (I 1)) fun x31_29 =>
 oB (oIx 1 x28_26 x31_29) fun x32_30 =>
 oB (oLd h23 x32_30) fun x33_31 =>
 oP (call n_chars_Blank [x33_31] h23) fun x35_32 h32 =>
 oB (evQ (.un .not (.c x35_32)) .e h32) fun x36_33 =>
 oB (gq x36_33 true (some x33_31)) fun x38_34 =>
 oB (gq x36_33 true (bNe .no x38_34 (U 35))) fun x39_35 =>
 oB (oPick x36_33 x39_35 (.bool false)) fun x40_36 =>
 oB (gq x40_36 true (some x33_31)) fun x42_37 =>
 oB (gq x40_36 true (bNe .no x42_37 (U 33))) fun x43_38 =>
 oB (oPick x40_36 x43_38 (.bool false)) fun x44_39 =>
 jnF 4 (fun z10_40 z9_40 z8_40 z0_40 h40 =>
 j7 z10_40 z9_40 z8_40 z0_40 h40) fun j40 =>
 ci x44_39 (
 oB (oFA 1 x3_11) fun x46_41 =>
 oB (oLd h32 x46_41) fun x47_42 =>
 oB (oFA 1 x3_11) fun x48_43 =>
 oB (oLd h32 x48_43) fun x49_44 =>
 oB (bAdd x49_44 (I 1)) fun x50_45 =>
 oP (call n_lint_finder_find [y0_5, (I 6), x47_42, x50_45] h32) fun x51_46 h46 =>
 j40 y10_5 y9_5 y8_5 y0_5 h46) (
 j40 y10_5 y9_5 y8_5 y0_5 h32))) (
 j4 h5)) (I 0) x9_3 x8_2 x0 h
theorem o_lint_finder_hash : FnOK Tryz.prog n_lint_finder_hash (a1 f_lint_finder_hash) := ok1 mixed Tryz.func32 (by kernel_rfl)
/- (*corrector/lint.finder).comma -/
noncomputable def f_lint_finder_comma (n : Nat) (call : Caller)  (x0 : AV) (h : AH) : Ans :=
 oB (oNil x0) fun x6_0 =>
 oB (oFA 15 x6_0) fun x7_1 =>
 oB (oLd h x7_1) fun x8_2 =>
 oB (oLen x8_2) fun x9_3 =>
 jnF 0 (fun h4 =>
 some (.tup [], h4)) fun j4 =>
 lpF 4 n (fun f5 y10_5 y9_5 y8_5 y0_5 h5 =>
 oB (bLt y10_5 y9_5) fun x11_6 =>
 ci x11_6 (
 jnF 4 (fun z10_7 z9_7 z8_7 z0_7 h7 =>
 oB (bAdd z10_7 (I 1)) fun x40_8 =>
 f5 x40_8 z9_7 z8_7 z0_7 h7) fun j7 =>
 oB (oIx 3 y8_5 y10_5) fun x13_9 =>
 oB (oLdN 3 h5 x13_9) fun x14_10 =>
 oP (oNew h5 131 [(I 0), (I 0), (I 0)]) fun x3_11 h11 =>
 oP (oSt 3 h11 x3_11 x14_10) fun _ h12 =>
 oB (bAdd y10_5 (I 1)) fun x17_13 =>
 oP (call n_lint_finder_kind [y0_5, x17_13] h12) fun x18_14 h14 =>
 oB (oFA 0 x3_11) fun x19_15 =>
 oB (oLd h14 x19_15) fun x20_16 =>
 oB (bEq .no x20_16 (I 7)) fun x21_17 =>
 oB (gq x21_17 true (some x18_14)) fun x23_18 =>
 oB (gq x21_17 true (bNe .no x23_18 (I 0))) fun x24_19 =>
 oB (oPick x21_17 x24_19 (.bool false)) fun x25_20 =>
 oB (gq x25_20 true (some x18_14)) fun x27_21 =>
 oB (gq x25_20 true (bNe .no x27_21 (I 3))) fun x28_22 =>
 oB (oPick x25_20 x28_22 (.bool false)) fun x29_23 =>
 oB (gq x29_23 true (some x18_14)) fun x31_24 =>
 oB (gq x29_23 true (bNe .no x31_24 (I 1))) fun x32_25 =>
 oB (oPick x29_23 x32_25 (.bool false)) fun x33_26 =>
 jnF 4 (fun z10_27 z9_27 z8_27 z0_27 h27 =>
 j7 z10_27 z9_27 z8_27 z0_27 h27) fun j27 =>
 ci x33_26 (
 oB (oFA 1 x3_11) fun x35_28 =>
 oB (oLd h14 x35_28) fun x36_29 =>
 oB (oFA 2 x3_11) fun x37_30 =>
 oB (oLd h14 x37_30) fun x38_31 =>
 oP (call n_lint_finder_find [y0_5, (I 7), x36_29, x38_31] h14) fun x39_32 h32 =>
 j27 y10_5 y9_5 y8_5 y0_5 h32) (
 j27 y10_5 y9_5 y8_5 y0_5 h14)) (
 j4 h5)) (I 0) x9_3 x8_2 x0 h
theorem o_lint_finder_comma : FnOK Tryz.prog n_lint_finder_comma (a1 f_lint_finder_comma) := ok1 mixed Tryz.func33 (by kernel_rfl)
/- (*corrector/lint.finder).twice -/
noncomputable def f_lint_finder_twice (n : Nat) (call : Caller)  (x0 : AV) (h : AH) : Ans :=
 oP (oNew h 77 (AV.cells x0)) fun x1_0 h0 =>
 oB (oLd h0 x1_0) fun x12_1 =>
 oB (oNil x12_1) fun x13_2 =>
 oB (oFA 17 x13_2) fun x14_3 =>
 oB (oFA 0 x14_3) fun x15_4 =>
 oB (oLd h0 x15_4) fun x16_5 =>
 oB (oLen x16_5) fun x17_6 =>
 jnF 0 (fun h7 =>
 some (.tup [], h7)) fun j7 =>
 lpF 4 n (fun f8 y18_8 y17_8 y16_8 y1_8 h8 =>
 oB (bLt y18_8 y17_8) fun x19_9 =>
 ci x19_9 (
 jnF 4 (fun z18_10 z17_10 z16_10 z1_10 h10 =>
 oB (bAdd z18_10 (I 1)) fun x114_11 =>
 f8 x114_11 z17_10 z16_10 z1_10 h10) fun j10 =>
 oB (oIx 6 y16_8 y18_8) fun x21_12 =>
 oB (oLdN 6 h8 x21_12) fun x22_13 =>
 oP (oNew h8 98 [(I 0), (I 0), (I 0), (I 0), .nils, (.bool false)]) fun x3_14 h14 =>
 oP (oSt 6 h14 x3_14 x22_13) fun _ h15 =>
 oB (oFA 0 x3_14) fun x23_16 =>
 oB (oLd h15 x23_16) fun x24_17 =>
 oB (bNe .no x24_17 (I 5)) fun x25_18 =>
 oB (gq x25_18 true (oFA 0 x3_14)) fun x27_19 =>
 oB (gq x25_18 true (oLd h15 x27_19)) fun x28_20 =>
 oB (gq x25_18 true (bNe .no x28_20 (I 10))) fun x29_21 =>
 oB (oPick x25_18 x29_21 (.bool false)) fun x30_22 =>
 ci x30_22 (
 j10 y18_8 y17_8 y16_8 y1_8 h15) (
 oB (oFA 4 x3_14) fun x31_23 =>
 oB (oLd h15 x31_23) fun x32_24 =>
 oP (call n_slices_Clone_int_int [x32_24] h15) fun x33_25 h25 =>
 oB (some (.fn n_lint_finder_twice_1 [] [y1_8])) fun x34_26 =>
 oP (call n_slices_DeleteFunc_int_int [x33_25, x34_26] h25) fun x35_27 h27 =>
 oB' (nx 15 h27) fun h28 =>
 oB (oLd h28 y1_8) fun x36_29 =>
 oB (oNil x36_29) fun x37_30 =>
 oB (oFA 18 x37_30) fun x38_31 =>
 oB (oLdN 3 h28 x38_31) fun x39_32 =>
 oB (oLd h28 y1_8) fun x40_33 =>
 oB (oNil x40_33) fun x41_34 =>
 oB (oFA 18 x41_34) fun x42_35 =>
 oB (oFA 2 x42_35) fun x43_36 =>
 oB (oLd h28 x43_36) fun x44_37 =>
 oB (oIx 1 x44_37 y18_8) fun x46_38 =>
 oB (oLd h28 x46_38) fun x47_39 =>
 oP (call n_equal_Twice [x39_32, x47_39] h28) fun x48_40 h40 =>
 oB (oLen x48_40) fun x49_41 =>
 jnF 4 (fun z18_42 z17_42 z16_42 z1_42 h42 =>
 j10 z18_42 z17_42 z16_42 z1_42 h42) fun j42 =>
 lpF 8 n (fun f43 y50_43 y49_43 y48_43 y18_43 y17_43 y16_43 y4_43 y1_43 h43 =>
 oB (bLt y50_43 y49_43) fun x51_44 =>
 ci x51_44 (
 jnF 8 (fun z50_45 z49_45 z48_45 z18_45 z17_45 z16_45 z4_45 z1_45 h45 =>
 oB (bAdd z50_45 (I 1)) fun x113_46 =>
 f43 x113_46 z49_45 z48_45 z18_45 z17_45 z16_45 z4_45 z1_45 h45) fun j45 =>
 oB (oIx 1 y48_43 y50_43) fun x52_47 =>
 oB (oLd h43 x52_47) fun x53_48 =>
 oB' (nx 13 h43) fun h49 =>
 oB (oLd h49 y1_43) fun x54_50 =>
 oB (oNil x54_50) fun x55_51 =>
 oB (oFA 17 x55_51) fun x56_52 =>
 oB (oFA 0 x56_52) fun x57_53 =>
 oB (oLd h49 x57_53) fun x58_54 =>
 oB (oIx 1 y4_43 x53_48) fun x61_55 =>
 oB (oLd h49 x61_55) fun x62_56 =>
 oB (oIx 6 x58_54 x62_56) fun x63_57 =>
 oB (oLdN 6 h49 x63_57) fun x64_58 =>
 fl1 true (evF (.new 98 [(I 0), (I 0), (I 0), (I 0), .nils, (.bool false)]) .e) (Nat.add h43.next 11) fun x7_59 o59 =>
 oB' (lay1 (Nat.add h43.next 11) o59 h49) fun v60 =>
 oP (oSt 6 v60 x7_59 x64_58) fun x0_61 h61 =>
 ask1 true (oLd h49 y1_43) x54_50 (
 ask1 true (oLd h49 x57_53) x58_54 (
 ask1 true (oLd h49 x61_55) x62_56 (
 ask1 true (oLdN 6 h49 x63_57) x64_58 (
 oB' (nx 19 h61) fun h62 =>
 oB (oFA 4 x7_59) fun x65_63 =>
 oB (oLd h62 x65_63) fun x66_64 =>
 oB (oLen x66_64) fun x67_65 =>
 oB (bGt x67_65 (I 0)) fun x68_66 =>
 oB (gq x68_66 true (oLd h62 y1_43)) fun x70_67 =>
 oB (gq x68_66 true (oNil x70_67)) fun x71_68 =>
 oB (gq x68_66 true (oFA 17 x71_68)) fun x72_69 =>
 oB (gq x68_66 true (oFA 0 x72_69)) fun x73_70 =>
 oB (gq x68_66 true (oLd h62 x73_70)) fun x74_71 =>
 oB (gq x68_66 true (oFA 4 x7_59)) fun x75_72 =>
 oB (gq x68_66 true (oLd h62 x75_72)) fun x76_73 =>
 oB (gq x68_66 true (oIx 1 x76_73 (I 0))) fun x77_74 =>
 oB (gq x68_66 true (oLd h62 x77_74)) fun x78_75 =>
 oB (gq x68_66 true (oIx 6 x74_71 x78_75)) fun x79_76 =>
 oB (gq x68_66 true (oFA 0 x79_76)) fun x80_77 =>
 oB (gq x68_66 true (oLd h62 x80_77)) fun x81_78 =>
 oB (gq x68_66 true (bEq .no x81_78 (I 11))) fun x82_79 =>
 oB (oPick x68_66 x82_79 (.bool false)) fun x83_80 =>
 ci x83_80 (
 j45 y50_43 y49_43 y48_43 y18_43 y17_43 y16_43 y4_43 y1_43 h62) (
 oB (oLd h62 y1_43) fun x84_81 =>
 oB (oLdN 6 h62 x7_59) fun x85_82 =>
 oP (call n_lint_finder_where [x84_81, x85_82] h62) fun x86_83 h83 =>
 oB (oTa 145 (.agg [(I 0), (I 0)]) true x86_83) fun x89_84 =>
 oB (oEx 0 x89_84) fun x90_85 =>
 oB (oEx 1 x89_84) fun x91_86 =>
 oP (oNew h83 145 [(I 0), (I 0)]) fun x9_87 h87 =>
 oP (oSt 2 h87 x9_87 x90_85) fun _ h88 =>
 ci x91_86 (
 oB (oLd h88 y1_43) fun x93_89 =>
 oB (oFA 0 x9_87) fun x94_90 =>
 oB (oLd h88 x94_90) fun x95_91 =>
 oB (oFA 1 x9_87) fun x96_92 =>
 oB (oLd h88 x96_92) fun x97_93 =>
 oP (call n_lint_finder_find [x93_89, (I 8), x95_91, x97_93] h88) fun x98_94 h94 =>
 j45 y50_43 y49_43 y48_43 y18_43 y17_43 y16_43 y4_43 y1_43 h94) (
 oB' (nx 10 h88) fun h95 =>
 oB (oLd h95 y1_43) fun x99_96 =>
 oB (oNil x99_96) fun x100_97 =>
 oB (oFA 15 x100_97) fun x101_98 =>
 oB (oLd h95 x101_98) fun x102_99 =>
 oB (oTa 3 (I 0) false x86_83) fun x104_100 =>
 oB (oIx 3 x102_99 x104_100) fun x105_101 =>
 oB (oLdN 3 h95 x105_101) fun x106_102 =>
 fl1 true (evF (.new 131 [(I 0), (I 0), (I 0)]) .e) (Nat.add h88.next 8) fun x11_103 o103 =>
 oB' (lay1 (Nat.add h88.next 8) o103 h95) fun v104 =>
 oP (oSt 3 v104 x11_103 x106_102) fun x0_105 h105 =>
 ask1 true (oLd h95 y1_43) x99_96 (
 ask1 true (oLd h95 x101_98) x102_99 (
 ask1 true (oLdN 3 h95 x105_101) x106_102 (
 oB (oLd h105 y1_43) fun x107_106 =>
 oB (oFA 1 x11_103) fun x108_107 =>
 oB (oLd h105 x108_107) fun x109_108 =>
 oB (oFA 2 x11_103) fun x110_109 =>
 oB (oLd h105 x110_109) fun x111_110 =>
 oP (call n_lint_finder_find [x107_106, (I 8), x109_108, x111_110] h105) fun x112_111 h111 =>
 j45 y50_43 y49_43 y48_43 y18_43 y17_43 y16_43 y4_43 y1_43 h111)))))))))) (
 j42 y18_43 y17_43 y16_43 y1_43 h43)) (I 0) x49_41 x48_40 y18_8 y17_8 y16_8 x35_27 y1_8 h40)) (
 j7 h8)) (I 0) x17_6 x16_5 x1_0 h0
theorem o_lint_finder_twice : FnOK Tryz.prog n_lint_finder_twice (a1 f_lint_finder_twice) := ok1 mixed Tryz.func34 (by kernel_rfl)
/- (*corrector/lint.finder).end -/
noncomputable def f_lint_finder_end (n : Nat) (call : Caller)  (x0 : AV) (h : AH) : Ans :=
 oB (oNil x0) fun x4_0 =>
 oB (oFA 0 x4_0) fun x5_1 =>
 oB (oLd h x5_1) fun x6_2 =>
 oB (oLen x6_2) fun x7_3 =>
 oB (bGt x7_3 (I 0)) fun x9_4 =>
 oB (gq x9_4 true (some x0)) fun x11_5 =>
 oB (gq x9_4 true (oNil x11_5)) fun x12_6 =>
 oB (gq x9_4 true (oFA 0 x12_6)) fun x13_7 =>
 oB (gq x9_4 true (oLd h x13_7)) fun x14_8 =>
 oB (gq x9_4 true (some x7_3)) fun x15_9 =>
 oB (gq x9_4 true (bSub x15_9 (I 1))) fun x16_10 =>
 oB (gq x9_4 true (oIx 1 x14_8 x16_10)) fun x17_11 =>
 oB (gq x9_4 true (oLd h x17_11)) fun x18_12 =>
 oB (gq x9_4 true (bNe .no x18_12 (U 10))) fun x19_13 =>
 oB (oPick x9_4 x19_13 (.bool false)) fun x20_14 =>
 oB (gq x20_14 true (some x0)) fun x22_15 =>
 oB (gq x20_14 true (oNil x22_15)) fun x23_16 =>
 oB (gq x20_14 true (oFA 0 x23_16)) fun x24_17 =>
 oB (gq x20_14 true (oLd h x24_17)) fun x25_18 =>
 oB (gq x20_14 true (some x7_3)) fun x26_19 =>
 oB (gq x20_14 true (bSub x26_19 (I 1))) fun x27_20 =>
 oB (gq x20_14 true (oIx 1 x25_18 x27_20)) fun x28_21 =>
 oB (gq x20_14 true (oLd h x28_21)) fun x29_22 =>
 oB (gq x20_14 true (bNe .no x29_22 (U 13))) fun x30_23 =>
 oB (oPick x20_14 x30_23 (.bool false)) fun x31_24 =>
 jnF 0 (fun h25 =>
 some (.tup [], h25)) fun j25 =>
 ci x31_24 (
 oP (call n_lint_finder_find [x0, (I 9), x7_3, x7_3] h) fun x35_26 h26 =>
 j25 h26) (
 j25 h)
theorem o_lint_finder_end : FnOK Tryz.prog n_lint_finder_end (a1 f_lint_finder_end) := ok1 mixed Tryz.func35 (by kernel_rfl)
/- corrector/lint.on -/
noncomputable def f_lint_on (n : Nat) (call : Caller)  (x0 x1 : AV) (h : AH) : Ans :=
 oP (oNew h 25 (AV.cells x0)) fun x2_0 h0 =>
 oB (oLd h0 x2_0) fun x6_1 =>
 oP (call n_lint_Off [x6_1, x1] h0) fun x8_2 h2 =>
 oP (oNew h2 40 [.nils]) fun x5_3 h3 =>
 oP (oSt 1 h3 x5_3 x8_2) fun _ h4 =>
 oB (some (.fn n_lint_on_1 [] [x2_0, x5_3])) fun x9_5 =>
 some (x9_5, h4)
theorem o_lint_on : FnOK Tryz.prog n_lint_on (a2 f_lint_on) := ok2 mixed Tryz.func36 (by kernel_rfl)
/- corrector/scan.Tokens -/
noncomputable def f_scan_Tokens (n : Nat) (call : Caller)  (x0 : AV) (h : AH) : Ans :=
 oB (oLen x0) fun x5_0 =>
 oB (bGt x5_0 (I 16384)) fun x6_1 =>
 ci x6_1 (
 some (.nils, h)) (
 oB (oBuild [.nils, (I 0), .nils, (I 0), (I 0), (I 0), (.bool false)] [(0, 1, x0)]) fun x8_2 =>
 oP (oNew h 152 (AV.cells x8_2)) fun x9_3 h3 =>
 oP (call n_scan_scanner_begin [x9_3] h3) fun x11_4 h4 =>
 jnF 1 (fun z3_5 h5 =>
 oB (oNil z3_5) fun x46_6 =>
 oB (oFA 2 x46_6) fun x47_7 =>
 oB (oLd h5 x47_7) fun x48_8 =>
 oP (call n_slices_Clone_api_Token_api_Token [x48_8] h5) fun x49_9 h9 =>
 some (x49_9, h9)) fun j5 =>
 lpF 1 n (fun f10 y3_10 h10 =>
 oB' (nx 10 h10) fun h11 =>
 oB (oNil y3_10) fun x13_12 =>
 oB (oFA 1 x13_12) fun x14_13 =>
 oB (oLd h11 x14_13) fun x15_14 =>
 oB (oNil y3_10) fun x17_15 =>
 oB (oFA 0 x17_15) fun x18_16 =>
 oB (oLd h11 x18_16) fun x19_17 =>
 oB (oLen x19_17) fun x20_18 =>
 oB (bLt x15_14 x20_18) fun x21_19 =>
 ci x21_19 (
 jnF 1 (fun z3_20 h20 =>
 f10 z3_20 h20) fun j20 =>
 oB' (nx 21 h11) fun h21 =>
 oB (oNil y3_10) fun x23_22 =>
 oB (oFA 1 x23_22) fun x24_23 =>
 oB (oLd h21 x24_23) fun x25_24 =>
 oB (oNil y3_10) fun x27_25 =>
 oB (oFA 4 x27_25) fun x28_26 =>
 oB (oLd h21 x28_26) fun x29_27 =>
 oB (bEq .no x25_24 x29_27) fun x30_28 =>
 oB (gq x30_28 true (some y3_10)) fun x32_29 =>
 oP (gw x30_28 true (call n_scan_scanner_begun [x32_29] h21) h21) fun x33_30 h30 =>
 oB (oPick x30_28 x33_30 (.bool false)) fun x34_31 =>
 oB (gq x34_31 false (some y3_10)) fun x36_32 =>
 oP (gw x34_31 false (call n_scan_scanner_loose [x36_32] h30) h30) fun x37_33 h33 =>
 oB (oPick x34_31 (.bool true) x37_33) fun x38_34 =>
 oB (gq x38_34 false (some y3_10)) fun x40_35 =>
 oP (gw x38_34 false (call n_scan_scanner_sign [x40_35] h33) h33) fun x41_36 h36 =>
 oB (oPick x38_34 (.bool true) x41_36) fun x42_37 =>
 ci x42_37 (
 j20 y3_10 h36) (
 oP (call n_scan_scanner_text [y3_10] h36) fun x44_38 h38 =>
 j20 y3_10 h38)) (
 j5 y3_10 h11)) x9_3 h4)
theorem o_scan_Tokens : FnOK Tryz.prog n_scan_Tokens (a1 f_scan_Tokens) := ok1 mixed Tryz.func37 (by kernel_rfl)
/- corrector/arena.New -/
noncomputable def f_arena_New (n : Nat) (call : Caller)  (x0 : AV) (h : AH) : Ans :=
 oP (oNew h 59 [.nils]) fun x2_0 h0 =>
 oB (bLt x0 (I 0)) fun x4_1 =>
 oB (gq x4_1 false (some x0)) fun x6_2 =>
 oB (gq x4_1 false (bGt x6_2 (I 32768))) fun x7_3 =>
 oB (oPick x4_1 (.bool true) x7_3) fun x8_4 =>
 jnF 2 (fun z2_5 z0_5 h5 =>
 oB (oBuild [(I 0), (I 0), (I 0), (I 0), .nils, (.bool false)] [(0, 1, (I 1)), (2, 1, z0_5), (3, 1, (Ineg 0))]) fun x10_6 =>
 oP (oBuildSl h5 98 6 1 [(I 0), (I 0), (I 0), (I 0), .nils, (.bool false)] [(0, 6, x10_6)]) fun x11_7 h7 =>
 oB (oBuild [.nils] [(0, 1, x11_7)]) fun x12_8 =>
 oP (oSt 1 h7 z2_5 x12_8) fun _ h9 =>
 retT [(2, some (some 1))] (sput 2 Tr.e z2_5) h9) fun j5 =>
 ci x8_4 (
 j5 x2_0 (I 0) h0) (
 j5 x2_0 x0 h0)
theorem o_arena_New : FnOK Tryz.prog n_arena_New (a1 f_arena_New) := ok1 mixed Tryz.func38 (by kernel_rfl)
/- (*corrector/parse.parser).row -/
noncomputable def f_parse_parser_row (n : Nat) (call : Caller)  (x0 x1 : AV) (h : AH) : Ans :=
 oB (oNil x0) fun x10_0 =>
 oB (oFA 2 x10_0) fun x11_1 =>
 oB (oLd h x11_1) fun x12_2 =>
 oB (oIx 4 x12_2 x1) fun x14_3 =>
 oB (oLdN 4 h x14_3) fun x15_4 =>
 oP (oNew h 125 [(I 0), (I 0), (I 0), (I 0)]) fun x5_5 h5 =>
 oP (oSt 4 h5 x5_5 x15_4) fun _ h6 =>
 oB (oNil x0) fun x17_7 =>
 oB (oFA 9 x17_7) fun x18_8 =>
 oP (oSt 1 h6 x18_8 (Ineg 0)) fun _ h9 =>
 oB (oFA 1 x5_5) fun x20_10 =>
 oB (oLd h9 x20_10) fun x21_11 =>
 oB (oFA 2 x5_5) fun x22_12 =>
 oB (oLd h9 x22_12) fun x23_13 =>
 oP (call n_parse_parser_first [x0, x21_11, x23_13] h9) fun x24_14 h14 =>
 oB (oFA 0 x5_5) fun x25_15 =>
 oB (oLd h14 x25_15) fun x26_16 =>
 jnF 1 (fun z1_17 h17 =>
 oB (bAdd z1_17 (I 1)) fun x73_18 =>
 some (x73_18, h17)) fun j17 =>
 oB (bEq .no x26_16 (I 2)) fun x28_19 =>
 jnF 6 (fun z27_20 z26_20 z6_20 z5_20 z1_20 z0_20 h20 =>
 jnF 1 (fun z1_21 h21 =>
 j17 z1_21 h21) fun j21 =>
 ci z27_20 (
 oB (oFA 1 z5_20) fun x31_22 =>
 oB (oLd h20 x31_22) fun x32_23 =>
 oB (oFA 2 z5_20) fun x33_24 =>
 oB (oLd h20 x33_24) fun x34_25 =>
 oP (call n_parse_parser_amiss [z0_20, (I 8), x32_23, x34_25] h20) fun x35_26 h26 =>
 j21 z1_20 h26) (
 oB (bEq .no z26_20 (I 4)) fun x37_27 =>
 ci x37_27 (
 oP (call n_parse_parser_mark [z0_20, z1_20, z6_20] h20) fun x41_28 h28 =>
 some (x41_28, h28)) (
 oB (bEq .no z26_20 (I 5)) fun x43_29 =>
 ci x43_29 (
 oP (call n_parse_parser_document [z0_20, z6_20] h20) fun x46_30 h30 =>
 oB' (nx 15 h30) fun h31 =>
 oB (oNil z0_20) fun x49_32 =>
 oB (oFA 0 x49_32) fun x50_33 =>
 oB (oLd h31 x50_33) fun x51_34 =>
 oB (oNil z0_20) fun x53_35 =>
 oB (oFA 1 x53_35) fun x54_36 =>
 oB (oLd h31 x54_36) fun x55_37 =>
 oB (oLdN 4 h31 z5_20) fun x56_38 =>
 oP (call n_rows_Entries [x51_34, x55_37, x56_38] h31) fun x57_39 h39 =>
 oB (oEx 0 x57_39) fun x58_40 =>
 oB (oEx 1 x57_39) fun x59_41 =>
 oB (oLen x58_40) fun x61_42 =>
 oB (bEq .no x61_42 (I 0)) fun x62_43 =>
 ci x62_43 (
 oP (call n_parse_parser_loose [z0_20, z1_20, z6_20] h39) fun x66_44 h44 =>
 some (x66_44, h44)) (
 oP (call n_parse_parser_entries [z0_20, z1_20, x58_40, x59_41] h39) fun x71_45 h45 =>
 some (x71_45, h45))) (
 j21 z1_20 h20)))) fun j20 =>
 ci x28_19 (
 j20 x28_19 x26_16 x24_14 x5_5 x1 x0 h14) (
 oB (bEq .no x26_16 (I 3)) fun x29_46 =>
 j20 x29_46 x26_16 x24_14 x5_5 x1 x0 h14)
theorem o_parse_parser_row : FnOK Tryz.prog n_parse_parser_row (a2 f_parse_parser_row) := ok2 mixed Tryz.func39 (by kernel_rfl)
/- (*corrector/parse.parser).told -/
noncomputable def f_parse_parser_told (n : Nat) (call : Caller)  (x0 : AV) (h : AH) : Ans :=
 oB (oNil x0) fun x9_0 =>
 oB (oFA 0 x9_0) fun x10_1 =>
 oB (oLd h x10_1) fun x11_2 =>
 oP (call n_runes_Bad [x11_2] h) fun x12_3 h3 =>
 oB (oLen x12_3) fun x13_4 =>
 jnF 1 (fun z0_5 h5 =>
 oB (oNil z0_5) fun x25_6 =>
 oB (oFA 2 x25_6) fun x26_7 =>
 oB (oLd h5 x26_7) fun x27_8 =>
 oB (oLen x27_8) fun x28_9 =>
 jnF 1 (fun z0_10 h10 =>
 oB (oNil z0_10) fun x41_11 =>
 oB (oFA 1 x41_11) fun x42_12 =>
 oB (oLd h10 x42_12) fun x43_13 =>
 oB (oLen x43_13) fun x44_14 =>
 jnF 1 (fun z0_15 h15 =>
 oB (oNil z0_15) fun x62_16 =>
 oB (oFA 5 x62_16) fun x63_17 =>
 oB (oLd h15 x63_17) fun x64_18 =>
 oP (call n_slices_SortFunc_api_Diag_api_Diag [x64_18, (.fn 103 [] [])] h15) fun x65_19 h19 =>
 oB (oNil z0_15) fun x68_20 =>
 oB (oFA 5 x68_20) fun x69_21 =>
 oB (oLd h19 x69_21) fun x70_22 =>
 oP (call n_slices_Compact_api_Diag_api_Diag [x70_22] h19) fun x71_23 h23 =>
 oP (call n_slices_Clone_api_Diag_api_Diag [x71_23] h23) fun x72_24 h24 =>
 oB (oNil z0_15) fun x73_25 =>
 oB (oFA 5 x73_25) fun x74_26 =>
 oP (oSt 1 h24 x74_26 x72_24) fun _ h27 =>
 some (.tup [], h27)) fun j15 =>
 lpF 4 n (fun f28 y45_28 y44_28 y43_28 y0_28 h28 =>
 oB (bLt y45_28 y44_28) fun x46_29 =>
 ci x46_29 (
 jnF 4 (fun z45_30 z44_30 z43_30 z0_30 h30 =>
 oB (bAdd z45_30 (I 1)) fun x60_31 =>
 f28 x60_31 z44_30 z43_30 z0_30 h30) fun j30 =>
 oB (oIx 3 y43_28 y45_28) fun x47_32 =>
 oB (oLdN 3 h28 x47_32) fun x48_33 =>
 oP (oNew h28 131 [(I 0), (I 0), (I 0)]) fun x7_34 h34 =>
 oP (oSt 3 h34 x7_34 x48_33) fun _ h35 =>
 oB (oFA 0 x7_34) fun x49_36 =>
 oB (oLd h35 x49_36) fun x50_37 =>
 oB (bEq .no x50_37 (I 16)) fun x51_38 =>
 oB (gq x51_38 false (oFA 0 x7_34)) fun x53_39 =>
 oB (gq x51_38 false (oLd h35 x53_39)) fun x54_40 =>
 oB (gq x51_38 false (bEq .no x54_40 (I 17))) fun x55_41 =>
 oB (oPick x51_38 (.bool true) x55_41) fun x56_42 =>
 jnF 4 (fun z45_43 z44_43 z43_43 z0_43 h43 =>
 j30 z45_43 z44_43 z43_43 z0_43 h43) fun j43 =>
 ci x56_42 (
 oB (oLdN 3 h35 x7_34) fun x58_44 =>
 oP (call n_parse_parser_quoted [y0_28, x58_44] h35) fun x59_45 h45 =>
 j43 y45_28 y44_28 y43_28 y0_28 h45) (
 j43 y45_28 y44_28 y43_28 y0_28 h35)) (
 j15 y0_28 h28)) (I 0) x44_14 x43_13 z0_10 h10) fun j10 =>
 lpF 4 n (fun f46 y29_46 y28_46 y27_46 y0_46 h46 =>
 oB (bLt y29_46 y28_46) fun x30_47 =>
 ci x30_47 (
 jnF 4 (fun z29_48 z28_48 z27_48 z0_48 h48 =>
 oB (bAdd z29_48 (I 1)) fun x39_49 =>
 f46 x39_49 z28_48 z27_48 z0_48 h48) fun j48 =>
 oB (oIx 4 y27_46 y29_46) fun x31_50 =>
 oB (oLdN 4 h46 x31_50) fun x32_51 =>
 oP (oNew h46 125 [(I 0), (I 0), (I 0), (I 0)]) fun x5_52 h52 =>
 oP (oSt 4 h52 x5_52 x32_51) fun _ h53 =>
 oB (oFA 0 x5_52) fun x33_54 =>
 oB (oLd h53 x33_54) fun x34_55 =>
 oB (bEq .no x34_55 (I 5)) fun x35_56 =>
 jnF 4 (fun z29_57 z28_57 z27_57 z0_57 h57 =>
 j48 z29_57 z28_57 z27_57 z0_57 h57) fun j57 =>
 ci x35_56 (
 oB (oLdN 4 h53 x5_52) fun x37_58 =>
 oP (call n_parse_parser_tabs [y0_46, x37_58] h53) fun x38_59 h59 =>
 j57 y29_46 y28_46 y27_46 y0_46 h59) (
 j57 y29_46 y28_46 y27_46 y0_46 h53)) (
 j10 y0_46 h46)) (I 0) x28_9 x27_8 z0_5 h5) fun j5 =>
 lpF 4 n (fun f60 y14_60 y13_60 y12_60 y0_60 h60 =>
 oB (bLt y14_60 y13_60) fun x15_61 =>
 ci x15_61 (
 jnF 4 (fun z14_62 z13_62 z12_62 z0_62 h62 =>
 oB (bAdd z14_62 (I 1)) fun x23_63 =>
 f60 x23_63 z13_62 z12_62 z0_62 h62) fun j62 =>
 oB (oIx 1 y12_60 y14_60) fun x16_64 =>
 oB (oLd h60 x16_64) fun x17_65 =>
 oB (bAdd x17_65 (I 1)) fun x21_66 =>
 oP (call n_parse_parser_tell [y0_60, (I 1), x17_65, x21_66] h60) fun x22_67 h67 =>
 j62 y14_60 y13_60 y12_60 y0_60 h67) (
 j5 y0_60 h60)) (I 0) x13_4 x12_3 x0 h3
theorem o_parse_parser_told : FnOK Tryz.prog n_parse_parser_told (a1 f_parse_parser_told) := ok1 mixed Tryz.func40 (by kernel_rfl)
/- corrector/graph.fits -/
noncomputable def f_graph_fits (n : Nat) (call : Caller)  (x0 x1 x2 : AV) (h : AH) : Ans :=
 oP (oNew h 59 (AV.cells x2)) fun x5_0 h0 =>
 oB (oLen x1) fun x11_1 =>
 jnF 4 (fun z7_2 z5_2 z1_2 z0_2 h2 =>
 oB (oLen z0_2) fun x31_3 =>
 oB (bEq .no z7_2 x31_3) fun x32_4 =>
 oB (gq x32_4 true (oLdN 1 h2 z5_2)) fun x34_5 =>
 oB (gq x32_4 true (some z1_2)) fun x35_6 =>
 oB (gq x32_4 true (oLen x35_6)) fun x36_7 =>
 oP (gw x32_4 true (call n_arena_Check [x34_5, x36_7] h2) h2) fun x37_8 h8 =>
 oB (oPick x32_4 x37_8 (.bool false)) fun x38_9 =>
 some (x38_9, h8)) fun j2 =>
 lpF 7 n (fun f10 y12_10 y11_10 y10_10 y7_10 y5_10 y1_10 y0_10 h10 =>
 oB (bLt y12_10 y11_10) fun x13_11 =>
 ci x13_11 (
 jnF 7 (fun z12_12 z11_12 z10_12 z7_12 z5_12 z1_12 z0_12 h12 =>
 oB (bAdd z12_12 (I 1)) fun x28_13 =>
 f10 x28_13 z11_12 z10_12 z7_12 z5_12 z1_12 z0_12 h12) fun j12 =>
 oB (oIx 3 y10_10 y12_10) fun x14_14 =>
 oB (oLdN 3 h10 x14_14) fun x15_15 =>
 oP (oNew h10 131 [(I 0), (I 0), (I 0)]) fun x9_16 h16 =>
 oP (oSt 3 h16 x9_16 x15_15) fun _ h17 =>
 oB (oFA 1 x9_16) fun x16_18 =>
 oB (oLd h17 x16_18) fun x17_19 =>
 oB (bNe .no x17_19 y7_10) fun x19_20 =>
 oB (gq x19_20 false (oFA 2 x9_16)) fun x21_21 =>
 oB (gq x19_20 false (oLd h17 x21_21)) fun x22_22 =>
 oB (gq x19_20 false (some y7_10)) fun x23_23 =>
 oB (gq x19_20 false (bLe x22_22 x23_23)) fun x24_24 =>
 oB (oPick x19_20 (.bool true) x24_24) fun x25_25 =>
 ci x25_25 (
 some ((.bool false), h17)) (
 oB (oFA 2 x9_16) fun x26_26 =>
 oB (oLd h17 x26_26) fun x27_27 =>
 j12 y12_10 y11_10 y10_10 x27_27 y5_10 y1_10 y0_10 h17)) (
 j2 y7_10 y5_10 y1_10 y0_10 h10)) (I 0) x11_1 x1 (I 0) x5_0 x1 x0 h0
theorem o_graph_fits : FnOK Tryz.prog n_graph_fits (a3 f_graph_fits) := ok3 mixed Tryz.func41 (by kernel_rfl)
/- (*corrector/graph.composer).node -/
noncomputable def f_graph_composer_node (n : Nat) (call : Caller)  (x0 x1 : AV) (h : AH) : Ans :=
 oB (oNil x0) fun x8_0 =>
 oB (oFA 2 x8_0) fun x9_1 =>
 oB (oFA 0 x9_1) fun x10_2 =>
 oB (oLd h x10_2) fun x11_3 =>
 oB (oIx 6 x11_3 x1) fun x13_4 =>
 oB (oLdN 6 h x13_4) fun x14_5 =>
 oP (oNew h 98 [(I 0), (I 0), (I 0), (I 0), .nils, (.bool false)]) fun x5_6 h6 =>
 oP (oSt 6 h6 x5_6 x14_5) fun _ h7 =>
 oB (oFA 0 x5_6) fun x15_8 =>
 oB (oLd h7 x15_8) fun x16_9 =>
 jnF 3 (fun z6_10 z1_10 z0_10 h10 =>
 oB (oNil z0_10) fun x84_11 =>
 oB (oFA 3 x84_11) fun x85_12 =>
 oB (oFA 2 x85_12) fun x86_13 =>
 oB (oLd h10 x86_13) fun x87_14 =>
 oB (oIx 1 x87_14 z1_10) fun x90_15 =>
 oP (oSt 1 h10 x90_15 z6_10) fun _ h16 =>
 some (z6_10, h16)) fun j10 =>
 oB (bEq .no x16_9 (I 2)) fun x18_17 =>
 jnF 6 (fun z17_18 z16_18 z6_18 z5_18 z1_18 z0_18 h18 =>
 jnF 3 (fun z6_19 z1_19 z0_19 h19 =>
 j10 z6_19 z1_19 z0_19 h19) fun j19 =>
 ci z17_18 (
 oB (oLdN 6 h18 z5_18) fun x21_20 =>
 oP (call n_graph_composer_first [z0_18, x21_20] h18) fun x22_21 h21 =>
 j19 x22_21 z1_18 z0_18 h21) (
 oB (bEq .no z16_18 (I 7)) fun x24_22 =>
 jnF 3 (fun z6_23 z1_23 z0_23 h23 =>
 j19 z6_23 z1_23 z0_23 h23) fun j23 =>
 ci x24_22 (
 oB' (nx 11 h18) fun h24 =>
 oB (oLdN 6 h24 z5_18) fun x27_25 =>
 oP (call n_graph_composer_own [z0_18, x27_25] h24) fun x28_26 h26 =>
 oB (oLdN 6 h26 z5_18) fun x31_27 =>
 oP (call n_graph_composer_own [z0_18, x31_27] h26) fun x32_28 h28 =>
 oP (call n_graph_composer_scalar [z0_18, x32_28] h28) fun x33_29 h29 =>
 oP (call n_graph_composer_named [z0_18, x28_26, x33_29] h29) fun x34_30 h30 =>
 ask1 true (oLdN 6 h24 z5_18) x27_25 (
 ask1 true (oLdN 6 h24 z5_18) x31_27 (
 ask1 true (oLdN 6 h26 z5_18) x31_27 (
 j23 x34_30 z1_18 z0_18 h30)))) (
 oB (bEq .no z16_18 (I 8)) fun x36_31 =>
 jnF 3 (fun z6_32 z1_32 z0_32 h32 =>
 j23 z6_32 z1_32 z0_32 h32) fun j32 =>
 ci x36_31 (
 oB' (nx 11 h18) fun h33 =>
 oB (oLdN 6 h33 z5_18) fun x39_34 =>
 oP (call n_graph_composer_own [z0_18, x39_34] h33) fun x40_35 h35 =>
 oB (oLdN 6 h35 z5_18) fun x43_36 =>
 oP (call n_graph_composer_own [z0_18, x43_36] h35) fun x44_37 h37 =>
 oP (call n_graph_composer_alias [z0_18, x44_37] h37) fun x45_38 h38 =>
 oP (call n_graph_composer_named [z0_18, x40_35, x45_38] h38) fun x46_39 h39 =>
 ask1 true (oLdN 6 h33 z5_18) x39_34 (
 ask1 true (oLdN 6 h33 z5_18) x43_36 (
 ask1 true (oLdN 6 h35 z5_18) x43_36 (
 j32 x46_39 z1_18 z0_18 h39)))) (
 oB (bEq .no z16_18 (I 3)) fun x48_40 =>
 jnF 3 (fun z6_41 z1_41 z0_41 h41 =>
 j32 z6_41 z1_41 z0_41 h41) fun j41 =>
 ci x48_40 (
 oB (oLdN 6 h18 z5_18) fun x50_42 =>
 oP (call n_graph_composer_collection [z0_18, x50_42, (I 6), .nils] h18) fun x51_43 h43 =>
 j41 x51_43 z1_18 z0_18 h43) (
 oB (bEq .no z16_18 (I 5)) fun x53_44 =>
 jnF 3 (fun z6_45 z1_45 z0_45 h45 =>
 j41 z6_45 z1_45 z0_45 h45) fun j45 =>
 ci x53_44 (
 oB (oLdN 6 h18 z5_18) fun x55_46 =>
 oP (call n_graph_composer_collection [z0_18, x55_46, (I 7), .nils] h18) fun x56_47 h47 =>
 j45 x56_47 z1_18 z0_18 h47) (
 oB (bEq .no z16_18 (I 9)) fun x58_48 =>
 jnF 3 (fun z6_49 z1_49 z0_49 h49 =>
 j45 z6_49 z1_49 z0_49 h49) fun j49 =>
 ci x58_48 (
 oB' (nx 12 h18) fun h50 =>
 oB (oLdN 6 h50 z5_18) fun x61_51 =>
 oP (call n_graph_composer_own [z0_18, x61_51] h50) fun x62_52 h52 =>
 oB (oLdN 6 h52 z5_18) fun x64_53 =>
 oB (oLdN 6 h52 z5_18) fun x66_54 =>
 oP (call n_graph_composer_own [z0_18, x66_54] h52) fun x67_55 h55 =>
 oP (call n_graph_composer_collection [z0_18, x64_53, (I 6), x67_55] h55) fun x68_56 h56 =>
 oP (call n_graph_composer_named [z0_18, x62_52, x68_56] h56) fun x69_57 h57 =>
 ask1 true (oLdN 6 h50 z5_18) x61_51 (
 ask1 true (oLdN 6 h50 z5_18) x64_53 (
 ask1 true (oLdN 6 h52 z5_18) x64_53 (
 ask1 true (oLdN 6 h55 z5_18) x64_53 (
 ask1 true (oLdN 6 h50 z5_18) x66_54 (
 ask1 true (oLdN 6 h52 z5_18) x66_54 (
 j49 x69_57 z1_18 z0_18 h57))))))) (
 oB (bEq .no z16_18 (I 10)) fun x71_58 =>
 jnF 3 (fun z6_59 z1_59 z0_59 h59 =>
 j49 z6_59 z1_59 z0_59 h59) fun j59 =>
 ci x71_58 (
 oB' (nx 12 h18) fun h60 =>
 oB (oLdN 6 h60 z5_18) fun x74_61 =>
 oP (call n_graph_composer_own [z0_18, x74_61] h60) fun x75_62 h62 =>
 oB (oLdN 6 h62 z5_18) fun x77_63 =>
 oB (oLdN 6 h62 z5_18) fun x79_64 =>
 oP (call n_graph_composer_own [z0_18, x79_64] h62) fun x80_65 h65 =>
 oP (call n_graph_composer_collection [z0_18, x77_63, (I 7), x80_65] h65) fun x81_66 h66 =>
 oP (call n_graph_composer_named [z0_18, x75_62, x81_66] h66) fun x82_67 h67 =>
 ask1 true (oLdN 6 h60 z5_18) x74_61 (
 ask1 true (oLdN 6 h60 z5_18) x77_63 (
 ask1 true (oLdN 6 h62 z5_18) x77_63 (
 ask1 true (oLdN 6 h65 z5_18) x77_63 (
 ask1 true (oLdN 6 h60 z5_18) x79_64 (
 ask1 true (oLdN 6 h62 z5_18) x79_64 (
 j59 x82_67 z1_18 z0_18 h67))))))) (
 j59 z6_18 z1_18 z0_18 h18)))))))) fun j18 =>
 ci x18_17 (
 j18 x18_17 x16_9 (Ineg 0) x5_6 x1 x0 h7) (
 oB (bEq .no x16_9 (I 4)) fun x19_68 =>
 j18 x19_68 x16_9 (Ineg 0) x5_6 x1 x0 h7)
theorem o_graph_composer_node : FnOK Tryz.prog n_graph_composer_node (a2 f_graph_composer_node) := ok2 mixed Tryz.func42 (by kernel_rfl)
/- slices.SortFunc[[]corrector/api.Diag,corrector/api.Diag] -/
noncomputable def f_slices_SortFunc_api_Diag_api_Diag (n : Nat) (call : Caller)  (x0 x1 : AV) (h : AH) : Ans :=
 oB (oLen x0) fun x6_0 =>
 oB (oInt .u64 x6_0) fun x10_1 =>
 oP (call n_math_bits_Len [x10_1] h) fun x11_2 h2 =>
 oP (call n_slices_pdqsortCmpFunc_api_Diag [x0, (I 0), x6_0, x11_2, x1] h2) fun x13_3 h3 =>
 some (.tup [], h3)
theorem o_slices_SortFunc_api_Diag_api_Diag : FnOK Tryz.prog n_slices_SortFunc_api_Diag_api_Diag (a2 f_slices_SortFunc_api_Diag_api_Diag) := ok2 mixed Tryz.func43 (by kernel_rfl)
/- corrector/graph.order -/
noncomputable def f_graph_order (n : Nat) (call : Caller)  (x0 x1 : AV) (h : AH) : Ans :=
 oP (oNew h 67 (AV.cells x0)) fun x2_0 h0 =>
 oP (oNew h0 67 (AV.cells x1)) fun x3_1 h1 =>
 oB' (nx 18 h1) fun h2 =>
 oB (oFA 1 x2_0) fun x5_3 =>
 oB (oLd h2 x5_3) fun x6_4 =>
 oB (oFA 1 x3_1) fun x7_5 =>
 oB (oLd h2 x7_5) fun x8_6 =>
 oP (call n_cmp_Compare_int [x6_4, x8_6] h2) fun x9_7 h7 =>
 oB (oFA 2 x2_0) fun x10_8 =>
 oB (oLd h7 x10_8) fun x11_9 =>
 oB (oFA 2 x3_1) fun x12_10 =>
 oB (oLd h7 x12_10) fun x13_11 =>
 oP (call n_cmp_Compare_int [x11_9, x13_11] h7) fun x14_12 h12 =>
 oB (oFA 0 x2_0) fun x15_13 =>
 oB (oLd h12 x15_13) fun x16_14 =>
 oB (oFA 0 x3_1) fun x17_15 =>
 oB (oLd h12 x17_15) fun x18_16 =>
 oP (call n_cmp_Compare_int [x16_14, x18_16] h12) fun x19_17 h17 =>
 fl1 true (evF (.buildSlice 3 1 3 [(I 0), (I 0), (I 0)] [(0, 1, (.c x9_7)), (1, 1, (.c x14_12)), (2, 1, (.c x19_17))]) .e) (Nat.add h1.next 15) fun x20_18 o18 =>
 oB' (lay1 (Nat.add h1.next 15) o18 h17) fun v19 =>
 oP (call n_cmp_Or_int [x20_18] v19) fun x21_20 h20 =>
 ask1 true (oLd h2 x5_3) x6_4 (
 ask1 true (oLd h2 x7_5) x8_6 (
 ask1 true (oLd h2 x10_8) x11_9 (
 ask1 true (oLd h7 x10_8) x11_9 (
 ask1 true (oLd h2 x12_10) x13_11 (
 ask1 true (oLd h7 x12_10) x13_11 (
 ask1 true (oLd h2 x15_13) x16_14 (
 ask1 true (oLd h7 x15_13) x16_14 (
 ask1 true (oLd h12 x15_13) x16_14 (
 ask1 true (oLd h2 x17_15) x18_16 (
 ask1 true (oLd h7 x17_15) x18_16 (
 ask1 true (oLd h12 x17_15) x18_16 (
 some (x21_20, h20)))))))))))))
theorem o_graph_order : FnOK Tryz.prog n_graph_order (a2 f_graph_order) := ok2 mixed Tryz.func44 (by kernel_rfl)
/- slices.Clone[[]corrector/api.Value,corrector/api.Value] -/
noncomputable def f_slices_Clone_api_Value_api_Value (n : Nat) (call : Caller)  (x0 : AV) (h : AH) : Ans :=
 oB (bEq .sl x0 .nils) fun x4_0 =>
 ci x4_0 (
 some (.nils, h)) (
 oP (oBuildSl h 103 4 0 [] []) fun x5_1 h1 =>
 oP (evW (.append 103 4 64 [(I 0), (.str []), (.str []), .nils] (.c x5_1) (.c x0)) .e h1) fun x7_2 h2 =>
 some (x7_2, h2))
theorem o_slices_Clone_api_Value_api_Value : FnOK Tryz.prog n_slices_Clone_api_Value_api_Value (a1 f_slices_Clone_api_Value_api_Value) := ok1 mixed Tryz.func45 (by kernel_rfl)
/- slices.Clone[[]int,int] -/
noncomputable def f_slices_Clone_int_int (n : Nat) (call : Caller)  (x0 : AV) (h : AH) : Ans :=
 oB (bEq .sl x0 .nils) fun x4_0 =>
 ci x4_0 (
 some (.nils, h)) (
 oP (oBuildSl h 3 1 0 [] []) fun x5_1 h1 =>
 oP (evW (.append 3 1 8 [(I 0)] (.c x5_1) (.c x0)) .e h1) fun x7_2 h2 =>
 some (x7_2, h2))
theorem o_slices_Clone_int_int : FnOK Tryz.prog n_slices_Clone_int_int (a1 f_slices_Clone_int_int) := ok1 mixed Tryz.func46 (by kernel_rfl)
/- slices.Clone[[]corrector/api.Diag,corrector/api.Diag] -/
noncomputable def f_slices_Clone_api_Diag_api_Diag (n : Nat) (call : Caller)  (x0 : AV) (h : AH) : Ans :=
 oB (bEq .sl x0 .nils) fun x4_0 =>
 ci x4_0 (
 some (.nils, h)) (
 oP (oBuildSl h 67 3 0 [] []) fun x5_1 h1 =>
 oP (evW (.append 67 3 24 [(I 0), (I 0), (I 0)] (.c x5_1) (.c x0)) .e h1) fun x7_2 h2 =>
 some (x7_2, h2))
theorem o_slices_Clone_api_Diag_api_Diag : FnOK Tryz.prog n_slices_Clone_api_Diag_api_Diag (a1 f_slices_Clone_api_Diag_api_Diag) := ok1 mixed Tryz.func47 (by kernel_rfl)
/- slices.Compact[[]corrector/api.Diag,corrector/api.Diag] -/
noncomputable def f_slices_Compact_api_Diag_api_Diag (n : Nat) (call : Caller)  (x0 : AV) (h : AH) : Ans :=
 oB (oLen x0) fun x7_0 =>
 oB (bLt x7_0 (I 2)) fun x8_1 =>
 ci x8_1 (
 some (x0, h)) (
 jnF 1 (fun z0_2 h2 =>
 some (z0_2, h2)) fun j2 =>
 lpF 2 n (fun f3 y3_3 y0_3 h3 =>
 oB (oLen y0_3) fun x12_4 =>
 oB (bLt y3_3 x12_4) fun x13_5 =>
 ci x13_5 (
 jnF 2 (fun z3_6 z0_6 h6 =>
 oB (bAdd z3_6 (I 1)) fun x15_7 =>
 f3 x15_7 z0_6 h6) fun j6 =>
 oB' (nx 10 h3) fun h8 =>
 oB (oIx 3 y0_3 y3_3) fun x18_9 =>
 oB (oLdN 3 h8 x18_9) fun x19_10 =>
 oB (bSub y3_3 (I 1)) fun x22_11 =>
 oB (oIx 3 y0_3 x22_11) fun x23_12 =>
 oB (oLdN 3 h8 x23_12) fun x24_13 =>
 oB (bEq (.flat [.i, .i, .i]) x19_10 x24_13) fun x25_14 =>
 ci x25_14 (
 oB (evQ (.sl 3 (.c y0_3) (some (.c y3_3)) none none) .e h8) fun x28_15 =>
 jnF 2 (fun z3_16 z0_16 h16 =>
 oB (evQ (.sl 3 (.c z0_16) (some (.c z3_16)) none none) .e h16) fun x56_17 =>
 oP (evW (.clr 3 [(I 0), (I 0), (I 0)] (.c x56_17)) .e h16) fun _ h18 =>
 oB (evQ (.sl 3 (.c z0_16) none (some (.c z3_16)) none) .e h18) fun x59_19 =>
 some (x59_19, h18)) fun j16 =>
 lpF 4 n (fun f20 y5_20 y4_20 y3_20 y0_20 h20 =>
 oB (oLen y4_20) fun x31_21 =>
 oB (bLt y5_20 x31_21) fun x32_22 =>
 ci x32_22 (
 jnF 4 (fun z5_23 z4_23 z3_23 z0_23 h23 =>
 oB (bAdd z5_23 (I 1)) fun x34_24 =>
 f20 x34_24 z4_23 z3_23 z0_23 h23) fun j23 =>
 oB' (nx 10 h20) fun h25 =>
 oB (oIx 3 y4_20 y5_20) fun x37_26 =>
 oB (oLdN 3 h25 x37_26) fun x38_27 =>
 oB (bSub y5_20 (I 1)) fun x41_28 =>
 oB (oIx 3 y4_20 x41_28) fun x42_29 =>
 oB (oLdN 3 h25 x42_29) fun x43_30 =>
 oB (bNe (.flat [.i, .i, .i]) x38_27 x43_30) fun x44_31 =>
 jnF 4 (fun z5_32 z4_32 z3_32 z0_32 h32 =>
 j23 z5_32 z4_32 z3_32 z0_32 h32) fun j32 =>
 ci x44_31 (
 oB (oIx 3 y4_20 y5_20) fun x49_33 =>
 oB (oLdN 3 h25 x49_33) fun x50_34 =>
 oB (oIx 3 y0_20 y3_20) fun x51_35 =>
 oP (oSt 3 h25 x51_35 x50_34) fun _ h36 =>
 oB (bAdd y3_20 (I 1)) fun x53_37 =>
 j32 y5_20 y4_20 x53_37 y0_20 h36) (
 j32 y5_20 y4_20 y3_20 y0_20 h25)) (
 j16 y3_20 y0_20 h20)) (I 1) x28_15 y3_3 y0_3 h8) (
 j6 y3_3 y0_3 h8)) (
 j2 y0_3 h3)) (I 1) x0 h)
theorem o_slices_Compact_api_Diag_api_Diag : FnOK Tryz.prog n_slices_Compact_api_Diag_api_Diag (a1 f_slices_Compact_api_Diag_api_Diag) := ok1 mixed Tryz.func48 (by kernel_rfl)
/- corrector/diag.Sort$1 -/
noncomputable def f_diag_Sort_1 (n : Nat) (call : Caller)  (x0 x1 : AV) (h : AH) : Ans :=
 oP (oNew h 67 (AV.cells x0)) fun x2_0 h0 =>
 oP (oNew h0 67 (AV.cells x1)) fun x3_1 h1 =>
 oB (oLdN 3 h1 x2_0) fun x5_2 =>
 oB (some (.iface 67 x5_2)) fun x6_3 =>
 oB (oLdN 3 h1 x3_1) fun x7_4 =>
 oB (some (.iface 67 x7_4)) fun x8_5 =>
 oP (call n_diag_order [x6_3, x8_5] h1) fun x9_6 h6 =>
 some (x9_6, h6)
theorem o_diag_Sort_1 : FnOK Tryz.prog n_diag_Sort_1 (a2 f_diag_Sort_1) := ok2 mixed Tryz.func49 (by kernel_rfl)
/- corrector/diag.order -/
noncomputable def f_diag_order (n : Nat) (call : Caller)  (x0 x1 : AV) (h : AH) : Ans :=
 oB (oTa 67 (.agg [(I 0), (I 0), (I 0)]) true x0) fun x11_0 =>
 oB (oEx 0 x11_0) fun x12_1 =>
 oB (oEx 1 x11_0) fun x13_2 =>
 oP (oNew h 67 [(I 0), (I 0), (I 0)]) fun x5_3 h3 =>
 oP (oSt 3 h3 x5_3 x12_1) fun _ h4 =>
 oB (oTa 67 (.agg [(I 0), (I 0), (I 0)]) true x1) fun x16_5 =>
 oB (oEx 0 x16_5) fun x17_6 =>
 oB (oEx 1 x16_5) fun x18_7 =>
 oP (oNew h4 67 [(I 0), (I 0), (I 0)]) fun x7_8 h8 =>
 oP (oSt 3 h8 x7_8 x17_6) fun _ h9 =>
 oB (evQ (.un .not (.c x13_2)) .e h9) fun x20_10 =>
 oB (gq x20_10 false (some x18_7)) fun x22_11 =>
 oB (gq x20_10 false (evQ (.un .not (.c x22_11)) .e h9)) fun x23_12 =>
 oB (oPick x20_10 (.bool true) x23_12) fun x24_13 =>
 ci x24_13 (
 some ((I 0), h9)) (
 oB' (nx 18 h9) fun h14 =>
 oB (oFA 1 x5_3) fun x25_15 =>
 oB (oLd h14 x25_15) fun x26_16 =>
 oB (oFA 1 x7_8) fun x27_17 =>
 oB (oLd h14 x27_17) fun x28_18 =>
 oP (call n_cmp_Compare_int [x26_16, x28_18] h14) fun x29_19 h19 =>
 oB (oFA 2 x5_3) fun x30_20 =>
 oB (oLd h19 x30_20) fun x31_21 =>
 oB (oFA 2 x7_8) fun x32_22 =>
 oB (oLd h19 x32_22) fun x33_23 =>
 oP (call n_cmp_Compare_int [x31_21, x33_23] h19) fun x34_24 h24 =>
 oB (oFA 0 x5_3) fun x35_25 =>
 oB (oLd h24 x35_25) fun x36_26 =>
 oB (oFA 0 x7_8) fun x37_27 =>
 oB (oLd h24 x37_27) fun x38_28 =>
 oP (call n_cmp_Compare_int [x36_26, x38_28] h24) fun x39_29 h29 =>
 fl1 true (evF (.buildSlice 3 1 3 [(I 0), (I 0), (I 0)] [(0, 1, (.c x29_19)), (1, 1, (.c x34_24)), (2, 1, (.c x39_29))]) .e) (Nat.add h9.next 15) fun x40_30 o30 =>
 oB' (lay1 (Nat.add h9.next 15) o30 h29) fun v31 =>
 oP (call n_cmp_Or_int [x40_30] v31) fun x41_32 h32 =>
 ask1 true (oLd h14 x25_15) x26_16 (
 ask1 true (oLd h14 x27_17) x28_18 (
 ask1 true (oLd h14 x30_20) x31_21 (
 ask1 true (oLd h19 x30_20) x31_21 (
 ask1 true (oLd h14 x32_22) x33_23 (
 ask1 true (oLd h19 x32_22) x33_23 (
 ask1 true (oLd h14 x35_25) x36_26 (
 ask1 true (oLd h19 x35_25) x36_26 (
 ask1 true (oLd h24 x35_25) x36_26 (
 ask1 true (oLd h14 x37_27) x38_28 (
 ask1 true (oLd h19 x37_27) x38_28 (
 ask1 true (oLd h24 x37_27) x38_28 (
 some (x41_32, h32))))))))))))))
theorem o_diag_order : FnOK Tryz.prog n_diag_order (a2 f_diag_order) := ok2 mixed Tryz.func50 (by kernel_rfl)
/- slices.Grow[[]corrector/api.Diag,corrector/api.Diag] -/
noncomputable def f_slices_Grow_api_Diag_api_Diag (n : Nat) (call : Caller)  (x0 x1 : AV) (h : AH) : Ans :=
 oB (bLt x1 (I 0)) fun x6_0 =>
 jnF 2 (fun z1_1 z0_1 h1 =>
 oB (evQ (.capSl (.c z0_1)) .e h1) fun x10_2 =>
 oB (oLen z0_1) fun x12_3 =>
 oB (bSub x10_2 x12_3) fun x13_4 =>
 oB (bSub z1_1 x13_4) fun x14_5 =>
 oB (bGt x14_5 (I 0)) fun x16_6 =>
 jnF 1 (fun z0_7 h7 =>
 some (z0_7, h7)) fun j7 =>
 ci x16_6 (
 oB (evQ (.capSl (.c z0_1)) .e h1) fun x19_8 =>
 oB (evQ (.sl 3 (.c z0_1) none (some (.c x19_8)) none) .e h1) fun x20_9 =>
 oP (evW (.grow 67 3 24 (.c x20_9) (.c x14_5)) .e h1) fun x22_10 h10 =>
 oB (oLen z0_1) fun x24_11 =>
 oB (evQ (.sl 3 (.c x22_10) none (some (.c x24_11)) none) .e h10) fun x25_12 =>
 j7 x25_12 h10) (
 j7 z0_1 h1)) fun j1 =>
 ci x6_0 (
 oB (some (.iface 9 (.str [99, 97, 110, 110, 111, 116, 32, 98, 101, 32, 110, 101, 103, 97, 116, 105, 118, 101]))) fun x7_13 =>
 oB (evQ (.bad) .e h) fun _ =>
 j1 x1 x0 h) (
 j1 x1 x0 h)
theorem o_slices_Grow_api_Diag_api_Diag : FnOK Tryz.prog n_slices_Grow_api_Diag_api_Diag (a2 f_slices_Grow_api_Diag_api_Diag) := ok2 mixed Tryz.func51 (by kernel_rfl)
/- corrector/edit.one -/
noncomputable def f_edit_one (n : Nat) (call : Caller)  (x0 x1 : AV) (h : AH) : Ans :=
 oP (oNew h 75 (AV.cells x1)) fun x3_0 h0 =>
 jnF 0 (fun h1 =>
 some ((I 0), h1)) fun j1 =>
 oB (oFA 0 x3_0) fun x6_2 =>
 oB (oLd h0 x6_2) fun x7_3 =>
 oB (bLt x7_3 (I 0)) fun x8_4 =>
 oB (gq x8_4 false (oFA 0 x3_0)) fun x10_5 =>
 oB (gq x8_4 false (oLd h0 x10_5)) fun x11_6 =>
 oB (gq x8_4 false (oFA 1 x3_0)) fun x12_7 =>
 oB (gq x8_4 false (oLd h0 x12_7)) fun x13_8 =>
 oB (gq x8_4 false (bGt x11_6 x13_8)) fun x14_9 =>
 oB (oPick x8_4 (.bool true) x14_9) fun x15_10 =>
 oB (gq x15_10 false (oFA 1 x3_0)) fun x17_11 =>
 oB (gq x15_10 false (oLd h0 x17_11)) fun x18_12 =>
 oB (gq x15_10 false (some x0)) fun x19_13 =>
 oB (gq x15_10 false (bGt x18_12 x19_13)) fun x20_14 =>
 oB (oPick x15_10 (.bool true) x20_14) fun x21_15 =>
 ci x21_15 (
 some ((I 1), h0)) (
 oB (oFA 2 x3_0) fun x23_16 =>
 oB (oLd h0 x23_16) fun x24_17 =>
 oB (oLenS x24_17) fun x25_18 =>
 oB (bGt x25_18 (I 1000)) fun x26_19 =>
 ci x26_19 (
 some ((I 4), h0)) (
 j1 h0))
theorem o_edit_one : FnOK Tryz.prog n_edit_one (a2 f_edit_one) := ok2 mixed Tryz.func52 (by kernel_rfl)
/- slices.ContainsFunc[[]corrector/api.Edit,corrector/api.Edit] -/
noncomputable def f_slices_ContainsFunc_api_Edit_api_Edit (n : Nat) (call : Caller)  (x0 x1 : AV) (h : AH) : Ans :=
 oP (call n_slices_IndexFunc_api_Edit_api_Edit [x0, x1] h) fun x7_0 h0 =>
 oB (bGe x7_0 (I 0)) fun x8_1 =>
 some (x8_1, h0)
theorem o_slices_ContainsFunc_api_Edit_api_Edit : FnOK Tryz.prog n_slices_ContainsFunc_api_Edit_api_Edit (a2 f_slices_ContainsFunc_api_Edit_api_Edit) := ok2 mixed Tryz.func53 (by kernel_rfl)
/- corrector/edit.Choose$1 -/
noncomputable def f_edit_Choose_1 (n : Nat) (call : Caller)  (x0 x1 : AV) (h : AH) : Ans :=
 oP (oNew h 75 (AV.cells x0)) fun x2_0 h0 =>
 oB (oLdN 3 h0 x1) fun x4_1 =>
 oB (oLdN 3 h0 x2_0) fun x5_2 =>
 oP (call n_edit_upon [x4_1, x5_2] h0) fun x6_3 h3 =>
 some (x6_3, h3)
theorem o_edit_Choose_1 : FnOK Tryz.prog n_edit_Choose_1 (a2 f_edit_Choose_1) := ok2 mixed Tryz.func54 (by kernel_rfl)
/- corrector/edit.upon -/
noncomputable def f_edit_upon (n : Nat) (call : Caller)  (x0 x1 : AV) (h : AH) : Ans :=
 oP (oNew h 75 (AV.cells x0)) fun x2_0 h0 =>
 oP (oNew h0 75 (AV.cells x1)) fun x3_1 h1 =>
 oB' (nx 14 h1) fun h2 =>
 oB (oFA 0 x2_0) fun x7_3 =>
 oB (oLd h2 x7_3) fun x8_4 =>
 oB (oFA 1 x2_0) fun x9_5 =>
 oB (oLd h2 x9_5) fun x10_6 =>
 oB (oBuild [(I 0), (I 0)] [(0, 1, x8_4), (1, 1, x10_6)]) fun x11_7 =>
 oB (oFA 0 x3_1) fun x12_8 =>
 oB (oLd h2 x12_8) fun x13_9 =>
 oB (oFA 1 x3_1) fun x14_10 =>
 oB (oLd h2 x14_10) fun x15_11 =>
 oB (oBuild [(I 0), (I 0)] [(0, 1, x13_9), (1, 1, x15_11)]) fun x16_12 =>
 fl1 true (evF (.new 145 [(I 0), (I 0)]) .e) (Nat.add h1.next 10) fun x5_13 o13 =>
 fl1 true (evF (.new 145 [(I 0), (I 0)]) .e) (Nat.add h1.next 11) fun x6_14 o14 =>
 oB' (lay1 (Nat.add h1.next 11) o14 (lay1 (Nat.add h1.next 10) o13 h2)) fun v15 =>
 oP (oSt 2 v15 x5_13 x11_7) fun x0_16 h16 =>
 oP (oSt 2 h16 x6_14 x16_12) fun x0_17 h17 =>
 ask1 true (oLd h2 x7_3) x8_4 (
 ask1 true (oLd h2 x9_5) x10_6 (
 ask1 true (oLd h2 x12_8) x13_9 (
 ask1 true (oLd h16 x12_8) x13_9 (
 ask1 true (oLd h2 x14_10) x15_11 (
 ask1 true (oLd h16 x14_10) x15_11 (
 oB (oLdN 2 h17 x5_13) fun x17_18 =>
 oB (oLdN 2 h17 x6_14) fun x18_19 =>
 oB (bEq (.flat [.i, .i]) x17_18 x18_19) fun x19_20 =>
 oB (gq x19_20 false (oLdN 2 h17 x5_13)) fun x21_21 =>
 oB (gq x19_20 false (oLdN 2 h17 x6_14)) fun x22_22 =>
 oP (gw x19_20 false (call n_span_Meet [x21_21, x22_22] h17) h17) fun x23_23 h23 =>
 oB (oPick x19_20 (.bool true) x23_23) fun x24_24 =>
 some (x24_24, h23)))))))
theorem o_edit_upon : FnOK Tryz.prog n_edit_upon (a2 f_edit_upon) := ok2 mixed Tryz.func55 (by kernel_rfl)
/- slices.SortStableFunc[[]corrector/api.Edit,corrector/api.Edit] -/
noncomputable def f_slices_SortStableFunc_api_Edit_api_Edit (n : Nat) (call : Caller)  (x0 x1 : AV) (h : AH) : Ans :=
 oB (oLen x0) fun x6_0 =>
 oP (call n_slices_stableCmpFunc_api_Edit [x0, x6_0, x1] h) fun x8_1 h1 =>
 some (.tup [], h1)
theorem o_slices_SortStableFunc_api_Edit_api_Edit : FnOK Tryz.prog n_slices_SortStableFunc_api_Edit_api_Edit (a2 f_slices_SortStableFunc_api_Edit_api_Edit) := ok2 mixed Tryz.func56 (by kernel_rfl)
/- corrector/edit.Choose$2 -/
noncomputable def f_edit_Choose_2 (n : Nat) (call : Caller)  (x0 x1 : AV) (h : AH) : Ans :=
 oP (oNew h 75 (AV.cells x0)) fun x2_0 h0 =>
 oP (oNew h0 75 (AV.cells x1)) fun x3_1 h1 =>
 oB (oLdN 3 h1 x2_0) fun x5_2 =>
 oB (some (.iface 75 x5_2)) fun x6_3 =>
 oB (oLdN 3 h1 x3_1) fun x7_4 =>
 oB (some (.iface 75 x7_4)) fun x8_5 =>
 oP (call n_edit_order [x6_3, x8_5] h1) fun x9_6 h6 =>
 some (x9_6, h6)
theorem o_edit_Choose_2 : FnOK Tryz.prog n_edit_Choose_2 (a2 f_edit_Choose_2) := ok2 mixed Tryz.func57 (by kernel_rfl)
/- corrector/edit.order -/
noncomputable def f_edit_order (n : Nat) (call : Caller)  (x0 x1 : AV) (h : AH) : Ans :=
 oB (oTa 75 (.agg [(I 0), (I 0), (.str [])]) true x0) fun x11_0 =>
 oB (oEx 0 x11_0) fun x12_1 =>
 oB (oEx 1 x11_0) fun x13_2 =>
 oP (oNew h 75 [(I 0), (I 0), (.str [])]) fun x5_3 h3 =>
 oP (oSt 3 h3 x5_3 x12_1) fun _ h4 =>
 oB (oTa 75 (.agg [(I 0), (I 0), (.str [])]) true x1) fun x16_5 =>
 oB (oEx 0 x16_5) fun x17_6 =>
 oB (oEx 1 x16_5) fun x18_7 =>
 oP (oNew h4 75 [(I 0), (I 0), (.str [])]) fun x7_8 h8 =>
 oP (oSt 3 h8 x7_8 x17_6) fun _ h9 =>
 oB (evQ (.un .not (.c x13_2)) .e h9) fun x20_10 =>
 oB (gq x20_10 false (some x18_7)) fun x22_11 =>
 oB (gq x20_10 false (evQ (.un .not (.c x22_11)) .e h9)) fun x23_12 =>
 oB (oPick x20_10 (.bool true) x23_12) fun x24_13 =>
 ci x24_13 (
 some ((I 0), h9)) (
 oB' (nx 13 h9) fun h14 =>
 oB (oFA 0 x5_3) fun x25_15 =>
 oB (oLd h14 x25_15) fun x26_16 =>
 oB (oFA 0 x7_8) fun x27_17 =>
 oB (oLd h14 x27_17) fun x28_18 =>
 oP (call n_cmp_Compare_int [x26_16, x28_18] h14) fun x29_19 h19 =>
 oB (oFA 1 x5_3) fun x30_20 =>
 oB (oLd h19 x30_20) fun x31_21 =>
 oB (oFA 1 x7_8) fun x32_22 =>
 oB (oLd h19 x32_22) fun x33_23 =>
 oP (call n_cmp_Compare_int [x31_21, x33_23] h19) fun x34_24 h24 =>
 fl1 true (evF (.buildSlice 3 1 2 [(I 0), (I 0)] [(0, 1, (.c x29_19)), (1, 1, (.c x34_24))]) .e) (Nat.add h9.next 10) fun x35_25 o25 =>
 oB' (lay1 (Nat.add h9.next 10) o25 h24) fun v26 =>
 oP (call n_cmp_Or_int [x35_25] v26) fun x36_27 h27 =>
 ask1 true (oLd h14 x25_15) x26_16 (
 ask1 true (oLd h14 x27_17) x28_18 (
 ask1 true (oLd h14 x30_20) x31_21 (
 ask1 true (oLd h19 x30_20) x31_21 (
 ask1 true (oLd h14 x32_22) x33_23 (
 ask1 true (oLd h19 x32_22) x33_23 (
 some (x36_27, h27))))))))
theorem o_edit_order : FnOK Tryz.prog n_edit_order (a2 f_edit_order) := ok2 mixed Tryz.func58 (by kernel_rfl)
/- (*corrector/suggest.mender).wrong -/
noncomputable def f_suggest_mender_wrong (n : Nat) (call : Caller)  (x0 x1 : AV) (h : AH) : Ans :=
 oP (oNew h 67 (AV.cells x1)) fun x3_0 h0 =>
 oB (oFA 0 x3_0) fun x5_1 =>
 oB (oLd h0 x5_1) fun x6_2 =>
 jnF 0 (fun h3 =>
 some (.nili, h3)) fun j3 =>
 oB (bEq .no x6_2 (I 1)) fun x8_4 =>
 ci x8_4 (
 oB (oFA 1 x3_0) fun x9_5 =>
 oB (oLd h0 x9_5) fun x10_6 =>
 oB (oFA 2 x3_0) fun x11_7 =>
 oB (oLd h0 x11_7) fun x12_8 =>
 oB (oBuild [(I 0), (I 0), (.str [])] [(0, 1, x10_6), (1, 1, x12_8)]) fun x13_9 =>
 oB (some (.iface 75 x13_9)) fun x14_10 =>
 some (x14_10, h0)) (
 oB (bEq .no x6_2 (I 2)) fun x16_11 =>
 ci x16_11 (
 oB' (nx 15 h0) fun h12 =>
 oB (oFA 1 x3_0) fun x17_13 =>
 oB (oLd h12 x17_13) fun x18_14 =>
 oB (oFA 2 x3_0) fun x19_15 =>
 oB (oLd h12 x19_15) fun x20_16 =>
 oB (oFA 2 x3_0) fun x21_17 =>
 oB (oLd h12 x21_17) fun x22_18 =>
 oB (oFA 1 x3_0) fun x23_19 =>
 oB (oLd h12 x23_19) fun x24_20 =>
 oB (bSub x22_18 x24_20) fun x25_21 =>
 oB (evQ (.maxI (.c x25_21) [(.c (I 0))]) .e h12) fun x26_22 =>
 oB (evQ (.minI (.c x26_22) [(.c (I 16384))]) .e h12) fun x27_23 =>
 oP (call n_strings_Repeat [(.str [32]), x27_23] h12) fun x28_24 h24 =>
 oB (oBuild [(I 0), (I 0), (.str [])] [(0, 1, x18_14), (1, 1, x20_16), (2, 1, x28_24)]) fun x29_25 =>
 oB (some (.iface 75 x29_25)) fun x30_26 =>
 ask1 true (oLd h12 x17_13) x18_14 (
 ask1 true (oLd h24 x17_13) x18_14 (
 ask1 true (oLd h12 x19_15) x20_16 (
 ask1 true (oLd h24 x19_15) x20_16 (
 ask1 true (oLd h12 x21_17) x22_18 (
 ask1 true (oLd h12 x23_19) x24_20 (
 some (x30_26, h24)))))))) (
 oB (bEq .no x6_2 (I 3)) fun x32_27 =>
 ci x32_27 (
 oB' (nx 8 h0) fun h28 =>
 oB (oFA 2 x3_0) fun x33_29 =>
 oB (oLd h28 x33_29) fun x34_30 =>
 oB (oFA 1 x3_0) fun x36_31 =>
 oB (oLd h28 x36_31) fun x37_32 =>
 oP (call n_suggest_mender_sign [x0, x37_32] h28) fun x38_33 h33 =>
 oP (call n_suggest_put [x34_30, x38_33] h33) fun x39_34 h34 =>
 ask1 true (oLd h28 x33_29) x34_30 (
 ask1 true (oLd h33 x33_29) x34_30 (
 ask1 true (oLd h28 x36_31) x37_32 (
 some (x39_34, h34))))) (
 oB (bEq .no x6_2 (I 9)) fun x41_35 =>
 ci x41_35 (
 oB (oFA 1 x3_0) fun x43_36 =>
 oB (oLd h0 x43_36) fun x44_37 =>
 oP (call n_suggest_mender_open [x0, x44_37] h0) fun x45_38 h38 =>
 some (x45_38, h38)) (
 j3 h0))))
theorem o_suggest_mender_wrong : FnOK Tryz.prog n_suggest_mender_wrong (a2 f_suggest_mender_wrong) := ok2 mixed Tryz.func59 (by kernel_rfl)
/- (*corrector/suggest.mender).found -/
noncomputable def f_suggest_mender_found (n : Nat) (call : Caller)  (x0 x1 : AV) (h : AH) : Ans :=
 oP (oNew h 67 (AV.cells x1)) fun x3_0 h0 =>
 oB (oFA 0 x3_0) fun x5_1 =>
 oB (oLd h0 x5_1) fun x6_2 =>
 jnF 0 (fun h3 =>
 some (.nili, h3)) fun j3 =>
 jnF 1 (fun z3_4 h4 =>
 oB (oFA 2 z3_4) fun x29_5 =>
 oB (oLd h4 x29_5) fun x30_6 =>
 oP (call n_suggest_put [x30_6, (.str [10])] h4) fun x31_7 h7 =>
 some (x31_7, h7)) fun j4 =>
 jnF 1 (fun z3_8 h8 =>
 oB (oFA 2 z3_8) fun x26_9 =>
 oB (oLd h8 x26_9) fun x27_10 =>
 oP (call n_suggest_put [x27_10, (.str [32])] h8) fun x28_11 h11 =>
 some (x28_11, h11)) fun j8 =>
 jnF 1 (fun z3_12 h12 =>
 j8 z3_12 h12) fun j12 =>
 jnF 0 (fun h13 =>
 oP (call n_suggest_put [(I 0), (.str [45, 45, 45, 10])] h13) fun x25_14 h14 =>
 some (x25_14, h14)) fun j13 =>
 jnF 1 (fun z3_15 h15 =>
 oB (oFA 1 z3_15) fun x19_16 =>
 oB (oLd h15 x19_16) fun x20_17 =>
 oB (oFA 2 z3_15) fun x21_18 =>
 oB (oLd h15 x21_18) fun x22_19 =>
 oB (oBuild [(I 0), (I 0), (.str [])] [(0, 1, x20_17), (1, 1, x22_19)]) fun x23_20 =>
 oB (some (.iface 75 x23_20)) fun x24_21 =>
 some (x24_21, h15)) fun j15 =>
 jnF 1 (fun z3_22 h22 =>
 j15 z3_22 h22) fun j22 =>
 oB (bEq .no x6_2 (I 1)) fun x8_23 =>
 ci x8_23 (
 j22 x3_0 h0) (
 oB (bEq .no x6_2 (I 4)) fun x10_24 =>
 ci x10_24 (
 j15 x3_0 h0) (
 oB (bEq .no x6_2 (I 5)) fun x12_25 =>
 ci x12_25 (
 j13 h0) (
 oB (bEq .no x6_2 (I 6)) fun x14_26 =>
 ci x14_26 (
 j12 x3_0 h0) (
 oB (bEq .no x6_2 (I 7)) fun x16_27 =>
 ci x16_27 (
 j8 x3_0 h0) (
 oB (bEq .no x6_2 (I 9)) fun x18_28 =>
 ci x18_28 (
 j4 x3_0 h0) (
 j3 h0))))))
theorem o_suggest_mender_found : FnOK Tryz.prog n_suggest_mender_found (a2 f_suggest_mender_found) := ok2 mixed Tryz.func60 (by kernel_rfl)
/- corrector/edit.Check -/
noncomputable def f_edit_Check (n : Nat) (call : Caller)  (x0 x1 : AV) (h : AH) : Ans :=
 oB (oLen x1) fun x9_0 =>
 oB (bGt x9_0 (I 200)) fun x10_1 =>
 ci x10_1 (
 some ((I 3), h)) (
 oB (oLen x1) fun x12_2 =>
 jnF 0 (fun h3 =>
 some ((I 0), h3)) fun j3 =>
 lpF 5 n (fun f4 y13_4 y12_4 y11_4 y1_4 y0_4 h4 =>
 oB (bLt y13_4 y12_4) fun x14_5 =>
 ci x14_5 (
 jnF 5 (fun z13_6 z12_6 z11_6 z1_6 z0_6 h6 =>
 oB (bAdd z13_6 (I 1)) fun x37_7 =>
 f4 x37_7 z12_6 z11_6 z1_6 z0_6 h6) fun j6 =>
 oB (oIx 3 y11_4 y13_4) fun x16_8 =>
 oB (oLdN 3 h4 x16_8) fun x17_9 =>
 oP (oNew h4 75 [(I 0), (I 0), (.str [])]) fun x6_10 h10 =>
 oP (oSt 3 h10 x6_10 x17_9) fun _ h11 =>
 oB (oLdN 3 h11 x6_10) fun x19_12 =>
 oP (call n_edit_one [y0_4, x19_12] h11) fun x20_13 h13 =>
 oB (bNe .no x20_13 (I 0)) fun x22_14 =>
 ci x22_14 (
 some (x20_13, h13)) (
 oB' (nx 13 h13) fun h15 =>
 oB (bGt y13_4 (I 0)) fun x25_16 =>
 oB (gq x25_16 true (oFA 0 x6_10)) fun x27_17 =>
 oB (gq x25_16 true (oLd h15 x27_17)) fun x28_18 =>
 oB (gq x25_16 true (some y1_4)) fun x29_19 =>
 oB (gq x25_16 true (some y13_4)) fun x30_20 =>
 oB (gq x25_16 true (bSub x30_20 (I 1))) fun x31_21 =>
 oB (gq x25_16 true (oIx 3 x29_19 x31_21)) fun x32_22 =>
 oB (gq x25_16 true (oFA 1 x32_22)) fun x33_23 =>
 oB (gq x25_16 true (oLd h15 x33_23)) fun x34_24 =>
 oB (gq x25_16 true (bLt x28_18 x34_24)) fun x35_25 =>
 oB (oPick x25_16 x35_25 (.bool false)) fun x36_26 =>
 ci x36_26 (
 some ((I 6), h15)) (
 j6 y13_4 y12_4 y11_4 y1_4 y0_4 h15))) (
 j3 h4)) (I 0) x12_2 x1 x1 x0 h)
theorem o_edit_Check : FnOK Tryz.prog n_edit_Check (a2 f_edit_Check) := ok2 mixed Tryz.func61 (by kernel_rfl)
/- corrector/equal.Same -/
noncomputable def f_equal_Same (n : Nat) (call : Caller)  (x0 x1 : AV) (h : AH) : Ans :=
 oP (oNew h 42 (AV.cells x0)) fun x2_0 h0 =>
 oP (oNew h0 42 (AV.cells x1)) fun x3_1 h1 =>
 oP (evW (.mkMap) .e h1) fun x6_2 h2 =>
 oB' (nx 12 h2) fun h3 =>
 oB (oLdN 3 h3 x2_0) fun x7_4 =>
 oB (oLdN 3 h3 x2_0) fun x9_5 =>
 oP (call n_equal_classes_of [x6_2, x9_5] h3) fun x10_6 h6 =>
 oP (call n_equal_docs [x7_4, x10_6] h6) fun x11_7 h7 =>
 oB (oLdN 3 h7 x3_1) fun x12_8 =>
 oB (oLdN 3 h7 x3_1) fun x14_9 =>
 oP (call n_equal_classes_of [x6_2, x14_9] h7) fun x15_10 h10 =>
 oP (call n_equal_docs [x12_8, x15_10] h10) fun x16_11 h11 =>
 oP (call n_slices_Equal_int_int [x11_7, x16_11] h11) fun x17_12 h12 =>
 ask1 true (oLdN 3 h3 x2_0) x7_4 (
 ask1 true (oLdN 3 h6 x2_0) x7_4 (
 ask1 true (oLdN 3 h3 x2_0) x9_5 (
 ask1 true (oLdN 3 h3 x3_1) x12_8 (
 ask1 true (oLdN 3 h6 x3_1) x12_8 (
 ask1 true (oLdN 3 h7 x3_1) x12_8 (
 ask1 true (oLdN 3 h10 x3_1) x12_8 (
 ask1 true (oLdN 3 h3 x3_1) x14_9 (
 ask1 true (oLdN 3 h6 x3_1) x14_9 (
 ask1 true (oLdN 3 h7 x3_1) x14_9 (
 some (x17_12, h12)))))))))))
theorem o_equal_Same : FnOK Tryz.prog n_equal_Same (a2 f_equal_Same) := ok2 mixed Tryz.func62 (by kernel_rfl)
/- corrector/config.within -/
noncomputable def f_config_within (n : Nat) (call : Caller)  (x0 x1 x2 : AV) (h : AH) : Ans :=
 oB (bGe x0 x1) fun x9_0 =>
 oB (gq x9_0 true (some x0)) fun x11_1 =>
 oB (gq x9_0 true (some x2)) fun x12_2 =>
 oB (gq x9_0 true (bLe x11_1 x12_2)) fun x13_3 =>
 oB (oPick x9_0 x13_3 (.bool false)) fun x14_4 =>
 some (x14_4, h)
theorem o_config_within : FnOK Tryz.prog n_config_within (a3 f_config_within) := ok3 mixed Tryz.func63 (by kernel_rfl)
/- corrector/rows.Rows$1 -/
noncomputable def f_rows_Rows_1 (n : Nat) (call : Caller)  (x0 x1 x2 x3 x4 x5 : AV) (h : AH) : Ans :=
 oB (oLd h x1) fun x8_0 =>
 oB (oBuild [(I 0), (I 0), (I 0), (I 0)] [(1, 1, x8_0), (2, 1, x0)]) fun x10_1 =>
 oP (oNew h 125 [(I 0), (I 0), (I 0), (I 0)]) fun x7_2 h2 =>
 oP (oSt 4 h2 x7_2 x10_1) fun _ h3 =>
 oB (oLd h3 x2) fun x12_4 =>
 oB (oLdN 4 h3 x7_2) fun x13_5 =>
 oB (oLd h3 x3) fun x14_6 =>
 oP (call n_rows_kind [x12_4, x13_5, x14_6] h3) fun x15_7 h7 =>
 oB (oEx 0 x15_7) fun x16_8 =>
 oB (oEx 1 x15_7) fun x17_9 =>
 oB (oFA 0 x7_2) fun x18_10 =>
 oP (oSt 1 h7 x18_10 x16_8) fun _ h11 =>
 oB (oFA 3 x7_2) fun x19_12 =>
 oP (oSt 1 h11 x19_12 x17_9) fun _ h13 =>
 oB (oLd h13 x4) fun x20_14 =>
 oB (oLdN 4 h13 x7_2) fun x21_15 =>
 oP (oBuildSl h13 125 4 1 [(I 0), (I 0), (I 0), (I 0)] [(0, 4, x21_15)]) fun x22_16 h16 =>
 oP (evW (.append 125 4 32 [(I 0), (I 0), (I 0), (I 0)] (.c x20_14) (.c x22_16)) .e h16) fun x23_17 h17 =>
 oP (oSt 1 h17 x4 x23_17) fun _ h18 =>
 oB' (nx 4 h18) fun h19 =>
 oB (oLd h19 x5) fun x25_20 =>
 oP (oSt 1 h19 x1 x0) fun x0_21 h21 =>
 oP (oSt 1 h21 x3 x25_20) fun x0_22 h22 =>
 ask1 true (oLd h19 x5) x25_20 (
 ask1 true (oLd h21 x5) x25_20 (
 some (.tup [], h22)))
theorem o_rows_Rows_1 : FnOK Tryz.prog n_rows_Rows_1 (a6 f_rows_Rows_1) := ok6 mixed Tryz.func64 (by kernel_rfl)
/- corrector/rows.kind -/
noncomputable def f_rows_kind (n : Nat) (call : Caller)  (x0 x1 x2 : AV) (h : AH) : Ans :=
 oP (oNew h 125 (AV.cells x1)) fun x4_0 h0 =>
 oB (oFA 1 x4_0) fun x12_1 =>
 oB (oLd h0 x12_1) fun x13_2 =>
 oB (oFA 2 x4_0) fun x14_3 =>
 oB (oLd h0 x14_3) fun x15_4 =>
 oB (evQ (.sl 3 (.c x0) (some (.c x13_2)) (some (.c x15_4)) none) .e h0) fun x16_5 =>
 oB (oLen x16_5) fun x17_6 =>
 jnF 5 (fun z7_7 z6_7 z4_7 z2_7 z0_7 h7 =>
 oB (oFA 1 z4_7) fun x41_8 =>
 oB (oLd h7 x41_8) fun x42_9 =>
 oB (oIx 3 z0_7 x42_9) fun x43_10 =>
 oB (oFA 0 x43_10) fun x44_11 =>
 oB (oLd h7 x44_11) fun x45_12 =>
 jnF 2 (fun z7_13 z6_13 h13 =>
 some (.tup [z6_13, z7_13], h13)) fun j13 =>
 oB (bEq .no x45_12 (I 19)) fun x48_14 =>
 jnF 2 (fun z7_15 z6_15 h15 =>
 j13 z7_15 z6_15 h15) fun j15 =>
 ci x48_14 (
 j15 z7_7 (I 2) h7) (
 oB (bGt z2_7 (I 0)) fun x51_16 =>
 oB (gq x51_16 true (some x45_12)) fun x53_17 =>
 oB (gq x51_16 true (bNe .no x53_17 (I 20))) fun x54_18 =>
 oB (oPick x51_16 x54_18 (.bool false)) fun x55_19 =>
 oB (gq x55_19 true (some x45_12)) fun x57_20 =>
 oB (gq x55_19 true (bNe .no x57_20 (I 21))) fun x58_21 =>
 oB (oPick x55_19 x58_21 (.bool false)) fun x59_22 =>
 jnF 2 (fun z7_23 z6_23 h23 =>
 j15 z7_23 z6_23 h23) fun j23 =>
 ci x59_22 (
 j23 z7_7 (I 3) h7) (
 j23 z7_7 z6_7 h7))) fun j7 =>
 lpF 8 n (fun f24 y18_24 y17_24 y16_24 y7_24 y6_24 y4_24 y2_24 y0_24 h24 =>
 oB (bLt y18_24 y17_24) fun x19_25 =>
 ci x19_25 (
 jnF 8 (fun z18_26 z17_26 z16_26 z7_26 z6_26 z4_26 z2_26 z0_26 h26 =>
 oB (bAdd z18_26 (I 1)) fun x39_27 =>
 f24 x39_27 z17_26 z16_26 z7_26 z6_26 z4_26 z2_26 z0_26 h26) fun j26 =>
 oB (oIx 3 y16_24 y18_24) fun x20_28 =>
 oB (oLdN 3 h24 x20_28) fun x21_29 =>
 oP (oNew h24 131 [(I 0), (I 0), (I 0)]) fun x9_30 h30 =>
 oP (oSt 3 h30 x9_30 x21_29) fun _ h31 =>
 oB (oLdN 3 h31 x9_30) fun x22_32 =>
 oP (call n_rows_counts [x22_32] h31) fun x23_33 h33 =>
 oB (evQ (.un .not (.c x23_33)) .e h33) fun x24_34 =>
 ci x24_34 (
 j26 y18_24 y17_24 y16_24 y7_24 y6_24 y4_24 y2_24 y0_24 h33) (
 oB' (nx 7 h33) fun h35 =>
 oB (oFA 1 x9_30) fun x25_36 =>
 oB (oLd h35 x25_36) fun x26_37 =>
 oB (oLdN 4 h35 y4_24) fun x28_38 =>
 oP (call n_rows_begin [y0_24, x28_38] h35) fun x29_39 h39 =>
 oB (bSub x26_37 x29_39) fun x30_40 =>
 ask1 true (oLd h35 x25_36) x26_37 (
 ask1 true (oLd h39 x25_36) x26_37 (
 ask1 true (oLdN 4 h35 y4_24) x28_38 (
 oB (oFA 0 x9_30) fun x31_41 =>
 oB (oLd h39 x31_41) fun x32_42 =>
 oB (bEq .no x32_42 (I 20)) fun x33_43 =>
 oB (gq x33_43 false (oFA 0 x9_30)) fun x35_44 =>
 oB (gq x33_43 false (oLd h39 x35_44)) fun x36_45 =>
 oB (gq x33_43 false (bEq .no x36_45 (I 21))) fun x37_46 =>
 oB (oPick x33_43 (.bool true) x37_46) fun x38_47 =>
 jnF 5 (fun z7_48 z6_48 z4_48 z2_48 z0_48 h48 =>
 j7 z7_48 z6_48 z4_48 z2_48 z0_48 h48) fun j48 =>
 ci x38_47 (
 j48 x30_40 (I 4) y4_24 y2_24 y0_24 h39) (
 j48 x30_40 (I 5) y4_24 y2_24 y0_24 h39)))))) (
 j7 y7_24 y6_24 y4_24 y2_24 y0_24 h24)) (I 0) x17_6 x16_5 (Ineg 0) (I 1) x4_0 x2 x0 h0
theorem o_rows_kind : FnOK Tryz.prog n_rows_kind (a3 f_rows_kind) := ok3 mixed Tryz.func65 (by kernel_rfl)
/- corrector/rows.brackets -/
noncomputable def f_rows_brackets (n : Nat) (call : Caller)  (x0 x1 : AV) (h : AH) : Ans :=
 oP (oNew h 131 (AV.cells x0)) fun x2_0 h0 =>
 oB (oFA 0 x2_0) fun x5_1 =>
 oB (oLd h0 x5_1) fun x6_2 =>
 jnF 1 (fun z1_3 h3 =>
 some (z1_3, h3)) fun j3 =>
 oB (bEq .no x6_2 (I 8)) fun x8_4 =>
 jnF 3 (fun z7_5 z6_5 z1_5 h5 =>
 ci z7_5 (
 oB (bAdd z1_5 (I 1)) fun x11_6 =>
 some (x11_6, h5)) (
 oB (bEq .no z6_5 (I 10)) fun x13_7 =>
 jnF 3 (fun z12_8 z6_8 z1_8 h8 =>
 ci z12_8 (
 oB (bSub z1_8 (I 1)) fun x16_9 =>
 oB (evQ (.maxI (.c x16_9) [(.c (I 0))]) .e h8) fun x17_10 =>
 some (x17_10, h8)) (
 oB (bEq .no z6_8 (I 20)) fun x19_11 =>
 jnF 2 (fun z18_12 z1_12 h12 =>
 ci z18_12 (
 some ((I 0), h12)) (
 j3 z1_12 h12)) fun j12 =>
 ci x19_11 (
 j12 x19_11 z1_8 h8) (
 oB (bEq .no z6_8 (I 21)) fun x20_13 =>
 j12 x20_13 z1_8 h8))) fun j8 =>
 ci x13_7 (
 j8 x13_7 z6_5 z1_5 h5) (
 oB (bEq .no z6_5 (I 11)) fun x14_14 =>
 j8 x14_14 z6_5 z1_5 h5))) fun j5 =>
 ci x8_4 (
 j5 x8_4 x6_2 x1 h0) (
 oB (bEq .no x6_2 (I 9)) fun x9_15 =>
 j5 x9_15 x6_2 x1 h0)
theorem o_rows_brackets : FnOK Tryz.prog n_rows_brackets (a2 f_rows_brackets) := ok2 mixed Tryz.func66 (by kernel_rfl)
end Go.Proofs.YtahpoedbdhhdfaaGreatDoor
