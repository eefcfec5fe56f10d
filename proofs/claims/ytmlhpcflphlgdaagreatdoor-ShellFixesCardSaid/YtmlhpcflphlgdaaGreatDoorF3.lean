/- Functions, as they run. PRINTED by a program of this repo. -/
import Derived.Test.YtmlhpcflphlgdaaGreatDoorN
import Derived.Test.YtmlhpcflphlgdaaGreatDoorM
set_option linter.unusedVariables false
set_option maxRecDepth 100000
namespace Go.Proofs.YtmlhpcflphlgdaaGreatDoor
open Go.Ev
/- (*corrector/lint.finder).step -/
noncomputable def f_lint_finder_step (n : Nat) (call : Caller)  (x0 : AV) (h : AH) : Ans :=
 oB (oNil x0) fun x6_0 =>
 oB (oFA 16 x6_0) fun x7_1 =>
 oB (oLd h x7_1) fun x8_2 =>
 oB (oLen x8_2) fun x9_3 =>
 jnF 0 (fun h4 =>
 some (.tup [], h4)) fun j4 =>
 lpF 4 n (fun f5 y10_5 y9_5 y8_5 y0_5 h5 =>
 oB (bLt y10_5 y9_5) fun x11_6 =>
 ci x11_6 (
 jnF 4 (fun z10_7 z9_7 z8_7 z0_7 h7 =>
 oB (bAdd z10_7 (I 1)) fun x58_8 =>
 f5 x58_8 z9_7 z8_7 z0_7 h7) fun j7 =>
 oB (oIx 4 y8_5 y10_5) fun x12_9 =>
 oB (oLdN 4 h5 x12_9) fun x13_10 =>
 oP (oNew h5 218 [(I 0), (I 0), (I 0), (I 0)]) fun x3_11 h11 =>
 oP (oSt 4 h11 x3_11 x13_10) fun _ h12 =>
 oB' (nx 10 h12) fun h13 =>
 oB (oNil y0_5) fun x15_14 =>
 oB (oFA 15 x15_14) fun x16_15 =>
 oB (oLd h13 x16_15) fun x17_16 =>
 oB (oFA 1 x3_11) fun x18_17 =>
 oB (oLd h13 x18_17) fun x19_18 =>
 oB (oIx 3 x17_16 x19_18) fun x20_19 =>
 oB (oLdN 3 h13 x20_19) fun x21_20 =>
 fl1 true (evF (.new 92 [(I 0), (I 0), (I 0)]) .e) (Nat.add h12.next 8) fun x4_21 o21 =>
 oB' (lay1 (Nat.add h12.next 8) o21 h13) fun v22 =>
 oP (oSt 3 v22 x4_21 x21_20) fun x0_23 h23 =>
 ask1 true (oLd h13 x16_15) x17_16 (
 ask1 true (oLd h13 x18_17) x19_18 (
 ask1 true (oLdN 3 h13 x20_19) x21_20 (
 oB' (nx 30 h23) fun h24 =>
 oB (oFA 0 x3_11) fun x22_25 =>
 oB (oLd h24 x22_25) fun x23_26 =>
 oB (bEq .no x23_26 (I 5)) fun x24_27 =>
 oB (gq x24_27 true (oFA 0 x4_21)) fun x26_28 =>
 oB (gq x24_27 true (oLd h24 x26_28)) fun x27_29 =>
 oB (gq x24_27 true (bEq .no x27_29 (I 2))) fun x28_30 =>
 oB (oPick x24_27 x28_30 (.bool false)) fun x29_31 =>
 oB (gq x29_31 true (some y0_5)) fun x31_32 =>
 oB (gq x29_31 true (oFA 1 x3_11)) fun x32_33 =>
 oB (gq x29_31 true (oLd h24 x32_33)) fun x33_34 =>
 oB (gq x29_31 true (bAdd x33_34 (I 1))) fun x34_35 =>
 oP (gw x29_31 true (call n_lint_finder_kind [x31_32, x34_35] h24) h24) fun x35_36 h36 =>
 oP (gw x29_31 true (call n_lint_counts [x35_36] h36) h36) fun x36_37 h37 =>
 oB (oPick x29_31 x36_37 (.bool false)) fun x37_38 =>
 oB (gq x37_38 true (oFA 2 x4_21)) fun x39_39 =>
 oB (gq x37_38 true (oLd h37 x39_39)) fun x40_40 =>
 oB (gq x37_38 true (oFA 1 x4_21)) fun x41_41 =>
 oB (gq x37_38 true (oLd h37 x41_41)) fun x42_42 =>
 oB (gq x37_38 true (bSub x40_40 x42_42)) fun x43_43 =>
 oB (gq x37_38 true (some y0_5)) fun x44_44 =>
 oB (gq x37_38 true (oNil x44_44)) fun x45_45 =>
 oB (gq x37_38 true (oFA 1 x45_45)) fun x46_46 =>
 oB (gq x37_38 true (oFA 11 x46_46)) fun x47_47 =>
 oB (gq x37_38 true (oLd h37 x47_47)) fun x48_48 =>
 oB (gq x37_38 true (binAV .rem .no x43_43 x48_48)) fun x49_49 =>
 oB (gq x37_38 true (bNe .no x49_49 (I 0))) fun x50_50 =>
 oB (oPick x37_38 x50_50 (.bool false)) fun x51_51 =>
 jnF 4 (fun z10_52 z9_52 z8_52 z0_52 h52 =>
 j7 z10_52 z9_52 z8_52 z0_52 h52) fun j52 =>
 ci x51_51 (
 oB (oFA 1 x4_21) fun x53_53 =>
 oB (oLd h37 x53_53) fun x54_54 =>
 oB (oFA 2 x4_21) fun x55_55 =>
 oB (oLd h37 x55_55) fun x56_56 =>
 oP (call n_lint_finder_find [y0_5, (I 3), x54_54, x56_56] h37) fun x57_57 h57 =>
 j52 y10_5 y9_5 y8_5 y0_5 h57) (
 j52 y10_5 y9_5 y8_5 y0_5 h37))))) (
 j4 h5)) (I 0) x9_3 x8_2 x0 h
theorem o_lint_finder_step : FnOK Tryz.prog n_lint_finder_step (a1 f_lint_finder_step) := ok1 mixed Tryz.func113 (by kernel_rfl)
/- (*corrector/lint.finder).empty -/
noncomputable def f_lint_finder_empty (n : Nat) (call : Caller)  (x0 : AV) (h : AH) : Ans :=
 oB (oNil x0) fun x8_0 =>
 oB (oFA 16 x8_0) fun x9_1 =>
 oB (oLd h x9_1) fun x10_2 =>
 oB (oLen x10_2) fun x11_3 =>
 jnF 0 (fun h4 =>
 some (.tup [], h4)) fun j4 =>
 lpF 5 n (fun f5 y12_5 y11_5 y10_5 y2_5 y0_5 h5 =>
 oB (bLt y12_5 y11_5) fun x13_6 =>
 ci x13_6 (
 jnF 5 (fun z12_7 z11_7 z10_7 z2_7 z0_7 h7 =>
 oB (bAdd z12_7 (I 1)) fun x50_8 =>
 f5 x50_8 z11_7 z10_7 z2_7 z0_7 h7) fun j7 =>
 oB (oIx 4 y10_5 y12_5) fun x14_9 =>
 oB (oLdN 4 h5 x14_9) fun x15_10 =>
 oP (oNew h5 218 [(I 0), (I 0), (I 0), (I 0)]) fun x4_11 h11 =>
 oP (oSt 4 h11 x4_11 x15_10) fun _ h12 =>
 oB' (nx 15 h12) fun h13 =>
 oB (oFA 0 x4_11) fun x16_14 =>
 oB (oLd h13 x16_14) fun x17_15 =>
 oB (bNe .no x17_15 (I 1)) fun x18_16 =>
 oB (gq x18_16 false (some y0_5)) fun x20_17 =>
 oB (gq x18_16 false (oNil x20_17)) fun x21_18 =>
 oB (gq x18_16 false (oFA 15 x21_18)) fun x22_19 =>
 oB (gq x18_16 false (oLd h13 x22_19)) fun x23_20 =>
 oB (gq x18_16 false (oFA 1 x4_11)) fun x24_21 =>
 oB (gq x18_16 false (oLd h13 x24_21)) fun x25_22 =>
 oB (gq x18_16 false (oFA 2 x4_11)) fun x26_23 =>
 oB (gq x18_16 false (oLd h13 x26_23)) fun x27_24 =>
 oB (gq x18_16 false (evQ (.sl 3 (.c x23_20) (some (.c x25_22)) (some (.c x27_24)) none) .e h13)) fun x28_25 =>
 oP (gw x18_16 false (call n_slices_ContainsFunc_api_Token_api_Token [x28_25, (.fn 201 [] [])] h13) h13) fun x29_26 h26 =>
 oB (oPick x18_16 (.bool true) x29_26) fun x30_27 =>
 ci x30_27 (
 j7 y12_5 y11_5 y10_5 (I 0) y0_5 h26) (
 oB (bAdd y2_5 (I 1)) fun x32_28 =>
 oB (oNil y0_5) fun x35_29 =>
 oB (oFA 1 x35_29) fun x36_30 =>
 oB (oFA 12 x36_30) fun x37_31 =>
 oB (oLd h26 x37_31) fun x38_32 =>
 oB (bGt x32_28 x38_32) fun x39_33 =>
 jnF 5 (fun z12_34 z11_34 z10_34 z2_34 z0_34 h34 =>
 j7 z12_34 z11_34 z10_34 z2_34 z0_34 h34) fun j34 =>
 ci x39_33 (
 oB (oLdN 4 h26 x4_11) fun x42_35 =>
 oP (call n_lint_finder_bytes [y0_5, x42_35] h26) fun x43_36 h36 =>
 oB (oEx 0 x43_36) fun x44_37 =>
 oB (oEx 1 x43_36) fun x45_38 =>
 oP (call n_lint_finder_find [y0_5, (I 4), x44_37, x45_38] h36) fun x49_39 h39 =>
 j34 y12_5 y11_5 y10_5 x32_28 y0_5 h39) (
 j34 y12_5 y11_5 y10_5 x32_28 y0_5 h26))) (
 j4 h5)) (I 0) x11_3 x10_2 (I 0) x0 h
theorem o_lint_finder_empty : FnOK Tryz.prog n_lint_finder_empty (a1 f_lint_finder_empty) := ok1 mixed Tryz.func114 (by kernel_rfl)
/- (*corrector/lint.finder).mark -/
noncomputable def f_lint_finder_mark (n : Nat) (call : Caller)  (x0 : AV) (h : AH) : Ans :=
 oB (oNil x0) fun x4_0 =>
 oB (oFA 15 x4_0) fun x5_1 =>
 oB (oLd h x5_1) fun x6_2 =>
 oP (call n_slices_IndexFunc_api_Token_api_Token [x6_2, (.fn 203 [] [])] h) fun x7_3 h3 =>
 oB (bGe x7_3 (I 0)) fun x9_4 =>
 oB (gq x9_4 true (some x0)) fun x11_5 =>
 oB (gq x9_4 true (oNil x11_5)) fun x12_6 =>
 oB (gq x9_4 true (oFA 15 x12_6)) fun x13_7 =>
 oB (gq x9_4 true (oLd h3 x13_7)) fun x14_8 =>
 oB (gq x9_4 true (some x7_3)) fun x15_9 =>
 oB (gq x9_4 true (oIx 3 x14_8 x15_9)) fun x16_10 =>
 oB (gq x9_4 true (oFA 0 x16_10)) fun x17_11 =>
 oB (gq x9_4 true (oLd h3 x17_11)) fun x18_12 =>
 oB (gq x9_4 true (bNe .no x18_12 (I 20))) fun x19_13 =>
 oB (oPick x9_4 x19_13 (.bool false)) fun x20_14 =>
 jnF 0 (fun h15 =>
 some (.tup [], h15)) fun j15 =>
 ci x20_14 (
 oP (call n_lint_finder_find [x0, (I 5), (I 0), (I 0)] h3) fun x22_16 h16 =>
 j15 h16) (
 j15 h3)
theorem o_lint_finder_mark : FnOK Tryz.prog n_lint_finder_mark (a1 f_lint_finder_mark) := ok1 mixed Tryz.func115 (by kernel_rfl)
/- (*corrector/lint.finder).hash -/
noncomputable def f_lint_finder_hash (n : Nat) (call : Caller)  (x0 : AV) (h : AH) : Ans :=
 oB (oNil x0) fun x6_0 =>
 oB (oFA 15 x6_0) fun x7_1 =>
 oB (oLd h x7_1) fun x8_2 =>
 oB (oLen x8_2) fun x9_3 =>
 jnF 0 (fun h4 =>
 some (.tup [], h4)) fun j4 =>
 lpF 4 n (fun f5 y10_5 y9_5 y8_5 y0_5 h5 =>
 oB (bLt y10_5 y9_5) fun x11_6 =>
 ci x11_6 (
 jnF 4 (fun z10_7 z9_7 z8_7 z0_7 h7 =>
 oB (bAdd z10_7 (I 1)) fun x52_8 =>
 f5 x52_8 z9_7 z8_7 z0_7 h7) fun j7 =>
 oB (oIx 3 y8_5 y10_5) fun x12_9 =>
 oB (oLdN 3 h5 x12_9) fun x13_10 =>
 oP (oNew h5 92 [(I 0), (I 0), (I 0)]) fun x3_11 h11 =>
 oP (oSt 3 h11 x3_11 x13_10) fun _ h12 =>
 oB (oFA 0 x3_11) fun x14_13 =>
 oB (oLd h12 x14_13) fun x15_14 =>
 oB (bNe .no x15_14 (I 4)) fun x16_15 =>
 oB (gq x16_15 false (oFA 2 x3_11)) fun x18_16 =>
 oB (gq x16_15 false (oLd h12 x18_16)) fun x19_17 =>
 oB (gq x16_15 false (oFA 1 x3_11)) fun x20_18 =>
 oB (gq x16_15 false (oLd h12 x20_18)) fun x21_19 =>
 oB (gq x16_15 false (bAdd x21_19 (I 1))) fun x22_20 =>
 oB (gq x16_15 false (bEq .no x19_17 x22_20)) fun x23_21 =>
 oB (oPick x16_15 (.bool true) x23_21) fun x24_22 =>
 ci x24_22 (
 j7 y10_5 y9_5 y8_5 y0_5 h12) (
 oB' (nx 10 h12) fun h23 =>
 oB (oNil y0_5) fun x26_24 =>
 oB (oFA 0 x26_24) fun x27_25 =>
 oB (oLd h23 x27_25) fun x28_26 =>
 oB (oFA 1 x3_11) fun x29_27 =>
 oB (oLd h23 x29_27) fun x30_28 =>
 oB (bAdd x30_28 (I 1)) fun x31_29 =>
 oB (oIx 1 x28_26 x31_29) fun x32_30 =>
 oB (oLd h23 x32_30) fun x33_31 =>
 oP (call n_chars_Blank [x33_31] h23) fun x35_32 h32 =>
 oB (evQ (.un .not (.c x35_32)) .e h32) fun x36_33 =>
 oB (gq x36_33 true (some x33_31)) fun x38_34 =>
 oB (gq x36_33 true (bNe .no x38_34 (U 35))) fun x39_35 =>
 oB (oPick x36_33 x39_35 (.bool false)) fun x40_36 =>
 oB (gq x40_36 true (some x33_31)) fun x42_37 =>
 oB (gq x40_36 true (bNe .no x42_37 (U 33))) fun x43_38 =>
 oB (oPick x40_36 x43_38 (.bool false)) fun x44_39 =>
 jnF 4 (fun z10_40 z9_40 z8_40 z0_40 h40 =>
 j7 z10_40 z9_40 z8_40 z0_40 h40) fun j40 =>
 ci x44_39 (
 oB (oFA 1 x3_11) fun x46_41 =>
 oB (oLd h32 x46_41) fun x47_42 =>
 oB (oFA 1 x3_11) fun x48_43 =>
 oB (oLd h32 x48_43) fun x49_44 =>
 oB (bAdd x49_44 (I 1)) fun x50_45 =>
 oP (call n_lint_finder_find [y0_5, (I 6), x47_42, x50_45] h32) fun x51_46 h46 =>
 j40 y10_5 y9_5 y8_5 y0_5 h46) (
 j40 y10_5 y9_5 y8_5 y0_5 h32))) (
 j4 h5)) (I 0) x9_3 x8_2 x0 h
theorem o_lint_finder_hash : FnOK Tryz.prog n_lint_finder_hash (a1 f_lint_finder_hash) := ok1 mixed Tryz.func116 (by kernel_rfl)
/- (*corrector/lint.finder).comma -/
noncomputable def f_lint_finder_comma (n : Nat) (call : Caller)  (x0 : AV) (h : AH) : Ans :=
 oB (oNil x0) fun x6_0 =>
 oB (oFA 15 x6_0) fun x7_1 =>
 oB (oLd h x7_1) fun x8_2 =>
 oB (oLen x8_2) fun x9_3 =>
 jnF 0 (fun h4 =>
 some (.tup [], h4)) fun j4 =>
 lpF 4 n (fun f5 y10_5 y9_5 y8_5 y0_5 h5 =>
 oB (bLt y10_5 y9_5) fun x11_6 =>
 ci x11_6 (
 jnF 4 (fun z10_7 z9_7 z8_7 z0_7 h7 =>
 oB (bAdd z10_7 (I 1)) fun x40_8 =>
 f5 x40_8 z9_7 z8_7 z0_7 h7) fun j7 =>
 oB (oIx 3 y8_5 y10_5) fun x13_9 =>
 oB (oLdN 3 h5 x13_9) fun x14_10 =>
 oP (oNew h5 92 [(I 0), (I 0), (I 0)]) fun x3_11 h11 =>
 oP (oSt 3 h11 x3_11 x14_10) fun _ h12 =>
 oB (bAdd y10_5 (I 1)) fun x17_13 =>
 oP (call n_lint_finder_kind [y0_5, x17_13] h12) fun x18_14 h14 =>
 oB (oFA 0 x3_11) fun x19_15 =>
 oB (oLd h14 x19_15) fun x20_16 =>
 oB (bEq .no x20_16 (I 7)) fun x21_17 =>
 oB (gq x21_17 true (some x18_14)) fun x23_18 =>
 oB (gq x21_17 true (bNe .no x23_18 (I 0))) fun x24_19 =>
 oB (oPick x21_17 x24_19 (.bool false)) fun x25_20 =>
 oB (gq x25_20 true (some x18_14)) fun x27_21 =>
 oB (gq x25_20 true (bNe .no x27_21 (I 3))) fun x28_22 =>
 oB (oPick x25_20 x28_22 (.bool false)) fun x29_23 =>
 oB (gq x29_23 true (some x18_14)) fun x31_24 =>
 oB (gq x29_23 true (bNe .no x31_24 (I 1))) fun x32_25 =>
 oB (oPick x29_23 x32_25 (.bool false)) fun x33_26 =>
 jnF 4 (fun z10_27 z9_27 z8_27 z0_27 h27 =>
 j7 z10_27 z9_27 z8_27 z0_27 h27) fun j27 =>
 ci x33_26 (
 oB (oFA 1 x3_11) fun x35_28 =>
 oB (oLd h14 x35_28) fun x36_29 =>
 oB (oFA 2 x3_11) fun x37_30 =>
 oB (oLd h14 x37_30) fun x38_31 =>
 oP (call n_lint_finder_find [y0_5, (I 7), x36_29, x38_31] h14) fun x39_32 h32 =>
 j27 y10_5 y9_5 y8_5 y0_5 h32) (
 j27 y10_5 y9_5 y8_5 y0_5 h14)) (
 j4 h5)) (I 0) x9_3 x8_2 x0 h
theorem o_lint_finder_comma : FnOK Tryz.prog n_lint_finder_comma (a1 f_lint_finder_comma) := ok1 mixed Tryz.func117 (by kernel_rfl)
/- (*corrector/lint.finder).twice -/
noncomputable def f_lint_finder_twice (n : Nat) (call : Caller)  (x0 : AV) (h : AH) : Ans :=
 oP (oNew h 171 (AV.cells x0)) fun x1_0 h0 =>
 oB (oLd h0 x1_0) fun x12_1 =>
 oB (oNil x12_1) fun x13_2 =>
 oB (oFA 17 x13_2) fun x14_3 =>
 oB (oFA 0 x14_3) fun x15_4 =>
 oB (oLd h0 x15_4) fun x16_5 =>
 oB (oLen x16_5) fun x17_6 =>
 jnF 0 (fun h7 =>
 some (.tup [], h7)) fun j7 =>
 lpF 4 n (fun f8 y18_8 y17_8 y16_8 y1_8 h8 =>
 oB (bLt y18_8 y17_8) fun x19_9 =>
 ci x19_9 (
 jnF 4 (fun z18_10 z17_10 z16_10 z1_10 h10 =>
 oB (bAdd z18_10 (I 1)) fun x114_11 =>
 f8 x114_11 z17_10 z16_10 z1_10 h10) fun j10 =>
 oB (oIx 6 y16_8 y18_8) fun x21_12 =>
 oB (oLdN 6 h8 x21_12) fun x22_13 =>
 oP (oNew h8 120 [(I 0), (I 0), (I 0), (I 0), .nils, (.bool false)]) fun x3_14 h14 =>
 oP (oSt 6 h14 x3_14 x22_13) fun _ h15 =>
 oB (oFA 0 x3_14) fun x23_16 =>
 oB (oLd h15 x23_16) fun x24_17 =>
 oB (bNe .no x24_17 (I 5)) fun x25_18 =>
 oB (gq x25_18 true (oFA 0 x3_14)) fun x27_19 =>
 oB (gq x25_18 true (oLd h15 x27_19)) fun x28_20 =>
 oB (gq x25_18 true (bNe .no x28_20 (I 10))) fun x29_21 =>
 oB (oPick x25_18 x29_21 (.bool false)) fun x30_22 =>
 ci x30_22 (
 j10 y18_8 y17_8 y16_8 y1_8 h15) (
 oB (oFA 4 x3_14) fun x31_23 =>
 oB (oLd h15 x31_23) fun x32_24 =>
 oP (call n_slices_Clone_int_int [x32_24] h15) fun x33_25 h25 =>
 oB (some (.fn n_lint_finder_twice_1 [] [y1_8])) fun x34_26 =>
 oP (call n_slices_DeleteFunc_int_int [x33_25, x34_26] h25) fun x35_27 h27 =>
 oB' (nx 15 h27) fun h28 =>
 oB (oLd h28 y1_8) fun x36_29 =>
 oB (oNil x36_29) fun x37_30 =>
 oB (oFA 18 x37_30) fun x38_31 =>
 oB (oLdN 3 h28 x38_31) fun x39_32 =>
 oB (oLd h28 y1_8) fun x40_33 =>
 oB (oNil x40_33) fun x41_34 =>
 oB (oFA 18 x41_34) fun x42_35 =>
 oB (oFA 2 x42_35) fun x43_36 =>
 oB (oLd h28 x43_36) fun x44_37 =>
 oB (oIx 1 x44_37 y18_8) fun x46_38 =>
 oB (oLd h28 x46_38) fun x47_39 =>
 oP (call n_equal_Twice [x39_32, x47_39] h28) fun x48_40 h40 =>
 oB (oLen x48_40) fun x49_41 =>
 jnF 4 (fun z18_42 z17_42 z16_42 z1_42 h42 =>
 j10 z18_42 z17_42 z16_42 z1_42 h42) fun j42 =>
 lpF 8 n (fun f43 y50_43 y49_43 y48_43 y18_43 y17_43 y16_43 y4_43 y1_43 h43 =>
 oB (bLt y50_43 y49_43) fun x51_44 =>
 ci x51_44 (
 jnF 8 (fun z50_45 z49_45 z48_45 z18_45 z17_45 z16_45 z4_45 z1_45 h45 =>
 oB (bAdd z50_45 (I 1)) fun x113_46 =>
 f43 x113_46 z49_45 z48_45 z18_45 z17_45 z16_45 z4_45 z1_45 h45) fun j45 =>
 oB (oIx 1 y48_43 y50_43) fun x52_47 =>
 oB (oLd h43 x52_47) fun x53_48 =>
 oB' (nx 13 h43) fun h49 =>
 oB (oLd h49 y1_43) fun x54_50 =>
 oB (oNil x54_50) fun x55_51 =>
 oB (oFA 17 x55_51) fun x56_52 =>
 oB (oFA 0 x56_52) fun x57_53 =>
 oB (oLd h49 x57_53) fun x58_54 =>
 oB (oIx 1 y4_43 x53_48) fun x61_55 =>
 oB (oLd h49 x61_55) fun x62_56 =>
 oB (oIx 6 x58_54 x62_56) fun x63_57 =>
 oB (oLdN 6 h49 x63_57) fun x64_58 =>
 fl1 true (evF (.new 120 [(I 0), (I 0), (I 0), (I 0), .nils, (.bool false)]) .e) (Nat.add h43.next 11) fun x7_59 o59 =>
 oB' (lay1 (Nat.add h43.next 11) o59 h49) fun v60 =>
 oP (oSt 6 v60 x7_59 x64_58) fun x0_61 h61 =>
 ask1 true (oLd h49 y1_43) x54_50 (
 ask1 true (oLd h49 x57_53) x58_54 (
 ask1 true (oLd h49 x61_55) x62_56 (
 ask1 true (oLdN 6 h49 x63_57) x64_58 (
 oB' (nx 19 h61) fun h62 =>
 oB (oFA 4 x7_59) fun x65_63 =>
 oB (oLd h62 x65_63) fun x66_64 =>
 oB (oLen x66_64) fun x67_65 =>
 oB (bGt x67_65 (I 0)) fun x68_66 =>
 oB (gq x68_66 true (oLd h62 y1_43)) fun x70_67 =>
 oB (gq x68_66 true (oNil x70_67)) fun x71_68 =>
 oB (gq x68_66 true (oFA 17 x71_68)) fun x72_69 =>
 oB (gq x68_66 true (oFA 0 x72_69)) fun x73_70 =>
 oB (gq x68_66 true (oLd h62 x73_70)) fun x74_71 =>
 oB (gq x68_66 true (oFA 4 x7_59)) fun x75_72 =>
 oB (gq x68_66 true (oLd h62 x75_72)) fun x76_73 =>
 oB (gq x68_66 true (oIx 1 x76_73 (I 0))) fun x77_74 =>
 oB (gq x68_66 true (oLd h62 x77_74)) fun x78_75 =>
 oB (gq x68_66 true (oIx 6 x74_71 x78_75)) fun x79_76 =>
 oB (gq x68_66 true (oFA 0 x79_76)) fun x80_77 =>
 oB (gq x68_66 true (oLd h62 x80_77)) fun x81_78 =>
 oB (gq x68_66 true (bEq .no x81_78 (I 11))) fun x82_79 =>
 oB (oPick x68_66 x82_79 (.bool false)) fun x83_80 =>
 ci x83_80 (
 j45 y50_43 y49_43 y48_43 y18_43 y17_43 y16_43 y4_43 y1_43 h62) (
 oB (oLd h62 y1_43) fun x84_81 =>
 oB (oLdN 6 h62 x7_59) fun x85_82 =>
 oP (call n_lint_finder_where [x84_81, x85_82] h62) fun x86_83 h83 =>
 oB (oTa 146 (.agg [(I 0), (I 0)]) true x86_83) fun x89_84 =>
 oB (oEx 0 x89_84) fun x90_85 =>
 oB (oEx 1 x89_84) fun x91_86 =>
 oP (oNew h83 146 [(I 0), (I 0)]) fun x9_87 h87 =>
 oP (oSt 2 h87 x9_87 x90_85) fun _ h88 =>
 ci x91_86 (
 oB (oLd h88 y1_43) fun x93_89 =>
 oB (oFA 0 x9_87) fun x94_90 =>
 oB (oLd h88 x94_90) fun x95_91 =>
 oB (oFA 1 x9_87) fun x96_92 =>
 oB (oLd h88 x96_92) fun x97_93 =>
 oP (call n_lint_finder_find [x93_89, (I 8), x95_91, x97_93] h88) fun x98_94 h94 =>
 j45 y50_43 y49_43 y48_43 y18_43 y17_43 y16_43 y4_43 y1_43 h94) (
 oB' (nx 10 h88) fun h95 =>
 oB (oLd h95 y1_43) fun x99_96 =>
 oB (oNil x99_96) fun x100_97 =>
 oB (oFA 15 x100_97) fun x101_98 =>
 oB (oLd h95 x101_98) fun x102_99 =>
 oB (oTa 3 (I 0) false x86_83) fun x104_100 =>
 oB (oIx 3 x102_99 x104_100) fun x105_101 =>
 oB (oLdN 3 h95 x105_101) fun x106_102 =>
 fl1 true (evF (.new 92 [(I 0), (I 0), (I 0)]) .e) (Nat.add h88.next 8) fun x11_103 o103 =>
 oB' (lay1 (Nat.add h88.next 8) o103 h95) fun v104 =>
 oP (oSt 3 v104 x11_103 x106_102) fun x0_105 h105 =>
 ask1 true (oLd h95 y1_43) x99_96 (
 ask1 true (oLd h95 x101_98) x102_99 (
 ask1 true (oLdN 3 h95 x105_101) x106_102 (
 oB (oLd h105 y1_43) fun x107_106 =>
 oB (oFA 1 x11_103) fun x108_107 =>
 oB (oLd h105 x108_107) fun x109_108 =>
 oB (oFA 2 x11_103) fun x110_109 =>
 oB (oLd h105 x110_109) fun x111_110 =>
 oP (call n_lint_finder_find [x107_106, (I 8), x109_108, x111_110] h105) fun x112_111 h111 =>
 j45 y50_43 y49_43 y48_43 y18_43 y17_43 y16_43 y4_43 y1_43 h111)))))))))) (
 j42 y18_43 y17_43 y16_43 y1_43 h43)) (I 0) x49_41 x48_40 y18_8 y17_8 y16_8 x35_27 y1_8 h40)) (
 j7 h8)) (I 0) x17_6 x16_5 x1_0 h0
theorem o_lint_finder_twice : FnOK Tryz.prog n_lint_finder_twice (a1 f_lint_finder_twice) := ok1 mixed Tryz.func118 (by kernel_rfl)
/- (*corrector/lint.finder).end -/
noncomputable def f_lint_finder_end (n : Nat) (call : Caller)  (x0 : AV) (h : AH) : Ans :=
 oB (oNil x0) fun x4_0 =>
 oB (oFA 0 x4_0) fun x5_1 =>
 oB (oLd h x5_1) fun x6_2 =>
 oB (oLen x6_2) fun x7_3 =>
 oB (bGt x7_3 (I 0)) fun x9_4 =>
 oB (gq x9_4 true (some x0)) fun x11_5 =>
 oB (gq x9_4 true (oNil x11_5)) fun x12_6 =>
 oB (gq x9_4 true (oFA 0 x12_6)) fun x13_7 =>
 oB (gq x9_4 true (oLd h x13_7)) fun x14_8 =>
 oB (gq x9_4 true (some x7_3)) fun x15_9 =>
 oB (gq x9_4 true (bSub x15_9 (I 1))) fun x16_10 =>
 oB (gq x9_4 true (oIx 1 x14_8 x16_10)) fun x17_11 =>
 oB (gq x9_4 true (oLd h x17_11)) fun x18_12 =>
 oB (gq x9_4 true (bNe .no x18_12 (U 10))) fun x19_13 =>
 oB (oPick x9_4 x19_13 (.bool false)) fun x20_14 =>
 oB (gq x20_14 true (some x0)) fun x22_15 =>
 oB (gq x20_14 true (oNil x22_15)) fun x23_16 =>
 oB (gq x20_14 true (oFA 0 x23_16)) fun x24_17 =>
 oB (gq x20_14 true (oLd h x24_17)) fun x25_18 =>
 oB (gq x20_14 true (some x7_3)) fun x26_19 =>
 oB (gq x20_14 true (bSub x26_19 (I 1))) fun x27_20 =>
 oB (gq x20_14 true (oIx 1 x25_18 x27_20)) fun x28_21 =>
 oB (gq x20_14 true (oLd h x28_21)) fun x29_22 =>
 oB (gq x20_14 true (bNe .no x29_22 (U 13))) fun x30_23 =>
 oB (oPick x20_14 x30_23 (.bool false)) fun x31_24 =>
 jnF 0 (fun h25 =>
 some (.tup [], h25)) fun j25 =>
 ci x31_24 (
 oP (call n_lint_finder_find [x0, (I 9), x7_3, x7_3] h) fun x35_26 h26 =>
 j25 h26) (
 j25 h)
theorem o_lint_finder_end : FnOK Tryz.prog n_lint_finder_end (a1 f_lint_finder_end) := ok1 mixed Tryz.func119 (by kernel_rfl)
/- corrector/lint.on -/
noncomputable def f_lint_on (n : Nat) (call : Caller)  (x0 x1 : AV) (h : AH) : Ans :=
 oP (oNew h 31 (AV.cells x0)) fun x2_0 h0 =>
 oB (oLd h0 x2_0) fun x6_1 =>
 oP (call n_lint_Off [x6_1, x1] h0) fun x8_2 h2 =>
 oP (oNew h2 50 [.nils]) fun x5_3 h3 =>
 oP (oSt 1 h3 x5_3 x8_2) fun _ h4 =>
 oB (some (.fn n_lint_on_1 [] [x2_0, x5_3])) fun x9_5 =>
 some (x9_5, h4)
theorem o_lint_on : FnOK Tryz.prog n_lint_on (a2 f_lint_on) := ok2 mixed Tryz.func120 (by kernel_rfl)
/- (*corrector/fix.fixer).look -/
noncomputable def f_fix_fixer_look (n : Nat) (call : Caller)  (x0 x1 : AV) (h : AH) : Ans :=
 oP (oNew h 179 [.nils, .nils, (I 0), (I 0), .nils, .nils, .nils]) fun x4_0 h0 =>
 oB (oNil x0) fun x17_1 =>
 oB (oFA 0 x17_1) fun x18_2 =>
 oB (oLdN 14 h0 x18_2) fun x19_3 =>
 oP (call n_lint_Find [x1, x19_3] h0) fun x20_4 h4 =>
 oB (oEx 0 x20_4) fun x21_5 =>
 oB (oEx 1 x20_4) fun x22_6 =>
 oB (bNe .no x22_6 (I 0)) fun x24_7 =>
 ci x24_7 (
 oB (oBuild [.nils, .nils, (I 0), (I 0), .nils, .nils, .nils] []) fun x25_8 =>
 oP (oSt 7 h4 x4_0 x25_8) fun _ h9 =>
 retT [(4, some (some 7)), (5, none)] (sput 5 (sput 4 Tr.e x4_0) x22_6) h9) (
 oB (oNil x0) fun x30_10 =>
 oB (oFA 0 x30_10) fun x31_11 =>
 oB (oFA 13 x31_11) fun x32_12 =>
 oB (oLd h4 x32_12) fun x33_13 =>
 oP (call n_parse_Tree [x1, x33_13] h4) fun x34_14 h14 =>
 oB (oEx 0 x34_14) fun x35_15 =>
 oB (oEx 1 x34_14) fun x36_16 =>
 oB (oEx 2 x34_14) fun x37_17 =>
 oP (oNew h14 100 [.nils]) fun x9_18 h18 =>
 oP (oSt 1 h18 x9_18 x36_16) fun _ h19 =>
 oB (oLdN 1 h19 x9_18) fun x41_20 =>
 oP (call n_graph_Compose [x1, x35_15, x41_20] h19) fun x42_21 h21 =>
 oB (oEx 0 x42_21) fun x43_22 =>
 oB (oEx 1 x42_21) fun x44_23 =>
 oP (oNew h21 105 [.nils, .nils, .nils]) fun x11_24 h24 =>
 oP (oSt 3 h24 x11_24 x43_22) fun _ h25 =>
 oB' (nx 13 h25) fun h26 =>
 oB (oLdN 3 h26 x11_24) fun x46_27 =>
 oB (oLen x21_5) fun x48_28 =>
 fl1 true (evF (.buildSlice 93 1 2 [.nils, .nils] [(0, 1, (.c x37_17)), (1, 1, (.c x44_23))]) .e) (Nat.add h25.next 6) fun x51_29 o29 =>
 oB' (lay1 (Nat.add h25.next 6) o29 h26) fun v30 =>
 oP (call n_slices_Concat_api_Diag_api_Diag [x51_29] v30) fun x52_31 h31 =>
 oP (call n_diag_Sort [x52_31] h31) fun x53_32 h32 =>
 oB (oLen x53_32) fun x54_33 =>
 oB (oBuild [.nils, .nils, (I 0), (I 0), .nils, .nils, .nils] [(0, 1, x1), (4, 3, x46_27), (3, 1, x48_28), (2, 1, x54_33)]) fun x55_34 =>
 fl1 true (evF (.new 179 [.nils, .nils, (I 0), (I 0), .nils, .nils, .nils]) .e) (Nat.add h25.next 11) fun x13_35 o35 =>
 oB' (lay1 (Nat.add h25.next 11) o35 h32) fun v36 =>
 oP (oSt 7 v36 x13_35 x55_34) fun x0_37 h37 =>
 ask1 true (oLdN 3 h26 x11_24) x46_27 (
 ask1 true (oLdN 3 h31 x11_24) x46_27 (
 ask1 true (oLdN 3 h32 x11_24) x46_27 (
 oB (oLen x1) fun x57_38 =>
 oP (call n_suggest_Edits [x1, x35_15, x37_17, x21_5] h37) fun x62_39 h39 =>
 oP (call n_edit_Choose [x57_38, x62_39] h39) fun x63_40 h40 =>
 oB (oFA 1 x13_35) fun x64_41 =>
 oP (oSt 1 h40 x64_41 x63_40) fun _ h42 =>
 oB (oLdN 7 h42 x13_35) fun x65_43 =>
 oP (oSt 7 h42 x4_0 x65_43) fun _ h44 =>
 retT [(4, some (some 7)), (5, none)] (sput 5 (sput 4 Tr.e x4_0) (I 0)) h44))))
theorem o_fix_fixer_look : FnOK Tryz.prog n_fix_fixer_look (a2 f_fix_fixer_look) := ok2 mixed Tryz.func121 (by kernel_rfl)
/- (*corrector/fix.fixer).round -/
noncomputable def f_fix_fixer_round (n : Nat) (call : Caller)  (x0 : AV) (h : AH) : Ans :=
 oP (oNew h 177 (AV.cells x0)) fun x1_0 h0 =>
 oB (oLd h0 x1_0) fun x7_1 =>
 oB (oNil x7_1) fun x8_2 =>
 oB (oFA 14 x8_2) fun x9_3 =>
 oB (oLdN 7 h0 x9_3) fun x10_4 =>
 oP (oNew h0 179 [.nils, .nils, (I 0), (I 0), .nils, .nils, .nils]) fun x3_5 h5 =>
 oP (oSt 7 h5 x3_5 x10_4) fun _ h6 =>
 oB (oFA 1 x3_5) fun x11_7 =>
 oB (oLd h6 x11_7) fun x12_8 =>
 oB (oLen x12_8) fun x13_9 =>
 oB (bEq .no x13_9 (I 0)) fun x14_10 =>
 ci x14_10 (
 some ((.bool false), h6)) (
 oB (oFA 0 x3_5) fun x16_11 =>
 oB (oLd h6 x16_11) fun x17_12 =>
 oB (oFA 1 x3_5) fun x18_13 =>
 oB (oLd h6 x18_13) fun x19_14 =>
 oP (call n_edit_Apply [x17_12, x19_14] h6) fun x20_15 h15 =>
 oB (oEx 0 x20_15) fun x21_16 =>
 oB (oEx 1 x20_15) fun x22_17 =>
 oB (bNe .no x22_17 (I 0)) fun x24_18 =>
 ci x24_18 (
 some ((.bool false), h15)) (
 oB (oLd h15 x1_0) fun x26_19 =>
 oP (call n_fix_fixer_look [x26_19, x21_16] h15) fun x28_20 h20 =>
 oB (oEx 0 x28_20) fun x29_21 =>
 oB (oEx 1 x28_20) fun x30_22 =>
 oP (oNew h20 179 [.nils, .nils, (I 0), (I 0), .nils, .nils, .nils]) fun x6_23 h23 =>
 oP (oSt 7 h23 x6_23 x29_21) fun _ h24 =>
 oB (bNe .no x30_22 (I 0)) fun x32_25 =>
 oB (gq x32_25 false (oLd h24 x1_0)) fun x34_26 =>
 oB (gq x32_25 false (oLdN 7 h24 x6_23)) fun x35_27 =>
 oP (gw x32_25 false (call n_fix_fixer_better [x34_26, x35_27] h24) h24) fun x36_28 h28 =>
 oB (gq x32_25 false (evQ (.un .not (.c x36_28)) .e h28)) fun x37_29 =>
 oB (oPick x32_25 (.bool true) x37_29) fun x38_30 =>
 ci x38_30 (
 some ((.bool false), h28)) (
 oB (some (.fn n_fix_fixer_round_1 [] [x1_0, x3_5])) fun x39_31 =>
 oB (evQ (.bad) .e h28) fun _ =>
 oB (oLd h28 x1_0) fun x40_33 =>
 oB (oLdN 7 h28 x6_23) fun x41_34 =>
 oB (oNil x40_33) fun x42_35 =>
 oB (oFA 14 x42_35) fun x43_36 =>
 oP (oSt 7 h28 x43_36 x41_34) fun _ h37 =>
 some ((.bool true), h37))))
theorem o_fix_fixer_round : FnOK Tryz.prog n_fix_fixer_round (a1 f_fix_fixer_round) := ok1 mixed Tryz.func122 (by kernel_rfl)
/- slices.Clone[[]byte,byte] -/
noncomputable def f_slices_Clone_byte_byte (n : Nat) (call : Caller)  (x0 : AV) (h : AH) : Ans :=
 oB (bEq .sl x0 .nils) fun x4_0 =>
 ci x4_0 (
 some (.nils, h)) (
 oP (oBuildSl h 5 1 0 [] []) fun x5_1 h1 =>
 oP (evW (.append 5 1 1 [(U 0)] (.c x5_1) (.c x0)) .e h1) fun x7_2 h2 =>
 some (x7_2, h2))
theorem o_slices_Clone_byte_byte : FnOK Tryz.prog n_slices_Clone_byte_byte (a1 f_slices_Clone_byte_byte) := ok1 mixed Tryz.func123 (by kernel_rfl)
/- slices.Clone[[]corrector/fix.Round,corrector/fix.Round] -/
noncomputable def f_slices_Clone_fix_Round_fix_Round (n : Nat) (call : Caller)  (x0 : AV) (h : AH) : Ans :=
 oB (bEq .sl x0 .nils) fun x4_0 =>
 ci x4_0 (
 some (.nils, h)) (
 oP (oBuildSl h 187 5 0 [] []) fun x5_1 h1 =>
 oP (evW (.append 187 5 56 [.nils, (I 0), (I 0), (I 0), (I 0)] (.c x5_1) (.c x0)) .e h1) fun x7_2 h2 =>
 some (x7_2, h2))
theorem o_slices_Clone_fix_Round_fix_Round : FnOK Tryz.prog n_slices_Clone_fix_Round_fix_Round (a1 f_slices_Clone_fix_Round_fix_Round) := ok1 mixed Tryz.func124 (by kernel_rfl)
/- corrector/lines.Starts -/
noncomputable def f_lines_Starts (n : Nat) (call : Caller)  (x0 : AV) (h : AH) : Ans :=
 oP (oBuildSl h 3 1 1 [(I 0)] [(0, 1, (I 0))]) fun x7_0 h0 =>
 jnF 1 (fun z3_1 h1 =>
 oP (call n_slices_Clone_int_int [z3_1] h1) fun x48_2 h2 =>
 some (x48_2, h2)) fun j1 =>
 lpF 3 n (fun f3 y4_3 y3_3 y0_3 h3 =>
 oB (oLen y0_3) fun x10_4 =>
 oB (bLt y4_3 x10_4) fun x11_5 =>
 ci x11_5 (
 jnF 3 (fun z4_6 z3_6 z0_6 h6 =>
 f3 z4_6 z3_6 z0_6 h6) fun j6 =>
 oB (evQ (.sl 1 (.c y0_3) (some (.c y4_3)) none none) .e h3) fun x15_7 =>
 oP (call n_runes_Next [x15_7] h3) fun x16_8 h8 =>
 oB (oEx 0 x16_8) fun x17_9 =>
 oB (oEx 1 x16_8) fun x18_10 =>
 oB (bAdd y4_3 x18_10) fun x21_11 =>
 oB (bEq .no x17_9 (R 13)) fun x23_12 =>
 oB (gq x23_12 true (some x21_11)) fun x25_13 =>
 oB (gq x23_12 true (some y0_3)) fun x26_14 =>
 oB (gq x23_12 true (oLen x26_14)) fun x27_15 =>
 oB (gq x23_12 true (bLt x25_13 x27_15)) fun x28_16 =>
 oB (oPick x23_12 x28_16 (.bool false)) fun x29_17 =>
 oB (gq x29_17 true (some y0_3)) fun x31_18 =>
 oB (gq x29_17 true (some x21_11)) fun x32_19 =>
 oB (gq x29_17 true (oIx 1 x31_18 x32_19)) fun x33_20 =>
 oB (gq x29_17 true (oLd h8 x33_20)) fun x34_21 =>
 oB (gq x29_17 true (bEq .no x34_21 (U 10))) fun x35_22 =>
 oB (oPick x29_17 x35_22 (.bool false)) fun x36_23 =>
 ci x36_23 (
 j6 x21_11 y3_3 y0_3 h8) (
 oB (bEq .no x17_9 (R 10)) fun x38_24 =>
 oB (gq x38_24 false (some x17_9)) fun x40_25 =>
 oB (gq x38_24 false (bEq .no x40_25 (R 13))) fun x41_26 =>
 oB (oPick x38_24 (.bool true) x41_26) fun x42_27 =>
 jnF 3 (fun z4_28 z3_28 z0_28 h28 =>
 j6 z4_28 z3_28 z0_28 h28) fun j28 =>
 ci x42_27 (
 oP (oBuildSl h8 3 1 1 [(I 0)] [(0, 1, x21_11)]) fun x45_29 h29 =>
 oP (evW (.append 3 1 8 [(I 0)] (.c y3_3) (.c x45_29)) .e h29) fun x46_30 h30 =>
 j28 x21_11 x46_30 y0_3 h30) (
 j28 x21_11 y3_3 y0_3 h8))) (
 j1 y3_3 h3)) (I 0) x7_0 x0 h0
theorem o_lines_Starts : FnOK Tryz.prog n_lines_Starts (a1 f_lines_Starts) := ok1 mixed Tryz.func125 (by kernel_rfl)
/- corrector/walk.token -/
noncomputable def f_walk_token (n : Nat) (call : Caller)  (x0 x1 : AV) (h : AH) : Ans :=
 oP (oNew h 3 (AV.cells x1)) fun x3_0 h0 =>
 oB (some (.fn n_walk_token_1 [] [x3_0])) fun x6_1 =>
 oP (call n_slices_IndexFunc_api_Token_api_Token [x0, x6_1] h0) fun x7_2 h2 =>
 some (x7_2, h2)
theorem o_walk_token : FnOK Tryz.prog n_walk_token (a2 f_walk_token) := ok2 mixed Tryz.func126 (by kernel_rfl)
/- slices.IndexFunc[[]int,int] -/
noncomputable def f_slices_IndexFunc_int_int (n : Nat) (call : Caller)  (x0 x1 : AV) (h : AH) : Ans :=
 oB (oLen x0) fun x7_0 =>
 jnF 0 (fun h1 =>
 some ((Ineg 0), h1)) fun j1 =>
 lpF 4 n (fun f2 y8_2 y7_2 y1_2 y0_2 h2 =>
 oB (bLt y8_2 y7_2) fun x9_3 =>
 ci x9_3 (
 jnF 4 (fun z8_4 z7_4 z1_4 z0_4 h4 =>
 oB (bAdd z8_4 (I 1)) fun x18_5 =>
 f2 x18_5 z7_4 z1_4 z0_4 h4) fun j4 =>
 oB (oIx 1 y0_2 y8_2) fun x14_6 =>
 oB (oLd h2 x14_6) fun x15_7 =>
 oP (wOf (.callV (.c y1_2) [(.c x15_7)]) call .e h2) fun x16_8 h8 =>
 ci x16_8 (
 some (y8_2, h8)) (
 j4 y8_2 y7_2 y1_2 y0_2 h8)) (
 j1 h2)) (I 0) x7_0 x1 x0 h
theorem o_slices_IndexFunc_int_int : FnOK Tryz.prog n_slices_IndexFunc_int_int (a2 f_slices_IndexFunc_int_int) := ok2 mixed Tryz.func127 (by kernel_rfl)
/- corrector/walk.At$1 -/
noncomputable def f_walk_At_1 (n : Nat) (call : Caller)  (x0 x1 x2 : AV) (h : AH) : Ans :=
 oB' (nx 24 h) fun h0 =>
 oB (oLdN 1 h0 x1) fun x5_1 =>
 oP (call n_walk_has [x5_1, x0] h0) fun x7_2 h2 =>
 oB (gq x7_2 true (oFA 0 x1)) fun x9_3 =>
 oB (gq x7_2 true (oLd h2 x9_3)) fun x10_4 =>
 oB (gq x7_2 true (some x0)) fun x11_5 =>
 oB (gq x7_2 true (oIx 6 x10_4 x11_5)) fun x12_6 =>
 oB (gq x7_2 true (oFA 1 x12_6)) fun x13_7 =>
 oB (gq x7_2 true (oLd h2 x13_7)) fun x14_8 =>
 oB (gq x7_2 true (oLd h2 x2)) fun x15_9 =>
 oB (gq x7_2 true (bLe x14_8 x15_9)) fun x16_10 =>
 oB (oPick x7_2 x16_10 (.bool false)) fun x17_11 =>
 oB (gq x17_11 true (oLd h2 x2)) fun x19_12 =>
 oB (gq x17_11 true (oFA 0 x1)) fun x20_13 =>
 oB (gq x17_11 true (oLd h2 x20_13)) fun x21_14 =>
 oB (gq x17_11 true (some x0)) fun x22_15 =>
 oB (gq x17_11 true (oIx 6 x21_14 x22_15)) fun x23_16 =>
 oB (gq x17_11 true (oFA 2 x23_16)) fun x24_17 =>
 oB (gq x17_11 true (oLd h2 x24_17)) fun x25_18 =>
 oB (gq x17_11 true (bLt x19_12 x25_18)) fun x26_19 =>
 oB (oPick x17_11 x26_19 (.bool false)) fun x27_20 =>
 some (x27_20, h2)
theorem o_walk_At_1 : FnOK Tryz.prog n_walk_At_1 (a3 f_walk_At_1) := ok3 mixed Tryz.func128 (by kernel_rfl)
/- corrector/walk.has -/
noncomputable def f_walk_has (n : Nat) (call : Caller)  (x0 x1 : AV) (h : AH) : Ans :=
 oP (oNew h 100 (AV.cells x0)) fun x2_0 h0 =>
 oB (bGe x1 (I 0)) fun x6_1 =>
 oB (gq x6_1 true (some x1)) fun x8_2 =>
 oB (gq x6_1 true (oFA 0 x2_0)) fun x9_3 =>
 oB (gq x6_1 true (oLd h0 x9_3)) fun x10_4 =>
 oB (gq x6_1 true (oLen x10_4)) fun x11_5 =>
 oB (gq x6_1 true (bLt x8_2 x11_5)) fun x12_6 =>
 oB (oPick x6_1 x12_6 (.bool false)) fun x13_7 =>
 some (x13_7, h0)
theorem o_walk_has : FnOK Tryz.prog n_walk_has (a2 f_walk_has) := ok2 mixed Tryz.func129 (by kernel_rfl)
/- corrector/edit.Check -/
noncomputable def f_edit_Check (n : Nat) (call : Caller)  (x0 x1 : AV) (h : AH) : Ans :=
 oB (oLen x1) fun x9_0 =>
 oB (bGt x9_0 (I 200)) fun x10_1 =>
 ci x10_1 (
 some ((I 3), h)) (
 oB (oLen x1) fun x12_2 =>
 jnF 0 (fun h3 =>
 some ((I 0), h3)) fun j3 =>
 lpF 5 n (fun f4 y13_4 y12_4 y11_4 y1_4 y0_4 h4 =>
 oB (bLt y13_4 y12_4) fun x14_5 =>
 ci x14_5 (
 jnF 5 (fun z13_6 z12_6 z11_6 z1_6 z0_6 h6 =>
 oB (bAdd z13_6 (I 1)) fun x37_7 =>
 f4 x37_7 z12_6 z11_6 z1_6 z0_6 h6) fun j6 =>
 oB (oIx 3 y11_4 y13_4) fun x16_8 =>
 oB (oLdN 3 h4 x16_8) fun x17_9 =>
 oP (oNew h4 124 [(I 0), (I 0), (.str [])]) fun x6_10 h10 =>
 oP (oSt 3 h10 x6_10 x17_9) fun _ h11 =>
 oB (oLdN 3 h11 x6_10) fun x19_12 =>
 oP (call n_edit_one [y0_4, x19_12] h11) fun x20_13 h13 =>
 oB (bNe .no x20_13 (I 0)) fun x22_14 =>
 ci x22_14 (
 some (x20_13, h13)) (
 oB' (nx 13 h13) fun h15 =>
 oB (bGt y13_4 (I 0)) fun x25_16 =>
 oB (gq x25_16 true (oFA 0 x6_10)) fun x27_17 =>
 oB (gq x25_16 true (oLd h15 x27_17)) fun x28_18 =>
 oB (gq x25_16 true (some y1_4)) fun x29_19 =>
 oB (gq x25_16 true (some y13_4)) fun x30_20 =>
 oB (gq x25_16 true (bSub x30_20 (I 1))) fun x31_21 =>
 oB (gq x25_16 true (oIx 3 x29_19 x31_21)) fun x32_22 =>
 oB (gq x25_16 true (oFA 1 x32_22)) fun x33_23 =>
 oB (gq x25_16 true (oLd h15 x33_23)) fun x34_24 =>
 oB (gq x25_16 true (bLt x28_18 x34_24)) fun x35_25 =>
 oB (oPick x25_16 x35_25 (.bool false)) fun x36_26 =>
 ci x36_26 (
 some ((I 6), h15)) (
 j6 y13_4 y12_4 y11_4 y1_4 y0_4 h15))) (
 j3 h4)) (I 0) x12_2 x1 x1 x0 h)
theorem o_edit_Check : FnOK Tryz.prog n_edit_Check (a2 f_edit_Check) := ok2 mixed Tryz.func130 (by kernel_rfl)
/- strings.IndexByte -/
noncomputable def f_strings_IndexByte (n : Nat) (call : Caller)  (x0 x1 : AV) (h : AH) : Ans :=
 oP (call n_internal_stringslite_IndexByte [x0, x1] h) fun x7_0 h0 =>
 some (x7_0, h0)
theorem o_strings_IndexByte : FnOK Tryz.prog n_strings_IndexByte (a2 f_strings_IndexByte) := ok2 mixed Tryz.func131 (by kernel_rfl)
/- internal/stringslite.TrimPrefix -/
noncomputable def f_internal_stringslite_TrimPrefix (n : Nat) (call : Caller)  (x0 x1 : AV) (h : AH) : Ans :=
 oP (call n_internal_stringslite_HasPrefix [x0, x1] h) fun x7_0 h0 =>
 ci x7_0 (
 oB (oLenS x1) fun x10_1 =>
 oB (oSlS x0 (some x10_1) none) fun x11_2 =>
 some (x11_2, h0)) (
 some (x0, h0))
theorem o_internal_stringslite_TrimPrefix : FnOK Tryz.prog n_internal_stringslite_TrimPrefix (a2 f_internal_stringslite_TrimPrefix) := ok2 mixed Tryz.func132 (by kernel_rfl)
/- internal/strconv.Atoi -/
noncomputable def f_internal_strconv_Atoi (n : Nat) (call : Caller)  (x0 : AV) (h : AH) : Ans :=
 oB (oLenS x0) fun x12_0 =>
 oB (gq (.bool false) true (some x12_0)) fun x14_1 =>
 oB (gq (.bool false) true (bLt (I 0) x14_1)) fun x15_2 =>
 oB (gq (.bool false) true (some x15_2)) fun x16_3 =>
 oB (gq x16_3 true (some x12_0)) fun x17_4 =>
 oB (gq x16_3 true (bLt x17_4 (I 10))) fun x18_5 =>
 oB (gq (.bool false) true (oPick x16_3 x18_5 (.bool false))) fun x19_6 =>
 oB (oPick (.bool false) x19_6 (.bool false)) fun x20_7 =>
 oB (gq x20_7 false (some (.bool true))) fun x22_8 =>
 oB (gq x22_8 true (some x12_0)) fun x23_9 =>
 oB (gq x22_8 true (bLt (I 0) x23_9)) fun x24_10 =>
 oB (gq x22_8 true (some x24_10)) fun x25_11 =>
 oB (gq x25_11 true (some x12_0)) fun x26_12 =>
 oB (gq x25_11 true (bLt x26_12 (I 19))) fun x27_13 =>
 oB (gq x22_8 true (oPick x25_11 x27_13 (.bool false))) fun x28_14 =>
 oB (gq x20_7 false (oPick x22_8 x28_14 (.bool false))) fun x29_15 =>
 oB (oPick x20_7 (.bool true) x29_15) fun x30_16 =>
 ci x30_16 (
 oB (oIxS x0 (I 0)) fun x33_17 =>
 oB (bEq .no x33_17 (U 45)) fun x34_18 =>
 oB (gq x34_18 false (some x0)) fun x36_19 =>
 oB (gq x34_18 false (oIxS x36_19 (I 0))) fun x37_20 =>
 oB (gq x34_18 false (bEq .no x37_20 (U 43))) fun x38_21 =>
 oB (oPick x34_18 (.bool true) x38_21) fun x39_22 =>
 jnF 2 (fun z5_23 z0_23 h23 =>
 oP (evW (.s2b 5 (.c z0_23)) .e h23) fun x47_24 h24 =>
 oB (oLen x47_24) fun x48_25 =>
 jnF 2 (fun z6_26 z5_26 h26 =>
 oB (oIxS z5_26 (I 0)) fun x65_27 =>
 oB (bEq .no x65_27 (U 45)) fun x66_28 =>
 jnF 1 (fun z6_29 h29 =>
 some (.tup [z6_29, .nili], h29)) fun j29 =>
 ci x66_28 (
 oB (evQ (.un .neg (.c z6_26)) .e h26) fun x68_30 =>
 j29 x68_30 h26) (
 j29 z6_26 h26)) fun j26 =>
 lpF 5 n (fun f31 y49_31 y48_31 y47_31 y6_31 y5_31 h31 =>
 oB (bLt y49_31 y48_31) fun x50_32 =>
 ci x50_32 (
 jnF 5 (fun z49_33 z48_33 z47_33 z6_33 z5_33 h33 =>
 oB (bAdd z49_33 (I 1)) fun x63_34 =>
 f31 x63_34 z48_33 z47_33 z6_33 z5_33 h33) fun j33 =>
 oB (oIx 1 y47_31 y49_31) fun x51_35 =>
 oB (oLd h31 x51_35) fun x52_36 =>
 oB (bSub x52_36 (U 48)) fun x54_37 =>
 oB (bGt x54_37 (U 9)) fun x56_38 =>
 ci x56_38 (
 oB (some (.iface 255 (I 2))) fun x57_39 =>
 some (.tup [(I 0), x57_39], h31)) (
 oB (binAV .mul .no y6_31 (I 10)) fun x59_40 =>
 oB (oInt .i64 x54_37) fun x61_41 =>
 oB (bAdd x59_40 x61_41) fun x62_42 =>
 j33 y49_31 y48_31 y47_31 x62_42 y5_31 h31)) (
 j26 y6_31 y5_31 h31)) (I 0) x48_25 x47_24 (I 0) z5_23 h24) fun j23 =>
 ci x39_22 (
 oB (oSlS x0 (some (I 1)) none) fun x41_43 =>
 oB (oLenS x41_43) fun x43_44 =>
 oB (bLt x43_44 (I 1)) fun x44_45 =>
 ci x44_45 (
 oB (some (.iface 255 (I 2))) fun x45_46 =>
 some (.tup [(I 0), x45_46], h)) (
 j23 x0 x41_43 h)) (
 j23 x0 x0 h)) (
 oP (call n_internal_strconv_ParseInt [x0, (I 10), (I 0)] h) fun x72_47 h47 =>
 oB (oEx 0 x72_47) fun x73_48 =>
 oB (oEx 1 x72_47) fun x74_49 =>
 some (.tup [x73_48, x74_49], h47))
theorem o_internal_strconv_Atoi : FnOK Tryz.prog n_internal_strconv_Atoi (a1 f_internal_strconv_Atoi) := ok1 mixed Tryz.func133 (by kernel_rfl)
/- strconv.toError -/
noncomputable def f_strconv_toError (n : Nat) (call : Caller)  (x0 x1 x2 x3 x4 : AV) (h : AH) : Ans :=
 jnF 1 (fun z4_0 h0 =>
 some (z4_0, h0)) fun j0 =>
 oB (some (.iface 255 (I 2))) fun x13_1 =>
 oB (evQ (.bad) .e h) fun x14_2 =>
 ci x14_2 (
 oP (call n_strconv_syntaxError [x0, x1] h) fun x17_3 h3 =>
 oB (some (.iface 258 x17_3)) fun x18_4 =>
 some (x18_4, h3)) (
 oB (some (.iface 255 (I 1))) fun x20_5 =>
 oB (evQ (.bad) .e h) fun x21_6 =>
 ci x21_6 (
 oP (call n_strconv_rangeError [x0, x1] h) fun x24_7 h7 =>
 oB (some (.iface 258 x24_7)) fun x25_8 =>
 some (x25_8, h7)) (
 oB (some (.iface 255 (I 3))) fun x27_9 =>
 oB (evQ (.bad) .e h) fun x28_10 =>
 ci x28_10 (
 oP (call n_strconv_baseError [x0, x1, x2] h) fun x32_11 h11 =>
 oB (some (.iface 258 x32_11)) fun x33_12 =>
 some (x33_12, h11)) (
 oB (some (.iface 255 (I 4))) fun x35_13 =>
 oB (evQ (.bad) .e h) fun x36_14 =>
 ci x36_14 (
 oP (call n_strconv_bitSizeError [x0, x1, x3] h) fun x40_15 h15 =>
 oB (some (.iface 258 x40_15)) fun x41_16 =>
 some (x41_16, h15)) (
 j0 x4 h))))
theorem o_strconv_toError : FnOK Tryz.prog n_strconv_toError (a5 f_strconv_toError) := ok5 mixed Tryz.func134 (by kernel_rfl)
/- internal/bytealg.hashStr[string] -/
noncomputable def f_internal_bytealg_hashStr_string (n : Nat) (call : Caller)  (x0 : AV) (h : AH) : Ans :=
 jnF 2 (fun z4_0 z0_0 h0 =>
 oB (oLenS z0_0) fun x23_1 =>
 jnF 2 (fun z6_2 z4_2 h2 =>
 some (.tup [z4_2, z6_2], h2)) fun j2 =>
 lpF 4 n (fun f3 y8_3 y7_3 y6_3 y4_3 h3 =>
 oB (bGt y8_3 (I 0)) fun x25_4 =>
 ci x25_4 (
 jnF 4 (fun z8_5 z7_5 z6_5 z4_5 h5 =>
 oB (binAV .shr .no z8_5 (.int .u64 1)) fun x27_6 =>
 f3 x27_6 z7_5 z6_5 z4_5 h5) fun j5 =>
 oB (binAV .and .no y8_3 (I 1)) fun x29_7 =>
 oB (bNe .no x29_7 (I 0)) fun x30_8 =>
 jnF 4 (fun z8_9 z7_9 z6_9 z4_9 h9 =>
 oB (binAV .mul .no z7_9 z7_9) fun x36_10 =>
 j5 z8_9 x36_10 z6_9 z4_9 h9) fun j9 =>
 ci x30_8 (
 oB (binAV .mul .no y6_3 y7_3) fun x33_11 =>
 j9 y8_3 y7_3 x33_11 y4_3 h3) (
 j9 y8_3 y7_3 y6_3 y4_3 h3)) (
 j2 y6_3 y4_3 h3)) x23_1 (.int .u32 16777619) (.int .u32 1) z4_0 h0) fun j0 =>
 lpF 3 n (fun f12 y5_12 y4_12 y0_12 h12 =>
 oB (oLenS y0_12) fun x11_13 =>
 oB (bLt y5_12 x11_13) fun x12_14 =>
 ci x12_14 (
 jnF 3 (fun z5_15 z4_15 z0_15 h15 =>
 oB (bAdd z5_15 (I 1)) fun x14_16 =>
 f12 x14_16 z4_15 z0_15 h15) fun j15 =>
 oB (binAV .mul .no y4_12 (.int .u32 16777619)) fun x16_17 =>
 oB (oIxS y0_12 y5_12) fun x19_18 =>
 oB (oInt .u32 x19_18) fun x20_19 =>
 oB (bAdd x16_17 x20_19) fun x21_20 =>
 j15 y5_12 x21_20 y0_12 h12) (
 j0 y4_12 y0_12 h12)) (I 0) (.int .u32 0) x0 h
theorem o_internal_bytealg_hashStr_string : FnOK Tryz.prog n_internal_bytealg_hashStr_string (a1 f_internal_bytealg_hashStr_string) := ok1 mixed Tryz.func136 (by kernel_rfl)
/- internal/strconv.Itoa -/
noncomputable def f_internal_strconv_Itoa (n : Nat) (call : Caller)  (x0 : AV) (h : AH) : Ans :=
 oP (call n_internal_strconv_FormatInt [x0, (I 10)] h) fun x4_0 h0 =>
 some (x4_0, h0)
theorem o_internal_strconv_Itoa : FnOK Tryz.prog n_internal_strconv_Itoa (a1 f_internal_strconv_Itoa) := ok1 mixed Tryz.func137 (by kernel_rfl)
/- corrector/config.rules -/
noncomputable def f_config_rules (n : Nat) (call : Caller)  (h : AH) : Ans :=
 oP (evW (.mkMap) .e h) fun x4_0 h0 =>
 oP (call n_config_names [] h0) fun x5_1 h1 =>
 oB (oLen x5_1) fun x6_2 =>
 jnF 1 (fun z1_3 h3 =>
 some (z1_3, h3)) fun j3 =>
 lpF 4 n (fun f4 y7_4 y6_4 y5_4 y1_4 h4 =>
 oB (bLt y7_4 y6_4) fun x8_5 =>
 ci x8_5 (
 jnF 4 (fun z7_6 z6_6 z5_6 z1_6 h6 =>
 oB (bAdd z7_6 (I 1)) fun x17_7 =>
 f4 x17_7 z6_6 z5_6 z1_6 h6) fun j6 =>
 oB (oIx 1 y5_4 y7_4) fun x10_8 =>
 oB (oLd h4 x10_8) fun x11_9 =>
 oB (bNe .no x11_9 (.str [])) fun x13_10 =>
 jnF 4 (fun z7_11 z6_11 z5_11 z1_11 h11 =>
 j6 z7_11 z6_11 z5_11 z1_11 h11) fun j11 =>
 ci x13_10 (
 oP (evW (.mapUpd .s (.c y1_4) (.c x11_9) (.c y7_4)) .e h4) fun _ h12 =>
 j11 y7_4 y6_4 y5_4 y1_4 h12) (
 j11 y7_4 y6_4 y5_4 y1_4 h4)) (
 j3 y1_4 h4)) (I 0) x6_2 x5_1 x4_0 h1
theorem o_config_rules : FnOK Tryz.prog n_config_rules (a0 f_config_rules) := ok0 mixed Tryz.func138 (by kernel_rfl)
/- corrector/config.place -/
noncomputable def f_config_place (n : Nat) (call : Caller)  (x0 x1 : AV) (h : AH) : Ans :=
 jnF 0 (fun h0 =>
 some (.nilp, h0)) fun j0 =>
 oB (bEq .no x1 (.str [119, 105, 100, 116, 104])) fun x7_1 =>
 ci x7_1 (
 oB (oNil x0) fun x9_2 =>
 oB (oFA 10 x9_2) fun x10_3 =>
 some (x10_3, h)) (
 oB (bEq .no x1 (.str [105, 110, 100, 101, 110, 116])) fun x12_4 =>
 ci x12_4 (
 oB (oNil x0) fun x14_5 =>
 oB (oFA 11 x14_5) fun x15_6 =>
 some (x15_6, h)) (
 oB (bEq .no x1 (.str [108, 105, 110, 101, 115])) fun x17_7 =>
 ci x17_7 (
 oB (oNil x0) fun x19_8 =>
 oB (oFA 12 x19_8) fun x20_9 =>
 some (x20_9, h)) (
 oB (bEq .no x1 (.str [100, 101, 112, 116, 104])) fun x22_10 =>
 ci x22_10 (
 oB (oNil x0) fun x24_11 =>
 oB (oFA 13 x24_11) fun x25_12 =>
 some (x25_12, h)) (
 j0 h))))
theorem o_config_place : FnOK Tryz.prog n_config_place (a2 f_config_place) := ok2 mixed Tryz.func139 (by kernel_rfl)
/- corrector/config.number -/
noncomputable def f_config_number (n : Nat) (call : Caller)  (x0 : AV) (h : AH) : Ans :=
 oB (bEq .no x0 (.str [])) fun x9_0 =>
 oB (gq x9_0 false (some x0)) fun x11_1 =>
 oB (gq x9_0 false (oLenS x11_1)) fun x12_2 =>
 oB (gq x9_0 false (bGt x12_2 (I 3))) fun x13_3 =>
 oB (oPick x9_0 (.bool true) x13_3) fun x14_4 =>
 ci x14_4 (
 some (.tup [(I 0), (.bool false)], h)) (
 oP (evW (.rangeS (.c x0)) .e h) fun x16_5 h5 =>
 jnF 1 (fun z0_6 h6 =>
 oP (call n_strconv_Atoi [z0_6] h6) fun x28_7 h7 =>
 oB (oEx 0 x28_7) fun x29_8 =>
 oB (oEx 1 x28_7) fun x30_9 =>
 some (.tup [x29_8, (.bool true)], h7)) fun j6 =>
 lpF 2 n (fun f10 y16_10 y0_10 h10 =>
 oP (evW (.nextS (.c y16_10)) .e h10) fun x17_11 h11 =>
 oB (oEx 0 x17_11) fun x18_12 =>
 ci x18_12 (
 jnF 2 (fun z16_13 z0_13 h13 =>
 f10 z16_13 z0_13 h13) fun j13 =>
 oB (oEx 2 x17_11) fun x19_14 =>
 oB (bLt x19_14 (R 48)) fun x21_15 =>
 oB (gq x21_15 false (some x19_14)) fun x23_16 =>
 oB (gq x21_15 false (bGt x23_16 (R 57))) fun x24_17 =>
 oB (oPick x21_15 (.bool true) x24_17) fun x25_18 =>
 ci x25_18 (
 some (.tup [(I 0), (.bool false)], h11)) (
 j13 y16_10 y0_10 h11)) (
 j6 y0_10 h11)) x16_5 x0 h5)
theorem o_config_number : FnOK Tryz.prog n_config_number (a1 f_config_number) := ok1 mixed Tryz.func140 (by kernel_rfl)
/- strings.FieldsFunc -/
noncomputable def f_strings_FieldsFunc (n : Nat) (call : Caller)  (x0 x1 : AV) (h : AH) : Ans :=
 oP (evW (.mkSlice 264 2 16 [(I 0), (I 0)] (.c (I 0)) (.c (I 32))) .e h) fun x12_0 h0 =>
 oP (evW (.rangeS (.c x0)) .e h0) fun x14_1 h1 =>
 jnF 3 (fun z6_2 z5_2 z0_2 h2 =>
 oB (bGe z6_2 (I 0)) fun x36_3 =>
 jnF 2 (fun z5_4 z0_4 h4 =>
 oB (oLen z5_4) fun x45_5 =>
 oP (evW (.mkSlice 9 1 16 [(.str [])] (.c x45_5) (.c x45_5)) .e h4) fun x46_6 h6 =>
 oB (oLen z5_4) fun x48_7 =>
 jnF 1 (fun z9_8 h8 =>
 some (z9_8, h8)) fun j8 =>
 lpF 5 n (fun f9 y49_9 y48_9 y47_9 y9_9 y0_9 h9 =>
 oB (bLt y49_9 y48_9) fun x50_10 =>
 ci x50_10 (
 jnF 5 (fun z49_11 z48_11 z47_11 z9_11 z0_11 h11 =>
 oB (bAdd z49_11 (I 1)) fun x63_12 =>
 f9 x63_12 z48_11 z47_11 z9_11 z0_11 h11) fun j11 =>
 oB (oIx 2 y47_9 y49_9) fun x52_13 =>
 oB (oLdN 2 h9 x52_13) fun x53_14 =>
 oP (oNew h9 264 [(I 0), (I 0)]) fun x11_15 h15 =>
 oP (oSt 2 h15 x11_15 x53_14) fun _ h16 =>
 oB (oFA 0 x11_15) fun x57_17 =>
 oB (oLd h16 x57_17) fun x58_18 =>
 oB (oFA 1 x11_15) fun x59_19 =>
 oB (oLd h16 x59_19) fun x60_20 =>
 oB (oSlS y0_9 (some x58_18) (some x60_20)) fun x61_21 =>
 oB (oIx 1 y9_9 y49_9) fun x62_22 =>
 oP (oSt 1 h16 x62_22 x61_21) fun _ h23 =>
 j11 y49_9 y48_9 y47_9 y9_9 y0_9 h23) (
 j8 y9_9 h9)) (I 0) x48_7 z5_4 x46_6 z0_4 h6) fun j4 =>
 ci x36_3 (
 oB (oLenS z0_2) fun x40_24 =>
 oB (oBuild [(I 0), (I 0)] [(0, 1, z6_2), (1, 1, x40_24)]) fun x41_25 =>
 oP (oBuildSl h2 264 2 1 [(I 0), (I 0)] [(0, 2, x41_25)]) fun x42_26 h26 =>
 oP (evW (.append 264 2 16 [(I 0), (I 0)] (.c z5_2) (.c x42_26)) .e h26) fun x43_27 h27 =>
 j4 x43_27 z0_2 h27) (
 j4 z5_2 z0_2 h2)) fun j2 =>
 lpF 5 n (fun f28 y14_28 y6_28 y5_28 y1_28 y0_28 h28 =>
 oP (evW (.nextS (.c y14_28)) .e h28) fun x15_29 h29 =>
 oB (oEx 0 x15_29) fun x16_30 =>
 ci x16_30 (
 jnF 5 (fun z14_31 z6_31 z5_31 z1_31 z0_31 h31 =>
 f28 z14_31 z6_31 z5_31 z1_31 z0_31 h31) fun j31 =>
 oB (oEx 1 x15_29) fun x17_32 =>
 oB (oEx 2 x15_29) fun x18_33 =>
 oP (wOf (.callV (.c y1_28) [(.c x18_33)]) call .e h29) fun x21_34 h34 =>
 jnF 5 (fun z14_35 z6_35 z5_35 z1_35 z0_35 h35 =>
 j31 z14_35 z6_35 z5_35 z1_35 z0_35 h35) fun j35 =>
 ci x21_34 (
 oB (bGe y6_28 (I 0)) fun x23_36 =>
 jnF 5 (fun z14_37 z6_37 z5_37 z1_37 z0_37 h37 =>
 j35 z14_37 z6_37 z5_37 z1_37 z0_37 h37) fun j37 =>
 ci x23_36 (
 oB (oBuild [(I 0), (I 0)] [(0, 1, y6_28), (1, 1, x17_32)]) fun x27_38 =>
 oP (oBuildSl h34 264 2 1 [(I 0), (I 0)] [(0, 2, x27_38)]) fun x28_39 h39 =>
 oP (evW (.append 264 2 16 [(I 0), (I 0)] (.c y5_28) (.c x28_39)) .e h39) fun x29_40 h40 =>
 oB (evQ (.un .xor (.c y6_28)) .e h40) fun x31_41 =>
 j37 y14_28 x31_41 x29_40 y1_28 y0_28 h40) (
 j37 y14_28 y6_28 y5_28 y1_28 y0_28 h34)) (
 oB (bLt y6_28 (I 0)) fun x33_42 =>
 jnF 5 (fun z14_43 z6_43 z5_43 z1_43 z0_43 h43 =>
 j35 z14_43 z6_43 z5_43 z1_43 z0_43 h43) fun j43 =>
 ci x33_42 (
 j43 y14_28 x17_32 y5_28 y1_28 y0_28 h34) (
 j43 y14_28 y6_28 y5_28 y1_28 y0_28 h34))) (
 j2 y6_28 y5_28 y0_28 h29)) x14_1 (Ineg 0) x12_0 x1 x0 h1
theorem o_strings_FieldsFunc : FnOK Tryz.prog n_strings_FieldsFunc (a2 f_strings_FieldsFunc) := ok2 mixed Tryz.func141 (by kernel_rfl)
/- corrector/config.words$1 -/
noncomputable def f_config_words_1 (n : Nat) (call : Caller)  (x0 : AV) (h : AH) : Ans :=
 oB (bEq .no x0 (R 32)) fun x4_0 =>
 oB (gq x4_0 false (some x0)) fun x6_1 =>
 oB (gq x4_0 false (bEq .no x6_1 (R 9))) fun x7_2 =>
 oB (oPick x4_0 (.bool true) x7_2) fun x8_3 =>
 some (x8_3, h)
theorem o_config_words_1 : FnOK Tryz.prog n_config_words_1 (a1 f_config_words_1) := ok1 mixed Tryz.func142 (by kernel_rfl)
/- corrector/config.within -/
noncomputable def f_config_within (n : Nat) (call : Caller)  (x0 x1 x2 : AV) (h : AH) : Ans :=
 oB (bGe x0 x1) fun x9_0 =>
 oB (gq x9_0 true (some x0)) fun x11_1 =>
 oB (gq x9_0 true (some x2)) fun x12_2 =>
 oB (gq x9_0 true (bLe x11_1 x12_2)) fun x13_3 =>
 oB (oPick x9_0 x13_3 (.bool false)) fun x14_4 =>
 some (x14_4, h)
theorem o_config_within : FnOK Tryz.prog n_config_within (a3 f_config_within) := ok3 mixed Tryz.func143 (by kernel_rfl)
/- (*corrector/scan.scanner).mark -/
noncomputable def f_scan_scanner_mark (n : Nat) (call : Caller)  (x0 x1 : AV) (h : AH) : Ans :=
 oB (bAdd x1 (I 3)) fun x6_0 =>
 oB (oNil x0) fun x8_1 =>
 oB (oFA 0 x8_1) fun x9_2 =>
 oB (oLd h x9_2) fun x10_3 =>
 oB (oLen x10_3) fun x11_4 =>
 oB (bGt x6_0 x11_4) fun x12_5 =>
 oB (gq x12_5 false (some x0)) fun x14_6 =>
 oB (gq x12_5 false (some x1)) fun x15_7 =>
 oB (gq x12_5 false (bAdd x15_7 (I 3))) fun x16_8 =>
 oP (gw x12_5 false (call n_scan_scanner_space [x14_6, x16_8] h) h) fun x17_9 h9 =>
 oB (gq x12_5 false (evQ (.un .not (.c x17_9)) .e h9)) fun x18_10 =>
 oB (oPick x12_5 (.bool true) x18_10) fun x19_11 =>
 ci x19_11 (
 some ((I 0), h9)) (
 oB (oNil x0) fun x21_12 =>
 oB (oFA 0 x21_12) fun x22_13 =>
 oB (oLd h9 x22_13) fun x23_14 =>
 oB (bAdd x1 (I 3)) fun x26_15 =>
 oB (evQ (.sl 1 (.c x23_14) (some (.c x1)) (some (.c x26_15)) none) .e h9) fun x27_16 =>
 oB (evQ (.b2s (.c x27_16)) .e h9) fun x28_17 =>
 jnF 0 (fun h18 =>
 some ((I 0), h18)) fun j18 =>
 oB (bEq .no x28_17 (.str [45, 45, 45])) fun x30_19 =>
 ci x30_19 (
 some ((I 20), h9)) (
 oB (bEq .no x28_17 (.str [46, 46, 46])) fun x32_20 =>
 ci x32_20 (
 some ((I 21), h9)) (
 j18 h9)))
theorem o_scan_scanner_mark : FnOK Tryz.prog n_scan_scanner_mark (a2 f_scan_scanner_mark) := ok2 mixed Tryz.func144 (by kernel_rfl)
/- (*corrector/scan.scanner).token -/
noncomputable def f_scan_scanner_token (n : Nat) (call : Caller)  (x0 x1 x2 : AV) (h : AH) : Ans :=
 oB (oNil x0) fun x8_0 =>
 oB (oFA 1 x8_0) fun x9_1 =>
 oB (oLd h x9_1) fun x10_2 =>
 oB (oNil x0) fun x13_3 =>
 oB (oFA 2 x13_3) fun x14_4 =>
 oB (oLd h x14_4) fun x15_5 =>
 oB (oBuild [(I 0), (I 0), (I 0)] [(0, 1, x1), (1, 1, x10_2), (2, 1, x2)]) fun x19_6 =>
 oP (oBuildSl h 92 3 1 [(I 0), (I 0), (I 0)] [(0, 3, x19_6)]) fun x20_7 h7 =>
 oP (evW (.append 92 3 24 [(I 0), (I 0), (I 0)] (.c x15_5) (.c x20_7)) .e h7) fun x21_8 h8 =>
 oB (oNil x0) fun x22_9 =>
 oB (oFA 2 x22_9) fun x23_10 =>
 oP (oSt 1 h8 x23_10 x21_8) fun _ h11 =>
 oB (oNil x0) fun x26_12 =>
 oB (oFA 1 x26_12) fun x27_13 =>
 oP (oSt 1 h11 x27_13 x2) fun _ h14 =>
 jnF 3 (fun z6_15 z1_15 z0_15 h15 =>
 oB (oNil z0_15) fun x39_16 =>
 oB (oFA 5 x39_16) fun x40_17 =>
 oB (oLd h15 x40_17) fun x41_18 =>
 oB (bLt x41_18 (I 0)) fun x42_19 =>
 jnF 2 (fun z1_20 z0_20 h20 =>
 oB (oNil z0_20) fun x54_21 =>
 oB (oFA 6 x54_21) fun x55_22 =>
 oB (oLd h20 x55_22) fun x56_23 =>
 oB (gq x56_23 true (some z1_20)) fun x58_24 =>
 oB (gq x56_23 true (bEq .no x58_24 (I 5))) fun x59_25 =>
 oB (oPick x56_23 x59_25 (.bool false)) fun x60_26 =>
 oB (gq x60_26 false (some z1_20)) fun x62_27 =>
 oB (gq x60_26 false (bEq .no x62_27 (I 20))) fun x63_28 =>
 oB (oPick x60_26 (.bool true) x63_28) fun x64_29 =>
 oB (oNil z0_20) fun x65_30 =>
 oB (oFA 6 x65_30) fun x66_31 =>
 oP (oSt 1 h20 x66_31 x64_29) fun _ h32 =>
 some (.tup [], h32)) fun j20 =>
 ci x42_19 (
 oB (oNil z0_15) fun x46_33 =>
 oB (oFA 4 x46_33) fun x47_34 =>
 oB (oLd h15 x47_34) fun x48_35 =>
 oB (bSub z6_15 x48_35) fun x49_36 =>
 oB (oNil z0_15) fun x50_37 =>
 oB (oFA 5 x50_37) fun x51_38 =>
 oP (oSt 1 h15 x51_38 x49_36) fun _ h39 =>
 j20 z1_15 z0_15 h39) (
 j20 z1_15 z0_15 h15)) fun j15 =>
 oB (bEq .no x1 (I 1)) fun x30_40 =>
 jnF 5 (fun z29_41 z28_41 z6_41 z1_41 z0_41 h41 =>
 ci z29_41 (
 oP (call n_scan_scanner_begin [z0_41] h41) fun x33_42 h42 =>
 some (.tup [], h42)) (
 oB (bEq .no z28_41 (I 2)) fun x35_43 =>
 jnF 4 (fun z34_44 z6_44 z1_44 z0_44 h44 =>
 ci z34_44 (
 some (.tup [], h44)) (
 j15 z6_44 z1_44 z0_44 h44)) fun j44 =>
 ci x35_43 (
 j44 x35_43 z6_41 z1_41 z0_41 h41) (
 oB (bEq .no z28_41 (I 3)) fun x36_45 =>
 jnF 4 (fun z34_46 z6_46 z1_46 z0_46 h46 =>
 j44 z34_46 z6_46 z1_46 z0_46 h46) fun j46 =>
 ci x36_45 (
 j46 x36_45 z6_41 z1_41 z0_41 h41) (
 oB (bEq .no z28_41 (I 4)) fun x37_47 =>
 j46 x37_47 z6_41 z1_41 z0_41 h41)))) fun j41 =>
 ci x30_40 (
 j41 x30_40 x1 x10_2 x1 x0 h14) (
 oB (bEq .no x1 (I 19)) fun x31_48 =>
 j41 x31_48 x1 x10_2 x1 x0 h14)
theorem o_scan_scanner_token : FnOK Tryz.prog n_scan_scanner_token (a3 f_scan_scanner_token) := ok3 mixed Tryz.func145 (by kernel_rfl)
/- (*corrector/scan.scanner).spaces -/
noncomputable def f_scan_scanner_spaces (n : Nat) (call : Caller)  (x0 x1 : AV) (h : AH) : Ans :=
 jnF 1 (fun z1_0 h0 =>
 some (z1_0, h0)) fun j0 =>
 lpF 2 n (fun f1 y1_1 y0_1 h1 =>
 oP (call n_scan_scanner_there [y0_1, y1_1, (U 32)] h1) fun x7_2 h2 =>
 ci x7_2 (
 jnF 2 (fun z1_3 z0_3 h3 =>
 f1 z1_3 z0_3 h3) fun j3 =>
 oB (bAdd y1_1 (I 1)) fun x9_4 =>
 j3 x9_4 y0_1 h2) (
 j0 y1_1 h2)) x1 x0 h
theorem o_scan_scanner_spaces : FnOK Tryz.prog n_scan_scanner_spaces (a2 f_scan_scanner_spaces) := ok2 mixed Tryz.func146 (by kernel_rfl)
/- (*corrector/scan.scanner).brk -/
noncomputable def f_scan_scanner_brk (n : Nat) (call : Caller)  (x0 x1 : AV) (h : AH) : Ans :=
 jnF 0 (fun h0 =>
 some ((I 0), h0)) fun j0 =>
 oP (call n_scan_scanner_there [x0, x1, (U 13)] h) fun x8_1 h1 =>
 oB (gq x8_1 true (some x0)) fun x10_2 =>
 oB (gq x8_1 true (some x1)) fun x11_3 =>
 oB (gq x8_1 true (bAdd x11_3 (I 1))) fun x12_4 =>
 oP (gw x8_1 true (call n_scan_scanner_there [x10_2, x12_4, (U 10)] h1) h1) fun x13_5 h5 =>
 oB (oPick x8_1 x13_5 (.bool false)) fun x14_6 =>
 ci x14_6 (
 some ((I 2), h5)) (
 oP (call n_scan_scanner_there [x0, x1, (U 13)] h5) fun x18_7 h7 =>
 oB (gq x18_7 false (some x0)) fun x20_8 =>
 oB (gq x18_7 false (some x1)) fun x21_9 =>
 oP (gw x18_7 false (call n_scan_scanner_there [x20_8, x21_9, (U 10)] h7) h7) fun x22_10 h10 =>
 oB (oPick x18_7 (.bool true) x22_10) fun x23_11 =>
 ci x23_11 (
 some ((I 1), h10)) (
 j0 h10))
theorem o_scan_scanner_brk : FnOK Tryz.prog n_scan_scanner_brk (a2 f_scan_scanner_brk) := ok2 mixed Tryz.func147 (by kernel_rfl)
/- (*corrector/scan.scanner).blanks -/
noncomputable def f_scan_scanner_blanks (n : Nat) (call : Caller)  (x0 x1 : AV) (h : AH) : Ans :=
 jnF 1 (fun z1_0 h0 =>
 some (z1_0, h0)) fun j0 =>
 lpF 2 n (fun f1 y1_1 y0_1 h1 =>
 oB (oNil y0_1) fun x7_2 =>
 oB (oFA 0 x7_2) fun x8_3 =>
 oB (oLd h1 x8_3) fun x9_4 =>
 oB (oLen x9_4) fun x10_5 =>
 oB (bLt y1_1 x10_5) fun x11_6 =>
 oB (gq x11_6 true (some y0_1)) fun x13_7 =>
 oB (gq x11_6 true (oNil x13_7)) fun x14_8 =>
 oB (gq x11_6 true (oFA 0 x14_8)) fun x15_9 =>
 oB (gq x11_6 true (oLd h1 x15_9)) fun x16_10 =>
 oB (gq x11_6 true (some y1_1)) fun x17_11 =>
 oB (gq x11_6 true (oIx 1 x16_10 x17_11)) fun x18_12 =>
 oB (gq x11_6 true (oLd h1 x18_12)) fun x19_13 =>
 oP (gw x11_6 true (call n_chars_Blank [x19_13] h1) h1) fun x20_14 h14 =>
 oB (oPick x11_6 x20_14 (.bool false)) fun x21_15 =>
 ci x21_15 (
 jnF 2 (fun z1_16 z0_16 h16 =>
 f1 z1_16 z0_16 h16) fun j16 =>
 oB (bAdd y1_1 (I 1)) fun x23_17 =>
 j16 x23_17 y0_1 h14) (
 j0 y1_1 h14)) x1 x0 h
theorem o_scan_scanner_blanks : FnOK Tryz.prog n_scan_scanner_blanks (a2 f_scan_scanner_blanks) := ok2 mixed Tryz.func148 (by kernel_rfl)
/- (*corrector/scan.scanner).last -/
noncomputable def f_scan_scanner_last (n : Nat) (call : Caller)  (x0 : AV) (h : AH) : Ans :=
 oB (oNil x0) fun x4_0 =>
 oB (oFA 2 x4_0) fun x5_1 =>
 oB (oLd h x5_1) fun x6_2 =>
 oB (oLen x6_2) fun x7_3 =>
 oB (bEq .no x7_3 (I 0)) fun x8_4 =>
 ci x8_4 (
 some ((I 0), h)) (
 oB' (nx 14 h) fun h5 =>
 oB (oNil x0) fun x10_6 =>
 oB (oFA 2 x10_6) fun x11_7 =>
 oB (oLd h5 x11_7) fun x12_8 =>
 oB (oNil x0) fun x14_9 =>
 oB (oFA 2 x14_9) fun x15_10 =>
 oB (oLd h5 x15_10) fun x16_11 =>
 oB (oLen x16_11) fun x17_12 =>
 oB (bSub x17_12 (I 1)) fun x18_13 =>
 oB (oIx 3 x12_8 x18_13) fun x19_14 =>
 oB (oFA 0 x19_14) fun x20_15 =>
 oB (oLd h5 x20_15) fun x21_16 =>
 some (x21_16, h5))
theorem o_scan_scanner_last : FnOK Tryz.prog n_scan_scanner_last (a1 f_scan_scanner_last) := ok1 mixed Tryz.func149 (by kernel_rfl)
/- (*corrector/scan.scanner).there -/
noncomputable def f_scan_scanner_there (n : Nat) (call : Caller)  (x0 x1 x2 : AV) (h : AH) : Ans :=
 oB (oNil x0) fun x9_0 =>
 oB (oFA 0 x9_0) fun x10_1 =>
 oB (oLd h x10_1) fun x11_2 =>
 oB (oLen x11_2) fun x12_3 =>
 oB (bLt x1 x12_3) fun x13_4 =>
 oB (gq x13_4 true (some x0)) fun x15_5 =>
 oB (gq x13_4 true (oNil x15_5)) fun x16_6 =>
 oB (gq x13_4 true (oFA 0 x16_6)) fun x17_7 =>
 oB (gq x13_4 true (oLd h x17_7)) fun x18_8 =>
 oB (gq x13_4 true (some x1)) fun x19_9 =>
 oB (gq x13_4 true (oIx 1 x18_8 x19_9)) fun x20_10 =>
 oB (gq x13_4 true (oLd h x20_10)) fun x21_11 =>
 oB (gq x13_4 true (some x2)) fun x22_12 =>
 oB (gq x13_4 true (bEq .no x21_11 x22_12)) fun x23_13 =>
 oB (oPick x13_4 x23_13 (.bool false)) fun x24_14 =>
 some (x24_14, h)
theorem o_scan_scanner_there : FnOK Tryz.prog n_scan_scanner_there (a3 f_scan_scanner_there) := ok3 mixed Tryz.func150 (by kernel_rfl)
/- (*corrector/scan.scanner).line -/
noncomputable def f_scan_scanner_line (n : Nat) (call : Caller)  (x0 x1 : AV) (h : AH) : Ans :=
 jnF 1 (fun z1_0 h0 =>
 some (z1_0, h0)) fun j0 =>
 lpF 2 n (fun f1 y1_1 y0_1 h1 =>
 oB (oNil y0_1) fun x7_2 =>
 oB (oFA 0 x7_2) fun x8_3 =>
 oB (oLd h1 x8_3) fun x9_4 =>
 oB (oLen x9_4) fun x10_5 =>
 oB (bLt y1_1 x10_5) fun x11_6 =>
 oB (gq x11_6 true (some y0_1)) fun x13_7 =>
 oB (gq x11_6 true (some y1_1)) fun x14_8 =>
 oP (gw x11_6 true (call n_scan_scanner_brk [x13_7, x14_8] h1) h1) fun x15_9 h9 =>
 oB (gq x11_6 true (bEq .no x15_9 (I 0))) fun x16_10 =>
 oB (oPick x11_6 x16_10 (.bool false)) fun x17_11 =>
 ci x17_11 (
 jnF 2 (fun z1_12 z0_12 h12 =>
 f1 z1_12 z0_12 h12) fun j12 =>
 oB (bAdd y1_1 (I 1)) fun x19_13 =>
 j12 x19_13 y0_1 h9) (
 j0 y1_1 h9)) x1 x0 h
theorem o_scan_scanner_line : FnOK Tryz.prog n_scan_scanner_line (a2 f_scan_scanner_line) := ok2 mixed Tryz.func151 (by kernel_rfl)
/- (*corrector/scan.scanner).brackets -/
noncomputable def f_scan_scanner_brackets (n : Nat) (call : Caller)  (x0 : AV) (h : AH) : Ans :=
 oB' (nx 10 h) fun h0 =>
 oB (oNil x0) fun x4_1 =>
 oB (oFA 0 x4_1) fun x5_2 =>
 oB (oLd h0 x5_2) fun x6_3 =>
 oB (oNil x0) fun x8_4 =>
 oB (oFA 1 x8_4) fun x9_5 =>
 oB (oLd h0 x9_5) fun x10_6 =>
 oB (oIx 1 x6_3 x10_6) fun x11_7 =>
 oB (oLd h0 x11_7) fun x12_8 =>
 jnF 0 (fun h9 =>
 some ((I 0), h9)) fun j9 =>
 oB (bEq .no x12_8 (U 91)) fun x14_10 =>
 ci x14_10 (
 oB (oNil x0) fun x16_11 =>
 oB (oFA 3 x16_11) fun x17_12 =>
 oB (oLd h0 x17_12) fun x18_13 =>
 oB (bAdd x18_13 (I 1)) fun x19_14 =>
 oB (oNil x0) fun x20_15 =>
 oB (oFA 3 x20_15) fun x21_16 =>
 oP (oSt 1 h0 x21_16 x19_14) fun _ h17 =>
 some ((I 8), h17)) (
 oB (bEq .no x12_8 (U 123)) fun x23_18 =>
 ci x23_18 (
 oB (oNil x0) fun x25_19 =>
 oB (oFA 3 x25_19) fun x26_20 =>
 oB (oLd h0 x26_20) fun x27_21 =>
 oB (bAdd x27_21 (I 1)) fun x28_22 =>
 oB (oNil x0) fun x29_23 =>
 oB (oFA 3 x29_23) fun x30_24 =>
 oP (oSt 1 h0 x30_24 x28_22) fun _ h25 =>
 some ((I 9), h25)) (
 oB (bEq .no x12_8 (U 93)) fun x32_26 =>
 ci x32_26 (
 oB (oNil x0) fun x35_27 =>
 oB (oFA 3 x35_27) fun x36_28 =>
 oB (oLd h0 x36_28) fun x37_29 =>
 oB (bSub x37_29 (I 1)) fun x38_30 =>
 oB (evQ (.maxI (.c x38_30) [(.c (I 0))]) .e h0) fun x39_31 =>
 oB (oNil x0) fun x40_32 =>
 oB (oFA 3 x40_32) fun x41_33 =>
 oP (oSt 1 h0 x41_33 x39_31) fun _ h34 =>
 some ((I 10), h34)) (
 oB (bEq .no x12_8 (U 125)) fun x43_35 =>
 ci x43_35 (
 oB (oNil x0) fun x46_36 =>
 oB (oFA 3 x46_36) fun x47_37 =>
 oB (oLd h0 x47_37) fun x48_38 =>
 oB (bSub x48_38 (I 1)) fun x49_39 =>
 oB (evQ (.maxI (.c x49_39) [(.c (I 0))]) .e h0) fun x50_40 =>
 oB (oNil x0) fun x51_41 =>
 oB (oFA 3 x51_41) fun x52_42 =>
 oP (oSt 1 h0 x52_42 x50_40) fun _ h43 =>
 some ((I 11), h43)) (
 oB (bEq .no x12_8 (U 44)) fun x54_44 =>
 jnF 0 (fun h45 =>
 j9 h45) fun j45 =>
 ci x54_44 (
 oB (oNil x0) fun x56_46 =>
 oB (oFA 3 x56_46) fun x57_47 =>
 oB (oLd h0 x57_47) fun x58_48 =>
 oB (bGt x58_48 (I 0)) fun x59_49 =>
 ci x59_49 (
 some ((I 7), h0)) (
 j45 h0)) (
 j45 h0)))))
theorem o_scan_scanner_brackets : FnOK Tryz.prog n_scan_scanner_brackets (a1 f_scan_scanner_brackets) := ok1 mixed Tryz.func152 (by kernel_rfl)
/- (*corrector/scan.scanner).space -/
noncomputable def f_scan_scanner_space (n : Nat) (call : Caller)  (x0 x1 : AV) (h : AH) : Ans :=
 oB (oNil x0) fun x7_0 =>
 oB (oFA 0 x7_0) fun x8_1 =>
 oB (oLd h x8_1) fun x9_2 =>
 oB (oLen x9_2) fun x10_3 =>
 oB (bGe x1 x10_3) fun x11_4 =>
 oB (gq x11_4 false (some x0)) fun x13_5 =>
 oB (gq x11_4 false (oNil x13_5)) fun x14_6 =>
 oB (gq x11_4 false (oFA 0 x14_6)) fun x15_7 =>
 oB (gq x11_4 false (oLd h x15_7)) fun x16_8 =>
 oB (gq x11_4 false (some x1)) fun x17_9 =>
 oB (gq x11_4 false (oIx 1 x16_8 x17_9)) fun x18_10 =>
 oB (gq x11_4 false (oLd h x18_10)) fun x19_11 =>
 oP (gw x11_4 false (call n_chars_Blank [x19_11] h) h) fun x20_12 h12 =>
 oB (oPick x11_4 (.bool true) x20_12) fun x21_13 =>
 oB (gq x21_13 false (some x0)) fun x23_14 =>
 oB (gq x21_13 false (some x1)) fun x24_15 =>
 oP (gw x21_13 false (call n_scan_scanner_brk [x23_14, x24_15] h12) h12) fun x25_16 h16 =>
 oB (gq x21_13 false (bGt x25_16 (I 0))) fun x26_17 =>
 oB (oPick x21_13 (.bool true) x26_17) fun x27_18 =>
 some (x27_18, h16)
theorem o_scan_scanner_space : FnOK Tryz.prog n_scan_scanner_space (a2 f_scan_scanner_space) := ok2 mixed Tryz.func153 (by kernel_rfl)
/- (*corrector/scan.scanner).colon -/
noncomputable def f_scan_scanner_colon (n : Nat) (call : Caller)  (x0 x1 : AV) (h : AH) : Ans :=
 oP (call n_scan_scanner_there [x0, x1, (U 58)] h) fun x7_0 h0 =>
 oB (gq x7_0 true (some x0)) fun x9_1 =>
 oB (gq x7_0 true (some x1)) fun x10_2 =>
 oB (gq x7_0 true (bAdd x10_2 (I 1))) fun x11_3 =>
 oP (gw x7_0 true (call n_scan_scanner_space [x9_1, x11_3] h0) h0) fun x12_4 h4 =>
 oB (gq x7_0 true (some x12_4)) fun x13_5 =>
 oB (gq x13_5 false (some x0)) fun x14_6 =>
 oB (gq x13_5 false (oNil x14_6)) fun x15_7 =>
 oB (gq x13_5 false (oFA 3 x15_7)) fun x16_8 =>
 oB (gq x13_5 false (oLd h4 x16_8)) fun x17_9 =>
 oB (gq x13_5 false (bGt x17_9 (I 0))) fun x18_10 =>
 oB (gq x13_5 false (some x18_10)) fun x19_11 =>
 oB (gq x19_11 true (some x0)) fun x20_12 =>
 oB (gq x19_11 true (oNil x20_12)) fun x21_13 =>
 oB (gq x19_11 true (oFA 0 x21_13)) fun x22_14 =>
 oB (gq x19_11 true (oLd h4 x22_14)) fun x23_15 =>
 oB (gq x19_11 true (some x1)) fun x24_16 =>
 oB (gq x19_11 true (bAdd x24_16 (I 1))) fun x25_17 =>
 oB (gq x19_11 true (oIx 1 x23_15 x25_17)) fun x26_18 =>
 oB (gq x19_11 true (oLd h4 x26_18)) fun x27_19 =>
 oP (gw x19_11 true (call n_chars_Flow [x27_19] h4) h4) fun x28_20 h20 =>
 oB (gq x13_5 false (oPick x19_11 x28_20 (.bool false))) fun x29_21 =>
 oB (gq x7_0 true (oPick x13_5 (.bool true) x29_21)) fun x30_22 =>
 oB (oPick x7_0 x30_22 (.bool false)) fun x31_23 =>
 some (x31_23, h20)
theorem o_scan_scanner_colon : FnOK Tryz.prog n_scan_scanner_colon (a2 f_scan_scanner_colon) := ok2 mixed Tryz.func154 (by kernel_rfl)
/- (*corrector/scan.scanner).property -/
noncomputable def f_scan_scanner_property (n : Nat) (call : Caller)  (x0 : AV) (h : AH) : Ans :=
 oB' (nx 10 h) fun h0 =>
 oB (oNil x0) fun x5_1 =>
 oB (oFA 0 x5_1) fun x6_2 =>
 oB (oLd h0 x6_2) fun x7_3 =>
 oB (oNil x0) fun x9_4 =>
 oB (oFA 1 x9_4) fun x10_5 =>
 oB (oLd h0 x10_5) fun x11_6 =>
 oB (oIx 1 x7_3 x11_6) fun x12_7 =>
 oB (oLd h0 x12_7) fun x13_8 =>
 jnF 2 (fun z2_9 z0_9 h9 =>
 oB (oNil z0_9) fun x57_10 =>
 oB (oFA 1 x57_10) fun x58_11 =>
 oB (oLd h9 x58_11) fun x59_12 =>
 oB (bAdd x59_12 (I 1)) fun x60_13 =>
 oP (call n_scan_scanner_names [z0_9, x60_13] h9) fun x61_14 h14 =>
 oB (oNil z0_9) fun x64_15 =>
 oB (oFA 1 x64_15) fun x65_16 =>
 oB (oLd h14 x65_16) fun x66_17 =>
 oB (bAdd x66_17 (I 1)) fun x67_18 =>
 oB (bEq .no x61_14 x67_18) fun x68_19 =>
 ci x68_19 (
 some (.tup [(I 0), (I 0)], h14)) (
 some (.tup [z2_9, x61_14], h14))) fun j9 =>
 oB (bEq .no x13_8 (U 38)) fun x15_20 =>
 jnF 2 (fun z2_21 z0_21 h21 =>
 j9 z2_21 z0_21 h21) fun j21 =>
 ci x15_20 (
 j21 (I 12) x0 h0) (
 oB (bEq .no x13_8 (U 42)) fun x17_22 =>
 jnF 2 (fun z2_23 z0_23 h23 =>
 j21 z2_23 z0_23 h23) fun j23 =>
 ci x17_22 (
 j23 (I 13) x0 h0) (
 oB (bEq .no x13_8 (U 33)) fun x19_24 =>
 ci x19_24 (
 oB (oNil x0) fun x21_25 =>
 oB (oFA 1 x21_25) fun x22_26 =>
 oB (oLd h0 x22_26) fun x23_27 =>
 oB (bAdd x23_27 (I 1)) fun x24_28 =>
 jnF 1 (fun z3_29 h29 =>
 some (.tup [(I 14), z3_29], h29)) fun j29 =>
 lpF 2 n (fun f30 y3_30 y0_30 h30 =>
 oB (oNil y0_30) fun x27_31 =>
 oB (oFA 0 x27_31) fun x28_32 =>
 oB (oLd h30 x28_32) fun x29_33 =>
 oB (oLen x29_33) fun x30_34 =>
 oB (bLt y3_30 x30_34) fun x31_35 =>
 oB (gq x31_35 true (some y0_30)) fun x33_36 =>
 oB (gq x31_35 true (oNil x33_36)) fun x34_37 =>
 oB (gq x31_35 true (oFA 0 x34_37)) fun x35_38 =>
 oB (gq x31_35 true (oLd h30 x35_38)) fun x36_39 =>
 oB (gq x31_35 true (some y3_30)) fun x37_40 =>
 oB (gq x31_35 true (oIx 1 x36_39 x37_40)) fun x38_41 =>
 oB (gq x31_35 true (oLd h30 x38_41)) fun x39_42 =>
 oP (gw x31_35 true (call n_chars_Name [x39_42] h30) h30) fun x40_43 h43 =>
 oB (gq x31_35 true (some x40_43)) fun x41_44 =>
 oB (gq x41_44 false (some y0_30)) fun x42_45 =>
 oB (gq x41_44 false (oNil x42_45)) fun x43_46 =>
 oB (gq x41_44 false (oFA 0 x43_46)) fun x44_47 =>
 oB (gq x41_44 false (oLd h43 x44_47)) fun x45_48 =>
 oB (gq x41_44 false (some y3_30)) fun x46_49 =>
 oB (gq x41_44 false (oIx 1 x45_48 x46_49)) fun x47_50 =>
 oB (gq x41_44 false (oLd h43 x47_50)) fun x48_51 =>
 oB (gq x41_44 false (bEq .no x48_51 (U 33))) fun x49_52 =>
 oB (gq x31_35 true (oPick x41_44 (.bool true) x49_52)) fun x50_53 =>
 oB (oPick x31_35 x50_53 (.bool false)) fun x51_54 =>
 ci x51_54 (
 jnF 2 (fun z3_55 z0_55 h55 =>
 f30 z3_55 z0_55 h55) fun j55 =>
 oB (bAdd y3_30 (I 1)) fun x53_56 =>
 j55 x53_56 y0_30 h43) (
 j29 y3_30 h43)) x24_28 x0 h0) (
 j23 (I 0) x0 h0)))
theorem o_scan_scanner_property : FnOK Tryz.prog n_scan_scanner_property (a1 f_scan_scanner_property) := ok1 mixed Tryz.func155 (by kernel_rfl)
end Go.Proofs.YtmlhpcflphlgdaaGreatDoor
