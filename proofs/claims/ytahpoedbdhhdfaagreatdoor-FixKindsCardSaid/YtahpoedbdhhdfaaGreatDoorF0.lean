/- Functions, as they run. PRINTED by a program of this repo. -/
import Derived.Test.YtahpoedbdhhdfaaGreatDoorN
import Derived.Test.YtahpoedbdhhdfaaGreatDoorM
set_option linter.unusedVariables false
set_option maxRecDepth 100000
namespace Go.Proofs.YtahpoedbdhhdfaaGreatDoor
open Go.Ev
/- corrector/correctorlaw21.FixKinds -/
noncomputable def f_correctorlaw21_FixKinds (n : Nat) (call : Caller)  (x0 : AV) (h : AH) : Ans :=
 oP (call n_correctorlaw21_known [] h) fun x9_0 h0 =>
 oB (evQ (.un .not (.c x9_0)) .e h0) fun x10_1 =>
 ci x10_1 (
 some ((.bool false), h0)) (
 oP (oBuildSl h0 9 1 13 [(.str []), (.str []), (.str []), (.str []), (.str []), (.str []), (.str []), (.str []), (.str []), (.str []), (.str []), (.str []), (.str [])] [(0, 1, (.str [97, 58, 32, 49, 32, 10])), (1, 1, (.str [97, 58, 32, 91, 49, 44, 50, 93, 10])), (2, 1, (.str [35, 99, 10, 97, 58, 32, 49, 10])), (3, 1, (.str [97, 58, 32, 39, 120, 10])), (4, 1, (.str [97, 58, 32, 91, 49, 10])), (5, 1, (.str [9, 97, 58, 32, 49, 10])), (6, 1, (.str [97, 10, 10, 10, 10, 10, 98, 10])), (7, 1, (.str [97, 58, 32, 123, 98, 58, 32, 91, 49])), (8, 1, (.str [97, 58, 32, 255, 49, 10])), (9, 1, (.str [97, 58, 32, 32, 10, 98, 58, 32, 49])), (10, 1, (.str [45, 32, 91, 49, 44, 50, 44, 51, 93])), (11, 1, (.str [])), (12, 1, (.str [97, 58, 32, 49, 10]))]) fun x11_2 h2 =>
 oP (oBuildSl h2 9 1 13 [(.str []), (.str []), (.str []), (.str []), (.str []), (.str []), (.str []), (.str []), (.str []), (.str []), (.str []), (.str []), (.str [])] [(0, 1, (.str [97, 58, 32, 49, 10])), (1, 1, (.str [97, 58, 32, 91, 49, 44, 32, 50, 93, 10])), (2, 1, (.str [35, 32, 99, 10, 97, 58, 32, 49, 10])), (3, 1, (.str [97, 58, 32, 39, 120, 39, 10])), (4, 1, (.str [97, 58, 32, 91, 49, 93, 10])), (5, 1, (.str [9, 97, 58, 32, 49, 10])), (6, 1, (.str [97, 10, 10, 10, 98, 10])), (7, 1, (.str [])), (8, 1, (.str [97, 58, 32, 49, 10])), (9, 1, (.str [97, 58, 10, 98, 58, 32, 49, 10])), (10, 1, (.str [45, 32, 91, 49, 44, 32, 50, 44, 32, 51, 93, 10])), (11, 1, (.str [])), (12, 1, (.str [97, 58, 32, 49, 10]))]) fun x12_3 h3 =>
 oB (oLen x11_2) fun x15_4 =>
 oP (call n_correctorlaw21_within [x0, x15_4] h3) fun x16_5 h5 =>
 oB' (nx 14 h5) fun h6 =>
 oB (oIx 1 x11_2 x16_5) fun x20_7 =>
 oB (oLd h6 x20_7) fun x21_8 =>
 fl1 true (evF (.s2b 5 (.c x21_8)) .e) (Nat.add h5.next 4) fun x22_9 o9 =>
 oP (call n_correctorref18_Plain [] h6) fun x23_10 h10 =>
 oB' (lay1 (Nat.add h5.next 4) o9 h10) fun v11 =>
 oP (call n_fix_Fix [x22_9, x23_10, (I 20)] v11) fun x24_12 h12 =>
 oB (oEx 0 x24_12) fun x25_13 =>
 oB (oEx 1 x24_12) fun x26_14 =>
 oB (oEx 2 x24_12) fun x27_15 =>
 ask1 true (oLd h6 x20_7) x21_8 (
 ask1 true (oLd h10 x20_7) x21_8 (
 oB' (nx 16 h12) fun h16 =>
 oB (bEq .no x27_15 (I 0)) fun x29_17 =>
 oB (gq x29_17 true (some x16_5)) fun x31_18 =>
 oB (gq x29_17 true (bEq .no x31_18 (I 7))) fun x32_19 =>
 oB (gq x29_17 true (some x32_19)) fun x33_20 =>
 oB (gq x33_20 false (some x25_13)) fun x34_21 =>
 oB (gq x33_20 false (evQ (.b2s (.c x34_21)) .e h16)) fun x35_22 =>
 oB (gq x33_20 false (some x12_3)) fun x36_23 =>
 oB (gq x33_20 false (some x16_5)) fun x37_24 =>
 oB (gq x33_20 false (oIx 1 x36_23 x37_24)) fun x38_25 =>
 oB (gq x33_20 false (oLd h16 x38_25)) fun x39_26 =>
 oB (gq x33_20 false (bEq .no x35_22 x39_26)) fun x40_27 =>
 oB (gq x29_17 true (oPick x33_20 (.bool true) x40_27)) fun x41_28 =>
 oB (oPick x29_17 x41_28 (.bool false)) fun x42_29 =>
 some (x42_29, h16))))
theorem o_correctorlaw21_FixKinds : FnOK Tryz.prog n_correctorlaw21_FixKinds (a1 f_correctorlaw21_FixKinds) := ok1 mixed Tryz.func3 (by kernel_rfl)
/- corrector/correctorlaw21.FixRefuses -/
noncomputable def f_correctorlaw21_FixRefuses (n : Nat) (call : Caller)  (x0 x1 x2 : AV) (h : AH) : Ans :=
 oP (oNew h 32 (AV.cells x0)) fun x3_0 h0 =>
 oP (call n_correctorlaw21_known [] h0) fun x19_1 h1 =>
 oB (evQ (.un .not (.c x19_1)) .e h1) fun x20_2 =>
 ci x20_2 (
 some ((.bool false), h1)) (
 oP (call n_correctorlaw21_within [x2, (I 9)] h1) fun x22_3 h3 =>
 oP (oBuildSl h3 5 1 1 [(U 0)] [(0, 1, (U 97))]) fun x24_4 h4 =>
 oP (evW (.ss (.c x24_4)) .e h4) fun x25_5 h5 =>
 oP (call n_correctorref18_Plain [] h5) fun x26_6 h6 =>
 oB (bAdd (I 21) x22_3) fun x28_7 =>
 oP (call n_fix_Fix [x25_5, x26_6, x28_7] h6) fun x29_8 h8 =>
 oB (oEx 0 x29_8) fun x30_9 =>
 oB (oEx 1 x29_8) fun x31_10 =>
 oB (oEx 2 x29_8) fun x32_11 =>
 oP (oBuildSl h8 5 1 1 [(U 0)] [(0, 1, (U 97))]) fun x34_12 h12 =>
 oP (evW (.ss (.c x34_12)) .e h12) fun x35_13 h13 =>
 oP (call n_correctorref18_Plain [] h13) fun x36_14 h14 =>
 oB (bSub (Ineg 0) x22_3) fun x38_15 =>
 oP (call n_fix_Fix [x35_13, x36_14, x38_15] h14) fun x39_16 h16 =>
 oB (oEx 0 x39_16) fun x40_17 =>
 oB (oEx 1 x39_16) fun x41_18 =>
 oB (oEx 2 x39_16) fun x42_19 =>
 oB' (nx 13 h16) fun h20 =>
 fl1 true (evF (.buildSlice 5 1 1 [(U 0)] [(0, 1, (.c (U 97)))]) .e) (Nat.add h16.next 0) fun x44_21 o21 =>
 oB' (lay1 (Nat.add h16.next 0) o21 h20) fun v22 =>
 oP (evW (.ss (.c x44_21)) .e v22) fun x45_23 h23 =>
 oB (oLdN 14 h23 x3_0) fun x46_24 =>
 none)
theorem o_correctorlaw21_FixRefuses : FnOK Tryz.prog n_correctorlaw21_FixRefuses (a3 f_correctorlaw21_FixRefuses) := ok3 mixed Tryz.func4 (by kernel_rfl)
/- corrector/correctorlaw21.known -/
noncomputable def f_correctorlaw21_known (n : Nat) (call : Caller)  (h : AH) : Ans :=
 oP (oBuildSl h 5 1 5 [(U 0), (U 0), (U 0), (U 0), (U 0)] [(0, 1, (U 97)), (1, 1, (U 58)), (2, 1, (U 32)), (3, 1, (U 49)), (4, 1, (U 32))]) fun x5_0 h0 =>
 oP (evW (.ss (.c x5_0)) .e h0) fun x6_1 h1 =>
 oP (call n_correctorref18_Plain [] h1) fun x7_2 h2 =>
 oP (call n_fix_Fix [x6_1, x7_2, (I 5)] h2) fun x8_3 h3 =>
 oB (oEx 0 x8_3) fun x9_4 =>
 oB (oEx 1 x8_3) fun x10_5 =>
 oB (oEx 2 x8_3) fun x11_6 =>
 oB (bEq .no x11_6 (I 0)) fun x13_7 =>
 oB (gq x13_7 true (some x10_5)) fun x15_8 =>
 oB (gq x13_7 true (oLen x15_8)) fun x16_9 =>
 oB (gq x13_7 true (bEq .no x16_9 (I 1))) fun x17_10 =>
 oB (oPick x13_7 x17_10 (.bool false)) fun x18_11 =>
 oB (gq x18_11 true (some x9_4)) fun x20_12 =>
 oB (gq x18_11 true (evQ (.b2s (.c x20_12)) .e h3)) fun x21_13 =>
 oB (gq x18_11 true (bEq .no x21_13 (.str [97, 58, 32, 49, 10]))) fun x22_14 =>
 oB (oPick x18_11 x22_14 (.bool false)) fun x23_15 =>
 some (x23_15, h3)
theorem o_correctorlaw21_known : FnOK Tryz.prog n_correctorlaw21_known (a0 f_correctorlaw21_known) := ok0 mixed Tryz.func5 (by kernel_rfl)
/- corrector/correctorlaw21.within -/
noncomputable def f_correctorlaw21_within (n : Nat) (call : Caller)  (x0 x1 : AV) (h : AH) : Ans :=
 oB (binAV .rem .no x0 x1) fun x8_0 =>
 oB (bLt x8_0 (I 0)) fun x10_1 =>
 jnF 1 (fun z5_2 h2 =>
 some (z5_2, h2)) fun j2 =>
 ci x10_1 (
 oB (bAdd x8_0 x1) fun x13_3 =>
 j2 x13_3 h) (
 j2 x8_0 h)
theorem o_correctorlaw21_within : FnOK Tryz.prog n_correctorlaw21_within (a2 f_correctorlaw21_within) := ok2 mixed Tryz.func6 (by kernel_rfl)
/- corrector/fix.Fix -/
noncomputable def f_fix_Fix (n : Nat) (call : Caller)  (x0 x1 x2 : AV) (h : AH) : Ans :=
 oP (oNew h 32 (AV.cells x1)) fun x4_0 h0 =>
 oB (bLt x2 (I 0)) fun x13_1 =>
 oB (gq x13_1 false (some x2)) fun x15_2 =>
 oB (gq x13_1 false (bGt x15_2 (I 20))) fun x16_3 =>
 oB (oPick x13_1 (.bool true) x16_3) fun x17_4 =>
 ci x17_4 (
 some (.tup [.nils, .nils, (I 1)], h0)) (
 oB (oLdN 14 h0 x4_0) fun x18_5 =>
 oB (oBuild [(.bool false), (.bool false), (.bool false), (.bool false), (.bool false), (.bool false), (.bool false), (.bool false), (.bool false), (.bool false), (I 0), (I 0), (I 0), (I 0), .nils, .nils, (I 0), (I 0), .nils, .nils, .nils, .nils] [(0, 14, x18_5)]) fun x19_6 =>
 oP (oNew h0 46 (AV.cells x19_6)) fun x20_7 h7 =>
 oP (call n_fix_fixer_look [x20_7, x0] h7) fun x25_8 h8 =>
 oB (oEx 0 x25_8) fun x26_9 =>
 oB (oEx 1 x25_8) fun x27_10 =>
 oB (oNil x20_7) fun x28_11 =>
 oB (oFA 14 x28_11) fun x29_12 =>
 oP (oSt 7 h8 x29_12 x26_9) fun _ h13 =>
 oB (bNe .no x27_10 (I 0)) fun x31_14 =>
 ci x31_14 (
 some (.tup [.nils, .nils, x27_10], h13)) (
 oB (some (.fn n_fix_fixer_round [x20_7] [])) fun x34_15 =>
 jnF 1 (fun z9_16 h16 =>
 oB' (nx 14 h16) fun h17 =>
 oB (oNil z9_16) fun x45_18 =>
 oB (oFA 14 x45_18) fun x46_19 =>
 oB (oFA 0 x46_19) fun x47_20 =>
 oB (oLd h17 x47_20) fun x48_21 =>
 oP (call n_slices_Clone_byte_byte [x48_21] h17) fun x49_22 h22 =>
 oB (oNil z9_16) fun x51_23 =>
 oB (oFA 21 x51_23) fun x52_24 =>
 oB (oLd h22 x52_24) fun x53_25 =>
 oP (call n_slices_Clone_fix_Round_fix_Round [x53_25] h22) fun x54_26 h26 =>
 ask1 true (oLd h17 x47_20) x48_21 (
 ask1 true (oLd h17 x52_24) x53_25 (
 ask1 true (oLd h22 x52_24) x53_25 (
 some (.tup [x49_22, x54_26, (I 0)], h26))))) fun j16 =>
 lpF 4 n (fun f27 y11_27 y10_27 y9_27 y2_27 h27 =>
 oB (bLt y11_27 y2_27) fun x37_28 =>
 oB (gq x37_28 true (some y10_27)) fun x39_29 =>
 oP (gw x37_28 true (wOf (.callV (.c x39_29) []) call .e h27) h27) fun x40_30 h30 =>
 oB (oPick x37_28 x40_30 (.bool false)) fun x41_31 =>
 ci x41_31 (
 jnF 4 (fun z11_32 z10_32 z9_32 z2_32 h32 =>
 oB (bAdd z11_32 (I 1)) fun x43_33 =>
 f27 x43_33 z10_32 z9_32 z2_32 h32) fun j32 =>
 j32 y11_27 y10_27 y9_27 y2_27 h30) (
 j16 y9_27 h30)) (I 0) x34_15 x20_7 x2 h13))
theorem o_fix_Fix : FnOK Tryz.prog n_fix_Fix (a3 f_fix_Fix) := ok3 mixed Tryz.func7 (by kernel_rfl)
/- corrector/correctorref18.Plain -/
noncomputable def f_correctorref18_Plain (n : Nat) (call : Caller)  (h : AH) : Ans :=
 oP (oNew h 32 [(.bool false), (.bool false), (.bool false), (.bool false), (.bool false), (.bool false), (.bool false), (.bool false), (.bool false), (.bool false), (I 0), (I 0), (I 0), (I 0)]) fun x0_0 h0 =>
 oB (oBuild [(.bool false), (.bool false), (.bool false), (.bool false), (.bool false), (.bool false), (.bool false), (.bool false), (.bool false), (.bool false), (I 0), (I 0), (I 0), (I 0)] [(10, 1, (I 80)), (11, 1, (I 2)), (12, 1, (I 2)), (13, 1, (I 20))]) fun x3_1 =>
 oP (oNew h0 32 [(.bool false), (.bool false), (.bool false), (.bool false), (.bool false), (.bool false), (.bool false), (.bool false), (.bool false), (.bool false), (I 0), (I 0), (I 0), (I 0)]) fun x1_2 h2 =>
 oP (oSt 14 h2 x1_2 x3_1) fun _ h3 =>
 jnF 2 (fun z1_4 z0_4 h4 =>
 oB (oLdN 14 h4 z1_4) fun x13_5 =>
 oP (oSt 14 h4 z0_4 x13_5) fun _ h6 =>
 retT [(0, some (some 14))] (sput 0 Tr.e z0_4) h6) fun j4 =>
 lpF 3 n (fun f7 y2_7 y1_7 y0_7 h7 =>
 oB (bLe y2_7 (I 9)) fun x5_8 =>
 ci x5_8 (
 jnF 3 (fun z2_9 z1_9 z0_9 h9 =>
 oB (bAdd z2_9 (I 1)) fun x7_10 =>
 f7 x7_10 z1_9 z0_9 h9) fun j9 =>
 oB (bNe .no y2_7 (I 5)) fun x10_11 =>
 oB (oFA 0 y1_7) fun x11_12 =>
 oB (evQ (.idxArr 10 1 (.c x11_12) (.c y2_7)) .e h7) fun x12_13 =>
 oP (oSt 1 h7 x12_13 x10_11) fun _ h14 =>
 j9 y2_7 y1_7 y0_7 h14) (
 j4 y1_7 y0_7 h7)) (I 1) x1_2 x0_0 h3
theorem o_correctorref18_Plain : FnOK Tryz.prog n_correctorref18_Plain (a0 f_correctorref18_Plain) := ok0 mixed Tryz.func8 (by kernel_rfl)
/- corrector/correctorref18.Check -/
noncomputable def f_correctorref18_Check (n : Nat) (call : Caller)  (x0 : AV) (h : AH) : Ans :=
 oP (oNew h 32 (AV.cells x0)) fun x1_0 h0 =>
 oB (oFA 10 x1_0) fun x3_1 =>
 oB (oLd h0 x3_1) fun x4_2 =>
 oB (bLt x4_2 (I 1)) fun x5_3 =>
 oB (gq x5_3 false (oFA 10 x1_0)) fun x7_4 =>
 oB (gq x5_3 false (oLd h0 x7_4)) fun x8_5 =>
 oB (gq x5_3 false (bGt x8_5 (I 500))) fun x9_6 =>
 oB (oPick x5_3 (.bool true) x9_6) fun x10_7 =>
 oB (gq x10_7 false (oFA 11 x1_0)) fun x12_8 =>
 oB (gq x10_7 false (oLd h0 x12_8)) fun x13_9 =>
 oB (gq x10_7 false (bLt x13_9 (I 1))) fun x14_10 =>
 oB (oPick x10_7 (.bool true) x14_10) fun x15_11 =>
 oB (gq x15_11 false (oFA 11 x1_0)) fun x17_12 =>
 oB (gq x15_11 false (oLd h0 x17_12)) fun x18_13 =>
 oB (gq x15_11 false (bGt x18_13 (I 10))) fun x19_14 =>
 oB (oPick x15_11 (.bool true) x19_14) fun x20_15 =>
 oB (gq x20_15 false (oFA 12 x1_0)) fun x22_16 =>
 oB (gq x20_15 false (oLd h0 x22_16)) fun x23_17 =>
 oB (gq x20_15 false (bLt x23_17 (I 0))) fun x24_18 =>
 oB (oPick x20_15 (.bool true) x24_18) fun x25_19 =>
 oB (gq x25_19 false (oFA 12 x1_0)) fun x27_20 =>
 oB (gq x25_19 false (oLd h0 x27_20)) fun x28_21 =>
 oB (gq x25_19 false (bGt x28_21 (I 20))) fun x29_22 =>
 oB (oPick x25_19 (.bool true) x29_22) fun x30_23 =>
 oB (gq x30_23 false (oFA 13 x1_0)) fun x32_24 =>
 oB (gq x30_23 false (oLd h0 x32_24)) fun x33_25 =>
 oB (gq x30_23 false (bLt x33_25 (I 1))) fun x34_26 =>
 oB (oPick x30_23 (.bool true) x34_26) fun x35_27 =>
 oB (gq x35_27 false (oFA 13 x1_0)) fun x37_28 =>
 oB (gq x35_27 false (oLd h0 x37_28)) fun x38_29 =>
 oB (gq x35_27 false (bGt x38_29 (I 50))) fun x39_30 =>
 oB (oPick x35_27 (.bool true) x39_30) fun x40_31 =>
 ci x40_31 (
 some ((I 1), h0)) (
 some ((I 0), h0))
theorem o_correctorref18_Check : FnOK Tryz.prog n_correctorref18_Check (a1 f_correctorref18_Check) := ok1 mixed Tryz.func9 (by kernel_rfl)
/- (*corrector/fix.fixer).look -/
noncomputable def f_fix_fixer_look (n : Nat) (call : Caller)  (x0 x1 : AV) (h : AH) : Ans :=
 oP (oNew h 44 [.nils, .nils, (I 0), (I 0), .nils, .nils, .nils]) fun x4_0 h0 =>
 oB (oNil x0) fun x17_1 =>
 oB (oFA 0 x17_1) fun x18_2 =>
 oB (oLdN 14 h0 x18_2) fun x19_3 =>
 oP (call n_lint_Find [x1, x19_3] h0) fun x20_4 h4 =>
 oB (oEx 0 x20_4) fun x21_5 =>
 oB (oEx 1 x20_4) fun x22_6 =>
 oB (bNe .no x22_6 (I 0)) fun x24_7 =>
 ci x24_7 (
 oB (oBuild [.nils, .nils, (I 0), (I 0), .nils, .nils, .nils] []) fun x25_8 =>
 oP (oSt 7 h4 x4_0 x25_8) fun _ h9 =>
 retT [(4, some (some 7)), (5, none)] (sput 5 (sput 4 Tr.e x4_0) x22_6) h9) (
 oB (oNil x0) fun x30_10 =>
 oB (oFA 0 x30_10) fun x31_11 =>
 oB (oFA 13 x31_11) fun x32_12 =>
 oB (oLd h4 x32_12) fun x33_13 =>
 oP (call n_parse_Tree [x1, x33_13] h4) fun x34_14 h14 =>
 oB (oEx 0 x34_14) fun x35_15 =>
 oB (oEx 1 x34_14) fun x36_16 =>
 oB (oEx 2 x34_14) fun x37_17 =>
 oP (oNew h14 59 [.nils]) fun x9_18 h18 =>
 oP (oSt 1 h18 x9_18 x36_16) fun _ h19 =>
 oB (oLdN 1 h19 x9_18) fun x41_20 =>
 oP (call n_graph_Compose [x1, x35_15, x41_20] h19) fun x42_21 h21 =>
 oB (oEx 0 x42_21) fun x43_22 =>
 oB (oEx 1 x42_21) fun x44_23 =>
 oP (oNew h21 42 [.nils, .nils, .nils]) fun x11_24 h24 =>
 oP (oSt 3 h24 x11_24 x43_22) fun _ h25 =>
 oB' (nx 13 h25) fun h26 =>
 oB (oLdN 3 h26 x11_24) fun x46_27 =>
 oB (oLen x21_5) fun x48_28 =>
 fl1 true (evF (.buildSlice 53 1 2 [.nils, .nils] [(0, 1, (.c x37_17)), (1, 1, (.c x44_23))]) .e) (Nat.add h25.next 6) fun x51_29 o29 =>
 oB' (lay1 (Nat.add h25.next 6) o29 h26) fun v30 =>
 oP (call n_slices_Concat_api_Diag_api_Diag [x51_29] v30) fun x52_31 h31 =>
 oP (call n_diag_Sort [x52_31] h31) fun x53_32 h32 =>
 oB (oLen x53_32) fun x54_33 =>
 oB (oBuild [.nils, .nils, (I 0), (I 0), .nils, .nils, .nils] [(0, 1, x1), (4, 3, x46_27), (3, 1, x48_28), (2, 1, x54_33)]) fun x55_34 =>
 fl1 true (evF (.new 44 [.nils, .nils, (I 0), (I 0), .nils, .nils, .nils]) .e) (Nat.add h25.next 11) fun x13_35 o35 =>
 oB' (lay1 (Nat.add h25.next 11) o35 h32) fun v36 =>
 oP (oSt 7 v36 x13_35 x55_34) fun x0_37 h37 =>
 ask1 true (oLdN 3 h26 x11_24) x46_27 (
 ask1 true (oLdN 3 h31 x11_24) x46_27 (
 ask1 true (oLdN 3 h32 x11_24) x46_27 (
 oB (oLen x1) fun x57_38 =>
 oP (call n_suggest_Edits [x1, x35_15, x37_17, x21_5] h37) fun x62_39 h39 =>
 oP (call n_edit_Choose [x57_38, x62_39] h39) fun x63_40 h40 =>
 oB (oFA 1 x13_35) fun x64_41 =>
 oP (oSt 1 h40 x64_41 x63_40) fun _ h42 =>
 oB (oLdN 7 h42 x13_35) fun x65_43 =>
 oP (oSt 7 h42 x4_0 x65_43) fun _ h44 =>
 retT [(4, some (some 7)), (5, none)] (sput 5 (sput 4 Tr.e x4_0) (I 0)) h44))))
theorem o_fix_fixer_look : FnOK Tryz.prog n_fix_fixer_look (a2 f_fix_fixer_look) := ok2 mixed Tryz.func10 (by kernel_rfl)
/- (*corrector/fix.fixer).round -/
noncomputable def f_fix_fixer_round (n : Nat) (call : Caller)  (x0 : AV) (h : AH) : Ans :=
 oP (oNew h 37 (AV.cells x0)) fun x1_0 h0 =>
 oB (oLd h0 x1_0) fun x7_1 =>
 oB (oNil x7_1) fun x8_2 =>
 oB (oFA 14 x8_2) fun x9_3 =>
 oB (oLdN 7 h0 x9_3) fun x10_4 =>
 oP (oNew h0 44 [.nils, .nils, (I 0), (I 0), .nils, .nils, .nils]) fun x3_5 h5 =>
 oP (oSt 7 h5 x3_5 x10_4) fun _ h6 =>
 oB (oFA 1 x3_5) fun x11_7 =>
 oB (oLd h6 x11_7) fun x12_8 =>
 oB (oLen x12_8) fun x13_9 =>
 oB (bEq .no x13_9 (I 0)) fun x14_10 =>
 ci x14_10 (
 some ((.bool false), h6)) (
 oB (oFA 0 x3_5) fun x16_11 =>
 oB (oLd h6 x16_11) fun x17_12 =>
 oB (oFA 1 x3_5) fun x18_13 =>
 oB (oLd h6 x18_13) fun x19_14 =>
 oP (call n_edit_Apply [x17_12, x19_14] h6) fun x20_15 h15 =>
 oB (oEx 0 x20_15) fun x21_16 =>
 oB (oEx 1 x20_15) fun x22_17 =>
 oB (bNe .no x22_17 (I 0)) fun x24_18 =>
 ci x24_18 (
 some ((.bool false), h15)) (
 oB (oLd h15 x1_0) fun x26_19 =>
 oP (call n_fix_fixer_look [x26_19, x21_16] h15) fun x28_20 h20 =>
 oB (oEx 0 x28_20) fun x29_21 =>
 oB (oEx 1 x28_20) fun x30_22 =>
 oP (oNew h20 44 [.nils, .nils, (I 0), (I 0), .nils, .nils, .nils]) fun x6_23 h23 =>
 oP (oSt 7 h23 x6_23 x29_21) fun _ h24 =>
 oB (bNe .no x30_22 (I 0)) fun x32_25 =>
 oB (gq x32_25 false (oLd h24 x1_0)) fun x34_26 =>
 oB (gq x32_25 false (oLdN 7 h24 x6_23)) fun x35_27 =>
 oP (gw x32_25 false (call n_fix_fixer_better [x34_26, x35_27] h24) h24) fun x36_28 h28 =>
 oB (gq x32_25 false (evQ (.un .not (.c x36_28)) .e h28)) fun x37_29 =>
 oB (oPick x32_25 (.bool true) x37_29) fun x38_30 =>
 ci x38_30 (
 some ((.bool false), h28)) (
 oB (some (.fn n_fix_fixer_round_1 [] [x1_0, x3_5])) fun x39_31 =>
 oB (evQ (.bad) .e h28) fun _ =>
 oB (oLd h28 x1_0) fun x40_33 =>
 oB (oLdN 7 h28 x6_23) fun x41_34 =>
 oB (oNil x40_33) fun x42_35 =>
 oB (oFA 14 x42_35) fun x43_36 =>
 oP (oSt 7 h28 x43_36 x41_34) fun _ h37 =>
 some ((.bool true), h37))))
theorem o_fix_fixer_round : FnOK Tryz.prog n_fix_fixer_round (a1 f_fix_fixer_round) := ok1 mixed Tryz.func11 (by kernel_rfl)
/- slices.Clone[[]byte,byte] -/
noncomputable def f_slices_Clone_byte_byte (n : Nat) (call : Caller)  (x0 : AV) (h : AH) : Ans :=
 oB (bEq .sl x0 .nils) fun x4_0 =>
 ci x4_0 (
 some (.nils, h)) (
 oP (oBuildSl h 5 1 0 [] []) fun x5_1 h1 =>
 oP (evW (.append 5 1 1 [(U 0)] (.c x5_1) (.c x0)) .e h1) fun x7_2 h2 =>
 some (x7_2, h2))
theorem o_slices_Clone_byte_byte : FnOK Tryz.prog n_slices_Clone_byte_byte (a1 f_slices_Clone_byte_byte) := ok1 mixed Tryz.func12 (by kernel_rfl)
/- slices.Clone[[]corrector/fix.Round,corrector/fix.Round] -/
noncomputable def f_slices_Clone_fix_Round_fix_Round (n : Nat) (call : Caller)  (x0 : AV) (h : AH) : Ans :=
 oB (bEq .sl x0 .nils) fun x4_0 =>
 ci x4_0 (
 some (.nils, h)) (
 oP (oBuildSl h 52 5 0 [] []) fun x5_1 h1 =>
 oP (evW (.append 52 5 56 [.nils, (I 0), (I 0), (I 0), (I 0)] (.c x5_1) (.c x0)) .e h1) fun x7_2 h2 =>
 some (x7_2, h2))
theorem o_slices_Clone_fix_Round_fix_Round : FnOK Tryz.prog n_slices_Clone_fix_Round_fix_Round (a1 f_slices_Clone_fix_Round_fix_Round) := ok1 mixed Tryz.func13 (by kernel_rfl)
/- corrector/lint.Find -/
noncomputable def f_lint_Find (n : Nat) (call : Caller)  (x0 x1 : AV) (h : AH) : Ans :=
 oP (oNew h 32 (AV.cells x1)) fun x3_0 h0 =>
 oB (oLen x0) fun x20_1 =>
 oB (bGt x20_1 (I 16384)) fun x21_2 =>
 ci x21_2 (
 some (.tup [.nils, (I 4)], h0)) (
 oB (oLdN 14 h0 x3_0) fun x22_3 =>
 oP (call n_config_Check [x22_3] h0) fun x23_4 h4 =>
 oB (bNe .no x23_4 (I 0)) fun x25_5 =>
 ci x25_5 (
 some (.tup [.nils, x23_4], h4)) (
 oB (oFA 13 x3_0) fun x29_6 =>
 oB (oLd h4 x29_6) fun x30_7 =>
 oP (call n_parse_Tree [x0, x30_7] h4) fun x31_8 h8 =>
 oB (oEx 0 x31_8) fun x32_9 =>
 oB (oEx 1 x31_8) fun x33_10 =>
 oB (oEx 2 x31_8) fun x34_11 =>
 oP (oNew h8 59 [.nils]) fun x8_12 h12 =>
 oP (oSt 1 h12 x8_12 x33_10) fun _ h13 =>
 oB (oLdN 1 h13 x8_12) fun x38_14 =>
 oP (call n_graph_Compose [x0, x32_9, x38_14] h13) fun x39_15 h15 =>
 oB (oEx 0 x39_15) fun x40_16 =>
 oB (oEx 1 x39_15) fun x41_17 =>
 oP (oNew h15 42 [.nils, .nils, .nils]) fun x10_18 h18 =>
 oP (oSt 3 h18 x10_18 x40_16) fun _ h19 =>
 oB' (nx 11 h19) fun h20 =>
 oB (oLdN 14 h20 x3_0) fun x43_21 =>
 oP (call n_rows_Rows [x0, x32_9] h20) fun x47_22 h22 =>
 oB (oLdN 1 h22 x8_12) fun x48_23 =>
 oB (oLdN 3 h22 x10_18) fun x49_24 =>
 oB (oBuild [.nils, (.bool false), (.bool false), (.bool false), (.bool false), (.bool false), (.bool false), (.bool false), (.bool false), (.bool false), (.bool false), (I 0), (I 0), (I 0), (I 0), .nils, .nils, .nils, .nils, .nils, .nils, .nils] [(0, 1, x0), (1, 14, x43_21), (15, 1, x32_9), (16, 1, x47_22), (17, 1, x48_23), (18, 3, x49_24)]) fun x50_25 =>
 fl1 true (evF (.box 81 (.c x50_25)) .e) (Nat.add h19.next 9) fun x51_26 o26 =>
 ask1 true (oLdN 14 h20 x3_0) x43_21 (
 ask1 true (oLdN 14 h22 x3_0) x43_21 (
 ask1 true (oLdN 1 h20 x8_12) x48_23 (
 ask1 true (oLdN 1 h22 x8_12) x48_23 (
 ask1 true (oLdN 3 h20 x10_18) x49_24 (
 ask1 true (oLdN 3 h22 x10_18) x49_24 (
 oB' (lay1 (Nat.add h19.next 9) o26 h22) fun v27 =>
 oB (some (.fn n_lint_finder_trail [x51_26] [])) fun x53_28 =>
 oB (some (.fn n_lint_finder_long [x51_26] [])) fun x55_29 =>
 oB (some (.fn n_lint_finder_step [x51_26] [])) fun x57_30 =>
 oB (some (.fn n_lint_finder_empty [x51_26] [])) fun x59_31 =>
 oB (some (.fn n_lint_finder_mark [x51_26] [])) fun x61_32 =>
 oB (some (.fn n_lint_finder_hash [x51_26] [])) fun x63_33 =>
 oB (some (.fn n_lint_finder_comma [x51_26] [])) fun x65_34 =>
 oB (some (.fn n_lint_finder_twice [x51_26] [])) fun x67_35 =>
 oB (some (.fn n_lint_finder_end [x51_26] [])) fun x69_36 =>
 oP (oBuildSl v27 1 1 10 [.nilf, .nilf, .nilf, .nilf, .nilf, .nilf, .nilf, .nilf, .nilf, .nilf] [(1, 1, x53_28), (2, 1, x55_29), (3, 1, x57_30), (4, 1, x59_31), (5, 1, x61_32), (6, 1, x63_33), (7, 1, x65_34), (8, 1, x67_35), (9, 1, x69_36)]) fun x70_37 h37 =>
 oB (oLen x70_37) fun x71_38 =>
 jnF 3 (fun z12_39 z7_39 z0_39 h39 =>
 oP (call n_lint_on [z0_39, z7_39] h39) fun x90_40 h40 =>
 oB (oNil z12_39) fun x92_41 =>
 oB (oFA 21 x92_41) fun x93_42 =>
 oB (oLd h40 x93_42) fun x94_43 =>
 oB (oLen x94_43) fun x95_44 =>
 jnF 1 (fun z16_45 h45 =>
 oP (call n_diag_Sort [z16_45] h45) fun x109_46 h46 =>
 some (.tup [x109_46, (I 0)], h46)) fun j45 =>
 lpF 5 n (fun f47 y96_47 y95_47 y94_47 y16_47 y15_47 h47 =>
 oB (bLt y96_47 y95_47) fun x97_48 =>
 ci x97_48 (
 jnF 5 (fun z96_49 z95_49 z94_49 z16_49 z15_49 h49 =>
 oB (bAdd z96_49 (I 1)) fun x107_50 =>
 f47 x107_50 z95_49 z94_49 z16_49 z15_49 h49) fun j49 =>
 oB (oIx 3 y94_47 y96_47) fun x98_51 =>
 oB (oLdN 3 h47 x98_51) fun x99_52 =>
 oP (oNew h47 67 [(I 0), (I 0), (I 0)]) fun x18_53 h53 =>
 oP (oSt 3 h53 x18_53 x99_52) fun _ h54 =>
 oB (oLdN 3 h54 x18_53) fun x101_55 =>
 oP (wOf (.callV (.c y15_47) [(.c x101_55)]) call .e h54) fun x102_56 h56 =>
 jnF 5 (fun z96_57 z95_57 z94_57 z16_57 z15_57 h57 =>
 j49 z96_57 z95_57 z94_57 z16_57 z15_57 h57) fun j57 =>
 ci x102_56 (
 oB (oLdN 3 h56 x18_53) fun x104_58 =>
 oP (oBuildSl h56 67 3 1 [(I 0), (I 0), (I 0)] [(0, 3, x104_58)]) fun x105_59 h59 =>
 oP (evW (.append 67 3 24 [(I 0), (I 0), (I 0)] (.c y16_47) (.c x105_59)) .e h59) fun x106_60 h60 =>
 j57 y96_47 y95_47 y94_47 x106_60 y15_47 h60) (
 j57 y96_47 y95_47 y94_47 y16_47 y15_47 h56)) (
 j45 y16_47 h47)) (I 0) x95_44 x94_43 .nils x90_40 h40) fun j39 =>
 lpF 7 n (fun f61 y72_61 y71_61 y70_61 y12_61 y7_61 y3_61 y0_61 h61 =>
 oB (bLt y72_61 y71_61) fun x73_62 =>
 ci x73_62 (
 jnF 7 (fun z72_63 z71_63 z70_63 z12_63 z7_63 z3_63 z0_63 h63 =>
 oB (bAdd z72_63 (I 1)) fun x87_64 =>
 f61 x87_64 z71_63 z70_63 z12_63 z7_63 z3_63 z0_63 h63) fun j63 =>
 oB (oIx 1 y70_61 y72_61) fun x75_65 =>
 oB (oLd h61 x75_65) fun x76_66 =>
 oB (bGt y72_61 (I 0)) fun x78_67 =>
 oB (gq x78_67 true (some y72_61)) fun x80_68 =>
 oB (gq x78_67 true (oFA 0 y3_61)) fun x81_69 =>
 oB (gq x78_67 true (evQ (.idxArr 10 1 (.c x81_69) (.c x80_68)) .e h61)) fun x82_70 =>
 oB (gq x78_67 true (oLd h61 x82_70)) fun x83_71 =>
 oB (oPick x78_67 x83_71 (.bool false)) fun x84_72 =>
 jnF 7 (fun z72_73 z71_73 z70_73 z12_73 z7_73 z3_73 z0_73 h73 =>
 j63 z72_73 z71_73 z70_73 z12_73 z7_73 z3_73 z0_73 h73) fun j73 =>
 ci x84_72 (
 oP (wOf (.callV (.c x76_66) []) call .e h61) fun x86_74 h74 =>
 j73 y72_61 y71_61 y70_61 y12_61 y7_61 y3_61 y0_61 h74) (
 j73 y72_61 y71_61 y70_61 y12_61 y7_61 y3_61 y0_61 h61)) (
 j39 y12_61 y7_61 y0_61 h61)) (I 0) x71_38 x70_37 x51_26 x32_9 x3_0 x0 h37))))))))
theorem o_lint_Find : FnOK Tryz.prog n_lint_Find (a2 f_lint_Find) := ok2 mixed Tryz.func14 (by kernel_rfl)
/- corrector/parse.Tree -/
noncomputable def f_parse_Tree (n : Nat) (call : Caller)  (x0 x1 : AV) (h : AH) : Ans :=
 oP (oNew h 59 [.nils]) fun x5_0 h0 =>
 scF n fun m1 => jnF 5 (lpF 5 m1 fun f1 y9_1 y8_1 y7_1 y5_1 y4_1 h1 =>
 oB (oNil y7_1) fun x34_2 =>
 oB (oFA 2 x34_2) fun x35_3 =>
 oB (oLd h1 x35_3) fun x36_4 =>
 oB (oLen x36_4) fun x37_5 =>
 oB (bLt y9_1 x37_5) fun x38_6 =>
 ci x38_6 (
 oP (wOf (.callV (.c y8_1) [(.c y9_1)]) call .e h1) fun x41_7 h7 =>
 f1 x41_7 y8_1 y7_1 y5_1 y4_1 h7) (
 oP (call n_parse_parser_told [y7_1] h1) fun x43_8 h8 =>
 oB' (nx 12 h8) fun h9 =>
 oB (oNil y7_1) fun x46_10 =>
 oB (oFA 4 x46_10) fun x47_11 =>
 oB (oLdN 1 h9 x47_11) fun x48_12 =>
 oB (oNil y7_1) fun x50_13 =>
 oB (oFA 5 x50_13) fun x51_14 =>
 oB (oLd h9 x51_14) fun x52_15 =>
 oP (oSt 1 h9 y5_1 x48_12) fun x0_16 h16 =>
 ask1 true (oLdN 1 h9 x47_11) x48_12 (
 ask1 true (oLd h9 x51_14) x52_15 (
 ask1 true (oLd h16 x51_14) x52_15 (
 retT [(4, none), (5, some (some 1)), (6, none)] (sput 6 (sput 5 (sput 4 Tr.e y4_1) y5_1) x52_15) h16))))) fun f1 =>
 oB (bLt x1 (I 1)) fun x11_17 =>
 oB (gq x11_17 false (some x1)) fun x13_18 =>
 oB (gq x11_17 false (bGt x13_18 (I 50))) fun x14_19 =>
 oB (oPick x11_17 (.bool true) x14_19) fun x15_20 =>
 ci x15_20 (
 oB (oBuild [.nils] []) fun x16_21 =>
 oP (oSt 1 h0 x5_0 x16_21) fun _ h22 =>
 retT [(4, none), (5, some (some 1)), (6, none)] (sput 6 (sput 5 (sput 4 Tr.e .nils) x5_0) .nils) h22) (
 oP (call n_scan_Tokens [x0] h0) fun x18_23 h23 =>
 oP (call n_rows_Rows [x0, x18_23] h23) fun x23_24 h24 =>
 oB (oLen x18_23) fun x26_25 =>
 oP (call n_arena_New [x26_25] h24) fun x27_26 h26 =>
 oB (oBuild [.nils, .nils, .nils, (I 0), .nils, .nils, (I 0), (.bool false), .nils, (I 0)] [(0, 1, x0), (1, 1, x18_23), (2, 1, x23_24), (3, 1, x1), (4, 1, x27_26), (6, 1, (Ineg 0)), (9, 1, (Ineg 0))]) fun x28_27 =>
 oP (oNew h26 90 (AV.cells x28_27)) fun x29_28 h28 =>
 oB (some (.fn n_parse_parser_row [x29_28] [])) fun x31_29 =>
 oB (oNil x29_28) fun x34_30 =>
 oB (oFA 2 x34_30) fun x35_31 =>
 oB (oLd h28 x35_31) fun x36_32 =>
 oB (oLen x36_32) fun x37_33 =>
 oB (bLt (I 0) x37_33) fun x38_34 =>
 ci x38_34 (
 oP (wOf (.callV (.c x31_29) [(.c (I 0))]) call .e h28) fun x41_35 h35 =>
 f1 x41_35 x31_29 x29_28 x5_0 x18_23 h35) (
 oP (call n_parse_parser_told [x29_28] h28) fun x43_36 h36 =>
 oB' (nx 12 h36) fun h37 =>
 oB (oNil x29_28) fun x46_38 =>
 oB (oFA 4 x46_38) fun x47_39 =>
 oB (oLdN 1 h37 x47_39) fun x48_40 =>
 oB (oNil x29_28) fun x50_41 =>
 oB (oFA 5 x50_41) fun x51_42 =>
 oB (oLd h37 x51_42) fun x52_43 =>
 oP (oSt 1 h37 x5_0 x48_40) fun x0_44 h44 =>
 ask1 true (oLdN 1 h37 x47_39) x48_40 (
 ask1 true (oLd h37 x51_42) x52_43 (
 ask1 true (oLd h44 x51_42) x52_43 (
 retT [(4, none), (5, some (some 1)), (6, none)] (sput 6 (sput 5 (sput 4 Tr.e x18_23) x5_0) x52_43) h44)))))
theorem o_parse_Tree : FnOK Tryz.prog n_parse_Tree (a2 f_parse_Tree) := ok2 mixed Tryz.func15 (by kernel_rfl)
/- corrector/graph.Compose -/
noncomputable def f_graph_Compose (n : Nat) (call : Caller)  (x0 x1 x2 : AV) (h : AH) : Ans :=
 oP (oNew h 59 (AV.cells x2)) fun x5_0 h0 =>
 oP (oNew h0 42 [.nils, .nils, .nils]) fun x6_1 h1 =>
 oB (oLdN 1 h1 x5_0) fun x14_2 =>
 oP (call n_graph_fits [x0, x1, x14_2] h1) fun x15_3 h3 =>
 oB (evQ (.un .not (.c x15_3)) .e h3) fun x16_4 =>
 ci x16_4 (
 oB (oBuild [.nils, .nils, .nils] []) fun x17_5 =>
 oP (oSt 3 h3 x6_1 x17_5) fun _ h6 =>
 retT [(6, some (some 3)), (7, none)] (sput 7 (sput 6 Tr.e x6_1) .nils) h6) (
 oB' (nx 11 h3) fun h7 =>
 oB (oLdN 1 h7 x5_0) fun x20_8 =>
 oB (oFA 0 x5_0) fun x21_9 =>
 oB (oLd h7 x21_9) fun x22_10 =>
 oB (oLen x22_10) fun x23_11 =>
 oP (evW (.mkSlice 3 1 8 [(I 0)] (.c x23_11) (.c x23_11)) .e h7) fun x24_12 h12 =>
 oB (oBuild [.nils, .nils, .nils] [(2, 1, x24_12)]) fun x25_13 =>
 oB (oBuild [.nils, .nils, .nils, .nils, .nils, .nils, .nils, .nilm] [(0, 1, x0), (1, 1, x1), (2, 1, x20_8), (3, 3, x25_13)]) fun x26_14 =>
 fl1 true (evF (.box 96 (.c x26_14)) .e) (Nat.add h3.next 9) fun x27_15 o15 =>
 ask1 true (oLdN 1 h7 x5_0) x20_8 (
 ask1 true (oLdN 1 h12 x5_0) x20_8 (
 ask1 true (oLd h7 x21_9) x22_10 (
 oB' (lay1 (Nat.add h3.next 9) o15 h12) fun v16 =>
 oB (oNil x27_15) fun x29_17 =>
 oB (oFA 3 x29_17) fun x30_18 =>
 oB (oFA 2 x30_18) fun x31_19 =>
 oB (oLd v16 x31_19) fun x32_20 =>
 oB (oLen x32_20) fun x33_21 =>
 jnF 3 (fun z8_22 z6_22 z5_22 h22 =>
 oB (oFA 0 z5_22) fun x45_23 =>
 oB (oLd h22 x45_23) fun x46_24 =>
 oB (oIx 6 x46_24 (I 0)) fun x47_25 =>
 oB (oFA 4 x47_25) fun x48_26 =>
 oB (oLd h22 x48_26) fun x49_27 =>
 oB (oLen x49_27) fun x50_28 =>
 jnF 2 (fun z8_29 z6_29 h29 =>
 oB (oNil z8_29) fun x82_30 =>
 oB (oFA 6 x82_30) fun x83_31 =>
 oB (oLd h29 x83_31) fun x84_32 =>
 oP (call n_slices_SortFunc_api_Diag_api_Diag [x84_32, (.fn 44 [] [])] h29) fun x85_33 h33 =>
 oB' (nx 26 h33) fun h34 =>
 oB (oNil z8_29) fun x87_35 =>
 oB (oFA 3 x87_35) fun x88_36 =>
 oB (oFA 0 x88_36) fun x89_37 =>
 oB (oLd h34 x89_37) fun x90_38 =>
 oP (call n_slices_Clone_api_Value_api_Value [x90_38] h34) fun x91_39 h39 =>
 oB (oNil z8_29) fun x93_40 =>
 oB (oFA 3 x93_40) fun x94_41 =>
 oB (oFA 1 x94_41) fun x95_42 =>
 oB (oLd h39 x95_42) fun x96_43 =>
 oP (call n_slices_Clone_int_int [x96_43] h39) fun x97_44 h44 =>
 oB (oNil z8_29) fun x99_45 =>
 oB (oFA 3 x99_45) fun x100_46 =>
 oB (oFA 2 x100_46) fun x101_47 =>
 oB (oLd h44 x101_47) fun x102_48 =>
 oB (oBuild [.nils, .nils, .nils] [(0, 1, x91_39), (1, 1, x97_44), (2, 1, x102_48)]) fun x103_49 =>
 oB (oNil z8_29) fun x105_50 =>
 oB (oFA 6 x105_50) fun x106_51 =>
 oB (oLd h44 x106_51) fun x107_52 =>
 oP (call n_slices_Compact_api_Diag_api_Diag [x107_52] h44) fun x108_53 h53 =>
 oP (call n_slices_Clone_api_Diag_api_Diag [x108_53] h53) fun x109_54 h54 =>
 oP (oSt 3 h54 z6_29 x103_49) fun x0_55 h55 =>
 ask1 true (oLd h34 x89_37) x90_38 (
 ask1 true (oLd h34 x95_42) x96_43 (
 ask1 true (oLd h39 x95_42) x96_43 (
 ask1 true (oLd h34 x101_47) x102_48 (
 ask1 true (oLd h39 x101_47) x102_48 (
 ask1 true (oLd h44 x101_47) x102_48 (
 ask1 true (oLd h53 x101_47) x102_48 (
 ask1 true (oLd h54 x101_47) x102_48 (
 ask1 true (oLd h34 x106_51) x107_52 (
 ask1 true (oLd h39 x106_51) x107_52 (
 ask1 true (oLd h44 x106_51) x107_52 (
 retT [(6, some (some 3)), (7, none)] (sput 7 (sput 6 Tr.e z6_29) x109_54) h55)))))))))))) fun j29 =>
 lpF 6 n (fun f56 y51_56 y50_56 y49_56 y8_56 y6_56 y5_56 h56 =>
 oB (bLt y51_56 y50_56) fun x52_57 =>
 ci x52_57 (
 jnF 6 (fun z51_58 z50_58 z49_58 z8_58 z6_58 z5_58 h58 =>
 oB (bAdd z51_58 (I 1)) fun x80_59 =>
 f56 x80_59 z50_58 z49_58 z8_58 z6_58 z5_58 h58) fun j58 =>
 oB (oIx 1 y49_56 y51_56) fun x53_60 =>
 oB (oLd h56 x53_60) fun x54_61 =>
 oB (oFA 0 y5_56) fun x55_62 =>
 oB (oLd h56 x55_62) fun x56_63 =>
 oB (oIx 6 x56_63 x54_61) fun x58_64 =>
 oB (oFA 0 x58_64) fun x59_65 =>
 oB (oLd h56 x59_65) fun x60_66 =>
 oB (bEq .no x60_66 (I 2)) fun x61_67 =>
 jnF 6 (fun z51_68 z50_68 z49_68 z8_68 z6_68 z5_68 h68 =>
 j58 z51_68 z50_68 z49_68 z8_68 z6_68 z5_68 h68) fun j68 =>
 ci x61_67 (
 oP (evW (.mkMap) .e h56) fun x63_69 h69 =>
 oB (oNil y8_56) fun x64_70 =>
 oB (oFA 7 x64_70) fun x65_71 =>
 oP (oSt 1 h69 x65_71 x63_69) fun _ h72 =>
 oB' (nx 15 h72) fun h73 =>
 oB (oNil y8_56) fun x68_74 =>
 oB (oFA 3 x68_74) fun x69_75 =>
 oB (oFA 1 x69_75) fun x70_76 =>
 oB (oLd h73 x70_76) fun x71_77 =>
 oP (call n_graph_composer_node [y8_56, x54_61] h73) fun x74_78 h78 =>
 fl1 true (evF (.buildSlice 3 1 1 [(I 0)] [(0, 1, (.c x74_78))]) .e) (Nat.add h72.next 9) fun x75_79 o79 =>
 oB' (lay1 (Nat.add h72.next 9) o79 h78) fun v80 =>
 oP (evW (.append 3 1 8 [(I 0)] (.c x71_77) (.c x75_79)) .e v80) fun x76_81 h81 =>
 oB (oNil y8_56) fun x77_82 =>
 oB (oFA 3 x77_82) fun x78_83 =>
 oB (oFA 1 x78_83) fun x79_84 =>
 oP (oSt 1 h81 x79_84 x76_81) fun x0_85 h85 =>
 ask1 true (oLd h73 x70_76) x71_77 (
 ask1 true (oLd h78 x70_76) x71_77 (
 j68 y51_56 y50_56 y49_56 y8_56 y6_56 y5_56 h85))) (
 j68 y51_56 y50_56 y49_56 y8_56 y6_56 y5_56 h56)) (
 j29 y8_56 y6_56 h56)) (I 0) x50_28 x49_27 z8_22 z6_22 z5_22 h22) fun j22 =>
 lpF 5 n (fun f86 y34_86 y33_86 y8_86 y6_86 y5_86 h86 =>
 oB (bLt y34_86 y33_86) fun x35_87 =>
 ci x35_87 (
 jnF 5 (fun z34_88 z33_88 z8_88 z6_88 z5_88 h88 =>
 oB (bAdd z34_88 (I 1)) fun x44_89 =>
 f86 x44_89 z33_88 z8_88 z6_88 z5_88 h88) fun j88 =>
 oB (oNil y8_86) fun x38_90 =>
 oB (oFA 3 x38_90) fun x39_91 =>
 oB (oFA 2 x39_91) fun x40_92 =>
 oB (oLd h86 x40_92) fun x41_93 =>
 oB (oIx 1 x41_93 y34_86) fun x43_94 =>
 oP (oSt 1 h86 x43_94 (Ineg 0)) fun _ h95 =>
 j88 y34_86 y33_86 y8_86 y6_86 y5_86 h95) (
 j22 y8_86 y6_86 y5_86 h86)) (I 0) x33_21 x27_15 x6_1 x5_0 v16))))
theorem o_graph_Compose : FnOK Tryz.prog n_graph_Compose (a3 f_graph_Compose) := ok3 mixed Tryz.func16 (by kernel_rfl)
/- corrector/diag.Sort -/
noncomputable def f_diag_Sort (n : Nat) (call : Caller)  (x0 : AV) (h : AH) : Ans :=
 oP (evW (.mkMap) .e h) fun x9_0 h0 =>
 oB (oLen x0) fun x11_1 =>
 jnF 1 (fun z4_2 h2 =>
 oP (call n_slices_SortFunc_api_Diag_api_Diag [z4_2, (.fn 49 [] [])] h2) fun x34_3 h3 =>
 oP (call n_slices_Clone_api_Diag_api_Diag [z4_2] h3) fun x36_4 h4 =>
 some (x36_4, h4)) fun j2 =>
 lpF 5 n (fun f5 y12_5 y11_5 y10_5 y4_5 y3_5 h5 =>
 oB (bLt y12_5 y11_5) fun x13_6 =>
 ci x13_6 (
 jnF 5 (fun z12_7 z11_7 z10_7 z4_7 z3_7 h7 =>
 oB (bAdd z12_7 (I 1)) fun x32_8 =>
 f5 x32_8 z11_7 z10_7 z4_7 z3_7 h7) fun j7 =>
 oB (oIx 3 y10_5 y12_5) fun x14_9 =>
 oB (oLdN 3 h5 x14_9) fun x15_10 =>
 oP (oNew h5 67 [(I 0), (I 0), (I 0)]) fun x6_11 h11 =>
 oP (oSt 3 h11 x6_11 x15_10) fun _ h12 =>
 oB (oLdN 3 h12 x6_11) fun x18_13 =>
 oB (evQ (.lookup (.is 3) (I 0) true (.c y3_5) (.c x18_13)) .e h12) fun x19_14 =>
 oB (oEx 0 x19_14) fun x20_15 =>
 oB (oEx 1 x19_14) fun x21_16 =>
 oB (evQ (.un .not (.c x21_16)) .e h12) fun x23_17 =>
 jnF 5 (fun z12_18 z11_18 z10_18 z4_18 z3_18 h18 =>
 j7 z12_18 z11_18 z10_18 z4_18 z3_18 h18) fun j18 =>
 ci x23_17 (
 oB (oLdN 3 h12 x6_11) fun x25_19 =>
 oB (oLen y4_5) fun x27_20 =>
 oP (evW (.mapUpd (.is 3) (.c y3_5) (.c x25_19) (.c x27_20)) .e h12) fun _ h21 =>
 oB (oLdN 3 h21 x6_11) fun x29_22 =>
 oP (oBuildSl h21 67 3 1 [(I 0), (I 0), (I 0)] [(0, 3, x29_22)]) fun x30_23 h23 =>
 oP (evW (.append 67 3 24 [(I 0), (I 0), (I 0)] (.c y4_5) (.c x30_23)) .e h23) fun x31_24 h24 =>
 j18 y12_5 y11_5 y10_5 x31_24 y3_5 h24) (
 j18 y12_5 y11_5 y10_5 y4_5 y3_5 h12)) (
 j2 y4_5 h5)) (I 0) x11_1 x0 .nils x9_0 h0
theorem o_diag_Sort : FnOK Tryz.prog n_diag_Sort (a1 f_diag_Sort) := ok1 mixed Tryz.func17 (by kernel_rfl)
/- slices.Concat[[]corrector/api.Diag,corrector/api.Diag] -/
noncomputable def f_slices_Concat_api_Diag_api_Diag (n : Nat) (call : Caller)  (x0 : AV) (h : AH) : Ans :=
 oB (oLen x0) fun x10_0 =>
 jnF 2 (fun z3_1 z0_1 h1 =>
 oP (call n_slices_Grow_api_Diag_api_Diag [.nils, z3_1] h1) fun x24_2 h2 =>
 oB (oLen z0_1) fun x26_3 =>
 jnF 1 (fun z6_4 h4 =>
 some (z6_4, h4)) fun j4 =>
 lpF 4 n (fun f5 y27_5 y26_5 y25_5 y6_5 h5 =>
 oB (bLt y27_5 y26_5) fun x28_6 =>
 ci x28_6 (
 jnF 4 (fun z27_7 z26_7 z25_7 z6_7 h7 =>
 oB (bAdd z27_7 (I 1)) fun x34_8 =>
 f5 x34_8 z26_7 z25_7 z6_7 h7) fun j7 =>
 oB (oIx 1 y25_5 y27_5) fun x29_9 =>
 oB (oLd h5 x29_9) fun x30_10 =>
 oP (evW (.append 67 3 24 [(I 0), (I 0), (I 0)] (.c y6_5) (.c x30_10)) .e h5) fun x33_11 h11 =>
 j7 y27_5 y26_5 y25_5 x33_11 h11) (
 j4 y6_5 h5)) (I 0) x26_3 z0_1 x24_2 h2) fun j1 =>
 lpF 5 n (fun f12 y11_12 y10_12 y9_12 y3_12 y0_12 h12 =>
 oB (bLt y11_12 y10_12) fun x12_13 =>
 ci x12_13 (
 jnF 5 (fun z11_14 z10_14 z9_14 z3_14 z0_14 h14 =>
 oB (bAdd z11_14 (I 1)) fun x22_15 =>
 f12 x22_15 z10_14 z9_14 z3_14 z0_14 h14) fun j14 =>
 oB (oIx 1 y9_12 y11_12) fun x13_16 =>
 oB (oLd h12 x13_16) fun x14_17 =>
 oB (oLen x14_17) fun x17_18 =>
 oB (bAdd y3_12 x17_18) fun x18_19 =>
 oB (bLt x18_19 (I 0)) fun x20_20 =>
 jnF 5 (fun z11_21 z10_21 z9_21 z3_21 z0_21 h21 =>
 j14 z11_21 z10_21 z9_21 z3_21 z0_21 h21) fun j21 =>
 ci x20_20 (
 oB (some (.iface 9 (.str [108, 101, 110, 32, 111, 117, 116, 32, 111, 102, 32, 114, 97, 110, 103, 101]))) fun x21_22 =>
 oB (evQ (.bad) .e h12) fun _ =>
 j21 y11_12 y10_12 y9_12 x18_19 y0_12 h12) (
 j21 y11_12 y10_12 y9_12 x18_19 y0_12 h12)) (
 j1 y3_12 y0_12 h12)) (I 0) x10_0 x0 (I 0) x0 h
theorem o_slices_Concat_api_Diag_api_Diag : FnOK Tryz.prog n_slices_Concat_api_Diag_api_Diag (a1 f_slices_Concat_api_Diag_api_Diag) := ok1 mixed Tryz.func18 (by kernel_rfl)
/- corrector/edit.Choose -/
noncomputable def f_edit_Choose (n : Nat) (call : Caller)  (x0 x1 : AV) (h : AH) : Ans :=
 oB (oLen x1) fun x9_0 =>
 jnF 1 (fun z5_1 h1 =>
 oP (call n_slices_SortStableFunc_api_Edit_api_Edit [z5_1, (.fn 57 [] [])] h1) fun x34_2 h2 =>
 oP (call n_slices_Clone_api_Edit_api_Edit [z5_1] h2) fun x36_3 h3 =>
 some (x36_3, h3)) fun j1 =>
 lpF 5 n (fun f4 y10_4 y9_4 y8_4 y5_4 y0_4 h4 =>
 oB (bLt y10_4 y9_4) fun x11_5 =>
 ci x11_5 (
 jnF 5 (fun z10_6 z9_6 z8_6 z5_6 z0_6 h6 =>
 oB (bAdd z10_6 (I 1)) fun x32_7 =>
 f4 x32_7 z9_6 z8_6 z5_6 z0_6 h6) fun j6 =>
 oB (oIx 3 y8_4 y10_4) fun x12_8 =>
 oB (oLdN 3 h4 x12_8) fun x13_9 =>
 oP (oNew h4 75 [(I 0), (I 0), (.str [])]) fun x7_10 h10 =>
 oP (oSt 3 h10 x7_10 x13_9) fun _ h11 =>
 oB (oLen y5_4) fun x15_12 =>
 oB (bEq .no x15_12 (I 200)) fun x16_13 =>
 oB (gq x16_13 false (some y0_4)) fun x18_14 =>
 oB (gq x16_13 false (oLdN 3 h11 x7_10)) fun x19_15 =>
 oP (gw x16_13 false (call n_edit_one [x18_14, x19_15] h11) h11) fun x20_16 h16 =>
 oB (gq x16_13 false (bNe .no x20_16 (I 0))) fun x21_17 =>
 oB (oPick x16_13 (.bool true) x21_17) fun x22_18 =>
 oB (gq x22_18 false (some y5_4)) fun x24_19 =>
 oB (gq x22_18 false (some (.fn n_edit_Choose_1 [] [x7_10]))) fun x25_20 =>
 oP (gw x22_18 false (call n_slices_ContainsFunc_api_Edit_api_Edit [x24_19, x25_20] h16) h16) fun x26_21 h21 =>
 oB (oPick x22_18 (.bool true) x26_21) fun x27_22 =>
 ci x27_22 (
 j6 y10_4 y9_4 y8_4 y5_4 y0_4 h21) (
 oB (oLdN 3 h21 x7_10) fun x29_23 =>
 oP (oBuildSl h21 75 3 1 [(I 0), (I 0), (.str [])] [(0, 3, x29_23)]) fun x30_24 h24 =>
 oP (evW (.append 75 3 32 [(I 0), (I 0), (.str [])] (.c y5_4) (.c x30_24)) .e h24) fun x31_25 h25 =>
 j6 y10_4 y9_4 y8_4 x31_25 y0_4 h25)) (
 j1 y5_4 h4)) (I 0) x9_0 x1 .nils x0 h
theorem o_edit_Choose : FnOK Tryz.prog n_edit_Choose (a2 f_edit_Choose) := ok2 mixed Tryz.func19 (by kernel_rfl)
/- corrector/suggest.Edits -/
noncomputable def f_suggest_Edits (n : Nat) (call : Caller)  (x0 x1 x2 x3 : AV) (h : AH) : Ans :=
 oB (oBuild [.nils, .nils] [(0, 1, x0), (1, 1, x1)]) fun x21_0 =>
 oP (oNew h 118 (AV.cells x21_0)) fun x22_1 h1 =>
 oB (oLen x2) fun x24_2 =>
 jnF 3 (fun z10_3 z9_3 z3_3 h3 =>
 oB (oLen z3_3) fun x43_4 =>
 jnF 1 (fun z10_5 h5 =>
 oP (call n_slices_Clone_api_Edit_api_Edit [z10_5] h5) fun x62_6 h6 =>
 some (x62_6, h6)) fun j5 =>
 lpF 5 n (fun f7 y44_7 y43_7 y42_7 y10_7 y9_7 h7 =>
 oB (bLt y44_7 y43_7) fun x45_8 =>
 ci x45_8 (
 jnF 5 (fun z44_9 z43_9 z42_9 z10_9 z9_9 h9 =>
 oB (bAdd z44_9 (I 1)) fun x60_10 =>
 f7 x60_10 z43_9 z42_9 z10_9 z9_9 h9) fun j9 =>
 oB (oIx 3 y42_7 y44_7) fun x46_11 =>
 oB (oLdN 3 h7 x46_11) fun x47_12 =>
 oP (oNew h7 67 [(I 0), (I 0), (I 0)]) fun x16_13 h13 =>
 oP (oSt 3 h13 x16_13 x47_12) fun _ h14 =>
 oB (oLdN 3 h14 x16_13) fun x50_15 =>
 oP (call n_suggest_mender_found [y9_7, x50_15] h14) fun x51_16 h16 =>
 oB (oTa 75 (.agg [(I 0), (I 0), (.str [])]) true x51_16) fun x52_17 =>
 oB (oEx 0 x52_17) fun x53_18 =>
 oB (oEx 1 x52_17) fun x54_19 =>
 oP (oNew h16 75 [(I 0), (I 0), (.str [])]) fun x17_20 h20 =>
 oP (oSt 3 h20 x17_20 x53_18) fun _ h21 =>
 jnF 5 (fun z44_22 z43_22 z42_22 z10_22 z9_22 h22 =>
 j9 z44_22 z43_22 z42_22 z10_22 z9_22 h22) fun j22 =>
 ci x54_19 (
 oB (oLdN 3 h21 x17_20) fun x57_23 =>
 oP (oBuildSl h21 75 3 1 [(I 0), (I 0), (.str [])] [(0, 3, x57_23)]) fun x58_24 h24 =>
 oP (evW (.append 75 3 32 [(I 0), (I 0), (.str [])] (.c y10_7) (.c x58_24)) .e h24) fun x59_25 h25 =>
 j22 y44_7 y43_7 y42_7 x59_25 y9_7 h25) (
 j22 y44_7 y43_7 y42_7 y10_7 y9_7 h21)) (
 j5 y10_7 h7)) (I 0) x43_4 z3_3 z10_3 z9_3 h3) fun j3 =>
 lpF 6 n (fun f26 y25_26 y24_26 y23_26 y10_26 y9_26 y3_26 h26 =>
 oB (bLt y25_26 y24_26) fun x26_27 =>
 ci x26_27 (
 jnF 6 (fun z25_28 z24_28 z23_28 z10_28 z9_28 z3_28 h28 =>
 oB (bAdd z25_28 (I 1)) fun x41_29 =>
 f26 x41_29 z24_28 z23_28 z10_28 z9_28 z3_28 h28) fun j28 =>
 oB (oIx 3 y23_26 y25_26) fun x27_30 =>
 oB (oLdN 3 h26 x27_30) fun x28_31 =>
 oP (oNew h26 67 [(I 0), (I 0), (I 0)]) fun x12_32 h32 =>
 oP (oSt 3 h32 x12_32 x28_31) fun _ h33 =>
 oB (oLdN 3 h33 x12_32) fun x31_34 =>
 oP (call n_suggest_mender_wrong [y9_26, x31_34] h33) fun x32_35 h35 =>
 oB (oTa 75 (.agg [(I 0), (I 0), (.str [])]) true x32_35) fun x33_36 =>
 oB (oEx 0 x33_36) fun x34_37 =>
 oB (oEx 1 x33_36) fun x35_38 =>
 oP (oNew h35 75 [(I 0), (I 0), (.str [])]) fun x13_39 h39 =>
 oP (oSt 3 h39 x13_39 x34_37) fun _ h40 =>
 jnF 6 (fun z25_41 z24_41 z23_41 z10_41 z9_41 z3_41 h41 =>
 j28 z25_41 z24_41 z23_41 z10_41 z9_41 z3_41 h41) fun j41 =>
 ci x35_38 (
 oB (oLdN 3 h40 x13_39) fun x38_42 =>
 oP (oBuildSl h40 75 3 1 [(I 0), (I 0), (.str [])] [(0, 3, x38_42)]) fun x39_43 h43 =>
 oP (evW (.append 75 3 32 [(I 0), (I 0), (.str [])] (.c y10_26) (.c x39_43)) .e h43) fun x40_44 h44 =>
 j41 y25_26 y24_26 y23_26 x40_44 y9_26 y3_26 h44) (
 j41 y25_26 y24_26 y23_26 y10_26 y9_26 y3_26 h40)) (
 j3 y10_26 y9_26 y3_26 h26)) (I 0) x24_2 x2 .nils x22_1 x3 h1
theorem o_suggest_Edits : FnOK Tryz.prog n_suggest_Edits (a4 f_suggest_Edits) := ok4 mixed Tryz.func20 (by kernel_rfl)
/- corrector/edit.Apply -/
noncomputable def f_edit_Apply (n : Nat) (call : Caller)  (x0 x1 : AV) (h : AH) : Ans :=
 oB (oLen x0) fun x12_0 =>
 oP (call n_edit_Check [x12_0, x1] h) fun x14_1 h1 =>
 oB (bNe .no x14_1 (I 0)) fun x16_2 =>
 ci x16_2 (
 some (.tup [.nils, x14_1], h1)) (
 oB (oLen x1) fun x19_3 =>
 jnF 3 (fun z8_4 z7_4 z0_4 h4 =>
 oB (evQ (.sl 1 (.c z0_4) (some (.c z8_4)) none none) .e h4) fun x43_5 =>
 oP (evW (.append 5 1 1 [(U 0)] (.c z7_4) (.c x43_5)) .e h4) fun x44_6 h6 =>
 oB (oLen x44_6) fun x46_7 =>
 oB (bGt x46_7 (I 16384)) fun x47_8 =>
 ci x47_8 (
 some (.tup [.nils, (I 4)], h6)) (
 oP (evW (.append 5 1 1 [(U 0)] (.c .nils) (.c x44_6)) .e h6) fun x49_9 h9 =>
 some (.tup [x49_9, (I 0)], h9))) fun j4 =>
 lpF 6 n (fun f10 y20_10 y19_10 y18_10 y8_10 y7_10 y0_10 h10 =>
 oB (bLt y20_10 y19_10) fun x21_11 =>
 ci x21_11 (
 jnF 6 (fun z20_12 z19_12 z18_12 z8_12 z7_12 z0_12 h12 =>
 oB (bAdd z20_12 (I 1)) fun x39_13 =>
 f10 x39_13 z19_12 z18_12 z8_12 z7_12 z0_12 h12) fun j12 =>
 oB (oIx 3 y18_10 y20_10) fun x22_14 =>
 oB (oLdN 3 h10 x22_14) fun x23_15 =>
 oP (oNew h10 75 [(I 0), (I 0), (.str [])]) fun x10_16 h16 =>
 oP (oSt 3 h16 x10_16 x23_15) fun _ h17 =>
 oB (oFA 0 x10_16) fun x27_18 =>
 oB (oLd h17 x27_18) fun x28_19 =>
 oB (oFA 0 x10_16) fun x29_20 =>
 oB (oLd h17 x29_20) fun x30_21 =>
 oB (evQ (.sl 1 (.c y0_10) (some (.c y8_10)) (some (.c x28_19)) (some (.c x30_21))) .e h17) fun x31_22 =>
 oP (evW (.append 5 1 1 [(U 0)] (.c y7_10) (.c x31_22)) .e h17) fun x32_23 h23 =>
 oB (oFA 2 x10_16) fun x34_24 =>
 oB (oLd h23 x34_24) fun x35_25 =>
 oP (evW (.append 5 1 1 [(U 0)] (.c x32_23) (.c x35_25)) .e h23) fun x36_26 h26 =>
 oB (oFA 1 x10_16) fun x37_27 =>
 oB (oLd h26 x37_27) fun x38_28 =>
 j12 y20_10 y19_10 y18_10 x38_28 x36_26 y0_10 h26) (
 j4 y8_10 y7_10 y0_10 h10)) (I 0) x19_3 x1 (I 0) .nils x0 h1)
theorem o_edit_Apply : FnOK Tryz.prog n_edit_Apply (a2 f_edit_Apply) := ok2 mixed Tryz.func21 (by kernel_rfl)
/- (*corrector/fix.fixer).better -/
noncomputable def f_fix_fixer_better (n : Nat) (call : Caller)  (x0 x1 : AV) (h : AH) : Ans :=
 oP (oNew h 44 (AV.cells x1)) fun x3_0 h0 =>
 oB (oNil x0) fun x7_1 =>
 oB (oFA 14 x7_1) fun x8_2 =>
 oB (oLdN 7 h0 x8_2) fun x9_3 =>
 oP (oNew h0 44 [.nils, .nils, (I 0), (I 0), .nils, .nils, .nils]) fun x5_4 h4 =>
 oP (oSt 7 h4 x5_4 x9_3) fun _ h5 =>
 oB (oFA 2 x3_0) fun x10_6 =>
 oB (oLd h5 x10_6) fun x11_7 =>
 oB (oFA 2 x5_4) fun x12_8 =>
 oB (oLd h5 x12_8) fun x13_9 =>
 oB (bGt x11_7 x13_9) fun x14_10 =>
 oB (gq x14_10 false (oFA 2 x3_0)) fun x16_11 =>
 oB (gq x14_10 false (oLd h5 x16_11)) fun x17_12 =>
 oB (gq x14_10 false (oFA 3 x3_0)) fun x18_13 =>
 oB (gq x14_10 false (oLd h5 x18_13)) fun x19_14 =>
 oB (gq x14_10 false (bAdd x17_12 x19_14)) fun x20_15 =>
 oB (gq x14_10 false (oFA 2 x5_4)) fun x21_16 =>
 oB (gq x14_10 false (oLd h5 x21_16)) fun x22_17 =>
 oB (gq x14_10 false (oFA 3 x5_4)) fun x23_18 =>
 oB (gq x14_10 false (oLd h5 x23_18)) fun x24_19 =>
 oB (gq x14_10 false (bAdd x22_17 x24_19)) fun x25_20 =>
 oB (gq x14_10 false (bGe x20_15 x25_20)) fun x26_21 =>
 oB (oPick x14_10 (.bool true) x26_21) fun x27_22 =>
 ci x27_22 (
 some ((.bool false), h5)) (
 oB (oFA 2 x5_4) fun x28_23 =>
 oB (oLd h5 x28_23) fun x29_24 =>
 oB (bGt x29_24 (I 0)) fun x30_25 =>
 oB (gq x30_25 false (oFA 4 x5_4)) fun x32_26 =>
 oB (gq x30_25 false (oLdN 3 h5 x32_26)) fun x33_27 =>
 oB (gq x30_25 false (oFA 4 x3_0)) fun x34_28 =>
 oB (gq x30_25 false (oLdN 3 h5 x34_28)) fun x35_29 =>
 oP (gw x30_25 false (call n_equal_Same [x33_27, x35_29] h5) h5) fun x36_30 h30 =>
 oB (oPick x30_25 (.bool true) x36_30) fun x37_31 =>
 some (x37_31, h30))
theorem o_fix_fixer_better : FnOK Tryz.prog n_fix_fixer_better (a2 f_fix_fixer_better) := ok2 mixed Tryz.func22 (by kernel_rfl)
/- (*corrector/fix.fixer).round$1 -/
noncomputable def f_fix_fixer_round_1 (n : Nat) (call : Caller)  (x0 x1 : AV) (h : AH) : Ans :=
 oB' (nx 28 h) fun h0 =>
 oB (oLd h0 x0) fun x2_1 =>
 oB (oLd h0 x0) fun x3_2 =>
 oB (oNil x3_2) fun x4_3 =>
 oB (oFA 21 x4_3) fun x5_4 =>
 oB (oLd h0 x5_4) fun x6_5 =>
 oB (oFA 1 x1) fun x7_6 =>
 oB (oLd h0 x7_6) fun x8_7 =>
 oP (call n_slices_Clone_api_Edit_api_Edit [x8_7] h0) fun x9_8 h8 =>
 oB (oFA 2 x1) fun x10_9 =>
 oB (oLd h8 x10_9) fun x11_10 =>
 oB (oFA 3 x1) fun x12_11 =>
 oB (oLd h8 x12_11) fun x13_12 =>
 oB (oLd h8 x0) fun x14_13 =>
 oB (oNil x14_13) fun x15_14 =>
 oB (oFA 14 x15_14) fun x16_15 =>
 oB (oFA 2 x16_15) fun x17_16 =>
 oB (oLd h8 x17_16) fun x18_17 =>
 oB (oLd h8 x0) fun x19_18 =>
 oB (oNil x19_18) fun x20_19 =>
 oB (oFA 14 x20_19) fun x21_20 =>
 oB (oFA 3 x21_20) fun x22_21 =>
 oB (oLd h8 x22_21) fun x23_22 =>
 oB (oBuild [.nils, (I 0), (I 0), (I 0), (I 0)] [(0, 1, x9_8), (1, 1, x11_10), (2, 1, x13_12), (3, 1, x18_17), (4, 1, x23_22)]) fun x24_23 =>
 fl1 true (evF (.buildSlice 52 5 1 [.nils, (I 0), (I 0), (I 0), (I 0)] [(0, 5, (.c x24_23))]) .e) (Nat.add h.next 23) fun x25_24 o24 =>
 oB' (lay1 (Nat.add h.next 23) o24 h8) fun v25 =>
 oP (evW (.append 52 5 56 [.nils, (I 0), (I 0), (I 0), (I 0)] (.c x6_5) (.c x25_24)) .e v25) fun x26_26 h26 =>
 oB (oNil x2_1) fun x27_27 =>
 oB (oFA 21 x27_27) fun x28_28 =>
 oP (oSt 1 h26 x28_28 x26_26) fun x0_29 h29 =>
 ask1 true (oLd h0 x0) x2_1 (
 ask1 true (oLd h8 x0) x2_1 (
 ask1 true (oLd h26 x0) x2_1 (
 ask1 true (oLd h0 x0) x3_2 (
 ask1 true (oLd h8 x0) x3_2 (
 ask1 true (oLd h0 x5_4) x6_5 (
 ask1 true (oLd h8 x5_4) x6_5 (
 ask1 true (oLd h0 x7_6) x8_7 (
 ask1 true (oLd h0 x10_9) x11_10 (
 ask1 true (oLd h8 x10_9) x11_10 (
 ask1 true (oLd h0 x12_11) x13_12 (
 ask1 true (oLd h8 x12_11) x13_12 (
 ask1 true (oLd h0 x0) x14_13 (
 ask1 true (oLd h8 x0) x14_13 (
 ask1 true (oLd h0 x17_16) x18_17 (
 ask1 true (oLd h8 x17_16) x18_17 (
 ask1 true (oLd h0 x0) x19_18 (
 ask1 true (oLd h8 x0) x19_18 (
 ask1 true (oLd h0 x22_21) x23_22 (
 ask1 true (oLd h8 x22_21) x23_22 (
 some (.tup [], h29)))))))))))))))))))))
theorem o_fix_fixer_round_1 : FnOK Tryz.prog n_fix_fixer_round_1 (a2 f_fix_fixer_round_1) := ok2 mixed Tryz.func23 (by kernel_rfl)
/- slices.Clone[[]corrector/api.Edit,corrector/api.Edit] -/
noncomputable def f_slices_Clone_api_Edit_api_Edit (n : Nat) (call : Caller)  (x0 : AV) (h : AH) : Ans :=
 oB (bEq .sl x0 .nils) fun x4_0 =>
 ci x4_0 (
 some (.nils, h)) (
 oP (oBuildSl h 75 3 0 [] []) fun x5_1 h1 =>
 oP (evW (.append 75 3 32 [(I 0), (I 0), (.str [])] (.c x5_1) (.c x0)) .e h1) fun x7_2 h2 =>
 some (x7_2, h2))
theorem o_slices_Clone_api_Edit_api_Edit : FnOK Tryz.prog n_slices_Clone_api_Edit_api_Edit (a1 f_slices_Clone_api_Edit_api_Edit) := ok1 mixed Tryz.func24 (by kernel_rfl)
/- corrector/config.Check -/
noncomputable def f_config_Check (n : Nat) (call : Caller)  (x0 : AV) (h : AH) : Ans :=
 oP (oNew h 32 (AV.cells x0)) fun x1_0 h0 =>
 oB (oFA 10 x1_0) fun x3_1 =>
 oB (oLd h0 x3_1) fun x4_2 =>
 oP (call n_config_within [x4_2, (I 1), (I 500)] h0) fun x5_3 h3 =>
 oB (evQ (.un .not (.c x5_3)) .e h3) fun x6_4 =>
 oB (gq x6_4 false (oFA 11 x1_0)) fun x8_5 =>
 oB (gq x6_4 false (oLd h3 x8_5)) fun x9_6 =>
 oP (gw x6_4 false (call n_config_within [x9_6, (I 1), (I 10)] h3) h3) fun x10_7 h7 =>
 oB (gq x6_4 false (evQ (.un .not (.c x10_7)) .e h7)) fun x11_8 =>
 oB (oPick x6_4 (.bool true) x11_8) fun x12_9 =>
 oB (gq x12_9 false (oFA 12 x1_0)) fun x14_10 =>
 oB (gq x12_9 false (oLd h7 x14_10)) fun x15_11 =>
 oP (gw x12_9 false (call n_config_within [x15_11, (I 0), (I 20)] h7) h7) fun x16_12 h12 =>
 oB (gq x12_9 false (evQ (.un .not (.c x16_12)) .e h12)) fun x17_13 =>
 oB (oPick x12_9 (.bool true) x17_13) fun x18_14 =>
 oB (gq x18_14 false (oFA 13 x1_0)) fun x20_15 =>
 oB (gq x18_14 false (oLd h12 x20_15)) fun x21_16 =>
 oP (gw x18_14 false (call n_config_within [x21_16, (I 1), (I 50)] h12) h12) fun x22_17 h17 =>
 oB (gq x18_14 false (evQ (.un .not (.c x22_17)) .e h17)) fun x23_18 =>
 oB (oPick x18_14 (.bool true) x23_18) fun x24_19 =>
 ci x24_19 (
 some ((I 1), h17)) (
 some ((I 0), h17))
theorem o_config_Check : FnOK Tryz.prog n_config_Check (a1 f_config_Check) := ok1 mixed Tryz.func25 (by kernel_rfl)
/- corrector/rows.Rows -/
noncomputable def f_rows_Rows (n : Nat) (call : Caller)  (x0 x1 : AV) (h : AH) : Ans :=
 oP (oNew h 56 (AV.cells x1)) fun x3_0 h0 =>
 scF n fun m1 => jnF 6 (lpF 6 m1 fun f1 y10_1 y9_1 y8_1 y6_1 y5_1 y3_1 h1 =>
 oB (oLd h1 y3_1) fun x13_2 =>
 oB (oLen x13_2) fun x14_3 =>
 oB (bLt y10_1 x14_3) fun x15_4 =>
 ci x15_4 (
 oB' (nx 7 h1) fun h5 =>
 oB (oLd h5 y3_1) fun x16_6 =>
 oB (oIx 3 x16_6 y10_1) fun x18_7 =>
 oB (oLdN 3 h5 x18_7) fun x19_8 =>
 oB (oLd h5 y8_1) fun x20_9 =>
 oP (call n_rows_brackets [x19_8, x20_9] h5) fun x21_10 h10 =>
 oP (oSt 1 h10 y8_1 x21_10) fun _ h11 =>
 oB (oLd h11 y3_1) fun x22_12 =>
 oB (oIx 3 x22_12 y10_1) fun x24_13 =>
 oB (oFA 0 x24_13) fun x25_14 =>
 oB (oLd h11 x25_14) fun x26_15 =>
 oB (bEq .no x26_15 (I 1)) fun x27_16 =>
 oB (gq x27_16 false (oLd h11 y3_1)) fun x29_17 =>
 oB (gq x27_16 false (some y10_1)) fun x30_18 =>
 oB (gq x27_16 false (oIx 3 x29_17 x30_18)) fun x31_19 =>
 oB (gq x27_16 false (oFA 0 x31_19)) fun x32_20 =>
 oB (gq x27_16 false (oLd h11 x32_20)) fun x33_21 =>
 oB (gq x27_16 false (bEq .no x33_21 (I 19))) fun x34_22 =>
 oB (oPick x27_16 (.bool true) x34_22) fun x35_23 =>
 jnF 6 (fun z10_24 z9_24 z8_24 z6_24 z5_24 z3_24 h24 =>
 oB (bAdd z10_24 (I 1)) fun x41_25 =>
 f1 x41_25 z9_24 z8_24 z6_24 z5_24 z3_24 h24) fun j24 =>
 ci x35_23 (
 oB (bAdd y10_1 (I 1)) fun x38_26 =>
 oP (wOf (.callV (.c y9_1) [(.c x38_26)]) call .e h11) fun x39_27 h27 =>
 j24 y10_1 y9_1 y8_1 y6_1 y5_1 y3_1 h27) (
 j24 y10_1 y9_1 y8_1 y6_1 y5_1 y3_1 h11)) (
 oB (oLd h1 y6_1) fun x42_28 =>
 oB (oLd h1 y3_1) fun x43_29 =>
 oB (oLen x43_29) fun x44_30 =>
 oB (bLt x42_28 x44_30) fun x45_31 =>
 jnF 1 (fun z5_32 h32 =>
 oB (oLd h32 z5_32) fun x50_33 =>
 oP (call n_slices_Clone_api_Row_api_Row [x50_33] h32) fun x51_34 h34 =>
 some (x51_34, h34)) fun j32 =>
 ci x45_31 (
 oB (oLd h1 y3_1) fun x47_35 =>
 oB (oLen x47_35) fun x48_36 =>
 oP (wOf (.callV (.c y9_1) [(.c x48_36)]) call .e h1) fun x49_37 h37 =>
 j32 y5_1 h37) (
 j32 y5_1 h1))) fun f1 =>
 oP (oNew h0 78 [.nils]) fun x5_38 h38 =>
 oP (oNew h38 3 [(I 0)]) fun x6_39 h39 =>
 oP (oNew h39 3 [(I 0)]) fun x7_40 h40 =>
 oP (oNew h40 3 [(I 0)]) fun x8_41 h41 =>
 oP (oSt 1 h41 x6_39 (I 0)) fun _ h42 =>
 oP (oSt 1 h42 x7_40 (I 0)) fun _ h43 =>
 oP (oSt 1 h43 x8_41 (I 0)) fun _ h44 =>
 oB (some (.fn n_rows_Rows_1 [] [x6_39, x3_0, x7_40, x5_38, x8_41])) fun x11_45 =>
 oB (oLd h44 x3_0) fun x13_46 =>
 oB (oLen x13_46) fun x14_47 =>
 oB (bLt (I 0) x14_47) fun x15_48 =>
 ci x15_48 (
 oB' (nx 7 h44) fun h49 =>
 oB (oLd h49 x3_0) fun x16_50 =>
 oB (oIx 3 x16_50 (I 0)) fun x18_51 =>
 oB (oLdN 3 h49 x18_51) fun x19_52 =>
 oB (oLd h49 x8_41) fun x20_53 =>
 oP (call n_rows_brackets [x19_52, x20_53] h49) fun x21_54 h54 =>
 oP (oSt 1 h54 x8_41 x21_54) fun _ h55 =>
 oB (oLd h55 x3_0) fun x22_56 =>
 oB (oIx 3 x22_56 (I 0)) fun x24_57 =>
 oB (oFA 0 x24_57) fun x25_58 =>
 oB (oLd h55 x25_58) fun x26_59 =>
 oB (bEq .no x26_59 (I 1)) fun x27_60 =>
 oB (gq x27_60 false (oLd h55 x3_0)) fun x29_61 =>
 oB (gq x27_60 false (some (I 0))) fun x30_62 =>
 oB (gq x27_60 false (oIx 3 x29_61 x30_62)) fun x31_63 =>
 oB (gq x27_60 false (oFA 0 x31_63)) fun x32_64 =>
 oB (gq x27_60 false (oLd h55 x32_64)) fun x33_65 =>
 oB (gq x27_60 false (bEq .no x33_65 (I 19))) fun x34_66 =>
 oB (oPick x27_60 (.bool true) x34_66) fun x35_67 =>
 jnF 6 (fun z10_68 z9_68 z8_68 z6_68 z5_68 z3_68 h68 =>
 oB (bAdd z10_68 (I 1)) fun x41_69 =>
 f1 x41_69 z9_68 z8_68 z6_68 z5_68 z3_68 h68) fun j68 =>
 ci x35_67 (
 oB (bAdd (I 0) (I 1)) fun x38_70 =>
 oP (wOf (.callV (.c x11_45) [(.c x38_70)]) call .e h55) fun x39_71 h71 =>
 j68 (I 0) x11_45 x8_41 x6_39 x5_38 x3_0 h71) (
 j68 (I 0) x11_45 x8_41 x6_39 x5_38 x3_0 h55)) (
 oB (oLd h44 x6_39) fun x42_72 =>
 oB (oLd h44 x3_0) fun x43_73 =>
 oB (oLen x43_73) fun x44_74 =>
 oB (bLt x42_72 x44_74) fun x45_75 =>
 jnF 1 (fun z5_76 h76 =>
 oB (oLd h76 z5_76) fun x50_77 =>
 oP (call n_slices_Clone_api_Row_api_Row [x50_77] h76) fun x51_78 h78 =>
 some (x51_78, h78)) fun j76 =>
 ci x45_75 (
 oB (oLd h44 x3_0) fun x47_79 =>
 oB (oLen x47_79) fun x48_80 =>
 oP (wOf (.callV (.c x11_45) [(.c x48_80)]) call .e h44) fun x49_81 h81 =>
 j76 x5_38 h81) (
 j76 x5_38 h44))
theorem o_rows_Rows : FnOK Tryz.prog n_rows_Rows (a2 f_rows_Rows) := ok2 mixed Tryz.func26 (by kernel_rfl)
/- (*corrector/lint.finder).trail -/
noncomputable def f_lint_finder_trail (n : Nat) (call : Caller)  (x0 : AV) (h : AH) : Ans :=
 oB (oNil x0) fun x6_0 =>
 oB (oFA 15 x6_0) fun x7_1 =>
 oB (oLd h x7_1) fun x8_2 =>
 oB (oLen x8_2) fun x9_3 =>
 jnF 0 (fun h4 =>
 some (.tup [], h4)) fun j4 =>
 lpF 4 n (fun f5 y10_5 y9_5 y8_5 y0_5 h5 =>
 oB (bLt y10_5 y9_5) fun x11_6 =>
 ci x11_6 (
 jnF 4 (fun z10_7 z9_7 z8_7 z0_7 h7 =>
 oB (bAdd z10_7 (I 1)) fun x41_8 =>
 f5 x41_8 z9_7 z8_7 z0_7 h7) fun j7 =>
 oB (oIx 3 y8_5 y10_5) fun x13_9 =>
 oB (oLdN 3 h5 x13_9) fun x14_10 =>
 oP (oNew h5 131 [(I 0), (I 0), (I 0)]) fun x3_11 h11 =>
 oP (oSt 3 h11 x3_11 x14_10) fun _ h12 =>
 oB (bAdd y10_5 (I 1)) fun x17_13 =>
 oP (call n_lint_finder_kind [y0_5, x17_13] h12) fun x18_14 h14 =>
 oB (oFA 0 x3_11) fun x19_15 =>
 oB (oLd h14 x19_15) fun x20_16 =>
 oB (bEq .no x20_16 (I 2)) fun x21_17 =>
 oB (gq x21_17 false (oFA 0 x3_11)) fun x23_18 =>
 oB (gq x21_17 false (oLd h14 x23_18)) fun x24_19 =>
 oB (gq x21_17 false (bEq .no x24_19 (I 3))) fun x25_20 =>
 oB (oPick x21_17 (.bool true) x25_20) fun x26_21 =>
 oB (gq x26_21 true (some x18_14)) fun x28_22 =>
 oB (gq x26_21 true (bEq .no x28_22 (I 0))) fun x29_23 =>
 oB (gq x26_21 true (some x29_23)) fun x30_24 =>
 oB (gq x30_24 false (some x18_14)) fun x31_25 =>
 oB (gq x30_24 false (bEq .no x31_25 (I 1))) fun x32_26 =>
 oB (gq x26_21 true (oPick x30_24 (.bool true) x32_26)) fun x33_27 =>
 oB (oPick x26_21 x33_27 (.bool false)) fun x34_28 =>
 jnF 4 (fun z10_29 z9_29 z8_29 z0_29 h29 =>
 j7 z10_29 z9_29 z8_29 z0_29 h29) fun j29 =>
 ci x34_28 (
 oB (oFA 1 x3_11) fun x36_30 =>
 oB (oLd h14 x36_30) fun x37_31 =>
 oB (oFA 2 x3_11) fun x38_32 =>
 oB (oLd h14 x38_32) fun x39_33 =>
 oP (call n_lint_finder_find [y0_5, (I 1), x37_31, x39_33] h14) fun x40_34 h34 =>
 j29 y10_5 y9_5 y8_5 y0_5 h34) (
 j29 y10_5 y9_5 y8_5 y0_5 h14)) (
 j4 h5)) (I 0) x9_3 x8_2 x0 h
theorem o_lint_finder_trail : FnOK Tryz.prog n_lint_finder_trail (a1 f_lint_finder_trail) := ok1 mixed Tryz.func27 (by kernel_rfl)
/- (*corrector/lint.finder).long -/
noncomputable def f_lint_finder_long (n : Nat) (call : Caller)  (x0 : AV) (h : AH) : Ans :=
 oB (oNil x0) fun x11_0 =>
 oB (oFA 16 x11_0) fun x12_1 =>
 oB (oLd h x12_1) fun x13_2 =>
 oB (oLen x13_2) fun x14_3 =>
 jnF 0 (fun h4 =>
 some (.tup [], h4)) fun j4 =>
 lpF 4 n (fun f5 y15_5 y14_5 y13_5 y0_5 h5 =>
 oB (bLt y15_5 y14_5) fun x16_6 =>
 ci x16_6 (
 jnF 4 (fun z15_7 z14_7 z13_7 z0_7 h7 =>
 oB (bAdd z15_7 (I 1)) fun x88_8 =>
 f5 x88_8 z14_7 z13_7 z0_7 h7) fun j7 =>
 oB (oIx 4 y13_5 y15_5) fun x17_9 =>
 oB (oLdN 4 h5 x17_9) fun x18_10 =>
 oP (oNew h5 125 [(I 0), (I 0), (I 0), (I 0)]) fun x3_11 h11 =>
 oP (oSt 4 h11 x3_11 x18_10) fun _ h12 =>
 oB (oLdN 4 h12 x3_11) fun x21_13 =>
 oP (call n_lint_finder_bytes [y0_5, x21_13] h12) fun x22_14 h14 =>
 oB (oEx 0 x22_14) fun x23_15 =>
 oB (oEx 1 x22_14) fun x24_16 =>
 jnF 6 (fun z15_17 z14_17 z13_17 z5_17 z4_17 z0_17 h17 =>
 jnF 6 (fun z15_18 z14_18 z13_18 z6_18 z5_18 z0_18 h18 =>
 oB (bLt z6_18 z5_18) fun x83_19 =>
 jnF 4 (fun z15_20 z14_20 z13_20 z0_20 h20 =>
 j7 z15_20 z14_20 z13_20 z0_20 h20) fun j20 =>
 ci x83_19 (
 oP (call n_lint_finder_find [z0_18, (I 2), z6_18, z5_18] h18) fun x87_21 h21 =>
 j20 z15_18 z14_18 z13_18 z0_18 h21) (
 j20 z15_18 z14_18 z13_18 z0_18 h18)) fun j18 =>
 lpF 7 n (fun f22 y15_22 y14_22 y13_22 y7_22 y6_22 y5_22 y0_22 h22 =>
 oB (oNil y0_22) fun x55_23 =>
 oB (oFA 1 x55_23) fun x56_24 =>
 oB (oFA 10 x56_24) fun x57_25 =>
 oB (oLd h22 x57_25) fun x58_26 =>
 oB (bLt y7_22 x58_26) fun x59_27 =>
 oB (gq x59_27 true (some y6_22)) fun x61_28 =>
 oB (gq x59_27 true (some y5_22)) fun x62_29 =>
 oB (gq x59_27 true (bLt x61_28 x62_29)) fun x63_30 =>
 oB (oPick x59_27 x63_30 (.bool false)) fun x64_31 =>
 ci x64_31 (
 jnF 7 (fun z15_32 z14_32 z13_32 z7_32 z6_32 z5_32 z0_32 h32 =>
 oB (bAdd z7_32 (I 1)) fun x66_33 =>
 f22 z15_32 z14_32 z13_32 x66_33 z6_32 z5_32 z0_32 h32) fun j32 =>
 oB (oNil y0_22) fun x69_34 =>
 oB (oFA 0 x69_34) fun x70_35 =>
 oB (oLd h22 x70_35) fun x71_36 =>
 oB (evQ (.sl 1 (.c x71_36) (some (.c y6_22)) (some (.c y5_22)) none) .e h22) fun x74_37 =>
 oP (call n_runes_Next [x74_37] h22) fun x75_38 h38 =>
 oB (oEx 0 x75_38) fun x76_39 =>
 oB (oEx 1 x75_38) fun x77_40 =>
 oB (bAdd y6_22 x77_40) fun x80_41 =>
 j32 y15_22 y14_22 y13_22 y7_22 x80_41 y5_22 y0_22 h38) (
 j18 y15_22 y14_22 y13_22 y6_22 y5_22 y0_22 h22)) z15_17 z14_17 z13_17 (I 0) z4_17 z5_17 z0_17 h17) fun j17 =>
 lpF 6 n (fun f42 y15_42 y14_42 y13_42 y5_42 y4_42 y0_42 h42 =>
 oB (bGt y5_42 y4_42) fun x27_43 =>
 oB (gq x27_43 true (some y0_42)) fun x29_44 =>
 oB (gq x27_43 true (oNil x29_44)) fun x30_45 =>
 oB (gq x27_43 true (oFA 0 x30_45)) fun x31_46 =>
 oB (gq x27_43 true (oLd h42 x31_46)) fun x32_47 =>
 oB (gq x27_43 true (some y5_42)) fun x33_48 =>
 oB (gq x27_43 true (bSub x33_48 (I 1))) fun x34_49 =>
 oB (gq x27_43 true (oIx 1 x32_47 x34_49)) fun x35_50 =>
 oB (gq x27_43 true (oLd h42 x35_50)) fun x36_51 =>
 oB (gq x27_43 true (bEq .no x36_51 (U 10))) fun x37_52 =>
 oB (gq x27_43 true (some x37_52)) fun x38_53 =>
 oB (gq x38_53 false (some y0_42)) fun x39_54 =>
 oB (gq x38_53 false (oNil x39_54)) fun x40_55 =>
 oB (gq x38_53 false (oFA 0 x40_55)) fun x41_56 =>
 oB (gq x38_53 false (oLd h42 x41_56)) fun x42_57 =>
 oB (gq x38_53 false (some y5_42)) fun x43_58 =>
 oB (gq x38_53 false (bSub x43_58 (I 1))) fun x44_59 =>
 oB (gq x38_53 false (oIx 1 x42_57 x44_59)) fun x45_60 =>
 oB (gq x38_53 false (oLd h42 x45_60)) fun x46_61 =>
 oB (gq x38_53 false (bEq .no x46_61 (U 13))) fun x47_62 =>
 oB (gq x27_43 true (oPick x38_53 (.bool true) x47_62)) fun x48_63 =>
 oB (oPick x27_43 x48_63 (.bool false)) fun x49_64 =>
 ci x49_64 (
 jnF 6 (fun z15_65 z14_65 z13_65 z5_65 z4_65 z0_65 h65 =>
 f42 z15_65 z14_65 z13_65 z5_65 z4_65 z0_65 h65) fun j65 =>
 oB (bSub y5_42 (I 1)) fun x51_66 =>
 j65 y15_42 y14_42 y13_42 x51_66 y4_42 y0_42 h42) (
 j17 y15_42 y14_42 y13_42 y5_42 y4_42 y0_42 h42)) y15_5 y14_5 y13_5 x24_16 x23_15 y0_5 h14) (
 j4 h5)) (I 0) x14_3 x13_2 x0 h
theorem o_lint_finder_long : FnOK Tryz.prog n_lint_finder_long (a1 f_lint_finder_long) := ok1 mixed Tryz.func28 (by kernel_rfl)
/- (*corrector/lint.finder).step -/
noncomputable def f_lint_finder_step (n : Nat) (call : Caller)  (x0 : AV) (h : AH) : Ans :=
 oB (oNil x0) fun x6_0 =>
 oB (oFA 16 x6_0) fun x7_1 =>
 oB (oLd h x7_1) fun x8_2 =>
 oB (oLen x8_2) fun x9_3 =>
 jnF 0 (fun h4 =>
 some (.tup [], h4)) fun j4 =>
 lpF 4 n (fun f5 y10_5 y9_5 y8_5 y0_5 h5 =>
 oB (bLt y10_5 y9_5) fun x11_6 =>
 ci x11_6 (
 jnF 4 (fun z10_7 z9_7 z8_7 z0_7 h7 =>
 oB (bAdd z10_7 (I 1)) fun x58_8 =>
 f5 x58_8 z9_7 z8_7 z0_7 h7) fun j7 =>
 oB (oIx 4 y8_5 y10_5) fun x12_9 =>
 oB (oLdN 4 h5 x12_9) fun x13_10 =>
 oP (oNew h5 125 [(I 0), (I 0), (I 0), (I 0)]) fun x3_11 h11 =>
 oP (oSt 4 h11 x3_11 x13_10) fun _ h12 =>
 oB' (nx 10 h12) fun h13 =>
 oB (oNil y0_5) fun x15_14 =>
 oB (oFA 15 x15_14) fun x16_15 =>
 oB (oLd h13 x16_15) fun x17_16 =>
 oB (oFA 1 x3_11) fun x18_17 =>
 oB (oLd h13 x18_17) fun x19_18 =>
 oB (oIx 3 x17_16 x19_18) fun x20_19 =>
 oB (oLdN 3 h13 x20_19) fun x21_20 =>
 fl1 true (evF (.new 131 [(I 0), (I 0), (I 0)]) .e) (Nat.add h12.next 8) fun x4_21 o21 =>
 oB' (lay1 (Nat.add h12.next 8) o21 h13) fun v22 =>
 oP (oSt 3 v22 x4_21 x21_20) fun x0_23 h23 =>
 ask1 true (oLd h13 x16_15) x17_16 (
 ask1 true (oLd h13 x18_17) x19_18 (
 ask1 true (oLdN 3 h13 x20_19) x21_20 (
 oB' (nx 30 h23) fun h24 =>
 oB (oFA 0 x3_11) fun x22_25 =>
 oB (oLd h24 x22_25) fun x23_26 =>
 oB (bEq .no x23_26 (I 5)) fun x24_27 =>
 oB (gq x24_27 true (oFA 0 x4_21)) fun x26_28 =>
 oB (gq x24_27 true (oLd h24 x26_28)) fun x27_29 =>
 oB (gq x24_27 true (bEq .no x27_29 (I 2))) fun x28_30 =>
 oB (oPick x24_27 x28_30 (.bool false)) fun x29_31 =>
 oB (gq x29_31 true (some y0_5)) fun x31_32 =>
 oB (gq x29_31 true (oFA 1 x3_11)) fun x32_33 =>
 oB (gq x29_31 true (oLd h24 x32_33)) fun x33_34 =>
 oB (gq x29_31 true (bAdd x33_34 (I 1))) fun x34_35 =>
 oP (gw x29_31 true (call n_lint_finder_kind [x31_32, x34_35] h24) h24) fun x35_36 h36 =>
 oP (gw x29_31 true (call n_lint_counts [x35_36] h36) h36) fun x36_37 h37 =>
 oB (oPick x29_31 x36_37 (.bool false)) fun x37_38 =>
 oB (gq x37_38 true (oFA 2 x4_21)) fun x39_39 =>
 oB (gq x37_38 true (oLd h37 x39_39)) fun x40_40 =>
 oB (gq x37_38 true (oFA 1 x4_21)) fun x41_41 =>
 oB (gq x37_38 true (oLd h37 x41_41)) fun x42_42 =>
 oB (gq x37_38 true (bSub x40_40 x42_42)) fun x43_43 =>
 oB (gq x37_38 true (some y0_5)) fun x44_44 =>
 oB (gq x37_38 true (oNil x44_44)) fun x45_45 =>
 oB (gq x37_38 true (oFA 1 x45_45)) fun x46_46 =>
 oB (gq x37_38 true (oFA 11 x46_46)) fun x47_47 =>
 oB (gq x37_38 true (oLd h37 x47_47)) fun x48_48 =>
 oB (gq x37_38 true (binAV .rem .no x43_43 x48_48)) fun x49_49 =>
 oB (gq x37_38 true (bNe .no x49_49 (I 0))) fun x50_50 =>
 oB (oPick x37_38 x50_50 (.bool false)) fun x51_51 =>
 jnF 4 (fun z10_52 z9_52 z8_52 z0_52 h52 =>
 j7 z10_52 z9_52 z8_52 z0_52 h52) fun j52 =>
 ci x51_51 (
 oB (oFA 1 x4_21) fun x53_53 =>
 oB (oLd h37 x53_53) fun x54_54 =>
 oB (oFA 2 x4_21) fun x55_55 =>
 oB (oLd h37 x55_55) fun x56_56 =>
 oP (call n_lint_finder_find [y0_5, (I 3), x54_54, x56_56] h37) fun x57_57 h57 =>
 j52 y10_5 y9_5 y8_5 y0_5 h57) (
 j52 y10_5 y9_5 y8_5 y0_5 h37))))) (
 j4 h5)) (I 0) x9_3 x8_2 x0 h
theorem o_lint_finder_step : FnOK Tryz.prog n_lint_finder_step (a1 f_lint_finder_step) := ok1 mixed Tryz.func29 (by kernel_rfl)
end Go.Proofs.YtahpoedbdhhdfaaGreatDoor
