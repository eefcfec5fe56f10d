/- Functions, as they run. PRINTED by a program of this repo. -/
import Derived.Test.YtahpoedbdhhdfaaGreatDoorN
import Derived.Test.YtahpoedbdhhdfaaGreatDoorM
set_option linter.unusedVariables false
set_option maxRecDepth 100000
namespace Go.Proofs.YtahpoedbdhhdfaaGreatDoor
open Go.Ev
/- corrector/correctorlaw21.FixKinds -/
noncomputable def f_correctorlaw21_FixKinds (n : Nat) (call : Caller)  (x0 : AV) (h : AH) : Ans :=
 oP (call n_correctorlaw21_known [] h) fun x9_0 h0 =>
 oB (evQ (.un .not (.c x9_0)) .e h0) fun x10_1 =>
 ci x10_1 (
 some ((.bool false), h0)) (
 oP (oBuildSl h0 9 1 13 [(.str []), (.str []), (.str []), (.str []), (.str []), (.str []), (.str []), (.str []), (.str []), (.str []), (.str []), (.str []), (.str [])] [(0, 1, (.str [97, 58, 32, 49, 32, 10])), (1, 1, (.str [97, 58, 32, 91, 49, 44, 50, 93, 10])), (2, 1, (.str [35, 99, 10, 97, 58, 32, 49, 10])), (3, 1, (.str [97, 58, 32, 39, 120, 10])), (4, 1, (.str [97, 58, 32, 91, 49, 10])), (5, 1, (.str [9, 97, 58, 32, 49, 10])), (6, 1, (.str [97, 10, 10, 10, 10, 10, 98, 10])), (7, 1, (.str [97, 58, 32, 123, 98, 58, 32, 91, 49])), (8, 1, (.str [97, 58, 32, 255, 49, 10])), (9, 1, (.str [97, 58, 32, 32, 10, 98, 58, 32, 49])), (10, 1, (.str [45, 32, 91, 49, 44, 50, 44, 51, 93])), (11, 1, (.str [])), (12, 1, (.str [97, 58, 32, 49, 10]))]) fun x11_2 h2 =>
 oP (oBuildSl h2 9 1 13 [(.str []), (.str []), (.str []), (.str []), (.str []), (.str []), (.str []), (.str []), (.str []), (.str []), (.str []), (.str []), (.str [])] [(0, 1, (.str [97, 58, 32, 49, 10])), (1, 1, (.str [97, 58, 32, 91, 49, 44, 32, 50, 93, 10])), (2, 1, (.str [35, 32, 99, 10, 97, 58, 32, 49, 10])), (3, 1, (.str [97, 58, 32, 39, 120, 39, 10])), (4, 1, (.str [97, 58, 32, 91, 49, 93, 10])), (5, 1, (.str [9, 97, 58, 32, 49, 10])), (6, 1, (.str [97, 10, 10, 10, 98, 10])), (7, 1, (.str [])), (8, 1, (.str [97, 58, 32, 49, 10])), (9, 1, (.str [97, 58, 10, 98, 58, 32, 49, 10])), (10, 1, (.str [45, 32, 91, 49, 44, 32, 50, 44, 32, 51, 93, 10])), (11, 1, (.str [])), (12, 1, (.str [97, 58, 32, 49, 10]))]) fun x12_3 h3 =>
 oB (oLen x11_2) fun x15_4 =>
 oP (call n_correctorlaw21_within [x0, x15_4] h3) fun x16_5 h5 =>
 drF (drawRun call [⟨(some 18), .mov (.t 3), none⟩,
  ⟨(some 19), .mov (.t 5), none⟩,
  ⟨(some 20), .idxSl 1 (.t 18) (.t 19), none⟩,
  ⟨(some 21), .load none (.t 20), none⟩,
  ⟨(some 22), .s2b 5 (.t 21), none⟩,
  ⟨(some 23), .callF 8 [], none⟩,
  ⟨(some 24), .callF 7 [(.t 22), (.t 23), (.c (I 20))], none⟩,
  ⟨(some 17), .mov (.t 24), none⟩,
  ⟨(some 25), .extract 0 (.t 17), none⟩,
  ⟨(some 26), .extract 1 (.t 17), none⟩,
  ⟨(some 27), .extract 2 (.t 17), none⟩,
  ⟨(some 6), .mov (.t 25), none⟩,
  ⟨(some 7), .mov (.t 26), none⟩,
  ⟨(some 8), .mov (.t 27), none⟩] [0, 0, 3, 7, 15, 0, 63, 127, 255, 255, 255, 511, 3071, 8191] (sput 3 (sput 5 Tr.e x16_5) x11_2) h5) [18, 19, 20, 21, 22, 23, 24, 17, 25, 26, 27, 6, 7, 8] fun x18_6 x19_6 x20_6 x21_6 x22_6 x23_6 x24_6 x17_6 x25_6 x26_6 x27_6 x6_6 x7_6 x8_6 h6 =>
 oB' (nx 16 h6) fun h7 =>
 oB (bEq .no x8_6 (I 0)) fun x29_8 =>
 oB (gq x29_8 true (some x16_5)) fun x31_9 =>
 oB (gq x29_8 true (bEq .no x31_9 (I 7))) fun x32_10 =>
 oB (gq x29_8 true (some x32_10)) fun x33_11 =>
 oB (gq x33_11 false (some x6_6)) fun x34_12 =>
 oB (gq x33_11 false (evQ (.b2s (.c x34_12)) .e h7)) fun x35_13 =>
 oB (gq x33_11 false (some x12_3)) fun x36_14 =>
 oB (gq x33_11 false (some x16_5)) fun x37_15 =>
 oB (gq x33_11 false (oIx 1 x36_14 x37_15)) fun x38_16 =>
 oB (gq x33_11 false (oLd h7 x38_16)) fun x39_17 =>
 oB (gq x33_11 false (bEq .no x35_13 x39_17)) fun x40_18 =>
 oB (gq x29_8 true (oPick x33_11 (.bool true) x40_18)) fun x41_19 =>
 oB (oPick x29_8 x41_19 (.bool false)) fun x42_20 =>
 some (x42_20, h7))
theorem o_correctorlaw21_FixKinds : FnOK Tryz.prog n_correctorlaw21_FixKinds (a1 f_correctorlaw21_FixKinds) := ok1 mixed Tryz.func3 (by kernel_rfl)
/- corrector/correctorlaw21.FixRefuses -/
noncomputable def f_correctorlaw21_FixRefuses (n : Nat) (call : Caller)  (x0 x1 x2 : AV) (h : AH) : Ans :=
 oP (oNew h 32 (AV.cells x0)) fun x3_0 h0 =>
 oP (call n_correctorlaw21_known [] h0) fun x19_1 h1 =>
 oB (evQ (.un .not (.c x19_1)) .e h1) fun x20_2 =>
 ci x20_2 (
 some ((.bool false), h1)) (
 oP (call n_correctorlaw21_within [x2, (I 9)] h1) fun x22_3 h3 =>
 oP (oBuildSl h3 5 1 1 [(U 0)] [(0, 1, (U 97))]) fun x24_4 h4 =>
 oP (evW (.ss (.c x24_4)) .e h4) fun x25_5 h5 =>
 oP (call n_correctorref18_Plain [] h5) fun x26_6 h6 =>
 oB (bAdd (I 21) x22_3) fun x28_7 =>
 oP (call n_fix_Fix [x25_5, x26_6, x28_7] h6) fun x29_8 h8 =>
 oB (oEx 0 x29_8) fun x30_9 =>
 oB (oEx 1 x29_8) fun x31_10 =>
 oB (oEx 2 x29_8) fun x32_11 =>
 oP (oBuildSl h8 5 1 1 [(U 0)] [(0, 1, (U 97))]) fun x34_12 h12 =>
 oP (evW (.ss (.c x34_12)) .e h12) fun x35_13 h13 =>
 oP (call n_correctorref18_Plain [] h13) fun x36_14 h14 =>
 oB (bSub (Ineg 0) x22_3) fun x38_15 =>
 oP (call n_fix_Fix [x35_13, x36_14, x38_15] h14) fun x39_16 h16 =>
 oB (oEx 0 x39_16) fun x40_17 =>
 oB (oEx 1 x39_16) fun x41_18 =>
 oB (oEx 2 x39_16) fun x42_19 =>
 drF (drawRun call [⟨(some 44), .buildSlice 5 1 1 [(U 0)] [(0, 1, (.c (U 97)))], none⟩,
  ⟨(some 45), .ss (.t 44), none⟩,
  ⟨(some 46), .load (some 14) (.t 3), none⟩,
  ⟨(some 47), .mov (.t 1), none⟩,
  ⟨(some 48), .callF 6 [(.t 47), (.c (I 21))], none⟩,
  ⟨(some 49), .callF 7 [(.t 45), (.t 46), (.t 48)], none⟩,
  ⟨(some 43), .mov (.t 49), none⟩,
  ⟨(some 50), .extract 0 (.t 43), none⟩,
  ⟨(some 51), .extract 1 (.t 43), none⟩,
  ⟨(some 52), .extract 2 (.t 43), none⟩,
  ⟨(some 13), .mov (.t 50), none⟩,
  ⟨(some 14), .mov (.t 51), none⟩,
  ⟨(some 15), .mov (.t 52), none⟩] [0, 1, 0, 0, 8, 31, 63, 127, 127, 127, 255, 1535, 4095] (sput 1 (sput 3 Tr.e x3_0) x1) h16) [44, 45, 46, 47, 48, 49, 43, 50, 51, 52, 13, 14, 15] fun x44_20 x45_20 x46_20 x47_20 x48_20 x49_20 x43_20 x50_20 x51_20 x52_20 x13_20 x14_20 x15_20 h20 =>
 drF (drawRun call [⟨(some 54), .mov (.t 2), none⟩,
  ⟨(some 55), .bin .add .no (.c (I 16385)) (.t 54), none⟩,
  ⟨(some 56), .mkSlice 5 1 1 [(U 0)] (.t 55) (.t 55), none⟩,
  ⟨(some 57), .callF 8 [], none⟩,
  ⟨(some 58), .callF 7 [(.t 56), (.t 57), (.c (I 3))], none⟩,
  ⟨(some 53), .mov (.t 58), none⟩,
  ⟨(some 59), .extract 0 (.t 53), none⟩,
  ⟨(some 60), .extract 1 (.t 53), none⟩,
  ⟨(some 61), .extract 2 (.t 53), none⟩,
  ⟨(some 16), .mov (.t 59), none⟩,
  ⟨(some 17), .mov (.t 60), none⟩,
  ⟨(some 18), .mov (.t 61), none⟩] [0, 1, 3, 0, 15, 31, 63, 63, 63, 127, 767, 2047] (sput 2 Tr.e x22_3) h20) [54, 55, 56, 57, 58, 53, 59, 60, 61, 16, 17, 18] fun x54_21 x55_21 x56_21 x57_21 x58_21 x53_21 x59_21 x60_21 x61_21 x16_21 x17_21 x18_21 h21 =>
 oB (bEq .no x32_11 (I 1)) fun x63_22 =>
 oB (gq x63_22 true (some x42_19)) fun x65_23 =>
 oB (gq x63_22 true (bEq .no x65_23 (I 1))) fun x66_24 =>
 oB (oPick x63_22 x66_24 (.bool false)) fun x67_25 =>
 oB (gq x67_25 true (some x31_10)) fun x69_26 =>
 oB (gq x67_25 true (oLen x69_26)) fun x70_27 =>
 oB (gq x67_25 true (bEq .no x70_27 (I 0))) fun x71_28 =>
 oB (oPick x67_25 x71_28 (.bool false)) fun x72_29 =>
 oB (gq x72_29 true (some x41_18)) fun x74_30 =>
 oB (gq x72_29 true (oLen x74_30)) fun x75_31 =>
 oB (gq x72_29 true (bEq .no x75_31 (I 0))) fun x76_32 =>
 oB (oPick x72_29 x76_32 (.bool false)) fun x77_33 =>
 oB (gq x77_33 true (some x15_20)) fun x79_34 =>
 oB (gq x77_33 true (oLdN 14 h21 x3_0)) fun x80_35 =>
 oP (gw x77_33 true (call n_correctorref18_Check [x80_35] h21) h21) fun x81_36 h36 =>
 oB (gq x77_33 true (bEq .no x79_34 x81_36)) fun x82_37 =>
 oB (oPick x77_33 x82_37 (.bool false)) fun x83_38 =>
 oB (gq x83_38 true (some x18_21)) fun x85_39 =>
 oB (gq x83_38 true (bEq .no x85_39 (I 4))) fun x86_40 =>
 oB (oPick x83_38 x86_40 (.bool false)) fun x87_41 =>
 some (x87_41, h36))
theorem o_correctorlaw21_FixRefuses : FnOK Tryz.prog n_correctorlaw21_FixRefuses (a3 f_correctorlaw21_FixRefuses) := ok3 mixed Tryz.func4 (by kernel_rfl)
/- corrector/correctorlaw21.known -/
noncomputable def f_correctorlaw21_known (n : Nat) (call : Caller)  (h : AH) : Ans :=
 oP (oBuildSl h 5 1 5 [(U 0), (U 0), (U 0), (U 0), (U 0)] [(0, 1, (U 97)), (1, 1, (U 58)), (2, 1, (U 32)), (3, 1, (U 49)), (4, 1, (U 32))]) fun x5_0 h0 =>
 oP (evW (.ss (.c x5_0)) .e h0) fun x6_1 h1 =>
 oP (call n_correctorref18_Plain [] h1) fun x7_2 h2 =>
 oP (call n_fix_Fix [x6_1, x7_2, (I 5)] h2) fun x8_3 h3 =>
 oB (oEx 0 x8_3) fun x9_4 =>
 oB (oEx 1 x8_3) fun x10_5 =>
 oB (oEx 2 x8_3) fun x11_6 =>
 oB (bEq .no x11_6 (I 0)) fun x13_7 =>
 oB (gq x13_7 true (some x10_5)) fun x15_8 =>
 oB (gq x13_7 true (oLen x15_8)) fun x16_9 =>
 oB (gq x13_7 true (bEq .no x16_9 (I 1))) fun x17_10 =>
 oB (oPick x13_7 x17_10 (.bool false)) fun x18_11 =>
 oB (gq x18_11 true (some x9_4)) fun x20_12 =>
 oB (gq x18_11 true (evQ (.b2s (.c x20_12)) .e h3)) fun x21_13 =>
 oB (gq x18_11 true (bEq .no x21_13 (.str [97, 58, 32, 49, 10]))) fun x22_14 =>
 oB (oPick x18_11 x22_14 (.bool false)) fun x23_15 =>
 some (x23_15, h3)
theorem o_correctorlaw21_known : FnOK Tryz.prog n_correctorlaw21_known (a0 f_correctorlaw21_known) := ok0 mixed Tryz.func5 (by kernel_rfl)
/- corrector/correctorlaw21.within -/
noncomputable def f_correctorlaw21_within (n : Nat) (call : Caller)  (x0 x1 : AV) (h : AH) : Ans :=
 oB (binAV .rem .no x0 x1) fun x8_0 =>
 oB (bLt x8_0 (I 0)) fun x10_1 =>
 jnF 1 (fun z5_2 h2 =>
 some (z5_2, h2)) fun j2 =>
 ci x10_1 (
 oB (bAdd x8_0 x1) fun x13_3 =>
 j2 x13_3 h) (
 j2 x8_0 h)
theorem o_correctorlaw21_within : FnOK Tryz.prog n_correctorlaw21_within (a2 f_correctorlaw21_within) := ok2 mixed Tryz.func6 (by kernel_rfl)
/- corrector/fix.Fix -/
noncomputable def f_fix_Fix (n : Nat) (call : Caller)  (x0 x1 x2 : AV) (h : AH) : Ans :=
 oP (oNew h 32 (AV.cells x1)) fun x4_0 h0 =>
 oB (bLt x2 (I 0)) fun x13_1 =>
 oB (gq x13_1 false (some x2)) fun x15_2 =>
 oB (gq x13_1 false (bGt x15_2 (I 20))) fun x16_3 =>
 oB (oPick x13_1 (.bool true) x16_3) fun x17_4 =>
 ci x17_4 (
 some (.tup [.nils, .nils, (I 1)], h0)) (
 oB (oLdN 14 h0 x4_0) fun x18_5 =>
 oB (oBuild [(.bool false), (.bool false), (.bool false), (.bool false), (.bool false), (.bool false), (.bool false), (.bool false), (.bool false), (.bool false), (I 0), (I 0), (I 0), (I 0), .nils, .nils, (I 0), (I 0), .nils, .nils, .nils, .nils] [(0, 14, x18_5)]) fun x19_6 =>
 oP (oNew h0 46 (AV.cells x19_6)) fun x20_7 h7 =>
 oP (call n_fix_fixer_look [x20_7, x0] h7) fun x25_8 h8 =>
 oB (oEx 0 x25_8) fun x26_9 =>
 oB (oEx 1 x25_8) fun x27_10 =>
 oB (oNil x20_7) fun x28_11 =>
 oB (oFA 14 x28_11) fun x29_12 =>
 oP (oSt 7 h8 x29_12 x26_9) fun _ h13 =>
 oB (bNe .no x27_10 (I 0)) fun x31_14 =>
 ci x31_14 (
 some (.tup [.nils, .nils, x27_10], h13)) (
 oB (some (.fn n_fix_fixer_round [x20_7] [])) fun x34_15 =>
 jnF 1 (fun z9_16 h16 =>
 drF (drawRun call [⟨(some 44), .mov (.t 9), none⟩,
  ⟨(some 45), .nilCheck (.t 44), none⟩,
  ⟨(some 46), .fieldAddr 14 (.t 45), none⟩,
  ⟨(some 47), .fieldAddr 0 (.t 46), none⟩,
  ⟨(some 48), .load none (.t 47), none⟩,
  ⟨(some 49), .callF 12 [(.t 48)], none⟩,
  ⟨(some 50), .mov (.t 9), none⟩,
  ⟨(some 51), .nilCheck (.t 50), none⟩,
  ⟨(some 52), .fieldAddr 21 (.t 51), none⟩,
  ⟨(some 53), .load none (.t 52), none⟩,
  ⟨(some 54), .callF 13 [(.t 53)], none⟩,
  ⟨(some 6), .mov (.t 49), none⟩,
  ⟨(some 7), .mov (.t 54), none⟩,
  ⟨(some 8), .mov (.c (I 0)), none⟩] [0, 1, 3, 7, 15, 31, 0, 64, 192, 448, 1023, 2047, 4095, 8191] (sput 9 Tr.e z9_16) h16) [44, 45, 46, 47, 48, 49, 50, 51, 52, 53, 54, 6, 7, 8] fun x44_17 x45_17 x46_17 x47_17 x48_17 x49_17 x50_17 x51_17 x52_17 x53_17 x54_17 x6_17 x7_17 x8_17 h17 =>
 some (.tup [x6_17, x7_17, x8_17], h17)) fun j16 =>
 lpF 4 n (fun f18 y11_18 y10_18 y9_18 y2_18 h18 =>
 oB (bLt y11_18 y2_18) fun x37_19 =>
 oB (gq x37_19 true (some y10_18)) fun x39_20 =>
 oP (gw x37_19 true (wOf (.callV (.c x39_20) []) call .e h18) h18) fun x40_21 h21 =>
 oB (oPick x37_19 x40_21 (.bool false)) fun x41_22 =>
 ci x41_22 (
 jnF 4 (fun z11_23 z10_23 z9_23 z2_23 h23 =>
 oB (bAdd z11_23 (I 1)) fun x43_24 =>
 f18 x43_24 z10_23 z9_23 z2_23 h23) fun j23 =>
 j23 y11_18 y10_18 y9_18 y2_18 h21) (
 j16 y9_18 h21)) (I 0) x34_15 x20_7 x2 h13))
theorem o_fix_Fix : FnOK Tryz.prog n_fix_Fix (a3 f_fix_Fix) := ok3 mixed Tryz.func7 (by kernel_rfl)
/- corrector/correctorref18.Plain -/
noncomputable def f_correctorref18_Plain (n : Nat) (call : Caller)  (h : AH) : Ans :=
 oP (oNew h 32 [(.bool false), (.bool false), (.bool false), (.bool false), (.bool false), (.bool false), (.bool false), (.bool false), (.bool false), (.bool false), (I 0), (I 0), (I 0), (I 0)]) fun x0_0 h0 =>
 oB (oBuild [(.bool false), (.bool false), (.bool false), (.bool false), (.bool false), (.bool false), (.bool false), (.bool false), (.bool false), (.bool false), (I 0), (I 0), (I 0), (I 0)] [(10, 1, (I 80)), (11, 1, (I 2)), (12, 1, (I 2)), (13, 1, (I 20))]) fun x3_1 =>
 oP (oNew h0 32 [(.bool false), (.bool false), (.bool false), (.bool false), (.bool false), (.bool false), (.bool false), (.bool false), (.bool false), (.bool false), (I 0), (I 0), (I 0), (I 0)]) fun x1_2 h2 =>
 oP (oSt 14 h2 x1_2 x3_1) fun _ h3 =>
 jnF 2 (fun z1_4 z0_4 h4 =>
 oB (oLdN 14 h4 z1_4) fun x13_5 =>
 oP (oSt 14 h4 z0_4 x13_5) fun _ h6 =>
 retT [(0, some (some 14))] (sput 0 Tr.e z0_4) h6) fun j4 =>
 lpF 3 n (fun f7 y2_7 y1_7 y0_7 h7 =>
 oB (bLe y2_7 (I 9)) fun x5_8 =>
 ci x5_8 (
 jnF 3 (fun z2_9 z1_9 z0_9 h9 =>
 oB (bAdd z2_9 (I 1)) fun x7_10 =>
 f7 x7_10 z1_9 z0_9 h9) fun j9 =>
 oB (bNe .no y2_7 (I 5)) fun x10_11 =>
 oB (oFA 0 y1_7) fun x11_12 =>
 oB (evQ (.idxArr 10 1 (.c x11_12) (.c y2_7)) .e h7) fun x12_13 =>
 oP (oSt 1 h7 x12_13 x10_11) fun _ h14 =>
 j9 y2_7 y1_7 y0_7 h14) (
 j4 y1_7 y0_7 h7)) (I 1) x1_2 x0_0 h3
theorem o_correctorref18_Plain : FnOK Tryz.prog n_correctorref18_Plain (a0 f_correctorref18_Plain) := ok0 mixed Tryz.func8 (by kernel_rfl)
/- corrector/correctorref18.Check -/
noncomputable def f_correctorref18_Check (n : Nat) (call : Caller)  (x0 : AV) (h : AH) : Ans :=
 oP (oNew h 32 (AV.cells x0)) fun x1_0 h0 =>
 oB (oFA 10 x1_0) fun x3_1 =>
 oB (oLd h0 x3_1) fun x4_2 =>
 oB (bLt x4_2 (I 1)) fun x5_3 =>
 oB (gq x5_3 false (oFA 10 x1_0)) fun x7_4 =>
 oB (gq x5_3 false (oLd h0 x7_4)) fun x8_5 =>
 oB (gq x5_3 false (bGt x8_5 (I 500))) fun x9_6 =>
 oB (oPick x5_3 (.bool true) x9_6) fun x10_7 =>
 oB (gq x10_7 false (oFA 11 x1_0)) fun x12_8 =>
 oB (gq x10_7 false (oLd h0 x12_8)) fun x13_9 =>
 oB (gq x10_7 false (bLt x13_9 (I 1))) fun x14_10 =>
 oB (oPick x10_7 (.bool true) x14_10) fun x15_11 =>
 oB (gq x15_11 false (oFA 11 x1_0)) fun x17_12 =>
 oB (gq x15_11 false (oLd h0 x17_12)) fun x18_13 =>
 oB (gq x15_11 false (bGt x18_13 (I 10))) fun x19_14 =>
 oB (oPick x15_11 (.bool true) x19_14) fun x20_15 =>
 oB (gq x20_15 false (oFA 12 x1_0)) fun x22_16 =>
 oB (gq x20_15 false (oLd h0 x22_16)) fun x23_17 =>
 oB (gq x20_15 false (bLt x23_17 (I 0))) fun x24_18 =>
 oB (oPick x20_15 (.bool true) x24_18) fun x25_19 =>
 oB (gq x25_19 false (oFA 12 x1_0)) fun x27_20 =>
 oB (gq x25_19 false (oLd h0 x27_20)) fun x28_21 =>
 oB (gq x25_19 false (bGt x28_21 (I 20))) fun x29_22 =>
 oB (oPick x25_19 (.bool true) x29_22) fun x30_23 =>
 oB (gq x30_23 false (oFA 13 x1_0)) fun x32_24 =>
 oB (gq x30_23 false (oLd h0 x32_24)) fun x33_25 =>
 oB (gq x30_23 false (bLt x33_25 (I 1))) fun x34_26 =>
 oB (oPick x30_23 (.bool true) x34_26) fun x35_27 =>
 oB (gq x35_27 false (oFA 13 x1_0)) fun x37_28 =>
 oB (gq x35_27 false (oLd h0 x37_28)) fun x38_29 =>
 oB (gq x35_27 false (bGt x38_29 (I 50))) fun x39_30 =>
 oB (oPick x35_27 (.bool true) x39_30) fun x40_31 =>
 ci x40_31 (
 some ((I 1), h0)) (
 some ((I 0), h0))
theorem o_correctorref18_Check : FnOK Tryz.prog n_correctorref18_Check (a1 f_correctorref18_Check) := ok1 mixed Tryz.func9 (by kernel_rfl)
/- (*corrector/fix.fixer).look -/
noncomputable def f_fix_fixer_look (n : Nat) (call : Caller)  (x0 x1 : AV) (h : AH) : Ans :=
 oP (oNew h 44 [.nils, .nils, (I 0), (I 0), .nils, .nils, .nils]) fun x4_0 h0 =>
 oB (oNil x0) fun x17_1 =>
 oB (oFA 0 x17_1) fun x18_2 =>
 oB (oLdN 14 h0 x18_2) fun x19_3 =>
 oP (call n_lint_Find [x1, x19_3] h0) fun x20_4 h4 =>
 oB (oEx 0 x20_4) fun x21_5 =>
 oB (oEx 1 x20_4) fun x22_6 =>
 oB (bNe .no x22_6 (I 0)) fun x24_7 =>
 ci x24_7 (
 oB (oBuild [.nils, .nils, (I 0), (I 0), .nils, .nils, .nils] []) fun x25_8 =>
 oP (oSt 7 h4 x4_0 x25_8) fun _ h9 =>
 retT [(4, some (some 7)), (5, none)] (sput 5 (sput 4 Tr.e x4_0) x22_6) h9) (
 oB (oNil x0) fun x30_10 =>
 oB (oFA 0 x30_10) fun x31_11 =>
 oB (oFA 13 x31_11) fun x32_12 =>
 oB (oLd h4 x32_12) fun x33_13 =>
 oP (call n_parse_Tree [x1, x33_13] h4) fun x34_14 h14 =>
 oB (oEx 0 x34_14) fun x35_15 =>
 oB (oEx 1 x34_14) fun x36_16 =>
 oB (oEx 2 x34_14) fun x37_17 =>
 oP (oNew h14 59 [.nils]) fun x9_18 h18 =>
 oP (oSt 1 h18 x9_18 x36_16) fun _ h19 =>
 oB (oLdN 1 h19 x9_18) fun x41_20 =>
 oP (call n_graph_Compose [x1, x35_15, x41_20] h19) fun x42_21 h21 =>
 oB (oEx 0 x42_21) fun x43_22 =>
 oB (oEx 1 x42_21) fun x44_23 =>
 oP (oNew h21 42 [.nils, .nils, .nils]) fun x11_24 h24 =>
 oP (oSt 3 h24 x11_24 x43_22) fun _ h25 =>
 drF (drawRun call [⟨(some 45), .mov (.t 1), none⟩,
  ⟨(some 46), .load (some 3) (.t 11), none⟩,
  ⟨(some 47), .mov (.t 6), none⟩,
  ⟨(some 48), .lenSl (.t 47), none⟩,
  ⟨(some 49), .mov (.t 10), none⟩,
  ⟨(some 50), .mov (.t 12), none⟩,
  ⟨(some 51), .buildSlice 53 1 2 [.nils, .nils] [(0, 1, (.t 49)), (1, 1, (.t 50))], none⟩,
  ⟨(some 52), .callF 18 [(.t 51)], none⟩,
  ⟨(some 53), .callF 17 [(.t 52)], none⟩,
  ⟨(some 54), .lenSl (.t 53), none⟩,
  ⟨(some 55), .build [.nils, .nils, (I 0), (I 0), .nils, .nils, .nils] [(0, 1, (.t 45)), (4, 3, (.t 46)), (3, 1, (.t 48)), (2, 1, (.t 54))], none⟩,
  ⟨(some 13), .new 44 [.nils, .nils, (I 0), (I 0), .nils, .nils, .nils], none⟩,
  ⟨none, .store 7 (.t 13) (.t 55), none⟩] [0, 0, 0, 4, 0, 0, 48, 112, 240, 496, 1023, 0, 4095] (sput 1 (sput 6 (sput 10 (sput 11 (sput 12 Tr.e x44_23) x11_24) x37_17) x21_5) x1) h25) [45, 46, 47, 48, 49, 50, 51, 52, 53, 54, 55, 13] fun x45_26 x46_26 x47_26 x48_26 x49_26 x50_26 x51_26 x52_26 x53_26 x54_26 x55_26 x13_26 h26 =>
 oB (oLen x1) fun x57_27 =>
 oP (call n_suggest_Edits [x1, x35_15, x37_17, x21_5] h26) fun x62_28 h28 =>
 oP (call n_edit_Choose [x57_27, x62_28] h28) fun x63_29 h29 =>
 oB (oFA 1 x13_26) fun x64_30 =>
 oP (oSt 1 h29 x64_30 x63_29) fun _ h31 =>
 oB (oLdN 7 h31 x13_26) fun x65_32 =>
 oP (oSt 7 h31 x4_0 x65_32) fun _ h33 =>
 retT [(4, some (some 7)), (5, none)] (sput 5 (sput 4 Tr.e x4_0) (I 0)) h33)
theorem o_fix_fixer_look : FnOK Tryz.prog n_fix_fixer_look (a2 f_fix_fixer_look) := ok2 mixed Tryz.func10 (by kernel_rfl)
/- (*corrector/fix.fixer).round -/
noncomputable def f_fix_fixer_round (n : Nat) (call : Caller)  (x0 : AV) (h : AH) : Ans :=
 oP (oNew h 37 (AV.cells x0)) fun x1_0 h0 =>
 oB (oLd h0 x1_0) fun x7_1 =>
 oB (oNil x7_1) fun x8_2 =>
 oB (oFA 14 x8_2) fun x9_3 =>
 oB (oLdN 7 h0 x9_3) fun x10_4 =>
 oP (oNew h0 44 [.nils, .nils, (I 0), (I 0), .nils, .nils, .nils]) fun x3_5 h5 =>
 oP (oSt 7 h5 x3_5 x10_4) fun _ h6 =>
 oB (oFA 1 x3_5) fun x11_7 =>
 oB (oLd h6 x11_7) fun x12_8 =>
 oB (oLen x12_8) fun x13_9 =>
 oB (bEq .no x13_9 (I 0)) fun x14_10 =>
 ci x14_10 (
 some ((.bool false), h6)) (
 oB (oFA 0 x3_5) fun x16_11 =>
 oB (oLd h6 x16_11) fun x17_12 =>
 oB (oFA 1 x3_5) fun x18_13 =>
 oB (oLd h6 x18_13) fun x19_14 =>
 oP (call n_edit_Apply [x17_12, x19_14] h6) fun x20_15 h15 =>
 oB (oEx 0 x20_15) fun x21_16 =>
 oB (oEx 1 x20_15) fun x22_17 =>
 oB (bNe .no x22_17 (I 0)) fun x24_18 =>
 ci x24_18 (
 some ((.bool false), h15)) (
 oB (oLd h15 x1_0) fun x26_19 =>
 oP (call n_fix_fixer_look [x26_19, x21_16] h15) fun x28_20 h20 =>
 oB (oEx 0 x28_20) fun x29_21 =>
 oB (oEx 1 x28_20) fun x30_22 =>
 oP (oNew h20 44 [.nils, .nils, (I 0), (I 0), .nils, .nils, .nils]) fun x6_23 h23 =>
 oP (oSt 7 h23 x6_23 x29_21) fun _ h24 =>
 oB (bNe .no x30_22 (I 0)) fun x32_25 =>
 oB (gq x32_25 false (oLd h24 x1_0)) fun x34_26 =>
 oB (gq x32_25 false (oLdN 7 h24 x6_23)) fun x35_27 =>
 oP (gw x32_25 false (call n_fix_fixer_better [x34_26, x35_27] h24) h24) fun x36_28 h28 =>
 oB (gq x32_25 false (evQ (.un .not (.c x36_28)) .e h28)) fun x37_29 =>
 oB (oPick x32_25 (.bool true) x37_29) fun x38_30 =>
 ci x38_30 (
 some ((.bool false), h28)) (
 oB (some (.fn n_fix_fixer_round_1 [] [x1_0, x3_5])) fun x39_31 =>
 oB (evQ (.bad) .e h28) fun _ =>
 oB (oLd h28 x1_0) fun x40_33 =>
 oB (oLdN 7 h28 x6_23) fun x41_34 =>
 oB (oNil x40_33) fun x42_35 =>
 oB (oFA 14 x42_35) fun x43_36 =>
 oP (oSt 7 h28 x43_36 x41_34) fun _ h37 =>
 some ((.bool true), h37))))
theorem o_fix_fixer_round : FnOK Tryz.prog n_fix_fixer_round (a1 f_fix_fixer_round) := ok1 mixed Tryz.func11 (by kernel_rfl)
/- slices.Clone[[]byte,byte] -/
noncomputable def f_slices_Clone_byte_byte (n : Nat) (call : Caller)  (x0 : AV) (h : AH) : Ans :=
 oB (bEq .sl x0 .nils) fun x4_0 =>
 ci x4_0 (
 some (.nils, h)) (
 oP (oBuildSl h 5 1 0 [] []) fun x5_1 h1 =>
 oP (evW (.append 5 1 1 [(U 0)] (.c x5_1) (.c x0)) .e h1) fun x7_2 h2 =>
 some (x7_2, h2))
theorem o_slices_Clone_byte_byte : FnOK Tryz.prog n_slices_Clone_byte_byte (a1 f_slices_Clone_byte_byte) := ok1 mixed Tryz.func12 (by kernel_rfl)
/- slices.Clone[[]corrector/fix.Round,corrector/fix.Round] -/
noncomputable def f_slices_Clone_fix_Round_fix_Round (n : Nat) (call : Caller)  (x0 : AV) (h : AH) : Ans :=
 oB (bEq .sl x0 .nils) fun x4_0 =>
 ci x4_0 (
 some (.nils, h)) (
 oP (oBuildSl h 52 5 0 [] []) fun x5_1 h1 =>
 oP (evW (.append 52 5 56 [.nils, (I 0), (I 0), (I 0), (I 0)] (.c x5_1) (.c x0)) .e h1) fun x7_2 h2 =>
 some (x7_2, h2))
theorem o_slices_Clone_fix_Round_fix_Round : FnOK Tryz.prog n_slices_Clone_fix_Round_fix_Round (a1 f_slices_Clone_fix_Round_fix_Round) := ok1 mixed Tryz.func13 (by kernel_rfl)
/- corrector/lint.Find -/
noncomputable def f_lint_Find (n : Nat) (call : Caller)  (x0 x1 : AV) (h : AH) : Ans :=
 oP (oNew h 32 (AV.cells x1)) fun x3_0 h0 =>
 oB (oLen x0) fun x20_1 =>
 oB (bGt x20_1 (I 16384)) fun x21_2 =>
 ci x21_2 (
 some (.tup [.nils, (I 4)], h0)) (
 oB (oLdN 14 h0 x3_0) fun x22_3 =>
 oP (call n_config_Check [x22_3] h0) fun x23_4 h4 =>
 oB (bNe .no x23_4 (I 0)) fun x25_5 =>
 ci x25_5 (
 some (.tup [.nils, x23_4], h4)) (
 oB (oFA 13 x3_0) fun x29_6 =>
 oB (oLd h4 x29_6) fun x30_7 =>
 oP (call n_parse_Tree [x0, x30_7] h4) fun x31_8 h8 =>
 oB (oEx 0 x31_8) fun x32_9 =>
 oB (oEx 1 x31_8) fun x33_10 =>
 oB (oEx 2 x31_8) fun x34_11 =>
 oP (oNew h8 59 [.nils]) fun x8_12 h12 =>
 oP (oSt 1 h12 x8_12 x33_10) fun _ h13 =>
 oB (oLdN 1 h13 x8_12) fun x38_14 =>
 oP (call n_graph_Compose [x0, x32_9, x38_14] h13) fun x39_15 h15 =>
 oB (oEx 0 x39_15) fun x40_16 =>
 oB (oEx 1 x39_15) fun x41_17 =>
 oP (oNew h15 42 [.nils, .nils, .nils]) fun x10_18 h18 =>
 oP (oSt 3 h18 x10_18 x40_16) fun _ h19 =>
 drF (drawRun call [⟨(some 42), .mov (.t 0), none⟩,
  ⟨(some 43), .load (some 14) (.t 3), none⟩,
  ⟨(some 44), .mov (.t 7), none⟩,
  ⟨(some 45), .mov (.t 0), none⟩,
  ⟨(some 46), .mov (.t 7), none⟩,
  ⟨(some 47), .callF 26 [(.t 45), (.t 46)], none⟩,
  ⟨(some 48), .load (some 1) (.t 8), none⟩,
  ⟨(some 49), .load (some 3) (.t 10), none⟩,
  ⟨(some 50), .build [.nils, (.bool false), (.bool false), (.bool false), (.bool false), (.bool false), (.bool false), (.bool false), (.bool false), (.bool false), (.bool false), (I 0), (I 0), (I 0), (I 0), .nils, .nils, .nils, .nils, .nils, .nils, .nils] [(0, 1, (.t 42)), (1, 14, (.t 43)), (15, 1, (.t 44)), (16, 1, (.t 47)), (17, 1, (.t 48)), (18, 3, (.t 49))], none⟩,
  ⟨(some 51), .box 81 (.t 50), none⟩,
  ⟨(some 12), .mov (.t 51), none⟩] [0, 0, 0, 0, 0, 24, 0, 0, 255, 511, 1023] (sput 0 (sput 3 (sput 7 (sput 8 (sput 10 Tr.e x10_18) x8_12) x32_9) x3_0) x0) h19) [42, 43, 44, 45, 46, 47, 48, 49, 50, 51, 12] fun x42_20 x43_20 x44_20 x45_20 x46_20 x47_20 x48_20 x49_20 x50_20 x51_20 x12_20 h20 =>
 oB (some (.fn n_lint_finder_trail [x12_20] [])) fun x53_21 =>
 oB (some (.fn n_lint_finder_long [x12_20] [])) fun x55_22 =>
 oB (some (.fn n_lint_finder_step [x12_20] [])) fun x57_23 =>
 oB (some (.fn n_lint_finder_empty [x12_20] [])) fun x59_24 =>
 oB (some (.fn n_lint_finder_mark [x12_20] [])) fun x61_25 =>
 oB (some (.fn n_lint_finder_hash [x12_20] [])) fun x63_26 =>
 oB (some (.fn n_lint_finder_comma [x12_20] [])) fun x65_27 =>
 oB (some (.fn n_lint_finder_twice [x12_20] [])) fun x67_28 =>
 oB (some (.fn n_lint_finder_end [x12_20] [])) fun x69_29 =>
 oP (oBuildSl h20 1 1 10 [.nilf, .nilf, .nilf, .nilf, .nilf, .nilf, .nilf, .nilf, .nilf, .nilf] [(1, 1, x53_21), (2, 1, x55_22), (3, 1, x57_23), (4, 1, x59_24), (5, 1, x61_25), (6, 1, x63_26), (7, 1, x65_27), (8, 1, x67_28), (9, 1, x69_29)]) fun x70_30 h30 =>
 oB (oLen x70_30) fun x71_31 =>
 jnF 3 (fun z12_32 z7_32 z0_32 h32 =>
 oP (call n_lint_on [z0_32, z7_32] h32) fun x90_33 h33 =>
 oB (oNil z12_32) fun x92_34 =>
 oB (oFA 21 x92_34) fun x93_35 =>
 oB (oLd h33 x93_35) fun x94_36 =>
 oB (oLen x94_36) fun x95_37 =>
 jnF 1 (fun z16_38 h38 =>
 oP (call n_diag_Sort [z16_38] h38) fun x109_39 h39 =>
 some (.tup [x109_39, (I 0)], h39)) fun j38 =>
 lpF 5 n (fun f40 y96_40 y95_40 y94_40 y16_40 y15_40 h40 =>
 oB (bLt y96_40 y95_40) fun x97_41 =>
 ci x97_41 (
 jnF 5 (fun z96_42 z95_42 z94_42 z16_42 z15_42 h42 =>
 oB (bAdd z96_42 (I 1)) fun x107_43 =>
 f40 x107_43 z95_42 z94_42 z16_42 z15_42 h42) fun j42 =>
 oB (oIx 3 y94_40 y96_40) fun x98_44 =>
 oB (oLdN 3 h40 x98_44) fun x99_45 =>
 oP (oNew h40 67 [(I 0), (I 0), (I 0)]) fun x18_46 h46 =>
 oP (oSt 3 h46 x18_46 x99_45) fun _ h47 =>
 oB (oLdN 3 h47 x18_46) fun x101_48 =>
 oP (wOf (.callV (.c y15_40) [(.c x101_48)]) call .e h47) fun x102_49 h49 =>
 jnF 5 (fun z96_50 z95_50 z94_50 z16_50 z15_50 h50 =>
 j42 z96_50 z95_50 z94_50 z16_50 z15_50 h50) fun j50 =>
 ci x102_49 (
 oB (oLdN 3 h49 x18_46) fun x104_51 =>
 oP (oBuildSl h49 67 3 1 [(I 0), (I 0), (I 0)] [(0, 3, x104_51)]) fun x105_52 h52 =>
 oP (evW (.append 67 3 24 [(I 0), (I 0), (I 0)] (.c y16_40) (.c x105_52)) .e h52) fun x106_53 h53 =>
 j50 y96_40 y95_40 y94_40 x106_53 y15_40 h53) (
 j50 y96_40 y95_40 y94_40 y16_40 y15_40 h49)) (
 j38 y16_40 h40)) (I 0) x95_37 x94_36 .nils x90_33 h33) fun j32 =>
 lpF 7 n (fun f54 y72_54 y71_54 y70_54 y12_54 y7_54 y3_54 y0_54 h54 =>
 oB (bLt y72_54 y71_54) fun x73_55 =>
 ci x73_55 (
 jnF 7 (fun z72_56 z71_56 z70_56 z12_56 z7_56 z3_56 z0_56 h56 =>
 oB (bAdd z72_56 (I 1)) fun x87_57 =>
 f54 x87_57 z71_56 z70_56 z12_56 z7_56 z3_56 z0_56 h56) fun j56 =>
 oB (oIx 1 y70_54 y72_54) fun x75_58 =>
 oB (oLd h54 x75_58) fun x76_59 =>
 oB (bGt y72_54 (I 0)) fun x78_60 =>
 oB (gq x78_60 true (some y72_54)) fun x80_61 =>
 oB (gq x78_60 true (oFA 0 y3_54)) fun x81_62 =>
 oB (gq x78_60 true (evQ (.idxArr 10 1 (.c x81_62) (.c x80_61)) .e h54)) fun x82_63 =>
 oB (gq x78_60 true (oLd h54 x82_63)) fun x83_64 =>
 oB (oPick x78_60 x83_64 (.bool false)) fun x84_65 =>
 jnF 7 (fun z72_66 z71_66 z70_66 z12_66 z7_66 z3_66 z0_66 h66 =>
 j56 z72_66 z71_66 z70_66 z12_66 z7_66 z3_66 z0_66 h66) fun j66 =>
 ci x84_65 (
 oP (wOf (.callV (.c x76_59) []) call .e h54) fun x86_67 h67 =>
 j66 y72_54 y71_54 y70_54 y12_54 y7_54 y3_54 y0_54 h67) (
 j66 y72_54 y71_54 y70_54 y12_54 y7_54 y3_54 y0_54 h54)) (
 j32 y12_54 y7_54 y0_54 h54)) (I 0) x71_31 x70_30 x12_20 x32_9 x3_0 x0 h30))
theorem o_lint_Find : FnOK Tryz.prog n_lint_Find (a2 f_lint_Find) := ok2 mixed Tryz.func14 (by kernel_rfl)
/- corrector/parse.Tree -/
noncomputable def f_parse_Tree (n : Nat) (call : Caller)  (x0 x1 : AV) (h : AH) : Ans :=
 oP (oNew h 59 [.nils]) fun x5_0 h0 =>
 scF n fun m1 => jnF 5 (lpF 5 m1 fun f1 y9_1 y8_1 y7_1 y5_1 y4_1 h1 =>
 oB (oNil y7_1) fun x34_2 =>
 oB (oFA 2 x34_2) fun x35_3 =>
 oB (oLd h1 x35_3) fun x36_4 =>
 oB (oLen x36_4) fun x37_5 =>
 oB (bLt y9_1 x37_5) fun x38_6 =>
 ci x38_6 (
 oP (wOf (.callV (.c y8_1) [(.c y9_1)]) call .e h1) fun x41_7 h7 =>
 f1 x41_7 y8_1 y7_1 y5_1 y4_1 h7) (
 oP (call n_parse_parser_told [y7_1] h1) fun x43_8 h8 =>
 drF (drawRun call [⟨(some 44), .mov (.t 4), none⟩,
  ⟨(some 45), .mov (.t 7), none⟩,
  ⟨(some 46), .nilCheck (.t 45), none⟩,
  ⟨(some 47), .fieldAddr 4 (.t 46), none⟩,
  ⟨(some 48), .load (some 1) (.t 47), none⟩,
  ⟨(some 49), .mov (.t 7), none⟩,
  ⟨(some 50), .nilCheck (.t 49), none⟩,
  ⟨(some 51), .fieldAddr 5 (.t 50), none⟩,
  ⟨(some 52), .load none (.t 51), none⟩,
  ⟨(some 4), .mov (.t 44), none⟩,
  ⟨none, .store 1 (.t 5) (.t 48), none⟩,
  ⟨(some 6), .mov (.t 52), none⟩] [0, 0, 2, 6, 14, 0, 32, 96, 224, 1, 543, 2047] (sput 4 (sput 5 (sput 7 Tr.e y7_1) y5_1) y4_1) h8) [44, 45, 46, 47, 48, 49, 50, 51, 52, 4, 6] fun x44_9 x45_9 x46_9 x47_9 x48_9 x49_9 x50_9 x51_9 x52_9 x4_9 x6_9 h9 =>
 retT [(4, none), (5, some (some 1)), (6, none)] (sput 6 (sput 5 (sput 4 Tr.e x4_9) y5_1) x6_9) h9)) fun f1 =>
 oB (bLt x1 (I 1)) fun x11_10 =>
 oB (gq x11_10 false (some x1)) fun x13_11 =>
 oB (gq x11_10 false (bGt x13_11 (I 50))) fun x14_12 =>
 oB (oPick x11_10 (.bool true) x14_12) fun x15_13 =>
 ci x15_13 (
 oB (oBuild [.nils] []) fun x16_14 =>
 oP (oSt 1 h0 x5_0 x16_14) fun _ h15 =>
 retT [(4, none), (5, some (some 1)), (6, none)] (sput 6 (sput 5 (sput 4 Tr.e .nils) x5_0) .nils) h15) (
 oP (call n_scan_Tokens [x0] h0) fun x18_16 h16 =>
 oP (call n_rows_Rows [x0, x18_16] h16) fun x23_17 h17 =>
 oB (oLen x18_16) fun x26_18 =>
 oP (call n_arena_New [x26_18] h17) fun x27_19 h19 =>
 oB (oBuild [.nils, .nils, .nils, (I 0), .nils, .nils, (I 0), (.bool false), .nils, (I 0)] [(0, 1, x0), (1, 1, x18_16), (2, 1, x23_17), (3, 1, x1), (4, 1, x27_19), (6, 1, (Ineg 0)), (9, 1, (Ineg 0))]) fun x28_20 =>
 oP (oNew h19 90 (AV.cells x28_20)) fun x29_21 h21 =>
 oB (some (.fn n_parse_parser_row [x29_21] [])) fun x31_22 =>
 oB (oNil x29_21) fun x34_23 =>
 oB (oFA 2 x34_23) fun x35_24 =>
 oB (oLd h21 x35_24) fun x36_25 =>
 oB (oLen x36_25) fun x37_26 =>
 oB (bLt (I 0) x37_26) fun x38_27 =>
 ci x38_27 (
 oP (wOf (.callV (.c x31_22) [(.c (I 0))]) call .e h21) fun x41_28 h28 =>
 f1 x41_28 x31_22 x29_21 x5_0 x18_16 h28) (
 oP (call n_parse_parser_told [x29_21] h21) fun x43_29 h29 =>
 drF (drawRun call [⟨(some 44), .mov (.t 4), none⟩,
  ⟨(some 45), .mov (.t 7), none⟩,
  ⟨(some 46), .nilCheck (.t 45), none⟩,
  ⟨(some 47), .fieldAddr 4 (.t 46), none⟩,
  ⟨(some 48), .load (some 1) (.t 47), none⟩,
  ⟨(some 49), .mov (.t 7), none⟩,
  ⟨(some 50), .nilCheck (.t 49), none⟩,
  ⟨(some 51), .fieldAddr 5 (.t 50), none⟩,
  ⟨(some 52), .load none (.t 51), none⟩,
  ⟨(some 4), .mov (.t 44), none⟩,
  ⟨none, .store 1 (.t 5) (.t 48), none⟩,
  ⟨(some 6), .mov (.t 52), none⟩] [0, 0, 2, 6, 14, 0, 32, 96, 224, 1, 543, 2047] (sput 4 (sput 5 (sput 7 Tr.e x29_21) x5_0) x18_16) h29) [44, 45, 46, 47, 48, 49, 50, 51, 52, 4, 6] fun x44_30 x45_30 x46_30 x47_30 x48_30 x49_30 x50_30 x51_30 x52_30 x4_30 x6_30 h30 =>
 retT [(4, none), (5, some (some 1)), (6, none)] (sput 6 (sput 5 (sput 4 Tr.e x4_30) x5_0) x6_30) h30))
theorem o_parse_Tree : FnOK Tryz.prog n_parse_Tree (a2 f_parse_Tree) := ok2 mixed Tryz.func15 (by kernel_rfl)
/- corrector/graph.Compose -/
noncomputable def f_graph_Compose (n : Nat) (call : Caller)  (x0 x1 x2 : AV) (h : AH) : Ans :=
 oP (oNew h 59 (AV.cells x2)) fun x5_0 h0 =>
 oP (oNew h0 42 [.nils, .nils, .nils]) fun x6_1 h1 =>
 oB (oLdN 1 h1 x5_0) fun x14_2 =>
 oP (call n_graph_fits [x0, x1, x14_2] h1) fun x15_3 h3 =>
 oB (evQ (.un .not (.c x15_3)) .e h3) fun x16_4 =>
 ci x16_4 (
 oB (oBuild [.nils, .nils, .nils] []) fun x17_5 =>
 oP (oSt 3 h3 x6_1 x17_5) fun _ h6 =>
 retT [(6, some (some 3)), (7, none)] (sput 7 (sput 6 Tr.e x6_1) .nils) h6) (
 drF (drawRun call [⟨(some 18), .mov (.t 0), none⟩,
  ⟨(some 19), .mov (.t 1), none⟩,
  ⟨(some 20), .load (some 1) (.t 5), none⟩,
  ⟨(some 21), .fieldAddr 0 (.t 5), none⟩,
  ⟨(some 22), .load none (.t 21), none⟩,
  ⟨(some 23), .lenSl (.t 22), none⟩,
  ⟨(some 24), .mkSlice 3 1 8 [(I 0)] (.t 23) (.t 23), none⟩,
  ⟨(some 25), .build [.nils, .nils, .nils] [(2, 1, (.t 24))], none⟩,
  ⟨(some 26), .build [.nils, .nils, .nils, .nils, .nils, .nils, .nils, .nilm] [(0, 1, (.t 18)), (1, 1, (.t 19)), (2, 1, (.t 20)), (3, 3, (.t 25))], none⟩,
  ⟨(some 27), .box 96 (.t 26), none⟩,
  ⟨(some 8), .mov (.t 27), none⟩] [0, 0, 0, 0, 8, 24, 56, 120, 255, 511, 1023] (sput 0 (sput 1 (sput 5 Tr.e x5_0) x1) x0) h3) [18, 19, 20, 21, 22, 23, 24, 25, 26, 27, 8] fun x18_7 x19_7 x20_7 x21_7 x22_7 x23_7 x24_7 x25_7 x26_7 x27_7 x8_7 h7 =>
 oB (oNil x8_7) fun x29_8 =>
 oB (oFA 3 x29_8) fun x30_9 =>
 oB (oFA 2 x30_9) fun x31_10 =>
 oB (oLd h7 x31_10) fun x32_11 =>
 oB (oLen x32_11) fun x33_12 =>
 jnF 3 (fun z8_13 z6_13 z5_13 h13 =>
 oB (oFA 0 z5_13) fun x45_14 =>
 oB (oLd h13 x45_14) fun x46_15 =>
 oB (oIx 6 x46_15 (I 0)) fun x47_16 =>
 oB (oFA 4 x47_16) fun x48_17 =>
 oB (oLd h13 x48_17) fun x49_18 =>
 oB (oLen x49_18) fun x50_19 =>
 jnF 2 (fun z8_20 z6_20 h20 =>
 oB (oNil z8_20) fun x82_21 =>
 oB (oFA 6 x82_21) fun x83_22 =>
 oB (oLd h20 x83_22) fun x84_23 =>
 oP (call n_slices_SortFunc_api_Diag_api_Diag [x84_23, (.fn 44 [] [])] h20) fun x85_24 h24 =>
 drF (drawRun call [⟨(some 86), .mov (.t 8), none⟩,
  ⟨(some 87), .nilCheck (.t 86), none⟩,
  ⟨(some 88), .fieldAddr 3 (.t 87), none⟩,
  ⟨(some 89), .fieldAddr 0 (.t 88), none⟩,
  ⟨(some 90), .load none (.t 89), none⟩,
  ⟨(some 91), .callF 45 [(.t 90)], none⟩,
  ⟨(some 92), .mov (.t 8), none⟩,
  ⟨(some 93), .nilCheck (.t 92), none⟩,
  ⟨(some 94), .fieldAddr 3 (.t 93), none⟩,
  ⟨(some 95), .fieldAddr 1 (.t 94), none⟩,
  ⟨(some 96), .load none (.t 95), none⟩,
  ⟨(some 97), .callF 46 [(.t 96)], none⟩,
  ⟨(some 98), .mov (.t 8), none⟩,
  ⟨(some 99), .nilCheck (.t 98), none⟩,
  ⟨(some 100), .fieldAddr 3 (.t 99), none⟩,
  ⟨(some 101), .fieldAddr 2 (.t 100), none⟩,
  ⟨(some 102), .load none (.t 101), none⟩,
  ⟨(some 103), .build [.nils, .nils, .nils] [(0, 1, (.t 91)), (1, 1, (.t 97)), (2, 1, (.t 102))], none⟩,
  ⟨(some 104), .mov (.t 8), none⟩,
  ⟨(some 105), .nilCheck (.t 104), none⟩,
  ⟨(some 106), .fieldAddr 6 (.t 105), none⟩,
  ⟨(some 107), .load none (.t 106), none⟩,
  ⟨(some 108), .callF 48 [(.t 107)], none⟩,
  ⟨(some 109), .callF 47 [(.t 108)], none⟩,
  ⟨none, .store 3 (.t 6) (.t 103), none⟩,
  ⟨(some 7), .mov (.t 109), none⟩] [0, 1, 3, 7, 15, 31, 0, 64, 192, 448, 960, 2047, 0, 4096, 12288, 28672, 61440, 131071, 0, 262144, 786432, 1835008, 3936255, 8130559, 16777215, 33554431] (sput 6 (sput 8 Tr.e z8_20) z6_20) h24) [86, 87, 88, 89, 90, 91, 92, 93, 94, 95, 96, 97, 98, 99, 100, 101, 102, 103, 104, 105, 106, 107, 108, 109, 7] fun x86_25 x87_25 x88_25 x89_25 x90_25 x91_25 x92_25 x93_25 x94_25 x95_25 x96_25 x97_25 x98_25 x99_25 x100_25 x101_25 x102_25 x103_25 x104_25 x105_25 x106_25 x107_25 x108_25 x109_25 x7_25 h25 =>
 retT [(6, some (some 3)), (7, none)] (sput 7 (sput 6 Tr.e z6_20) x7_25) h25) fun j20 =>
 lpF 6 n (fun f26 y51_26 y50_26 y49_26 y8_26 y6_26 y5_26 h26 =>
 oB (bLt y51_26 y50_26) fun x52_27 =>
 ci x52_27 (
 jnF 6 (fun z51_28 z50_28 z49_28 z8_28 z6_28 z5_28 h28 =>
 oB (bAdd z51_28 (I 1)) fun x80_29 =>
 f26 x80_29 z50_28 z49_28 z8_28 z6_28 z5_28 h28) fun j28 =>
 oB (oIx 1 y49_26 y51_26) fun x53_30 =>
 oB (oLd h26 x53_30) fun x54_31 =>
 oB (oFA 0 y5_26) fun x55_32 =>
 oB (oLd h26 x55_32) fun x56_33 =>
 oB (oIx 6 x56_33 x54_31) fun x58_34 =>
 oB (oFA 0 x58_34) fun x59_35 =>
 oB (oLd h26 x59_35) fun x60_36 =>
 oB (bEq .no x60_36 (I 2)) fun x61_37 =>
 jnF 6 (fun z51_38 z50_38 z49_38 z8_38 z6_38 z5_38 h38 =>
 j28 z51_38 z50_38 z49_38 z8_38 z6_38 z5_38 h38) fun j38 =>
 ci x61_37 (
 oP (evW (.mkMap) .e h26) fun x63_39 h39 =>
 oB (oNil y8_26) fun x64_40 =>
 oB (oFA 7 x64_40) fun x65_41 =>
 oP (oSt 1 h39 x65_41 x63_39) fun _ h42 =>
 drF (drawRun call [⟨(some 66), .mov (.t 8), none⟩,
  ⟨(some 67), .mov (.t 8), none⟩,
  ⟨(some 68), .nilCheck (.t 67), none⟩,
  ⟨(some 69), .fieldAddr 3 (.t 68), none⟩,
  ⟨(some 70), .fieldAddr 1 (.t 69), none⟩,
  ⟨(some 71), .load none (.t 70), none⟩,
  ⟨(some 72), .mov (.t 8), none⟩,
  ⟨(some 73), .mov (.t 11), none⟩,
  ⟨(some 74), .callF 42 [(.t 72), (.t 73)], none⟩,
  ⟨(some 75), .buildSlice 3 1 1 [(I 0)] [(0, 1, (.t 74))], none⟩,
  ⟨(some 76), .append 3 1 8 [(I 0)] (.t 71) (.t 75), none⟩,
  ⟨(some 77), .nilCheck (.t 66), none⟩,
  ⟨(some 78), .fieldAddr 3 (.t 77), none⟩,
  ⟨(some 79), .fieldAddr 1 (.t 78), none⟩,
  ⟨none, .store 1 (.t 79) (.t 76), none⟩] [0, 0, 2, 6, 14, 30, 0, 0, 192, 448, 1022, 2047, 4095, 8191, 16383] (sput 8 (sput 11 Tr.e x54_31) y8_26) h42) [66, 67, 68, 69, 70, 71, 72, 73, 74, 75, 76, 77, 78, 79] fun x66_43 x67_43 x68_43 x69_43 x70_43 x71_43 x72_43 x73_43 x74_43 x75_43 x76_43 x77_43 x78_43 x79_43 h43 =>
 j38 y51_26 y50_26 y49_26 y8_26 y6_26 y5_26 h43) (
 j38 y51_26 y50_26 y49_26 y8_26 y6_26 y5_26 h26)) (
 j20 y8_26 y6_26 h26)) (I 0) x50_19 x49_18 z8_13 z6_13 z5_13 h13) fun j13 =>
 lpF 5 n (fun f44 y34_44 y33_44 y8_44 y6_44 y5_44 h44 =>
 oB (bLt y34_44 y33_44) fun x35_45 =>
 ci x35_45 (
 jnF 5 (fun z34_46 z33_46 z8_46 z6_46 z5_46 h46 =>
 oB (bAdd z34_46 (I 1)) fun x44_47 =>
 f44 x44_47 z33_46 z8_46 z6_46 z5_46 h46) fun j46 =>
 oB (oNil y8_44) fun x38_48 =>
 oB (oFA 3 x38_48) fun x39_49 =>
 oB (oFA 2 x39_49) fun x40_50 =>
 oB (oLd h44 x40_50) fun x41_51 =>
 oB (oIx 1 x41_51 y34_44) fun x43_52 =>
 oP (oSt 1 h44 x43_52 (Ineg 0)) fun _ h53 =>
 j46 y34_44 y33_44 y8_44 y6_44 y5_44 h53) (
 j13 y8_44 y6_44 y5_44 h44)) (I 0) x33_12 x8_7 x6_1 x5_0 h7)
theorem o_graph_Compose : FnOK Tryz.prog n_graph_Compose (a3 f_graph_Compose) := ok3 mixed Tryz.func16 (by kernel_rfl)
/- corrector/diag.Sort -/
noncomputable def f_diag_Sort (n : Nat) (call : Caller)  (x0 : AV) (h : AH) : Ans :=
 oP (evW (.mkMap) .e h) fun x9_0 h0 =>
 oB (oLen x0) fun x11_1 =>
 jnF 1 (fun z4_2 h2 =>
 oP (call n_slices_SortFunc_api_Diag_api_Diag [z4_2, (.fn 49 [] [])] h2) fun x34_3 h3 =>
 oP (call n_slices_Clone_api_Diag_api_Diag [z4_2] h3) fun x36_4 h4 =>
 some (x36_4, h4)) fun j2 =>
 lpF 5 n (fun f5 y12_5 y11_5 y10_5 y4_5 y3_5 h5 =>
 oB (bLt y12_5 y11_5) fun x13_6 =>
 ci x13_6 (
 jnF 5 (fun z12_7 z11_7 z10_7 z4_7 z3_7 h7 =>
 oB (bAdd z12_7 (I 1)) fun x32_8 =>
 f5 x32_8 z11_7 z10_7 z4_7 z3_7 h7) fun j7 =>
 oB (oIx 3 y10_5 y12_5) fun x14_9 =>
 oB (oLdN 3 h5 x14_9) fun x15_10 =>
 oP (oNew h5 67 [(I 0), (I 0), (I 0)]) fun x6_11 h11 =>
 oP (oSt 3 h11 x6_11 x15_10) fun _ h12 =>
 oB (oLdN 3 h12 x6_11) fun x18_13 =>
 oB (evQ (.lookup (.is 3) (I 0) true (.c y3_5) (.c x18_13)) .e h12) fun x19_14 =>
 oB (oEx 0 x19_14) fun x20_15 =>
 oB (oEx 1 x19_14) fun x21_16 =>
 oB (evQ (.un .not (.c x21_16)) .e h12) fun x23_17 =>
 jnF 5 (fun z12_18 z11_18 z10_18 z4_18 z3_18 h18 =>
 j7 z12_18 z11_18 z10_18 z4_18 z3_18 h18) fun j18 =>
 ci x23_17 (
 oB (oLdN 3 h12 x6_11) fun x25_19 =>
 oB (oLen y4_5) fun x27_20 =>
 oP (evW (.mapUpd (.is 3) (.c y3_5) (.c x25_19) (.c x27_20)) .e h12) fun _ h21 =>
 oB (oLdN 3 h21 x6_11) fun x29_22 =>
 oP (oBuildSl h21 67 3 1 [(I 0), (I 0), (I 0)] [(0, 3, x29_22)]) fun x30_23 h23 =>
 oP (evW (.append 67 3 24 [(I 0), (I 0), (I 0)] (.c y4_5) (.c x30_23)) .e h23) fun x31_24 h24 =>
 j18 y12_5 y11_5 y10_5 x31_24 y3_5 h24) (
 j18 y12_5 y11_5 y10_5 y4_5 y3_5 h12)) (
 j2 y4_5 h5)) (I 0) x11_1 x0 .nils x9_0 h0
theorem o_diag_Sort : FnOK Tryz.prog n_diag_Sort (a1 f_diag_Sort) := ok1 mixed Tryz.func17 (by kernel_rfl)
/- slices.Concat[[]corrector/api.Diag,corrector/api.Diag] -/
noncomputable def f_slices_Concat_api_Diag_api_Diag (n : Nat) (call : Caller)  (x0 : AV) (h : AH) : Ans :=
 oB (oLen x0) fun x10_0 =>
 jnF 2 (fun z3_1 z0_1 h1 =>
 oP (call n_slices_Grow_api_Diag_api_Diag [.nils, z3_1] h1) fun x24_2 h2 =>
 oB (oLen z0_1) fun x26_3 =>
 jnF 1 (fun z6_4 h4 =>
 some (z6_4, h4)) fun j4 =>
 lpF 4 n (fun f5 y27_5 y26_5 y25_5 y6_5 h5 =>
 oB (bLt y27_5 y26_5) fun x28_6 =>
 ci x28_6 (
 jnF 4 (fun z27_7 z26_7 z25_7 z6_7 h7 =>
 oB (bAdd z27_7 (I 1)) fun x34_8 =>
 f5 x34_8 z26_7 z25_7 z6_7 h7) fun j7 =>
 oB (oIx 1 y25_5 y27_5) fun x29_9 =>
 oB (oLd h5 x29_9) fun x30_10 =>
 oP (evW (.append 67 3 24 [(I 0), (I 0), (I 0)] (.c y6_5) (.c x30_10)) .e h5) fun x33_11 h11 =>
 j7 y27_5 y26_5 y25_5 x33_11 h11) (
 j4 y6_5 h5)) (I 0) x26_3 z0_1 x24_2 h2) fun j1 =>
 lpF 5 n (fun f12 y11_12 y10_12 y9_12 y3_12 y0_12 h12 =>
 oB (bLt y11_12 y10_12) fun x12_13 =>
 ci x12_13 (
 jnF 5 (fun z11_14 z10_14 z9_14 z3_14 z0_14 h14 =>
 oB (bAdd z11_14 (I 1)) fun x22_15 =>
 f12 x22_15 z10_14 z9_14 z3_14 z0_14 h14) fun j14 =>
 oB (oIx 1 y9_12 y11_12) fun x13_16 =>
 oB (oLd h12 x13_16) fun x14_17 =>
 oB (oLen x14_17) fun x17_18 =>
 oB (bAdd y3_12 x17_18) fun x18_19 =>
 oB (bLt x18_19 (I 0)) fun x20_20 =>
 jnF 5 (fun z11_21 z10_21 z9_21 z3_21 z0_21 h21 =>
 j14 z11_21 z10_21 z9_21 z3_21 z0_21 h21) fun j21 =>
 ci x20_20 (
 oB (some (.iface 9 (.str [108, 101, 110, 32, 111, 117, 116, 32, 111, 102, 32, 114, 97, 110, 103, 101]))) fun x21_22 =>
 oB (evQ (.bad) .e h12) fun _ =>
 j21 y11_12 y10_12 y9_12 x18_19 y0_12 h12) (
 j21 y11_12 y10_12 y9_12 x18_19 y0_12 h12)) (
 j1 y3_12 y0_12 h12)) (I 0) x10_0 x0 (I 0) x0 h
theorem o_slices_Concat_api_Diag_api_Diag : FnOK Tryz.prog n_slices_Concat_api_Diag_api_Diag (a1 f_slices_Concat_api_Diag_api_Diag) := ok1 mixed Tryz.func18 (by kernel_rfl)
/- corrector/edit.Choose -/
noncomputable def f_edit_Choose (n : Nat) (call : Caller)  (x0 x1 : AV) (h : AH) : Ans :=
 oB (oLen x1) fun x9_0 =>
 jnF 1 (fun z5_1 h1 =>
 oP (call n_slices_SortStableFunc_api_Edit_api_Edit [z5_1, (.fn 57 [] [])] h1) fun x34_2 h2 =>
 oP (call n_slices_Clone_api_Edit_api_Edit [z5_1] h2) fun x36_3 h3 =>
 some (x36_3, h3)) fun j1 =>
 lpF 5 n (fun f4 y10_4 y9_4 y8_4 y5_4 y0_4 h4 =>
 oB (bLt y10_4 y9_4) fun x11_5 =>
 ci x11_5 (
 jnF 5 (fun z10_6 z9_6 z8_6 z5_6 z0_6 h6 =>
 oB (bAdd z10_6 (I 1)) fun x32_7 =>
 f4 x32_7 z9_6 z8_6 z5_6 z0_6 h6) fun j6 =>
 oB (oIx 3 y8_4 y10_4) fun x12_8 =>
 oB (oLdN 3 h4 x12_8) fun x13_9 =>
 oP (oNew h4 75 [(I 0), (I 0), (.str [])]) fun x7_10 h10 =>
 oP (oSt 3 h10 x7_10 x13_9) fun _ h11 =>
 oB (oLen y5_4) fun x15_12 =>
 oB (bEq .no x15_12 (I 200)) fun x16_13 =>
 oB (gq x16_13 false (some y0_4)) fun x18_14 =>
 oB (gq x16_13 false (oLdN 3 h11 x7_10)) fun x19_15 =>
 oP (gw x16_13 false (call n_edit_one [x18_14, x19_15] h11) h11) fun x20_16 h16 =>
 oB (gq x16_13 false (bNe .no x20_16 (I 0))) fun x21_17 =>
 oB (oPick x16_13 (.bool true) x21_17) fun x22_18 =>
 oB (gq x22_18 false (some y5_4)) fun x24_19 =>
 oB (gq x22_18 false (some (.fn n_edit_Choose_1 [] [x7_10]))) fun x25_20 =>
 oP (gw x22_18 false (call n_slices_ContainsFunc_api_Edit_api_Edit [x24_19, x25_20] h16) h16) fun x26_21 h21 =>
 oB (oPick x22_18 (.bool true) x26_21) fun x27_22 =>
 ci x27_22 (
 j6 y10_4 y9_4 y8_4 y5_4 y0_4 h21) (
 oB (oLdN 3 h21 x7_10) fun x29_23 =>
 oP (oBuildSl h21 75 3 1 [(I 0), (I 0), (.str [])] [(0, 3, x29_23)]) fun x30_24 h24 =>
 oP (evW (.append 75 3 32 [(I 0), (I 0), (.str [])] (.c y5_4) (.c x30_24)) .e h24) fun x31_25 h25 =>
 j6 y10_4 y9_4 y8_4 x31_25 y0_4 h25)) (
 j1 y5_4 h4)) (I 0) x9_0 x1 .nils x0 h
theorem o_edit_Choose : FnOK Tryz.prog n_edit_Choose (a2 f_edit_Choose) := ok2 mixed Tryz.func19 (by kernel_rfl)
/- corrector/suggest.Edits -/
noncomputable def f_suggest_Edits (n : Nat) (call : Caller)  (x0 x1 x2 x3 : AV) (h : AH) : Ans :=
 oB (oBuild [.nils, .nils] [(0, 1, x0), (1, 1, x1)]) fun x21_0 =>
 oP (oNew h 118 (AV.cells x21_0)) fun x22_1 h1 =>
 oB (oLen x2) fun x24_2 =>
 jnF 3 (fun z10_3 z9_3 z3_3 h3 =>
 oB (oLen z3_3) fun x43_4 =>
 jnF 1 (fun z10_5 h5 =>
 oP (call n_slices_Clone_api_Edit_api_Edit [z10_5] h5) fun x62_6 h6 =>
 some (x62_6, h6)) fun j5 =>
 lpF 5 n (fun f7 y44_7 y43_7 y42_7 y10_7 y9_7 h7 =>
 oB (bLt y44_7 y43_7) fun x45_8 =>
 ci x45_8 (
 jnF 5 (fun z44_9 z43_9 z42_9 z10_9 z9_9 h9 =>
 oB (bAdd z44_9 (I 1)) fun x60_10 =>
 f7 x60_10 z43_9 z42_9 z10_9 z9_9 h9) fun j9 =>
 oB (oIx 3 y42_7 y44_7) fun x46_11 =>
 oB (oLdN 3 h7 x46_11) fun x47_12 =>
 oP (oNew h7 67 [(I 0), (I 0), (I 0)]) fun x16_13 h13 =>
 oP (oSt 3 h13 x16_13 x47_12) fun _ h14 =>
 oB (oLdN 3 h14 x16_13) fun x50_15 =>
 oP (call n_suggest_mender_found [y9_7, x50_15] h14) fun x51_16 h16 =>
 oB (oTa 75 (.agg [(I 0), (I 0), (.str [])]) true x51_16) fun x52_17 =>
 oB (oEx 0 x52_17) fun x53_18 =>
 oB (oEx 1 x52_17) fun x54_19 =>
 oP (oNew h16 75 [(I 0), (I 0), (.str [])]) fun x17_20 h20 =>
 oP (oSt 3 h20 x17_20 x53_18) fun _ h21 =>
 jnF 5 (fun z44_22 z43_22 z42_22 z10_22 z9_22 h22 =>
 j9 z44_22 z43_22 z42_22 z10_22 z9_22 h22) fun j22 =>
 ci x54_19 (
 oB (oLdN 3 h21 x17_20) fun x57_23 =>
 oP (oBuildSl h21 75 3 1 [(I 0), (I 0), (.str [])] [(0, 3, x57_23)]) fun x58_24 h24 =>
 oP (evW (.append 75 3 32 [(I 0), (I 0), (.str [])] (.c y10_7) (.c x58_24)) .e h24) fun x59_25 h25 =>
 j22 y44_7 y43_7 y42_7 x59_25 y9_7 h25) (
 j22 y44_7 y43_7 y42_7 y10_7 y9_7 h21)) (
 j5 y10_7 h7)) (I 0) x43_4 z3_3 z10_3 z9_3 h3) fun j3 =>
 lpF 6 n (fun f26 y25_26 y24_26 y23_26 y10_26 y9_26 y3_26 h26 =>
 oB (bLt y25_26 y24_26) fun x26_27 =>
 ci x26_27 (
 jnF 6 (fun z25_28 z24_28 z23_28 z10_28 z9_28 z3_28 h28 =>
 oB (bAdd z25_28 (I 1)) fun x41_29 =>
 f26 x41_29 z24_28 z23_28 z10_28 z9_28 z3_28 h28) fun j28 =>
 oB (oIx 3 y23_26 y25_26) fun x27_30 =>
 oB (oLdN 3 h26 x27_30) fun x28_31 =>
 oP (oNew h26 67 [(I 0), (I 0), (I 0)]) fun x12_32 h32 =>
 oP (oSt 3 h32 x12_32 x28_31) fun _ h33 =>
 oB (oLdN 3 h33 x12_32) fun x31_34 =>
 oP (call n_suggest_mender_wrong [y9_26, x31_34] h33) fun x32_35 h35 =>
 oB (oTa 75 (.agg [(I 0), (I 0), (.str [])]) true x32_35) fun x33_36 =>
 oB (oEx 0 x33_36) fun x34_37 =>
 oB (oEx 1 x33_36) fun x35_38 =>
 oP (oNew h35 75 [(I 0), (I 0), (.str [])]) fun x13_39 h39 =>
 oP (oSt 3 h39 x13_39 x34_37) fun _ h40 =>
 jnF 6 (fun z25_41 z24_41 z23_41 z10_41 z9_41 z3_41 h41 =>
 j28 z25_41 z24_41 z23_41 z10_41 z9_41 z3_41 h41) fun j41 =>
 ci x35_38 (
 oB (oLdN 3 h40 x13_39) fun x38_42 =>
 oP (oBuildSl h40 75 3 1 [(I 0), (I 0), (.str [])] [(0, 3, x38_42)]) fun x39_43 h43 =>
 oP (evW (.append 75 3 32 [(I 0), (I 0), (.str [])] (.c y10_26) (.c x39_43)) .e h43) fun x40_44 h44 =>
 j41 y25_26 y24_26 y23_26 x40_44 y9_26 y3_26 h44) (
 j41 y25_26 y24_26 y23_26 y10_26 y9_26 y3_26 h40)) (
 j3 y10_26 y9_26 y3_26 h26)) (I 0) x24_2 x2 .nils x22_1 x3 h1
theorem o_suggest_Edits : FnOK Tryz.prog n_suggest_Edits (a4 f_suggest_Edits) := ok4 mixed Tryz.func20 (by kernel_rfl)
/- corrector/edit.Apply -/
noncomputable def f_edit_Apply (n : Nat) (call : Caller)  (x0 x1 : AV) (h : AH) : Ans :=
 oB (oLen x0) fun x12_0 =>
 oP (call n_edit_Check [x12_0, x1] h) fun x14_1 h1 =>
 oB (bNe .no x14_1 (I 0)) fun x16_2 =>
 ci x16_2 (
 some (.tup [.nils, x14_1], h1)) (
 oB (oLen x1) fun x19_3 =>
 jnF 3 (fun z8_4 z7_4 z0_4 h4 =>
 oB (evQ (.sl 1 (.c z0_4) (some (.c z8_4)) none none) .e h4) fun x43_5 =>
 oP (evW (.append 5 1 1 [(U 0)] (.c z7_4) (.c x43_5)) .e h4) fun x44_6 h6 =>
 oB (oLen x44_6) fun x46_7 =>
 oB (bGt x46_7 (I 16384)) fun x47_8 =>
 ci x47_8 (
 some (.tup [.nils, (I 4)], h6)) (
 oP (evW (.append 5 1 1 [(U 0)] (.c .nils) (.c x44_6)) .e h6) fun x49_9 h9 =>
 some (.tup [x49_9, (I 0)], h9))) fun j4 =>
 lpF 6 n (fun f10 y20_10 y19_10 y18_10 y8_10 y7_10 y0_10 h10 =>
 oB (bLt y20_10 y19_10) fun x21_11 =>
 ci x21_11 (
 jnF 6 (fun z20_12 z19_12 z18_12 z8_12 z7_12 z0_12 h12 =>
 oB (bAdd z20_12 (I 1)) fun x39_13 =>
 f10 x39_13 z19_12 z18_12 z8_12 z7_12 z0_12 h12) fun j12 =>
 oB (oIx 3 y18_10 y20_10) fun x22_14 =>
 oB (oLdN 3 h10 x22_14) fun x23_15 =>
 oP (oNew h10 75 [(I 0), (I 0), (.str [])]) fun x10_16 h16 =>
 oP (oSt 3 h16 x10_16 x23_15) fun _ h17 =>
 oB (oFA 0 x10_16) fun x27_18 =>
 oB (oLd h17 x27_18) fun x28_19 =>
 oB (oFA 0 x10_16) fun x29_20 =>
 oB (oLd h17 x29_20) fun x30_21 =>
 oB (evQ (.sl 1 (.c y0_10) (some (.c y8_10)) (some (.c x28_19)) (some (.c x30_21))) .e h17) fun x31_22 =>
 oP (evW (.append 5 1 1 [(U 0)] (.c y7_10) (.c x31_22)) .e h17) fun x32_23 h23 =>
 oB (oFA 2 x10_16) fun x34_24 =>
 oB (oLd h23 x34_24) fun x35_25 =>
 oP (evW (.append 5 1 1 [(U 0)] (.c x32_23) (.c x35_25)) .e h23) fun x36_26 h26 =>
 oB (oFA 1 x10_16) fun x37_27 =>
 oB (oLd h26 x37_27) fun x38_28 =>
 j12 y20_10 y19_10 y18_10 x38_28 x36_26 y0_10 h26) (
 j4 y8_10 y7_10 y0_10 h10)) (I 0) x19_3 x1 (I 0) .nils x0 h1)
theorem o_edit_Apply : FnOK Tryz.prog n_edit_Apply (a2 f_edit_Apply) := ok2 mixed Tryz.func21 (by kernel_rfl)
/- (*corrector/fix.fixer).better -/
noncomputable def f_fix_fixer_better (n : Nat) (call : Caller)  (x0 x1 : AV) (h : AH) : Ans :=
 oP (oNew h 44 (AV.cells x1)) fun x3_0 h0 =>
 oB (oNil x0) fun x7_1 =>
 oB (oFA 14 x7_1) fun x8_2 =>
 oB (oLdN 7 h0 x8_2) fun x9_3 =>
 oP (oNew h0 44 [.nils, .nils, (I 0), (I 0), .nils, .nils, .nils]) fun x5_4 h4 =>
 oP (oSt 7 h4 x5_4 x9_3) fun _ h5 =>
 oB (oFA 2 x3_0) fun x10_6 =>
 oB (oLd h5 x10_6) fun x11_7 =>
 oB (oFA 2 x5_4) fun x12_8 =>
 oB (oLd h5 x12_8) fun x13_9 =>
 oB (bGt x11_7 x13_9) fun x14_10 =>
 oB (gq x14_10 false (oFA 2 x3_0)) fun x16_11 =>
 oB (gq x14_10 false (oLd h5 x16_11)) fun x17_12 =>
 oB (gq x14_10 false (oFA 3 x3_0)) fun x18_13 =>
 oB (gq x14_10 false (oLd h5 x18_13)) fun x19_14 =>
 oB (gq x14_10 false (bAdd x17_12 x19_14)) fun x20_15 =>
 oB (gq x14_10 false (oFA 2 x5_4)) fun x21_16 =>
 oB (gq x14_10 false (oLd h5 x21_16)) fun x22_17 =>
 oB (gq x14_10 false (oFA 3 x5_4)) fun x23_18 =>
 oB (gq x14_10 false (oLd h5 x23_18)) fun x24_19 =>
 oB (gq x14_10 false (bAdd x22_17 x24_19)) fun x25_20 =>
 oB (gq x14_10 false (bGe x20_15 x25_20)) fun x26_21 =>
 oB (oPick x14_10 (.bool true) x26_21) fun x27_22 =>
 ci x27_22 (
 some ((.bool false), h5)) (
 oB (oFA 2 x5_4) fun x28_23 =>
 oB (oLd h5 x28_23) fun x29_24 =>
 oB (bGt x29_24 (I 0)) fun x30_25 =>
 oB (gq x30_25 false (oFA 4 x5_4)) fun x32_26 =>
 oB (gq x30_25 false (oLdN 3 h5 x32_26)) fun x33_27 =>
 oB (gq x30_25 false (oFA 4 x3_0)) fun x34_28 =>
 oB (gq x30_25 false (oLdN 3 h5 x34_28)) fun x35_29 =>
 oP (gw x30_25 false (call n_equal_Same [x33_27, x35_29] h5) h5) fun x36_30 h30 =>
 oB (oPick x30_25 (.bool true) x36_30) fun x37_31 =>
 some (x37_31, h30))
theorem o_fix_fixer_better : FnOK Tryz.prog n_fix_fixer_better (a2 f_fix_fixer_better) := ok2 mixed Tryz.func22 (by kernel_rfl)
/- (*corrector/fix.fixer).round$1 -/
noncomputable def f_fix_fixer_round_1 (n : Nat) (call : Caller)  (x0 x1 : AV) (h : AH) : Ans :=
 drF (drawRun call [⟨(some 2), .load none (.t 0), none⟩,
  ⟨(some 3), .load none (.t 0), none⟩,
  ⟨(some 4), .nilCheck (.t 3), none⟩,
  ⟨(some 5), .fieldAddr 21 (.t 4), none⟩,
  ⟨(some 6), .load none (.t 5), none⟩,
  ⟨(some 7), .fieldAddr 1 (.t 1), none⟩,
  ⟨(some 8), .load none (.t 7), none⟩,
  ⟨(some 9), .callF 24 [(.t 8)], none⟩,
  ⟨(some 10), .fieldAddr 2 (.t 1), none⟩,
  ⟨(some 11), .load none (.t 10), none⟩,
  ⟨(some 12), .fieldAddr 3 (.t 1), none⟩,
  ⟨(some 13), .load none (.t 12), none⟩,
  ⟨(some 14), .load none (.t 0), none⟩,
  ⟨(some 15), .nilCheck (.t 14), none⟩,
  ⟨(some 16), .fieldAddr 14 (.t 15), none⟩,
  ⟨(some 17), .fieldAddr 2 (.t 16), none⟩,
  ⟨(some 18), .load none (.t 17), none⟩,
  ⟨(some 19), .load none (.t 0), none⟩,
  ⟨(some 20), .nilCheck (.t 19), none⟩,
  ⟨(some 21), .fieldAddr 14 (.t 20), none⟩,
  ⟨(some 22), .fieldAddr 3 (.t 21), none⟩,
  ⟨(some 23), .load none (.t 22), none⟩,
  ⟨(some 24), .build [.nils, (I 0), (I 0), (I 0), (I 0)] [(0, 1, (.t 9)), (1, 1, (.t 11)), (2, 1, (.t 13)), (3, 1, (.t 18)), (4, 1, (.t 23))], none⟩,
  ⟨(some 25), .buildSlice 52 5 1 [.nils, (I 0), (I 0), (I 0), (I 0)] [(0, 5, (.t 24))], none⟩,
  ⟨(some 26), .append 52 5 56 [.nils, (I 0), (I 0), (I 0), (I 0)] (.t 6) (.t 25), none⟩,
  ⟨(some 27), .nilCheck (.t 2), none⟩,
  ⟨(some 28), .fieldAddr 21 (.t 27), none⟩,
  ⟨none, .store 1 (.t 28) (.t 26), none⟩] [0, 0, 2, 6, 14, 0, 32, 96, 0, 256, 0, 1024, 0, 4096, 12288, 28672, 61440, 0, 131072, 393216, 917504, 1966080, 4194272, 8388576, 16777214, 33554431, 67108863, 134217727] (sput 0 (sput 1 Tr.e x1) x0) h) [2, 3, 4, 5, 6, 7, 8, 9, 10, 11, 12, 13, 14, 15, 16, 17, 18, 19, 20, 21, 22, 23, 24, 25, 26, 27, 28] fun x2_0 x3_0 x4_0 x5_0 x6_0 x7_0 x8_0 x9_0 x10_0 x11_0 x12_0 x13_0 x14_0 x15_0 x16_0 x17_0 x18_0 x19_0 x20_0 x21_0 x22_0 x23_0 x24_0 x25_0 x26_0 x27_0 x28_0 h0 =>
 some (.tup [], h0)
theorem o_fix_fixer_round_1 : FnOK Tryz.prog n_fix_fixer_round_1 (a2 f_fix_fixer_round_1) := ok2 mixed Tryz.func23 (by kernel_rfl)
/- slices.Clone[[]corrector/api.Edit,corrector/api.Edit] -/
noncomputable def f_slices_Clone_api_Edit_api_Edit (n : Nat) (call : Caller)  (x0 : AV) (h : AH) : Ans :=
 oB (bEq .sl x0 .nils) fun x4_0 =>
 ci x4_0 (
 some (.nils, h)) (
 oP (oBuildSl h 75 3 0 [] []) fun x5_1 h1 =>
 oP (evW (.append 75 3 32 [(I 0), (I 0), (.str [])] (.c x5_1) (.c x0)) .e h1) fun x7_2 h2 =>
 some (x7_2, h2))
theorem o_slices_Clone_api_Edit_api_Edit : FnOK Tryz.prog n_slices_Clone_api_Edit_api_Edit (a1 f_slices_Clone_api_Edit_api_Edit) := ok1 mixed Tryz.func24 (by kernel_rfl)
/- corrector/config.Check -/
noncomputable def f_config_Check (n : Nat) (call : Caller)  (x0 : AV) (h : AH) : Ans :=
 oP (oNew h 32 (AV.cells x0)) fun x1_0 h0 =>
 oB (oFA 10 x1_0) fun x3_1 =>
 oB (oLd h0 x3_1) fun x4_2 =>
 oP (call n_config_within [x4_2, (I 1), (I 500)] h0) fun x5_3 h3 =>
 oB (evQ (.un .not (.c x5_3)) .e h3) fun x6_4 =>
 oB (gq x6_4 false (oFA 11 x1_0)) fun x8_5 =>
 oB (gq x6_4 false (oLd h3 x8_5)) fun x9_6 =>
 oP (gw x6_4 false (call n_config_within [x9_6, (I 1), (I 10)] h3) h3) fun x10_7 h7 =>
 oB (gq x6_4 false (evQ (.un .not (.c x10_7)) .e h7)) fun x11_8 =>
 oB (oPick x6_4 (.bool true) x11_8) fun x12_9 =>
 oB (gq x12_9 false (oFA 12 x1_0)) fun x14_10 =>
 oB (gq x12_9 false (oLd h7 x14_10)) fun x15_11 =>
 oP (gw x12_9 false (call n_config_within [x15_11, (I 0), (I 20)] h7) h7) fun x16_12 h12 =>
 oB (gq x12_9 false (evQ (.un .not (.c x16_12)) .e h12)) fun x17_13 =>
 oB (oPick x12_9 (.bool true) x17_13) fun x18_14 =>
 oB (gq x18_14 false (oFA 13 x1_0)) fun x20_15 =>
 oB (gq x18_14 false (oLd h12 x20_15)) fun x21_16 =>
 oP (gw x18_14 false (call n_config_within [x21_16, (I 1), (I 50)] h12) h12) fun x22_17 h17 =>
 oB (gq x18_14 false (evQ (.un .not (.c x22_17)) .e h17)) fun x23_18 =>
 oB (oPick x18_14 (.bool true) x23_18) fun x24_19 =>
 ci x24_19 (
 some ((I 1), h17)) (
 some ((I 0), h17))
theorem o_config_Check : FnOK Tryz.prog n_config_Check (a1 f_config_Check) := ok1 mixed Tryz.func25 (by kernel_rfl)
/- corrector/rows.Rows -/
noncomputable def f_rows_Rows (n : Nat) (call : Caller)  (x0 x1 : AV) (h : AH) : Ans :=
 oP (oNew h 56 (AV.cells x1)) fun x3_0 h0 =>
 scF n fun m1 => jnF 6 (lpF 6 m1 fun f1 y10_1 y9_1 y8_1 y6_1 y5_1 y3_1 h1 =>
 oB (oLd h1 y3_1) fun x13_2 =>
 oB (oLen x13_2) fun x14_3 =>
 oB (bLt y10_1 x14_3) fun x15_4 =>
 ci x15_4 (
 oB' (nx 7 h1) fun h5 =>
 oB (oLd h5 y3_1) fun x16_6 =>
 oB (oIx 3 x16_6 y10_1) fun x18_7 =>
 oB (oLdN 3 h5 x18_7) fun x19_8 =>
 oB (oLd h5 y8_1) fun x20_9 =>
 oP (call n_rows_brackets [x19_8, x20_9] h5) fun x21_10 h10 =>
 oP (oSt 1 h10 y8_1 x21_10) fun _ h11 =>
 oB (oLd h11 y3_1) fun x22_12 =>
 oB (oIx 3 x22_12 y10_1) fun x24_13 =>
 oB (oFA 0 x24_13) fun x25_14 =>
 oB (oLd h11 x25_14) fun x26_15 =>
 oB (bEq .no x26_15 (I 1)) fun x27_16 =>
 oB (gq x27_16 false (oLd h11 y3_1)) fun x29_17 =>
 oB (gq x27_16 false (some y10_1)) fun x30_18 =>
 oB (gq x27_16 false (oIx 3 x29_17 x30_18)) fun x31_19 =>
 oB (gq x27_16 false (oFA 0 x31_19)) fun x32_20 =>
 oB (gq x27_16 false (oLd h11 x32_20)) fun x33_21 =>
 oB (gq x27_16 false (bEq .no x33_21 (I 19))) fun x34_22 =>
 oB (oPick x27_16 (.bool true) x34_22) fun x35_23 =>
 jnF 6 (fun z10_24 z9_24 z8_24 z6_24 z5_24 z3_24 h24 =>
 oB (bAdd z10_24 (I 1)) fun x41_25 =>
 f1 x41_25 z9_24 z8_24 z6_24 z5_24 z3_24 h24) fun j24 =>
 ci x35_23 (
 oB (bAdd y10_1 (I 1)) fun x38_26 =>
 oP (wOf (.callV (.c y9_1) [(.c x38_26)]) call .e h11) fun x39_27 h27 =>
 j24 y10_1 y9_1 y8_1 y6_1 y5_1 y3_1 h27) (
 j24 y10_1 y9_1 y8_1 y6_1 y5_1 y3_1 h11)) (
 oB (oLd h1 y6_1) fun x42_28 =>
 oB (oLd h1 y3_1) fun x43_29 =>
 oB (oLen x43_29) fun x44_30 =>
 oB (bLt x42_28 x44_30) fun x45_31 =>
 jnF 1 (fun z5_32 h32 =>
 oB (oLd h32 z5_32) fun x50_33 =>
 oP (call n_slices_Clone_api_Row_api_Row [x50_33] h32) fun x51_34 h34 =>
 some (x51_34, h34)) fun j32 =>
 ci x45_31 (
 oB (oLd h1 y3_1) fun x47_35 =>
 oB (oLen x47_35) fun x48_36 =>
 oP (wOf (.callV (.c y9_1) [(.c x48_36)]) call .e h1) fun x49_37 h37 =>
 j32 y5_1 h37) (
 j32 y5_1 h1))) fun f1 =>
 oP (oNew h0 78 [.nils]) fun x5_38 h38 =>
 oP (oNew h38 3 [(I 0)]) fun x6_39 h39 =>
 oP (oNew h39 3 [(I 0)]) fun x7_40 h40 =>
 oP (oNew h40 3 [(I 0)]) fun x8_41 h41 =>
 oP (oSt 1 h41 x6_39 (I 0)) fun _ h42 =>
 oP (oSt 1 h42 x7_40 (I 0)) fun _ h43 =>
 oP (oSt 1 h43 x8_41 (I 0)) fun _ h44 =>
 oB (some (.fn n_rows_Rows_1 [] [x6_39, x3_0, x7_40, x5_38, x8_41])) fun x11_45 =>
 oB (oLd h44 x3_0) fun x13_46 =>
 oB (oLen x13_46) fun x14_47 =>
 oB (bLt (I 0) x14_47) fun x15_48 =>
 ci x15_48 (
 oB' (nx 7 h44) fun h49 =>
 oB (oLd h49 x3_0) fun x16_50 =>
 oB (oIx 3 x16_50 (I 0)) fun x18_51 =>
 oB (oLdN 3 h49 x18_51) fun x19_52 =>
 oB (oLd h49 x8_41) fun x20_53 =>
 oP (call n_rows_brackets [x19_52, x20_53] h49) fun x21_54 h54 =>
 oP (oSt 1 h54 x8_41 x21_54) fun _ h55 =>
 oB (oLd h55 x3_0) fun x22_56 =>
 oB (oIx 3 x22_56 (I 0)) fun x24_57 =>
 oB (oFA 0 x24_57) fun x25_58 =>
 oB (oLd h55 x25_58) fun x26_59 =>
 oB (bEq .no x26_59 (I 1)) fun x27_60 =>
 oB (gq x27_60 false (oLd h55 x3_0)) fun x29_61 =>
 oB (gq x27_60 false (some (I 0))) fun x30_62 =>
 oB (gq x27_60 false (oIx 3 x29_61 x30_62)) fun x31_63 =>
 oB (gq x27_60 false (oFA 0 x31_63)) fun x32_64 =>
 oB (gq x27_60 false (oLd h55 x32_64)) fun x33_65 =>
 oB (gq x27_60 false (bEq .no x33_65 (I 19))) fun x34_66 =>
 oB (oPick x27_60 (.bool true) x34_66) fun x35_67 =>
 jnF 6 (fun z10_68 z9_68 z8_68 z6_68 z5_68 z3_68 h68 =>
 oB (bAdd z10_68 (I 1)) fun x41_69 =>
 f1 x41_69 z9_68 z8_68 z6_68 z5_68 z3_68 h68) fun j68 =>
 ci x35_67 (
 oB (bAdd (I 0) (I 1)) fun x38_70 =>
 oP (wOf (.callV (.c x11_45) [(.c x38_70)]) call .e h55) fun x39_71 h71 =>
 j68 (I 0) x11_45 x8_41 x6_39 x5_38 x3_0 h71) (
 j68 (I 0) x11_45 x8_41 x6_39 x5_38 x3_0 h55)) (
 oB (oLd h44 x6_39) fun x42_72 =>
 oB (oLd h44 x3_0) fun x43_73 =>
 oB (oLen x43_73) fun x44_74 =>
 oB (bLt x42_72 x44_74) fun x45_75 =>
 jnF 1 (fun z5_76 h76 =>
 oB (oLd h76 z5_76) fun x50_77 =>
 oP (call n_slices_Clone_api_Row_api_Row [x50_77] h76) fun x51_78 h78 =>
 some (x51_78, h78)) fun j76 =>
 ci x45_75 (
 oB (oLd h44 x3_0) fun x47_79 =>
 oB (oLen x47_79) fun x48_80 =>
 oP (wOf (.callV (.c x11_45) [(.c x48_80)]) call .e h44) fun x49_81 h81 =>
 j76 x5_38 h81) (
 j76 x5_38 h44))
theorem o_rows_Rows : FnOK Tryz.prog n_rows_Rows (a2 f_rows_Rows) := ok2 mixed Tryz.func26 (by kernel_rfl)
/- (*corrector/lint.finder).trail -/
noncomputable def f_lint_finder_trail (n : Nat) (call : Caller)  (x0 : AV) (h : AH) : Ans :=
 oB (oNil x0) fun x6_0 =>
 oB (oFA 15 x6_0) fun x7_1 =>
 oB (oLd h x7_1) fun x8_2 =>
 oB (oLen x8_2) fun x9_3 =>
 jnF 0 (fun h4 =>
 some (.tup [], h4)) fun j4 =>
 lpF 4 n (fun f5 y10_5 y9_5 y8_5 y0_5 h5 =>
 oB (bLt y10_5 y9_5) fun x11_6 =>
 ci x11_6 (
 jnF 4 (fun z10_7 z9_7 z8_7 z0_7 h7 =>
 oB (bAdd z10_7 (I 1)) fun x41_8 =>
 f5 x41_8 z9_7 z8_7 z0_7 h7) fun j7 =>
 oB (oIx 3 y8_5 y10_5) fun x13_9 =>
 oB (oLdN 3 h5 x13_9) fun x14_10 =>
 oP (oNew h5 131 [(I 0), (I 0), (I 0)]) fun x3_11 h11 =>
 oP (oSt 3 h11 x3_11 x14_10) fun _ h12 =>
 oB (bAdd y10_5 (I 1)) fun x17_13 =>
 oP (call n_lint_finder_kind [y0_5, x17_13] h12) fun x18_14 h14 =>
 oB (oFA 0 x3_11) fun x19_15 =>
 oB (oLd h14 x19_15) fun x20_16 =>
 oB (bEq .no x20_16 (I 2)) fun x21_17 =>
 oB (gq x21_17 false (oFA 0 x3_11)) fun x23_18 =>
 oB (gq x21_17 false (oLd h14 x23_18)) fun x24_19 =>
 oB (gq x21_17 false (bEq .no x24_19 (I 3))) fun x25_20 =>
 oB (oPick x21_17 (.bool true) x25_20) fun x26_21 =>
 oB (gq x26_21 true (some x18_14)) fun x28_22 =>
 oB (gq x26_21 true (bEq .no x28_22 (I 0))) fun x29_23 =>
 oB (gq x26_21 true (some x29_23)) fun x30_24 =>
 oB (gq x30_24 false (some x18_14)) fun x31_25 =>
 oB (gq x30_24 false (bEq .no x31_25 (I 1))) fun x32_26 =>
 oB (gq x26_21 true (oPick x30_24 (.bool true) x32_26)) fun x33_27 =>
 oB (oPick x26_21 x33_27 (.bool false)) fun x34_28 =>
 jnF 4 (fun z10_29 z9_29 z8_29 z0_29 h29 =>
 j7 z10_29 z9_29 z8_29 z0_29 h29) fun j29 =>
 ci x34_28 (
 oB (oFA 1 x3_11) fun x36_30 =>
 oB (oLd h14 x36_30) fun x37_31 =>
 oB (oFA 2 x3_11) fun x38_32 =>
 oB (oLd h14 x38_32) fun x39_33 =>
 oP (call n_lint_finder_find [y0_5, (I 1), x37_31, x39_33] h14) fun x40_34 h34 =>
 j29 y10_5 y9_5 y8_5 y0_5 h34) (
 j29 y10_5 y9_5 y8_5 y0_5 h14)) (
 j4 h5)) (I 0) x9_3 x8_2 x0 h
theorem o_lint_finder_trail : FnOK Tryz.prog n_lint_finder_trail (a1 f_lint_finder_trail) := ok1 mixed Tryz.func27 (by kernel_rfl)
/- (*corrector/lint.finder).long -/
noncomputable def f_lint_finder_long (n : Nat) (call : Caller)  (x0 : AV) (h : AH) : Ans :=
 oB (oNil x0) fun x11_0 =>
 oB (oFA 16 x11_0) fun x12_1 =>
 oB (oLd h x12_1) fun x13_2 =>
 oB (oLen x13_2) fun x14_3 =>
 jnF 0 (fun h4 =>
 some (.tup [], h4)) fun j4 =>
 lpF 4 n (fun f5 y15_5 y14_5 y13_5 y0_5 h5 =>
 oB (bLt y15_5 y14_5) fun x16_6 =>
 ci x16_6 (
 jnF 4 (fun z15_7 z14_7 z13_7 z0_7 h7 =>
 oB (bAdd z15_7 (I 1)) fun x88_8 =>
 f5 x88_8 z14_7 z13_7 z0_7 h7) fun j7 =>
 oB (oIx 4 y13_5 y15_5) fun x17_9 =>
 oB (oLdN 4 h5 x17_9) fun x18_10 =>
 oP (oNew h5 125 [(I 0), (I 0), (I 0), (I 0)]) fun x3_11 h11 =>
 oP (oSt 4 h11 x3_11 x18_10) fun _ h12 =>
 oB (oLdN 4 h12 x3_11) fun x21_13 =>
 oP (call n_lint_finder_bytes [y0_5, x21_13] h12) fun x22_14 h14 =>
 oB (oEx 0 x22_14) fun x23_15 =>
 oB (oEx 1 x22_14) fun x24_16 =>
 jnF 6 (fun z15_17 z14_17 z13_17 z5_17 z4_17 z0_17 h17 =>
 jnF 6 (fun z15_18 z14_18 z13_18 z6_18 z5_18 z0_18 h18 =>
 oB (bLt z6_18 z5_18) fun x83_19 =>
 jnF 4 (fun z15_20 z14_20 z13_20 z0_20 h20 =>
 j7 z15_20 z14_20 z13_20 z0_20 h20) fun j20 =>
 ci x83_19 (
 oP (call n_lint_finder_find [z0_18, (I 2), z6_18, z5_18] h18) fun x87_21 h21 =>
 j20 z15_18 z14_18 z13_18 z0_18 h21) (
 j20 z15_18 z14_18 z13_18 z0_18 h18)) fun j18 =>
 lpF 7 n (fun f22 y15_22 y14_22 y13_22 y7_22 y6_22 y5_22 y0_22 h22 =>
 oB (oNil y0_22) fun x55_23 =>
 oB (oFA 1 x55_23) fun x56_24 =>
 oB (oFA 10 x56_24) fun x57_25 =>
 oB (oLd h22 x57_25) fun x58_26 =>
 oB (bLt y7_22 x58_26) fun x59_27 =>
 oB (gq x59_27 true (some y6_22)) fun x61_28 =>
 oB (gq x59_27 true (some y5_22)) fun x62_29 =>
 oB (gq x59_27 true (bLt x61_28 x62_29)) fun x63_30 =>
 oB (oPick x59_27 x63_30 (.bool false)) fun x64_31 =>
 ci x64_31 (
 jnF 7 (fun z15_32 z14_32 z13_32 z7_32 z6_32 z5_32 z0_32 h32 =>
 oB (bAdd z7_32 (I 1)) fun x66_33 =>
 f22 z15_32 z14_32 z13_32 x66_33 z6_32 z5_32 z0_32 h32) fun j32 =>
 oB (oNil y0_22) fun x69_34 =>
 oB (oFA 0 x69_34) fun x70_35 =>
 oB (oLd h22 x70_35) fun x71_36 =>
 oB (evQ (.sl 1 (.c x71_36) (some (.c y6_22)) (some (.c y5_22)) none) .e h22) fun x74_37 =>
 oP (call n_runes_Next [x74_37] h22) fun x75_38 h38 =>
 oB (oEx 0 x75_38) fun x76_39 =>
 oB (oEx 1 x75_38) fun x77_40 =>
 oB (bAdd y6_22 x77_40) fun x80_41 =>
 j32 y15_22 y14_22 y13_22 y7_22 x80_41 y5_22 y0_22 h38) (
 j18 y15_22 y14_22 y13_22 y6_22 y5_22 y0_22 h22)) z15_17 z14_17 z13_17 (I 0) z4_17 z5_17 z0_17 h17) fun j17 =>
 lpF 6 n (fun f42 y15_42 y14_42 y13_42 y5_42 y4_42 y0_42 h42 =>
 oB (bGt y5_42 y4_42) fun x27_43 =>
 oB (gq x27_43 true (some y0_42)) fun x29_44 =>
 oB (gq x27_43 true (oNil x29_44)) fun x30_45 =>
 oB (gq x27_43 true (oFA 0 x30_45)) fun x31_46 =>
 oB (gq x27_43 true (oLd h42 x31_46)) fun x32_47 =>
 oB (gq x27_43 true (some y5_42)) fun x33_48 =>
 oB (gq x27_43 true (bSub x33_48 (I 1))) fun x34_49 =>
 oB (gq x27_43 true (oIx 1 x32_47 x34_49)) fun x35_50 =>
 oB (gq x27_43 true (oLd h42 x35_50)) fun x36_51 =>
 oB (gq x27_43 true (bEq .no x36_51 (U 10))) fun x37_52 =>
 oB (gq x27_43 true (some x37_52)) fun x38_53 =>
 oB (gq x38_53 false (some y0_42)) fun x39_54 =>
 oB (gq x38_53 false (oNil x39_54)) fun x40_55 =>
 oB (gq x38_53 false (oFA 0 x40_55)) fun x41_56 =>
 oB (gq x38_53 false (oLd h42 x41_56)) fun x42_57 =>
 oB (gq x38_53 false (some y5_42)) fun x43_58 =>
 oB (gq x38_53 false (bSub x43_58 (I 1))) fun x44_59 =>
 oB (gq x38_53 false (oIx 1 x42_57 x44_59)) fun x45_60 =>
 oB (gq x38_53 false (oLd h42 x45_60)) fun x46_61 =>
 oB (gq x38_53 false (bEq .no x46_61 (U 13))) fun x47_62 =>
 oB (gq x27_43 true (oPick x38_53 (.bool true) x47_62)) fun x48_63 =>
 oB (oPick x27_43 x48_63 (.bool false)) fun x49_64 =>
 ci x49_64 (
 jnF 6 (fun z15_65 z14_65 z13_65 z5_65 z4_65 z0_65 h65 =>
 f42 z15_65 z14_65 z13_65 z5_65 z4_65 z0_65 h65) fun j65 =>
 oB (bSub y5_42 (I 1)) fun x51_66 =>
 j65 y15_42 y14_42 y13_42 x51_66 y4_42 y0_42 h42) (
 j17 y15_42 y14_42 y13_42 y5_42 y4_42 y0_42 h42)) y15_5 y14_5 y13_5 x24_16 x23_15 y0_5 h14) (
 j4 h5)) (I 0) x14_3 x13_2 x0 h
theorem o_lint_finder_long : FnOK Tryz.prog n_lint_finder_long (a1 f_lint_finder_long) := ok1 mixed Tryz.func28 (by kernel_rfl)
end Go.Proofs.YtahpoedbdhhdfaaGreatDoor
