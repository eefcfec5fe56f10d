/- Functions, as they run. PRINTED by a program of this repo. -/
import Derived.Test.YtmlhpcflphlgdaaGreatDoorN
import Derived.Test.YtmlhpcflphlgdaaGreatDoorM
set_option linter.unusedVariables false
set_option maxRecDepth 100000
namespace Go.Proofs.YtmlhpcflphlgdaaGreatDoor
open Go.Ev
/- corrector/correctorlaw22.ShellBad -/
noncomputable def f_correctorlaw22_ShellBad (n : Nat) (call : Caller)  (x0 : AV) (h : AH) : Ans :=
 oP (call n_correctorlaw22_known [] h) fun x6_0 h0 =>
 oB (evQ (.un .not (.c x6_0)) .e h0) fun x7_1 =>
 ci x7_1 (
 some ((.bool false), h0)) (
 oP (oBuildSl h0 9 1 9 [(.str []), (.str []), (.str []), (.str []), (.str []), (.str []), (.str []), (.str []), (.str [])] [(0, 1, (.str [99, 111, 110, 102, 105, 103, 32, 119, 104, 97, 116])), (1, 1, (.str [99, 111, 110, 102, 105, 103, 32, 34, 119, 105, 100, 116, 104, 32, 48, 34])), (2, 1, (.str [101, 100, 105, 116, 32, 51, 32, 50, 32, 120])), (3, 1, (.str [101, 100, 105, 116, 32, 48, 32, 57, 32, 120])), (4, 1, (.str [102, 105, 120, 32, 50, 49])), (5, 1, (.str [102, 105, 120, 32, 45, 49])), (6, 1, (.str [112, 108, 97, 99, 101, 32, 57])), (7, 1, (.str [97, 116, 32, 57])), (8, 1, (.str [112, 108, 97, 99, 101, 32, 45, 49]))]) fun x8_2 h2 =>
 oP (oBuildSl h2 9 1 9 [(.str []), (.str []), (.str []), (.str []), (.str []), (.str []), (.str []), (.str []), (.str [])] [(0, 1, (.str [119, 111, 114, 100])), (1, 1, (.str [97, 114, 103])), (2, 1, (.str [97, 114, 103])), (3, 1, (.str [97, 114, 103])), (4, 1, (.str [97, 114, 103])), (5, 1, (.str [97, 114, 103])), (6, 1, (.str [111, 107, 32, 48, 32, 48])), (7, 1, (.str [111, 107, 32, 48])), (8, 1, (.str [111, 107, 32, 48, 32, 48]))]) fun x9_3 h3 =>
 oB (oLen x8_2) fun x12_4 =>
 oP (call n_correctorlaw22_within [x0, x12_4] h3) fun x13_5 h5 =>
 oB' (nx 15 h5) fun h6 =>
 oB (oIx 1 x8_2 x13_5) fun x16_7 =>
 oB (oLd h6 x16_7) fun x17_8 =>
 oB (bAdd (.str [116, 101, 120, 116, 32, 97, 98, 99, 10]) x17_8) fun x18_9 =>
 oB (bAdd x18_9 (.str [10, 115, 104, 111, 119, 10])) fun x19_10 =>
 oP (call n_shell_Run [x19_10] h6) fun x20_11 h11 =>
 oB (oIx 1 x9_3 x13_5) fun x23_12 =>
 oB (oLd h11 x23_12) fun x24_13 =>
 oB (bAdd (.str [111, 107, 32, 51, 10]) x24_13) fun x25_14 =>
 oB (bAdd x25_14 (.str [10, 111, 107, 32, 34, 97, 98, 99, 34, 10])) fun x26_15 =>
 oB (bEq .no x20_11 x26_15) fun x27_16 =>
 ask1 true (oLd h6 x16_7) x17_8 (
 ask1 true (oLd h6 x23_12) x24_13 (
 ask1 true (oLd h11 x23_12) x24_13 (
 some (x27_16, h11)))))
theorem o_correctorlaw22_ShellBad : FnOK Tryz.prog n_correctorlaw22_ShellBad (a1 f_correctorlaw22_ShellBad) := ok1 mixed Tryz.func3 (by kernel_rfl)
/- corrector/correctorlaw22.ShellFixes -/
noncomputable def f_correctorlaw22_ShellFixes (n : Nat) (call : Caller)  (x0 : AV) (h : AH) : Ans :=
 oP (call n_correctorlaw22_known [] h) fun x5_0 h0 =>
 oB (evQ (.un .not (.c x5_0)) .e h0) fun x6_1 =>
 ci x6_1 (
 some ((.bool false), h0)) (
 oP (call n_correctorlaw22_within [x0, (I 3)] h0) fun x8_2 h2 =>
 oP (oBuildSl h2 9 1 3 [(.str []), (.str []), (.str [])] [(0, 1, (.str [97, 58, 32, 91, 49])), (1, 1, (.str [97, 58, 32, 39, 120])), (2, 1, (.str [98, 58, 32, 32, 32]))]) fun x9_3 h3 =>
 oB (oIx 1 x9_3 x8_2) fun x11_4 =>
 oB (oLd h3 x11_4) fun x12_5 =>
 oP (oBuildSl h3 9 1 3 [(.str []), (.str []), (.str [])] [(0, 1, (.str [111, 107, 32, 49, 32, 34, 49, 58, 52, 32, 49, 58, 53, 32, 111, 112, 101, 110, 92, 110, 34])), (1, 1, (.str [111, 107, 32, 49, 32, 34, 49, 58, 52, 32, 49, 58, 54, 32, 113, 117, 111, 116, 101, 92, 110, 34])), (2, 1, (.str [111, 107, 32, 48, 32, 34, 34]))]) fun x13_6 h6 =>
 oB (oIx 1 x13_6 x8_2) fun x15_7 =>
 oB (oLd h6 x15_7) fun x16_8 =>
 oB' (nx 20 h6) fun h9 =>
 oB (bAdd (.str [116, 101, 120, 116, 32, 34]) x12_5) fun x18_10 =>
 oB (bAdd x18_10 (.str [34, 10, 100, 105, 97, 103, 115, 10, 102, 105, 120, 32, 57, 10, 100, 105, 97, 103, 115, 10, 108, 105, 110, 116, 10])) fun x19_11 =>
 oP (call n_shell_Run [x19_11] h9) fun x20_12 h12 =>
 oB (oLenS x12_5) fun x22_13 =>
 oP (call n_correctorlaw22_num [x22_13] h12) fun x23_14 h14 =>
 oB (bAdd (.str [111, 107, 32]) x23_14) fun x24_15 =>
 oB (bAdd x24_15 (.str [10])) fun x25_16 =>
 oB (bAdd x25_16 x16_8) fun x27_17 =>
 oB (bAdd x27_17 (.str [10])) fun x28_18 =>
 fl1 true (evF (.buildSlice 9 1 3 [(.str []), (.str []), (.str [])] [(0, 1, (.c (.str [111, 107, 32, 50, 32, 55]))), (1, 1, (.c (.str [111, 107, 32, 50, 32, 55]))), (2, 1, (.c (.str [111, 107, 32, 49, 32, 51])))]) .e) (Nat.add h6.next 12) fun x29_19 o19 =>
 oB' (lay1 (Nat.add h6.next 12) o19 h14) fun v20 =>
 oB (oIx 1 x29_19 x8_2) fun x31_21 =>
 oB' (lay1 (Nat.add h6.next 12) o19 h14) fun v22 =>
 oB (oLd v22 x31_21) fun x32_23 =>
 oB' (lay1 (Nat.add h6.next 12) o19 h14) fun v24 =>
 oB (bAdd x28_18 x32_23) fun x33_25 =>
 oB' (lay1 (Nat.add h6.next 12) o19 h14) fun v26 =>
 oB (bAdd x33_25 (.str [10, 111, 107, 32, 48, 32, 34, 34, 10, 111, 107, 10])) fun x34_27 =>
 oB' (lay1 (Nat.add h6.next 12) o19 h14) fun v28 =>
 oB (bEq .no x20_12 x34_27) fun x35_29 =>
 oB' (lay1 (Nat.add h6.next 12) o19 h9) fun v30 =>
 ask1 true (oLd v30 x31_21) x32_23 (
 oB' (lay1 (Nat.add h6.next 12) o19 h12) fun v31 =>
 ask1 true (oLd v31 x31_21) x32_23 (
 oB' (lay1 (Nat.add h6.next 12) o19 h14) fun v32 =>
 ask1 true (oLd v32 x31_21) x32_23 (
 oB' (lay1 (Nat.add h6.next 12) o19 h14) fun v33 =>
 some (x35_29, v33)))))
theorem o_correctorlaw22_ShellFixes : FnOK Tryz.prog n_correctorlaw22_ShellFixes (a1 f_correctorlaw22_ShellFixes) := ok1 mixed Tryz.func4 (by kernel_rfl)
/- corrector/correctorlaw22.known -/
noncomputable def f_correctorlaw22_known (n : Nat) (call : Caller)  (h : AH) : Ans :=
 oP (call n_shell_Run [(.str [116, 101, 120, 116, 32, 34, 97, 58, 32, 49, 34, 10, 103, 114, 97, 112, 104, 10, 101, 100, 105, 116, 32, 57, 32, 57, 32, 120, 10])] h) fun x1_0 h0 =>
 oB (bEq .no x1_0 (.str [111, 107, 32, 52, 10, 111, 107, 32, 49, 32, 34, 123, 92, 34, 97, 92, 34, 58, 32, 49, 125, 34, 10, 97, 114, 103, 10])) fun x2_1 =>
 some (x2_1, h0)
theorem o_correctorlaw22_known : FnOK Tryz.prog n_correctorlaw22_known (a0 f_correctorlaw22_known) := ok0 mixed Tryz.func5 (by kernel_rfl)
/- corrector/correctorlaw22.within -/
noncomputable def f_correctorlaw22_within (n : Nat) (call : Caller)  (x0 x1 : AV) (h : AH) : Ans :=
 oB (binAV .rem .no x0 x1) fun x8_0 =>
 oB (bLt x8_0 (I 0)) fun x10_1 =>
 jnF 1 (fun z5_2 h2 =>
 some (z5_2, h2)) fun j2 =>
 ci x10_1 (
 oB (bAdd x8_0 x1) fun x13_3 =>
 j2 x13_3 h) (
 j2 x8_0 h)
theorem o_correctorlaw22_within : FnOK Tryz.prog n_correctorlaw22_within (a2 f_correctorlaw22_within) := ok2 mixed Tryz.func6 (by kernel_rfl)
/- corrector/shell.Run -/
noncomputable def f_shell_Run (n : Nat) (call : Caller)  (x0 : AV) (h : AH) : Ans :=
 scF n fun m0 => jnF 4 (lpF 4 m0 fun f0 y6_0 y5_0 y4_0 y3_0 h0 =>
 oB (oLen y3_0) fun x33_1 =>
 oB (bEq .no y6_0 x33_1) fun x34_2 =>
 ci x34_2 (
 oB (evQ (.b2s (.c y5_0)) .e h0) fun x36_3 =>
 some (x36_3, h0)) (
 oB (oIx 1 y3_0 y6_0) fun x40_4 =>
 oB (oLd h0 x40_4) fun x41_5 =>
 oP (call n_shell_script_line [y4_0, x41_5] h0) fun x42_6 h6 =>
 oB (oLen y5_0) fun x44_7 =>
 oB (oLenS x42_6) fun x46_8 =>
 oB (bAdd x44_7 x46_8) fun x47_9 =>
 oB (bAdd x47_9 (I 1)) fun x48_10 =>
 oB (bGt x48_10 (I 131072)) fun x49_11 =>
 ci x49_11 (
 oB' (nx 9 h6) fun h12 =>
 oB (evQ (.b2s (.c y5_0)) .e h12) fun x51_13 =>
 oB (oLen y3_0) fun x53_14 =>
 oB (bSub x53_14 y6_0) fun x55_15 =>
 oP (call n_strings_Repeat [(.str [108, 111, 110, 103, 10]), x55_15] h12) fun x56_16 h16 =>
 oB (bAdd x51_13 x56_16) fun x57_17 =>
 ask1 true (evQ (.b2s (.c y5_0)) .e h12) x51_13 (
 ask1 true (evQ (.b2s (.c y5_0)) .e h16) x51_13 (
 some (x57_17, h16)))) (
 oP (evW (.append 5 1 1 [(U 0)] (.c y5_0) (.c x42_6)) .e h6) fun x60_18 h18 =>
 oP (oBuildSl h18 5 1 1 [(U 0)] [(0, 1, (U 10))]) fun x61_19 h19 =>
 oP (evW (.append 5 1 1 [(U 0)] (.c x60_18) (.c x61_19)) .e h19) fun x62_20 h20 =>
 oB (bAdd y6_0 (I 1)) fun x64_21 =>
 f0 x64_21 x62_20 y4_0 y3_0 h20))) fun f0 =>
 oP (call n_strings_Split [x0, (.str [10])] h) fun x9_22 h22 =>
 oB (oLen x9_22) fun x12_23 =>
 oB (bSub x12_23 (I 1)) fun x13_24 =>
 oB (oIx 1 x9_22 x13_24) fun x14_25 =>
 oB (oLd h22 x14_25) fun x15_26 =>
 oB (bEq .no x15_26 (.str [])) fun x16_27 =>
 jnF 2 (fun z3_28 z0_28 h28 =>
 oB (oLenS z0_28) fun x23_29 =>
 oB (bGt x23_29 (I 65536)) fun x24_30 =>
 oB (gq x24_30 false (some z3_28)) fun x26_31 =>
 oB (gq x24_30 false (oLen x26_31)) fun x27_32 =>
 oB (gq x24_30 false (bGt x27_32 (I 512))) fun x28_33 =>
 oB (oPick x24_30 (.bool true) x28_33) fun x29_34 =>
 ci x29_34 (
 some ((.str [108, 111, 110, 103, 10]), h28)) (
 oP (call n_shell_begun [] h28) fun x30_35 h35 =>
 oB (oLen z3_28) fun x33_36 =>
 oB (bEq .no (I 0) x33_36) fun x34_37 =>
 ci x34_37 (
 oB (evQ (.b2s (.c .nils)) .e h35) fun x36_38 =>
 some (x36_38, h35)) (
 oB (oIx 1 z3_28 (I 0)) fun x40_39 =>
 oB (oLd h35 x40_39) fun x41_40 =>
 oP (call n_shell_script_line [x30_35, x41_40] h35) fun x42_41 h41 =>
 oB (oLen .nils) fun x44_42 =>
 oB (oLenS x42_41) fun x46_43 =>
 oB (bAdd x44_42 x46_43) fun x47_44 =>
 oB (bAdd x47_44 (I 1)) fun x48_45 =>
 oB (bGt x48_45 (I 131072)) fun x49_46 =>
 ci x49_46 (
 oB' (nx 9 h41) fun h47 =>
 oB (evQ (.b2s (.c .nils)) .e h47) fun x51_48 =>
 oB (oLen z3_28) fun x53_49 =>
 oB (bSub x53_49 (I 0)) fun x55_50 =>
 oP (call n_strings_Repeat [(.str [108, 111, 110, 103, 10]), x55_50] h47) fun x56_51 h51 =>
 oB (bAdd x51_48 x56_51) fun x57_52 =>
 ask1 true (evQ (.b2s (.c .nils)) .e h47) x51_48 (
 ask1 true (evQ (.b2s (.c .nils)) .e h51) x51_48 (
 some (x57_52, h51)))) (
 oP (evW (.append 5 1 1 [(U 0)] (.c .nils) (.c x42_41)) .e h41) fun x60_53 h53 =>
 oP (oBuildSl h53 5 1 1 [(U 0)] [(0, 1, (U 10))]) fun x61_54 h54 =>
 oP (evW (.append 5 1 1 [(U 0)] (.c x60_53) (.c x61_54)) .e h54) fun x62_55 h55 =>
 oB (bAdd (I 0) (I 1)) fun x64_56 =>
 f0 x64_56 x62_55 x30_35 z3_28 h55)))) fun j28 =>
 ci x16_27 (
 oB (oLen x9_22) fun x19_57 =>
 oB (bSub x19_57 (I 1)) fun x20_58 =>
 oB (evQ (.sl 1 (.c x9_22) none (some (.c x20_58)) none) .e h22) fun x21_59 =>
 j28 x21_59 x0 h22) (
 j28 x9_22 x0 h22)
theorem o_shell_Run : FnOK Tryz.prog n_shell_Run (a1 f_shell_Run) := ok1 mixed Tryz.func7 (by kernel_rfl)
/- corrector/correctorlaw22.num -/
noncomputable def f_correctorlaw22_num (n : Nat) (call : Caller)  (x0 : AV) (h : AH) : Ans :=
 oB (bLt x0 (I 0)) fun x4_0 =>
 ci x4_0 (
 oB (bSub (I 0) x0) fun x6_1 =>
 oP (call n_correctorlaw22_num [x6_1] h) fun x7_2 h2 =>
 oB (bAdd (.str [45]) x7_2) fun x8_3 =>
 some (x8_3, h2)) (
 oB (bGe x0 (I 10)) fun x10_4 =>
 ci x10_4 (
 oB (binAV .quo .no x0 (I 10)) fun x12_5 =>
 oP (call n_correctorlaw22_num [x12_5] h) fun x13_6 h6 =>
 oB (binAV .rem .no x0 (I 10)) fun x15_7 =>
 oP (call n_correctorlaw22_num [x15_7] h6) fun x16_8 h8 =>
 oB (bAdd x13_6 x16_8) fun x17_9 =>
 some (x17_9, h8)) (
 oB (bAdd (I 48) x0) fun x19_10 =>
 oB (oInt .u8 x19_10) fun x20_11 =>
 oP (oBuildSl h 5 1 1 [(U 0)] [(0, 1, x20_11)]) fun x21_12 h12 =>
 oB (evQ (.b2s (.c x21_12)) .e h12) fun x22_13 =>
 some (x22_13, h12)))
theorem o_correctorlaw22_num : FnOK Tryz.prog n_correctorlaw22_num (a1 f_correctorlaw22_num) := ok1 mixed Tryz.func8 (by kernel_rfl)
/- strings.Split -/
noncomputable def f_strings_Split (n : Nat) (call : Caller)  (x0 x1 : AV) (h : AH) : Ans :=
 oP (call n_strings_genSplit [x0, x1, (I 0), (Ineg 0)] h) fun x7_0 h0 =>
 some (x7_0, h0)
theorem o_strings_Split : FnOK Tryz.prog n_strings_Split (a2 f_strings_Split) := ok2 mixed Tryz.func9 (by kernel_rfl)
/- corrector/shell.begun -/
noncomputable def f_shell_begun (n : Nat) (call : Caller)  (h : AH) : Ans :=
 oP (call n_config_Plain [] h) fun x2_0 h0 =>
 oB (oBuild [.nils, (.bool false), (.bool false), (.bool false), (.bool false), (.bool false), (.bool false), (.bool false), (.bool false), (.bool false), (.bool false), (I 0), (I 0), (I 0), (I 0), .nilm] [(1, 14, x2_0)]) fun x3_1 =>
 oP (oNew h0 40 (AV.cells x3_1)) fun x4_2 h2 =>
 oP (call n_shell_script_commands [x4_2] h2) fun x7_3 h3 =>
 oB (oNil x4_2) fun x8_4 =>
 oB (oFA 15 x8_4) fun x9_5 =>
 oP (oSt 1 h3 x9_5 x7_3) fun _ h6 =>
 some (x4_2, h6)
theorem o_shell_begun : FnOK Tryz.prog n_shell_begun (a0 f_shell_begun) := ok0 mixed Tryz.func10 (by kernel_rfl)
/- (*corrector/shell.script).line -/
noncomputable def f_shell_script_line (n : Nat) (call : Caller)  (x0 x1 : AV) (h : AH) : Ans :=
 oP (call n_shell_Words [x1] h) fun x14_0 h0 =>
 oB (oEx 0 x14_0) fun x15_1 =>
 oB (oEx 1 x14_0) fun x16_2 =>
 oB (bNe .no x16_2 (I 0)) fun x18_3 =>
 ci x18_3 (
 oP (call n_api_Errno_Error [x16_2] h0) fun x20_4 h4 =>
 some (x20_4, h4)) (
 oB (oLen x15_1) fun x22_5 =>
 oB (bEq .no x22_5 (I 0)) fun x23_6 =>
 ci x23_6 (
 some ((.str []), h0)) (
 oB' (nx 14 h0) fun h7 =>
 oB (oNil x0) fun x26_8 =>
 oB (oFA 15 x26_8) fun x27_9 =>
 oB (oLd h7 x27_9) fun x28_10 =>
 oB (oIx 1 x15_1 (I 0)) fun x30_11 =>
 oB (oLd h7 x30_11) fun x31_12 =>
 oB (evQ (.lookup .s (.agg [(.str []), .nilf]) true (.c x28_10) (.c x31_12)) .e h7) fun x32_13 =>
 oB (oEx 0 x32_13) fun x33_14 =>
 oB (oEx 1 x32_13) fun x34_15 =>
 fl1 true (evF (.new 48 [(.str []), .nilf]) .e) (Nat.add h0.next 11) fun x7_16 o16 =>
 oB' (lay1 (Nat.add h0.next 11) o16 h7) fun v17 =>
 oP (oSt 2 v17 x7_16 x33_14) fun x0_18 h18 =>
 ask1 true (oLd h7 x27_9) x28_10 (
 ask1 true (oLd h7 x30_11) x31_12 (
 ask1 true (evQ (.lookup .s (.agg [(.str []), .nilf]) true (.c x28_10) (.c x31_12)) .e h7) x32_13 (
 oB' (nx 12 h18) fun h19 =>
 oB (evQ (.sl 1 (.c x15_1) (some (.c (I 1))) none none) .e h19) fun x37_20 =>
 oB (oFA 0 x7_16) fun x38_21 =>
 oB (oLd h19 x38_21) fun x39_22 =>
 oP (call n_shell_split [x37_20, x39_22] h19) fun x40_23 h23 =>
 oB (oEx 0 x40_23) fun x41_24 =>
 oB (oEx 1 x40_23) fun x42_25 =>
 oB (oEx 2 x40_23) fun x43_26 =>
 oB (evQ (.un .not (.c x34_15)) .e h23) fun x45_27 =>
 oB (gq x45_27 false (some x43_26)) fun x47_28 =>
 oB (gq x45_27 false (evQ (.un .not (.c x47_28)) .e h23)) fun x48_29 =>
 oB (oPick x45_27 (.bool true) x48_29) fun x49_30 =>
 ci x49_30 (
 oP (call n_api_Errno_Error [(I 5)] h23) fun x50_31 h31 =>
 some (x50_31, h31)) (
 oB (oFA 1 x7_16) fun x51_32 =>
 oB (oLd h23 x51_32) fun x52_33 =>
 oP (wOf (.callV (.c x52_33) [(.c x41_24), (.c x42_25)]) call .e h23) fun x55_34 h34 =>
 some (x55_34, h34)))))))
theorem o_shell_script_line : FnOK Tryz.prog n_shell_script_line (a2 f_shell_script_line) := ok2 mixed Tryz.func11 (by kernel_rfl)
/- strings.Repeat -/
noncomputable def f_strings_Repeat (n : Nat) (call : Caller)  (x0 x1 : AV) (h : AH) : Ans :=
 jnF 2 (fun z1_0 z0_0 h0 =>
 oB (bLt z1_0 (I 0)) fun x18_1 =>
 jnF 2 (fun z1_2 z0_2 h2 =>
 oB (oLenS z0_2) fun x22_3 =>
 oB (oInt .u64 x22_3) fun x23_4 =>
 oB (oInt .u64 z1_2) fun x25_5 =>
 oP (call n_math_bits_Mul [x23_4, x25_5] h2) fun x26_6 h6 =>
 oB (oEx 0 x26_6) fun x27_7 =>
 oB (oEx 1 x26_6) fun x28_8 =>
 oB (bGt x27_7 (.int .u64 0)) fun x30_9 =>
 oB (gq x30_9 false (some x28_8)) fun x32_10 =>
 oB (gq x30_9 false (bGt x32_10 (.int .u64 9223372036854775807))) fun x33_11 =>
 oB (oPick x30_9 (.bool true) x33_11) fun x34_12 =>
 jnF 2 (fun z6_13 z0_13 h13 =>
 oB (oInt .i64 z6_13) fun x37_14 =>
 oB (oLenS z0_13) fun x39_15 =>
 oB (bEq .no x39_15 (I 0)) fun x40_16 =>
 ci x40_16 (
 some ((.str []), h13)) (
 oB (oIxS z0_13 (I 0)) fun x42_17 =>
 jnF 2 (fun z7_18 z0_18 h18 =>
 oB (bGt z7_18 (I 8192)) fun x96_19 =>
 jnF 3 (fun z8_20 z7_20 z0_20 h20 =>
 oP (oNew h20 59 [.nilp, .nils]) fun x9_21 h21 =>
 oP (call n_strings_Builder_Grow [x9_21, z7_20] h21) fun x108_22 h22 =>
 oP (call n_strings_Builder_WriteString [x9_21, z0_20] h22) fun x110_23 h23 =>
 jnF 1 (fun z9_24 h24 =>
 oP (call n_strings_Builder_String [z9_24] h24) fun x124_25 h25 =>
 some (x124_25, h25)) fun j24 =>
 lpF 3 n (fun f26 y9_26 y8_26 y7_26 h26 =>
 oP (call n_strings_Builder_Len [y9_26] h26) fun x111_27 h27 =>
 oB (bLt x111_27 y7_26) fun x113_28 =>
 ci x113_28 (
 jnF 3 (fun z9_29 z8_29 z7_29 h29 =>
 f26 z9_29 z8_29 z7_29 h29) fun j29 =>
 oP (call n_strings_Builder_Len [y9_26] h27) fun x115_30 h30 =>
 oB (bSub y7_26 x115_30) fun x116_31 =>
 oP (call n_strings_Builder_Len [y9_26] h30) fun x117_32 h32 =>
 oB (evQ (.minI (.c x116_31) [(.c x117_32), (.c y8_26)]) .e h32) fun x119_33 =>
 oP (call n_strings_Builder_String [y9_26] h32) fun x120_34 h34 =>
 oB (oSlS x120_34 none (some x119_33)) fun x122_35 =>
 oP (call n_strings_Builder_WriteString [y9_26, x122_35] h34) fun x123_36 h36 =>
 j29 y9_26 y8_26 y7_26 h36) (
 j24 y9_26 h27)) x9_21 z8_20 z7_20 h23) fun j20 =>
 ci x96_19 (
 oB (oLenS z0_18) fun x98_37 =>
 oB (binAV .quo .no (I 8192) x98_37) fun x99_38 =>
 oB (oLenS z0_18) fun x101_39 =>
 oB (binAV .mul .no x99_38 x101_39) fun x102_40 =>
 oB (bEq .no x102_40 (I 0)) fun x104_41 =>
 jnF 3 (fun z8_42 z7_42 z0_42 h42 =>
 j20 z8_42 z7_42 z0_42 h42) fun j42 =>
 ci x104_41 (
 oB (oLenS z0_18) fun x106_43 =>
 j42 x106_43 z7_18 z0_18 h18) (
 j42 x102_40 z7_18 z0_18 h18)) (
 j20 z7_18 z7_18 z0_18 h18)) fun j18 =>
 oB (bEq .no x42_17 (U 32)) fun x44_44 =>
 jnF 3 (fun z43_45 z7_45 z0_45 h45 =>
 jnF 2 (fun z7_46 z0_46 h46 =>
 j18 z7_46 z0_46 h46) fun j46 =>
 ci z43_45 (
 jnF 2 (fun z7_47 z0_47 h47 =>
 j46 z7_47 z0_47 h47) fun j47 =>
 oB (bLe z7_45 (I 128)) fun x51_48 =>
 oB (gq x51_48 true (some z0_45)) fun x53_49 =>
 oP (gw x51_48 true (call n_strings_HasPrefix [(.str [32, 32, 32, 32, 32, 32, 32, 32, 32, 32, 32, 32, 32, 32, 32, 32, 32, 32, 32, 32, 32, 32, 32, 32, 32, 32, 32, 32, 32, 32, 32, 32, 32, 32, 32, 32, 32, 32, 32, 32, 32, 32, 32, 32, 32, 32, 32, 32, 32, 32, 32, 32, 32, 32, 32, 32, 32, 32, 32, 32, 32, 32, 32, 32, 32, 32, 32, 32, 32, 32, 32, 32, 32, 32, 32, 32, 32, 32, 32, 32, 32, 32, 32, 32, 32, 32, 32, 32, 32, 32, 32, 32, 32, 32, 32, 32, 32, 32, 32, 32, 32, 32, 32, 32, 32, 32, 32, 32, 32, 32, 32, 32, 32, 32, 32, 32, 32, 32, 32, 32, 32, 32, 32, 32, 32, 32, 32, 32]), x53_49] h45) h45) fun x54_50 h50 =>
 oB (oPick x51_48 x54_50 (.bool false)) fun x55_51 =>
 ci x55_51 (
 oB (oSlS (.str [32, 32, 32, 32, 32, 32, 32, 32, 32, 32, 32, 32, 32, 32, 32, 32, 32, 32, 32, 32, 32, 32, 32, 32, 32, 32, 32, 32, 32, 32, 32, 32, 32, 32, 32, 32, 32, 32, 32, 32, 32, 32, 32, 32, 32, 32, 32, 32, 32, 32, 32, 32, 32, 32, 32, 32, 32, 32, 32, 32, 32, 32, 32, 32, 32, 32, 32, 32, 32, 32, 32, 32, 32, 32, 32, 32, 32, 32, 32, 32, 32, 32, 32, 32, 32, 32, 32, 32, 32, 32, 32, 32, 32, 32, 32, 32, 32, 32, 32, 32, 32, 32, 32, 32, 32, 32, 32, 32, 32, 32, 32, 32, 32, 32, 32, 32, 32, 32, 32, 32, 32, 32, 32, 32, 32, 32, 32, 32]) none (some z7_45)) fun x57_52 =>
 some (x57_52, h50)) (
 oB (bLe z7_45 (I 128)) fun x60_53 =>
 oB (gq x60_53 true (some z0_45)) fun x62_54 =>
 oP (gw x60_53 true (call n_strings_HasPrefix [(.str [45, 45, 45, 45, 45, 45, 45, 45, 45, 45, 45, 45, 45, 45, 45, 45, 45, 45, 45, 45, 45, 45, 45, 45, 45, 45, 45, 45, 45, 45, 45, 45, 45, 45, 45, 45, 45, 45, 45, 45, 45, 45, 45, 45, 45, 45, 45, 45, 45, 45, 45, 45, 45, 45, 45, 45, 45, 45, 45, 45, 45, 45, 45, 45, 45, 45, 45, 45, 45, 45, 45, 45, 45, 45, 45, 45, 45, 45, 45, 45, 45, 45, 45, 45, 45, 45, 45, 45, 45, 45, 45, 45, 45, 45, 45, 45, 45, 45, 45, 45, 45, 45, 45, 45, 45, 45, 45, 45, 45, 45, 45, 45, 45, 45, 45, 45, 45, 45, 45, 45, 45, 45, 45, 45, 45, 45, 45, 45]), x62_54] h50) h50) fun x63_55 h55 =>
 oB (oPick x60_53 x63_55 (.bool false)) fun x64_56 =>
 ci x64_56 (
 oB (oSlS (.str [45, 45, 45, 45, 45, 45, 45, 45, 45, 45, 45, 45, 45, 45, 45, 45, 45, 45, 45, 45, 45, 45, 45, 45, 45, 45, 45, 45, 45, 45, 45, 45, 45, 45, 45, 45, 45, 45, 45, 45, 45, 45, 45, 45, 45, 45, 45, 45, 45, 45, 45, 45, 45, 45, 45, 45, 45, 45, 45, 45, 45, 45, 45, 45, 45, 45, 45, 45, 45, 45, 45, 45, 45, 45, 45, 45, 45, 45, 45, 45, 45, 45, 45, 45, 45, 45, 45, 45, 45, 45, 45, 45, 45, 45, 45, 45, 45, 45, 45, 45, 45, 45, 45, 45, 45, 45, 45, 45, 45, 45, 45, 45, 45, 45, 45, 45, 45, 45, 45, 45, 45, 45, 45, 45, 45, 45, 45, 45]) none (some z7_45)) fun x66_57 =>
 some (x66_57, h55)) (
 oB (bLe z7_45 (I 64)) fun x69_58 =>
 oB (gq x69_58 true (some z0_45)) fun x71_59 =>
 oP (gw x69_58 true (call n_strings_HasPrefix [(.str [48, 48, 48, 48, 48, 48, 48, 48, 48, 48, 48, 48, 48, 48, 48, 48, 48, 48, 48, 48, 48, 48, 48, 48, 48, 48, 48, 48, 48, 48, 48, 48, 48, 48, 48, 48, 48, 48, 48, 48, 48, 48, 48, 48, 48, 48, 48, 48, 48, 48, 48, 48, 48, 48, 48, 48, 48, 48, 48, 48, 48, 48, 48, 48]), x71_59] h55) h55) fun x72_60 h60 =>
 oB (oPick x69_58 x72_60 (.bool false)) fun x73_61 =>
 ci x73_61 (
 oB (oSlS (.str [48, 48, 48, 48, 48, 48, 48, 48, 48, 48, 48, 48, 48, 48, 48, 48, 48, 48, 48, 48, 48, 48, 48, 48, 48, 48, 48, 48, 48, 48, 48, 48, 48, 48, 48, 48, 48, 48, 48, 48, 48, 48, 48, 48, 48, 48, 48, 48, 48, 48, 48, 48, 48, 48, 48, 48, 48, 48, 48, 48, 48, 48, 48, 48]) none (some z7_45)) fun x75_62 =>
 some (x75_62, h60)) (
 oB (bLe z7_45 (I 128)) fun x78_63 =>
 oB (gq x78_63 true (some z0_45)) fun x80_64 =>
 oP (gw x78_63 true (call n_strings_HasPrefix [(.str [61, 61, 61, 61, 61, 61, 61, 61, 61, 61, 61, 61, 61, 61, 61, 61, 61, 61, 61, 61, 61, 61, 61, 61, 61, 61, 61, 61, 61, 61, 61, 61, 61, 61, 61, 61, 61, 61, 61, 61, 61, 61, 61, 61, 61, 61, 61, 61, 61, 61, 61, 61, 61, 61, 61, 61, 61, 61, 61, 61, 61, 61, 61, 61, 61, 61, 61, 61, 61, 61, 61, 61, 61, 61, 61, 61, 61, 61, 61, 61, 61, 61, 61, 61, 61, 61, 61, 61, 61, 61, 61, 61, 61, 61, 61, 61, 61, 61, 61, 61, 61, 61, 61, 61, 61, 61, 61, 61, 61, 61, 61, 61, 61, 61, 61, 61, 61, 61, 61, 61, 61, 61, 61, 61, 61, 61, 61, 61]), x80_64] h60) h60) fun x81_65 h65 =>
 oB (oPick x78_63 x81_65 (.bool false)) fun x82_66 =>
 ci x82_66 (
 oB (oSlS (.str [61, 61, 61, 61, 61, 61, 61, 61, 61, 61, 61, 61, 61, 61, 61, 61, 61, 61, 61, 61, 61, 61, 61, 61, 61, 61, 61, 61, 61, 61, 61, 61, 61, 61, 61, 61, 61, 61, 61, 61, 61, 61, 61, 61, 61, 61, 61, 61, 61, 61, 61, 61, 61, 61, 61, 61, 61, 61, 61, 61, 61, 61, 61, 61, 61, 61, 61, 61, 61, 61, 61, 61, 61, 61, 61, 61, 61, 61, 61, 61, 61, 61, 61, 61, 61, 61, 61, 61, 61, 61, 61, 61, 61, 61, 61, 61, 61, 61, 61, 61, 61, 61, 61, 61, 61, 61, 61, 61, 61, 61, 61, 61, 61, 61, 61, 61, 61, 61, 61, 61, 61, 61, 61, 61, 61, 61, 61, 61]) none (some z7_45)) fun x84_67 =>
 some (x84_67, h65)) (
 oB (bLe z7_45 (I 64)) fun x87_68 =>
 oB (gq x87_68 true (some z0_45)) fun x89_69 =>
 oP (gw x87_68 true (call n_strings_HasPrefix [(.str [9, 9, 9, 9, 9, 9, 9, 9, 9, 9, 9, 9, 9, 9, 9, 9, 9, 9, 9, 9, 9, 9, 9, 9, 9, 9, 9, 9, 9, 9, 9, 9, 9, 9, 9, 9, 9, 9, 9, 9, 9, 9, 9, 9, 9, 9, 9, 9, 9, 9, 9, 9, 9, 9, 9, 9, 9, 9, 9, 9, 9, 9, 9, 9]), x89_69] h65) h65) fun x90_70 h70 =>
 oB (oPick x87_68 x90_70 (.bool false)) fun x91_71 =>
 ci x91_71 (
 oB (oSlS (.str [9, 9, 9, 9, 9, 9, 9, 9, 9, 9, 9, 9, 9, 9, 9, 9, 9, 9, 9, 9, 9, 9, 9, 9, 9, 9, 9, 9, 9, 9, 9, 9, 9, 9, 9, 9, 9, 9, 9, 9, 9, 9, 9, 9, 9, 9, 9, 9, 9, 9, 9, 9, 9, 9, 9, 9, 9, 9, 9, 9, 9, 9, 9, 9]) none (some z7_45)) fun x93_72 =>
 some (x93_72, h70)) (
 j47 z7_45 z0_45 h70)))))) (
 j46 z7_45 z0_45 h45)) fun j45 =>
 ci x44_44 (
 j45 x44_44 x37_14 z0_13 h13) (
 oB (bEq .no x42_17 (U 45)) fun x45_73 =>
 jnF 3 (fun z43_74 z7_74 z0_74 h74 =>
 j45 z43_74 z7_74 z0_74 h74) fun j74 =>
 ci x45_73 (
 j74 x45_73 x37_14 z0_13 h13) (
 oB (bEq .no x42_17 (U 48)) fun x46_75 =>
 jnF 3 (fun z43_76 z7_76 z0_76 h76 =>
 j74 z43_76 z7_76 z0_76 h76) fun j76 =>
 ci x46_75 (
 j76 x46_75 x37_14 z0_13 h13) (
 oB (bEq .no x42_17 (U 61)) fun x47_77 =>
 jnF 3 (fun z43_78 z7_78 z0_78 h78 =>
 j76 z43_78 z7_78 z0_78 h78) fun j78 =>
 ci x47_77 (
 j78 x47_77 x37_14 z0_13 h13) (
 oB (bEq .no x42_17 (U 9)) fun x48_79 =>
 j78 x48_79 x37_14 z0_13 h13)))))) fun j13 =>
 ci x34_12 (
 oB (some (.iface 9 (.str [115, 116, 114, 105, 110, 103, 115, 58, 32, 82, 101, 112, 101, 97, 116, 32, 111, 117, 116, 112, 117, 116, 32, 108, 101, 110, 103, 116, 104, 32, 111, 118, 101, 114, 102, 108, 111, 119]))) fun x35_80 =>
 oB (evQ (.bad) .e h6) fun _ =>
 j13 x28_8 z0_2 h6) (
 j13 x28_8 z0_2 h6)) fun j2 =>
 ci x18_1 (
 oB (some (.iface 9 (.str [115, 116, 114, 105, 110, 103, 115, 58, 32, 110, 101, 103, 97, 116, 105, 118, 101, 32, 82, 101, 112, 101, 97, 116, 32, 99, 111, 117, 110, 116]))) fun x19_82 =>
 oB (evQ (.bad) .e h0) fun _ =>
 j2 z1_0 z0_0 h0) (
 j2 z1_0 z0_0 h0)) fun j0 =>
 oB (bEq .no x1 (I 0)) fun x13_84 =>
 ci x13_84 (
 some ((.str []), h)) (
 oB (bEq .no x1 (I 1)) fun x15_85 =>
 ci x15_85 (
 some (x0, h)) (
 j0 x1 x0 h))
theorem o_strings_Repeat : FnOK Tryz.prog n_strings_Repeat (a2 f_strings_Repeat) := ok2 mixed Tryz.func12 (by kernel_rfl)
/- strings.genSplit -/
noncomputable def f_strings_genSplit (n : Nat) (call : Caller)  (x0 x1 x2 x3 : AV) (h : AH) : Ans :=
 oB (bEq .no x3 (I 0)) fun x13_0 =>
 ci x13_0 (
 some (.nils, h)) (
 oB (bEq .no x1 (.str [])) fun x15_1 =>
 ci x15_1 (
 oP (call n_strings_explode [x0, x3] h) fun x18_2 h2 =>
 some (x18_2, h2)) (
 oB (bLt x3 (I 0)) fun x20_3 =>
 jnF 4 (fun z3_4 z2_4 z1_4 z0_4 h4 =>
 oB (oLenS z0_4) fun x27_5 =>
 oB (bAdd x27_5 (I 1)) fun x28_6 =>
 oB (evQ (.minI (.c z3_4) [(.c x28_6)]) .e h4) fun x29_7 =>
 oP (evW (.mkSlice 9 1 16 [(.str [])] (.c x29_7) (.c x29_7)) .e h4) fun x31_8 h8 =>
 oB (bSub x29_7 (I 1)) fun x33_9 =>
 jnF 3 (fun z10_10 z9_10 z0_10 h10 =>
 oB (oIx 1 z9_10 z10_10) fun x61_11 =>
 oP (oSt 1 h10 x61_11 z0_10) fun _ h12 =>
 oB (bAdd z10_10 (I 1)) fun x64_13 =>
 oB (evQ (.sl 1 (.c z9_10) none (some (.c x64_13)) none) .e h12) fun x65_14 =>
 some (x65_14, h12)) fun j10 =>
 lpF 6 n (fun f15 y10_15 y9_15 y3_15 y2_15 y1_15 y0_15 h15 =>
 oB (bLt y10_15 y3_15) fun x36_16 =>
 ci x36_16 (
 jnF 6 (fun z10_17 z9_17 z3_17 z2_17 z1_17 z0_17 h17 =>
 f15 z10_17 z9_17 z3_17 z2_17 z1_17 z0_17 h17) fun j17 =>
 oP (call n_strings_Index [y0_15, y1_15] h15) fun x39_18 h18 =>
 oB (bLt x39_18 (I 0)) fun x41_19 =>
 ci x41_19 (
 j10 y10_15 y9_15 y0_15 h18) (
 oB (bAdd x39_18 y2_15) fun x47_20 =>
 oB (oSlS y0_15 none (some x47_20)) fun x48_21 =>
 oB (oIx 1 y9_15 y10_15) fun x49_22 =>
 oP (oSt 1 h18 x49_22 x48_21) fun _ h23 =>
 oB (oLenS y1_15) fun x53_24 =>
 oB (bAdd x39_18 x53_24) fun x54_25 =>
 oB (oSlS y0_15 (some x54_25) none) fun x55_26 =>
 oB (bAdd y10_15 (I 1)) fun x57_27 =>
 j17 x57_27 y9_15 y3_15 y2_15 y1_15 x55_26 h23)) (
 j10 y10_15 y9_15 y0_15 h15)) (I 0) x31_8 x33_9 z2_4 z1_4 z0_4 h8) fun j4 =>
 ci x20_3 (
 oP (call n_strings_Count [x0, x1] h) fun x23_28 h28 =>
 oB (bAdd x23_28 (I 1)) fun x24_29 =>
 j4 x24_29 x2 x1 x0 h28) (
 j4 x3 x2 x1 x0 h)))
theorem o_strings_genSplit : FnOK Tryz.prog n_strings_genSplit (a4 f_strings_genSplit) := ok4 mixed Tryz.func13 (by kernel_rfl)
/- corrector/config.Plain -/
noncomputable def f_config_Plain (n : Nat) (call : Caller)  (h : AH) : Ans :=
 oP (oNew h 36 [(.bool false), (.bool false), (.bool false), (.bool false), (.bool false), (.bool false), (.bool false), (.bool false), (.bool false), (.bool false), (I 0), (I 0), (I 0), (I 0)]) fun x0_0 h0 =>
 oB (oBuild [(.bool false), (.bool false), (.bool false), (.bool false), (.bool false), (.bool false), (.bool false), (.bool false), (.bool false), (.bool false), (I 0), (I 0), (I 0), (I 0)] [(10, 1, (I 80)), (11, 1, (I 2)), (12, 1, (I 2)), (13, 1, (I 20))]) fun x3_1 =>
 oP (oNew h0 36 [(.bool false), (.bool false), (.bool false), (.bool false), (.bool false), (.bool false), (.bool false), (.bool false), (.bool false), (.bool false), (I 0), (I 0), (I 0), (I 0)]) fun x1_2 h2 =>
 oP (oSt 14 h2 x1_2 x3_1) fun _ h3 =>
 jnF 2 (fun z1_4 z0_4 h4 =>
 oB (oLdN 14 h4 z1_4) fun x17_5 =>
 oP (oSt 14 h4 z0_4 x17_5) fun _ h6 =>
 retT [(0, some (some 14))] (sput 0 Tr.e z0_4) h6) fun j4 =>
 lpF 3 n (fun f7 y4_7 y1_7 y0_7 h7 =>
 oB (bLt y4_7 (I 10)) fun x5_8 =>
 ci x5_8 (
 jnF 3 (fun z4_9 z1_9 z0_9 h9 =>
 oB (bAdd z4_9 (I 1)) fun x16_10 =>
 f7 x16_10 z1_9 z0_9 h9) fun j9 =>
 oB (bGt y4_7 (I 0)) fun x9_11 =>
 oB (gq x9_11 true (some y4_7)) fun x11_12 =>
 oB (gq x9_11 true (bNe .no x11_12 (I 5))) fun x12_13 =>
 oB (oPick x9_11 x12_13 (.bool false)) fun x13_14 =>
 oB (oFA 0 y1_7) fun x14_15 =>
 oB (evQ (.idxArr 10 1 (.c x14_15) (.c y4_7)) .e h7) fun x15_16 =>
 oP (oSt 1 h7 x15_16 x13_14) fun _ h17 =>
 j9 y4_7 y1_7 y0_7 h17) (
 j4 y1_7 y0_7 h7)) (I 0) x1_2 x0_0 h3
theorem o_config_Plain : FnOK Tryz.prog n_config_Plain (a0 f_config_Plain) := ok0 mixed Tryz.func14 (by kernel_rfl)
/- (*corrector/shell.script).commands -/
noncomputable def f_shell_script_commands (n : Nat) (call : Caller)  (x0 : AV) (h : AH) : Ans :=
 oP (evW (.mkMap) .e h) fun x3_0 h0 =>
 oB (some (.fn n_shell_script_text [x0] [])) fun x5_1 =>
 oB (oBuild [(.str []), .nilf] [(0, 1, (.str [84])), (1, 1, x5_1)]) fun x6_2 =>
 oP (evW (.mapUpd .s (.c x3_0) (.c (.str [116, 101, 120, 116])) (.c x6_2)) .e h0) fun _ h3 =>
 oB (some (.fn n_shell_script_empty [x0] [])) fun x8_4 =>
 oB (oBuild [(.str []), .nilf] [(0, 1, (.str [])), (1, 1, x8_4)]) fun x9_5 =>
 oP (evW (.mapUpd .s (.c x3_0) (.c (.str [110, 101, 119])) (.c x9_5)) .e h3) fun _ h6 =>
 oB (some (.fn n_shell_script_config [x0] [])) fun x11_7 =>
 oB (oBuild [(.str []), .nilf] [(0, 1, (.str [84])), (1, 1, x11_7)]) fun x12_8 =>
 oP (evW (.mapUpd .s (.c x3_0) (.c (.str [99, 111, 110, 102, 105, 103])) (.c x12_8)) .e h6) fun _ h9 =>
 oB (some (.fn n_shell_script_tokens [x0] [])) fun x14_10 =>
 oB (oBuild [(.str []), .nilf] [(0, 1, (.str [])), (1, 1, x14_10)]) fun x15_11 =>
 oP (evW (.mapUpd .s (.c x3_0) (.c (.str [116, 111, 107, 101, 110, 115])) (.c x15_11)) .e h9) fun _ h12 =>
 oB (some (.fn n_shell_script_tree [x0] [])) fun x17_13 =>
 oB (oBuild [(.str []), .nilf] [(0, 1, (.str [])), (1, 1, x17_13)]) fun x18_14 =>
 oP (evW (.mapUpd .s (.c x3_0) (.c (.str [116, 114, 101, 101])) (.c x18_14)) .e h12) fun _ h15 =>
 oB (some (.fn n_shell_script_diags [x0] [])) fun x20_16 =>
 oB (oBuild [(.str []), .nilf] [(0, 1, (.str [])), (1, 1, x20_16)]) fun x21_17 =>
 oP (evW (.mapUpd .s (.c x3_0) (.c (.str [100, 105, 97, 103, 115])) (.c x21_17)) .e h15) fun _ h18 =>
 oB (some (.fn n_shell_script_graph [x0] [])) fun x23_19 =>
 oB (oBuild [(.str []), .nilf] [(0, 1, (.str [])), (1, 1, x23_19)]) fun x24_20 =>
 oP (evW (.mapUpd .s (.c x3_0) (.c (.str [103, 114, 97, 112, 104])) (.c x24_20)) .e h18) fun _ h21 =>
 oB (some (.fn n_shell_script_lint [x0] [])) fun x26_22 =>
 oB (oBuild [(.str []), .nilf] [(0, 1, (.str [])), (1, 1, x26_22)]) fun x27_23 =>
 oP (evW (.mapUpd .s (.c x3_0) (.c (.str [108, 105, 110, 116])) (.c x27_23)) .e h21) fun _ h24 =>
 oB (some (.fn n_shell_script_fix [x0] [])) fun x29_25 =>
 oB (oBuild [(.str []), .nilf] [(0, 1, (.str [110])), (1, 1, x29_25)]) fun x30_26 =>
 oP (evW (.mapUpd .s (.c x3_0) (.c (.str [102, 105, 120])) (.c x30_26)) .e h24) fun _ h27 =>
 oB (some (.fn n_shell_script_place [x0] [])) fun x32_28 =>
 oB (oBuild [(.str []), .nilf] [(0, 1, (.str [110])), (1, 1, x32_28)]) fun x33_29 =>
 oP (evW (.mapUpd .s (.c x3_0) (.c (.str [112, 108, 97, 99, 101])) (.c x33_29)) .e h27) fun _ h30 =>
 oB (some (.fn n_shell_script_at [x0] [])) fun x35_31 =>
 oB (oBuild [(.str []), .nilf] [(0, 1, (.str [110])), (1, 1, x35_31)]) fun x36_32 =>
 oP (evW (.mapUpd .s (.c x3_0) (.c (.str [97, 116])) (.c x36_32)) .e h30) fun _ h33 =>
 oB (some (.fn n_shell_script_edit [x0] [])) fun x38_34 =>
 oB (oBuild [(.str []), .nilf] [(0, 1, (.str [110, 110, 84])), (1, 1, x38_34)]) fun x39_35 =>
 oP (evW (.mapUpd .s (.c x3_0) (.c (.str [101, 100, 105, 116])) (.c x39_35)) .e h33) fun _ h36 =>
 oB (some (.fn n_shell_script_show [x0] [])) fun x41_37 =>
 oB (oBuild [(.str []), .nilf] [(0, 1, (.str [])), (1, 1, x41_37)]) fun x42_38 =>
 oP (evW (.mapUpd .s (.c x3_0) (.c (.str [115, 104, 111, 119])) (.c x42_38)) .e h36) fun _ h39 =>
 some (x3_0, h39)
theorem o_shell_script_commands : FnOK Tryz.prog n_shell_script_commands (a1 f_shell_script_commands) := ok1 mixed Tryz.func15 (by kernel_rfl)
/- corrector/shell.Words -/
noncomputable def f_shell_Words (n : Nat) (call : Caller)  (x0 : AV) (h : AH) : Ans :=
 jnF 1 (fun z4_0 h0 =>
 some (.tup [z4_0, (I 0)], h0)) fun j0 =>
 lpF 3 n (fun f1 y5_1 y4_1 y0_1 h1 =>
 oB (oLenS y0_1) fun x12_2 =>
 oB (bLt y5_1 x12_2) fun x13_3 =>
 ci x13_3 (
 jnF 3 (fun z5_4 z4_4 z0_4 h4 =>
 f1 z5_4 z4_4 z0_4 h4) fun j4 =>
 oB (oIxS y0_1 y5_1) fun x16_5 =>
 oB (bEq .no x16_5 (U 32)) fun x17_6 =>
 oB (gq x17_6 false (some y0_1)) fun x19_7 =>
 oB (gq x17_6 false (some y5_1)) fun x20_8 =>
 oB (gq x17_6 false (oIxS x19_7 x20_8)) fun x21_9 =>
 oB (gq x17_6 false (bEq .no x21_9 (U 9))) fun x22_10 =>
 oB (oPick x17_6 (.bool true) x22_10) fun x23_11 =>
 ci x23_11 (
 oB (bAdd y5_1 (I 1)) fun x25_12 =>
 j4 x25_12 y4_1 y0_1 h1) (
 oB (oIxS y0_1 y5_1) fun x28_13 =>
 oB (bEq .no x28_13 (U 35)) fun x29_14 =>
 ci x29_14 (
 j0 y4_1 h1) (
 oB (oIxS y0_1 y5_1) fun x32_15 =>
 oB (bEq .no x32_15 (U 34)) fun x33_16 =>
 ci x33_16 (
 oB (bAdd y5_1 (I 1)) fun x37_17 =>
 oB (oSlS y0_1 (some x37_17) none) fun x38_18 =>
 oP (call n_shell_quoted [x38_18] h1) fun x39_19 h19 =>
 oB (oEx 0 x39_19) fun x40_20 =>
 oB (oEx 1 x39_19) fun x41_21 =>
 oB (oEx 2 x39_19) fun x42_22 =>
 oB (bAdd (I 1) x41_21) fun x45_23 =>
 oB (bAdd y5_1 x45_23) fun x46_24 =>
 oB (evQ (.un .not (.c x42_22)) .e h19) fun x48_25 =>
 oB (gq x48_25 false (some x46_24)) fun x50_26 =>
 oB (gq x48_25 false (some y0_1)) fun x51_27 =>
 oB (gq x48_25 false (oLenS x51_27)) fun x52_28 =>
 oB (gq x48_25 false (bLt x50_26 x52_28)) fun x53_29 =>
 oB (gq x48_25 false (some x53_29)) fun x54_30 =>
 oB (gq x54_30 true (some y0_1)) fun x55_31 =>
 oB (gq x54_30 true (some x46_24)) fun x56_32 =>
 oB (gq x54_30 true (oIxS x55_31 x56_32)) fun x57_33 =>
 oB (gq x54_30 true (bNe .no x57_33 (U 32))) fun x58_34 =>
 oB (gq x48_25 false (oPick x54_30 x58_34 (.bool false))) fun x59_35 =>
 oB (gq x48_25 false (some x59_35)) fun x60_36 =>
 oB (gq x60_36 true (some y0_1)) fun x61_37 =>
 oB (gq x60_36 true (some x46_24)) fun x62_38 =>
 oB (gq x60_36 true (oIxS x61_37 x62_38)) fun x63_39 =>
 oB (gq x60_36 true (bNe .no x63_39 (U 9))) fun x64_40 =>
 oB (gq x48_25 false (oPick x60_36 x64_40 (.bool false))) fun x65_41 =>
 oB (oPick x48_25 (.bool true) x65_41) fun x66_42 =>
 ci x66_42 (
 some (.tup [.nils, (I 5)], h19)) (
 oP (oBuildSl h19 9 1 1 [(.str [])] [(0, 1, x40_20)]) fun x69_43 h43 =>
 oP (evW (.append 9 1 16 [(.str [])] (.c y4_1) (.c x69_43)) .e h43) fun x70_44 h44 =>
 j4 x46_24 x70_44 y0_1 h44)) (
 jnF 4 (fun z9_45 z5_45 z4_45 z0_45 h45 =>
 oB (oSlS z0_45 (some z9_45) (some z5_45)) fun x98_46 =>
 oP (oBuildSl h45 9 1 1 [(.str [])] [(0, 1, x98_46)]) fun x99_47 h47 =>
 oP (evW (.append 9 1 16 [(.str [])] (.c z4_45) (.c x99_47)) .e h47) fun x100_48 h48 =>
 j4 z5_45 x100_48 z0_45 h48) fun j45 =>
 lpF 4 n (fun f49 y9_49 y5_49 y4_49 y0_49 h49 =>
 oB (oLenS y0_49) fun x74_50 =>
 oB (bLt y5_49 x74_50) fun x75_51 =>
 oB (gq x75_51 true (some y0_49)) fun x77_52 =>
 oB (gq x75_51 true (some y5_49)) fun x78_53 =>
 oB (gq x75_51 true (oIxS x77_52 x78_53)) fun x79_54 =>
 oB (gq x75_51 true (bNe .no x79_54 (U 32))) fun x80_55 =>
 oB (oPick x75_51 x80_55 (.bool false)) fun x81_56 =>
 oB (gq x81_56 true (some y0_49)) fun x83_57 =>
 oB (gq x81_56 true (some y5_49)) fun x84_58 =>
 oB (gq x81_56 true (oIxS x83_57 x84_58)) fun x85_59 =>
 oB (gq x81_56 true (bNe .no x85_59 (U 9))) fun x86_60 =>
 oB (oPick x81_56 x86_60 (.bool false)) fun x87_61 =>
 ci x87_61 (
 jnF 4 (fun z9_62 z5_62 z4_62 z0_62 h62 =>
 f49 z9_62 z5_62 z4_62 z0_62 h62) fun j62 =>
 oB (oIxS y0_49 y5_49) fun x90_63 =>
 oB (bEq .no x90_63 (U 34)) fun x91_64 =>
 ci x91_64 (
 some (.tup [.nils, (I 5)], h49)) (
 oB (bAdd y5_49 (I 1)) fun x93_65 =>
 j62 y9_49 x93_65 y4_49 y0_49 h49)) (
 j45 y9_49 y5_49 y4_49 y0_49 h49)) y5_1 y5_1 y4_1 y0_1 h1)))) (
 j0 y4_1 h1)) (I 0) .nils x0 h
theorem o_shell_Words : FnOK Tryz.prog n_shell_Words (a1 f_shell_Words) := ok1 mixed Tryz.func16 (by kernel_rfl)
/- (corrector/api.Errno).Error -/
noncomputable def f_api_Errno_Error (n : Nat) (call : Caller)  (x0 : AV) (h : AH) : Ans :=
 jnF 1 (fun z0_0 h0 =>
 oP (call n_api_late [z0_0] h0) fun x15_1 h1 =>
 some (x15_1, h1)) fun j0 =>
 oB (bEq .no x0 (I 0)) fun x5_2 =>
 ci x5_2 (
 some ((.str [111, 107]), h)) (
 oB (bEq .no x0 (I 1)) fun x7_3 =>
 ci x7_3 (
 some ((.str [97, 114, 103]), h)) (
 oB (bEq .no x0 (I 2)) fun x9_4 =>
 ci x9_4 (
 some ((.str [110, 111, 110, 101]), h)) (
 oB (bEq .no x0 (I 3)) fun x11_5 =>
 ci x11_5 (
 some ((.str [109, 97, 110, 121]), h)) (
 oB (bEq .no x0 (I 4)) fun x13_6 =>
 ci x13_6 (
 some ((.str [108, 111, 110, 103]), h)) (
 j0 x0 h)))))
theorem o_api_Errno_Error : FnOK Tryz.prog n_api_Errno_Error (a1 f_api_Errno_Error) := ok1 mixed Tryz.func17 (by kernel_rfl)
/- corrector/shell.split -/
noncomputable def f_shell_split (n : Nat) (call : Caller)  (x0 x1 : AV) (h : AH) : Ans :=
 oB (oLen x0) fun x12_0 =>
 oB (oLenS x1) fun x14_1 =>
 oB (bNe .no x12_0 x14_1) fun x15_2 =>
 ci x15_2 (
 some (.tup [.nils, .nils, (.bool false)], h)) (
 oP (evW (.rangeS (.c x1)) .e h) fun x17_3 h3 =>
 jnF 2 (fun z5_4 z4_4 h4 =>
 some (.tup [z4_4, z5_4, (.bool true)], h4)) fun j4 =>
 lpF 4 n (fun f5 y17_5 y5_5 y4_5 y0_5 h5 =>
 oP (evW (.nextS (.c y17_5)) .e h5) fun x18_6 h6 =>
 oB (oEx 0 x18_6) fun x19_7 =>
 ci x19_7 (
 jnF 4 (fun z17_8 z5_8 z4_8 z0_8 h8 =>
 f5 z17_8 z5_8 z4_8 z0_8 h8) fun j8 =>
 oB (oEx 1 x18_6) fun x20_9 =>
 oB (oEx 2 x18_6) fun x21_10 =>
 oB (bEq .no x21_10 (R 84)) fun x23_11 =>
 ci x23_11 (
 oB (oIx 1 y0_5 x20_9) fun x27_12 =>
 oB (oLd h6 x27_12) fun x28_13 =>
 oP (oBuildSl h6 9 1 1 [(.str [])] [(0, 1, x28_13)]) fun x29_14 h14 =>
 oP (evW (.append 9 1 16 [(.str [])] (.c y5_5) (.c x29_14)) .e h14) fun x30_15 h15 =>
 j8 y17_5 x30_15 y4_5 y0_5 h15) (
 oB (oIx 1 y0_5 x20_9) fun x34_16 =>
 oB (oLd h6 x34_16) fun x35_17 =>
 oP (call n_shell_number [x35_17] h6) fun x36_18 h18 =>
 oB (oEx 0 x36_18) fun x37_19 =>
 oB (oEx 1 x36_18) fun x38_20 =>
 oB (evQ (.un .not (.c x38_20)) .e h18) fun x40_21 =>
 ci x40_21 (
 some (.tup [.nils, .nils, (.bool false)], h18)) (
 oP (oBuildSl h18 3 1 1 [(I 0)] [(0, 1, x37_19)]) fun x43_22 h22 =>
 oP (evW (.append 3 1 8 [(I 0)] (.c y4_5) (.c x43_22)) .e h22) fun x44_23 h23 =>
 j8 y17_5 y5_5 x44_23 y0_5 h23))) (
 j4 y5_5 y4_5 h6)) x17_3 .nils .nils x0 h3)
theorem o_shell_split : FnOK Tryz.prog n_shell_split (a2 f_shell_split) := ok2 mixed Tryz.func18 (by kernel_rfl)
/- math/bits.Mul -/
noncomputable def f_math_bits_Mul (n : Nat) (call : Caller)  (x0 x1 : AV) (h : AH) : Ans :=
 ci (.bool false) (
 oB (oInt .u32 x0) fun x12_0 =>
 oB (oInt .u32 x1) fun x14_1 =>
 oP (call n_math_bits_Mul32 [x12_0, x14_1] h) fun x15_2 h2 =>
 oB (oEx 0 x15_2) fun x16_3 =>
 oB (oEx 1 x15_2) fun x17_4 =>
 oB (oInt .u64 x16_3) fun x19_5 =>
 oB (oInt .u64 x17_4) fun x21_6 =>
 some (.tup [x19_5, x21_6], h2)) (
 oP (call n_math_bits_Mul64 [x0, x1] h) fun x25_7 h7 =>
 oB (oEx 0 x25_7) fun x26_8 =>
 oB (oEx 1 x25_7) fun x27_9 =>
 some (.tup [x26_8, x27_9], h7))
theorem o_math_bits_Mul : FnOK Tryz.prog n_math_bits_Mul (a2 f_math_bits_Mul) := ok2 mixed Tryz.func19 (by kernel_rfl)
/- strings.HasPrefix -/
noncomputable def f_strings_HasPrefix (n : Nat) (call : Caller)  (x0 x1 : AV) (h : AH) : Ans :=
 oP (call n_internal_stringslite_HasPrefix [x0, x1] h) fun x7_0 h0 =>
 some (x7_0, h0)
theorem o_strings_HasPrefix : FnOK Tryz.prog n_strings_HasPrefix (a2 f_strings_HasPrefix) := ok2 mixed Tryz.func20 (by kernel_rfl)
/- (*strings.Builder).Grow -/
noncomputable def f_strings_Builder_Grow (n : Nat) (call : Caller)  (x0 x1 : AV) (h : AH) : Ans :=
 oP (call n_strings_Builder_copyCheck [x0] h) fun x5_0 h0 =>
 oB (bLt x1 (I 0)) fun x7_1 =>
 jnF 2 (fun z1_2 z0_2 h2 =>
 oB' (nx 13 h2) fun h3 =>
 oB (oNil z0_2) fun x10_4 =>
 oB (oFA 1 x10_4) fun x11_5 =>
 oB (oLd h3 x11_5) fun x12_6 =>
 oB (evQ (.capSl (.c x12_6)) .e h3) fun x13_7 =>
 oB (oNil z0_2) fun x15_8 =>
 oB (oFA 1 x15_8) fun x16_9 =>
 oB (oLd h3 x16_9) fun x17_10 =>
 oB (oLen x17_10) fun x18_11 =>
 oB (bSub x13_7 x18_11) fun x19_12 =>
 oB (bLt x19_12 z1_2) fun x21_13 =>
 jnF 0 (fun h14 =>
 some (.tup [], h14)) fun j14 =>
 ci x21_13 (
 oP (call n_strings_Builder_grow [z0_2, z1_2] h3) fun x24_15 h15 =>
 j14 h15) (
 j14 h3)) fun j2 =>
 ci x7_1 (
 oB (some (.iface 9 (.str [115, 116, 114, 105, 110, 103, 115, 46, 66, 117, 105, 108, 100, 101, 114, 46, 71, 114, 111, 119, 58, 32, 110, 101, 103, 97, 116, 105, 118, 101, 32, 99, 111, 117, 110, 116]))) fun x8_16 =>
 oB (evQ (.bad) .e h0) fun _ =>
 j2 x1 x0 h0) (
 j2 x1 x0 h0)
theorem o_strings_Builder_Grow : FnOK Tryz.prog n_strings_Builder_Grow (a2 f_strings_Builder_Grow) := ok2 mixed Tryz.func21 (by kernel_rfl)
/- (*strings.Builder).WriteString -/
noncomputable def f_strings_Builder_WriteString (n : Nat) (call : Caller)  (x0 x1 : AV) (h : AH) : Ans :=
 oP (call n_strings_Builder_copyCheck [x0] h) fun x7_0 h0 =>
 oB (oNil x0) fun x10_1 =>
 oB (oFA 1 x10_1) fun x11_2 =>
 oB (oLd h0 x11_2) fun x12_3 =>
 oP (evW (.append 5 1 1 [(U 0)] (.c x12_3) (.c x1)) .e h0) fun x14_4 h4 =>
 oB (oNil x0) fun x15_5 =>
 oB (oFA 1 x15_5) fun x16_6 =>
 oP (oSt 1 h4 x16_6 x14_4) fun _ h7 =>
 oB (oLenS x1) fun x18_8 =>
 some (.tup [x18_8, .nili], h7)
theorem o_strings_Builder_WriteString : FnOK Tryz.prog n_strings_Builder_WriteString (a2 f_strings_Builder_WriteString) := ok2 mixed Tryz.func22 (by kernel_rfl)
/- (*strings.Builder).Len -/
noncomputable def f_strings_Builder_Len (n : Nat) (call : Caller)  (x0 : AV) (h : AH) : Ans :=
 oB (oNil x0) fun x4_0 =>
 oB (oFA 1 x4_0) fun x5_1 =>
 oB (oLd h x5_1) fun x6_2 =>
 oB (oLen x6_2) fun x7_3 =>
 some (x7_3, h)
theorem o_strings_Builder_Len : FnOK Tryz.prog n_strings_Builder_Len (a1 f_strings_Builder_Len) := ok1 mixed Tryz.func23 (by kernel_rfl)
/- (*strings.Builder).String -/
noncomputable def f_strings_Builder_String (n : Nat) (call : Caller)  (x0 : AV) (h : AH) : Ans :=
 oB' (nx 12 h) fun h0 =>
 oB (oNil x0) fun x4_1 =>
 oB (oFA 1 x4_1) fun x5_2 =>
 oB (oLd h0 x5_2) fun x6_3 =>
 oB (evQ (.uData (.c x6_3)) .e h0) fun x7_4 =>
 oB (oNil x0) fun x9_5 =>
 oB (oFA 1 x9_5) fun x10_6 =>
 oB (oLd h0 x10_6) fun x11_7 =>
 oB (oLen x11_7) fun x12_8 =>
 oP (evW (.uStr 5 (.c x7_4) (.c x12_8)) .e h0) fun x13_9 h9 =>
 some (x13_9, h9)
theorem o_strings_Builder_String : FnOK Tryz.prog n_strings_Builder_String (a1 f_strings_Builder_String) := ok1 mixed Tryz.func24 (by kernel_rfl)
/- strings.explode -/
noncomputable def f_strings_explode (n : Nat) (call : Caller)  (x0 x1 : AV) (h : AH) : Ans :=
 oP (call n_unicode_utf8_RuneCountInString [x0] h) fun x11_0 h0 =>
 oB (bLt x1 (I 0)) fun x13_1 =>
 oB (gq x13_1 false (some x1)) fun x15_2 =>
 oB (gq x13_1 false (some x11_0)) fun x16_3 =>
 oB (gq x13_1 false (bGt x15_2 x16_3)) fun x17_4 =>
 oB (oPick x13_1 (.bool true) x17_4) fun x18_5 =>
 jnF 2 (fun z1_6 z0_6 h6 =>
 oP (evW (.mkSlice 9 1 16 [(.str [])] (.c z1_6) (.c z1_6)) .e h6) fun x21_7 h7 =>
 jnF 3 (fun z6_8 z1_8 z0_8 h8 =>
 oB (bGt z1_8 (I 0)) fun x43_9 =>
 jnF 1 (fun z6_10 h10 =>
 some (z6_10, h10)) fun j10 =>
 ci x43_9 (
 oB (bSub z1_8 (I 1)) fun x46_11 =>
 oB (oIx 1 z6_8 x46_11) fun x48_12 =>
 oP (oSt 1 h8 x48_12 z0_8) fun _ h13 =>
 j10 z6_8 h13) (
 j10 z6_8 h8)) fun j8 =>
 lpF 4 n (fun f14 y7_14 y6_14 y1_14 y0_14 h14 =>
 oB (bSub y1_14 (I 1)) fun x24_15 =>
 oB (bLt y7_14 x24_15) fun x25_16 =>
 ci x25_16 (
 jnF 4 (fun z7_17 z6_17 z1_17 z0_17 h17 =>
 oB (bAdd z7_17 (I 1)) fun x27_18 =>
 f14 x27_18 z6_17 z1_17 z0_17 h17) fun j17 =>
 oP (call n_unicode_utf8_DecodeRuneInString [y0_14] h14) fun x30_19 h19 =>
 oB (oEx 0 x30_19) fun x31_20 =>
 oB (oEx 1 x30_19) fun x32_21 =>
 oB (oSlS y0_14 none (some x32_21)) fun x37_22 =>
 oB (oIx 1 y6_14 y7_14) fun x38_23 =>
 oP (oSt 1 h19 x38_23 x37_22) fun _ h24 =>
 oB (oSlS y0_14 (some x32_21) none) fun x41_25 =>
 j17 y7_14 y6_14 y1_14 x41_25 h24) (
 j8 y6_14 y1_14 y0_14 h14)) (I 0) x21_7 z1_6 z0_6 h7) fun j6 =>
 ci x18_5 (
 j6 x11_0 x0 h0) (
 j6 x1 x0 h0)
theorem o_strings_explode : FnOK Tryz.prog n_strings_explode (a2 f_strings_explode) := ok2 mixed Tryz.func25 (by kernel_rfl)
/- strings.Count -/
noncomputable def f_strings_Count (n : Nat) (call : Caller)  (x0 x1 : AV) (h : AH) : Ans :=
 oB (oLenS x1) fun x8_0 =>
 oB (bEq .no x8_0 (I 0)) fun x9_1 =>
 ci x9_1 (
 oP (call n_unicode_utf8_RuneCountInString [x0] h) fun x11_2 h2 =>
 oB (bAdd x11_2 (I 1)) fun x12_3 =>
 some (x12_3, h2)) (
 oB (oLenS x1) fun x14_4 =>
 oB (bEq .no x14_4 (I 1)) fun x15_5 =>
 ci x15_5 (
 oB (oIxS x1 (I 0)) fun x18_6 =>
 oB (evQ (.cntStr (.c x0) (.c x18_6)) .e h) fun x19_7 =>
 some (x19_7, h)) (
 jnF 1 (fun z4_8 h8 =>
 some (z4_8, h8)) fun j8 =>
 lpF 3 n (fun f9 y5_9 y1_9 y0_9 h9 =>
 jnF 3 (fun z5_10 z1_10 z0_10 h10 =>
 f9 z5_10 z1_10 z0_10 h10) fun j10 =>
 oP (call n_strings_Index [y0_9, y1_9] h9) fun x22_11 h11 =>
 oB (bEq .no x22_11 (Ineg 0)) fun x24_12 =>
 ci x24_12 (
 some (y5_9, h11)) (
 oB (bAdd y5_9 (I 1)) fun x27_13 =>
 oB (oLenS y1_9) fun x31_14 =>
 oB (bAdd x22_11 x31_14) fun x32_15 =>
 oB (oSlS y0_9 (some x32_15) none) fun x33_16 =>
 j10 x27_13 y1_9 x33_16 h11)) (I 0) x1 x0 h))
theorem o_strings_Count : FnOK Tryz.prog n_strings_Count (a2 f_strings_Count) := ok2 mixed Tryz.func26 (by kernel_rfl)
/- strings.Index -/
noncomputable def f_strings_Index (n : Nat) (call : Caller)  (x0 x1 : AV) (h : AH) : Ans :=
 oP (call n_internal_stringslite_Index [x0, x1] h) fun x7_0 h0 =>
 some (x7_0, h0)
theorem o_strings_Index : FnOK Tryz.prog n_strings_Index (a2 f_strings_Index) := ok2 mixed Tryz.func27 (by kernel_rfl)
/- (*corrector/shell.script).text -/
noncomputable def f_shell_script_text (n : Nat) (call : Caller)  (x0 x1 x2 : AV) (h : AH) : Ans :=
 oB' (nx 11 h) fun h0 =>
 oB (oNil x0) fun x8_1 =>
 oB (oFA 0 x8_1) fun x9_2 =>
 oB (oLd h0 x9_2) fun x10_3 =>
 oB (oLen x10_3) fun x11_4 =>
 oB (oIx 1 x2 (I 0)) fun x13_5 =>
 oB (oLd h0 x13_5) fun x14_6 =>
 oB (oLenS x14_6) fun x15_7 =>
 oB (bAdd x11_4 x15_7) fun x16_8 =>
 oB (bGt x16_8 (I 16384)) fun x17_9 =>
 ci x17_9 (
 oP (call n_api_Errno_Error [(I 4)] h0) fun x18_10 h10 =>
 some (x18_10, h10)) (
 oB' (nx 14 h0) fun h11 =>
 oB (oNil x0) fun x21_12 =>
 oB (oFA 0 x21_12) fun x22_13 =>
 oB (oLd h11 x22_13) fun x23_14 =>
 oB (oIx 1 x2 (I 0)) fun x25_15 =>
 oB (oLd h11 x25_15) fun x26_16 =>
 fl1 true (evF (.s2b 5 (.c x26_16)) .e) (Nat.add h0.next 8) fun x27_17 o17 =>
 fl1 true (evF (.buildSlice 31 1 2 [.nils, .nils] [(0, 1, (.c x23_14)), (1, 1, (.c x27_17))]) .e) (Nat.add h0.next 9) fun x28_18 o18 =>
 oB' (lay1 (Nat.add h0.next 9) o18 (lay1 (Nat.add h0.next 8) o17 h11)) fun v19 =>
 oP (call n_slices_Concat_byte_byte [x28_18] v19) fun x29_20 h20 =>
 oB (oNil x0) fun x30_21 =>
 oB (oFA 0 x30_21) fun x31_22 =>
 oP (oSt 1 h20 x31_22 x29_20) fun x0_23 h23 =>
 ask1 true (oLd h11 x22_13) x23_14 (
 ask1 true (oLd h11 x25_15) x26_16 (
 oB (oNil x0) fun x33_24 =>
 oB (oFA 0 x33_24) fun x34_25 =>
 oB (oLd h23 x34_25) fun x35_26 =>
 oB (oLen x35_26) fun x36_27 =>
 oP (oBuildSl h23 3 1 1 [(I 0)] [(0, 1, x36_27)]) fun x37_28 h28 =>
 oP (call n_shell_told [x37_28] h28) fun x38_29 h29 =>
 some (x38_29, h29))))
theorem o_shell_script_text : FnOK Tryz.prog n_shell_script_text (a3 f_shell_script_text) := ok3 mixed Tryz.func28 (by kernel_rfl)
/- (*corrector/shell.script).empty -/
noncomputable def f_shell_script_empty (n : Nat) (call : Caller)  (x0 x1 x2 : AV) (h : AH) : Ans :=
 oB (oNil x0) fun x8_0 =>
 oB (oFA 0 x8_0) fun x9_1 =>
 oP (oSt 1 h x9_1 .nils) fun _ h2 =>
 some ((.str [111, 107]), h2)
theorem o_shell_script_empty : FnOK Tryz.prog n_shell_script_empty (a3 f_shell_script_empty) := ok3 mixed Tryz.func29 (by kernel_rfl)
/- (*corrector/shell.script).config -/
noncomputable def f_shell_script_config (n : Nat) (call : Caller)  (x0 x1 x2 : AV) (h : AH) : Ans :=
 oB (oIx 1 x2 (I 0)) fun x11_0 =>
 oB (oLd h x11_0) fun x12_1 =>
 oP (call n_config_Parse [x12_1] h) fun x13_2 h2 =>
 oB (oEx 0 x13_2) fun x14_3 =>
 oB (oEx 1 x13_2) fun x15_4 =>
 oP (oNew h2 36 [(.bool false), (.bool false), (.bool false), (.bool false), (.bool false), (.bool false), (.bool false), (.bool false), (.bool false), (.bool false), (I 0), (I 0), (I 0), (I 0)]) fun x7_5 h5 =>
 oP (oSt 14 h5 x7_5 x14_3) fun _ h6 =>
 oB (bEq .no x15_4 (I 0)) fun x17_7 =>
 jnF 1 (fun z8_8 h8 =>
 oP (call n_shell_answer [z8_8, .nils] h8) fun x23_9 h9 =>
 some (x23_9, h9)) fun j8 =>
 ci x17_7 (
 oB (oLdN 14 h6 x7_5) fun x19_10 =>
 oB (oNil x0) fun x20_11 =>
 oB (oFA 1 x20_11) fun x21_12 =>
 oP (oSt 14 h6 x21_12 x19_10) fun _ h13 =>
 j8 x15_4 h13) (
 j8 x15_4 h6)
theorem o_shell_script_config : FnOK Tryz.prog n_shell_script_config (a3 f_shell_script_config) := ok3 mixed Tryz.func30 (by kernel_rfl)
/- (*corrector/shell.script).tokens -/
noncomputable def f_shell_script_tokens (n : Nat) (call : Caller)  (x0 x1 x2 : AV) (h : AH) : Ans :=
 oB (oNil x0) fun x11_0 =>
 oB (oFA 0 x11_0) fun x12_1 =>
 oB (oLd h x12_1) fun x13_2 =>
 oP (call n_scan_Tokens [x13_2] h) fun x14_3 h3 =>
 oB (oLen x14_3) fun x15_4 =>
 jnF 1 (fun z7_5 h5 =>
 oP (call n_shell_told [z7_5] h5) fun x31_6 h6 =>
 some (x31_6, h6)) fun j5 =>
 lpF 4 n (fun f7 y16_7 y15_7 y14_7 y7_7 h7 =>
 oB (bLt y16_7 y15_7) fun x17_8 =>
 ci x17_8 (
 jnF 4 (fun z16_9 z15_9 z14_9 z7_9 h9 =>
 oB (bAdd z16_9 (I 1)) fun x29_10 =>
 f7 x29_10 z15_9 z14_9 z7_9 h9) fun j9 =>
 oB (oIx 3 y14_7 y16_7) fun x18_11 =>
 oB (oLdN 3 h7 x18_11) fun x19_12 =>
 oP (oNew h7 92 [(I 0), (I 0), (I 0)]) fun x9_13 h13 =>
 oP (oSt 3 h13 x9_13 x19_12) fun _ h14 =>
 oB (oFA 0 x9_13) fun x21_15 =>
 oB (oLd h14 x21_15) fun x22_16 =>
 oB (oFA 1 x9_13) fun x23_17 =>
 oB (oLd h14 x23_17) fun x24_18 =>
 oB (oFA 2 x9_13) fun x25_19 =>
 oB (oLd h14 x25_19) fun x26_20 =>
 oP (oBuildSl h14 3 1 3 [(I 0), (I 0), (I 0)] [(0, 1, x22_16), (1, 1, x24_18), (2, 1, x26_20)]) fun x27_21 h21 =>
 oP (evW (.append 3 1 8 [(I 0)] (.c y7_7) (.c x27_21)) .e h21) fun x28_22 h22 =>
 j9 y16_7 y15_7 y14_7 x28_22 h22) (
 j5 y7_7 h7)) (I 0) x15_4 x14_3 .nils h3
theorem o_shell_script_tokens : FnOK Tryz.prog n_shell_script_tokens (a3 f_shell_script_tokens) := ok3 mixed Tryz.func31 (by kernel_rfl)
/- (*corrector/shell.script).tree -/
noncomputable def f_shell_script_tree (n : Nat) (call : Caller)  (x0 x1 x2 : AV) (h : AH) : Ans :=
 oP (call n_shell_script_read [x0] h) fun x12_0 h0 =>
 oB (oEx 0 x12_0) fun x13_1 =>
 oB (oEx 1 x12_0) fun x14_2 =>
 oB (oEx 2 x12_0) fun x15_3 =>
 oP (call n_shell_told [x14_2] h0) fun x17_4 h4 =>
 some (x17_4, h4)
theorem o_shell_script_tree : FnOK Tryz.prog n_shell_script_tree (a3 f_shell_script_tree) := ok3 mixed Tryz.func32 (by kernel_rfl)
/- (*corrector/shell.script).diags -/
noncomputable def f_shell_script_diags (n : Nat) (call : Caller)  (x0 x1 x2 : AV) (h : AH) : Ans :=
 oP (call n_shell_script_read [x0] h) fun x12_0 h0 =>
 oB (oEx 0 x12_0) fun x13_1 =>
 oB (oEx 1 x12_0) fun x14_2 =>
 oB (oEx 2 x12_0) fun x15_3 =>
 oB' (nx 15 h0) fun h4 =>
 oB (oLen x15_3) fun x17_5 =>
 fl1 true (evF (.buildSlice 3 1 1 [(I 0)] [(0, 1, (.c x17_5))]) .e) (Nat.add h0.next 2) fun x18_6 o6 =>
 oB' (lay1 (Nat.add h0.next 2) o6 h4) fun v7 =>
 oP (call n_shell_told [x18_6] v7) fun x19_8 h8 =>
 oB (bAdd x19_8 (.str [32])) fun x20_9 =>
 oB (oNil x0) fun x22_10 =>
 oB (oFA 0 x22_10) fun x23_11 =>
 oB (oLd h8 x23_11) fun x24_12 =>
 oP (call n_diag_Render [x24_12, x15_3] h8) fun x26_13 h13 =>
 fl1 true (evF (.s2b 5 (.c x26_13)) .e) (Nat.add h0.next 11) fun x27_14 o14 =>
 oB' (lay1 (Nat.add h0.next 11) o14 h13) fun v15 =>
 oP (call n_shell_Quote [x27_14] v15) fun x28_16 h16 =>
 oB (bAdd x20_9 x28_16) fun x29_17 =>
 ask1 true (oLd h4 x23_11) x24_12 (
 ask1 true (oLd h8 x23_11) x24_12 (
 some (x29_17, h16)))
theorem o_shell_script_diags : FnOK Tryz.prog n_shell_script_diags (a3 f_shell_script_diags) := ok3 mixed Tryz.func33 (by kernel_rfl)
/- (*corrector/shell.script).graph -/
noncomputable def f_shell_script_graph (n : Nat) (call : Caller)  (x0 x1 x2 : AV) (h : AH) : Ans :=
 oB' (nx 18 h) fun h0 =>
 oB (oNil x0) fun x17_1 =>
 oB (oFA 0 x17_1) fun x18_2 =>
 oB (oLd h0 x18_2) fun x19_3 =>
 oB (oNil x0) fun x21_4 =>
 oB (oFA 1 x21_4) fun x22_5 =>
 oB (oFA 13 x22_5) fun x23_6 =>
 oB (oLd h0 x23_6) fun x24_7 =>
 oP (call n_parse_Tree [x19_3, x24_7] h0) fun x25_8 h8 =>
 oB (oEx 0 x25_8) fun x26_9 =>
 oB (oEx 1 x25_8) fun x27_10 =>
 oB (oEx 2 x25_8) fun x28_11 =>
 fl1 true (evF (.new 100 [.nils]) .e) (Nat.add h.next 14) fun x8_12 o12 =>
 oB' (lay1 (Nat.add h.next 14) o12 h8) fun v13 =>
 oP (oSt 1 v13 x8_12 x27_10) fun x0_14 h14 =>
 ask1 true (oLd h0 x18_2) x19_3 (
 ask1 true (oLd h0 x23_6) x24_7 (
 oB' (nx 13 h14) fun h15 =>
 oB (oNil x0) fun x31_16 =>
 oB (oFA 0 x31_16) fun x32_17 =>
 oB (oLd h15 x32_17) fun x33_18 =>
 oB (oLdN 1 h15 x8_12) fun x35_19 =>
 oP (call n_graph_Compose [x33_18, x26_9, x35_19] h15) fun x36_20 h20 =>
 oB (oEx 0 x36_20) fun x37_21 =>
 oB (oEx 1 x36_20) fun x38_22 =>
 fl1 true (evF (.new 105 [.nils, .nils, .nils]) .e) (Nat.add h14.next 10) fun x10_23 o23 =>
 oB' (lay1 (Nat.add h14.next 10) o23 h20) fun v24 =>
 oP (oSt 3 v24 x10_23 x37_21) fun x0_25 h25 =>
 ask1 true (oLd h15 x32_17) x33_18 (
 ask1 true (oLdN 1 h15 x8_12) x35_19 (
 oB (oFA 1 x10_23) fun x39_26 =>
 oB (oLd h25 x39_26) fun x40_27 =>
 oB (oLen x40_27) fun x41_28 =>
 oP (oBuildSl h25 3 1 1 [(I 0)] [(0, 1, x41_28)]) fun x42_29 h29 =>
 oP (call n_shell_told [x42_29] h29) fun x43_30 h30 =>
 oB (oFA 1 x10_23) fun x44_31 =>
 oB (oLd h30 x44_31) fun x45_32 =>
 oB (oLen x45_32) fun x46_33 =>
 jnF 1 (fun z12_34 h34 =>
 some (z12_34, h34)) fun j34 =>
 lpF 5 n (fun f35 y47_35 y46_35 y45_35 y12_35 y10_35 h35 =>
 oB (bLt y47_35 y46_35) fun x48_36 =>
 ci x48_36 (
 jnF 5 (fun z47_37 z46_37 z45_37 z12_37 z10_37 h37 =>
 oB (bAdd z47_37 (I 1)) fun x59_38 =>
 f35 x59_38 z46_37 z45_37 z12_37 z10_37 h37) fun j37 =>
 oB (oIx 1 y45_35 y47_35) fun x49_39 =>
 oB (oLd h35 x49_39) fun x50_40 =>
 oB (oLdN 3 h35 y10_35) fun x52_41 =>
 oP (call n_equal_Print [x52_41, x50_40] h35) fun x54_42 h42 =>
 oP (evW (.s2b 5 (.c x54_42)) .e h42) fun x55_43 h43 =>
 oP (call n_shell_Quote [x55_43] h43) fun x56_44 h44 =>
 oB (bAdd (.str [32]) x56_44) fun x57_45 =>
 oB (bAdd y12_35 x57_45) fun x58_46 =>
 j37 y47_35 y46_35 y45_35 x58_46 y10_35 h44) (
 j34 y12_35 h35)) (I 0) x46_33 x45_32 x43_30 x10_23 h30))))
theorem o_shell_script_graph : FnOK Tryz.prog n_shell_script_graph (a3 f_shell_script_graph) := ok3 mixed Tryz.func34 (by kernel_rfl)
/- (*corrector/shell.script).lint -/
noncomputable def f_shell_script_lint (n : Nat) (call : Caller)  (x0 x1 x2 : AV) (h : AH) : Ans :=
 oB' (nx 14 h) fun h0 =>
 oB (oNil x0) fun x14_1 =>
 oB (oFA 0 x14_1) fun x15_2 =>
 oB (oLd h0 x15_2) fun x16_3 =>
 oB (oNil x0) fun x18_4 =>
 oB (oFA 1 x18_4) fun x19_5 =>
 oB (oLdN 14 h0 x19_5) fun x20_6 =>
 oP (call n_lint_Find [x16_3, x20_6] h0) fun x21_7 h7 =>
 oB (oEx 0 x21_7) fun x22_8 =>
 oB (oEx 1 x21_7) fun x23_9 =>
 oB (oLen x22_8) fun x25_10 =>
 jnF 2 (fun z9_11 z8_11 h11 =>
 oP (call n_shell_answer [z8_11, z9_11] h11) fun x42_12 h12 =>
 some (x42_12, h12)) fun j11 =>
 lpF 5 n (fun f13 y26_13 y25_13 y24_13 y9_13 y8_13 h13 =>
 oB (bLt y26_13 y25_13) fun x27_14 =>
 ci x27_14 (
 jnF 5 (fun z26_15 z25_15 z24_15 z9_15 z8_15 h15 =>
 oB (bAdd z26_15 (I 1)) fun x39_16 =>
 f13 x39_16 z25_15 z24_15 z9_15 z8_15 h15) fun j15 =>
 oB (oIx 3 y24_13 y26_13) fun x28_17 =>
 oB (oLdN 3 h13 x28_17) fun x29_18 =>
 oP (oNew h13 112 [(I 0), (I 0), (I 0)]) fun x11_19 h19 =>
 oP (oSt 3 h19 x11_19 x29_18) fun _ h20 =>
 oB (oFA 0 x11_19) fun x31_21 =>
 oB (oLd h20 x31_21) fun x32_22 =>
 oB (oFA 1 x11_19) fun x33_23 =>
 oB (oLd h20 x33_23) fun x34_24 =>
 oB (oFA 2 x11_19) fun x35_25 =>
 oB (oLd h20 x35_25) fun x36_26 =>
 oP (oBuildSl h20 3 1 3 [(I 0), (I 0), (I 0)] [(0, 1, x32_22), (1, 1, x34_24), (2, 1, x36_26)]) fun x37_27 h27 =>
 oP (evW (.append 3 1 8 [(I 0)] (.c y9_13) (.c x37_27)) .e h27) fun x38_28 h28 =>
 j15 y26_13 y25_13 y24_13 x38_28 y8_13 h28) (
 j11 y9_13 y8_13 h13)) (I 0) x25_10 x22_8 .nils x23_9 h7
theorem o_shell_script_lint : FnOK Tryz.prog n_shell_script_lint (a3 f_shell_script_lint) := ok3 mixed Tryz.func35 (by kernel_rfl)
/- (*corrector/shell.script).fix -/
noncomputable def f_shell_script_fix (n : Nat) (call : Caller)  (x0 x1 x2 : AV) (h : AH) : Ans :=
 oB' (nx 19 h) fun h0 =>
 oB (oNil x0) fun x12_1 =>
 oB (oFA 0 x12_1) fun x13_2 =>
 oB (oLd h0 x13_2) fun x14_3 =>
 oB (oNil x0) fun x16_4 =>
 oB (oFA 1 x16_4) fun x17_5 =>
 oB (oLdN 14 h0 x17_5) fun x18_6 =>
 oB (oIx 1 x1 (I 0)) fun x20_7 =>
 oB (oLd h0 x20_7) fun x21_8 =>
 oP (call n_fix_Fix [x14_3, x18_6, x21_8] h0) fun x22_9 h9 =>
 oB (oEx 0 x22_9) fun x23_10 =>
 oB (oEx 1 x22_9) fun x24_11 =>
 oB (oEx 2 x22_9) fun x25_12 =>
 oB (bEq .no x25_12 (I 0)) fun x27_13 =>
 jnF 3 (fun z9_14 z8_14 z7_14 h14 =>
 oB (oLen z8_14) fun x34_15 =>
 oB (oLen z7_14) fun x36_16 =>
 oP (oBuildSl h14 3 1 2 [(I 0), (I 0)] [(0, 1, x34_15), (1, 1, x36_16)]) fun x37_17 h17 =>
 oP (call n_shell_answer [z9_14, x37_17] h17) fun x38_18 h18 =>
 some (x38_18, h18)) fun j14 =>
 ci x27_13 (
 oB (oNil x0) fun x30_19 =>
 oB (oFA 0 x30_19) fun x31_20 =>
 oP (oSt 1 h9 x31_20 x23_10) fun _ h21 =>
 j14 x25_12 x24_11 x23_10 h21) (
 j14 x25_12 x24_11 x23_10 h9)
theorem o_shell_script_fix : FnOK Tryz.prog n_shell_script_fix (a3 f_shell_script_fix) := ok3 mixed Tryz.func36 (by kernel_rfl)
/- (*corrector/shell.script).place -/
noncomputable def f_shell_script_place (n : Nat) (call : Caller)  (x0 x1 x2 : AV) (h : AH) : Ans :=
 oB' (nx 13 h) fun h0 =>
 oB (oNil x0) fun x11_1 =>
 oB (oFA 0 x11_1) fun x12_2 =>
 oB (oLd h0 x12_2) fun x13_3 =>
 oB (oIx 1 x1 (I 0)) fun x15_4 =>
 oB (oLd h0 x15_4) fun x16_5 =>
 oP (call n_lines_Place [x13_3, x16_5] h0) fun x17_6 h6 =>
 oB (oEx 0 x17_6) fun x18_7 =>
 oB (oEx 1 x17_6) fun x19_8 =>
 oP (oBuildSl h6 3 1 2 [(I 0), (I 0)] [(0, 1, x18_7), (1, 1, x19_8)]) fun x22_9 h9 =>
 oP (call n_shell_told [x22_9] h9) fun x23_10 h10 =>
 some (x23_10, h10)
theorem o_shell_script_place : FnOK Tryz.prog n_shell_script_place (a3 f_shell_script_place) := ok3 mixed Tryz.func37 (by kernel_rfl)
/- (*corrector/shell.script).at -/
noncomputable def f_shell_script_at (n : Nat) (call : Caller)  (x0 x1 x2 : AV) (h : AH) : Ans :=
 oB' (nx 18 h) fun h0 =>
 oB (oNil x0) fun x13_1 =>
 oB (oFA 0 x13_1) fun x14_2 =>
 oB (oLd h0 x14_2) fun x15_3 =>
 oB (oNil x0) fun x17_4 =>
 oB (oFA 1 x17_4) fun x18_5 =>
 oB (oFA 13 x18_5) fun x19_6 =>
 oB (oLd h0 x19_6) fun x20_7 =>
 oP (call n_parse_Tree [x15_3, x20_7] h0) fun x21_8 h8 =>
 oB (oEx 0 x21_8) fun x22_9 =>
 oB (oEx 1 x21_8) fun x23_10 =>
 oB (oEx 2 x21_8) fun x24_11 =>
 fl1 true (evF (.new 100 [.nils]) .e) (Nat.add h.next 14) fun x8_12 o12 =>
 oB' (lay1 (Nat.add h.next 14) o12 h8) fun v13 =>
 oP (oSt 1 v13 x8_12 x23_10) fun x0_14 h14 =>
 ask1 true (oLd h0 x14_2) x15_3 (
 ask1 true (oLd h0 x19_6) x20_7 (
 oB' (nx 7 h14) fun h15 =>
 oB (oLdN 1 h15 x8_12) fun x26_16 =>
 oB (oIx 1 x1 (I 0)) fun x28_17 =>
 oB (oLd h15 x28_17) fun x29_18 =>
 oP (call n_walk_At [x22_9, x26_16, x29_18] h15) fun x30_19 h19 =>
 oB (bLt x30_19 (I 0)) fun x32_20 =>
 ci x32_20 (
 oP (oBuildSl h19 3 1 1 [(I 0)] [(0, 1, (I 0))]) fun x33_21 h21 =>
 oP (call n_shell_told [x33_21] h21) fun x34_22 h22 =>
 some (x34_22, h22)) (
 oB (oFA 0 x8_12) fun x35_23 =>
 oB (oLd h19 x35_23) fun x36_24 =>
 oB (oIx 6 x36_24 x30_19) fun x38_25 =>
 oB (oFA 0 x38_25) fun x39_26 =>
 oB (oLd h19 x39_26) fun x40_27 =>
 oP (oBuildSl h19 3 1 1 [(I 0)] [(0, 1, x40_27)]) fun x41_28 h28 =>
 oP (call n_shell_told [x41_28] h28) fun x42_29 h29 =>
 some (x42_29, h29))))
theorem o_shell_script_at : FnOK Tryz.prog n_shell_script_at (a3 f_shell_script_at) := ok3 mixed Tryz.func38 (by kernel_rfl)
/- (*corrector/shell.script).edit -/
noncomputable def f_shell_script_edit (n : Nat) (call : Caller)  (x0 x1 x2 : AV) (h : AH) : Ans :=
 oB' (nx 21 h) fun h0 =>
 oB (oNil x0) fun x11_1 =>
 oB (oFA 0 x11_1) fun x12_2 =>
 oB (oLd h0 x12_2) fun x13_3 =>
 oB (oIx 1 x1 (I 0)) fun x15_4 =>
 oB (oLd h0 x15_4) fun x16_5 =>
 oB (oIx 1 x1 (I 1)) fun x18_6 =>
 oB (oLd h0 x18_6) fun x19_7 =>
 oB (oIx 1 x2 (I 0)) fun x21_8 =>
 oB (oLd h0 x21_8) fun x22_9 =>
 oB (oBuild [(I 0), (I 0), (.str [])] [(0, 1, x16_5), (1, 1, x19_7), (2, 1, x22_9)]) fun x23_10 =>
 fl1 true (evF (.buildSlice 124 3 1 [(I 0), (I 0), (.str [])] [(0, 3, (.c x23_10))]) .e) (Nat.add h.next 14) fun x24_11 o11 =>
 oB' (lay1 (Nat.add h.next 14) o11 h0) fun v12 =>
 oP (call n_edit_Apply [x13_3, x24_11] v12) fun x25_13 h13 =>
 oB (oEx 0 x25_13) fun x26_14 =>
 oB (oEx 1 x25_13) fun x27_15 =>
 ask1 true (oLd h0 x12_2) x13_3 (
 ask1 true (oLd h0 x15_4) x16_5 (
 ask1 true (oLd h0 x18_6) x19_7 (
 ask1 true (oLd h0 x21_8) x22_9 (
 oB (bEq .no x27_15 (I 0)) fun x29_16 =>
 jnF 1 (fun z8_17 h17 =>
 oP (call n_shell_answer [z8_17, .nils] h17) fun x35_18 h18 =>
 some (x35_18, h18)) fun j17 =>
 ci x29_16 (
 oB (oNil x0) fun x32_19 =>
 oB (oFA 0 x32_19) fun x33_20 =>
 oP (oSt 1 h13 x33_20 x26_14) fun _ h21 =>
 j17 x27_15 h21) (
 j17 x27_15 h13)))))
theorem o_shell_script_edit : FnOK Tryz.prog n_shell_script_edit (a3 f_shell_script_edit) := ok3 mixed Tryz.func39 (by kernel_rfl)
/- (*corrector/shell.script).show -/
noncomputable def f_shell_script_show (n : Nat) (call : Caller)  (x0 x1 x2 : AV) (h : AH) : Ans :=
 oB (oNil x0) fun x8_0 =>
 oB (oFA 0 x8_0) fun x9_1 =>
 oB (oLd h x9_1) fun x10_2 =>
 oP (call n_shell_Quote [x10_2] h) fun x11_3 h3 =>
 oB (bAdd (.str [111, 107, 32]) x11_3) fun x12_4 =>
 some (x12_4, h3)
theorem o_shell_script_show : FnOK Tryz.prog n_shell_script_show (a3 f_shell_script_show) := ok3 mixed Tryz.func40 (by kernel_rfl)
/- corrector/shell.quoted -/
noncomputable def f_shell_quoted (n : Nat) (call : Caller)  (x0 : AV) (h : AH) : Ans :=
 jnF 0 (fun h0 =>
 some (.tup [(.str []), (I 0), (.bool false)], h0)) fun j0 =>
 lpF 3 n (fun f1 y6_1 y5_1 y0_1 h1 =>
 oB (oLenS y0_1) fun x11_2 =>
 oB (bLt y6_1 x11_2) fun x12_3 =>
 ci x12_3 (
 jnF 3 (fun z6_4 z5_4 z0_4 h4 =>
 f1 z6_4 z5_4 z0_4 h4) fun j4 =>
 oB (oIxS y0_1 y6_1) fun x15_5 =>
 oB (bEq .no x15_5 (U 34)) fun x16_6 =>
 ci x16_6 (
 oB (evQ (.b2s (.c y5_1)) .e h1) fun x18_7 =>
 oB (bAdd y6_1 (I 1)) fun x20_8 =>
 some (.tup [x18_7, x20_8, (.bool true)], h1)) (
 oB (oSlS y0_1 (some y6_1) none) fun x24_9 =>
 oP (call n_shell_escape [x24_9] h1) fun x25_10 h10 =>
 oB (oEx 0 x25_10) fun x26_11 =>
 oB (oEx 1 x25_10) fun x27_12 =>
 oB (bEq .no x27_12 (I 0)) fun x29_13 =>
 ci x29_13 (
 j0 h10) (
 oP (oBuildSl h10 5 1 1 [(U 0)] [(0, 1, x26_11)]) fun x32_14 h14 =>
 oP (evW (.append 5 1 1 [(U 0)] (.c y5_1) (.c x32_14)) .e h14) fun x33_15 h15 =>
 oB (bAdd y6_1 x27_12) fun x36_16 =>
 j4 x36_16 x33_15 y0_1 h15))) (
 j0 h1)) (I 0) .nils x0 h
theorem o_shell_quoted : FnOK Tryz.prog n_shell_quoted (a1 f_shell_quoted) := ok1 mixed Tryz.func41 (by kernel_rfl)
end Go.Proofs.YtmlhpcflphlgdaaGreatDoor
