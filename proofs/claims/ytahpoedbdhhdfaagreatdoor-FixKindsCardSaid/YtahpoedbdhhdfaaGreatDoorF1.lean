/- Functions, as they run. PRINTED by a program of this repo. -/
import Derived.Test.YtahpoedbdhhdfaaGreatDoorN
import Derived.Test.YtahpoedbdhhdfaaGreatDoorM
set_option linter.unusedVariables false
set_option maxRecDepth 100000
namespace Go.Proofs.YtahpoedbdhhdfaaGreatDoor
open Go.Ev
/- (*corrector/lint.finder).step -/
noncomputable def f_lint_finder_step (n : Nat) (call : Caller)  (x0 : AV) (h : AH) : Ans :=
 oB (oNil x0) fun x6_0 =>
 oB (oFA 16 x6_0) fun x7_1 =>
 oB (oLd h x7_1) fun x8_2 =>
 oB (oLen x8_2) fun x9_3 =>
 jnF 0 (fun h4 =>
 some (.tup [], h4)) fun j4 =>
 lpF 4 n (fun f5 y10_5 y9_5 y8_5 y0_5 h5 =>
 oB (bLt y10_5 y9_5) fun x11_6 =>
 ci x11_6 (
 jnF 4 (fun z10_7 z9_7 z8_7 z0_7 h7 =>
 oB (bAdd z10_7 (I 1)) fun x58_8 =>
 f5 x58_8 z9_7 z8_7 z0_7 h7) fun j7 =>
 oB (oIx 4 y8_5 y10_5) fun x12_9 =>
 oB (oLdN 4 h5 x12_9) fun x13_10 =>
 oP (oNew h5 125 [(I 0), (I 0), (I 0), (I 0)]) fun x3_11 h11 =>
 oP (oSt 4 h11 x3_11 x13_10) fun _ h12 =>
 drF (drawRun call [⟨(some 14), .mov (.t 0), none⟩,
  ⟨(some 15), .nilCheck (.t 14), none⟩,
  ⟨(some 16), .fieldAddr 15 (.t 15), none⟩,
  ⟨(some 17), .load none (.t 16), none⟩,
  ⟨(some 18), .fieldAddr 1 (.t 3), none⟩,
  ⟨(some 19), .load none (.t 18), none⟩,
  ⟨(some 20), .idxSl 3 (.t 17) (.t 19), none⟩,
  ⟨(some 21), .load (some 3) (.t 20), none⟩,
  ⟨(some 4), .new 131 [(I 0), (I 0), (I 0)], none⟩,
  ⟨none, .store 3 (.t 4) (.t 21), none⟩] [0, 1, 3, 7, 0, 16, 63, 127, 0, 511] (sput 0 (sput 3 Tr.e x3_11) y0_5) h12) [14, 15, 16, 17, 18, 19, 20, 21, 4] fun x14_13 x15_13 x16_13 x17_13 x18_13 x19_13 x20_13 x21_13 x4_13 h13 =>
 oB' (nx 30 h13) fun h14 =>
 oB (oFA 0 x3_11) fun x22_15 =>
 oB (oLd h14 x22_15) fun x23_16 =>
 oB (bEq .no x23_16 (I 5)) fun x24_17 =>
 oB (gq x24_17 true (oFA 0 x4_13)) fun x26_18 =>
 oB (gq x24_17 true (oLd h14 x26_18)) fun x27_19 =>
 oB (gq x24_17 true (bEq .no x27_19 (I 2))) fun x28_20 =>
 oB (oPick x24_17 x28_20 (.bool false)) fun x29_21 =>
 oB (gq x29_21 true (some y0_5)) fun x31_22 =>
 oB (gq x29_21 true (oFA 1 x3_11)) fun x32_23 =>
 oB (gq x29_21 true (oLd h14 x32_23)) fun x33_24 =>
 oB (gq x29_21 true (bAdd x33_24 (I 1))) fun x34_25 =>
 oP (gw x29_21 true (call n_lint_finder_kind [x31_22, x34_25] h14) h14) fun x35_26 h26 =>
 oP (gw x29_21 true (call n_lint_counts [x35_26] h26) h26) fun x36_27 h27 =>
 oB (oPick x29_21 x36_27 (.bool false)) fun x37_28 =>
 oB (gq x37_28 true (oFA 2 x4_13)) fun x39_29 =>
 oB (gq x37_28 true (oLd h27 x39_29)) fun x40_30 =>
 oB (gq x37_28 true (oFA 1 x4_13)) fun x41_31 =>
 oB (gq x37_28 true (oLd h27 x41_31)) fun x42_32 =>
 oB (gq x37_28 true (bSub x40_30 x42_32)) fun x43_33 =>
 oB (gq x37_28 true (some y0_5)) fun x44_34 =>
 oB (gq x37_28 true (oNil x44_34)) fun x45_35 =>
 oB (gq x37_28 true (oFA 1 x45_35)) fun x46_36 =>
 oB (gq x37_28 true (oFA 11 x46_36)) fun x47_37 =>
 oB (gq x37_28 true (oLd h27 x47_37)) fun x48_38 =>
 oB (gq x37_28 true (binAV .rem .no x43_33 x48_38)) fun x49_39 =>
 oB (gq x37_28 true (bNe .no x49_39 (I 0))) fun x50_40 =>
 oB (oPick x37_28 x50_40 (.bool false)) fun x51_41 =>
 jnF 4 (fun z10_42 z9_42 z8_42 z0_42 h42 =>
 j7 z10_42 z9_42 z8_42 z0_42 h42) fun j42 =>
 ci x51_41 (
 oB (oFA 1 x4_13) fun x53_43 =>
 oB (oLd h27 x53_43) fun x54_44 =>
 oB (oFA 2 x4_13) fun x55_45 =>
 oB (oLd h27 x55_45) fun x56_46 =>
 oP (call n_lint_finder_find [y0_5, (I 3), x54_44, x56_46] h27) fun x57_47 h47 =>
 j42 y10_5 y9_5 y8_5 y0_5 h47) (
 j42 y10_5 y9_5 y8_5 y0_5 h27)) (
 j4 h5)) (I 0) x9_3 x8_2 x0 h
theorem o_lint_finder_step : FnOK Tryz.prog n_lint_finder_step (a1 f_lint_finder_step) := ok1 mixed Tryz.func29 (by kernel_rfl)
/- (*corrector/lint.finder).empty -/
noncomputable def f_lint_finder_empty (n : Nat) (call : Caller)  (x0 : AV) (h : AH) : Ans :=
 oB (oNil x0) fun x8_0 =>
 oB (oFA 16 x8_0) fun x9_1 =>
 oB (oLd h x9_1) fun x10_2 =>
 oB (oLen x10_2) fun x11_3 =>
 jnF 0 (fun h4 =>
 some (.tup [], h4)) fun j4 =>
 lpF 5 n (fun f5 y12_5 y11_5 y10_5 y2_5 y0_5 h5 =>
 oB (bLt y12_5 y11_5) fun x13_6 =>
 ci x13_6 (
 jnF 5 (fun z12_7 z11_7 z10_7 z2_7 z0_7 h7 =>
 oB (bAdd z12_7 (I 1)) fun x50_8 =>
 f5 x50_8 z11_7 z10_7 z2_7 z0_7 h7) fun j7 =>
 oB (oIx 4 y10_5 y12_5) fun x14_9 =>
 oB (oLdN 4 h5 x14_9) fun x15_10 =>
 oP (oNew h5 125 [(I 0), (I 0), (I 0), (I 0)]) fun x4_11 h11 =>
 oP (oSt 4 h11 x4_11 x15_10) fun _ h12 =>
 oB' (nx 15 h12) fun h13 =>
 oB (oFA 0 x4_11) fun x16_14 =>
 oB (oLd h13 x16_14) fun x17_15 =>
 oB (bNe .no x17_15 (I 1)) fun x18_16 =>
 oB (gq x18_16 false (some y0_5)) fun x20_17 =>
 oB (gq x18_16 false (oNil x20_17)) fun x21_18 =>
 oB (gq x18_16 false (oFA 15 x21_18)) fun x22_19 =>
 oB (gq x18_16 false (oLd h13 x22_19)) fun x23_20 =>
 oB (gq x18_16 false (oFA 1 x4_11)) fun x24_21 =>
 oB (gq x18_16 false (oLd h13 x24_21)) fun x25_22 =>
 oB (gq x18_16 false (oFA 2 x4_11)) fun x26_23 =>
 oB (gq x18_16 false (oLd h13 x26_23)) fun x27_24 =>
 oB (gq x18_16 false (evQ (.sl 3 (.c x23_20) (some (.c x25_22)) (some (.c x27_24)) none) .e h13)) fun x28_25 =>
 oP (gw x18_16 false (call n_slices_ContainsFunc_api_Token_api_Token [x28_25, (.fn 74 [] [])] h13) h13) fun x29_26 h26 =>
 oB (oPick x18_16 (.bool true) x29_26) fun x30_27 =>
 ci x30_27 (
 j7 y12_5 y11_5 y10_5 (I 0) y0_5 h26) (
 oB (bAdd y2_5 (I 1)) fun x32_28 =>
 oB (oNil y0_5) fun x35_29 =>
 oB (oFA 1 x35_29) fun x36_30 =>
 oB (oFA 12 x36_30) fun x37_31 =>
 oB (oLd h26 x37_31) fun x38_32 =>
 oB (bGt x32_28 x38_32) fun x39_33 =>
 jnF 5 (fun z12_34 z11_34 z10_34 z2_34 z0_34 h34 =>
 j7 z12_34 z11_34 z10_34 z2_34 z0_34 h34) fun j34 =>
 ci x39_33 (
 oB (oLdN 4 h26 x4_11) fun x42_35 =>
 oP (call n_lint_finder_bytes [y0_5, x42_35] h26) fun x43_36 h36 =>
 oB (oEx 0 x43_36) fun x44_37 =>
 oB (oEx 1 x43_36) fun x45_38 =>
 oP (call n_lint_finder_find [y0_5, (I 4), x44_37, x45_38] h36) fun x49_39 h39 =>
 j34 y12_5 y11_5 y10_5 x32_28 y0_5 h39) (
 j34 y12_5 y11_5 y10_5 x32_28 y0_5 h26))) (
 j4 h5)) (I 0) x11_3 x10_2 (I 0) x0 h
theorem o_lint_finder_empty : FnOK Tryz.prog n_lint_finder_empty (a1 f_lint_finder_empty) := ok1 mixed Tryz.func30 (by kernel_rfl)
/- (*corrector/lint.finder).mark -/
noncomputable def f_lint_finder_mark (n : Nat) (call : Caller)  (x0 : AV) (h : AH) : Ans :=
 oB (oNil x0) fun x4_0 =>
 oB (oFA 15 x4_0) fun x5_1 =>
 oB (oLd h x5_1) fun x6_2 =>
 oP (call n_slices_IndexFunc_api_Token_api_Token [x6_2, (.fn 76 [] [])] h) fun x7_3 h3 =>
 oB (bGe x7_3 (I 0)) fun x9_4 =>
 oB (gq x9_4 true (some x0)) fun x11_5 =>
 oB (gq x9_4 true (oNil x11_5)) fun x12_6 =>
 oB (gq x9_4 true (oFA 15 x12_6)) fun x13_7 =>
 oB (gq x9_4 true (oLd h3 x13_7)) fun x14_8 =>
 oB (gq x9_4 true (some x7_3)) fun x15_9 =>
 oB (gq x9_4 true (oIx 3 x14_8 x15_9)) fun x16_10 =>
 oB (gq x9_4 true (oFA 0 x16_10)) fun x17_11 =>
 oB (gq x9_4 true (oLd h3 x17_11)) fun x18_12 =>
 oB (gq x9_4 true (bNe .no x18_12 (I 20))) fun x19_13 =>
 oB (oPick x9_4 x19_13 (.bool false)) fun x20_14 =>
 jnF 0 (fun h15 =>
 some (.tup [], h15)) fun j15 =>
 ci x20_14 (
 oP (call n_lint_finder_find [x0, (I 5), (I 0), (I 0)] h3) fun x22_16 h16 =>
 j15 h16) (
 j15 h3)
theorem o_lint_finder_mark : FnOK Tryz.prog n_lint_finder_mark (a1 f_lint_finder_mark) := ok1 mixed Tryz.func31 (by kernel_rfl)
/- (*corrector/lint.finder).hash -/
noncomputable def f_lint_finder_hash (n : Nat) (call : Caller)  (x0 : AV) (h : AH) : Ans :=
 oB (oNil x0) fun x6_0 =>
 oB (oFA 15 x6_0) fun x7_1 =>
 oB (oLd h x7_1) fun x8_2 =>
 oB (oLen x8_2) fun x9_3 =>
 jnF 0 (fun h4 =>
 some (.tup [], h4)) fun j4 =>
 lpF 4 n (fun f5 y10_5 y9_5 y8_5 y0_5 h5 =>
 oB (bLt y10_5 y9_5) fun x11_6 =>
 ci x11_6 (
 jnF 4 (fun z10_7 z9_7 z8_7 z0_7 h7 =>
 oB (bAdd z10_7 (I 1)) fun x52_8 =>
 f5 x52_8 z9_7 z8_7 z0_7 h7) fun j7 =>
 oB (oIx 3 y8_5 y10_5) fun x12_9 =>
 oB (oLdN 3 h5 x12_9) fun x13_10 =>
 oP (oNew h5 131 [(I 0), (I 0), (I 0)]) fun x3_11 h11 =>
 oP (oSt 3 h11 x3_11 x13_10) fun _ h12 =>
 oB (oFA 0 x3_11) fun x14_13 =>
 oB (oLd h12 x14_13) fun x15_14 =>
 oB (bNe .no x15_14 (I 4)) fun x16_15 =>
 oB (gq x16_15 false (oFA 2 x3_11)) fun x18_16 =>
 oB (gq x16_15 false (oLd h12 x18_16)) fun x19_17 =>
 oB (gq x16_15 false (oFA 1 x3_11)) fun x20_18 =>
 oB (gq x16_15 false (oLd h12 x20_18)) fun x21_19 =>
 oB (gq x16_15 false (bAdd x21_19 (I 1))) fun x22_20 =>
 oB (gq x16_15 false (bEq .no x19_17 x22_20)) fun x23_21 =>
 oB (oPick x16_15 (.bool true) x23_21) fun x24_22 =>
 ci x24_22 (
 j7 y10_5 y9_5 y8_5 y0_5 h12) (
 oB' (nx 10 h12) fun h23 =>
 oB (oNil y0_5) fun x26_24 =>
 oB (oFA 0 x26_24) fun x27_25 =>
 oB (oLd h23 x27_25) fun x28_26 =>
 oB (oFA 1 x3_11) fun x29_27 =>
 oB (oLd h23 x29_27) fun x30_28 =>
 oB (bAdd x30_28 (I 1)) fun x31_29 =>
 oB (oIx 1 x28_26 x31_29) fun x32_30 =>
 oB (oLd h23 x32_30) fun x33_31 =>
 oP (call n_chars_Blank [x33_31] h23) fun x35_32 h32 =>
 oB (evQ (.un .not (.c x35_32)) .e h32) fun x36_33 =>
 oB (gq x36_33 true (some x33_31)) fun x38_34 =>
 oB (gq x36_33 true (bNe .no x38_34 (U 35))) fun x39_35 =>
 oB (oPick x36_33 x39_35 (.bool false)) fun x40_36 =>
 oB (gq x40_36 true (some x33_31)) fun x42_37 =>
 oB (gq x40_36 true (bNe .no x42_37 (U 33))) fun x43_38 =>
 oB (oPick x40_36 x43_38 (.bool false)) fun x44_39 =>
 jnF 4 (fun z10_40 z9_40 z8_40 z0_40 h40 =>
 j7 z10_40 z9_40 z8_40 z0_40 h40) fun j40 =>
 ci x44_39 (
 oB (oFA 1 x3_11) fun x46_41 =>
 oB (oLd h32 x46_41) fun x47_42 =>
 oB (oFA 1 x3_11) fun x48_43 =>
 oB (oLd h32 x48_43) fun x49_44 =>
 oB (bAdd x49_44 (I 1)) fun x50_45 =>
 oP (call n_lint_finder_find [y0_5, (I 6), x47_42, x50_45] h32) fun x51_46 h46 =>
 j40 y10_5 y9_5 y8_5 y0_5 h46) (
 j40 y10_5 y9_5 y8_5 y0_5 h32))) (
 j4 h5)) (I 0) x9_3 x8_2 x0 h
theorem o_lint_finder_hash : FnOK Tryz.prog n_lint_finder_hash (a1 f_lint_finder_hash) := ok1 mixed Tryz.func32 (by kernel_rfl)
/- (*corrector/lint.finder).comma -/
noncomputable def f_lint_finder_comma (n : Nat) (call : Caller)  (x0 : AV) (h : AH) : Ans :=
 oB (oNil x0) fun x6_0 =>
 oB (oFA 15 x6_0) fun x7_1 =>
 oB (oLd h x7_1) fun x8_2 =>
 oB (oLen x8_2) fun x9_3 =>
 jnF 0 (fun h4 =>
 some (.tup [], h4)) fun j4 =>
 lpF 4 n (fun f5 y10_5 y9_5 y8_5 y0_5 h5 =>
 oB (bLt y10_5 y9_5) fun x11_6 =>
 ci x11_6 (
 jnF 4 (fun z10_7 z9_7 z8_7 z0_7 h7 =>
 oB (bAdd z10_7 (I 1)) fun x40_8 =>
 f5 x40_8 z9_7 z8_7 z0_7 h7) fun j7 =>
 oB (oIx 3 y8_5 y10_5) fun x13_9 =>
 oB (oLdN 3 h5 x13_9) fun x14_10 =>
 oP (oNew h5 131 [(I 0), (I 0), (I 0)]) fun x3_11 h11 =>
 oP (oSt 3 h11 x3_11 x14_10) fun _ h12 =>
 oB (bAdd y10_5 (I 1)) fun x17_13 =>
 oP (call n_lint_finder_kind [y0_5, x17_13] h12) fun x18_14 h14 =>
 oB (oFA 0 x3_11) fun x19_15 =>
 oB (oLd h14 x19_15) fun x20_16 =>
 oB (bEq .no x20_16 (I 7)) fun x21_17 =>
 oB (gq x21_17 true (some x18_14)) fun x23_18 =>
 oB (gq x21_17 true (bNe .no x23_18 (I 0))) fun x24_19 =>
 oB (oPick x21_17 x24_19 (.bool false)) fun x25_20 =>
 oB (gq x25_20 true (some x18_14)) fun x27_21 =>
 oB (gq x25_20 true (bNe .no x27_21 (I 3))) fun x28_22 =>
 oB (oPick x25_20 x28_22 (.bool false)) fun x29_23 =>
 oB (gq x29_23 true (some x18_14)) fun x31_24 =>
 oB (gq x29_23 true (bNe .no x31_24 (I 1))) fun x32_25 =>
 oB (oPick x29_23 x32_25 (.bool false)) fun x33_26 =>
 jnF 4 (fun z10_27 z9_27 z8_27 z0_27 h27 =>
 j7 z10_27 z9_27 z8_27 z0_27 h27) fun j27 =>
 ci x33_26 (
 oB (oFA 1 x3_11) fun x35_28 =>
 oB (oLd h14 x35_28) fun x36_29 =>
 oB (oFA 2 x3_11) fun x37_30 =>
 oB (oLd h14 x37_30) fun x38_31 =>
 oP (call n_lint_finder_find [y0_5, (I 7), x36_29, x38_31] h14) fun x39_32 h32 =>
 j27 y10_5 y9_5 y8_5 y0_5 h32) (
 j27 y10_5 y9_5 y8_5 y0_5 h14)) (
 j4 h5)) (I 0) x9_3 x8_2 x0 h
theorem o_lint_finder_comma : FnOK Tryz.prog n_lint_finder_comma (a1 f_lint_finder_comma) := ok1 mixed Tryz.func33 (by kernel_rfl)
/- (*corrector/lint.finder).twice -/
noncomputable def f_lint_finder_twice (n : Nat) (call : Caller)  (x0 : AV) (h : AH) : Ans :=
 oP (oNew h 77 (AV.cells x0)) fun x1_0 h0 =>
 oB (oLd h0 x1_0) fun x12_1 =>
 oB (oNil x12_1) fun x13_2 =>
 oB (oFA 17 x13_2) fun x14_3 =>
 oB (oFA 0 x14_3) fun x15_4 =>
 oB (oLd h0 x15_4) fun x16_5 =>
 oB (oLen x16_5) fun x17_6 =>
 jnF 0 (fun h7 =>
 some (.tup [], h7)) fun j7 =>
 lpF 4 n (fun f8 y18_8 y17_8 y16_8 y1_8 h8 =>
 oB (bLt y18_8 y17_8) fun x19_9 =>
 ci x19_9 (
 jnF 4 (fun z18_10 z17_10 z16_10 z1_10 h10 =>
 oB (bAdd z18_10 (I 1)) fun x114_11 =>
 f8 x114_11 z17_10 z16_10 z1_10 h10) fun j10 =>
 oB (oIx 6 y16_8 y18_8) fun x21_12 =>
 oB (oLdN 6 h8 x21_12) fun x22_13 =>
 oP (oNew h8 98 [(I 0), (I 0), (I 0), (I 0), .nils, (.bool false)]) fun x3_14 h14 =>
 oP (oSt 6 h14 x3_14 x22_13) fun _ h15 =>
 oB (oFA 0 x3_14) fun x23_16 =>
 oB (oLd h15 x23_16) fun x24_17 =>
 oB (bNe .no x24_17 (I 5)) fun x25_18 =>
 oB (gq x25_18 true (oFA 0 x3_14)) fun x27_19 =>
 oB (gq x25_18 true (oLd h15 x27_19)) fun x28_20 =>
 oB (gq x25_18 true (bNe .no x28_20 (I 10))) fun x29_21 =>
 oB (oPick x25_18 x29_21 (.bool false)) fun x30_22 =>
 ci x30_22 (
 j10 y18_8 y17_8 y16_8 y1_8 h15) (
 oB (oFA 4 x3_14) fun x31_23 =>
 oB (oLd h15 x31_23) fun x32_24 =>
 oP (call n_slices_Clone_int_int [x32_24] h15) fun x33_25 h25 =>
 oB (some (.fn n_lint_finder_twice_1 [] [y1_8])) fun x34_26 =>
 oP (call n_slices_DeleteFunc_int_int [x33_25, x34_26] h25) fun x35_27 h27 =>
 oB' (nx 15 h27) fun h28 =>
 oB (oLd h28 y1_8) fun x36_29 =>
 oB (oNil x36_29) fun x37_30 =>
 oB (oFA 18 x37_30) fun x38_31 =>
 oB (oLdN 3 h28 x38_31) fun x39_32 =>
 oB (oLd h28 y1_8) fun x40_33 =>
 oB (oNil x40_33) fun x41_34 =>
 oB (oFA 18 x41_34) fun x42_35 =>
 oB (oFA 2 x42_35) fun x43_36 =>
 oB (oLd h28 x43_36) fun x44_37 =>
 oB (oIx 1 x44_37 y18_8) fun x46_38 =>
 oB (oLd h28 x46_38) fun x47_39 =>
 oP (call n_equal_Twice [x39_32, x47_39] h28) fun x48_40 h40 =>
 oB (oLen x48_40) fun x49_41 =>
 jnF 4 (fun z18_42 z17_42 z16_42 z1_42 h42 =>
 j10 z18_42 z17_42 z16_42 z1_42 h42) fun j42 =>
 lpF 8 n (fun f43 y50_43 y49_43 y48_43 y18_43 y17_43 y16_43 y4_43 y1_43 h43 =>
 oB (bLt y50_43 y49_43) fun x51_44 =>
 ci x51_44 (
 jnF 8 (fun z50_45 z49_45 z48_45 z18_45 z17_45 z16_45 z4_45 z1_45 h45 =>
 oB (bAdd z50_45 (I 1)) fun x113_46 =>
 f43 x113_46 z49_45 z48_45 z18_45 z17_45 z16_45 z4_45 z1_45 h45) fun j45 =>
 oB (oIx 1 y48_43 y50_43) fun x52_47 =>
 oB (oLd h43 x52_47) fun x53_48 =>
 drF (drawRun call [⟨(some 54), .load none (.t 1), none⟩,
  ⟨(some 55), .nilCheck (.t 54), none⟩,
  ⟨(some 56), .fieldAddr 17 (.t 55), none⟩,
  ⟨(some 57), .fieldAddr 0 (.t 56), none⟩,
  ⟨(some 58), .load none (.t 57), none⟩,
  ⟨(some 59), .mov (.t 4), none⟩,
  ⟨(some 60), .mov (.t 6), none⟩,
  ⟨(some 61), .idxSl 1 (.t 59) (.t 60), none⟩,
  ⟨(some 62), .load none (.t 61), none⟩,
  ⟨(some 63), .idxSl 6 (.t 58) (.t 62), none⟩,
  ⟨(some 64), .load (some 6) (.t 63), none⟩,
  ⟨(some 7), .new 98 [(I 0), (I 0), (I 0), (I 0), .nils, (.bool false)], none⟩,
  ⟨none, .store 6 (.t 7) (.t 64), none⟩] [0, 1, 3, 7, 15, 0, 0, 96, 224, 511, 1023, 0, 4095] (sput 1 (sput 4 (sput 6 Tr.e x53_48) y4_43) y1_43) h43) [54, 55, 56, 57, 58, 59, 60, 61, 62, 63, 64, 7] fun x54_49 x55_49 x56_49 x57_49 x58_49 x59_49 x60_49 x61_49 x62_49 x63_49 x64_49 x7_49 h49 =>
 oB' (nx 19 h49) fun h50 =>
 oB (oFA 4 x7_49) fun x65_51 =>
 oB (oLd h50 x65_51) fun x66_52 =>
 oB (oLen x66_52) fun x67_53 =>
 oB (bGt x67_53 (I 0)) fun x68_54 =>
 oB (gq x68_54 true (oLd h50 y1_43)) fun x70_55 =>
 oB (gq x68_54 true (oNil x70_55)) fun x71_56 =>
 oB (gq x68_54 true (oFA 17 x71_56)) fun x72_57 =>
 oB (gq x68_54 true (oFA 0 x72_57)) fun x73_58 =>
 oB (gq x68_54 true (oLd h50 x73_58)) fun x74_59 =>
 oB (gq x68_54 true (oFA 4 x7_49)) fun x75_60 =>
 oB (gq x68_54 true (oLd h50 x75_60)) fun x76_61 =>
 oB (gq x68_54 true (oIx 1 x76_61 (I 0))) fun x77_62 =>
 oB (gq x68_54 true (oLd h50 x77_62)) fun x78_63 =>
 oB (gq x68_54 true (oIx 6 x74_59 x78_63)) fun x79_64 =>
 oB (gq x68_54 true (oFA 0 x79_64)) fun x80_65 =>
 oB (gq x68_54 true (oLd h50 x80_65)) fun x81_66 =>
 oB (gq x68_54 true (bEq .no x81_66 (I 11))) fun x82_67 =>
 oB (oPick x68_54 x82_67 (.bool false)) fun x83_68 =>
 ci x83_68 (
 j45 y50_43 y49_43 y48_43 y18_43 y17_43 y16_43 y4_43 y1_43 h50) (
 oB (oLd h50 y1_43) fun x84_69 =>
 oB (oLdN 6 h50 x7_49) fun x85_70 =>
 oP (call n_lint_finder_where [x84_69, x85_70] h50) fun x86_71 h71 =>
 oB (oTa 145 (.agg [(I 0), (I 0)]) true x86_71) fun x89_72 =>
 oB (oEx 0 x89_72) fun x90_73 =>
 oB (oEx 1 x89_72) fun x91_74 =>
 oP (oNew h71 145 [(I 0), (I 0)]) fun x9_75 h75 =>
 oP (oSt 2 h75 x9_75 x90_73) fun _ h76 =>
 ci x91_74 (
 oB (oLd h76 y1_43) fun x93_77 =>
 oB (oFA 0 x9_75) fun x94_78 =>
 oB (oLd h76 x94_78) fun x95_79 =>
 oB (oFA 1 x9_75) fun x96_80 =>
 oB (oLd h76 x96_80) fun x97_81 =>
 oP (call n_lint_finder_find [x93_77, (I 8), x95_79, x97_81] h76) fun x98_82 h82 =>
 j45 y50_43 y49_43 y48_43 y18_43 y17_43 y16_43 y4_43 y1_43 h82) (
 drF (drawRun call [⟨(some 99), .load none (.t 1), none⟩,
  ⟨(some 100), .nilCheck (.t 99), none⟩,
  ⟨(some 101), .fieldAddr 15 (.t 100), none⟩,
  ⟨(some 102), .load none (.t 101), none⟩,
  ⟨(some 103), .mov (.t 8), none⟩,
  ⟨(some 104), .tassert 3 (I 0) false (.t 103), none⟩,
  ⟨(some 105), .idxSl 3 (.t 102) (.t 104), none⟩,
  ⟨(some 106), .load (some 3) (.t 105), none⟩,
  ⟨(some 11), .new 131 [(I 0), (I 0), (I 0)], none⟩,
  ⟨none, .store 3 (.t 11) (.t 106), none⟩] [0, 1, 3, 7, 0, 16, 63, 127, 0, 511] (sput 1 (sput 8 Tr.e x86_71) y1_43) h76) [99, 100, 101, 102, 103, 104, 105, 106, 11] fun x99_83 x100_83 x101_83 x102_83 x103_83 x104_83 x105_83 x106_83 x11_83 h83 =>
 oB (oLd h83 y1_43) fun x107_84 =>
 oB (oFA 1 x11_83) fun x108_85 =>
 oB (oLd h83 x108_85) fun x109_86 =>
 oB (oFA 2 x11_83) fun x110_87 =>
 oB (oLd h83 x110_87) fun x111_88 =>
 oP (call n_lint_finder_find [x107_84, (I 8), x109_86, x111_88] h83) fun x112_89 h89 =>
 j45 y50_43 y49_43 y48_43 y18_43 y17_43 y16_43 y4_43 y1_43 h89))) (
 j42 y18_43 y17_43 y16_43 y1_43 h43)) (I 0) x49_41 x48_40 y18_8 y17_8 y16_8 x35_27 y1_8 h40)) (
 j7 h8)) (I 0) x17_6 x16_5 x1_0 h0
theorem o_lint_finder_twice : FnOK Tryz.prog n_lint_finder_twice (a1 f_lint_finder_twice) := ok1 mixed Tryz.func34 (by kernel_rfl)
/- (*corrector/lint.finder).end -/
noncomputable def f_lint_finder_end (n : Nat) (call : Caller)  (x0 : AV) (h : AH) : Ans :=
 oB (oNil x0) fun x4_0 =>
 oB (oFA 0 x4_0) fun x5_1 =>
 oB (oLd h x5_1) fun x6_2 =>
 oB (oLen x6_2) fun x7_3 =>
 oB (bGt x7_3 (I 0)) fun x9_4 =>
 oB (gq x9_4 true (some x0)) fun x11_5 =>
 oB (gq x9_4 true (oNil x11_5)) fun x12_6 =>
 oB (gq x9_4 true (oFA 0 x12_6)) fun x13_7 =>
 oB (gq x9_4 true (oLd h x13_7)) fun x14_8 =>
 oB (gq x9_4 true (some x7_3)) fun x15_9 =>
 oB (gq x9_4 true (bSub x15_9 (I 1))) fun x16_10 =>
 oB (gq x9_4 true (oIx 1 x14_8 x16_10)) fun x17_11 =>
 oB (gq x9_4 true (oLd h x17_11)) fun x18_12 =>
 oB (gq x9_4 true (bNe .no x18_12 (U 10))) fun x19_13 =>
 oB (oPick x9_4 x19_13 (.bool false)) fun x20_14 =>
 oB (gq x20_14 true (some x0)) fun x22_15 =>
 oB (gq x20_14 true (oNil x22_15)) fun x23_16 =>
 oB (gq x20_14 true (oFA 0 x23_16)) fun x24_17 =>
 oB (gq x20_14 true (oLd h x24_17)) fun x25_18 =>
 oB (gq x20_14 true (some x7_3)) fun x26_19 =>
 oB (gq x20_14 true (bSub x26_19 (I 1))) fun x27_20 =>
 oB (gq x20_14 true (oIx 1 x25_18 x27_20)) fun x28_21 =>
 oB (gq x20_14 true (oLd h x28_21)) fun x29_22 =>
 oB (gq x20_14 true (bNe .no x29_22 (U 13))) fun x30_23 =>
 oB (oPick x20_14 x30_23 (.bool false)) fun x31_24 =>
 jnF 0 (fun h25 =>
 some (.tup [], h25)) fun j25 =>
 ci x31_24 (
 oP (call n_lint_finder_find [x0, (I 9), x7_3, x7_3] h) fun x35_26 h26 =>
 j25 h26) (
 j25 h)
theorem o_lint_finder_end : FnOK Tryz.prog n_lint_finder_end (a1 f_lint_finder_end) := ok1 mixed Tryz.func35 (by kernel_rfl)
/- corrector/lint.on -/
noncomputable def f_lint_on (n : Nat) (call : Caller)  (x0 x1 : AV) (h : AH) : Ans :=
 oP (oNew h 25 (AV.cells x0)) fun x2_0 h0 =>
 oB (oLd h0 x2_0) fun x6_1 =>
 oP (call n_lint_Off [x6_1, x1] h0) fun x8_2 h2 =>
 oP (oNew h2 40 [.nils]) fun x5_3 h3 =>
 oP (oSt 1 h3 x5_3 x8_2) fun _ h4 =>
 oB (some (.fn n_lint_on_1 [] [x2_0, x5_3])) fun x9_5 =>
 some (x9_5, h4)
theorem o_lint_on : FnOK Tryz.prog n_lint_on (a2 f_lint_on) := ok2 mixed Tryz.func36 (by kernel_rfl)
/- corrector/scan.Tokens -/
noncomputable def f_scan_Tokens (n : Nat) (call : Caller)  (x0 : AV) (h : AH) : Ans :=
 oB (oLen x0) fun x5_0 =>
 oB (bGt x5_0 (I 16384)) fun x6_1 =>
 ci x6_1 (
 some (.nils, h)) (
 oB (oBuild [.nils, (I 0), .nils, (I 0), (I 0), (I 0), (.bool false)] [(0, 1, x0)]) fun x8_2 =>
 oP (oNew h 152 (AV.cells x8_2)) fun x9_3 h3 =>
 oP (call n_scan_scanner_begin [x9_3] h3) fun x11_4 h4 =>
 jnF 1 (fun z3_5 h5 =>
 oB (oNil z3_5) fun x46_6 =>
 oB (oFA 2 x46_6) fun x47_7 =>
 oB (oLd h5 x47_7) fun x48_8 =>
 oP (call n_slices_Clone_api_Token_api_Token [x48_8] h5) fun x49_9 h9 =>
 some (x49_9, h9)) fun j5 =>
 lpF 1 n (fun f10 y3_10 h10 =>
 oB' (nx 10 h10) fun h11 =>
 oB (oNil y3_10) fun x13_12 =>
 oB (oFA 1 x13_12) fun x14_13 =>
 oB (oLd h11 x14_13) fun x15_14 =>
 oB (oNil y3_10) fun x17_15 =>
 oB (oFA 0 x17_15) fun x18_16 =>
 oB (oLd h11 x18_16) fun x19_17 =>
 oB (oLen x19_17) fun x20_18 =>
 oB (bLt x15_14 x20_18) fun x21_19 =>
 ci x21_19 (
 jnF 1 (fun z3_20 h20 =>
 f10 z3_20 h20) fun j20 =>
 oB' (nx 21 h11) fun h21 =>
 oB (oNil y3_10) fun x23_22 =>
 oB (oFA 1 x23_22) fun x24_23 =>
 oB (oLd h21 x24_23) fun x25_24 =>
 oB (oNil y3_10) fun x27_25 =>
 oB (oFA 4 x27_25) fun x28_26 =>
 oB (oLd h21 x28_26) fun x29_27 =>
 oB (bEq .no x25_24 x29_27) fun x30_28 =>
 oB (gq x30_28 true (some y3_10)) fun x32_29 =>
 oP (gw x30_28 true (call n_scan_scanner_begun [x32_29] h21) h21) fun x33_30 h30 =>
 oB (oPick x30_28 x33_30 (.bool false)) fun x34_31 =>
 oB (gq x34_31 false (some y3_10)) fun x36_32 =>
 oP (gw x34_31 false (call n_scan_scanner_loose [x36_32] h30) h30) fun x37_33 h33 =>
 oB (oPick x34_31 (.bool true) x37_33) fun x38_34 =>
 oB (gq x38_34 false (some y3_10)) fun x40_35 =>
 oP (gw x38_34 false (call n_scan_scanner_sign [x40_35] h33) h33) fun x41_36 h36 =>
 oB (oPick x38_34 (.bool true) x41_36) fun x42_37 =>
 ci x42_37 (
 j20 y3_10 h36) (
 oP (call n_scan_scanner_text [y3_10] h36) fun x44_38 h38 =>
 j20 y3_10 h38)) (
 j5 y3_10 h11)) x9_3 h4)
theorem o_scan_Tokens : FnOK Tryz.prog n_scan_Tokens (a1 f_scan_Tokens) := ok1 mixed Tryz.func37 (by kernel_rfl)
/- corrector/arena.New -/
noncomputable def f_arena_New (n : Nat) (call : Caller)  (x0 : AV) (h : AH) : Ans :=
 oP (oNew h 59 [.nils]) fun x2_0 h0 =>
 oB (bLt x0 (I 0)) fun x4_1 =>
 oB (gq x4_1 false (some x0)) fun x6_2 =>
 oB (gq x4_1 false (bGt x6_2 (I 32768))) fun x7_3 =>
 oB (oPick x4_1 (.bool true) x7_3) fun x8_4 =>
 jnF 2 (fun z2_5 z0_5 h5 =>
 oB (oBuild [(I 0), (I 0), (I 0), (I 0), .nils, (.bool false)] [(0, 1, (I 1)), (2, 1, z0_5), (3, 1, (Ineg 0))]) fun x10_6 =>
 oP (oBuildSl h5 98 6 1 [(I 0), (I 0), (I 0), (I 0), .nils, (.bool false)] [(0, 6, x10_6)]) fun x11_7 h7 =>
 oB (oBuild [.nils] [(0, 1, x11_7)]) fun x12_8 =>
 oP (oSt 1 h7 z2_5 x12_8) fun _ h9 =>
 retT [(2, some (some 1))] (sput 2 Tr.e z2_5) h9) fun j5 =>
 ci x8_4 (
 j5 x2_0 (I 0) h0) (
 j5 x2_0 x0 h0)
theorem o_arena_New : FnOK Tryz.prog n_arena_New (a1 f_arena_New) := ok1 mixed Tryz.func38 (by kernel_rfl)
/- (*corrector/parse.parser).row -/
noncomputable def f_parse_parser_row (n : Nat) (call : Caller)  (x0 x1 : AV) (h : AH) : Ans :=
 oB (oNil x0) fun x10_0 =>
 oB (oFA 2 x10_0) fun x11_1 =>
 oB (oLd h x11_1) fun x12_2 =>
 oB (oIx 4 x12_2 x1) fun x14_3 =>
 oB (oLdN 4 h x14_3) fun x15_4 =>
 oP (oNew h 125 [(I 0), (I 0), (I 0), (I 0)]) fun x5_5 h5 =>
 oP (oSt 4 h5 x5_5 x15_4) fun _ h6 =>
 oB (oNil x0) fun x17_7 =>
 oB (oFA 9 x17_7) fun x18_8 =>
 oP (oSt 1 h6 x18_8 (Ineg 0)) fun _ h9 =>
 oB (oFA 1 x5_5) fun x20_10 =>
 oB (oLd h9 x20_10) fun x21_11 =>
 oB (oFA 2 x5_5) fun x22_12 =>
 oB (oLd h9 x22_12) fun x23_13 =>
 oP (call n_parse_parser_first [x0, x21_11, x23_13] h9) fun x24_14 h14 =>
 oB (oFA 0 x5_5) fun x25_15 =>
 oB (oLd h14 x25_15) fun x26_16 =>
 jnF 1 (fun z1_17 h17 =>
 oB (bAdd z1_17 (I 1)) fun x73_18 =>
 some (x73_18, h17)) fun j17 =>
 oB (bEq .no x26_16 (I 2)) fun x28_19 =>
 jnF 6 (fun z27_20 z26_20 z6_20 z5_20 z1_20 z0_20 h20 =>
 jnF 1 (fun z1_21 h21 =>
 j17 z1_21 h21) fun j21 =>
 ci z27_20 (
 oB (oFA 1 z5_20) fun x31_22 =>
 oB (oLd h20 x31_22) fun x32_23 =>
 oB (oFA 2 z5_20) fun x33_24 =>
 oB (oLd h20 x33_24) fun x34_25 =>
 oP (call n_parse_parser_amiss [z0_20, (I 8), x32_23, x34_25] h20) fun x35_26 h26 =>
 j21 z1_20 h26) (
 oB (bEq .no z26_20 (I 4)) fun x37_27 =>
 ci x37_27 (
 oP (call n_parse_parser_mark [z0_20, z1_20, z6_20] h20) fun x41_28 h28 =>
 some (x41_28, h28)) (
 oB (bEq .no z26_20 (I 5)) fun x43_29 =>
 ci x43_29 (
 oP (call n_parse_parser_document [z0_20, z6_20] h20) fun x46_30 h30 =>
 oB' (nx 15 h30) fun h31 =>
 oB (oNil z0_20) fun x49_32 =>
 oB (oFA 0 x49_32) fun x50_33 =>
 oB (oLd h31 x50_33) fun x51_34 =>
 oB (oNil z0_20) fun x53_35 =>
 oB (oFA 1 x53_35) fun x54_36 =>
 oB (oLd h31 x54_36) fun x55_37 =>
 oB (oLdN 4 h31 z5_20) fun x56_38 =>
 oP (call n_rows_Entries [x51_34, x55_37, x56_38] h31) fun x57_39 h39 =>
 oB (oEx 0 x57_39) fun x58_40 =>
 oB (oEx 1 x57_39) fun x59_41 =>
 oB (oLen x58_40) fun x61_42 =>
 oB (bEq .no x61_42 (I 0)) fun x62_43 =>
 ci x62_43 (
 oP (call n_parse_parser_loose [z0_20, z1_20, z6_20] h39) fun x66_44 h44 =>
 some (x66_44, h44)) (
 oP (call n_parse_parser_entries [z0_20, z1_20, x58_40, x59_41] h39) fun x71_45 h45 =>
 some (x71_45, h45))) (
 j21 z1_20 h20)))) fun j20 =>
 ci x28_19 (
 j20 x28_19 x26_16 x24_14 x5_5 x1 x0 h14) (
 oB (bEq .no x26_16 (I 3)) fun x29_46 =>
 j20 x29_46 x26_16 x24_14 x5_5 x1 x0 h14)
theorem o_parse_parser_row : FnOK Tryz.prog n_parse_parser_row (a2 f_parse_parser_row) := ok2 mixed Tryz.func39 (by kernel_rfl)
/- (*corrector/parse.parser).told -/
noncomputable def f_parse_parser_told (n : Nat) (call : Caller)  (x0 : AV) (h : AH) : Ans :=
 oB (oNil x0) fun x9_0 =>
 oB (oFA 0 x9_0) fun x10_1 =>
 oB (oLd h x10_1) fun x11_2 =>
 oP (call n_runes_Bad [x11_2] h) fun x12_3 h3 =>
 oB (oLen x12_3) fun x13_4 =>
 jnF 1 (fun z0_5 h5 =>
 oB (oNil z0_5) fun x25_6 =>
 oB (oFA 2 x25_6) fun x26_7 =>
 oB (oLd h5 x26_7) fun x27_8 =>
 oB (oLen x27_8) fun x28_9 =>
 jnF 1 (fun z0_10 h10 =>
 oB (oNil z0_10) fun x41_11 =>
 oB (oFA 1 x41_11) fun x42_12 =>
 oB (oLd h10 x42_12) fun x43_13 =>
 oB (oLen x43_13) fun x44_14 =>
 jnF 1 (fun z0_15 h15 =>
 oB (oNil z0_15) fun x62_16 =>
 oB (oFA 5 x62_16) fun x63_17 =>
 oB (oLd h15 x63_17) fun x64_18 =>
 oP (call n_slices_SortFunc_api_Diag_api_Diag [x64_18, (.fn 103 [] [])] h15) fun x65_19 h19 =>
 oB (oNil z0_15) fun x68_20 =>
 oB (oFA 5 x68_20) fun x69_21 =>
 oB (oLd h19 x69_21) fun x70_22 =>
 oP (call n_slices_Compact_api_Diag_api_Diag [x70_22] h19) fun x71_23 h23 =>
 oP (call n_slices_Clone_api_Diag_api_Diag [x71_23] h23) fun x72_24 h24 =>
 oB (oNil z0_15) fun x73_25 =>
 oB (oFA 5 x73_25) fun x74_26 =>
 oP (oSt 1 h24 x74_26 x72_24) fun _ h27 =>
 some (.tup [], h27)) fun j15 =>
 lpF 4 n (fun f28 y45_28 y44_28 y43_28 y0_28 h28 =>
 oB (bLt y45_28 y44_28) fun x46_29 =>
 ci x46_29 (
 jnF 4 (fun z45_30 z44_30 z43_30 z0_30 h30 =>
 oB (bAdd z45_30 (I 1)) fun x60_31 =>
 f28 x60_31 z44_30 z43_30 z0_30 h30) fun j30 =>
 oB (oIx 3 y43_28 y45_28) fun x47_32 =>
 oB (oLdN 3 h28 x47_32) fun x48_33 =>
 oP (oNew h28 131 [(I 0), (I 0), (I 0)]) fun x7_34 h34 =>
 oP (oSt 3 h34 x7_34 x48_33) fun _ h35 =>
 oB (oFA 0 x7_34) fun x49_36 =>
 oB (oLd h35 x49_36) fun x50_37 =>
 oB (bEq .no x50_37 (I 16)) fun x51_38 =>
 oB (gq x51_38 false (oFA 0 x7_34)) fun x53_39 =>
 oB (gq x51_38 false (oLd h35 x53_39)) fun x54_40 =>
 oB (gq x51_38 false (bEq .no x54_40 (I 17))) fun x55_41 =>
 oB (oPick x51_38 (.bool true) x55_41) fun x56_42 =>
 jnF 4 (fun z45_43 z44_43 z43_43 z0_43 h43 =>
 j30 z45_43 z44_43 z43_43 z0_43 h43) fun j43 =>
 ci x56_42 (
 oB (oLdN 3 h35 x7_34) fun x58_44 =>
 oP (call n_parse_parser_quoted [y0_28, x58_44] h35) fun x59_45 h45 =>
 j43 y45_28 y44_28 y43_28 y0_28 h45) (
 j43 y45_28 y44_28 y43_28 y0_28 h35)) (
 j15 y0_28 h28)) (I 0) x44_14 x43_13 z0_10 h10) fun j10 =>
 lpF 4 n (fun f46 y29_46 y28_46 y27_46 y0_46 h46 =>
 oB (bLt y29_46 y28_46) fun x30_47 =>
 ci x30_47 (
 jnF 4 (fun z29_48 z28_48 z27_48 z0_48 h48 =>
 oB (bAdd z29_48 (I 1)) fun x39_49 =>
 f46 x39_49 z28_48 z27_48 z0_48 h48) fun j48 =>
 oB (oIx 4 y27_46 y29_46) fun x31_50 =>
 oB (oLdN 4 h46 x31_50) fun x32_51 =>
 oP (oNew h46 125 [(I 0), (I 0), (I 0), (I 0)]) fun x5_52 h52 =>
 oP (oSt 4 h52 x5_52 x32_51) fun _ h53 =>
 oB (oFA 0 x5_52) fun x33_54 =>
 oB (oLd h53 x33_54) fun x34_55 =>
 oB (bEq .no x34_55 (I 5)) fun x35_56 =>
 jnF 4 (fun z29_57 z28_57 z27_57 z0_57 h57 =>
 j48 z29_57 z28_57 z27_57 z0_57 h57) fun j57 =>
 ci x35_56 (
 oB (oLdN 4 h53 x5_52) fun x37_58 =>
 oP (call n_parse_parser_tabs [y0_46, x37_58] h53) fun x38_59 h59 =>
 j57 y29_46 y28_46 y27_46 y0_46 h59) (
 j57 y29_46 y28_46 y27_46 y0_46 h53)) (
 j10 y0_46 h46)) (I 0) x28_9 x27_8 z0_5 h5) fun j5 =>
 lpF 4 n (fun f60 y14_60 y13_60 y12_60 y0_60 h60 =>
 oB (bLt y14_60 y13_60) fun x15_61 =>
 ci x15_61 (
 jnF 4 (fun z14_62 z13_62 z12_62 z0_62 h62 =>
 oB (bAdd z14_62 (I 1)) fun x23_63 =>
 f60 x23_63 z13_62 z12_62 z0_62 h62) fun j62 =>
 oB (oIx 1 y12_60 y14_60) fun x16_64 =>
 oB (oLd h60 x16_64) fun x17_65 =>
 oB (bAdd x17_65 (I 1)) fun x21_66 =>
 oP (call n_parse_parser_tell [y0_60, (I 1), x17_65, x21_66] h60) fun x22_67 h67 =>
 j62 y14_60 y13_60 y12_60 y0_60 h67) (
 j5 y0_60 h60)) (I 0) x13_4 x12_3 x0 h3
theorem o_parse_parser_told : FnOK Tryz.prog n_parse_parser_told (a1 f_parse_parser_told) := ok1 mixed Tryz.func40 (by kernel_rfl)
/- corrector/graph.fits -/
noncomputable def f_graph_fits (n : Nat) (call : Caller)  (x0 x1 x2 : AV) (h : AH) : Ans :=
 oP (oNew h 59 (AV.cells x2)) fun x5_0 h0 =>
 oB (oLen x1) fun x11_1 =>
 jnF 4 (fun z7_2 z5_2 z1_2 z0_2 h2 =>
 oB (oLen z0_2) fun x31_3 =>
 oB (bEq .no z7_2 x31_3) fun x32_4 =>
 oB (gq x32_4 true (oLdN 1 h2 z5_2)) fun x34_5 =>
 oB (gq x32_4 true (some z1_2)) fun x35_6 =>
 oB (gq x32_4 true (oLen x35_6)) fun x36_7 =>
 oP (gw x32_4 true (call n_arena_Check [x34_5, x36_7] h2) h2) fun x37_8 h8 =>
 oB (oPick x32_4 x37_8 (.bool false)) fun x38_9 =>
 some (x38_9, h8)) fun j2 =>
 lpF 7 n (fun f10 y12_10 y11_10 y10_10 y7_10 y5_10 y1_10 y0_10 h10 =>
 oB (bLt y12_10 y11_10) fun x13_11 =>
 ci x13_11 (
 jnF 7 (fun z12_12 z11_12 z10_12 z7_12 z5_12 z1_12 z0_12 h12 =>
 oB (bAdd z12_12 (I 1)) fun x28_13 =>
 f10 x28_13 z11_12 z10_12 z7_12 z5_12 z1_12 z0_12 h12) fun j12 =>
 oB (oIx 3 y10_10 y12_10) fun x14_14 =>
 oB (oLdN 3 h10 x14_14) fun x15_15 =>
 oP (oNew h10 131 [(I 0), (I 0), (I 0)]) fun x9_16 h16 =>
 oP (oSt 3 h16 x9_16 x15_15) fun _ h17 =>
 oB (oFA 1 x9_16) fun x16_18 =>
 oB (oLd h17 x16_18) fun x17_19 =>
 oB (bNe .no x17_19 y7_10) fun x19_20 =>
 oB (gq x19_20 false (oFA 2 x9_16)) fun x21_21 =>
 oB (gq x19_20 false (oLd h17 x21_21)) fun x22_22 =>
 oB (gq x19_20 false (some y7_10)) fun x23_23 =>
 oB (gq x19_20 false (bLe x22_22 x23_23)) fun x24_24 =>
 oB (oPick x19_20 (.bool true) x24_24) fun x25_25 =>
 ci x25_25 (
 some ((.bool false), h17)) (
 oB (oFA 2 x9_16) fun x26_26 =>
 oB (oLd h17 x26_26) fun x27_27 =>
 j12 y12_10 y11_10 y10_10 x27_27 y5_10 y1_10 y0_10 h17)) (
 j2 y7_10 y5_10 y1_10 y0_10 h10)) (I 0) x11_1 x1 (I 0) x5_0 x1 x0 h0
theorem o_graph_fits : FnOK Tryz.prog n_graph_fits (a3 f_graph_fits) := ok3 mixed Tryz.func41 (by kernel_rfl)
/- (*corrector/graph.composer).node -/
noncomputable def f_graph_composer_node (n : Nat) (call : Caller)  (x0 x1 : AV) (h : AH) : Ans :=
 oB (oNil x0) fun x8_0 =>
 oB (oFA 2 x8_0) fun x9_1 =>
 oB (oFA 0 x9_1) fun x10_2 =>
 oB (oLd h x10_2) fun x11_3 =>
 oB (oIx 6 x11_3 x1) fun x13_4 =>
 oB (oLdN 6 h x13_4) fun x14_5 =>
 oP (oNew h 98 [(I 0), (I 0), (I 0), (I 0), .nils, (.bool false)]) fun x5_6 h6 =>
 oP (oSt 6 h6 x5_6 x14_5) fun _ h7 =>
 oB (oFA 0 x5_6) fun x15_8 =>
 oB (oLd h7 x15_8) fun x16_9 =>
 jnF 3 (fun z6_10 z1_10 z0_10 h10 =>
 oB (oNil z0_10) fun x84_11 =>
 oB (oFA 3 x84_11) fun x85_12 =>
 oB (oFA 2 x85_12) fun x86_13 =>
 oB (oLd h10 x86_13) fun x87_14 =>
 oB (oIx 1 x87_14 z1_10) fun x90_15 =>
 oP (oSt 1 h10 x90_15 z6_10) fun _ h16 =>
 some (z6_10, h16)) fun j10 =>
 oB (bEq .no x16_9 (I 2)) fun x18_17 =>
 jnF 6 (fun z17_18 z16_18 z6_18 z5_18 z1_18 z0_18 h18 =>
 jnF 3 (fun z6_19 z1_19 z0_19 h19 =>
 j10 z6_19 z1_19 z0_19 h19) fun j19 =>
 ci z17_18 (
 oB (oLdN 6 h18 z5_18) fun x21_20 =>
 oP (call n_graph_composer_first [z0_18, x21_20] h18) fun x22_21 h21 =>
 j19 x22_21 z1_18 z0_18 h21) (
 oB (bEq .no z16_18 (I 7)) fun x24_22 =>
 jnF 3 (fun z6_23 z1_23 z0_23 h23 =>
 j19 z6_23 z1_23 z0_23 h23) fun j23 =>
 ci x24_22 (
 drF (drawRun call [⟨(some 25), .mov (.t 0), none⟩,
  ⟨(some 26), .mov (.t 0), none⟩,
  ⟨(some 27), .load (some 6) (.t 5), none⟩,
  ⟨(some 28), .callF 109 [(.t 26), (.t 27)], none⟩,
  ⟨(some 29), .mov (.t 0), none⟩,
  ⟨(some 30), .mov (.t 0), none⟩,
  ⟨(some 31), .load (some 6) (.t 5), none⟩,
  ⟨(some 32), .callF 109 [(.t 30), (.t 31)], none⟩,
  ⟨(some 33), .callF 110 [(.t 29), (.t 32)], none⟩,
  ⟨(some 34), .callF 108 [(.t 25), (.t 28), (.t 33)], none⟩,
  ⟨(some 6), .mov (.t 34), none⟩] [0, 0, 0, 6, 0, 0, 0, 110, 254, 511, 1023] (sput 0 (sput 5 Tr.e z5_18) z0_18) h18) [25, 26, 27, 28, 29, 30, 31, 32, 33, 34, 6] fun x25_24 x26_24 x27_24 x28_24 x29_24 x30_24 x31_24 x32_24 x33_24 x34_24 x6_24 h24 =>
 j23 x6_24 z1_18 z0_18 h24) (
 oB (bEq .no z16_18 (I 8)) fun x36_25 =>
 jnF 3 (fun z6_26 z1_26 z0_26 h26 =>
 j23 z6_26 z1_26 z0_26 h26) fun j26 =>
 ci x36_25 (
 drF (drawRun call [⟨(some 37), .mov (.t 0), none⟩,
  ⟨(some 38), .mov (.t 0), none⟩,
  ⟨(some 39), .load (some 6) (.t 5), none⟩,
  ⟨(some 40), .callF 109 [(.t 38), (.t 39)], none⟩,
  ⟨(some 41), .mov (.t 0), none⟩,
  ⟨(some 42), .mov (.t 0), none⟩,
  ⟨(some 43), .load (some 6) (.t 5), none⟩,
  ⟨(some 44), .callF 109 [(.t 42), (.t 43)], none⟩,
  ⟨(some 45), .callF 111 [(.t 41), (.t 44)], none⟩,
  ⟨(some 46), .callF 108 [(.t 37), (.t 40), (.t 45)], none⟩,
  ⟨(some 6), .mov (.t 46), none⟩] [0, 0, 0, 6, 0, 0, 0, 110, 254, 511, 1023] (sput 0 (sput 5 Tr.e z5_18) z0_18) h18) [37, 38, 39, 40, 41, 42, 43, 44, 45, 46, 6] fun x37_27 x38_27 x39_27 x40_27 x41_27 x42_27 x43_27 x44_27 x45_27 x46_27 x6_27 h27 =>
 j26 x6_27 z1_18 z0_18 h27) (
 oB (bEq .no z16_18 (I 3)) fun x48_28 =>
 jnF 3 (fun z6_29 z1_29 z0_29 h29 =>
 j26 z6_29 z1_29 z0_29 h29) fun j29 =>
 ci x48_28 (
 oB (oLdN 6 h18 z5_18) fun x50_30 =>
 oP (call n_graph_composer_collection [z0_18, x50_30, (I 6), .nils] h18) fun x51_31 h31 =>
 j29 x51_31 z1_18 z0_18 h31) (
 oB (bEq .no z16_18 (I 5)) fun x53_32 =>
 jnF 3 (fun z6_33 z1_33 z0_33 h33 =>
 j29 z6_33 z1_33 z0_33 h33) fun j33 =>
 ci x53_32 (
 oB (oLdN 6 h18 z5_18) fun x55_34 =>
 oP (call n_graph_composer_collection [z0_18, x55_34, (I 7), .nils] h18) fun x56_35 h35 =>
 j33 x56_35 z1_18 z0_18 h35) (
 oB (bEq .no z16_18 (I 9)) fun x58_36 =>
 jnF 3 (fun z6_37 z1_37 z0_37 h37 =>
 j33 z6_37 z1_37 z0_37 h37) fun j37 =>
 ci x58_36 (
 drF (drawRun call [⟨(some 59), .mov (.t 0), none⟩,
  ⟨(some 60), .mov (.t 0), none⟩,
  ⟨(some 61), .load (some 6) (.t 5), none⟩,
  ⟨(some 62), .callF 109 [(.t 60), (.t 61)], none⟩,
  ⟨(some 63), .mov (.t 0), none⟩,
  ⟨(some 64), .load (some 6) (.t 5), none⟩,
  ⟨(some 65), .mov (.t 0), none⟩,
  ⟨(some 66), .load (some 6) (.t 5), none⟩,
  ⟨(some 67), .callF 109 [(.t 65), (.t 66)], none⟩,
  ⟨(some 68), .callF 112 [(.t 63), (.t 64), (.c (I 6)), (.t 67)], none⟩,
  ⟨(some 69), .callF 108 [(.t 59), (.t 62), (.t 68)], none⟩,
  ⟨(some 6), .mov (.t 69), none⟩] [0, 0, 0, 6, 0, 0, 0, 0, 206, 510, 1023, 2047] (sput 0 (sput 5 Tr.e z5_18) z0_18) h18) [59, 60, 61, 62, 63, 64, 65, 66, 67, 68, 69, 6] fun x59_38 x60_38 x61_38 x62_38 x63_38 x64_38 x65_38 x66_38 x67_38 x68_38 x69_38 x6_38 h38 =>
 j37 x6_38 z1_18 z0_18 h38) (
 oB (bEq .no z16_18 (I 10)) fun x71_39 =>
 jnF 3 (fun z6_40 z1_40 z0_40 h40 =>
 j37 z6_40 z1_40 z0_40 h40) fun j40 =>
 ci x71_39 (
 drF (drawRun call [⟨(some 72), .mov (.t 0), none⟩,
  ⟨(some 73), .mov (.t 0), none⟩,
  ⟨(some 74), .load (some 6) (.t 5), none⟩,
  ⟨(some 75), .callF 109 [(.t 73), (.t 74)], none⟩,
  ⟨(some 76), .mov (.t 0), none⟩,
  ⟨(some 77), .load (some 6) (.t 5), none⟩,
  ⟨(some 78), .mov (.t 0), none⟩,
  ⟨(some 79), .load (some 6) (.t 5), none⟩,
  ⟨(some 80), .callF 109 [(.t 78), (.t 79)], none⟩,
  ⟨(some 81), .callF 112 [(.t 76), (.t 77), (.c (I 7)), (.t 80)], none⟩,
  ⟨(some 82), .callF 108 [(.t 72), (.t 75), (.t 81)], none⟩,
  ⟨(some 6), .mov (.t 82), none⟩] [0, 0, 0, 6, 0, 0, 0, 0, 206, 510, 1023, 2047] (sput 0 (sput 5 Tr.e z5_18) z0_18) h18) [72, 73, 74, 75, 76, 77, 78, 79, 80, 81, 82, 6] fun x72_41 x73_41 x74_41 x75_41 x76_41 x77_41 x78_41 x79_41 x80_41 x81_41 x82_41 x6_41 h41 =>
 j40 x6_41 z1_18 z0_18 h41) (
 j40 z6_18 z1_18 z0_18 h18)))))))) fun j18 =>
 ci x18_17 (
 j18 x18_17 x16_9 (Ineg 0) x5_6 x1 x0 h7) (
 oB (bEq .no x16_9 (I 4)) fun x19_42 =>
 j18 x19_42 x16_9 (Ineg 0) x5_6 x1 x0 h7)
theorem o_graph_composer_node : FnOK Tryz.prog n_graph_composer_node (a2 f_graph_composer_node) := ok2 mixed Tryz.func42 (by kernel_rfl)
/- slices.SortFunc[[]corrector/api.Diag,corrector/api.Diag] -/
noncomputable def f_slices_SortFunc_api_Diag_api_Diag (n : Nat) (call : Caller)  (x0 x1 : AV) (h : AH) : Ans :=
 oB (oLen x0) fun x6_0 =>
 oB (oInt .u64 x6_0) fun x10_1 =>
 oP (call n_math_bits_Len [x10_1] h) fun x11_2 h2 =>
 oP (call n_slices_pdqsortCmpFunc_api_Diag [x0, (I 0), x6_0, x11_2, x1] h2) fun x13_3 h3 =>
 some (.tup [], h3)
theorem o_slices_SortFunc_api_Diag_api_Diag : FnOK Tryz.prog n_slices_SortFunc_api_Diag_api_Diag (a2 f_slices_SortFunc_api_Diag_api_Diag) := ok2 mixed Tryz.func43 (by kernel_rfl)
/- corrector/graph.order -/
noncomputable def f_graph_order (n : Nat) (call : Caller)  (x0 x1 : AV) (h : AH) : Ans :=
 oP (oNew h 67 (AV.cells x0)) fun x2_0 h0 =>
 oP (oNew h0 67 (AV.cells x1)) fun x3_1 h1 =>
 drF (drawRun call [⟨(some 5), .fieldAddr 1 (.t 2), none⟩,
  ⟨(some 6), .load none (.t 5), none⟩,
  ⟨(some 7), .fieldAddr 1 (.t 3), none⟩,
  ⟨(some 8), .load none (.t 7), none⟩,
  ⟨(some 9), .callF 105 [(.t 6), (.t 8)], none⟩,
  ⟨(some 10), .fieldAddr 2 (.t 2), none⟩,
  ⟨(some 11), .load none (.t 10), none⟩,
  ⟨(some 12), .fieldAddr 2 (.t 3), none⟩,
  ⟨(some 13), .load none (.t 12), none⟩,
  ⟨(some 14), .callF 105 [(.t 11), (.t 13)], none⟩,
  ⟨(some 15), .fieldAddr 0 (.t 2), none⟩,
  ⟨(some 16), .load none (.t 15), none⟩,
  ⟨(some 17), .fieldAddr 0 (.t 3), none⟩,
  ⟨(some 18), .load none (.t 17), none⟩,
  ⟨(some 19), .callF 105 [(.t 16), (.t 18)], none⟩,
  ⟨(some 20), .buildSlice 3 1 3 [(I 0), (I 0), (I 0)] [(0, 1, (.t 9)), (1, 1, (.t 14)), (2, 1, (.t 19))], none⟩,
  ⟨(some 21), .callF 104 [(.t 20)], none⟩,
  ⟨(some 4), .mov (.t 21), none⟩] [0, 1, 0, 4, 15, 0, 32, 0, 128, 511, 0, 1024, 0, 4096, 16383, 32767, 65535, 131071] (sput 2 (sput 3 Tr.e x3_1) x2_0) h1) [5, 6, 7, 8, 9, 10, 11, 12, 13, 14, 15, 16, 17, 18, 19, 20, 21, 4] fun x5_2 x6_2 x7_2 x8_2 x9_2 x10_2 x11_2 x12_2 x13_2 x14_2 x15_2 x16_2 x17_2 x18_2 x19_2 x20_2 x21_2 x4_2 h2 =>
 some (x4_2, h2)
theorem o_graph_order : FnOK Tryz.prog n_graph_order (a2 f_graph_order) := ok2 mixed Tryz.func44 (by kernel_rfl)
/- slices.Clone[[]corrector/api.Value,corrector/api.Value] -/
noncomputable def f_slices_Clone_api_Value_api_Value (n : Nat) (call : Caller)  (x0 : AV) (h : AH) : Ans :=
 oB (bEq .sl x0 .nils) fun x4_0 =>
 ci x4_0 (
 some (.nils, h)) (
 oP (oBuildSl h 103 4 0 [] []) fun x5_1 h1 =>
 oP (evW (.append 103 4 64 [(I 0), (.str []), (.str []), .nils] (.c x5_1) (.c x0)) .e h1) fun x7_2 h2 =>
 some (x7_2, h2))
theorem o_slices_Clone_api_Value_api_Value : FnOK Tryz.prog n_slices_Clone_api_Value_api_Value (a1 f_slices_Clone_api_Value_api_Value) := ok1 mixed Tryz.func45 (by kernel_rfl)
/- slices.Clone[[]int,int] -/
noncomputable def f_slices_Clone_int_int (n : Nat) (call : Caller)  (x0 : AV) (h : AH) : Ans :=
 oB (bEq .sl x0 .nils) fun x4_0 =>
 ci x4_0 (
 some (.nils, h)) (
 oP (oBuildSl h 3 1 0 [] []) fun x5_1 h1 =>
 oP (evW (.append 3 1 8 [(I 0)] (.c x5_1) (.c x0)) .e h1) fun x7_2 h2 =>
 some (x7_2, h2))
theorem o_slices_Clone_int_int : FnOK Tryz.prog n_slices_Clone_int_int (a1 f_slices_Clone_int_int) := ok1 mixed Tryz.func46 (by kernel_rfl)
/- slices.Clone[[]corrector/api.Diag,corrector/api.Diag] -/
noncomputable def f_slices_Clone_api_Diag_api_Diag (n : Nat) (call : Caller)  (x0 : AV) (h : AH) : Ans :=
 oB (bEq .sl x0 .nils) fun x4_0 =>
 ci x4_0 (
 some (.nils, h)) (
 oP (oBuildSl h 67 3 0 [] []) fun x5_1 h1 =>
 oP (evW (.append 67 3 24 [(I 0), (I 0), (I 0)] (.c x5_1) (.c x0)) .e h1) fun x7_2 h2 =>
 some (x7_2, h2))
theorem o_slices_Clone_api_Diag_api_Diag : FnOK Tryz.prog n_slices_Clone_api_Diag_api_Diag (a1 f_slices_Clone_api_Diag_api_Diag) := ok1 mixed Tryz.func47 (by kernel_rfl)
/- slices.Compact[[]corrector/api.Diag,corrector/api.Diag] -/
noncomputable def f_slices_Compact_api_Diag_api_Diag (n : Nat) (call : Caller)  (x0 : AV) (h : AH) : Ans :=
 oB (oLen x0) fun x7_0 =>
 oB (bLt x7_0 (I 2)) fun x8_1 =>
 ci x8_1 (
 some (x0, h)) (
 jnF 1 (fun z0_2 h2 =>
 some (z0_2, h2)) fun j2 =>
 lpF 2 n (fun f3 y3_3 y0_3 h3 =>
 oB (oLen y0_3) fun x12_4 =>
 oB (bLt y3_3 x12_4) fun x13_5 =>
 ci x13_5 (
 jnF 2 (fun z3_6 z0_6 h6 =>
 oB (bAdd z3_6 (I 1)) fun x15_7 =>
 f3 x15_7 z0_6 h6) fun j6 =>
 oB' (nx 10 h3) fun h8 =>
 oB (oIx 3 y0_3 y3_3) fun x18_9 =>
 oB (oLdN 3 h8 x18_9) fun x19_10 =>
 oB (bSub y3_3 (I 1)) fun x22_11 =>
 oB (oIx 3 y0_3 x22_11) fun x23_12 =>
 oB (oLdN 3 h8 x23_12) fun x24_13 =>
 oB (bEq (.flat [.i, .i, .i]) x19_10 x24_13) fun x25_14 =>
 ci x25_14 (
 oB (evQ (.sl 3 (.c y0_3) (some (.c y3_3)) none none) .e h8) fun x28_15 =>
 jnF 2 (fun z3_16 z0_16 h16 =>
 oB (evQ (.sl 3 (.c z0_16) (some (.c z3_16)) none none) .e h16) fun x56_17 =>
 oP (evW (.clr 3 [(I 0), (I 0), (I 0)] (.c x56_17)) .e h16) fun _ h18 =>
 oB (evQ (.sl 3 (.c z0_16) none (some (.c z3_16)) none) .e h18) fun x59_19 =>
 some (x59_19, h18)) fun j16 =>
 lpF 4 n (fun f20 y5_20 y4_20 y3_20 y0_20 h20 =>
 oB (oLen y4_20) fun x31_21 =>
 oB (bLt y5_20 x31_21) fun x32_22 =>
 ci x32_22 (
 jnF 4 (fun z5_23 z4_23 z3_23 z0_23 h23 =>
 oB (bAdd z5_23 (I 1)) fun x34_24 =>
 f20 x34_24 z4_23 z3_23 z0_23 h23) fun j23 =>
 oB' (nx 10 h20) fun h25 =>
 oB (oIx 3 y4_20 y5_20) fun x37_26 =>
 oB (oLdN 3 h25 x37_26) fun x38_27 =>
 oB (bSub y5_20 (I 1)) fun x41_28 =>
 oB (oIx 3 y4_20 x41_28) fun x42_29 =>
 oB (oLdN 3 h25 x42_29) fun x43_30 =>
 oB (bNe (.flat [.i, .i, .i]) x38_27 x43_30) fun x44_31 =>
 jnF 4 (fun z5_32 z4_32 z3_32 z0_32 h32 =>
 j23 z5_32 z4_32 z3_32 z0_32 h32) fun j32 =>
 ci x44_31 (
 oB (oIx 3 y4_20 y5_20) fun x49_33 =>
 oB (oLdN 3 h25 x49_33) fun x50_34 =>
 oB (oIx 3 y0_20 y3_20) fun x51_35 =>
 oP (oSt 3 h25 x51_35 x50_34) fun _ h36 =>
 oB (bAdd y3_20 (I 1)) fun x53_37 =>
 j32 y5_20 y4_20 x53_37 y0_20 h36) (
 j32 y5_20 y4_20 y3_20 y0_20 h25)) (
 j16 y3_20 y0_20 h20)) (I 1) x28_15 y3_3 y0_3 h8) (
 j6 y3_3 y0_3 h8)) (
 j2 y0_3 h3)) (I 1) x0 h)
theorem o_slices_Compact_api_Diag_api_Diag : FnOK Tryz.prog n_slices_Compact_api_Diag_api_Diag (a1 f_slices_Compact_api_Diag_api_Diag) := ok1 mixed Tryz.func48 (by kernel_rfl)
/- corrector/diag.Sort$1 -/
noncomputable def f_diag_Sort_1 (n : Nat) (call : Caller)  (x0 x1 : AV) (h : AH) : Ans :=
 oP (oNew h 67 (AV.cells x0)) fun x2_0 h0 =>
 oP (oNew h0 67 (AV.cells x1)) fun x3_1 h1 =>
 oB (oLdN 3 h1 x2_0) fun x5_2 =>
 oB (some (.iface 67 x5_2)) fun x6_3 =>
 oB (oLdN 3 h1 x3_1) fun x7_4 =>
 oB (some (.iface 67 x7_4)) fun x8_5 =>
 oP (call n_diag_order [x6_3, x8_5] h1) fun x9_6 h6 =>
 some (x9_6, h6)
theorem o_diag_Sort_1 : FnOK Tryz.prog n_diag_Sort_1 (a2 f_diag_Sort_1) := ok2 mixed Tryz.func49 (by kernel_rfl)
/- corrector/diag.order -/
noncomputable def f_diag_order (n : Nat) (call : Caller)  (x0 x1 : AV) (h : AH) : Ans :=
 oB (oTa 67 (.agg [(I 0), (I 0), (I 0)]) true x0) fun x11_0 =>
 oB (oEx 0 x11_0) fun x12_1 =>
 oB (oEx 1 x11_0) fun x13_2 =>
 oP (oNew h 67 [(I 0), (I 0), (I 0)]) fun x5_3 h3 =>
 oP (oSt 3 h3 x5_3 x12_1) fun _ h4 =>
 oB (oTa 67 (.agg [(I 0), (I 0), (I 0)]) true x1) fun x16_5 =>
 oB (oEx 0 x16_5) fun x17_6 =>
 oB (oEx 1 x16_5) fun x18_7 =>
 oP (oNew h4 67 [(I 0), (I 0), (I 0)]) fun x7_8 h8 =>
 oP (oSt 3 h8 x7_8 x17_6) fun _ h9 =>
 oB (evQ (.un .not (.c x13_2)) .e h9) fun x20_10 =>
 oB (gq x20_10 false (some x18_7)) fun x22_11 =>
 oB (gq x20_10 false (evQ (.un .not (.c x22_11)) .e h9)) fun x23_12 =>
 oB (oPick x20_10 (.bool true) x23_12) fun x24_13 =>
 ci x24_13 (
 some ((I 0), h9)) (
 drF (drawRun call [⟨(some 25), .fieldAddr 1 (.t 5), none⟩,
  ⟨(some 26), .load none (.t 25), none⟩,
  ⟨(some 27), .fieldAddr 1 (.t 7), none⟩,
  ⟨(some 28), .load none (.t 27), none⟩,
  ⟨(some 29), .callF 105 [(.t 26), (.t 28)], none⟩,
  ⟨(some 30), .fieldAddr 2 (.t 5), none⟩,
  ⟨(some 31), .load none (.t 30), none⟩,
  ⟨(some 32), .fieldAddr 2 (.t 7), none⟩,
  ⟨(some 33), .load none (.t 32), none⟩,
  ⟨(some 34), .callF 105 [(.t 31), (.t 33)], none⟩,
  ⟨(some 35), .fieldAddr 0 (.t 5), none⟩,
  ⟨(some 36), .load none (.t 35), none⟩,
  ⟨(some 37), .fieldAddr 0 (.t 7), none⟩,
  ⟨(some 38), .load none (.t 37), none⟩,
  ⟨(some 39), .callF 105 [(.t 36), (.t 38)], none⟩,
  ⟨(some 40), .buildSlice 3 1 3 [(I 0), (I 0), (I 0)] [(0, 1, (.t 29)), (1, 1, (.t 34)), (2, 1, (.t 39))], none⟩,
  ⟨(some 41), .callF 104 [(.t 40)], none⟩,
  ⟨(some 4), .mov (.t 41), none⟩] [0, 1, 0, 4, 15, 0, 32, 0, 128, 511, 0, 1024, 0, 4096, 16383, 32767, 65535, 131071] (sput 5 (sput 7 Tr.e x7_8) x5_3) h9) [25, 26, 27, 28, 29, 30, 31, 32, 33, 34, 35, 36, 37, 38, 39, 40, 41, 4] fun x25_14 x26_14 x27_14 x28_14 x29_14 x30_14 x31_14 x32_14 x33_14 x34_14 x35_14 x36_14 x37_14 x38_14 x39_14 x40_14 x41_14 x4_14 h14 =>
 some (x4_14, h14))
theorem o_diag_order : FnOK Tryz.prog n_diag_order (a2 f_diag_order) := ok2 mixed Tryz.func50 (by kernel_rfl)
/- slices.Grow[[]corrector/api.Diag,corrector/api.Diag] -/
noncomputable def f_slices_Grow_api_Diag_api_Diag (n : Nat) (call : Caller)  (x0 x1 : AV) (h : AH) : Ans :=
 oB (bLt x1 (I 0)) fun x6_0 =>
 jnF 2 (fun z1_1 z0_1 h1 =>
 oB (evQ (.capSl (.c z0_1)) .e h1) fun x10_2 =>
 oB (oLen z0_1) fun x12_3 =>
 oB (bSub x10_2 x12_3) fun x13_4 =>
 oB (bSub z1_1 x13_4) fun x14_5 =>
 oB (bGt x14_5 (I 0)) fun x16_6 =>
 jnF 1 (fun z0_7 h7 =>
 some (z0_7, h7)) fun j7 =>
 ci x16_6 (
 oB (evQ (.capSl (.c z0_1)) .e h1) fun x19_8 =>
 oB (evQ (.sl 3 (.c z0_1) none (some (.c x19_8)) none) .e h1) fun x20_9 =>
 oP (evW (.grow 67 3 24 (.c x20_9) (.c x14_5)) .e h1) fun x22_10 h10 =>
 oB (oLen z0_1) fun x24_11 =>
 oB (evQ (.sl 3 (.c x22_10) none (some (.c x24_11)) none) .e h10) fun x25_12 =>
 j7 x25_12 h10) (
 j7 z0_1 h1)) fun j1 =>
 ci x6_0 (
 oB (some (.iface 9 (.str [99, 97, 110, 110, 111, 116, 32, 98, 101, 32, 110, 101, 103, 97, 116, 105, 118, 101]))) fun x7_13 =>
 oB (evQ (.bad) .e h) fun _ =>
 j1 x1 x0 h) (
 j1 x1 x0 h)
theorem o_slices_Grow_api_Diag_api_Diag : FnOK Tryz.prog n_slices_Grow_api_Diag_api_Diag (a2 f_slices_Grow_api_Diag_api_Diag) := ok2 mixed Tryz.func51 (by kernel_rfl)
/- corrector/edit.one -/
noncomputable def f_edit_one (n : Nat) (call : Caller)  (x0 x1 : AV) (h : AH) : Ans :=
 oP (oNew h 75 (AV.cells x1)) fun x3_0 h0 =>
 jnF 0 (fun h1 =>
 some ((I 0), h1)) fun j1 =>
 oB (oFA 0 x3_0) fun x6_2 =>
 oB (oLd h0 x6_2) fun x7_3 =>
 oB (bLt x7_3 (I 0)) fun x8_4 =>
 oB (gq x8_4 false (oFA 0 x3_0)) fun x10_5 =>
 oB (gq x8_4 false (oLd h0 x10_5)) fun x11_6 =>
 oB (gq x8_4 false (oFA 1 x3_0)) fun x12_7 =>
 oB (gq x8_4 false (oLd h0 x12_7)) fun x13_8 =>
 oB (gq x8_4 false (bGt x11_6 x13_8)) fun x14_9 =>
 oB (oPick x8_4 (.bool true) x14_9) fun x15_10 =>
 oB (gq x15_10 false (oFA 1 x3_0)) fun x17_11 =>
 oB (gq x15_10 false (oLd h0 x17_11)) fun x18_12 =>
 oB (gq x15_10 false (some x0)) fun x19_13 =>
 oB (gq x15_10 false (bGt x18_12 x19_13)) fun x20_14 =>
 oB (oPick x15_10 (.bool true) x20_14) fun x21_15 =>
 ci x21_15 (
 some ((I 1), h0)) (
 oB (oFA 2 x3_0) fun x23_16 =>
 oB (oLd h0 x23_16) fun x24_17 =>
 oB (oLenS x24_17) fun x25_18 =>
 oB (bGt x25_18 (I 1000)) fun x26_19 =>
 ci x26_19 (
 some ((I 4), h0)) (
 j1 h0))
theorem o_edit_one : FnOK Tryz.prog n_edit_one (a2 f_edit_one) := ok2 mixed Tryz.func52 (by kernel_rfl)
/- slices.ContainsFunc[[]corrector/api.Edit,corrector/api.Edit] -/
noncomputable def f_slices_ContainsFunc_api_Edit_api_Edit (n : Nat) (call : Caller)  (x0 x1 : AV) (h : AH) : Ans :=
 oP (call n_slices_IndexFunc_api_Edit_api_Edit [x0, x1] h) fun x7_0 h0 =>
 oB (bGe x7_0 (I 0)) fun x8_1 =>
 some (x8_1, h0)
theorem o_slices_ContainsFunc_api_Edit_api_Edit : FnOK Tryz.prog n_slices_ContainsFunc_api_Edit_api_Edit (a2 f_slices_ContainsFunc_api_Edit_api_Edit) := ok2 mixed Tryz.func53 (by kernel_rfl)
/- corrector/edit.Choose$1 -/
noncomputable def f_edit_Choose_1 (n : Nat) (call : Caller)  (x0 x1 : AV) (h : AH) : Ans :=
 oP (oNew h 75 (AV.cells x0)) fun x2_0 h0 =>
 oB (oLdN 3 h0 x1) fun x4_1 =>
 oB (oLdN 3 h0 x2_0) fun x5_2 =>
 oP (call n_edit_upon [x4_1, x5_2] h0) fun x6_3 h3 =>
 some (x6_3, h3)
theorem o_edit_Choose_1 : FnOK Tryz.prog n_edit_Choose_1 (a2 f_edit_Choose_1) := ok2 mixed Tryz.func54 (by kernel_rfl)
/- corrector/edit.upon -/
noncomputable def f_edit_upon (n : Nat) (call : Caller)  (x0 x1 : AV) (h : AH) : Ans :=
 oP (oNew h 75 (AV.cells x0)) fun x2_0 h0 =>
 oP (oNew h0 75 (AV.cells x1)) fun x3_1 h1 =>
 drF (drawRun call [⟨(some 7), .fieldAddr 0 (.t 2), none⟩,
  ⟨(some 8), .load none (.t 7), none⟩,
  ⟨(some 9), .fieldAddr 1 (.t 2), none⟩,
  ⟨(some 10), .load none (.t 9), none⟩,
  ⟨(some 11), .build [(I 0), (I 0)] [(0, 1, (.t 8)), (1, 1, (.t 10))], none⟩,
  ⟨(some 12), .fieldAddr 0 (.t 3), none⟩,
  ⟨(some 13), .load none (.t 12), none⟩,
  ⟨(some 14), .fieldAddr 1 (.t 3), none⟩,
  ⟨(some 15), .load none (.t 14), none⟩,
  ⟨(some 16), .build [(I 0), (I 0)] [(0, 1, (.t 13)), (1, 1, (.t 15))], none⟩,
  ⟨(some 5), .new 145 [(I 0), (I 0)], none⟩,
  ⟨(some 6), .new 145 [(I 0), (I 0)], none⟩,
  ⟨none, .store 2 (.t 5) (.t 11), none⟩,
  ⟨none, .store 2 (.t 6) (.t 16), none⟩] [0, 1, 0, 4, 15, 0, 32, 0, 128, 480, 0, 0, 3103, 8191] (sput 2 (sput 3 Tr.e x3_1) x2_0) h1) [7, 8, 9, 10, 11, 12, 13, 14, 15, 16, 5, 6] fun x7_2 x8_2 x9_2 x10_2 x11_2 x12_2 x13_2 x14_2 x15_2 x16_2 x5_2 x6_2 h2 =>
 oB (oLdN 2 h2 x5_2) fun x17_3 =>
 oB (oLdN 2 h2 x6_2) fun x18_4 =>
 oB (bEq (.flat [.i, .i]) x17_3 x18_4) fun x19_5 =>
 oB (gq x19_5 false (oLdN 2 h2 x5_2)) fun x21_6 =>
 oB (gq x19_5 false (oLdN 2 h2 x6_2)) fun x22_7 =>
 oP (gw x19_5 false (call n_span_Meet [x21_6, x22_7] h2) h2) fun x23_8 h8 =>
 oB (oPick x19_5 (.bool true) x23_8) fun x24_9 =>
 some (x24_9, h8)
theorem o_edit_upon : FnOK Tryz.prog n_edit_upon (a2 f_edit_upon) := ok2 mixed Tryz.func55 (by kernel_rfl)
/- slices.SortStableFunc[[]corrector/api.Edit,corrector/api.Edit] -/
noncomputable def f_slices_SortStableFunc_api_Edit_api_Edit (n : Nat) (call : Caller)  (x0 x1 : AV) (h : AH) : Ans :=
 oB (oLen x0) fun x6_0 =>
 oP (call n_slices_stableCmpFunc_api_Edit [x0, x6_0, x1] h) fun x8_1 h1 =>
 some (.tup [], h1)
theorem o_slices_SortStableFunc_api_Edit_api_Edit : FnOK Tryz.prog n_slices_SortStableFunc_api_Edit_api_Edit (a2 f_slices_SortStableFunc_api_Edit_api_Edit) := ok2 mixed Tryz.func56 (by kernel_rfl)
/- corrector/edit.Choose$2 -/
noncomputable def f_edit_Choose_2 (n : Nat) (call : Caller)  (x0 x1 : AV) (h : AH) : Ans :=
 oP (oNew h 75 (AV.cells x0)) fun x2_0 h0 =>
 oP (oNew h0 75 (AV.cells x1)) fun x3_1 h1 =>
 oB (oLdN 3 h1 x2_0) fun x5_2 =>
 oB (some (.iface 75 x5_2)) fun x6_3 =>
 oB (oLdN 3 h1 x3_1) fun x7_4 =>
 oB (some (.iface 75 x7_4)) fun x8_5 =>
 oP (call n_edit_order [x6_3, x8_5] h1) fun x9_6 h6 =>
 some (x9_6, h6)
theorem o_edit_Choose_2 : FnOK Tryz.prog n_edit_Choose_2 (a2 f_edit_Choose_2) := ok2 mixed Tryz.func57 (by kernel_rfl)
/- corrector/edit.order -/
noncomputable def f_edit_order (n : Nat) (call : Caller)  (x0 x1 : AV) (h : AH) : Ans :=
 oB (oTa 75 (.agg [(I 0), (I 0), (.str [])]) true x0) fun x11_0 =>
 oB (oEx 0 x11_0) fun x12_1 =>
 oB (oEx 1 x11_0) fun x13_2 =>
 oP (oNew h 75 [(I 0), (I 0), (.str [])]) fun x5_3 h3 =>
 oP (oSt 3 h3 x5_3 x12_1) fun _ h4 =>
 oB (oTa 75 (.agg [(I 0), (I 0), (.str [])]) true x1) fun x16_5 =>
 oB (oEx 0 x16_5) fun x17_6 =>
 oB (oEx 1 x16_5) fun x18_7 =>
 oP (oNew h4 75 [(I 0), (I 0), (.str [])]) fun x7_8 h8 =>
 oP (oSt 3 h8 x7_8 x17_6) fun _ h9 =>
 oB (evQ (.un .not (.c x13_2)) .e h9) fun x20_10 =>
 oB (gq x20_10 false (some x18_7)) fun x22_11 =>
 oB (gq x20_10 false (evQ (.un .not (.c x22_11)) .e h9)) fun x23_12 =>
 oB (oPick x20_10 (.bool true) x23_12) fun x24_13 =>
 ci x24_13 (
 some ((I 0), h9)) (
 drF (drawRun call [⟨(some 25), .fieldAddr 0 (.t 5), none⟩,
  ⟨(some 26), .load none (.t 25), none⟩,
  ⟨(some 27), .fieldAddr 0 (.t 7), none⟩,
  ⟨(some 28), .load none (.t 27), none⟩,
  ⟨(some 29), .callF 105 [(.t 26), (.t 28)], none⟩,
  ⟨(some 30), .fieldAddr 1 (.t 5), none⟩,
  ⟨(some 31), .load none (.t 30), none⟩,
  ⟨(some 32), .fieldAddr 1 (.t 7), none⟩,
  ⟨(some 33), .load none (.t 32), none⟩,
  ⟨(some 34), .callF 105 [(.t 31), (.t 33)], none⟩,
  ⟨(some 35), .buildSlice 3 1 2 [(I 0), (I 0)] [(0, 1, (.t 29)), (1, 1, (.t 34))], none⟩,
  ⟨(some 36), .callF 104 [(.t 35)], none⟩,
  ⟨(some 4), .mov (.t 36), none⟩] [0, 1, 0, 4, 15, 0, 32, 0, 128, 511, 1023, 2047, 4095] (sput 5 (sput 7 Tr.e x7_8) x5_3) h9) [25, 26, 27, 28, 29, 30, 31, 32, 33, 34, 35, 36, 4] fun x25_14 x26_14 x27_14 x28_14 x29_14 x30_14 x31_14 x32_14 x33_14 x34_14 x35_14 x36_14 x4_14 h14 =>
 some (x4_14, h14))
theorem o_edit_order : FnOK Tryz.prog n_edit_order (a2 f_edit_order) := ok2 mixed Tryz.func58 (by kernel_rfl)
/- (*corrector/suggest.mender).wrong -/
noncomputable def f_suggest_mender_wrong (n : Nat) (call : Caller)  (x0 x1 : AV) (h : AH) : Ans :=
 oP (oNew h 67 (AV.cells x1)) fun x3_0 h0 =>
 oB (oFA 0 x3_0) fun x5_1 =>
 oB (oLd h0 x5_1) fun x6_2 =>
 jnF 0 (fun h3 =>
 some (.nili, h3)) fun j3 =>
 oB (bEq .no x6_2 (I 1)) fun x8_4 =>
 ci x8_4 (
 oB (oFA 1 x3_0) fun x9_5 =>
 oB (oLd h0 x9_5) fun x10_6 =>
 oB (oFA 2 x3_0) fun x11_7 =>
 oB (oLd h0 x11_7) fun x12_8 =>
 oB (oBuild [(I 0), (I 0), (.str [])] [(0, 1, x10_6), (1, 1, x12_8)]) fun x13_9 =>
 oB (some (.iface 75 x13_9)) fun x14_10 =>
 some (x14_10, h0)) (
 oB (bEq .no x6_2 (I 2)) fun x16_11 =>
 ci x16_11 (
 drF (drawRun call [⟨(some 17), .fieldAddr 1 (.t 3), none⟩,
  ⟨(some 18), .load none (.t 17), none⟩,
  ⟨(some 19), .fieldAddr 2 (.t 3), none⟩,
  ⟨(some 20), .load none (.t 19), none⟩,
  ⟨(some 21), .fieldAddr 2 (.t 3), none⟩,
  ⟨(some 22), .load none (.t 21), none⟩,
  ⟨(some 23), .fieldAddr 1 (.t 3), none⟩,
  ⟨(some 24), .load none (.t 23), none⟩,
  ⟨(some 25), .bin .sub .no (.t 22) (.t 24), none⟩,
  ⟨(some 26), .maxI (.t 25) [(.c (I 0))], none⟩,
  ⟨(some 27), .minI (.t 26) [(.c (I 16384))], none⟩,
  ⟨(some 28), .callF 118 [(.c (.str [32])), (.t 27)], none⟩,
  ⟨(some 29), .build [(I 0), (I 0), (.str [])] [(0, 1, (.t 18)), (1, 1, (.t 20)), (2, 1, (.t 28))], none⟩,
  ⟨(some 30), .mkIface 75 (.t 29), none⟩,
  ⟨(some 4), .mov (.t 30), none⟩] [0, 1, 0, 4, 0, 16, 0, 64, 240, 496, 1008, 2032, 4095, 8191, 16383] (sput 3 Tr.e x3_0) h0) [17, 18, 19, 20, 21, 22, 23, 24, 25, 26, 27, 28, 29, 30, 4] fun x17_12 x18_12 x19_12 x20_12 x21_12 x22_12 x23_12 x24_12 x25_12 x26_12 x27_12 x28_12 x29_12 x30_12 x4_12 h12 =>
 some (x4_12, h12)) (
 oB (bEq .no x6_2 (I 3)) fun x32_13 =>
 ci x32_13 (
 drF (drawRun call [⟨(some 33), .fieldAddr 2 (.t 3), none⟩,
  ⟨(some 34), .load none (.t 33), none⟩,
  ⟨(some 35), .mov (.t 0), none⟩,
  ⟨(some 36), .fieldAddr 1 (.t 3), none⟩,
  ⟨(some 37), .load none (.t 36), none⟩,
  ⟨(some 38), .callF 120 [(.t 35), (.t 37)], none⟩,
  ⟨(some 39), .callF 119 [(.t 34), (.t 38)], none⟩,
  ⟨(some 4), .mov (.t 39), none⟩] [0, 1, 0, 0, 8, 28, 63, 127] (sput 0 (sput 3 Tr.e x3_0) x0) h0) [33, 34, 35, 36, 37, 38, 39, 4] fun x33_14 x34_14 x35_14 x36_14 x37_14 x38_14 x39_14 x4_14 h14 =>
 some (x4_14, h14)) (
 oB (bEq .no x6_2 (I 9)) fun x41_15 =>
 ci x41_15 (
 oB (oFA 1 x3_0) fun x43_16 =>
 oB (oLd h0 x43_16) fun x44_17 =>
 oP (call n_suggest_mender_open [x0, x44_17] h0) fun x45_18 h18 =>
 some (x45_18, h18)) (
 j3 h0))))
theorem o_suggest_mender_wrong : FnOK Tryz.prog n_suggest_mender_wrong (a2 f_suggest_mender_wrong) := ok2 mixed Tryz.func59 (by kernel_rfl)
/- (*corrector/suggest.mender).found -/
noncomputable def f_suggest_mender_found (n : Nat) (call : Caller)  (x0 x1 : AV) (h : AH) : Ans :=
 oP (oNew h 67 (AV.cells x1)) fun x3_0 h0 =>
 oB (oFA 0 x3_0) fun x5_1 =>
 oB (oLd h0 x5_1) fun x6_2 =>
 jnF 0 (fun h3 =>
 some (.nili, h3)) fun j3 =>
 jnF 1 (fun z3_4 h4 =>
 oB (oFA 2 z3_4) fun x29_5 =>
 oB (oLd h4 x29_5) fun x30_6 =>
 oP (call n_suggest_put [x30_6, (.str [10])] h4) fun x31_7 h7 =>
 some (x31_7, h7)) fun j4 =>
 jnF 1 (fun z3_8 h8 =>
 oB (oFA 2 z3_8) fun x26_9 =>
 oB (oLd h8 x26_9) fun x27_10 =>
 oP (call n_suggest_put [x27_10, (.str [32])] h8) fun x28_11 h11 =>
 some (x28_11, h11)) fun j8 =>
 jnF 1 (fun z3_12 h12 =>
 j8 z3_12 h12) fun j12 =>
 jnF 0 (fun h13 =>
 oP (call n_suggest_put [(I 0), (.str [45, 45, 45, 10])] h13) fun x25_14 h14 =>
 some (x25_14, h14)) fun j13 =>
 jnF 1 (fun z3_15 h15 =>
 oB (oFA 1 z3_15) fun x19_16 =>
 oB (oLd h15 x19_16) fun x20_17 =>
 oB (oFA 2 z3_15) fun x21_18 =>
 oB (oLd h15 x21_18) fun x22_19 =>
 oB (oBuild [(I 0), (I 0), (.str [])] [(0, 1, x20_17), (1, 1, x22_19)]) fun x23_20 =>
 oB (some (.iface 75 x23_20)) fun x24_21 =>
 some (x24_21, h15)) fun j15 =>
 jnF 1 (fun z3_22 h22 =>
 j15 z3_22 h22) fun j22 =>
 oB (bEq .no x6_2 (I 1)) fun x8_23 =>
 ci x8_23 (
 j22 x3_0 h0) (
 oB (bEq .no x6_2 (I 4)) fun x10_24 =>
 ci x10_24 (
 j15 x3_0 h0) (
 oB (bEq .no x6_2 (I 5)) fun x12_25 =>
 ci x12_25 (
 j13 h0) (
 oB (bEq .no x6_2 (I 6)) fun x14_26 =>
 ci x14_26 (
 j12 x3_0 h0) (
 oB (bEq .no x6_2 (I 7)) fun x16_27 =>
 ci x16_27 (
 j8 x3_0 h0) (
 oB (bEq .no x6_2 (I 9)) fun x18_28 =>
 ci x18_28 (
 j4 x3_0 h0) (
 j3 h0))))))
theorem o_suggest_mender_found : FnOK Tryz.prog n_suggest_mender_found (a2 f_suggest_mender_found) := ok2 mixed Tryz.func60 (by kernel_rfl)
/- corrector/edit.Check -/
noncomputable def f_edit_Check (n : Nat) (call : Caller)  (x0 x1 : AV) (h : AH) : Ans :=
 oB (oLen x1) fun x9_0 =>
 oB (bGt x9_0 (I 200)) fun x10_1 =>
 ci x10_1 (
 some ((I 3), h)) (
 oB (oLen x1) fun x12_2 =>
 jnF 0 (fun h3 =>
 some ((I 0), h3)) fun j3 =>
 lpF 5 n (fun f4 y13_4 y12_4 y11_4 y1_4 y0_4 h4 =>
 oB (bLt y13_4 y12_4) fun x14_5 =>
 ci x14_5 (
 jnF 5 (fun z13_6 z12_6 z11_6 z1_6 z0_6 h6 =>
 oB (bAdd z13_6 (I 1)) fun x37_7 =>
 f4 x37_7 z12_6 z11_6 z1_6 z0_6 h6) fun j6 =>
 oB (oIx 3 y11_4 y13_4) fun x16_8 =>
 oB (oLdN 3 h4 x16_8) fun x17_9 =>
 oP (oNew h4 75 [(I 0), (I 0), (.str [])]) fun x6_10 h10 =>
 oP (oSt 3 h10 x6_10 x17_9) fun _ h11 =>
 oB (oLdN 3 h11 x6_10) fun x19_12 =>
 oP (call n_edit_one [y0_4, x19_12] h11) fun x20_13 h13 =>
 oB (bNe .no x20_13 (I 0)) fun x22_14 =>
 ci x22_14 (
 some (x20_13, h13)) (
 oB' (nx 13 h13) fun h15 =>
 oB (bGt y13_4 (I 0)) fun x25_16 =>
 oB (gq x25_16 true (oFA 0 x6_10)) fun x27_17 =>
 oB (gq x25_16 true (oLd h15 x27_17)) fun x28_18 =>
 oB (gq x25_16 true (some y1_4)) fun x29_19 =>
 oB (gq x25_16 true (some y13_4)) fun x30_20 =>
 oB (gq x25_16 true (bSub x30_20 (I 1))) fun x31_21 =>
 oB (gq x25_16 true (oIx 3 x29_19 x31_21)) fun x32_22 =>
 oB (gq x25_16 true (oFA 1 x32_22)) fun x33_23 =>
 oB (gq x25_16 true (oLd h15 x33_23)) fun x34_24 =>
 oB (gq x25_16 true (bLt x28_18 x34_24)) fun x35_25 =>
 oB (oPick x25_16 x35_25 (.bool false)) fun x36_26 =>
 ci x36_26 (
 some ((I 6), h15)) (
 j6 y13_4 y12_4 y11_4 y1_4 y0_4 h15))) (
 j3 h4)) (I 0) x12_2 x1 x1 x0 h)
theorem o_edit_Check : FnOK Tryz.prog n_edit_Check (a2 f_edit_Check) := ok2 mixed Tryz.func61 (by kernel_rfl)
/- corrector/equal.Same -/
noncomputable def f_equal_Same (n : Nat) (call : Caller)  (x0 x1 : AV) (h : AH) : Ans :=
 oP (oNew h 42 (AV.cells x0)) fun x2_0 h0 =>
 oP (oNew h0 42 (AV.cells x1)) fun x3_1 h1 =>
 oP (evW (.mkMap) .e h1) fun x6_2 h2 =>
 drF (drawRun call [⟨(some 7), .load (some 3) (.t 2), none⟩,
  ⟨(some 8), .mov (.t 5), none⟩,
  ⟨(some 9), .load (some 3) (.t 2), none⟩,
  ⟨(some 10), .callF 124 [(.t 8), (.t 9)], none⟩,
  ⟨(some 11), .callF 123 [(.t 7), (.t 10)], none⟩,
  ⟨(some 12), .load (some 3) (.t 3), none⟩,
  ⟨(some 13), .mov (.t 5), none⟩,
  ⟨(some 14), .load (some 3) (.t 3), none⟩,
  ⟨(some 15), .callF 124 [(.t 13), (.t 14)], none⟩,
  ⟨(some 16), .callF 123 [(.t 12), (.t 15)], none⟩,
  ⟨(some 17), .callF 122 [(.t 11), (.t 16)], none⟩,
  ⟨(some 4), .mov (.t 17), none⟩] [0, 0, 0, 6, 15, 0, 0, 0, 223, 511, 1023, 2047] (sput 2 (sput 3 (sput 5 Tr.e x6_2) x3_1) x2_0) h2) [7, 8, 9, 10, 11, 12, 13, 14, 15, 16, 17, 4] fun x7_3 x8_3 x9_3 x10_3 x11_3 x12_3 x13_3 x14_3 x15_3 x16_3 x17_3 x4_3 h3 =>
 some (x4_3, h3)
theorem o_equal_Same : FnOK Tryz.prog n_equal_Same (a2 f_equal_Same) := ok2 mixed Tryz.func62 (by kernel_rfl)
/- corrector/config.within -/
noncomputable def f_config_within (n : Nat) (call : Caller)  (x0 x1 x2 : AV) (h : AH) : Ans :=
 oB (bGe x0 x1) fun x9_0 =>
 oB (gq x9_0 true (some x0)) fun x11_1 =>
 oB (gq x9_0 true (some x2)) fun x12_2 =>
 oB (gq x9_0 true (bLe x11_1 x12_2)) fun x13_3 =>
 oB (oPick x9_0 x13_3 (.bool false)) fun x14_4 =>
 some (x14_4, h)
theorem o_config_within : FnOK Tryz.prog n_config_within (a3 f_config_within) := ok3 mixed Tryz.func63 (by kernel_rfl)
/- corrector/rows.Rows$1 -/
noncomputable def f_rows_Rows_1 (n : Nat) (call : Caller)  (x0 x1 x2 x3 x4 x5 : AV) (h : AH) : Ans :=
 oB (oLd h x1) fun x8_0 =>
 oB (oBuild [(I 0), (I 0), (I 0), (I 0)] [(1, 1, x8_0), (2, 1, x0)]) fun x10_1 =>
 oP (oNew h 125 [(I 0), (I 0), (I 0), (I 0)]) fun x7_2 h2 =>
 oP (oSt 4 h2 x7_2 x10_1) fun _ h3 =>
 oB (oLd h3 x2) fun x12_4 =>
 oB (oLdN 4 h3 x7_2) fun x13_5 =>
 oB (oLd h3 x3) fun x14_6 =>
 oP (call n_rows_kind [x12_4, x13_5, x14_6] h3) fun x15_7 h7 =>
 oB (oEx 0 x15_7) fun x16_8 =>
 oB (oEx 1 x15_7) fun x17_9 =>
 oB (oFA 0 x7_2) fun x18_10 =>
 oP (oSt 1 h7 x18_10 x16_8) fun _ h11 =>
 oB (oFA 3 x7_2) fun x19_12 =>
 oP (oSt 1 h11 x19_12 x17_9) fun _ h13 =>
 oB (oLd h13 x4) fun x20_14 =>
 oB (oLdN 4 h13 x7_2) fun x21_15 =>
 oP (oBuildSl h13 125 4 1 [(I 0), (I 0), (I 0), (I 0)] [(0, 4, x21_15)]) fun x22_16 h16 =>
 oP (evW (.append 125 4 32 [(I 0), (I 0), (I 0), (I 0)] (.c x20_14) (.c x22_16)) .e h16) fun x23_17 h17 =>
 oP (oSt 1 h17 x4 x23_17) fun _ h18 =>
 drF (drawRun call [⟨(some 24), .mov (.t 0), none⟩,
  ⟨(some 25), .load none (.t 5), none⟩,
  ⟨none, .store 1 (.t 1) (.t 24), none⟩,
  ⟨none, .store 1 (.t 3) (.t 25), none⟩] [0, 0, 1, 7] (sput 0 (sput 1 (sput 3 (sput 5 Tr.e x5) x3) x1) x0) h18) [24, 25] fun x24_19 x25_19 h19 =>
 some (.tup [], h19)
theorem o_rows_Rows_1 : FnOK Tryz.prog n_rows_Rows_1 (a6 f_rows_Rows_1) := ok6 mixed Tryz.func64 (by kernel_rfl)
end Go.Proofs.YtahpoedbdhhdfaaGreatDoor
