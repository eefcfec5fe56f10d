/- Functions, as they run. PRINTED by a program of this repo. -/
import Derived.Test.YtahpoedbdhhdfaaGreatDoorN
import Derived.Test.YtahpoedbdhhdfaaGreatDoorM
set_option linter.unusedVariables false
set_option maxRecDepth 100000
namespace Go.Proofs.YtahpoedbdhhdfaaGreatDoor
open Go.Ev
/- (*corrector/graph.composer).own$1 -/
noncomputable def f_graph_composer_own_1 (n : Nat) (call : Caller)  (x0 : AV) (h : AH) : Ans :=
 oP (oNew h 131 (AV.cells x0)) fun x1_0 h0 =>
 oB (oFA 0 x1_0) fun x3_1 =>
 oB (oLd h0 x3_1) fun x4_2 =>
 oB (bEq .no x4_2 (I 8)) fun x5_3 =>
 oB (gq x5_3 false (oFA 0 x1_0)) fun x7_4 =>
 oB (gq x5_3 false (oLd h0 x7_4)) fun x8_5 =>
 oB (gq x5_3 false (bEq .no x8_5 (I 9))) fun x9_6 =>
 oB (oPick x5_3 (.bool true) x9_6) fun x10_7 =>
 some (x10_7, h0)
theorem o_graph_composer_own_1 : FnOK Tryz.prog n_graph_composer_own_1 (a1 f_graph_composer_own_1) := ok1 mixed Tryz.func168 (by kernel_rfl)
/- (*corrector/graph.composer).said -/
noncomputable def f_graph_composer_said (n : Nat) (call : Caller)  (x0 x1 : AV) (h : AH) : Ans :=
 oB (oLen x1) fun x13_0 =>
 jnF 2 (fun z6_1 z5_1 h1 =>
 oB (bEq .no z5_1 (.str [])) fun x56_2 =>
 ci x56_2 (
 oB (some (.iface 216 (.str []))) fun x57_3 =>
 some (x57_3, h1)) (
 oP (call n_block_Text [z5_1, z6_1] h1) fun x60_4 h4 =>
 oB (some (.iface 218 x60_4)) fun x61_5 =>
 some (x61_5, h4))) fun j1 =>
 lpF 6 n (fun f6 y14_6 y13_6 y12_6 y6_6 y5_6 y0_6 h6 =>
 oB (bLt y14_6 y13_6) fun x15_7 =>
 ci x15_7 (
 jnF 6 (fun z14_8 z13_8 z12_8 z6_8 z5_8 z0_8 h8 =>
 oB (bAdd z14_8 (I 1)) fun x54_9 =>
 f6 x54_9 z13_8 z12_8 z6_8 z5_8 z0_8 h8) fun j8 =>
 oB (oIx 3 y12_6 y14_6) fun x16_10 =>
 oB (oLdN 3 h6 x16_10) fun x17_11 =>
 oP (oNew h6 131 [(I 0), (I 0), (I 0)]) fun x8_12 h12 =>
 oP (oSt 3 h12 x8_12 x17_11) fun _ h13 =>
 oB (oFA 0 x8_12) fun x18_14 =>
 oB (oLd h13 x18_14) fun x19_15 =>
 jnF 6 (fun z14_16 z13_16 z12_16 z6_16 z5_16 z0_16 h16 =>
 j8 z14_16 z13_16 z12_16 z6_16 z5_16 z0_16 h16) fun j16 =>
 oB (bEq .no x19_15 (I 15)) fun x21_17 =>
 ci x21_17 (
 oB (oLdN 3 h13 x8_12) fun x23_18 =>
 oP (call n_graph_composer_text [y0_6, x23_18] h13) fun x24_19 h19 =>
 oB (some (.iface 216 x24_19)) fun x25_20 =>
 some (x25_20, h19)) (
 oB (bEq .no x19_15 (I 16)) fun x27_21 =>
 jnF 9 (fun z26_22 z19_22 z14_22 z13_22 z12_22 z8_22 z6_22 z5_22 z0_22 h22 =>
 ci z26_22 (
 oB' (nx 13 h22) fun h23 =>
 oB (oFA 0 z8_22) fun x30_24 =>
 oB (oLd h23 x30_24) fun x31_25 =>
 oB (oLdN 3 h23 z8_22) fun x33_26 =>
 oP (call n_graph_composer_text [z0_22, x33_26] h23) fun x34_27 h27 =>
 oP (call n_quote_Text [x31_25, x34_27] h27) fun x35_28 h28 =>
 oB (oEx 0 x35_28) fun x36_29 =>
 oB (oEx 1 x35_28) fun x37_30 =>
 oB (oEx 2 x35_28) fun x38_31 =>
 ask1 true (oLd h23 x30_24) x31_25 (
 ask1 true (oLd h27 x30_24) x31_25 (
 ask1 true (oLdN 3 h23 z8_22) x33_26 (
 oB (some (.iface 218 x36_29)) fun x40_32 =>
 some (x40_32, h28))))) (
 oB (bEq .no z19_22 (I 18)) fun x42_33 =>
 jnF 6 (fun z14_34 z13_34 z12_34 z6_34 z5_34 z0_34 h34 =>
 j16 z14_34 z13_34 z12_34 z6_34 z5_34 z0_34 h34) fun j34 =>
 ci x42_33 (
 oB (oLdN 3 h22 z8_22) fun x44_35 =>
 oP (call n_graph_composer_text [z0_22, x44_35] h22) fun x45_36 h36 =>
 j34 z14_22 z13_22 z12_22 z6_22 x45_36 z0_22 h36) (
 oB (bEq .no z19_22 (I 19)) fun x47_37 =>
 jnF 6 (fun z14_38 z13_38 z12_38 z6_38 z5_38 z0_38 h38 =>
 j34 z14_38 z13_38 z12_38 z6_38 z5_38 z0_38 h38) fun j38 =>
 ci x47_37 (
 oB (oLdN 3 h22 z8_22) fun x50_39 =>
 oP (call n_graph_composer_text [z0_22, x50_39] h22) fun x51_40 h40 =>
 oP (oBuildSl h40 9 1 1 [(.str [])] [(0, 1, x51_40)]) fun x52_41 h41 =>
 oP (evW (.append 9 1 16 [(.str [])] (.c z6_22) (.c x52_41)) .e h41) fun x53_42 h42 =>
 j38 z14_22 z13_22 z12_22 x53_42 z5_22 z0_22 h42) (
 j38 z14_22 z13_22 z12_22 z6_22 z5_22 z0_22 h22)))) fun j22 =>
 ci x27_21 (
 j22 x27_21 x19_15 y14_6 y13_6 y12_6 x8_12 y6_6 y5_6 y0_6 h13) (
 oB (bEq .no x19_15 (I 17)) fun x28_43 =>
 j22 x28_43 x19_15 y14_6 y13_6 y12_6 x8_12 y6_6 y5_6 y0_6 h13))) (
 j1 y6_6 y5_6 h6)) (I 0) x13_0 x1 .nils (.str []) x0 h
theorem o_graph_composer_said : FnOK Tryz.prog n_graph_composer_said (a2 f_graph_composer_said) := ok2 mixed Tryz.func169 (by kernel_rfl)
/- (*corrector/graph.composer).value -/
noncomputable def f_graph_composer_value (n : Nat) (call : Caller)  (x0 x1 : AV) (h : AH) : Ans :=
 oP (oNew h 103 (AV.cells x1)) fun x3_0 h0 =>
 oB (oFA 3 x3_0) fun x5_1 =>
 oB (oLd h0 x5_1) fun x6_2 =>
 oP (call n_slices_Clone_int_int [x6_2] h0) fun x7_3 h3 =>
 oB (oFA 3 x3_0) fun x8_4 =>
 oP (oSt 1 h3 x8_4 x7_3) fun _ h5 =>
 oB' (nx 13 h5) fun h6 =>
 oB (oNil x0) fun x11_7 =>
 oB (oFA 3 x11_7) fun x12_8 =>
 oB (oFA 0 x12_8) fun x13_9 =>
 oB (oLd h6 x13_9) fun x14_10 =>
 oB (oLdN 4 h6 x3_0) fun x15_11 =>
 fl1 true (evF (.buildSlice 103 4 1 [(I 0), (.str []), (.str []), .nils] [(0, 4, (.c x15_11))]) .e) (Nat.add h5.next 7) fun x16_12 o12 =>
 oB' (lay1 (Nat.add h5.next 7) o12 h6) fun v13 =>
 oP (evW (.append 103 4 64 [(I 0), (.str []), (.str []), .nils] (.c x14_10) (.c x16_12)) .e v13) fun x17_14 h14 =>
 oB (oNil x0) fun x18_15 =>
 oB (oFA 3 x18_15) fun x19_16 =>
 oB (oFA 0 x19_16) fun x20_17 =>
 oP (oSt 1 h14 x20_17 x17_14) fun x0_18 h18 =>
 ask1 true (oLd h6 x13_9) x14_10 (
 ask1 true (oLdN 4 h6 x3_0) x15_11 (
 oB (oNil x0) fun x22_19 =>
 oB (oFA 3 x22_19) fun x23_20 =>
 oB (oFA 0 x23_20) fun x24_21 =>
 oB (oLd h18 x24_21) fun x25_22 =>
 oB (oLen x25_22) fun x26_23 =>
 oB (bSub x26_23 (I 1)) fun x27_24 =>
 some (x27_24, h18)))
theorem o_graph_composer_value : FnOK Tryz.prog n_graph_composer_value (a2 f_graph_composer_value) := ok2 mixed Tryz.func170 (by kernel_rfl)
/- corrector/resolve.Tagged -/
noncomputable def f_resolve_Tagged (n : Nat) (call : Caller)  (x0 x1 x2 : AV) (h : AH) : Ans :=
 oP (call n_resolve_Kind [x1] h) fun x10_0 h0 =>
 jnF 2 (fun z7_1 z0_1 h1 =>
 oP (oBuildSl h1 9 1 6 [(.str []), (.str []), (.str []), (.str []), (.str []), (.str [])] [(1, 1, (.str [33, 33, 110, 117, 108, 108])), (2, 1, (.str [33, 33, 98, 111, 111, 108])), (3, 1, (.str [33, 33, 105, 110, 116])), (4, 1, (.str [33, 33, 102, 108, 111, 97, 116])), (5, 1, (.str []))]) fun x20_2 h2 =>
 oB (oIx 1 x20_2 z7_1) fun x23_3 =>
 oB (oLd h2 x23_3) fun x24_4 =>
 oB (bEq .no x24_4 z0_1) fun x26_5 =>
 ci x26_5 (
 some (z7_1, h2)) (
 some ((I 5), h2))) fun j1 =>
 oB (bEq .no x0 (.str [])) fun x13_6 =>
 ci x13_6 (
 ci x2 (
 some (x10_0, h0)) (
 some ((I 5), h0))) (
 oB (bEq .no x0 (.str [33, 33, 102, 108, 111, 97, 116])) fun x17_7 =>
 jnF 2 (fun z7_8 z0_8 h8 =>
 j1 z7_8 z0_8 h8) fun j8 =>
 ci x17_7 (
 oB (bEq .no x10_0 (I 3)) fun x19_9 =>
 jnF 2 (fun z7_10 z0_10 h10 =>
 j8 z7_10 z0_10 h10) fun j10 =>
 ci x19_9 (
 j10 (I 4) x0 h0) (
 j10 x10_0 x0 h0)) (
 j8 x10_0 x0 h0))
theorem o_resolve_Tagged : FnOK Tryz.prog n_resolve_Tagged (a3 f_resolve_Tagged) := ok3 mixed Tryz.func171 (by kernel_rfl)
/- (*corrector/graph.composer).alias$1 -/
noncomputable def f_graph_composer_alias_1 (n : Nat) (call : Caller)  (x0 : AV) (h : AH) : Ans :=
 oP (oNew h 131 (AV.cells x0)) fun x1_0 h0 =>
 oB (oFA 0 x1_0) fun x3_1 =>
 oB (oLd h0 x3_1) fun x4_2 =>
 oB (bEq .no x4_2 (I 13)) fun x5_3 =>
 some (x5_3, h0)
theorem o_graph_composer_alias_1 : FnOK Tryz.prog n_graph_composer_alias_1 (a1 f_graph_composer_alias_1) := ok1 mixed Tryz.func172 (by kernel_rfl)
/- (*corrector/graph.composer).text -/
noncomputable def f_graph_composer_text (n : Nat) (call : Caller)  (x0 x1 : AV) (h : AH) : Ans :=
 oP (oNew h 131 (AV.cells x1)) fun x3_0 h0 =>
 oB' (nx 11 h0) fun h1 =>
 oB (oNil x0) fun x6_2 =>
 oB (oFA 0 x6_2) fun x7_3 =>
 oB (oLd h1 x7_3) fun x8_4 =>
 oB (oFA 1 x3_0) fun x9_5 =>
 oB (oLd h1 x9_5) fun x10_6 =>
 oB (oFA 2 x3_0) fun x11_7 =>
 oB (oLd h1 x11_7) fun x12_8 =>
 oB (evQ (.sl 1 (.c x8_4) (some (.c x10_6)) (some (.c x12_8)) none) .e h1) fun x13_9 =>
 oB (evQ (.b2s (.c x13_9)) .e h1) fun x14_10 =>
 some (x14_10, h1)
theorem o_graph_composer_text : FnOK Tryz.prog n_graph_composer_text (a2 f_graph_composer_text) := ok2 mixed Tryz.func173 (by kernel_rfl)
/- (*corrector/graph.composer).all -/
noncomputable def f_graph_composer_all (n : Nat) (call : Caller)  (x0 x1 : AV) (h : AH) : Ans :=
 oP (oNew h 93 (AV.cells x0)) fun x2_0 h0 =>
 oP (oNew h0 98 (AV.cells x1)) fun x3_1 h1 =>
 oP (oNew h1 40 [.nils]) fun x5_2 h2 =>
 oB (some (.fn n_graph_composer_all_1 [] [x2_0, x3_1, x5_2])) fun x9_3 =>
 oB (oFA 4 x3_1) fun x10_4 =>
 oB (oLd h2 x10_4) fun x11_5 =>
 oB (oLen x11_5) fun x12_6 =>
 jnF 1 (fun z5_7 h7 =>
 oB (oLd h7 z5_7) fun x21_8 =>
 some (x21_8, h7)) fun j7 =>
 lpF 5 n (fun f9 y13_9 y12_9 y11_9 y6_9 y5_9 h9 =>
 oB (bLt y13_9 y12_9) fun x14_10 =>
 ci x14_10 (
 jnF 5 (fun z13_11 z12_11 z11_11 z6_11 z5_11 h11 =>
 oB (bAdd z13_11 (I 1)) fun x20_12 =>
 f9 x20_12 z12_11 z11_11 z6_11 z5_11 h11) fun j11 =>
 oB (oIx 1 y11_9 y13_9) fun x15_13 =>
 oB (oLd h9 x15_13) fun x16_14 =>
 oP (wOf (.callV (.c y6_9) [(.c x16_14)]) call .e h9) fun x19_15 h15 =>
 j11 y13_9 y12_9 y11_9 y6_9 y5_9 h15) (
 j7 y5_9 h9)) (I 0) x12_6 x11_5 x9_3 x5_2 h2
theorem o_graph_composer_all : FnOK Tryz.prog n_graph_composer_all (a2 f_graph_composer_all) := ok2 mixed Tryz.func174 (by kernel_rfl)
/- slices.insertionSortCmpFunc[corrector/api.Diag] -/
noncomputable def f_slices_insertionSortCmpFunc_api_Diag (n : Nat) (call : Caller)  (x0 x1 x2 x3 : AV) (h : AH) : Ans :=
 oB (bAdd x1 (I 1)) fun x11_0 =>
 jnF 0 (fun h1 =>
 some (.tup [], h1)) fun j1 =>
 lpF 5 n (fun f2 y8_2 y3_2 y2_2 y1_2 y0_2 h2 =>
 oB (bLt y8_2 y2_2) fun x14_3 =>
 ci x14_3 (
 jnF 5 (fun z8_4 z3_4 z2_4 z1_4 z0_4 h4 =>
 oB (bAdd z8_4 (I 1)) fun x16_5 =>
 f2 x16_5 z3_4 z2_4 z1_4 z0_4 h4) fun j4 =>
 jnF 5 (fun z8_6 z3_6 z2_6 z1_6 z0_6 h6 =>
 j4 z8_6 z3_6 z2_6 z1_6 z0_6 h6) fun j6 =>
 lpF 6 n (fun f7 y9_7 y8_7 y3_7 y2_7 y1_7 y0_7 h7 =>
 oB' (nx 17 h7) fun h8 =>
 oB (bGt y9_7 y1_7) fun x20_9 =>
 oB (gq x20_9 true (some y3_7)) fun x22_10 =>
 oB (gq x20_9 true (some y0_7)) fun x23_11 =>
 oB (gq x20_9 true (some y9_7)) fun x24_12 =>
 oB (gq x20_9 true (oIx 3 x23_11 x24_12)) fun x25_13 =>
 oB (gq x20_9 true (oLdN 3 h8 x25_13)) fun x26_14 =>
 oB (gq x20_9 true (some y0_7)) fun x27_15 =>
 oB (gq x20_9 true (some y9_7)) fun x28_16 =>
 oB (gq x20_9 true (bSub x28_16 (I 1))) fun x29_17 =>
 oB (gq x20_9 true (oIx 3 x27_15 x29_17)) fun x30_18 =>
 oB (gq x20_9 true (oLdN 3 h8 x30_18)) fun x31_19 =>
 oP (gw x20_9 true (wOf (.callV (.c x22_10) [(.c x26_14), (.c x31_19)]) call .e h8) h8) fun x32_20 h20 =>
 oB (gq x20_9 true (bLt x32_20 (I 0))) fun x33_21 =>
 oB (oPick x20_9 x33_21 (.bool false)) fun x34_22 =>
 ci x34_22 (
 jnF 6 (fun z9_23 z8_23 z3_23 z2_23 z1_23 z0_23 h23 =>
 oB (bSub z9_23 (I 1)) fun x36_24 =>
 f7 x36_24 z8_23 z3_23 z2_23 z1_23 z0_23 h23) fun j23 =>
 oB' (nx 18 h20) fun h25 =>
 oB (bSub y9_7 (I 1)) fun x41_26 =>
 oB (bSub y9_7 (I 1)) fun x44_27 =>
 oB (oIx 3 y0_7 x44_27) fun x45_28 =>
 oB (oLdN 3 h25 x45_28) fun x46_29 =>
 oB (oIx 3 y0_7 y9_7) fun x49_30 =>
 oB (oLdN 3 h25 x49_30) fun x50_31 =>
 oB (oIx 3 y0_7 y9_7) fun x51_32 =>
 oP (oSt 3 h25 x51_32 x46_29) fun _ h33 =>
 oB (oIx 3 y0_7 x41_26) fun x52_34 =>
 oP (oSt 3 h33 x52_34 x50_31) fun _ h35 =>
 j23 y9_7 y8_7 y3_7 y2_7 y1_7 y0_7 h35) (
 j6 y8_7 y3_7 y2_7 y1_7 y0_7 h20)) y8_2 y8_2 y3_2 y2_2 y1_2 y0_2 h2) (
 j1 h2)) x11_0 x3 x2 x1 x0 h
theorem o_slices_insertionSortCmpFunc_api_Diag : FnOK Tryz.prog n_slices_insertionSortCmpFunc_api_Diag (a4 f_slices_insertionSortCmpFunc_api_Diag) := ok4 mixed Tryz.func175 (by kernel_rfl)
/- slices.heapSortCmpFunc[corrector/api.Diag] -/
noncomputable def f_slices_heapSortCmpFunc_api_Diag (n : Nat) (call : Caller)  (x0 x1 x2 x3 : AV) (h : AH) : Ans :=
 oB (bSub x2 x1) fun x16_0 =>
 oB (bSub x16_0 (I 1)) fun x18_1 =>
 oB (binAV .quo .no x18_1 (I 2)) fun x19_2 =>
 jnF 5 (fun z10_3 z9_3 z8_3 z3_3 z0_3 h3 =>
 oB (bSub z10_3 (I 1)) fun x31_4 =>
 jnF 0 (fun h5 =>
 some (.tup [], h5)) fun j5 =>
 lpF 5 n (fun f6 y12_6 y9_6 y8_6 y3_6 y0_6 h6 =>
 oB (bGe y12_6 (I 0)) fun x33_7 =>
 ci x33_7 (
 jnF 5 (fun z12_8 z9_8 z8_8 z3_8 z0_8 h8 =>
 oB (bSub z12_8 (I 1)) fun x35_9 =>
 f6 x35_9 z9_8 z8_8 z3_8 z0_8 h8) fun j8 =>
 oB' (nx 20 h6) fun h10 =>
 oB (bAdd y8_6 y12_6) fun x41_11 =>
 oB (bAdd y8_6 y12_6) fun x45_12 =>
 oB (oIx 3 y0_6 x45_12) fun x46_13 =>
 oB (oLdN 3 h10 x46_13) fun x47_14 =>
 oB (oIx 3 y0_6 y8_6) fun x50_15 =>
 oB (oLdN 3 h10 x50_15) fun x51_16 =>
 oB (oIx 3 y0_6 y8_6) fun x52_17 =>
 oP (oSt 3 h10 x52_17 x47_14) fun _ h18 =>
 oB (oIx 3 y0_6 x41_11) fun x53_19 =>
 oP (oSt 3 h18 x53_19 x51_16) fun _ h20 =>
 oP (call n_slices_siftDownCmpFunc_api_Diag [y0_6, y9_6, y12_6, y8_6, y3_6] h20) fun x59_21 h21 =>
 j8 y12_6 y9_6 y8_6 y3_6 y0_6 h21) (
 j5 h6)) x31_4 z9_3 z8_3 z3_3 z0_3 h3) fun j3 =>
 lpF 6 n (fun f22 y11_22 y10_22 y9_22 y8_22 y3_22 y0_22 h22 =>
 oB (bGe y11_22 (I 0)) fun x21_23 =>
 ci x21_23 (
 jnF 6 (fun z11_24 z10_24 z9_24 z8_24 z3_24 z0_24 h24 =>
 oB (bSub z11_24 (I 1)) fun x23_25 =>
 f22 x23_25 z10_24 z9_24 z8_24 z3_24 z0_24 h24) fun j24 =>
 oP (call n_slices_siftDownCmpFunc_api_Diag [y0_22, y11_22, y10_22, y8_22, y3_22] h22) fun x29_26 h26 =>
 j24 y11_22 y10_22 y9_22 y8_22 y3_22 y0_22 h26) (
 j3 y10_22 y9_22 y8_22 y3_22 y0_22 h22)) x19_2 x16_0 (I 0) x1 x3 x0 h
theorem o_slices_heapSortCmpFunc_api_Diag : FnOK Tryz.prog n_slices_heapSortCmpFunc_api_Diag (a4 f_slices_heapSortCmpFunc_api_Diag) := ok4 mixed Tryz.func176 (by kernel_rfl)
/- slices.breakPatternsCmpFunc[corrector/api.Diag] -/
noncomputable def f_slices_breakPatternsCmpFunc_api_Diag (n : Nat) (call : Caller)  (x0 x1 x2 x3 : AV) (h : AH) : Ans :=
 oB (bSub x2 x1) fun x15_0 =>
 oB (bGe x15_0 (I 8)) fun x17_1 =>
 jnF 0 (fun h2 =>
 some (.tup [], h2)) fun j2 =>
 ci x17_1 (
 oB (oInt .u64 x15_0) fun x19_3 =>
 oP (oNew h 267 [(.int .u64 0)]) fun x9_4 h4 =>
 oP (oSt 1 h4 x9_4 x19_3) fun _ h5 =>
 oP (call n_slices_nextPowerOfTwo [x15_0] h5) fun x21_6 h6 =>
 oB (binAV .quo .no x15_0 (I 4)) fun x24_7 =>
 oB (binAV .mul .no x24_7 (I 2)) fun x25_8 =>
 oB (bAdd x1 x25_8) fun x26_9 =>
 oB (bSub x26_9 (I 1)) fun x27_10 =>
 jnF 0 (fun h11 =>
 j2 h11) fun j11 =>
 lpF 6 n (fun f12 y11_12 y10_12 y9_12 y8_12 y1_12 y0_12 h12 =>
 oB (binAV .quo .no y8_12 (I 4)) fun x31_13 =>
 oB (binAV .mul .no x31_13 (I 2)) fun x32_14 =>
 oB (bAdd y1_12 x32_14) fun x33_15 =>
 oB (bAdd x33_15 (I 1)) fun x34_16 =>
 oB (bLe y11_12 x34_16) fun x35_17 =>
 ci x35_17 (
 jnF 6 (fun z11_18 z10_18 z9_18 z8_18 z1_18 z0_18 h18 =>
 oB (bAdd z11_18 (I 1)) fun x37_19 =>
 f12 x37_19 z10_18 z9_18 z8_18 z1_18 z0_18 h18) fun j18 =>
 oP (call n_slices_xorshift_Next [y9_12] h12) fun x38_20 h20 =>
 oB (bSub y10_12 (.int .u64 1)) fun x40_21 =>
 oB (binAV .and .no x38_20 x40_21) fun x41_22 =>
 oB (oInt .i64 x41_22) fun x42_23 =>
 oB (bGe x42_23 y8_12) fun x45_24 =>
 jnF 7 (fun z12_25 z11_25 z10_25 z9_25 z8_25 z1_25 z0_25 h25 =>
 oB' (nx 20 h25) fun h26 =>
 oB (bAdd z1_25 z12_25) fun x54_27 =>
 oB (bAdd z1_25 z12_25) fun x58_28 =>
 oB (oIx 3 z0_25 x58_28) fun x59_29 =>
 oB (oLdN 3 h26 x59_29) fun x60_30 =>
 oB (oIx 3 z0_25 z11_25) fun x63_31 =>
 oB (oLdN 3 h26 x63_31) fun x64_32 =>
 oB (oIx 3 z0_25 z11_25) fun x65_33 =>
 oP (oSt 3 h26 x65_33 x60_30) fun _ h34 =>
 oB (oIx 3 z0_25 x54_27) fun x66_35 =>
 oP (oSt 3 h34 x66_35 x64_32) fun _ h36 =>
 j18 z11_25 z10_25 z9_25 z8_25 z1_25 z0_25 h36) fun j25 =>
 ci x45_24 (
 oB (bSub x42_23 y8_12) fun x48_37 =>
 j25 x48_37 y11_12 y10_12 y9_12 y8_12 y1_12 y0_12 h20) (
 j25 x42_23 y11_12 y10_12 y9_12 y8_12 y1_12 y0_12 h20)) (
 j11 h12)) x27_10 x21_6 x9_4 x15_0 x1 x0 h6) (
 j2 h)
theorem o_slices_breakPatternsCmpFunc_api_Diag : FnOK Tryz.prog n_slices_breakPatternsCmpFunc_api_Diag (a4 f_slices_breakPatternsCmpFunc_api_Diag) := ok4 mixed Tryz.func177 (by kernel_rfl)
/- slices.choosePivotCmpFunc[corrector/api.Diag] -/
noncomputable def f_slices_choosePivotCmpFunc_api_Diag (n : Nat) (call : Caller)  (x0 x1 x2 x3 : AV) (h : AH) : Ans :=
 oB (bSub x2 x1) fun x17_0 =>
 oP (oNew h 3 [(I 0)]) fun x11_1 h1 =>
 oB (binAV .quo .no x17_0 (I 4)) fun x20_2 =>
 oB (binAV .mul .no x20_2 (I 1)) fun x21_3 =>
 oB (bAdd x1 x21_3) fun x22_4 =>
 oB (binAV .quo .no x17_0 (I 4)) fun x25_5 =>
 oB (binAV .mul .no x25_5 (I 2)) fun x26_6 =>
 oB (bAdd x1 x26_6) fun x27_7 =>
 oB (binAV .quo .no x17_0 (I 4)) fun x30_8 =>
 oB (binAV .mul .no x30_8 (I 3)) fun x31_9 =>
 oB (bAdd x1 x31_9) fun x32_10 =>
 oB (bGe x17_0 (I 8)) fun x34_11 =>
 jnF 2 (fun z13_12 z11_12 h12 =>
 oB (oLd h12 z11_12) fun x55_13 =>
 jnF 2 (fun z9_14 z8_14 h14 =>
 some (.tup [z8_14, z9_14], h14)) fun j14 =>
 oB (bEq .no x55_13 (I 0)) fun x58_15 =>
 ci x58_15 (
 some (.tup [z13_12, (I 1)], h12)) (
 oB (bEq .no x55_13 (I 12)) fun x61_16 =>
 ci x61_16 (
 some (.tup [z13_12, (I 2)], h12)) (
 some (.tup [z13_12, (I 0)], h12)))) fun j12 =>
 ci x34_11 (
 oB (bGe x17_0 (I 50)) fun x36_17 =>
 jnF 6 (fun z14_18 z13_18 z12_18 z11_18 z3_18 z0_18 h18 =>
 oP (call n_slices_medianCmpFunc_api_Diag [z0_18, z12_18, z13_18, z14_18, z11_18, z3_18] h18) fun x54_19 h19 =>
 j12 x54_19 z11_18 h19) fun j18 =>
 ci x36_17 (
 oP (call n_slices_medianAdjacentCmpFunc_api_Diag [x0, x22_4, x11_1, x3] h1) fun x40_20 h20 =>
 oP (call n_slices_medianAdjacentCmpFunc_api_Diag [x0, x27_7, x11_1, x3] h20) fun x44_21 h21 =>
 oP (call n_slices_medianAdjacentCmpFunc_api_Diag [x0, x32_10, x11_1, x3] h21) fun x48_22 h22 =>
 j18 x48_22 x44_21 x40_20 x11_1 x3 x0 h22) (
 j18 x32_10 x27_7 x22_4 x11_1 x3 x0 h1)) (
 j12 x27_7 x11_1 h1)
theorem o_slices_choosePivotCmpFunc_api_Diag : FnOK Tryz.prog n_slices_choosePivotCmpFunc_api_Diag (a4 f_slices_choosePivotCmpFunc_api_Diag) := ok4 mixed Tryz.func178 (by kernel_rfl)
/- slices.reverseRangeCmpFunc[corrector/api.Diag] -/
noncomputable def f_slices_reverseRangeCmpFunc_api_Diag (n : Nat) (call : Caller)  (x0 x1 x2 x3 : AV) (h : AH) : Ans :=
 oB (bSub x2 (I 1)) fun x12_0 =>
 jnF 0 (fun h1 =>
 some (.tup [], h1)) fun j1 =>
 lpF 3 n (fun f2 y9_2 y8_2 y0_2 h2 =>
 oB (bLt y8_2 y9_2) fun x15_3 =>
 ci x15_3 (
 jnF 3 (fun z9_4 z8_4 z0_4 h4 =>
 f2 z9_4 z8_4 z0_4 h4) fun j4 =>
 oB' (nx 16 h2) fun h5 =>
 oB (oIx 3 y0_2 y9_2) fun x22_6 =>
 oB (oLdN 3 h5 x22_6) fun x23_7 =>
 oB (oIx 3 y0_2 y8_2) fun x26_8 =>
 oB (oLdN 3 h5 x26_8) fun x27_9 =>
 oB (oIx 3 y0_2 y8_2) fun x28_10 =>
 oP (oSt 3 h5 x28_10 x23_7) fun _ h11 =>
 oB (oIx 3 y0_2 y9_2) fun x29_12 =>
 oP (oSt 3 h11 x29_12 x27_9) fun _ h13 =>
 oB (bAdd y8_2 (I 1)) fun x31_14 =>
 oB (bSub y9_2 (I 1)) fun x33_15 =>
 j4 x33_15 x31_14 y0_2 h13) (
 j1 h2)) x12_0 x1 x0 h
theorem o_slices_reverseRangeCmpFunc_api_Diag : FnOK Tryz.prog n_slices_reverseRangeCmpFunc_api_Diag (a4 f_slices_reverseRangeCmpFunc_api_Diag) := ok4 mixed Tryz.func179 (by kernel_rfl)
/- slices.partialInsertionSortCmpFunc[corrector/api.Diag] -/
noncomputable def f_slices_partialInsertionSortCmpFunc_api_Diag (n : Nat) (call : Caller)  (x0 x1 x2 x3 : AV) (h : AH) : Ans :=
 oB (bAdd x1 (I 1)) fun x14_0 =>
 jnF 0 (fun h1 =>
 some ((.bool false), h1)) fun j1 =>
 lpF 6 n (fun f2 y10_2 y9_2 y3_2 y2_2 y1_2 y0_2 h2 =>
 oB (bLt y10_2 (I 5)) fun x16_3 =>
 ci x16_3 (
 jnF 6 (fun z10_4 z9_4 z3_4 z2_4 z1_4 z0_4 h4 =>
 oB (bAdd z10_4 (I 1)) fun x18_5 =>
 f2 x18_5 z9_4 z3_4 z2_4 z1_4 z0_4 h4) fun j4 =>
 jnF 6 (fun z10_6 z9_6 z3_6 z2_6 z1_6 z0_6 h6 =>
 oB (bEq .no z9_6 z2_6) fun x41_7 =>
 ci x41_7 (
 some ((.bool true), h6)) (
 oB (bSub z2_6 z1_6) fun x44_8 =>
 oB (bLt x44_8 (I 50)) fun x45_9 =>
 ci x45_9 (
 some ((.bool false), h6)) (
 oB' (nx 18 h6) fun h10 =>
 oB (bSub z9_6 (I 1)) fun x50_11 =>
 oB (bSub z9_6 (I 1)) fun x53_12 =>
 oB (oIx 3 z0_6 x53_12) fun x54_13 =>
 oB (oLdN 3 h10 x54_13) fun x55_14 =>
 oB (oIx 3 z0_6 z9_6) fun x58_15 =>
 oB (oLdN 3 h10 x58_15) fun x59_16 =>
 oB (oIx 3 z0_6 z9_6) fun x60_17 =>
 oP (oSt 3 h10 x60_17 x55_14) fun _ h18 =>
 oB (oIx 3 z0_6 x50_11) fun x61_19 =>
 oP (oSt 3 h18 x61_19 x59_16) fun _ h20 =>
 oB (bSub z9_6 z1_6) fun x64_21 =>
 oB (bGe x64_21 (I 2)) fun x65_22 =>
 jnF 6 (fun z10_23 z9_23 z3_23 z2_23 z1_23 z0_23 h23 =>
 oB (bSub z2_23 z9_23) fun x103_24 =>
 oB (bGe x103_24 (I 2)) fun x104_25 =>
 jnF 6 (fun z10_26 z9_26 z3_26 z2_26 z1_26 z0_26 h26 =>
 j4 z10_26 z9_26 z3_26 z2_26 z1_26 z0_26 h26) fun j26 =>
 ci x104_25 (
 oB (bAdd z9_23 (I 1)) fun x106_27 =>
 jnF 6 (fun z10_28 z9_28 z3_28 z2_28 z1_28 z0_28 h28 =>
 j26 z10_28 z9_28 z3_28 z2_28 z1_28 z0_28 h28) fun j28 =>
 lpF 7 n (fun f29 y12_29 y10_29 y9_29 y3_29 y2_29 y1_29 y0_29 h29 =>
 oB (bLt y12_29 y2_29) fun x109_30 =>
 ci x109_30 (
 jnF 7 (fun z12_31 z10_31 z9_31 z3_31 z2_31 z1_31 z0_31 h31 =>
 oB (bAdd z12_31 (I 1)) fun x111_32 =>
 f29 x111_32 z10_31 z9_31 z3_31 z2_31 z1_31 z0_31 h31) fun j31 =>
 oB' (nx 13 h29) fun h33 =>
 oB (oIx 3 y0_29 y12_29) fun x115_34 =>
 oB (oLdN 3 h33 x115_34) fun x116_35 =>
 oB (bSub y12_29 (I 1)) fun x119_36 =>
 oB (oIx 3 y0_29 x119_36) fun x120_37 =>
 oB (oLdN 3 h33 x120_37) fun x121_38 =>
 oP (wOf (.callV (.c y3_29) [(.c x116_35), (.c x121_38)]) call .e h33) fun x122_39 h39 =>
 oB (bLt x122_39 (I 0)) fun x123_40 =>
 oB (evQ (.un .not (.c x123_40)) .e h39) fun x124_41 =>
 ci x124_41 (
 j28 y10_29 y9_29 y3_29 y2_29 y1_29 y0_29 h39) (
 oB' (nx 18 h39) fun h42 =>
 oB (bSub y12_29 (I 1)) fun x129_43 =>
 oB (bSub y12_29 (I 1)) fun x132_44 =>
 oB (oIx 3 y0_29 x132_44) fun x133_45 =>
 oB (oLdN 3 h42 x133_45) fun x134_46 =>
 oB (oIx 3 y0_29 y12_29) fun x137_47 =>
 oB (oLdN 3 h42 x137_47) fun x138_48 =>
 oB (oIx 3 y0_29 y12_29) fun x139_49 =>
 oP (oSt 3 h42 x139_49 x134_46) fun _ h50 =>
 oB (oIx 3 y0_29 x129_43) fun x140_51 =>
 oP (oSt 3 h50 x140_51 x138_48) fun _ h52 =>
 j31 y12_29 y10_29 y9_29 y3_29 y2_29 y1_29 y0_29 h52)) (
 j28 y10_29 y9_29 y3_29 y2_29 y1_29 y0_29 h29)) x106_27 z10_23 z9_23 z3_23 z2_23 z1_23 z0_23 h23) (
 j26 z10_23 z9_23 z3_23 z2_23 z1_23 z0_23 h23)) fun j23 =>
 ci x65_22 (
 oB (bSub z9_6 (I 1)) fun x67_53 =>
 jnF 6 (fun z10_54 z9_54 z3_54 z2_54 z1_54 z0_54 h54 =>
 j23 z10_54 z9_54 z3_54 z2_54 z1_54 z0_54 h54) fun j54 =>
 lpF 7 n (fun f55 y11_55 y10_55 y9_55 y3_55 y2_55 y1_55 y0_55 h55 =>
 oB (bGe y11_55 (I 1)) fun x69_56 =>
 ci x69_56 (
 jnF 7 (fun z11_57 z10_57 z9_57 z3_57 z2_57 z1_57 z0_57 h57 =>
 oB (bSub z11_57 (I 1)) fun x71_58 =>
 f55 x71_58 z10_57 z9_57 z3_57 z2_57 z1_57 z0_57 h57) fun j57 =>
 oB' (nx 13 h55) fun h59 =>
 oB (oIx 3 y0_55 y11_55) fun x75_60 =>
 oB (oLdN 3 h59 x75_60) fun x76_61 =>
 oB (bSub y11_55 (I 1)) fun x79_62 =>
 oB (oIx 3 y0_55 x79_62) fun x80_63 =>
 oB (oLdN 3 h59 x80_63) fun x81_64 =>
 oP (wOf (.callV (.c y3_55) [(.c x76_61), (.c x81_64)]) call .e h59) fun x82_65 h65 =>
 oB (bLt x82_65 (I 0)) fun x83_66 =>
 oB (evQ (.un .not (.c x83_66)) .e h65) fun x84_67 =>
 ci x84_67 (
 j54 y10_55 y9_55 y3_55 y2_55 y1_55 y0_55 h65) (
 oB' (nx 18 h65) fun h68 =>
 oB (bSub y11_55 (I 1)) fun x89_69 =>
 oB (bSub y11_55 (I 1)) fun x92_70 =>
 oB (oIx 3 y0_55 x92_70) fun x93_71 =>
 oB (oLdN 3 h68 x93_71) fun x94_72 =>
 oB (oIx 3 y0_55 y11_55) fun x97_73 =>
 oB (oLdN 3 h68 x97_73) fun x98_74 =>
 oB (oIx 3 y0_55 y11_55) fun x99_75 =>
 oP (oSt 3 h68 x99_75 x94_72) fun _ h76 =>
 oB (oIx 3 y0_55 x89_69) fun x100_77 =>
 oP (oSt 3 h76 x100_77 x98_74) fun _ h78 =>
 j57 y11_55 y10_55 y9_55 y3_55 y2_55 y1_55 y0_55 h78)) (
 j54 y10_55 y9_55 y3_55 y2_55 y1_55 y0_55 h55)) x67_53 z10_6 z9_6 z3_6 z2_6 z1_6 z0_6 h20) (
 j23 z10_6 z9_6 z3_6 z2_6 z1_6 z0_6 h20)))) fun j6 =>
 lpF 6 n (fun f79 y10_79 y9_79 y3_79 y2_79 y1_79 y0_79 h79 =>
 oB' (nx 18 h79) fun h80 =>
 oB (bLt y9_79 y2_79) fun x21_81 =>
 oB (gq x21_81 true (some y3_79)) fun x23_82 =>
 oB (gq x21_81 true (some y0_79)) fun x24_83 =>
 oB (gq x21_81 true (some y9_79)) fun x25_84 =>
 oB (gq x21_81 true (oIx 3 x24_83 x25_84)) fun x26_85 =>
 oB (gq x21_81 true (oLdN 3 h80 x26_85)) fun x27_86 =>
 oB (gq x21_81 true (some y0_79)) fun x28_87 =>
 oB (gq x21_81 true (some y9_79)) fun x29_88 =>
 oB (gq x21_81 true (bSub x29_88 (I 1))) fun x30_89 =>
 oB (gq x21_81 true (oIx 3 x28_87 x30_89)) fun x31_90 =>
 oB (gq x21_81 true (oLdN 3 h80 x31_90)) fun x32_91 =>
 oP (gw x21_81 true (wOf (.callV (.c x23_82) [(.c x27_86), (.c x32_91)]) call .e h80) h80) fun x33_92 h92 =>
 oB (gq x21_81 true (bLt x33_92 (I 0))) fun x34_93 =>
 oB (gq x21_81 true (evQ (.un .not (.c x34_93)) .e h92)) fun x35_94 =>
 oB (oPick x21_81 x35_94 (.bool false)) fun x36_95 =>
 ci x36_95 (
 jnF 6 (fun z10_96 z9_96 z3_96 z2_96 z1_96 z0_96 h96 =>
 f79 z10_96 z9_96 z3_96 z2_96 z1_96 z0_96 h96) fun j96 =>
 oB (bAdd y9_79 (I 1)) fun x38_97 =>
 j96 y10_79 x38_97 y3_79 y2_79 y1_79 y0_79 h92) (
 j6 y10_79 y9_79 y3_79 y2_79 y1_79 y0_79 h92)) y10_2 y9_2 y3_2 y2_2 y1_2 y0_2 h2) (
 j1 h2)) (I 0) x14_0 x3 x2 x1 x0 h
theorem o_slices_partialInsertionSortCmpFunc_api_Diag : FnOK Tryz.prog n_slices_partialInsertionSortCmpFunc_api_Diag (a4 f_slices_partialInsertionSortCmpFunc_api_Diag) := ok4 mixed Tryz.func180 (by kernel_rfl)
/- slices.partitionEqualCmpFunc[corrector/api.Diag] -/
noncomputable def f_slices_partitionEqualCmpFunc_api_Diag (n : Nat) (call : Caller)  (x0 x1 x2 x3 x4 : AV) (h : AH) : Ans :=
 oB' (nx 16 h) fun h0 =>
 oB (oIx 3 x0 x3) fun x19_1 =>
 oB (oLdN 3 h0 x19_1) fun x20_2 =>
 oB (oIx 3 x0 x1) fun x23_3 =>
 oB (oLdN 3 h0 x23_3) fun x24_4 =>
 oB (oIx 3 x0 x1) fun x25_5 =>
 oP (oSt 3 h0 x25_5 x20_2) fun _ h6 =>
 oB (oIx 3 x0 x3) fun x26_7 =>
 oP (oSt 3 h6 x26_7 x24_4) fun _ h8 =>
 oB (bAdd x1 (I 1)) fun x28_9 =>
 oB (bSub x2 (I 1)) fun x30_10 =>
 jnF 1 (fun z11_11 h11 =>
 some (z11_11, h11)) fun j11 =>
 lpF 5 n (fun f12 y12_12 y11_12 y4_12 y1_12 y0_12 h12 =>
 jnF 5 (fun z12_13 z11_13 z4_13 z1_13 z0_13 h13 =>
 f12 z12_13 z11_13 z4_13 z1_13 z0_13 h13) fun j13 =>
 jnF 5 (fun z12_14 z11_14 z4_14 z1_14 z0_14 h14 =>
 jnF 5 (fun z12_15 z11_15 z4_15 z1_15 z0_15 h15 =>
 oB (bGt z11_15 z12_15) fun x70_16 =>
 ci x70_16 (
 j11 z11_15 h15) (
 oB' (nx 16 h15) fun h17 =>
 oB (oIx 3 z0_15 z12_15) fun x77_18 =>
 oB (oLdN 3 h17 x77_18) fun x78_19 =>
 oB (oIx 3 z0_15 z11_15) fun x81_20 =>
 oB (oLdN 3 h17 x81_20) fun x82_21 =>
 oB (oIx 3 z0_15 z11_15) fun x83_22 =>
 oP (oSt 3 h17 x83_22 x78_19) fun _ h23 =>
 oB (oIx 3 z0_15 z12_15) fun x84_24 =>
 oP (oSt 3 h23 x84_24 x82_21) fun _ h25 =>
 oB (bAdd z11_15 (I 1)) fun x86_26 =>
 oB (bSub z12_15 (I 1)) fun x88_27 =>
 j13 x88_27 x86_26 z4_15 z1_15 z0_15 h25)) fun j15 =>
 lpF 5 n (fun f28 y12_28 y11_28 y4_28 y1_28 y0_28 h28 =>
 oB' (nx 16 h28) fun h29 =>
 oB (bLe y11_28 y12_28) fun x52_30 =>
 oB (gq x52_30 true (some y4_28)) fun x54_31 =>
 oB (gq x52_30 true (some y0_28)) fun x55_32 =>
 oB (gq x52_30 true (some y1_28)) fun x56_33 =>
 oB (gq x52_30 true (oIx 3 x55_32 x56_33)) fun x57_34 =>
 oB (gq x52_30 true (oLdN 3 h29 x57_34)) fun x58_35 =>
 oB (gq x52_30 true (some y0_28)) fun x59_36 =>
 oB (gq x52_30 true (some y12_28)) fun x60_37 =>
 oB (gq x52_30 true (oIx 3 x59_36 x60_37)) fun x61_38 =>
 oB (gq x52_30 true (oLdN 3 h29 x61_38)) fun x62_39 =>
 oP (gw x52_30 true (wOf (.callV (.c x54_31) [(.c x58_35), (.c x62_39)]) call .e h29) h29) fun x63_40 h40 =>
 oB (gq x52_30 true (bLt x63_40 (I 0))) fun x64_41 =>
 oB (oPick x52_30 x64_41 (.bool false)) fun x65_42 =>
 ci x65_42 (
 jnF 5 (fun z12_43 z11_43 z4_43 z1_43 z0_43 h43 =>
 f28 z12_43 z11_43 z4_43 z1_43 z0_43 h43) fun j43 =>
 oB (bSub y12_28 (I 1)) fun x67_44 =>
 j43 x67_44 y11_28 y4_28 y1_28 y0_28 h40) (
 j15 y12_28 y11_28 y4_28 y1_28 y0_28 h40)) z12_14 z11_14 z4_14 z1_14 z0_14 h14) fun j14 =>
 lpF 5 n (fun f45 y12_45 y11_45 y4_45 y1_45 y0_45 h45 =>
 oB' (nx 17 h45) fun h46 =>
 oB (bLe y11_45 y12_45) fun x33_47 =>
 oB (gq x33_47 true (some y4_45)) fun x35_48 =>
 oB (gq x33_47 true (some y0_45)) fun x36_49 =>
 oB (gq x33_47 true (some y1_45)) fun x37_50 =>
 oB (gq x33_47 true (oIx 3 x36_49 x37_50)) fun x38_51 =>
 oB (gq x33_47 true (oLdN 3 h46 x38_51)) fun x39_52 =>
 oB (gq x33_47 true (some y0_45)) fun x40_53 =>
 oB (gq x33_47 true (some y11_45)) fun x41_54 =>
 oB (gq x33_47 true (oIx 3 x40_53 x41_54)) fun x42_55 =>
 oB (gq x33_47 true (oLdN 3 h46 x42_55)) fun x43_56 =>
 oP (gw x33_47 true (wOf (.callV (.c x35_48) [(.c x39_52), (.c x43_56)]) call .e h46) h46) fun x44_57 h57 =>
 oB (gq x33_47 true (bLt x44_57 (I 0))) fun x45_58 =>
 oB (gq x33_47 true (evQ (.un .not (.c x45_58)) .e h57)) fun x46_59 =>
 oB (oPick x33_47 x46_59 (.bool false)) fun x47_60 =>
 ci x47_60 (
 jnF 5 (fun z12_61 z11_61 z4_61 z1_61 z0_61 h61 =>
 f45 z12_61 z11_61 z4_61 z1_61 z0_61 h61) fun j61 =>
 oB (bAdd y11_45 (I 1)) fun x49_62 =>
 j61 y12_45 x49_62 y4_45 y1_45 y0_45 h57) (
 j14 y12_45 y11_45 y4_45 y1_45 y0_45 h57)) y12_12 y11_12 y4_12 y1_12 y0_12 h12) x30_10 x28_9 x4 x1 x0 h8
theorem o_slices_partitionEqualCmpFunc_api_Diag : FnOK Tryz.prog n_slices_partitionEqualCmpFunc_api_Diag (a5 f_slices_partitionEqualCmpFunc_api_Diag) := ok5 mixed Tryz.func181 (by kernel_rfl)
/- slices.partitionCmpFunc[corrector/api.Diag] -/
noncomputable def f_slices_partitionCmpFunc_api_Diag (n : Nat) (call : Caller)  (x0 x1 x2 x3 x4 : AV) (h : AH) : Ans :=
 oB' (nx 16 h) fun h0 =>
 oB (oIx 3 x0 x3) fun x20_1 =>
 oB (oLdN 3 h0 x20_1) fun x21_2 =>
 oB (oIx 3 x0 x1) fun x24_3 =>
 oB (oLdN 3 h0 x24_3) fun x25_4 =>
 oB (oIx 3 x0 x1) fun x26_5 =>
 oP (oSt 3 h0 x26_5 x21_2) fun _ h6 =>
 oB (oIx 3 x0 x3) fun x27_7 =>
 oP (oSt 3 h6 x27_7 x25_4) fun _ h8 =>
 oB (bAdd x1 (I 1)) fun x29_9 =>
 oB (bSub x2 (I 1)) fun x31_10 =>
 jnF 5 (fun z13_11 z12_11 z4_11 z1_11 z0_11 h11 =>
 jnF 5 (fun z13_12 z12_12 z4_12 z1_12 z0_12 h12 =>
 oB (bGt z12_12 z13_12) fun x71_13 =>
 ci x71_13 (
 oB' (nx 16 h12) fun h14 =>
 oB (oIx 3 z0_12 z1_12) fun x78_15 =>
 oB (oLdN 3 h14 x78_15) fun x79_16 =>
 oB (oIx 3 z0_12 z13_12) fun x82_17 =>
 oB (oLdN 3 h14 x82_17) fun x83_18 =>
 oB (oIx 3 z0_12 z13_12) fun x84_19 =>
 oP (oSt 3 h14 x84_19 x79_16) fun _ h20 =>
 oB (oIx 3 z0_12 z1_12) fun x85_21 =>
 oP (oSt 3 h20 x85_21 x83_18) fun _ h22 =>
 some (.tup [z13_12, (.bool true)], h22)) (
 oB' (nx 16 h12) fun h23 =>
 oB (oIx 3 z0_12 z13_12) fun x93_24 =>
 oB (oLdN 3 h23 x93_24) fun x94_25 =>
 oB (oIx 3 z0_12 z12_12) fun x97_26 =>
 oB (oLdN 3 h23 x97_26) fun x98_27 =>
 oB (oIx 3 z0_12 z12_12) fun x99_28 =>
 oP (oSt 3 h23 x99_28 x94_25) fun _ h29 =>
 oB (oIx 3 z0_12 z13_12) fun x100_30 =>
 oP (oSt 3 h29 x100_30 x98_27) fun _ h31 =>
 oB (bAdd z12_12 (I 1)) fun x102_32 =>
 oB (bSub z13_12 (I 1)) fun x104_33 =>
 jnF 3 (fun z13_34 z1_34 z0_34 h34 =>
 oB' (nx 16 h34) fun h35 =>
 oB (oIx 3 z0_34 z1_34) fun x169_36 =>
 oB (oLdN 3 h35 x169_36) fun x170_37 =>
 oB (oIx 3 z0_34 z13_34) fun x173_38 =>
 oB (oLdN 3 h35 x173_38) fun x174_39 =>
 oB (oIx 3 z0_34 z13_34) fun x175_40 =>
 oP (oSt 3 h35 x175_40 x170_37) fun _ h41 =>
 oB (oIx 3 z0_34 z1_34) fun x176_42 =>
 oP (oSt 3 h41 x176_42 x174_39) fun _ h43 =>
 some (.tup [z13_34, (.bool false)], h43)) fun j34 =>
 lpF 5 n (fun f44 y13_44 y12_44 y4_44 y1_44 y0_44 h44 =>
 jnF 5 (fun z13_45 z12_45 z4_45 z1_45 z0_45 h45 =>
 f44 z13_45 z12_45 z4_45 z1_45 z0_45 h45) fun j45 =>
 jnF 5 (fun z13_46 z12_46 z4_46 z1_46 z0_46 h46 =>
 jnF 5 (fun z13_47 z12_47 z4_47 z1_47 z0_47 h47 =>
 oB (bGt z12_47 z13_47) fun x144_48 =>
 ci x144_48 (
 j34 z13_47 z1_47 z0_47 h47) (
 oB' (nx 16 h47) fun h49 =>
 oB (oIx 3 z0_47 z13_47) fun x151_50 =>
 oB (oLdN 3 h49 x151_50) fun x152_51 =>
 oB (oIx 3 z0_47 z12_47) fun x155_52 =>
 oB (oLdN 3 h49 x155_52) fun x156_53 =>
 oB (oIx 3 z0_47 z12_47) fun x157_54 =>
 oP (oSt 3 h49 x157_54 x152_51) fun _ h55 =>
 oB (oIx 3 z0_47 z13_47) fun x158_56 =>
 oP (oSt 3 h55 x158_56 x156_53) fun _ h57 =>
 oB (bAdd z12_47 (I 1)) fun x160_58 =>
 oB (bSub z13_47 (I 1)) fun x162_59 =>
 j45 x162_59 x160_58 z4_47 z1_47 z0_47 h57)) fun j47 =>
 lpF 5 n (fun f60 y13_60 y12_60 y4_60 y1_60 y0_60 h60 =>
 oB' (nx 17 h60) fun h61 =>
 oB (bLe y12_60 y13_60) fun x125_62 =>
 oB (gq x125_62 true (some y4_60)) fun x127_63 =>
 oB (gq x125_62 true (some y0_60)) fun x128_64 =>
 oB (gq x125_62 true (some y13_60)) fun x129_65 =>
 oB (gq x125_62 true (oIx 3 x128_64 x129_65)) fun x130_66 =>
 oB (gq x125_62 true (oLdN 3 h61 x130_66)) fun x131_67 =>
 oB (gq x125_62 true (some y0_60)) fun x132_68 =>
 oB (gq x125_62 true (some y1_60)) fun x133_69 =>
 oB (gq x125_62 true (oIx 3 x132_68 x133_69)) fun x134_70 =>
 oB (gq x125_62 true (oLdN 3 h61 x134_70)) fun x135_71 =>
 oP (gw x125_62 true (wOf (.callV (.c x127_63) [(.c x131_67), (.c x135_71)]) call .e h61) h61) fun x136_72 h72 =>
 oB (gq x125_62 true (bLt x136_72 (I 0))) fun x137_73 =>
 oB (gq x125_62 true (evQ (.un .not (.c x137_73)) .e h72)) fun x138_74 =>
 oB (oPick x125_62 x138_74 (.bool false)) fun x139_75 =>
 ci x139_75 (
 jnF 5 (fun z13_76 z12_76 z4_76 z1_76 z0_76 h76 =>
 f60 z13_76 z12_76 z4_76 z1_76 z0_76 h76) fun j76 =>
 oB (bSub y13_60 (I 1)) fun x141_77 =>
 j76 x141_77 y12_60 y4_60 y1_60 y0_60 h72) (
 j47 y13_60 y12_60 y4_60 y1_60 y0_60 h72)) z13_46 z12_46 z4_46 z1_46 z0_46 h46) fun j46 =>
 lpF 5 n (fun f78 y13_78 y12_78 y4_78 y1_78 y0_78 h78 =>
 oB' (nx 16 h78) fun h79 =>
 oB (bLe y12_78 y13_78) fun x107_80 =>
 oB (gq x107_80 true (some y4_78)) fun x109_81 =>
 oB (gq x107_80 true (some y0_78)) fun x110_82 =>
 oB (gq x107_80 true (some y12_78)) fun x111_83 =>
 oB (gq x107_80 true (oIx 3 x110_82 x111_83)) fun x112_84 =>
 oB (gq x107_80 true (oLdN 3 h79 x112_84)) fun x113_85 =>
 oB (gq x107_80 true (some y0_78)) fun x114_86 =>
 oB (gq x107_80 true (some y1_78)) fun x115_87 =>
 oB (gq x107_80 true (oIx 3 x114_86 x115_87)) fun x116_88 =>
 oB (gq x107_80 true (oLdN 3 h79 x116_88)) fun x117_89 =>
 oP (gw x107_80 true (wOf (.callV (.c x109_81) [(.c x113_85), (.c x117_89)]) call .e h79) h79) fun x118_90 h90 =>
 oB (gq x107_80 true (bLt x118_90 (I 0))) fun x119_91 =>
 oB (oPick x107_80 x119_91 (.bool false)) fun x120_92 =>
 ci x120_92 (
 jnF 5 (fun z13_93 z12_93 z4_93 z1_93 z0_93 h93 =>
 f78 z13_93 z12_93 z4_93 z1_93 z0_93 h93) fun j93 =>
 oB (bAdd y12_78 (I 1)) fun x122_94 =>
 j93 y13_78 x122_94 y4_78 y1_78 y0_78 h90) (
 j46 y13_78 y12_78 y4_78 y1_78 y0_78 h90)) y13_44 y12_44 y4_44 y1_44 y0_44 h44) x104_33 x102_32 z4_12 z1_12 z0_12 h31)) fun j12 =>
 lpF 5 n (fun f95 y13_95 y12_95 y4_95 y1_95 y0_95 h95 =>
 oB' (nx 17 h95) fun h96 =>
 oB (bLe y12_95 y13_95) fun x52_97 =>
 oB (gq x52_97 true (some y4_95)) fun x54_98 =>
 oB (gq x52_97 true (some y0_95)) fun x55_99 =>
 oB (gq x52_97 true (some y13_95)) fun x56_100 =>
 oB (gq x52_97 true (oIx 3 x55_99 x56_100)) fun x57_101 =>
 oB (gq x52_97 true (oLdN 3 h96 x57_101)) fun x58_102 =>
 oB (gq x52_97 true (some y0_95)) fun x59_103 =>
 oB (gq x52_97 true (some y1_95)) fun x60_104 =>
 oB (gq x52_97 true (oIx 3 x59_103 x60_104)) fun x61_105 =>
 oB (gq x52_97 true (oLdN 3 h96 x61_105)) fun x62_106 =>
 oP (gw x52_97 true (wOf (.callV (.c x54_98) [(.c x58_102), (.c x62_106)]) call .e h96) h96) fun x63_107 h107 =>
 oB (gq x52_97 true (bLt x63_107 (I 0))) fun x64_108 =>
 oB (gq x52_97 true (evQ (.un .not (.c x64_108)) .e h107)) fun x65_109 =>
 oB (oPick x52_97 x65_109 (.bool false)) fun x66_110 =>
 ci x66_110 (
 jnF 5 (fun z13_111 z12_111 z4_111 z1_111 z0_111 h111 =>
 f95 z13_111 z12_111 z4_111 z1_111 z0_111 h111) fun j111 =>
 oB (bSub y13_95 (I 1)) fun x68_112 =>
 j111 x68_112 y12_95 y4_95 y1_95 y0_95 h107) (
 j12 y13_95 y12_95 y4_95 y1_95 y0_95 h107)) z13_11 z12_11 z4_11 z1_11 z0_11 h11) fun j11 =>
 lpF 5 n (fun f113 y13_113 y12_113 y4_113 y1_113 y0_113 h113 =>
 oB' (nx 16 h113) fun h114 =>
 oB (bLe y12_113 y13_113) fun x34_115 =>
 oB (gq x34_115 true (some y4_113)) fun x36_116 =>
 oB (gq x34_115 true (some y0_113)) fun x37_117 =>
 oB (gq x34_115 true (some y12_113)) fun x38_118 =>
 oB (gq x34_115 true (oIx 3 x37_117 x38_118)) fun x39_119 =>
 oB (gq x34_115 true (oLdN 3 h114 x39_119)) fun x40_120 =>
 oB (gq x34_115 true (some y0_113)) fun x41_121 =>
 oB (gq x34_115 true (some y1_113)) fun x42_122 =>
 oB (gq x34_115 true (oIx 3 x41_121 x42_122)) fun x43_123 =>
 oB (gq x34_115 true (oLdN 3 h114 x43_123)) fun x44_124 =>
 oP (gw x34_115 true (wOf (.callV (.c x36_116) [(.c x40_120), (.c x44_124)]) call .e h114) h114) fun x45_125 h125 =>
 oB (gq x34_115 true (bLt x45_125 (I 0))) fun x46_126 =>
 oB (oPick x34_115 x46_126 (.bool false)) fun x47_127 =>
 ci x47_127 (
 jnF 5 (fun z13_128 z12_128 z4_128 z1_128 z0_128 h128 =>
 f113 z13_128 z12_128 z4_128 z1_128 z0_128 h128) fun j128 =>
 oB (bAdd y12_113 (I 1)) fun x49_129 =>
 j128 y13_113 x49_129 y4_113 y1_113 y0_113 h125) (
 j11 y13_113 y12_113 y4_113 y1_113 y0_113 h125)) x31_10 x29_9 x4 x1 x0 h8
theorem o_slices_partitionCmpFunc_api_Diag : FnOK Tryz.prog n_slices_partitionCmpFunc_api_Diag (a5 f_slices_partitionCmpFunc_api_Diag) := ok5 mixed Tryz.func182 (by kernel_rfl)
/- math/bits.Len32 -/
noncomputable def f_math_bits_Len32 (n : Nat) (call : Caller)  (x0 : AV) (h : AH) : Ans :=
 oB (bGe x0 (.int .u32 65536)) fun x4_0 =>
 jnF 2 (fun z2_1 z0_1 h1 =>
 oB (bGe z0_1 (.int .u32 256)) fun x8_2 =>
 jnF 2 (fun z2_3 z0_3 h3 =>
 oB (oInt .u8 z0_3) fun x15_4 =>
 oB (oIxS (.str [0, 1, 2, 2, 3, 3, 3, 3, 4, 4, 4, 4, 4, 4, 4, 4, 5, 5, 5, 5, 5, 5, 5, 5, 5, 5, 5, 5, 5, 5, 5, 5, 6, 6, 6, 6, 6, 6, 6, 6, 6, 6, 6, 6, 6, 6, 6, 6, 6, 6, 6, 6, 6, 6, 6, 6, 6, 6, 6, 6, 6, 6, 6, 6, 7, 7, 7, 7, 7, 7, 7, 7, 7, 7, 7, 7, 7, 7, 7, 7, 7, 7, 7, 7, 7, 7, 7, 7, 7, 7, 7, 7, 7, 7, 7, 7, 7, 7, 7, 7, 7, 7, 7, 7, 7, 7, 7, 7, 7, 7, 7, 7, 7, 7, 7, 7, 7, 7, 7, 7, 7, 7, 7, 7, 7, 7, 7, 7, 8, 8, 8, 8, 8, 8, 8, 8, 8, 8, 8, 8, 8, 8, 8, 8, 8, 8, 8, 8, 8, 8, 8, 8, 8, 8, 8, 8, 8, 8, 8, 8, 8, 8, 8, 8, 8, 8, 8, 8, 8, 8, 8, 8, 8, 8, 8, 8, 8, 8, 8, 8, 8, 8, 8, 8, 8, 8, 8, 8, 8, 8, 8, 8, 8, 8, 8, 8, 8, 8, 8, 8, 8, 8, 8, 8, 8, 8, 8, 8, 8, 8, 8, 8, 8, 8, 8, 8, 8, 8, 8, 8, 8, 8, 8, 8, 8, 8, 8, 8, 8, 8, 8, 8, 8, 8, 8, 8, 8, 8, 8, 8, 8, 8, 8, 8, 8, 8, 8, 8, 8, 8, 8, 8, 8, 8, 8, 8]) x15_4) fun x16_5 =>
 oB (oInt .i64 x16_5) fun x17_6 =>
 oB (bAdd z2_3 x17_6) fun x18_7 =>
 some (x18_7, h3)) fun j3 =>
 ci x8_2 (
 oB (binAV .shr .no z0_1 (.int .u64 8)) fun x10_8 =>
 oB (bAdd z2_1 (I 8)) fun x12_9 =>
 j3 x12_9 x10_8 h1) (
 j3 z2_1 z0_1 h1)) fun j1 =>
 ci x4_0 (
 oB (binAV .shr .no x0 (.int .u64 16)) fun x6_10 =>
 j1 (I 16) x6_10 h) (
 j1 (I 0) x0 h)
theorem o_math_bits_Len32 : FnOK Tryz.prog n_math_bits_Len32 (a1 f_math_bits_Len32) := ok1 mixed Tryz.func183 (by kernel_rfl)
/- math/bits.Len64 -/
noncomputable def f_math_bits_Len64 (n : Nat) (call : Caller)  (x0 : AV) (h : AH) : Ans :=
 oB (bGe x0 (.int .u64 4294967296)) fun x4_0 =>
 jnF 2 (fun z2_1 z0_1 h1 =>
 oB (bGe z0_1 (.int .u64 65536)) fun x8_2 =>
 jnF 2 (fun z2_3 z0_3 h3 =>
 oB (bGe z0_3 (.int .u64 256)) fun x14_4 =>
 jnF 2 (fun z2_5 z0_5 h5 =>
 oB (oInt .u8 z0_5) fun x21_6 =>
 oB (oIxS (.str [0, 1, 2, 2, 3, 3, 3, 3, 4, 4, 4, 4, 4, 4, 4, 4, 5, 5, 5, 5, 5, 5, 5, 5, 5, 5, 5, 5, 5, 5, 5, 5, 6, 6, 6, 6, 6, 6, 6, 6, 6, 6, 6, 6, 6, 6, 6, 6, 6, 6, 6, 6, 6, 6, 6, 6, 6, 6, 6, 6, 6, 6, 6, 6, 7, 7, 7, 7, 7, 7, 7, 7, 7, 7, 7, 7, 7, 7, 7, 7, 7, 7, 7, 7, 7, 7, 7, 7, 7, 7, 7, 7, 7, 7, 7, 7, 7, 7, 7, 7, 7, 7, 7, 7, 7, 7, 7, 7, 7, 7, 7, 7, 7, 7, 7, 7, 7, 7, 7, 7, 7, 7, 7, 7, 7, 7, 7, 7, 8, 8, 8, 8, 8, 8, 8, 8, 8, 8, 8, 8, 8, 8, 8, 8, 8, 8, 8, 8, 8, 8, 8, 8, 8, 8, 8, 8, 8, 8, 8, 8, 8, 8, 8, 8, 8, 8, 8, 8, 8, 8, 8, 8, 8, 8, 8, 8, 8, 8, 8, 8, 8, 8, 8, 8, 8, 8, 8, 8, 8, 8, 8, 8, 8, 8, 8, 8, 8, 8, 8, 8, 8, 8, 8, 8, 8, 8, 8, 8, 8, 8, 8, 8, 8, 8, 8, 8, 8, 8, 8, 8, 8, 8, 8, 8, 8, 8, 8, 8, 8, 8, 8, 8, 8, 8, 8, 8, 8, 8, 8, 8, 8, 8, 8, 8, 8, 8, 8, 8, 8, 8, 8, 8, 8, 8, 8, 8]) x21_6) fun x22_7 =>
 oB (oInt .i64 x22_7) fun x23_8 =>
 oB (bAdd z2_5 x23_8) fun x24_9 =>
 some (x24_9, h5)) fun j5 =>
 ci x14_4 (
 oB (binAV .shr .no z0_3 (.int .u64 8)) fun x16_10 =>
 oB (bAdd z2_3 (I 8)) fun x18_11 =>
 j5 x18_11 x16_10 h3) (
 j5 z2_3 z0_3 h3)) fun j3 =>
 ci x8_2 (
 oB (binAV .shr .no z0_1 (.int .u64 16)) fun x10_12 =>
 oB (bAdd z2_1 (I 16)) fun x12_13 =>
 j3 x12_13 x10_12 h1) (
 j3 z2_1 z0_1 h1)) fun j1 =>
 ci x4_0 (
 oB (binAV .shr .no x0 (.int .u64 32)) fun x6_14 =>
 j1 (I 32) x6_14 h) (
 j1 (I 0) x0 h)
theorem o_math_bits_Len64 : FnOK Tryz.prog n_math_bits_Len64 (a1 f_math_bits_Len64) := ok1 mixed Tryz.func184 (by kernel_rfl)
/- slices.insertionSortCmpFunc[corrector/api.Edit] -/
noncomputable def f_slices_insertionSortCmpFunc_api_Edit (n : Nat) (call : Caller)  (x0 x1 x2 x3 : AV) (h : AH) : Ans :=
 oB (bAdd x1 (I 1)) fun x11_0 =>
 jnF 0 (fun h1 =>
 some (.tup [], h1)) fun j1 =>
 lpF 5 n (fun f2 y8_2 y3_2 y2_2 y1_2 y0_2 h2 =>
 oB (bLt y8_2 y2_2) fun x14_3 =>
 ci x14_3 (
 jnF 5 (fun z8_4 z3_4 z2_4 z1_4 z0_4 h4 =>
 oB (bAdd z8_4 (I 1)) fun x16_5 =>
 f2 x16_5 z3_4 z2_4 z1_4 z0_4 h4) fun j4 =>
 jnF 5 (fun z8_6 z3_6 z2_6 z1_6 z0_6 h6 =>
 j4 z8_6 z3_6 z2_6 z1_6 z0_6 h6) fun j6 =>
 lpF 6 n (fun f7 y9_7 y8_7 y3_7 y2_7 y1_7 y0_7 h7 =>
 oB' (nx 17 h7) fun h8 =>
 oB (bGt y9_7 y1_7) fun x20_9 =>
 oB (gq x20_9 true (some y3_7)) fun x22_10 =>
 oB (gq x20_9 true (some y0_7)) fun x23_11 =>
 oB (gq x20_9 true (some y9_7)) fun x24_12 =>
 oB (gq x20_9 true (oIx 3 x23_11 x24_12)) fun x25_13 =>
 oB (gq x20_9 true (oLdN 3 h8 x25_13)) fun x26_14 =>
 oB (gq x20_9 true (some y0_7)) fun x27_15 =>
 oB (gq x20_9 true (some y9_7)) fun x28_16 =>
 oB (gq x20_9 true (bSub x28_16 (I 1))) fun x29_17 =>
 oB (gq x20_9 true (oIx 3 x27_15 x29_17)) fun x30_18 =>
 oB (gq x20_9 true (oLdN 3 h8 x30_18)) fun x31_19 =>
 oP (gw x20_9 true (wOf (.callV (.c x22_10) [(.c x26_14), (.c x31_19)]) call .e h8) h8) fun x32_20 h20 =>
 oB (gq x20_9 true (bLt x32_20 (I 0))) fun x33_21 =>
 oB (oPick x20_9 x33_21 (.bool false)) fun x34_22 =>
 ci x34_22 (
 jnF 6 (fun z9_23 z8_23 z3_23 z2_23 z1_23 z0_23 h23 =>
 oB (bSub z9_23 (I 1)) fun x36_24 =>
 f7 x36_24 z8_23 z3_23 z2_23 z1_23 z0_23 h23) fun j23 =>
 oB' (nx 18 h20) fun h25 =>
 oB (bSub y9_7 (I 1)) fun x41_26 =>
 oB (bSub y9_7 (I 1)) fun x44_27 =>
 oB (oIx 3 y0_7 x44_27) fun x45_28 =>
 oB (oLdN 3 h25 x45_28) fun x46_29 =>
 oB (oIx 3 y0_7 y9_7) fun x49_30 =>
 oB (oLdN 3 h25 x49_30) fun x50_31 =>
 oB (oIx 3 y0_7 y9_7) fun x51_32 =>
 oP (oSt 3 h25 x51_32 x46_29) fun _ h33 =>
 oB (oIx 3 y0_7 x41_26) fun x52_34 =>
 oP (oSt 3 h33 x52_34 x50_31) fun _ h35 =>
 j23 y9_7 y8_7 y3_7 y2_7 y1_7 y0_7 h35) (
 j6 y8_7 y3_7 y2_7 y1_7 y0_7 h20)) y8_2 y8_2 y3_2 y2_2 y1_2 y0_2 h2) (
 j1 h2)) x11_0 x3 x2 x1 x0 h
theorem o_slices_insertionSortCmpFunc_api_Edit : FnOK Tryz.prog n_slices_insertionSortCmpFunc_api_Edit (a4 f_slices_insertionSortCmpFunc_api_Edit) := ok4 mixed Tryz.func185 (by kernel_rfl)
/- slices.symMergeCmpFunc[corrector/api.Edit] -/
noncomputable def f_slices_symMergeCmpFunc_api_Edit (n : Nat) (call : Caller)  (x0 x1 x2 x3 x4 : AV) (h : AH) : Ans :=
 oB (bSub x2 x1) fun x27_0 =>
 oB (bEq .no x27_0 (I 1)) fun x28_1 =>
 ci x28_1 (
 jnF 3 (fun z10_2 z1_2 z0_2 h2 =>
 jnF 0 (fun h3 =>
 some (.tup [], h3)) fun j3 =>
 lpF 3 n (fun f4 y13_4 y10_4 y0_4 h4 =>
 oB (bSub y10_4 (I 1)) fun x57_5 =>
 oB (bLt y13_4 x57_5) fun x58_6 =>
 ci x58_6 (
 jnF 3 (fun z13_7 z10_7 z0_7 h7 =>
 oB (bAdd z13_7 (I 1)) fun x60_8 =>
 f4 x60_8 z10_7 z0_7 h7) fun j7 =>
 oB' (nx 18 h4) fun h9 =>
 oB (bAdd y13_4 (I 1)) fun x65_10 =>
 oB (bAdd y13_4 (I 1)) fun x68_11 =>
 oB (oIx 3 y0_4 x68_11) fun x69_12 =>
 oB (oLdN 3 h9 x69_12) fun x70_13 =>
 oB (oIx 3 y0_4 y13_4) fun x73_14 =>
 oB (oLdN 3 h9 x73_14) fun x74_15 =>
 oB (oIx 3 y0_4 y13_4) fun x75_16 =>
 oP (oSt 3 h9 x75_16 x70_13) fun _ h17 =>
 oB (oIx 3 y0_4 x65_10) fun x76_18 =>
 oP (oSt 3 h17 x76_18 x74_15) fun _ h19 =>
 j7 y13_4 y10_4 y0_4 h19) (
 j3 h4)) z1_2 z10_2 z0_2 h2) fun j2 =>
 lpF 5 n (fun f20 y11_20 y10_20 y4_20 y1_20 y0_20 h20 =>
 oB (bLt y10_20 y11_20) fun x33_21 =>
 ci x33_21 (
 jnF 5 (fun z11_22 z10_22 z4_22 z1_22 z0_22 h22 =>
 f20 z11_22 z10_22 z4_22 z1_22 z0_22 h22) fun j22 =>
 oB (bAdd y10_20 y11_20) fun x36_23 =>
 oB (oInt .u64 x36_23) fun x37_24 =>
 oB (binAV .shr .no x37_24 (.int .u64 1)) fun x38_25 =>
 oB (oInt .i64 x38_25) fun x39_26 =>
 oB' (nx 11 h20) fun h27 =>
 oB (oIx 3 y0_20 x39_26) fun x43_28 =>
 oB (oLdN 3 h27 x43_28) fun x44_29 =>
 oB (oIx 3 y0_20 y1_20) fun x47_30 =>
 oB (oLdN 3 h27 x47_30) fun x48_31 =>
 oP (wOf (.callV (.c y4_20) [(.c x44_29), (.c x48_31)]) call .e h27) fun x49_32 h32 =>
 oB (bLt x49_32 (I 0)) fun x50_33 =>
 jnF 5 (fun z11_34 z10_34 z4_34 z1_34 z0_34 h34 =>
 j22 z11_34 z10_34 z4_34 z1_34 z0_34 h34) fun j34 =>
 ci x50_33 (
 oB (bAdd x39_26 (I 1)) fun x52_35 =>
 j34 y11_20 x52_35 y4_20 y1_20 y0_20 h32) (
 j34 x39_26 y10_20 y4_20 y1_20 y0_20 h32)) (
 j2 y10_20 y1_20 y0_20 h20)) x3 x2 x4 x1 x0 h) (
 oB (bSub x3 x2) fun x79_36 =>
 oB (bEq .no x79_36 (I 1)) fun x80_37 =>
 ci x80_37 (
 jnF 3 (fun z14_38 z2_38 z0_38 h38 =>
 jnF 0 (fun h39 =>
 some (.tup [], h39)) fun j39 =>
 lpF 3 n (fun f40 y17_40 y14_40 y0_40 h40 =>
 oB (bGt y17_40 y14_40) fun x110_41 =>
 ci x110_41 (
 jnF 3 (fun z17_42 z14_42 z0_42 h42 =>
 oB (bSub z17_42 (I 1)) fun x112_43 =>
 f40 x112_43 z14_42 z0_42 h42) fun j42 =>
 oB' (nx 18 h40) fun h44 =>
 oB (bSub y17_40 (I 1)) fun x117_45 =>
 oB (bSub y17_40 (I 1)) fun x120_46 =>
 oB (oIx 3 y0_40 x120_46) fun x121_47 =>
 oB (oLdN 3 h44 x121_47) fun x122_48 =>
 oB (oIx 3 y0_40 y17_40) fun x125_49 =>
 oB (oLdN 3 h44 x125_49) fun x126_50 =>
 oB (oIx 3 y0_40 y17_40) fun x127_51 =>
 oP (oSt 3 h44 x127_51 x122_48) fun _ h52 =>
 oB (oIx 3 y0_40 x117_45) fun x128_53 =>
 oP (oSt 3 h52 x128_53 x126_50) fun _ h54 =>
 j42 y17_40 y14_40 y0_40 h54) (
 j39 h40)) z2_38 z14_38 z0_38 h38) fun j38 =>
 lpF 5 n (fun f55 y15_55 y14_55 y4_55 y2_55 y0_55 h55 =>
 oB (bLt y14_55 y15_55) fun x85_56 =>
 ci x85_56 (
 jnF 5 (fun z15_57 z14_57 z4_57 z2_57 z0_57 h57 =>
 f55 z15_57 z14_57 z4_57 z2_57 z0_57 h57) fun j57 =>
 oB (bAdd y14_55 y15_55) fun x88_58 =>
 oB (oInt .u64 x88_58) fun x89_59 =>
 oB (binAV .shr .no x89_59 (.int .u64 1)) fun x90_60 =>
 oB (oInt .i64 x90_60) fun x91_61 =>
 oB' (nx 12 h55) fun h62 =>
 oB (oIx 3 y0_55 y2_55) fun x95_63 =>
 oB (oLdN 3 h62 x95_63) fun x96_64 =>
 oB (oIx 3 y0_55 x91_61) fun x99_65 =>
 oB (oLdN 3 h62 x99_65) fun x100_66 =>
 oP (wOf (.callV (.c y4_55) [(.c x96_64), (.c x100_66)]) call .e h62) fun x101_67 h67 =>
 oB (bLt x101_67 (I 0)) fun x102_68 =>
 oB (evQ (.un .not (.c x102_68)) .e h67) fun x103_69 =>
 jnF 5 (fun z15_70 z14_70 z4_70 z2_70 z0_70 h70 =>
 j57 z15_70 z14_70 z4_70 z2_70 z0_70 h70) fun j70 =>
 ci x103_69 (
 oB (bAdd x91_61 (I 1)) fun x105_71 =>
 j70 y15_55 x105_71 y4_55 y2_55 y0_55 h67) (
 j70 x91_61 y14_55 y4_55 y2_55 y0_55 h67)) (
 j38 y14_55 y2_55 y0_55 h55)) x2 x1 x4 x2 x0 h) (
 oB (bAdd x1 x3) fun x131_72 =>
 oB (oInt .u64 x131_72) fun x132_73 =>
 oB (binAV .shr .no x132_73 (.int .u64 1)) fun x133_74 =>
 oB (oInt .i64 x133_74) fun x134_75 =>
 oB (bAdd x134_75 x2) fun x137_76 =>
 oB (bGt x2 x134_75) fun x140_77 =>
 jnF 9 (fun z21_78 z20_78 z19_78 z18_78 z4_78 z3_78 z2_78 z1_78 z0_78 h78 =>
 oB (bSub z19_78 (I 1)) fun x148_79 =>
 jnF 8 (fun z20_80 z19_80 z18_80 z4_80 z3_80 z2_80 z1_80 z0_80 h80 =>
 oB (bSub z19_80 z20_80) fun x177_81 =>
 oB (bLt z20_80 z2_80) fun x180_82 =>
 oB (gq x180_82 true (some z2_80)) fun x182_83 =>
 oB (gq x180_82 true (some x177_81)) fun x183_84 =>
 oB (gq x180_82 true (bLt x182_83 x183_84)) fun x184_85 =>
 oB (oPick x180_82 x184_85 (.bool false)) fun x185_86 =>
 jnF 7 (fun z24_87 z20_87 z18_87 z4_87 z3_87 z1_87 z0_87 h87 =>
 oB (bLt z1_87 z20_87) fun x194_88 =>
 oB (gq x194_88 true (some z20_87)) fun x196_89 =>
 oB (gq x194_88 true (some z18_87)) fun x197_90 =>
 oB (gq x194_88 true (bLt x196_89 x197_90)) fun x198_91 =>
 oB (oPick x194_88 x198_91 (.bool false)) fun x199_92 =>
 jnF 5 (fun z24_93 z18_93 z4_93 z3_93 z0_93 h93 =>
 oB (bLt z18_93 z24_93) fun x208_94 =>
 oB (gq x208_94 true (some z24_93)) fun x210_95 =>
 oB (gq x208_94 true (some z3_93)) fun x211_96 =>
 oB (gq x208_94 true (bLt x210_95 x211_96)) fun x212_97 =>
 oB (oPick x208_94 x212_97 (.bool false)) fun x213_98 =>
 jnF 0 (fun h99 =>
 some (.tup [], h99)) fun j99 =>
 ci x213_98 (
 oP (call n_slices_symMergeCmpFunc_api_Edit [z0_93, z18_93, z24_93, z3_93, z4_93] h93) fun x219_100 h100 =>
 j99 h100) (
 j99 h93)) fun j93 =>
 ci x199_92 (
 oP (call n_slices_symMergeCmpFunc_api_Edit [z0_87, z1_87, z20_87, z18_87, z4_87] h87) fun x205_101 h101 =>
 j93 z24_87 z18_87 z4_87 z3_87 z0_87 h101) (
 j93 z24_87 z18_87 z4_87 z3_87 z0_87 h87)) fun j87 =>
 ci x185_86 (
 oP (call n_slices_rotateCmpFunc_api_Edit [z0_80, z20_80, z2_80, x177_81, z4_80] h80) fun x191_102 h102 =>
 j87 x177_81 z20_80 z18_80 z4_80 z3_80 z1_80 z0_80 h102) (
 j87 x177_81 z20_80 z18_80 z4_80 z3_80 z1_80 z0_80 h80)) fun j80 =>
 lpF 10 n (fun f103 y22_103 y21_103 y20_103 y19_103 y18_103 y4_103 y3_103 y2_103 y1_103 y0_103 h103 =>
 oB (bLt y20_103 y21_103) fun x151_104 =>
 ci x151_104 (
 jnF 10 (fun z22_105 z21_105 z20_105 z19_105 z18_105 z4_105 z3_105 z2_105 z1_105 z0_105 h105 =>
 f103 z22_105 z21_105 z20_105 z19_105 z18_105 z4_105 z3_105 z2_105 z1_105 z0_105 h105) fun j105 =>
 oB (bAdd y20_103 y21_103) fun x154_106 =>
 oB (oInt .u64 x154_106) fun x155_107 =>
 oB (binAV .shr .no x155_107 (.int .u64 1)) fun x156_108 =>
 oB (oInt .i64 x156_108) fun x157_109 =>
 oB' (nx 14 h103) fun h110 =>
 oB (bSub y22_103 x157_109) fun x162_111 =>
 oB (oIx 3 y0_103 x162_111) fun x163_112 =>
 oB (oLdN 3 h110 x163_112) fun x164_113 =>
 oB (oIx 3 y0_103 x157_109) fun x167_114 =>
 oB (oLdN 3 h110 x167_114) fun x168_115 =>
 oP (wOf (.callV (.c y4_103) [(.c x164_113), (.c x168_115)]) call .e h110) fun x169_116 h116 =>
 oB (bLt x169_116 (I 0)) fun x170_117 =>
 oB (evQ (.un .not (.c x170_117)) .e h116) fun x171_118 =>
 jnF 10 (fun z22_119 z21_119 z20_119 z19_119 z18_119 z4_119 z3_119 z2_119 z1_119 z0_119 h119 =>
 j105 z22_119 z21_119 z20_119 z19_119 z18_119 z4_119 z3_119 z2_119 z1_119 z0_119 h119) fun j119 =>
 ci x171_118 (
 oB (bAdd x157_109 (I 1)) fun x173_120 =>
 j119 y22_103 y21_103 x173_120 y19_103 y18_103 y4_103 y3_103 y2_103 y1_103 y0_103 h116) (
 j119 y22_103 x157_109 y20_103 y19_103 y18_103 y4_103 y3_103 y2_103 y1_103 y0_103 h116)) (
 j80 y20_103 y19_103 y18_103 y4_103 y3_103 y2_103 y1_103 y0_103 h103)) x148_79 z21_78 z20_78 z19_78 z18_78 z4_78 z3_78 z2_78 z1_78 z0_78 h78) fun j78 =>
 ci x140_77 (
 oB (bSub x137_76 x3) fun x143_121 =>
 j78 x134_75 x143_121 x137_76 x134_75 x4 x3 x2 x1 x0 h) (
 j78 x2 x1 x137_76 x134_75 x4 x3 x2 x1 x0 h)))
theorem o_slices_symMergeCmpFunc_api_Edit : FnOK Tryz.prog n_slices_symMergeCmpFunc_api_Edit (a5 f_slices_symMergeCmpFunc_api_Edit) := ok5 mixed Tryz.func186 (by kernel_rfl)
/- math/bits.Mul -/
noncomputable def f_math_bits_Mul (n : Nat) (call : Caller)  (x0 x1 : AV) (h : AH) : Ans :=
 ci (.bool false) (
 oB (oInt .u32 x0) fun x12_0 =>
 oB (oInt .u32 x1) fun x14_1 =>
 oP (call n_math_bits_Mul32 [x12_0, x14_1] h) fun x15_2 h2 =>
 oB (oEx 0 x15_2) fun x16_3 =>
 oB (oEx 1 x15_2) fun x17_4 =>
 oB (oInt .u64 x16_3) fun x19_5 =>
 oB (oInt .u64 x17_4) fun x21_6 =>
 some (.tup [x19_5, x21_6], h2)) (
 oP (call n_math_bits_Mul64 [x0, x1] h) fun x25_7 h7 =>
 oB (oEx 0 x25_7) fun x26_8 =>
 oB (oEx 1 x25_7) fun x27_9 =>
 some (.tup [x26_8, x27_9], h7))
theorem o_math_bits_Mul : FnOK Tryz.prog n_math_bits_Mul (a2 f_math_bits_Mul) := ok2 mixed Tryz.func187 (by kernel_rfl)
/- strings.HasPrefix -/
noncomputable def f_strings_HasPrefix (n : Nat) (call : Caller)  (x0 x1 : AV) (h : AH) : Ans :=
 oP (call n_internal_stringslite_HasPrefix [x0, x1] h) fun x7_0 h0 =>
 some (x7_0, h0)
theorem o_strings_HasPrefix : FnOK Tryz.prog n_strings_HasPrefix (a2 f_strings_HasPrefix) := ok2 mixed Tryz.func188 (by kernel_rfl)
/- (*strings.Builder).Grow -/
noncomputable def f_strings_Builder_Grow (n : Nat) (call : Caller)  (x0 x1 : AV) (h : AH) : Ans :=
 oP (call n_strings_Builder_copyCheck [x0] h) fun x5_0 h0 =>
 oB (bLt x1 (I 0)) fun x7_1 =>
 jnF 2 (fun z1_2 z0_2 h2 =>
 oB' (nx 13 h2) fun h3 =>
 oB (oNil z0_2) fun x10_4 =>
 oB (oFA 1 x10_4) fun x11_5 =>
 oB (oLd h3 x11_5) fun x12_6 =>
 oB (evQ (.capSl (.c x12_6)) .e h3) fun x13_7 =>
 oB (oNil z0_2) fun x15_8 =>
 oB (oFA 1 x15_8) fun x16_9 =>
 oB (oLd h3 x16_9) fun x17_10 =>
 oB (oLen x17_10) fun x18_11 =>
 oB (bSub x13_7 x18_11) fun x19_12 =>
 oB (bLt x19_12 z1_2) fun x21_13 =>
 jnF 0 (fun h14 =>
 some (.tup [], h14)) fun j14 =>
 ci x21_13 (
 oP (call n_strings_Builder_grow [z0_2, z1_2] h3) fun x24_15 h15 =>
 j14 h15) (
 j14 h3)) fun j2 =>
 ci x7_1 (
 oB (some (.iface 9 (.str [115, 116, 114, 105, 110, 103, 115, 46, 66, 117, 105, 108, 100, 101, 114, 46, 71, 114, 111, 119, 58, 32, 110, 101, 103, 97, 116, 105, 118, 101, 32, 99, 111, 117, 110, 116]))) fun x8_16 =>
 oB (evQ (.bad) .e h0) fun _ =>
 j2 x1 x0 h0) (
 j2 x1 x0 h0)
theorem o_strings_Builder_Grow : FnOK Tryz.prog n_strings_Builder_Grow (a2 f_strings_Builder_Grow) := ok2 mixed Tryz.func189 (by kernel_rfl)
/- (*strings.Builder).WriteString -/
noncomputable def f_strings_Builder_WriteString (n : Nat) (call : Caller)  (x0 x1 : AV) (h : AH) : Ans :=
 oP (call n_strings_Builder_copyCheck [x0] h) fun x7_0 h0 =>
 oB (oNil x0) fun x10_1 =>
 oB (oFA 1 x10_1) fun x11_2 =>
 oB (oLd h0 x11_2) fun x12_3 =>
 oP (evW (.append 5 1 1 [(U 0)] (.c x12_3) (.c x1)) .e h0) fun x14_4 h4 =>
 oB (oNil x0) fun x15_5 =>
 oB (oFA 1 x15_5) fun x16_6 =>
 oP (oSt 1 h4 x16_6 x14_4) fun _ h7 =>
 oB (oLenS x1) fun x18_8 =>
 some (.tup [x18_8, .nili], h7)
theorem o_strings_Builder_WriteString : FnOK Tryz.prog n_strings_Builder_WriteString (a2 f_strings_Builder_WriteString) := ok2 mixed Tryz.func190 (by kernel_rfl)
/- (*strings.Builder).Len -/
noncomputable def f_strings_Builder_Len (n : Nat) (call : Caller)  (x0 : AV) (h : AH) : Ans :=
 oB (oNil x0) fun x4_0 =>
 oB (oFA 1 x4_0) fun x5_1 =>
 oB (oLd h x5_1) fun x6_2 =>
 oB (oLen x6_2) fun x7_3 =>
 some (x7_3, h)
theorem o_strings_Builder_Len : FnOK Tryz.prog n_strings_Builder_Len (a1 f_strings_Builder_Len) := ok1 mixed Tryz.func191 (by kernel_rfl)
/- (*strings.Builder).String -/
noncomputable def f_strings_Builder_String (n : Nat) (call : Caller)  (x0 : AV) (h : AH) : Ans :=
 oB' (nx 12 h) fun h0 =>
 oB (oNil x0) fun x4_1 =>
 oB (oFA 1 x4_1) fun x5_2 =>
 oB (oLd h0 x5_2) fun x6_3 =>
 oB (evQ (.uData (.c x6_3)) .e h0) fun x7_4 =>
 oB (oNil x0) fun x9_5 =>
 oB (oFA 1 x9_5) fun x10_6 =>
 oB (oLd h0 x10_6) fun x11_7 =>
 oB (oLen x11_7) fun x12_8 =>
 oP (evW (.uStr 5 (.c x7_4) (.c x12_8)) .e h0) fun x13_9 h9 =>
 some (x13_9, h9)
theorem o_strings_Builder_String : FnOK Tryz.prog n_strings_Builder_String (a1 f_strings_Builder_String) := ok1 mixed Tryz.func192 (by kernel_rfl)
/- (*corrector/suggest.mender).open$1 -/
noncomputable def f_suggest_mender_open_1 (n : Nat) (call : Caller)  (x0 x1 : AV) (h : AH) : Ans :=
 oP (oNew h 131 (AV.cells x0)) fun x2_0 h0 =>
 oB (oFA 1 x2_0) fun x4_1 =>
 oB (oLd h0 x4_1) fun x5_2 =>
 oB (oLd h0 x1) fun x6_3 =>
 oB (bEq .no x5_2 x6_3) fun x7_4 =>
 oB (gq x7_4 true (oFA 0 x2_0)) fun x9_5 =>
 oB (gq x7_4 true (oLd h0 x9_5)) fun x10_6 =>
 oB (gq x7_4 true (bEq .no x10_6 (I 8))) fun x11_7 =>
 oB (gq x7_4 true (some x11_7)) fun x12_8 =>
 oB (gq x12_8 false (oFA 0 x2_0)) fun x13_9 =>
 oB (gq x12_8 false (oLd h0 x13_9)) fun x14_10 =>
 oB (gq x12_8 false (bEq .no x14_10 (I 9))) fun x15_11 =>
 oB (gq x7_4 true (oPick x12_8 (.bool true) x15_11)) fun x16_12 =>
 oB (oPick x7_4 x16_12 (.bool false)) fun x17_13 =>
 some (x17_13, h0)
theorem o_suggest_mender_open_1 : FnOK Tryz.prog n_suggest_mender_open_1 (a2 f_suggest_mender_open_1) := ok2 mixed Tryz.func193 (by kernel_rfl)
/- corrector/suggest.counts -/
noncomputable def f_suggest_counts (n : Nat) (call : Caller)  (x0 : AV) (h : AH) : Ans :=
 oP (oNew h 131 (AV.cells x0)) fun x1_0 h0 =>
 oB (oFA 0 x1_0) fun x3_1 =>
 oB (oLd h0 x3_1) fun x4_2 =>
 jnF 0 (fun h3 =>
 some ((.bool true), h3)) fun j3 =>
 oB (bEq .no x4_2 (I 1)) fun x6_4 =>
 jnF 1 (fun z5_5 h5 =>
 ci z5_5 (
 some ((.bool false), h5)) (
 j3 h5)) fun j5 =>
 ci x6_4 (
 j5 x6_4 h0) (
 oB (bEq .no x4_2 (I 2)) fun x7_6 =>
 jnF 1 (fun z5_7 h7 =>
 j5 z5_7 h7) fun j7 =>
 ci x7_6 (
 j7 x7_6 h0) (
 oB (bEq .no x4_2 (I 3)) fun x8_8 =>
 jnF 1 (fun z5_9 h9 =>
 j7 z5_9 h9) fun j9 =>
 ci x8_8 (
 j9 x8_8 h0) (
 oB (bEq .no x4_2 (I 4)) fun x9_10 =>
 j9 x9_10 h0)))
theorem o_suggest_counts : FnOK Tryz.prog n_suggest_counts (a1 f_suggest_counts) := ok1 mixed Tryz.func194 (by kernel_rfl)
/- corrector/equal.key -/
noncomputable def f_equal_key (n : Nat) (call : Caller)  (x0 x1 : AV) (h : AH) : Ans :=
 oP (oNew h 103 (AV.cells x0)) fun x2_0 h0 =>
 oB' (nx 14 h0) fun h1 =>
 oB (oFA 0 x2_0) fun x9_2 =>
 oB (oLd h1 x9_2) fun x10_3 =>
 oP (call n_strconv_Itoa [x10_3] h1) fun x11_4 h4 =>
 oB (bAdd x11_4 (.str [32])) fun x12_5 =>
 oB (oFA 1 x2_0) fun x13_6 =>
 oB (oLd h4 x13_6) fun x14_7 =>
 oP (call n_strconv_Quote [x14_7] h4) fun x15_8 h8 =>
 oB (bAdd x12_5 x15_8) fun x16_9 =>
 oB (bAdd x16_9 (.str [32])) fun x17_10 =>
 oB (oFA 2 x2_0) fun x18_11 =>
 oB (oLd h8 x18_11) fun x19_12 =>
 oP (call n_strconv_Quote [x19_12] h8) fun x20_13 h13 =>
 oB (bAdd x17_10 x20_13) fun x21_14 =>
 ask1 true (oLd h1 x9_2) x10_3 (
 ask1 true (oLd h1 x13_6) x14_7 (
 ask1 true (oLd h4 x13_6) x14_7 (
 ask1 true (oLd h1 x18_11) x19_12 (
 ask1 true (oLd h4 x18_11) x19_12 (
 ask1 true (oLd h8 x18_11) x19_12 (
 oB (oFA 3 x2_0) fun x22_15 =>
 oB (oLd h13 x22_15) fun x23_16 =>
 oB (oLen x23_16) fun x24_17 =>
 jnF 1 (fun z5_18 h18 =>
 some (z5_18, h18)) fun j18 =>
 lpF 5 n (fun f19 y25_19 y24_19 y23_19 y5_19 y1_19 h19 =>
 oB (bLt y25_19 y24_19) fun x26_20 =>
 ci x26_20 (
 jnF 5 (fun z25_21 z24_21 z23_21 z5_21 z1_21 h21 =>
 oB (bAdd z25_21 (I 1)) fun x46_22 =>
 f19 x46_22 z24_21 z23_21 z5_21 z1_21 h21) fun j21 =>
 oB (oIx 1 y23_19 y25_19) fun x27_23 =>
 oB (oLd h19 x27_23) fun x28_24 =>
 oB (bGe x28_24 (I 0)) fun x30_25 =>
 oB (gq x30_25 true (some x28_24)) fun x32_26 =>
 oB (gq x30_25 true (some y1_19)) fun x33_27 =>
 oB (gq x30_25 true (oLen x33_27)) fun x34_28 =>
 oB (gq x30_25 true (bLt x32_26 x34_28)) fun x35_29 =>
 oB (oPick x30_25 x35_29 (.bool false)) fun x36_30 =>
 jnF 6 (fun z25_31 z24_31 z23_31 z8_31 z5_31 z1_31 h31 =>
 oP (call n_strconv_Itoa [z8_31] h31) fun x43_32 h32 =>
 oB (bAdd (.str [32]) x43_32) fun x44_33 =>
 oB (bAdd z5_31 x44_33) fun x45_34 =>
 j21 z25_31 z24_31 z23_31 x45_34 z1_31 h32) fun j31 =>
 ci x36_30 (
 oB (oIx 1 y1_19 x28_24) fun x39_35 =>
 oB (oLd h19 x39_35) fun x40_36 =>
 j31 y25_19 y24_19 y23_19 x40_36 y5_19 y1_19 h19) (
 j31 y25_19 y24_19 y23_19 (Ineg 0) y5_19 y1_19 h19)) (
 j18 y5_19 h19)) (I 0) x24_17 x23_16 x21_14 x1 h13))))))
theorem o_equal_key : FnOK Tryz.prog n_equal_key (a2 f_equal_key) := ok2 mixed Tryz.func195 (by kernel_rfl)
/- corrector/walk.ends -/
noncomputable def f_walk_ends (n : Nat) (call : Caller)  (x0 x1 x2 : AV) (h : AH) : Ans :=
 jnF 0 (fun h0 =>
 oB (some (.iface 3 (I 0))) fun x61_1 =>
 some (x61_1, h0)) fun j0 =>
 oB (bLt x1 x2) fun x10_2 =>
 oB (gq x10_2 true (some x1)) fun x12_3 =>
 oB (gq x10_2 true (bGe x12_3 (I 0))) fun x13_4 =>
 oB (oPick x10_2 x13_4 (.bool false)) fun x14_5 =>
 oB (gq x14_5 true (some x2)) fun x16_6 =>
 oB (gq x14_5 true (some x0)) fun x17_7 =>
 oB (gq x14_5 true (oLen x17_7)) fun x18_8 =>
 oB (gq x14_5 true (bLe x16_6 x18_8)) fun x19_9 =>
 oB (oPick x14_5 x19_9 (.bool false)) fun x20_10 =>
 ci x20_10 (
 oB' (nx 14 h) fun h11 =>
 oB (oIx 3 x0 x1) fun x23_12 =>
 oB (oFA 1 x23_12) fun x24_13 =>
 oB (oLd h11 x24_13) fun x25_14 =>
 oB (bSub x2 (I 1)) fun x28_15 =>
 oB (oIx 3 x0 x28_15) fun x29_16 =>
 oB (oFA 2 x29_16) fun x30_17 =>
 oB (oLd h11 x30_17) fun x31_18 =>
 oB (oBuild [(I 0), (I 0)] [(0, 1, x25_14), (1, 1, x31_18)]) fun x32_19 =>
 oB (some (.iface 145 x32_19)) fun x33_20 =>
 some (x33_20, h11)) (
 oB (bGe x1 (I 0)) fun x36_21 =>
 oB (gq x36_21 true (some x1)) fun x38_22 =>
 oB (gq x36_21 true (some x0)) fun x39_23 =>
 oB (gq x36_21 true (oLen x39_23)) fun x40_24 =>
 oB (gq x36_21 true (bLt x38_22 x40_24)) fun x41_25 =>
 oB (oPick x36_21 x41_25 (.bool false)) fun x42_26 =>
 ci x42_26 (
 oB (oIx 3 x0 x1) fun x45_27 =>
 oB (oFA 1 x45_27) fun x46_28 =>
 oB (oLd h x46_28) fun x47_29 =>
 oB (some (.iface 3 x47_29)) fun x48_30 =>
 some (x48_30, h)) (
 oB (oLen x0) fun x51_31 =>
 oB (bGt x51_31 (I 0)) fun x52_32 =>
 ci x52_32 (
 oB (oLen x0) fun x55_33 =>
 oB (bSub x55_33 (I 1)) fun x56_34 =>
 oB (oIx 3 x0 x56_34) fun x57_35 =>
 oB (oFA 2 x57_35) fun x58_36 =>
 oB (oLd h x58_36) fun x59_37 =>
 oB (some (.iface 3 x59_37)) fun x60_38 =>
 some (x60_38, h)) (
 j0 h)))
theorem o_walk_ends : FnOK Tryz.prog n_walk_ends (a3 f_walk_ends) := ok3 mixed Tryz.func196 (by kernel_rfl)
/- slices.pdqsortOrdered[int] -/
noncomputable def f_slices_pdqsortOrdered_int (n : Nat) (call : Caller)  (x0 x1 x2 x3 : AV) (h : AH) : Ans :=
 jnF 0 (fun h0 =>
 some (.tup [], h0)) fun j0 =>
 lpF 6 n (fun f1 y9_1 y8_1 y3_1 y2_1 y1_1 y0_1 h1 =>
 jnF 6 (fun z9_2 z8_2 z3_2 z2_2 z1_2 z0_2 h2 =>
 f1 z9_2 z8_2 z3_2 z2_2 z1_2 z0_2 h2) fun j2 =>
 oB (bSub y2_1 y1_1) fun x21_3 =>
 oB (bLe x21_3 (I 12)) fun x23_4 =>
 ci x23_4 (
 oP (call n_slices_insertionSortOrdered_int [y0_1, y1_1, y2_1] h1) fun x27_5 h5 =>
 some (.tup [], h5)) (
 oB (bEq .no y3_1 (I 0)) fun x29_6 =>
 ci x29_6 (
 oP (call n_slices_heapSortOrdered_int [y0_1, y1_1, y2_1] h1) fun x33_7 h7 =>
 some (.tup [], h7)) (
 oB (evQ (.un .not (.c y8_1)) .e h1) fun x35_8 =>
 jnF 7 (fun z10_9 z9_9 z8_9 z3_9 z2_9 z1_9 z0_9 h9 =>
 oP (call n_slices_choosePivotOrdered_int [z0_9, z1_9, z2_9] h9) fun x46_10 h10 =>
 oB (oEx 0 x46_10) fun x47_11 =>
 oB (oEx 1 x46_10) fun x48_12 =>
 oB (bEq .no x48_12 (I 2)) fun x50_13 =>
 jnF 9 (fun z12_14 z11_14 z10_14 z9_14 z8_14 z3_14 z2_14 z1_14 z0_14 h14 =>
 oB (gq z8_14 true (some z9_14)) fun x63_15 =>
 oB (oPick z8_14 x63_15 (.bool false)) fun x64_16 =>
 oB (gq x64_16 true (some z12_14)) fun x66_17 =>
 oB (gq x64_16 true (bEq .no x66_17 (I 1))) fun x67_18 =>
 oB (oPick x64_16 x67_18 (.bool false)) fun x68_19 =>
 jnF 8 (fun z11_20 z10_20 z9_20 z8_20 z3_20 z2_20 z1_20 z0_20 h20 =>
 oB' (nx 15 h20) fun h21 =>
 oB (bGt z1_20 (I 0)) fun x74_22 =>
 oB (gq x74_22 true (some z0_20)) fun x76_23 =>
 oB (gq x74_22 true (some z1_20)) fun x77_24 =>
 oB (gq x74_22 true (bSub x77_24 (I 1))) fun x78_25 =>
 oB (gq x74_22 true (oIx 1 x76_23 x78_25)) fun x79_26 =>
 oB (gq x74_22 true (oLd h21 x79_26)) fun x80_27 =>
 oB (gq x74_22 true (some z0_20)) fun x81_28 =>
 oB (gq x74_22 true (some z11_20)) fun x82_29 =>
 oB (gq x74_22 true (oIx 1 x81_28 x82_29)) fun x83_30 =>
 oB (gq x74_22 true (oLd h21 x83_30)) fun x84_31 =>
 oP (gw x74_22 true (call n_cmp_Less_int [x80_27, x84_31] h21) h21) fun x85_32 h32 =>
 oB (gq x74_22 true (evQ (.un .not (.c x85_32)) .e h32)) fun x86_33 =>
 oB (oPick x74_22 x86_33 (.bool false)) fun x87_34 =>
 ci x87_34 (
 oP (call n_slices_partitionEqualOrdered_int [z0_20, z1_20, z2_20, z11_20] h32) fun x92_35 h35 =>
 j2 z9_20 z8_20 z3_20 z2_20 x92_35 z0_20 h35) (
 oP (call n_slices_partitionOrdered_int [z0_20, z1_20, z2_20, z11_20] h32) fun x99_36 h36 =>
 oB (oEx 0 x99_36) fun x100_37 =>
 oB (oEx 1 x99_36) fun x101_38 =>
 oB (bSub x100_37 z1_20) fun x105_39 =>
 oB (bSub z2_20 x100_37) fun x108_40 =>
 oB (binAV .quo .no z10_20 (I 8)) fun x110_41 =>
 oB (bLt x105_39 x108_40) fun x113_42 =>
 jnF 6 (fun z9_43 z8_43 z3_43 z2_43 z1_43 z0_43 h43 =>
 j2 z9_43 z8_43 z3_43 z2_43 z1_43 z0_43 h43) fun j43 =>
 ci x113_42 (
 oB (bGe x105_39 x110_41) fun x116_44 =>
 oP (call n_slices_pdqsortOrdered_int [z0_20, z1_20, x100_37, z3_20] h36) fun x121_45 h45 =>
 oB (bAdd x100_37 (I 1)) fun x123_46 =>
 j43 x101_38 x116_44 z3_20 z2_20 x123_46 z0_20 h45) (
 oB (bGe x108_40 x110_41) fun x126_47 =>
 oB (bAdd x100_37 (I 1)) fun x129_48 =>
 oP (call n_slices_pdqsortOrdered_int [z0_20, x129_48, z2_20, z3_20] h36) fun x132_49 h49 =>
 j43 x101_38 x126_47 z3_20 x100_37 z1_20 z0_20 h49))) fun j20 =>
 ci x68_19 (
 oP (call n_slices_partialInsertionSortOrdered_int [z0_14, z1_14, z2_14] h14) fun x72_50 h50 =>
 ci x72_50 (
 some (.tup [], h50)) (
 j20 z11_14 z10_14 z9_14 z8_14 z3_14 z2_14 z1_14 z0_14 h50)) (
 j20 z11_14 z10_14 z9_14 z8_14 z3_14 z2_14 z1_14 z0_14 h14)) fun j14 =>
 ci x50_13 (
 oP (call n_slices_reverseRangeOrdered_int [z0_9, z1_9, z2_9] h10) fun x54_51 h51 =>
 oB (bSub z2_9 (I 1)) fun x56_52 =>
 oB (bSub x47_11 z1_9) fun x59_53 =>
 oB (bSub x56_52 x59_53) fun x60_54 =>
 j14 (I 1) x60_54 z10_9 z9_9 z8_9 z3_9 z2_9 z1_9 z0_9 h51) (
 j14 x48_12 x47_11 z10_9 z9_9 z8_9 z3_9 z2_9 z1_9 z0_9 h10)) fun j9 =>
 ci x35_8 (
 oP (call n_slices_breakPatternsOrdered_int [y0_1, y1_1, y2_1] h1) fun x39_55 h55 =>
 oB (bSub y3_1 (I 1)) fun x41_56 =>
 j9 x21_3 y9_1 y8_1 x41_56 y2_1 y1_1 y0_1 h55) (
 j9 x21_3 y9_1 y8_1 y3_1 y2_1 y1_1 y0_1 h1)))) (.bool true) (.bool true) x3 x2 x1 x0 h
theorem o_slices_pdqsortOrdered_int : FnOK Tryz.prog n_slices_pdqsortOrdered_int (a4 f_slices_pdqsortOrdered_int) := ok4 mixed Tryz.func197 (by kernel_rfl)
end Go.Proofs.YtahpoedbdhhdfaaGreatDoor
