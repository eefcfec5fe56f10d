/- Functions, as they run. PRINTED by a program of this repo. -/
import Derived.Test.YtmlhpcflphlgdaaGreatDoorN
import Derived.Test.YtmlhpcflphlgdaaGreatDoorM
set_option linter.unusedVariables false
set_option maxRecDepth 100000
namespace Go.Proofs.YtmlhpcflphlgdaaGreatDoor
open Go.Ev
/- slices.partialInsertionSortCmpFunc[corrector/api.Diag] -/
noncomputable def f_slices_partialInsertionSortCmpFunc_api_Diag (n : Nat) (call : Caller)  (x0 x1 x2 x3 : AV) (h : AH) : Ans :=
 oB (bAdd x1 (I 1)) fun x14_0 =>
 jnF 0 (fun h1 =>
 some ((.bool false), h1)) fun j1 =>
 lpF 6 n (fun f2 y10_2 y9_2 y3_2 y2_2 y1_2 y0_2 h2 =>
 oB (bLt y10_2 (I 5)) fun x16_3 =>
 ci x16_3 (
 jnF 6 (fun z10_4 z9_4 z3_4 z2_4 z1_4 z0_4 h4 =>
 oB (bAdd z10_4 (I 1)) fun x18_5 =>
 f2 x18_5 z9_4 z3_4 z2_4 z1_4 z0_4 h4) fun j4 =>
 jnF 6 (fun z10_6 z9_6 z3_6 z2_6 z1_6 z0_6 h6 =>
 oB (bEq .no z9_6 z2_6) fun x41_7 =>
 ci x41_7 (
 some ((.bool true), h6)) (
 oB (bSub z2_6 z1_6) fun x44_8 =>
 oB (bLt x44_8 (I 50)) fun x45_9 =>
 ci x45_9 (
 some ((.bool false), h6)) (
 oB' (nx 18 h6) fun h10 =>
 oB (bSub z9_6 (I 1)) fun x50_11 =>
 oB (bSub z9_6 (I 1)) fun x53_12 =>
 oB (oIx 3 z0_6 x53_12) fun x54_13 =>
 oB (oLdN 3 h10 x54_13) fun x55_14 =>
 oB (oIx 3 z0_6 z9_6) fun x58_15 =>
 oB (oLdN 3 h10 x58_15) fun x59_16 =>
 oB (oIx 3 z0_6 z9_6) fun x60_17 =>
 oP (oSt 3 h10 x60_17 x55_14) fun _ h18 =>
 oB (oIx 3 z0_6 x50_11) fun x61_19 =>
 oP (oSt 3 h18 x61_19 x59_16) fun _ h20 =>
 oB (bSub z9_6 z1_6) fun x64_21 =>
 oB (bGe x64_21 (I 2)) fun x65_22 =>
 jnF 6 (fun z10_23 z9_23 z3_23 z2_23 z1_23 z0_23 h23 =>
 oB (bSub z2_23 z9_23) fun x103_24 =>
 oB (bGe x103_24 (I 2)) fun x104_25 =>
 jnF 6 (fun z10_26 z9_26 z3_26 z2_26 z1_26 z0_26 h26 =>
 j4 z10_26 z9_26 z3_26 z2_26 z1_26 z0_26 h26) fun j26 =>
 ci x104_25 (
 oB (bAdd z9_23 (I 1)) fun x106_27 =>
 jnF 6 (fun z10_28 z9_28 z3_28 z2_28 z1_28 z0_28 h28 =>
 j26 z10_28 z9_28 z3_28 z2_28 z1_28 z0_28 h28) fun j28 =>
 lpF 7 n (fun f29 y12_29 y10_29 y9_29 y3_29 y2_29 y1_29 y0_29 h29 =>
 oB (bLt y12_29 y2_29) fun x109_30 =>
 ci x109_30 (
 jnF 7 (fun z12_31 z10_31 z9_31 z3_31 z2_31 z1_31 z0_31 h31 =>
 oB (bAdd z12_31 (I 1)) fun x111_32 =>
 f29 x111_32 z10_31 z9_31 z3_31 z2_31 z1_31 z0_31 h31) fun j31 =>
 oB' (nx 13 h29) fun h33 =>
 oB (oIx 3 y0_29 y12_29) fun x115_34 =>
 oB (oLdN 3 h33 x115_34) fun x116_35 =>
 oB (bSub y12_29 (I 1)) fun x119_36 =>
 oB (oIx 3 y0_29 x119_36) fun x120_37 =>
 oB (oLdN 3 h33 x120_37) fun x121_38 =>
 oP (wOf (.callV (.c y3_29) [(.c x116_35), (.c x121_38)]) call .e h33) fun x122_39 h39 =>
 oB (bLt x122_39 (I 0)) fun x123_40 =>
 oB (evQ (.un .not (.c x123_40)) .e h39) fun x124_41 =>
 ci x124_41 (
 j28 y10_29 y9_29 y3_29 y2_29 y1_29 y0_29 h39) (
 oB' (nx 18 h39) fun h42 =>
 oB (bSub y12_29 (I 1)) fun x129_43 =>
 oB (bSub y12_29 (I 1)) fun x132_44 =>
 oB (oIx 3 y0_29 x132_44) fun x133_45 =>
 oB (oLdN 3 h42 x133_45) fun x134_46 =>
 oB (oIx 3 y0_29 y12_29) fun x137_47 =>
 oB (oLdN 3 h42 x137_47) fun x138_48 =>
 oB (oIx 3 y0_29 y12_29) fun x139_49 =>
 oP (oSt 3 h42 x139_49 x134_46) fun _ h50 =>
 oB (oIx 3 y0_29 x129_43) fun x140_51 =>
 oP (oSt 3 h50 x140_51 x138_48) fun _ h52 =>
 j31 y12_29 y10_29 y9_29 y3_29 y2_29 y1_29 y0_29 h52)) (
 j28 y10_29 y9_29 y3_29 y2_29 y1_29 y0_29 h29)) x106_27 z10_23 z9_23 z3_23 z2_23 z1_23 z0_23 h23) (
 j26 z10_23 z9_23 z3_23 z2_23 z1_23 z0_23 h23)) fun j23 =>
 ci x65_22 (
 oB (bSub z9_6 (I 1)) fun x67_53 =>
 jnF 6 (fun z10_54 z9_54 z3_54 z2_54 z1_54 z0_54 h54 =>
 j23 z10_54 z9_54 z3_54 z2_54 z1_54 z0_54 h54) fun j54 =>
 lpF 7 n (fun f55 y11_55 y10_55 y9_55 y3_55 y2_55 y1_55 y0_55 h55 =>
 oB (bGe y11_55 (I 1)) fun x69_56 =>
 ci x69_56 (
 jnF 7 (fun z11_57 z10_57 z9_57 z3_57 z2_57 z1_57 z0_57 h57 =>
 oB (bSub z11_57 (I 1)) fun x71_58 =>
 f55 x71_58 z10_57 z9_57 z3_57 z2_57 z1_57 z0_57 h57) fun j57 =>
 oB' (nx 13 h55) fun h59 =>
 oB (oIx 3 y0_55 y11_55) fun x75_60 =>
 oB (oLdN 3 h59 x75_60) fun x76_61 =>
 oB (bSub y11_55 (I 1)) fun x79_62 =>
 oB (oIx 3 y0_55 x79_62) fun x80_63 =>
 oB (oLdN 3 h59 x80_63) fun x81_64 =>
 oP (wOf (.callV (.c y3_55) [(.c x76_61), (.c x81_64)]) call .e h59) fun x82_65 h65 =>
 oB (bLt x82_65 (I 0)) fun x83_66 =>
 oB (evQ (.un .not (.c x83_66)) .e h65) fun x84_67 =>
 ci x84_67 (
 j54 y10_55 y9_55 y3_55 y2_55 y1_55 y0_55 h65) (
 oB' (nx 18 h65) fun h68 =>
 oB (bSub y11_55 (I 1)) fun x89_69 =>
 oB (bSub y11_55 (I 1)) fun x92_70 =>
 oB (oIx 3 y0_55 x92_70) fun x93_71 =>
 oB (oLdN 3 h68 x93_71) fun x94_72 =>
 oB (oIx 3 y0_55 y11_55) fun x97_73 =>
 oB (oLdN 3 h68 x97_73) fun x98_74 =>
 oB (oIx 3 y0_55 y11_55) fun x99_75 =>
 oP (oSt 3 h68 x99_75 x94_72) fun _ h76 =>
 oB (oIx 3 y0_55 x89_69) fun x100_77 =>
 oP (oSt 3 h76 x100_77 x98_74) fun _ h78 =>
 j57 y11_55 y10_55 y9_55 y3_55 y2_55 y1_55 y0_55 h78)) (
 j54 y10_55 y9_55 y3_55 y2_55 y1_55 y0_55 h55)) x67_53 z10_6 z9_6 z3_6 z2_6 z1_6 z0_6 h20) (
 j23 z10_6 z9_6 z3_6 z2_6 z1_6 z0_6 h20)))) fun j6 =>
 lpF 6 n (fun f79 y10_79 y9_79 y3_79 y2_79 y1_79 y0_79 h79 =>
 oB' (nx 18 h79) fun h80 =>
 oB (bLt y9_79 y2_79) fun x21_81 =>
 oB (gq x21_81 true (some y3_79)) fun x23_82 =>
 oB (gq x21_81 true (some y0_79)) fun x24_83 =>
 oB (gq x21_81 true (some y9_79)) fun x25_84 =>
 oB (gq x21_81 true (oIx 3 x24_83 x25_84)) fun x26_85 =>
 oB (gq x21_81 true (oLdN 3 h80 x26_85)) fun x27_86 =>
 oB (gq x21_81 true (some y0_79)) fun x28_87 =>
 oB (gq x21_81 true (some y9_79)) fun x29_88 =>
 oB (gq x21_81 true (bSub x29_88 (I 1))) fun x30_89 =>
 oB (gq x21_81 true (oIx 3 x28_87 x30_89)) fun x31_90 =>
 oB (gq x21_81 true (oLdN 3 h80 x31_90)) fun x32_91 =>
 oP (gw x21_81 true (wOf (.callV (.c x23_82) [(.c x27_86), (.c x32_91)]) call .e h80) h80) fun x33_92 h92 =>
 oB (gq x21_81 true (bLt x33_92 (I 0))) fun x34_93 =>
 oB (gq x21_81 true (evQ (.un .not (.c x34_93)) .e h92)) fun x35_94 =>
 oB (oPick x21_81 x35_94 (.bool false)) fun x36_95 =>
 ci x36_95 (
 jnF 6 (fun z10_96 z9_96 z3_96 z2_96 z1_96 z0_96 h96 =>
 f79 z10_96 z9_96 z3_96 z2_96 z1_96 z0_96 h96) fun j96 =>
 oB (bAdd y9_79 (I 1)) fun x38_97 =>
 j96 y10_79 x38_97 y3_79 y2_79 y1_79 y0_79 h92) (
 j6 y10_79 y9_79 y3_79 y2_79 y1_79 y0_79 h92)) y10_2 y9_2 y3_2 y2_2 y1_2 y0_2 h2) (
 j1 h2)) (I 0) x14_0 x3 x2 x1 x0 h
theorem o_slices_partialInsertionSortCmpFunc_api_Diag : FnOK Tryz.prog n_slices_partialInsertionSortCmpFunc_api_Diag (a4 f_slices_partialInsertionSortCmpFunc_api_Diag) := ok4 mixed Tryz.func260 (by kernel_rfl)
/- slices.partitionEqualCmpFunc[corrector/api.Diag] -/
noncomputable def f_slices_partitionEqualCmpFunc_api_Diag (n : Nat) (call : Caller)  (x0 x1 x2 x3 x4 : AV) (h : AH) : Ans :=
 oB' (nx 16 h) fun h0 =>
 oB (oIx 3 x0 x3) fun x19_1 =>
 oB (oLdN 3 h0 x19_1) fun x20_2 =>
 oB (oIx 3 x0 x1) fun x23_3 =>
 oB (oLdN 3 h0 x23_3) fun x24_4 =>
 oB (oIx 3 x0 x1) fun x25_5 =>
 oP (oSt 3 h0 x25_5 x20_2) fun _ h6 =>
 oB (oIx 3 x0 x3) fun x26_7 =>
 oP (oSt 3 h6 x26_7 x24_4) fun _ h8 =>
 oB (bAdd x1 (I 1)) fun x28_9 =>
 oB (bSub x2 (I 1)) fun x30_10 =>
 jnF 1 (fun z11_11 h11 =>
 some (z11_11, h11)) fun j11 =>
 lpF 5 n (fun f12 y12_12 y11_12 y4_12 y1_12 y0_12 h12 =>
 jnF 5 (fun z12_13 z11_13 z4_13 z1_13 z0_13 h13 =>
 f12 z12_13 z11_13 z4_13 z1_13 z0_13 h13) fun j13 =>
 jnF 5 (fun z12_14 z11_14 z4_14 z1_14 z0_14 h14 =>
 jnF 5 (fun z12_15 z11_15 z4_15 z1_15 z0_15 h15 =>
 oB (bGt z11_15 z12_15) fun x70_16 =>
 ci x70_16 (
 j11 z11_15 h15) (
 oB' (nx 16 h15) fun h17 =>
 oB (oIx 3 z0_15 z12_15) fun x77_18 =>
 oB (oLdN 3 h17 x77_18) fun x78_19 =>
 oB (oIx 3 z0_15 z11_15) fun x81_20 =>
 oB (oLdN 3 h17 x81_20) fun x82_21 =>
 oB (oIx 3 z0_15 z11_15) fun x83_22 =>
 oP (oSt 3 h17 x83_22 x78_19) fun _ h23 =>
 oB (oIx 3 z0_15 z12_15) fun x84_24 =>
 oP (oSt 3 h23 x84_24 x82_21) fun _ h25 =>
 oB (bAdd z11_15 (I 1)) fun x86_26 =>
 oB (bSub z12_15 (I 1)) fun x88_27 =>
 j13 x88_27 x86_26 z4_15 z1_15 z0_15 h25)) fun j15 =>
 lpF 5 n (fun f28 y12_28 y11_28 y4_28 y1_28 y0_28 h28 =>
 oB' (nx 16 h28) fun h29 =>
 oB (bLe y11_28 y12_28) fun x52_30 =>
 oB (gq x52_30 true (some y4_28)) fun x54_31 =>
 oB (gq x52_30 true (some y0_28)) fun x55_32 =>
 oB (gq x52_30 true (some y1_28)) fun x56_33 =>
 oB (gq x52_30 true (oIx 3 x55_32 x56_33)) fun x57_34 =>
 oB (gq x52_30 true (oLdN 3 h29 x57_34)) fun x58_35 =>
 oB (gq x52_30 true (some y0_28)) fun x59_36 =>
 oB (gq x52_30 true (some y12_28)) fun x60_37 =>
 oB (gq x52_30 true (oIx 3 x59_36 x60_37)) fun x61_38 =>
 oB (gq x52_30 true (oLdN 3 h29 x61_38)) fun x62_39 =>
 oP (gw x52_30 true (wOf (.callV (.c x54_31) [(.c x58_35), (.c x62_39)]) call .e h29) h29) fun x63_40 h40 =>
 oB (gq x52_30 true (bLt x63_40 (I 0))) fun x64_41 =>
 oB (oPick x52_30 x64_41 (.bool false)) fun x65_42 =>
 ci x65_42 (
 jnF 5 (fun z12_43 z11_43 z4_43 z1_43 z0_43 h43 =>
 f28 z12_43 z11_43 z4_43 z1_43 z0_43 h43) fun j43 =>
 oB (bSub y12_28 (I 1)) fun x67_44 =>
 j43 x67_44 y11_28 y4_28 y1_28 y0_28 h40) (
 j15 y12_28 y11_28 y4_28 y1_28 y0_28 h40)) z12_14 z11_14 z4_14 z1_14 z0_14 h14) fun j14 =>
 lpF 5 n (fun f45 y12_45 y11_45 y4_45 y1_45 y0_45 h45 =>
 oB' (nx 17 h45) fun h46 =>
 oB (bLe y11_45 y12_45) fun x33_47 =>
 oB (gq x33_47 true (some y4_45)) fun x35_48 =>
 oB (gq x33_47 true (some y0_45)) fun x36_49 =>
 oB (gq x33_47 true (some y1_45)) fun x37_50 =>
 oB (gq x33_47 true (oIx 3 x36_49 x37_50)) fun x38_51 =>
 oB (gq x33_47 true (oLdN 3 h46 x38_51)) fun x39_52 =>
 oB (gq x33_47 true (some y0_45)) fun x40_53 =>
 oB (gq x33_47 true (some y11_45)) fun x41_54 =>
 oB (gq x33_47 true (oIx 3 x40_53 x41_54)) fun x42_55 =>
 oB (gq x33_47 true (oLdN 3 h46 x42_55)) fun x43_56 =>
 oP (gw x33_47 true (wOf (.callV (.c x35_48) [(.c x39_52), (.c x43_56)]) call .e h46) h46) fun x44_57 h57 =>
 oB (gq x33_47 true (bLt x44_57 (I 0))) fun x45_58 =>
 oB (gq x33_47 true (evQ (.un .not (.c x45_58)) .e h57)) fun x46_59 =>
 oB (oPick x33_47 x46_59 (.bool false)) fun x47_60 =>
 ci x47_60 (
 jnF 5 (fun z12_61 z11_61 z4_61 z1_61 z0_61 h61 =>
 f45 z12_61 z11_61 z4_61 z1_61 z0_61 h61) fun j61 =>
 oB (bAdd y11_45 (I 1)) fun x49_62 =>
 j61 y12_45 x49_62 y4_45 y1_45 y0_45 h57) (
 j14 y12_45 y11_45 y4_45 y1_45 y0_45 h57)) y12_12 y11_12 y4_12 y1_12 y0_12 h12) x30_10 x28_9 x4 x1 x0 h8
theorem o_slices_partitionEqualCmpFunc_api_Diag : FnOK Tryz.prog n_slices_partitionEqualCmpFunc_api_Diag (a5 f_slices_partitionEqualCmpFunc_api_Diag) := ok5 mixed Tryz.func261 (by kernel_rfl)
/- slices.partitionCmpFunc[corrector/api.Diag] -/
noncomputable def f_slices_partitionCmpFunc_api_Diag (n : Nat) (call : Caller)  (x0 x1 x2 x3 x4 : AV) (h : AH) : Ans :=
 oB' (nx 16 h) fun h0 =>
 oB (oIx 3 x0 x3) fun x20_1 =>
 oB (oLdN 3 h0 x20_1) fun x21_2 =>
 oB (oIx 3 x0 x1) fun x24_3 =>
 oB (oLdN 3 h0 x24_3) fun x25_4 =>
 oB (oIx 3 x0 x1) fun x26_5 =>
 oP (oSt 3 h0 x26_5 x21_2) fun _ h6 =>
 oB (oIx 3 x0 x3) fun x27_7 =>
 oP (oSt 3 h6 x27_7 x25_4) fun _ h8 =>
 oB (bAdd x1 (I 1)) fun x29_9 =>
 oB (bSub x2 (I 1)) fun x31_10 =>
 jnF 5 (fun z13_11 z12_11 z4_11 z1_11 z0_11 h11 =>
 jnF 5 (fun z13_12 z12_12 z4_12 z1_12 z0_12 h12 =>
 oB (bGt z12_12 z13_12) fun x71_13 =>
 ci x71_13 (
 oB' (nx 16 h12) fun h14 =>
 oB (oIx 3 z0_12 z1_12) fun x78_15 =>
 oB (oLdN 3 h14 x78_15) fun x79_16 =>
 oB (oIx 3 z0_12 z13_12) fun x82_17 =>
 oB (oLdN 3 h14 x82_17) fun x83_18 =>
 oB (oIx 3 z0_12 z13_12) fun x84_19 =>
 oP (oSt 3 h14 x84_19 x79_16) fun _ h20 =>
 oB (oIx 3 z0_12 z1_12) fun x85_21 =>
 oP (oSt 3 h20 x85_21 x83_18) fun _ h22 =>
 some (.tup [z13_12, (.bool true)], h22)) (
 oB' (nx 16 h12) fun h23 =>
 oB (oIx 3 z0_12 z13_12) fun x93_24 =>
 oB (oLdN 3 h23 x93_24) fun x94_25 =>
 oB (oIx 3 z0_12 z12_12) fun x97_26 =>
 oB (oLdN 3 h23 x97_26) fun x98_27 =>
 oB (oIx 3 z0_12 z12_12) fun x99_28 =>
 oP (oSt 3 h23 x99_28 x94_25) fun _ h29 =>
 oB (oIx 3 z0_12 z13_12) fun x100_30 =>
 oP (oSt 3 h29 x100_30 x98_27) fun _ h31 =>
 oB (bAdd z12_12 (I 1)) fun x102_32 =>
 oB (bSub z13_12 (I 1)) fun x104_33 =>
 jnF 3 (fun z13_34 z1_34 z0_34 h34 =>
 oB' (nx 16 h34) fun h35 =>
 oB (oIx 3 z0_34 z1_34) fun x169_36 =>
 oB (oLdN 3 h35 x169_36) fun x170_37 =>
 oB (oIx 3 z0_34 z13_34) fun x173_38 =>
 oB (oLdN 3 h35 x173_38) fun x174_39 =>
 oB (oIx 3 z0_34 z13_34) fun x175_40 =>
 oP (oSt 3 h35 x175_40 x170_37) fun _ h41 =>
 oB (oIx 3 z0_34 z1_34) fun x176_42 =>
 oP (oSt 3 h41 x176_42 x174_39) fun _ h43 =>
 some (.tup [z13_34, (.bool false)], h43)) fun j34 =>
 lpF 5 n (fun f44 y13_44 y12_44 y4_44 y1_44 y0_44 h44 =>
 jnF 5 (fun z13_45 z12_45 z4_45 z1_45 z0_45 h45 =>
 f44 z13_45 z12_45 z4_45 z1_45 z0_45 h45) fun j45 =>
 jnF 5 (fun z13_46 z12_46 z4_46 z1_46 z0_46 h46 =>
 jnF 5 (fun z13_47 z12_47 z4_47 z1_47 z0_47 h47 =>
 oB (bGt z12_47 z13_47) fun x144_48 =>
 ci x144_48 (
 j34 z13_47 z1_47 z0_47 h47) (
 oB' (nx 16 h47) fun h49 =>
 oB (oIx 3 z0_47 z13_47) fun x151_50 =>
 oB (oLdN 3 h49 x151_50) fun x152_51 =>
 oB (oIx 3 z0_47 z12_47) fun x155_52 =>
 oB (oLdN 3 h49 x155_52) fun x156_53 =>
 oB (oIx 3 z0_47 z12_47) fun x157_54 =>
 oP (oSt 3 h49 x157_54 x152_51) fun _ h55 =>
 oB (oIx 3 z0_47 z13_47) fun x158_56 =>
 oP (oSt 3 h55 x158_56 x156_53) fun _ h57 =>
 oB (bAdd z12_47 (I 1)) fun x160_58 =>
 oB (bSub z13_47 (I 1)) fun x162_59 =>
 j45 x162_59 x160_58 z4_47 z1_47 z0_47 h57)) fun j47 =>
 lpF 5 n (fun f60 y13_60 y12_60 y4_60 y1_60 y0_60 h60 =>
 oB' (nx 17 h60) fun h61 =>
 oB (bLe y12_60 y13_60) fun x125_62 =>
 oB (gq x125_62 true (some y4_60)) fun x127_63 =>
 oB (gq x125_62 true (some y0_60)) fun x128_64 =>
 oB (gq x125_62 true (some y13_60)) fun x129_65 =>
 oB (gq x125_62 true (oIx 3 x128_64 x129_65)) fun x130_66 =>
 oB (gq x125_62 true (oLdN 3 h61 x130_66)) fun x131_67 =>
 oB (gq x125_62 true (some y0_60)) fun x132_68 =>
 oB (gq x125_62 true (some y1_60)) fun x133_69 =>
 oB (gq x125_62 true (oIx 3 x132_68 x133_69)) fun x134_70 =>
 oB (gq x125_62 true (oLdN 3 h61 x134_70)) fun x135_71 =>
 oP (gw x125_62 true (wOf (.callV (.c x127_63) [(.c x131_67), (.c x135_71)]) call .e h61) h61) fun x136_72 h72 =>
 oB (gq x125_62 true (bLt x136_72 (I 0))) fun x137_73 =>
 oB (gq x125_62 true (evQ (.un .not (.c x137_73)) .e h72)) fun x138_74 =>
 oB (oPick x125_62 x138_74 (.bool false)) fun x139_75 =>
 ci x139_75 (
 jnF 5 (fun z13_76 z12_76 z4_76 z1_76 z0_76 h76 =>
 f60 z13_76 z12_76 z4_76 z1_76 z0_76 h76) fun j76 =>
 oB (bSub y13_60 (I 1)) fun x141_77 =>
 j76 x141_77 y12_60 y4_60 y1_60 y0_60 h72) (
 j47 y13_60 y12_60 y4_60 y1_60 y0_60 h72)) z13_46 z12_46 z4_46 z1_46 z0_46 h46) fun j46 =>
 lpF 5 n (fun f78 y13_78 y12_78 y4_78 y1_78 y0_78 h78 =>
 oB' (nx 16 h78) fun h79 =>
 oB (bLe y12_78 y13_78) fun x107_80 =>
 oB (gq x107_80 true (some y4_78)) fun x109_81 =>
 oB (gq x107_80 true (some y0_78)) fun x110_82 =>
 oB (gq x107_80 true (some y12_78)) fun x111_83 =>
 oB (gq x107_80 true (oIx 3 x110_82 x111_83)) fun x112_84 =>
 oB (gq x107_80 true (oLdN 3 h79 x112_84)) fun x113_85 =>
 oB (gq x107_80 true (some y0_78)) fun x114_86 =>
 oB (gq x107_80 true (some y1_78)) fun x115_87 =>
 oB (gq x107_80 true (oIx 3 x114_86 x115_87)) fun x116_88 =>
 oB (gq x107_80 true (oLdN 3 h79 x116_88)) fun x117_89 =>
 oP (gw x107_80 true (wOf (.callV (.c x109_81) [(.c x113_85), (.c x117_89)]) call .e h79) h79) fun x118_90 h90 =>
 oB (gq x107_80 true (bLt x118_90 (I 0))) fun x119_91 =>
 oB (oPick x107_80 x119_91 (.bool false)) fun x120_92 =>
 ci x120_92 (
 jnF 5 (fun z13_93 z12_93 z4_93 z1_93 z0_93 h93 =>
 f78 z13_93 z12_93 z4_93 z1_93 z0_93 h93) fun j93 =>
 oB (bAdd y12_78 (I 1)) fun x122_94 =>
 j93 y13_78 x122_94 y4_78 y1_78 y0_78 h90) (
 j46 y13_78 y12_78 y4_78 y1_78 y0_78 h90)) y13_44 y12_44 y4_44 y1_44 y0_44 h44) x104_33 x102_32 z4_12 z1_12 z0_12 h31)) fun j12 =>
 lpF 5 n (fun f95 y13_95 y12_95 y4_95 y1_95 y0_95 h95 =>
 oB' (nx 17 h95) fun h96 =>
 oB (bLe y12_95 y13_95) fun x52_97 =>
 oB (gq x52_97 true (some y4_95)) fun x54_98 =>
 oB (gq x52_97 true (some y0_95)) fun x55_99 =>
 oB (gq x52_97 true (some y13_95)) fun x56_100 =>
 oB (gq x52_97 true (oIx 3 x55_99 x56_100)) fun x57_101 =>
 oB (gq x52_97 true (oLdN 3 h96 x57_101)) fun x58_102 =>
 oB (gq x52_97 true (some y0_95)) fun x59_103 =>
 oB (gq x52_97 true (some y1_95)) fun x60_104 =>
 oB (gq x52_97 true (oIx 3 x59_103 x60_104)) fun x61_105 =>
 oB (gq x52_97 true (oLdN 3 h96 x61_105)) fun x62_106 =>
 oP (gw x52_97 true (wOf (.callV (.c x54_98) [(.c x58_102), (.c x62_106)]) call .e h96) h96) fun x63_107 h107 =>
 oB (gq x52_97 true (bLt x63_107 (I 0))) fun x64_108 =>
 oB (gq x52_97 true (evQ (.un .not (.c x64_108)) .e h107)) fun x65_109 =>
 oB (oPick x52_97 x65_109 (.bool false)) fun x66_110 =>
 ci x66_110 (
 jnF 5 (fun z13_111 z12_111 z4_111 z1_111 z0_111 h111 =>
 f95 z13_111 z12_111 z4_111 z1_111 z0_111 h111) fun j111 =>
 oB (bSub y13_95 (I 1)) fun x68_112 =>
 j111 x68_112 y12_95 y4_95 y1_95 y0_95 h107) (
 j12 y13_95 y12_95 y4_95 y1_95 y0_95 h107)) z13_11 z12_11 z4_11 z1_11 z0_11 h11) fun j11 =>
 lpF 5 n (fun f113 y13_113 y12_113 y4_113 y1_113 y0_113 h113 =>
 oB' (nx 16 h113) fun h114 =>
 oB (bLe y12_113 y13_113) fun x34_115 =>
 oB (gq x34_115 true (some y4_113)) fun x36_116 =>
 oB (gq x34_115 true (some y0_113)) fun x37_117 =>
 oB (gq x34_115 true (some y12_113)) fun x38_118 =>
 oB (gq x34_115 true (oIx 3 x37_117 x38_118)) fun x39_119 =>
 oB (gq x34_115 true (oLdN 3 h114 x39_119)) fun x40_120 =>
 oB (gq x34_115 true (some y0_113)) fun x41_121 =>
 oB (gq x34_115 true (some y1_113)) fun x42_122 =>
 oB (gq x34_115 true (oIx 3 x41_121 x42_122)) fun x43_123 =>
 oB (gq x34_115 true (oLdN 3 h114 x43_123)) fun x44_124 =>
 oP (gw x34_115 true (wOf (.callV (.c x36_116) [(.c x40_120), (.c x44_124)]) call .e h114) h114) fun x45_125 h125 =>
 oB (gq x34_115 true (bLt x45_125 (I 0))) fun x46_126 =>
 oB (oPick x34_115 x46_126 (.bool false)) fun x47_127 =>
 ci x47_127 (
 jnF 5 (fun z13_128 z12_128 z4_128 z1_128 z0_128 h128 =>
 f113 z13_128 z12_128 z4_128 z1_128 z0_128 h128) fun j128 =>
 oB (bAdd y12_113 (I 1)) fun x49_129 =>
 j128 y13_113 x49_129 y4_113 y1_113 y0_113 h125) (
 j11 y13_113 y12_113 y4_113 y1_113 y0_113 h125)) x31_10 x29_9 x4 x1 x0 h8
theorem o_slices_partitionCmpFunc_api_Diag : FnOK Tryz.prog n_slices_partitionCmpFunc_api_Diag (a5 f_slices_partitionCmpFunc_api_Diag) := ok5 mixed Tryz.func262 (by kernel_rfl)
/- math/bits.Len32 -/
noncomputable def f_math_bits_Len32 (n : Nat) (call : Caller)  (x0 : AV) (h : AH) : Ans :=
 oB (bGe x0 (.int .u32 65536)) fun x4_0 =>
 jnF 2 (fun z2_1 z0_1 h1 =>
 oB (bGe z0_1 (.int .u32 256)) fun x8_2 =>
 jnF 2 (fun z2_3 z0_3 h3 =>
 oB (oInt .u8 z0_3) fun x15_4 =>
 oB (oIxS (.str [0, 1, 2, 2, 3, 3, 3, 3, 4, 4, 4, 4, 4, 4, 4, 4, 5, 5, 5, 5, 5, 5, 5, 5, 5, 5, 5, 5, 5, 5, 5, 5, 6, 6, 6, 6, 6, 6, 6, 6, 6, 6, 6, 6, 6, 6, 6, 6, 6, 6, 6, 6, 6, 6, 6, 6, 6, 6, 6, 6, 6, 6, 6, 6, 7, 7, 7, 7, 7, 7, 7, 7, 7, 7, 7, 7, 7, 7, 7, 7, 7, 7, 7, 7, 7, 7, 7, 7, 7, 7, 7, 7, 7, 7, 7, 7, 7, 7, 7, 7, 7, 7, 7, 7, 7, 7, 7, 7, 7, 7, 7, 7, 7, 7, 7, 7, 7, 7, 7, 7, 7, 7, 7, 7, 7, 7, 7, 7, 8, 8, 8, 8, 8, 8, 8, 8, 8, 8, 8, 8, 8, 8, 8, 8, 8, 8, 8, 8, 8, 8, 8, 8, 8, 8, 8, 8, 8, 8, 8, 8, 8, 8, 8, 8, 8, 8, 8, 8, 8, 8, 8, 8, 8, 8, 8, 8, 8, 8, 8, 8, 8, 8, 8, 8, 8, 8, 8, 8, 8, 8, 8, 8, 8, 8, 8, 8, 8, 8, 8, 8, 8, 8, 8, 8, 8, 8, 8, 8, 8, 8, 8, 8, 8, 8, 8, 8, 8, 8, 8, 8, 8, 8, 8, 8, 8, 8, 8, 8, 8, 8, 8, 8, 8, 8, 8, 8, 8, 8, 8, 8, 8, 8, 8, 8, 8, 8, 8, 8, 8, 8, 8, 8, 8, 8, 8, 8]) x15_4) fun x16_5 =>
 oB (oInt .i64 x16_5) fun x17_6 =>
 oB (bAdd z2_3 x17_6) fun x18_7 =>
 some (x18_7, h3)) fun j3 =>
 ci x8_2 (
 oB (binAV .shr .no z0_1 (.int .u64 8)) fun x10_8 =>
 oB (bAdd z2_1 (I 8)) fun x12_9 =>
 j3 x12_9 x10_8 h1) (
 j3 z2_1 z0_1 h1)) fun j1 =>
 ci x4_0 (
 oB (binAV .shr .no x0 (.int .u64 16)) fun x6_10 =>
 j1 (I 16) x6_10 h) (
 j1 (I 0) x0 h)
theorem o_math_bits_Len32 : FnOK Tryz.prog n_math_bits_Len32 (a1 f_math_bits_Len32) := ok1 mixed Tryz.func263 (by kernel_rfl)
/- math/bits.Len64 -/
noncomputable def f_math_bits_Len64 (n : Nat) (call : Caller)  (x0 : AV) (h : AH) : Ans :=
 oB (bGe x0 (.int .u64 4294967296)) fun x4_0 =>
 jnF 2 (fun z2_1 z0_1 h1 =>
 oB (bGe z0_1 (.int .u64 65536)) fun x8_2 =>
 jnF 2 (fun z2_3 z0_3 h3 =>
 oB (bGe z0_3 (.int .u64 256)) fun x14_4 =>
 jnF 2 (fun z2_5 z0_5 h5 =>
 oB (oInt .u8 z0_5) fun x21_6 =>
 oB (oIxS (.str [0, 1, 2, 2, 3, 3, 3, 3, 4, 4, 4, 4, 4, 4, 4, 4, 5, 5, 5, 5, 5, 5, 5, 5, 5, 5, 5, 5, 5, 5, 5, 5, 6, 6, 6, 6, 6, 6, 6, 6, 6, 6, 6, 6, 6, 6, 6, 6, 6, 6, 6, 6, 6, 6, 6, 6, 6, 6, 6, 6, 6, 6, 6, 6, 7, 7, 7, 7, 7, 7, 7, 7, 7, 7, 7, 7, 7, 7, 7, 7, 7, 7, 7, 7, 7, 7, 7, 7, 7, 7, 7, 7, 7, 7, 7, 7, 7, 7, 7, 7, 7, 7, 7, 7, 7, 7, 7, 7, 7, 7, 7, 7, 7, 7, 7, 7, 7, 7, 7, 7, 7, 7, 7, 7, 7, 7, 7, 7, 8, 8, 8, 8, 8, 8, 8, 8, 8, 8, 8, 8, 8, 8, 8, 8, 8, 8, 8, 8, 8, 8, 8, 8, 8, 8, 8, 8, 8, 8, 8, 8, 8, 8, 8, 8, 8, 8, 8, 8, 8, 8, 8, 8, 8, 8, 8, 8, 8, 8, 8, 8, 8, 8, 8, 8, 8, 8, 8, 8, 8, 8, 8, 8, 8, 8, 8, 8, 8, 8, 8, 8, 8, 8, 8, 8, 8, 8, 8, 8, 8, 8, 8, 8, 8, 8, 8, 8, 8, 8, 8, 8, 8, 8, 8, 8, 8, 8, 8, 8, 8, 8, 8, 8, 8, 8, 8, 8, 8, 8, 8, 8, 8, 8, 8, 8, 8, 8, 8, 8, 8, 8, 8, 8, 8, 8, 8, 8]) x21_6) fun x22_7 =>
 oB (oInt .i64 x22_7) fun x23_8 =>
 oB (bAdd z2_5 x23_8) fun x24_9 =>
 some (x24_9, h5)) fun j5 =>
 ci x14_4 (
 oB (binAV .shr .no z0_3 (.int .u64 8)) fun x16_10 =>
 oB (bAdd z2_3 (I 8)) fun x18_11 =>
 j5 x18_11 x16_10 h3) (
 j5 z2_3 z0_3 h3)) fun j3 =>
 ci x8_2 (
 oB (binAV .shr .no z0_1 (.int .u64 16)) fun x10_12 =>
 oB (bAdd z2_1 (I 16)) fun x12_13 =>
 j3 x12_13 x10_12 h1) (
 j3 z2_1 z0_1 h1)) fun j1 =>
 ci x4_0 (
 oB (binAV .shr .no x0 (.int .u64 32)) fun x6_14 =>
 j1 (I 32) x6_14 h) (
 j1 (I 0) x0 h)
theorem o_math_bits_Len64 : FnOK Tryz.prog n_math_bits_Len64 (a1 f_math_bits_Len64) := ok1 mixed Tryz.func264 (by kernel_rfl)
/- corrector/quote.Write -/
noncomputable def f_quote_Write (n : Nat) (call : Caller)  (x0 : AV) (h : AH) : Ans :=
 oP (oNew h 59 [.nilp, .nils]) fun x3_0 h0 =>
 oP (call n_strings_Builder_WriteByte [x3_0, (U 34)] h0) fun x5_1 h1 =>
 oB (oLenS x0) fun x7_2 =>
 jnF 1 (fun z3_3 h3 =>
 oP (call n_strings_Builder_WriteByte [z3_3, (U 34)] h3) fun x17_4 h4 =>
 oP (call n_strings_Builder_String [z3_3] h4) fun x18_5 h5 =>
 some (x18_5, h5)) fun j3 =>
 lpF 4 n (fun f6 y8_6 y7_6 y3_6 y0_6 h6 =>
 oB (bLt y8_6 y7_6) fun x9_7 =>
 ci x9_7 (
 jnF 4 (fun z8_8 z7_8 z3_8 z0_8 h8 =>
 oB (bAdd z8_8 (I 1)) fun x16_9 =>
 f6 x16_9 z7_8 z3_8 z0_8 h8) fun j8 =>
 oB (oIxS y0_6 y8_6) fun x13_10 =>
 oP (call n_quote_sign [x13_10] h6) fun x14_11 h11 =>
 oP (call n_strings_Builder_WriteString [y3_6, x14_11] h11) fun x15_12 h12 =>
 j8 y8_6 y7_6 y3_6 y0_6 h12) (
 j3 y3_6 h6)) (I 0) x7_2 x3_0 x0 h1
theorem o_quote_Write : FnOK Tryz.prog n_quote_Write (a1 f_quote_Write) := ok1 mixed Tryz.func265 (by kernel_rfl)
/- (corrector/equal.classes).of -/
noncomputable def f_equal_classes_of (n : Nat) (call : Caller)  (x0 x1 : AV) (h : AH) : Ans :=
 oP (oNew h 105 (AV.cells x1)) fun x3_0 h0 =>
 oB (oFA 0 x3_0) fun x11_1 =>
 oB (oLd h0 x11_1) fun x12_2 =>
 oB (oLen x12_2) fun x13_3 =>
 jnF 1 (fun z5_4 h4 =>
 some (z5_4, h4)) fun j4 =>
 lpF 5 n (fun f5 y14_5 y13_5 y12_5 y5_5 y0_5 h5 =>
 oB (bLt y14_5 y13_5) fun x15_6 =>
 ci x15_6 (
 jnF 5 (fun z14_7 z13_7 z12_7 z5_7 z0_7 h7 =>
 oB (bAdd z14_7 (I 1)) fun x38_8 =>
 f5 x38_8 z13_7 z12_7 z5_7 z0_7 h7) fun j7 =>
 oB (oIx 4 y12_5 y14_5) fun x16_9 =>
 oB (oLdN 4 h5 x16_9) fun x17_10 =>
 oP (oNew h5 167 [(I 0), (.str []), (.str []), .nils]) fun x7_11 h11 =>
 oP (oSt 4 h11 x7_11 x17_10) fun _ h12 =>
 oB (oLdN 4 h12 x7_11) fun x18_13 =>
 oP (call n_equal_key [x18_13, y5_5] h12) fun x20_14 h14 =>
 oB (evQ (.lookup .s (I 0) true (.c y0_5) (.c x20_14)) .e h14) fun x24_15 =>
 oB (oEx 0 x24_15) fun x25_16 =>
 oB (oEx 1 x24_15) fun x26_17 =>
 oB (evQ (.un .not (.c x26_17)) .e h14) fun x28_18 =>
 jnF 6 (fun z14_19 z13_19 z12_19 z9_19 z5_19 z0_19 h19 =>
 oP (oBuildSl h19 3 1 1 [(I 0)] [(0, 1, z9_19)]) fun x36_20 h20 =>
 oP (evW (.append 3 1 8 [(I 0)] (.c z5_19) (.c x36_20)) .e h20) fun x37_21 h21 =>
 j7 z14_19 z13_19 z12_19 x37_21 z0_19 h21) fun j19 =>
 ci x28_18 (
 oB (evQ (.lenMap (.c y0_5)) .e h14) fun x30_22 =>
 oP (evW (.mapUpd .s (.c y0_5) (.c x20_14) (.c x30_22)) .e h14) fun _ h23 =>
 j19 y14_5 y13_5 y12_5 x30_22 y5_5 y0_5 h23) (
 j19 y14_5 y13_5 y12_5 x25_16 y5_5 y0_5 h14)) (
 j4 y5_5 h5)) (I 0) x13_3 x12_2 .nils x0 h0
theorem o_equal_classes_of : FnOK Tryz.prog n_equal_classes_of (a2 f_equal_classes_of) := ok2 mixed Tryz.func266 (by kernel_rfl)
/- (*corrector/lint.finder).where$1 -/
noncomputable def f_lint_finder_where_1 (n : Nat) (call : Caller)  (x0 : AV) (h : AH) : Ans :=
 oP (oNew h 92 (AV.cells x0)) fun x1_0 h0 =>
 oB (oFA 0 x1_0) fun x3_1 =>
 oB (oLd h0 x3_1) fun x4_2 =>
 oB (bEq .no x4_2 (I 6)) fun x5_3 =>
 some (x5_3, h0)
theorem o_lint_finder_where_1 : FnOK Tryz.prog n_lint_finder_where_1 (a1 f_lint_finder_where_1) := ok1 mixed Tryz.func267 (by kernel_rfl)
/- slices.Sort[[]int,int] -/
noncomputable def f_slices_Sort_int_int (n : Nat) (call : Caller)  (x0 : AV) (h : AH) : Ans :=
 oB (oLen x0) fun x4_0 =>
 oB (oInt .u64 x4_0) fun x8_1 =>
 oP (call n_math_bits_Len [x8_1] h) fun x9_2 h2 =>
 oP (call n_slices_pdqsortOrdered_int [x0, (I 0), x4_0, x9_2] h2) fun x10_3 h3 =>
 some (.tup [], h3)
theorem o_slices_Sort_int_int : FnOK Tryz.prog n_slices_Sort_int_int (a1 f_slices_Sort_int_int) := ok1 mixed Tryz.func268 (by kernel_rfl)
/- slices.Compact[[]int,int] -/
noncomputable def f_slices_Compact_int_int (n : Nat) (call : Caller)  (x0 : AV) (h : AH) : Ans :=
 oB (oLen x0) fun x7_0 =>
 oB (bLt x7_0 (I 2)) fun x8_1 =>
 ci x8_1 (
 some (x0, h)) (
 jnF 1 (fun z0_2 h2 =>
 some (z0_2, h2)) fun j2 =>
 lpF 2 n (fun f3 y3_3 y0_3 h3 =>
 oB (oLen y0_3) fun x12_4 =>
 oB (bLt y3_3 x12_4) fun x13_5 =>
 ci x13_5 (
 jnF 2 (fun z3_6 z0_6 h6 =>
 oB (bAdd z3_6 (I 1)) fun x15_7 =>
 f3 x15_7 z0_6 h6) fun j6 =>
 oB' (nx 10 h3) fun h8 =>
 oB (oIx 1 y0_3 y3_3) fun x18_9 =>
 oB (oLd h8 x18_9) fun x19_10 =>
 oB (bSub y3_3 (I 1)) fun x22_11 =>
 oB (oIx 1 y0_3 x22_11) fun x23_12 =>
 oB (oLd h8 x23_12) fun x24_13 =>
 oB (bEq .no x19_10 x24_13) fun x25_14 =>
 ci x25_14 (
 oB (evQ (.sl 1 (.c y0_3) (some (.c y3_3)) none none) .e h8) fun x28_15 =>
 jnF 2 (fun z3_16 z0_16 h16 =>
 oB (evQ (.sl 1 (.c z0_16) (some (.c z3_16)) none none) .e h16) fun x56_17 =>
 oP (evW (.clr 1 [(I 0)] (.c x56_17)) .e h16) fun _ h18 =>
 oB (evQ (.sl 1 (.c z0_16) none (some (.c z3_16)) none) .e h18) fun x59_19 =>
 some (x59_19, h18)) fun j16 =>
 lpF 4 n (fun f20 y5_20 y4_20 y3_20 y0_20 h20 =>
 oB (oLen y4_20) fun x31_21 =>
 oB (bLt y5_20 x31_21) fun x32_22 =>
 ci x32_22 (
 jnF 4 (fun z5_23 z4_23 z3_23 z0_23 h23 =>
 oB (bAdd z5_23 (I 1)) fun x34_24 =>
 f20 x34_24 z4_23 z3_23 z0_23 h23) fun j23 =>
 oB' (nx 10 h20) fun h25 =>
 oB (oIx 1 y4_20 y5_20) fun x37_26 =>
 oB (oLd h25 x37_26) fun x38_27 =>
 oB (bSub y5_20 (I 1)) fun x41_28 =>
 oB (oIx 1 y4_20 x41_28) fun x42_29 =>
 oB (oLd h25 x42_29) fun x43_30 =>
 oB (bNe .no x38_27 x43_30) fun x44_31 =>
 jnF 4 (fun z5_32 z4_32 z3_32 z0_32 h32 =>
 j23 z5_32 z4_32 z3_32 z0_32 h32) fun j32 =>
 ci x44_31 (
 oB (oIx 1 y4_20 y5_20) fun x49_33 =>
 oB (oLd h25 x49_33) fun x50_34 =>
 oB (oIx 1 y0_20 y3_20) fun x51_35 =>
 oP (oSt 1 h25 x51_35 x50_34) fun _ h36 =>
 oB (bAdd y3_20 (I 1)) fun x53_37 =>
 j32 y5_20 y4_20 x53_37 y0_20 h36) (
 j32 y5_20 y4_20 y3_20 y0_20 h25)) (
 j16 y3_20 y0_20 h20)) (I 1) x28_15 y3_3 y0_3 h8) (
 j6 y3_3 y0_3 h8)) (
 j2 y0_3 h3)) (I 1) x0 h)
theorem o_slices_Compact_int_int : FnOK Tryz.prog n_slices_Compact_int_int (a1 f_slices_Compact_int_int) := ok1 mixed Tryz.func269 (by kernel_rfl)
/- slices.Index[[]int,int] -/
noncomputable def f_slices_Index_int_int (n : Nat) (call : Caller)  (x0 x1 : AV) (h : AH) : Ans :=
 oB (oLen x0) fun x7_0 =>
 jnF 0 (fun h1 =>
 some ((Ineg 0), h1)) fun j1 =>
 lpF 4 n (fun f2 y8_2 y7_2 y1_2 y0_2 h2 =>
 oB (bLt y8_2 y7_2) fun x9_3 =>
 ci x9_3 (
 jnF 4 (fun z8_4 z7_4 z1_4 z0_4 h4 =>
 oB (bAdd z8_4 (I 1)) fun x18_5 =>
 f2 x18_5 z7_4 z1_4 z0_4 h4) fun j4 =>
 oB (oIx 1 y0_2 y8_2) fun x14_6 =>
 oB (oLd h2 x14_6) fun x15_7 =>
 oB (bEq .no y1_2 x15_7) fun x16_8 =>
 ci x16_8 (
 some (y8_2, h2)) (
 j4 y8_2 y7_2 y1_2 y0_2 h2)) (
 j1 h2)) (I 0) x7_0 x1 x0 h
theorem o_slices_Index_int_int : FnOK Tryz.prog n_slices_Index_int_int (a2 f_slices_Index_int_int) := ok2 mixed Tryz.func270 (by kernel_rfl)
/- slices.ContainsFunc[[]corrector/api.Edit,corrector/api.Edit] -/
noncomputable def f_slices_ContainsFunc_api_Edit_api_Edit (n : Nat) (call : Caller)  (x0 x1 : AV) (h : AH) : Ans :=
 oP (call n_slices_IndexFunc_api_Edit_api_Edit [x0, x1] h) fun x7_0 h0 =>
 oB (bGe x7_0 (I 0)) fun x8_1 =>
 some (x8_1, h0)
theorem o_slices_ContainsFunc_api_Edit_api_Edit : FnOK Tryz.prog n_slices_ContainsFunc_api_Edit_api_Edit (a2 f_slices_ContainsFunc_api_Edit_api_Edit) := ok2 mixed Tryz.func271 (by kernel_rfl)
/- corrector/edit.Choose$1 -/
noncomputable def f_edit_Choose_1 (n : Nat) (call : Caller)  (x0 x1 : AV) (h : AH) : Ans :=
 oP (oNew h 124 (AV.cells x0)) fun x2_0 h0 =>
 oB (oLdN 3 h0 x1) fun x4_1 =>
 oB (oLdN 3 h0 x2_0) fun x5_2 =>
 oP (call n_edit_upon [x4_1, x5_2] h0) fun x6_3 h3 =>
 some (x6_3, h3)
theorem o_edit_Choose_1 : FnOK Tryz.prog n_edit_Choose_1 (a2 f_edit_Choose_1) := ok2 mixed Tryz.func272 (by kernel_rfl)
/- corrector/edit.upon -/
noncomputable def f_edit_upon (n : Nat) (call : Caller)  (x0 x1 : AV) (h : AH) : Ans :=
 oP (oNew h 124 (AV.cells x0)) fun x2_0 h0 =>
 oP (oNew h0 124 (AV.cells x1)) fun x3_1 h1 =>
 oB' (nx 14 h1) fun h2 =>
 oB (oFA 0 x2_0) fun x7_3 =>
 oB (oLd h2 x7_3) fun x8_4 =>
 oB (oFA 1 x2_0) fun x9_5 =>
 oB (oLd h2 x9_5) fun x10_6 =>
 oB (oBuild [(I 0), (I 0)] [(0, 1, x8_4), (1, 1, x10_6)]) fun x11_7 =>
 oB (oFA 0 x3_1) fun x12_8 =>
 oB (oLd h2 x12_8) fun x13_9 =>
 oB (oFA 1 x3_1) fun x14_10 =>
 oB (oLd h2 x14_10) fun x15_11 =>
 oB (oBuild [(I 0), (I 0)] [(0, 1, x13_9), (1, 1, x15_11)]) fun x16_12 =>
 fl1 true (evF (.new 146 [(I 0), (I 0)]) .e) (Nat.add h1.next 10) fun x5_13 o13 =>
 fl1 true (evF (.new 146 [(I 0), (I 0)]) .e) (Nat.add h1.next 11) fun x6_14 o14 =>
 oB' (lay1 (Nat.add h1.next 11) o14 (lay1 (Nat.add h1.next 10) o13 h2)) fun v15 =>
 oP (oSt 2 v15 x5_13 x11_7) fun x0_16 h16 =>
 oP (oSt 2 h16 x6_14 x16_12) fun x0_17 h17 =>
 ask1 true (oLd h2 x7_3) x8_4 (
 ask1 true (oLd h2 x9_5) x10_6 (
 ask1 true (oLd h2 x12_8) x13_9 (
 ask1 true (oLd h16 x12_8) x13_9 (
 ask1 true (oLd h2 x14_10) x15_11 (
 ask1 true (oLd h16 x14_10) x15_11 (
 oB (oLdN 2 h17 x5_13) fun x17_18 =>
 oB (oLdN 2 h17 x6_14) fun x18_19 =>
 oB (bEq (.flat [.i, .i]) x17_18 x18_19) fun x19_20 =>
 oB (gq x19_20 false (oLdN 2 h17 x5_13)) fun x21_21 =>
 oB (gq x19_20 false (oLdN 2 h17 x6_14)) fun x22_22 =>
 oP (gw x19_20 false (call n_span_Meet [x21_21, x22_22] h17) h17) fun x23_23 h23 =>
 oB (oPick x19_20 (.bool true) x23_23) fun x24_24 =>
 some (x24_24, h23)))))))
theorem o_edit_upon : FnOK Tryz.prog n_edit_upon (a2 f_edit_upon) := ok2 mixed Tryz.func273 (by kernel_rfl)
/- slices.SortStableFunc[[]corrector/api.Edit,corrector/api.Edit] -/
noncomputable def f_slices_SortStableFunc_api_Edit_api_Edit (n : Nat) (call : Caller)  (x0 x1 : AV) (h : AH) : Ans :=
 oB (oLen x0) fun x6_0 =>
 oP (call n_slices_stableCmpFunc_api_Edit [x0, x6_0, x1] h) fun x8_1 h1 =>
 some (.tup [], h1)
theorem o_slices_SortStableFunc_api_Edit_api_Edit : FnOK Tryz.prog n_slices_SortStableFunc_api_Edit_api_Edit (a2 f_slices_SortStableFunc_api_Edit_api_Edit) := ok2 mixed Tryz.func274 (by kernel_rfl)
/- corrector/edit.Choose$2 -/
noncomputable def f_edit_Choose_2 (n : Nat) (call : Caller)  (x0 x1 : AV) (h : AH) : Ans :=
 oP (oNew h 124 (AV.cells x0)) fun x2_0 h0 =>
 oP (oNew h0 124 (AV.cells x1)) fun x3_1 h1 =>
 oB (oLdN 3 h1 x2_0) fun x5_2 =>
 oB (some (.iface 124 x5_2)) fun x6_3 =>
 oB (oLdN 3 h1 x3_1) fun x7_4 =>
 oB (some (.iface 124 x7_4)) fun x8_5 =>
 oP (call n_edit_order [x6_3, x8_5] h1) fun x9_6 h6 =>
 some (x9_6, h6)
theorem o_edit_Choose_2 : FnOK Tryz.prog n_edit_Choose_2 (a2 f_edit_Choose_2) := ok2 mixed Tryz.func275 (by kernel_rfl)
/- corrector/edit.order -/
noncomputable def f_edit_order (n : Nat) (call : Caller)  (x0 x1 : AV) (h : AH) : Ans :=
 oB (oTa 124 (.agg [(I 0), (I 0), (.str [])]) true x0) fun x11_0 =>
 oB (oEx 0 x11_0) fun x12_1 =>
 oB (oEx 1 x11_0) fun x13_2 =>
 oP (oNew h 124 [(I 0), (I 0), (.str [])]) fun x5_3 h3 =>
 oP (oSt 3 h3 x5_3 x12_1) fun _ h4 =>
 oB (oTa 124 (.agg [(I 0), (I 0), (.str [])]) true x1) fun x16_5 =>
 oB (oEx 0 x16_5) fun x17_6 =>
 oB (oEx 1 x16_5) fun x18_7 =>
 oP (oNew h4 124 [(I 0), (I 0), (.str [])]) fun x7_8 h8 =>
 oP (oSt 3 h8 x7_8 x17_6) fun _ h9 =>
 oB (evQ (.un .not (.c x13_2)) .e h9) fun x20_10 =>
 oB (gq x20_10 false (some x18_7)) fun x22_11 =>
 oB (gq x20_10 false (evQ (.un .not (.c x22_11)) .e h9)) fun x23_12 =>
 oB (oPick x20_10 (.bool true) x23_12) fun x24_13 =>
 ci x24_13 (
 some ((I 0), h9)) (
 oB' (nx 13 h9) fun h14 =>
 oB (oFA 0 x5_3) fun x25_15 =>
 oB (oLd h14 x25_15) fun x26_16 =>
 oB (oFA 0 x7_8) fun x27_17 =>
 oB (oLd h14 x27_17) fun x28_18 =>
 oP (call n_cmp_Compare_int [x26_16, x28_18] h14) fun x29_19 h19 =>
 oB (oFA 1 x5_3) fun x30_20 =>
 oB (oLd h19 x30_20) fun x31_21 =>
 oB (oFA 1 x7_8) fun x32_22 =>
 oB (oLd h19 x32_22) fun x33_23 =>
 oP (call n_cmp_Compare_int [x31_21, x33_23] h19) fun x34_24 h24 =>
 fl1 true (evF (.buildSlice 3 1 2 [(I 0), (I 0)] [(0, 1, (.c x29_19)), (1, 1, (.c x34_24))]) .e) (Nat.add h9.next 10) fun x35_25 o25 =>
 oB' (lay1 (Nat.add h9.next 10) o25 h24) fun v26 =>
 oP (call n_cmp_Or_int [x35_25] v26) fun x36_27 h27 =>
 ask1 true (oLd h14 x25_15) x26_16 (
 ask1 true (oLd h14 x27_17) x28_18 (
 ask1 true (oLd h14 x30_20) x31_21 (
 ask1 true (oLd h19 x30_20) x31_21 (
 ask1 true (oLd h14 x32_22) x33_23 (
 ask1 true (oLd h19 x32_22) x33_23 (
 some (x36_27, h27))))))))
theorem o_edit_order : FnOK Tryz.prog n_edit_order (a2 f_edit_order) := ok2 mixed Tryz.func276 (by kernel_rfl)
/- (*corrector/suggest.mender).wrong -/
noncomputable def f_suggest_mender_wrong (n : Nat) (call : Caller)  (x0 x1 : AV) (h : AH) : Ans :=
 oP (oNew h 112 (AV.cells x1)) fun x3_0 h0 =>
 oB (oFA 0 x3_0) fun x5_1 =>
 oB (oLd h0 x5_1) fun x6_2 =>
 jnF 0 (fun h3 =>
 some (.nili, h3)) fun j3 =>
 oB (bEq .no x6_2 (I 1)) fun x8_4 =>
 ci x8_4 (
 oB (oFA 1 x3_0) fun x9_5 =>
 oB (oLd h0 x9_5) fun x10_6 =>
 oB (oFA 2 x3_0) fun x11_7 =>
 oB (oLd h0 x11_7) fun x12_8 =>
 oB (oBuild [(I 0), (I 0), (.str [])] [(0, 1, x10_6), (1, 1, x12_8)]) fun x13_9 =>
 oB (some (.iface 124 x13_9)) fun x14_10 =>
 some (x14_10, h0)) (
 oB (bEq .no x6_2 (I 2)) fun x16_11 =>
 ci x16_11 (
 oB' (nx 15 h0) fun h12 =>
 oB (oFA 1 x3_0) fun x17_13 =>
 oB (oLd h12 x17_13) fun x18_14 =>
 oB (oFA 2 x3_0) fun x19_15 =>
 oB (oLd h12 x19_15) fun x20_16 =>
 oB (oFA 2 x3_0) fun x21_17 =>
 oB (oLd h12 x21_17) fun x22_18 =>
 oB (oFA 1 x3_0) fun x23_19 =>
 oB (oLd h12 x23_19) fun x24_20 =>
 oB (bSub x22_18 x24_20) fun x25_21 =>
 oB (evQ (.maxI (.c x25_21) [(.c (I 0))]) .e h12) fun x26_22 =>
 oB (evQ (.minI (.c x26_22) [(.c (I 16384))]) .e h12) fun x27_23 =>
 oP (call n_strings_Repeat [(.str [32]), x27_23] h12) fun x28_24 h24 =>
 oB (oBuild [(I 0), (I 0), (.str [])] [(0, 1, x18_14), (1, 1, x20_16), (2, 1, x28_24)]) fun x29_25 =>
 oB (some (.iface 124 x29_25)) fun x30_26 =>
 ask1 true (oLd h12 x17_13) x18_14 (
 ask1 true (oLd h24 x17_13) x18_14 (
 ask1 true (oLd h12 x19_15) x20_16 (
 ask1 true (oLd h24 x19_15) x20_16 (
 ask1 true (oLd h12 x21_17) x22_18 (
 ask1 true (oLd h12 x23_19) x24_20 (
 some (x30_26, h24)))))))) (
 oB (bEq .no x6_2 (I 3)) fun x32_27 =>
 ci x32_27 (
 oB' (nx 8 h0) fun h28 =>
 oB (oFA 2 x3_0) fun x33_29 =>
 oB (oLd h28 x33_29) fun x34_30 =>
 oB (oFA 1 x3_0) fun x36_31 =>
 oB (oLd h28 x36_31) fun x37_32 =>
 oP (call n_suggest_mender_sign [x0, x37_32] h28) fun x38_33 h33 =>
 oP (call n_suggest_put [x34_30, x38_33] h33) fun x39_34 h34 =>
 ask1 true (oLd h28 x33_29) x34_30 (
 ask1 true (oLd h33 x33_29) x34_30 (
 ask1 true (oLd h28 x36_31) x37_32 (
 some (x39_34, h34))))) (
 oB (bEq .no x6_2 (I 9)) fun x41_35 =>
 ci x41_35 (
 oB (oFA 1 x3_0) fun x43_36 =>
 oB (oLd h0 x43_36) fun x44_37 =>
 oP (call n_suggest_mender_open [x0, x44_37] h0) fun x45_38 h38 =>
 some (x45_38, h38)) (
 j3 h0))))
theorem o_suggest_mender_wrong : FnOK Tryz.prog n_suggest_mender_wrong (a2 f_suggest_mender_wrong) := ok2 mixed Tryz.func277 (by kernel_rfl)
/- (*corrector/suggest.mender).found -/
noncomputable def f_suggest_mender_found (n : Nat) (call : Caller)  (x0 x1 : AV) (h : AH) : Ans :=
 oP (oNew h 112 (AV.cells x1)) fun x3_0 h0 =>
 oB (oFA 0 x3_0) fun x5_1 =>
 oB (oLd h0 x5_1) fun x6_2 =>
 jnF 0 (fun h3 =>
 some (.nili, h3)) fun j3 =>
 jnF 1 (fun z3_4 h4 =>
 oB (oFA 2 z3_4) fun x29_5 =>
 oB (oLd h4 x29_5) fun x30_6 =>
 oP (call n_suggest_put [x30_6, (.str [10])] h4) fun x31_7 h7 =>
 some (x31_7, h7)) fun j4 =>
 jnF 1 (fun z3_8 h8 =>
 oB (oFA 2 z3_8) fun x26_9 =>
 oB (oLd h8 x26_9) fun x27_10 =>
 oP (call n_suggest_put [x27_10, (.str [32])] h8) fun x28_11 h11 =>
 some (x28_11, h11)) fun j8 =>
 jnF 1 (fun z3_12 h12 =>
 j8 z3_12 h12) fun j12 =>
 jnF 0 (fun h13 =>
 oP (call n_suggest_put [(I 0), (.str [45, 45, 45, 10])] h13) fun x25_14 h14 =>
 some (x25_14, h14)) fun j13 =>
 jnF 1 (fun z3_15 h15 =>
 oB (oFA 1 z3_15) fun x19_16 =>
 oB (oLd h15 x19_16) fun x20_17 =>
 oB (oFA 2 z3_15) fun x21_18 =>
 oB (oLd h15 x21_18) fun x22_19 =>
 oB (oBuild [(I 0), (I 0), (.str [])] [(0, 1, x20_17), (1, 1, x22_19)]) fun x23_20 =>
 oB (some (.iface 124 x23_20)) fun x24_21 =>
 some (x24_21, h15)) fun j15 =>
 jnF 1 (fun z3_22 h22 =>
 j15 z3_22 h22) fun j22 =>
 oB (bEq .no x6_2 (I 1)) fun x8_23 =>
 ci x8_23 (
 j22 x3_0 h0) (
 oB (bEq .no x6_2 (I 4)) fun x10_24 =>
 ci x10_24 (
 j15 x3_0 h0) (
 oB (bEq .no x6_2 (I 5)) fun x12_25 =>
 ci x12_25 (
 j13 h0) (
 oB (bEq .no x6_2 (I 6)) fun x14_26 =>
 ci x14_26 (
 j12 x3_0 h0) (
 oB (bEq .no x6_2 (I 7)) fun x16_27 =>
 ci x16_27 (
 j8 x3_0 h0) (
 oB (bEq .no x6_2 (I 9)) fun x18_28 =>
 ci x18_28 (
 j4 x3_0 h0) (
 j3 h0))))))
theorem o_suggest_mender_found : FnOK Tryz.prog n_suggest_mender_found (a2 f_suggest_mender_found) := ok2 mixed Tryz.func278 (by kernel_rfl)
/- corrector/equal.Same -/
noncomputable def f_equal_Same (n : Nat) (call : Caller)  (x0 x1 : AV) (h : AH) : Ans :=
 oP (oNew h 105 (AV.cells x0)) fun x2_0 h0 =>
 oP (oNew h0 105 (AV.cells x1)) fun x3_1 h1 =>
 oP (evW (.mkMap) .e h1) fun x6_2 h2 =>
 oB' (nx 12 h2) fun h3 =>
 oB (oLdN 3 h3 x2_0) fun x7_4 =>
 oB (oLdN 3 h3 x2_0) fun x9_5 =>
 oP (call n_equal_classes_of [x6_2, x9_5] h3) fun x10_6 h6 =>
 oP (call n_equal_docs [x7_4, x10_6] h6) fun x11_7 h7 =>
 oB (oLdN 3 h7 x3_1) fun x12_8 =>
 oB (oLdN 3 h7 x3_1) fun x14_9 =>
 oP (call n_equal_classes_of [x6_2, x14_9] h7) fun x15_10 h10 =>
 oP (call n_equal_docs [x12_8, x15_10] h10) fun x16_11 h11 =>
 oP (call n_slices_Equal_int_int [x11_7, x16_11] h11) fun x17_12 h12 =>
 ask1 true (oLdN 3 h3 x2_0) x7_4 (
 ask1 true (oLdN 3 h6 x2_0) x7_4 (
 ask1 true (oLdN 3 h3 x2_0) x9_5 (
 ask1 true (oLdN 3 h3 x3_1) x12_8 (
 ask1 true (oLdN 3 h6 x3_1) x12_8 (
 ask1 true (oLdN 3 h7 x3_1) x12_8 (
 ask1 true (oLdN 3 h10 x3_1) x12_8 (
 ask1 true (oLdN 3 h3 x3_1) x14_9 (
 ask1 true (oLdN 3 h6 x3_1) x14_9 (
 ask1 true (oLdN 3 h7 x3_1) x14_9 (
 some (x17_12, h12)))))))))))
theorem o_equal_Same : FnOK Tryz.prog n_equal_Same (a2 f_equal_Same) := ok2 mixed Tryz.func279 (by kernel_rfl)
/- internal/strconv.ParseUint -/
noncomputable def f_internal_strconv_ParseUint (n : Nat) (call : Caller)  (x0 x1 x2 : AV) (h : AH) : Ans :=
 oB (bEq .no x0 (.str [])) fun x19_0 =>
 ci x19_0 (
 oB (some (.iface 255 (I 2))) fun x20_1 =>
 some (.tup [(.int .u64 0), x20_1], h)) (
 oB (bEq .no x1 (I 0)) fun x22_2 =>
 jnF 5 (fun z9_3 z8_3 z2_3 z1_3 z0_3 h3 =>
 oB (bEq .no z2_3 (I 0)) fun x77_4 =>
 jnF 5 (fun z9_5 z8_5 z2_5 z1_5 z0_5 h5 =>
 jnF 6 (fun z10_6 z9_6 z8_6 z2_6 z1_6 z0_6 h6 =>
 oB (oInt .u64 z2_6) fun x95_7 =>
 oB (binAV .shl .no (.int .u64 1) x95_7) fun x96_8 =>
 oB (bSub x96_8 (.int .u64 1)) fun x97_9 =>
 oP (evW (.s2b 5 (.c z0_6)) .e h6) fun x99_10 h10 =>
 oB (oLen x99_10) fun x100_11 =>
 jnF 3 (fun z13_12 z12_12 z9_12 h12 =>
 oB (gq z12_12 true (some z9_12)) fun x166_13 =>
 oP (gw z12_12 true (call n_internal_strconv_underscoreOK [x166_13] h12) h12) fun x167_14 h14 =>
 oB (gq z12_12 true (evQ (.un .not (.c x167_14)) .e h14)) fun x168_15 =>
 oB (oPick z12_12 x168_15 (.bool false)) fun x169_16 =>
 ci x169_16 (
 oB (some (.iface 255 (I 2))) fun x170_17 =>
 some (.tup [(.int .u64 0), x170_17], h14)) (
 some (.tup [z13_12, .nili], h14))) fun j12 =>
 lpF 10 n (fun f18 y101_18 y100_18 y99_18 y13_18 y12_18 y11_18 y10_18 y9_18 y8_18 y1_18 h18 =>
 oB (bLt y101_18 y100_18) fun x102_19 =>
 ci x102_19 (
 jnF 10 (fun z101_20 z100_20 z99_20 z13_20 z12_20 z11_20 z10_20 z9_20 z8_20 z1_20 h20 =>
 oB (bAdd z101_20 (I 1)) fun x163_21 =>
 f18 x163_21 z100_20 z99_20 z13_20 z12_20 z11_20 z10_20 z9_20 z8_20 z1_20 h20) fun j20 =>
 oB (oIx 1 y99_18 y101_18) fun x103_22 =>
 oB (oLd h18 x103_22) fun x104_23 =>
 jnF 11 (fun z101_24 z100_24 z99_24 z16_24 z13_24 z12_24 z11_24 z10_24 z9_24 z8_24 z1_24 h24 =>
 oB (oInt .u8 z1_24) fun x136_25 =>
 oB (bGe z16_24 x136_25) fun x137_26 =>
 ci x137_26 (
 oB (some (.iface 255 (I 2))) fun x138_27 =>
 some (.tup [(.int .u64 0), x138_27], h24)) (
 oB (bGe z13_24 z10_24) fun x141_28 =>
 ci x141_28 (
 oB (some (.iface 255 (I 1))) fun x143_29 =>
 some (.tup [z11_24, x143_29], h24)) (
 oB (oInt .u64 z1_24) fun x146_30 =>
 oB (binAV .mul .no z13_24 x146_30) fun x147_31 =>
 oB (oInt .u64 z16_24) fun x150_32 =>
 oB (bAdd x147_31 x150_32) fun x151_33 =>
 oB (bLt x151_33 x147_31) fun x154_34 =>
 oB (gq x154_34 false (some x151_33)) fun x156_35 =>
 oB (gq x154_34 false (some z11_24)) fun x157_36 =>
 oB (gq x154_34 false (bGt x156_35 x157_36)) fun x158_37 =>
 oB (oPick x154_34 (.bool true) x158_37) fun x159_38 =>
 ci x159_38 (
 oB (some (.iface 255 (I 1))) fun x161_39 =>
 some (.tup [z11_24, x161_39], h24)) (
 j20 z101_24 z100_24 z99_24 x151_33 z12_24 z11_24 z10_24 z9_24 z8_24 z1_24 h24)))) fun j24 =>
 oB (bEq .no x104_23 (U 95)) fun x108_40 =>
 oB (gq x108_40 true (some y8_18)) fun x110_41 =>
 oB (oPick x108_40 x110_41 (.bool false)) fun x111_42 =>
 ci x111_42 (
 j20 y101_18 y100_18 y99_18 y13_18 (.bool true) y11_18 y10_18 y9_18 y8_18 y1_18 h18) (
 oB (bLe (U 48) x104_23) fun x114_43 =>
 oB (gq x114_43 true (some x104_23)) fun x116_44 =>
 oB (gq x114_43 true (bLe x116_44 (U 57))) fun x117_45 =>
 oB (oPick x114_43 x117_45 (.bool false)) fun x118_46 =>
 jnF 11 (fun z101_47 z100_47 z99_47 z16_47 z13_47 z12_47 z11_47 z10_47 z9_47 z8_47 z1_47 h47 =>
 j24 z101_47 z100_47 z99_47 z16_47 z13_47 z12_47 z11_47 z10_47 z9_47 z8_47 z1_47 h47) fun j47 =>
 ci x118_46 (
 oB (bSub x104_23 (U 48)) fun x120_48 =>
 j47 y101_18 y100_18 y99_18 x120_48 y13_18 y12_18 y11_18 y10_18 y9_18 y8_18 y1_18 h18) (
 oP (call n_internal_strconv_lower [x104_23] h18) fun x123_49 h49 =>
 oB (bLe (U 97) x123_49) fun x124_50 =>
 oB (gq x124_50 true (some x104_23)) fun x126_51 =>
 oP (gw x124_50 true (call n_internal_strconv_lower [x126_51] h49) h49) fun x127_52 h52 =>
 oB (gq x124_50 true (bLe x127_52 (U 122))) fun x128_53 =>
 oB (oPick x124_50 x128_53 (.bool false)) fun x129_54 =>
 ci x129_54 (
 oP (call n_internal_strconv_lower [x104_23] h52) fun x131_55 h55 =>
 oB (bSub x131_55 (U 97)) fun x132_56 =>
 oB (bAdd x132_56 (U 10)) fun x133_57 =>
 j47 y101_18 y100_18 y99_18 x133_57 y13_18 y12_18 y11_18 y10_18 y9_18 y8_18 y1_18 h55) (
 oB (some (.iface 255 (I 2))) fun x105_58 =>
 some (.tup [(.int .u64 0), x105_58], h52))))) (
 j12 y13_18 y12_18 y9_18 h18)) (I 0) x100_11 x99_10 (.int .u64 0) (.bool false) x97_9 z10_6 z9_6 z8_6 z1_6 h10) fun j6 =>
 oB (bEq .no z1_5 (I 10)) fun x91_59 =>
 jnF 6 (fun z10_60 z9_60 z8_60 z2_60 z1_60 z0_60 h60 =>
 j6 z10_60 z9_60 z8_60 z2_60 z1_60 z0_60 h60) fun j60 =>
 ci x91_59 (
 j60 (.int .u64 1844674407370955162) z9_5 z8_5 z2_5 z1_5 z0_5 h5) (
 oB (bEq .no z1_5 (I 16)) fun x93_61 =>
 jnF 6 (fun z10_62 z9_62 z8_62 z2_62 z1_62 z0_62 h62 =>
 j60 z10_62 z9_62 z8_62 z2_62 z1_62 z0_62 h62) fun j62 =>
 ci x93_61 (
 j62 (.int .u64 1152921504606846976) z9_5 z8_5 z2_5 z1_5 z0_5 h5) (
 oB (oInt .u64 z1_5) fun x87_63 =>
 oB (binAV .quo .no (.int .u64 18446744073709551615) x87_63) fun x88_64 =>
 oB (bAdd x88_64 (.int .u64 1)) fun x89_65 =>
 j62 x89_65 z9_5 z8_5 z2_5 z1_5 z0_5 h5))) fun j5 =>
 ci x77_4 (
 j5 z9_3 z8_3 (I 64) z1_3 z0_3 h3) (
 oB (bLt z2_3 (I 0)) fun x79_66 =>
 oB (gq x79_66 false (some z2_3)) fun x81_67 =>
 oB (gq x79_66 false (bGt x81_67 (I 64))) fun x82_68 =>
 oB (oPick x79_66 (.bool true) x82_68) fun x83_69 =>
 ci x83_69 (
 oB (some (.iface 255 (I 4))) fun x84_70 =>
 some (.tup [(.int .u64 0), x84_70], h3)) (
 j5 z9_3 z8_3 z2_3 z1_3 z0_3 h3))) fun j3 =>
 oB (bLe (I 2) x1) fun x27_71 =>
 oB (gq x27_71 true (some x1)) fun x29_72 =>
 oB (gq x27_71 true (bLe x29_72 (I 36))) fun x30_73 =>
 oB (oPick x27_71 x30_73 (.bool false)) fun x31_74 =>
 jnF 5 (fun z9_75 z8_75 z2_75 z1_75 z0_75 h75 =>
 j3 z9_75 z8_75 z2_75 z1_75 z0_75 h75) fun j75 =>
 ci x31_74 (
 j75 x0 x22_2 x2 x1 x0 h) (
 oB (bEq .no x1 (I 0)) fun x34_76 =>
 ci x34_76 (
 oB (oIxS x0 (I 0)) fun x36_77 =>
 oB (bEq .no x36_77 (U 48)) fun x37_78 =>
 jnF 5 (fun z9_79 z8_79 z2_79 z1_79 z0_79 h79 =>
 j75 z9_79 z8_79 z2_79 z1_79 z0_79 h79) fun j79 =>
 ci x37_78 (
 jnF 5 (fun z9_80 z8_80 z2_80 z1_80 z0_80 h80 =>
 j79 z9_80 z8_80 z2_80 z1_80 z0_80 h80) fun j80 =>
 oB (oLenS x0) fun x42_81 =>
 oB (bGe x42_81 (I 3)) fun x43_82 =>
 oB (gq x43_82 true (some x0)) fun x45_83 =>
 oB (gq x43_82 true (oIxS x45_83 (I 1))) fun x46_84 =>
 oP (gw x43_82 true (call n_internal_strconv_lower [x46_84] h) h) fun x47_85 h85 =>
 oB (gq x43_82 true (bEq .no x47_85 (U 98))) fun x48_86 =>
 oB (oPick x43_82 x48_86 (.bool false)) fun x49_87 =>
 jnF 5 (fun z9_88 z8_88 z2_88 z1_88 z0_88 h88 =>
 j80 z9_88 z8_88 z2_88 z1_88 z0_88 h88) fun j88 =>
 ci x49_87 (
 oB (oSlS x0 (some (I 2)) none) fun x51_89 =>
 j88 x0 x22_2 x2 (I 2) x51_89 h85) (
 oB (oLenS x0) fun x54_90 =>
 oB (bGe x54_90 (I 3)) fun x55_91 =>
 oB (gq x55_91 true (some x0)) fun x57_92 =>
 oB (gq x55_91 true (oIxS x57_92 (I 1))) fun x58_93 =>
 oP (gw x55_91 true (call n_internal_strconv_lower [x58_93] h85) h85) fun x59_94 h94 =>
 oB (gq x55_91 true (bEq .no x59_94 (U 111))) fun x60_95 =>
 oB (oPick x55_91 x60_95 (.bool false)) fun x61_96 =>
 jnF 5 (fun z9_97 z8_97 z2_97 z1_97 z0_97 h97 =>
 j88 z9_97 z8_97 z2_97 z1_97 z0_97 h97) fun j97 =>
 ci x61_96 (
 oB (oSlS x0 (some (I 2)) none) fun x63_98 =>
 j97 x0 x22_2 x2 (I 8) x63_98 h94) (
 oB (oLenS x0) fun x66_99 =>
 oB (bGe x66_99 (I 3)) fun x67_100 =>
 oB (gq x67_100 true (some x0)) fun x69_101 =>
 oB (gq x67_100 true (oIxS x69_101 (I 1))) fun x70_102 =>
 oP (gw x67_100 true (call n_internal_strconv_lower [x70_102] h94) h94) fun x71_103 h103 =>
 oB (gq x67_100 true (bEq .no x71_103 (U 120))) fun x72_104 =>
 oB (oPick x67_100 x72_104 (.bool false)) fun x73_105 =>
 jnF 5 (fun z9_106 z8_106 z2_106 z1_106 z0_106 h106 =>
 j97 z9_106 z8_106 z2_106 z1_106 z0_106 h106) fun j106 =>
 ci x73_105 (
 oB (oSlS x0 (some (I 2)) none) fun x75_107 =>
 j106 x0 x22_2 x2 (I 16) x75_107 h103) (
 oB (oSlS x0 (some (I 1)) none) fun x39_108 =>
 j106 x0 x22_2 x2 (I 8) x39_108 h103)))) (
 j79 x0 x22_2 x2 (I 10) x0 h)) (
 oB (some (.iface 255 (I 3))) fun x24_109 =>
 some (.tup [(.int .u64 0), x24_109], h))))
theorem o_internal_strconv_ParseUint : FnOK Tryz.prog n_internal_strconv_ParseUint (a3 f_internal_strconv_ParseUint) := ok3 mixed Tryz.func280 (by kernel_rfl)
/- internal/stringslite.Clone -/
noncomputable def f_internal_stringslite_Clone (n : Nat) (call : Caller)  (x0 : AV) (h : AH) : Ans :=
 oB (oLenS x0) fun x5_0 =>
 oB (bEq .no x5_0 (I 0)) fun x6_1 =>
 ci x6_1 (
 some ((.str []), h)) (
 oB (oLenS x0) fun x8_2 =>
 oP (evW (.mkSlice 5 1 1 [(U 0)] (.c x8_2) (.c x8_2)) .e h) fun x9_3 h3 =>
 oP (evW (.copy 1 (.c x9_3) (.c x0)) .e h3) fun x12_4 h4 =>
 oB (oIx 1 x9_3 (I 0)) fun x14_5 =>
 oB (oLen x9_3) fun x16_6 =>
 oP (evW (.uStr 5 (.c x14_5) (.c x16_6)) .e h4) fun x17_7 h7 =>
 some (x17_7, h7))
theorem o_internal_stringslite_Clone : FnOK Tryz.prog n_internal_stringslite_Clone (a1 f_internal_stringslite_Clone) := ok1 mixed Tryz.func281 (by kernel_rfl)
/- errors.New -/
noncomputable def f_errors_New (n : Nat) (call : Caller)  (x0 : AV) (h : AH) : Ans :=
 oB (oBuild [(.str [])] [(0, 1, x0)]) fun x4_0 =>
 oP (oNew h 365 (AV.cells x4_0)) fun x5_1 h1 =>
 oB (some (.iface 363 x5_1)) fun x6_2 =>
 some (x6_2, h1)
theorem o_errors_New : FnOK Tryz.prog n_errors_New (a1 f_errors_New) := ok1 mixed Tryz.func282 (by kernel_rfl)
/- internal/strconv.small -/
noncomputable def f_internal_strconv_small (n : Nat) (call : Caller)  (x0 : AV) (h : AH) : Ans :=
 oB (bLt x0 (I 10)) fun x4_0 =>
 ci x4_0 (
 oB (bAdd x0 (I 1)) fun x7_1 =>
 oB (oSlS (.str [48, 49, 50, 51, 52, 53, 54, 55, 56, 57, 97, 98, 99, 100, 101, 102, 103, 104, 105, 106, 107, 108, 109, 110, 111, 112, 113, 114, 115, 116, 117, 118, 119, 120, 121, 122]) (some x0) (some x7_1)) fun x8_2 =>
 some (x8_2, h)) (
 oB (binAV .mul .no x0 (I 2)) fun x10_3 =>
 oB (binAV .mul .no x0 (I 2)) fun x12_4 =>
 oB (bAdd x12_4 (I 2)) fun x13_5 =>
 oB (oSlS (.str [48, 48, 48, 49, 48, 50, 48, 51, 48, 52, 48, 53, 48, 54, 48, 55, 48, 56, 48, 57, 49, 48, 49, 49, 49, 50, 49, 51, 49, 52, 49, 53, 49, 54, 49, 55, 49, 56, 49, 57, 50, 48, 50, 49, 50, 50, 50, 51, 50, 52, 50, 53, 50, 54, 50, 55, 50, 56, 50, 57, 51, 48, 51, 49, 51, 50, 51, 51, 51, 52, 51, 53, 51, 54, 51, 55, 51, 56, 51, 57, 52, 48, 52, 49, 52, 50, 52, 51, 52, 52, 52, 53, 52, 54, 52, 55, 52, 56, 52, 57, 53, 48, 53, 49, 53, 50, 53, 51, 53, 52, 53, 53, 53, 54, 53, 55, 53, 56, 53, 57, 54, 48, 54, 49, 54, 50, 54, 51, 54, 52, 54, 53, 54, 54, 54, 55, 54, 56, 54, 57, 55, 48, 55, 49, 55, 50, 55, 51, 55, 52, 55, 53, 55, 54, 55, 55, 55, 56, 55, 57, 56, 48, 56, 49, 56, 50, 56, 51, 56, 52, 56, 53, 56, 54, 56, 55, 56, 56, 56, 57, 57, 48, 57, 49, 57, 50, 57, 51, 57, 52, 57, 53, 57, 54, 57, 55, 57, 56, 57, 57]) (some x10_3) (some x13_5)) fun x14_6 =>
 some (x14_6, h))
theorem o_internal_strconv_small : FnOK Tryz.prog n_internal_strconv_small (a1 f_internal_strconv_small) := ok1 mixed Tryz.func283 (by kernel_rfl)
/- internal/strconv.numDigits -/
noncomputable def f_internal_strconv_numDigits (n : Nat) (call : Caller)  (x0 : AV) (h : AH) : Ans :=
 oP (call n_math_bits_Len64 [x0] h) fun x5_0 h0 =>
 oP (call n_internal_strconv_log10Pow2 [x5_0] h0) fun x6_1 h1 =>
 oB (evQ (.bad) .e h1) fun x10_2 =>
 oB (oLd h1 x10_2) fun x11_3 =>
 oB (bGe x0 x11_3) fun x12_4 =>
 oP (call n_internal_strconv_bool2_int [x12_4] h1) fun x13_5 h5 =>
 oB (bAdd x6_1 x13_5) fun x14_6 =>
 some (x14_6, h5)
theorem o_internal_strconv_numDigits : FnOK Tryz.prog n_internal_strconv_numDigits (a1 f_internal_strconv_numDigits) := ok1 mixed Tryz.func284 (by kernel_rfl)
/- internal/strconv.formatBase10 -/
noncomputable def f_internal_strconv_formatBase10 (n : Nat) (call : Caller)  (x0 x1 : AV) (h : AH) : Ans :=
 oB (oLen x0) fun x18_0 =>
 jnF 3 (fun z4_1 z1_1 z0_1 h1 =>
 oB (oInt .u32 z1_1) fun x97_2 =>
 oB (bGe z4_1 (I 4)) fun x99_3 =>
 jnF 3 (fun z12_4 z4_4 z0_4 h4 =>
 oB (bGe z4_4 (I 2)) fun x139_5 =>
 jnF 3 (fun z12_6 z4_6 z0_6 h6 =>
 oB (bGt z4_6 (I 0)) fun x161_7 =>
 jnF 0 (fun h8 =>
 some (.tup [], h8)) fun j8 =>
 ci x161_7 (
 oB (bAdd (.int .u32 48) z12_6) fun x164_9 =>
 oB (oInt .u8 x164_9) fun x165_10 =>
 oB (oIx 1 z0_6 (I 0)) fun x166_11 =>
 oP (oSt 1 h6 x166_11 x165_10) fun _ h12 =>
 j8 h12) (
 j8 h6)) fun j6 =>
 ci x139_5 (
 oB (binAV .rem .no z12_4 (.int .u32 100)) fun x141_13 =>
 oB (binAV .mul .no x141_13 (.int .u32 2)) fun x142_14 =>
 oB (binAV .quo .no z12_4 (.int .u32 100)) fun x144_15 =>
 oB' (nx 15 h4) fun h16 =>
 oB (bSub z4_4 (I 1)) fun x147_17 =>
 oB (bSub z4_4 (I 2)) fun x150_18 =>
 oB (bAdd x142_14 (.int .u32 1)) fun x152_19 =>
 oB (oIxS (.str [48, 48, 48, 49, 48, 50, 48, 51, 48, 52, 48, 53, 48, 54, 48, 55, 48, 56, 48, 57, 49, 48, 49, 49, 49, 50, 49, 51, 49, 52, 49, 53, 49, 54, 49, 55, 49, 56, 49, 57, 50, 48, 50, 49, 50, 50, 50, 51, 50, 52, 50, 53, 50, 54, 50, 55, 50, 56, 50, 57, 51, 48, 51, 49, 51, 50, 51, 51, 51, 52, 51, 53, 51, 54, 51, 55, 51, 56, 51, 57, 52, 48, 52, 49, 52, 50, 52, 51, 52, 52, 52, 53, 52, 54, 52, 55, 52, 56, 52, 57, 53, 48, 53, 49, 53, 50, 53, 51, 53, 52, 53, 53, 53, 54, 53, 55, 53, 56, 53, 57, 54, 48, 54, 49, 54, 50, 54, 51, 54, 52, 54, 53, 54, 54, 54, 55, 54, 56, 54, 57, 55, 48, 55, 49, 55, 50, 55, 51, 55, 52, 55, 53, 55, 54, 55, 55, 55, 56, 55, 57, 56, 48, 56, 49, 56, 50, 56, 51, 56, 52, 56, 53, 56, 54, 56, 55, 56, 56, 56, 57, 57, 48, 57, 49, 57, 50, 57, 51, 57, 52, 57, 53, 57, 54, 57, 55, 57, 56, 57, 57]) x152_19) fun x153_20 =>
 oB (oIxS (.str [48, 48, 48, 49, 48, 50, 48, 51, 48, 52, 48, 53, 48, 54, 48, 55, 48, 56, 48, 57, 49, 48, 49, 49, 49, 50, 49, 51, 49, 52, 49, 53, 49, 54, 49, 55, 49, 56, 49, 57, 50, 48, 50, 49, 50, 50, 50, 51, 50, 52, 50, 53, 50, 54, 50, 55, 50, 56, 50, 57, 51, 48, 51, 49, 51, 50, 51, 51, 51, 52, 51, 53, 51, 54, 51, 55, 51, 56, 51, 57, 52, 48, 52, 49, 52, 50, 52, 51, 52, 52, 52, 53, 52, 54, 52, 55, 52, 56, 52, 57, 53, 48, 53, 49, 53, 50, 53, 51, 53, 52, 53, 53, 53, 54, 53, 55, 53, 56, 53, 57, 54, 48, 54, 49, 54, 50, 54, 51, 54, 52, 54, 53, 54, 54, 54, 55, 54, 56, 54, 57, 55, 48, 55, 49, 55, 50, 55, 51, 55, 52, 55, 53, 55, 54, 55, 55, 55, 56, 55, 57, 56, 48, 56, 49, 56, 50, 56, 51, 56, 52, 56, 53, 56, 54, 56, 55, 56, 56, 56, 57, 57, 48, 57, 49, 57, 50, 57, 51, 57, 52, 57, 53, 57, 54, 57, 55, 57, 56, 57, 57]) x142_14) fun x155_21 =>
 oB (oIx 1 z0_4 x147_17) fun x156_22 =>
 oP (oSt 1 h16 x156_22 x153_20) fun _ h23 =>
 oB (oIx 1 z0_4 x150_18) fun x157_24 =>
 oP (oSt 1 h23 x157_24 x155_21) fun _ h25 =>
 oB (bSub z4_4 (I 2)) fun x159_26 =>
 j6 x144_15 x159_26 z0_4 h25) (
 j6 z12_4 z4_4 z0_4 h4)) fun j4 =>
 ci x99_3 (
 oB (binAV .rem .no x97_2 (.int .u32 10000)) fun x101_27 =>
 oB (binAV .quo .no x97_2 (.int .u32 10000)) fun x103_28 =>
 oB (binAV .quo .no x101_27 (.int .u32 100)) fun x105_29 =>
 oB (binAV .mul .no x105_29 (.int .u32 2)) fun x106_30 =>
 oB (binAV .rem .no x101_27 (.int .u32 100)) fun x108_31 =>
 oB (binAV .mul .no x108_31 (.int .u32 2)) fun x109_32 =>
 oB' (nx 15 h1) fun h33 =>
 oB (bSub z4_1 (I 1)) fun x112_34 =>
 oB (bSub z4_1 (I 2)) fun x115_35 =>
 oB (bAdd x109_32 (.int .u32 1)) fun x117_36 =>
 oB (oIxS (.str [48, 48, 48, 49, 48, 50, 48, 51, 48, 52, 48, 53, 48, 54, 48, 55, 48, 56, 48, 57, 49, 48, 49, 49, 49, 50, 49, 51, 49, 52, 49, 53, 49, 54, 49, 55, 49, 56, 49, 57, 50, 48, 50, 49, 50, 50, 50, 51, 50, 52, 50, 53, 50, 54, 50, 55, 50, 56, 50, 57, 51, 48, 51, 49, 51, 50, 51, 51, 51, 52, 51, 53, 51, 54, 51, 55, 51, 56, 51, 57, 52, 48, 52, 49, 52, 50, 52, 51, 52, 52, 52, 53, 52, 54, 52, 55, 52, 56, 52, 57, 53, 48, 53, 49, 53, 50, 53, 51, 53, 52, 53, 53, 53, 54, 53, 55, 53, 56, 53, 57, 54, 48, 54, 49, 54, 50, 54, 51, 54, 52, 54, 53, 54, 54, 54, 55, 54, 56, 54, 57, 55, 48, 55, 49, 55, 50, 55, 51, 55, 52, 55, 53, 55, 54, 55, 55, 55, 56, 55, 57, 56, 48, 56, 49, 56, 50, 56, 51, 56, 52, 56, 53, 56, 54, 56, 55, 56, 56, 56, 57, 57, 48, 57, 49, 57, 50, 57, 51, 57, 52, 57, 53, 57, 54, 57, 55, 57, 56, 57, 57]) x117_36) fun x118_37 =>
 oB (oIxS (.str [48, 48, 48, 49, 48, 50, 48, 51, 48, 52, 48, 53, 48, 54, 48, 55, 48, 56, 48, 57, 49, 48, 49, 49, 49, 50, 49, 51, 49, 52, 49, 53, 49, 54, 49, 55, 49, 56, 49, 57, 50, 48, 50, 49, 50, 50, 50, 51, 50, 52, 50, 53, 50, 54, 50, 55, 50, 56, 50, 57, 51, 48, 51, 49, 51, 50, 51, 51, 51, 52, 51, 53, 51, 54, 51, 55, 51, 56, 51, 57, 52, 48, 52, 49, 52, 50, 52, 51, 52, 52, 52, 53, 52, 54, 52, 55, 52, 56, 52, 57, 53, 48, 53, 49, 53, 50, 53, 51, 53, 52, 53, 53, 53, 54, 53, 55, 53, 56, 53, 57, 54, 48, 54, 49, 54, 50, 54, 51, 54, 52, 54, 53, 54, 54, 54, 55, 54, 56, 54, 57, 55, 48, 55, 49, 55, 50, 55, 51, 55, 52, 55, 53, 55, 54, 55, 55, 55, 56, 55, 57, 56, 48, 56, 49, 56, 50, 56, 51, 56, 52, 56, 53, 56, 54, 56, 55, 56, 56, 56, 57, 57, 48, 57, 49, 57, 50, 57, 51, 57, 52, 57, 53, 57, 54, 57, 55, 57, 56, 57, 57]) x109_32) fun x120_38 =>
 oB (oIx 1 z0_1 x112_34) fun x121_39 =>
 oP (oSt 1 h33 x121_39 x118_37) fun _ h40 =>
 oB (oIx 1 z0_1 x115_35) fun x122_41 =>
 oP (oSt 1 h40 x122_41 x120_38) fun _ h42 =>
 oB' (nx 15 h42) fun h43 =>
 oB (bSub z4_1 (I 3)) fun x125_44 =>
 oB (bSub z4_1 (I 4)) fun x128_45 =>
 oB (bAdd x106_30 (.int .u32 1)) fun x130_46 =>
 oB (oIxS (.str [48, 48, 48, 49, 48, 50, 48, 51, 48, 52, 48, 53, 48, 54, 48, 55, 48, 56, 48, 57, 49, 48, 49, 49, 49, 50, 49, 51, 49, 52, 49, 53, 49, 54, 49, 55, 49, 56, 49, 57, 50, 48, 50, 49, 50, 50, 50, 51, 50, 52, 50, 53, 50, 54, 50, 55, 50, 56, 50, 57, 51, 48, 51, 49, 51, 50, 51, 51, 51, 52, 51, 53, 51, 54, 51, 55, 51, 56, 51, 57, 52, 48, 52, 49, 52, 50, 52, 51, 52, 52, 52, 53, 52, 54, 52, 55, 52, 56, 52, 57, 53, 48, 53, 49, 53, 50, 53, 51, 53, 52, 53, 53, 53, 54, 53, 55, 53, 56, 53, 57, 54, 48, 54, 49, 54, 50, 54, 51, 54, 52, 54, 53, 54, 54, 54, 55, 54, 56, 54, 57, 55, 48, 55, 49, 55, 50, 55, 51, 55, 52, 55, 53, 55, 54, 55, 55, 55, 56, 55, 57, 56, 48, 56, 49, 56, 50, 56, 51, 56, 52, 56, 53, 56, 54, 56, 55, 56, 56, 56, 57, 57, 48, 57, 49, 57, 50, 57, 51, 57, 52, 57, 53, 57, 54, 57, 55, 57, 56, 57, 57]) x130_46) fun x131_47 =>
 oB (oIxS (.str [48, 48, 48, 49, 48, 50, 48, 51, 48, 52, 48, 53, 48, 54, 48, 55, 48, 56, 48, 57, 49, 48, 49, 49, 49, 50, 49, 51, 49, 52, 49, 53, 49, 54, 49, 55, 49, 56, 49, 57, 50, 48, 50, 49, 50, 50, 50, 51, 50, 52, 50, 53, 50, 54, 50, 55, 50, 56, 50, 57, 51, 48, 51, 49, 51, 50, 51, 51, 51, 52, 51, 53, 51, 54, 51, 55, 51, 56, 51, 57, 52, 48, 52, 49, 52, 50, 52, 51, 52, 52, 52, 53, 52, 54, 52, 55, 52, 56, 52, 57, 53, 48, 53, 49, 53, 50, 53, 51, 53, 52, 53, 53, 53, 54, 53, 55, 53, 56, 53, 57, 54, 48, 54, 49, 54, 50, 54, 51, 54, 52, 54, 53, 54, 54, 54, 55, 54, 56, 54, 57, 55, 48, 55, 49, 55, 50, 55, 51, 55, 52, 55, 53, 55, 54, 55, 55, 55, 56, 55, 57, 56, 48, 56, 49, 56, 50, 56, 51, 56, 52, 56, 53, 56, 54, 56, 55, 56, 56, 56, 57, 57, 48, 57, 49, 57, 50, 57, 51, 57, 52, 57, 53, 57, 54, 57, 55, 57, 56, 57, 57]) x106_30) fun x133_48 =>
 oB (oIx 1 z0_1 x125_44) fun x134_49 =>
 oP (oSt 1 h43 x134_49 x131_47) fun _ h50 =>
 oB (oIx 1 z0_1 x128_45) fun x135_51 =>
 oP (oSt 1 h50 x135_51 x133_48) fun _ h52 =>
 oB (bSub z4_1 (I 4)) fun x137_53 =>
 j4 x103_28 x137_53 z0_1 h52) (
 j4 x97_2 z4_1 z0_1 h1)) fun j1 =>
 lpF 3 n (fun f54 y4_54 y1_54 y0_54 h54 =>
 oB (bGe y4_54 (I 8)) fun x20_55 =>
 ci x20_55 (
 jnF 3 (fun z4_56 z1_56 z0_56 h56 =>
 f54 z4_56 z1_56 z0_56 h56) fun j56 =>
 oB (binAV .rem .no y1_54 (.int .u64 100000000)) fun x22_57 =>
 oB (oInt .u32 x22_57) fun x23_58 =>
 oB (binAV .quo .no y1_54 (.int .u64 100000000)) fun x25_59 =>
 oB (binAV .quo .no x23_58 (.int .u32 10000)) fun x27_60 =>
 oB (binAV .rem .no x23_58 (.int .u32 10000)) fun x29_61 =>
 oB (binAV .quo .no x29_61 (.int .u32 100)) fun x31_62 =>
 oB (binAV .mul .no x31_62 (.int .u32 2)) fun x32_63 =>
 oB (binAV .rem .no x29_61 (.int .u32 100)) fun x34_64 =>
 oB (binAV .mul .no x34_64 (.int .u32 2)) fun x35_65 =>
 oB (binAV .quo .no x27_60 (.int .u32 100)) fun x37_66 =>
 oB (binAV .mul .no x37_66 (.int .u32 2)) fun x38_67 =>
 oB (binAV .rem .no x27_60 (.int .u32 100)) fun x40_68 =>
 oB (binAV .mul .no x40_68 (.int .u32 2)) fun x41_69 =>
 oB' (nx 15 h54) fun h70 =>
 oB (bSub y4_54 (I 1)) fun x44_71 =>
 oB (bSub y4_54 (I 2)) fun x47_72 =>
 oB (bAdd x35_65 (.int .u32 1)) fun x49_73 =>
 oB (oIxS (.str [48, 48, 48, 49, 48, 50, 48, 51, 48, 52, 48, 53, 48, 54, 48, 55, 48, 56, 48, 57, 49, 48, 49, 49, 49, 50, 49, 51, 49, 52, 49, 53, 49, 54, 49, 55, 49, 56, 49, 57, 50, 48, 50, 49, 50, 50, 50, 51, 50, 52, 50, 53, 50, 54, 50, 55, 50, 56, 50, 57, 51, 48, 51, 49, 51, 50, 51, 51, 51, 52, 51, 53, 51, 54, 51, 55, 51, 56, 51, 57, 52, 48, 52, 49, 52, 50, 52, 51, 52, 52, 52, 53, 52, 54, 52, 55, 52, 56, 52, 57, 53, 48, 53, 49, 53, 50, 53, 51, 53, 52, 53, 53, 53, 54, 53, 55, 53, 56, 53, 57, 54, 48, 54, 49, 54, 50, 54, 51, 54, 52, 54, 53, 54, 54, 54, 55, 54, 56, 54, 57, 55, 48, 55, 49, 55, 50, 55, 51, 55, 52, 55, 53, 55, 54, 55, 55, 55, 56, 55, 57, 56, 48, 56, 49, 56, 50, 56, 51, 56, 52, 56, 53, 56, 54, 56, 55, 56, 56, 56, 57, 57, 48, 57, 49, 57, 50, 57, 51, 57, 52, 57, 53, 57, 54, 57, 55, 57, 56, 57, 57]) x49_73) fun x50_74 =>
 oB (oIxS (.str [48, 48, 48, 49, 48, 50, 48, 51, 48, 52, 48, 53, 48, 54, 48, 55, 48, 56, 48, 57, 49, 48, 49, 49, 49, 50, 49, 51, 49, 52, 49, 53, 49, 54, 49, 55, 49, 56, 49, 57, 50, 48, 50, 49, 50, 50, 50, 51, 50, 52, 50, 53, 50, 54, 50, 55, 50, 56, 50, 57, 51, 48, 51, 49, 51, 50, 51, 51, 51, 52, 51, 53, 51, 54, 51, 55, 51, 56, 51, 57, 52, 48, 52, 49, 52, 50, 52, 51, 52, 52, 52, 53, 52, 54, 52, 55, 52, 56, 52, 57, 53, 48, 53, 49, 53, 50, 53, 51, 53, 52, 53, 53, 53, 54, 53, 55, 53, 56, 53, 57, 54, 48, 54, 49, 54, 50, 54, 51, 54, 52, 54, 53, 54, 54, 54, 55, 54, 56, 54, 57, 55, 48, 55, 49, 55, 50, 55, 51, 55, 52, 55, 53, 55, 54, 55, 55, 55, 56, 55, 57, 56, 48, 56, 49, 56, 50, 56, 51, 56, 52, 56, 53, 56, 54, 56, 55, 56, 56, 56, 57, 57, 48, 57, 49, 57, 50, 57, 51, 57, 52, 57, 53, 57, 54, 57, 55, 57, 56, 57, 57]) x35_65) fun x52_75 =>
 oB (oIx 1 y0_54 x44_71) fun x53_76 =>
 oP (oSt 1 h70 x53_76 x50_74) fun _ h77 =>
 oB (oIx 1 y0_54 x47_72) fun x54_78 =>
 oP (oSt 1 h77 x54_78 x52_75) fun _ h79 =>
 oB' (nx 15 h79) fun h80 =>
 oB (bSub y4_54 (I 3)) fun x57_81 =>
 oB (bSub y4_54 (I 4)) fun x60_82 =>
 oB (bAdd x32_63 (.int .u32 1)) fun x62_83 =>
 oB (oIxS (.str [48, 48, 48, 49, 48, 50, 48, 51, 48, 52, 48, 53, 48, 54, 48, 55, 48, 56, 48, 57, 49, 48, 49, 49, 49, 50, 49, 51, 49, 52, 49, 53, 49, 54, 49, 55, 49, 56, 49, 57, 50, 48, 50, 49, 50, 50, 50, 51, 50, 52, 50, 53, 50, 54, 50, 55, 50, 56, 50, 57, 51, 48, 51, 49, 51, 50, 51, 51, 51, 52, 51, 53, 51, 54, 51, 55, 51, 56, 51, 57, 52, 48, 52, 49, 52, 50, 52, 51, 52, 52, 52, 53, 52, 54, 52, 55, 52, 56, 52, 57, 53, 48, 53, 49, 53, 50, 53, 51, 53, 52, 53, 53, 53, 54, 53, 55, 53, 56, 53, 57, 54, 48, 54, 49, 54, 50, 54, 51, 54, 52, 54, 53, 54, 54, 54, 55, 54, 56, 54, 57, 55, 48, 55, 49, 55, 50, 55, 51, 55, 52, 55, 53, 55, 54, 55, 55, 55, 56, 55, 57, 56, 48, 56, 49, 56, 50, 56, 51, 56, 52, 56, 53, 56, 54, 56, 55, 56, 56, 56, 57, 57, 48, 57, 49, 57, 50, 57, 51, 57, 52, 57, 53, 57, 54, 57, 55, 57, 56, 57, 57]) x62_83) fun x63_84 =>
 oB (oIxS (.str [48, 48, 48, 49, 48, 50, 48, 51, 48, 52, 48, 53, 48, 54, 48, 55, 48, 56, 48, 57, 49, 48, 49, 49, 49, 50, 49, 51, 49, 52, 49, 53, 49, 54, 49, 55, 49, 56, 49, 57, 50, 48, 50, 49, 50, 50, 50, 51, 50, 52, 50, 53, 50, 54, 50, 55, 50, 56, 50, 57, 51, 48, 51, 49, 51, 50, 51, 51, 51, 52, 51, 53, 51, 54, 51, 55, 51, 56, 51, 57, 52, 48, 52, 49, 52, 50, 52, 51, 52, 52, 52, 53, 52, 54, 52, 55, 52, 56, 52, 57, 53, 48, 53, 49, 53, 50, 53, 51, 53, 52, 53, 53, 53, 54, 53, 55, 53, 56, 53, 57, 54, 48, 54, 49, 54, 50, 54, 51, 54, 52, 54, 53, 54, 54, 54, 55, 54, 56, 54, 57, 55, 48, 55, 49, 55, 50, 55, 51, 55, 52, 55, 53, 55, 54, 55, 55, 55, 56, 55, 57, 56, 48, 56, 49, 56, 50, 56, 51, 56, 52, 56, 53, 56, 54, 56, 55, 56, 56, 56, 57, 57, 48, 57, 49, 57, 50, 57, 51, 57, 52, 57, 53, 57, 54, 57, 55, 57, 56, 57, 57]) x32_63) fun x65_85 =>
 oB (oIx 1 y0_54 x57_81) fun x66_86 =>
 oP (oSt 1 h80 x66_86 x63_84) fun _ h87 =>
 oB (oIx 1 y0_54 x60_82) fun x67_88 =>
 oP (oSt 1 h87 x67_88 x65_85) fun _ h89 =>
 oB' (nx 15 h89) fun h90 =>
 oB (bSub y4_54 (I 5)) fun x70_91 =>
 oB (bSub y4_54 (I 6)) fun x73_92 =>
 oB (bAdd x41_69 (.int .u32 1)) fun x75_93 =>
 oB (oIxS (.str [48, 48, 48, 49, 48, 50, 48, 51, 48, 52, 48, 53, 48, 54, 48, 55, 48, 56, 48, 57, 49, 48, 49, 49, 49, 50, 49, 51, 49, 52, 49, 53, 49, 54, 49, 55, 49, 56, 49, 57, 50, 48, 50, 49, 50, 50, 50, 51, 50, 52, 50, 53, 50, 54, 50, 55, 50, 56, 50, 57, 51, 48, 51, 49, 51, 50, 51, 51, 51, 52, 51, 53, 51, 54, 51, 55, 51, 56, 51, 57, 52, 48, 52, 49, 52, 50, 52, 51, 52, 52, 52, 53, 52, 54, 52, 55, 52, 56, 52, 57, 53, 48, 53, 49, 53, 50, 53, 51, 53, 52, 53, 53, 53, 54, 53, 55, 53, 56, 53, 57, 54, 48, 54, 49, 54, 50, 54, 51, 54, 52, 54, 53, 54, 54, 54, 55, 54, 56, 54, 57, 55, 48, 55, 49, 55, 50, 55, 51, 55, 52, 55, 53, 55, 54, 55, 55, 55, 56, 55, 57, 56, 48, 56, 49, 56, 50, 56, 51, 56, 52, 56, 53, 56, 54, 56, 55, 56, 56, 56, 57, 57, 48, 57, 49, 57, 50, 57, 51, 57, 52, 57, 53, 57, 54, 57, 55, 57, 56, 57, 57]) x75_93) fun x76_94 =>
 oB (oIxS (.str [48, 48, 48, 49, 48, 50, 48, 51, 48, 52, 48, 53, 48, 54, 48, 55, 48, 56, 48, 57, 49, 48, 49, 49, 49, 50, 49, 51, 49, 52, 49, 53, 49, 54, 49, 55, 49, 56, 49, 57, 50, 48, 50, 49, 50, 50, 50, 51, 50, 52, 50, 53, 50, 54, 50, 55, 50, 56, 50, 57, 51, 48, 51, 49, 51, 50, 51, 51, 51, 52, 51, 53, 51, 54, 51, 55, 51, 56, 51, 57, 52, 48, 52, 49, 52, 50, 52, 51, 52, 52, 52, 53, 52, 54, 52, 55, 52, 56, 52, 57, 53, 48, 53, 49, 53, 50, 53, 51, 53, 52, 53, 53, 53, 54, 53, 55, 53, 56, 53, 57, 54, 48, 54, 49, 54, 50, 54, 51, 54, 52, 54, 53, 54, 54, 54, 55, 54, 56, 54, 57, 55, 48, 55, 49, 55, 50, 55, 51, 55, 52, 55, 53, 55, 54, 55, 55, 55, 56, 55, 57, 56, 48, 56, 49, 56, 50, 56, 51, 56, 52, 56, 53, 56, 54, 56, 55, 56, 56, 56, 57, 57, 48, 57, 49, 57, 50, 57, 51, 57, 52, 57, 53, 57, 54, 57, 55, 57, 56, 57, 57]) x41_69) fun x78_95 =>
 oB (oIx 1 y0_54 x70_91) fun x79_96 =>
 oP (oSt 1 h90 x79_96 x76_94) fun _ h97 =>
 oB (oIx 1 y0_54 x73_92) fun x80_98 =>
 oP (oSt 1 h97 x80_98 x78_95) fun _ h99 =>
 oB' (nx 15 h99) fun h100 =>
 oB (bSub y4_54 (I 7)) fun x83_101 =>
 oB (bSub y4_54 (I 8)) fun x86_102 =>
 oB (bAdd x38_67 (.int .u32 1)) fun x88_103 =>
 oB (oIxS (.str [48, 48, 48, 49, 48, 50, 48, 51, 48, 52, 48, 53, 48, 54, 48, 55, 48, 56, 48, 57, 49, 48, 49, 49, 49, 50, 49, 51, 49, 52, 49, 53, 49, 54, 49, 55, 49, 56, 49, 57, 50, 48, 50, 49, 50, 50, 50, 51, 50, 52, 50, 53, 50, 54, 50, 55, 50, 56, 50, 57, 51, 48, 51, 49, 51, 50, 51, 51, 51, 52, 51, 53, 51, 54, 51, 55, 51, 56, 51, 57, 52, 48, 52, 49, 52, 50, 52, 51, 52, 52, 52, 53, 52, 54, 52, 55, 52, 56, 52, 57, 53, 48, 53, 49, 53, 50, 53, 51, 53, 52, 53, 53, 53, 54, 53, 55, 53, 56, 53, 57, 54, 48, 54, 49, 54, 50, 54, 51, 54, 52, 54, 53, 54, 54, 54, 55, 54, 56, 54, 57, 55, 48, 55, 49, 55, 50, 55, 51, 55, 52, 55, 53, 55, 54, 55, 55, 55, 56, 55, 57, 56, 48, 56, 49, 56, 50, 56, 51, 56, 52, 56, 53, 56, 54, 56, 55, 56, 56, 56, 57, 57, 48, 57, 49, 57, 50, 57, 51, 57, 52, 57, 53, 57, 54, 57, 55, 57, 56, 57, 57]) x88_103) fun x89_104 =>
 oB (oIxS (.str [48, 48, 48, 49, 48, 50, 48, 51, 48, 52, 48, 53, 48, 54, 48, 55, 48, 56, 48, 57, 49, 48, 49, 49, 49, 50, 49, 51, 49, 52, 49, 53, 49, 54, 49, 55, 49, 56, 49, 57, 50, 48, 50, 49, 50, 50, 50, 51, 50, 52, 50, 53, 50, 54, 50, 55, 50, 56, 50, 57, 51, 48, 51, 49, 51, 50, 51, 51, 51, 52, 51, 53, 51, 54, 51, 55, 51, 56, 51, 57, 52, 48, 52, 49, 52, 50, 52, 51, 52, 52, 52, 53, 52, 54, 52, 55, 52, 56, 52, 57, 53, 48, 53, 49, 53, 50, 53, 51, 53, 52, 53, 53, 53, 54, 53, 55, 53, 56, 53, 57, 54, 48, 54, 49, 54, 50, 54, 51, 54, 52, 54, 53, 54, 54, 54, 55, 54, 56, 54, 57, 55, 48, 55, 49, 55, 50, 55, 51, 55, 52, 55, 53, 55, 54, 55, 55, 55, 56, 55, 57, 56, 48, 56, 49, 56, 50, 56, 51, 56, 52, 56, 53, 56, 54, 56, 55, 56, 56, 56, 57, 57, 48, 57, 49, 57, 50, 57, 51, 57, 52, 57, 53, 57, 54, 57, 55, 57, 56, 57, 57]) x38_67) fun x91_105 =>
 oB (oIx 1 y0_54 x83_101) fun x92_106 =>
 oP (oSt 1 h100 x92_106 x89_104) fun _ h107 =>
 oB (oIx 1 y0_54 x86_102) fun x93_108 =>
 oP (oSt 1 h107 x93_108 x91_105) fun _ h109 =>
 oB (bSub y4_54 (I 8)) fun x95_110 =>
 j56 x95_110 x25_59 y0_54 h109) (
 j1 y4_54 y1_54 y0_54 h54)) x18_0 x1 x0 h
theorem o_internal_strconv_formatBase10 : FnOK Tryz.prog n_internal_strconv_formatBase10 (a2 f_internal_strconv_formatBase10) := ok2 mixed Tryz.func285 (by kernel_rfl)
end Go.Proofs.YtmlhpcflphlgdaaGreatDoor
