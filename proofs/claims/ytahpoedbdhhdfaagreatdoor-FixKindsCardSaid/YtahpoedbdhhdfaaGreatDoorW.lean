/- FixKinds: whatever its number, one of 13 runs. -/
import Derived.Test.YtahpoedbdhhdfaaGreatDoorK
import Derived.Test.YtahpoedbdhhdfaaGreatDoorEv5
import Derived.Test.YtahpoedbdhhdfaaGreatDoorC0
import Derived.Test.YtahpoedbdhhdfaaGreatDoorC1
import Derived.Test.YtahpoedbdhhdfaaGreatDoorC2
import Derived.Test.YtahpoedbdhhdfaaGreatDoorC3
import Derived.Test.YtahpoedbdhhdfaaGreatDoorC4
import Derived.Test.YtahpoedbdhhdfaaGreatDoorC5
import Derived.Test.YtahpoedbdhhdfaaGreatDoorC6
import Derived.Test.YtahpoedbdhhdfaaGreatDoorC7
import Derived.Test.YtahpoedbdhhdfaaGreatDoorC8
import Derived.Test.YtahpoedbdhhdfaaGreatDoorC9
import Derived.Test.YtahpoedbdhhdfaaGreatDoorC10
import Derived.Test.YtahpoedbdhhdfaaGreatDoorC11
import Derived.Test.YtahpoedbdhhdfaaGreatDoorC12
set_option linter.unusedVariables false
set_option maxRecDepth 100000
namespace Go.Proofs.YtahpoedbdhhdfaaGreatDoor.fixKinds
open Go.Ev
theorem tab_known : tabK n_correctorlaw21_known = some (closedF true) := by kernel_rfl
theorem tab_within : tabK n_correctorlaw21_within = some (a2 f_correctorlaw21_within) := by kernel_rfl
theorem tab_law : tabK n_correctorlaw21_FixKinds = some (a1 f_correctorlaw21_FixKinds) := by kernel_rfl
theorem within_eq (n : Nat) (a : Int) (m : Nat) (hm : 0 < m) (hm2 : m < 1000000) : ∃ k : Nat, k < m ∧ ∀ h, callK tabK (n + 1) n_correctorlaw21_within [.int .i64 a, I m] h = some (I k, h) := by
  obtain ⟨k, hk, e⟩ := within_math a m hm hm2
  refine ⟨k, hk, fun h => ?_⟩
  rw [callK_at tab_within]
  exact e (fun v => some (v, h))
theorem within_same (n : Nat) (k : Nat) (hk : k < 13) (h : AH) : callK tabK (n + 1) n_correctorlaw21_within [I k, I 13] h = some (I k, h) := by
  rw [callK_at tab_within]
  have : k = 0 ∨ k = 1 ∨ k = 2 ∨ k = 3 ∨ k = 4 ∨ k = 5 ∨ k = 6 ∨ k = 7 ∨ k = 8 ∨ k = 9 ∨ k = 10 ∨ k = 11 ∨ k = 12 := by omega
  rcases this with rfl | rfl | rfl | rfl | rfl | rfl | rfl | rfl | rfl | rfl | rfl | rfl | rfl <;> rfl
theorem law_same (n : Nat) (call : Caller) (x0 y0 : AV) (h : AH) (hk : ∀ h, call n_correctorlaw21_known [] h = some (.bool true, h))
    (hw : ∀ h, call n_correctorlaw21_within [x0, I 13] h = call n_correctorlaw21_within [y0, I 13] h) : f_correctorlaw21_FixKinds n call x0 h = f_correctorlaw21_FixKinds n call y0 h := by
  unfold f_correctorlaw21_FixKinds
  rw [hk, oP_some, oP_some, evQ_not_true, oB_some, oB_some, ci_false, ci_false]
  refine oP_congr fun v h1 e1 => oP_congr fun v2 h2 e2 => ?_
  rw [oLen_built e1, oB_some, oB_some, hw]
theorem law_run (a : Int) : boolOf (callK tabK 1000000 n_correctorlaw21_FixKinds [.int .i64 a] ⟨.e, 10⟩) = some true := by
  obtain ⟨k, hk, e⟩ := within_eq 999998 a 13 (by omega) (by omega)
  have hs : callK tabK 1000000 n_correctorlaw21_FixKinds [.int .i64 a] ⟨.e, 10⟩ = callK tabK 1000000 n_correctorlaw21_FixKinds [I k] ⟨.e, 10⟩ := by
    rw [callK_at (n := 999999) tab_law, callK_at (n := 999999) tab_law]
    exact law_same 999999 (callK tabK 999999) (.int .i64 a) (I k) ⟨.e, 10⟩ (fun h => by rw [callK_at (n := 999998) tab_known]; rfl) (fun h => by rw [e, within_same _ k hk])
  rw [hs]
  have : k = 0 ∨ k = 1 ∨ k = 2 ∨ k = 3 ∨ k = 4 ∨ k = 5 ∨ k = 6 ∨ k = 7 ∨ k = 8 ∨ k = 9 ∨ k = 10 ∨ k = 11 ∨ k = 12 := by omega
  rcases this with rfl | rfl | rfl | rfl | rfl | rfl | rfl | rfl | rfl | rfl | rfl | rfl | rfl
  · exact case_run0
  · exact case_run1
  · exact case_run2
  · exact case_run3
  · exact case_run4
  · exact case_run5
  · exact case_run6
  · exact case_run7
  · exact case_run8
  · exact case_run9
  · exact case_run10
  · exact case_run11
  · exact case_run12
theorem law_calls (a : Int) (w : World) : Calls Tryz.prog 3 #[.int .i64 a] w fun e w' => e = .returned (.bool true) ∧ Go.RowKit.Below w.heap.size w w' := by
  have h := (calls_of_run (callK_sound tabK_ok 1000000) (law_run a)).2 w [.int .i64 a] (by simp [VRL, VR])
  exact h
end Go.Proofs.YtahpoedbdhhdfaaGreatDoor.fixKinds
