/- ShellFixes: whatever its number, one of 3 runs. -/
import Derived.Test.YtmlhpcflphlgdaaGreatDoorK
import Derived.Test.YtmlhpcflphlgdaaGreatDoorEv5
import Derived.Test.YtmlhpcflphlgdaaGreatDoorFxC0
import Derived.Test.YtmlhpcflphlgdaaGreatDoorFxC1
import Derived.Test.YtmlhpcflphlgdaaGreatDoorFxC2
set_option linter.unusedVariables false
set_option maxRecDepth 100000
namespace Go.Proofs.YtmlhpcflphlgdaaGreatDoor.shellFixes
open Go.Ev
theorem tab_known : tabK n_correctorlaw22_known = some (closedF true) := by kernel_rfl
theorem tab_within : tabK n_correctorlaw22_within = some (a2 f_correctorlaw22_within) := by kernel_rfl
theorem tab_law : tabK n_correctorlaw22_ShellFixes = some (a1 f_correctorlaw22_ShellFixes) := by kernel_rfl
theorem within_eq (n : Nat) (a : Int) (m : Nat) (hm : 0 < m) (hm2 : m < 1000000) : ∃ k : Nat, k < m ∧ ∀ h, callK tabK (n + 1) n_correctorlaw22_within [.int .i64 a, I m] h = some (I k, h) := by
  obtain ⟨k, hk, e⟩ := within_math a m hm hm2
  refine ⟨k, hk, fun h => ?_⟩
  rw [callK_at tab_within]
  exact e (fun v => some (v, h))
theorem within_same (n : Nat) (k : Nat) (hk : k < 3) (h : AH) : callK tabK (n + 1) n_correctorlaw22_within [I k, I 3] h = some (I k, h) := by
  rw [callK_at tab_within]
  have : k = 0 ∨ k = 1 ∨ k = 2 := by omega
  rcases this with rfl | rfl | rfl <;> rfl
theorem law_same (n : Nat) (call : Caller) (x0 y0 : AV) (h : AH) (hk : ∀ h, call n_correctorlaw22_known [] h = some (.bool true, h))
    (hw : ∀ h, call n_correctorlaw22_within [x0, I 3] h = call n_correctorlaw22_within [y0, I 3] h) : f_correctorlaw22_ShellFixes n call x0 h = f_correctorlaw22_ShellFixes n call y0 h := by
  unfold f_correctorlaw22_ShellFixes
  rw [hk, oP_some, oP_some, evQ_not_true, oB_some, oB_some, ci_false, ci_false, hw]
theorem law_run (a : Int) : boolOf (callK tabK 1000000 n_correctorlaw22_ShellFixes [.int .i64 a] ⟨.e, 10⟩) = some true := by
  obtain ⟨k, hk, e⟩ := within_eq 999998 a 3 (by omega) (by omega)
  have hs : callK tabK 1000000 n_correctorlaw22_ShellFixes [.int .i64 a] ⟨.e, 10⟩ = callK tabK 1000000 n_correctorlaw22_ShellFixes [I k] ⟨.e, 10⟩ := by
    rw [callK_at (n := 999999) tab_law, callK_at (n := 999999) tab_law]
    exact law_same 999999 (callK tabK 999999) (.int .i64 a) (I k) ⟨.e, 10⟩ (fun h => by rw [callK_at (n := 999998) tab_known]; rfl) (fun h => by rw [e, within_same _ k hk])
  rw [hs]
  have : k = 0 ∨ k = 1 ∨ k = 2 := by omega
  rcases this with rfl | rfl | rfl
  · exact case_run0
  · exact case_run1
  · exact case_run2
theorem law_calls (a : Int) (w : World) : Calls Tryz.prog 4 #[.int .i64 a] w fun e w' => e = .returned (.bool true) ∧ Go.RowKit.Below w.heap.size w w' := by
  have h := (calls_of_run (callK_sound tabK_ok 1000000) (law_run a)).2 w [.int .i64 a] (by simp [VRL, VR])
  exact h
end Go.Proofs.YtmlhpcflphlgdaaGreatDoor.shellFixes
