/- ShellFixes: a case, run. -/
import Derived.Test.YtmlhpcflphlgdaaGreatDoorK
namespace Go.Proofs.YtmlhpcflphlgdaaGreatDoor.shellFixes
open Go.Ev
theorem case_run2 : boolOf (callK tabK 1000000 n_correctorlaw22_ShellFixes [I 2] ⟨.e, 10⟩) = some true := by kernel_rfl
end Go.Proofs.YtmlhpcflphlgdaaGreatDoor.shellFixes
