/- ShellBad: a case, run. -/
import Derived.Test.YtmlhpcflphlgdaaGreatDoorK
namespace Go.Proofs.YtmlhpcflphlgdaaGreatDoor.shellBad
open Go.Ev
theorem case_run3 : boolOf (callK tabK 1000000 n_correctorlaw22_ShellBad [I 3] ⟨.e, 10⟩) = some true := by kernel_rfl
end Go.Proofs.YtmlhpcflphlgdaaGreatDoor.shellBad
