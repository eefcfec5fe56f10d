/- The chapter's example, run. -/
import Derived.Test.YtmlhpcflphlgdaaGreatDoorT
import Derived.Test.YtmlhpcflphlgdaaGreatDoorEv5
import Derived.KernelRfl
namespace Go.Proofs.YtmlhpcflphlgdaaGreatDoor
open Go.Ev
theorem known_run : boolOf (callK tab.get 1000000 n_correctorlaw22_known [] ⟨.e, 10⟩) = some true := by kernel_rfl
theorem known_ok : FnOK Tryz.prog n_correctorlaw22_known (closedF true) := closed_ok (callK_sound tab_ok.ok 1000000) known_run
noncomputable def tabK : FuncId → Option FS := over tab.get n_correctorlaw22_known (closedF true)
theorem tabK_ok : TabK Tryz.prog tabK := over_ok tab_ok.ok known_ok
end Go.Proofs.YtmlhpcflphlgdaaGreatDoor
