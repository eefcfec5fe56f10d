/- FixKinds: a case, run. -/
import Derived.Test.YtahpoedbdhhdfaaGreatDoorK
namespace Go.Proofs.YtahpoedbdhhdfaaGreatDoor.fixKinds
open Go.Ev
theorem case_run1 : boolOf (callK tabK 1000000 n_correctorlaw21_FixKinds [I 1] ⟨.e, 10⟩) = some true := by kernel_rfl
end Go.Proofs.YtahpoedbdhhdfaaGreatDoor.fixKinds
