/- FixKinds: closed facts of the row, one apart from the other. -/
import Derived.Test.YtahpoedbdhhdfaaGreatDoorRows
import Derived.JoinedCond
import Derived.KernelRfl
namespace Go.Proofs.YtahpoedbdhhdfaaGreatDoor.fixKinds
set_option maxRecDepth 100000
theorem k12 : (Rows.fixKindsRow.recurses == Tryz.prog.recurses 3) = true := by kernel_rfl
end Go.Proofs.YtahpoedbdhhdfaaGreatDoor.fixKinds
