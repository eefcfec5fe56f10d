/- FixKinds: closed facts of the row, one apart from the other. -/
import Derived.Test.YtahpoedbdhhdfaaGreatDoorRows
import Derived.JoinedCond
import Derived.KernelRfl
namespace Go.Proofs.YtahpoedbdhhdfaaGreatDoor.fixKinds
set_option maxRecDepth 100000
theorem k13 : (Rows.fixKindsRow.named == Tryz.prog.varsNamed 3) = true := by kernel_rfl
end Go.Proofs.YtahpoedbdhhdfaaGreatDoor.fixKinds
