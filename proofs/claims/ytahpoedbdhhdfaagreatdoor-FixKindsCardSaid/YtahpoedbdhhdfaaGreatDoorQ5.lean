/- FixKinds: closed facts of the row, one apart from the other. -/
import Derived.Test.YtahpoedbdhhdfaaGreatDoorCards
import Derived.JoinedCond
import Derived.KernelRfl
namespace Go.Proofs.YtahpoedbdhhdfaaGreatDoor.fixKinds
set_option maxRecDepth 100000
theorem noGo : Tryz.prog.funcs.any Func.goes = false := by kernel_rfl
end Go.Proofs.YtahpoedbdhhdfaaGreatDoor.fixKinds
