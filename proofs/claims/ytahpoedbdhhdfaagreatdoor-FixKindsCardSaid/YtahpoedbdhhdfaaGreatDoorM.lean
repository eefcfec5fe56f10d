/- The program draws the order of its regions: by its own word. -/
import Derived.Test.YtahpoedbdhhdfaaGreatDoorProg
import Derived.Test.YtahpoedbdhhdfaaGreatDoorEv5
import Derived.KernelRfl
namespace Go.Proofs.YtahpoedbdhhdfaaGreatDoor
theorem mixed : Tryz.prog.follows .mixedOrders = true := by kernel_rfl
end Go.Proofs.YtahpoedbdhhdfaaGreatDoor
