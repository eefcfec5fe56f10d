/- The program draws the order of its regions: by its own word. -/
import Derived.Test.YtmlhpcflphlgdaaGreatDoorProg
import Derived.Test.YtmlhpcflphlgdaaGreatDoorEv5
import Derived.KernelRfl
namespace Go.Proofs.YtmlhpcflphlgdaaGreatDoor
theorem mixed : Tryz.prog.follows .mixedOrders = true := by kernel_rfl
end Go.Proofs.YtmlhpcflphlgdaaGreatDoor
