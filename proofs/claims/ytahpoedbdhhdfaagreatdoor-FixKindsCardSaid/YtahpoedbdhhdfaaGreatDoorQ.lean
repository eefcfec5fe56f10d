/- FixKinds: the closed facts, joined. -/
import Derived.Test.YtahpoedbdhhdfaaGreatDoorEv5
import Derived.Test.YtahpoedbdhhdfaaGreatDoorQ0
import Derived.Test.YtahpoedbdhhdfaaGreatDoorQ1
import Derived.Test.YtahpoedbdhhdfaaGreatDoorQ2
import Derived.Test.YtahpoedbdhhdfaaGreatDoorQ3
import Derived.Test.YtahpoedbdhhdfaaGreatDoorQ4
set_option maxRecDepth 100000
namespace Go.Proofs.YtahpoedbdhhdfaaGreatDoor.fixKinds
open Go.Ev
theorem closed : joinedFacts Tryz.prog 3 Tryz.f3 (OpenSpec.ofChange Rows.fixKindsSpec).bare Rows.fixKindsRow = true := by
  unfold joinedFacts
  with_reducible repeat' refine and_t ?_ ?_
  · exact k1
  · exact k2
  · exact k3
  · exact k4
  · exact k5
  · kernel_rfl
  · exact k7
  · kernel_rfl
  · exact k9
  · exact k10
  · exact k11
  · exact k12
  · exact k13
  · kernel_rfl
  · kernel_rfl
  · kernel_rfl
  · kernel_rfl
  · kernel_rfl
  · kernel_rfl
  · exact k19
  · kernel_rfl
  · kernel_rfl
  · exact k22
  · kernel_rfl
  · exact k23b
  · exact k24
  · kernel_rfl
  · kernel_rfl
  · kernel_rfl
  · kernel_rfl
  · kernel_rfl
  · kernel_rfl
end Go.Proofs.YtahpoedbdhhdfaaGreatDoor.fixKinds
