/- ShellBad: the closed facts, joined. -/
import Derived.Test.YtmlhpcflphlgdaaGreatDoorEv5
import Derived.Test.YtmlhpcflphlgdaaGreatDoorBdQ0
import Derived.Test.YtmlhpcflphlgdaaGreatDoorBdQ1
import Derived.Test.YtmlhpcflphlgdaaGreatDoorBdQ2
import Derived.Test.YtmlhpcflphlgdaaGreatDoorBdQ3
import Derived.Test.YtmlhpcflphlgdaaGreatDoorBdQ4
set_option maxRecDepth 100000
namespace Go.Proofs.YtmlhpcflphlgdaaGreatDoor.shellBad
open Go.Ev
theorem closed : joinedFacts Tryz.prog 3 Tryz.f3 (OpenSpec.ofChange Rows.shellBadSpec).bare Rows.shellBadRow = true := by
  unfold joinedFacts
  with_reducible repeat' refine and_t ?_ ?_
  · exact k1
  · exact k2
  · exact k3
  · exact k4
  · exact k5
  · kernel_rfl
  · exact k7
  · kernel_rfl
  · exact k9
  · exact k10
  · exact k11
  · exact k12
  · exact k13
  · kernel_rfl
  · kernel_rfl
  · kernel_rfl
  · kernel_rfl
  · kernel_rfl
  · kernel_rfl
  · exact k19
  · kernel_rfl
  · kernel_rfl
  · exact k22
  · kernel_rfl
  · exact k23b
  · exact k24
  · kernel_rfl
  · kernel_rfl
  · kernel_rfl
  · kernel_rfl
  · kernel_rfl
  · kernel_rfl
end Go.Proofs.YtmlhpcflphlgdaaGreatDoor.shellBad
