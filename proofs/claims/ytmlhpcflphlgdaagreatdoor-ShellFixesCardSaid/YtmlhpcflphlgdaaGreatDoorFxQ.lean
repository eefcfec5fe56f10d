/- ShellFixes: the closed facts, joined. -/
import Derived.Test.YtmlhpcflphlgdaaGreatDoorEv5
import Derived.Test.YtmlhpcflphlgdaaGreatDoorFxQ0
import Derived.Test.YtmlhpcflphlgdaaGreatDoorFxQ1
import Derived.Test.YtmlhpcflphlgdaaGreatDoorFxQ2
import Derived.Test.YtmlhpcflphlgdaaGreatDoorFxQ3
import Derived.Test.YtmlhpcflphlgdaaGreatDoorFxQ4
set_option maxRecDepth 100000
namespace Go.Proofs.YtmlhpcflphlgdaaGreatDoor.shellFixes
open Go.Ev
theorem closed : joinedFacts Tryz.prog 4 Tryz.f4 (OpenSpec.ofChange Rows.shellFixesSpec).bare Rows.shellFixesRow = true := by
  unfold joinedFacts
  with_reducible repeat' refine and_t ?_ ?_
  · exact k1
  · exact k2
  · exact k3
  · exact k4
  · exact k5
  · kernel_rfl
  · exact k7
  · kernel_rfl
  · exact k9
  · exact k10
  · exact k11
  · exact k12
  · exact k13
  · kernel_rfl
  · kernel_rfl
  · kernel_rfl
  · kernel_rfl
  · kernel_rfl
  · kernel_rfl
  · exact k19
  · kernel_rfl
  · kernel_rfl
  · exact k22
  · kernel_rfl
  · exact k23b
  · exact k24
  · kernel_rfl
  · kernel_rfl
  · kernel_rfl
  · kernel_rfl
  · kernel_rfl
  · kernel_rfl
end Go.Proofs.YtmlhpcflphlgdaaGreatDoor.shellFixes
