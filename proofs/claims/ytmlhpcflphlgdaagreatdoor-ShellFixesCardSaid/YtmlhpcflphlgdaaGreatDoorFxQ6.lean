/- ShellFixes: closed facts of the row, one apart from the other. -/
import Derived.Test.YtmlhpcflphlgdaaGreatDoorCards
import Derived.JoinedCond
import Derived.KernelRfl
namespace Go.Proofs.YtmlhpcflphlgdaaGreatDoor.shellFixes
set_option maxRecDepth 100000
theorem wfText : Rows.shellFixesRow.wfByText (OpenSpec.ofChange Rows.shellFixesSpec) = true := by kernel_rfl
theorem main : Tryz.pinned.checked.prog.mainIs = some (true, "6d615b4094ccaf13422c148da099d15e246cbb082f89fc63692e8b834934721b".toList) := by kernel_rfl
theorem looks : true = Tryz.pinned.checked.prog.looks [] := by kernel_rfl
theorem named : Tryz.pinned.checked.prog.funcNamed Rows.shellFixesRow.func = some 4 := by kernel_rfl
end Go.Proofs.YtmlhpcflphlgdaaGreatDoor.shellFixes
