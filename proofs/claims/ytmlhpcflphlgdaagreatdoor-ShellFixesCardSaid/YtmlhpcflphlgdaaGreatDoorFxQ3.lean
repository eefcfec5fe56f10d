/- ShellFixes: closed facts of the row, one apart from the other. -/
import Derived.Test.YtmlhpcflphlgdaaGreatDoorRows
import Derived.JoinedCond
import Derived.KernelRfl
namespace Go.Proofs.YtmlhpcflphlgdaaGreatDoor.shellFixes
set_option maxRecDepth 100000
theorem k13 : (Rows.shellFixesRow.named == Tryz.prog.varsNamed 4) = true := by kernel_rfl
end Go.Proofs.YtmlhpcflphlgdaaGreatDoor.shellFixes
