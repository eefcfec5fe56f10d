/- ShellFixes: closed facts of the row, one apart from the other. -/
import Derived.Test.YtmlhpcflphlgdaaGreatDoorCards
import Derived.JoinedCond
import Derived.KernelRfl
namespace Go.Proofs.YtmlhpcflphlgdaaGreatDoor.shellFixes
set_option maxRecDepth 100000
theorem noGo : Tryz.prog.funcs.any Func.goes = false := by kernel_rfl
end Go.Proofs.YtmlhpcflphlgdaaGreatDoor.shellFixes
