/- ShellFixes: closed facts of the row, one apart from the other. -/
import Derived.Test.YtmlhpcflphlgdaaGreatDoorRows
import Derived.JoinedCond
import Derived.KernelRfl
namespace Go.Proofs.YtmlhpcflphlgdaaGreatDoor.shellFixes
set_option maxRecDepth 100000
theorem k1 : Rows.shellFixesRow.wf (OpenSpec.ofChange (OpenSpec.ofChange Rows.shellFixesSpec).bare) = true := by kernel_rfl
theorem k2 : laidOutB Tryz.prog = true := by kernel_rfl
theorem k3 : mapsRowed Tryz.prog = true := by kernel_rfl
theorem k4 : Tryz.f4.params.all (Tryz.prog.readableRec ·) = true := by kernel_rfl
theorem k5 : namedTie Tryz.prog Rows.shellFixesRow.named Rows.shellFixesSpec.vars = true := by kernel_rfl
theorem k7 : (Tryz.prog.stops == []) = true := by kernel_rfl
theorem k9 : (Tryz.prog.stopKnobs == []) = true := by kernel_rfl
theorem k19 : Tryz.f4.resultTypes.all (fun t => Tryz.prog.readableRec t && decide (t < Tryz.prog.types.size)) = true := by kernel_rfl
theorem k22 : (Rows.shellFixesRow.plainKeys == Tryz.prog.plainKeys) = true := by kernel_rfl
theorem k23b : Tryz.prog.stopsHeard = true := by kernel_rfl
theorem k24 : Tryz.prog.mayEnter = true := by kernel_rfl
end Go.Proofs.YtmlhpcflphlgdaaGreatDoor.shellFixes
