/- FixKinds: closed facts of the row, one apart from the other. -/
import Derived.Test.YtahpoedbdhhdfaaGreatDoorCards
import Derived.JoinedCond
import Derived.KernelRfl
namespace Go.Proofs.YtahpoedbdhhdfaaGreatDoor.fixKinds
set_option maxRecDepth 100000
theorem wfText : Rows.fixKindsRow.wfByText (OpenSpec.ofChange Rows.fixKindsSpec) = true := by kernel_rfl
theorem main : Tryz.pinned.checked.prog.mainIs = some (true, "986cbc954fc33394e21923208bc48017006036ea2b9d4fdec74127047b4f78a9".toList) := by kernel_rfl
theorem looks : true = Tryz.pinned.checked.prog.looks [] := by kernel_rfl
theorem named : Tryz.pinned.checked.prog.funcNamed Rows.fixKindsRow.func = some 3 := by kernel_rfl
end Go.Proofs.YtahpoedbdhhdfaaGreatDoor.fixKinds
