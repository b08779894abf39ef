/- Closed facts of the row: each is what the kernel computes. -/
import Derived.Test.YtodlobcpbdkjpaaGreatDoorRows
import Derived.Lib.RowBridge
set_option linter.unusedVariables false
set_option maxHeartbeats 4000000
set_option maxRecDepth 100000
namespace Go.Proofs.YtodlobcpbdkjpaaGreatDoor
open Go Go.WideShapes Go.ChangeShapes
theorem c_rec : (Rows.resumeContinuesRow.recurses == Tryz.pinned.checked.prog.recurses 5) = true := by kernel_rfl
theorem c_named : (Rows.resumeContinuesRow.named == Tryz.pinned.checked.prog.varsNamed 5) = true := by kernel_rfl
theorem c_fn : Tryz.pinned.checked.prog.funcNamed Rows.resumeContinuesRow.func = some 5 := by kernel_rfl
end Go.Proofs.YtodlobcpbdkjpaaGreatDoor
