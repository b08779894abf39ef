/- Closed facts of the row: each is what the kernel computes. -/
import Derived.Test.YtodlobcpbdkjpaaGreatDoorRows
import Derived.Lib.RowBridge
set_option linter.unusedVariables false
set_option maxHeartbeats 4000000
set_option maxRecDepth 100000
namespace Go.Proofs.YtodlobcpbdkjpaaGreatDoor
open Go Go.WideShapes Go.ChangeShapes
theorem c_in : (Rows.resumeContinuesRow.inPlace == Tryz.pinned.checked.prog.inPlace 5) = true := by kernel_rfl
theorem c_unf : (Rows.resumeContinuesRow.unfollowed == Tryz.pinned.checked.prog.unfollowed 5) = true := by kernel_rfl
end Go.Proofs.YtodlobcpbdkjpaaGreatDoor
