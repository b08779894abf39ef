/- Closed facts of the row: each is what the kernel computes. -/
import Derived.Test.YtodlobcpbdkjpaaGreatDoorRows
import Derived.Lib.RowBridge
set_option linter.unusedVariables false
set_option maxHeartbeats 4000000
set_option maxRecDepth 100000
namespace Go.Proofs.YtodlobcpbdkjpaaGreatDoor
open Go Go.WideShapes Go.ChangeShapes
theorem c_lift : (Rows.resumeContinuesRow.lifted == Tryz.pinned.checked.prog.liftsFinal) = true := by kernel_rfl
end Go.Proofs.YtodlobcpbdkjpaaGreatDoor
