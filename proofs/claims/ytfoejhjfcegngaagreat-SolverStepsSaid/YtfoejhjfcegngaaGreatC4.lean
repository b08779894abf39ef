/- Closed facts of the row: each is what the kernel computes. -/
import Derived.Test.YtfoejhjfcegngaaGreatRows
import Derived.Lib.RowBridge
set_option linter.unusedVariables false
set_option maxHeartbeats 4000000
set_option maxRecDepth 100000
namespace Go.Proofs.YtfoejhjfcegngaaGreat
open Go Go.WideShapes Go.ChangeShapes
theorem c_in : (Rows.solverStepsRow.inPlace == Tryz.pinned.checked.prog.inPlace 14) = true := by kernel_rfl
theorem c_unf : (Rows.solverStepsRow.unfollowed == Tryz.pinned.checked.prog.unfollowed 14) = true := by kernel_rfl
end Go.Proofs.YtfoejhjfcegngaaGreat
