/- Closed facts of the row: each is what the kernel computes. -/
import Derived.Test.YtfoejhjfcegngaaGreatRows
import Derived.Lib.RowBridge
set_option linter.unusedVariables false
set_option maxHeartbeats 4000000
set_option maxRecDepth 100000
namespace Go.Proofs.YtfoejhjfcegngaaGreat
open Go Go.WideShapes Go.ChangeShapes
theorem c_rec : (Rows.solverStepsRow.recurses == Tryz.pinned.checked.prog.recurses 14) = true := by kernel_rfl
theorem c_named : (Rows.solverStepsRow.named == Tryz.pinned.checked.prog.varsNamed 14) = true := by kernel_rfl
theorem c_fn : Tryz.pinned.checked.prog.funcNamed Rows.solverStepsRow.func = some 14 := by kernel_rfl
end Go.Proofs.YtfoejhjfcegngaaGreat
