/- Closed facts of the row: each is what the kernel computes. -/
import Derived.Test.YtadicaikmebpcaaGreatDoorRows
import Derived.Lib.RowBridge
set_option linter.unusedVariables false
set_option maxHeartbeats 4000000
set_option maxRecDepth 100000
namespace Go.Proofs.YtadicaikmebpcaaGreatDoor
open Go Go.WideShapes Go.ChangeShapes
theorem c_rec : (Rows.nodesAgreeUptoRow.recurses == Tryz.pinned.checked.prog.recurses 3) = true := by kernel_rfl
theorem c_named : (Rows.nodesAgreeUptoRow.named == Tryz.pinned.checked.prog.varsNamed 3) = true := by kernel_rfl
theorem c_fn : Tryz.pinned.checked.prog.funcNamed Rows.nodesAgreeUptoRow.func = some 3 := by kernel_rfl
end Go.Proofs.YtadicaikmebpcaaGreatDoor
