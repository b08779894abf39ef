/- K8 facts of the row: each is what the kernel computes. -/
import Derived.Test.YtkooljfbpbghhaaGreatDoorRows
import Derived.Lib.RowBridge
set_option linter.unusedVariables false
set_option maxHeartbeats 4000000
set_option maxRecDepth 100000
namespace Go.Proofs.YtkooljfbpbghhaaGreatDoor
open Go Go.WideShapes Go.ChangeShapes
theorem c_in : (Rows.witnessTextsUptoRow.inPlace == Tryz.pinned.checked.prog.inPlace 3) = true := by kernel_rfl
theorem c_unf : (Rows.witnessTextsUptoRow.unfollowed == Tryz.pinned.checked.prog.unfollowed 3) = true := by kernel_rfl
end Go.Proofs.YtkooljfbpbghhaaGreatDoor
