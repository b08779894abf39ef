/- K8 facts of the row: each is what the kernel computes. -/
import Derived.Test.YtkooljfbpbghhaaGreatDoorRows
import Derived.Lib.RowBridge
set_option linter.unusedVariables false
set_option maxHeartbeats 4000000
set_option maxRecDepth 100000
namespace Go.Proofs.YtkooljfbpbghhaaGreatDoor
open Go Go.WideShapes Go.ChangeShapes
theorem c_may : Tryz.pinned.checked.prog.mayEnter = true := by kernel_rfl
end Go.Proofs.YtkooljfbpbghhaaGreatDoor
