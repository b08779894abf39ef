/- K8 facts of the row: each is what the kernel computes. -/
import Derived.Test.YtkooljfbpbghhaaGreatDoorRows
import Derived.Lib.RowBridge
set_option linter.unusedVariables false
set_option maxHeartbeats 4000000
set_option maxRecDepth 100000
namespace Go.Proofs.YtkooljfbpbghhaaGreatDoor
open Go Go.WideShapes Go.ChangeShapes
theorem c_laid : laidOutB Tryz.pinned.checked.prog = true := by kernel_rfl
theorem c_maps : mapsRowed Tryz.pinned.checked.prog = true := by kernel_rfl
theorem c_heard : Tryz.pinned.checked.prog.stopsHeard = true := by kernel_rfl
end Go.Proofs.YtkooljfbpbghhaaGreatDoor
