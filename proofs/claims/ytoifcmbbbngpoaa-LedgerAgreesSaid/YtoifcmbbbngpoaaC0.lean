/- Closed facts of the row: each is what the kernel computes. -/
import Derived.Test.YtoifcmbbbngpoaaRows
import Derived.Lib.RowBridge
set_option linter.unusedVariables false
set_option maxHeartbeats 4000000
set_option maxRecDepth 100000
namespace Go.Proofs.Ytoifcmbbbngpoaa
open Go Go.WideShapes Go.ChangeShapes
theorem c_laid : laidOutB Try.pinned.checked.prog = true := by kernel_rfl
theorem c_maps : mapsRowed Try.pinned.checked.prog = true := by kernel_rfl
theorem c_heard : Try.pinned.checked.prog.stopsHeard = true := by kernel_rfl
end Go.Proofs.Ytoifcmbbbngpoaa
