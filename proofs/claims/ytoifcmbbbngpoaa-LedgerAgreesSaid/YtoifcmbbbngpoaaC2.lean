/- Closed facts of the row: each is what the kernel computes. -/
import Derived.Test.YtoifcmbbbngpoaaRows
import Derived.Lib.RowBridge
set_option linter.unusedVariables false
set_option maxHeartbeats 4000000
set_option maxRecDepth 100000
namespace Go.Proofs.Ytoifcmbbbngpoaa
open Go Go.WideShapes Go.ChangeShapes
theorem c_lift : (Rows.ledgerAgreesRow.lifted == Try.pinned.checked.prog.liftsFinal) = true := by kernel_rfl
end Go.Proofs.Ytoifcmbbbngpoaa
