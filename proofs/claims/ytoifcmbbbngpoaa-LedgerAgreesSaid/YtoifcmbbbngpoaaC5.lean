/- Closed facts of the row: each is what the kernel computes. -/
import Derived.Test.YtoifcmbbbngpoaaRows
import Derived.Lib.RowBridge
set_option linter.unusedVariables false
set_option maxHeartbeats 4000000
set_option maxRecDepth 100000
namespace Go.Proofs.Ytoifcmbbbngpoaa
open Go Go.WideShapes Go.ChangeShapes
theorem c_rec : (Rows.ledgerAgreesRow.recurses == Try.pinned.checked.prog.recurses 3) = true := by kernel_rfl
theorem c_named : (Rows.ledgerAgreesRow.named == Try.pinned.checked.prog.varsNamed 3) = true := by kernel_rfl
theorem c_fn : Try.pinned.checked.prog.funcNamed Rows.ledgerAgreesRow.func = some 3 := by kernel_rfl
end Go.Proofs.Ytoifcmbbbngpoaa
