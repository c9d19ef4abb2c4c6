/- The card's closed facts. -/
import Derived.Test.YtnhbkimefglkiaaGreatDoorCards
import Derived.ProofKit
namespace Go.Proofs.YtnhbkimefglkiaaGreatDoor.HolderNone
open Go Go.ChangeShapes Go.WideShapes Go.ChangeAt Go.RowKit
set_option maxRecDepth 100000
set_option maxHeartbeats 0

theorem wfText : Rows.holderNoneRow.wfByText (OpenSpec.ofChange Rows.holderNoneSpec) = true := by kernel_rfl
theorem mainText : Tryz.pinned.checked.prog.mainIs = some (Rows.holderNoneCard.stood.harness.1, Rows.holderNoneCard.stood.harness.2.toList) := by kernel_rfl
theorem goesText : false = Rows.holderNoneRow.goesBy Tryz.pinned.checked.prog := by kernel_rfl

end Go.Proofs.YtnhbkimefglkiaaGreatDoor.HolderNone
