/- The row's closed cells. -/
import Derived.Test.YtnhbkimefglkiaaGreatDoorCards
import Derived.ProofKit
import Derived.JoinedCond
namespace Go.Proofs.YtnhbkimefglkiaaGreatDoor.HolderNone
open Go Go.ChangeShapes Go.WideShapes Go.ChangeAt Go.RowKit
set_option maxRecDepth 100000
set_option maxHeartbeats 0

theorem andI {a b : Bool} (ha : a = true) (hb : b = true) : (a && b) = true := by rw [ha, hb]; rfl
/-- The row's closed cells, each by itself. -/
theorem closed : joinedFacts Tryz.pinned.checked.prog 3 Tryz.f3 (OpenSpec.ofChange Rows.holderNoneSpec).bare Rows.holderNoneRow = true := by
  unfold joinedFacts
  repeat' apply andI
  all_goals as_aux_lemma => kernel_rfl
theorem named : Tryz.pinned.checked.prog.funcNamed Rows.holderNoneRow.func = some 3 := by kernel_rfl

end Go.Proofs.YtnhbkimefglkiaaGreatDoor.HolderNone
