/- The law's own run, in the kernel. -/
import Derived.Test.YtnhbkimefglkiaaGreatDoorHealthNoneF1
import Derived.ProofKit
namespace Go.Proofs.YtnhbkimefglkiaaGreatDoor.HealthNone
open Go Go.Ai Go.ChangeShapes Go.WideShapes Go.ChangeAt Go.RowKit
set_option maxRecDepth 100000
set_option maxHeartbeats 0

/-- The law's own run. -/
theorem run (n0 : Int) : fn6 [.int .i64 n0] sk0 endK = true := by kernel_rfl

end Go.Proofs.YtnhbkimefglkiaaGreatDoor.HealthNone
