/- The law's own run, in the kernel. -/
import Derived.Test.YtnhbkimefglkiaaGreatDoorHolderNoneF1
import Derived.ProofKit
namespace Go.Proofs.YtnhbkimefglkiaaGreatDoor.HolderNone
open Go Go.Ai Go.ChangeShapes Go.WideShapes Go.ChangeAt Go.RowKit
set_option maxRecDepth 100000
set_option maxHeartbeats 0

/-- The law's own run. -/
theorem run (z0_0 : Int) (z0_1 : Int) (z0_2 : Int) (z0_3 : Int) (z0_4 : Int) (z0_5 : Int) (z0_6 : Int) (q0_7 : List AV) (m0_7 : Nat) (s0_8 : List UInt8) (z0_9 : Int) (z0_10 : Int) (z0_11 : Int) (q0_12 : List AV) (m0_12 : Nat) (q0_13 : List AV) (m0_13 : Nat) (z0_14 : Int) (q0_15 : List AV) (m0_15 : Nat) (n1 : Int) : fn3 [.agg [.int .i64 z0_0, .int .i64 z0_1, .int .i64 z0_2, .int .i64 z0_3, .int .i64 z0_4, .int .i64 z0_5, .int .i64 z0_6, .sl q0_7 m0_7 false, .str s0_8, .int .i64 z0_9, .int .i64 z0_10, .int .i64 z0_11, .sl q0_12 m0_12 false, .sl q0_13 m0_13 false, .int .i64 z0_14, .sl q0_15 m0_15 false], .int .i64 n1] sk0 endK = true := by kernel_rfl

end Go.Proofs.YtnhbkimefglkiaaGreatDoor.HolderNone
