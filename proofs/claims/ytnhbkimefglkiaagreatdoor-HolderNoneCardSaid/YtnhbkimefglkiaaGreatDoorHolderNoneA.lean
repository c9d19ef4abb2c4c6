/- Printed by a program of this session (mkclaim.py): functions of the given program as code, and as threaded code. -/
import Derived.Test.YtnhbkimefglkiaaGreatDoorChecked
import Derived.Test.YtnhbkimefglkiaaGreatDoorAi5
namespace Go.Proofs.YtnhbkimefglkiaaGreatDoor.HolderNone
open Go Go.Ai
set_option maxRecDepth 100000
set_option maxHeartbeats 0
def an : Ann := { pu := fun _ => false, mu := fun f d => (Nat.beq f 38 && Nat.beq d 80) }
end Go.Proofs.YtnhbkimefglkiaaGreatDoor.HolderNone
