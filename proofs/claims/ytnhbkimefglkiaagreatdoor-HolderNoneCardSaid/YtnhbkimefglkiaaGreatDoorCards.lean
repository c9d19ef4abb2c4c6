/-
  DERIVED. GIVEN WITH THE SEED: THE CARDS: each row of YtnhbkimefglkiaaGreatDoorRows.lean that lists a variable, with what it lists TIED to the program's text (the seventh form; the later family's looks); each row that meets fmt, with fmt's text TOLD by the authors' own Lean function (tested against real Go, not proved from fmt's source: count such statements apart). THE CARD IS WHAT COUNTS. Prove the row's statement (the work); the ties are given (YtnhbkimefglkiaaGreatDoorTie.lean); close each card by the builder's one call (the guide's Derived/Test/ToyasCard.lean, 'card_holds'). Laid BY PROGRAM, IN A SANDBOX (cutbox-door.mjs). By AI agents, Wed Nov 11 2026. No macro, syntax, notation, axiom, sorry.
-/
import Derived.Test.YtnhbkimefglkiaaGreatDoorRows
import GoSem.ClaimSeven
namespace Go.Proofs.YtnhbkimefglkiaaGreatDoor
namespace Rows

/-- THE TIED CARD OF 'shamrocklaw18.HolderNone'. -/
def holderNoneCard : Claim7 := { stood := { row := holderNoneRow, standIns := [], harness := (true, "dbd134082df8b03ec6dbbf3dcd98f9e5e19a8a233d29123d57587217b97c60de"), looks := false }, kinds := [], alts := [], laidByText := true, laidKinds := [.data], laidTests := true, laidLooks := .later }
def HolderNoneCardSaid : Prop := Claim7.holds Tryz.pinned (.plain (OpenSpec.ofChange holderNoneSpec)) holderNoneCard

/-- THE TIED CARD OF 'shamrocklaw22.VaultNews'. -/
def vaultNewsCard : Claim7 := { stood := { row := vaultNewsRow, standIns := [], harness := (true, "dbd134082df8b03ec6dbbf3dcd98f9e5e19a8a233d29123d57587217b97c60de"), looks := false }, kinds := [], alts := [], laidByText := true, laidKinds := [.data], laidTests := true, laidLooks := .later }
def VaultNewsCardSaid : Prop := Claim7.holds Tryz.pinned (.plain (OpenSpec.ofChange vaultNewsSpec)) vaultNewsCard

/-- THE TIED CARD OF 'shamrocklaw22.VaultNone'. -/
def vaultNoneCard : Claim7 := { stood := { row := vaultNoneRow, standIns := [], harness := (true, "dbd134082df8b03ec6dbbf3dcd98f9e5e19a8a233d29123d57587217b97c60de"), looks := false }, kinds := [], alts := [], laidByText := true, laidKinds := [.data], laidTests := true, laidLooks := .later }
def VaultNoneCardSaid : Prop := Claim7.holds Tryz.pinned (.plain (OpenSpec.ofChange vaultNoneSpec)) vaultNoneCard

/-- THE TIED CARD OF 'shamrocklaw23.HealthNone'. -/
def healthNoneCard : Claim7 := { stood := { row := healthNoneRow, standIns := [], harness := (true, "dbd134082df8b03ec6dbbf3dcd98f9e5e19a8a233d29123d57587217b97c60de"), looks := false }, kinds := [], alts := [], laidByText := true, laidKinds := [.data], laidTests := true, laidLooks := .later }
def HealthNoneCardSaid : Prop := Claim7.holds Tryz.pinned (.plain (OpenSpec.ofChange healthNoneSpec)) healthNoneCard

/-- THE SECOND FORM's CARD OF 'shamrocklaw18.HolderNone'. -/
def holderNoneUptoCard : Claim7 := { stood := { row := holderNoneUptoRow, standIns := [], harness := (true, "dbd134082df8b03ec6dbbf3dcd98f9e5e19a8a233d29123d57587217b97c60de"), looks := false }, kinds := [], alts := [], laidByText := true, laidKinds := [.data], laidTests := true, laidLooks := .later }
def HolderNoneUptoCardSaid : Prop := Claim7.holds Tryz.pinned (.plain (OpenSpec.upto holderNoneSpec)) holderNoneUptoCard

/-- THE SECOND FORM's CARD OF 'shamrocklaw22.VaultNews'. -/
def vaultNewsUptoCard : Claim7 := { stood := { row := vaultNewsUptoRow, standIns := [], harness := (true, "dbd134082df8b03ec6dbbf3dcd98f9e5e19a8a233d29123d57587217b97c60de"), looks := false }, kinds := [], alts := [], laidByText := true, laidKinds := [.data], laidTests := true, laidLooks := .later }
def VaultNewsUptoCardSaid : Prop := Claim7.holds Tryz.pinned (.plain (OpenSpec.upto vaultNewsSpec)) vaultNewsUptoCard

/-- THE SECOND FORM's CARD OF 'shamrocklaw22.VaultNone'. -/
def vaultNoneUptoCard : Claim7 := { stood := { row := vaultNoneUptoRow, standIns := [], harness := (true, "dbd134082df8b03ec6dbbf3dcd98f9e5e19a8a233d29123d57587217b97c60de"), looks := false }, kinds := [], alts := [], laidByText := true, laidKinds := [.data], laidTests := true, laidLooks := .later }
def VaultNoneUptoCardSaid : Prop := Claim7.holds Tryz.pinned (.plain (OpenSpec.upto vaultNoneSpec)) vaultNoneUptoCard

/-- THE SECOND FORM's CARD OF 'shamrocklaw23.HealthNone'. -/
def healthNoneUptoCard : Claim7 := { stood := { row := healthNoneUptoRow, standIns := [], harness := (true, "dbd134082df8b03ec6dbbf3dcd98f9e5e19a8a233d29123d57587217b97c60de"), looks := false }, kinds := [], alts := [], laidByText := true, laidKinds := [.data], laidTests := true, laidLooks := .later }
def HealthNoneUptoCardSaid : Prop := Claim7.holds Tryz.pinned (.plain (OpenSpec.upto healthNoneSpec)) healthNoneUptoCard
end Rows
end Go.Proofs.YtnhbkimefglkiaaGreatDoor
