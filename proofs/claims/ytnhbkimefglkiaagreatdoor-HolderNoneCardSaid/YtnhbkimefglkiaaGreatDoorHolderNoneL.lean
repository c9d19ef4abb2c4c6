/- The statement HolderNone: whatever the arguments, the law's call returns true, and all that was there stays as it was. By a run of the law's code in the kernel, over a proved interpreter of the program's code. No condition beyond the given row's own (the listed table). -/
import Derived.Test.YtnhbkimefglkiaaGreatDoorHolderNoneX
import Derived.Test.YtnhbkimefglkiaaGreatDoorHolderNoneC
import Derived.Test.YtnhbkimefglkiaaGreatDoorHolderNoneD
import Derived.Test.YtnhbkimefglkiaaGreatDoorCards
import Derived.Test.YtnhbkimefglkiaaGreatDoorTie
import Derived.WalkKit
import Derived.ProofKit
import Derived.Deep.DeepHandedRow
import Derived.Lib.LaidTab
namespace Go.Proofs.YtnhbkimefglkiaaGreatDoor.HolderNone
open Go Go.Ai Go.ChangeShapes Go.WideShapes Go.ChangeAt Go.RowKit
set_option maxRecDepth 100000
set_option maxHeartbeats 0

def zs : List Int := [1116352408, 1899447441, 3049323471, 3921009573, 961987163, 1508970993, 2453635748, 2870763221, 3624381080, 310598401, 607225278, 1426881987, 1925078388, 2162078206, 2614888103, 3248222580, 3835390401, 4022224774, 264347078, 604807628, 770255983, 1249150122, 1555081692, 1996064986, 2554220882, 2821834349, 2952996808, 3210313671, 3336571891, 3584528711, 113926993, 338241895, 666307205, 773529912, 1294757372, 1396182291, 1695183700, 1986661051, 2177026350, 2456956037, 2730485921, 2820302411, 3259730800, 3345764771, 3516065817, 3600352804, 4094571909, 275423344, 430227734, 506948616, 659060556, 883997877, 958139571, 1322822218, 1537002063, 1747873779, 1955562222, 2024104815, 2227730452, 2361852424, 2428436474, 2756734187, 3204031479, 3329325298]
theorem own : ownKnob Tryz.prog.godebug = none := by kernel_rfl
theorem laidOut : laidOutB Tryz.prog = true := by kernel_rfl
theorem gTab : Tryz.prog.globalNamed "shamrock/sha.constants" = some 1 := by kernel_rfl

theorem tabCell {W : World} (h : laidMetH Tryz.prog Rows.holderNoneRow.laid W) : ∀ (j : Nat) z, zs[j]? = some z → W.cell? ⟨1, j, none⟩ = some (.int .u32 z) := by
  have ht : Lib.TabIs Tryz.prog W "shamrock/sha.constants" .u32 zs :=
    Lib.tabIs_of_head (t := 360) (e := 300) (n := 64) (rest := []) gTab (by kernel_rfl) Tryz.underlying360 Tryz.underlying300 (by kernel_rfl) (by kernel_rfl) h
  intro j z hz
  have hj : j < zs.length := (List.getElem?_eq_some_iff.1 hz).1
  have hc := ht.cell gTab j hj
  rw [hc]
  simp [hz]

theorem gvOk {W : World} (h : laidMetH Tryz.prog Rows.holderNoneRow.laid W) : GvOk E (kw0 W.heap.size) W := by
  intro g
  match g with
  | 0 => exact gv_none
  | 1 => exact gv_tab (zs := zs) rfl (tabCell h)
  | _ + 2 => exact gv_none

theorem contract (H : Type) (enc : TypeId × Value → H) (W : World) (base : Nat) (args : Array Value) (ds gs : List (DataW H)) (before : List MemPlace)
    (hval : ∀ (j : Nat) t v, Tryz.f3.params[j]? = some t → args[j]? = some v → Value.okWide Tryz.prog W .any base t v)
    (hW : DataW.Whole enc Tryz.prog Tryz.f3.params.toList Rows.holderNoneSpec.vars false W args.toList ds gs before) (hL : laidMetH Tryz.prog Rows.holderNoneRow.laid W) :
    Calls Tryz.prog 3 args W fun e W' => ∃ v, e = .returned v ∧ Rows.holderNoneSpec.post enc Tryz.prog Tryz.f3 false true false false W args v W' := by
  refine law_contract envOk se3 laidOut (tb := 4) (by kernel_rfl) rfl (by kernel_rfl) Tryz.underlying4 (fun H ds h => ?_) (fun l hlen hty => ?_) (gvOk hL) hval hW
  · rw [Tryz.params3] at h
    match ds, h with
    | [d0, d1], _ => rfl
  · rw [Tryz.params3] at hlen hty
    match l, hlen with
    | [a0, a1], _ =>
    obtain ⟨cs0, rfl, _, hc0⟩ := TyA.struct_inv Tryz.underlying27 (hty 0 _ _ rfl rfl)
    obtain ⟨l0, rfl, hl0, hs0⟩ := Ty.struct_inv Tryz.underlying27 hc0
    match l0, hl0, hs0 with
    | [p0_0, p0_1, p0_2, p0_3, p0_4, p0_5, p0_6, p0_7, p0_8, p0_9, p0_10, p0_11, p0_12, p0_13, p0_14, p0_15], _, hs0 =>
    obtain ⟨z0_0, rfl, _⟩ := Ty.int_inv (k := .i64) (by kernel_rfl) (hs0 0 _ _ rfl rfl)
    obtain ⟨z0_1, rfl, _⟩ := Ty.int_inv (k := .i64) (by kernel_rfl) (hs0 1 _ _ rfl rfl)
    obtain ⟨z0_2, rfl, _⟩ := Ty.int_inv (k := .i64) (by kernel_rfl) (hs0 2 _ _ rfl rfl)
    obtain ⟨z0_3, rfl, _⟩ := Ty.int_inv (k := .i64) (by kernel_rfl) (hs0 3 _ _ rfl rfl)
    obtain ⟨z0_4, rfl, _⟩ := Ty.int_inv (k := .i64) (by kernel_rfl) (hs0 4 _ _ rfl rfl)
    obtain ⟨z0_5, rfl, _⟩ := Ty.int_inv (k := .i64) (by kernel_rfl) (hs0 5 _ _ rfl rfl)
    obtain ⟨z0_6, rfl, _⟩ := Ty.int_inv (k := .i64) (by kernel_rfl) (hs0 6 _ _ rfl rfl)
    obtain ⟨q0_7, rfl, _⟩ := Ty.sl_inv (e := 89) (by kernel_rfl) (hs0 7 _ _ rfl rfl)
    obtain ⟨s0_8, rfl, _⟩ := Ty.str_inv (by kernel_rfl) (hs0 8 _ _ rfl rfl)
    obtain ⟨z0_9, rfl, _⟩ := Ty.int_inv (k := .i64) (by kernel_rfl) (hs0 9 _ _ rfl rfl)
    obtain ⟨z0_10, rfl, _⟩ := Ty.int_inv (k := .i64) (by kernel_rfl) (hs0 10 _ _ rfl rfl)
    obtain ⟨z0_11, rfl, _⟩ := Ty.int_inv (k := .i64) (by kernel_rfl) (hs0 11 _ _ rfl rfl)
    obtain ⟨q0_12, rfl, _⟩ := Ty.sl_inv (e := 3) (by kernel_rfl) (hs0 12 _ _ rfl rfl)
    obtain ⟨q0_13, rfl, _⟩ := Ty.sl_inv (e := 3) (by kernel_rfl) (hs0 13 _ _ rfl rfl)
    obtain ⟨z0_14, rfl, _⟩ := Ty.int_inv (k := .i64) (by kernel_rfl) (hs0 14 _ _ rfl rfl)
    obtain ⟨q0_15, rfl, _⟩ := Ty.sl_inv (e := 5) (by kernel_rfl) (hs0 15 _ _ rfl rfl)
    obtain ⟨n1, rfl, _⟩ := TyA.int_inv Tryz.underlying3 (hty 1 _ _ rfl rfl)
    exact run z0_0 z0_1 z0_2 z0_3 z0_4 z0_5 z0_6 q0_7.flatten q0_7.length s0_8 z0_9 z0_10 z0_11 q0_12.flatten q0_12.length q0_13.flatten q0_13.length z0_14 q0_15.flatten q0_15.length n1

/-- A world for the witness: the settled one, the table holding what its initialiser lays. -/
noncomputable def laidWorld (os : Os) : World :=
  { World.holding Tryz.prog os ⟨#[], #[], []⟩ with heap := (World.holding Tryz.prog os ⟨#[], #[], []⟩).heap.modify 1 fun
      | .cells _ t frozen => .cells (zs.map (Value.int .u32)).toArray t frozen
      | o => o }
theorem laid_met (os : Os) : laidMet Tryz.prog Rows.holderNoneRow.laid ((laidWorld os).forCall (fun _ _ => 0) ⟨#[], #[.agg #[.int .i64 0, .int .i64 0, .int .i64 0, .int .i64 0, .int .i64 0, .int .i64 0, .int .i64 0, .slice none 0 0, .string ⟨#[]⟩, .int .i64 0, .int .i64 0, .int .i64 0, .slice none 0 0, .slice none 0 0, .int .i64 0, .slice none 0 0], .int .i64 0], []⟩).memory :=
  laidMet_of_run' 8 (by kernel_rfl) (by kernel_rfl)

theorem lifted (os : Os) (started : os.Started) (H : Type) (enc : TypeId × Value → H) (F : Stop.Interp) :
    ReturnsInHanded {} Tryz.checked os 3 .any ((OpenSpec.ofChange Rows.holderNoneSpec).preRow enc Tryz.prog Tryz.f3 Rows.holderNoneRow.domain false Rows.holderNoneRow.laid) (((OpenSpec.ofChange Rows.holderNoneSpec).at F).post enc Tryz.prog Tryz.f3 false true false false) := by
  refine returnsInHanded_of_row (C := Tryz.checked) (s := OpenSpec.ofChange Rows.holderNoneSpec) own started (by kernel_rfl) Tryz.func3
    (witness_row_at (enc := enc) (C := Tryz.checked) false (laidWorld os) #[.agg #[.int .i64 0, .int .i64 0, .int .i64 0, .int .i64 0, .int .i64 0, .int .i64 0, .int .i64 0, .slice none 0 0, .string ⟨#[]⟩, .int .i64 0, .int .i64 0, .int .i64 0, .slice none 0 0, .slice none 0 0, .int .i64 0, .slice none 0 0], .int .i64 0] rfl (by kernel_rfl) (by kernel_rfl) (by kernel_rfl)
      (OpenSpec.preRow_of_cond 8 (x := ([.agg [.lit (.int .i64 0), .lit (.int .i64 0), .lit (.int .i64 0), .lit (.int .i64 0), .lit (.int .i64 0), .lit (.int .i64 0), .lit (.int .i64 0), .nil, .lit (.string []), .lit (.int .i64 0), .lit (.int .i64 0), .lit (.int .i64 0), .nil, .nil, .lit (.int .i64 0), .nil], .lit (.int .i64 0)], [], [])) (by kernel_rfl) (by kernel_rfl) (fun k hk => by cases hk) (by kernel_rfl) (laid_met os))) ?_
  intro W base args ds gs before hval hW _ _ _ hL _ _
  exact contract H enc W base args ds gs before hval hW hL

theorem said : Rows.HolderNoneSaid :=
  OpenClaim.holds_of_cond 3 Tryz.f3 rfl rfl rfl rfl rfl rfl rfl ⟨rfl, rfl, rfl, rfl, rfl⟩ rfl rfl rfl rfl rfl named Tryz.func3 closed
    (of_decide_eq_true (by kernel_rfl)) (by unfold Func.isWrapper; first | (rw [if_pos (by decide +kernel)]; kernel_rfl) | (rw [if_neg (by decide +kernel)]; exact ⟨rfl, rfl⟩))
    (fun os started H enc _ F => by rw [OpenClaim.pre_eq_preRow]; exact lifted os started H enc F)

theorem plain (f : FuncId) (fn : Func) (hf : Tryz.pinned.checked.prog.funcNamed "shamrock/shamrocklaw18.HolderNone" = some f) (hfn : Tryz.pinned.checked.prog.funcs[f]? = some fn) :
    false = Tryz.pinned.checked.prog.looks [] ∧ ∀ (j : Nat) t, fn.params[j]? = some t → Tryz.pinned.checked.prog.wantsStandIn t = false := by
  obtain rfl : f = 3 := Option.some.inj ((show Tryz.prog.funcNamed "shamrock/shamrocklaw18.HolderNone" = some 3 by kernel_rfl).symm.trans hf) |>.symm
  obtain rfl : fn = Tryz.f3 := (Option.some.inj (Tryz.func3.symm.trans hfn)).symm
  refine ⟨by kernel_rfl, fun j t ht => ?_⟩
  rw [Tryz.params3] at ht
  have : ∀ u ∈ [27, 3], Tryz.prog.wantsStandIn u = false := by
    intro u hu
    simp only [List.mem_cons, List.not_mem_nil, or_false] at hu
    rcases hu with rfl | rfl
    · kernel_rfl
    · kernel_rfl
  exact this t (by simpa using Array.mem_of_getElem? ht)

/-- The card. -/
theorem card : Rows.HolderNoneCardSaid :=
  Claim7.holds_tied_plain_at .later [] _ _ Rows.holderNoneCard.stood.harness _ said (fun _ h => by cases h) wfText (fun _ h => by cases h) holderNone_row_tie rfl ⟨rfl, rfl⟩ mainText (by kernel_rfl) plain goesText
end Go.Proofs.YtnhbkimefglkiaaGreatDoor.HolderNone
#print axioms Go.Proofs.YtnhbkimefglkiaaGreatDoor.HolderNone.card
