/- A proved interpreter of the program's code (AiOps2 AiOps3 AiOps4 AiOps5 AiOps6 AiOps7 AiOps8 AiOps9 AiOps10 AiOps11). -/
import Derived.Test.YtnhbkimefglkiaaGreatDoorAi0
import Derived.Laws.Externs
/- The operations that only look at their operands (2). -/
namespace Go.Ai
variable {P : Program} {an : Ann} {B : Nat} {K : KW} {w : World} {S : St} {E : Env} {ts : List AV} {a : Act}

theorem run_sizeOf' {t : TypeId} {n : Nat} (h : sizeT P t = some n) : (sizeOf t).run P w = .ok n w := by
  simp only [sizeT, Option.map_eq_some_iff] at h
  obtain ⟨i, hi, rfl⟩ := h
  simp [sizeOf, typeInfo, hi]

theorem run_isAgg' {t : TypeId} {b : Bool} (h : aggT P t = some b) : (isAgg t).run P w = .ok b w := by
  simp only [aggT, bind, Option.bind_eq_some_iff] at h
  obtain ⟨d, hd, h⟩ := h
  unfold isAgg
  rw [Sem.run_bind, run_underlying hd, Result.andThen_ok]
  cases d <;> simp at h <;> subst h <;> rfl

theorem cut_get {cs : List AV} {off n j : Nat} : (cut cs off n)[j]? = if j < n then cs[off + j]? else none := by
  unfold cut; rw [List.getElem?_take, List.getElem?_drop]

theorem VRs.cut {cs : List AV} {vs : List Value} (off n : Nat) (h : VRs K w cs vs) : VRs K w (cut cs off n) ((vs.drop off).take n) := (h.drop off).take n

theorem cut_length {cs : List AV} {off n : Nat} (h : off + n ≤ cs.length) : (cut cs off n).length = n := by simp [cut]; omega

/-- A part of an aggregate. -/
theorem run_part' {t : TypeId} {ag : Bool} {sz off : Nat} {cs : List AV} {vs : List Value} {v : AV} (ha : aggT P t = some ag) (hs : sizeT P t = some sz) (h : VRs K w cs vs) (ho : off + sz ≤ cs.length)
    (hv : asVal ag (Ai.cut cs off sz) = some v) : ∃ v', (part t ⟨vs⟩ off).run P w = .ok v' w ∧ VR K w v v' := by
  have hc := h.cut off sz
  unfold part
  rw [Sem.run_bind, run_isAgg' ha, Result.andThen_ok]
  cases ag with
  | true =>
    simp [asVal] at hv
    subst hv
    refine ⟨.agg ⟨(vs.drop off).take sz⟩, ?_, .agg _ _ hc.1 hc.2⟩
    simp [run_sizeOf' hs]
  | false =>
    simp only [asVal, Bool.false_eq_true, if_false] at hv
    split at hv <;> cases hv
    rename_i heq
    have hl : (Ai.cut cs off sz).length = 1 := by rw [heq]; rfl
    rw [cut_length ho] at hl
    subst hl
    have h0 : cs[off]? = some v := by have := cut_get (cs := cs) (off := off) (n := 1) (j := 0); rw [heq] at this; simpa using this.symm
    obtain ⟨v', hv', hr⟩ := h.get h0
    refine ⟨v', ?_, hr⟩
    simp [hv']

theorem snd_fld {o : Oper} {s : TypeId} {x : Operand} {x' : OA} {f : Nat} {fs : Array Field} {fd : Field} {sz : Nat} {ag : Bool} {v : AV} (C : Cx P an B K w S E ts a.tmps) (ho : o.op = .field s x f)
    (hs : P.underlying s = some (.struct fs)) (hf : fs[f]? = some fd) (hsz : sizeT P fd.type = some sz) (hag : aggT P fd.type = some ag) (hx : oa x = some x') (he : aopP E ts (.fld fd.offset sz ag x') = some v) :
    Good P an B K w ((execOp a.eval o).run P w) v S := by
  simp only [aopP] at he
  have rx := C.opd hx
  generalize ev E ts x' = p at he rx
  split at he <;> try (cases he; done)
  split at he <;> try (cases he; done)
  rename_i hle
  generalize hz : a.eval x = z at rx
  cases rx with
  | agg cs vs hl h =>
    obtain ⟨v', hv', hr⟩ := run_part' (P := P) hag hsz ⟨hl, h⟩ hle he
    refine Good.same C.inv (v' := v') ?_ hr
    simp [execOp, ho, hz, Instr.field, run_underlying hs, hf, asAgg, hv']

theorem snd_fad {o : Oper} {s : TypeId} {x : Operand} {x' : OA} {f : Nat} {fs : Array Field} {fd : Field} {sz : Nat} {v : AV} (C : Cx P an B K w S E ts a.tmps) (ho : o.op = .fieldAddr s x f)
    (hs : P.underlying s = some (.struct fs)) (hf : fs[f]? = some fd) (hsz : sizeT P fd.type = some sz) (hnz : sz ≠ 0) (hx : oa x = some x') (he : aopP E ts (.fad fd.offset x') = some v) :
    Good P an B K w ((execOp a.eval o).run P w) v S := by
  simp only [aopP] at he
  have rx := C.opd hx
  generalize ev E ts x' = p at he rx
  generalize hz : a.eval x = z at rx
  cases rx <;> simp at he
  case ptr id ver off h =>
    subst he
    refine Good.same C.inv ?_ (VR.ptr id ver _ h)
    simp [execOp, ho, hz, Instr.fieldAt, run_underlying hs, hf, Instr.sureAddr, fieldPlace, run_sizeOf' hsz, hnz, Addr.add_lit, Nat.add_assoc]
  case cp cs off b o' vs hl hc h =>
    subst he
    refine Good.same C.inv ?_ (VR.cp cs _ b o' vs hl hc h)
    simp [execOp, ho, hz, Instr.fieldAt, run_underlying hs, hf, Instr.sureAddr, fieldPlace, run_sizeOf' hsz, hnz, Addr.add_lit, Nat.add_assoc]

theorem idx_inv {i : AV} {n j : Nat} {z : Value} (h : idxOf i n = some j) (hr : VR K w i z) : ∃ k m, z = .int k m ∧ 0 ≤ m ∧ m < n ∧ m.toNat = j := by
  unfold idxOf at h
  split at h <;> try (cases h; done)
  split at h <;> cases h
  rename_i k m hb
  exact ⟨k, m, int_inv hr, hb.1, hb.2, rfl⟩

theorem snd_iaL {o : Oper} {t e : TypeId} {x i : Operand} {x' i' : OA} {sz : Nat} {v : AV} (C : Cx P an B K w S E ts a.tmps) (ho : o.op = .indexAddr t x i)
    (ht : P.underlying t = some (.slice e)) (hsz : sizeT P e = some sz) (hsz0 : ¬ sz = 0) (hx : oa x = some x') (hi : oa i = some i') (he : aopP E ts (.iaL sz x' i') = some v) :
    Good P an B K w ((execOp a.eval o).run P w) v S := by
  simp only [aopP] at he
  have rx := C.opd hx
  have ri := C.opd hi
  generalize ev E ts x' = p at he rx
  generalize ev E ts i' = q at he ri
  generalize hz : a.eval x = z at rx
  generalize hy : a.eval i = y at ri
  cases rx <;> simp only [reduceCtorEq] at he
  case sl cs n ex b o' cap sp vs hn hxx hs hl hc h =>
    split at he <;> try (cases he; done)
    rename_i hlen
    simp only [Option.map_eq_some_iff] at he
    obtain ⟨j, hj, rfl⟩ := he
    obtain ⟨k, m, rfl, h0, h1, rfl⟩ := idx_inv hj ri
    obtain rfl : sp = none := by
      rcases hs with hs | hs
      · exact hs
      · subst hs
        have := Nat.mul_pos (show 0 < n by omega) (Nat.pos_of_ne_zero hsz0)
        simp only [List.length_nil] at hl
        omega
    refine Good.same C.inv ?_ (VR.cp cs _ b o' vs hl hc h)
    simp [execOp, ho, hz, hy, Instr.indexAt, asIntOf, run_underlying ht, run_sizeOf' hsz, h0, h1, Addr.add_lit]
  case nsl ex =>
    split at he <;> try (cases he; done)
    simp only [Option.map_eq_some_iff] at he
    obtain ⟨j, hj, rfl⟩ := he
    obtain ⟨k, m, rfl, h0, h1, rfl⟩ := idx_inv hj ri
    omega
  case ms id ver off n sz' ex b o' cap hv hn hxx ha =>
    split at he <;> try (cases he; done)
    rename_i hse
    subst hse
    simp only [Option.map_eq_some_iff] at he
    obtain ⟨j, hj, rfl⟩ := he
    obtain ⟨k, m, rfl, h0, h1, rfl⟩ := idx_inv hj ri
    rcases ha with ha | ⟨rfl, rfl, _⟩
    · omega
    refine Good.same C.inv ?_ (VR.ptr id ver _ hv)
    simp [execOp, ho, hz, hy, Instr.indexAt, asIntOf, run_underlying ht, run_sizeOf' hsz, h0, h1, Addr.add_lit, Nat.add_assoc]

theorem snd_iaA {o : Oper} {t e : TypeId} {len : Nat} {x i : Operand} {x' i' : OA} {sz : Nat} {v : AV} (C : Cx P an B K w S E ts a.tmps) (ho : o.op = .indexAddr t x i)
    (ht : P.underlying t = some (.array len e)) (hsz : sizeT P e = some sz) (hx : oa x = some x') (hi : oa i = some i') (he : aopP E ts (.iaA len sz x' i') = some v) :
    Good P an B K w ((execOp a.eval o).run P w) v S := by
  simp only [aopP] at he
  have rx := C.opd hx
  have ri := C.opd hi
  generalize ev E ts x' = p at he rx
  generalize ev E ts i' = q at he ri
  generalize hz : a.eval x = z at rx
  generalize hy : a.eval i = y at ri
  cases rx <;> simp only [reduceCtorEq] at he
  case ptr id ver off h =>
    simp only [Option.map_eq_some_iff] at he
    obtain ⟨j, hj, rfl⟩ := he
    obtain ⟨k, m, rfl, h0, h1, rfl⟩ := idx_inv hj ri
    refine Good.same C.inv ?_ (VR.ptr id ver _ h)
    simp [execOp, ho, hz, hy, Instr.indexAt, asIntOf, run_underlying ht, run_sizeOf' hsz, h0, h1, Addr.add_lit, Instr.sureAddr, Nat.add_assoc]
  case cp cs off b o' vs hl hc h =>
    simp only [Option.map_eq_some_iff] at he
    obtain ⟨j, hj, rfl⟩ := he
    obtain ⟨k, m, rfl, h0, h1, rfl⟩ := idx_inv hj ri
    refine Good.same C.inv ?_ (VR.cp cs _ b o' vs hl hc h)
    simp [execOp, ho, hz, hy, Instr.indexAt, asIntOf, run_underlying ht, run_sizeOf' hsz, h0, h1, Addr.add_lit, Instr.sureAddr, Nat.add_assoc]

theorem snd_ixA {o : Oper} {t e : TypeId} {len : Nat} {x i : Operand} {x' i' : OA} {sz : Nat} {ag : Bool} {v : AV} (C : Cx P an B K w S E ts a.tmps) (ho : o.op = .index t x i)
    (ht : P.underlying t = some (.array len e)) (hsz : sizeT P e = some sz) (hag : aggT P e = some ag) (hx : oa x = some x') (hi : oa i = some i') (he : aopP E ts (.ixA len sz ag x' i') = some v) :
    Good P an B K w ((execOp a.eval o).run P w) v S := by
  simp only [aopP] at he
  have rx := C.opd hx
  have ri := C.opd hi
  generalize ev E ts x' = p at he rx
  generalize ev E ts i' = q at he ri
  generalize hz : a.eval x = z at rx
  generalize hy : a.eval i = y at ri
  cases rx <;> simp only [reduceCtorEq] at he
  case agg cs vs hl h =>
    simp only [Option.bind_eq_some_iff] at he
    obtain ⟨j, hj, he⟩ := he
    split at he <;> try (cases he; done)
    rename_i hle
    obtain ⟨k, m, rfl, h0, h1, rfl⟩ := idx_inv hj ri
    obtain ⟨v', hv', hr⟩ := run_part' (P := P) hag hsz ⟨hl, h⟩ hle he
    refine Good.same C.inv (v' := v') ?_ hr
    simp [execOp, ho, hz, hy, Instr.index, asIntOf, run_underlying ht, run_sizeOf' hsz, h0, h1, hv']

theorem snd_ixS {o : Oper} {t : TypeId} {x i : Operand} {x' i' : OA} {v : AV} (C : Cx P an B K w S E ts a.tmps) (ho : o.op = .index t x i)
    (ht : P.underlying t = some .string) (hx : oa x = some x') (hi : oa i = some i') (he : aopP E ts (.ixS x' i') = some v) :
    Good P an B K w ((execOp a.eval o).run P w) v S := by
  simp only [aopP] at he
  have rx := C.opd hx
  have ri := C.opd hi
  generalize ev E ts x' = p at he rx
  generalize ev E ts i' = q at he ri
  generalize hz : a.eval x = z at rx
  generalize hy : a.eval i = y at ri
  cases rx <;> simp only [reduceCtorEq] at he
  case str s =>
    simp only [Option.bind_eq_some_iff, Option.map_eq_some_iff] at he
    obtain ⟨j, hj, b, hb, rfl⟩ := he
    obtain ⟨k, m, rfl, h0, h1, rfl⟩ := idx_inv hj ri
    refine Good.same C.inv ?_ (VR.int _ _)
    have hlt : m.toNat < s.length := by omega
    have hb' : (⟨⟨s⟩⟩ : ByteArray)[m.toNat]? = some b := by
      rw [List.getElem?_eq_getElem hlt] at hb
      cases hb
      have : m.toNat < (⟨⟨s⟩⟩ : ByteArray).size := by simpa [ByteArray.size] using hlt
      rw [getElem?_pos (⟨⟨s⟩⟩ : ByteArray) m.toNat this]
      rfl
    simp [execOp, ho, hz, hy, Instr.index, asIntOf, run_underlying ht, h0, hb']

theorem snd_lenL {o : Oper} {c : Call} {t e : TypeId} {x : Operand} {x' : OA} {v : AV} (C : Cx P an B K w S E ts a.tmps) (ho : o.op = .call c) (hc : c.callee = .builtin .len) (ha : c.args.toList = [x]) (hty : c.argTypes[0]? = some t)
    (ht : P.underlying t = some (.slice e)) (hx : oa x = some x') (he : aopP E ts (.lenL x') = some v) : Good P an B K w ((execOp a.eval o).run P w) v S := by
  simp only [aopP] at he
  have rx := C.opd hx
  generalize ev E ts x' = p at he rx
  generalize hz : a.eval x = z at rx
  have ha' : c.args = #[x] := by apply Array.ext'; simpa using ha
  have key : ∀ b n cap, z = .slice b n cap → (execOp a.eval o).run P w = .ok (.value (goInt n)) w := by
    rintro b n cap rfl
    simp [execOp, ho, resolve, hc, ha', hz, invoke, builtin, Builtin.len_, hty, run_underlying ht]
  cases rx <;> simp only [reduceCtorEq] at he
  case nils => cases he; exact Good.same C.inv (key _ _ _ rfl) (VR.int _ _)
  case sl => cases he; exact Good.same C.inv (key _ _ _ rfl) (VR.int _ _)
  case nsl => cases he; exact Good.same C.inv (key _ _ _ rfl) (VR.int _ _)
  case ms => cases he; exact Good.same C.inv (key _ _ _ rfl) (VR.int _ _)

theorem snd_lenS {o : Oper} {c : Call} {t : TypeId} {x : Operand} {x' : OA} {v : AV} (C : Cx P an B K w S E ts a.tmps) (ho : o.op = .call c) (hc : c.callee = .builtin .len) (ha : c.args.toList = [x]) (hty : c.argTypes[0]? = some t)
    (ht : P.underlying t = some .string) (hx : oa x = some x') (he : aopP E ts (.lenS x') = some v) : Good P an B K w ((execOp a.eval o).run P w) v S := by
  simp only [aopP] at he
  have rx := C.opd hx
  generalize ev E ts x' = p at he rx
  generalize hz : a.eval x = z at rx
  have ha' : c.args = #[x] := by apply Array.ext'; simpa using ha
  cases rx <;> simp only [reduceCtorEq] at he
  case str s =>
    cases he
    refine Good.same C.inv (v' := .int .i64 s.length) ?_ (VR.int _ _)
    have hs : goInt (⟨⟨s⟩⟩ : ByteArray).size = .int .i64 s.length := rfl
    simp only [execOp, ho, resolve, hc, ha', hz, invoke, builtin, Builtin.len_, hty, run_underlying ht, Sem.run_bind, Result.andThen_ok, Sem.run_pure, List.map_toArray, List.map_cons, List.map_nil, hs, List.getElem?_toArray, List.getElem?_cons_zero]

theorem snd_lenC {o : Oper} {c : Call} {t : TypeId} {x : Operand} {n : Nat} {v : AV} (C : Cx P an B K w S E ts a.tmps) (ho : o.op = .call c) (hc : c.callee = .builtin .len) (ha : c.args.toList = [x]) (hty : c.argTypes[0]? = some t)
    (ht : (∃ e, P.underlying t = some (.array n e)) ∨ ∃ u e, P.underlying t = some (.pointer u) ∧ P.underlying u = some (.array n e)) (he : aopP E ts (.lenC n) = some v) : Good P an B K w ((execOp a.eval o).run P w) v S := by
  simp only [aopP] at he
  cases he
  have ha' : c.args = #[x] := by apply Array.ext'; simpa using ha
  refine Good.same C.inv (v' := .int .i64 n) ?_ (VR.int _ _)
  rcases ht with ⟨e, ht⟩ | ⟨u, e, ht, hu⟩
  · simp [execOp, ho, resolve, hc, ha', invoke, builtin, Builtin.len_, hty, run_underlying ht, goInt]
  · simp [execOp, ho, resolve, hc, ha', invoke, builtin, Builtin.len_, hty, run_underlying ht, run_underlying hu, goInt]

theorem snd_capL {o : Oper} {c : Call} {t e : TypeId} {x : Operand} {x' : OA} {v : AV} (C : Cx P an B K w S E ts a.tmps) (ho : o.op = .call c) (hc : c.callee = .builtin .cap) (ha : c.args.toList = [x]) (hty : c.argTypes[0]? = some t)
    (ht : P.underlying t = some (.slice e)) (hx : oa x = some x') (he : aopP E ts (.capL x') = some v) : Good P an B K w ((execOp a.eval o).run P w) v S := by
  simp only [aopP] at he
  have rx := C.opd hx
  generalize ev E ts x' = p at he rx
  generalize hz : a.eval x = z at rx
  have ha' : c.args = #[x] := by apply Array.ext'; simpa using ha
  have key : ∀ b n cap, z = .slice b n cap → (execOp a.eval o).run P w = .ok (.value (goInt cap)) w := by
    rintro b n cap rfl
    simp [execOp, ho, resolve, hc, ha', hz, invoke, builtin, Builtin.cap_, hty, run_underlying ht]
  split at he <;> try (cases he; done)
  · cases he; cases rx; exact Good.same C.inv (key _ _ _ rfl) (VR.int _ _)
  · cases he
    cases rx with
    | sl cs n ex b o' cap sp vs hn hxx hs hl hc h =>
      have := hxx rfl
      subst this
      exact Good.same C.inv (key _ _ _ rfl) (VR.int _ _)
    | nsl ex => exact Good.same C.inv (key _ _ _ rfl) (VR.int _ _)
  · cases he
    cases rx with
    | ms id ver off n sz' ex b o' cap hv hn hxx ha =>
      have := hxx rfl
      subst this
      exact Good.same C.inv (key _ _ _ rfl) (VR.int _ _)

end Go.Ai


/- The operations that only look at their operands (3): slices, maxima, texts against each other. -/
namespace Go.Ai
variable {P : Program} {an : Ann} {B : Nat} {K : KW} {w : World} {S : St} {E : Env} {ts : List AV} {a : Act}

theorem nat_inv {x : AV} {n : Nat} {z : Value} (h : natOf x = some n) (hr : VR K w x z) : ∃ k m, z = .int k m ∧ 0 ≤ m ∧ m.toNat = n := by
  unfold natOf at h
  split at h <;> try (cases h; done)
  split at h <;> cases h
  rename_i k m hb
  exact ⟨k, m, int_inv hr, hb, rfl⟩

theorem run_bound1 {x : Operand} {x' : OA} {n y : Nat} {code : BoundsCode} (C : Cx P an B K w S E ts a.tmps) (hx : oa x = some x') (h : natOf (ev E ts x') = some n) (hle : n ≤ y) :
    (Instr.sliceBound (a.eval x) y code).run P w = .ok n w := by
  obtain ⟨k, m, hz, h0, rfl⟩ := nat_inv h (C.opd hx)
  rw [hz]
  have : m ≤ (y : Int) := by omega
  simp [Instr.sliceBound, asIntOf, h0, this]

theorem run_bnds {lo hi : Option Operand} {lo' hi' : Option OA} {len cap l h : Nat} {isS : Bool} (C : Cx P an B K w S E ts a.tmps) (hlo : oaO lo = some lo') (hhi : oaO hi = some hi')
    (h1 : bnd E ts lo' 0 = some l) (h2 : bnd E ts hi' len = some h) (hle : l ≤ h) (hc : h ≤ cap) :
    (Instr.sliceBounds isS len cap (lo.map a.eval) (hi.map a.eval) none).run P w = .ok (l, h, cap) w := by
  cases lo <;> cases hi <;> simp [oaO, Option.map_eq_some_iff] at hlo hhi
  · subst hlo; subst hhi
    simp [bnd] at h1 h2
    subst h1; subst h2
    simp [Instr.sliceBounds]
  · subst hlo
    obtain ⟨y, hy, rfl⟩ := hhi
    simp [bnd] at h1 h2
    subst h1
    simp [Instr.sliceBounds, run_bound1 C hy h2 hc]
  · subst hhi
    obtain ⟨x, hx, rfl⟩ := hlo
    simp [bnd] at h1 h2
    subst h2
    simp [Instr.sliceBounds, run_bound1 C hx h1 hle]
  · obtain ⟨x, hx, rfl⟩ := hlo
    obtain ⟨y, hy, rfl⟩ := hhi
    simp [bnd] at h1 h2
    simp [Instr.sliceBounds, run_bound1 C hx h1 hle, run_bound1 C hy h2 hc]

theorem run_bnds3 {lo hi mx : Option Operand} {lo' : Option OA} {hi' mx' : OA} {len cap l h m : Nat} {isS : Bool} (C : Cx P an B K w S E ts a.tmps) (hlo : oaO lo = some lo') (hhi : oaO hi = some (some hi')) (hmx : oaO mx = some (some mx'))
    (h1 : bnd E ts lo' 0 = some l) (h2 : natOf (ev E ts hi') = some h) (h3 : natOf (ev E ts mx') = some m) (hle : l ≤ h) (hm : h ≤ m) (hc : m ≤ cap) :
    (Instr.sliceBounds isS len cap (lo.map a.eval) (hi.map a.eval) (mx.map a.eval)).run P w = .ok (l, h, m) w := by
  cases hi <;> cases mx <;> simp [oaO, Option.map_eq_some_iff] at hhi hmx
  cases lo <;> simp [oaO, Option.map_eq_some_iff] at hlo
  · subst hlo
    simp [bnd] at h1
    subst h1
    simp [Instr.sliceBounds, run_bound1 C hhi h2 hm, run_bound1 C hmx h3 hc]
  · obtain ⟨x, hx, rfl⟩ := hlo
    simp [bnd] at h1
    simp [Instr.sliceBounds, run_bound1 C hhi h2 hm, run_bound1 C hmx h3 hc, run_bound1 C hx h1 hle]

theorem extract_bytes (s : List UInt8) (l h : Nat) : (⟨⟨s⟩⟩ : ByteArray).extract l h = ⟨⟨(s.drop l).take (h - l)⟩⟩ := by
  apply ByteArray.ext
  rw [ByteArray.data_extract]
  apply Array.ext'
  simp

theorem snd_slS {o : Oper} {t : TypeId} {x : Operand} {lo hi : Option Operand} {x' : OA} {lo' hi' : Option OA} {v : AV} (C : Cx P an B K w S E ts a.tmps) (ho : o.op = .slice t x lo hi none)
    (ht : P.underlying t = some .string) (hx : oa x = some x') (hlo : oaO lo = some lo') (hhi : oaO hi = some hi') (he : aopP E ts (.slS x' lo' hi') = some v) :
    Good P an B K w ((execOp a.eval o).run P w) v S := by
  simp only [aopP] at he
  have rx := C.opd hx
  generalize ev E ts x' = p at he rx
  generalize hz : a.eval x = z at rx
  cases rx <;> simp only [reduceCtorEq] at he
  case str s =>
    split at he <;> try (cases he; done)
    rename_i l h hl hh
    split at he <;> cases he
    rename_i hb
    refine Good.same C.inv (v' := .string ((⟨⟨s⟩⟩ : ByteArray).extract l h)) ?_ ?_
    · have hs : (⟨⟨s⟩⟩ : ByteArray).size = s.length := rfl
      have hb2 := run_bnds (isS := false) (cap := s.length) C hlo hhi hl hh hb.1 hb.2
      simp only [execOp, ho, hz, Instr.sliceAt, Instr.slice, run_underlying ht, Sem.run_bind, Result.andThen_ok, hs, Option.map_none, hb2, Option.isSome_none, Bool.false_eq_true, if_false, Sem.run_pure]
    · rw [extract_bytes]; exact VR.str _

/-- A slice of a slice. -/
theorem slOf_sound {sz : Nat} {x : AV} {z : Value} {l h : Nat} {m : Option Nat} {v : AV} (hr : VR K w x z) (he : slOf sz x l h m = some v) :
    ∃ b n cap, z = .slice b n cap ∧ l ≤ h ∧ h ≤ (m.getD cap) ∧ (m.getD cap) ≤ cap ∧ (h ≤ n) ∧
      VR K w v (.slice (if m.getD cap = l then b else b.map (·.add (l * sz))) (h - l) (m.getD cap - l)) := by
  unfold slOf at he
  split at he
  · cases hr
    split at he <;> cases he
    rename_i hb
    obtain ⟨rfl, rfl, hm⟩ := hb
    refine ⟨none, 0, 0, rfl, Nat.le_refl _, ?_, ?_, Nat.le_refl _, ?_⟩
    · omega
    · rcases hm with rfl | rfl <;> simp
    · rcases hm with rfl | rfl <;> exact VR.nils
  · rename_i cs n ex
    cases hr with
    | nsl _ =>
      cases m with
      | none =>
        simp only at he
        split at he <;> cases he
        rename_i hb
        obtain rfl : h = 0 := by omega
        obtain rfl : l = 0 := by omega
        exact ⟨none, 0, 0, rfl, Nat.le_refl _, by simp, by simp, Nat.le_refl _, by simpa [cut] using VR.nsl _⟩
      | some m =>
        simp only at he
        split at he <;> cases he
        rename_i hb
        obtain rfl : m = 0 := by omega
        obtain rfl : h = 0 := by omega
        obtain rfl : l = 0 := by omega
        exact ⟨none, 0, 0, rfl, Nat.le_refl _, by simp, by simp, Nat.le_refl _, by simpa [cut] using VR.nsl _⟩
    | sl _ _ _ b o cap sp vs hn hxx hs hl hc hh =>
    have fin : ∀ (c : Nat) (e2 : Bool), l ≤ h → h ≤ n → h ≤ c → c ≤ cap → cs.length = n * sz → (e2 = true → c = h) →
        VR K w (.sl (cut cs (l * sz) ((h - l) * sz)) (h - l) e2) (.slice (if c = l then some ⟨b, o, sp⟩ else (some (⟨b, o, sp⟩ : Addr)).map (·.add (l * sz))) (h - l) (c - l)) := by
      intro c e2 h1 h2 h3 h4 h5 h6
      have hss : sp = none ∨ (vs.drop (l * sz)).take ((h - l) * sz) = [] := by
        rcases hs with hs | hs
        · exact .inl hs
        · subst hs; simp
      have hcut := VRs.cut (l * sz) ((h - l) * sz) (⟨hl, hh⟩ : VRs K w cs vs)
      have hmul : l * sz + (h - l) * sz ≤ n * sz := by rw [← Nat.add_mul]; exact Nat.mul_le_mul_right _ (by omega)
      have hcl : (cut cs (l * sz) ((h - l) * sz)).length = (h - l) * sz := cut_length (by omega)
      by_cases hcl' : c = l
      · rw [if_pos hcl']
        have hz : h - l = 0 := by omega
        refine VR.sl _ _ _ b o (c - l) sp ((vs.drop (l * sz)).take ((h - l) * sz)) (by omega) (fun e => by have := h6 e; omega) hss hcut.1 (fun j v hv => ?_) hcut.2
        simp [hz] at hv
      · rw [if_neg hcl']
        simp only [Option.map_some]
        obtain ⟨sp', hadd, hsp'⟩ : ∃ sp', (⟨b, o, sp⟩ : Addr).add (l * sz) = ⟨b, o + l * sz, sp'⟩ ∧ (sp' = none ∨ sp' = sp) := by
          unfold Addr.add
          split
          · rename_i h0; rw [h0]; exact ⟨sp, rfl, .inr rfl⟩
          · exact ⟨none, rfl, .inl rfl⟩
        rw [hadd]
        have hss : sp' = none ∨ (vs.drop (l * sz)).take ((h - l) * sz) = [] := by
          rcases hsp' with rfl | rfl
          · exact .inl rfl
          · exact hss
        refine VR.sl _ _ _ b (o + l * sz) (c - l) sp' ((vs.drop (l * sz)).take ((h - l) * sz)) (by omega) (fun e => by have := h6 e; omega) hss hcut.1 (fun j v hv => ?_) hcut.2
        rw [List.getElem?_take, List.getElem?_drop] at hv
        split at hv
        · have := hc _ v hv
          rw [Nat.add_assoc]; exact this
        · cases hv
    cases m with
    | none =>
      simp only at he
      split at he <;> cases he
      rename_i hb
      refine ⟨_, _, _, rfl, hb.1, by simp; omega, by simp, hb.2.1, ?_⟩
      refine fin cap (ex && h == n) hb.1 hb.2.1 (by omega) (Nat.le_refl _) hb.2.2 (fun e => ?_)
      simp at e
      rw [e.2]; exact hxx e.1
    | some m =>
      simp only at he
      split at he <;> cases he
      rename_i hb
      refine ⟨_, _, _, rfl, hb.1, by simp; omega, by simp; omega, by omega, ?_⟩
      refine fin m (m == h) hb.1 (by omega) hb.2.1 (by omega) hb.2.2.2 (fun e => by simpa using e)
  · rename_i id ver off n sz' ex
    cases hr with
    | ms _ _ _ _ _ _ b o cap hv hn hxx ha =>
    have fin : ∀ (c : Nat) (e2 : Bool), l ≤ h → h ≤ n → h ≤ c → c ≤ cap → (e2 = true → c = h) →
        VR K w (.ms id ver (off + l * sz') (h - l) sz' e2) (.slice (if c = l then some ⟨b, o, none⟩ else (some (⟨b, o, none⟩ : Addr)).map (·.add (l * sz'))) (h - l) (c - l)) := by
      intro c e2 h1 h2 h3 h4 h6
      by_cases hcl' : c = l
      · rw [if_pos hcl']
        exact VR.ms id ver _ _ _ _ b o (c - l) hv (by omega) (fun e => by have := h6 e; omega) (.inl (by omega))
      · rw [if_neg hcl']
        simp only [Option.map_some, Addr.add_lit]
        rcases ha with ha | ⟨rfl, rfl, ha⟩
        · omega
        · refine VR.ms id ver _ _ _ _ _ _ (c - l) hv (by omega) (fun e => by have := h6 e; omega) (.inr ⟨rfl, by omega, ?_⟩)
          have e1 : l * sz' + (c - l) * sz' = c * sz' := by rw [← Nat.add_mul]; congr 1; omega
          have e2 : c * sz' ≤ cap * sz' := Nat.mul_le_mul_right _ h4
          omega
    cases m with
    | none =>
      simp only at he
      split at he <;> cases he
      rename_i hb
      obtain ⟨hb1, hb2, rfl⟩ := hb
      refine ⟨_, _, _, rfl, hb1, by simp; omega, by simp, hb2, ?_⟩
      refine fin cap (ex && h == n) hb1 hb2 (by omega) (Nat.le_refl _) (fun e => ?_)
      simp at e
      rw [e.2]; exact hxx e.1
    | some m =>
      simp only at he
      split at he <;> cases he
      rename_i hb
      obtain ⟨hb1, hb2, hb3, rfl⟩ := hb
      refine ⟨_, _, _, rfl, hb1, by simp; omega, by simp; omega, by omega, ?_⟩
      exact fin m (m == h) hb1 (by omega) hb2 (by omega) (fun e => by simpa using e)
  · cases he

theorem snd_slL {o : Oper} {t e : TypeId} {x : Operand} {lo hi mx : Option Operand} {x' : OA} {lo' hi' mx' : Option OA} {sz : Nat} {v : AV} (C : Cx P an B K w S E ts a.tmps) (ho : o.op = .slice t x lo hi mx)
    (ht : P.underlying t = some (.slice e)) (hsz : sizeT P e = some sz) (hx : oa x = some x') (hlo : oaO lo = some lo') (hhi : oaO hi = some hi') (hmx : oaO mx = some mx') (he : aopP E ts (.slL sz x' lo' hi' mx') = some v) :
    Good P an B K w ((execOp a.eval o).run P w) v S := by
  simp only [aopP] at he
  have rx := C.opd hx
  generalize hp : ev E ts x' = p at he rx
  generalize hz : a.eval x = z at rx
  have hn : ∀ b n cap, z = .slice b n cap → lenN p = n := by
    rintro b n cap rfl; cases rx <;> rfl
  split at he <;> try (cases he; done)
  rename_i l h hl hh
  split at he
  · obtain ⟨b, n, cap, rfl, h1, h2, h3, h4, hr⟩ := slOf_sound rx he
    simp only [Option.getD_none] at h2 h3 hr
    have hNn := hn _ _ _ rfl
    rw [hNn] at hh
    refine Good.same C.inv ?_ hr
    have hmn : mx = none := by cases mx <;> simp [oaO] at hmx <;> rfl
    subst hmn
    have hb2 := run_bnds (isS := true) C hlo hhi hl hh h1 h2
    simp only [execOp, ho, hz, Instr.sliceAt, Instr.slice, run_underlying ht, Sem.run_bind, Result.andThen_ok, Option.map_none, hb2, run_sizeOf' hsz, Sem.run_pure]
  · rename_i m
    split at he <;> try (cases he; done)
    rename_i m' hi2 hm'
    obtain ⟨b, n, cap, rfl, h1, h2, h3, h4, hr⟩ := slOf_sound rx he
    simp only [Option.getD_some] at h2 h3 hr
    refine Good.same C.inv ?_ hr
    simp [bnd] at hh
    have hb2 := run_bnds3 (isS := true) (len := n) C hlo hhi hmx hl hh hm' h1 h2 h3
    simp only [execOp, ho, hz, Instr.sliceAt, Instr.slice, run_underlying ht, Sem.run_bind, Result.andThen_ok, hb2, run_sizeOf' hsz, Sem.run_pure]

theorem foldI_run (f : Int → Int → Int) (g : Value → Value → Sem Value) (hg : ∀ k x y, g (.int k x) (.int k y) = pure (.int k (f x y))) {k : IntKind} : ∀ (l : List AV) (vs : List Value) (x : Int) (v : AV), VRs K w l vs → foldI f k x l = some v →
    ∃ n : Int, (vs.foldlM g (.int k x)).run P w = .ok (.int k n) w ∧ v = .int k n
  | [], vs, x, v, h, he => by
    simp [foldI] at he; subst he
    have : vs = [] := List.eq_nil_of_length_eq_zero h.1
    subst this
    exact ⟨x, rfl, rfl⟩
  | a :: l, vs, x, v, h, he => by
    cases vs with
    | nil => have := h.1; simp at this
    | cons u us =>
      have hu := h.2 0 a u rfl rfl
      have hus : VRs K w l us := ⟨by have := h.1; simpa using this, fun j a v ha hv => h.2 (j + 1) a v (by simpa using ha) (by simpa using hv)⟩
      cases a <;> simp only [foldI, reduceCtorEq] at he
      case int k' b =>
        split at he <;> try (cases he; done)
        rename_i hk
        subst hk
        have := int_inv hu
        subst this
        obtain ⟨n, hn, hv⟩ := foldI_run f g hg l us (f x b) v hus he
        refine ⟨n, ?_, hv⟩
        simp only [List.foldlM_cons, Sem.run_bind, hg, Sem.run_pure, Result.andThen_ok]
        exact hn

theorem snd_maxI {o : Oper} {c : Call} {x' : OA} {xs' : List OA} {v : AV} (C : Cx P an B K w S E ts a.tmps) (ho : o.op = .call c) (hc : c.callee = .builtin .max) (ha : oas c.args = some (x' :: xs'))
    (he : aopP E ts (.maxI x' xs') = some v) : Good P an B K w ((execOp a.eval o).run P w) v S := by
  simp only [aopP] at he
  have hr := C.opds ha
  generalize hL : (c.args.map a.eval) = L at hr
  obtain ⟨L⟩ := L
  simp only [List.map_cons] at hr
  cases L with
  | nil => have := hr.1; simp at this
  | cons z zs =>
    split at he <;> try (cases he; done)
    rename_i k n hk
    have h0 := hr.2 0 _ z rfl rfl
    rw [hk] at h0
    have := int_inv h0
    subst this
    have hzs : VRs K w (xs'.map (ev E ts)) zs := ⟨by have := hr.1; simpa using this, fun j a v ha hv => hr.2 (j + 1) a v (by simpa using ha) (by simpa using hv)⟩
    obtain ⟨m, hm, rfl⟩ := foldI_run (P := P) _ Builtin.max2 (fun _ _ _ => rfl) _ _ _ _ hzs he
    refine Good.same C.inv ?_ (VR.int k m)
    have hL' : (c.args.map a.eval) = ⟨.int k n :: zs⟩ := hL
    simp only [execOp, ho, resolve, hc, invoke, builtin, Builtin.max_, hL', Sem.run_bind, Sem.run_pure, Result.andThen_ok, hm]

theorem snd_minI {o : Oper} {c : Call} {x' : OA} {xs' : List OA} {v : AV} (C : Cx P an B K w S E ts a.tmps) (ho : o.op = .call c) (hc : c.callee = .builtin .min) (ha : oas c.args = some (x' :: xs'))
    (he : aopP E ts (.minI x' xs') = some v) : Good P an B K w ((execOp a.eval o).run P w) v S := by
  simp only [aopP] at he
  have hr := C.opds ha
  generalize hL : (c.args.map a.eval) = L at hr
  obtain ⟨L⟩ := L
  simp only [List.map_cons] at hr
  cases L with
  | nil => have := hr.1; simp at this
  | cons z zs =>
    split at he <;> try (cases he; done)
    rename_i k n hk
    have h0 := hr.2 0 _ z rfl rfl
    rw [hk] at h0
    have := int_inv h0
    subst this
    have hzs : VRs K w (xs'.map (ev E ts)) zs := ⟨by have := hr.1; simpa using this, fun j a v ha hv => hr.2 (j + 1) a v (by simpa using ha) (by simpa using hv)⟩
    obtain ⟨m, hm, rfl⟩ := foldI_run (P := P) _ Builtin.min2 (fun _ _ _ => rfl) _ _ _ _ hzs he
    refine Good.same C.inv ?_ (VR.int k m)
    have hL' : (c.args.map a.eval) = ⟨.int k n :: zs⟩ := hL
    simp only [execOp, ho, resolve, hc, invoke, builtin, Builtin.min_, hL', Sem.run_bind, Sem.run_pure, Result.andThen_ok, hm]

theorem prEq_sound {f : Field} {x y : AV} {u z : Value} {b : Bool} {d kd : Nat} (ht : kindF P f = some kd) (hx : VR K w x u) (hy : VR K w y z) (h : prEq kd x y = some b) :
    (Op.equalIn (d + 1) f.type u z).run P w = .ok b w := by
  unfold prEq at h
  split at h <;> try (cases h; done)
  · rename_i k n k' m
    split at h <;> try (cases h; done)
    rename_i hk
    cases h
    subst hk
    unfold kindF at ht
    split at ht <;> try (cases ht; done)
    rename_i k0 hk0
    rw [int_inv hx, int_inv hy]
    simp [Op.equalIn, run_underlying hk0]
  · cases h
    unfold kindF at ht
    split at ht <;> try (cases ht; done)
    rename_i hk0
    rw [str_inv hx, str_inv hy, run_equalIn_string w d _ _ _ hk0, bytes_toList, bytes_toList]
  · cases h
    unfold kindF at ht
    split at ht <;> try (cases ht; done)
    rename_i hk0
    rw [bool_inv hx, bool_inv hy]
    simp [Op.equalIn, run_underlying hk0]

end Go.Ai


/- The operations that only look at their operands (4): equality, literals, bytes of a text. -/
namespace Go.Ai
variable {P : Program} {an : Ann} {B : Nat} {K : KW} {w : World} {S : St} {E : Env} {ts : List AV} {a : Act}

theorem run_part_one {f : Field} {kd : Nat} {vs : List Value} {off : Nat} {v : Value} (ha : kindF P f = some kd) (hv : vs[off]? = some v) : (part f.type ⟨vs⟩ off).run P w = .ok v w := by
  have : (isAgg f.type).run P w = .ok false w := by
    unfold kindF at ha
    split at ha <;> try (cases ha; done)
    all_goals
      rename_i hk
      unfold isAgg
      rw [Sem.run_bind, run_underlying hk, Result.andThen_ok]
      rfl
  unfold part
  rw [Sem.run_bind, this, Result.andThen_ok]
  simp [hv]

theorem prEqs_cons {k : Nat} {ks : List Nat} {as bs : List AV} {b : Bool} (h : prEqs (k :: ks) as bs = some b) : ∃ x xs y ys r, as = x :: xs ∧ bs = y :: ys ∧ prEq k x y = some r ∧ ((r = false ∧ b = false) ∨ (r = true ∧ prEqs ks xs ys = some b)) := by
  cases as with
  | nil => cases bs <;> simp [prEqs] at h
  | cons x xs =>
    cases bs with
    | nil => simp [prEqs] at h
    | cons y ys =>
      simp only [prEqs] at h
      cases hp : prEq k x y with
      | none => rw [hp] at h; simp at h
      | some r =>
        rw [hp] at h
        cases r
        · simp at h; exact ⟨x, xs, y, ys, false, rfl, rfl, hp, .inl ⟨rfl, h⟩⟩
        · simp at h; exact ⟨x, xs, y, ys, true, rfl, rfl, hp, .inr ⟨rfl, h⟩⟩

theorem eqFields_sound {d : Nat} {xs ys : List AV} {us zs : List Value} (hx : VRs K w xs us) (hy : VRs K w ys zs) : ∀ (fs : List Field) (ks : List Nat) (n : Nat) (b : Bool),
    (∀ (j : Nat) f, fs[j]? = some f → f.offset = n + j ∧ f.name ≠ "_") → fs.mapM (kindF P) = some ks → prEqs ks (xs.drop n) (ys.drop n) = some b →
    (Op.eqFields (d + 1) ⟨us⟩ ⟨zs⟩ fs).run P w = .ok b w
  | [], ks, n, b, _, hk, h => by
    simp at hk; subst hk
    cases h1 : xs.drop n <;> cases h2 : ys.drop n <;> rw [h1, h2] at h <;> simp [prEqs] at h
    subst h
    rfl
  | f :: fs, ks, n, b, hf, hk, h => by
    simp [List.mapM_cons, Option.bind_eq_some_iff] at hk
    obtain ⟨k, hk0, ks', hks, rfl⟩ := hk
    obtain ⟨x, xs2, y, ys2, r, e2, e3, hp, hr⟩ := prEqs_cons h
    have hx0 : xs[n]? = some x := by have := congrArg (fun l => l[0]?) e2; simpa using this
    have hy0 : ys[n]? = some y := by have := congrArg (fun l => l[0]?) e3; simpa using this
    have hxs : xs.drop (n + 1) = xs2 := by have := congrArg (List.drop 1) e2; simpa using this
    have hys : ys.drop (n + 1) = ys2 := by have := congrArg (List.drop 1) e3; simpa using this
    obtain ⟨u, hu, hur⟩ := hx.get hx0
    obtain ⟨z, hz, hzr⟩ := hy.get hy0
    have h0 := hf 0 f rfl
    simp only [Nat.add_zero] at h0
    have p1 := run_part_one (w := w) hk0 hu
    have p2 := run_part_one (w := w) hk0 hz
    rw [← h0.1] at p1 p2
    have ih := eqFields_sound (d := d) hx hy fs ks' (n + 1) b (fun j f' hj => by have := hf (j + 1) f' (by simpa using hj); exact ⟨by omega, this.2⟩) hks
    simp only [Op.eqFields, ne_eq, h0.2, not_false_eq_true, if_true, Sem.run_bind, p1, p2, Result.andThen_ok, prEq_sound hk0 hur hzr hp]
    rcases hr with ⟨rfl, rfl⟩ | ⟨rfl, hr⟩
    · simp
    · simp only [Bool.not_true, Bool.false_eq_true, if_false]
      exact ih (by rw [hxs, hys]; exact hr)

theorem clsT_inv {t : TypeId} {cl : Cls} (h : clsT P t = some (some cl)) : match cl with
    | .bool => P.underlying t = some .bool
    | .ptr => ∃ e, P.underlying t = some (.pointer e)
    | .slice => ∃ e, P.underlying t = some (.slice e)
    | .func => ∃ p r v, P.underlying t = some (.func p r v)
    | .agg ks => ∃ fs, P.underlying t = some (.struct fs) ∧ flat P t = some ks := by
  simp only [clsT, bind, Option.bind_eq_some_iff] at h
  obtain ⟨d, hd, h⟩ := h
  cases d <;> simp only [Option.some.injEq, reduceCtorEq, Option.map_eq_some_iff] at h
  case bool => subst h; exact hd
  case pointer e => subst h; exact ⟨e, hd⟩
  case slice e => subst h; exact ⟨e, hd⟩
  case func p r v => subst h; exact ⟨p, r, v, hd⟩
  case struct fs => obtain ⟨ks, hk, rfl⟩ := h; exact ⟨fs, hd, hk⟩

set_option maxHeartbeats 1600000 in
/-- '==' by what the type is. -/
theorem run_eqOf {t : TypeId} {cl : Cls} {x y : AV} {u z : Value} {b : Bool} (hcl : clsT P t = some (some cl)) (hx : VR K w x u) (hy : VR K w y z) (h : eqOf cl x y = some b) :
    (∀ op X Y, (eqGuard op t X Y u z).run P w = .ok () w) ∧ (binOp .eql t u z).run P w = .ok (.bool b) w ∧ (binOp .neq t u z).run P w = .ok (.bool !b) w := by
  have fin : (∀ op X Y, eqGuard op t X Y u z = pure ()) → (binOp .eql t u z = do pure (.bool (← Op.equal t u z))) → (binOp .neq t u z = do pure (.bool (!(← Op.equal t u z)))) → (∀ n, (Op.equalIn (n + 1) t u z).run P w = .ok b w) →
      (∀ op X Y, (eqGuard op t X Y u z).run P w = .ok () w) ∧ (binOp .eql t u z).run P w = .ok (.bool b) w ∧ (binOp .neq t u z).run P w = .ok (.bool !b) w := by
    intro h1 h2 h3 h40
    have h4 : (Op.equal t u z).run P w = .ok b w := h40 9999
    refine ⟨fun op X Y => by rw [h1]; rfl, ?_, ?_⟩
    · rw [h2]; simp [h4]
    · rw [h3]; simp [h4]
  have hi := clsT_inv hcl
  cases cl with
  | bool =>
    have hd : P.underlying t = some .bool := hi
    cases hx <;> cases hy <;> simp only [eqOf, reduceCtorEq, Option.some.injEq] at h
    subst h
    exact fin (fun _ _ _ => eqGuard_at_bool ..) rfl rfl (fun n => by simp [Op.equalIn, run_underlying hd])
  | ptr =>
    obtain ⟨e, hd⟩ := hi
    cases hx <;> cases hy <;> simp only [eqOf, reduceCtorEq, Option.some.injEq] at h <;> subst h <;>
      exact fin (fun _ _ _ => eqGuard_at_pointer ..) rfl rfl (fun n => by simp [Op.equalIn, run_underlying hd])
  | slice =>
    obtain ⟨e, hd⟩ := hi
    cases hx <;> cases hy <;> simp only [eqOf, reduceCtorEq, Option.some.injEq] at h <;> (try (split at h <;> (first | (cases h; done) | skip); rename_i h0; replace h := Option.some.inj h)) <;> subst h <;> first | exact absurd trivial (by assumption) |
      exact fin (fun _ _ _ => eqGuard_at_slice ..) rfl rfl (fun n => by simp [Op.equalIn, run_underlying hd])
  | func =>
    obtain ⟨p, r, v, hd⟩ := hi
    cases hx <;> cases hy <;> simp only [eqOf, reduceCtorEq, Option.some.injEq] at h <;> subst h
    all_goals first
      | exact fin (fun _ _ _ => eqGuard_at_func ..) rfl rfl (fun n => by simp [Op.equalIn, run_underlying hd])
      | exact fin (fun _ _ _ => eqGuard_at_nilFunc ..) rfl rfl (fun n => by simp [Op.equalIn, run_underlying hd])
  | agg ks =>
    obtain ⟨fs, hd, hfl⟩ := hi
    cases hx <;> cases hy <;> simp only [eqOf, reduceCtorEq] at h
    rename_i xs us hl1 h1 ys zs hl2 h2
    unfold flat at hfl
    rw [hd] at hfl
    simp only at hfl
    split at hfl <;> try (cases hfl; done)
    rename_i hcnd
    simp only [Bool.and_eq_true, Bool.not_eq_true', List.all_eq_true] at hcnd
    obtain ⟨⟨hall, hstood⟩, hguard⟩ := hcnd
    have hfo : P.fieldsOf t = fs := by simp [Program.fieldsOf, hd]
    have hrun : (Op.equalIn 10000 t (.agg ⟨us⟩) (.agg ⟨zs⟩)).run P w = .ok b w := by
      rw [run_equalIn_struct w 9999 t ⟨us⟩ ⟨zs⟩ (by rw [hfo]; exact hd) hstood, hfo]
      refine eqFields_sound (d := 9998) (⟨hl1, h1⟩ : VRs K w xs us) (⟨hl2, h2⟩ : VRs K w ys zs) fs.toList ks 0 b (fun j f hj => ?_) hfl (by simpa using h)
      have hm := hall (f, j) (by
        rw [List.mem_iff_getElem?]
        refine ⟨j, ?_⟩
        simp [List.getElem?_zipIdx, hj])
      simp at hm
      exact ⟨by simpa using hm.1, by simpa using hm.2⟩
    refine ⟨fun op X Y => run_eqGuard_agg w op t X Y _ _ hguard, ?_, ?_⟩
    · rw [run_eql_struct, hrun]; rfl
    · rw [run_neq_struct, hrun]; rfl

theorem snd_eq {o : Oper} {op : BinOp} {t u : TypeId} {cl : Cls} {x y : Operand} {x' y' : OA} {neg : Bool} {v : AV} (C : Cx P an B K w S E ts a.tmps) (ho : o.op = .binOp op t x y u) (hop : (op = .eql ∧ neg = false) ∨ (op = .neq ∧ neg = true))
    (hcl : clsT P t = some (some cl)) (hx : oa x = some x') (hy : oa y = some y') (he : aopP E ts (.eq neg cl x' y') = some v) : Good P an B K w ((execOp a.eval o).run P w) v S := by
  simp only [aopP, Option.map_eq_some_iff] at he
  obtain ⟨b, hb, rfl⟩ := he
  obtain ⟨h1, h2, h3⟩ := run_eqOf (P := P) hcl (C.opd hx) (C.opd hy) hb
  rcases hop with ⟨rfl, rfl⟩ | ⟨rfl, rfl⟩
  · exact Good.same C.inv (by simp [execOp, ho, h1, h2]) (VR.bool _)
  · exact Good.same C.inv (by simp [execOp, ho, h1, h3]) (VR.bool _)

end Go.Ai


/- The operations that only look at their operands (5): literals, bytes of a text, texts in order. -/
namespace Go.Ai
variable {P : Program} {an : Ann} {B : Nat} {K : KW} {w : World} {S : St} {E : Env} {ts : List AV} {a : Act}

theorem zeroT_inv {t : TypeId} {z : List AV} (h : zeroT P t = some z) : ∃ i v, P.info? t = some i ∧ i.zero = some v ∧ z.length = i.size ∧ v.cells.size = i.size ∧ z.all oneCell = true ∧ ∀ K w, VRs K w z v.cells.toList := by
  simp only [zeroT, bind, Option.bind_eq_some_iff] at h
  obtain ⟨i, hi, v, hv, cs, hcs, h⟩ := h
  split at h <;> cases h
  rename_i hb
  have hg := mapM_get hcs
  refine ⟨i, v, hi, hv, hb.1, ?_, hb.2, fun K w => ⟨hg.1.symm, fun j x y hx hy => ?_⟩⟩
  · have := hg.1; rw [hb.1] at this; simpa using this.symm
  · obtain ⟨y', hy', hf⟩ := hg.2 j x hx
    rw [hy] at hy'; cases hy'
    exact ofC_rel 2 y x hf

theorem run_zeroValue' {t : TypeId} {z : List AV} (h : zeroT P t = some z) : ∃ v, (zeroValue t).run P w = .ok v w ∧ z.length = v.cells.size ∧ z.all oneCell = true ∧ (∀ K w, VRs K w z v.cells.toList) ∧ sizeT P t = some z.length := by
  obtain ⟨i, v, hi, hv, h1, h2, h3, h4⟩ := zeroT_inv h
  refine ⟨v, ?_, by omega, h3, h4, by simp [sizeT, hi, h1]⟩
  simp [zeroValue, typeInfo, hi, hv]

theorem splice_length {cs vs : List AV} {off : Nat} (h : off + vs.length ≤ cs.length) : (splice cs off vs).length = cs.length := by
  simp [splice]; omega

/-- The model's laying of a part's cells, as lists. -/
theorem foldl_set (off : Nat) : ∀ (vs : List Value) (j : Nat) (cs : Array Value), off + j + vs.length ≤ cs.size →
    ((vs.zipIdx j).foldl (fun cs (c, j) => cs.setIfInBounds (off + j) c) cs).toList = cs.toList.take (off + j) ++ vs ++ cs.toList.drop (off + j + vs.length)
  | [], j, cs, h => by simp
  | v :: vs, j, cs, h => by
    simp only [List.length_cons] at h
    simp only [List.zipIdx_cons, List.foldl_cons]
    rw [foldl_set off vs (j + 1) _ (by simp; omega)]
    have hl : off + j < cs.toList.length := by simp; omega
    simp only [Array.toList_setIfInBounds, List.length_cons]
    have e1 : (cs.toList.set (off + j) v).take (off + (j + 1)) = cs.toList.take (off + j) ++ [v] := by
      rw [show off + (j + 1) = (off + j) + 1 by omega, List.take_succ_eq_append_getElem (by simpa using hl)]
      simp only [List.take_set, List.getElem_set_self]
      rw [List.set_eq_of_length_le (by simp; omega)]
    have e2 : (cs.toList.set (off + j) v).drop (off + (j + 1) + vs.length) = cs.toList.drop (off + j + (vs.length + 1)) := by
      rw [List.drop_set_of_lt (by omega)]
      congr 1; omega
    rw [e1, e2]
    simp

theorem VRs.splice {cs vs : List AV} {us zs : List Value} {off : Nat} (h : VRs K w cs us) (hv : VRs K w vs zs) : VRs K w (splice cs off vs) (us.take off ++ zs ++ us.drop (off + zs.length)) := by
  unfold Ai.splice
  rw [hv.1]
  exact ((h.take off).append hv).append (h.drop _)

/-- Parts of a literal: by the place of each. -/
theorem fill_sound (C : Cx P an B K w S E ts a.tmps) (place : Nat → Option (Nat × Nat)) : ∀ (ps : List (Nat × Operand)) (qs : List (Nat × Nat × OA)) (cs r : List AV) (us : List Value),
    qs.length = ps.length → (∀ (j : Nat) p q, ps[j]? = some p → qs[j]? = some q → place p.1 = some (q.1, q.2.1) ∧ oa p.2 = some q.2.2) → VRs K w cs us → fillP E ts cs qs = some r →
    ∃ us', Instr.fill place ⟨us⟩ (ps.map fun p => (p.1, a.eval p.2)) = some ⟨us'⟩ ∧ VRs K w r us'
  | [], qs, cs, r, us, hl, _, hcs, hr => by
    cases qs with
    | nil => simp [fillP] at hr; subst hr; exact ⟨us, by simp [Instr.fill], hcs⟩
    | cons q qs => simp at hl
  | p :: ps, qs, cs, r, us, hl, hpq, hcs, hr => by
    cases qs with
    | nil => simp at hl
    | cons q qs =>
      obtain ⟨off, sz, x⟩ := q
      have h0 := hpq 0 p (off, sz, x) rfl rfl
      simp only [fillP] at hr
      split at hr <;> try (cases hr; done)
      rename_i hb
      have hx := VRs.cells (C.opd h0.2)
      have hxl : (a.eval p.2).cells.size = sz := by have := hx.1; rw [Array.length_toList] at this; rw [this]; exact hb.1
      have hul : us.length = cs.length := hcs.1
      have hsp := VRs.splice (off := off) hcs hx
      obtain ⟨us', h1, h2⟩ := fill_sound C place ps qs _ r _ (by simpa using hl) (fun j p' q' hp hq => hpq (j + 1) p' q' (by simpa using hp) (by simpa using hq)) hsp hr
      refine ⟨us', ?_, h2⟩
      have hf : ((a.eval p.2).cells.zipIdx.foldl (fun cs (c, j) => cs.setIfInBounds (off + j) c) (⟨us⟩ : Array Value)) = ⟨us.take off ++ (a.eval p.2).cells.toList ++ us.drop (off + (a.eval p.2).cells.toList.length)⟩ := by
        apply Array.ext'
        rw [← Array.foldl_toList, Array.toList_zipIdx]
        have := foldl_set off (a.eval p.2).cells.toList 0 ⟨us⟩ (by simp [hxl]; omega)
        simpa using this
      simp only [List.map_cons, Instr.fill, h0.1]
      rw [if_neg (by simp [hxl]; omega), hf]
      exact h1

theorem snd_build {o : Oper} {t : TypeId} {ps : Array (Nat × Operand)} {qs : List (Nat × Nat × OA)} {z : List AV} {v : AV} (C : Cx P an B K w S E ts a.tmps) (ho : o.op = .build t ps) (hz : zeroT P t = some z)
    (hq : (∃ fs pl, P.underlying t = some (.struct fs) ∧ placesT P fs = some pl ∧ ps.toList.mapM (partS P fs) = some qs) ∨ ∃ n e sz, P.underlying t = some (.array n e) ∧ sizeT P e = some sz ∧ ps.toList.mapM (partA sz) = some qs)
    (he : aopP E ts (.build z qs) = some v) : Good P an B K w ((execOp a.eval o).run P w) v S := by
  simp only [aopP, Option.map_eq_some_iff] at he
  obtain ⟨r, hr, rfl⟩ := he
  obtain ⟨zv, hzv, hzl, hzo, hzr, hzs⟩ := run_zeroValue' (P := P) (w := w) hz
  have hpm : (ps.map fun (i, x) => (i, a.eval x)).toList = ps.toList.map fun p => (p.1, a.eval p.2) := by simp
  rcases hq with ⟨fs, pl, ht, hpl, hm⟩ | ⟨n, e, sz, ht, hs, hm⟩
  · have hg := mapM_get hm
    have hgp := mapM_get hpl
    obtain ⟨us', h1, h2⟩ := fill_sound C (pl.toArray[·]?) ps.toList qs z r zv.cells.toList hg.1 (fun j p q hp hq => by
      obtain ⟨p', hp', hf⟩ := hg.2 j q hq
      rw [hp] at hp'; cases hp'
      simp only [partS, bind, Option.bind_eq_some_iff] at hf
      obtain ⟨f, hf0, s, hs, x, hx, hf⟩ := hf
      cases hf
      refine ⟨?_, hx⟩
      simp only [sizeT, Option.map_eq_some_iff] at hs
      obtain ⟨i, hi, rfl⟩ := hs
      have hlt : p.1 < fs.toList.length := by simpa using (Array.getElem?_eq_some_iff.1 hf0).1
      have hplt : p.1 < pl.length := by rw [hgp.1]; exact hlt
      obtain ⟨f', hf', hff⟩ := hgp.2 p.1 pl[p.1] (List.getElem?_eq_getElem hplt)
      have : fs.toList[p.1]? = some f := by simpa using hf0
      rw [this] at hf'; cases hf'
      simp only [hi, Option.map_some, Option.some.injEq] at hff
      simp [List.getElem?_eq_getElem hplt, ← hff]) (hzr K w) hr
    refine Good.same C.inv (v' := .agg ⟨us'⟩) ?_ (.agg r us' h2.1 h2.2)
    have hcells : (⟨zv.cells.toList⟩ : Array Value) = zv.cells := rfl
    rw [hcells] at h1
    obtain ⟨i, v0, hi, hv0, _⟩ := zeroT_inv hz
    have hvz : v0 = zv := by
      have : (zeroValue t).run P w = .ok v0 w := by simp [zeroValue, typeInfo, hi, hv0]
      rw [hzv] at this; cases this; rfl
    subst hvz
    have hb : P.built t (ps.map fun (i, x) => (i, a.eval x)).toList = some ⟨us'⟩ := by
      unfold Program.built
      have hpl' : fs.toList.mapM (fun f => (P.info? f.type).map fun i => (f.offset, i.size)) = some pl := hpl
      simp only [hi, ht, hv0, hpl', hpm]
      exact h1
    simp only [execOp, ho, Sem.run_bind, run_build w t _ _ hb, Result.andThen_ok, Sem.run_pure]
  · have hg := mapM_get hm
    obtain ⟨us', h1, h2⟩ := fill_sound C (fun i => some (i * sz, sz)) ps.toList qs z r zv.cells.toList hg.1 (fun j p q hp hq => by
      obtain ⟨p', hp', hf⟩ := hg.2 j q hq
      rw [hp] at hp'; cases hp'
      simp only [partA, bind, Option.bind_eq_some_iff] at hf
      obtain ⟨x, hx, hf⟩ := hf
      cases hf
      exact ⟨rfl, hx⟩) (hzr K w) hr
    refine Good.same C.inv (v' := .agg ⟨us'⟩) ?_ (.agg r us' h2.1 h2.2)
    have hcells : (⟨zv.cells.toList⟩ : Array Value) = zv.cells := rfl
    rw [hcells] at h1
    simp only [execOp, ho, Instr.build, Sem.run_bind, hzv, Result.andThen_ok, run_underlying ht, run_sizeOf' hs, hpm, h1, Sem.run_pure]

end Go.Ai


/- The operations that only look at their operands (6): slice literals, bytes of a text, texts in order. And what makes memory. -/
namespace Go.Ai
variable {P : Program} {an : Ann} {B : Nat} {K : KW} {w : World} {S : St} {E : Env} {ts : List AV} {a : Act}

theorem zerosOf_length (z : List AV) : ∀ n, (zerosOf z n).length = n * z.length
  | 0 => by simp [zerosOf]
  | n + 1 => by simp [zerosOf, zerosOf_length z n, Nat.add_mul]; omega

theorem zerosOf_get (z : List AV) : ∀ (n j : Nat), j < n * z.length → (zerosOf z n)[j]? = z[j % z.length]?
  | 0, j, h => by simp at h
  | n + 1, j, h => by
    unfold zerosOf
    by_cases hj : j < z.length
    · rw [List.getElem?_append_left hj, Nat.mod_eq_of_lt hj]
    · rw [List.getElem?_append_right (by omega), zerosOf_get z n (j - z.length) (by rw [Nat.add_mul] at h; omega)]
      rw [Nat.mod_eq_sub_mod (by omega : j ≥ z.length)]

theorem zerosOf_one {z : List AV} (h : z.all oneCell = true) : ∀ n, (zerosOf z n).all oneCell = true
  | 0 => rfl
  | n + 1 => by simp only [zerosOf, List.all_append, h, zerosOf_one h n, Bool.and_self]

theorem zeros_rel {z : List AV} {zv : Array Value} (h : VRs K w z zv.toList) (n : Nat) : VRs K w (zerosOf z n) ((List.range (n * zv.size)).map fun j => zv[j % zv.size]!) := by
  have hl : zv.size = z.length := by have := h.1; simpa using this
  refine ⟨by simp [zerosOf_length, hl], fun j x y hx hy => ?_⟩
  have hj : j < n * z.length := by have := (List.getElem?_eq_some_iff.1 hx).1; rwa [zerosOf_length] at this
  rw [zerosOf_get z n j hj] at hx
  have hz : 0 < z.length := by
    rcases Nat.eq_zero_or_pos z.length with h0 | h0
    · rw [h0] at hj; omega
    · exact h0
  have hm : j % zv.size < zv.size := Nat.mod_lt _ (by omega)
  have hj' : j < n * zv.size := by rw [hl]; exact hj
  simp only [List.getElem?_map, List.getElem?_range hj', Option.map_some, Option.some.injEq] at hy
  subst hy
  rw [← hl] at hx
  refine h.2 _ x _ hx ?_
  simp [hm]

theorem alloc_old (w : World) (o : Obj) {b : Nat} (h : b < w.heap.size) : (w.alloc o).heap[b]? = w.heap[b]? := by
  show (w.heap.push o)[b]? = _
  rw [Array.getElem?_push]; rw [if_neg (by omega)]
theorem alloc_new (w : World) (o : Obj) : (w.alloc o).heap[w.heap.size]? = some o := by
  show (w.heap.push o)[_]? = _
  simp
theorem alloc_size (w : World) (o : Obj) : (w.alloc o).heap.size = w.heap.size + 1 := by
  show (w.heap.push o).size = _
  simp

theorem meta_alloc (o : Obj) : Meta w (w.alloc o) := ⟨rfl, rfl, rfl⟩

/-- A new block of cells that nobody writes any more. -/
theorem newKeep (hI : Inv P an B K w S) (c : List Value) (el : TypeId) (cs : List AV) (n : Nat) (ex : Bool) (hr : VRs K w cs c) (hone : ∀ v ∈ c, v.oneCell' = true) (hn : n ≤ n) :
    ∃ K', Ext K w K' (w.alloc (.cells ⟨c⟩ el)) ∧ Inv P an B K' (w.alloc (.cells ⟨c⟩ el)) S ∧ VR K' (w.alloc (.cells ⟨c⟩ el)) (.sl cs n ex) (.slice (some ⟨w.heap.size, 0, none⟩) n n) := by
  obtain ⟨K', hE, hI', hk, _, _⟩ := keepNew (w' := w.alloc (.cells ⟨c⟩ el)) hI (by rw [alloc_size]; omega) (fun b hb => alloc_old w _ hb) (meta_alloc _)
  refine ⟨K', hE, hI', ?_⟩
  refine VR.sl cs n ex _ 0 n none c hn (fun _ => rfl) (.inl rfl) hr.1 (fun j v hv => ⟨hk _ (Nat.le_refl _) (by rw [alloc_size]; omega), ?_, hone v (List.mem_of_getElem? hv)⟩) (fun j x v hx hv => (hr.2 j x v hx hv).ext hE)
  rw [cell_of_row _ _ _ _ _ _ (alloc_new w _)]
  simpa using hv

theorem fillP_length : ∀ {qs : List (Nat × Nat × OA)} {cs r : List AV}, fillP E ts cs qs = some r → r.length = cs.length
  | [], cs, r, h => by simp [fillP] at h; rw [h]
  | (off, sz, x) :: qs, cs, r, h => by
    simp only [fillP] at h
    split at h <;> try (cases h; done)
    rename_i hb
    rw [fillP_length h, splice_length (by omega)]

theorem run_buildSlice {t e : TypeId} {sz len : Nat} {z cs : List AV} {ps : Array (Nat × Operand)} {qs : List (Nat × Nat × OA)} (C : Cx P an B K w S E ts a.tmps) (ht : P.underlying t = some (.slice e)) (hsz : sizeT P e = some sz) (hz : zeroT P e = some z)
    (hlen : len * sz ≤ 2 ^ 16) (hm : ps.toList.mapM (partA sz) = some qs) (hr : fillP E ts (zerosOf z len) qs = some cs) :
    ∃ c, VRs K w cs c ∧ (Instr.buildSlice t len (ps.map fun (i, x) => (i, a.eval x))).run P w = .ok (.slice (some ⟨w.heap.size, 0, none⟩) len len) (w.alloc (.cells ⟨c⟩ e)) := by
  obtain ⟨zv, hzv, hzl, hzo, hzr, hzs⟩ := run_zeroValue' (P := P) (w := w) hz
  rw [hsz] at hzs
  have hzs' : sz = z.length := by simpa using hzs
  have hg := mapM_get hm
  have hpm : (ps.map fun (i, x) => (i, a.eval x)).toList = ps.toList.map fun p => (p.1, a.eval p.2) := by simp
  have hsize : zv.cells.size = sz := by omega
  obtain ⟨us', h1, h2⟩ := fill_sound C (fun i => some (i * sz, sz)) ps.toList qs (zerosOf z len) cs ((List.range (len * zv.cells.size)).map fun j => zv.cells[j % zv.cells.size]!) hg.1 (fun j p q hp hq => by
    obtain ⟨p', hp', hf⟩ := hg.2 j q hq
    rw [hp] at hp'; cases hp'
    simp only [partA, bind, Option.bind_eq_some_iff] at hf
    obtain ⟨x, hx, hf⟩ := hf
    cases hf
    exact ⟨rfl, hx⟩) (zeros_rel (hzr K w) len) hr
  refine ⟨us', h2, ?_⟩
  have hle : ¬ (2 ^ 24 < len * sz) := by omega
  have harr : ∀ (zz : Array Value), (zz = zv.cells ∨ len * sz = 0) → ((Array.range (len * sz)).map fun x => zz[x % zz.size]!) = ⟨(List.range (len * zv.cells.size)).map fun j => zv.cells[j % zv.cells.size]!⟩ := by
    intro zz hzz
    apply Array.ext'
    rcases hzz with rfl | h0
    · simp [hsize]
    · rw [hsize]; simp [h0]
  simp only [Instr.buildSlice, Sem.run_bind, run_underlying ht, Result.andThen_ok, run_sizeOf' hsz, hle, if_false, gt_iff_lt]
  by_cases h0 : len * sz = 0
  · simp only [h0, if_true, Sem.run_bind, Sem.run_pure, Result.andThen_ok, hpm]
    have := harr #[] (.inr h0)
    rw [h0] at this
    rw [this, h1]
    rfl
  · simp only [h0, if_false, Sem.run_bind, hzv, Sem.run_pure, Result.andThen_ok, hpm]
    have := harr zv.cells (.inl rfl)
    rw [this, h1]
    rfl

theorem snd_mkl {o : Oper} {t e : TypeId} {sz len : Nat} {z : List AV} {ps : Array (Nat × Operand)} {qs : List (Nat × Nat × OA)} {v : AV} (C : Cx P an B K w S E ts a.tmps) (ho : o.op = .buildSlice t len ps) (ht : P.underlying t = some (.slice e)) (hsz : sizeT P e = some sz) (hz : zeroT P e = some z)
    (hlen : len * sz ≤ 2 ^ 16) (hm : ps.toList.mapM (partA sz) = some qs) (he : aopP E ts (.mkl (zerosOf z len) len sz qs) = some v) : Good P an B K w ((execOp a.eval o).run P w) v S := by
  simp only [aopP] at he
  split at he <;> try (cases he; done)
  simp only [Option.bind_eq_some_iff] at he
  obtain ⟨cs, hcs, he⟩ := he
  split at he <;> cases he
  rename_i hone
  obtain ⟨c, hr, hrun⟩ := run_buildSlice C ht hsz hz hlen hm hcs
  obtain ⟨K', hE, hI', hv⟩ := newKeep C.inv c e cs len true hr (hr.one hone) (Nat.le_refl _)
  refine ⟨K', _, _, .inl ?_, hE, hI', hv⟩
  simp only [execOp, ho, Sem.run_bind, hrun, Result.andThen_ok, Sem.run_pure]

/-- A new row of the store. -/
theorem newRowA (hI : Inv P an B K w S) (c : List Value) (el : TypeId) (cs : List AV) (hr : VRs K w cs c) (hone : ∀ v ∈ c, v.oneCell' = true) :
    ∃ K', Ext K w K' (w.alloc (.cells ⟨c⟩ el)) ∧ Inv P an B K' (w.alloc (.cells ⟨c⟩ el)) (addOb S (.row 0 cs)) ∧ K'.al S.os.length = 1 ∧ K'.mu S.os.length 0 = ⟨w.heap.size, 0, c.length⟩ :=
  newRow hI c el cs (alloc_new w _) (fun b hb => alloc_old w _ hb) (meta_alloc _) hone (by rw [hr.1]; exact Nat.le_refl _) (fun j x hx => hr.get hx)

theorem snd_mkr {cf : CallFn} {cv : AV → List AV → St → Option (AV × St)} {o : Oper} {t e : TypeId} {sz len : Nat} {z : List AV} {ps : Array (Nat × Operand)} {qs : List (Nat × Nat × OA)} {v : AV} {S' : St} (C : Cx P an B K w S E ts a.tmps) (ho : o.op = .buildSlice t len ps) (ht : P.underlying t = some (.slice e)) (hsz : sizeT P e = some sz) (hz : zeroT P e = some z)
    (hlen : len * sz ≤ 2 ^ 16) (hm : ps.toList.mapM (partA sz) = some qs) (he : aopW E cf cv ts S (.mkr (zerosOf z len) len sz qs) = some (v, S')) : Good P an B K w ((execOp a.eval o).run P w) v S' := by
  simp only [aopW] at he
  split at he <;> try (cases he; done)
  rename_i hzl
  simp only [Option.bind_eq_some_iff] at he
  obtain ⟨cs, hcs, he⟩ := he
  split at he <;> cases he
  rename_i hone
  obtain ⟨c, hr, hrun⟩ := run_buildSlice C ht hsz hz hlen hm hcs
  obtain ⟨K', hE, hI', hal, hmu⟩ := newRowA C.inv c e cs hr (hr.one hone)
  refine ⟨K', _, _, .inl (by simp only [execOp, ho, Sem.run_bind, hrun, Result.andThen_ok, Sem.run_pure]; rfl), hE, hI', ?_⟩
  refine VR.ms _ _ _ _ _ _ _ _ _ (by rw [hal]; exact Nat.one_pos) (Nat.le_refl _) (fun _ => rfl) (.inr ?_)
  rw [hmu]
  refine ⟨rfl, by simp, ?_⟩
  have h1 : c.length = len * sz := by
    have h2 := hr.1
    have h3 : cs.length = (zerosOf z len).length := fillP_length hcs
    omega
  simp only [h1]; omega

end Go.Ai


/- Reading the store, and what needs it. -/
namespace Go.Ai
variable {P : Program} {an : Ann} {B : Nat} {K : KW} {w : World} {S : St} {E : Env} {ts : List AV} {a : Act}

theorem row_at (hI : Inv P an B K w S) {id ver : Nat} {cs : List AV} (h : S.os[id]? = some (.row ver cs)) {v : Nat} (hv : v < K.al id) (he : ver = v) : K.al id = ver + 1 ∧ RowAt K w B id (K.mu id ver) cs := by
  rcases hI.obs id _ h with h0 | h1
  · have := h0.2; omega
  · exact h1.2

theorem drop_take_get {α : Type} {l : List α} {i n j : Nat} {v : α} (h : ((l.drop i).take n)[j]? = some v) : j < n ∧ l[i + j]? = some v := by
  rw [List.getElem?_take, List.getElem?_drop] at h
  split at h
  · exact ⟨by assumption, h⟩
  · cases h

/-- The cells of a row from a place on. -/
theorem row_cells (hI : Inv P an B K w S) {id ver : Nat} {cs : List AV} (h : S.os[id]? = some (.row ver cs)) {off n : Nat} (hal : ver < K.al id) (hle : off + n ≤ cs.length) :
    ∃ vs : List Value, VRs K w (cut cs off n) vs ∧ vs.length = n ∧ (∀ v ∈ vs, v.oneCell' = true) ∧
      ∀ (j : Nat) v, vs[j]? = some v → w.cell? ⟨(K.mu id ver).b, (K.mu id ver).o + off + j, none⟩ = some v := by
  obtain ⟨hal', c, el, hh, hB, ho, h1, h2, h3, h4⟩ := row_at hI h hal rfl
  refine ⟨(c.drop ((K.mu id ver).o + off)).take n, ⟨?_, fun j x v hx hv => ?_⟩, ?_, fun v hv => ?_, fun j v hv => ?_⟩
  · rw [cut_length hle]; simp; omega
  · obtain ⟨hj, hv⟩ := drop_take_get hv
    rw [cut_get, if_pos hj] at hx
    obtain ⟨v', hv', hr⟩ := h4 _ x hx
    rw [← Nat.add_assoc] at hv'
    rw [hv] at hv'; cases hv'
    exact hr
  · simp; omega
  · exact h3 v (List.mem_of_mem_drop (List.mem_of_mem_take hv))
  · obtain ⟨_, hv⟩ := drop_take_get hv
    rw [cell_of_row _ _ _ _ _ _ hh]
    simpa using hv

/-- What a pointer leads to. -/
theorem ld_sound (hI : Inv P an B K w S) {x : AV} {z : Value} {n : Nat} {cs : List AV} (hr : VR K w x z) (h : ldCells S x n = some cs) :
    ∃ (ad : Addr) (vs : List Value), z = .pointer (some ad) ∧ ad.spot = none ∧ VRs K w cs vs ∧ vs.length = n ∧ (∀ v ∈ vs, v.oneCell' = true) ∧ ∀ (j : Nat) v, vs[j]? = some v → w.cell? (ad.add j) = some v := by
  cases hr <;> simp only [ldCells, reduceCtorEq] at h
  case ptr id ver off hv =>
    split at h <;> try (cases h; done)
    rename_i v' c0 hrow
    split at h <;> cases h
    rename_i hb
    obtain ⟨rfl, hle⟩ := hb
    obtain ⟨vs, h1, h2, h3, h4⟩ := row_cells hI hrow hv hle
    exact ⟨_, vs, rfl, rfl, h1, h2, h3, fun j v hj => by rw [Addr.add_lit]; exact h4 j v hj⟩
  case cp c0 off b o vs hl hc hh =>
    split at h <;> cases h
    rename_i hle
    refine ⟨_, (vs.drop off).take n, rfl, rfl, VRs.cut off n ⟨hl, hh⟩, by simp; omega, fun v hv => ?_, fun j v hv => ?_⟩
    · obtain ⟨j, hj⟩ := List.getElem?_of_mem hv
      obtain ⟨_, hj⟩ := drop_take_get hj
      exact (hc _ v hj).2.2
    · obtain ⟨_, hj⟩ := drop_take_get hv
      rw [Addr.add_lit]
      have := (hc _ v hj).2.1
      rw [← Nat.add_assoc] at this
      exact this

theorem run_load_cells {ad : Addr} {vs : List Value} {n : Nat} (hn : vs.length = n) (h : ∀ (j : Nat) v, vs[j]? = some v → w.cell? (ad.add j) = some v) : (loadCells ad n).run P w = .ok ⟨vs⟩ w := by
  subst hn
  exact run_loadCells_list w ad vs h

/-- A variable read whole. -/
theorem run_loadVar' (hI : Inv P an B K w S) {t : TypeId} {sz : Nat} {ag : Bool} {x v : AV} {z : Value} (hs : sizeT P t = some sz) (ha : aggT P t = some ag) (hr : VR K w x z) (h : (ldCells S x sz).bind (asVal ag) = some v) :
    ∃ (ad : Addr) (v' : Value), z = .pointer (some ad) ∧ (loadVar t ad).run P w = .ok v' w ∧ VR K w v v' := by
  simp only [Option.bind_eq_some_iff] at h
  obtain ⟨cs, hcs, hv⟩ := h
  obtain ⟨ad, vs, hz, hsp, h1, h2, h3, h4⟩ := ld_sound hI hr hcs
  refine ⟨ad, ?_⟩
  cases ag with
  | true =>
    simp [asVal] at hv
    subst hv
    refine ⟨.agg ⟨vs⟩, hz, ?_, .agg cs vs h1.1 h1.2⟩
    simp only [loadVar, Sem.run_bind, run_isAgg' ha, Result.andThen_ok, if_true, run_sizeOf' hs, run_load_cells h2 h4, Sem.run_pure]
  | false =>
    simp only [asVal, Bool.false_eq_true, if_false] at hv
    split at hv <;> cases hv
    obtain ⟨v', hv', hr'⟩ := h1.get (j := 0) rfl
    refine ⟨v', hz, ?_, hr'⟩
    have := h4 0 v' hv'
    rw [Addr.add_zero'] at this
    simp only [loadVar, Sem.run_bind, run_isAgg' ha, Result.andThen_ok, Bool.false_eq_true, if_false, run_load, this]

theorem snd_load {cf : CallFn} {o : Oper} {t : TypeId} {x : Operand} {x' : OA} {sz : Nat} {ag : Bool} {v : AV} (C : Cx P an B K w S E ts a.tmps) (ho : o.op = .load t x) (hs : sizeT P t = some sz) (ha : aggT P t = some ag) (hx : oa x = some x')
    (he : aopD E cf ts S (.load sz ag x') = some v) : Good P an B K w ((execOp a.eval o).run P w) v S := by
  simp only [aopD] at he
  obtain ⟨ad, v', hz, hrun, hr⟩ := run_loadVar' C.inv hs ha (C.opd hx) he
  refine Good.same C.inv (v' := v') ?_ hr
  simp only [execOp, ho, hz, Instr.loadAt, Instr.sureAddr, Sem.run_bind, Sem.run_pure, Result.andThen_ok, hrun]

theorem snd_slA {cf : CallFn} {o : Oper} {t e : TypeId} {n sz : Nat} {x : Operand} {lo hi : Option Operand} {x' : OA} {lo' hi' : Option OA} {v : AV} (C : Cx P an B K w S E ts a.tmps) (ho : o.op = .slice t x lo hi none)
    (ht : P.underlying t = some (.array n e) ∨ ∃ u, P.underlying t = some (.pointer u) ∧ P.underlying u = some (.array n e)) (hsz : sizeT P e = some sz) (hx : oa x = some x') (hlo : oaO lo = some lo') (hhi : oaO hi = some hi')
    (he : aopD E cf ts S (.slA n sz x' lo' hi') = some v) : Good P an B K w ((execOp a.eval o).run P w) v S := by
  simp only [aopD] at he
  have rx := C.opd hx
  generalize ev E ts x' = p at he rx
  generalize hz : a.eval x = z at rx
  cases rx <;> simp only [reduceCtorEq] at he
  case ptr id ver off hv =>
    split at he <;> try (cases he; done)
    rename_i l h hl hh
    simp only [Option.bind_eq_some_iff] at he
    obtain ⟨cs, hcs, he⟩ := he
    split at he <;> cases he
    rename_i hb
    simp only [ldCells] at hcs
    split at hcs <;> try (cases hcs; done)
    rename_i v' c0 hrow
    split at hcs <;> cases hcs
    rename_i hb2
    obtain ⟨rfl, hle⟩ := hb2
    obtain ⟨hal', c, el, hh', hB, hown, h1, h2, h3, h4⟩ := row_at C.inv hrow hv rfl
    have hb2 := run_bnds (isS := false) (cap := n) C hlo hhi hl hh hb.1 hb.2
    refine Good.same C.inv (v' := .slice (some (if n = l then ⟨(K.mu id v').b, (K.mu id v').o + off, none⟩ else (⟨(K.mu id v').b, (K.mu id v').o + off, none⟩ : Addr).add (l * sz))) (h - l) (n - l)) ?_ ?_
    · rcases ht with ht | ⟨u, ht, hu⟩
      · simp only [execOp, ho, hz, Instr.sliceAt, run_underlying ht, Sem.run_bind, Result.andThen_ok, Option.map_none, Instr.sureAddr, hb2, run_sizeOf' hsz, Sem.run_pure]
      · simp only [execOp, ho, hz, Instr.sliceAt, Instr.slice, run_underlying ht, run_underlying hu, Sem.run_bind, Result.andThen_ok, Option.map_none, asAddr, hb2, run_sizeOf' hsz, Sem.run_pure]
    · by_cases hnl : n = l
      · rw [if_pos hnl]
        exact VR.ms id v' _ _ _ _ _ _ (n - l) hv (by omega) (fun e => by simp at e; omega) (.inl (by omega))
      · rw [if_neg hnl, Addr.add_lit]
        refine VR.ms id v' _ _ _ _ _ _ (n - l) hv (by omega) (fun e => by simp at e; omega) (.inr ⟨rfl, by omega, ?_⟩)
        have e1 : l * sz + (n - l) * sz = n * sz := by rw [← Nat.add_mul]; congr 1; omega
        omega

/-- The elements of a slice (or the bytes of a text). -/
theorem rd_sound (hI : Inv P an B K w S) {x : AV} {z : Value} {sz n : Nat} {cs : List AV} (hr : VR K w x z) (h : rd S sz x = some (cs, n)) :
    ∃ vs : List Value, VRs K w cs vs ∧ vs.length = n * sz ∧ (∀ v ∈ vs, v.oneCell' = true) ∧ (Builtin.lenOf z).run P w = .ok n w ∧
      (∀ W : World, W.heap = w.heap → ∀ m, m ≤ n → (Builtin.firstCells sz m z).run P W = .ok ⟨vs.take (m * sz)⟩ W) ∧
      (∀ b n' cap, z = .slice (some b) n' cap → n' = n ∧ (b.spot = none ∨ vs = []) ∧ ∀ (j : Nat) v, vs[j]? = some v → w.cell? (b.add j) = some v) := by
  have key : ∀ (ad : Addr) (n' cap : Nat) (vs : List Value), vs.length = n * sz → (∀ (j : Nat) v, vs[j]? = some v → w.cell? (ad.add j) = some v) → ∀ W : World, W.heap = w.heap → ∀ m, m ≤ n → (Builtin.firstCells sz m (.slice (some ad) n' cap)).run P W = .ok ⟨vs.take (m * sz)⟩ W := by
    intro ad n' cap vs hl hc W hW m hm
    have hml : m * sz ≤ n * sz := Nat.mul_le_mul_right _ hm
    simp only [Builtin.firstCells]
    refine run_load_cells (by simp; omega) (fun j v hj => ?_)
    rw [List.getElem?_take] at hj
    split at hj
    · exact (World.cell?_of_block (w := w) (w' := W) (by rw [hW])).trans (hc j v hj)
    · cases hj
  cases hr <;> simp only [rd, reduceCtorEq] at h
  case nils =>
    cases h
    exact ⟨[], VRs.nil, by simp, by simp, rfl, fun W hW m hm => by simp [Builtin.firstCells], fun b n' cap e => by cases e⟩
  case str s =>
    split at h <;> cases h
    rename_i h1
    subst h1
    refine ⟨s.map fun b => .int .u8 b.toNat, ⟨by simp [byteCells], fun j x v hx hv => ?_⟩, by simp, by simp [Value.oneCell'], rfl, fun W hW m hm => ?_, fun b n' cap e => by cases e⟩
    · simp only [byteCells, List.getElem?_map, Option.map_eq_some_iff] at hx hv
      obtain ⟨b, hb, rfl⟩ := hx
      obtain ⟨b', hb', rfl⟩ := hv
      rw [hb] at hb'; cases hb'
      exact VR.int _ _
    · simp only [Builtin.firstCells, Sem.run_pure, extract_bytes]
      congr 1
      apply Array.ext'
      simp [List.map_take]
  case nsl ex =>
    split at h <;> cases h
    exact ⟨[], VRs.nil, by simp, by simp, rfl, fun W hW m hm => by simp [Builtin.firstCells], fun b n' cap e => by cases e⟩
  case sl cs' n' ex b o cap sp vs hn hxx hs hl hc hh =>
    split at h <;> cases h
    rename_i hlen
    have hcell : ∀ (j : Nat) v, vs[j]? = some v → w.cell? ((⟨b, o, sp⟩ : Addr).add j) = some v := fun j v hj => by
      rcases hs with rfl | rfl
      · rw [Addr.add_lit]; exact (hc j v hj).2.1
      · simp at hj
    refine ⟨vs, ⟨hl, hh⟩, by omega, fun v hv => ?_, rfl, key _ _ _ vs (by omega) hcell, fun b' n'' cap' e => ?_⟩
    · obtain ⟨j, hj⟩ := List.getElem?_of_mem hv
      exact (hc j v hj).2.2
    · cases e; exact ⟨rfl, hs, hcell⟩
  case ms id ver off n' sz' ex b o cap hv hn hxx ha =>
    split at h <;> try (cases h; done)
    rename_i v' c0 hrow
    split at h <;> cases h
    rename_i hb
    obtain ⟨rfl, rfl, hle⟩ := hb
    obtain ⟨vs, h1, h2, h3, h4⟩ := row_cells hI hrow hv hle
    have hcell : ∀ (j : Nat) v, vs[j]? = some v → w.cell? ((⟨b, o, none⟩ : Addr).add j) = some v := by
      intro j v hj
      rcases ha with ha | ⟨rfl, rfl, _⟩
      · have h0 : n = 0 := by omega
        have : vs = [] := List.eq_nil_of_length_eq_zero (by rw [h2, h0]; simp)
        subst this; simp at hj
      · rw [Addr.add_lit]; exact h4 j v hj
    exact ⟨vs, h1, h2, h3, rfl, key _ _ _ vs h2 hcell, fun b' n'' cap' e => by cases e; exact ⟨rfl, .inl rfl, hcell⟩⟩

end Go.Ai


/- The operations that write the store. -/
namespace Go.Ai
variable {P : Program} {an : Ann} {B : Nat} {K : KW} {w : World} {S : St} {E : Env} {ts : List AV} {a : Act}
variable {cf : CallFn} {cv : AV → List AV → St → Option (AV × St)}

theorem strOf_inv : ∀ {cs : List AV} {vs : List Value} {r : List UInt8}, VRs K w cs vs → strOf cs = some r → ∃ ns : List Int, vs = ns.map (Value.int .u8) ∧ r = ns.map fun n => UInt8.ofNat n.toNat
  | [], vs, r, h, hr => by
    have : vs = [] := List.eq_nil_of_length_eq_zero h.1
    subst this
    simp [strOf] at hr; subst hr
    exact ⟨[], rfl, rfl⟩
  | c :: cs, vs, r, h, hr => by
    cases vs with
    | nil => have := h.1; simp at this
    | cons v0 vs =>
      have h0 := h.2 0 c v0 rfl rfl
      have hs : VRs K w cs vs := ⟨by have := h.1; simpa using this, fun j x v hx hv => h.2 (j + 1) x v (by simpa using hx) (by simpa using hv)⟩
      unfold strOf at hr
      split at hr <;> try (cases hr; done)
      · rename_i heq; cases heq
      · rename_i n r' heq
        cases heq
        simp only [Option.map_eq_some_iff] at hr
        obtain ⟨r2, hr2, rfl⟩ := hr
        have := int_inv h0
        subst this
        obtain ⟨ns, rfl, rfl⟩ := strOf_inv hs hr2
        exact ⟨n :: ns, rfl, rfl⟩

theorem foldl_push : ∀ (ns : List Int) (acc : ByteArray), ns.foldl (fun r n => r.push (UInt8.ofNat n.toNat)) acc = ⟨⟨acc.data.toList ++ ns.map fun n => UInt8.ofNat n.toNat⟩⟩
  | [], acc => by simp
  | n :: ns, acc => by
    rw [List.foldl_cons, foldl_push ns]
    simp

theorem snd_b2s {o : Oper} {s d e : TypeId} {x : Operand} {x' : OA} {v : AV} (C : Cx P an B K w S E ts a.tmps) (ho : o.op = .convert s d x) (hs : P.underlying s = some (.slice e)) (hd : P.underlying d = some .string) (he8 : isU8 P e = true) (hx : oa x = some x')
    (he : aopD E cf ts S (.b2s x') = some v) : Good P an B K w ((execOp a.eval o).run P w) v S := by
  simp only [aopD] at he
  have he8' : P.underlying e = some (.int .u8) := by
    unfold isU8 at he8
    split at he8
    · assumption
    · cases he8
  have rx := C.opd hx
  generalize ev E ts x' = p at he rx
  generalize hz : a.eval x = z at rx
  have fin : ∀ (hne : ∀ s, p ≠ .str s), ((rd S 1 p).bind fun x => (strOf x.1).map AV.str) = some v → Good P an B K w ((execOp a.eval o).run P w) v S := by
    intro hne h
    simp only [Option.bind_eq_some_iff, Option.map_eq_some_iff] at h
    obtain ⟨⟨cs, n⟩, hrd, r, hr, rfl⟩ := h
    obtain ⟨vs, h1, h2, h3, h4, h5, h6⟩ := rd_sound (P := P) C.inv rx hrd
    obtain ⟨ns, rfl, rfl⟩ := strOf_inv h1 hr
    refine Good.same C.inv (v' := .string ⟨⟨ns.map fun n => UInt8.ofNat n.toNat⟩⟩) ?_ (VR.str _)
    have sl : ∀ b n' cap, z = .slice (some b) n' cap → (execOp a.eval o).run P w = .ok (.value (.string ⟨⟨ns.map fun n => UInt8.ofNat n.toNat⟩⟩)) w := by
      rintro b n' cap rfl
      obtain ⟨rfl, _, hcell⟩ := h6 _ _ _ rfl
      have hrun := run_load_cells (P := P) (n := n') (by omega) hcell
      have hc := run_bytesToString (P := P) w b n' cap ns hrun
      rw [foldl_push] at hc
      simp only [execOp, ho, hz, Sem.run_bind, run_convert_bytes_string w s d e _ _ _ hs he8' hd, hc, Result.andThen_ok, Sem.run_pure]
      rfl
    cases rx <;> simp only [rd, reduceCtorEq] at hrd
    case nils =>
      cases hrd
      have hns : ns = [] := by cases ns with | nil => rfl | cons _ _ => simp at h2
      subst hns
      simp only [execOp, ho, hz, Sem.run_bind, run_convert_bytes_string w s d e _ _ _ hs he8' hd, Conv.bytesToString, Result.andThen_ok, Sem.run_pure]
      rfl
    case nsl =>
      split at hrd <;> cases hrd
      have hns : ns = [] := by cases ns with | nil => rfl | cons _ _ => simp at h2
      subst hns
      simp only [execOp, ho, hz, Sem.run_bind, run_convert_bytes_string w s d e _ _ _ hs he8' hd, Conv.bytesToString, Result.andThen_ok, Sem.run_pure]
      rfl
    case str s => exact absurd rfl (hne s)
    case sl => exact sl _ _ _ rfl
    case ms => exact sl _ _ _ rfl
  split at he
  · cases he
  · rename_i hne
    exact fin hne he

theorem snd_alloc {o : Oper} {e : TypeId} {z : List AV} {v : AV} {S' : St} (C : Cx P an B K w S E ts a.tmps) (ho : o.op = .alloc e) (hz : zeroT P e = some z) (he : aopW E cf cv ts S (.alloc z) = some (v, S')) :
    Good P an B K w ((execOp a.eval o).run P w) v S' := by
  simp only [aopW] at he
  split at he <;> cases he
  rename_i hone
  obtain ⟨zv, hzv, hzl, hzo, hzr, hzs⟩ := run_zeroValue' (P := P) (w := w) hz
  have hr := hzr K w
  obtain ⟨K', hE, hI', hal, hmu⟩ := newRowA C.inv zv.cells.toList e z hr (hr.one hone)
  refine ⟨K', _, .pointer (some ⟨w.heap.size, 0, none⟩), .inl ?_, hE, hI', ?_⟩
  · simp only [execOp, ho, Instr.alloc, Sem.run_bind, hzv, Result.andThen_ok, newVar, Go.newRow, run_newObj, Sem.run_pure]
    rfl
  · have := VR.ptr (K := K') (w := w.alloc (.cells ⟨zv.cells.toList⟩ e)) S.os.length 0 0 (by rw [hal]; exact Nat.one_pos)
    rw [hmu] at this
    exact this

theorem snd_box {o : Oper} {e : TypeId} {sz : Nat} {x : Operand} {x' : OA} {v : AV} {S' : St} (C : Cx P an B K w S E ts a.tmps) (ho : o.op = .box e x) (hx : oa x = some x') (he : aopW E cf cv ts S (.box sz x') = some (v, S')) :
    Good P an B K w ((execOp a.eval o).run P w) v S' := by
  simp only [aopW] at he
  split at he <;> cases he
  rename_i hone
  have hr := VRs.cells (C.opd hx)
  obtain ⟨K', hE, hI', hal, hmu⟩ := newRowA C.inv (a.eval x).cells.toList e _ hr (hr.one hone.2)
  refine ⟨K', _, .pointer (some ⟨w.heap.size, 0, none⟩), .inl ?_, hE, hI', ?_⟩
  · simp only [execOp, ho, Instr.box, Sem.run_bind, Result.andThen_ok, newVar, Go.newRow, run_newObj, Sem.run_pure]
    rfl
  · have := VR.ptr (K := K') (w := w.alloc (.cells ⟨(a.eval x).cells.toList⟩ e)) S.os.length 0 0 (by rw [hal]; exact Nat.one_pos)
    rw [hmu] at this
    exact this

/-- Cells are laid at a place of a row. -/
theorem st_sound (hI : Inv P an B K w S) {id ver off : Nat} {vs : List AV} {us : List Value} {S' : St} (hal : ver < K.al id) (hr : VRs K w vs us) (h : stCells S (.ptr id ver off) vs = some S') :
    ∃ w', (storeCells ⟨(K.mu id ver).b, (K.mu id ver).o + off, none⟩ us).run P w = .ok () w' ∧ Ext K w K w' ∧ Inv P an B K w' S' := by
  simp only [stCells] at h
  split at h <;> try (cases h; done)
  rename_i v' cs hrow
  split at h <;> cases h
  rename_i hb
  obtain ⟨hlo, rfl, hle, hone⟩ := hb
  obtain ⟨hal', c, el, hh, hB, hown, h1, h2, h3, h4⟩ := row_at hI hrow hal rfl
  have hul := hr.1
  have hone' := hr.one hone
  refine ⟨_, run_storeCells_at P _ _ el us 0 ⟨c⟩ w hh (by simp; omega) hone', ?_⟩
  have hsp := splice_length (cs := cs) (vs := vs) hle
  refine updRow hI hrow hal' hh hB hown (setRow_heap w _ _ _ el (0, 0) hh) (fun b hb => setRow_other w _ b _ hb) (by simp) ⟨rfl, rfl, rfl⟩ ?_ ?_ ?_ ?_
  · intro v hv
    simp only [List.mem_append] at hv
    rcases hv with (hv | hv) | hv
    · exact h3 v (List.mem_of_mem_take hv)
    · exact hone' v hv
    · exact h3 v (List.mem_of_mem_drop hv)
  · rw [hsp]; exact h1
  · simp; omega
  · intro j x hx
    have hj : j < cs.length := by have := (List.getElem?_eq_some_iff.1 hx).1; rwa [hsp] at this
    simp only [Nat.add_zero]
    unfold splice at hx
    by_cases c1 : j < off
    · rw [List.append_assoc, List.getElem?_append_left (by simp; omega), List.getElem?_take, if_pos c1] at hx
      obtain ⟨v, hv, hvr⟩ := h4 j x hx
      refine ⟨v, ?_, hvr⟩
      rw [List.append_assoc, List.getElem?_append_left (by simp; omega), List.getElem?_take, if_pos (by omega)]
      exact hv
    · by_cases c2 : j < off + vs.length
      · rw [List.append_assoc, List.getElem?_append_right (by simp; omega), List.getElem?_append_left (by simp; omega)] at hx
        have e1 : j - (List.take off cs).length = j - off := by simp; omega
        rw [e1] at hx
        obtain ⟨v, hv, hvr⟩ := hr.get hx
        refine ⟨v, ?_, hvr⟩
        rw [List.append_assoc, List.getElem?_append_right (by simp; omega), List.getElem?_append_left (by simp; omega)]
        rw [← hv]
        congr 1
        simp; omega
      · rw [List.getElem?_append_right (by simp; omega), List.getElem?_drop] at hx
        have e1 : off + vs.length + (j - (List.take off cs ++ vs).length) = j := by simp; omega
        rw [e1] at hx
        obtain ⟨v, hv, hvr⟩ := h4 j x hx
        refine ⟨v, ?_, hvr⟩
        rw [List.getElem?_append_right (by simp; omega), List.getElem?_drop, ← hv]
        congr 1
        simp; omega

theorem snd_store {o : Oper} {t : TypeId} {sz : Nat} {x y : Operand} {x' y' : OA} {v : AV} {S' : St} (C : Cx P an B K w S E ts a.tmps) (ho : o.op = .store t x y) (hs : sizeT P t = some sz) (hx : oa x = some x') (hy : oa y = some y')
    (he : aopW E cf cv ts S (.store sz x' y') = some (v, S')) : Good P an B K w ((execOp a.eval o).run P w) v S' := by
  simp only [aopW] at he
  split at he <;> try (cases he; done)
  rename_i hlen
  simp only [Option.map_eq_some_iff] at he
  obtain ⟨S2, hS2, he⟩ := he
  cases he
  have rx := C.opd hx
  have ry := VRs.cells (C.opd hy)
  generalize ev E ts x' = p at hS2 rx
  generalize hz : a.eval x = z at rx
  cases rx <;> simp only [stCells, reduceCtorEq] at hS2
  case ptr id ver off hal =>
    obtain ⟨w', hrun, hE, hI'⟩ := st_sound (P := P) C.inv hal ry (by simpa only [stCells] using hS2)
    refine ⟨K, w', undef, .inr ⟨?_, rfl⟩, hE, hI', VR.undef⟩
    have hcs : (a.eval y).cells.size = sz := by have := ry.1; rw [Array.length_toList] at this; rw [this]; exact hlen
    simp only [execOp, ho, hz, Instr.storeAt, Instr.sureAddr, storeVar, Sem.run_bind, Sem.run_pure, Result.andThen_ok, run_sizeOf' hs, hcs, ne_eq, not_true_eq_false, if_false, hrun]

end Go.Ai


/- make, append, copy, clear. -/
namespace Go.Ai
variable {P : Program} {an : Ann} {B : Nat} {K : KW} {w : World} {S : St} {E : Env} {ts : List AV} {a : Act}
variable {cf : CallFn} {cv : AV → List AV → St → Option (AV × St)}

theorem wrap64_id {n : Int} (h0 : 0 ≤ n) (h1 : n ≤ 70368744177664) : IntKind.i64.wrap n = n := IntWalk.i64_in n (by omega)

theorem Ext.drew : Ext K w K w.drew := ⟨fun _ _ => ⟨rfl, rfl⟩, fun _ _ h => ⟨h, rfl⟩, fun _ h => h, Nat.le_refl _, rfl, rfl, rfl⟩

theorem Inv.drew (hI : Inv P an B K w S) : Inv P an B K w.drew S :=
  ⟨hI.base, hI.fresh, hI.old, hI.beyond, fun id o h => (hI.obs id o h).lasts Ext.drew.v rfl rfl fun _ h => ⟨h, rfl⟩⟩

theorem nextcap_le {need old : Nat} (h : old < need) : Builtin.nextslicecap need old ≤ 2 * need := by
  have grow : ∀ r c, c ≤ 2 * need → 256 ≤ need → Builtin.growBy need r c ≤ 2 * need := by
    intro r
    induction r with
    | zero => intro c hc _; simpa [Builtin.growBy] using hc
    | succ r ih =>
      intro c hc hn
      unfold Builtin.growBy
      split
      · exact hc
      · exact ih _ (by omega) hn
  unfold Builtin.nextslicecap
  split
  · omega
  · split
    · omega
    · exact grow 4 old (by omega) (by omega)

/-- What 'make' comes to. -/
theorem run_mks (K : KW) {o : Oper} {t e : TypeId} {i : TypeInfo} {z : List AV} {x y : Operand} {l c : Int} (ho : o.op = .makeSlice t x y) (ht : P.underlying t = some (.slice e)) (hi : P.info? e = some i) (hz : zeroT P e = some z)
    (ex : a.eval x = .int .i64 l) (ey : a.eval y = .int .i64 c) (h0 : 0 ≤ l) (h1 : l ≤ c) (h2 : c ≤ maxBytes) (h3 : i.bytes * c ≤ maxBytes) (h4 : z.length = i.size) :
    ∃ cells : List Value, (execOp a.eval o).run P w = .ok (.value (.slice (some ⟨w.heap.size, 0, none⟩) l.toNat c.toNat)) (w.alloc (.cells ⟨cells⟩ e)) ∧ cells.length = c.toNat * i.size ∧ (∀ v ∈ cells, v.oneCell' = true) ∧
      (zerosOf z l.toNat).length ≤ cells.length ∧ ∀ (K' : KW) (w' : World) (j : Nat) x, (zerosOf z l.toNat)[j]? = some x → ∃ u, cells[j]? = some u ∧ VR K' w' x u := by
  obtain ⟨zv, hzv, hzl, hzo, hzr, hzs⟩ := run_zeroValue' (P := P) (w := w) hz
  have hsize : zv.cells.size = i.size := by omega
  have hsz : sizeT P e = some i.size := by simp [sizeT, hi]
  simp only [maxBytes] at h2 h3
  have h2' : c ≤ 70368744177664 := by omega
  have h3' : (i.bytes : Int) * c ≤ 70368744177664 := by
    have : ((i.bytes : Int) * c) ≤ ((70368744177664 : Nat) : Int) := h3
    omega
  have wl : IntKind.i64.wrap l = l := wrap64_id h0 (by omega)
  have wc : IntKind.i64.wrap c = c := wrap64_id (by omega) h2'
  refine ⟨(List.range (c.toNat * zv.cells.size)).map fun j => zv.cells[j % zv.cells.size]!, ?_, by simp [hsize], fun v hv => ?_, ?_, fun K' w' j x hx => ?_⟩
  · have n1 : ¬ (c < 0) := by omega
    have n2 : ¬ (l < 0) := by omega
    have n3 : ¬ (l > c) := by omega
    have n4 : ¬ ((i.bytes : Int) * c > 2 ^ 48) := by
      have : (2 : Int) ^ 48 = 281474976710656 := by decide
      omega
    have cond : (decide (c < 0) || decide ((i.bytes : Int) * c > 2 ^ 48) || decide (l < 0) || decide (l > c)) = false := by simp [n1, n2, n3]; omega
    simp only [execOp, ho, ex, ey, Instr.makeSlice, Sem.run_bind, run_underlying ht, Result.andThen_ok, asInt, asIntOf, Sem.run_pure, typeInfo, run_program, hi, wl, wc, cond, Bool.false_eq_true, if_false, run_askRoom, run_sizeOf' hsz]
    by_cases hn : c.toNat * i.size = 0
    · simp only [hn, if_true, Sem.run_pure, Result.andThen_ok, Go.newRow, Sem.run_bind, run_newObj, hsize, Array.range_zero', List.range_zero, List.map_nil]
      have h00 : ∀ f : Nat → Value, Array.map f #[] = ⟨[]⟩ := fun f => by apply Array.ext'; simp
      rw [h00]
      rfl
    · simp only [hn, if_false, Sem.run_bind, hzv, Sem.run_pure, Result.andThen_ok, Go.newRow, run_newObj, hsize]
      have : ((Array.range (c.toNat * i.size)).map fun x => zv.cells[x % i.size]!) = ⟨(List.range (c.toNat * i.size)).map fun j => zv.cells[j % i.size]!⟩ := by
        apply Array.ext'; simp
      rw [this]
      rfl
  · exact (zeros_rel (hzr K w) c.toNat).one (zerosOf_one hzo c.toNat) v hv
  · simp [zerosOf_length]; rw [hzl]; exact Nat.mul_le_mul_right _ (by omega)
  · have hj : j < l.toNat * z.length := by have := (List.getElem?_eq_some_iff.1 hx).1; rwa [zerosOf_length] at this
    have hj' : j < c.toNat * z.length := Nat.lt_of_lt_of_le hj (Nat.mul_le_mul_right _ (by omega))
    rw [zerosOf_get z _ j hj] at hx
    exact (zeros_rel (hzr K' w') c.toNat).get (by rw [zerosOf_get z _ j hj']; exact hx)

theorem snd_mks {o : Oper} {t e : TypeId} {i : TypeInfo} {z : List AV} {x y : Operand} {x' y' : OA} {v : AV} {S' : St} (C : Cx P an B K w S E ts a.tmps) (ho : o.op = .makeSlice t x y) (ht : P.underlying t = some (.slice e)) (hi : P.info? e = some i) (hz : zeroT P e = some z)
    (hx : oa x = some x') (hy : oa y = some y') (he : aopW E cf cv ts S (.mks z i.size i.bytes x' y') = some (v, S')) : Good P an B K w ((execOp a.eval o).run P w) v S' := by
  simp only [aopW] at he
  have rx := C.opd hx
  have ry := C.opd hy
  generalize ev E ts x' = p at he rx
  generalize ev E ts y' = q at he ry
  split at he <;> try (cases he; done)
  rename_i l c
  split at he <;> cases he
  rename_i hb
  obtain ⟨h0, h1, h2, h3, h4, h5⟩ := hb
  obtain ⟨cells, hrun, hlen, hone, hle, hrel⟩ := run_mks K (w := w) ho ht hi hz (int_inv rx) (int_inv ry) h0 h1 h2 h3 h4
  obtain ⟨K', hE, hI', hal, hmu⟩ : ∃ K', Ext K w K' (w.alloc (.cells ⟨cells⟩ e)) ∧ Inv P an B K' (w.alloc (.cells ⟨cells⟩ e)) (addOb S (.row 0 (zerosOf z l.toNat))) ∧ K'.al S.os.length = 1 ∧ K'.mu S.os.length 0 = ⟨w.heap.size, 0, cells.length⟩ :=
    newRow (w' := w.alloc (.cells ⟨cells⟩ e)) C.inv _ e (zerosOf z l.toNat) (alloc_new w _) (fun b hb => alloc_old w _ hb) (meta_alloc _) hone hle fun j x hx => hrel K w j x hx
  refine ⟨K', _, .slice (some ⟨w.heap.size, 0, none⟩) l.toNat c.toNat, .inl hrun, hE, hI', ?_⟩
  refine VR.ms _ _ _ _ _ _ _ _ _ (by rw [hal]; exact Nat.one_pos) (by omega) (fun e => by simp at e; rw [e]) (.inr ?_)
  rw [hmu, hlen]
  exact ⟨rfl, by simp, by simp⟩

theorem appOf_zero {S : St} {sz bytes : Nat} {x v : AV} {ys : List AV} {S' : St} (h : appOf S sz bytes x ys 0 = some (v, S')) : v = x ∧ S' = S ∧ (x = .nils ∨ (∃ a b c, x = .sl a b c) ∨ ∃ a b c d e f, x = .ms a b c d e f) := by
  simp only [appOf, if_true] at h
  split at h <;> cases h
  · exact ⟨rfl, rfl, .inl rfl⟩
  · exact ⟨rfl, rfl, .inr (.inl ⟨_, _, _, rfl⟩)⟩
  · exact ⟨rfl, rfl, .inr (.inr ⟨_, _, _, _, _, _, rfl⟩)⟩

/-- What append runs, in the two ways, where its own text has got so far. -/
structure AppRun (P : Program) (w : World) (e : TypeId) (i : TypeInfo) (zv : Value) (base : Option Addr) (n cap m : Nat) (us : List Value) (r : Result Value) : Prop where
  room : n + m ≤ cap → r = (match base with
    | some b => ((storeCells (b.add (n * i.size)) us).run P w).andThen fun _ w' => .ok (.slice base (n + m) cap) w'
    | none => .ok (.slice base (n + m) cap) w)
  grow : ¬ (n + m ≤ cap) → (n + m) * i.bytes ≤ maxBytes → n + m ≤ maxBytes → ∀ vs : List Value, (Builtin.firstCells i.size n (.slice base n cap)).run P w.drew = .ok ⟨vs⟩ w.drew →
    ∃ c, n + m ≤ c ∧ r = .ok (.slice (some ⟨w.heap.size, 0, none⟩) (n + m) c) (w.drew.alloc (.cells ⟨vs ++ us ++ (Builtin.zeroCells zv.cells (c - (n + m))).toList⟩ e))

theorem grown_run {e : TypeId} {i : TypeInfo} {zv : Value} {base : Option Addr} {n cap m : Nat} {us vs : List Value} {app : Sem (Array Value)} (hzv : ∀ w, (zeroValue e).run P w = .ok zv w)
    (happ : ∀ W : World, W.heap = w.heap → (app).run P W = .ok ⟨us⟩ W) (hov : (Builtin.firstCells i.size n (.slice base n cap)).run P w.drew = .ok ⟨vs⟩ w.drew) :
    ∃ c, n + m ≤ c ∧ (Sem.run P (do
      let newCap ← choose (.appendCap (n + m) cap e)
      askRoom (newCap * i.bytes)
      let old ← Builtin.firstCells i.size n (.slice base n cap)
      let new ← app
      let rest := Builtin.zeroCells (← zeroValue e).cells (newCap - (n + m))
      pure (.slice (some (← Go.newRow e (old ++ new ++ rest))) (n + m) newCap)) w) =
      Result.ok (Value.slice (some ⟨w.heap.size, 0, none⟩) (n + m) c) (w.drew.alloc (.cells ⟨vs ++ us ++ (Builtin.zeroCells zv.cells (c - (n + m))).toList⟩ e)) := by
  refine ⟨grownCap w (n + m) cap e, grownCap_ge w _ _ _, ?_⟩
  simp only [Sem.run_bind, run_choose, Question.forced, Bool.false_eq_true, if_false, Result.andThen_ok, run_askRoom]
  have hd : ({ w with drawn := w.drawn + 1 } : World) = w.drew := rfl
  rw [hd, hov]
  simp only [Result.andThen_ok, happ w.drew rfl, hzv, Go.newRow, run_newObj, Sem.run_pure, Sem.run_bind]
  have ha : ∀ Z : Array Value, ((⟨vs⟩ : Array Value) ++ ⟨us⟩ ++ Z) = ⟨vs ++ us ++ Z.toList⟩ := fun Z => by apply Array.ext'; simp
  rw [ha]
  rfl

theorem capBytes {need old bytes : Nat} (h1 : old < need) (h2 : need * bytes ≤ maxBytes) : ¬ (Builtin.nextslicecap need old * bytes > 2 ^ 48) := by
  have h := Nat.mul_le_mul_right bytes (nextcap_le h1)
  have e : 2 * need * bytes = 2 * (need * bytes) := by rw [Nat.mul_assoc]
  simp only [maxBytes] at h2
  have : (2 : Nat) ^ 48 = 281474976710656 := by decide
  omega

theorem run_append {t tx ty e : TypeId} {d : TypeDesc} {i : TypeInfo} {zv : Value} {ats : Array TypeId} {base : Option Addr} {n cap m : Nat} {x : Value} {us : List Value}
    (h0 : ats[0]? = some t) (h1 : ats[1]? = some tx) (ht : P.underlying t = some (.slice e)) (hx : P.underlying tx = some d) (hd : ∀ k, d ≠ .int k) (hi : P.info? e = some i) (hzv : ∀ w, (zeroValue e).run P w = .ok zv w)
    (hlen : (Builtin.lenOf x).run P w = .ok m w) (happ : ∀ W : World, W.heap = w.heap → (Builtin.firstCells i.size m x).run P W = .ok ⟨us⟩ W) :
    AppRun P w e i zv base n cap m us ((Builtin.append_ ats ty #[.slice base n cap, x]).run P w) := by
  have hsz : sizeT P e = some i.size := by simp [sizeT, hi]
  cases d <;> first | exact absurd rfl (hd _) | skip
  all_goals
    constructor
    · intro hr
      simp only [Builtin.append_, h0, h1, List.getElem?_toArray, List.getElem?_cons_zero, List.getElem?_cons_succ, Sem.run_bind, run_underlying ht, Result.andThen_ok, run_sizeOf' hsz, run_underlying hx, Sem.run_pure, Bool.false_eq_true, if_false, hlen, hr, if_true, Bool.not_false, happ w rfl]
      cases base <;> simp
    · intro hr hb1 hb2 vs hov
      obtain ⟨c, hc, hrun⟩ := grown_run (app := Builtin.firstCells i.size m x) (m := m) (n := n) (cap := cap) (base := base) hzv happ hov
      refine ⟨c, hc, ?_⟩
      have k1 : ¬ (((n + m : Nat) : Int) > IntKind.i64.max ∧ i.bytes = 0) := by
        rw [IntKind.max_i64]
        simp only [maxBytes] at hb2
        omega
      have k2 := capBytes (old := cap) (by omega) hb1
      rw [← hrun]
      simp only [Builtin.append_, h0, h1, List.getElem?_toArray, List.getElem?_cons_zero, List.getElem?_cons_succ, Sem.run_bind, run_underlying ht, Result.andThen_ok, run_sizeOf' hsz, run_underlying hx, Sem.run_pure, Bool.false_eq_true, if_false, hlen, hr, typeInfo, run_program, hi, false_or, k1, k2, Bool.not_false, if_true]


end Go.Ai


/- append: the two ways are the abstract one. -/
namespace Go.Ai
variable {P : Program} {an : Ann} {B : Nat} {K : KW} {w : World} {S : St} {E : Env} {ts : List AV} {a : Act}
variable {cf : CallFn} {cv : AV → List AV → St → Option (AV × St)}

theorem zeroCells_list (zero : Array Value) (n : Nat) : (Builtin.zeroCells zero n).toList = (List.range (n * zero.size)).map fun i => zero[i % zero.size]! := by
  simp [Builtin.zeroCells]

theorem zeroCells_one {z : List AV} {zv : Value} (h : VRs K w z zv.cells.toList) (ho : z.all oneCell = true) (n : Nat) : ∀ v ∈ (Builtin.zeroCells zv.cells n).toList, v.oneCell' = true := by
  rw [zeroCells_list]
  exact (zeros_rel h n).one (zerosOf_one ho n)

/-- The elements at hand for append. -/
structure AppCx (P : Program) (e : TypeId) (i : TypeInfo) (z : List AV) (zv : Value) : Prop where
  hi : P.info? e = some i
  hz : z.length = i.size
  hzs : zv.cells.size = i.size
  hnz : i.size ≠ 0
  hone : z.all oneCell = true
  hr : ∀ K w, VRs K w z zv.cells.toList

theorem app_new {e : TypeId} {i : TypeInfo} {z : List AV} {zv : Value} {xs ys : List AV} {vs us : List Value} {n m c : Nat} (A : AppCx P e i z zv) (hI : Inv P an B K w S) (hxs : VRs K w xs vs) (hys : VRs K w ys us) (hvl : vs.length = n * i.size) (hul : us.length = m * i.size)
    (h1 : ∀ v ∈ vs, v.oneCell' = true) (h2 : ∀ v ∈ us, v.oneCell' = true) (hc : n + m ≤ c) :
    ∃ K', Ext K w K' (w.alloc (.cells ⟨vs ++ us ++ (Builtin.zeroCells zv.cells (c - (n + m))).toList⟩ e)) ∧ Inv P an B K' (w.alloc (.cells ⟨vs ++ us ++ (Builtin.zeroCells zv.cells (c - (n + m))).toList⟩ e)) (addOb S (.row 0 (xs ++ ys))) ∧
      VR K' (w.alloc (.cells ⟨vs ++ us ++ (Builtin.zeroCells zv.cells (c - (n + m))).toList⟩ e)) (.ms S.os.length 0 0 (n + m) i.size false) (.slice (some ⟨w.heap.size, 0, none⟩) (n + m) c) := by
  have hz := zeroCells_one (A.hr K w) A.hone (c - (n + m))
  have hzl : (Builtin.zeroCells zv.cells (c - (n + m))).toList.length = (c - (n + m)) * i.size := by rw [zeroCells_list]; simp [A.hzs]
  obtain ⟨K', hE, hI', hal, hmu⟩ := newRow (w' := w.alloc (.cells ⟨vs ++ us ++ (Builtin.zeroCells zv.cells (c - (n + m))).toList⟩ e)) hI _ e (xs ++ ys) (alloc_new w _) (fun b hb => alloc_old w _ hb) (meta_alloc _)
    (fun v hv => by
      simp only [List.mem_append] at hv
      rcases hv with (hv | hv) | hv
      · exact h1 v hv
      · exact h2 v hv
      · exact hz v hv)
    (by have := hxs.1; have := hys.1; simp only [List.length_append]; omega)
    (fun j x hx => by
      obtain ⟨v, hv, hr⟩ := (hxs.append hys).get hx
      exact ⟨v, by rw [List.getElem?_append_left (List.getElem?_eq_some_iff.1 hv).1]; exact hv, hr⟩)
  refine ⟨K', hE, hI', VR.ms _ _ _ _ _ _ _ _ _ (by rw [hal]; exact Nat.one_pos) hc (fun e => by cases e) (.inr ?_)⟩
  rw [hmu]
  refine ⟨rfl, by simp, ?_⟩
  simp only [List.length_append, hvl, hul, hzl]
  rw [← Nat.add_mul, ← Nat.add_mul]
  have : n + m + (c - (n + m)) = c := by omega
  rw [this]; omega

theorem app_ver {e : TypeId} {i : TypeInfo} {z : List AV} {zv : Value} {xs ys cs : List AV} {vs us : List Value} {n m c id ver : Nat} (A : AppCx P e i z zv) (hI : Inv P an B K w S) (hrow : S.os[id]? = some (.row ver cs)) (hal0 : ver < K.al id) (hxs : VRs K w xs vs) (hys : VRs K w ys us) (hvl : vs.length = n * i.size) (hul : us.length = m * i.size)
    (h1 : ∀ v ∈ vs, v.oneCell' = true) (h2 : ∀ v ∈ us, v.oneCell' = true) (hc : n + m ≤ c) :
    ∃ K', Ext K w K' (w.alloc (.cells ⟨vs ++ us ++ (Builtin.zeroCells zv.cells (c - (n + m))).toList⟩ e)) ∧ Inv P an B K' (w.alloc (.cells ⟨vs ++ us ++ (Builtin.zeroCells zv.cells (c - (n + m))).toList⟩ e)) (setOb S id (.row (ver + 1) (xs ++ ys))) ∧
      VR K' (w.alloc (.cells ⟨vs ++ us ++ (Builtin.zeroCells zv.cells (c - (n + m))).toList⟩ e)) (.ms id (ver + 1) 0 (n + m) i.size false) (.slice (some ⟨w.heap.size, 0, none⟩) (n + m) c) := by
  have hz := zeroCells_one (A.hr K w) A.hone (c - (n + m))
  have hzl : (Builtin.zeroCells zv.cells (c - (n + m))).toList.length = (c - (n + m)) * i.size := by rw [zeroCells_list]; simp [A.hzs]
  obtain ⟨hal', _⟩ := row_at hI hrow hal0 rfl
  obtain ⟨K', hE, hI', hal, hmu⟩ := verRow (w' := w.alloc (.cells ⟨vs ++ us ++ (Builtin.zeroCells zv.cells (c - (n + m))).toList⟩ e)) hI hrow hal' ⟨w.heap.size, 0, (vs ++ us ++ (Builtin.zeroCells zv.cells (c - (n + m))).toList).length⟩
    (cs' := xs ++ ys) (c' := vs ++ us ++ (Builtin.zeroCells zv.cells (c - (n + m))).toList) (el := e) hI.base (.inr (Nat.le_refl _)) (alloc_new w _) (fun b _ hb => alloc_old w _ hb) (by rw [alloc_size]; omega) (meta_alloc _)
    (fun v hv => by
      simp only [List.mem_append] at hv
      rcases hv with (hv | hv) | hv
      · exact h1 v hv
      · exact h2 v hv
      · exact hz v hv)
    (by have := hxs.1; have := hys.1; simp only [List.length_append]; omega) (Nat.le_refl _)
    (fun j x hx => by
      obtain ⟨v, hv, hr⟩ := (hxs.append hys).get hx
      exact ⟨v, by simp only [Nat.zero_add]; rw [List.getElem?_append_left (List.getElem?_eq_some_iff.1 hv).1]; exact hv, hr⟩)
  refine ⟨K', hE, hI', VR.ms _ _ _ _ _ _ _ _ _ (by rw [hal]; omega) hc (fun e => by cases e) (.inr ?_)⟩
  rw [hmu]
  refine ⟨rfl, by simp, ?_⟩
  simp only [List.length_append, hvl, hul, hzl]
  rw [← Nat.add_mul, ← Nat.add_mul]
  have : n + m + (c - (n + m)) = c := by omega
  rw [this]; omega

theorem app_sound {e : TypeId} {i : TypeInfo} {z : List AV} {zv : Value} {x : AV} {zx : Value} {ys : List AV} {us : List Value} {m : Nat} {v : AV} {S' : St} {r : Result Value} (A : AppCx P e i z zv) (hI : Inv P an B K w S) (rx : VR K w x zx) (hys : VRs K w ys us) (hul : us.length = m * i.size)
    (h2 : ∀ v ∈ us, v.oneCell' = true) (hrun : ∀ base n cap, zx = .slice base n cap → AppRun P w e i zv base n cap m us r) (h : appOf S i.size i.bytes x ys m = some (v, S')) :
    ∃ K' w' v', r = .ok v' w' ∧ Ext K w K' w' ∧ Inv P an B K' w' S' ∧ VR K' w' v v' := by
  by_cases hm : m = 0
  · subst hm
    obtain ⟨rfl, rfl, hx⟩ := appOf_zero h
    have hus : us = [] := List.eq_nil_of_length_eq_zero (by rw [hul]; simp)
    subst hus
    have fin : ∀ base n cap, zx = .slice base n cap → n ≤ cap → ∃ K' w' v', r = .ok v' w' ∧ Ext K w K' w' ∧ Inv P an B K' w' S' ∧ VR K' w' v v' := by
      intro base n cap hz hn
      have hr := (hrun base n cap hz).room (by omega)
      refine ⟨K, w, zx, ?_, Ext.refl K w, hI, rx⟩
      rw [hr, hz]
      cases base <;> simp [storeCells]
    rcases hx with rfl | ⟨_, _, _, rfl⟩ | ⟨_, _, _, _, _, _, rfl⟩
    · cases rx; exact fin _ _ _ rfl (Nat.le_refl _)
    · cases rx
      · exact fin _ _ _ rfl (by assumption)
      · exact fin _ _ _ rfl (Nat.le_refl _)
    · cases rx; exact fin _ _ _ rfl (by assumption)
  · simp only [appOf, hm, if_false, Option.bind_eq_some_iff] at h
    obtain ⟨⟨xs, n⟩, hrd, h⟩ := h
    split at h <;> try (cases h; done)
    rename_i hb
    obtain ⟨hb1, hb2, hb3, hb4⟩ := hb
    obtain ⟨vs, hv1, hv2, hv3, hv4, hv5, hv6⟩ := rd_sound (P := P) hI.drew (rx.ext Ext.drew) hrd
    have hov : (Builtin.firstCells i.size n zx).run P w.drew = .ok ⟨vs⟩ w.drew := by
      have := hv5 w.drew rfl n (Nat.le_refl _)
      rwa [List.take_of_length_le (by omega)] at this
    have hnew : ∀ base cap, zx = .slice base n cap → ¬ (n + m ≤ cap) → v = .ms S.os.length 0 0 (n + m) i.size false → S' = addOb S (.row 0 (xs ++ ys)) → ∃ K' w' v', r = .ok v' w' ∧ Ext K w K' w' ∧ Inv P an B K' w' S' ∧ VR K' w' v v' := by
      rintro base cap rfl hnr rfl rfl
      obtain ⟨c, hc, hr⟩ := (hrun base n cap rfl).grow hnr hb1 hb2 vs hov
      obtain ⟨K', hE, hI', hvr⟩ := app_new A hI.drew hv1 (hys.ext Ext.drew) hv2 hul hv3 h2 hc
      exact ⟨K', _, _, hr, Ext.drew.trans hE, hI', hvr⟩
    cases x <;> simp only [reduceCtorEq] at h
    case nils =>
      cases rx
      simp only [rd] at hrd
      cases hrd
      cases h
      exact hnew _ _ rfl (by omega) rfl rfl
    case sl cs n0 ex =>
      cases ex <;> simp only [reduceCtorEq] at h
      cases rx with
      | nsl _ =>
        simp only [rd] at hrd
        split at hrd <;> cases hrd
        cases h
        exact hnew _ _ rfl (by omega) rfl rfl
      | sl _ _ _ b o cap sp vs' hn hxx hs hl hc hh =>
      simp only [rd] at hrd
      split at hrd <;> cases hrd
      cases h
      have := hxx rfl
      exact hnew _ _ rfl (by omega) rfl rfl
    case ms id ver off n0 sz' ex =>
      cases rx with
      | ms _ _ _ _ _ _ b o cap hal hn hxx ha =>
      simp only [rd] at hrd
      split at hrd <;> try (cases hrd; done)
      rename_i v' c0 hrow
      split at hrd <;> cases hrd
      rename_i hbb
      obtain ⟨rfl, rfl, hle⟩ := hbb
      cases ex <;> simp only at h
      · -- not exact
        split at h <;> cases h
        rename_i hlo
        by_cases hroom : n + m ≤ cap
        · -- in place
          have hr := (hrun _ _ _ rfl).room hroom
          simp only at hr
          rcases ha with ha | ⟨rfl, rfl, ha⟩
          · omega
          obtain ⟨hal', c, el, hh', hB, hown, g1, g2, g3, g4⟩ := row_at hI hrow hal rfl
          have hmul : (n + m) * i.size ≤ cap * i.size := Nat.mul_le_mul_right _ hroom
          rw [Nat.add_mul] at hmul
          have hst := run_storeCells_at P (K.mu id v').b ((K.mu id v').o + off + n * i.size) el us 0 ⟨c⟩ w hh' (by simp; omega) h2
          rw [Addr.add_lit, hst, Result.andThen_ok] at hr
          simp only [Nat.add_zero] at hr
          obtain ⟨K', hE, hI', hal2, hmu2⟩ := verRow (w' := w.setRow (K.mu id v').b (c.take ((K.mu id v').o + off + n * i.size) ++ us ++ c.drop ((K.mu id v').o + off + n * i.size + us.length)).toArray) hI hrow hal' ⟨(K.mu id v').b, (K.mu id v').o + off, (K.mu id v').e⟩
            (cs' := cut c0 off (n * i.size) ++ ys) (c' := c.take ((K.mu id v').o + off + n * i.size) ++ us ++ c.drop ((K.mu id v').o + off + n * i.size + us.length)) (el := el) hB (.inl hown)
            (setRow_heap w _ _ _ el (0, 0) hh') (fun b hb _ => setRow_other w _ b _ hb) (by simp) ⟨rfl, rfl, rfl⟩
            (fun v hv => by
              simp only [List.mem_append] at hv
              rcases hv with (hv | hv) | hv
              · exact g3 v (List.mem_of_mem_take hv)
              · exact h2 v hv
              · exact g3 v (List.mem_of_mem_drop hv))
            (by have := hys.1; simp only [List.length_append, cut_length hle]; omega)
            (by simp; omega)
            (fun j x hx => by
              have hcl := cut_length hle
              dsimp only
              by_cases hj : j < n * i.size
              · rw [List.getElem?_append_left (by omega), cut_get, if_pos hj] at hx
                obtain ⟨v, hv, hvr⟩ := g4 _ x hx
                refine ⟨v, ?_, hvr⟩
                rw [List.append_assoc, List.getElem?_append_left (by simp; omega), List.getElem?_take, if_pos (by omega), ← hv]
                congr 1; omega
              · rw [List.getElem?_append_right (by omega), hcl] at hx
                obtain ⟨v, hv, hvr⟩ := hys.get hx
                refine ⟨v, ?_, hvr⟩
                have hju : j - n * i.size < us.length := (List.getElem?_eq_some_iff.1 hv).1
                rw [List.append_assoc, List.getElem?_append_right (by simp; omega), List.getElem?_append_left (by simp; omega), ← hv]
                congr 1; simp; omega)
          refine ⟨K', _, _, hr, hE, hI', VR.ms _ _ _ _ _ _ _ _ _ (by rw [hal2]; omega) hroom (fun e => by cases e) (.inr ?_)⟩
          rw [hmu2]
          exact ⟨rfl, by simp, by simp only [Nat.add_zero]; exact ha⟩
        · obtain ⟨c, hc, hr⟩ := (hrun _ _ _ rfl).grow hroom hb1 hb2 vs hov
          obtain ⟨K', hE, hI', hvr⟩ := app_ver A hI.drew hrow hal hv1 (hys.ext Ext.drew) hv2 hul hv3 h2 hc
          exact ⟨K', _, _, hr, Ext.drew.trans hE, hI', hvr⟩
      · cases h
        have := hxx rfl
        exact hnew _ _ rfl (by omega) rfl rfl

end Go.Ai


/- append, copy, clear, bytes of a text, texts in order: the operations themselves. -/
namespace Go.Ai
variable {P : Program} {an : Ann} {B : Nat} {K : KW} {w : World} {S : St} {E : Env} {ts : List AV} {a : Act}
variable {cf : CallFn} {cv : AV → List AV → St → Option (AV × St)}

theorem appCx {e : TypeId} {i : TypeInfo} {z : List AV} (hi : P.info? e = some i) (hz : zeroT P e = some z) (hnz : i.size ≠ 0) : ∃ zv, AppCx P e i z zv ∧ ∀ w, (zeroValue e).run P w = .ok zv w := by
  obtain ⟨i', zv, hi', hzv, h1, h2, h3, h4⟩ := zeroT_inv hz
  rw [hi] at hi'; cases hi'
  exact ⟨zv, ⟨hi, h1, h2, hnz, h3, h4⟩, fun w => by simp [zeroValue, typeInfo, hi, hzv]⟩

theorem VR.slice_inv {x : AV} {z : Value} (hr : VR K w x z) (h : x = .nils ∨ (∃ a b c, x = .sl a b c) ∨ ∃ a b c d e f, x = .ms a b c d e f) : ∃ base n cap, z = .slice base n cap := by
  rcases h with rfl | ⟨_, _, _, rfl⟩ | ⟨_, _, _, _, _, _, rfl⟩ <;> cases hr <;> exact ⟨_, _, _, rfl⟩

theorem appOf_slice {sz bytes m : Nat} {x v : AV} {ys : List AV} {S' : St} (h : appOf S sz bytes x ys m = some (v, S')) : x = .nils ∨ (∃ a b c, x = .sl a b c) ∨ ∃ a b c d e f, x = .ms a b c d e f := by
  unfold appOf at h
  split at h
  · split at h <;> try (cases h; done)
    · exact .inl rfl
    · exact .inr (.inl ⟨_, _, _, rfl⟩)
    · exact .inr (.inr ⟨_, _, _, _, _, _, rfl⟩)
  · simp only [Option.bind_eq_some_iff] at h
    obtain ⟨_, _, h⟩ := h
    split at h <;> try (cases h; done)
    split at h <;> try (cases h; done)
    · exact .inl rfl
    · exact .inr (.inl ⟨_, _, _, rfl⟩)
    · exact .inr (.inr ⟨_, _, _, _, _, _, rfl⟩)
    · exact .inr (.inr ⟨_, _, _, _, _, _, rfl⟩)

theorem exec_builtin {o : Oper} {c : Call} {b : Builtin} (ho : o.op = .call c) (hc : c.callee = .builtin b) : ∃ k, (execOp a.eval o).run P w = (builtin b c.argTypes o.type k (c.args.map a.eval)).run P w := by
  simp only [execOp, ho, resolve, hc, Sem.run_bind, Sem.run_pure, Result.andThen_ok, invoke]
  exact ⟨_, rfl⟩

theorem args2 {c : Call} {x y : Operand} (h : c.args.toList = [x, y]) : c.args.map a.eval = #[a.eval x, a.eval y] := by
  have : c.args = #[x, y] := by apply Array.ext'; simpa using h
  rw [this]; simp

theorem snd_app {o : Oper} {c : Call} {t tx e : TypeId} {d : TypeDesc} {i : TypeInfo} {z : List AV} {x y : Operand} {x' y' : OA} {v : AV} {S' : St} (C : Cx P an B K w S E ts a.tmps) (ho : o.op = .call c) (hc : c.callee = .builtin .append) (ha : c.args.toList = [x, y])
    (h0 : c.argTypes[0]? = some t) (h1 : c.argTypes[1]? = some tx) (ht : P.underlying t = some (.slice e)) (htx : P.underlying tx = some d) (hd : ∀ k, d ≠ .int k) (hi : P.info? e = some i) (hz : zeroT P e = some z) (hnz : i.size ≠ 0)
    (hx : oa x = some x') (hy : oa y = some y') (he : aopW E cf cv ts S (.app i.size i.bytes x' y') = some (v, S')) : Good P an B K w ((execOp a.eval o).run P w) v S' := by
  simp only [aopW, Option.bind_eq_some_iff] at he
  obtain ⟨⟨ys, m⟩, hrd, he⟩ := he
  obtain ⟨us, hu1, hu2, hu3, hu4, hu5, hu6⟩ := rd_sound (P := P) C.inv (C.opd hy) hrd
  obtain ⟨zv, A, hzv⟩ := appCx hi hz hnz
  have happ : ∀ W : World, W.heap = w.heap → (Builtin.firstCells i.size m (a.eval y)).run P W = .ok ⟨us⟩ W := by
    intro W hW
    have := hu5 W hW m (Nat.le_refl _)
    rwa [List.take_of_length_le (by omega)] at this
  obtain ⟨k, hk⟩ := exec_builtin (P := P) (w := w) (a := a) ho hc
  obtain ⟨base, n, cap, hz'⟩ := (C.opd hx).slice_inv (appOf_slice he)
  obtain ⟨K', w', v', hr, hE, hI', hv⟩ := app_sound (P := P) A C.inv (C.opd hx) hu1 hu2 hu3 (r := (Builtin.append_ c.argTypes o.type #[a.eval x, a.eval y]).run P w)
    (fun base n cap hzz => by rw [hzz]; exact run_append h0 h1 ht htx hd hi hzv hu4 happ) he
  refine ⟨K', w', v', .inl ?_, hE, hI', hv⟩
  rw [hk, args2 ha]
  simp only [builtin, Sem.run_bind, hr, Result.andThen_ok, Sem.run_pure]

theorem run_appendZ {t tx ty e : TypeId} {kx : IntKind} {i : TypeInfo} {z : List AV} {zv : Value} {ats : Array TypeId} {base : Option Addr} {n cap : Nat} {l : Int}
    (A : AppCx P e i z zv) (h0 : ats[0]? = some t) (h1 : ats[1]? = some tx) (ht : P.underlying t = some (.slice e)) (hx : P.underlying tx = some (.int kx)) (hzv : ∀ w, (zeroValue e).run P w = .ok zv w) (hl0 : 0 ≤ l) (hl1 : l * i.bytes ≤ 70368744177664) (hl2 : l ≤ 70368744177664) :
    AppRun P w e i zv base n cap l.toNat (Builtin.zeroCells zv.cells l.toNat).toList ((Builtin.append_ ats ty #[.slice base n cap, .int .i64 l]).run P w) := by
  have hi := A.hi
  have hsz : sizeT P e = some i.size := by simp [sizeT, hi]
  have wl : IntKind.i64.wrap l = l := wrap64_id hl0 hl2
  have n1 : ¬ (l < 0) := by omega
  have n2 : ¬ (l * (i.bytes : Int) > 2 ^ 48) := by
    have : (2 : Int) ^ 48 = 281474976710656 := by decide
    omega
  have happ : ∀ W : World, (Sem.run P (if l.toNat * i.size = 0 then pure #[] else do pure (Builtin.zeroCells (← zeroValue e).cells l.toNat) : Sem (Array Value)) W) = .ok ⟨(Builtin.zeroCells zv.cells l.toNat).toList⟩ W := by
    intro W
    split
    · rename_i h
      have : l.toNat = 0 := by
        rcases Nat.mul_eq_zero.1 h with h | h
        · exact h
        · exact absurd h A.hnz
      rw [this]
      simp [Builtin.zeroCells]
    · simp [hzv]
  constructor
  · intro hr
    simp only [Builtin.append_, h0, h1, List.getElem?_toArray, List.getElem?_cons_zero, List.getElem?_cons_succ, Sem.run_bind, run_underlying ht, Result.andThen_ok, run_sizeOf' hsz, run_underlying hx, Sem.run_pure, asInt, asIntOf, wl, n1, n2, if_false, typeInfo, run_program, hi, if_true, hr, Bool.not_true, Bool.false_eq_true, Sem.run_ite]
    have := happ w
    simp only [Sem.run_ite, Sem.run_bind, Sem.run_pure] at this
    rw [this]
    cases base <;> simp
  · intro hr hb1 hb2 vs hov
    obtain ⟨c, hc, hrun⟩ := grown_run (w := w) (e := e) (i := i) (zv := zv) (app := (if l.toNat * i.size = 0 then pure #[] else do pure (Builtin.zeroCells (← zeroValue e).cells l.toNat) : Sem (Array Value))) (m := l.toNat) (n := n) (cap := cap) (base := base) hzv (fun W _ => happ W) hov
    refine ⟨c, hc, ?_⟩
    have k1 : ¬ (((n + l.toNat : Nat) : Int) > IntKind.i64.max) := by
      rw [IntKind.max_i64]
      simp only [maxBytes] at hb2
      omega
    have k2 := capBytes (old := cap) (by omega) hb1
    rw [← hrun]
    simp only [Builtin.append_, h0, h1, List.getElem?_toArray, List.getElem?_cons_zero, List.getElem?_cons_succ, Sem.run_bind, run_underlying ht, Result.andThen_ok, run_sizeOf' hsz, run_underlying hx, Sem.run_pure, asInt, asIntOf, wl, n1, n2, if_false, typeInfo, run_program, hi, if_true, hr, Bool.not_true, Bool.false_eq_true, k1, k2, false_and]

theorem snd_appZ {o : Oper} {c : Call} {t tx e : TypeId} {kx : IntKind} {i : TypeInfo} {z : List AV} {x y : Operand} {x' y' : OA} {v : AV} {S' : St} (C : Cx P an B K w S E ts a.tmps) (ho : o.op = .call c) (hc : c.callee = .builtin .append) (ha : c.args.toList = [x, y])
    (h0 : c.argTypes[0]? = some t) (h1 : c.argTypes[1]? = some tx) (ht : P.underlying t = some (.slice e)) (htx : P.underlying tx = some (.int kx)) (hi : P.info? e = some i) (hz : zeroT P e = some z) (hnz : i.size ≠ 0)
    (hx : oa x = some x') (hy : oa y = some y') (he : aopW E cf cv ts S (.appZ z i.size i.bytes x' y') = some (v, S')) : Good P an B K w ((execOp a.eval o).run P w) v S' := by
  simp only [aopW] at he
  have ry := C.opd hy
  generalize ev E ts y' = q at he ry
  split at he <;> try (cases he; done)
  rename_i l
  split at he <;> try (cases he; done)
  rename_i hb
  obtain ⟨hb0, hb1, hb2, hb3⟩ := hb
  have ey := int_inv ry
  obtain ⟨zv, A, hzv⟩ := appCx hi hz hnz
  have hb1' : l * (i.bytes : Int) ≤ 70368744177664 := by
    have : l * (i.bytes : Int) ≤ ((maxBytes : Nat) : Int) := hb1
    simp only [maxBytes] at this; omega
  have hb2' : l ≤ 70368744177664 := by
    have : l ≤ ((maxBytes : Nat) : Int) := hb2
    simp only [maxBytes] at this; omega
  have hzr := zeros_rel (A.hr K w) l.toNat
  rw [← zeroCells_list] at hzr
  obtain ⟨k, hk⟩ := exec_builtin (P := P) (w := w) (a := a) ho hc
  obtain ⟨base, n, cap, hz'⟩ := (C.opd hx).slice_inv (appOf_slice he)
  obtain ⟨K', w', v', hr, hE, hI', hv⟩ := app_sound (P := P) A C.inv (C.opd hx) hzr (by rw [zeroCells_list]; simp [A.hzs]) (zeroCells_one (A.hr K w) A.hone _) (r := (Builtin.append_ c.argTypes o.type #[a.eval x, a.eval y]).run P w)
    (fun base n cap hzz => by rw [hzz, ey]; exact run_appendZ A h0 h1 ht htx hzv hb0 hb1' hb2') he
  refine ⟨K', w', v', .inl ?_, hE, hI', hv⟩
  rw [hk, args2 ha]
  simp only [builtin, Sem.run_bind, hr, Result.andThen_ok, Sem.run_pure]

end Go.Ai

