/- A proved interpreter of the program's code (AiOps12 AiSnd1 AiFz AiSnd2 AiSnd3 AiSnd4 AiSnd5 AiSnd6 AiSnd7 AiDrw1). -/
import Derived.Test.YtnhbkimefglkiaaGreatDoorAi1
import Derived.ControlIn
import Derived.Laws.Sem
import Derived.RangeFuncRecord
import Derived.RangeFuncIn
/- copy, clear, bytes of a text, texts in order. -/
namespace Go.Ai
variable {P : Program} {an : Ann} {B : Nat} {K : KW} {w : World} {S : St} {E : Env} {ts : List AV} {a : Act}
variable {cf : CallFn} {cv : AV → List AV → St → Option (AV × St)}

theorem args1 {c : Call} {x : Operand} (h : c.args.toList = [x]) : c.args.map a.eval = #[a.eval x] := by
  have : c.args = #[x] := by apply Array.ext'; simpa using h
  rw [this]; simp

/-- Cells are laid at a slice's head. -/
theorem st_slice (hI : Inv P an B K w S) {id ver off n sz : Nat} {ex : Bool} {z : Value} {vs : List AV} {us : List Value} {S' : St} (hr : VR K w (.ms id ver off n sz ex) z) (hv : VRs K w vs us) (hlen : vs.length ≤ n * sz) (h : stCells S (.ptr id ver off) vs = some S') :
    ∃ b cap w', z = .slice (some b) n cap ∧ (storeCells b us).run P w = .ok () w' ∧ Ext K w K w' ∧ Inv P an B K w' S' := by
  cases hr with
  | ms _ _ _ _ _ _ b o cap hal hn hxx ha =>
  obtain ⟨w', hrun, hE, hI'⟩ := st_sound (P := P) hI hal hv h
  rcases ha with ha | ⟨rfl, rfl, _⟩
  · have h0 : n = 0 := by omega
    have hus : us = [] := List.eq_nil_of_length_eq_zero (by have := hv.1; rw [h0] at hlen; simp at hlen; simp [this, hlen])
    subst hus
    have : w' = w := by
      have h1 : (storeCells ⟨(K.mu id ver).b, (K.mu id ver).o + off, none⟩ ([] : List Value)).run P w = .ok () w := rfl
      rw [h1] at hrun; cases hrun; rfl
    subst this
    exact ⟨_, cap, w', rfl, rfl, hE, hI'⟩
  · exact ⟨_, cap, w', rfl, hrun, hE, hI'⟩

theorem snd_copy {o : Oper} {c : Call} {t e : TypeId} {sz : Nat} {x y : Operand} {x' y' : OA} {v : AV} {S' : St} (C : Cx P an B K w S E ts a.tmps) (ho : o.op = .call c) (hc : c.callee = .builtin .copy) (ha : c.args.toList = [x, y])
    (h0 : c.argTypes[0]? = some t) (ht : P.underlying t = some (.slice e)) (hsz : sizeT P e = some sz)
    (hx : oa x = some x') (hy : oa y = some y') (he : aopW E cf cv ts S (.copyL sz x' y') = some (v, S')) : Good P an B K w ((execOp a.eval o).run P w) v S' := by
  simp only [aopW, Option.bind_eq_some_iff] at he
  obtain ⟨⟨ys, m⟩, hrd, he⟩ := he
  obtain ⟨us, hu1, hu2, hu3, hu4, hu5, hu6⟩ := rd_sound (P := P) C.inv (C.opd hy) hrd
  have rx := C.opd hx
  generalize hp : ev E ts x' = p at he rx
  generalize hzx : a.eval x = zx at rx
  obtain ⟨k, hk⟩ := exec_builtin (P := P) (w := w) (a := a) ho hc
  have run : ∀ base n cap, zx = .slice base n cap → (execOp a.eval o).run P w = (match base with
      | some b => ((storeCells b (us.take (min m n * sz))).run P w).andThen fun _ w' => .ok (.value (goInt (Nat.min m n))) w'
      | none => .ok (.value (goInt (Nat.min m n))) w) := by
    rintro base n cap rfl
    have hf := hu5 w rfl (Nat.min m n) (Nat.min_le_left _ _)
    rw [hk, args2 ha, hzx]
    simp only [builtin, Builtin.copy_, List.getElem?_toArray, List.getElem?_cons_zero, List.getElem?_cons_succ, h0, Sem.run_bind, run_underlying ht, Result.andThen_ok, hu4, run_sizeOf' hsz, hf, Sem.run_pure]
    cases base with
    | none => rfl
    | some b =>
      have hmm : m.min n = min m n := rfl
      simp only [Sem.run_bind, hmm]
      cases (storeCells b (us.take (min m n * sz))).run P w <;> rfl
  cases p <;> simp only [reduceCtorEq] at he
  case nils =>
    cases he
    cases rx
    refine Good.same C.inv ?_ (VR.int _ _)
    rw [run _ _ _ rfl]
    simp [goInt]
  case sl cs n ex =>
    split at he <;> cases he
    rename_i hmin
    have h00 : Nat.min m n = 0 := hmin
    cases rx
    · refine Good.same C.inv ?_ (VR.int _ _)
      rw [run _ _ _ rfl]
      simp [h00, storeCells, goInt]
    · refine Good.same C.inv ?_ (VR.int _ _)
      rw [run _ _ _ rfl]
      simp [goInt]
  case ms id ver off n sz' ex =>
    split at he <;> try (cases he; done)
    rename_i hb
    obtain ⟨rfl, hyl⟩ := hb
    simp only [Option.map_eq_some_iff] at he
    obtain ⟨S2, hS2, he⟩ := he
    cases he
    obtain ⟨b, cap, w', hzz, hst, hE, hI'⟩ := st_slice (P := P) C.inv rx (hu1.take (min m n * sz')) (by rw [List.length_take]; exact Nat.le_trans (Nat.min_le_left _ _) (Nat.mul_le_mul_right _ (Nat.min_le_right _ _))) hS2
    subst hzz
    refine ⟨K, w', goInt (Nat.min m n), .inl ?_, hE, hI', VR.int _ _⟩
    rw [run _ _ _ rfl]
    simp only [hst, Result.andThen_ok]

theorem snd_clr {o : Oper} {c : Call} {t e : TypeId} {i : TypeInfo} {z : List AV} {x : Operand} {x' : OA} {v : AV} {S' : St} (C : Cx P an B K w S E ts a.tmps) (ho : o.op = .call c) (hc : c.callee = .builtin .clear) (ha : c.args.toList = [x])
    (h0 : c.argTypes[0]? = some t) (ht : P.underlying t = some (.slice e)) (hi : P.info? e = some i) (hz : zeroT P e = some z)
    (hx : oa x = some x') (he : aopW E cf cv ts S (.clr z i.size x') = some (v, S')) : Good P an B K w ((execOp a.eval o).run P w) v S' := by
  simp only [aopW] at he
  have rx := C.opd hx
  generalize ev E ts x' = p at he rx
  generalize hzx : a.eval x = zx at rx
  obtain ⟨k, hk⟩ := exec_builtin (P := P) (w := w) (a := a) ho hc
  obtain ⟨i', zv, hi', hzv, h1, h2, h3, h4⟩ := zeroT_inv hz
  rw [hi] at hi'; cases hi'
  have hzw : (zeroValue e).run P w = .ok zv w := by simp [zeroValue, typeInfo, hi, hzv]
  have hut : VR K w (.tup []) (.tuple #[]) := VR.undef
  have nothing : ∀ base n cap, zx = .slice base n cap → (base = none ∨ n = 0) → (execOp a.eval o).run P w = .ok (.value (.tuple #[])) w := by
    rintro base n cap rfl hb
    rw [hk, args1 ha, hzx]
    simp only [builtin, Builtin.clear_, List.getElem?_toArray, List.getElem?_cons_zero, h0, Sem.run_bind, run_underlying ht, Result.andThen_ok]
    rcases hb with rfl | rfl
    · rfl
    · cases base <;> rfl
  split at he <;> try (cases he; done)
  · cases he
    cases rx
    exact Good.same C.inv (nothing _ _ _ rfl (.inl rfl)) hut
  · rename_i id ver off n sz' ex
    split at he <;> try (cases he; done)
    rename_i hb
    obtain ⟨rfl, hzl⟩ := hb
    simp only [Option.map_eq_some_iff] at he
    obtain ⟨S2, hS2, he⟩ := he
    cases he
    have hzr := zeros_rel (h4 K w) n
    rw [← zeroCells_list] at hzr
    obtain ⟨b, cap, w', hzz, hst, hE, hI'⟩ := st_slice (P := P) C.inv rx hzr (by rw [zerosOf_length, hzl]; exact Nat.le_refl _) hS2
    subst hzz
    refine ⟨K, w', .tuple #[], .inl ?_, hE, hI', VR.undef⟩
    by_cases hn : n = 0
    · subst hn
      have hw : w' = w := by
        have h1 : (Builtin.zeroCells zv.cells 0).toList = [] := by simp [Builtin.zeroCells]
        rw [h1] at hst
        have h2 : (storeCells b ([] : List Value)).run P w = .ok () w := rfl
        rw [h2] at hst; cases hst; rfl
      rw [hw]
      exact nothing _ _ _ rfl (.inr rfl)
    · rw [hk, args1 ha, hzx]
      obtain ⟨n', rfl⟩ : ∃ n', n = n' + 1 := ⟨n - 1, by omega⟩
      simp only [builtin, Builtin.clear_, List.getElem?_toArray, List.getElem?_cons_zero, h0, Sem.run_bind, run_underlying ht, Result.andThen_ok, hzw, hst, Sem.run_pure]
  · rename_i n ex
    split at he <;> cases he
    rename_i hn
    cases rx
    · exact Good.same C.inv (nothing _ _ _ rfl (.inr hn)) hut
    · exact Good.same C.inv (nothing _ _ _ rfl (.inr rfl)) hut

theorem freeze_get (w : World) (ad : Addr) (n : Nat) (b : Nat) (h : b ≠ ad.block) : (w.freeze ad n).heap[b]? = w.heap[b]? := by
  unfold World.freeze
  split
  · rfl
  · simp [Array.getElem?_modify, Ne.symm h]

theorem freeze_size (w : World) (ad : Addr) (n : Nat) : (w.freeze ad n).heap.size = w.heap.size := by
  unfold World.freeze
  split <;> simp

theorem freeze_meta (w : World) (ad : Addr) (n : Nat) : Meta w (w.freeze ad n) := by
  unfold World.freeze
  split <;> exact ⟨rfl, rfl, rfl⟩

theorem freeze_cell (w : World) (ad : Addr) (n b o : Nat) : (w.freeze ad n).cell? ⟨b, o, none⟩ = w.cell? ⟨b, o, none⟩ := by
  unfold World.freeze
  split
  · rfl
  · simp only [World.cell?]
    by_cases hb : b = ad.block
    · subst hb
      simp only [Array.getElem?_modify, if_true]
      cases h : w.heap[ad.block]? with
      | none => simp
      | some ob => cases ob <;> simp
    · simp [Array.getElem?_modify, Ne.symm hb]

theorem snd_s2b {o : Oper} {s d e : TypeId} {x : Operand} {x' : OA} {v : AV} (C : Cx P an B K w S E ts a.tmps) (ho : o.op = .convert s d x) (hs : P.underlying s = some .string) (hd : P.underlying d = some (.slice e)) (he8 : isU8 P e = true) (hx : oa x = some x')
    (he : aopP E ts (.s2b x') = some v) : Good P an B K w ((execOp a.eval o).run P w) v S := by
  simp only [aopP] at he
  have he8' : P.underlying e = some (.int .u8) := by
    unfold isU8 at he8
    split at he8
    · assumption
    · cases he8
  have rx := C.opd hx
  generalize ev E ts x' = p at he rx
  split at he <;> try (cases he; done)
  rename_i str
  split at he <;> cases he
  have ex := str_inv rx
  obtain ⟨c, hc⟩ : ∃ c, c = (Question.appendCap (⟨⟨str⟩⟩ : ByteArray).size 0 e).cut (w.tape w.drawn (.appendCap (⟨⟨str⟩⟩ : ByteArray).size 0 e)) := ⟨_, rfl⟩
  have hcge : str.length ≤ c := by rw [hc]; simp [Question.cut, ByteArray.size]
  obtain ⟨cells, hcells⟩ : ∃ cells : List Value, cells = (str.map fun b => Value.int .u8 b.toNat) ++ List.replicate (c - str.length) (.int .u8 0) := ⟨_, rfl⟩
  obtain ⟨w1, hw1⟩ : ∃ w1, w1 = w.drew.alloc (.cells ⟨cells⟩ e) := ⟨_, rfl⟩
  have hrun : (execOp a.eval o).run P w = .ok (.value (.slice (some ⟨w.heap.size, 0, none⟩) str.length c)) (w1.freeze ⟨w.heap.size, cells.length, none⟩ 1) := by
    have hsz : (⟨⟨str⟩⟩ : ByteArray).size = str.length := rfl
    have harr : ((⟨⟨str⟩⟩ : ByteArray).data.map fun b => Value.int .u8 b.toNat) ++ Array.replicate (c - (⟨⟨str⟩⟩ : ByteArray).size) (.int .u8 0) = ⟨cells⟩ := by
      apply Array.ext'
      rw [hcells, hsz]
      simp
    simp only [execOp, ho, ex, convert, Sem.run_bind, run_underlying hs, run_underlying hd, run_underlying he8', Result.andThen_ok, Conv.stringToBytes, run_choose, Question.forced, Bool.false_eq_true, if_false, ← hc, Go.newRow, run_newObj, harr, Sem.run_pure]
    have hshape : (w1).shape? w.heap.size = some (e, cells.length) := by
      rw [hw1]
      have := alloc_new w.drew (.cells ⟨cells⟩ e)
      simp only [World.shape?]
      have hds : w.drew.heap.size = w.heap.size := rfl
      rw [hds] at this
      rw [this]
      simp
    have hw1' : ({ heap := w.heap.push (.cells ⟨cells⟩ e), tape := w.tape, drawn := w.drawn + 1, os := w.os, output := w.output } : World) = w1 := by rw [hw1]; rfl
    rw [hw1']
    simp only [markStringish, Sem.run_bind, run_shape, hshape, Result.andThen_ok, run_freeze, hsz]
  have hsize1 : w1.heap.size = w.heap.size + 1 := by rw [hw1, alloc_size]; rfl
  have hold : ∀ b, b < w.heap.size → (w1.freeze ⟨w.heap.size, cells.length, none⟩ 1).heap[b]? = w.heap[b]? := by
    intro b hb
    rw [freeze_get _ _ _ _ (by simp; omega), hw1]
    exact alloc_old w.drew _ hb
  have hmeta : Meta w (w1.freeze ⟨w.heap.size, cells.length, none⟩ 1) := by
    have h1 := freeze_meta w1 ⟨w.heap.size, cells.length, none⟩ 1
    exact ⟨h1.os.trans (by rw [hw1]; rfl), h1.tape.trans (by rw [hw1]; rfl), h1.output.trans (by rw [hw1]; rfl)⟩
  obtain ⟨K', hE, hI', hk, _, _⟩ := keepNew (w' := w1.freeze ⟨w.heap.size, cells.length, none⟩ 1) C.inv (by rw [freeze_size, hsize1]; omega) hold hmeta
  refine ⟨K', _, _, .inl hrun, hE, hI', ?_⟩
  refine VR.sl _ _ _ _ 0 c none (str.map fun b => Value.int .u8 b.toNat) hcge (fun e => by cases e) (.inl rfl) (by simp [byteCells]) (fun j v hv => ⟨hk _ (Nat.le_refl _) (by rw [freeze_size, hsize1]; omega), ?_, ?_⟩) (fun j x v hx hv => ?_)
  · rw [freeze_cell]
    have := cell_of_row w1 w.heap.size (0 + j) ⟨cells⟩ e (0, 0) (by rw [hw1]; exact alloc_new w.drew _)
    rw [this]
    have hj := (List.getElem?_eq_some_iff.1 hv).1
    simp only [Nat.zero_add, List.getElem?_toArray, hcells]
    rw [List.getElem?_append_left hj]
    exact hv
  · simp only [List.getElem?_map, Option.map_eq_some_iff] at hv
    obtain ⟨b, _, rfl⟩ := hv
    rfl
  · simp only [byteCells, List.getElem?_map, Option.map_eq_some_iff] at hx hv
    obtain ⟨b, hb, rfl⟩ := hx
    obtain ⟨b', hb', rfl⟩ := hv
    rw [hb] at hb'; cases hb'
    exact VR.int _ _

theorem find_cmp {fn : Func} (h : fn.name = cmpName) : Extern.find fn = some Extern.BytealgCompare.compare := by
  unfold Extern.find
  rw [h]
  have h1 : Extern.allGenericRows.lookup cmpName = none := by kernel_rfl
  have h2 : Extern.allTypedRows.lookup cmpName = none := by kernel_rfl
  have h3 : Extern.allRows.lookup cmpName = some Extern.BytealgCompare.compare := by kernel_rfl
  simp [h1, h2, h3]

theorem snd_cmpS {o : Oper} {c : Call} {f : FuncId} {fn : Func} {x y : Operand} {x' y' : OA} {v : AV} (C : Cx P an B K w S E ts a.tmps) (ho : o.op = .call c) (hc : c.callee = .value (.func f)) (ha : c.args.toList = [x, y]) (hf : P.funcs[f]? = some fn)
    (hb : fn.body.isNone = true) (hn : fn.name = cmpName) (hnx : (Extern.findNext fn).isNone = true) (hx : oa x = some x') (hy : oa y = some y') (he : aopP E ts (.cmpS x' y') = some v) :
    Good P an B K w ((execOp a.eval o).run P w) v S := by
  simp only [aopP] at he
  have rx := C.opd hx
  have ry := C.opd hy
  generalize ev E ts x' = p at he rx
  generalize ev E ts y' = q at he ry
  split at he <;> cases he
  rename_i s r
  have ex := str_inv rx
  have ey := str_inv ry
  refine Good.same C.inv (v' := goInt (Extern.BytealgCompare.cmp ⟨⟨s⟩⟩ ⟨⟨r⟩⟩)) ?_ (VR.int _ _)
  have hcall := run_callFunc_extern (P := P) hf (by rw [hn]; decide) hb (by simpa using hnx) (find_cmp hn) #[.string ⟨⟨s⟩⟩, .string ⟨⟨r⟩⟩] w
  have hcmp : (Extern.BytealgCompare.compare #[.string ⟨⟨s⟩⟩, .string ⟨⟨r⟩⟩]).run P w = .ok (goInt (Extern.BytealgCompare.cmp ⟨⟨s⟩⟩ ⟨⟨r⟩⟩)) w := rfl
  rw [hcmp] at hcall
  simp only [Result.andThen_ok] at hcall
  rw [← hcall]
  have hev : a.eval (.func f) = .func (.func f) #[] #[] := rfl
  simp only [execOp, ho, resolve, hc, args2 ha, ex, ey, hev, Deferred.ofValue, Sem.run_bind, Sem.run_pure, Result.andThen_ok, invoke]
  simp

end Go.Ai


/- All operations but calls: the resolved operation's answer is the model's. -/
namespace Go.Ai
variable {P : Program} {an : Ann} {B : Nat} {K : KW} {w : World} {S : St} {E : Env} {ts : List AV} {a : Act}
variable {cf : CallFn} {cv : AV → List AV → St → Option (AV × St)}

theorem noCall_inv {x : Option AO} {ao : AO} (h : noCall x = some ao) : x = some ao ∧ isCall ao = false := by
  simp only [noCall, Option.bind_eq_some_iff] at h
  obtain ⟨y, hy, h⟩ := h
  split at h <;> cases h
  rename_i hc
  exact ⟨hy, by simpa using hc⟩

theorem rOp_inv {pu : Nat → Bool} {mu : Bool} {op : Op} {ao : AO} (h : rOp P pu mu op = some ao) : (∃ c, op = .call c ∧ rCall P pu c = some ao) ∨ ((∀ c, op ≠ .call c) ∧ rOp0 P mu op = some ao ∧ isCall ao = false) := by
  cases op
  case call c => exact .inl ⟨c, rfl, h⟩
  all_goals
    obtain ⟨h1, h2⟩ := noCall_inv h
    exact .inr ⟨fun c e => (by cases e), h1, h2⟩

theorem aop_p {po : PO} {v : AV} {S' : St} (h : aop E cf cv ts S (.p po) = some (v, S')) : aopP E ts po = some v ∧ S' = S := by
  simp only [aop, Option.map_eq_some_iff] at h
  obtain ⟨v', h1, h2⟩ := h
  cases h2
  exact ⟨h1, rfl⟩

theorem aop_d {d : DO} {v : AV} {S' : St} (h : aop E cf cv ts S (.d d) = some (v, S')) : aopD E cf ts S d = some v ∧ S' = S := by
  simp only [aop, Option.map_eq_some_iff] at h
  obtain ⟨v', h1, h2⟩ := h
  cases h2
  exact ⟨h1, rfl⟩

theorem aop_w {o : WO} {r : Option (AV × St)} (h : aop E cf cv ts S (.w o) = r) : aopW E cf cv ts S o = r := h

theorem oas2 {args : Array Operand} {x y : OA} (h : oas args = some [x, y]) : ∃ p q, args.toList = [p, q] ∧ oa p = some x ∧ oa q = some y := by
  have hg := mapM_get h
  have hl : args.toList.length = 2 := hg.1.symm
  match hm : args.toList, hl with
  | [p, q], _ =>
    obtain ⟨p', h1, h2⟩ := hg.2 0 x rfl
    obtain ⟨q', h3, h4⟩ := hg.2 1 y rfl
    rw [hm] at h1 h3
    cases h1; cases h3
    exact ⟨p, q, rfl, h2, h4⟩

theorem oas1 {args : Array Operand} {x : OA} (h : oas args = some [x]) : ∃ p, args.toList = [p] ∧ oa p = some x := by
  have hg := mapM_get h
  have hl : args.toList.length = 1 := hg.1.symm
  match hm : args.toList, hl with
  | [p], _ =>
    obtain ⟨p', h1, h2⟩ := hg.2 0 x rfl
    rw [hm] at h1
    cases h1
    exact ⟨p, rfl, h2⟩

theorem snd_builtin {o : Oper} {c : Call} {b : Builtin} {args : List OA} {ao : AO} {v : AV} {S' : St} (C : Cx P an B K w S E ts a.tmps) (ho : o.op = .call c) (hc : c.callee = .builtin b) (ha : oas c.args = some args)
    (hr : rBuiltin P b c.argTypes args = some ao) (he : aop E cf cv ts S ao = some (v, S')) : Good P an B K w ((execOp a.eval o).run P w) v S' := by
  unfold rBuiltin at hr
  split at hr
  · -- append
    rename_i x y
    obtain ⟨p, q, hpq, hx, hy⟩ := oas2 ha
    simp only [bind, Option.bind_eq_some_iff] at hr
    obtain ⟨st, h0, d, ht, hr⟩ := hr
    split at hr <;> try (cases hr; done)
    rename_i e
    simp only [Option.bind_eq_some_iff] at hr
    obtain ⟨i, hi, hr⟩ := hr
    split at hr <;> try (cases hr; done)
    rename_i hnz
    simp only [Option.bind_eq_some_iff] at hr
    obtain ⟨z, hz, hr⟩ := hr
    split at hr <;> try (cases hr; done)
    rename_i xt h1
    simp only [Option.bind_eq_some_iff] at hr
    obtain ⟨d, htx, hr⟩ := hr
    split at hr <;> try (cases hr; done)
    · cases hr
      exact snd_appZ C ho hc hpq h0 h1 ht htx hi hz hnz hx hy (aop_w he)
    · split at hr <;> cases hr
      exact snd_app C ho hc hpq h0 h1 ht htx (fun k e => by cases e) hi hz hnz hx hy (aop_w he)
    · split at hr <;> cases hr
      exact snd_app C ho hc hpq h0 h1 ht htx (fun k e => by cases e) hi hz hnz hx hy (aop_w he)
  · -- copy
    rename_i x y
    obtain ⟨p, q, hpq, hx, hy⟩ := oas2 ha
    simp only [bind, Option.bind_eq_some_iff] at hr
    obtain ⟨st, h0, d, ht, hr⟩ := hr
    split at hr <;> try (cases hr; done)
    rename_i e
    simp only [Option.bind_eq_some_iff] at hr
    obtain ⟨i, hi, hr⟩ := hr
    split at hr <;> try (cases hr; done)
    split at hr <;> try (cases hr; done)
    rename_i xt h1
    simp only [Option.bind_eq_some_iff] at hr
    obtain ⟨d, htx, hr⟩ := hr
    split at hr <;> try (cases hr; done)
    split at hr <;> cases hr
    exact snd_copy C ho hc hpq h0 ht (by simp [sizeT, hi]) hx hy (aop_w he)
  · -- clear
    rename_i x
    obtain ⟨p, hp, hx⟩ := oas1 ha
    simp only [bind, Option.bind_eq_some_iff] at hr
    obtain ⟨st, h0, d, ht, hr⟩ := hr
    split at hr <;> try (cases hr; done)
    rename_i e
    simp only [Option.bind_eq_some_iff] at hr
    obtain ⟨i, hi, z, hz, hr⟩ := hr
    cases hr
    exact snd_clr C ho hc hp h0 ht hi hz hx (aop_w he)
  · -- len
    rename_i x
    obtain ⟨p, hp, hx⟩ := oas1 ha
    simp only [bind, Option.bind_eq_some_iff] at hr
    obtain ⟨st, h0, d, ht, hr⟩ := hr
    split at hr <;> try (cases hr; done)
    · cases hr
      obtain ⟨hep, hS⟩ := aop_p he; clear he; subst hS; have he := hep; clear hep
      exact snd_lenS C ho hc hp h0 ht hx he
    · cases hr
      obtain ⟨hep, hS⟩ := aop_p he; clear he; subst hS; have he := hep; clear hep
      exact snd_lenC C ho hc hp h0 (.inl ⟨_, ht⟩) he
    · cases hr
      obtain ⟨hep, hS⟩ := aop_p he; clear he; subst hS; have he := hep; clear hep
      exact snd_lenL C ho hc hp h0 ht hx he
    · split at hr <;> cases hr
      rename_i hu
      obtain ⟨hep, hS⟩ := aop_p he; clear he; subst hS; have he := hep; clear hep
      exact snd_lenC C ho hc hp h0 (.inr ⟨_, _, ht, hu⟩) he
  · -- cap
    rename_i x
    obtain ⟨p, hp, hx⟩ := oas1 ha
    simp only [bind, Option.bind_eq_some_iff] at hr
    obtain ⟨st, h0, d, ht, hr⟩ := hr
    split at hr <;> cases hr
    obtain ⟨hep, hS⟩ := aop_p he; clear he; subst hS; have he := hep; clear hep
    exact snd_capL C ho hc hp h0 ht hx he
  · cases hr
    obtain ⟨hep, hS⟩ := aop_p he; clear he; subst hS; have he := hep; clear hep
    exact snd_maxI C ho hc ha he
  · cases hr
    obtain ⟨hep, hS⟩ := aop_p he; clear he; subst hS; have he := hep; clear hep
    exact snd_minI C ho hc ha he
  · cases hr

theorem oaO_none {x : Option Operand} (h : x.isSome = false) : x = none := by cases x <;> simp_all

theorem snd_op {o : Oper} {pu : Nat → Bool} {mu : Bool} {ao : AO} {v : AV} {S' : St} (C : Cx P an B K w S E ts a.tmps) (hr : (rOp P pu mu o.op).getD (.p .bad) = ao) (hnc : isCall ao = false) (he : aop E cf cv ts S ao = some (v, S')) :
    Good P an B K w ((execOp a.eval o).run P w) v S' := by
  cases hro : rOp P pu mu o.op with
  | none =>
    rw [hro] at hr
    simp at hr
    subst hr
    obtain ⟨he, _⟩ := aop_p he
    simp [aopP] at he
  | some ao' =>
  rw [hro] at hr
  simp at hr
  subst hr
  rcases rOp_inv hro with ⟨c, hop, hro⟩ | ⟨hnotc, hro, _⟩
  · simp only [rCall, bind, Option.bind_eq_some_iff] at hro
    obtain ⟨args, ha, hro⟩ := hro
    split at hro <;> try (cases hro; done)
    · rename_i b hc
      exact snd_builtin C hop hc ha (noCall_inv hro).1 he
    · rename_i f hc
      simp only [Option.bind_eq_some_iff] at hro
      obtain ⟨fn, hf, hro⟩ := hro
      split at hro
      · rename_i hb
        split at hro <;> try (cases hro; done)
        rename_i hn
        simp only [Bool.and_eq_true, beq_iff_eq] at hn
        split at hro <;> cases hro
        obtain ⟨p, q, hpq, hx, hy⟩ := oas2 ha
        obtain ⟨hep, hS⟩ := aop_p he; clear he; subst hS; have he := hep; clear hep
        exact snd_cmpS C hop hc hpq hf hb hn.1 hn.2 hx hy he
      · split at hro <;> try (cases hro; done)
        split at hro <;> cases hro <;> simp [isCall] at hnc
    · simp only [Option.bind_eq_some_iff] at hro
      obtain ⟨x', hx, hro⟩ := hro
      cases hro
      simp [isCall] at hnc
  generalize hop : o.op = op at hro hnotc
  cases op <;> simp only [rOp0, bind, Option.bind_eq_some_iff, reduceCtorEq] at hro
  case move x =>
    obtain ⟨x', hx, hro⟩ := hro
    cases hro
    obtain ⟨hep, hS⟩ := aop_p he; clear he; subst hS; have he := hep; clear hep
    simp only [aopP] at he; cases he
    exact snd_move C (.inl hop) hx
  case assign x =>
    obtain ⟨x', hx, hro⟩ := hro
    cases hro
    obtain ⟨hep, hS⟩ := aop_p he; clear he; subst hS; have he := hep; clear hep
    simp only [aopP] at he; cases he
    exact snd_move C (.inr hop) hx
  case pick c x y =>
    obtain ⟨c', hc, x', hx, y', hy, hro⟩ := hro
    cases hro
    obtain ⟨hep, hS⟩ := aop_p he; clear he; subst hS; have he := hep; clear hep
    exact snd_pick C hop hc hx hy he
  case alloc e =>
    obtain ⟨z, hz, hro⟩ := hro
    cases hro
    exact snd_alloc C hop hz (aop_w he)
  case box e x =>
    obtain ⟨sz, hs, x', hx, hro⟩ := hro
    cases hro
    exact snd_box C hop hx (aop_w he)
  case build t ps =>
    obtain ⟨z, hz, d, ht, hro⟩ := hro
    split at hro <;> try (cases hro; done)
    · simp only [Option.bind_eq_some_iff] at hro
      obtain ⟨pl, hpl, qs, hq, hro⟩ := hro
      cases hro
      obtain ⟨hep, hS⟩ := aop_p he; clear he; subst hS; have he := hep; clear hep
      exact snd_build C hop hz (.inl ⟨_, pl, ht, hpl, hq⟩) he
    · simp only [Option.bind_eq_some_iff] at hro
      obtain ⟨sz, hs, qs, hq, hro⟩ := hro
      cases hro
      obtain ⟨hep, hS⟩ := aop_p he; clear he; subst hS; have he := hep; clear hep
      exact snd_build C hop hz (.inr ⟨_, _, sz, ht, hs, hq⟩) he
  case buildSlice t len ps =>
    obtain ⟨d, ht, hro⟩ := hro
    split at hro <;> try (cases hro; done)
    simp only [Option.bind_eq_some_iff] at hro
    obtain ⟨sz, hs, z, hz, hro⟩ := hro
    split at hro <;> try (cases hro; done)
    rename_i hb
    simp only [Option.bind_eq_some_iff] at hro
    obtain ⟨qs, hq, hro⟩ := hro
    have hlen : len * sz ≤ 2 ^ 16 := by
      rcases Nat.lt_or_ge (2 ^ 16) (len * sz) with h | h
      · exact absurd (.inr h) hb
      · exact h
    cases mu with
    | true =>
      cases hro
      exact snd_mkr C hop ht hs hz hlen hq (aop_w he)
    | false =>
      cases hro
      obtain ⟨hep, hS⟩ := aop_p he; clear he; subst hS; have he := hep; clear hep
      exact snd_mkl C hop ht hs hz hlen hq he
  case load t x =>
    obtain ⟨sz, hs, ag, ha, x', hx, hro⟩ := hro
    cases hro
    obtain ⟨hep, hS⟩ := aop_d he; clear he; subst hS; have he := hep; clear hep
    exact snd_load C hop hs ha hx he
  case store t x y =>
    obtain ⟨sz, hs, x', hx, y', hy, hro⟩ := hro
    cases hro
    exact snd_store C hop hs hx hy (aop_w he)
  case nilCheck x =>
    obtain ⟨x', hx, hro⟩ := hro
    cases hro
    obtain ⟨hep, hS⟩ := aop_p he; clear he; subst hS; have he := hep; clear hep
    exact snd_nchk C hop hx he
  case binOp op t x y u =>
    obtain ⟨cl, hcl, hro⟩ := hro
    split at hro <;> try (cases hro; done)
    · simp only [Option.bind_eq_some_iff] at hro
      obtain ⟨x', hx, y', hy, hro⟩ := hro
      cases hro
      obtain ⟨hep, hS⟩ := aop_p he; clear he; subst hS; have he := hep; clear hep
      exact snd_arith C hop hx hy he
    · simp only [Option.bind_eq_some_iff] at hro
      obtain ⟨x', hx, y', hy, hro⟩ := hro
      cases hro
      obtain ⟨hep, hS⟩ := aop_p he; clear he; subst hS; have he := hep; clear hep
      exact snd_eq C hop (.inl ⟨rfl, rfl⟩) hcl hx hy he
    · simp only [Option.bind_eq_some_iff] at hro
      obtain ⟨x', hx, y', hy, hro⟩ := hro
      cases hro
      obtain ⟨hep, hS⟩ := aop_p he; clear he; subst hS; have he := hep; clear hep
      exact snd_eq C hop (.inr ⟨rfl, rfl⟩) hcl hx hy he
  case unOp op t x =>
    obtain ⟨x', hx, hro⟩ := hro
    cases hro
    obtain ⟨hep, hS⟩ := aop_p he; clear he; subst hS; have he := hep; clear hep
    exact snd_un C hop hx he
  case convert s d x =>
    obtain ⟨ds, hs, dd, hd, hro⟩ := hro
    split at hro <;> try (cases hro; done)
    · simp only [Option.bind_eq_some_iff] at hro
      obtain ⟨x', hx, hro⟩ := hro
      cases hro
      obtain ⟨hep, hS⟩ := aop_p he; clear he; subst hS; have he := hep; clear hep
      exact snd_toInt C hop hs hd hx he
    · simp only [Option.bind_eq_some_iff] at hro
      obtain ⟨x', hx, hro⟩ := hro
      cases hro
      obtain ⟨hep, hS⟩ := aop_p he; clear he; subst hS; have he := hep; clear hep
      simp only [aopP] at he
      split at he <;> try (cases he; done)
      rename_i s' hs'
      cases he
      have := snd_strstr C hop hs hd hx hs'
      rwa [hs'] at this
    · split at hro <;> try (cases hro; done)
      rename_i h8
      simp only [Option.bind_eq_some_iff] at hro
      obtain ⟨x', hx, hro⟩ := hro
      cases hro
      obtain ⟨hep, hS⟩ := aop_p he; clear he; subst hS; have he := hep; clear hep
      exact snd_s2b C hop hs hd h8 hx he
    · split at hro <;> try (cases hro; done)
      rename_i h8
      simp only [Option.bind_eq_some_iff] at hro
      obtain ⟨x', hx, hro⟩ := hro
      cases hro
      obtain ⟨hep, hS⟩ := aop_d he; clear he; subst hS; have he := hep; clear hep
      exact snd_b2s C hop hs hd h8 hx he
  case makeFunc f x y =>
    cases f <;> simp only [Option.bind_eq_some_iff, reduceCtorEq] at hro
    obtain ⟨x', hx, y', hy, hro⟩ := hro
    cases hro
    obtain ⟨hep, hS⟩ := aop_p he; clear he; subst hS; have he := hep; clear hep
    simp only [aopP] at he
    cases he
    exact snd_mkf C hop hx hy
  case makeSlice t x y =>
    obtain ⟨d, ht, hro⟩ := hro
    split at hro <;> try (cases hro; done)
    simp only [Option.bind_eq_some_iff] at hro
    obtain ⟨i, hi, hro⟩ := hro
    split at hro <;> try (cases hro; done)
    simp only [Option.bind_eq_some_iff] at hro
    obtain ⟨z, hz, x', hx, y', hy, hro⟩ := hro
    cases hro
    exact snd_mks C hop ht hi hz hx hy (aop_w he)
  case slice t x lo hi mx =>
    obtain ⟨d, ht, hro⟩ := hro
    split at hro <;> try (cases hro; done)
    · split at hro <;> try (cases hro; done)
      rename_i hm
      simp only [Option.bind_eq_some_iff] at hro
      obtain ⟨x', hx, lo', hlo, hi', hhi, hro⟩ := hro
      cases hro
      obtain ⟨hep, hS⟩ := aop_p he; clear he; subst hS; have he := hep; clear hep
      have := oaO_none (x := mx) (by simpa using hm)
      subst this
      exact snd_slS C hop ht hx hlo hhi he
    · simp only [Option.bind_eq_some_iff] at hro
      obtain ⟨sz, hs, hro⟩ := hro
      split at hro <;> try (cases hro; done)
      simp only [Option.bind_eq_some_iff] at hro
      obtain ⟨x', hx, lo', hlo, hi', hhi, mx', hmx, hro⟩ := hro
      cases hro
      obtain ⟨hep, hS⟩ := aop_p he; clear he; subst hS; have he := hep; clear hep
      exact snd_slL C hop ht hs hx hlo hhi hmx he
    · simp only [Option.bind_eq_some_iff] at hro
      obtain ⟨sz, hs, hro⟩ := hro
      split at hro <;> try (cases hro; done)
      rename_i hm
      simp only [Option.bind_eq_some_iff] at hro
      obtain ⟨x', hx, lo', hlo, hi', hhi, hro⟩ := hro
      cases hro
      obtain ⟨hep, hS⟩ := aop_d he; clear he; subst hS; have he := hep; clear hep
      have := oaO_none (x := mx) (by cases mx <;> simp_all)
      subst this
      exact snd_slA C hop (.inl ht) hs hx hlo hhi he
    · simp only [Option.bind_eq_some_iff] at hro
      obtain ⟨d2, hu, hro⟩ := hro
      split at hro <;> try (cases hro; done)
      simp only [Option.bind_eq_some_iff] at hro
      obtain ⟨sz, hs, hro⟩ := hro
      split at hro <;> try (cases hro; done)
      rename_i hm
      simp only [Option.bind_eq_some_iff] at hro
      obtain ⟨x', hx, lo', hlo, hi', hhi, hro⟩ := hro
      cases hro
      obtain ⟨hep, hS⟩ := aop_d he; clear he; subst hS; have he := hep; clear hep
      have := oaO_none (x := mx) (by cases mx <;> simp_all)
      subst this
      exact snd_slA C hop (.inr ⟨_, ht, hu⟩) hs hx hlo hhi he
  case fieldAddr s x f =>
    obtain ⟨d, ht, hro⟩ := hro
    split at hro <;> try (cases hro; done)
    simp only [Option.bind_eq_some_iff] at hro
    obtain ⟨fd, hf, sz, hs, hro⟩ := hro
    split at hro <;> try (cases hro; done)
    rename_i hnz
    simp only [Option.bind_eq_some_iff] at hro
    obtain ⟨x', hx, hro⟩ := hro
    cases hro
    obtain ⟨hep, hS⟩ := aop_p he; clear he; subst hS; have he := hep; clear hep
    exact snd_fad C hop ht hf hs hnz hx he
  case field s x f =>
    obtain ⟨d, ht, hro⟩ := hro
    split at hro <;> try (cases hro; done)
    simp only [Option.bind_eq_some_iff] at hro
    obtain ⟨fd, hf, sz, hs, ag, ha, x', hx, hro⟩ := hro
    cases hro
    obtain ⟨hep, hS⟩ := aop_p he; clear he; subst hS; have he := hep; clear hep
    exact snd_fld C hop ht hf hs ha hx he
  case indexAddr t x i =>
    obtain ⟨d, ht, hro⟩ := hro
    split at hro <;> try (cases hro; done)
    · simp only [Option.bind_eq_some_iff] at hro
      obtain ⟨sz, hs, x', hx, i', hi, hro⟩ := hro
      cases hro
      obtain ⟨hep, hS⟩ := aop_p he; clear he; subst hS; have he := hep; clear hep
      exact snd_iaA C hop ht hs hx hi he
    · simp only [Option.bind_eq_some_iff] at hro
      obtain ⟨sz, hs, hro⟩ := hro
      split at hro <;> try (cases hro; done)
      simp only [Option.bind_eq_some_iff] at hro
      obtain ⟨x', hx, i', hi, hro⟩ := hro
      cases hro
      obtain ⟨hep, hS⟩ := aop_p he; clear he; subst hS; have he := hep; clear hep
      exact snd_iaL C hop ht hs (by assumption) hx hi he
  case index t x i =>
    obtain ⟨d, ht, hro⟩ := hro
    split at hro <;> try (cases hro; done)
    · simp only [Option.bind_eq_some_iff] at hro
      obtain ⟨sz, hs, ag, ha, x', hx, i', hi, hro⟩ := hro
      cases hro
      obtain ⟨hep, hS⟩ := aop_p he; clear he; subst hS; have he := hep; clear hep
      exact snd_ixA C hop ht hs ha hx hi he
    · simp only [Option.bind_eq_some_iff] at hro
      obtain ⟨x', hx, i', hi, hro⟩ := hro
      cases hro
      obtain ⟨hep, hS⟩ := aop_p he; clear he; subst hS; have he := hep; clear hep
      exact snd_ixS C hop ht hx hi he
  case extract x i =>
    obtain ⟨x', hx, hro⟩ := hro
    cases hro
    obtain ⟨hep, hS⟩ := aop_p he; clear he; subst hS; have he := hep; clear hep
    exact snd_ext C hop hx he

end Go.Ai


/- What a function that keeps nothing hands back, and the store behind it. -/
namespace Go.Ai
variable {P : Program} {an : Ann} {B : Nat} {K K' : KW} {w w' : World} {S S1 : St}

/-- All objects from 'b' on are let go; their blocks are nobody's who writes. -/
def KW.shut (K : KW) (b : Nat) : KW where
  own blk := match K.own blk with
    | .obj i => if i < b then .obj i else .keep
    | t => t
  mu := K.mu
  al id := if id < b then K.al id else 0
  ub id := if id < b then K.ub id else false

theorem shut_keep {b blk : Nat} (h : K.own blk = .keep) : (K.shut b).own blk = .keep := by simp [KW.shut, h]
theorem shut_old {b blk i : Nat} (h : K.own blk = .obj i) (hi : i < b) : (K.shut b).own blk = .obj i := by simp [KW.shut, h, hi]
theorem shut_new {b blk i : Nat} (h : K.own blk = .obj i) (hi : ¬ i < b) : (K.shut b).own blk = .keep := by simp [KW.shut, h, hi]

/-- A value that named nothing but what is left still stands for what it stood for. -/
theorem VR.shut_below {b : Nat} (hal : ∀ id, b ≤ id → K.al id = 0) {x : AV} {v0 : Value} (h0 : VR K w x v0) : ∀ {v : Value}, VR K' w' x v → VR (K'.shut b) w' x v := by
  have lt : ∀ {id ver : Nat}, ver < K.al id → id < b := fun {id ver} h => by
    rcases Nat.lt_or_ge id b with h1 | h1
    · exact h1
    · rw [hal id h1] at h; omega
  induction h0 with
  | bool b => intro v h; cases h; exact .bool _
  | int k n => intro v h; cases h; exact .int _ _
  | str s => intro v h; cases h; exact .str _
  | nilp => intro v h; cases h; exact .nilp
  | ptr id ver off hv =>
    intro v h
    cases h with
    | ptr _ _ _ hv' => exact VR.ptr (K := K'.shut b) id ver off (by simp only [KW.shut, lt hv, if_true]; exact hv')
  | cp cs off b' o' vs hl hc _ ih =>
    intro v h
    cases h with
    | cp _ _ b'' o'' us hl' hc' h' =>
      refine .cp cs off b'' o'' us hl' (fun j v hv => ⟨shut_keep (hc' j v hv).1, (hc' j v hv).2⟩) (fun j a u ha hu => ?_)
      have hj : j < vs.length := by rw [hl]; exact (List.getElem?_eq_some_iff.1 ha).1
      exact ih j a vs[j] ha (List.getElem?_eq_getElem hj) (h' j a u ha hu)
  | nils => intro v h; cases h; exact .nils
  | nsl ex =>
    intro v h
    cases h with
    | nsl => exact .nsl ex
    | sl _ _ _ b'' o'' cap' sp' us hn' hx' hs' hl' hc' h' => exact .sl [] 0 ex b'' o'' cap' sp' us hn' hx' hs' hl' (fun j v hv => ⟨shut_keep (hc' j v hv).1, (hc' j v hv).2⟩) (fun j a u ha hu => by simp at ha)
  | sl cs n ex b' o' cap sp vs hn hx hs hl hc _ ih =>
    intro v h
    cases h with
    | nsl => exact .nsl ex
    | sl _ _ _ b'' o'' cap' sp' us hn' hx' hs' hl' hc' h' =>
      refine .sl cs n ex b'' o'' cap' sp' us hn' hx' hs' hl' (fun j v hv => ⟨shut_keep (hc' j v hv).1, (hc' j v hv).2⟩) (fun j a u ha hu => ?_)
      have hj : j < vs.length := by rw [hl]; exact (List.getElem?_eq_some_iff.1 ha).1
      exact ih j a vs[j] ha (List.getElem?_eq_getElem hj) (h' j a u ha hu)
  | ms id ver off n sz ex b' o' cap hv hn hx ha =>
    intro v h
    cases h with
    | ms _ _ _ _ _ _ b'' o'' cap' hv' hn' hx' ha' =>
      exact VR.ms (K := K'.shut b) id ver off n sz ex b'' o'' cap' (by simp only [KW.shut, lt hv, if_true]; exact hv') hn' hx' ha'
  | nilm => intro v h; cases h; exact .nilm
  | mp id hv =>
    intro v h
    cases h with
    | mp _ hv' => exact VR.mp (K := K'.shut b) id (by simp only [KW.shut, lt hv, if_true]; exact hv')
  | fn f x c xs cs hx hc _ _ ih1 ih2 =>
    intro v h
    cases h with
    | fn _ _ _ us zs hx' hc' h1 h2 =>
      refine .fn f x c us zs hx' hc' (fun j a u ha hu => ?_) (fun j a u ha hu => ?_)
      · have hj : j < xs.length := by rw [hx]; exact (List.getElem?_eq_some_iff.1 ha).1
        exact ih1 j a xs[j] ha (List.getElem?_eq_getElem hj) (h1 j a u ha hu)
      · have hj : j < cs.length := by rw [hc]; exact (List.getElem?_eq_some_iff.1 ha).1
        exact ih2 j a cs[j] ha (List.getElem?_eq_getElem hj) (h2 j a u ha hu)
  | nilf => intro v h; cases h; exact .nilf
  | yl id hv =>
    intro v h
    cases h with
    | yl _ hv' => exact VR.yl (K := K'.shut b) id (by simp only [KW.shut, lt hv, if_true]; exact hv')
  | nili => intro v h; cases h; exact .nili
  | ifc t a v _ ih =>
    intro v h
    cases h with
    | ifc _ _ u h' => exact .ifc t a u (ih h')
  | agg cs vs hl _ ih =>
    intro v h
    cases h with
    | agg _ us hl' h' =>
      refine .agg cs us hl' (fun j a u ha hu => ?_)
      have hj : j < vs.length := by rw [hl]; exact (List.getElem?_eq_some_iff.1 ha).1
      exact ih j a vs[j] ha (List.getElem?_eq_getElem hj) (h' j a u ha hu)
  | tup cs vs hl _ ih =>
    intro v h
    cases h with
    | tup _ us hl' h' =>
      refine .tup cs us hl' (fun j a u ha hu => ?_)
      have hj : j < vs.length := by rw [hl]; exact (List.getElem?_eq_some_iff.1 ha).1
      exact ih j a vs[j] ha (List.getElem?_eq_getElem hj) (h' j a u ha hu)

theorem VRs.shut_below {b : Nat} (hal : ∀ id, b ≤ id → K.al id = 0) {x : List AV} {v0 v : List Value} (h0 : VRs K w x v0) (h : VRs K' w' x v) : VRs (K'.shut b) w' x v := by
  refine ⟨h.1, fun j a u ha hu => ?_⟩
  obtain ⟨u0, _, hr0⟩ := h0.get ha
  exact hr0.shut_below hal (h.2 j a u ha hu)

/-- The store behind a call that kept nothing. -/
theorem Inv.shut (hI : Inv P an B K w S) (hE : Ext K w K' w') (hI' : Inv P an B K' w' S1) (hos : ∀ id, id < S.os.length → S1.os[id]? = S.os[id]?) :
    Ext K w (K'.shut S.os.length) w' ∧ Inv P an B (K'.shut S.os.length) w' S := by
  constructor
  · refine ⟨fun b hb => ?_, fun id v h => ?_, fun id h => ?_, hE.size, hE.os, hE.tape, hE.output⟩
    · have h1 := hE.keep b hb
      refine ⟨?_, h1.2⟩
      have h2 : K'.own b = .keep ∨ K'.own b = .mark := by rw [h1.1]; exact hb
      rw [← h1.1]
      rcases h2 with h2 | h2 <;> simp [KW.shut, h2]
    · have hid : id < S.os.length := by
        rcases Nat.lt_or_ge id S.os.length with h1 | h1
        · exact h1
        · rw [(hI.beyond id h1).1] at h; omega
      have h1 := hE.al id v h
      simp only [KW.shut, hid, if_true]
      exact h1
    · have hid : id < S.os.length := by
        rcases Nat.lt_or_ge id S.os.length with h1 | h1
        · exact h1
        · rw [(hI.beyond id h1).2] at h; cases h
      simp only [KW.shut, hid, if_true]
      exact hE.ub id h
  · refine ⟨hI'.base, fun b h => ?_, fun b h => shut_keep (hI'.old b h), fun id h => by simp [KW.shut, Nat.not_lt.2 h], fun id o ho => ?_⟩
    · refine hI'.fresh b fun e => h ?_
      simp [KW.shut, e]
    · have hid : id < S.os.length := (List.getElem?_eq_some_iff.1 ho).1
      have h0 := hI.obs id o ho
      have h1 := hI'.obs id o (by rw [hos id hid]; exact ho)
      cases o with
      | row ver cs =>
        rcases h1 with h1 | ⟨hu, h1, c, el, hh, hB, hown, g1, g2, g3, g4⟩
        · exact .inl (by simp only [KW.shut, hid, if_true]; exact h1)
        · rcases h0 with h0 | ⟨_, h0, c0, el0, hh0, hB0, hown0, g10, g20, g30, g40⟩
          · rw [hE.ub id h0.1] at hu; cases hu
          · refine .inr ⟨by simp only [KW.shut, hid, if_true]; exact hu, by simp only [KW.shut, hid, if_true]; exact h1, c, el, hh, hB, shut_old hown hid, g1, g2, g3, fun j a ha => ?_⟩
            obtain ⟨v, hv, hr⟩ := g4 j a ha
            obtain ⟨v0, _, hr0⟩ := g40 j a ha
            exact ⟨v, hv, hr0.shut_below (fun id h => (hI.beyond id h).1) hr⟩
      | loop ts ps asg body st pend =>
        obtain ⟨a1, hB, hown, r, f, hh, hp, hts, ha, hbo, z0, z1, z2⟩ := h1
        obtain ⟨_, _, _, r0, _, _, _, hts0, _⟩ := h0
        exact ⟨by simp only [KW.shut, hid, if_true]; exact a1, hB, shut_old hown hid, r, f, hh, hp, hts0.shut_below (fun id h => (hI.beyond id h).1) hts, ha, hbo, z0, z1, z2⟩
      | map es c => trivial

theorem mapM_fz {α β : Type} {f : α → Option β} {l : List α} {r : List β} (h : l.mapM f = some r) : r.length = l.length ∧ ∀ (j : Nat) b, r[j]? = some b → ∃ a, l[j]? = some a ∧ f a = some b := mapM_get h

/-- A value that is handed back. -/
theorem fz_sound {b : Nat} (hI' : Inv P an B K' w' S1) : ∀ (d : Nat) {x y : AV} {v : Value}, fz d S1.os b x = some y → VR K' w' x v → VR (K'.shut b) w' y v := by
  intro d
  induction d with
  | zero => intro x y v h; simp [fz] at h
  | succ d ih =>
    intro x y v h hr
    have ihs : ∀ {cs ds : List AV} {vs : List Value}, cs.mapM (fz d S1.os b) = some ds → VRs K' w' cs vs → VRs (K'.shut b) w' ds vs := by
      intro cs ds vs hm hv
      have hg := mapM_get hm
      refine ⟨by rw [hv.1, hg.1], fun j a u ha hu => ?_⟩
      obtain ⟨a0, ha0, hf⟩ := hg.2 j a ha
      exact ih hf (hv.2 j a0 u ha0 hu)
    cases hr <;> simp only [fz] at h
    case bool => cases h; exact .bool _
    case int => cases h; exact .int _ _
    case str => cases h; exact .str _
    case nilp => cases h; exact .nilp
    case ptr id ver off hv =>
      split at h <;> cases h
      rename_i hid
      exact VR.ptr (K := K'.shut b) id ver off (by simp only [KW.shut, hid, if_true]; exact hv)
    case cp cs off b' o' vs hl hc hh =>
      simp only [Option.map_eq_some_iff] at h
      obtain ⟨ds, hm, rfl⟩ := h
      have h2 := ihs hm ⟨hl, hh⟩
      exact .cp ds off b' o' vs h2.1 (fun j v hv => ⟨shut_keep (hc j v hv).1, (hc j v hv).2⟩) h2.2
    case nils => cases h; exact .nils
    case nsl ex =>
      simp only [Option.map_eq_some_iff] at h
      obtain ⟨ds, hm, rfl⟩ := h
      have h2 := ihs hm VRs.nil
      have : ds = [] := List.eq_nil_of_length_eq_zero h2.1.symm
      subst this
      exact .nsl ex
    case sl cs n ex b' o' cap sp vs hn hx hs hl hc hh =>
      simp only [Option.map_eq_some_iff] at h
      obtain ⟨ds, hm, rfl⟩ := h
      have h2 := ihs hm ⟨hl, hh⟩
      exact .sl ds n ex b' o' cap sp vs hn hx hs h2.1 (fun j v hv => ⟨shut_keep (hc j v hv).1, (hc j v hv).2⟩) h2.2
    case ms id ver off n sz ex b' o' cap hv hn hx ha =>
      split at h
      · rename_i hid
        cases h
        exact VR.ms (K := K'.shut b) id ver off n sz ex b' o' cap (by simp only [KW.shut, hid, if_true]; exact hv) hn hx ha
      · rename_i hid
        split at h <;> try (cases h; done)
        rename_i v' cs hrow
        split at h <;> try (cases h; done)
        rename_i hb
        obtain ⟨rfl, hle⟩ := hb
        simp only [Option.map_eq_some_iff] at h
        obtain ⟨ds, hm, rfl⟩ := h
        obtain ⟨vs, g1, g2, g3, g4⟩ := row_cells hI' hrow hv hle
        obtain ⟨_, c, el, hh, hB, hown, _⟩ := row_at hI' hrow hv rfl
        have h2 := ihs hm g1
        refine .sl ds n ex b' o' cap none vs hn hx (.inl rfl) h2.1 (fun j v hj => ?_) h2.2
        rcases ha with ha | ⟨rfl, rfl, _⟩
        · have h0 : n = 0 := by omega
          have : vs = [] := List.eq_nil_of_length_eq_zero (by rw [g2, h0]; simp)
          subst this; simp at hj
        · exact ⟨shut_new hown hid, g4 j v hj, g3 v (List.mem_of_getElem? hj)⟩
    case nilm => cases h; exact .nilm
    case mp id hv =>
      split at h <;> cases h
      rename_i hid
      exact VR.mp (K := K'.shut b) id (by simp only [KW.shut, hid, if_true]; exact hv)
    case fn f x c xs cs hx hc h1 h2 =>
      simp only [Option.bind_eq_some_iff, Option.map_eq_some_iff] at h
      obtain ⟨x', hm1, c', hm2, rfl⟩ := h
      have g1 := ihs hm1 ⟨hx, h1⟩
      have g2 := ihs hm2 ⟨hc, h2⟩
      exact .fn f x' c' xs cs g1.1 g2.1 g1.2 g2.2
    case nilf => cases h; exact .nilf
    case yl id hv =>
      split at h <;> cases h
      rename_i hid
      exact VR.yl (K := K'.shut b) id (by simp only [KW.shut, hid, if_true]; exact hv)
    case nili => cases h; exact .nili
    case ifc t a v hr =>
      simp only [Option.map_eq_some_iff] at h
      obtain ⟨a', ha, rfl⟩ := h
      exact .ifc t a' v (ih ha hr)
    case agg cs vs hl hh =>
      simp only [Option.map_eq_some_iff] at h
      obtain ⟨ds, hm, rfl⟩ := h
      have h2 := ihs hm ⟨hl, hh⟩
      exact .agg ds vs h2.1 h2.2
    case tup cs vs hl hh =>
      simp only [Option.map_eq_some_iff] at h
      obtain ⟨ds, hm, rfl⟩ := h
      have h2 := ihs hm ⟨hl, hh⟩
      exact .tup ds vs h2.1 h2.2

end Go.Ai


/- Calls, and the operations of a region one behind the other. -/
namespace Go.Ai
variable {P : Program} {an : Ann} {B : Nat} {K : KW} {w : World} {S : St} {E : Env} {ts : List AV} {a : Act}

/-- The fence that bars nothing, in a round or not. -/
def wd (ro : Option Nat) : Fence := { Fence.wide with round := ro }

theorem callsIn_wd {ro : Option Nat} {n : Nat} {f : FuncId} {args : Array Value} {R : Ending → World → Prop} (h : Calls P f args w R) : CallsIn (wd ro) n P f args w R :=
  (callsIn_wide (n := n)).2 h

def EnvOk (P : Program) (an : Ann) (E : Env) : Prop := ∀ f rf, E.fs f = some rf → rFun P an f = some rf
def GvOk (E : Env) (K : KW) (w : World) : Prop := ∀ g, VR K w (E.gv g) (.pointer (some ⟨g, 0, none⟩))

theorem GvOk.ext {K' : KW} {w' : World} (h : GvOk E K w) (he : Ext K w K' w') : GvOk E K' w' := fun g => (h g).ext he

/-- What a call comes to. -/
def CallPost (P : Program) (an : Ann) (B : Nat) (K : KW) (w : World) (v : AV) (S' : St) : Ending → World → Prop :=
  fun e w' => ∃ K' v', e = .returned v' ∧ Ext K w K' w' ∧ Inv P an B K' w' S' ∧ VR K' w' v v'

def CallSnd (P : Program) (an : Ann) (B : Nat) (E : Env) (cf : CallFn) : Prop :=
  ∀ f args S v S', cf f args S = some (v, S') → ∀ K w (cargs : Array Value), Inv P an B K w S → VRs K w args cargs.toList → GvOk E K w →
    (∃ fn, P.funcs[f]? = some fn ∧ fn.body.isNone = false ∧ (fn.name == "runtime.NumGoroutine") = false) ∧ Calls P f cargs w (CallPost P an B K w v S')

def CallVSnd (P : Program) (an : Ann) (B : Nat) (E : Env) (cv : AV → List AV → St → Option (AV × St)) : Prop :=
  ∀ x args S v S', cv x args S = some (v, S') → ∀ K w (xv : Value) (cargs : Array Value) (ro : Option Nat) (o : Oper) (a : Act) (next : Act → World → Prop) (Q : Exit → Act → World → Prop),
    Inv P an B K w S → VR K w x xv → VRs K w args cargs.toList → GvOk E K w →
    (∀ K' w' v', Ext K w K' w' → Inv P an B K' w' S' → VR K' w' v v' → next (a.put o.dst v') w') →
    ∃ d, (Deferred.ofValue xv cargs).run P w = .ok d w ∧ o.uponIn (wd ro) 0 P a next Q ((invoke d.target d.args).run P w)

def PureOk (E : Env) (cf : CallFn) : Prop := ∀ f rf args S v S', E.fs f = some rf → rf.pure = true → cf f args S = some (v, S') → S' = S

theorem run_callFunc {f : FuncId} {fn : Func} {args : Array Value} (hf : P.funcs[f]? = some fn) (hb : fn.body.isNone = false) (hn : (fn.name == "runtime.NumGoroutine") = false) : (callFunc f args).run P w = .ok (.enter f args) w := by
  have h1 : fn.name ≠ "runtime.NumGoroutine" := by simpa using hn
  have h2 : ¬ (fn.body = none) := by
    intro e; rw [e] at hb; simp at hb
  simp [callFunc, hf, h1, h2]

/-- An operation whose abstract run went through: the model's, in a walk. -/
theorem oper_in {ro : Option Nat} {o : Oper} {pu : Nat → Bool} {mu : Bool} {ao : AO} {v : AV} {S' : St} {cf : CallFn} {cv : AV → List AV → St → Option (AV × St)} {next : Act → World → Prop} {Q : Exit → Act → World → Prop}
    (hI : Inv P an B K w S) (ht : VRs K w ts a.tmps.toList) (hg : GvOk E K w) (hr : (rOp P pu mu o.op).getD (.p .bad) = ao) (he : aop E cf cv ts S ao = some (v, S')) (hcf : CallSnd P an B E cf) (hcv : CallVSnd P an B E cv) (hpu : PureOk E cf)
    (hn : ∀ K' w' v', Ext K w K' w' → Inv P an B K' w' S' → VR K' w' v v' → next (a.put o.dst v') w') : o.wpIn (wd ro) 0 P a w next Q := by
  have C : Cx P an B K w S E ts a.tmps := ⟨hI, ht, hg⟩
  have hnd : ∀ c, o.op ≠ .defer c := by
    intro c e
    rw [e] at hr
    simp [rOp, noCall, rOp0] at hr
    subst hr
    simp [aop, aopP] at he
  refine ⟨fun _ _ => trivial, ?_⟩
  rw [Oper.semAt_eq _ _ _ hnd]
  cases hc : isCall ao with
  | false =>
    obtain ⟨K', w', v', hrun, hE, hI', hv⟩ := snd_op C hr hc he
    rcases hrun with hrun | ⟨hrun, rfl⟩
    · rw [hrun, Oper.uponIn_value]; exact hn K' w' v' hE hI' hv
    · rw [hrun, Oper.uponIn_skip]; exact hn K' w' _ hE hI' hv
  | true =>
    cases hro : rOp P pu mu o.op with
    | none => rw [hro] at hr; simp at hr; subst hr; simp [isCall] at hc
    | some ao' =>
    rw [hro] at hr
    simp at hr
    subst hr
    -- it is a call of a function of the program
    rcases rOp_inv hro with ⟨c, hop, hro⟩ | ⟨_, _, hnc⟩
    rotate_left
    · rw [hnc] at hc; cases hc
    simp only [rCall, bind, Option.bind_eq_some_iff] at hro
    obtain ⟨args, ha, hro⟩ := hro
    have hargs := C.opds ha
    split at hro <;> try (cases hro; done)
    · have := (noCall_inv hro).2
      rw [this] at hc; cases hc
    · rename_i f hcb
      simp only [Option.bind_eq_some_iff] at hro
      obtain ⟨fn, hf, hro⟩ := hro
      split at hro
      · split at hro <;> try (cases hro; done)
        split at hro <;> cases hro
        simp [isCall] at hc
      · split at hro <;> try (cases hro; done)
        -- by its number
        have fin : ∀ S2, cf f (args.map (ev E ts)) S = some (v, S2) → S2 = S' → o.uponIn (wd ro) 0 P a next Q ((execOp a.eval o).run P w) := by
          intro S2 hcall hS
          subst hS
          obtain ⟨⟨fn', hf', hb', hn'⟩, hC⟩ := hcf _ _ _ _ _ hcall K w _ hI hargs hg
          have hev : a.eval (.func f) = .func (.func f) #[] #[] := rfl
          have hrun : (execOp a.eval o).run P w = .ok (.enter f (c.args.map a.eval)) w := by
            simp only [execOp, hop, resolve, hcb, hev, Deferred.ofValue, Sem.run_bind, Sem.run_pure, Result.andThen_ok, invoke]
            rw [run_callFunc hf' hb' hn']
            simp
          rw [hrun, Oper.uponIn_enter]
          refine ⟨fun _ => by simp_all [wd, Fence.wide], callsIn_wd (hC.mono ?_)⟩
          rintro e w' ⟨K', v', rfl, hE, hI', hv⟩
          exact hn K' w' v' hE hI' hv
        split at hro <;> cases hro
        · obtain ⟨hed, hS⟩ := aop_d he
          simp only [aopD] at hed
          split at hed <;> try (cases hed; done)
          rename_i rf hrf
          split at hed <;> try (cases hed; done)
          rename_i hp
          simp only [Option.map_eq_some_iff] at hed
          obtain ⟨⟨v2, S2⟩, h2, hv2⟩ := hed
          cases hv2
          exact fin S2 h2 ((hpu f rf _ _ _ _ hrf hp h2).trans hS.symm)
        · exact fin S' he rfl
    · rename_i x _ hcb
      simp only [Option.bind_eq_some_iff] at hro
      obtain ⟨x', hx, hro⟩ := hro
      cases hro
      have hcv' : cv (ev E ts x') (args.map (ev E ts)) S = some (v, S') := he
      obtain ⟨d, hd, hup⟩ := hcv _ _ _ _ _ hcv' K w (a.eval x) (c.args.map a.eval) ro o a next Q hI (C.opd hx) hargs hg hn
      have hrun : (execOp a.eval o).run P w = (invoke d.target d.args).run P w := by
        simp only [execOp, hop, resolve, hcb, Sem.run_bind, hd, Result.andThen_ok]
      rw [hrun]
      exact hup

end Go.Ai


/- A region in the order of its text. -/
namespace Go.Ai
variable {P : Program} {an : Ann} {B : Nat} {K : KW} {w : World} {S : St} {E : Env} {ts : List AV} {a : Act}

theorem put_rel {d : Option Nat} {v : AV} {v' : Value} (h : VRs K w ts a.tmps.toList) (hv : VR K w v v') : VRs K w (put ts d v) (a.put d v').tmps.toList := by
  cases d with
  | none => exact h
  | some n => simp only [put, Act.put, Array.toList_setIfInBounds]; exact h.set n hv

theorem put_defers {d : Option Nat} {v' : Value} : (a.put d v').defers = a.defers := by cases d <;> rfl

theorem rOper_inv {f : Nat} {ops : Array Oper} {o : Oper} {r : ROp} (h : rOper P an f ops o = some r) :
    r.dst = o.dst ∧ (∃ mu, (rOp P an.pu mu o.op).getD (.p .bad) = r.op) ∧
    (match o.guard with
     | none => r.gd = none
     | some (j, wt) => ∃ t, (ops[j]?).bind (·.dst) = some t ∧ r.gd = some (t, wt)) := by
  obtain ⟨dst, op, ty, pos, after, guard⟩ := o
  simp only [rOper] at h
  cases guard with
  | none => simp at h; subst h; exact ⟨rfl, ⟨_, rfl⟩, rfl⟩
  | some g =>
    obtain ⟨j, wt⟩ := g
    simp only [bind, Option.bind_eq_some_iff] at h
    obtain ⟨t, ht, h⟩ := h
    cases h
    exact ⟨rfl, ⟨_, rfl⟩, t, Option.bind_eq_some_iff.2 ht, rfl⟩

theorem wantd_sound {f : Nat} {ops : Array Oper} {o : Oper} {r : ROp} (hr : rOper P an f ops o = some r) (ht : VRs K w ts a.tmps.toList) {b : Bool} (h : wantd ts r.gd = some b) :
    Region.wanted o (yielded ops a.tmps) = b := by
  have hg := (rOper_inv hr).2.2
  unfold Region.wanted
  split
  · rename_i e; rw [e] at hg; rw [hg] at h; simp [wantd] at h; exact h.symm ▸ rfl
  · rename_i j wt e
    rw [e] at hg
    obtain ⟨t, ht', hg⟩ := hg
    rw [hg] at h
    simp only [wantd] at h
    have hy : yielded ops a.tmps j = match a.tmps[t]? with | some (.bool b) => some b | _ => none := by
      simp only [yielded, ht', Option.bind_some]
      rfl
    split at h <;> try (cases h; done)
    · rename_i c hc
      cases h
      obtain ⟨v, hv, hvr⟩ := ht.get hc
      cases hvr
      rw [Array.getElem?_toList] at hv
      rw [hy, hv]
      cases c <;> cases wt <;> rfl
    · rename_i hc
      cases h
      obtain ⟨v, hv, hvr⟩ := ht.get hc
      cases hvr with
      | tup _ vs hl _ =>
        rw [Array.getElem?_toList] at hv
        rw [hy, hv]
        rfl

/-- What a region leaves. -/
def RegPost (P : Program) (an : Ann) (B : Nat) (K : KW) (w : World) (ts' : List AV) (S' : St) (dfs : List Deferred) : Act → World → Prop :=
  fun a' w' => ∃ K', Ext K w K' w' ∧ Inv P an B K' w' S' ∧ VRs K' w' ts' a'.tmps.toList ∧ a'.defers = dfs

variable {cf : CallFn} {cv : AV → List AV → St → Option (AV × St)}

/-- One operation of a region: wanted or not. -/
theorem oper1_in {ro : Option Nat} {f : Nat} {ops : Array Oper} {o : Oper} {r : ROp} {ts' : List AV} {S' : St} {next : Act → World → Prop} {Q : Exit → Act → World → Prop}
    (hI : Inv P an B K w S) (ht : VRs K w ts a.tmps.toList) (hg : GvOk E K w) (hr : rOper P an f ops o = some r) (he : exec1 E cf cv r ts S = some (ts', S'))
    (hcf : CallSnd P an B E cf) (hcv : CallVSnd P an B E cv) (hpu : PureOk E cf)
    (hn : ∀ K' a' w', Ext K w K' w' → Inv P an B K' w' S' → VRs K' w' ts' a'.tmps.toList → a'.defers = a.defers → next a' w') :
    if Region.wanted o (yielded ops a.tmps) = true then o.wpIn (wd ro) 0 P a w next Q else (∀ g, o.about P w a.eval = some g → (wd ro).fn g) ∧ next (a.put o.dst undef) w := by
  obtain ⟨hd, ⟨mu, hop⟩, _⟩ := rOper_inv hr
  unfold exec1 at he
  split at he
  · cases he
  · rename_i hw
    cases he
    rw [wantd_sound hr ht hw]
    simp only [Bool.false_eq_true, if_false]
    refine ⟨fun _ _ => trivial, hn K _ w (Ext.refl _ _) hI ?_ put_defers⟩
    rw [hd]; exact put_rel ht VR.undef
  · rename_i hw
    rw [wantd_sound hr ht hw]
    simp only [if_true]
    simp only [Option.map_eq_some_iff] at he
    obtain ⟨⟨v, S2⟩, he, h2⟩ := he
    cases h2
    refine oper_in hI ht hg hop he hcf hcv hpu fun K' w' v' hE hI' hv => hn K' _ w' hE hI' ?_ put_defers
    rw [hd]; exact put_rel (ht.ext hE) hv

theorem ops_in {ro : Option Nat} {f : Nat} {ops : Array Oper} {Q : Exit → Act → World → Prop} (hcf : CallSnd P an B E cf) (hcv : CallVSnd P an B E cv) (hpu : PureOk E cf) :
    ∀ (rs : List ROp) (k : Nat) (K : KW) (a : Act) (w : World) (ts : List AV) (S : St) {ts' : List AV} {S' : St},
      (∀ (j : Nat) r, rs[j]? = some r → ∃ o, ops[k + j]? = some o ∧ rOper P an f ops o = some r) → execs E cf cv rs ts S = some (ts', S') →
      Inv P an B K w S → VRs K w ts a.tmps.toList → GvOk E K w →
      (∀ a' w', RegPost P an B K w ts' S' a.defers a' w' → Q .normal a' w') → wpOpsIn (wd ro) 0 P ops Q (List.range' k rs.length) a w
  | [], k, K, a, w, ts, S, ts', S', _, he, hI, ht, hg, hQ => by
    cases he
    exact hQ a w ⟨K, Ext.refl _ _, hI, ht, rfl⟩
  | r :: rs, k, K, a, w, ts, S, ts', S', hr, he, hI, ht, hg, hQ => by
    simp only [execs] at he
    split at he <;> try (cases he; done)
    rename_i ts1 S1 h1
    obtain ⟨o, ho, hro⟩ := hr 0 r rfl
    simp only [List.length_cons, List.range'_succ, wpOpsIn]
    simp only [Nat.add_zero] at ho
    rw [ho]
    refine oper1_in hI ht hg hro h1 hcf hcv hpu fun K' a' w' hE hI' ht' hd => ?_
    refine ops_in (f := f) hcf hcv hpu rs (k + 1) K' a' w' ts1 S1 (fun j r' hj => ?_) he hI' ht' (hg.ext hE) fun a'' w'' hp => hQ a'' w'' ?_
    · obtain ⟨o', ho', hr'⟩ := hr (j + 1) r' hj
      exact ⟨o', by rw [← ho']; congr 1; omega, hr'⟩
    · obtain ⟨K'', hE', hI'', ht'', hd''⟩ := hp
      exact ⟨K'', hE.trans hE', hI'', ht'', hd''.trans hd⟩

/-- A region whose order is its text's. -/
theorem region_in {ro : Option Nat} {f id : Nat} {ops : Array Oper} {Q : Exit → Act → World → Prop} {rs : List ROp} {ts' : List AV} {S' : St} (hcf : CallSnd P an B E cf) (hcv : CallVSnd P an B E cv) (hpu : PureOk E cf)
    (hr : ops.toList.mapM (rOper P an f ops) = some rs) (he : execs E cf cv rs ts S = some (ts', S')) (hI : Inv P an B K w S) (ht : VRs K w ts a.tmps.toList) (hg : GvOk E K w)
    (hQ : ∀ a' w', RegPost P an B K w ts' S' a.defers a' w' → Q .normal a' w') : (Code.region id ops false).wpIn (wd ro) 0 P Q a w := by
  have hm := mapM_get hr
  refine wpIn_region ?_
  have : ops.size = rs.length := by rw [hm.1]; simp
  rw [this, List.range_eq_range']
  refine ops_in (f := f) hcf hcv hpu rs 0 K a w ts S (fun j r hj => ?_) he hI ht hg hQ
  obtain ⟨o, ho, hr'⟩ := hm.2 j r hj
  exact ⟨o, by simpa using ho, hr'⟩

end Go.Ai


/- What a function hands back; the marks of its loops on its way out; calls from bodies. -/
namespace Go.Ai
variable {P : Program} {an : Ann} {B : Nat} {K K' : KW} {w w' : World} {S S' : St} {E : Env} {ts : List AV} {a : Act}

abbrev resF (tmps : Array Value) : ResultVar → Sem Value
  | .tmp t => pure (tmps.getD t undef)
  | .cell a t => do loadVar t (← asAddr (tmps.getD a undef))

theorem slot_rel {tmps : Array Value} (h : VRs K w ts tmps.toList) (n : Nat) : VR K w (ts.getD n (.tup [])) (tmps.getD n undef) := by
  rw [List.getD_eq_getElem?_getD]
  cases hn : ts[n]? with
  | none =>
    have hl : ts.length ≤ n := List.getElem?_eq_none_iff.1 hn
    have : tmps.size ≤ n := by have := h.1; simp at this; omega
    simp [Array.getD, Nat.not_lt.2 this]
    exact VR.undef
  | some x =>
    obtain ⟨v, hv, hr⟩ := h.get hn
    rw [Array.getElem?_toList] at hv
    have : tmps.getD n undef = v := by
      rw [Array.getD_eq_getD_getElem?, hv]; rfl
    rw [this]
    exact hr

theorem res1 (hI : Inv P an B K w S) {tmps : Array Value} (ht : VRs K w ts tmps.toList) {r : ResultVar} {r' : RRes} {v : AV} (hr : rRes P r = some r') (h : resOf ts S r' = some v) :
    ∃ v', (resF tmps r).run P w = .ok v' w ∧ VR K w v v' := by
  cases r with
  | tmp t =>
    simp [rRes] at hr
    subst hr
    simp only [resOf, Option.some.injEq] at h
    subst h
    exact ⟨_, rfl, slot_rel ht t⟩
  | cell c t =>
    simp only [rRes, bind, Option.bind_eq_some_iff] at hr
    obtain ⟨sz, hs, ag, ha, hr⟩ := hr
    cases hr
    simp only [resOf] at h
    obtain ⟨ad, v', hz, hrun, hv⟩ := run_loadVar' hI hs ha (slot_rel ht c) h
    refine ⟨v', ?_, hv⟩
    simp only [resF, hz, asAddr, Sem.run_bind, Sem.run_pure, Result.andThen_ok, hrun]

theorem res_list (hI : Inv P an B K w S) {tmps : Array Value} (ht : VRs K w ts tmps.toList) : ∀ {l : List ResultVar} {l' : List RRes} {vs : List AV}, l.mapM (rRes P) = some l' → l'.mapM (resOf ts S) = some vs →
    ∃ vs', (l.mapM (resF tmps)).run P w = .ok vs' w ∧ VRs K w vs vs'
  | [], l', vs, h, h' => by
    simp at h; subst h; simp at h'; subst h'
    exact ⟨[], by simp, VRs.nil⟩
  | r :: l, l', vs, h, h' => by
    simp only [List.mapM_cons, bind, Option.bind_eq_some_iff] at h
    obtain ⟨r', hr, l2, hl, h⟩ := h
    cases h
    simp only [List.mapM_cons, bind, Option.bind_eq_some_iff] at h'
    obtain ⟨v, hv, vs2, hvs, h'⟩ := h'
    cases h'
    obtain ⟨v', h1, h2⟩ := res1 hI ht hr hv
    obtain ⟨vs', h3, h4⟩ := res_list hI ht hl hvs
    exact ⟨v' :: vs', by simp only [List.mapM_cons, Sem.run_bind, h1, h3, Result.andThen_ok, Sem.run_pure], h4.cons h2 |> fun x => x⟩

theorem results_sound (hI : Inv P an B K w S) {fn : Func} {tmps : Array Value} (ht : VRs K w ts tmps.toList) {l : List RRes} {v : AV} (hr : fn.results.toList.mapM (rRes P) = some l) (h : ressOf ts S l = some v) :
    ∃ v', (results fn tmps).run P w = .ok v' w ∧ VR K w v v' := by
  simp only [ressOf, Option.map_eq_some_iff] at h
  obtain ⟨vs, hvs, hv⟩ := h
  obtain ⟨vs', h1, h2⟩ := res_list hI ht hr hvs
  have e : results fn tmps = (do let vs ← fn.results.mapM (resF tmps); pure (if h : vs.size = 1 then vs[0] else .tuple vs)) := rfl
  have hm : (fn.results.mapM (resF tmps)).run P w = .ok ⟨vs'⟩ w := by
    rw [Array.mapM_eq_mapM_toList]
    simp only [← bind_pure_comp, Sem.run_bind, h1, Result.andThen_ok, Sem.run_pure]
  refine ⟨if h : (⟨vs'⟩ : Array Value).size = 1 then (⟨vs'⟩ : Array Value)[0] else .tuple ⟨vs'⟩, ?_, ?_⟩
  · rw [e]
    simp only [Sem.run_bind, hm, Result.andThen_ok, Sem.run_pure]
  · have hl := h2.1
    match vs, vs', hl, h2, hv with
    | [x], [y], _, h2, hv => subst hv; exact h2.2 0 x y rfl rfl
    | [], [], _, h2, hv => subst hv; exact .tup [] [] rfl (fun _ _ _ h => by simp at h)
    | x :: x2 :: xs, y :: y2 :: ys, _, h2, hv => subst hv; simp only [List.size_toArray, List.length_cons]; rw [dif_neg (by omega)]; exact .tup _ _ h2.1 h2.2

/-! ### Marks -/

abbrev markD (r : Nat) : Deferred := { target := .collected r, args := #[] }

def DefOk (K : KW) (w : World) (n0 : Nat) (ds : List Deferred) : Prop :=
  ∃ rs : List Nat, ds = rs.map markD ∧ rs.Nodup ∧ ∀ r ∈ rs, n0 ≤ r ∧ K.own r = .mark ∧ w.heap[r]? = some (.deferred (some []))

theorem DefOk.nil {n0 : Nat} : DefOk K w n0 [] := ⟨[], rfl, List.nodup_nil, by simp⟩

theorem DefOk.ext {n0 : Nat} {ds : List Deferred} (h : DefOk K w n0 ds) (hE : Ext K w K' w') : DefOk K' w' n0 ds := by
  obtain ⟨rs, h1, h2, h3⟩ := h
  refine ⟨rs, h1, h2, fun r hr => ?_⟩
  obtain ⟨ha, hb, hc⟩ := h3 r hr
  have := hE.keep r (.inr hb)
  exact ⟨ha, this.1.trans hb, this.2.trans hc⟩

/-- A mark's block is shut: nobody looks at it any more. -/
theorem closeMark (hI : Inv P an B K w S) {r : Nat} (hr : K.own r = .mark) (_hh : w.heap[r]? = some (.deferred (some []))) :
    ∃ K', ExtV K w K' (w.putObj r (.deferred none)) ∧ Inv P an B K' (w.putObj r (.deferred none)) S ∧ K'.al = K.al ∧ K'.mu = K.mu ∧ K'.ub = K.ub ∧ (∀ b, b ≠ r → K'.own b = K.own b) := by
  have hsz : (w.putObj r (.deferred none)).heap.size = w.heap.size := by simp [World.putObj]
  have hot : ∀ b, b ≠ r → (w.putObj r (.deferred none)).heap[b]? = w.heap[b]? := fun b hb => World.putObj_heap_other hb
  have hE : ExtV K w { K with own := fun b => if b = r then .free else K.own b } (w.putObj r (.deferred none)) := by
    refine ⟨fun b hb => ?_, fun _ _ h => ⟨h, rfl⟩⟩
    have : b ≠ r := fun e => by rw [e, hr] at hb; cases hb
    exact ⟨by simp only [this, if_false]; exact hb, hot b this⟩
  refine ⟨{ K with own := fun b => if b = r then .free else K.own b }, hE, ?_, rfl, rfl, rfl, fun b hb => by simp [hb]⟩
  refine ⟨by rw [hsz]; exact hI.base, fun b hb => ?_, fun b hb => ?_, hI.beyond, fun id o ho => (hI.obs id o ho).lasts hE rfl rfl fun b h => ?_⟩
  · simp only at hb
    split at hb
    · exact absurd rfl hb
    · rw [hsz]; exact hI.fresh b hb
  · have : b ≠ r := fun e => by have := hI.old b hb; rw [e, hr] at this; cases this
    simp only [this, if_false]
    exact hI.old b hb
  · have : b ≠ r := fun e => by rw [e, hr] at h; cases h
    exact ⟨by simp only [this, if_false]; exact h, hot b this⟩

theorem leaves {F : Fence} {n : Nat} {fn : Func} {tmps : Array Value} {R : Ending → World → Prop} : ∀ (rs : List Nat) (K : KW) (w : World), Inv P an B K w S → VRs K w ts tmps.toList →
    rs.Nodup → (∀ r ∈ rs, K.own r = .mark ∧ w.heap[r]? = some (.deferred (some []))) →
    (∀ K' w', Inv P an B K' w' S → VRs K' w' ts tmps.toList → (∀ b, b ∉ rs → K'.own b = K.own b ∧ w'.heap[b]? = w.heap[b]?) → K'.al = K.al → K'.mu = K.mu → K'.ub = K.ub → w'.heap.size = w.heap.size → w'.os = w.os → w'.tape = w.tape → w'.output = w.output →
      ∃ v, (results fn tmps).run P w' = .ok v w' ∧ R (.returned v) w') →
    LeavesInM F n P fn tmps R (rs.map markD) .returning w
  | [], K, w, hI, ht, _, _, hf => by
    simp only [List.map_nil, LeavesInM, LeavesIn]
    exact hf K w hI ht (fun _ _ => ⟨rfl, rfl⟩) rfl rfl rfl rfl rfl rfl rfl
  | r :: rs, K, w, hI, ht, hnd, hm, hf => by
    simp only [List.map_cons, LeavesInM]
    have hm0 := hm r (by simp)
    refine ⟨by simp, .inl ⟨r, _, rfl, run_takeDeferred hm0.2, ?_⟩⟩
    obtain ⟨K', hE, hI', hal, hmu, hub, hown⟩ := closeMark hI hm0.1 hm0.2
    have hnd' := List.nodup_cons.1 hnd
    refine leaves rs K' _ hI' (ht.extv hE) hnd'.2 (fun r' hr' => ?_) fun K'' w'' hI'' ht'' hb hal' hmu' hub' hsz hos htp hou => ?_
    · have hne : r' ≠ r := fun e => hnd'.1 (e ▸ hr')
      have := hm r' (by simp [hr'])
      exact ⟨(hown r' hne).trans this.1, (World.putObj_heap_other hne).trans this.2⟩
    · refine hf K'' w'' hI'' ht'' (fun b hb' => ?_) (hal'.trans hal) (hmu'.trans hmu) (hub'.trans hub) (hsz.trans (by simp [World.putObj])) hos htp hou
      simp only [List.mem_cons, not_or] at hb'
      have := hb b hb'.2
      exact ⟨this.1.trans (hown b hb'.1), this.2.trans (World.putObj_heap_other hb'.1)⟩

end Go.Ai


/- A call by its number, from its body's walk. -/
namespace Go.Ai
variable {P : Program} {an : Ann} {B : Nat} {K K' : KW} {w w' : World} {S S' : St} {E : Env} {ts : List AV} {a : Act}

def exitOf : J → Exit
  | .nrm => .normal
  | .exit id => .exit id
  | .ret => .ret

/-- What a piece of code leaves. -/
def CPost (P : Program) (an : Ann) (B : Nat) (K : KW) (w : World) (n0 : Nat) (out : Out) : Exit → Act → World → Prop := fun e a' w' =>
  e = exitOf out.1 ∧ ∃ K', Ext K w K' w' ∧ Inv P an B K' w' out.2.2 ∧ VRs K' w' out.2.1 a'.tmps.toList ∧ DefOk K' w' n0 a'.defers

theorem CPost.from {n0 : Nat} {out : Out} (hE : Ext K w K' w') {e : Exit} {a' : Act} {w'' : World} (h : CPost P an B K' w' n0 out e a' w'') : CPost P an B K w n0 out e a' w'' := by
  obtain ⟨h1, K'', h2, h3⟩ := h
  exact ⟨h1, K'', hE.trans h2, h3⟩

def RunSnd (P : Program) (an : Ann) (B : Nat) (E : Env) (run : RC → List AV → St → Option Out) : Prop :=
  ∀ rc ts S out, run rc ts S = some out → ∀ (inr : Bool) ro f c K w a n0, rCode P an f inr c = some rc → (inr = false → ro = none) →
    Inv P an B K w S → VRs K w ts a.tmps.toList → GvOk E K w → n0 ≤ w.heap.size → DefOk K w n0 a.defers → c.wpIn (wd ro) 0 P (CPost P an B K w n0 out) a w

theorem wd_none : wd none = Fence.wide := rfl

theorem Inv.lo {lo : Nat} (h : Inv P an B K w S) : Inv P an B K w { S with lo := lo } := ⟨h.base, h.fresh, h.old, h.beyond, h.obs⟩
theorem Inv.unlo {lo : Nat} (h : Inv P an B K w { S with lo := lo }) : Inv P an B K w S := ⟨h.base, h.fresh, h.old, h.beyond, h.obs⟩

theorem rFun_inv {f : Nat} {rf : RF} (h : rFun P an f = some rf) : ∃ fn c, P.funcs[f]? = some fn ∧ fn.body = some c ∧ (fn.name == "runtime.NumGoroutine") = false ∧ rf.nt = fn.ntmps ∧ fn.results.toList.mapM (rRes P) = some rf.res ∧ rCode P an f false c = some rf.body := by
  simp only [rFun, bind, Option.bind_eq_some_iff] at h
  obtain ⟨fn, hf, c, hc, h⟩ := h
  split at h
  · cases h
  · rename_i hn
    simp only [Option.bind_eq_some_iff] at h
    obtain ⟨res, hr, body, hb, h⟩ := h
    cases h
    exact ⟨fn, c, hf, hc, by simpa using hn, rfl, hr, hb⟩

theorem enter_rel {args : List AV} {cargs : Array Value} {nt : Nat} (h : VRs K w args cargs.toList) :
    VRs K w (args ++ List.replicate (nt - args.length) (.tup [])) (cargs ++ Array.replicate (nt - cargs.size) undef).toList := by
  have hl : cargs.size = args.length := by have := h.1; simpa using this
  rw [hl]
  simp only [Array.toList_append, Array.toList_replicate]
  refine h.append ⟨by simp, fun j x v hx hv => ?_⟩
  simp [List.getElem?_replicate] at hx hv
  rw [← hx.2, ← hv.2]
  exact VR.undef

theorem callF_pure {run : RC → List AV → St → Option Out} : PureOk E (callF E run) := by
  intro f rf args S v S' hf hp h
  unfold callF at h
  rw [hf] at h
  simp only [hp, if_true] at h
  split at h <;> try (cases h; done)
  simp only [Option.bind_eq_some_iff, Option.map_eq_some_iff] at h
  obtain ⟨_, _, _, _, h⟩ := h
  cases h
  rfl

theorem callF_sound {run : RC → List AV → St → Option Out} (hE : EnvOk P an E) (hr : RunSnd P an B E run) (hp : RunPres run) : CallSnd P an B E (callF E run) := by
  intro f args S v S' h K w cargs hI hargs hg
  unfold callF at h
  cases hrf : E.fs f with
  | none => rw [hrf] at h; cases h
  | some rf =>
  rw [hrf] at h
  simp only at h
  obtain ⟨fn, c, hfn, hbody, hname, hnt, hres, hcode⟩ := rFun_inv (hE f rf hrf)
  refine ⟨⟨fn, hfn, by rw [hbody]; rfl, hname⟩, ?_⟩
  cases hrun : run rf.body (args ++ List.replicate (rf.nt - args.length) (.tup [])) (if rf.pure then { S with lo := S.os.length } else S) with
  | none => rw [hrun] at h; cases h
  | some out =>
  obtain ⟨j, ts1, S1⟩ := out
  rw [hrun] at h
  have hI0 : Inv P an B K w (if rf.pure then { S with lo := S.os.length } else S) := by
    split
    · exact hI.lo
    · exact hI
  have hwp := hr _ _ _ _ hrun false none f c K w { tmps := cargs ++ Array.replicate (fn.ntmps - cargs.size) undef, defers := [] } w.heap.size hcode (fun _ => rfl) hI0
    (by rw [hnt]; exact enter_rel hargs) hg (Nat.le_refl _) DefOk.nil
  refine callsIn_wide (n := 0) |>.1 (callsIn_of_wp_marks hfn hbody trivial (wpIn_mono hwp ?_) rfl)
  rintro e a' w' ⟨he, K1, hE1, hI1, ht1, rs, hds, hnd, hm⟩
  -- the result
  have hj : (∀ id, j ≠ .exit id) ∧ ((ressOf ts1 S1 rf.res).bind fun v => if rf.pure then (fz fzDepth S1.os S.os.length v).map fun v => (v, S) else some (v, S1)) = some (v, S') := by
    cases j with
    | exit id => cases h
    | nrm => exact ⟨fun _ e => (by cases e), h⟩
    | ret => exact ⟨fun _ e => (by cases e), h⟩
  obtain ⟨hj, h⟩ := hj
  simp only [Option.bind_eq_some_iff] at h
  obtain ⟨v1, hv1, h⟩ := h
  have hex : (e = .normal ∨ e = .ret) := by
    cases j with
    | exit id => exact absurd rfl (hj id)
    | nrm => exact .inl he
    | ret => exact .inr he
  have key : LeavesInM Fence.wide 0 P fn a'.tmps (CallPost P an B K w v S') a'.defers .returning w' := by
    rw [hds]
    refine leaves rs K1 w' hI1 ht1 hnd (fun r hr => (hm r hr).2) fun K2 w2 hI2 ht2 hb hal hmu hub hsz hos htp hou => ?_
    obtain ⟨v', hrun', hv'⟩ := results_sound hI2 ht2 hres hv1
    have hE2 : Ext K w K2 w2 := by
      refine ⟨fun b hk => ?_, fun id x hx => by rw [hal, hmu]; exact hE1.al id x hx, fun id hx => by rw [hub]; exact hE1.ub id hx, by rw [hsz]; exact hE1.size, hos.trans hE1.os, htp.trans hE1.tape, hou.trans hE1.output⟩
      have hlt : b < w.heap.size := hI.fresh b (by rcases hk with hk | hk <;> simp [hk])
      have hnr : b ∉ rs := fun hbr => by have := (hm b hbr).1; omega
      have h1 := hE1.keep b hk
      have h2 := hb b hnr
      exact ⟨h2.1.trans h1.1, h2.2.trans h1.2⟩
    refine ⟨v', hrun', ?_⟩
    cases hpu : rf.pure with
    | false =>
      rw [hpu] at h
      cases h
      exact ⟨K2, v', rfl, hE2, hI2, hv'⟩
    | true =>
      rw [hpu] at h hrun
      simp only [if_true, Option.map_eq_some_iff] at h hrun
      obtain ⟨v2, hfz, h⟩ := h
      cases h
      have hpres := hp _ _ _ _ _ _ hrun
      have hos' : ∀ id, id < S.os.length → S1.os[id]? = S.os[id]? := hpres.os (Nat.le_refl _)
      obtain ⟨hE3, hI3⟩ := Inv.shut hI hE2 hI2 hos'
      exact ⟨_, v', rfl, hE3, hI3, fz_sound hI2 _ hfz hv'⟩
  rcases hex with rfl | rfl
  · exact key
  · exact key

end Go.Ai


/- Loops over functions: records, rounds; calls by value. -/
namespace Go.Ai
variable {P : Program} {an : Ann} {B : Nat} {K K' : KW} {w w' : World} {S S' : St} {E : Env} {ts : List AV} {a : Act}

/-- A loop's record turns. -/
theorem updLoop (hI : Inv P an B K w S) {id : Nat} {o0 : Ob} (ho0 : S.os[id]? = some o0) (hown : K.own (K.mu id 0).b = .obj id) {r r2 : Loop}
    (hh : w.heap[(K.mu id 0).b]? = some (.loop r)) {o : Ob} (hok : ∀ w', Ext K w K w' → w'.heap[(K.mu id 0).b]? = some (.loop r2) → ObOk P an B K w' id o) :
    Ext K w K (w.putObj (K.mu id 0).b (.loop r2)) ∧ Inv P an B K (w.putObj (K.mu id 0).b (.loop r2)) (setOb S id o) := by
  have hlt : (K.mu id 0).b < w.heap.size := (Array.getElem?_eq_some_iff.1 hh).1
  have hot : ∀ b, b ≠ (K.mu id 0).b → (w.putObj (K.mu id 0).b (.loop r2)).heap[b]? = w.heap[b]? := fun b hb => World.putObj_heap_other hb
  have hsz : (w.putObj (K.mu id 0).b (.loop r2)).heap.size = w.heap.size := by simp [World.putObj]
  have hE : Ext K w K (w.putObj (K.mu id 0).b (.loop r2)) :=
    ⟨fun b hk => ⟨rfl, hot b (fun e => by rw [e, hown] at hk; rcases hk with hk | hk <;> cases hk)⟩, fun _ _ h => ⟨h, rfl⟩, fun _ h => h, by omega, rfl, rfl, rfl⟩
  refine ⟨hE, by rw [hsz]; exact hI.base, fun b h => by rw [hsz]; exact hI.fresh b h, hI.old, fun i h => hI.beyond i (by simpa [setOb] using h), fun i o' hi => ?_⟩
  have hidl : id < S.os.length := (List.getElem?_eq_some_iff.1 ho0).1
  by_cases e : i = id
  · subst e
    rw [setOb_get hidl] at hi
    cases hi
    exact hok _ hE (World.putObj_heap_same hlt)
  · have hi' : S.os[i]? = some o' := by simpa [setOb, List.getElem?_set_ne (Ne.symm e)] using hi
    refine (hI.obs i o' hi').lasts hE.v rfl rfl fun b h => ⟨h, hot b fun eb => ?_⟩
    rw [eb, hown] at h
    cases h
    exact e rfl

theorem fold_set {ps : List Nat} : ∀ {args : List AV} {cargs : List Value} {ts : List AV} {tmps : Array Value}, VRs K w args cargs → VRs K w ts tmps.toList →
    VRs K w ((ps.zip args).foldl (fun ts (p, a) => ts.set p a) ts) ((ps.zip cargs).foldl (fun (tmps : Array Value) (t, a) => tmps.setIfInBounds t a) tmps).toList := by
  induction ps with
  | nil => intro args cargs ts tmps _ h; simpa using h
  | cons p ps ih =>
    intro args cargs ts tmps h h'
    match args, cargs, h with
    | [], [], _ => simpa using h'
    | [], _ :: _, h => have := h.1; simp at this
    | _ :: _, [], h => have := h.1; simp at this
    | x :: xs, v :: vs, h =>
      simp only [List.zip_cons_cons, List.foldl_cons]
      refine ih ⟨by have := h.1; simpa using this, fun j a u ha hu => h.2 (j + 1) a u ha hu⟩ ?_
      rw [Array.toList_setIfInBounds]
      exact h'.set p (h.2 0 x v rfl rfl)

theorem roundPost_of {l : Nat} {R : Ending → World → Prop} {j : J} {a' : Act} {w : World}
    (h : ∃ v w', (Instr.endRound l (jcode j)).run P w = .ok v w' ∧ R (.returned v) w') : roundPost P l R (exitOf j) a' w := by
  cases j with
  | nrm => exact h
  | exit id => exact h
  | ret => exact h

theorem inRound_wd {ro : Option Nat} {l : Nat} : (wd ro).inRound l = wd (some l) := rfl

theorem yieldF_sound {run : RC → List AV → St → Option Out} (hr : RunSnd P an B E run) {id : Nat} {args : List AV} {v : AV}
    (h : yieldF run id args S = some (v, S')) {l : Nat} {cargs : Array Value} {ro : Option Nat} {o : Oper} {next : Act → World → Prop} {Q : Exit → Act → World → Prop}
    (hI : Inv P an B K w S) (hal : 0 < K.al id) (hl : l = (K.mu id 0).b) (hargs : VRs K w args cargs.toList) (hg : GvOk E K w)
    (hn : ∀ K' w' v', Ext K w K' w' → Inv P an B K' w' S' → VR K' w' v v' → next (a.put o.dst v') w') :
    o.uponIn (wd ro) 0 P a next Q ((Instr.yield l cargs).run P w) := by
  subst hl
  unfold yieldF at h
  split at h <;> try (cases h; done)
  rename_i ts0 ps asg body hob
  split at h <;> try (cases h; done)
  rename_i hb
  split at h <;> try (cases h; done)
  rename_i ts1 S1 hasg
  split at h <;> try (cases h; done)
  rename_i t1 p1 a1 b1 hob1
  split at h <;> try (cases h; done)
  rename_i j tsb S2 hbody
  split at h <;> try (cases h; done)
  rename_i t2 p2 a2 b2 hob2
  cases h
  obtain ⟨hal0, hB, hown, r, f, hh, hps, hts, hca, hcb, h0, _, _⟩ := hI.obs id _ hob
  obtain ⟨hrdy, hpend, _⟩ := h0 rfl
  have hsize : cargs.size = r.params.size := by
    have h1 := hargs.1
    have h2 : r.params.size = ps.length := by rw [← hps]; simp
    simp at h1
    omega
  rw [run_yield hh hsize, Oper.uponIn_round]
  refine ⟨fun h => by simp [wd, Fence.wide] at h, roundIn_of_wpIn trivial ?_⟩
  have hts1 : VRs K w ((ps.zip args).foldl (fun ts (p, a) => ts.set p a) ts0) ((r.params.zip cargs).foldl (fun (tmps : Array Value) (t, a) => tmps.setIfInBounds t a) r.tmps).toList := by
    have := fold_set (ps := ps) hargs hts
    rw [← Array.foldl_toList, Array.toList_zip, hps]
    exact this
  have hwp := hr _ _ _ _ hasg true (some (K.mu id 0).b) f r.assign K w { tmps := (r.params.zip cargs).foldl (fun (tmps : Array Value) (t, a) => tmps.setIfInBounds t a) r.tmps, defers := [] } w.heap.size hca
    (by simp) hI hts1 hg (Nat.le_refl _) DefOk.nil
  refine wpIn_mono hwp ?_
  rintro e a' w1 ⟨he, K1, hE1, hI1, ht1, hd1⟩
  rw [he]
  simp only [exitOf, Exit.then]
  have hmu1 : K1.mu id 0 = K.mu id 0 := (hE1.al id 0 hal).2
  obtain ⟨hal1, hB1, hown1, r1, f1, hh1, hps1, hts1', hca1, hcb1, h01, _, _⟩ := hI1.obs id _ hob1
  obtain ⟨hrdy1, hpend1, _⟩ := h01 rfl
  rw [← hmu1]
  refine ⟨_, run_beginRound hh1 hrdy1, ?_⟩
  obtain ⟨hE2, hI2⟩ := updLoop (o := .loop t1 p1 a1 b1 1 none) (r2 := { r1 with state := .busy }) hI1 hob1 hown1 hh1 (fun w' hE' hw' =>
    ⟨hal1, hB1, hown1, { r1 with state := .busy }, f1, hw', hps1, hts1'.ext hE', hca1, hcb1, by simp, by simp, by simp⟩)
  -- the body that runs is the record's of the beginning
  have hwp2 := hr _ _ _ _ hbody true (some (K1.mu id 0).b) f r.body K1 _ a' w.heap.size hcb
    (by simp) hI2 (ht1.ext hE2) ((hg.ext hE1).ext hE2) (Nat.le_trans hE1.size hE2.size) (hd1.ext hE2)
  refine wpIn_mono hwp2 ?_
  rintro e2 a2' w3 ⟨he2, K3, hE3, hI3, _, _⟩
  rw [he2]
  have hmu3 : K3.mu id 0 = K1.mu id 0 := (hE3.al id 0 (by omega)).2
  obtain ⟨hal3, hB3, hown3, r3, f3, hh3, hps3, hts3, hca3, hcb3, _, h13, _⟩ := hI3.obs id _ hob2
  obtain ⟨hbusy3, _⟩ := h13 rfl
  refine roundPost_of ?_
  rw [← hmu3]
  have hjn : (jcode j).isNone = j.isN := by cases j <;> rfl
  refine ⟨_, _, run_endRound (jcode j) hh3, ?_⟩
  obtain ⟨hE4, hI4⟩ := updLoop (o := .loop t2 p2 a2 b2 (if j.isN then 0 else 2) (if j.isN then none else some j)) (r2 := { r3 with state := if (jcode j).isNone then .ready else .done, pending := jcode j }) hI3 hob2 hown3 hh3 (fun w' hE' hw' =>
    ⟨hal3, hB3, hown3, _, f3, hw', hps3, hts3.ext hE', hca3, hcb3, by cases j <;> simp [J.isN, jcode], by cases j <;> simp [J.isN], by cases j <;> simp [J.isN, jcode]⟩)
  refine hn K3 _ _ (((hE1.trans hE2).trans hE3).trans hE4) hI4 ?_
  rw [hjn]
  exact .bool _

theorem callV_sound {run : RC → List AV → St → Option Out} (hE : EnvOk P an E) (hr : RunSnd P an B E run) (hp : RunPres run) : CallVSnd P an B E (callV E run) := by
  intro x args S v S' h K w xv cargs ro o a next Q hI hx hargs hg hn
  unfold callV at h
  split at h <;> try (cases h; done)
  · rename_i f first cap
    cases hx with
    | fn _ _ _ xs cs hxl hcl h1 h2 =>
      refine ⟨_, rfl, ?_⟩
      have hall : VRs K w (first ++ args ++ cap) ((⟨xs⟩ : Array Value) ++ cargs ++ (⟨cs⟩ : Array Value)).toList := by
        simp only [Array.toList_append]
        exact (VRs.append (VRs.append (as := first) (vs := xs) ⟨hxl, h1⟩ hargs) (bs := cap) (us := cs) ⟨hcl, h2⟩)
      obtain ⟨⟨fn, hfn, hb, hnm⟩, hC⟩ := callF_sound hE hr hp _ _ _ _ _ h K w _ hI hall hg
      have : (invoke (.fn (.func f) (⟨cs⟩ : Array Value)) ((⟨xs⟩ : Array Value) ++ cargs)).run P w = .ok (.enter f ((⟨xs⟩ : Array Value) ++ cargs ++ (⟨cs⟩ : Array Value))) w := by
        simp only [invoke]
        exact run_callFunc hfn hb hnm
      rw [this, Oper.uponIn_enter]
      refine ⟨fun h => by simp [wd, Fence.wide] at h, callsIn_wd (hC.mono ?_)⟩
      rintro e w' ⟨K', v', rfl, hE', hI', hv⟩
      exact hn K' w' v' hE' hI' hv
  · rename_i id
    cases hx with
    | yl _ hal =>
      refine ⟨_, rfl, ?_⟩
      have : (invoke (.fn (.yield (K.mu id 0).b) #[]) (#[] ++ cargs)).run P w = (Instr.yield (K.mu id 0).b cargs).run P w := by
        simp [invoke]
      rw [this]
      exact yieldF_sound hr h hI hal rfl hargs hg hn

end Go.Ai


/- Code, whole: the abstract run is the machine's (the regions whose order is open: a hypothesis here, proved in the next text). -/
namespace Go.Ai
variable {P : Program} {an : Ann} {B : Nat} {K K' : KW} {w w' : World} {S S' : St} {E : Env} {ts : List AV} {a : Act}

theorem wpIn_loopN {F : Fence} {n : Nat} {Q : Exit → Act → World → Prop} {c : Code} (I : Nat → Act → World → Prop) {m : Nat} (h₀ : I m a w)
    (round : ∀ m a w, I m a w → c.wpIn F n P (Exit.then (fun a' w' => ∃ m', m' < m ∧ I m' a' w') Q) a w) : (Code.loop c).wpIn F n P Q a w := by
  intro b k cs hro hb hr
  have key : ∀ j a w, I j a w →
      ∃ e a' w', Q e a' w' ∧ ArrivesIn (Machine.fenced P F) P (lone (b.atR a (.code c :: .inLoop c :: k)) cs w) b k cs e a' w' := by
    intro j
    induction j using Nat.strongRecOn with
    | _ j ih =>
      intro a w hI
      obtain ⟨e, a₁, w₁, hq, harr⟩ := round j a w hI b (.inLoop c :: k) cs hro hb hr
      cases e with
      | normal =>
        obtain ⟨j', hlt, hI₁⟩ := hq
        obtain ⟨e₂, a₂, w₂, hq₂, harr₂⟩ := ih j' hlt a₁ w₁ hI₁
        exact ⟨e₂, a₂, w₂, hq₂, .of_steps (StepsIn.trans harr (.one (fenced_calm hb hr rfl) stepR_inLoop)) harr₂⟩
      | exit id => exact ⟨_, a₁, w₁, hq, .pass (x := .inLoop c) rfl (fun _ _ => .inl (by simp)) harr⟩
      | goto l => exact ⟨_, a₁, w₁, hq, .pass (x := .inLoop c) rfl (fun _ _ => .inl (by simp)) harr⟩
      | ret => exact ⟨_, a₁, w₁, hq, .pass (x := .inLoop c) rfl (fun _ _ => .inl (by simp)) harr⟩
      | panic ch => exact ⟨_, a₁, w₁, hq, .pass (x := .inLoop c) rfl (fun _ _ => .inl (by simp)) harr⟩
      | outgrown => exact ⟨_, a₁, w₁, hq, .pass (x := .inLoop c) rfl (fun _ _ => .inl (by simp)) harr⟩
  obtain ⟨e, a', w', hq, harr⟩ := key _ a w h₀
  exact ⟨e, a', w', hq, .of_steps (.one (fenced_calm hb hr rfl) stepR_loop) harr⟩

def DrawSnd (P : Program) (an : Ann) (B : Nat) (E : Env) : Prop :=
  ∀ (cf : CallFn) (cv : AV → List AV → St → Option (AV × St)), CallSnd P an B E cf → CallVSnd P an B E cv → PureOk E cf → CfPres cf → CvPres cv →
  ∀ l zs ts S ts' S', draw E cf cv l zs ts S = some (ts', S') → ∀ (ro : Option Nat) (f id : Nat) (ops : Array Oper) (Q : Exit → Act → World → Prop) (K : KW) (w : World) (a : Act), rDraw P an f ops = some (.draw l zs) →
    Inv P an B K w S → VRs K w ts a.tmps.toList → GvOk E K w → (∀ a' w', RegPost P an B K w ts' S' a.defers a' w' → Q .normal a' w') → (Code.region id ops true).wpIn (wd ro) 0 P Q a w

theorem regPost_cpost {n0 : Nat} {ts' : List AV} (hd : DefOk K w n0 a.defers) {a' : Act} (h : RegPost P an B K w ts' S' a.defers a' w') : CPost P an B K w n0 (.nrm, ts', S') .normal a' w' := by
  obtain ⟨K', hE, hI, ht, hdd⟩ := h
  exact ⟨rfl, K', hE, hI, ht, by rw [hdd]; exact hd.ext hE⟩

theorem exitOf_nrm {j : J} (h : exitOf j = .normal) : j = .nrm := by cases j <;> first | rfl | cases h

/-- The record of a loop is laid, behind the block for its rounds' deferred calls. -/
theorem newLoop {w2 : World} (hI : Inv P an B K w S) {ps : List Nat} {asg body : RC} {r : Loop} {f : Nat} (hr : r.state = .ready) (hpd : r.pending = none) (hps : r.params.toList = ps)
    (hts : VRs K w ts r.tmps.toList) (hca : rCode P an f true r.assign = some asg) (hcb : rCode P an f true r.body = some body)
    (hw2 : (w.alloc (.deferred (some []))).alloc (.loop r) = w2) :
    ∃ K', Ext K w K' w2 ∧ Inv P an B K' w2 (addOb S (.loop ts ps asg body 0 none)) ∧
      K'.al S.os.length = 1 ∧ (K'.mu S.os.length 0).b = w.heap.size + 1 ∧ K'.own w.heap.size = .mark ∧ w2.heap[w.heap.size]? = some (.deferred (some [])) := by
  have hp : w2.heap = (w.heap.push (.deferred (some []))).push (.loop r) := by subst hw2; rfl
  have hh : ∀ b, b < w.heap.size → w2.heap[b]? = w.heap[b]? := fun b hb => by
    rw [hp, Array.getElem?_push, Array.getElem?_push, if_neg (by simp; omega), if_neg (by omega)]
  have hhr : w2.heap[w.heap.size + 1]? = some (.loop r) := by
    rw [hp, Array.getElem?_push, if_pos (by simp)]
  have hsz : w2.heap.size = w.heap.size + 2 := by rw [hp]; simp
  have hb0 := hI.beyond S.os.length (Nat.le_refl _)
  have hE : Ext K w { own := fun b => if b = w.heap.size then .mark else if b = w.heap.size + 1 then .obj S.os.length else K.own b, mu := fun id v => if id = S.os.length then ⟨w.heap.size + 1, 0, 0⟩ else K.mu id v, al := fun id => if id = S.os.length then 1 else K.al id, ub := K.ub } w2 := by
    refine ⟨fun b hk => ?_, fun id v h => ?_, fun _ h => h, by omega, by subst hw2; rfl, by subst hw2; rfl, by subst hw2; rfl⟩
    · have := hI.fresh b (by rcases hk with hk | hk <;> simp [hk])
      exact ⟨by simp only; rw [if_neg (by omega), if_neg (by omega)], hh b this⟩
    · have : id ≠ S.os.length := fun e => by subst e; have := hb0.1; omega
      simp [this, h]
  refine ⟨_, hE, ?_, by simp, by simp, by simp, by rw [hp, Array.getElem?_push, Array.getElem?_push, if_neg (by simp), if_pos rfl]⟩
  refine ⟨by have := hI.base; omega, fun b h => ?_, fun b h => ?_, fun id h => ?_, fun id o ho => ?_⟩
  · simp only at h
    split at h
    · omega
    · split at h
      · omega
      · have := hI.fresh b h; omega
  · simp only
    have := hI.base
    rw [if_neg (by omega), if_neg (by omega)]
    exact hI.old b h
  · simp [addOb] at h
    have : id ≠ S.os.length := by omega
    simp only [this, if_false]
    exact hI.beyond id (by omega)
  · by_cases hid : id = S.os.length
    · subst hid
      have : o = .loop ts ps asg body 0 none := by simpa [addOb] using ho.symm
      subst this
      have hbase := hI.base
      exact ⟨by simp, by simp only [if_true]; omega, by simp, r, f, by simpa using hhr, hps, hts.ext hE, hca, hcb, by simp [hr, hpd], by simp, by simp⟩
    · have ho' : S.os[id]? = some o := by
        have hlt : id < (S.os ++ [Ob.loop ts ps asg body 0 none]).length := (List.getElem?_eq_some_iff.1 ho).1
        simp at hlt
        simp only [addOb] at ho
        rwa [List.getElem?_append_left (by omega)] at ho
      refine (hI.obs id o ho').lasts hE.v (by simp [hid]) rfl fun b h => ?_
      have hlt := hI.fresh b (by simp [h])
      exact ⟨by simp only; rw [if_neg (by omega), if_neg (by omega)]; exact h, hh b hlt⟩

theorem body_sound {n : Nat} (hE : EnvOk P an E) (hdr : DrawSnd P an B E) (ih : ∀ m, m ≤ n → RunSnd P an B E (den E m)) : RunSnd P an B E (den E (n + 1)) := by
  have hr := ih n (Nat.le_refl _)
  have hp : RunPres (den E n) := den_pres n
  have hcf := callF_sound hE hr hp
  have hcv := callV_sound hE hr hp
  have hcp := callF_pres (E := E) hp
  have hvp := callV_pres (E := E) hp
  intro rc ts S out h inr ro f c K w a n0 hc hro hI ht hg hn0 hd
  simp only [den] at h
  have C : Cx P an B K w S E ts a.tmps := ⟨hI, ht, hg⟩
  cases c
  case skip =>
    simp only [rCode] at hc
    cases hc
    simp only [bodyStep] at h
    cases h
    exact wpIn_skip ⟨rfl, K, Ext.refl _ _, hI, ht, hd⟩
  case exit id =>
    simp only [rCode] at hc
    cases hc
    simp only [bodyStep] at h
    cases h
    exact wpIn_exit ⟨rfl, K, Ext.refl _ _, hI, ht, hd⟩
  case ret =>
    simp only [rCode] at hc
    cases hc
    simp only [bodyStep] at h
    cases h
    exact wpIn_ret ⟨rfl, K, Ext.refl _ _, hI, ht, hd⟩
  case region id ops dr =>
    cases dr with
    | false =>
      simp only [rCode, Option.map_eq_some_iff] at hc
      obtain ⟨rs, hrs, hc⟩ := hc
      cases hc
      simp only [bodyStep, Option.map_eq_some_iff] at h
      obtain ⟨⟨ts', S'⟩, he, h⟩ := h
      cases h
      exact region_in hcf hcv callF_pure hrs he hI ht hg fun a' w' hp => regPost_cpost hd hp
    | true =>
      simp only [rCode, Option.some.injEq] at hc
      cases hrd : rDraw P an f ops with
      | none => rw [hrd] at hc; simp at hc; subst hc; simp [bodyStep] at h
      | some rc' =>
        rw [hrd] at hc
        simp at hc
        subst hc
        have : ∃ l zs, rc' = .draw l zs := by
          simp only [rDraw, bind, Option.bind_eq_some_iff] at hrd
          obtain ⟨l, _, hrd⟩ := hrd
          split at hrd <;> cases hrd
          exact ⟨_, _, rfl⟩
        obtain ⟨l, zs, rfl⟩ := this
        simp only [bodyStep, Option.map_eq_some_iff] at h
        obtain ⟨⟨ts', S'⟩, he, h⟩ := h
        cases h
        exact hdr _ _ hcf hcv callF_pure hcp hvp l zs ts S ts' S' he ro f id ops _ K w a hrd hI ht hg fun a' w' hp => regPost_cpost hd hp
  case seq x y =>
    simp only [rCode, bind, Option.bind_eq_some_iff] at hc
    obtain ⟨x', hx, y', hy, hc⟩ := hc
    cases hc
    simp only [bodyStep] at h
    refine wpIn_seq ?_
    cases hrx : den E n x' ts S with
    | none => rw [hrx] at h; cases h
    | some o1 =>
    obtain ⟨j, ts1, S1⟩ := o1
    rw [hrx] at h
    refine wpIn_mono (hr _ _ _ _ hrx inr ro f x K w a n0 hx hro hI ht hg hn0 hd) ?_
    rintro e a1 w1 ⟨he, K1, hE1, hI1, ht1, hd1⟩
    subst he
    cases j with
    | nrm =>
      simp only [exitOf, Exit.then]
      refine wpIn_mono (hr _ _ _ _ h inr ro f y K1 w1 a1 n0 hy hro hI1 ht1 (hg.ext hE1) (Nat.le_trans hn0 hE1.size) hd1) ?_
      intro e2 a2 w2 hq
      exact hq.from hE1
    | exit id => cases h; exact ⟨rfl, K1, hE1, hI1, ht1, hd1⟩
    | ret => cases h; exact ⟨rfl, K1, hE1, hI1, ht1, hd1⟩
  case cond x p q =>
    simp only [rCode, bind, Option.bind_eq_some_iff] at hc
    obtain ⟨x', hx, p', hp', q', hq', hc⟩ := hc
    cases hc
    simp only [bodyStep] at h
    have hxv := C.opd hx
    split at h <;> try (cases h; done)
    · rename_i e
      rw [e] at hxv
      exact wpIn_cond_true (by generalize hz : a.eval x = z at hxv; cases hxv; rfl) (hr _ _ _ _ h inr ro f p K w a n0 hp' hro hI ht hg hn0 hd)
    · rename_i e
      rw [e] at hxv
      exact wpIn_cond_false (by generalize hz : a.eval x = z at hxv; cases hxv; rfl) (hr _ _ _ _ h inr ro f q K w a n0 hq' hro hI ht hg hn0 hd)
  case block id x =>
    simp only [rCode, bind, Option.bind_eq_some_iff] at hc
    obtain ⟨x', hx, hc⟩ := hc
    cases hc
    simp only [bodyStep] at h
    refine wpIn_block ?_
    cases hrx : den E n x' ts S with
    | none => rw [hrx] at h; cases h
    | some o1 =>
    obtain ⟨j, ts1, S1⟩ := o1
    rw [hrx] at h
    refine wpIn_mono (hr _ _ _ _ hrx inr ro f x K w a n0 hx hro hI ht hg hn0 hd) ?_
    rintro e a1 w1 ⟨he, K1, hE1, hI1, ht1, hd1⟩
    subst he
    cases j with
    | nrm => cases h; exact ⟨rfl, K1, hE1, hI1, ht1, hd1⟩
    | exit id' =>
      simp only at h
      simp only [exitOf, Exit.inBlock]
      split at h <;> cases h
      · rename_i e; rw [if_pos e]; exact ⟨rfl, K1, hE1, hI1, ht1, hd1⟩
      · rename_i e; rw [if_neg e]; exact ⟨rfl, K1, hE1, hI1, ht1, hd1⟩
    | ret => cases h; exact ⟨rfl, K1, hE1, hI1, ht1, hd1⟩
  case loop x =>
    simp only [rCode, bind, Option.bind_eq_some_iff] at hc
    obtain ⟨x', hx, hc⟩ := hc
    cases hc
    refine wpIn_loopN (fun m a1 w1 => m ≤ n ∧ ∃ K1 ts1 S1, bodyStep E (den E m) (.loop x') ts1 S1 = some out ∧ Ext K w K1 w1 ∧ Inv P an B K1 w1 S1 ∧ VRs K1 w1 ts1 a1.tmps.toList ∧ DefOk K1 w1 n0 a1.defers) (m := n)
      ⟨Nat.le_refl _, K, ts, S, h, Ext.refl _ _, hI, ht, hd⟩ ?_
    rintro m a1 w1 ⟨hmn, K1, ts1, S1, hs, hE1, hI1, ht1, hd1⟩
    simp only [bodyStep] at hs
    cases hrx : den E m x' ts1 S1 with
    | none => rw [hrx] at hs; cases hs
    | some o1 =>
    obtain ⟨j, ts2, S2⟩ := o1
    rw [hrx] at hs
    refine wpIn_mono (ih m hmn _ _ _ _ hrx inr ro f x K1 w1 a1 n0 hx hro hI1 ht1 (hg.ext hE1) (Nat.le_trans hn0 hE1.size) hd1) ?_
    rintro e a2 w2 ⟨he, K2, hE2, hI2, ht2, hd2⟩
    subst he
    cases j with
    | nrm =>
      simp only [exitOf, Exit.then]
      simp only at hs
      cases m with
      | zero => simp [den] at hs
      | succ m' => exact ⟨m', Nat.lt_succ_self _, by omega, K2, ts2, S2, hs, hE1.trans hE2, hI2, ht2, hd2⟩
    | exit id => cases hs; exact ⟨rfl, K2, hE1.trans hE2, hI2, ht2, hd2⟩
    | ret => cases hs; exact ⟨rfl, K2, hE1.trans hE2, hI2, ht2, hd2⟩
  case rangeFunc g ps asg body =>
    simp only [rCode] at hc
    split at hc
    · cases hc; simp [bodyStep] at h
    rename_i hinr
    have hro' := hro (by simpa using hinr)
    subst hro'
    simp only [bind, Option.bind_eq_some_iff] at hc
    obtain ⟨g', hg', asg', hasg, body', hbody, hc⟩ := hc
    cases hc
    simp only [bodyStep] at h
    have hgv := C.opd hg'
    split at h <;> try (cases h; done)
    rename_i fi first cap hfn
    rw [hfn] at hgv
    split at h <;> try (cases h; done)
    rename_i vr S1 hcall
    split at h <;> try (cases h; done)
    rename_i t1 p1 a1 b1 st pend hob1
    split at h <;> cases h
    rename_i hst
    generalize hgz : a.eval g = gz at hgv
    cases hgv with
    | fn _ _ _ xs cs hxl hcl hx1 hx2 =>
    refine wpIn_rangeFunc fun fnid _ => ?_
    obtain ⟨w1, hw1⟩ : ∃ w1, (w.alloc (.deferred (some []))).alloc (.loop { state := .ready, pending := none, fn := fnid, tmps := a.tmps, params := ps, assign := asg, body := body, defers := w.heap.size }) = w1 := ⟨_, rfl⟩
    obtain ⟨K1, hE1, hI1, hal1, hmu1, hown1, hdf1⟩ := newLoop (ts := ts) (f := f) hI rfl rfl rfl ht hasg hbody hw1
    have hyl : VR K1 w1 (.yl S.os.length) (.func (.yield (w.heap.size + 1)) #[] #[]) := by
      rw [← hmu1]; exact .yl _ (by omega)
    have hall : VRs K1 w1 (first ++ [.yl S.os.length] ++ cap) ((⟨xs⟩ : Array Value) ++ #[Value.func (.yield (w.heap.size + 1)) #[] #[]] ++ (⟨cs⟩ : Array Value)).toList := by
      simp only [Array.toList_append]
      exact VRs.append (VRs.append (as := first) (vs := xs) (VRs.ext hE1 ⟨hxl, hx1⟩) (VRs.nil.cons hyl |> fun x => x)) (bs := cap) (us := cs) (VRs.ext hE1 ⟨hcl, hx2⟩)
    obtain ⟨⟨fn, hfn', hb, hnm⟩, hC⟩ := hcf _ _ _ _ _ hcall K1 _ _ hI1 hall (hg.ext hE1)
    refine ⟨w.heap.size + 1, [{ target := .collected w.heap.size, args := #[] }], w1, { target := .fn (.func fi) ⟨cs⟩, args := (⟨xs⟩ : Array Value) ++ #[Value.func (.yield (w.heap.size + 1)) #[] #[]] }, w1, fi, (⟨xs⟩ : Array Value) ++ #[Value.func (.yield (w.heap.size + 1)) #[] #[]] ++ (⟨cs⟩ : Array Value), w1, by rw [← hw1]; exact run_enterLoop_outer fnid a.tmps ps asg body, ?_, fun _ _ => trivial, ?_, fun h => by simp [wd, Fence.wide] at h, ?_⟩
    · simp only [resolve, hgz]
      have : Array.map a.eval #[Operand.const (Value.func (Fn.yield (w.heap.size + 1)) #[] #[])] = #[Value.func (Fn.yield (w.heap.size + 1)) #[] #[]] := by simp [Act.eval]
      simp only [this, Deferred.ofValue, Sem.run_pure]
    · simp only [invoke]
      exact run_callFunc hfn' hb hnm
    · refine callsIn_wd (hC.mono ?_)
      rintro e w3 ⟨K3, v3, rfl, hE3, hI3, hv3⟩
      have hmu3 : K3.mu S.os.length 0 = K1.mu S.os.length 0 := (hE3.al _ 0 (by omega)).2
      obtain ⟨hal3, hB3, hown3, r3, f3, hh3, hps3, hts3, hca3, hcb3, h03, _, h23⟩ := hI3.obs _ _ hob1
      have hnb : r3.state ≠ .busy := by
        rcases hst with e | e
        · rw [(h03 e).1]; simp
        · rw [(h23 e).1]; simp
      have hl : (K3.mu S.os.length 0).b = w.heap.size + 1 := by rw [hmu3, hmu1]
      have hend := run_endLoop (P := P) hh3 hnb
      rw [hl] at hend
      obtain ⟨hE4, hI4⟩ := updLoop (o := .loop t1 p1 a1 b1 3 none) (r2 := { r3 with state := .exhausted }) hI3 hob1 hown3 hh3 (fun w' hE' hw' =>
        ⟨hal3, hB3, hown3, _, f3, hw', hps3, hts3.ext hE', hca3, hcb3, by simp, by simp, by simp⟩)
      rw [hl] at hE4 hI4
      generalize w3.putObj (w.heap.size + 1) (.loop { r3 with state := .exhausted }) = W at hend hE4 hI4 ⊢
      have hE5 := (hE1.trans hE3).trans hE4
      have hd' : DefOk K3 W n0 ({ a with defers := [{ target := .collected w.heap.size, args := #[] }] ++ a.defers } : Act).defers := by
        have hd3 := hd.ext hE5
        obtain ⟨rs, hds, hnd, hm⟩ := hd
        obtain ⟨rs', hds', hnd', hm'⟩ := hd3
        have hk := (hE3.trans hE4).keep w.heap.size (.inr hown1)
        have hrs : rs' = rs := by
          have : rs'.map markD = rs.map markD := by rw [← hds', hds]
          exact List.map_inj_right (fun x y h => by simpa [markD] using h) |>.1 this
        subst hrs
        refine ⟨w.heap.size :: rs', by simp [hds, markD], List.nodup_cons.2 ⟨fun hin => ?_, hnd⟩, fun r hr => ?_⟩
        · have := hI.fresh w.heap.size (by rw [(hm _ hin).2.1]; simp)
          omega
        · rcases List.mem_cons.1 hr with rfl | hr
          · refine ⟨hn0, hk.1.trans hown1, hk.2.trans ?_⟩
            exact hdf1
          · exact hm' r hr
      have hht := ht.ext hE5
      refine ⟨r3.pending, W, hend, ?_⟩
      cases hp3 : r3.pending with
      | none =>
        have : pend = none := by
          rcases hst with e | e
          · exact (h03 e).2.2
          · obtain ⟨_, j, _, hj, hs⟩ := h23 e
            rw [← hj, hp3] at hs
            cases hs
        subst this
        exact ⟨rfl, K3, hE5, hI4, hht, hd'⟩
      | some cj =>
        rcases hst with e | e
        · have := (h03 e).2.1
          rw [hp3] at this
          cases this
        · obtain ⟨_, j, hpj, hj, hs⟩ := h23 e
          subst hpj
          rw [hp3] at hj
          cases j with
          | nrm => cases hs
          | exit id => cases hj; exact wpIn_exit ⟨rfl, K3, hE5, hI4, hht, hd'⟩
          | ret => cases hj; exact wpIn_ret ⟨rfl, K3, hE5, hI4, hht, hd'⟩
  all_goals (simp only [rCode, Option.some.injEq] at hc; subst hc; simp [bodyStep] at h)

end Go.Ai


/- Regions whose order is open, the plain part: what a run in the order of the text tells; equality of values; what an operation looks at. -/
namespace Go.Ai
variable {E : Env} {cf : CallFn} {cv : AV → List AV → St → Option (AV × St)}

/-! ### Equality -/
mutual
theorem beq_eq (a b : AV) (h : beq a b = true) : a = b := by
  cases a <;> cases b <;> simp only [beq, Bool.and_eq_true, beq_iff_eq, Bool.false_eq_true] at h <;> try (exact h.elim)
  case bool.bool => rw [h]
  case int.int => rw [h.1, h.2]
  case str.str => rw [h]
  case nilp.nilp => rfl
  case ptr.ptr => rw [h.1.1, h.1.2, h.2]
  case cp.cp c o c' o' => rw [beqs_eq c c' h.1, h.2]
  case nils.nils => rfl
  case sl.sl c n e c' n' e' => rw [beqs_eq c c' h.1.1, h.1.2, h.2]
  case ms.ms => obtain ⟨⟨⟨⟨⟨h1, h2⟩, h3⟩, h4⟩, h5⟩, h6⟩ := h; rw [h1, h2, h3, h4, h5, h6]
  case nilm.nilm => rfl
  case mp.mp => rw [h]
  case fn.fn f a c f' b d => rw [h.1.1, beqs_eq a b h.1.2, beqs_eq c d h.2]
  case nilf.nilf => rfl
  case yl.yl => rw [h]
  case nili.nili => rfl
  case ifc.ifc t a u b => rw [h.1, beq_eq a b h.2]
  case agg.agg a b => rw [beqs_eq a b h]
  case tup.tup a b => rw [beqs_eq a b h]
theorem beqs_eq (a b : List AV) (h : beqs a b = true) : a = b := by
  cases a with
  | nil => cases b with
    | nil => rfl
    | cons b bs => simp [beqs] at h
  | cons a as => cases b with
    | nil => simp [beqs] at h
    | cons b bs =>
      simp only [beqs, Bool.and_eq_true] at h
      rw [beq_eq a b h.1, beqs_eq as bs h.2]
end

/-! ### What an operation looks at -/
def AgreeOn (ts ts' : List AV) (l : List Nat) : Prop := ∀ t ∈ l, ts[t]? = ts'[t]?

theorem AgreeOn.left {ts ts' : List AV} {l l' : List Nat} (h : AgreeOn ts ts' (l ++ l')) : AgreeOn ts ts' l := fun t ht => h t (List.mem_append_left _ ht)
theorem AgreeOn.right {ts ts' : List AV} {l l' : List Nat} (h : AgreeOn ts ts' (l ++ l')) : AgreeOn ts ts' l' := fun t ht => h t (List.mem_append_right _ ht)

variable {ts ts' : List AV}

theorem ev_agree {x : OA} (h : AgreeOn ts ts' (oaT x)) : ev E ts x = ev E ts' x := by
  cases x with
  | t n => simp only [ev, List.getD_eq_getElem?_getD]; rw [h n (by simp [oaT])]
  | c v => rfl
  | g n => rfl

theorem bnd_agree {x : Option OA} {d : Nat} (h : AgreeOn ts ts' (oaTO x)) : bnd E ts x d = bnd E ts' x d := by
  cases x with
  | none => rfl
  | some o => simp only [bnd]; rw [ev_agree (by simpa [oaTO] using h)]

theorem evs_agree {l : List OA} (h : AgreeOn ts ts' (l.flatMap oaT)) : l.map (ev E ts) = l.map (ev E ts') :=
  List.map_congr_left fun x hx => ev_agree fun t ht => h t (List.mem_flatMap.2 ⟨x, hx, ht⟩)

theorem fillP_agree : ∀ {ps : List (Nat × Nat × OA)} {cs : List AV}, AgreeOn ts ts' (ps.flatMap fun p => oaT p.2.2) → fillP E ts cs ps = fillP E ts' cs ps
  | [], cs, _ => rfl
  | (off, sz, x) :: r, cs, h => by
    simp only [List.flatMap_cons] at h
    simp only [fillP]
    rw [ev_agree (E := E) h.left]
    split
    · exact fillP_agree h.right
    · rfl

theorem aopP_agree {o : PO} (h : AgreeOn ts ts' o.reads) : aopP E ts o = aopP E ts' o := by
  cases o <;> simp only [PO.reads] at h
  case mv x => simp only [aopP]; rw [ev_agree h]
  case smv x => simp only [aopP]; rw [ev_agree h]
  case pick a b c => simp only [aopP]; rw [ev_agree h.left.left, ev_agree h.left.right, ev_agree h.right]
  case build z ps => simp only [aopP]; rw [fillP_agree h]
  case mkl z l s ps => simp only [aopP]; rw [fillP_agree h]
  case nchk x => simp only [aopP]; rw [ev_agree h]
  case arith op x y => simp only [aopP]; rw [ev_agree h.left, ev_agree h.right]
  case eq n c x y => simp only [aopP]; rw [ev_agree h.left, ev_agree h.right]
  case un op x => simp only [aopP]; rw [ev_agree h]
  case toInt k x => simp only [aopP]; rw [ev_agree h]
  case s2b x => simp only [aopP]; rw [ev_agree h]
  case mkf f a b => simp only [aopP]; rw [evs_agree h.left, evs_agree h.right]
  case slS x a b =>
    simp only [aopP]
    rw [ev_agree h.left.left]
    split
    · rw [bnd_agree h.left.right, bnd_agree h.right]
    · rfl
  case slL sz x a b c =>
    simp only [aopP]
    rw [ev_agree h.left.left.left, bnd_agree h.left.left.right, bnd_agree h.left.right]
    cases c with
    | none => rfl
    | some m => simp only; rw [ev_agree (x := m) (by simpa [oaTO] using h.right)]
  case fad o x => simp only [aopP]; rw [ev_agree h]
  case fld a b c x => simp only [aopP]; rw [ev_agree h]
  case iaL s x i => simp only [aopP]; rw [ev_agree h.left, ev_agree h.right]
  case iaA l s x i => simp only [aopP]; rw [ev_agree h.left, ev_agree h.right]
  case ixA l s g x i => simp only [aopP]; rw [ev_agree h.left, ev_agree h.right]
  case ixS x i => simp only [aopP]; rw [ev_agree h.left, ev_agree h.right]
  case ext x i => simp only [aopP]; rw [ev_agree h]
  case lenS x => simp only [aopP]; rw [ev_agree h]
  case lenL x => simp only [aopP]; rw [ev_agree h]
  case lenC n => rfl
  case capL x => simp only [aopP]; rw [ev_agree h]
  case maxI x xs => simp only [aopP]; rw [ev_agree h.left, evs_agree h.right]
  case minI x xs => simp only [aopP]; rw [ev_agree h.left, evs_agree h.right]
  case cmpS x y => simp only [aopP]; rw [ev_agree h.left, ev_agree h.right]
  case bad => rfl

theorem aopD_agree {S : St} {o : DO} (h : AgreeOn ts ts' o.reads) : aopD E cf ts S o = aopD E cf ts' S o := by
  cases o <;> simp only [DO.reads] at h
  case load s g a => simp only [aopD]; rw [ev_agree h]
  case b2s x => simp only [aopD]; rw [ev_agree h]
  case slA n s x a b =>
    simp only [aopD]
    rw [ev_agree h.left.left, bnd_agree h.left.right, bnd_agree h.right]
  case pcall f args => simp only [aopD]; rw [evs_agree h]
  case lkp => rfl
  case lenM => rfl

theorem aopW_agree {S : St} {o : WO} (h : AgreeOn ts ts' o.reads) : aopW E cf cv ts S o = aopW E cf cv ts' S o := by
  cases o <;> simp only [WO.reads] at h
  case alloc z => rfl
  case box s x => simp only [aopW]; rw [ev_agree h]
  case store s a v => simp only [aopW]; rw [ev_agree h.left, ev_agree h.right]
  case mkr z l s ps => simp only [aopW]; rw [fillP_agree h]
  case mks z s b l c => simp only [aopW]; rw [ev_agree h.left, ev_agree h.right]
  case app s b x y => simp only [aopW]; rw [ev_agree h.left, ev_agree h.right]
  case appZ z s b x y => simp only [aopW]; rw [ev_agree h.left, ev_agree h.right]
  case copyL s x y => simp only [aopW]; rw [ev_agree h.left, ev_agree h.right]
  case clr z s x => simp only [aopW]; rw [ev_agree h]
  case call f args => simp only [aopW]; rw [evs_agree h]
  case callv x args => simp only [aopW]; rw [ev_agree h.left, evs_agree h.right]
  case mkm => rfl
  case mup => rfl

theorem aop_agree {S : St} {o : AO} (h : AgreeOn ts ts' o.reads) : aop E cf cv ts S o = aop E cf cv ts' S o := by
  cases o <;> simp only [AO.reads] at h <;> simp only [aop]
  · rw [aopP_agree h]
  · rw [aopD_agree h]
  · rw [aopW_agree h]

theorem wantd_agree {o : ROp} (h : AgreeOn ts ts' o.reads) : wantd ts o.gd = wantd ts' o.gd := by
  unfold ROp.reads at h
  cases hg : o.gd with
  | none => rfl
  | some g =>
    obtain ⟨t, w⟩ := g
    rw [hg] at h
    simp only [wantd]
    rw [h t (by simp)]

end Go.Ai

