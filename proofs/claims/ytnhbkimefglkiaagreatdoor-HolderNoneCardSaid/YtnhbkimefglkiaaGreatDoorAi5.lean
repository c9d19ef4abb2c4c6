/- A proved interpreter of the program's code (AiKS8 AiKS9 AiKS10 AiKS11 AiKS12 AiKS13 AiKS14 AiKS15 AiKS16 AiArgs AiGlue). -/
import Derived.Test.YtnhbkimefglkiaaGreatDoorAi4
import Derived.ChangeBook
import Derived.ChangeStays
import Derived.ChangeSame
import Derived.ChangeArms
import Derived.ChangeSlices
/- Threaded operations: those that look at the store, change it, call; lists of operations. -/
namespace Go.Ai
variable {T : SK} {S : St} {E : Env} {ts : List AV} {f : Frm} {X : Cx3} {cf : CallFn} {cv : AV → List AV → St → Option (AV × St)} {d : Option Nat} {kn : Kt} {r : Oc}

/-- What the tables give. -/
structure TabOk (X : Cx3) (cf : CallFn) (cv : AV → List AV → St → Option (AV × St)) : Prop where
  fn : ∀ n args T S, SR T S → ImpS (X.tab n args T) (cf n args S)
  fv : ∀ n a b args T S, SR T S → ImpS (X.tabv n (a ++ (args ++ b)) T) (cv (.fn n a b) args S)
  yl : ∀ id args T S, SR T S → ImpS (X.yl id args T) (cv (.yl id) args S)

theorem coD_sound (h : FX X E f ts) (hs : SR T S) (hd : DstOk ts.length d) {o : DO} (hr : Below ts.length o.reads) (hk : coD X o (dsT d) r kn f T = true) :
    Fin ts d kn r ((aopD E cf ts S o).map fun v => (v, S)) := by
  cases o <;> simp only [DO.reads] at hr
  case load sz ag a =>
    have hk' : ldF sz ag T (oaG X a f) (fun v => dsT d v f fun f => r kn f T) = true := hk
    rw [oaG_eq h hr] at hk'
    exact fin_p h.fr hs hd (ldF_sound hs sz ag _) hk'
  case b2s x =>
    have hk' : b2sT T (oaG X x f) (fun v => dsT d v f fun f => r kn f T) = true := hk
    rw [oaG_eq h hr] at hk'
    exact fin_p h.fr hs hd (b2sT_sound hs _) hk'
  case slA n sz x lo hi =>
    have hk' : slAT lo.isSome hi.isSome n sz T (oaG X x f) (oaGO X lo f) (oaGO X hi f) (fun v => dsT d v f fun f => r kn f T) = true := hk
    rw [oaG_eq h hr.left.left] at hk'
    refine fin_p h.fr hs hd ((slAT_sound hs lo.isSome hi.isSome n sz _ _ _).cast ?_) hk'
    simp only [aopD]
    generalize ev E ts x = z
    cases z <;> simp only [oaGO_eq h hr.left.right, oaGO_eq h hr.right] <;> rfl
  case pcall => cases hk
  case lkp => cases hk
  case lenM => cases hk

theorem coW_sound (h : FX X E f ts) (hs : SR T S) (hd : DstOk ts.length d) (ht : TabOk X cf cv) {o : WO} (hz : ∀ z, o = .alloc z → z.all oneCell = true) (hr : Below ts.length o.reads) (hk : coW X o (dsT d) r kn f T = true) :
    Fin ts d kn r (aopW E cf cv ts S o) := by
  cases o <;> simp only [WO.reads] at hr
  case alloc z =>
    have hk' : allocT z T (fun v T => dsT d v f fun f => r kn f T) = true := hk
    exact fin_w h.fr hd (allocT_sound hs z (hz z rfl)) hk'
  case box sz x =>
    have hk' : boxT sz T (oaG X x f) (fun v T => dsT d v f fun f => r kn f T) = true := hk
    rw [oaG_eq h hr] at hk'
    exact fin_w h.fr hd (boxT_sound hs sz x) hk'
  case store sz a v =>
    have hk' : storeT sz T (oaG X a f) (oaG X v f) (fun v T => dsT d v f fun f => r kn f T) = true := hk
    rw [oaG_eq h hr.left, oaG_eq h hr.right] at hk'
    exact fin_w h.fr hd (storeT_sound hs sz a v) hk'
  case mkr z len sz ps =>
    have hk' : getsT (psGs X ps) f (fun vs => mkrT z len sz (offs ps) T vs fun v T => dsT d v f fun f => r kn f T) = true := hk
    rw [getsT_eq, psGs_eq h hr] at hk'
    exact fin_w h.fr hd (mkrT_sound hs z len sz ps) hk'
  case mks z sz bytes l c =>
    have hk' : mksT z sz bytes T (oaG X l f) (oaG X c f) (fun v T => dsT d v f fun f => r kn f T) = true := hk
    rw [oaG_eq h hr.left, oaG_eq h hr.right] at hk'
    exact fin_w h.fr hd (mksT_sound hs z sz bytes l c) hk'
  case app sz bytes x y =>
    have hk' : appT sz bytes T (oaG X x f) (oaG X y f) (fun v T => dsT d v f fun f => r kn f T) = true := hk
    rw [oaG_eq h hr.left, oaG_eq h hr.right] at hk'
    exact fin_w h.fr hd (appT_sound hs sz bytes x y) hk'
  case appZ z sz bytes x n =>
    have hk' : appZT z sz bytes T (oaG X x f) (oaG X n f) (fun v T => dsT d v f fun f => r kn f T) = true := hk
    rw [oaG_eq h hr.left, oaG_eq h hr.right] at hk'
    exact fin_w h.fr hd (appZT_sound hs z sz bytes x n) hk'
  case copyL sz x y =>
    have hk' : copyT sz T (oaG X x f) (oaG X y f) (fun v T => dsT d v f fun f => r kn f T) = true := hk
    rw [oaG_eq h hr.left, oaG_eq h hr.right] at hk'
    exact fin_w h.fr hd (copyT_sound hs sz x y) hk'
  case clr z sz x =>
    have hk' : clrT z sz T (oaG X x f) (fun v T => dsT d v f fun f => r kn f T) = true := hk
    rw [oaG_eq h hr] at hk'
    exact fin_w h.fr hd (clrT_sound hs z sz x) hk'
  case call n args =>
    have hk' : getsT (oaGs X args) f (fun vs => X.tab n vs T fun v T => dsT d v f fun f => r kn f T) = true := hk
    rw [getsT_eq, oaGs_eq h hr] at hk'
    exact fin_w h.fr hd (ht.fn n _ T S hs) hk'
  case callv x args =>
    have hk' : getsT (oaGs X args) f (fun vs => elFY (oaG X x f) (fun n a b => catK vs b fun q => catK a q fun q => X.tabv n q T fun v T => dsT d v f fun f => r kn f T) (fun id => X.yl id vs T fun v T => dsT d v f fun f => r kn f T)) = true := hk
    rw [getsT_eq, oaGs_eq h hr.right, oaG_eq h hr.left] at hk'
    simp only [aopW]
    generalize ev E ts x = z at hk' ⊢
    cases z
    case fn n a b =>
      have hk2 : catK (args.map (ev E ts)) b (fun q => catK a q fun q => X.tabv n q T fun v T => dsT d v f fun f => r kn f T) = true := hk'
      rw [catK_eq, catK_eq] at hk2
      exact fin_w h.fr hd (ht.fv n a b _ T S hs) hk2
    case yl id =>
      have hk2 : X.yl id (args.map (ev E ts)) T (fun v T => dsT d v f fun f => r kn f T) = true := hk'
      exact fin_w h.fr hd (ht.yl id _ T S hs) hk2
    all_goals cases hk'
  case mkm => cases hk
  case mup => cases hk

theorem coA_sound (h : FX X E f ts) (hs : SR T S) (hd : DstOk ts.length d) (ht : TabOk X cf cv) {o : AO} (hz : ∀ z, o = .w (.alloc z) → z.all oneCell = true) (hr : Below ts.length o.reads) (hk : coA X o (dsT d) r kn f T = true) :
    Fin ts d kn r (aop E cf cv ts S o) := by
  cases o with
  | p o => exact coP_sound h hs hd hr hk
  | d o => exact coD_sound h hs hd hr hk
  | w o => exact coW_sound h hs hd ht (fun z e => hz z (by rw [e])) hr hk

theorem ropSl_inv {n : Nat} {o : ROp} (h : ropSl n o = true) : Below n o.reads ∧ DstOk n o.dst := by
  simp only [ropSl, Bool.and_eq_true, List.all_eq_true, decide_eq_true_eq] at h
  refine ⟨h.1, fun m hm => ?_⟩
  have := h.2
  rw [hm] at this
  simpa using this

/-- What one operation of a region hands on. -/
def Fin1 (kn : Kt) (r : Oc) (o : Option (List AV × St)) : Prop := ∃ ts' S' T' f', o = some (ts', S') ∧ SR T' S' ∧ FrR f' ts' ∧ r kn f' T' = true

theorem elW_true {v : AV} {k : Bool → Bool} {g : List AV → Bool} (h : elW v k g = true) : (∃ b, v = .bool b ∧ k b = true) ∨ ∃ vs, v = .tup vs ∧ g vs = true := by
  cases v
  case bool b => exact .inl ⟨b, rfl, h⟩
  case tup vs => exact .inr ⟨vs, rfl, h⟩
  all_goals cases h

theorem wantT_true {v : AV} {w y n : Bool} (h : wantT v w y n = true) : (v = .bool w ∧ y = true) ∨ ((v = .bool (!w) ∨ v = .tup []) ∧ n = true) := by
  rcases elW_true h with ⟨b, rfl, h1⟩ | ⟨vs, rfl, h1⟩
  · cases b <;> cases w
    · exact .inl ⟨rfl, h1⟩
    · exact .inr ⟨.inl rfl, h1⟩
    · exact .inr ⟨.inl rfl, h1⟩
    · exact .inl ⟨rfl, h1⟩
  · cases vs with
    | nil => exact .inr ⟨.inr rfl, h1⟩
    | cons => cases h1

theorem coR_sound (h : FX X E f ts) (hs : SR T S) (ht : TabOk X cf cv) {o : ROp} (hl : ropSl ts.length o = true) (hz : ropAl o = true) (hk : coR X o r kn f T = true) : Fin1 kn r (exec1 E cf cv o ts S) := by
  obtain ⟨hr, hd⟩ := ropSl_inv hl
  have hz' : ∀ z, o.op = .w (.alloc z) → z.all oneCell = true := fun z e => by unfold ropAl at hz; rw [e] at hz; exact hz
  unfold coR at hk
  unfold exec1
  unfold ROp.reads at hr
  cases hg : o.gd with
  | none =>
    rw [hg] at hk
    obtain ⟨v, S', T', f', h1, h2, h3, h4⟩ := coA_sound h hs hd ht hz' hr.right hk
    exact ⟨_, S', T', f', by simp only [wantd, h1]; rfl, h2, h3, h4⟩
  | some g =>
    obtain ⟨t, w⟩ := g
    rw [hg] at hk hr
    have hlt : t < ts.length := hr.left t (by simp)
    have hk' : wantT (gT t f) w (coA X o.op (dsT o.dst) eO (r kn) f T) (dsT o.dst u f fun f => r kn f T) = true := hk
    have hgt : gT t f = ts[t] := by rw [h.fr.2 t hlt, List.getD_eq_getElem?_getD, List.getElem?_eq_getElem hlt]; rfl
    rw [hgt] at hk'
    rcases wantT_true hk' with ⟨h1, h2⟩ | ⟨h1, h2⟩
    · obtain ⟨v, S', T', f', h3, h4, h5, h6⟩ := coA_sound h hs hd ht hz' hr.right h2
      refine ⟨_, S', T', f', ?_, h4, h5, h6⟩
      simp only [wantd, List.getElem?_eq_getElem hlt, h1, beq_self_eq_true, h3]
      rfl
    · obtain ⟨f', h3, h4⟩ := dst_fin h.fr hd _ h2
      refine ⟨_, S, T, f', ?_, hs, h3, h4⟩
      have hw : wantd ts (some (t, w)) = some false := by
        simp only [wantd, List.getElem?_eq_getElem hlt]
        rcases h1 with h1 | h1
        · rw [h1]; cases w <;> rfl
        · rw [h1]
      rw [hw]
      rfl

theorem exec1_len {o : ROp} {ts' : List AV} {S' : St} (h : exec1 E cf cv o ts S = some (ts', S')) : ts'.length = ts.length := by
  unfold exec1 at h
  split at h <;> try (cases h; done)
  · cases h; cases o.dst <;> simp [put]
  · simp only [Option.map_eq_some_iff] at h
    obtain ⟨⟨_, _⟩, _, h⟩ := h
    cases h
    cases o.dst <;> simp [put]

theorem coL_sound (ht : TabOk X cf cv) (hgv : ∀ g, X.gv g = E.gv g) {n : Nat} : ∀ {l : List ROp} {f : Frm} {ts : List AV} {T : SK} {S : St}, FrR f ts → ts.length = n → SR T S → l.all (ropSl n) = true → l.all ropAl = true → coL X l kn f T = true →
    ∃ ts' S' T' f', execs E cf cv l ts S = some (ts', S') ∧ SR T' S' ∧ FrR f' ts' ∧ ts'.length = n ∧ kn f' T' = true
  | [], f, ts, T, S, hf, hn, hs, _, _, hk => ⟨ts, S, T, f, rfl, hs, hf, hn, hk⟩
  | o :: l, f, ts, T, S, hf, hn, hs, hl, hz, hk => by
    simp only [List.all_cons, Bool.and_eq_true] at hl hz
    have hk' : coR X o (coL X l) kn f T = true := hk
    obtain ⟨ts1, S1, T1, f1, h1, h2, h3, h4⟩ := coR_sound ⟨hf, hgv⟩ hs ht (hn ▸ hl.1) hz.1 hk'
    have hlen := exec1_len h1
    obtain ⟨ts', S', T', f', h5, h6, h7, h8, h9⟩ := coL_sound ht hgv h3 (hlen.trans hn) h2 hl.2 hz.2 h4
    exact ⟨ts', S', T', f', by simp only [execs, h1]; exact h5, h6, h7, h8, h9⟩

end Go.Ai


/- Threaded code: regions whose order is open. -/
namespace Go.Ai
variable {E : Env} {X : Cx3} {cf : CallFn} {cv : AV → List AV → St → Option (AV × St)}

/-- Stores, one by one. -/
def PR : List SK → List St → Prop
  | [], [] => True
  | T :: l, S :: m => SR T S ∧ PR l m
  | _, _ => False

theorem PR.len : ∀ {l : List SK} {m : List St}, PR l m → l.length = m.length
  | [], [], _ => rfl
  | _ :: _, _ :: _, h => by simp [PR.len h.2]
  | [], _ :: _, h => h.elim
  | _ :: _, [], h => h.elim

theorem PR.append : ∀ {l : List SK} {m : List St} {l' : List SK} {m' : List St}, PR l m → PR l' m' → PR (l ++ l') (m ++ m')
  | [], [], _, _, _, h' => h'
  | _ :: _, _ :: _, _, _, h, h' => ⟨h.1, PR.append h.2 h'⟩
  | [], _ :: _, _, _, h, _ => h.elim
  | _ :: _, [], _, _, h, _ => h.elim

theorem PR.reverse : ∀ {l : List SK} {m : List St}, PR l m → PR l.reverse m.reverse
  | [], [], h => h
  | _ :: _, _ :: _, h => by simp only [List.reverse_cons]; exact PR.append (PR.reverse h.2) ⟨h.1, trivial⟩
  | [], _ :: _, h => h.elim
  | _ :: _, [], h => h.elim

theorem PR.drop : ∀ {n : Nat} {l : List SK} {m : List St}, PR l m → PR (l.drop n) (m.drop n)
  | 0, _, _, h => h
  | _ + 1, [], [], h => h
  | _ + 1, _ :: _, _ :: _, h => by simp only [List.drop_succ_cons]; exact PR.drop h.2
  | _ + 1, [], _ :: _, h => h.elim
  | _ + 1, _ :: _, [], h => h.elim

theorem PR.take : ∀ {n : Nat} {l : List SK} {m : List St}, PR l m → PR (l.take n) (m.take n)
  | 0, _, _, _ => trivial
  | _ + 1, [], [], h => h
  | _ + 1, _ :: _, _ :: _, h => ⟨h.1, PR.take h.2⟩
  | _ + 1, [], _ :: _, h => h.elim
  | _ + 1, _ :: _, [], h => h.elim

theorem winK_eq : ∀ (l : List SK) (off n : Nat) (k : List SK → Bool), winK l off n k = k ((l.drop off).take n)
  | [], off, n, k => by
    have h : winK [] off n k = k [] := rfl
    rw [h]
    simp
  | a :: l, 0, 0, k => rfl
  | a :: l, 0, n + 1, k => by
    have h : winK (a :: l) 0 (n + 1) k = winK l 0 n fun r => k (a :: r) := rfl
    rw [h, winK_eq]
    rfl
  | a :: l, off + 1, n, k => by
    have h : winK (a :: l) (off + 1) n k = winK l off n k := rfl
    rw [h, winK_eq]
    rfl

theorem allSt_true {g : SK → Bool → Bool} {p : St → Bool} (hg : ∀ T S y, SR T S → g T y = true → p S = true ∧ y = true) : ∀ {l : List SK} {m : List St} {x : Bool}, PR l m → allSt g l x = true → m.all p = true ∧ x = true
  | [], [], x, _, h => ⟨rfl, h⟩
  | T :: l, S :: _, x, hp, h => by
    have h' : g T (allSt g l x) = true := h
    obtain ⟨h1, h2⟩ := hg T S _ hp.1 h'
    obtain ⟨h3, h4⟩ := allSt_true hg hp.2 h2
    exact ⟨by simp [h1, h3], h4⟩
  | [], _ :: _, _, h, _ => h.elim
  | _ :: _, [], _, h, _ => h.elim

theorem eqK_eq (a b : AV) : eqK a b = beq a b := by unfold eqK; cases beq a b <;> rfl

theorem chk_rd {stsK : List SK} {sts : List St} (hp : PR stsK sts) {lo hi : Nat} {op : SK → VK} {v : AV} {ts : List AV} {o : DO} (hop : ∀ T S, SR T S → Imp (op T) (aopD E cf ts S o)) {x : Bool} (h : chkT stsK (.rd lo hi op v) x = true) (kt : Nat) :
    stable E cf sts lo hi kt ts o v = true ∧ x = true := by
  have h' : winK stsK lo (Nat.sub (Nat.succ hi) lo) (fun l => allSt (fun S y => op S fun v' => ifK (eqK v v') y) l x) = true := h
  rw [winK_eq] at h'
  obtain ⟨h1, h2⟩ := allSt_true (p := fun S => match aopD E cf ts S o with | none => false | some v' => beq v v') (fun T S y hs hg => by
    obtain ⟨v', hv, hg⟩ := hop T S hs _ hg
    rw [ifK_true, eqK_eq] at hg
    exact ⟨by rw [hv]; exact hg.1, hg.2⟩) (PR.take (PR.drop hp)) h'
  refine ⟨?_, h2⟩
  unfold stable
  split
  · rfl
  · exact h1

theorem chk_al {stsK : List SK} {sts : List St} (hp : PR stsK sts) {lo hi id : Nat} {z : List AV} {x : Bool} (h : chkT stsK (.al lo hi id z) x = true) : unwrit sts lo hi id z = true ∧ x = true := by
  have h' : winK stsK lo (Nat.sub (Nat.succ hi) lo) (fun l => allSt (fun S y => rowK S id fun v cs => ifK (Nat.beq v 0) (ifK (Bool.rec (motive := fun _ => Bool) false true (beqs cs z)) y)) l x) = true := h
  rw [winK_eq] at h'
  exact allSt_true (p := fun S => match S.os[id]? with | some (.row 0 cs) => beqs cs z | _ => false) (fun T S y hs hg => by
    obtain ⟨v, cs, h1, h2⟩ := rowK_true hs hg
    rw [ifK_true, ifK_true] at h2
    obtain ⟨h3, h4, h5⟩ := h2
    have e : v = 0 := Nat.eq_of_beq_eq_true h3
    subst e
    refine ⟨?_, h5⟩
    rw [h1]
    cases hb : beqs cs z with
    | false => rw [hb] at h4; cases h4
    | true => exact hb) (PR.take (PR.drop hp)) h'

structure DR (D : DsT) (Tt : Tr) : Prop where
  fr : FrR D.ts Tt.ts
  st : SR D.S Tt.S
  kt : D.kt = Tt.past.length
  past : PR D.past Tt.past

/-- What one operation of such a region hands on; what is to be checked of it. -/
def Fin2 (E : Env) (cf : CallFn) (cv : AV → List AV → St → Option (AV × St)) (base : Nat) (o : ROp) (dk : DK) (Tt : Tr) (D : DsT) (k : DsT → Bool) : Prop :=
  ∃ v Tt' D' ch, execD1 E cf cv base o dk Tt = some (v, Tt') ∧ DR D' Tt' ∧ Tt'.ts.length = Tt.ts.length ∧ D'.ch = ch ++ D.ch ∧ k D' = true ∧
    ∀ stsK sts x, PR stsK sts → chksT stsK ch x = true → stab1 E cf base sts o dk Tt v = true ∧ x = true

theorem chks_nil (stsK : List SK) (x : Bool) : chksT stsK [] x = x := rfl
theorem chks_cons (stsK : List SK) (c : ChT) (l : List ChT) (x : Bool) : chksT stsK (c :: l) x = chkT stsK c (chksT stsK l x) := rfl
theorem chks_append (stsK : List SK) : ∀ (l m : List ChT) (x : Bool), chksT stsK (l ++ m) x = chksT stsK l (chksT stsK m x)
  | [], _, _ => rfl
  | c :: l, m, x => by simp only [List.cons_append, chks_cons, chks_append stsK l m x]


theorem exec1_execD1 {base : Nat} {o : ROp} {dk : DK} {Tt : Tr} {ts' : List AV} {S' : St} (hk : (dk = .p ∧ ∃ po, o.op = .p po) ∨ (∃ lo hi, dk = .r lo hi) ∧ (∃ d, o.op = .d d) ∨ dk = .w) (h : exec1 E cf cv o Tt.ts Tt.S = some (ts', S')) :
    ∃ v, execD1 E cf cv base o dk Tt = some (v, { ts := ts', S := S', past := if dk.isw then Tt.S :: Tt.past else Tt.past }) := by
  unfold exec1 at h
  unfold execD1
  split at h
  · cases h
  · cases h
    refine ⟨.tup [], ?_⟩
    rcases hk with ⟨rfl, _⟩ | ⟨⟨lo, hi, rfl⟩, _⟩ | rfl <;> rfl
  · simp only [Option.map_eq_some_iff] at h
    obtain ⟨⟨v, S2⟩, h1, h2⟩ := h
    cases h2
    refine ⟨v, ?_⟩
    rcases hk with ⟨rfl, po, hop⟩ | ⟨⟨lo, hi, rfl⟩, dd, hop⟩ | rfl
    · rw [hop] at h1 ⊢
      simp only [aop, Option.map_eq_some_iff] at h1
      obtain ⟨v', h3, h4⟩ := h1
      cases h4
      simp only [h3]
      rfl
    · rw [hop] at h1 ⊢
      simp only [aop, Option.map_eq_some_iff] at h1
      obtain ⟨v', h3, h4⟩ := h1
      cases h4
      simp only [h3]
      rfl
    · simp only [h1]
      rfl

theorem stab1_p {base : Nat} {sts : List St} {o : ROp} {Tt : Tr} {v : AV} : stab1 E cf base sts o .p Tt v = true := by
  unfold stab1
  split <;> rfl

theorem stab1_w {base : Nat} {sts : List St} {o : ROp} {Tt : Tr} {v : AV} : stab1 E cf base sts o .w Tt v = true := by
  unfold stab1
  split <;> rfl

theorem stab1_r {base : Nat} {sts : List St} {o : ROp} {lo hi : Nat} {Tt : Tr} {v : AV} (h : ∀ d, o.op = .d d → stable E cf sts lo hi Tt.past.length Tt.ts d v = true) : stab1 E cf base sts o (.r lo hi) Tt v = true := by
  unfold stab1
  split
  · split
    · rename_i d h1 h2
      cases h1
      exact h d h2
    · rename_i h1 _; cases h1
    · rename_i h1 _; cases h1
    · rfl
  · rfl

end Go.Ai


/- Threaded code: a region whose order is open, whole. -/
namespace Go.Ai
variable {E : Env} {X : Cx3} {cf : CallFn} {cv : AV → List AV → St → Option (AV × St)} {base : Nat}

/-- An item that is an operation as it stands. -/
theorem item_op (ht : TabOk X cf cv) (hgv : ∀ g, X.gv g = E.gv g) {o : ROp} {dk : DK} {Tt : Tr} {D : DsT} {k : DsT → Bool} (h : DR D Tt) (hl : ropSl Tt.ts.length o = true) (hz : ropAl o = true)
    (hdk : (dk = .p ∧ ∃ po, o.op = .p po) ∨ (∃ lo hi, dk = .r lo hi) ∧ (∃ d, o.op = .d d) ∨ dk = .w)
    (hst : ∀ sts v, stab1 E cf base sts o dk Tt v = true) (hk : coR X o eO (fun f S => k ⟨f, S, if dk.isw then Nat.succ D.kt else D.kt, if dk.isw then D.S :: D.past else D.past, D.ch⟩) D.ts D.S = true) :
    Fin2 E cf cv base o dk Tt D k := by
  obtain ⟨ts', S', T', f', h1, h2, h3, h4⟩ := coR_sound ⟨h.fr, hgv⟩ h.st ht hl hz hk
  obtain ⟨v, hv⟩ := exec1_execD1 (base := base) hdk h1
  refine ⟨v, _, ⟨f', T', if dk.isw then Nat.succ D.kt else D.kt, if dk.isw then D.S :: D.past else D.past, D.ch⟩, [], hv, ⟨h3, h2, ?_, ?_⟩, exec1_len h1, rfl, h4, fun stsK sts x _ hx => ⟨hst sts v, hx⟩⟩
  · simp only
    split
    · simp [h.kt]
    · exact h.kt
  · simp only
    split
    · exact ⟨h.st, h.past⟩
    · exact h.past

/-- A guard about an item. -/
theorem item_guard {o : ROp} {dk : DK} {Tt : Tr} {D : DsT} {k : DsT → Bool} {i : Dc} {t : Nat} {w : Bool} (h : DR D Tt) (hl : ropSl Tt.ts.length o = true) (hg : o.gd = some (t, w)) (hnw : dk.isw = false)
    (hk : iG (gT t) w (dsT o.dst) i base D k = true) (hyes : wantd Tt.ts o.gd = some true → i base D k = true → Fin2 E cf cv base o dk Tt D k) : Fin2 E cf cv base o dk Tt D k := by
  obtain ⟨hr, hd⟩ := ropSl_inv hl
  have hlt : t < Tt.ts.length := hr t (by unfold ROp.reads; rw [hg]; simp)
  have hk' : wantT (gT t D.ts) w (i base D k) (dsT o.dst u D.ts fun f => k ⟨f, D.S, D.kt, D.past, D.ch⟩) = true := hk
  have hgt : gT t D.ts = Tt.ts[t] := by rw [h.fr.2 t hlt, List.getD_eq_getElem?_getD, List.getElem?_eq_getElem hlt]; rfl
  rw [hgt] at hk'
  rcases wantT_true hk' with ⟨h1, h2⟩ | ⟨h1, h2⟩
  · refine hyes ?_ h2
    rw [hg]
    simp only [wantd, List.getElem?_eq_getElem hlt, h1, beq_self_eq_true]
  · obtain ⟨f', h3, h4⟩ := dst_fin h.fr hd _ h2
    have hw : wantd Tt.ts o.gd = some false := by
      rw [hg]
      simp only [wantd, List.getElem?_eq_getElem hlt]
      rcases h1 with h1 | h1
      · rw [h1]; cases w <;> rfl
      · rw [h1]
    refine ⟨.tup [], ⟨put Tt.ts o.dst (.tup []), Tt.S, Tt.past⟩, ⟨f', D.S, D.kt, D.past, D.ch⟩, [], ?_, ⟨h3, h.st, h.kt, h.past⟩, by cases o.dst <;> simp [put], rfl, h4, fun stsK sts x _ hx => ⟨?_, hx⟩⟩
    · unfold execD1
      rw [hw]
      cases dk <;> first | rfl | cases hnw
    · unfold stab1
      rw [hw]

/-- A reading that is to be looked at again. -/
theorem item_rd {o : ROp} {lo hi : Nat} {Tt : Tr} {D : DsT} {k : DsT → Bool} {dd : DO} {rd : Frm → SK → VK} (h : DR D Tt) (hl : ropSl Tt.ts.length o = true) (hop : o.op = .d dd) (hw : wantd Tt.ts o.gd = some true)
    (hrd : ∀ T S, SR T S → Imp (rd D.ts T) (aopD E cf Tt.ts S dd)) (hk : iR lo hi rd (dsT o.dst) base D k = true) : Fin2 E cf cv base o (.r lo hi) Tt D k := by
  obtain ⟨hr, hd⟩ := ropSl_inv hl
  have hk' : rd D.ts D.S (fun v => dsT o.dst v D.ts fun f => k ⟨f, D.S, D.kt, D.past, .rd lo hi (rd D.ts) v :: D.ch⟩) = true := hk
  obtain ⟨v, hv, h1⟩ := hrd _ _ h.st _ hk'
  obtain ⟨f', h3, h4⟩ := dst_fin h.fr hd v h1
  refine ⟨v, ⟨put Tt.ts o.dst v, Tt.S, Tt.past⟩, ⟨f', D.S, D.kt, D.past, _⟩, [.rd lo hi (rd D.ts) v], ?_, ⟨h3, h.st, h.kt, h.past⟩, by cases o.dst <;> simp [put], rfl, h4, fun stsK sts x hp hx => ?_⟩
  · unfold execD1
    rw [hw, hop]
    simp only [hv]
    rfl
  · rw [chks_cons, chks_nil] at hx
    obtain ⟨h5, h6⟩ := chk_rd hp (ts := Tt.ts) (o := dd) hrd hx Tt.past.length
    refine ⟨stab1_r fun d hd' => ?_, h6⟩
    rw [hop] at hd'
    cases hd'
    exact h5

theorem item_al {o : ROp} {ix lo hi : Nat} {z : List AV} {Tt : Tr} {D : DsT} {k : DsT → Bool} (h : DR D Tt) (hl : ropSl Tt.ts.length o = true) (hop : o.op = .w (.alloc z)) (hw : wantd Tt.ts o.gd = some true)
    (hk : iA ix lo hi z (dsT o.dst) base D k = true) : Fin2 E cf cv base o (.a ix lo hi) Tt D k := by
  obtain ⟨hr, hd⟩ := ropSl_inv hl
  have hk' : fNat (Nat.add base ix) (fun id => dsT o.dst (.ptr id 0 0) D.ts fun f => k ⟨f, D.S, D.kt, D.past, .al lo hi id z :: D.ch⟩) = true := hk
  rw [fNat_eq] at hk'
  obtain ⟨f', h3, h4⟩ := dst_fin h.fr hd _ hk'
  refine ⟨.ptr (base + ix) 0 0, ⟨put Tt.ts o.dst (.ptr (base + ix) 0 0), Tt.S, Tt.past⟩, ⟨f', D.S, D.kt, D.past, _⟩, [.al lo hi (base + ix) z], ?_, ⟨h3, h.st, h.kt, h.past⟩, by cases o.dst <;> simp [put], rfl, h4, fun stsK sts x hp hx => ?_⟩
  · unfold execD1
    rw [hw, hop]
  · rw [chks_cons, chks_nil] at hx
    obtain ⟨h5, h6⟩ := chk_al hp hx
    refine ⟨?_, h6⟩
    unfold stab1
    rw [hw, hop]
    exact h5

theorem mkT_true {ts : List AV} {z : List AV} {sz bytes id : Nat} {l c : OA} {k : AV → List AV → Bool} (hk : mkT z sz bytes id (ev E ts l) (ev E ts c) k = true) :
    ∃ v, mkV E ts id z sz bytes l c = some v ∧ k v (zerosOf z (msLen v)) = true := by
  unfold mkT at hk
  obtain ⟨a, ha, hk⟩ := i64K_true hk
  obtain ⟨b, hb, hk⟩ := i64K_true hk
  simp only [ifK_true, lenK_eq, allOne_eq, zerK_eq] at hk
  obtain ⟨h1, h2, h3, h4, h5, hk⟩ := hk
  rw [fBool_eq, beqN] at hk
  have e1 : a ≤ b := Nat.le_of_ble_eq_true h1
  have e2 : b ≤ 70368744177664 := Nat.le_of_ble_eq_true h2
  have e3 : bytes * b ≤ 70368744177664 := Nat.le_of_ble_eq_true h3
  have e3' : ((bytes * b : Nat) : Int) ≤ ((maxBytes : Nat) : Int) := Int.ofNat_le.2 e3
  rw [Int.natCast_mul] at e3'
  refine ⟨.ms id 0 0 a sz (a == b), ?_, hk⟩
  simp only [mkV, ha, hb]
  rw [if_pos ⟨by omega, by omega, by rw [mb_int]; omega, e3', Nat.eq_of_beq_eq_true h4, h5⟩]
  simp only [Int.toNat_natCast]
  congr 2
  rw [Bool.eq_iff_iff]
  simp only [beq_iff_eq]
  omega

theorem item_mk (hgv : ∀ g, X.gv g = E.gv g) {o : ROp} {ix lo hi : Nat} {z : List AV} {sz bytes : Nat} {l c : OA} {Tt : Tr} {D : DsT} {k : DsT → Bool} (h : DR D Tt) (hl : ropSl Tt.ts.length o = true) (hop : o.op = .w (.mks z sz bytes l c)) (hw : wantd Tt.ts o.gd = some true)
    (hk : iM ix lo hi z sz bytes (oaG X l) (oaG X c) (dsT o.dst) base D k = true) : Fin2 E cf cv base o (.a ix lo hi) Tt D k := by
  obtain ⟨hr, hd⟩ := ropSl_inv hl
  have hk' : fNat (Nat.add base ix) (fun id => mkT z sz bytes id (oaG X l D.ts) (oaG X c D.ts) fun v r => dsT o.dst v D.ts fun f => k ⟨f, D.S, D.kt, D.past, .al lo hi id r :: D.ch⟩) = true := hk
  have hrr : Below Tt.ts.length (oaT l ++ oaT c) := fun t ht' => hr t (by unfold ROp.reads; rw [hop]; exact List.mem_append_right _ ht')
  have hfx : FX X E D.ts Tt.ts := ⟨h.fr, hgv⟩
  rw [fNat_eq, oaG_eq hfx (Below.left hrr), oaG_eq hfx (Below.right hrr)] at hk'
  obtain ⟨v, hv, hk'⟩ := mkT_true hk'
  obtain ⟨f', h3, h4⟩ := dst_fin h.fr hd _ hk'
  refine ⟨v, ⟨put Tt.ts o.dst v, Tt.S, Tt.past⟩, ⟨f', D.S, D.kt, D.past, _⟩, [.al lo hi (base + ix) (zerosOf z (msLen v))], ?_, ⟨h3, h.st, h.kt, h.past⟩, by cases o.dst <;> simp [put], rfl, h4, fun stsK sts x hp hx => ?_⟩
  · unfold execD1
    rw [hw, hop]
    simp only
    have hv' : mkV E Tt.ts (base + ix) z sz bytes l c = some v := hv
    rw [hv']
    rfl
  · rw [chks_cons, chks_nil] at hx
    obtain ⟨h5, h6⟩ := chk_al hp hx
    refine ⟨?_, h6⟩
    unfold stab1
    rw [hw, hop]
    exact h5

end Go.Ai


/- Threaded code: the compiled items, and the region. -/
namespace Go.Ai
variable {E : Env} {X : Cx3} {cf : CallFn} {cv : AV → List AV → St → Option (AV × St)} {base : Nat}

theorem coI_sound (ht : TabOk X cf cv) (hgv : ∀ g, X.gv g = E.gv g) {o : ROp} {dk : DK} {Tt : Tr} {D : DsT} {k : DsT → Bool} (h : DR D Tt) (hl : ropSl Tt.ts.length o = true) (hz : ropAl o = true)
    (hk : coI X o dk D.kt base D k = true) : Fin2 E cf cv base o dk Tt D k := by
  obtain ⟨hr, hd⟩ := ropSl_inv hl
  cases dk with
  | p =>
    cases hop : o.op with
    | p po =>
      unfold coI at hk
      rw [hop] at hk
      exact item_op ht hgv h hl hz (.inl ⟨rfl, po, hop⟩) (fun _ _ => stab1_p) hk
    | d dd => unfold coI at hk; rw [hop] at hk; cases hk
    | w ww => unfold coI at hk; rw [hop] at hk; cases hk
  | w =>
    unfold coI at hk
    have hk' : coR X o eO (fun f S => fNat (Nat.succ D.kt) fun n => k ⟨f, S, n, D.S :: D.past, D.ch⟩) D.ts D.S = true := by
      cases hop : o.op <;> rw [hop] at hk <;> exact hk
    simp only [fNat_eq] at hk'
    exact item_op ht hgv h hl hz (.inr (.inr rfl)) (fun _ _ => stab1_w) hk'
  | r lo hi =>
    cases hop : o.op with
    | p po => unfold coI at hk; rw [hop] at hk; cases hk
    | w ww => unfold coI at hk; rw [hop] at hk; cases hk
    | d dd =>
      unfold coI at hk
      rw [hop] at hk
      simp only at hk
      split at hk
      · rename_i hc
        refine item_op ht hgv h hl hz (.inr (.inl ⟨⟨lo, hi, rfl⟩, dd, hop⟩)) (fun sts v => stab1_r fun d _ => ?_) hk
        unfold stable
        rw [if_pos (by rw [← h.kt]; exact hc)]
      · -- a window
        have hrr : Below Tt.ts.length dd.reads := fun t ht' => hr t (by unfold ROp.reads; rw [hop]; exact List.mem_append_right _ ht')
        have hfx : FX X E D.ts Tt.ts := ⟨h.fr, hgv⟩
        have fin : ∀ {rd : Frm → SK → VK}, (∀ T S, SR T S → Imp (rd D.ts T) (aopD E cf Tt.ts S dd)) →
            (match o.gd with | none => iR lo hi rd (dsT o.dst) | some g => iG (gT g.1) g.2 (dsT o.dst) (iR lo hi rd (dsT o.dst))) base D k = true → Fin2 E cf cv base o (.r lo hi) Tt D k := by
          intro rd hrd hk
          cases hg : o.gd with
          | none =>
            rw [hg] at hk
            exact item_rd h hl hop (by rw [hg]; rfl) hrd hk
          | some g =>
            rw [hg] at hk
            exact item_guard h hl hg rfl hk fun hw hk => item_rd h hl hop hw hrd hk
        cases dd with
        | load sz ag a =>
          refine fin (rd := rd1 (ldF sz ag) (oaG X a)) (fun T S hs => ?_) hk
          show Imp (ldF sz ag T (oaG X a D.ts)) _
          rw [oaG_eq hfx hrr]
          exact ldF_sound hs sz ag _
        | b2s x =>
          refine fin (rd := rd1 b2sT (oaG X x)) (fun T S hs => ?_) hk
          show Imp (b2sT T (oaG X x D.ts)) _
          rw [oaG_eq hfx hrr]
          exact b2sT_sound hs _
        | slA n sz x l hh =>
          refine fin (rd := rd3 (slAT l.isSome hh.isSome n sz) (oaG X x) (oaGO X l) (oaGO X hh)) (fun T S hs => ?_) hk
          show Imp (slAT l.isSome hh.isSome n sz T (oaG X x D.ts) (oaGO X l D.ts) (oaGO X hh D.ts)) _
          rw [oaG_eq hfx (Below.left (Below.left hrr))]
          refine (slAT_sound hs l.isSome hh.isSome n sz _ _ _).cast ?_
          simp only [aopD]
          generalize ev E Tt.ts x = z
          cases z <;> simp only [oaGO_eq hfx (Below.right (Below.left hrr)), oaGO_eq hfx (Below.right hrr)] <;> rfl
        | pcall f args =>
          cases hg : o.gd with
          | none => rw [hg] at hk; cases hk
          | some g => rw [hg] at hk; exact item_guard h hl hg rfl hk fun _ hk => by cases hk
        | lkp a b c e g' =>
          cases hg : o.gd with
          | none => rw [hg] at hk; cases hk
          | some g => rw [hg] at hk; exact item_guard h hl hg rfl hk fun _ hk => by cases hk
        | lenM a =>
          cases hg : o.gd with
          | none => rw [hg] at hk; cases hk
          | some g => rw [hg] at hk; exact item_guard h hl hg rfl hk fun _ hk => by cases hk
  | a ix lo hi =>
    cases hop : o.op with
    | p po => unfold coI at hk; rw [hop] at hk; cases hk
    | d dd => unfold coI at hk; rw [hop] at hk; cases hk
    | w ww =>
      unfold coI at hk
      rw [hop] at hk
      cases ww <;> try (cases hk; done)
      case alloc z =>
        simp only at hk
        cases hg : o.gd with
        | none =>
          rw [hg] at hk
          exact item_al h hl hop (by rw [hg]; rfl) hk
        | some g =>
          rw [hg] at hk
          exact item_guard h hl hg rfl hk fun hw hk => item_al h hl hop hw hk
      case mks z sz bytes l c =>
        simp only at hk
        cases hg : o.gd with
        | none =>
          rw [hg] at hk
          exact item_mk hgv h hl hop (by rw [hg]; rfl) hk
        | some g =>
          rw [hg] at hk
          exact item_guard h hl hg rfl hk fun hw hk => item_mk hgv h hl hop hw hk

def ktNext (dk : DK) (kt : Nat) : Nat := match dk with | .w => kt + 1 | _ => kt

theorem coIs_cons {o : ROp} {dk : DK} {l : List (ROp × DK)} {kt : Nat} : coIs X ((o, dk) :: l) kt = coI X o dk kt :: coIs X l (ktNext dk kt) := rfl

theorem coIs_sound (ht : TabOk X cf cv) (hgv : ∀ g, X.gv g = E.gv g) {n : Nat} : ∀ {l : List (ROp × DK)} {Tt : Tr} {D : DsT} {k : DsT → Bool}, DR D Tt → Tt.ts.length = n → (l.all fun p => ropSl n p.1) = true → (l.all fun p => ropAl p.1) = true →
    itT (coIs X l D.kt) base D k = true →
    ∃ es Tn Dn ch, execD E cf cv base l Tt = some (es, Tn) ∧ DR Dn Tn ∧ Tn.ts.length = n ∧ Dn.ch = ch ++ D.ch ∧ k Dn = true ∧
      ∀ stsK sts x, PR stsK sts → chksT stsK ch x = true → stables E cf base sts l es = true ∧ x = true
  | [], Tt, D, k, h, hn, _, _, hk => ⟨[], Tt, D, [], rfl, h, hn, rfl, hk, fun _ _ _ _ hx => ⟨rfl, hx⟩⟩
  | (o, dk) :: l, Tt, D, k, h, hn, hl, hz, hk => by
    simp only [List.all_cons, Bool.and_eq_true] at hl hz
    rw [coIs_cons] at hk
    have hk' : coI X o dk D.kt base D (fun D' => itT (coIs X l (ktNext dk D.kt)) base D' k) = true := hk
    obtain ⟨v, Tt', D', ch, h1, h2, h3, h4, h5, h6⟩ := coI_sound ht hgv h (hn ▸ hl.1) hz.1 hk'
    have hkt : ktNext dk D.kt = D'.kt := by
      rw [h2.kt]
      rcases step_past h1 with ⟨h7, h8⟩ | ⟨h7, h8, _⟩
      · rw [h8, List.length_cons, ← h.kt]
        cases dk <;> first | rfl | cases h7
      · rw [h8, ← h.kt]
        cases dk <;> first | rfl | cases h7
    rw [hkt] at h5
    obtain ⟨es, Tn, Dn, ch2, h7, h8, h9, h10, h11, h12⟩ := coIs_sound ht hgv h2 (h3.trans hn) hl.2 hz.2 h5
    refine ⟨(Tt, v) :: es, Tn, Dn, ch2 ++ ch, by simp only [execD, h1, h7], h8, h9, by rw [h10, h4, List.append_assoc], h11, fun stsK sts x hp hx => ?_⟩
    rw [chks_append] at hx
    obtain ⟨h13, h14⟩ := h12 stsK sts _ hp hx
    obtain ⟨h15, h16⟩ := h6 stsK sts x hp h14
    exact ⟨by simp only [stables, h15, h13, Bool.and_self], h16⟩

end Go.Ai


/- Threaded code: the compiler is sound. -/
namespace Go.Ai
variable {E : Env} {X : Cx3} {cf : CallFn} {cv : AV → List AV → St → Option (AV × St)}

theorem addsK_sound : ∀ {zs : List (List AV)} {T : SK} {S : St} {k : SK → Bool}, SR T S → addsK zs T k = true → ∃ T', SR T' { S with os := S.os ++ zs.map (.row 0) } ∧ k T' = true
  | [], T, S, k, h, hk => ⟨T, ⟨h.lo, by simpa using h.len, by simpa using h.os⟩, hk⟩
  | z :: zs, T, S, k, h, hk => by
    have hk' : addK T (.row 0 z) (fun _ T => addsK zs T k) = true := hk
    obtain ⟨T1, h1, h2⟩ := addK_sound h (row_ObR 0 z) hk'
    obtain ⟨T', h3, h4⟩ := addsK_sound h1 h2
    refine ⟨T', ?_, h4⟩
    have e : ({ addOb S (.row 0 z) with os := (addOb S (.row 0 z)).os ++ zs.map (.row 0) } : St) = { S with os := S.os ++ (z :: zs).map (.row 0) } := by
      simp [addOb]
    rw [← e]
    exact h3

theorem cD_sound (ht : TabOk X cf cv) (hgv : ∀ g, X.gv g = E.gv g) {n : Nat} {l : List (ROp × DK)} {zs : List (List AV)} {kn : Kt} {kx : Nat → Kt} {kr : Kt} {f : Frm} {ts : List AV} {T : SK} {S : St}
    (hf : FrR f ts) (hn : ts.length = n) (hs : SR T S) (hl : (l.all fun p => ropSl n p.1) = true) (hz : (l.all fun p => ropAl p.1) = true) (hk : cD zs (coIs X l 0) kn kx kr f T = true) :
    ∃ ts' S' T' f', draw0 E cf cv l zs ts S = some (ts', S') ∧ SR T' S' ∧ FrR f' ts' ∧ ts'.length = n ∧ kn f' T' = true := by
  have hk' : addsK zs T (fun S0 => itT (coIs X l 0) T.len ⟨f, S0, 0, [], []⟩ fun D =>
    List.rec (motive := fun _ => Bool) (kn D.ts D.S) (fun _ _ _ => revK D.past [D.S] fun sts => chksT sts D.ch (kn D.ts D.S)) D.ch) = true := hk
  obtain ⟨T0, h1, h2⟩ := addsK_sound hs hk'
  rw [hs.len] at h2
  obtain ⟨es, Tn, Dn, ch, h3, h4, h5, h6, h7, h8⟩ := coIs_sound ht hgv (Tt := ⟨ts, { S with os := S.os ++ zs.map (.row 0) }, []⟩) (D := ⟨f, T0, 0, [], []⟩) ⟨hf, h1, rfl, trivial⟩ hn hl hz h2
  have hch : Dn.ch = ch := by rw [h6]; simp
  have hp : PR (Dn.past.reverse ++ [Dn.S]) (Tn.past.reverse ++ [Tn.S]) := PR.append (PR.reverse h4.past) ⟨h4.st, trivial⟩
  have h9 : chksT (Dn.past.reverse ++ [Dn.S]) ch (kn Dn.ts Dn.S) = true := by
    rw [← hch]
    cases hc : Dn.ch with
    | nil => rw [hc] at h7; exact h7
    | cons c cs =>
      rw [hc] at h7
      have h7' : revK Dn.past [Dn.S] (fun sts => chksT sts (c :: cs) (kn Dn.ts Dn.S)) = true := h7
      rw [revK_eq] at h7'
      exact h7'
  obtain ⟨h10, h11⟩ := h8 _ _ _ hp h9
  refine ⟨Tn.ts, Tn.S, Dn.S, Dn.ts, ?_, h4.st, h4.fr, h5, h11⟩
  simp only [draw0, h3]
  rw [if_pos h10]

theorem mkAt_lt {n : Nat} {l : List (ROp × DK)} (hl : (l.all fun p => ropSl n p.1) = true) {ix d : Nat} {z : List AV} (h : mkAt l ix = some (d, z)) : d < n := by
  unfold mkAt at h
  obtain ⟨p, hp, h⟩ := List.exists_of_findSome?_eq_some h
  have := (ropSl_inv (List.all_eq_true.1 hl p hp)).2
  split at h <;> try (cases h; done)
  rename_i hd
  split at h <;> cases h
  rw [hd] at this
  exact this _ rfl

theorem elMn_true {v : AV} {k : Nat → Bool} (h : elMn v k = true) : k (msLen v) = true := by
  unfold elMn at h
  rcases elL_true h with ⟨rfl, h1⟩ | ⟨cs, n, ex, rfl, h1⟩ | ⟨id, ver, off, n, sz', ex, rfl, h1⟩ <;> exact h1

theorem zkOf_true {n : Nat} {l : List (ROp × DK)} (hl : (l.all fun p => ropSl n p.1) = true) {zs : List (List AV)} {f : Frm} {ts : List AV} (hf : FrR f ts) (hn : ts.length = n) {k : List (List AV) → Bool} (hk : mapK (zkK f) (zkOf l zs) k = true) : k (zsFix l zs ts) = true := by
  unfold zkOf at hk
  unfold zsFix
  generalize zs.zipIdx = ps at *
  induction ps generalizing k with
  | nil => exact hk
  | cons p ps ih =>
    simp only [List.map_cons] at hk ⊢
    have hk' : zkK f (match mkAt l p.2 with | some (d, z) => .mk (gT d) z | none => .st p.1) (fun a => mapK (zkK f) (ps.map fun p => match mkAt l p.2 with | some (d, z) => ZK.mk (gT d) z | none => .st p.1) fun r => k (a :: r)) = true := hk
    cases hm : mkAt l p.2 with
    | none =>
      rw [hm] at hk'
      exact ih hk'
    | some dz =>
      obtain ⟨d, z⟩ := dz
      rw [hm] at hk'
      have hk2 : elMn (gT d f) (fun n => zerK z n (fun a => mapK (zkK f) (ps.map fun p => match mkAt l p.2 with | some (d, z) => ZK.mk (gT d) z | none => .st p.1) fun r => k (a :: r))) = true := hk'
      have hk3 := elMn_true hk2
      rw [zerK_eq, hf.2 d (by rw [hn]; exact mkAt_lt hl hm)] at hk3
      exact ih hk3

theorem comp_draw_sound (ht : TabOk X cf cv) (hgv : ∀ g, X.gv g = E.gv g) {n : Nat} {l : List (ROp × DK)} {zs : List (List AV)} {kn : Kt} {kx : Nat → Kt} {kr : Kt} {f : Frm} {ts : List AV} {T : SK} {S : St}
    (hf : FrR f ts) (hn : ts.length = n) (hs : SR T S) (hl : (l.all fun p => ropSl n p.1) = true) (hz : (l.all fun p => ropAl p.1) = true) (hk : comp X (.draw l zs) kn kx kr f T = true) :
    ∃ ts' S' T' f', draw E cf cv l zs ts S = some (ts', S') ∧ SR T' S' ∧ FrR f' ts' ∧ ts'.length = n ∧ kn f' T' = true := by
  unfold comp at hk
  unfold draw
  cases ha : anyMk l with
  | false =>
    rw [ha] at hk
    simp only [Bool.false_eq_true, if_false]
    exact cD_sound ht hgv hf hn hs hl hz hk
  | true =>
    rw [ha] at hk
    have hk' : addsK zs T (fun S0 => itT (coIs X l 0) T.len ⟨f, S0, 0, [], []⟩ fun D => mapK (zkK D.ts) (zkOf l zs) fun zs1 => cD zs1 (coIs X l 0) kn kx kr f T) = true := hk
    obtain ⟨T0, h1, h2⟩ := addsK_sound hs hk'
    rw [hs.len] at h2
    obtain ⟨es, Tn, Dn, ch, h3, h4, h5, h6, h7, h8⟩ := coIs_sound ht hgv (Tt := ⟨ts, { S with os := S.os ++ zs.map (.row 0) }, []⟩) (D := ⟨f, T0, 0, [], []⟩) ⟨hf, h1, rfl, trivial⟩ hn hl hz h2
    simp only [if_true, h3]
    exact cD_sound ht hgv hf hn hs hl hz (zkOf_true hl h4.fr h5 h7)

def contOf (kn : Kt) (kx : Nat → Kt) (kr : Kt) : J → Kt
  | .nrm => kn
  | .exit id => kx id
  | .ret => kr

def CdS (E : Env) (m : Nat) (n : Nat) (rc : RC) (c : Cd) : Prop :=
  ∀ kn kx kr f ts T S, FrR f ts → ts.length = n → SR T S → c kn kx kr f T = true →
    ∃ j ts' S' T' f', den E m rc ts S = some (j, ts', S') ∧ SR T' S' ∧ FrR f' ts' ∧ ts'.length = n ∧ contOf kn kx kr j f' T' = true

theorem loop_sound {n d : Nat} {b : RC} {c : Cd} (hb : ∀ m, d ≤ m → CdS E m n b c) (kn : Kt) (kx : Nat → Kt) (kr : Kt) : ∀ (N m : Nat), d + N + 1 ≤ m → ∀ f ts T S, FrR f ts → ts.length = n → SR T S → loopT c kx kr N f T = true →
    ∃ j ts' S' T' f', den E m (.loop b) ts S = some (j, ts', S') ∧ SR T' S' ∧ FrR f' ts' ∧ ts'.length = n ∧ contOf kn kx kr j f' T' = true
  | 0, m, _, f, ts, T, S, _, _, _, hk => by cases hk
  | N + 1, 0, hm, _, _, _, _, _, _, _, _ => by omega
  | N + 1, m + 1, hm, f, ts, T, S, hf, hn, hs, hk => by
    have hk' : c (loopT c kx kr N) kx kr f T = true := hk
    obtain ⟨j, ts1, S1, T1, f1, h1, h2, h3, h4, h5⟩ := hb m (by omega) _ _ _ f ts T S hf hn hs hk'
    cases j with
    | nrm =>
      obtain ⟨j', ts', S', T', f', h6, h7, h8, h9, h10⟩ := loop_sound hb kn kx kr N m (by omega) f1 ts1 T1 S1 h3 h4 h2 h5
      exact ⟨j', ts', S', T', f', by simp only [den, bodyStep, h1]; exact h6, h7, h8, h9, h10⟩
    | exit id => exact ⟨.exit id, ts1, S1, T1, f1, by simp only [den, bodyStep, h1], h2, h3, h4, h5⟩
    | ret => exact ⟨.ret, ts1, S1, T1, f1, by simp only [den, bodyStep, h1], h2, h3, h4, h5⟩

end Go.Ai


/- Threaded code: the compiler is sound, whole. -/
namespace Go.Ai
variable {E : Env} {X : Cx3}

theorem lpT_true {T : SK} {S : St} (h : SR T S) {id : Nat} {g : Frm → List Nat → RC → RC → Nat → Option J → Bool} (hk : lpT T id g = true) :
    ∃ f ts ps asg body st pend, S.os[id]? = some (.loop ts ps asg body st pend) ∧ FrR f ts ∧ (slots ts.length asg = true ∧ slots ts.length body = true ∧ ps.all (fun p => decide (p < ts.length)) = true ∧ lpOk asg body = true) ∧ g f ps asg body st pend = true := by
  unfold lpT at hk
  rw [get_true] at hk
  obtain ⟨o, ho, hk⟩ := hk
  have hr := h.os id
  rw [ho] at hr
  cases o with
  | row v cs => cases hk
  | loop f ps asg body st pend =>
    cases hs : S.os[id]? with
    | none => rw [hs] at hr; exact hr.elim
    | some o' =>
      rw [hs] at hr
      cases o' with
      | row => exact hr.elim
      | map => exact hr.elim
      | loop ts ps' asg' body' st' pend' =>
        obtain ⟨h1, rfl, rfl, rfl, rfl, rfl, h2⟩ := hr
        exact ⟨f, ts, ps, asg, body, st, pend, rfl, h1, h2, hk⟩

theorem comp_sound (hgv : ∀ g, X.gv g = E.gv g) {d0 : Nat} (ht : ∀ m, d0 ≤ m → TabOk X (callF E (den E m)) (callV E (den E m))) {n : Nat} : ∀ rc : RC, slots n rc = true → allocs rc = true → ∀ m, d0 + wt rc ≤ m → CdS E m n rc (comp X rc) := by
  intro rc
  induction rc with
  | skip =>
    refine fun _ _ m hm => ?_
    simp only [wt] at hm
    intro kn kx kr f ts T S hf hn hs hk
    obtain ⟨m, rfl⟩ : ∃ k, m = k + 1 := ⟨m - 1, by omega⟩
    exact ⟨.nrm, ts, S, T, f, rfl, hs, hf, hn, hk⟩
  | exit id =>
    refine fun _ _ m hm => ?_
    simp only [wt] at hm
    intro kn kx kr f ts T S hf hn hs hk
    obtain ⟨m, rfl⟩ : ∃ k, m = k + 1 := ⟨m - 1, by omega⟩
    exact ⟨.exit id, ts, S, T, f, rfl, hs, hf, hn, hk⟩
  | ret =>
    refine fun _ _ m hm => ?_
    simp only [wt] at hm
    intro kn kx kr f ts T S hf hn hs hk
    obtain ⟨m, rfl⟩ : ∃ k, m = k + 1 := ⟨m - 1, by omega⟩
    exact ⟨.ret, ts, S, T, f, rfl, hs, hf, hn, hk⟩
  | bad =>
    refine fun _ _ m _ => ?_
    intro kn kx kr f ts T S hf hn hs hk
    cases hk
  | ops l =>
    refine fun hl hz m hm => ?_
    simp only [wt] at hm
    intro kn kx kr f ts T S hf hn hs hk
    obtain ⟨m, rfl⟩ : ∃ k, m = k + 1 := ⟨m - 1, by omega⟩
    have hk' : coL X l kn f T = true := hk
    obtain ⟨ts', S', T', f', h1, h2, h3, h4, h5⟩ := coL_sound (ht m (by omega)) hgv hf hn hs hl hz hk'
    exact ⟨.nrm, ts', S', T', f', by simp only [den, bodyStep, h1]; rfl, h2, h3, h4, h5⟩
  | draw l zs =>
    refine fun hl hz m hm => ?_
    simp only [wt] at hm
    intro kn kx kr f ts T S hf hn hs hk
    obtain ⟨m, rfl⟩ : ∃ k, m = k + 1 := ⟨m - 1, by omega⟩
    obtain ⟨ts', S', T', f', h1, h2, h3, h4, h5⟩ := comp_draw_sound (kx := kx) (kr := kr) (ht m (by omega)) hgv hf hn hs hl hz hk
    exact ⟨.nrm, ts', S', T', f', by simp only [den, bodyStep, h1]; rfl, h2, h3, h4, h5⟩
  | seq a b iha ihb =>
    intro hl hz m hm
    simp only [wt] at hm
    simp only [slots, allocs, Bool.and_eq_true] at hl hz
    have ha := iha hl.1 hz.1
    have hb := ihb hl.2 hz.2
    intro kn kx kr f ts T S hf hn hs hk
    obtain ⟨m, rfl⟩ : ∃ k, m = k + 1 := ⟨m - 1, by omega⟩
    have hk' : comp X a (comp X b kn kx kr) kx kr f T = true := hk
    obtain ⟨j, ts1, S1, T1, f1, h1, h2, h3, h4, h5⟩ := ha m (by omega) _ _ _ f ts T S hf hn hs hk'
    cases j with
    | nrm =>
      obtain ⟨j', ts', S', T', f', h6, h7, h8, h9, h10⟩ := hb m (by omega) kn kx kr f1 ts1 T1 S1 h3 h4 h2 h5
      exact ⟨j', ts', S', T', f', by simp only [den, bodyStep, h1]; exact h6, h7, h8, h9, h10⟩
    | exit id => exact ⟨.exit id, ts1, S1, T1, f1, by simp only [den, bodyStep, h1], h2, h3, h4, h5⟩
    | ret => exact ⟨.ret, ts1, S1, T1, f1, by simp only [den, bodyStep, h1], h2, h3, h4, h5⟩
  | cond x a b iha ihb =>
    intro hl hz m hm
    simp only [wt] at hm
    simp only [slots, allocs, Bool.and_eq_true] at hl hz
    have ha := iha hl.1.2 hz.1
    have hb := ihb hl.2 hz.2
    intro kn kx kr f ts T S hf hn hs hk
    obtain ⟨m, rfl⟩ : ∃ k, m = k + 1 := ⟨m - 1, by omega⟩
    have hk' : elB (oaG X x f) (fun t => Bool.rec (motive := fun _ => Bool) (comp X b kn kx kr f T) (comp X a kn kx kr f T) t) = true := hk
    have hx : Below ts.length (oaT x) := by
      cases x with
      | t k => intro t htt; simp only [oaT, List.mem_singleton] at htt; subst htt; rw [hn]; simpa [oaSl] using hl.1.1
      | c v => intro t htt; simp [oaT] at htt
      | g k => intro t htt; simp [oaT] at htt
    rw [oaG_eq ⟨hf, hgv⟩ hx, elB_true] at hk'
    obtain ⟨t, h1, h2⟩ := hk'
    cases t with
    | true =>
      obtain ⟨j', ts', S', T', f', h6, h7, h8, h9, h10⟩ := ha m (by omega) kn kx kr f ts T S hf hn hs h2
      exact ⟨j', ts', S', T', f', by simp only [den, bodyStep, h1]; exact h6, h7, h8, h9, h10⟩
    | false =>
      obtain ⟨j', ts', S', T', f', h6, h7, h8, h9, h10⟩ := hb m (by omega) kn kx kr f ts T S hf hn hs h2
      exact ⟨j', ts', S', T', f', by simp only [den, bodyStep, h1]; exact h6, h7, h8, h9, h10⟩
  | block id b ih =>
    intro hl hz m hm
    simp only [wt] at hm
    have hb := ih hl hz
    intro kn kx kr f ts T S hf hn hs hk
    obtain ⟨m, rfl⟩ : ∃ k, m = k + 1 := ⟨m - 1, by omega⟩
    have hk' : comp X b kn (blkT id kn kx) kr f T = true := hk
    obtain ⟨j, ts1, S1, T1, f1, h1, h2, h3, h4, h5⟩ := hb m (by omega) _ _ _ f ts T S hf hn hs hk'
    cases j with
    | nrm => exact ⟨.nrm, ts1, S1, T1, f1, by simp only [den, bodyStep, h1], h2, h3, h4, h5⟩
    | ret => exact ⟨.ret, ts1, S1, T1, f1, by simp only [den, bodyStep, h1], h2, h3, h4, h5⟩
    | exit id' =>
      have h5' : Bool.rec (motive := fun _ => Bool) (kx id' f1 T1) (kn f1 T1) (Nat.beq id' id) = true := h5
      cases hb' : Nat.beq id' id with
      | false =>
        rw [hb'] at h5'
        have hne : ¬ id' = id := fun e => by rw [Nat.beq_eq.mpr e] at hb'; cases hb'
        exact ⟨.exit id', ts1, S1, T1, f1, by simp only [den, bodyStep, h1]; rw [if_neg hne], h2, h3, h4, h5'⟩
      | true =>
        rw [hb'] at h5'
        exact ⟨.nrm, ts1, S1, T1, f1, by simp only [den, bodyStep, h1]; rw [if_pos (Nat.eq_of_beq_eq_true hb')], h2, h3, h4, h5'⟩
  | loop b ih =>
    intro hl hz m hm
    simp only [wt] at hm
    have hb := ih hl hz
    intro kn kx kr f ts T S hf hn hs hk
    exact loop_sound (d := d0 + wt b) hb kn kx kr loopFuel m (by omega) f ts T S hf hn hs hk
  | range x ps asg body _ _ =>
    intro hl hz m hm
    simp only [wt] at hm
    simp only [slots, Bool.and_eq_true] at hl
    intro kn kx kr f ts T S hf hn hs hk
    obtain ⟨m, rfl⟩ : ∃ k, m = k + 1 := ⟨m - 1, by omega⟩
    have hk' : elF (oaG X x f) (fun n a b => addK T (.loop f ps asg body 0 none) fun id S => catK [.yl id] b fun q => catK a q fun q => X.tabv n q S fun _ S =>
      lpT S id fun f1 p1 a1 b1 st pend => ifK (Nat.beq st 0 || Nat.beq st 2) (setK S id (.loop f1 p1 a1 b1 3 none) fun S =>
        Option.rec (motive := fun _ => Bool) (kn f S) (fun j => J.rec (motive := fun _ => Bool) (kn f S) (fun id => kx id f S) (kr f S) j) pend)) = true := hk
    have hx : Below ts.length (oaT x) := by
      cases x with
      | t k => intro t htt; simp only [oaT, List.mem_singleton] at htt; subst htt; rw [hn]; simpa [oaSl] using hl.1.1.1
      | c v => intro t htt; simp [oaT] at htt
      | g k => intro t htt; simp [oaT] at htt
    rw [oaG_eq ⟨hf, hgv⟩ hx, elF_true] at hk'
    obtain ⟨nf, a, b, hfn, h1⟩ := hk'
    have hob : ObR (some (.loop f ps asg body 0 none)) (some (.loop ts ps asg body 0 none)) := ⟨hf, rfl, rfl, rfl, rfl, rfl, by rw [hn]; exact hl.1.2, by rw [hn]; exact hl.2, by rw [hn]; exact hl.1.1.2, hz⟩
    obtain ⟨T1, hs1, h2⟩ := addK_sound hs hob h1
    rw [catK_eq, catK_eq] at h2
    obtain ⟨v, S2, T2, hcall, hs2, h3⟩ := (ht m (by omega)).fv nf a b [.yl S.os.length] T1 _ hs1 _ h2
    obtain ⟨f1, ts1, p1, a1, b1, st, pend, hob1, hf1, hlp, h4⟩ := lpT_true hs2 h3
    rw [ifK_true] at h4
    obtain ⟨hst, h5⟩ := h4
    have hst' : st = 0 ∨ st = 2 := by
      simp only [Bool.or_eq_true] at hst
      rcases hst with h | h
      · exact .inl (Nat.eq_of_beq_eq_true h)
      · exact .inr (Nat.eq_of_beq_eq_true h)
    have hob3 : ObR (some (.loop f1 p1 a1 b1 3 none)) (some (.loop ts1 p1 a1 b1 3 none)) := ⟨hf1, rfl, rfl, rfl, rfl, rfl, hlp⟩
    obtain ⟨T3, hs3, h6⟩ := setK_sound hs2 hob3 h5
    have hcall' : callF E (den E m) nf (a ++ [.yl S.os.length] ++ b) (addOb S (.loop ts ps asg body 0 none)) = some (v, S2) := by
      simpa [callV] using hcall
    refine ⟨pend.getD .nrm, ts, setOb S2 S.os.length (.loop ts1 p1 a1 b1 3 none), T3, f, ?_, hs3, hf, hn, ?_⟩
    · simp only [den, bodyStep, hfn, hcall', hob1]
      rw [if_pos hst']
      cases pend <;> rfl
    · cases pend with
      | none => exact h6
      | some j => cases j <;> exact h6

end Go.Ai


/- Threaded code: functions. -/
namespace Go.Ai
variable {E : Env} {X : Cx3}

theorem grp0_get {j : Nat} (hj : j < 16) : lookL gG0 gGs j grp0 = u := by
  rcases lt16 hj with rfl | rfl | rfl | rfl | rfl | rfl | rfl | rfl | rfl | rfl | rfl | rfl | rfl | rfl | rfl | rfl <;> rfl
theorem frm0_get {i : Nat} (hi : i < 20) : lookL gF0 gFs i frm0 = grp0 := by
  rcases lt20 hi with rfl | rfl | rfl | rfl | rfl | rfl | rfl | rfl | rfl | rfl | rfl | rfl | rfl | rfl | rfl | rfl | rfl | rfl | rfl | rfl <;> rfl
theorem frm0_slot {n : Nat} (hn : n < 320) : gT n frm0 = u := by
  have hi : Nat.div n 16 < 20 := Nat.div_lt_of_lt_mul (by omega)
  have hj : Nat.mod n 16 < 16 := Nat.mod_lt _ (by omega)
  show lookL gG0 gGs (Nat.mod n 16) (lookL gF0 gFs (Nat.div n 16) frm0) = u
  rw [frm0_get hi, grp0_get hj]

theorem frm0_FrR {nt : Nat} (h : nt ≤ 320) : FrR frm0 (List.replicate nt (.tup [])) := by
  refine ⟨by simpa using h, fun n hn => ?_⟩
  simp only [List.length_replicate] at hn
  rw [frm0_slot (by omega), List.getD_eq_getElem?_getD, List.getElem?_replicate, if_pos hn]
  rfl

theorem bindT_sound : ∀ (q i : Nat) (args : List AV) (f : Frm) (ts : List AV) (k : Frm → Bool), FrR f ts → i + q ≤ ts.length → bindT ((List.range' i q).map sT) args f k = true →
    args.length ≤ q ∧ ∃ f', FrR f' (ts.take i ++ args ++ ts.drop (i + args.length)) ∧ k f' = true
  | 0, i, [], f, ts, k, hf, _, hk => ⟨Nat.le_refl _, f, by simpa using hf, hk⟩
  | 0, i, a :: args, f, ts, k, _, _, hk => by cases hk
  | q + 1, i, [], f, ts, k, hf, _, hk => ⟨Nat.zero_le _, f, by simpa using hf, hk⟩
  | q + 1, i, a :: args, f, ts, k, hf, hq, hk => by
    simp only [List.range'_succ, List.map_cons] at hk
    have hk' : sT i a f (fun f => bindT ((List.range' (i + 1) q).map sT) args f k) = true := hk
    obtain ⟨f1, h1, h2⟩ := hf.set (n := i) (by omega) a
    rw [h1] at hk'
    obtain ⟨h3, f', h4, h5⟩ := bindT_sound q (i + 1) args f1 (ts.set i a) k h2 (by simp; omega) hk'
    refine ⟨by simpa using h3, f', ?_, h5⟩
    have e : (ts.set i a).take (i + 1) ++ args ++ (ts.set i a).drop (i + 1 + args.length) = ts.take i ++ a :: args ++ ts.drop (i + (a :: args).length) := by
      rw [List.take_add_one, List.getElem?_set_self (by omega), List.take_set_of_le (Nat.le_refl _), List.drop_set_of_lt (by omega)]
      simp only [Option.toList, List.append_assoc, List.length_cons, List.cons_append, List.nil_append]
      rw [show i + 1 + args.length = i + (args.length + 1) by omega]
    rw [← e]
    exact h4

def resSl (n : Nat) : RRes → Bool
  | .t m => decide (m < n)
  | .cell a _ _ => decide (a < n)

theorem res1_sound {T : SK} {S : St} {f : Frm} {ts : List AV} (hf : FrR f ts) (hs : SR T S) {r : RRes} (hr : resSl ts.length r = true) : Imp (coRes1 r f T) (resOf ts S r) := by
  cases r with
  | t m =>
    intro k hk
    have hk' : k (gT m f) = true := hk
    rw [hf.2 m (by simpa [resSl] using hr)] at hk'
    exact ⟨_, rfl, hk'⟩
  | cell a sz ag =>
    have : coRes1 (.cell a sz ag) f T = ldT sz ag T (gT a f) := rfl
    rw [this, hf.2 a (by simpa [resSl] using hr)]
    exact ldT_sound hs sz ag _


/-- What a function hands back. -/
theorem coRes_sound {T : SK} {S : St} {f : Frm} {ts : List AV} (hf : FrR f ts) (hs : SR T S) {l : List RRes} (hl : l.all (resSl ts.length) = true) {k : AV → SK → Bool} (hk : coRes l f T k = true) :
    ∃ v, ressOf ts S l = some v ∧ k v T = true := by
  have many : ∀ {l : List RRes}, l.all (resSl ts.length) = true → rN (l.map coRes1) f T k = true → ∃ v, ressOf ts S l = some v ∧ k v T = true := by
    intro l hl hk
    have hk' : mapK (fun x k => x f T k) (l.map coRes1) (fun vs => oneOfK vs fun v => k v T) = true := hk
    have key : ∀ (l : List RRes) (k : List AV → Bool), l.all (resSl ts.length) = true → mapK (fun (x : Frm → SK → VK) k => x f T k) (l.map coRes1) k = true → ∃ vs, l.mapM (resOf ts S) = some vs ∧ k vs = true := by
      intro l
      induction l with
      | nil => exact fun k _ h => ⟨[], by simp, h⟩
      | cons r l ih =>
        intro k hl h
        simp only [List.all_cons, Bool.and_eq_true] at hl
        have h' : coRes1 r f T (fun v => mapK (fun (x : Frm → SK → VK) k => x f T k) (l.map coRes1) fun vs => k (v :: vs)) = true := h
        obtain ⟨v, hv, h2⟩ := res1_sound hf hs hl.1 _ h'
        obtain ⟨vs, hvs, h3⟩ := ih _ hl.2 h2
        exact ⟨v :: vs, by simp [List.mapM_cons, hv, hvs], h3⟩
    obtain ⟨vs, hvs, h2⟩ := key l _ hl hk'
    rw [oneOfK_eq] at h2
    exact ⟨_, by unfold ressOf; rw [hvs]; rfl, h2⟩
  match l, hl, hk with
  | [], hl, hk => exact many hl hk
  | [.t n], hl, hk =>
    have hk' : k (gT n f) T = true := hk
    rw [hf.2 n (by simpa [resSl] using hl)] at hk'
    exact ⟨_, rfl, hk'⟩
  | [.cell a sz ag], hl, hk => exact many hl hk
  | r :: r' :: l, hl, hk => exact many hl (by cases r <;> exact hk)

/-- What is asked of a function, once. -/
def okFn (rf : RF) (q : Nat) : Bool := !rf.pure && decide (rf.nt ≤ 320) && decide (q ≤ rf.nt) && slots rf.nt rf.body && allocs rf.body && rf.res.all (resSl rf.nt)

def FnS (E : Env) (n : Nat) (F : Fc) : Prop := ∃ d, ∀ m, d ≤ m → ∀ args T S, SR T S → ImpS (F args T) (callF E (den E m) n args S)

theorem fn_sound (hgv : ∀ g, X.gv g = E.gv g) {d0 : Nat} (ht : ∀ m, d0 ≤ m → TabOk X (callF E (den E m)) (callV E (den E m))) {n q : Nat} {rf : RF} (hrf : E.fs n = some rf) (hok : okFn rf q = true) :
    FnS E n (fnT ((List.range' 0 q).map sT) (coRes rf.res) (comp X rf.body)) := by
  simp only [okFn, Bool.and_eq_true, Bool.not_eq_true', decide_eq_true_eq] at hok
  obtain ⟨⟨⟨⟨⟨hp, hnt⟩, hq⟩, hsl⟩, hal⟩, hres⟩ := hok
  have hd := comp_sound hgv ht rf.body hsl hal
  refine ⟨d0 + wt rf.body, fun m hm args T S hs k hk => ?_⟩
  have hk' : bindT ((List.range' 0 q).map sT) args frm0 (fun f => comp X rf.body (fun f S => coRes rf.res f S k) (fun _ _ _ => false) (fun f S => coRes rf.res f S k) f T) = true := hk
  obtain ⟨h1, f', h2, h3⟩ := bindT_sound q 0 args frm0 (List.replicate rf.nt (.tup [])) _ (frm0_FrR hnt) (by simpa using hq) hk'
  have hts : (List.replicate rf.nt (AV.tup [])).take 0 ++ args ++ (List.replicate rf.nt (AV.tup [])).drop (0 + args.length) = args ++ List.replicate (rf.nt - args.length) (.tup []) := by simp
  rw [hts] at h2
  have hlen : (args ++ List.replicate (rf.nt - args.length) (AV.tup [])).length = rf.nt := by simp; omega
  obtain ⟨j, ts', S', T', f1, h4, h5, h6, h7, h8⟩ := hd m hm _ _ _ f' _ T S h2 hlen hs h3
  have fin : coRes rf.res f1 T' k = true → (∀ id, j ≠ .exit id) → ∃ v S' T', callF E (den E m) n args S = some (v, S') ∧ SR T' S' ∧ k v T' = true := by
    intro h9 hj
    obtain ⟨v, hv, h10⟩ := coRes_sound h6 h5 (by rw [h7]; exact hres) h9
    refine ⟨v, S', T', ?_, h5, h10⟩
    unfold callF
    rw [hrf]
    simp only [hp, Bool.false_eq_true, if_false, h4]
    cases j with
    | exit id => exact absurd rfl (hj id)
    | nrm => simp only [hv, Option.bind_some]
    | ret => simp only [hv, Option.bind_some]
  cases j with
  | nrm => exact fin h8 (fun id e => by cases e)
  | ret => exact fin h8 (fun id e => by cases e)
  | exit id => cases h8

end Go.Ai


/- Threaded code: rounds. -/
namespace Go.Ai
variable {E : Env} {X : Cx3}

theorem psT_sound : ∀ (ps : List Nat) (args : List AV) (f : Frm) (ts : List AV) (k : Frm → Bool), FrR f ts → ps.all (fun p => decide (p < ts.length)) = true → psT ps args f k = true →
    args.length = ps.length ∧ ∃ f', FrR f' ((ps.zip args).foldl (fun ts (p, a) => ts.set p a) ts) ∧ k f' = true
  | [], [], f, ts, k, hf, _, hk => ⟨rfl, f, hf, hk⟩
  | [], _ :: _, _, _, _, _, _, hk => by cases hk
  | _ :: _, [], _, _, _, _, _, hk => by cases hk
  | p :: ps, a :: args, f, ts, k, hf, hp, hk => by
    simp only [List.all_cons, Bool.and_eq_true, decide_eq_true_eq] at hp
    have hk' : sT p a f (fun f => psT ps args f k) = true := hk
    obtain ⟨f1, h1, h2⟩ := hf.set hp.1 a
    rw [h1] at hk'
    obtain ⟨h3, f', h4, h5⟩ := psT_sound ps args f1 (ts.set p a) k h2 (by simpa using hp.2) hk'
    exact ⟨by simp [h3], f', h4, h5⟩

theorem none_true {pend : Option J} (h : Option.rec (motive := fun _ => Bool) true (fun _ => false) pend = true) : pend = none := by
  cases pend with
  | none => rfl
  | some j => cases h

theorem lpOk_inv {a b : RC} (h : lpOk a b = true) : wt a ≤ bigW ∧ wt b ≤ bigW ∧ allocs a = true ∧ allocs b = true := by
  simp only [lpOk, lpOk0, Bool.and_eq_true] at h
  exact ⟨Nat.le_of_ble_eq_true h.1.1, Nat.le_of_ble_eq_true h.1.2, h.2.1, h.2.2⟩


theorem fin_round {T : SK} {S : St} {id : Nat} {j : J} {k : AV → SK → Bool} (h : SR T S) (hk : finT id j k T = true) :
    ∃ t2 p2 a2 b2 S' T', S.os[id]? = some (.loop t2 p2 a2 b2 1 none) ∧ S' = setOb S id (.loop t2 p2 a2 b2 (if j.isN then 0 else 2) (if j.isN then none else some j)) ∧ SR T' S' ∧ k (.bool j.isN) T' = true := by
  unfold finT at hk
  obtain ⟨f, ts, ps, asg, body, st, pend, hob, hf, hlp, h1⟩ := lpT_true h hk
  rw [ifK_true, ifK_true] at h1
  obtain ⟨h2, h3, h4⟩ := h1
  have e := Nat.eq_of_beq_eq_true h2
  subst e
  have e2 := none_true h3
  subst e2
  cases j with
  | nrm =>
    obtain ⟨T', h5, h6⟩ := setK_sound (o' := .loop ts ps asg body 0 none) h (show ObR (some (.loop f ps asg body 0 none)) (some (.loop ts ps asg body 0 none)) from ⟨hf, rfl, rfl, rfl, rfl, rfl, hlp⟩) h4
    exact ⟨ts, ps, asg, body, _, T', hob, rfl, h5, h6⟩
  | exit i =>
    obtain ⟨T', h5, h6⟩ := setK_sound (o' := .loop ts ps asg body 2 (some (.exit i))) h (show ObR (some (.loop f ps asg body 2 (some (.exit i)))) (some (.loop ts ps asg body 2 (some (.exit i)))) from ⟨hf, rfl, rfl, rfl, rfl, rfl, hlp⟩) h4
    exact ⟨ts, ps, asg, body, _, T', hob, rfl, h5, h6⟩
  | ret =>
    obtain ⟨T', h5, h6⟩ := setK_sound (o' := .loop ts ps asg body 2 (some .ret)) h (show ObR (some (.loop f ps asg body 2 (some .ret))) (some (.loop ts ps asg body 2 (some .ret))) from ⟨hf, rfl, rfl, rfl, rfl, rfl, hlp⟩) h4
    exact ⟨ts, ps, asg, body, _, T', hob, rfl, h5, h6⟩


theorem foldl_len : ∀ (l : List (Nat × AV)) (ts : List AV), (l.foldl (fun ts (p, a) => ts.set p a) ts).length = ts.length
  | [], _ => rfl
  | (p, a) :: l, ts => by
    simp only [List.foldl_cons]
    rw [foldl_len l]
    simp

theorem yieldT_sound (hgv : ∀ g, X.gv g = E.gv g) {d0 : Nat} (ht : ∀ m, d0 ≤ m → TabOk X (callF E (den E m)) (callV E (den E m))) {m : Nat} (hm : d0 + bigW ≤ m) (id : Nat) (args : List AV) {T : SK} {S : St} (hs : SR T S) :
    ImpS (yieldT X id args T) (yieldF (den E m) id args S) := by
  intro k hk
  unfold yieldT at hk
  obtain ⟨f, ts, ps, asg, body, st, pend, hob, hf, hlp, h1⟩ := lpT_true hs hk
  obtain ⟨hsa, hsb, hps, hok⟩ := hlp
  obtain ⟨hwa, hwb, hala, halb⟩ := lpOk_inv hok
  rw [ifK_true, ifK_true, ifK_true] at h1
  obtain ⟨h2, h3, h4, h5⟩ := h1
  have e := Nat.eq_of_beq_eq_true h2
  subst e
  have e2 := none_true h3
  subst e2
  have hlo : S.lo ≤ id := by rw [← hs.lo]; exact Nat.le_of_ble_eq_true h4
  obtain ⟨hlen, f1, hf1, h6⟩ := psT_sound ps args f ts _ hf hps h5
  have hl1 := foldl_len (ps.zip args) ts
  obtain ⟨j1, ts1, S1, T1, f2, h7, h8, h9, h10, h11⟩ := comp_sound hgv ht asg hsa hala m (by omega) _ _ _ f1 _ T S hf1 hl1 hs h6
  cases j1 with
  | exit i => cases h11
  | ret => cases h11
  | nrm =>
  obtain ⟨g1, t1, p1, a1, b1, st1, pend1, hob1, hg1, hlp1, h12⟩ := lpT_true h8 h11
  rw [ifK_true, ifK_true] at h12
  obtain ⟨h13, h14, h15⟩ := h12
  have e := Nat.eq_of_beq_eq_true h13
  subst e
  have e2 := none_true h14
  subst e2
  obtain ⟨T2, hs2, h16⟩ := setK_sound (o' := .loop t1 p1 a1 b1 1 none) h8 (show ObR (some (.loop g1 p1 a1 b1 1 none)) (some (.loop t1 p1 a1 b1 1 none)) from ⟨hg1, rfl, rfl, rfl, rfl, rfl, hlp1⟩) h15
  obtain ⟨j2, ts2, S3, T3, f3, h17, h18, h19, h20, h21⟩ := comp_sound hgv ht body hsb halb m (by omega) _ _ _ f2 ts1 T2 _ h9 h10 hs2 h16
  have h22 : finT id j2 k T3 = true := by cases j2 <;> exact h21
  obtain ⟨t2, p2, a2, b2, S', T', hob2, hS', hs', hk'⟩ := fin_round h18 h22
  refine ⟨_, S', T', ?_, hs', hk'⟩
  unfold yieldF
  simp only [hob]
  rw [if_pos ⟨hlo, hlen⟩]
  simp only [h7, hob1, h17, hob2, hS']

end Go.Ai


/- Threaded code: tables of functions. -/
namespace Go.Ai
variable {E : Env}

theorem fX_sound (n : Nat) : FnS E n (fun _ _ _ => false) := ⟨0, fun _ _ _ _ _ _ _ h => by cases h⟩

/-- A table, from some place on: one bound for all. -/
def TabS (E : Env) (i : Nat) (l : List Fc) : Prop := ∃ d, ∀ m, d ≤ m → ∀ n args T S, SR T S → ImpS (lookL (fun _ _ _ => false) l n args T) (callF E (den E m) (i + n) args S)

theorem TabS.nil (i : Nat) : TabS E i [] := ⟨0, fun _ _ _ _ _ _ _ _ h => by cases h⟩

theorem TabS.cons {i : Nat} {F : Fc} {l : List Fc} (hF : FnS E i F) (hl : TabS E (i + 1) l) : TabS E i (F :: l) := by
  obtain ⟨d, hd⟩ := hF
  obtain ⟨d', hd'⟩ := hl
  refine ⟨d + d', fun m hm n args T S hs => ?_⟩
  cases n with
  | zero => exact hd m (by omega) args T S hs
  | succ n =>
    have := hd' m (by omega) n args T S hs
    rw [show i + (n + 1) = i + 1 + n by omega]
    exact this


/-- A table of functions, as a context takes it. -/
def TabF (E : Env) (F : Nat → Fc) : Prop := ∃ d, ∀ m, d ≤ m → ∀ n args T S, SR T S → ImpS (F n args T) (callF E (den E m) n args S)
def YlF (E : Env) (F : Nat → Fc) : Prop := ∃ d, ∀ m, d ≤ m → ∀ id args T S, SR T S → ImpS (F id args T) (yieldF (den E m) id args S)

theorem TabS.tab {l : List Fc} (h : TabS E 0 l) : TabF E (lookL (fun _ _ _ => false) l) := by
  obtain ⟨d, hd⟩ := h
  refine ⟨d, fun m hm n args T S hs => ?_⟩
  have := hd m hm n args T S hs
  rwa [Nat.zero_add] at this

theorem TabF.none : TabF E (fun _ _ _ _ => false) := ⟨0, fun _ _ _ _ _ _ _ _ h => by cases h⟩
theorem YlF.none : YlF E (fun _ _ _ _ => false) := ⟨0, fun _ _ _ _ _ _ _ _ h => by cases h⟩

theorem tabOk {gv : Nat → AV} {tab tabv yl : Nat → Fc} (h1 : TabF E tab) (h2 : TabF E tabv) (h3 : YlF E yl) : ∃ d0, ∀ m, d0 ≤ m → TabOk ⟨gv, tab, tabv, yl⟩ (callF E (den E m)) (callV E (den E m)) := by
  obtain ⟨d1, h1⟩ := h1
  obtain ⟨d2, h2⟩ := h2
  obtain ⟨d3, h3⟩ := h3
  refine ⟨d1 + d2 + d3, fun m hm => ⟨fun n args T S hs => h1 m (by omega) n args T S hs, fun n a b args T S hs => ?_, fun id args T S hs => h3 m (by omega) id args T S hs⟩⟩
  have := h2 m (by omega) n (a ++ (args ++ b)) T S hs
  rw [← List.append_assoc] at this
  rw [← List.append_assoc]
  exact this

/-- Rounds. -/
theorem ylOk {gv : Nat → AV} {tab : Nat → Fc} (hgv : ∀ g, gv g = E.gv g) (h : TabF E tab) : YlF E (yieldT (inY gv tab)) := by
  obtain ⟨d0, h0⟩ := tabOk (gv := gv) h (TabF.none (E := E)) (YlF.none (E := E))
  exact ⟨d0 + bigW, fun m hm id args T S hs => yieldT_sound (X := inY gv tab) hgv h0 hm id args hs⟩

/-- A function's code, compiled. -/
theorem fnOk {gv : Nat → AV} {tab tabv yl : Nat → Fc} (hgv : ∀ g, gv g = E.gv g) (h1 : TabF E tab) (h2 : TabF E tabv) (h3 : YlF E yl) {n q : Nat} {rf : RF} (hrf : E.fs n = some rf) (hok : okFn rf q = true)
    {F : Fc} (hF : fnT ((List.range' 0 q).map sT) (coRes rf.res) (comp ⟨gv, tab, tabv, yl⟩ rf.body) = F) : FnS E n F := by
  obtain ⟨d0, h0⟩ := tabOk (gv := gv) h1 h2 h3
  rw [← hF]
  exact fn_sound (X := ⟨gv, tab, tabv, yl⟩) hgv h0 hrf hok

end Go.Ai


/- Arguments that read as data stand for abstract values. -/
namespace Go.Ai
variable {P : Program} {K : KW} {w : World}

/-- Cells of a type, as abstract values. -/
inductive Ty (P : Program) : TypeId → List AV → Prop
  | bool {t : TypeId} (b : Bool) (h : P.underlying t = some .bool) : Ty P t [.bool b]
  | int {t : TypeId} {k : IntKind} (n : Int) (h : P.underlying t = some (.int k)) (hw : (Lit.int k n).wf = true) : Ty P t [.int k n]
  | str {t : TypeId} (s : List UInt8) (h : P.underlying t = some .string) (hw : s.length ≤ maxLen) : Ty P t [.str s]
  | sl {t e : TypeId} (l : List (List AV)) (h : P.underlying t = some (.slice e)) (hw : l.length ≤ maxLen) (hl : l.flatten.length = l.length * P.cellsOf e) (hs : ∀ (j : Nat) as, l[j]? = some as → Ty P e as) : Ty P t [.sl l.flatten l.length false]
  | struct {t : TypeId} {fs : Array Field} (l : List (List AV)) (h : P.underlying t = some (.struct fs)) (hl : l.length = fs.size) (hn : l.flatten.length = P.cellsOf t) (hs : ∀ (j : Nat) f as, fs[j]? = some f → l[j]? = some as → Ty P f.type as) : Ty P t l.flatten

def plainT (P : Program) (t : TypeId) : Bool := match P.underlying t with
  | some .bool | some (.int _) | some .string | some (.slice _) | some (.struct _) => true
  | _ => false

theorem pieces_of {α : Type} : ∀ (szs : List Nat) (cs : List α), cs.length = szs.sum →
    ∃ ps : List (List α), ps.length = szs.length ∧ ps.flatten = cs ∧ ∀ (j : Nat) sz, szs[j]? = some sz → ps[j]? = some ((cs.drop (szs.take j).sum).take sz)
  | [], cs, h => ⟨[], rfl, by simp at h; simp [h], fun j sz hj => by simp at hj⟩
  | z :: szs, cs, h => by
    simp only [List.sum_cons] at h
    obtain ⟨ps, h1, h2, h3⟩ := pieces_of szs (cs.drop z) (by simp; omega)
    refine ⟨cs.take z :: ps, by simp [h1], by simp [h2], fun j sz hj => ?_⟩
    cases j with
    | zero => simp at hj; subst hj; simp
    | succ j =>
      simp only [List.getElem?_cons_succ] at hj ⊢
      rw [h3 j sz hj]
      simp [List.drop_drop]

theorem join_of {Q : Nat → List AV → Prop} : ∀ (ps : List (List Value)), (∀ (j : Nat) p, ps[j]? = some p → ∃ as, Q j as ∧ VRs K w as p) →
    ∃ l : List (List AV), l.length = ps.length ∧ (∀ (j : Nat) as, l[j]? = some as → Q j as) ∧ VRs K w l.flatten ps.flatten
  | [], _ => ⟨[], rfl, fun j as h => by simp at h, by simpa using VRs.nil⟩
  | p :: ps, h => by
    obtain ⟨as, ha, hr⟩ := h 0 p rfl
    obtain ⟨l, h1, h2, h3⟩ := join_of (Q := fun j => Q (j + 1)) ps fun j p hp => h (j + 1) p (by simpa using hp)
    refine ⟨as :: l, by simp [h1], fun j bs hj => ?_, by simpa using hr.append h3⟩
    cases j with
    | zero => simp at hj; subst hj; exact ha
    | succ j => exact h2 j bs (by simpa using hj)

theorem cells_rows {base sz : Nat} {a : Addr} : ∀ (len : Nat) (cs : Nat → List Value), (∀ i, i < len → w.cells? base (a.add (i * sz)) sz = some (cs i)) →
    ∀ (j : Nat) v, (((List.range len).map cs).flatten)[j]? = some v → w.cell? (a.add j) = some v
  | 0, cs, _, j, v, h => by simp at h
  | len + 1, cs, h, j, v, hv => by
    have hall : ∀ i, i < len + 1 → (cs i).length = sz := fun i hi => (World.cells?_some (h i hi)).2.1
    have hfl : (((List.range len).map cs).flatten).length = len * sz := by
      rw [List.length_flatten, List.map_map]
      have : (List.length ∘ cs) = fun i => (cs i).length := rfl
      rw [this]
      have hc : (List.range len).map (fun i => (cs i).length) = List.replicate len sz := by
        refine List.ext_getElem? fun i => ?_
        by_cases hi : i < len
        · simp [hi, hall i (by omega)]
        · simp [List.getElem?_eq_none (show (List.replicate len sz).length ≤ i by simp; omega), List.getElem?_eq_none (show (List.range len).length ≤ i by simp; omega)]
      rw [hc]
      simp
    rw [List.range_succ, List.map_append, List.flatten_append] at hv
    by_cases hj : j < len * sz
    · rw [List.getElem?_append_left (by omega)] at hv
      exact cells_rows len cs (fun i hi => h i (by omega)) j v hv
    · rw [List.getElem?_append_right (by omega), hfl] at hv
      simp only [List.map_cons, List.map_nil, List.flatten_cons, List.flatten_nil, List.append_nil] at hv
      have h1 := World.cells?_some (h len (by omega))
      have hlt : j - len * sz < (cs len).length := (List.getElem?_eq_some_iff.1 hv).1
      have h2 := h1.2.2 (j - len * sz) (by omega)
      rw [hv] at h2
      rw [show a.add j = (a.add (len * sz)).add (j - len * sz) by
        unfold Addr.add
        split
        · rename_i h0; subst h0; simp at hj; simp [hj]
        · split
          · split
            · omega
            · simp
          · split
            · simp
            · simp; omega]
      exact h2

section
variable {H : Type} {enc : TypeId × Value → H} {held : Bool} {spare : Nat → Bool} {T : TypeId → Prop}

theorem cells_av (Kd : Kids P T) (hp : ∀ t, T t → plainT P t = true) (hB : ∀ b, b < w.heap.size → K.own b = .keep) :
    ∀ (n : Nat) (t : TypeId) (cs : List Value) (x : DataW H × List MemPlace), T t → DataW.trod enc P w 0 spare held n t cs = some x →
      ∃ as, Ty P t as ∧ VRs K w as cs ∧ ∀ v ∈ cs, v.oneCell' = true := by
  intro n
  induction n with
  | zero => intro t cs x _ h; simp [DataW.trod] at h
  | succ n ih =>
    intro t cs x ht h
    have hpt := hp t ht
    unfold plainT at hpt
    split at hpt <;> try (cases hpt; done)
    · rename_i hu
      obtain ⟨b, rfl, _⟩ := DataW.trod_bool hu h
      exact ⟨[.bool b], .bool b hu, VRs.cons (.bool b) VRs.nil, by simp [Value.oneCell']⟩
    · rename_i k hu
      obtain ⟨m, rfl, _, hw⟩ := DataW.trod_int hu h
      exact ⟨[.int k m], .int m hu hw, VRs.cons (.int k m) VRs.nil, by simp [Value.oneCell']⟩
    · rename_i hu
      obtain ⟨s, rfl, _, hw⟩ := DataW.trod_string hu h
      refine ⟨[.str s.data.toList], .str _ hu (by simpa using hw), VRs.cons ?_ VRs.nil, by simp [Value.oneCell']⟩
      exact .str s.data.toList
    · rename_i e hu
      have hTe := Kd.slice ht hu
      rcases DataW.trod_slice hu h with ⟨rfl, _⟩ | ⟨a, len, cap, elems, rest, m, hm, rfl, _, _, hl, hmx, hlen, hel, _, _⟩
      · exact ⟨[.sl [] 0 false], .sl [] hu (Nat.zero_le _) (by simp) (fun j as h => by simp at h), VRs.cons (.nsl false) VRs.nil, by simp [Value.oneCell']⟩
      · obtain rfl : n = m := by omega
        have each : ∀ i, i < len → ∃ c y, w.cells? 0 (a.add (i * P.cellsOf e)) (P.cellsOf e) = some c ∧ DataW.trod enc P w 0 spare held n e c = some y := by
          intro i hi
          have := hel i hi
          rw [List.getElem?_eq_getElem (by omega), Option.bind_eq_some_iff] at this
          obtain ⟨c, h1, h2⟩ := this
          exact ⟨c, _, h1, h2⟩
        let cf : Nat → List Value := fun i => (w.cells? 0 (a.add (i * P.cellsOf e)) (P.cellsOf e)).getD []
        have hcf : ∀ i, i < len → w.cells? 0 (a.add (i * P.cellsOf e)) (P.cellsOf e) = some (cf i) := by
          intro i hi
          obtain ⟨c, _, h1, _⟩ := each i hi
          simp only [cf, h1, Option.getD_some]
        have hpc : ∀ (j : Nat) p, ((List.range len).map cf)[j]? = some p → j < len ∧ p = cf j := by
          intro j p hj
          simp only [List.getElem?_map, Option.map_eq_some_iff] at hj
          obtain ⟨i, hi, rfl⟩ := hj
          obtain ⟨h1, h2⟩ := List.getElem?_eq_some_iff.1 hi
          simp at h1 h2
          subst h2
          exact ⟨h1, rfl⟩
        have hih : ∀ (j : Nat) p, ((List.range len).map cf)[j]? = some p → ∃ as, Ty P e as ∧ VRs K w as p ∧ ∀ v ∈ p, v.oneCell' = true := by
          intro j p hj
          obtain ⟨h1, rfl⟩ := hpc j p hj
          obtain ⟨c, y, h2, h3⟩ := each j h1
          rw [hcf j h1] at h2
          cases h2
          exact ih e _ y hTe h3
        obtain ⟨l, hl1, hl2, hl3⟩ := join_of (K := K) (w := w) (Q := fun _ as => Ty P e as) ((List.range len).map cf) fun j p hj => by
          obtain ⟨as, h1, h2, _⟩ := hih j p hj
          exact ⟨as, h1, h2⟩
        simp only [List.length_map, List.length_range] at hl1
        have hcell := cells_rows (w := w) (a := a) len cf hcf
        have hone : ∀ v ∈ ((List.range len).map cf).flatten, v.oneCell' = true := by
          intro v hv
          obtain ⟨p, hp1, hp2⟩ := List.mem_flatten.1 hv
          obtain ⟨j, hj⟩ := List.getElem?_of_mem hp1
          obtain ⟨_, _, _, h3⟩ := hih j p hj
          exact h3 v hp2
        have hfl : l.flatten.length = l.length * P.cellsOf e := by
          rw [← hl3.1, hl1]
          have hall : ∀ i, i < len → (cf i).length = P.cellsOf e := fun i hi => (World.cells?_some (hcf i hi)).2.1
          rw [List.length_flatten, List.map_map]
          have hc : (List.range len).map (List.length ∘ cf) = List.replicate len (P.cellsOf e) := by
            refine List.ext_getElem? fun i => ?_
            by_cases hi : i < len
            · simp [hi, hall i hi]
            · simp [List.getElem?_eq_none (show (List.replicate len (P.cellsOf e)).length ≤ i by simp; omega), List.getElem?_eq_none (show (List.range len).length ≤ i by simp; omega)]
          rw [hc]
          simp
        refine ⟨[.sl l.flatten l.length false], .sl l hu (by omega) hfl hl2, VRs.cons ?_ VRs.nil, by simp [Value.oneCell']⟩
        have hsp : a.spot = none ∨ ((List.range len).map cf).flatten = [] := by
          cases hv : ((List.range len).map cf).flatten with
          | nil => exact .inr rfl
          | cons v vs =>
            left
            have := hcell 0 v (by rw [hv]; rfl)
            simp only [Addr.add, if_true] at this
            unfold World.cell? at this
            split at this <;> try (cases this; done)
            split at this
            · cases this
            · rename_i hs; simpa using hs
        obtain ⟨b, o, sp⟩ := a
        rw [hl1]
        refine VR.sl l.flatten len false b o cap sp _ hl (fun e => by cases e) hsp hl3.1 (fun j v hj => ?_) hl3.2
        have hc := hcell j v hj
        have hsp' : sp = none := by
          rcases hsp with h1 | h1
          · exact h1
          · rw [h1] at hj; simp at hj
        subst hsp'
        rw [Addr.add_lit] at hc
        exact ⟨hB b (World.block_lt_of_cell? _ _ hc), hc, hone v (List.mem_of_getElem? hj)⟩
    · rename_i fs hu
      obtain ⟨hT, hsum, hoff⟩ := Kd.struct ht hu
      obtain ⟨xs, m, hm, _, hlen, hxl, hf⟩ := DataW.trod_struct hu h
      obtain rfl : n = m := by omega
      obtain ⟨ps, hp1, hp2, hp3⟩ := pieces_of (fs.toList.map fun f => P.cellsOf f.type) cs (by rw [hlen, hsum])
      have hfld : ∀ (j : Nat) p, ps[j]? = some p → ∃ f y, fs[j]? = some f ∧ DataW.trod enc P w 0 spare held n f.type p = some y := by
        intro j p hj
        have hjl : j < fs.size := by
          have := (List.getElem?_eq_some_iff.1 hj).1
          rw [hp1] at this
          simpa using this
        have hfj : fs[j]? = some fs[j] := Array.getElem?_eq_getElem hjl
        have hfj' : fs.toList[j]? = some fs[j] := by simp [hjl]
        have h3 := hp3 j (P.cellsOf fs[j].type) (by simp [hjl])
        rw [hj] at h3
        cases h3
        have h4 := hf j _ hfj
        rw [hoff j _ hfj', List.getElem?_eq_getElem (by omega)] at h4
        rw [List.map_take] at h4
        exact ⟨fs[j], _, hfj, h4⟩
      have hih : ∀ (j : Nat) p, ps[j]? = some p → ∃ as, (∀ f, fs[j]? = some f → Ty P f.type as) ∧ VRs K w as p ∧ ∀ v ∈ p, v.oneCell' = true := by
        intro j p hj
        obtain ⟨f, y, h1, h2⟩ := hfld j p hj
        obtain ⟨as, h3, h4, h5⟩ := ih f.type p y (hT f (by simpa using Array.mem_of_getElem? h1)) h2
        refine ⟨as, fun f' hf' => ?_, h4, h5⟩
        rw [h1] at hf'
        cases hf'
        exact h3
      obtain ⟨l, hl1, hl2, hl3⟩ := join_of (K := K) (w := w) (Q := fun j as => ∀ f, fs[j]? = some f → Ty P f.type as) ps fun j p hj => by
        obtain ⟨as, h1, h2, _⟩ := hih j p hj
        exact ⟨as, h1, h2⟩
      rw [hp2] at hl3
      refine ⟨l.flatten, .struct l hu (by rw [hl1, hp1]; simp) (by rw [← hl3.1, hlen]) (fun j f as hfj has => hl2 j as has f hfj), hl3, fun v hv => ?_⟩
      rw [← hp2] at hv
      obtain ⟨p, hpm, hvp⟩ := List.mem_flatten.1 hv
      obtain ⟨j, hj⟩ := List.getElem?_of_mem hpm
      obtain ⟨_, _, _, h5⟩ := hih j p hj
      exact h5 v hvp

/-- What an argument stands for. -/
def TyA (P : Program) (t : TypeId) (a : AV) : Prop := match P.underlying t with
  | some (.struct _) => ∃ as, a = .agg as ∧ Ty P t as
  | _ => Ty P t [a]

theorem arg_av (Kd : Kids P T) (hp : ∀ t, T t → plainT P t = true) (hB : ∀ b, b < w.heap.size → K.own b = .keep) {r : Reach} {base : Nat} {t : TypeId} {v : Value} {d : DataW H} {ps : List MemPlace} (ht : T t)
    (hval : Value.okWide P w r base t v) (hd : DataW.Trod enc P w 0 spare held t v d ps) : ∃ a, TyA P t a ∧ VR K w a v := by
  obtain ⟨n, hn⟩ := hd
  obtain ⟨as, h1, h2, h3⟩ := cells_av Kd hp hB n t _ _ ht hn
  have hpt := hp t ht
  unfold TyA
  unfold Value.okWide at hval
  unfold plainT at hpt
  have one : (∀ cs, v ≠ .agg cs) → ∃ a, as = [a] ∧ VR K w a v := by
    intro hne
    have hc : v.cells.toList = [v] := by cases v <;> first | rfl | exact absurd rfl (hne _)
    rw [hc] at h2
    match as, h2 with
    | [a], h2 => exact ⟨a, rfl, h2.2 0 a v rfl rfl⟩
    | [], h2 => exact absurd h2.1 (by simp)
    | _ :: _ :: _, h2 => exact absurd h2.1 (by simp)
  split at hpt <;> try (cases hpt; done)
  case h_5 fs hu =>
    rw [hu] at hval ⊢
    obtain ⟨cs, rfl, hsz, _⟩ := hval
    have : VRs K w as cs.toList := by simpa [Value.cells] using h2
    exact ⟨.agg as, ⟨as, rfl, h1⟩, VR.agg as cs.toList this.1 this.2⟩
  all_goals
    rename_i hu
    rw [hu] at hval ⊢
    obtain ⟨a, rfl, hr⟩ := one (by
      rintro cs rfl
      simp [Cell.okWide, Cell.ok, hu] at hval)
    exact ⟨a, h1, hr⟩

theorem Ty.int_inv {t : TypeId} {k : IntKind} {as : List AV} (ht : P.underlying t = some (.int k)) (h : Ty P t as) : ∃ n, as = [.int k n] ∧ (Lit.int k n).wf = true := by
  cases h <;> simp_all

theorem Ty.bool_inv {t : TypeId} {as : List AV} (ht : P.underlying t = some .bool) (h : Ty P t as) : ∃ b, as = [.bool b] := by
  cases h <;> simp_all

theorem Ty.str_inv {t : TypeId} {as : List AV} (ht : P.underlying t = some .string) (h : Ty P t as) : ∃ s, as = [.str s] ∧ s.length ≤ maxLen := by
  cases h <;> simp_all

theorem Ty.sl_inv {t e : TypeId} {as : List AV} (ht : P.underlying t = some (.slice e)) (h : Ty P t as) :
    ∃ l : List (List AV), as = [.sl l.flatten l.length false] ∧ l.length ≤ maxLen ∧ l.flatten.length = l.length * P.cellsOf e ∧ ∀ (j : Nat) b, l[j]? = some b → Ty P e b := by
  cases h with
  | sl l h hw hl hs =>
    rw [ht] at h
    cases h
    exact ⟨l, rfl, hw, hl, hs⟩
  | bool b h => rw [ht] at h; cases h
  | int n h => rw [ht] at h; cases h
  | str s h => rw [ht] at h; cases h
  | struct l h => rw [ht] at h; cases h

theorem Ty.struct_inv {t : TypeId} {fs : Array Field} {as : List AV} (ht : P.underlying t = some (.struct fs)) (h : Ty P t as) :
    ∃ l : List (List AV), as = l.flatten ∧ l.length = fs.size ∧ ∀ (j : Nat) f b, fs[j]? = some f → l[j]? = some b → Ty P f.type b := by
  cases h with
  | struct l h hl hn hs =>
    rw [ht] at h
    cases h
    exact ⟨l, rfl, hl, hs⟩
  | bool b h => rw [ht] at h; cases h
  | int n h => rw [ht] at h; cases h
  | str s h => rw [ht] at h; cases h
  | sl l h => rw [ht] at h; cases h

theorem Ty.struct_len {t : TypeId} {fs : Array Field} {as : List AV} (ht : P.underlying t = some (.struct fs)) (h : Ty P t as) : as.length = P.cellsOf t := by
  cases h <;> simp_all

theorem TyA.int_inv {t : TypeId} {k : IntKind} {a : AV} (ht : P.underlying t = some (.int k)) (h : TyA P t a) : ∃ n, a = .int k n ∧ (Lit.int k n).wf = true := by
  unfold TyA at h
  rw [ht] at h
  obtain ⟨n, h1, h2⟩ := Ty.int_inv ht h
  exact ⟨n, by simpa using h1, h2⟩

theorem TyA.struct_inv {t : TypeId} {fs : Array Field} {a : AV} (ht : P.underlying t = some (.struct fs)) (h : TyA P t a) : ∃ as, a = .agg as ∧ as.length = P.cellsOf t ∧ Ty P t as := by
  unfold TyA at h
  rw [ht] at h
  obtain ⟨as, rfl, h2⟩ := h
  exact ⟨as, rfl, h2.struct_len ht, h2⟩

/-- All types that are met from one are plain. -/
def plainB (P : Program) (t : TypeId) : Bool := decide (t < P.types.size) && P.readableRec t && (P.book t).all (plainT P)

theorem args_av (hl : laidOutB P = true) (hB : ∀ b, b < w.heap.size → K.own b = .keep) {r : Reach} {base : Nat} : ∀ {ts : List TypeId} {vs : List Value} {ds : List (DataW H)} {ps : List MemPlace}, (∀ t ∈ ts, plainB P t = true) →
    DataW.TrodAll enc P w 0 spare held ts vs ds ps → (∀ (j : Nat) t v, ts[j]? = some t → vs[j]? = some v → Value.okWide P w r base t v) →
    ds.length = ts.length ∧ ∃ as, VRs K w as vs ∧ as.length = ts.length ∧ ∀ (j : Nat) t a, ts[j]? = some t → as[j]? = some a → TyA P t a
  | [], [], [], _, _, _, _ => ⟨rfl, [], VRs.nil, rfl, fun j t a h => by simp at h⟩
  | t :: ts, v :: vs, d :: ds, _, hT, ⟨p, q, hd, hs, _⟩, hval => by
    have ht := hT t (by simp)
    simp only [plainB, Bool.and_eq_true, decide_eq_true_eq, List.all_eq_true] at ht
    obtain ⟨⟨h1, h2⟩, h3⟩ := ht
    obtain ⟨a, ha, hr⟩ := arg_av (K := K) (kids_book hl h2) (fun u hu => h3 u hu.2) hB ⟨h1, book_self t⟩ (hval 0 t v rfl rfl) hd
    obtain ⟨h4, as, h5, h6, h7⟩ := args_av hl hB (fun t ht => hT t (by simp [ht])) hs fun j t v h h' => hval (j + 1) t v (by simpa using h) (by simpa using h')
    refine ⟨by simp [h4], a :: as, VRs.cons hr h5, by simp [h6], fun j t' a' h h' => ?_⟩
    cases j with
    | zero => simp at h h'; subst h; subst h'; exact ha
    | succ j => exact h7 j t' a' (by simpa using h) (by simpa using h')

/-! ### The post -/
theorem trodAll_stays {w' : World} {sp : Nat → Bool} (hl : laidOutB P = true) : ∀ {ts : List TypeId} {vs : List Value} {ds : List (DataW H)} {ps : List MemPlace}, (∀ t ∈ ts, t < P.types.size ∧ P.readableRec t = true) →
    DataW.TrodAll enc P w 0 (fun _ => true) true ts vs ds ps → (∀ p ∈ ps, w.sameAt w' p) → (∀ p ∈ ps, sp p.block = true) → DataW.TrodAll enc P w' 0 sp true ts vs ds ps
  | [], [], [], _, _, h, _, _ => h
  | t :: ts, v :: vs, d :: ds, ps, hT, ⟨p, q, ⟨n, hn⟩, hs, e⟩, hsame, hsp => by
    subst e
    obtain ⟨h1, h2⟩ := hT t (by simp)
    exact ⟨p, q, ⟨n, DataW.trod_stays (kids_book hl h2) (book_sized h2) (fun h => by cases h) ⟨h1, book_self t⟩ hn (fun x hx => hsame x (List.mem_append_left _ hx)) (fun x hx => hsp x (List.mem_append_left _ hx))⟩,
      trodAll_stays hl (fun t ht => hT t (by simp [ht])) hs (fun x hx => hsame x (List.mem_append_right _ hx)) (fun x hx => hsp x (List.mem_append_right _ hx)), rfl⟩

theorem post_true {f : Func} {s : ChangeSpec} {apart fresh handsOn : Bool} {W W' : World} {args : Array Value} {ds gs : List (DataW H)} {before : List MemPlace} {tb : TypeId} (hl : laidOutB P = true)
    (hT : ∀ t ∈ f.params.toList, t < P.types.size ∧ P.readableRec t = true) (hvars : s.vars = []) (hres : f.resultTypes = #[tb]) (htb : P.underlying tb = some .bool)
    (hW : DataW.Whole enc P f.params.toList s.vars apart W args.toList ds gs before) (hspec : s.fn H (ds ++ gs) = { results := [.lit (.bool true)], args := ds })
    (hheap : ∀ b, b < W.heap.size → W'.heap[b]? = W.heap[b]?) (hos : W'.os = W.os) (hout : W'.output = W.output) :
    s.post enc P f apart fresh handsOn false W args (.bool true) W' := by
  have hW' := hW
  have hlt := hW.lt
  obtain ⟨p, q, hA, hV, rfl, _, _⟩ := hW
  rw [hvars] at hV
  have hq : gs = [] ∧ q = [] := by
    cases gs with
    | nil => exact ⟨rfl, hV⟩
    | cons _ _ => exact hV.elim
  obtain ⟨rfl, rfl⟩ := hq
  have hsame : ∀ x ∈ p, W.sameAt W' x := by
    intro x hx
    have := hheap x.block (hlt x (by simp [hx]))
    cases x with
    | cell b o => exact World.cell?_of_block this
    | map b => exact this
  refine ⟨ds, [], _, [], p, [], hW', ?_, ?_, ?_, ⟨hos, hout, fun i hi => ?_⟩, fun h => by cases h⟩
  · rw [hspec, hres]
    have : (Value.bool true).resultList 1 = [.bool true] := rfl
    simp only [List.size_toArray, List.length_cons, List.length_nil, Nat.zero_add, this]
    refine ⟨[], [], ⟨1, ?_⟩, rfl, rfl⟩
    simp [DataW.trod, htb, Value.cells]
  · rw [hspec]
    exact trodAll_stays hl hT hA hsame fun x hx => by simpa using hlt x (by simp [hx])
  · rw [hvars, hspec]; rfl
  · rw [hheap i hi]
    split
    · rename_i h1 h2
      rw [h1] at h2
      cases h2
      exact ⟨rfl, rfl, rfl, fun _ _ => rfl⟩
    · rename_i h1 h2
      rw [h1] at h2
      cases h2
      exact .inr ⟨rfl, rfl⟩
    · rfl
end
end Go.Ai


/- From a run of threaded code to what a call comes to; tables of threaded functions by number. -/
namespace Go.Ai
variable {E : Env}

noncomputable section
def fX : Fc := fun _ _ _ => false
/-- A table by number. -/
def asc (l : List (Nat × Fc)) : Nat → Fc := List.rec (motive := fun _ => Nat → Fc) (fun _ => fX) (fun p _ ih n => Bool.rec (motive := fun _ => Fc) (ih n) p.2 (Nat.beq n p.1)) l
/-- Functions by number. -/
def ascO (l : List (Nat × RF)) : Nat → Option RF := List.rec (motive := fun _ => Nat → Option RF) (fun _ => none) (fun p _ ih n => Bool.rec (motive := fun _ => Option RF) (ih n) (some p.2) (Nat.beq n p.1)) l
def endK (v : AV) (_ : SK) : Bool := elB v fun b => b
def sk0 : SK := ⟨0, 0, .e⟩
end

theorem envL_nil {P : Program} {an : Ann} {gv : Nat → AV} : EnvOk P an ⟨gv, ascO []⟩ := fun f rf h => by cases h
theorem envL_cons {P : Program} {an : Ann} {gv : Nat → AV} {k : Nat} {r : RF} {l : List (Nat × RF)} (h : rFun P an k = some r) (hl : EnvOk P an ⟨gv, ascO l⟩) : EnvOk P an ⟨gv, ascO ((k, r) :: l)⟩ := by
  intro f rf hf
  have e : (⟨gv, ascO ((k, r) :: l)⟩ : Env).fs f = Bool.rec (motive := fun _ => Option RF) (ascO l f) (some r) (Nat.beq f k) := rfl
  rw [e] at hf
  cases hb : Nat.beq f k with
  | true =>
    rw [hb] at hf
    have e := Nat.eq_of_beq_eq_true hb
    subst e
    cases hf
    exact h
  | false => rw [hb] at hf; exact hl f rf hf

theorem asc_nil : TabF E (asc []) := TabF.none
theorem asc_cons {k : Nat} {F : Fc} {l : List (Nat × Fc)} (hF : FnS E k F) (hl : TabF E (asc l)) : TabF E (asc ((k, F) :: l)) := by
  obtain ⟨d, hd⟩ := hF
  obtain ⟨d', hd'⟩ := hl
  refine ⟨d + d', fun m hm n args T S hs => ?_⟩
  have h : asc ((k, F) :: l) n = Bool.rec (motive := fun _ => Fc) (asc l n) F (Nat.beq n k) := rfl
  rw [h]
  cases hb : Nat.beq n k with
  | true =>
    have e := Nat.eq_of_beq_eq_true hb
    subst e
    exact hd m (by omega) args T S hs
  | false => exact hd' m (by omega) n args T S hs

/-- What is known where a run begins: nothing of the memory that was there is written. -/
def kw0 (n : Nat) : KW := { own := fun b => if b < n then .keep else .free, mu := fun _ _ => ⟨0, 0, 0⟩, al := fun _ => 0, ub := fun _ => false }

theorem kw0_keep {n b : Nat} (h : b < n) : (kw0 n).own b = .keep := by simp [kw0, h]

theorem inv0 {P : Program} {an : Ann} {w : World} : Inv P an w.heap.size (kw0 w.heap.size) w ⟨0, []⟩ :=
  ⟨Nat.le_refl _, fun b h => by
    simp only [kw0] at h
    split at h
    · assumption
    · exact absurd rfl h, fun b h => kw0_keep h, fun _ _ => ⟨rfl, rfl⟩, fun id o h => by simp at h⟩

theorem run_true {F : Fc} {f : Nat} {args : List AV} (hF : FnS E f F) (hrun : F args sk0 endK = true) : ∃ n S', call E n f args ⟨0, []⟩ = some (.bool true, S') := by
  obtain ⟨d, hd⟩ := hF
  have hs : SR sk0 ⟨0, []⟩ := ⟨rfl, rfl, fun id => trivial⟩
  obtain ⟨v, S', T', h1, _, h3⟩ := hd d (Nat.le_refl _) args sk0 ⟨0, []⟩ hs endK hrun
  refine ⟨d, S', ?_⟩
  have : v = .bool true := by
    cases v <;> simp only [endK, elB] at h3 <;> try (cases h3; done)
    rename_i b
    exact congrArg AV.bool h3
  rw [← this]
  exact h1

theorem law_returns {P : Program} {an : Ann} (hE : EnvOk P an E) {f : Nat} {args : List AV} {F : Fc} (hF : FnS E f F) (hrun : F args sk0 endK = true) {W : World} {cargs : Array Value}
    (hr : VRs (kw0 W.heap.size) W args cargs.toList) (hg : GvOk E (kw0 W.heap.size) W) :
    Calls P f cargs W fun e W' => e = .returned (.bool true) ∧ (∀ b, b < W.heap.size → W'.heap[b]? = W.heap[b]?) ∧ W'.os = W.os ∧ W'.output = W.output := by
  obtain ⟨n, S', h⟩ := run_true hF hrun
  refine (call_sound (B := W.heap.size) hE h inv0 hr hg).mono fun e W' ⟨K', v', he, hx, _, hv⟩ => ?_
  cases hv
  exact ⟨he, fun b hb => (hx.keep b (.inl (kw0_keep hb))).2, hx.os, hx.output⟩

/-- A law that answers true, whatever the arguments. -/
theorem law_contract {P : Program} {an : Ann} (hE : EnvOk P an E) {f : Nat} {F : Fc} (hF : FnS E f F) (hl : laidOutB P = true) {fn : Func} {s : ChangeSpec} {tb : TypeId} (hT : fn.params.toList.all (plainB P) = true) (hvars : s.vars = [])
    (hres : fn.resultTypes = #[tb]) (htb : P.underlying tb = some .bool) (hspec : ∀ (H : Type) (ds : List (DataW H)), ds.length = fn.params.toList.length → s.fn H ds = { results := [.lit (.bool true)], args := ds })
    (hrun : ∀ as : List AV, as.length = fn.params.toList.length → (∀ (j : Nat) t a, fn.params.toList[j]? = some t → as[j]? = some a → TyA P t a) → F as sk0 endK = true)
    {H : Type} {enc : TypeId × Value → H} {W : World} {base : Nat} {args : Array Value} {ds gs : List (DataW H)} {before : List MemPlace} (hgv : GvOk E (kw0 W.heap.size) W)
    (hval : ∀ (j : Nat) t v, fn.params[j]? = some t → args[j]? = some v → Value.okWide P W .any base t v) (hW : DataW.Whole enc P fn.params.toList s.vars false W args.toList ds gs before) :
    Calls P f args W fun e W' => ∃ v, e = .returned v ∧ s.post enc P fn false true false false W args v W' := by
  have hW' := hW
  obtain ⟨p, q, hA, hV, _, _, _⟩ := hW
  rw [List.all_eq_true] at hT
  obtain ⟨hlen, as, hr, hal, hty⟩ := args_av (K := kw0 W.heap.size) hl (fun b h => kw0_keep h) hT hA fun j t v h h' => hval j t v (by simpa using h) (by simpa using h')
  refine (law_returns hE hF (hrun as hal hty) hr hgv).mono fun e W' ⟨he, h1, h2, h3⟩ => ⟨_, he, ?_⟩
  have hgs : gs = [] := by
    rw [hvars] at hV
    cases gs with
    | nil => rfl
    | cons _ _ => exact hV.elim
  refine post_true hl (fun t ht => ?_) hvars hres htb hW' ?_ h1 h2 h3
  · have := hT t ht
    simp only [plainB, Bool.and_eq_true, decide_eq_true_eq] at this
    exact this.1
  · rw [hgs, List.append_nil]
    exact hspec H ds hlen

theorem gv_tab {n : Nat} {w : World} {g : Nat} {k : IntKind} {zs : List Int} (hn : n = w.heap.size) (h : ∀ (j : Nat) z, zs[j]? = some z → w.cell? ⟨g, j, none⟩ = some (.int k z)) :
    VR (kw0 n) w (.cp (zs.map (.int k ·)) 0) (.pointer (some ⟨g, 0, none⟩)) := by
  subst hn
  refine VR.cp (zs.map (.int k ·)) 0 g 0 (zs.map (.int k ·)) (by simp) (fun j v hv => ?_) (fun j a v ha hv => ?_)
  · simp only [List.getElem?_map, Option.map_eq_some_iff] at hv
    obtain ⟨z, hz, rfl⟩ := hv
    have hc := h j z hz
    rw [Nat.zero_add]
    exact ⟨kw0_keep (World.block_lt_of_cell? _ _ hc), hc, rfl⟩
  · simp only [List.getElem?_map, Option.map_eq_some_iff] at ha hv
    obtain ⟨z, hz, rfl⟩ := ha
    obtain ⟨z', hz', rfl⟩ := hv
    rw [hz] at hz'
    cases hz'
    exact .int k z

theorem gv_none {K : KW} {w : World} {g : Nat} : VR K w (.cp [] 0) (.pointer (some ⟨g, 0, none⟩)) :=
  VR.cp [] 0 g 0 [] rfl (fun j v h => by simp at h) (fun j a v h => by simp at h)

end Go.Ai

