/- A proved interpreter of the program's code (AiT AiKS1 AiKS2 AiKS3 AiKS4 AiKS5 AiKS6 AiKS7). -/
import Derived.Test.YtnhbkimefglkiaaGreatDoorAi3
/- Threaded code for the kernel: each operation a closed combinator that is handed what comes next. Definitions, and the compiler from the interpreter's code. -/
namespace Go.Ai
noncomputable section

abbrev Kt := Frm → SK → Bool
/-- Operations: what comes next, and then. -/
abbrev Oc := Kt → Kt
/-- Code: what comes next; what comes behind an exit; what comes behind a return. -/
abbrev Cd := Kt → (Nat → Kt) → Kt → Kt
/-- Functions. -/
abbrev Fc := List AV → SK → (AV → SK → Bool) → Bool
abbrev VK := (AV → Bool) → Bool

def gC (v : AV) : GetF := fun _ => v
def s0 : SetF := fun _ f k => k f

def getsT (l : List GetF) (f : Frm) (k : List AV → Bool) : Bool := mapK (fun x k => k (x f)) l k

/-! ### Operations -/
def eO : Oc := fun kn => kn
def o0 (v : AV) (s : SetF) (r : Oc) : Oc := fun kn f S => s v f fun f => r kn f S
def o1 (F : AV → VK) (x : GetF) (s : SetF) (r : Oc) : Oc := fun kn f S => F (x f) fun v => s v f fun f => r kn f S
def o2 (F : AV → AV → VK) (x y : GetF) (s : SetF) (r : Oc) : Oc := fun kn f S => F (x f) (y f) fun v => s v f fun f => r kn f S
def o3 (F : AV → AV → AV → VK) (x y z : GetF) (s : SetF) (r : Oc) : Oc := fun kn f S => F (x f) (y f) (z f) fun v => s v f fun f => r kn f S
def oM (x : GetF) (s : SetF) (r : Oc) : Oc := fun kn f S => s (x f) f fun f => r kn f S
def oN (F : List AV → VK) (l : List GetF) (s : SetF) (r : Oc) : Oc := fun kn f S => getsT l f fun vs => F vs fun v => s v f fun f => r kn f S
def oNN (F : List AV → List AV → VK) (l m : List GetF) (s : SetF) (r : Oc) : Oc := fun kn f S => getsT l f fun vs => getsT m f fun us => F vs us fun v => s v f fun f => r kn f S
/-- Those that look at the store. -/
def oD (F : SK → AV → VK) (x : GetF) (s : SetF) (r : Oc) : Oc := fun kn f S => F S (x f) fun v => s v f fun f => r kn f S
def oD3 (F : SK → AV → AV → AV → VK) (x y z : GetF) (s : SetF) (r : Oc) : Oc := fun kn f S => F S (x f) (y f) (z f) fun v => s v f fun f => r kn f S
/-- Those that change it. -/
def oW0 (F : SK → (AV → SK → Bool) → Bool) (s : SetF) (r : Oc) : Oc := fun kn f S => F S fun v S => s v f fun f => r kn f S
def oW1 (F : SK → AV → (AV → SK → Bool) → Bool) (x : GetF) (s : SetF) (r : Oc) : Oc := fun kn f S => F S (x f) fun v S => s v f fun f => r kn f S
def oW2 (F : SK → AV → AV → (AV → SK → Bool) → Bool) (x y : GetF) (s : SetF) (r : Oc) : Oc := fun kn f S => F S (x f) (y f) fun v S => s v f fun f => r kn f S
def oWN (F : SK → List AV → (AV → SK → Bool) → Bool) (l : List GetF) (s : SetF) (r : Oc) : Oc := fun kn f S => getsT l f fun vs => F S vs fun v S => s v f fun f => r kn f S
/-- A call. -/
def oF (F : Fc) (l : List GetF) (s : SetF) (r : Oc) : Oc := fun kn f S => getsT l f fun vs => F vs S fun v S => s v f fun f => r kn f S
/-- A call of a value: a function, by its number; or a round. -/
def oV (F : Nat → Fc) (Y : Nat → Fc) (x : GetF) (l : List GetF) (s : SetF) (r : Oc) : Oc := fun kn f S => getsT l f fun vs =>
  elFY (x f) (fun n a b => catK vs b fun q => catK a q fun q => F n q S fun v S => s v f fun f => r kn f S) (fun id => Y id vs S fun v S => s v f fun f => r kn f S)
def oX : Oc := fun _ _ _ => false
/-- A guard. -/
def wantT (v : AV) (w : Bool) (y n : Bool) : Bool := elW v (fun b => Bool.rec (motive := fun _ => Bool) (Bool.rec (motive := fun _ => Bool) y n w) (Bool.rec (motive := fun _ => Bool) n y w) b) (fun vs => List.rec (motive := fun _ => Bool) n (fun _ _ _ => false) vs)
def oG (g : GetF) (w : Bool) (s : SetF) (o r : Oc) : Oc := fun kn f S => wantT (g f) w (o (r kn) f S) (s u f fun f => r kn f S)

/-! ### What operations do with values -/
def smvT (a : AV) : VK := fun k => elS a fun s => k (.str s)
def pickT (c a b : AV) : VK := fun k => elB c fun t => Bool.rec (motive := fun _ => Bool) (k b) (k a) t
def nchkT (a : AV) : VK := fun k => ifK (isNonNil a) (k a)
def eqT (neg : Bool) (cl : Cls) (a b : AV) : VK := fun k => optK (eqOf cl a b) fun r => bK (Bool.rec (motive := fun _ => Bool) r (!r) neg) k
def unT (op : UnOp) (a : AV) : VK := fun k => optK (unOf op a) fun v => match v with
  | .bool b => bK b k
  | .int d n => fInt n fun n => k (.int d n)
  | _ => false
def toIntT (d : IntKind) (a : AV) : VK := fun k => elI a fun _ n => Int.rec (motive := fun _ => Bool) (fun m => wrapN d m k) (fun m => wrapI d (.negSucc m) k) n
def s2bT (a : AV) : VK := fun k => elS a fun s => lenK s fun n => ifK (Nat.ble n 70368744177664) (mapK (fun (b : UInt8) k => iK .u8 b.toNat k) s fun cs => k (.sl cs n false))
def mkfT (f : Nat) (x y : List AV) : VK := fun k => k (.fn f x y)
/-- A bound: given, or left out. -/
def bdT (g : Bool) (v : AV) (d : Nat) (k : Nat → Bool) : Bool := Bool.rec (motive := fun _ => Bool) (k d) (natK v k) g
def slST (gl gh : Bool) (a lo hi : AV) : VK := fun k => elS a fun s => lenK s fun n => bdT gl lo 0 fun l => bdT gh hi n fun h => ifK (Nat.ble l h) (ifK (Nat.ble h n) (cutK s l (Nat.sub h l) fun r => k (.str r)))
def slLT (gl gh : Bool) (sz : Nat) (a lo hi : AV) : VK := fun k => lenNK a fun n => bdT gl lo 0 fun l => bdT gh hi n fun h => slcK sz a l h none k
def slL4T (gl : Bool) (sz : Nat) (l : List AV) : VK := fun k => match l with
  | [a, lo, hi, mx] => bdT gl lo 0 fun l => natK hi fun h => natK mx fun m => slcK sz a l h (some m) k
  | _ => false
def fadT (off : Nat) (a : AV) : VK := fun k => elP a (fun id ver o => fNat (Nat.add o off) fun o => k (.ptr id ver o)) (fun cs o => fNat (Nat.add o off) fun o => k (.cp cs o))
def fldT (off sz : Nat) (ag : Bool) (a : AV) : VK := fun k => elA a fun cs => cutK cs off sz fun r => asK ag r k
def iaLT (sz : Nat) (a j : AV) : VK := fun k => elL a false
  (fun cs n _ => idxK j n fun j => lenK cs fun c => ifK (Nat.beq c (Nat.mul n sz)) (fNat (Nat.mul j sz) fun o => k (.cp cs o)))
  (fun id ver off n sz' _ => ifK (Nat.beq sz' sz) (idxK j n fun j => fNat (Nat.add off (Nat.mul j sz)) fun o => k (.ptr id ver o)))
def iaAT (len sz : Nat) (a j : AV) : VK := fun k => elP a (fun id ver off => idxK j len fun j => fNat (Nat.add off (Nat.mul j sz)) fun o => k (.ptr id ver o)) (fun cs off => idxK j len fun j => fNat (Nat.add off (Nat.mul j sz)) fun o => k (.cp cs o))
def ixAT (len sz : Nat) (ag : Bool) (a j : AV) : VK := fun k => elA a fun cs => idxK j len fun j => cutK cs (Nat.mul j sz) sz fun r => asK ag r k
def ixST (a j : AV) : VK := fun k => elS a fun s => natK j fun j => nthK s j fun b => iK .u8 b.toNat k
def extT (i : Nat) (a : AV) : VK := fun k => elT a fun vs => nthK vs i k
def lenST (a : AV) : VK := fun k => elS a fun s => lenK s fun n => k (.int .i64 (.ofNat n))
def lenLT (a : AV) : VK := fun k => lenNK a fun n => k (.int .i64 (.ofNat n))
def capLT (a : AV) : VK := fun k => elL a (k (.int .i64 (.ofNat 0))) (fun _ n ex => ifK ex (k (.int .i64 (.ofNat n)))) (fun _ _ _ n _ ex => ifK ex (k (.int .i64 (.ofNat n))))
def maxT (l : List AV) : VK := fun k => List.rec (motive := fun _ => Bool) false (fun a l _ => elI a fun d n => foldK (fun a b => decide (b > a)) d l n k) l
def minT (l : List AV) : VK := fun k => List.rec (motive := fun _ => Bool) false (fun a l _ => elI a fun d n => foldK (fun a b => decide (b < a)) d l n k) l
def cmpT (a b : AV) : VK := fun k => elS a fun s => elS b fun t => fInt (Extern.BytealgCompare.cmp ⟨⟨s⟩⟩ ⟨⟨t⟩⟩) fun n => k (.int .i64 n)

/-- Parts laid into cells: (offset, size) of each. -/
def fillT (z : List AV) (ps : List (Nat × Nat)) (vs : List AV) (k : List AV → Bool) : Bool :=
  (List.rec (motive := fun _ => List AV → List AV → (List AV → Bool) → Bool) (fun _ cs k => k cs)
    (fun p _ ih vs cs k => List.rec (motive := fun _ => Bool) false (fun v vs _ => elC v (fun us => lenK us fun n => ifK (Nat.beq n p.2) (spliceK us cs p.1 fun cs => ih vs cs k)) (ifK (Nat.beq p.2 1) (spliceK [v] cs p.1 fun cs => ih vs cs k))) vs) ps) vs z k
def buildT (z : List AV) (ps : List (Nat × Nat)) (vs : List AV) : VK := fun k => fillT z ps vs fun cs => k (.agg cs)
def mklT (z : List AV) (len sz : Nat) (ps : List (Nat × Nat)) (vs : List AV) : VK := fun k => lenK z fun c => ifK (Nat.beq c (Nat.mul len sz)) (fillT z ps vs fun cs => ifK (allK oneK cs) (k (.sl cs len true)))

def ld1T (S : SK) (a : AV) : VK := fun k => elP a (fun id ver off => rowK S id fun v cs => ifK (Nat.beq v ver) (nthK cs off k)) (fun cs off => nthK cs off k)
def ldT (sz : Nat) (ag : Bool) (S : SK) (a : AV) : VK := fun k => ldK S a sz fun cs => asK ag cs k
def b2sT (S : SK) (a : AV) : VK := fun k => elL a (k (.str [])) (fun _ _ _ => rdK S 1 a fun cs _ => strOfK cs fun s => k (.str s)) (fun _ _ _ _ _ _ => rdK S 1 a fun cs _ => strOfK cs fun s => k (.str s))
def slAT (gl gh : Bool) (n sz : Nat) (S : SK) (a lo hi : AV) : VK := fun k => elP a
  (fun id ver off => bdT gl lo 0 fun l => bdT gh hi n fun h => ldK S (.ptr id ver off) (Nat.mul n sz) fun _ => ifK (Nat.ble l h) (ifK (Nat.ble h n) (fNat (Nat.add off (Nat.mul l sz)) fun o => fNat (Nat.sub h l) fun d => fBool (Nat.beq h n) fun e => k (.ms id ver o d sz e))))
  (fun _ _ => false)

def allocT (z : List AV) (S : SK) (k : AV → SK → Bool) : Bool := addK S (.row 0 z) fun id S => k (.ptr id 0 0) S
def boxT (sz : Nat) (S : SK) (v : AV) (k : AV → SK → Bool) : Bool := celK v fun vs => lenK vs fun n => ifK (Nat.beq n sz) (ifK (allK oneK vs) (addK S (.row 0 vs) fun id S => k (.ptr id 0 0) S))
def storeT (sz : Nat) (S : SK) (p v : AV) (k : AV → SK → Bool) : Bool := celK v fun vs => lenK vs fun n => ifK (Nat.beq n sz) (stK S p vs fun S => k u S)
def mkrT (z : List AV) (len sz : Nat) (ps : List (Nat × Nat)) (S : SK) (vs : List AV) (k : AV → SK → Bool) : Bool :=
  lenK z fun c => ifK (Nat.beq c (Nat.mul len sz)) (fillT z ps vs fun cs => ifK (allK oneK cs) (addK S (.row 0 cs) fun id S => k (.ms id 0 0 len sz true) S))
def mksT (z : List AV) (sz bytes : Nat) (S : SK) (a b : AV) (k : AV → SK → Bool) : Bool := i64K a fun l => i64K b fun c =>
  ifK (Nat.ble l c) (ifK (Nat.ble c 70368744177664) (ifK (Nat.ble (Nat.mul bytes c) 70368744177664) (lenK z fun n => ifK (Nat.beq n sz) (ifK (allK oneK z) (zerK z l fun r => addK S (.row 0 r) fun id S => fBool (Nat.beq l c) fun e => k (.ms id 0 0 l sz e) S)))))
def appT (sz bytes : Nat) (S : SK) (a b : AV) (k : AV → SK → Bool) : Bool := rdK S sz b fun ys m => appK S sz bytes a ys m k
def appZT (z : List AV) (sz bytes : Nat) (S : SK) (a b : AV) (k : AV → SK → Bool) : Bool := i64K b fun n =>
  ifK (Nat.ble (Nat.mul n bytes) 70368744177664) (ifK (Nat.ble n 70368744177664) (lenK z fun c => ifK (Nat.beq c sz) (zerK z n fun r => appK S sz bytes a r n k)))
def copyT (sz : Nat) (S : SK) (a b : AV) (k : AV → SK → Bool) : Bool := rdK S sz b fun ys m =>
  elL a (k (.int .i64 (.ofNat 0)) S) (fun _ n _ => minK m n fun q => ifK (Nat.beq q 0) (k (.int .i64 (.ofNat 0)) S))
    (fun id ver off n sz' _ => ifK (Nat.beq sz' sz) (lenK ys fun c => ifK (Nat.beq c (Nat.mul m sz)) (minK m n fun q => takeK ys (Nat.mul q sz) fun r => stK S (.ptr id ver off) r fun S => k (.int .i64 (.ofNat q)) S)))
def clrT (z : List AV) (sz : Nat) (S : SK) (a : AV) (k : AV → SK → Bool) : Bool := elL a (k u S) (fun _ n _ => ifK (Nat.beq n 0) (k u S))
  (fun id ver off n sz' _ => ifK (Nat.beq sz' sz) (lenK z fun c => ifK (Nat.beq c sz) (zerK z n fun r => stK S (.ptr id ver off) r fun S => k u S)))

/-! ### Code -/
def cSk : Cd := fun kn _ _ f S => kn f S
def cO (o : Oc) : Cd := fun kn _ _ f S => o kn f S
def cS (a b : Cd) : Cd := fun kn kx kr f S => a (b kn kx kr) kx kr f S
def cC (x : GetF) (a b : Cd) : Cd := fun kn kx kr f S => elB (x f) fun t => Bool.rec (motive := fun _ => Bool) (b kn kx kr f S) (a kn kx kr f S) t
def blkT (id : Nat) (kn : Kt) (kx : Nat → Kt) : Nat → Kt := fun id' f S => Bool.rec (motive := fun _ => Bool) (kx id' f S) (kn f S) (Nat.beq id' id)
def cB (id : Nat) (b : Cd) : Cd := fun kn kx kr f S => b kn (blkT id kn kx) kr f S
def loopT (b : Cd) (kx : Nat → Kt) (kr : Kt) (n : Nat) : Kt := Nat.rec (motive := fun _ => Kt) (fun _ _ => false) (fun _ ih f S => b ih kx kr f S) n
def loopFuel : Nat := 65536
def cL (b : Cd) : Cd := fun _ kx kr f S => loopT b kx kr loopFuel f S
def cE (id : Nat) : Cd := fun _ kx _ f S => kx id f S
def cR : Cd := fun _ _ kr f S => kr f S
def cX : Cd := fun _ _ _ _ _ => false
/-- A loop's record. -/
def lpT (S : SK) (id : Nat) (g : Frm → List Nat → RC → RC → Nat → Option J → Bool) : Bool := S.t.get id fun o => ObK.rec (motive := fun _ => Bool) (fun _ _ => false) g o
/-- A range over a function: 'F', by its number. -/
def cRg (F : Nat → Fc) (x : GetF) (ps : List Nat) (asg body : RC) : Cd := fun kn kx kr f S => elF (x f) fun n a b =>
  addK S (.loop f ps asg body 0 none) fun id S => catK [.yl id] b fun q => catK a q fun q => F n q S fun _ S =>
    lpT S id fun f1 p1 a1 b1 st pend => ifK (Nat.beq st 0 || Nat.beq st 2) (setK S id (.loop f1 p1 a1 b1 3 none) fun S =>
      Option.rec (motive := fun _ => Bool) (kn f S) (fun j => J.rec (motive := fun _ => Bool) (kn f S) (fun id => kx id f S) (kr f S) j) pend)

/-! ### Regions whose order is open -/
inductive ChT where
  | rd (lo hi : Nat) (op : SK → VK) (v : AV)
  | al (lo hi id : Nat) (z : List AV)

structure DsT where
  ts : Frm
  S : SK
  kt : Nat
  past : List SK
  ch : List ChT

abbrev Dc := Nat → DsT → (DsT → Bool) → Bool
/-- One that leaves the store as it is, and need not be looked at again. -/
def iP (o : Oc) : Dc := fun _ T k => o (fun f S => k ⟨f, S, T.kt, T.past, T.ch⟩) T.ts T.S
def iW (o : Oc) : Dc := fun _ T k => o (fun f S => fNat (Nat.succ T.kt) fun n => k ⟨f, S, n, T.S :: T.past, T.ch⟩) T.ts T.S
def iR (lo hi : Nat) (rd : Frm → SK → VK) (s : SetF) : Dc := fun _ T k => rd T.ts T.S fun v => s v T.ts fun f => k ⟨f, T.S, T.kt, T.past, .rd lo hi (rd T.ts) v :: T.ch⟩
def iA (ix lo hi : Nat) (z : List AV) (s : SetF) : Dc := fun base T k => fNat (Nat.add base ix) fun id => s (.ptr id 0 0) T.ts fun f => k ⟨f, T.S, T.kt, T.past, .al lo hi id z :: T.ch⟩
def mkT (z : List AV) (sz bytes id : Nat) (a b : AV) (k : AV → List AV → Bool) : Bool := i64K a fun l => i64K b fun c =>
  ifK (Nat.ble l c) (ifK (Nat.ble c 70368744177664) (ifK (Nat.ble (Nat.mul bytes c) 70368744177664) (lenK z fun n => ifK (Nat.beq n sz) (ifK (allK oneK z) (zerK z l fun r => fBool (Nat.beq l c) fun e => k (.ms id 0 0 l sz e) r)))))
def iM (ix lo hi : Nat) (z : List AV) (sz bytes : Nat) (a b : GetF) (s : SetF) : Dc := fun base T k => fNat (Nat.add base ix) fun id => mkT z sz bytes id (a T.ts) (b T.ts) fun v r => s v T.ts fun f => k ⟨f, T.S, T.kt, T.past, .al lo hi id r :: T.ch⟩
def iG (g : GetF) (w : Bool) (s : SetF) (i : Dc) : Dc := fun base T k => wantT (g T.ts) w (i base T k) (s u T.ts fun f => k ⟨f, T.S, T.kt, T.past, T.ch⟩)
def rd1 (F : SK → AV → VK) (x : GetF) : Frm → SK → VK := fun f S => F S (x f)
def rd3 (F : SK → AV → AV → AV → VK) (x y z : GetF) : Frm → SK → VK := fun f S => F S (x f) (y f) (z f)

def itT (l : List Dc) : Dc := fun base => List.rec (motive := fun _ => DsT → (DsT → Bool) → Bool) (fun T k => k T) (fun i _ ih T k => i base T fun T => ih T k) l

def chkT (sts : List SK) (c : ChT) (x : Bool) : Bool :=
  ChT.rec (motive := fun _ => Bool) (fun lo hi op v => winK sts lo (Nat.sub (Nat.succ hi) lo) fun l => allSt (fun S y => op S fun v' => ifK (eqK v v') y) l x)
    (fun lo hi id z => winK sts lo (Nat.sub (Nat.succ hi) lo) fun l => allSt (fun S y => rowK S id fun v cs => ifK (Nat.beq v 0) (ifK (Bool.rec (motive := fun _ => Bool) false true (beqs cs z)) y)) l x) c
def chksT (sts : List SK) (l : List ChT) (x : Bool) : Bool := List.rec (motive := fun _ => Bool) x (fun c _ ih => chkT sts c ih) l
def cD (zs : List (List AV)) (l : List Dc) : Cd := fun kn _ _ f S =>
  addsK zs S fun S0 => itT l S.len ⟨f, S0, 0, [], []⟩ fun T =>
    List.rec (motive := fun _ => Bool) (kn T.ts T.S) (fun _ _ _ => revK T.past [T.S] fun sts => chksT sts T.ch (kn T.ts T.S)) T.ch

/-- Where a 'make' stands among them: a first run tells how long the rows are. -/
inductive ZK where
  | st (z : List AV)
  | mk (g : GetF) (z : List AV)
def elMn (v : AV) (k : Nat → Bool) : Bool := elL v (k 0) (fun _ _ _ => k 0) (fun _ _ _ n _ _ => k n)
def zkK (f : Frm) (z : ZK) (k : List AV → Bool) : Bool := ZK.rec (motive := fun _ => Bool) (fun z => k z) (fun g z => elMn (g f) fun n => zerK z n k) z
def cDm (zs : List (List AV)) (zk : List ZK) (l : List Dc) : Cd := fun kn kx kr f S =>
  addsK zs S fun S0 => itT l S.len ⟨f, S0, 0, [], []⟩ fun T => mapK (zkK T.ts) zk fun zs1 => cD zs1 l kn kx kr f S

/-! ### Functions -/
def bindT (ss : List SetF) : List AV → Frm → (Frm → Bool) → Bool :=
  List.rec (motive := fun _ => List AV → Frm → (Frm → Bool) → Bool) (fun l f k => List.rec (motive := fun _ => Bool) (k f) (fun _ _ _ => false) l)
    (fun s _ ih l f k => List.rec (motive := fun _ => Bool) (k f) (fun a l _ => s a f fun f => ih l f k) l) ss
def r1 (x : GetF) (f : Frm) (S : SK) (k : AV → SK → Bool) : Bool := k (x f) S
def rN (l : List (Frm → SK → VK)) (f : Frm) (S : SK) (k : AV → SK → Bool) : Bool := mapK (fun x k => x f S k) l fun vs => oneOfK vs fun v => k v S
def rT (x : GetF) (f : Frm) (_ : SK) : VK := fun k => k (x f)
def rC (x : GetF) (sz : Nat) (ag : Bool) (f : Frm) (S : SK) : VK := ldT sz ag S (x f)
def fnT (ss : List SetF) (res : Frm → SK → (AV → SK → Bool) → Bool) (b : Cd) : Fc := fun args S k =>
  bindT ss args frm0 fun f => b (fun f S => res f S k) (fun _ _ _ => false) (fun f S => res f S k) f S


/-! ### The compiler -/
def lookL {α : Type} (d : α) (l : List α) : Nat → α := List.rec (motive := fun _ => Nat → α) (fun _ => d) (fun a _ ih n => Nat.rec (motive := fun _ => α) a (fun m _ => ih m) n) l
def gT (n : Nat) : GetF := cg (lookL gG0 gGs (Nat.mod n 16)) (lookL gF0 gFs (Nat.div n 16))
def sT (n : Nat) : SetF := cs (lookL sG0 sGs (Nat.mod n 16)) (lookL sF0 sFs (Nat.div n 16))

structure Cx3 where
  gv : Nat → AV
  tab : Nat → Fc
  tabv : Nat → Fc
  yl : Nat → Fc

def oaG (X : Cx3) (x : OA) : GetF := OA.rec (motive := fun _ => GetF) (fun n => gT n) (fun v => gC v) (fun g => gC (X.gv g)) x
def oaGs (X : Cx3) (l : List OA) : List GetF := List.rec (motive := fun _ => List GetF) [] (fun x _ ih => oaG X x :: ih) l
def oaGO (X : Cx3) (x : Option OA) : GetF := Option.rec (motive := fun _ => GetF) (gC .nili) (fun x => oaG X x) x
def dsT (d : Option Nat) : SetF := Option.rec (motive := fun _ => SetF) s0 (fun n => sT n) d
def offs (ps : List (Nat × Nat × OA)) : List (Nat × Nat) := List.rec (motive := fun _ => List (Nat × Nat)) [] (fun p _ ih => (p.1, p.2.1) :: ih) ps
def psGs (X : Cx3) (ps : List (Nat × Nat × OA)) : List GetF := List.rec (motive := fun _ => List GetF) [] (fun p _ ih => oaG X p.2.2 :: ih) ps

def coP (X : Cx3) (o : PO) (s : SetF) (r : Oc) : Oc := match o with
  | .mv x => oM (oaG X x) s r
  | .smv x => o1 smvT (oaG X x) s r
  | .pick c a b => o3 pickT (oaG X c) (oaG X a) (oaG X b) s r
  | .build z ps => oN (buildT z (offs ps)) (psGs X ps) s r
  | .mkl z len sz ps => oN (mklT z len sz (offs ps)) (psGs X ps) s r
  | .nchk x => o1 nchkT (oaG X x) s r
  | .arith op x y => o2 (arithK op) (oaG X x) (oaG X y) s r
  | .eq neg cl x y => o2 (eqT neg cl) (oaG X x) (oaG X y) s r
  | .un op x => o1 (unT op) (oaG X x) s r
  | .toInt d x => o1 (toIntT d) (oaG X x) s r
  | .s2b x => o1 s2bT (oaG X x) s r
  | .mkf f a b => oNN (mkfT f) (oaGs X a) (oaGs X b) s r
  | .slS x lo hi => o3 (slST lo.isSome hi.isSome) (oaG X x) (oaGO X lo) (oaGO X hi) s r
  | .slL sz x lo hi mx => match mx with
    | none => o3 (slLT lo.isSome hi.isSome sz) (oaG X x) (oaGO X lo) (oaGO X hi) s r
    | some m => match hi with
      | some _ => oN (slL4T lo.isSome sz) [oaG X x, oaGO X lo, oaGO X hi, oaG X m] s r
      | none => oX
  | .fad off x => o1 (fadT off) (oaG X x) s r
  | .fld off sz ag x => o1 (fldT off sz ag) (oaG X x) s r
  | .iaL sz x i => o2 (iaLT sz) (oaG X x) (oaG X i) s r
  | .iaA len sz x i => o2 (iaAT len sz) (oaG X x) (oaG X i) s r
  | .ixA len sz ag x i => o2 (ixAT len sz ag) (oaG X x) (oaG X i) s r
  | .ixS x i => o2 ixST (oaG X x) (oaG X i) s r
  | .ext x i => o1 (extT i) (oaG X x) s r
  | .lenS x => o1 lenST (oaG X x) s r
  | .lenL x => o1 lenLT (oaG X x) s r
  | .lenC n => o0 (.int .i64 (.ofNat n)) s r
  | .capL x => o1 capLT (oaG X x) s r
  | .maxI x xs => oN maxT (oaGs X (x :: xs)) s r
  | .minI x xs => oN minT (oaGs X (x :: xs)) s r
  | .cmpS x y => o2 cmpT (oaG X x) (oaG X y) s r
  | .bad => oX

def ldF (sz : Nat) (ag : Bool) : SK → AV → VK := Bool.rec (motive := fun _ => SK → AV → VK) (Bool.rec (motive := fun _ => SK → AV → VK) (ldT sz false) ld1T (Nat.beq sz 1)) (ldT sz true) ag

def coD (X : Cx3) (o : DO) (s : SetF) (r : Oc) : Oc := match o with
  | .load sz ag a => oD (ldF sz ag) (oaG X a) s r
  | .b2s x => oD b2sT (oaG X x) s r
  | .slA n sz x lo hi => oD3 (slAT lo.isSome hi.isSome n sz) (oaG X x) (oaGO X lo) (oaGO X hi) s r
  | _ => oX

def coW (X : Cx3) (o : WO) (s : SetF) (r : Oc) : Oc := match o with
  | .alloc z => oW0 (allocT z) s r
  | .box sz x => oW1 (boxT sz) (oaG X x) s r
  | .store sz a v => oW2 (storeT sz) (oaG X a) (oaG X v) s r
  | .mkr z len sz ps => oWN (mkrT z len sz (offs ps)) (psGs X ps) s r
  | .mks z sz bytes l c => oW2 (mksT z sz bytes) (oaG X l) (oaG X c) s r
  | .app sz bytes x y => oW2 (appT sz bytes) (oaG X x) (oaG X y) s r
  | .appZ z sz bytes x n => oW2 (appZT z sz bytes) (oaG X x) (oaG X n) s r
  | .copyL sz d e => oW2 (copyT sz) (oaG X d) (oaG X e) s r
  | .clr z sz x => oW1 (clrT z sz) (oaG X x) s r
  | .call f args => oF (X.tab f) (oaGs X args) s r
  | .callv x args => oV X.tabv X.yl (oaG X x) (oaGs X args) s r
  | _ => oX

def coA (X : Cx3) (o : AO) (s : SetF) (r : Oc) : Oc := match o with
  | .p o => coP X o s r
  | .d o => coD X o s r
  | .w o => coW X o s r

def coR (X : Cx3) (o : ROp) (r : Oc) : Oc := match o.gd with
  | none => coA X o.op (dsT o.dst) r
  | some g => oG (gT g.1) g.2 (dsT o.dst) (coA X o.op (dsT o.dst) eO) r

def coL (X : Cx3) (l : List ROp) : Oc := List.rec (motive := fun _ => Oc) eO (fun o _ ih => coR X o ih) l

def coI (X : Cx3) (o : ROp) (k : DK) (kt : Nat) : Dc := match k, o.op with
  | .p, .p _ => iP (coR X o eO)
  | .r lo hi, .d d => if lo = kt ∧ hi = kt then iP (coR X o eO) else
    let i : Dc := match d with
      | .load sz ag a => iR lo hi (rd1 (ldF sz ag) (oaG X a)) (dsT o.dst)
      | .b2s x => iR lo hi (rd1 b2sT (oaG X x)) (dsT o.dst)
      | .slA n sz x l h => iR lo hi (rd3 (slAT l.isSome h.isSome n sz) (oaG X x) (oaGO X l) (oaGO X h)) (dsT o.dst)
      | _ => iP oX
    match o.gd with
    | none => i
    | some g => iG (gT g.1) g.2 (dsT o.dst) i
  | .w, _ => iW (coR X o eO)
  | .a ix lo hi, .w (.alloc z) => match o.gd with
    | none => iA ix lo hi z (dsT o.dst)
    | some g => iG (gT g.1) g.2 (dsT o.dst) (iA ix lo hi z (dsT o.dst))
  | .a ix lo hi, .w (.mks z sz bytes l c) => match o.gd with
    | none => iM ix lo hi z sz bytes (oaG X l) (oaG X c) (dsT o.dst)
    | some g => iG (gT g.1) g.2 (dsT o.dst) (iM ix lo hi z sz bytes (oaG X l) (oaG X c) (dsT o.dst))
  | _, _ => iP oX

def coIs (X : Cx3) : List (ROp × DK) → Nat → List Dc
  | [], _ => []
  | (o, k) :: l, kt => coI X o k kt :: coIs X l (match k with | .w => kt + 1 | _ => kt)

def zkOf (l : List (ROp × DK)) (zs : List (List AV)) : List ZK := zs.zipIdx.map fun p => match mkAt l p.2 with
  | some (d, z) => .mk (gT d) z
  | none => .st p.1

def comp (X : Cx3) : RC → Cd
  | .skip => cSk
  | .ops l => cO (coL X l)
  | .draw l zs => match anyMk l with
    | true => cDm zs (zkOf l zs) (coIs X l 0)
    | false => cD zs (coIs X l 0)
  | .seq a b => cS (comp X a) (comp X b)
  | .cond x a b => cC (oaG X x) (comp X a) (comp X b)
  | .block id b => cB id (comp X b)
  | .loop b => cL (comp X b)
  | .exit id => cE id
  | .ret => cR
  | .range x ps asg body => cRg X.tabv (oaG X x) ps asg body
  | .bad => cX

def coRes1 (r : RRes) : Frm → SK → VK := match r with
  | .t n => rT (gT n)
  | .cell a sz ag => rC (gT a) sz ag
def coRes (l : List RRes) : Frm → SK → (AV → SK → Bool) → Bool := match l with
  | [.t n] => r1 (gT n)
  | l => rN (l.map coRes1)


/-! ### Rounds -/
def psT (ps : List Nat) : List AV → Frm → (Frm → Bool) → Bool :=
  List.rec (motive := fun _ => List AV → Frm → (Frm → Bool) → Bool) (fun l f k => List.rec (motive := fun _ => Bool) (k f) (fun _ _ _ => false) l)
    (fun p _ ih l f k => List.rec (motive := fun _ => Bool) false (fun a l _ => sT p a f fun f => ih l f k) l) ps
def finT (id : Nat) (j : J) (k : AV → SK → Bool) (S : SK) : Bool :=
  lpT S id fun f p a b st pend => ifK (Nat.beq st 1) (ifK (Option.rec (motive := fun _ => Bool) true (fun _ => false) pend)
    (J.rec (motive := fun _ => Bool) (setK S id (.loop f p a b 0 none) fun S => k (.bool true) S) (fun i => setK S id (.loop f p a b 2 (some (.exit i))) fun S => k (.bool false) S) (setK S id (.loop f p a b 2 (some .ret)) fun S => k (.bool false) S) j))
/-- A round: its code compiled on the way. -/
def yieldT (X : Cx3) (id : Nat) : Fc := fun args S k =>
  lpT S id fun f ps asg body st pend => ifK (Nat.beq st 0) (ifK (Option.rec (motive := fun _ => Bool) true (fun _ => false) pend) (ifK (Nat.ble S.lo id) (psT ps args f fun f =>
    comp X asg (fun f S => lpT S id fun f1 p1 a1 b1 st pend => ifK (Nat.beq st 0) (ifK (Option.rec (motive := fun _ => Bool) true (fun _ => false) pend) (setK S id (.loop f1 p1 a1 b1 1 none) fun S =>
      comp X body (fun _ S => finT id .nrm k S) (fun i _ S => finT id (.exit i) k S) (fun _ S => finT id .ret k S) f S)))
      (fun _ _ _ => false) (fun _ _ => false) f S)))
/-- The context of a round: no further rounds, no calls of values. -/
def inY (gv : Nat → AV) (tab : Nat → Fc) : Cx3 := ⟨gv, tab, fun _ _ _ _ => false, fun _ _ _ _ => false⟩
end
end Go.Ai


/- The kernel's words, plainly: what each hands on. -/
namespace Go.Ai
variable {α β : Type}

theorem fNat_eq (n : Nat) (k : Nat → Bool) : fNat n k = k n := by cases n <;> rfl
theorem fInt_eq (n : Int) (k : Int → Bool) : fInt n k = k n := by cases n <;> exact fNat_eq _ _
theorem bK_eq (b : Bool) (k : AV → Bool) : bK b k = k (.bool b) := by cases b <;> rfl
theorem iK_eq (d : IntKind) (n : Nat) (k : AV → Bool) : iK d n k = k (.int d n) := fNat_eq _ _
theorem fBool_eq (b : Bool) (k : Bool → Bool) : fBool b k = k b := by cases b <;> rfl
theorem ifK_true {b x : Bool} : ifK b x = true ↔ b = true ∧ x = true := by cases b <;> simp [ifK]
theorem optK_true {o : Option α} {k : α → Bool} : optK o k = true ↔ ∃ v, o = some v ∧ k v = true := by cases o <;> simp [optK]

theorem takeK_true : ∀ {l : List α} {n : Nat} {k : List α → Bool}, takeK l n k = true ↔ n ≤ l.length ∧ k (l.take n) = true
  | [], 0, k => by
    have h : takeK ([] : List α) 0 k = k [] := rfl
    simp [h]
  | [], n + 1, k => by
    have h : takeK ([] : List α) (n + 1) k = false := rfl
    simp [h]
  | a :: l, 0, k => by
    have h : takeK (a :: l) 0 k = k [] := rfl
    simp [h]
  | a :: l, n + 1, k => by
    have := takeK_true (l := l) (n := n) (k := fun r => k (a :: r))
    simp only [List.length_cons, Nat.add_le_add_iff_right, List.take_succ_cons]
    exact this

theorem cutK_true : ∀ {l : List α} {off n : Nat} {k : List α → Bool}, cutK l off n k = true ↔ off + n ≤ l.length ∧ k ((l.drop off).take n) = true
  | [], 0, n, k => by
    have h : cutK ([] : List α) 0 n k = takeK [] n k := rfl
    have := takeK_true (l := ([] : List α)) (n := n) (k := k)
    rw [h]
    simpa using this
  | [], off + 1, n, k => by
    have h : cutK ([] : List α) (off + 1) n k = false := rfl
    rw [h]
    simp
  | a :: l, 0, n, k => by
    have h : cutK (a :: l) 0 n k = takeK (a :: l) n k := rfl
    have := takeK_true (l := a :: l) (n := n) (k := k)
    rw [h]
    simpa using this
  | a :: l, off + 1, n, k => by
    have := cutK_true (l := l) (off := off) (n := n) (k := k)
    simp only [List.length_cons, List.drop_succ_cons]
    rw [show off + 1 + n = (off + n) + 1 by omega, Nat.add_le_add_iff_right]
    exact this

theorem nthK_true : ∀ {l : List α} {i : Nat} {k : α → Bool}, nthK l i k = true ↔ ∃ v, l[i]? = some v ∧ k v = true
  | [], i, k => by
    have h : nthK ([] : List α) i k = false := rfl
    simp [h]
  | a :: l, 0, k => by
    have h : nthK (a :: l) 0 k = k a := rfl
    simp [h]
  | a :: l, i + 1, k => by
    have h : nthK (a :: l) (i + 1) k = nthK l i k := rfl
    have := nthK_true (l := l) (i := i) (k := k)
    rw [h]
    simpa using this

theorem catK_eq : ∀ (xs ys : List α) (k : List α → Bool), catK xs ys k = k (xs ++ ys)
  | [], _, _ => rfl
  | a :: xs, ys, k => catK_eq xs ys fun r => k (a :: r)

theorem overK_true : ∀ {vs cs : List α} {k : List α → Bool}, overK vs cs k = true ↔ vs.length ≤ cs.length ∧ k (vs ++ cs.drop vs.length) = true
  | [], cs, k => by simp [overK]
  | v :: vs, [], k => by simp [overK]
  | v :: vs, c :: cs, k => by
    have := overK_true (vs := vs) (cs := cs) (k := fun r => k (v :: r))
    simp only [List.length_cons, Nat.add_le_add_iff_right, List.drop_succ_cons, List.cons_append]
    exact this

theorem spliceK_true : ∀ {vs cs : List AV} {off : Nat} {k : List AV → Bool}, spliceK vs cs off k = true ↔ off + vs.length ≤ cs.length ∧ k (splice cs off vs) = true
  | vs, [], 0, k => by
    have h : spliceK vs [] 0 k = overK vs [] k := rfl
    have := overK_true (vs := vs) (cs := []) (k := k)
    rw [h]
    simpa [splice] using this
  | vs, [], off + 1, k => by
    have h : spliceK vs [] (off + 1) k = false := rfl
    rw [h]
    simp
  | vs, a :: cs, 0, k => by
    have h : spliceK vs (a :: cs) 0 k = overK vs (a :: cs) k := rfl
    have := overK_true (vs := vs) (cs := a :: cs) (k := k)
    rw [h]
    simpa [splice] using this
  | vs, a :: cs, off + 1, k => by
    have := spliceK_true (vs := vs) (cs := cs) (off := off) (k := fun r => k (a :: r))
    simp only [List.length_cons, splice, List.take_succ_cons, List.cons_append]
    rw [show off + 1 + vs.length = (off + vs.length) + 1 by omega, Nat.add_le_add_iff_right, List.drop_succ_cons]
    exact this

theorem lenKA_eq : ∀ (l : List α) (n : Nat) (k : Nat → Bool), lenKA l n k = k (n + l.length)
  | [], n, k => rfl
  | a :: l, n, k => by
    have h : lenKA (a :: l) n k = fNat (Nat.succ n) fun n => lenKA l n k := rfl
    rw [h, fNat_eq, lenKA_eq]
    congr 1
    simp only [List.length_cons]
    omega
theorem lenK_eq (l : List α) (k : Nat → Bool) : lenK l k = k l.length := by rw [lenK, lenKA_eq, Nat.zero_add]

theorem allK_eq (p : α → Bool) : ∀ l : List α, allK p l = l.all p
  | [] => rfl
  | a :: l => by
    have h : allK p (a :: l) = Bool.rec (motive := fun _ => Bool) false (allK p l) (p a) := rfl
    rw [h, allK_eq p l]
    cases hp : p a <;> simp [hp]

/-- A list, computed one by one. -/
theorem mapK_true {f : α → (β → Bool) → Bool} {g : α → Option β} (hf : ∀ a k, f a k = true → ∃ b, g a = some b ∧ k b = true) : ∀ {l : List α} {k : List β → Bool}, mapK f l k = true → ∃ r, l.mapM g = some r ∧ k r = true
  | [], k, h => ⟨[], by simp, h⟩
  | a :: l, k, h => by
    have h' : f a (fun b => mapK f l fun r => k (b :: r)) = true := h
    obtain ⟨b, hb, h2⟩ := hf a _ h'
    obtain ⟨r, hr, h3⟩ := mapK_true hf h2
    exact ⟨b :: r, by simp [List.mapM_cons, hb, hr], h3⟩

theorem mapK_eq {f : α → (β → Bool) → Bool} {g : α → β} (hf : ∀ a k, f a k = k (g a)) : ∀ (l : List α) (k : List β → Bool), mapK f l k = k (l.map g)
  | [], k => rfl
  | a :: l, k => by
    have h : mapK f (a :: l) k = f a fun b => mapK f l fun r => k (b :: r) := rfl
    rw [h, hf, mapK_eq hf l]
    rfl

theorem oneK_eq (v : AV) : oneK v = oneCell v := by cases v <;> rfl
theorem allOne_eq (l : List AV) : allK oneK l = l.all oneCell := by rw [allK_eq]; congr 1; funext v; exact oneK_eq v
theorem celK_eq (v : AV) (k : List AV → Bool) : celK v k = k (cellsOf v) := by cases v <;> rfl

theorem zerK_eq (z : List AV) : ∀ (n : Nat) (k : List AV → Bool), zerK z n k = k (zerosOf z n)
  | 0, k => rfl
  | n + 1, k => by
    have h : zerK z (n + 1) k = zerK z n fun r => catK z r k := rfl
    rw [h, zerK_eq z n, catK_eq]
    rfl

theorem revK_eq : ∀ (l r : List α) (k : List α → Bool), revK l r k = k (l.reverse ++ r)
  | [], r, k => rfl
  | a :: l, r, k => by
    have h : revK (a :: l) r k = revK l (a :: r) k := rfl
    rw [h, revK_eq]
    simp

theorem minK_eq (a b : Nat) (k : Nat → Bool) : minK a b k = k (min a b) := by
  unfold minK
  cases h : Nat.ble a b
  · have : ¬ a ≤ b := fun h' => by rw [Nat.ble_eq_true_of_le h'] at h; cases h
    show k b = _
    rw [Nat.min_eq_right (by omega)]
  · show k a = _
    rw [Nat.min_eq_left (Nat.le_of_ble_eq_true h)]

theorem sameK_true {d d' : IntKind} {x : Bool} : sameK d d' x = true ↔ d = d' ∧ x = true := by
  have h : ∀ b : Bool, (Bool.rec (motive := fun _ => Bool) false x b = true ↔ b = true ∧ x = true) := fun b => by cases b <;> simp
  unfold sameK
  rw [h]
  cases d <;> cases d' <;> simp [IntKind.ctorIdx]

theorem oneOfK_eq (l : List AV) (k : AV → Bool) : oneOfK l k = k (match l with | [v] => v | vs => .tup vs) := by
  match l with
  | [] => rfl
  | [v] => rfl
  | v :: v' :: r => rfl

/-! ### Values taken apart -/
theorem elI_true {v : AV} {k : IntKind → Int → Bool} : elI v k = true ↔ ∃ d n, v = .int d n ∧ k d n = true := by
  cases v
  case int d n => exact ⟨fun h => ⟨d, n, rfl, h⟩, fun ⟨_, _, h1, h2⟩ => by cases h1; exact h2⟩
  all_goals simp [elI]
theorem elB_true {v : AV} {k : Bool → Bool} : elB v k = true ↔ ∃ b, v = .bool b ∧ k b = true := by cases v <;> simp [elB]
theorem elS_true {v : AV} {k : List UInt8 → Bool} : elS v k = true ↔ ∃ s, v = .str s ∧ k s = true := by cases v <;> simp [elS]
theorem elA_true {v : AV} {k : List AV → Bool} : elA v k = true ↔ ∃ cs, v = .agg cs ∧ k cs = true := by cases v <;> simp [elA]
theorem elT_true {v : AV} {k : List AV → Bool} : elT v k = true ↔ ∃ cs, v = .tup cs ∧ k cs = true := by cases v <;> simp [elT]
theorem elF_true {v : AV} {k : Nat → List AV → List AV → Bool} : elF v k = true ↔ ∃ f a b, v = .fn f a b ∧ k f a b = true := by
  cases v
  case fn f a b => exact ⟨fun h => ⟨f, a, b, rfl, h⟩, fun ⟨_, _, _, h1, h2⟩ => by cases h1; exact h2⟩
  all_goals simp [elF]
theorem natK_true {v : AV} {k : Nat → Bool} : natK v k = true ↔ ∃ n, natOf v = some n ∧ k n = true := by
  unfold natK
  rw [elI_true]
  constructor
  · rintro ⟨d, n, rfl, h⟩
    cases n with
    | ofNat m => exact ⟨m, by simp [natOf], h⟩
    | negSucc m => cases h
  · rintro ⟨n, h1, h2⟩
    cases v <;> simp only [natOf, reduceCtorEq] at h1
    split at h1 <;> cases h1
    rename_i d i hi
    refine ⟨d, i, rfl, ?_⟩
    cases i with
    | ofNat m => exact h2
    | negSucc m => omega
theorem idxK_true {v : AV} {n : Nat} {k : Nat → Bool} : idxK v n k = true → ∃ i, idxOf v n = some i ∧ k i = true := by
  unfold idxK
  rw [natK_true]
  rintro ⟨i, h1, h2⟩
  rw [ifK_true] at h2
  have h3 : i < n := by have := h2.1; simpa [Nat.blt_eq] using this
  cases v <;> simp only [natOf, reduceCtorEq] at h1
  split at h1 <;> cases h1
  rename_i d m hm
  exact ⟨m.toNat, by simp only [idxOf]; rw [if_pos ⟨hm, by omega⟩], h2.2⟩
theorem i64K_true {v : AV} {k : Nat → Bool} : i64K v k = true → ∃ n : Nat, v = .int .i64 n ∧ k n = true := by
  unfold i64K
  rw [elI_true]
  rintro ⟨d, n, rfl, h⟩
  rw [sameK_true] at h
  obtain ⟨rfl, h⟩ := h
  cases n with
  | ofNat m => exact ⟨m, rfl, h⟩
  | negSucc m => cases h

end Go.Ai


/- The kernel's words: numbers and texts. -/
namespace Go.Ai

def Imp (F : VK) (o : Option AV) : Prop := ∀ k, F k = true → ∃ v, o = some v ∧ k v = true

theorem Imp.of {F : VK} {v : AV} (h : ∀ k, F k = k v) : Imp F (some v) := fun k hk => ⟨v, rfl, (h k).symm.trans hk⟩

theorem wrapI_eq (d : IntKind) (n : Int) (k : AV → Bool) : wrapI d n k = k (.int d (d.wrap n)) := fInt_eq _ _

theorem wrapU_eq (b : Nat) (d : IntKind) (n : Nat) (k : AV → Bool) (hb : d.bits = b) (hs : d.signed = false) : wrapU b d n k = k (.int d (d.wrap n)) := by
  unfold wrapU
  rw [iK_eq]
  congr 2
  unfold IntKind.wrap
  rw [hs, hb]
  simp only [Bool.false_and, Bool.false_eq_true, if_false]
  exact Int.natCast_emod n (2 ^ b)

theorem wrapS_eq (b : Nat) (d : IntKind) (n : Nat) (k : AV → Bool) (hb : d.bits = b + 1) : wrapS b d n k = k (.int d (d.wrap n)) := by
  unfold wrapS
  cases h : Nat.blt n (Nat.pow 2 b)
  · exact wrapI_eq _ _ _
  · show iK d n k = _
    rw [iK_eq]
    congr 2
    have hlt : n < 2 ^ b := by simpa [Nat.blt_eq] using h
    have h2 : (2 : Int) ^ (b + 1) = 2 * 2 ^ b := by rw [Int.pow_succ]; omega
    have hc : ((2 ^ b : Nat) : Int) = (2 : Int) ^ b := by simp
    have hlt' : (n : Int) < (2 : Int) ^ b := by rw [← hc]; exact_mod_cast hlt
    unfold IntKind.wrap
    rw [hb]
    have hm : (n : Int) % (2 : Int) ^ (b + 1) = n := Int.emod_eq_of_lt (by omega) (by omega)
    simp only [hm, Nat.add_sub_cancel]
    rw [if_neg]
    simp only [Bool.and_eq_true, decide_eq_true_eq, not_and]
    intro _
    omega

theorem wrapN_eq (d : IntKind) (n : Nat) (k : AV → Bool) : wrapN d n k = k (.int d (d.wrap n)) := by
  cases d
  · exact wrapS_eq 7 .i8 n k rfl
  · exact wrapS_eq 15 .i16 n k rfl
  · exact wrapS_eq 31 .i32 n k rfl
  · exact wrapS_eq 63 .i64 n k rfl
  · exact wrapU_eq 8 .u8 n k rfl rfl
  · exact wrapU_eq 16 .u16 n k rfl rfl
  · exact wrapU_eq 32 .u32 n k rfl rfl
  · exact wrapU_eq 64 .u64 n k rfl rfl

theorem bitsK_eq (d : IntKind) : bitsK d = d.bits := by cases d <;> rfl

theorem slowK_sound {op : BinOp} {d : IntKind} {a b : Int} : Imp (slowK op d a b) (intOp op d a b) := by
  intro k h
  unfold slowK at h
  rw [optK_true] at h
  obtain ⟨v, hv, h⟩ := h
  refine ⟨v, hv, ?_⟩
  split at h
  · rw [bK_eq] at h; exact h
  · rw [fInt_eq] at h; exact h
  · cases h

theorem natNat_sound {slow : NumFn} {f : IntKind → Nat → Nat → (AV → Bool) → Bool} {g : IntKind → Int → Int → Option AV} (hs : ∀ d a b, Imp (slow d a b) (g d a b)) (hf : ∀ d (a b : Nat), Imp (f d a b) (g d a b)) (d : IntKind) (a b : Int) :
    Imp (natNat slow f d a b) (g d a b) := by
  intro k h
  cases a with
  | ofNat x =>
    cases b with
    | ofNat y => exact hf d x y k h
    | negSucc y => exact hs d _ _ k h
  | negSucc x => exact hs d _ _ k h

theorem int_pow (n : Nat) : ((2 ^ n : Nat) : Int) = (2 : Int) ^ n := by simp

theorem numK_sound (op : BinOp) (hop : op ≠ .shl ∧ op ≠ .shr) (d : IntKind) (a b : Int) : Imp (numK op d a b) (intOp op d a b) := by
  have sl : ∀ o d a b, Imp (slowK o d a b) (intOp o d a b) := fun _ _ _ _ => slowK_sound
  cases op
  case add => exact natNat_sound (sl .add) (fun d a b => .of fun k => (wrapN_eq d (a + b) k).trans rfl) d a b
  case sub =>
    refine natNat_sound (sl .sub) (fun d a b => .of fun k => ?_) d a b
    show subN d a b k = _
    unfold subN
    cases h : Nat.ble b a
    · exact wrapI_eq _ _ _
    · show wrapN d (a - b) k = _
      rw [wrapN_eq]
      have := Nat.le_of_ble_eq_true h
      congr 3
      omega
  case mul => exact natNat_sound (sl .mul) (fun d a b => .of fun k => (wrapN_eq d (a * b) k).trans rfl) d a b
  case quo =>
    refine natNat_sound (sl .quo) (fun d a b => ?_) d a b
    intro k h
    cases b with
    | zero => cases h
    | succ c =>
      have h' : wrapN d (a / (c + 1)) k = true := h
      rw [wrapN_eq] at h'
      refine ⟨_, ?_, h'⟩
      simp only [intOp]
      rw [if_neg (by omega)]
      congr 3
  case rem =>
    refine natNat_sound (sl .rem) (fun d a b => ?_) d a b
    intro k h
    cases b with
    | zero => cases h
    | succ c =>
      have h' : iK d (a % (c + 1)) k = true := h
      rw [iK_eq] at h'
      refine ⟨_, ?_, h'⟩
      simp only [intOp]
      rw [if_neg (by omega)]
      congr 2
  case and =>
    refine natNat_sound (sl .and) (fun d a b => .of fun k => ?_) d a b
    show andN d a b k = _
    unfold andN
    rw [wrapN_eq, bitsK_eq]
    congr 3
  case or =>
    refine natNat_sound (sl .or) (fun d a b => .of fun k => ?_) d a b
    show orN d a b k = _
    unfold orN
    rw [wrapN_eq, bitsK_eq]
    congr 3
  case xor =>
    refine natNat_sound (sl .xor) (fun d a b => .of fun k => ?_) d a b
    show xorN d a b k = _
    unfold xorN
    rw [wrapN_eq, bitsK_eq]
    congr 3
  case shl => exact absurd rfl hop.1
  case shr => exact absurd rfl hop.2
  case andNot => exact sl .andNot d a b
  case eql =>
    refine natNat_sound (sl .eql) (fun d a b => .of fun k => ?_) d a b
    show bK (Nat.beq a b) k = _
    rw [bK_eq]
    congr 2
    rw [Bool.eq_iff_iff, Nat.beq_eq]
    simp only [beq_iff_eq]
    omega
  case neq =>
    refine natNat_sound (sl .neq) (fun d a b => .of fun k => ?_) d a b
    show neN d a b k = _
    unfold neN
    have : ((a : Int) != b) = !Nat.beq a b := by
      rw [Bool.eq_iff_iff]
      cases h : Nat.beq a b
      · have : ¬ a = b := fun e => by rw [Nat.beq_eq.mpr e] at h; cases h
        simp; omega
      · have := Nat.eq_of_beq_eq_true h
        simp; omega
    rw [this]
    cases Nat.beq a b <;> rfl
  case lss =>
    refine natNat_sound (sl .lss) (fun d a b => .of fun k => ?_) d a b
    show bK (Nat.blt a b) k = _
    rw [bK_eq]
    congr 2
    rw [Bool.eq_iff_iff]
    simp [Nat.blt_eq]
  case leq =>
    refine natNat_sound (sl .leq) (fun d a b => .of fun k => ?_) d a b
    show bK (Nat.ble a b) k = _
    rw [bK_eq]
    congr 2
    rw [Bool.eq_iff_iff]
    simp [Nat.ble_eq]
  case gtr =>
    refine natNat_sound (sl .gtr) (fun d a b => .of fun k => ?_) d a b
    show bK (Nat.blt b a) k = _
    rw [bK_eq]
    congr 2
    rw [Bool.eq_iff_iff]
    simp [Nat.blt_eq]
  case geq =>
    refine natNat_sound (sl .geq) (fun d a b => .of fun k => ?_) d a b
    show bK (Nat.ble b a) k = _
    rw [bK_eq]
    congr 2
    rw [Bool.eq_iff_iff]
    simp [Nat.ble_eq]

end Go.Ai


/- The kernel's words: what operations do with values. -/
namespace Go.Ai

theorem min_bits (b : Nat) (d : IntKind) : (Bool.rec (motive := fun _ => Nat) (bitsK d) b (Nat.ble b (bitsK d))) = min b d.bits := by
  rw [← bitsK_eq]
  cases h : Nat.ble b (bitsK d)
  · have : ¬ b ≤ bitsK d := fun h' => by rw [Nat.ble_eq_true_of_le h'] at h; cases h
    show bitsK d = _
    omega
  · have := Nat.le_of_ble_eq_true h
    show b = _
    omega

theorem shl_sound (d d' : IntKind) (a b : Int) : Imp (numK .shl d a b) (arith .shl (.int d a) (.int d' b)) := by
  intro k h
  cases a with
  | negSucc x => cases h
  | ofNat x =>
    cases b with
    | negSucc y => cases h
    | ofNat y =>
      have h' : wrapN d (x * 2 ^ (Bool.rec (motive := fun _ => Nat) (bitsK d) y (Nat.ble y (bitsK d)))) k = true := h
      rw [wrapN_eq, min_bits] at h'
      refine ⟨_, ?_, h'⟩
      simp only [arith]
      rw [if_neg (by simp)]
      simp

theorem shr_sound (d d' : IntKind) (a b : Int) : Imp (numK .shr d a b) (arith .shr (.int d a) (.int d' b)) := by
  intro k h
  cases a with
  | negSucc x => cases h
  | ofNat x =>
    cases b with
    | negSucc y => cases h
    | ofNat y =>
      have h' : iK d (x / 2 ^ (Bool.rec (motive := fun _ => Nat) (bitsK d) y (Nat.ble y (bitsK d)))) k = true := h
      rw [iK_eq, min_bits] at h'
      refine ⟨_, ?_, h'⟩
      simp only [arith]
      rw [if_neg (by simp)]
      have : (Int.ofNat x).fdiv (2 ^ (min (Int.ofNat y).toNat d.bits)) = ((x / 2 ^ (min y d.bits) : Nat) : Int) := by
        have hp : ((2 ^ (min y d.bits) : Nat) : Int) = (2 : Int) ^ (min y d.bits) := by simp
        show (x : Int).fdiv ((2 : Int) ^ (min y d.bits)) = _
        rw [← hp, Int.fdiv_eq_ediv_of_nonneg _ (Int.natCast_nonneg _)]
        rfl
      rw [this]

theorem kindsK_true {op : BinOp} {d d' : IntKind} {x : Bool} (h : kindsK op d d' x = true) : x = true ∧ (op = .shl ∨ op = .shr ∨ d = d') := by
  cases op
  case shl => exact ⟨h, .inl rfl⟩
  case shr => exact ⟨h, .inr (.inl rfl)⟩
  all_goals
    have h' : sameK d d' x = true := h
    rw [sameK_true] at h'
    exact ⟨h'.2, .inr (.inr h'.1)⟩

theorem elIS_true {v : AV} {k : IntKind → Int → Bool} {g : List UInt8 → Bool} (h : elIS v k g = true) : (∃ d n, v = .int d n ∧ k d n = true) ∨ ∃ s, v = .str s ∧ g s = true := by
  cases v
  case int d n => exact .inl ⟨d, n, rfl, h⟩
  case str s => exact .inr ⟨s, rfl, h⟩
  all_goals cases h

theorem strK_sound (op : BinOp) (a b : List UInt8) : Imp (strK op a b) (strOp op a b) := by
  intro k h
  cases op <;> simp only [strK] at h <;> try (cases h; done)
  case add =>
    rw [lenK_eq, lenK_eq, ifK_true, catK_eq] at h
    refine ⟨_, ?_, h.2⟩
    have hle : a.length + b.length ≤ 70368744177664 := Nat.le_of_ble_eq_true h.1
    simp only [strOp]
    rw [if_pos hle]
  all_goals
    rw [bK_eq] at h
    exact ⟨_, rfl, h⟩

theorem arithK_sound (op : BinOp) (x y : AV) : Imp (arithK op x y) (arith op x y) := by
  intro k h0
  rcases elIS_true h0 with ⟨d, a, rfl, h1⟩ | ⟨a, rfl, h1⟩
  · rw [elI_true] at h1
    obtain ⟨d', b, rfl, h2⟩ := h1
    obtain ⟨h, hd⟩ := kindsK_true h2
    by_cases n1 : op = .shl
    · subst n1; exact shl_sound d d' a b k h
    · by_cases n2 : op = .shr
      · subst n2; exact shr_sound d d' a b k h
      · obtain rfl : d = d' := by
          rcases hd with hd | hd | hd
          · exact absurd hd n1
          · exact absurd hd n2
          · exact hd
        obtain ⟨v, hv, hk⟩ := numK_sound op ⟨n1, n2⟩ d a b k h
        refine ⟨v, ?_, hk⟩
        cases op <;> simp_all [arith]
  · rw [elS_true] at h1
    obtain ⟨b, rfl, h⟩ := h1
    exact strK_sound op a b k h

theorem smvT_sound (a : AV) : Imp (smvT a) (match a with | .str s => some (.str s) | _ => none) := by
  intro k h
  unfold smvT at h
  rw [elS_true] at h
  obtain ⟨s, rfl, h⟩ := h
  exact ⟨_, rfl, h⟩

theorem pickT_sound (c a b : AV) : Imp (pickT c a b) (match c with | .bool t => some (if t then a else b) | _ => none) := by
  intro k h
  unfold pickT at h
  rw [elB_true] at h
  obtain ⟨t, rfl, h⟩ := h
  cases t
  · exact ⟨_, rfl, h⟩
  · exact ⟨_, rfl, h⟩

theorem nchkT_sound (a : AV) : Imp (nchkT a) (if isNonNil a then some a else none) := by
  intro k h
  unfold nchkT at h
  rw [ifK_true] at h
  exact ⟨a, by rw [h.1]; rfl, h.2⟩

theorem eqT_sound (neg : Bool) (cl : Cls) (a b : AV) : Imp (eqT neg cl a b) ((eqOf cl a b).map fun r => .bool (if neg then !r else r)) := by
  intro k h
  unfold eqT at h
  rw [optK_true] at h
  obtain ⟨r, hr, h⟩ := h
  rw [bK_eq] at h
  refine ⟨_, by rw [hr]; rfl, ?_⟩
  cases neg <;> exact h

theorem unT_sound (op : UnOp) (a : AV) : Imp (unT op a) (unOf op a) := by
  intro k h
  unfold unT at h
  rw [optK_true] at h
  obtain ⟨v, hv, h⟩ := h
  refine ⟨v, hv, ?_⟩
  split at h
  · rw [bK_eq] at h; exact h
  · rw [fInt_eq] at h; exact h
  · cases h

theorem toIntT_sound (d : IntKind) (a : AV) : Imp (toIntT d a) (match a with | .int _ n => some (.int d (d.wrap n)) | _ => none) := by
  intro k h
  unfold toIntT at h
  rw [elI_true] at h
  obtain ⟨d', n, rfl, h⟩ := h
  cases n with
  | ofNat m => exact ⟨_, rfl, (wrapN_eq d m k).symm.trans h⟩
  | negSucc m => exact ⟨_, rfl, (wrapI_eq d _ k).symm.trans h⟩

theorem bytesK_eq (s : List UInt8) (k : List AV → Bool) : mapK (fun (b : UInt8) k => iK .u8 b.toNat k) s k = k (byteCells s) := mapK_eq (g := fun b : UInt8 => AV.int .u8 b.toNat) (fun _ _ => iK_eq _ _ _) s k

theorem s2bT_sound (a : AV) : Imp (s2bT a) (match a with | .str s => if s.length ≤ 70368744177664 then some (.sl (byteCells s) s.length false) else none | _ => none) := by
  intro k h
  unfold s2bT at h
  rw [elS_true] at h
  obtain ⟨s, rfl, h⟩ := h
  rw [lenK_eq, ifK_true, bytesK_eq] at h
  refine ⟨_, ?_, h.2⟩
  simp only
  rw [if_pos (Nat.le_of_ble_eq_true h.1)]

theorem bdT_true {g : Bool} {v : AV} {d : Nat} {k : Nat → Bool} (h : bdT g v d k = true) : ∃ n, (if g then natOf v else some d) = some n ∧ k n = true := by
  cases g with
  | false => exact ⟨d, rfl, h⟩
  | true =>
    have h' : natK v k = true := h
    rw [natK_true] at h'
    exact h'

def bndV (g : Bool) (v : AV) (d : Nat) : Option Nat := if g then natOf v else some d

theorem slST_sound (gl gh : Bool) (a lo hi : AV) : Imp (slST gl gh a lo hi) (match a with
    | .str s => match bndV gl lo 0, bndV gh hi s.length with
      | some l, some h => if l ≤ h ∧ h ≤ s.length then some (.str ((s.drop l).take (h - l))) else none
      | _, _ => none
    | _ => none) := by
  intro k h
  unfold slST at h
  rw [elS_true] at h
  obtain ⟨s, rfl, h⟩ := h
  rw [lenK_eq] at h
  obtain ⟨l, hl, h⟩ := bdT_true h
  obtain ⟨m, hm, h⟩ := bdT_true h
  rw [ifK_true, ifK_true, cutK_true] at h
  obtain ⟨h1, h2, _, h⟩ := h
  have h1 := Nat.le_of_ble_eq_true h1
  have h2 := Nat.le_of_ble_eq_true h2
  refine ⟨_, ?_, h⟩
  simp only [bndV, hl, hm]
  rw [if_pos ⟨h1, h2⟩]
  rfl

theorem elL_true {v : AV} {e : Bool} {f : List AV → Nat → Bool → Bool} {g : Nat → Nat → Nat → Nat → Nat → Bool → Bool} (h : elL v e f g = true) :
    (v = .nils ∧ e = true) ∨ (∃ cs n ex, v = .sl cs n ex ∧ f cs n ex = true) ∨ ∃ id ver off n sz ex, v = .ms id ver off n sz ex ∧ g id ver off n sz ex = true := by
  cases v
  case nils => exact .inl ⟨rfl, h⟩
  case sl cs n ex => exact .inr (.inl ⟨cs, n, ex, rfl, h⟩)
  case ms id ver off n sz ex => exact .inr (.inr ⟨id, ver, off, n, sz, ex, rfl, h⟩)
  all_goals cases h

theorem elP_true {v : AV} {f : Nat → Nat → Nat → Bool} {g : List AV → Nat → Bool} (h : elP v f g = true) :
    (∃ id ver off, v = .ptr id ver off ∧ f id ver off = true) ∨ ∃ cs o, v = .cp cs o ∧ g cs o = true := by
  cases v
  case ptr id ver off => exact .inl ⟨id, ver, off, rfl, h⟩
  case cp cs o => exact .inr ⟨cs, o, rfl, h⟩
  all_goals cases h

theorem beqN (a b : Nat) : Nat.beq a b = (a == b) := by
  rw [Bool.eq_iff_iff, Nat.beq_eq]
  simp

theorem slcK_sound (sz : Nat) (x : AV) (l h : Nat) (m : Option Nat) : Imp (slcK sz x l h m) (slOf sz x l h m) := by
  intro k hk
  unfold slcK at hk
  rcases elL_true hk with ⟨rfl, h1⟩ | ⟨cs, n, ex, rfl, h1⟩ | ⟨id, ver, off, n, sz', ex, rfl, h1⟩
  · cases m with
    | none =>
      simp only [ifK_true] at h1
      have e1 := Nat.eq_of_beq_eq_true h1.1
      have e2 := Nat.eq_of_beq_eq_true h1.2.1
      exact ⟨.nils, by simp [slOf, e1, e2], h1.2.2⟩
    | some m =>
      simp only [ifK_true] at h1
      have e1 := Nat.eq_of_beq_eq_true h1.1
      have e2 := Nat.eq_of_beq_eq_true h1.2.1
      have e3 := Nat.eq_of_beq_eq_true h1.2.2.1
      exact ⟨.nils, by simp [slOf, e1, e2, e3], h1.2.2.2⟩
  · cases m with
    | none =>
      simp only [ifK_true, lenK_eq, cutK_true, fNat_eq, fBool_eq] at h1
      obtain ⟨h2, h3, h4, _, h5⟩ := h1
      rw [beqN] at h5
      refine ⟨_, ?_, h5⟩
      simp only [slOf]
      rw [if_pos ⟨Nat.le_of_ble_eq_true h2, Nat.le_of_ble_eq_true h3, Nat.eq_of_beq_eq_true h4⟩]
      rfl
    | some m =>
      simp only [ifK_true, lenK_eq, cutK_true, fNat_eq, fBool_eq] at h1
      obtain ⟨h2, h3, h3', h4, _, h5⟩ := h1
      rw [beqN] at h5
      refine ⟨_, ?_, h5⟩
      simp only [slOf]
      rw [if_pos ⟨Nat.le_of_ble_eq_true h2, Nat.le_of_ble_eq_true h3, Nat.le_of_ble_eq_true h3', Nat.eq_of_beq_eq_true h4⟩]
      rfl
  · cases m with
    | none =>
      simp only [ifK_true, fNat_eq, fBool_eq] at h1
      obtain ⟨h2, h3, h4, h5⟩ := h1
      rw [beqN] at h5
      refine ⟨_, ?_, h5⟩
      simp only [slOf]
      rw [if_pos ⟨Nat.le_of_ble_eq_true h2, Nat.le_of_ble_eq_true h3, Nat.eq_of_beq_eq_true h4⟩]
      rfl
    | some m =>
      simp only [ifK_true, fNat_eq, fBool_eq] at h1
      obtain ⟨h2, h3, h3', h4, h5⟩ := h1
      rw [beqN] at h5
      refine ⟨_, ?_, h5⟩
      simp only [slOf]
      rw [if_pos ⟨Nat.le_of_ble_eq_true h2, Nat.le_of_ble_eq_true h3, Nat.le_of_ble_eq_true h3', Nat.eq_of_beq_eq_true h4⟩]
      rfl

theorem lenNK_true {v : AV} {k : Nat → Bool} (h : lenNK v k = true) : k (lenN v) = true := by
  unfold lenNK at h
  rcases elL_true h with ⟨rfl, h1⟩ | ⟨cs, n, ex, rfl, h1⟩ | ⟨id, ver, off, n, sz', ex, rfl, h1⟩ <;> exact h1

theorem slLT_sound (gl gh : Bool) (sz : Nat) (a lo hi : AV) : Imp (slLT gl gh sz a lo hi) (match bndV gl lo 0, bndV gh hi (lenN a) with
    | some l, some h => slOf sz a l h none
    | _, _ => none) := by
  intro k h
  unfold slLT at h
  have h := lenNK_true h
  obtain ⟨l, hl, h⟩ := bdT_true h
  obtain ⟨m, hm, h⟩ := bdT_true h
  simp only [bndV, hl, hm]
  exact slcK_sound sz a l m none k h

theorem slL4T_sound (gl : Bool) (sz : Nat) (a lo hi mx : AV) : Imp (slL4T gl sz [a, lo, hi, mx]) (match bndV gl lo 0, natOf hi, natOf mx with
    | some l, some h, some m => slOf sz a l h (some m)
    | _, _, _ => none) := by
  intro k h
  unfold slL4T at h
  obtain ⟨l, hl, h⟩ := bdT_true h
  rw [natK_true] at h
  obtain ⟨b, hb, h⟩ := h
  rw [natK_true] at h
  obtain ⟨m, hm, h⟩ := h
  simp only [bndV, hl, hb, hm]
  exact slcK_sound sz a l b (some m) k h

theorem asK_sound (ag : Bool) (cs : List AV) : Imp (asK ag cs) (asVal ag cs) := by
  intro k h
  cases ag with
  | true => exact ⟨_, rfl, h⟩
  | false => match cs, h with
    | [], h => cases h
    | [v], h => exact ⟨v, rfl, h⟩
    | v :: w :: r, h => cases h

theorem fadT_sound (off : Nat) (a : AV) : Imp (fadT off a) (match a with | .ptr id ver o => some (.ptr id ver (o + off)) | .cp cs o => some (.cp cs (o + off)) | _ => none) := by
  intro k h
  unfold fadT at h
  rcases elP_true h with ⟨id, ver, o, rfl, h1⟩ | ⟨cs, o, rfl, h1⟩
  · rw [fNat_eq] at h1; exact ⟨_, rfl, h1⟩
  · rw [fNat_eq] at h1; exact ⟨_, rfl, h1⟩

theorem fldT_sound (off sz : Nat) (ag : Bool) (a : AV) : Imp (fldT off sz ag a) (match a with | .agg cs => if off + sz ≤ cs.length then asVal ag (cut cs off sz) else none | _ => none) := by
  intro k h
  unfold fldT at h
  rw [elA_true] at h
  obtain ⟨cs, rfl, h⟩ := h
  rw [cutK_true] at h
  simp only
  rw [if_pos h.1]
  exact asK_sound ag _ k h.2

theorem iaLT_sound (sz : Nat) (a j : AV) : Imp (iaLT sz a j) (match a with
    | .sl cs n _ => if cs.length = n * sz then (idxOf j n).map fun j => .cp cs (j * sz) else none
    | .ms id ver off n sz' _ => if sz' = sz then (idxOf j n).map fun j => .ptr id ver (off + j * sz) else none
    | _ => none) := by
  intro k h
  unfold iaLT at h
  rcases elL_true h with ⟨rfl, h1⟩ | ⟨cs, n, ex, rfl, h1⟩ | ⟨id, ver, off, n, sz', ex, rfl, h1⟩
  · cases h1
  · obtain ⟨i, hi, h2⟩ := idxK_true h1
    simp only [lenK_eq, ifK_true, fNat_eq] at h2
    refine ⟨_, ?_, h2.2⟩
    have e : cs.length = n * sz := Nat.eq_of_beq_eq_true h2.1
    simp only
    rw [if_pos e, hi]
    rfl
  · rw [ifK_true] at h1
    obtain ⟨i, hi, h2⟩ := idxK_true h1.2
    rw [fNat_eq] at h2
    refine ⟨_, ?_, h2⟩
    simp only
    rw [if_pos (Nat.eq_of_beq_eq_true h1.1), hi]
    rfl

theorem iaAT_sound (len sz : Nat) (a j : AV) : Imp (iaAT len sz a j) (match a with
    | .ptr id ver off => (idxOf j len).map fun j => .ptr id ver (off + j * sz)
    | .cp cs off => (idxOf j len).map fun j => .cp cs (off + j * sz)
    | _ => none) := by
  intro k h
  unfold iaAT at h
  rcases elP_true h with ⟨id, ver, o, rfl, h1⟩ | ⟨cs, o, rfl, h1⟩
  · obtain ⟨i, hi, h2⟩ := idxK_true h1
    rw [fNat_eq] at h2
    exact ⟨_, by simp only [hi]; rfl, h2⟩
  · obtain ⟨i, hi, h2⟩ := idxK_true h1
    rw [fNat_eq] at h2
    exact ⟨_, by simp only [hi]; rfl, h2⟩

theorem ixAT_sound (len sz : Nat) (ag : Bool) (a j : AV) : Imp (ixAT len sz ag a j) (match a with
    | .agg cs => (idxOf j len).bind fun j => if j * sz + sz ≤ cs.length then asVal ag (cut cs (j * sz) sz) else none
    | _ => none) := by
  intro k h
  unfold ixAT at h
  rw [elA_true] at h
  obtain ⟨cs, rfl, h⟩ := h
  obtain ⟨i, hi, h⟩ := idxK_true h
  rw [cutK_true] at h
  obtain ⟨v, hv, hk⟩ := asK_sound ag _ k h.2
  refine ⟨v, ?_, hk⟩
  have e : i * sz + sz ≤ cs.length := h.1
  simp only [hi, Option.bind_some]
  rw [if_pos e]
  exact hv

theorem ixST_sound (a j : AV) : Imp (ixST a j) (match a with
    | .str s => (idxOf j s.length).bind fun j => (s[j]?).map fun b => .int .u8 b.toNat
    | _ => none) := by
  intro k h
  unfold ixST at h
  rw [elS_true] at h
  obtain ⟨s, rfl, h⟩ := h
  rw [natK_true] at h
  obtain ⟨i, hi, h⟩ := h
  rw [nthK_true] at h
  obtain ⟨b, hb, h⟩ := h
  rw [iK_eq] at h
  refine ⟨_, ?_, h⟩
  have hlt := (List.getElem?_eq_some_iff.1 hb).1
  cases j <;> simp only [natOf, reduceCtorEq] at hi
  split at hi <;> cases hi
  rename_i d m hm
  simp only [idxOf]
  rw [if_pos ⟨hm, by omega⟩]
  simp only [Option.bind_some, hb, Option.map_some]

theorem extT_sound (i : Nat) (a : AV) : Imp (extT i a) (match a with | .tup vs => vs[i]? | _ => none) := by
  intro k h
  unfold extT at h
  rw [elT_true] at h
  obtain ⟨vs, rfl, h⟩ := h
  rw [nthK_true] at h
  exact h

theorem lenST_sound (a : AV) : Imp (lenST a) (match a with | .str s => some (.int .i64 s.length) | _ => none) := by
  intro k h
  unfold lenST at h
  rw [elS_true] at h
  obtain ⟨s, rfl, h⟩ := h
  rw [lenK_eq] at h
  exact ⟨_, rfl, h⟩

theorem lenLT_sound (a : AV) : Imp (lenLT a) (match a with | .nils => some (.int .i64 0) | .sl _ n _ => some (.int .i64 n) | .ms _ _ _ n _ _ => some (.int .i64 n) | _ => none) := by
  intro k h
  unfold lenLT lenNK at h
  rcases elL_true h with ⟨rfl, h1⟩ | ⟨cs, n, ex, rfl, h1⟩ | ⟨id, ver, off, n, sz', ex, rfl, h1⟩ <;> exact ⟨_, rfl, h1⟩

theorem capLT_sound (a : AV) : Imp (capLT a) (match a with | .nils => some (.int .i64 0) | .sl _ n true => some (.int .i64 n) | .ms _ _ _ n _ true => some (.int .i64 n) | _ => none) := by
  intro k h
  unfold capLT at h
  rcases elL_true h with ⟨rfl, h1⟩ | ⟨cs, n, ex, rfl, h1⟩ | ⟨id, ver, off, n, sz', ex, rfl, h1⟩
  · exact ⟨_, rfl, h1⟩
  · rw [ifK_true] at h1
    obtain ⟨rfl, h1⟩ := h1
    exact ⟨_, rfl, h1⟩
  · rw [ifK_true] at h1
    obtain ⟨rfl, h1⟩ := h1
    exact ⟨_, rfl, h1⟩

theorem cmpT_sound (a b : AV) : Imp (cmpT a b) (match a, b with | .str a, .str b => some (.int .i64 (Extern.BytealgCompare.cmp ⟨⟨a⟩⟩ ⟨⟨b⟩⟩)) | _, _ => none) := by
  intro k h
  unfold cmpT at h
  rw [elS_true] at h
  obtain ⟨s, rfl, h⟩ := h
  rw [elS_true] at h
  obtain ⟨t, rfl, h⟩ := h
  rw [fInt_eq] at h
  exact ⟨_, rfl, h⟩

theorem foldK_sound (f : Int → Int → Bool) (g : Int → Int → Int) (hg : ∀ a b, g a b = if f a b then b else a) (d : IntKind) : ∀ (l : List AV) (n : Int), Imp (foldK f d l n) (foldI g d n l)
  | [], n, k, h => ⟨_, rfl, h⟩
  | v :: l, n, k, h => by
    have h' : elI v (fun d' b => sameK d d' (Bool.rec (motive := fun _ => Bool) (foldK f d l n k) (foldK f d l b k) (f n b))) = true := h
    rw [elI_true] at h'
    obtain ⟨d', b, rfl, h2⟩ := h'
    rw [sameK_true] at h2
    obtain ⟨rfl, h2⟩ := h2
    simp only [foldI, if_true, hg]
    cases hf : f n b with
    | false =>
      rw [hf] at h2
      simpa using foldK_sound f g hg d l n k h2
    | true =>
      rw [hf] at h2
      simpa using foldK_sound f g hg d l b k h2

theorem maxT_sound (x : AV) (xs : List AV) : Imp (maxT (x :: xs)) (match x with | .int k a => foldI (fun a b => if b > a then b else a) k a xs | _ => none) := by
  intro k h
  have h' : elI x (fun d n => foldK (fun a b => decide (b > a)) d xs n k) = true := h
  rw [elI_true] at h'
  obtain ⟨d, n, rfl, h'⟩ := h'
  exact foldK_sound _ _ (fun a b => by simp) d xs n k h'

theorem minT_sound (x : AV) (xs : List AV) : Imp (minT (x :: xs)) (match x with | .int k a => foldI (fun a b => if b < a then b else a) k a xs | _ => none) := by
  intro k h
  have h' : elI x (fun d n => foldK (fun a b => decide (b < a)) d xs n k) = true := h
  rw [elI_true] at h'
  obtain ⟨d, n, rfl, h'⟩ := h'
  exact foldK_sound _ _ (fun a b => by simp) d xs n k h'

end Go.Ai


/- The kernel's frames and store against lists. -/
namespace Go.Ai

theorem lt16 {x : Nat} (h : x < 16) : x = 0 ∨ x = 1 ∨ x = 2 ∨ x = 3 ∨ x = 4 ∨ x = 5 ∨ x = 6 ∨ x = 7 ∨ x = 8 ∨ x = 9 ∨ x = 10 ∨ x = 11 ∨ x = 12 ∨ x = 13 ∨ x = 14 ∨ x = 15 := by omega
theorem lt20 {x : Nat} (h : x < 20) : x = 0 ∨ x = 1 ∨ x = 2 ∨ x = 3 ∨ x = 4 ∨ x = 5 ∨ x = 6 ∨ x = 7 ∨ x = 8 ∨ x = 9 ∨ x = 10 ∨ x = 11 ∨ x = 12 ∨ x = 13 ∨ x = 14 ∨ x = 15 ∨ x = 16 ∨ x = 17 ∨ x = 18 ∨ x = 19 := by omega

/-! ### Frames -/
theorem grp_set {j : Nat} (hj : j < 16) (g : Grp) (v : AV) : ∃ g', (∀ k, lookL sG0 sGs j g v k = k g') ∧ ∀ m, m < 16 → lookL gG0 gGs m g' = if m = j then v else lookL gG0 gGs m g := by
  cases g
  rcases lt16 hj with rfl | rfl | rfl | rfl | rfl | rfl | rfl | rfl | rfl | rfl | rfl | rfl | rfl | rfl | rfl | rfl <;> refine ⟨_, fun k => rfl, fun m hm => ?_⟩ <;> rcases lt16 hm with rfl | rfl | rfl | rfl | rfl | rfl | rfl | rfl | rfl | rfl | rfl | rfl | rfl | rfl | rfl | rfl <;> rfl

theorem frm_set {i : Nat} (hi : i < 20) (f : Frm) (s : Grp → AV → (Grp → Bool) → Bool) (v : AV) : ∃ h : Grp → Frm, (∀ k, lookL sF0 sFs i f s v k = s (lookL gF0 gFs i f) v fun g => k (h g)) ∧ ∀ g m, m < 20 → lookL gF0 gFs m (h g) = if m = i then g else lookL gF0 gFs m f := by
  cases f
  rcases lt20 hi with rfl | rfl | rfl | rfl | rfl | rfl | rfl | rfl | rfl | rfl | rfl | rfl | rfl | rfl | rfl | rfl | rfl | rfl | rfl | rfl <;> refine ⟨_, fun k => rfl, fun g m hm => ?_⟩ <;> rcases lt20 hm with rfl | rfl | rfl | rfl | rfl | rfl | rfl | rfl | rfl | rfl | rfl | rfl | rfl | rfl | rfl | rfl | rfl | rfl | rfl | rfl <;> rfl

theorem sT_spec {n : Nat} (hn : n < 320) (v : AV) (f : Frm) : ∃ f', (∀ k, sT n v f k = k f') ∧ ∀ m, m < 320 → gT m f' = if m = n then v else gT m f := by
  have hi : Nat.div n 16 < 20 := Nat.div_lt_of_lt_mul (by omega)
  have hj : Nat.mod n 16 < 16 := Nat.mod_lt _ (by omega)
  obtain ⟨h, h1, h2⟩ := frm_set hi f (lookL sG0 sGs (Nat.mod n 16)) v
  obtain ⟨g', h3, h4⟩ := grp_set hj (lookL gF0 gFs (Nat.div n 16) f) v
  refine ⟨h g', fun k => ?_, fun m hm => ?_⟩
  · show lookL sF0 sFs (Nat.div n 16) f (lookL sG0 sGs (Nat.mod n 16)) v k = _
    rw [h1, h3]
  · have hi' : Nat.div m 16 < 20 := Nat.div_lt_of_lt_mul (by omega)
    have hj' : Nat.mod m 16 < 16 := Nat.mod_lt _ (by omega)
    show lookL gG0 gGs (Nat.mod m 16) (lookL gF0 gFs (Nat.div m 16) (h g')) = if m = n then v else lookL gG0 gGs (Nat.mod m 16) (lookL gF0 gFs (Nat.div m 16) f)
    rw [h2 g' _ hi']
    have e1 : Nat.div m 16 = m / 16 := rfl
    have e2 : Nat.mod m 16 = m % 16 := rfl
    have e3 : Nat.div n 16 = n / 16 := rfl
    have e4 : Nat.mod n 16 = n % 16 := rfl
    by_cases hd : Nat.div m 16 = Nat.div n 16
    · rw [if_pos hd, h4 _ hj']
      by_cases he : Nat.mod m 16 = Nat.mod n 16
      · rw [if_pos he, if_pos (by omega)]
      · rw [if_neg he, if_neg (by omega), hd]
    · rw [if_neg hd, if_neg (by intro e; exact hd (by rw [e]))]

def FrR (f : Frm) (ts : List AV) : Prop := ts.length ≤ 320 ∧ ∀ n, n < ts.length → gT n f = ts.getD n (.tup [])

theorem FrR.set {f : Frm} {ts : List AV} (h : FrR f ts) {n : Nat} (hn : n < ts.length) (v : AV) : ∃ f', (∀ k, sT n v f k = k f') ∧ FrR f' (ts.set n v) := by
  obtain ⟨f', h1, h2⟩ := sT_spec (n := n) (Nat.lt_of_lt_of_le hn h.1) v f
  refine ⟨f', h1, by simpa using h.1, fun m hm => ?_⟩
  simp only [List.length_set] at hm
  rw [h2 m (Nat.lt_of_lt_of_le hm h.1), List.getD_eq_getElem?_getD]
  by_cases e : m = n
  · subst e
    rw [if_pos rfl, List.getElem?_set_self hm]
    rfl
  · rw [if_neg e, List.getElem?_set_ne (Ne.symm e), h.2 m hm, List.getD_eq_getElem?_getD]

/-! ### Trees -/
section
variable {α : Type}
def look : TT α → Nat → Option α
  | .e, _ => none
  | .n v _ _, 0 => some v
  | .n _ l r, i + 1 => if i % 2 = 1 then look r (i / 2) else look l (i / 2)

theorem get_true : ∀ {t : TT α} {i : Nat} {k : α → Bool}, t.get i k = true ↔ ∃ v, look t i = some v ∧ k v = true
  | .e, i, k => by
    have h : (TT.e : TT α).get i k = false := rfl
    rw [h]
    simp [look]
  | .n v l r, 0, k => by
    have h : (TT.n v l r).get 0 k = k v := rfl
    rw [h]
    simp [look]
  | .n v l r, i + 1, k => by
    have h : (TT.n v l r).get (i + 1) k = Bool.rec (motive := fun _ => Bool) (l.get (i / 2) k) (r.get (i / 2) k) (Nat.beq (i % 2) 1) := rfl
    rw [h]
    simp only [look]
    cases hb : Nat.beq (i % 2) 1
    · rw [if_neg (fun e => by rw [e] at hb; cases hb)]
      exact get_true
    · rw [if_pos (Nat.eq_of_beq_eq_true hb)]
      exact get_true

theorem upd_true : ∀ {t : TT α} {i : Nat} {x : α} {k : TT α → Bool}, t.upd i x k = true → ∃ t', k t' = true ∧ (look t i).isSome = true ∧ ∀ j, look t' j = if j = i then some x else look t j
  | .e, i, x, k, h => by cases h
  | .n v l r, 0, x, k, h => ⟨.n x l r, h, rfl, fun j => by cases j <;> simp [look]⟩
  | .n v l r, i + 1, x, k, h => by
    have h' : Bool.rec (motive := fun _ => Bool) (l.upd (i / 2) x fun l' => k (.n v l' r)) (r.upd (i / 2) x fun r' => k (.n v l r')) (Nat.beq (i % 2) 1) = true := h
    cases hb : Nat.beq (i % 2) 1 <;> rw [hb] at h'
    · have hn : ¬ i % 2 = 1 := fun e => by rw [e] at hb; cases hb
      obtain ⟨t', h1, h2, h3⟩ := upd_true h'
      refine ⟨.n v t' r, h1, by simp only [look]; rw [if_neg hn]; exact h2, fun j => ?_⟩
      cases j with
      | zero => simp [look]
      | succ j =>
        simp only [look, h3, Nat.add_right_cancel_iff]
        by_cases e : j = i
        · subst e; simp [hn]
        · rw [if_neg e]
          by_cases hj : j % 2 = 1
          · simp [hj]
          · rw [if_neg hj, if_neg hj, if_neg (by omega)]
    · have hp : i % 2 = 1 := Nat.eq_of_beq_eq_true hb
      obtain ⟨t', h1, h2, h3⟩ := upd_true h'
      refine ⟨.n v l t', h1, by simp only [look]; rw [if_pos hp]; exact h2, fun j => ?_⟩
      cases j with
      | zero => simp [look]
      | succ j =>
        simp only [look, h3, Nat.add_right_cancel_iff]
        by_cases e : j = i
        · subst e; simp [hp]
        · rw [if_neg e]
          by_cases hj : j % 2 = 1
          · rw [if_pos hj, if_pos hj, if_neg (by omega)]
          · simp [hj]

theorem ext_true : ∀ {t : TT α} {i : Nat} {x : α} {k : TT α → Bool}, t.ext i x k = true → ∃ t', k t' = true ∧ ∀ j, look t' j = if j = i then some x else look t j
  | .e, 0, x, k, h => ⟨.n x .e .e, h, fun j => by cases j <;> simp [look]⟩
  | .e, i + 1, x, k, h => by cases h
  | .n v l r, 0, x, k, h => by cases h
  | .n v l r, i + 1, x, k, h => by
    have h' : Bool.rec (motive := fun _ => Bool) (l.ext (i / 2) x fun l' => k (.n v l' r)) (r.ext (i / 2) x fun r' => k (.n v l r')) (Nat.beq (i % 2) 1) = true := h
    cases hb : Nat.beq (i % 2) 1 <;> rw [hb] at h'
    · have hn : ¬ i % 2 = 1 := fun e => by rw [e] at hb; cases hb
      obtain ⟨t', h1, h3⟩ := ext_true h'
      refine ⟨.n v t' r, h1, fun j => ?_⟩
      cases j with
      | zero => simp [look]
      | succ j =>
        simp only [look, h3, Nat.add_right_cancel_iff]
        by_cases e : j = i
        · subst e; simp [hn]
        · rw [if_neg e]
          by_cases hj : j % 2 = 1
          · simp [hj]
          · rw [if_neg hj, if_neg hj, if_neg (by omega)]
    · have hp : i % 2 = 1 := Nat.eq_of_beq_eq_true hb
      obtain ⟨t', h1, h3⟩ := ext_true h'
      refine ⟨.n v l t', h1, fun j => ?_⟩
      cases j with
      | zero => simp [look]
      | succ j =>
        simp only [look, h3, Nat.add_right_cancel_iff]
        by_cases e : j = i
        · subst e; simp [hp]
        · rw [if_neg e]
          by_cases hj : j % 2 = 1
          · rw [if_pos hj, if_pos hj, if_neg (by omega)]
          · simp [hj]
end

end Go.Ai


/- The kernel's store against the interpreter's; the operations that look at it and change it. -/
namespace Go.Ai

/-! ### Slots -/
def oaSl (n : Nat) : OA → Bool
  | .t m => decide (m < n)
  | _ => true

def ropSl (n : Nat) (o : ROp) : Bool := o.reads.all (fun m => decide (m < n)) && (match o.dst with | some d => decide (d < n) | none => true)

/-- All slots that code names are there. -/
def slots (n : Nat) : RC → Bool
  | .ops l => l.all (ropSl n)
  | .draw l _ => l.all fun p => ropSl n p.1
  | .seq a b => slots n a && slots n b
  | .cond x a b => oaSl n x && slots n a && slots n b
  | .block _ b => slots n b
  | .loop b => slots n b
  | .range x ps a b => oaSl n x && ps.all (fun p => decide (p < n)) && slots n a && slots n b
  | _ => true

/-- Allocations of cells only. -/
def ropAl (o : ROp) : Bool := match o.op with
  | .w (.alloc z) => z.all oneCell
  | _ => true

/-- How much fuel a piece of code may want beyond what calls want. -/
def wt : RC → Nat
  | .seq a b => wt a + wt b + 1
  | .cond _ a b => wt a + wt b + 1
  | .block _ b => wt b + 1
  | .loop b => wt b + loopFuel + 1
  | _ => 1

/-- A bound for the code of rounds. -/
def bigW : Nat := 1000000000
def lpOk0 (a b : Nat) : Bool := Nat.ble a bigW && Nat.ble b bigW

/-- Allocations are of single cells. -/
def allocs : RC → Bool
  | .ops l => l.all ropAl
  | .draw l _ => l.all fun p => ropAl p.1
  | .seq a b => allocs a && allocs b
  | .cond _ a b => allocs a && allocs b
  | .block _ b => allocs b
  | .loop b => allocs b
  | .range _ _ a b => lpOk0 (wt a) (wt b) && (allocs a && allocs b)
  | _ => true

def lpOk (a b : RC) : Bool := lpOk0 (wt a) (wt b) && (allocs a && allocs b)

/-! ### The store -/
def ObR : Option ObK → Option Ob → Prop
  | none, none => True
  | some (.row v cs), some (.row v' cs') => v = v' ∧ cs = cs'
  | some (.loop f ps asg body st pend), some (.loop ts ps' asg' body' st' pend') => FrR f ts ∧ ps = ps' ∧ asg = asg' ∧ body = body' ∧ st = st' ∧ pend = pend' ∧ slots ts.length asg = true ∧ slots ts.length body = true ∧ ps.all (fun p => decide (p < ts.length)) = true ∧ lpOk asg body = true
  | _, _ => False

structure SR (T : SK) (S : St) : Prop where
  lo : T.lo = S.lo
  len : T.len = S.os.length
  os : ∀ i, ObR (look T.t i) S.os[i]?

/-- What an operation that may change the store hands on. -/
def ImpS (F : (AV → SK → Bool) → Bool) (o : Option (AV × St)) : Prop := ∀ k, F k = true → ∃ v S' T', o = some (v, S') ∧ SR T' S' ∧ k v T' = true

variable {T : SK} {S : St}

theorem rowK_true (h : SR T S) {id : Nat} {f : Nat → List AV → Bool} (hf : rowK T id f = true) : ∃ v cs, S.os[id]? = some (.row v cs) ∧ f v cs = true := by
  unfold rowK at hf
  rw [get_true] at hf
  obtain ⟨o, ho, hf⟩ := hf
  have hr := h.os id
  rw [ho] at hr
  cases o with
  | row v cs =>
    cases hs : S.os[id]? with
    | none => rw [hs] at hr; exact hr.elim
    | some o' =>
      rw [hs] at hr
      cases o' with
      | row v' cs' => obtain ⟨rfl, rfl⟩ := hr; exact ⟨v, cs, rfl, hf⟩
      | loop => exact hr.elim
      | map => exact hr.elim
  | loop => cases hf

theorem ldK_sound (h : SR T S) (a : AV) (n : Nat) (k : List AV → Bool) (hk : ldK T a n k = true) : ∃ cs, ldCells S a n = some cs ∧ k cs = true := by
  unfold ldK at hk
  rcases elP_true hk with ⟨id, ver, off, rfl, h1⟩ | ⟨cs, off, rfl, h1⟩
  · obtain ⟨v, cs, hs, h2⟩ := rowK_true h h1
    rw [ifK_true, cutK_true] at h2
    refine ⟨_, ?_, h2.2.2⟩
    simp only [ldCells, hs]
    rw [if_pos ⟨Nat.eq_of_beq_eq_true h2.1, h2.2.1⟩]
    rfl
  · rw [cutK_true] at h1
    refine ⟨_, ?_, h1.2⟩
    simp only [ldCells]
    rw [if_pos h1.1]
    rfl

theorem ldT_sound (h : SR T S) (sz : Nat) (ag : Bool) (a : AV) : Imp (ldT sz ag T a) ((ldCells S a sz).bind (asVal ag)) := by
  intro k hk
  unfold ldT at hk
  obtain ⟨cs, h1, h2⟩ := ldK_sound h a sz _ hk
  rw [h1]
  exact asK_sound ag cs k h2

theorem ld1T_sound (h : SR T S) (a : AV) : Imp (ld1T T a) ((ldCells S a 1).bind (asVal false)) := by
  have one : ∀ (cs : List AV) (off : Nat) (v : AV), cs[off]? = some v → off + 1 ≤ cs.length ∧ cut cs off 1 = [v] := by
    intro cs off v hv
    have hlt := (List.getElem?_eq_some_iff.1 hv).1
    refine ⟨hlt, ?_⟩
    unfold cut
    rw [List.drop_eq_getElem_cons hlt, (List.getElem?_eq_some_iff.1 hv).2]
    rfl
  intro k hk
  unfold ld1T at hk
  rcases elP_true hk with ⟨id, ver, off, rfl, h1⟩ | ⟨cs, off, rfl, h1⟩
  · obtain ⟨v, cs, hs, h2⟩ := rowK_true h h1
    rw [ifK_true, nthK_true] at h2
    obtain ⟨h3, x, hx, h4⟩ := h2
    obtain ⟨h5, h6⟩ := one cs off x hx
    refine ⟨x, ?_, h4⟩
    simp only [ldCells, hs]
    rw [if_pos ⟨Nat.eq_of_beq_eq_true h3, h5⟩, h6]
    rfl
  · rw [nthK_true] at h1
    obtain ⟨x, hx, h4⟩ := h1
    obtain ⟨h5, h6⟩ := one cs off x hx
    refine ⟨x, ?_, h4⟩
    simp only [ldCells]
    rw [if_pos h5, h6]
    rfl

theorem ldF_sound (h : SR T S) (sz : Nat) (ag : Bool) (a : AV) : Imp (ldF sz ag T a) ((ldCells S a sz).bind (asVal ag)) := by
  cases ag with
  | true => exact ldT_sound h sz true a
  | false =>
    unfold ldF
    cases hb : Nat.beq sz 1
    · exact ldT_sound h sz false a
    · rw [Nat.eq_of_beq_eq_true hb]
      exact ld1T_sound h a

theorem rdK_sound (h : SR T S) (sz : Nat) (v : AV) (k : List AV → Nat → Bool) (hk : rdK T sz v k = true) : ∃ cs n, rd S sz v = some (cs, n) ∧ k cs n = true := by
  cases v <;> simp only [rdK] at hk <;> try (cases hk; done)
  case nils => exact ⟨[], 0, rfl, hk⟩
  case sl cs n ex =>
    rw [lenK_eq, ifK_true] at hk
    have e : cs.length = n * sz := Nat.eq_of_beq_eq_true hk.1
    exact ⟨cs, n, by simp only [rd]; rw [if_pos e], hk.2⟩
  case ms id ver off n sz' ex =>
    obtain ⟨v, cs, hs, h2⟩ := rowK_true h hk
    rw [ifK_true, ifK_true, cutK_true] at h2
    obtain ⟨h3, h4, h5, h6⟩ := h2
    have e5 : off + n * sz ≤ cs.length := h5
    refine ⟨_, n, ?_, h6⟩
    simp only [rd, hs]
    rw [if_pos ⟨Nat.eq_of_beq_eq_true h3, Nat.eq_of_beq_eq_true h4, e5⟩]
    rfl
  case str s =>
    rw [ifK_true, bytesK_eq, lenK_eq] at hk
    exact ⟨byteCells s, s.length, by simp only [rd]; rw [if_pos (Nat.eq_of_beq_eq_true hk.1)], hk.2⟩

theorem fU8_eq (n : Nat) (k : UInt8 → Bool) : fU8 n k = k (UInt8.ofNat n) := by
  unfold fU8
  rw [fNat_eq]
  congr 1
  apply UInt8.toNat.inj
  show (UInt8.ofNat (n % 256)).toNat = _
  simp

theorem strOfK_true : ∀ {l : List AV} {k : List UInt8 → Bool}, strOfK l k = true → ∃ s, strOf l = some s ∧ k s = true
  | [], k, h => ⟨[], rfl, h⟩
  | v :: l, k, h => by
    have h' : elI v (fun d n => sameK d .u8 (Int.rec (motive := fun _ => Bool) (fun m => fU8 m fun b => strOfK l fun r => k (b :: r)) (fun _ => false) n)) = true := h
    rw [elI_true] at h'
    obtain ⟨d, n, rfl, h'⟩ := h'
    rw [sameK_true] at h'
    obtain ⟨rfl, h'⟩ := h'
    cases n with
    | negSucc m => cases h'
    | ofNat m =>
      have h2 : fU8 m (fun b => strOfK l fun r => k (b :: r)) = true := h'
      rw [fU8_eq] at h2
      obtain ⟨s, hs, h3⟩ := strOfK_true h2
      exact ⟨_, by simp only [strOf, hs]; rfl, h3⟩

theorem b2sT_sound (h : SR T S) (a : AV) : Imp (b2sT T a) (match a with | .str _ => none | v => (rd S 1 v).bind fun (cs, _) => (strOf cs).map .str) := by
  intro k hk
  unfold b2sT at hk
  rcases elL_true hk with ⟨rfl, h1⟩ | ⟨cs, n, ex, rfl, h1⟩ | ⟨id, ver, off, n, sz', ex, rfl, h1⟩
  · exact ⟨_, rfl, h1⟩
  · obtain ⟨c, m, h2, h3⟩ := rdK_sound h 1 _ _ h1
    obtain ⟨s, hs, h4⟩ := strOfK_true h3
    exact ⟨_, by simp only [h2, Option.bind_some, hs]; rfl, h4⟩
  · obtain ⟨c, m, h2, h3⟩ := rdK_sound h 1 _ _ h1
    obtain ⟨s, hs, h4⟩ := strOfK_true h3
    exact ⟨_, by simp only [h2, Option.bind_some, hs]; rfl, h4⟩

theorem slAT_sound (h : SR T S) (gl gh : Bool) (n sz : Nat) (a lo hi : AV) : Imp (slAT gl gh n sz T a lo hi) (match a with
    | .ptr id ver off => match bndV gl lo 0, bndV gh hi n with
      | some l, some h => (ldCells S (.ptr id ver off) (n * sz)).bind fun _ => if l ≤ h ∧ h ≤ n then some (.ms id ver (off + l * sz) (h - l) sz (h == n)) else none
      | _, _ => none
    | _ => none) := by
  intro k hk
  unfold slAT at hk
  rcases elP_true hk with ⟨id, ver, off, rfl, h1⟩ | ⟨cs, off, rfl, h1⟩
  · obtain ⟨l, hl, h2⟩ := bdT_true h1
    obtain ⟨m, hm, h3⟩ := bdT_true h2
    obtain ⟨cs, hc, h4⟩ := ldK_sound h _ _ _ h3
    simp only [ifK_true, fNat_eq, fBool_eq] at h4
    obtain ⟨h5, h6, h7⟩ := h4
    rw [beqN] at h7
    refine ⟨_, ?_, h7⟩
    have hc' : ldCells S (.ptr id ver off) (n * sz) = some cs := hc
    simp only [bndV, hl, hm, hc', Option.bind_some]
    rw [if_pos ⟨Nat.le_of_ble_eq_true h5, Nat.le_of_ble_eq_true h6⟩]
    rfl
  · cases h1

/-! ### Changes -/
theorem setK_sound (h : SR T S) {id : Nat} {o : ObK} {o' : Ob} (ho : ObR (some o) (some o')) {k : SK → Bool} (hk : setK T id o k = true) : ∃ T', SR T' (setOb S id o') ∧ k T' = true := by
  unfold setK at hk
  obtain ⟨t', h1, h2, h3⟩ := upd_true hk
  refine ⟨⟨T.lo, T.len, t'⟩, ⟨h.lo, by simp [setOb, h.len], fun i => ?_⟩, h1⟩
  show ObR (look t' i) _
  have hlt : id < S.os.length := by
    have hr := h.os id
    rcases Nat.lt_or_ge id S.os.length with hl | hl
    · exact hl
    · rw [List.getElem?_eq_none hl] at hr
      cases hx : look T.t id with
      | none => rw [hx] at h2; cases h2
      | some x => rw [hx] at hr; cases x <;> exact hr.elim
  simp only [h3]
  by_cases e : i = id
  · subst e
    rw [if_pos rfl, setOb_get' hlt]
    exact ho
  · rw [if_neg e]
    have : (setOb S id o').os[i]? = S.os[i]? := by simp only [setOb]; exact List.getElem?_set_ne (Ne.symm e)
    rw [this]
    exact h.os i
where
  setOb_get' {S : St} {id : Nat} {o : Ob} (h : id < S.os.length) : (setOb S id o).os[id]? = some o := by simp [setOb, h]

theorem addK_sound (h : SR T S) {o : ObK} {o' : Ob} (ho : ObR (some o) (some o')) {k : Nat → SK → Bool} (hk : addK T o k = true) : ∃ T', SR T' (addOb S o') ∧ k S.os.length T' = true := by
  unfold addK at hk
  obtain ⟨t', h1, h3⟩ := ext_true hk
  rw [fNat_eq, h.len] at h1
  refine ⟨⟨T.lo, Nat.succ S.os.length, t'⟩, ⟨h.lo, by simp [addOb], fun i => ?_⟩, h1⟩
  show ObR (look t' i) _
  simp only [h3, h.len]
  by_cases e : i = S.os.length
  · subst e
    rw [if_pos rfl]
    have : (addOb S o').os[S.os.length]? = some o' := by simp [addOb]
    rw [this]
    exact ho
  · rw [if_neg e]
    have : (addOb S o').os[i]? = S.os[i]? := by
      simp only [addOb]
      rcases Nat.lt_or_ge i S.os.length with hl | hl
      · rw [List.getElem?_append_left hl]
      · rw [List.getElem?_eq_none hl, List.getElem?_eq_none (by simp; omega)]
    rw [this]
    exact h.os i

theorem row_ObR (v : Nat) (cs : List AV) : ObR (some (.row v cs)) (some (.row v cs)) := ⟨rfl, rfl⟩

theorem stK_sound (h : SR T S) {a : AV} {vs : List AV} {k : SK → Bool} (hk : stK T a vs k = true) : ∃ S' T', stCells S a vs = some S' ∧ SR T' S' ∧ k T' = true := by
  unfold stK at hk
  rcases elP_true hk with ⟨id, ver, off, rfl, h1⟩ | ⟨cs, off, rfl, h1⟩
  · obtain ⟨v, cs, hs, h2⟩ := rowK_true h h1
    simp only [ifK_true, spliceK_true, allOne_eq] at h2
    obtain ⟨h3, h4, h5, h6, h7⟩ := h2
    obtain ⟨T', h8, h9⟩ := setK_sound h (row_ObR v (splice cs off vs)) h7
    have e3 : S.lo ≤ id := by rw [← h.lo]; exact Nat.le_of_ble_eq_true h3
    refine ⟨_, T', ?_, h8, h9⟩
    simp only [stCells, hs]
    rw [if_pos ⟨e3, Nat.eq_of_beq_eq_true h4, h6, h5⟩]
  · cases h1

end Go.Ai


/- The kernel's operations that lay parts into cells, and that change the store. -/
namespace Go.Ai
variable {T : SK} {S : St}

theorem fillT_nil (z vs : List AV) (k : List AV → Bool) : fillT z [] vs k = k z := rfl
theorem fillT_cons (z : List AV) (p : Nat × Nat) (ps : List (Nat × Nat)) (v : AV) (vs : List AV) (k : List AV → Bool) :
    fillT z (p :: ps) (v :: vs) k = elC v (fun us => lenK us fun n => ifK (Nat.beq n p.2) (spliceK us z p.1 fun cs => fillT cs ps vs k)) (ifK (Nat.beq p.2 1) (spliceK [v] z p.1 fun cs => fillT cs ps vs k)) := rfl

theorem elC_true {v : AV} {f : List AV → Bool} {g : Bool} (h : elC v f g = true) : (∃ cs, v = .agg cs ∧ f cs = true) ∨ (cellsOf v = [v] ∧ g = true) := by
  cases v
  case agg cs => exact .inl ⟨cs, rfl, h⟩
  all_goals exact .inr ⟨rfl, h⟩

theorem fillT_sound {E : Env} {ts : List AV} : ∀ (ps : List (Nat × Nat × OA)) (z : List AV) (k : List AV → Bool), fillT z (offs ps) (ps.map fun p => ev E ts p.2.2) k = true → ∃ cs, fillP E ts z ps = some cs ∧ k cs = true
  | [], z, k, h => ⟨z, rfl, h⟩
  | (off, sz, x) :: ps, z, k, h => by
    have h' : fillT z ((off, sz) :: offs ps) (ev E ts x :: ps.map fun p => ev E ts p.2.2) k = true := h
    rw [fillT_cons] at h'
    simp only [fillP]
    rcases elC_true h' with ⟨us, hu, h1⟩ | ⟨hu, h1⟩
    · rw [lenK_eq, ifK_true, spliceK_true] at h1
      obtain ⟨h2, h3, h4⟩ := h1
      have e2 : us.length = sz := Nat.eq_of_beq_eq_true h2
      obtain ⟨cs, h5, h6⟩ := fillT_sound ps _ k h4
      refine ⟨cs, ?_, h6⟩
      rw [hu]
      have e3 : off + us.length ≤ z.length := h3
      rw [if_pos ⟨show (cellsOf (.agg us)).length = sz from e2, by omega⟩]
      exact h5
    · rw [ifK_true, spliceK_true] at h1
      obtain ⟨h2, h3, h4⟩ := h1
      have e2 : sz = 1 := Nat.eq_of_beq_eq_true h2
      obtain ⟨cs, h5, h6⟩ := fillT_sound ps _ k h4
      refine ⟨cs, ?_, h6⟩
      rw [hu]
      have e3 : off + 1 ≤ z.length := h3
      rw [if_pos ⟨by simp [e2], by omega⟩]
      exact h5

theorem buildT_sound {E : Env} {ts : List AV} (z : List AV) (ps : List (Nat × Nat × OA)) : Imp (buildT z (offs ps) (ps.map fun p => ev E ts p.2.2)) ((fillP E ts z ps).map .agg) := by
  intro k h
  obtain ⟨cs, h1, h2⟩ := fillT_sound ps z _ h
  exact ⟨_, by rw [h1]; rfl, h2⟩

theorem mklT_sound {E : Env} {ts : List AV} (z : List AV) (len sz : Nat) (ps : List (Nat × Nat × OA)) : Imp (mklT z len sz (offs ps) (ps.map fun p => ev E ts p.2.2))
    (if z.length = len * sz then (fillP E ts z ps).bind fun cs => if cs.all oneCell then some (.sl cs len true) else none else none) := by
  intro k h
  unfold mklT at h
  rw [lenK_eq, ifK_true] at h
  obtain ⟨cs, h1, h2⟩ := fillT_sound ps z _ h.2
  rw [ifK_true, allOne_eq] at h2
  have e : z.length = len * sz := Nat.eq_of_beq_eq_true h.1
  refine ⟨_, ?_, h2.2⟩
  rw [if_pos e, h1, Option.bind_some, if_pos h2.1]

variable {E : Env} {cf : CallFn} {cv : AV → List AV → St → Option (AV × St)} {ts : List AV}

theorem mb_int : ((maxBytes : Nat) : Int) = 70368744177664 := rfl

theorem allocT_sound (h : SR T S) (z : List AV) (hz : z.all oneCell = true) : ImpS (allocT z T) (aopW E cf cv ts S (.alloc z)) := by
  intro k hk
  obtain ⟨T', h1, h2⟩ := addK_sound h (row_ObR 0 z) hk
  exact ⟨_, _, T', by simp only [aopW]; rw [if_pos hz], h1, h2⟩

theorem boxT_sound (h : SR T S) (sz : Nat) (x : OA) : ImpS (boxT sz T (ev E ts x)) (aopW E cf cv ts S (.box sz x)) := by
  intro k hk
  unfold boxT at hk
  rw [celK_eq, lenK_eq, ifK_true, ifK_true, allOne_eq] at hk
  obtain ⟨h1, h2, h3⟩ := hk
  obtain ⟨T', h4, h5⟩ := addK_sound h (row_ObR 0 _) h3
  exact ⟨_, _, T', by simp only [aopW]; rw [if_pos ⟨Nat.eq_of_beq_eq_true h1, h2⟩], h4, h5⟩

theorem storeT_sound (h : SR T S) (sz : Nat) (a x : OA) : ImpS (storeT sz T (ev E ts a) (ev E ts x)) (aopW E cf cv ts S (.store sz a x)) := by
  intro k hk
  unfold storeT at hk
  rw [celK_eq, lenK_eq, ifK_true] at hk
  obtain ⟨S', T', h1, h2, h3⟩ := stK_sound h hk.2
  exact ⟨_, S', T', by simp only [aopW]; rw [if_pos (Nat.eq_of_beq_eq_true hk.1), h1]; rfl, h2, h3⟩

theorem mkrT_sound (h : SR T S) (z : List AV) (len sz : Nat) (ps : List (Nat × Nat × OA)) : ImpS (mkrT z len sz (offs ps) T (ps.map fun p => ev E ts p.2.2)) (aopW E cf cv ts S (.mkr z len sz ps)) := by
  intro k hk
  unfold mkrT at hk
  rw [lenK_eq, ifK_true] at hk
  obtain ⟨cs, h1, h2⟩ := fillT_sound ps z _ hk.2
  rw [ifK_true, allOne_eq] at h2
  obtain ⟨T', h3, h4⟩ := addK_sound h (row_ObR 0 cs) h2.2
  have e : z.length = len * sz := Nat.eq_of_beq_eq_true hk.1
  exact ⟨_, _, T', by simp only [aopW]; rw [if_pos e, h1, Option.bind_some, if_pos h2.1], h3, h4⟩

theorem mksT_sound (h : SR T S) (z : List AV) (sz bytes : Nat) (l c : OA) : ImpS (mksT z sz bytes T (ev E ts l) (ev E ts c)) (aopW E cf cv ts S (.mks z sz bytes l c)) := by
  intro k hk
  unfold mksT at hk
  obtain ⟨a, ha, hk⟩ := i64K_true hk
  obtain ⟨b, hb, hk⟩ := i64K_true hk
  simp only [ifK_true, lenK_eq, allOne_eq, zerK_eq] at hk
  obtain ⟨h1, h2, h3, h4, h5, hk⟩ := hk
  obtain ⟨T', h6, h7⟩ := addK_sound h (row_ObR 0 _) hk
  rw [fBool_eq, beqN] at h7
  have e1 : a ≤ b := Nat.le_of_ble_eq_true h1
  have e2 : b ≤ 70368744177664 := Nat.le_of_ble_eq_true h2
  have e3 : bytes * b ≤ 70368744177664 := Nat.le_of_ble_eq_true h3
  have e3' : ((bytes * b : Nat) : Int) ≤ ((maxBytes : Nat) : Int) := Int.ofNat_le.2 e3
  rw [Int.natCast_mul] at e3'
  refine ⟨_, _, T', ?_, h6, h7⟩
  simp only [aopW, ha, hb]
  rw [if_pos ⟨by omega, by omega, by rw [mb_int]; omega, e3', Nat.eq_of_beq_eq_true h4, h5⟩]
  simp only [Int.toNat_natCast]
  congr 3
  rw [Bool.eq_iff_iff]
  simp only [beq_iff_eq]
  omega

theorem appK_sound (h : SR T S) (sz bytes : Nat) (x : AV) (ys : List AV) (m : Nat) : ImpS (appK T sz bytes x ys m) (appOf S sz bytes x ys m) := by
  intro k hk
  cases m with
  | zero =>
    have h' : elL x (k x T) (fun _ _ _ => k x T) (fun _ _ _ _ _ _ => k x T) = true := hk
    rcases elL_true h' with ⟨rfl, h1⟩ | ⟨cs, n, ex, rfl, h1⟩ | ⟨id, ver, off, n, sz', ex, rfl, h1⟩ <;> exact ⟨_, S, T, by simp [appOf], h, h1⟩
  | succ m =>
    have h' : rdK T sz x (fun xs n => fNat (Nat.add n (m + 1)) fun t => ifK (Nat.ble (Nat.mul t bytes) 70368744177664) (ifK (Nat.ble t 70368744177664) (lenK ys fun c => ifK (Nat.beq c (Nat.mul (m + 1) sz)) (ifK (allK oneK ys) (catK xs ys fun r =>
      elL x (addK T (.row 0 r) fun id S => k (.ms id 0 0 t sz false) S)
        (fun _ _ ex => ifK ex (addK T (.row 0 r) fun id S => k (.ms id 0 0 t sz false) S))
        (fun id ver _ _ _ ex => Bool.rec (motive := fun _ => Bool) (ifK (Nat.ble T.lo id) (fNat (Nat.succ ver) fun ver => setK T id (.row ver r) fun S => k (.ms id ver 0 t sz false) S)) (addK T (.row 0 r) fun id S => k (.ms id 0 0 t sz false) S) ex)))))) = true := hk
    obtain ⟨xs, n, hrd, h1⟩ := rdK_sound h sz x _ h'
    rw [fNat_eq] at h1
    simp only [ifK_true, lenK_eq, allOne_eq, catK_eq] at h1
    obtain ⟨h2, h3, h4, h5, h6⟩ := h1
    have e2 : (n + (m + 1)) * bytes ≤ maxBytes := Nat.le_of_ble_eq_true h2
    have e3 : n + (m + 1) ≤ maxBytes := Nat.le_of_ble_eq_true h3
    have e4 : ys.length = (m + 1) * sz := Nat.eq_of_beq_eq_true h4
    have hcond : (n + (m + 1)) * bytes ≤ maxBytes ∧ (n + (m + 1)) ≤ maxBytes ∧ ys.length = (m + 1) * sz ∧ ys.all oneCell = true := ⟨e2, e3, e4, h5⟩
    have new : ∀ {k' : Nat → SK → Bool}, addK T (.row 0 (xs ++ ys)) k' = true → ∃ T', SR T' (addOb S (.row 0 (xs ++ ys))) ∧ k' S.os.length T' = true := fun hh => addK_sound h (row_ObR 0 _) hh
    rcases elL_true h6 with ⟨rfl, h7⟩ | ⟨cs, n', ex, rfl, h7⟩ | ⟨id, ver, off, n', sz', ex, rfl, h7⟩
    · obtain ⟨T', h8, h9⟩ := new h7
      refine ⟨_, _, T', ?_, h8, h9⟩
      simp only [appOf, hrd, Option.bind_some]
      rw [if_neg (by omega), if_pos hcond]
      rfl
    · rw [ifK_true] at h7
      obtain ⟨rfl, h7⟩ := h7
      obtain ⟨T', h8, h9⟩ := new h7
      refine ⟨_, _, T', ?_, h8, h9⟩
      simp only [appOf, hrd, Option.bind_some]
      rw [if_neg (by omega), if_pos hcond]
      rfl
    · cases ex with
      | true =>
        obtain ⟨T', h8, h9⟩ := new h7
        refine ⟨_, _, T', ?_, h8, h9⟩
        simp only [appOf, hrd, Option.bind_some]
        rw [if_neg (by omega), if_pos hcond]
        rfl
      | false =>
        have h7' : ifK (Nat.ble T.lo id) (fNat (Nat.succ ver) fun ver => setK T id (.row ver (xs ++ ys)) fun S => k (.ms id ver 0 (n + (m + 1)) sz false) S) = true := h7
        rw [ifK_true, fNat_eq] at h7'
        obtain ⟨h8, h9⟩ := h7'
        obtain ⟨T', h10, h11⟩ := setK_sound h (row_ObR (ver + 1) (xs ++ ys)) h9
        refine ⟨_, _, T', ?_, h10, h11⟩
        have e8 : S.lo ≤ id := by rw [← h.lo]; exact Nat.le_of_ble_eq_true h8
        simp only [appOf, hrd, Option.bind_some]
        rw [if_neg (by omega), if_pos hcond, if_pos e8]

theorem appT_sound (h : SR T S) (sz bytes : Nat) (x y : OA) : ImpS (appT sz bytes T (ev E ts x) (ev E ts y)) (aopW E cf cv ts S (.app sz bytes x y)) := by
  intro k hk
  unfold appT at hk
  obtain ⟨ys, m, hrd, h1⟩ := rdK_sound h sz _ _ hk
  obtain ⟨v, S', T', h2, h3, h4⟩ := appK_sound h sz bytes (ev E ts x) ys m k h1
  exact ⟨v, S', T', by simp only [aopW, hrd, Option.bind_some]; exact h2, h3, h4⟩

theorem appZT_sound (h : SR T S) (z : List AV) (sz bytes : Nat) (x n : OA) : ImpS (appZT z sz bytes T (ev E ts x) (ev E ts n)) (aopW E cf cv ts S (.appZ z sz bytes x n)) := by
  intro k hk
  unfold appZT at hk
  obtain ⟨m, hm, h1⟩ := i64K_true hk
  simp only [ifK_true, lenK_eq, zerK_eq] at h1
  obtain ⟨h2, h3, h4, h5⟩ := h1
  have e2 : m * bytes ≤ 70368744177664 := Nat.le_of_ble_eq_true h2
  have e3 : m ≤ 70368744177664 := Nat.le_of_ble_eq_true h3
  have e2' : ((m * bytes : Nat) : Int) ≤ ((maxBytes : Nat) : Int) := Int.ofNat_le.2 e2
  rw [Int.natCast_mul] at e2'
  obtain ⟨v, S', T', h6, h7, h8⟩ := appK_sound h sz bytes (ev E ts x) _ m k h5
  refine ⟨v, S', T', ?_, h7, h8⟩
  simp only [aopW, hm]
  rw [if_pos ⟨by omega, e2', by rw [mb_int]; omega, Nat.eq_of_beq_eq_true h4⟩]
  simp only [Int.toNat_natCast]
  exact h6

theorem copyT_sound (h : SR T S) (sz : Nat) (d s : OA) : ImpS (copyT sz T (ev E ts d) (ev E ts s)) (aopW E cf cv ts S (.copyL sz d s)) := by
  intro k hk
  unfold copyT at hk
  obtain ⟨ys, m, hrd, h1⟩ := rdK_sound h sz _ _ hk
  rcases elL_true h1 with ⟨hd, h7⟩ | ⟨cs, n', ex, hd, h7⟩ | ⟨id, ver, off, n', sz', ex, hd, h7⟩
  · exact ⟨_, S, T, by simp only [aopW, hrd, Option.bind_some, hd]; rfl, h, h7⟩
  · rw [minK_eq, ifK_true] at h7
    have e : min m n' = 0 := Nat.eq_of_beq_eq_true h7.1
    exact ⟨_, S, T, by simp only [aopW, hrd, Option.bind_some, hd]; rw [if_pos e]; rfl, h, h7.2⟩
  · simp only [ifK_true, lenK_eq, minK_eq, takeK_true] at h7
    obtain ⟨h2, h3, _, h4⟩ := h7
    obtain ⟨S', T', h5, h6, h8⟩ := stK_sound h h4
    have e3 : ys.length = m * sz := Nat.eq_of_beq_eq_true h3
    have h5' : stCells S (.ptr id ver off) (ys.take (min m n' * sz)) = some S' := h5
    refine ⟨_, S', T', ?_, h6, h8⟩
    simp only [aopW, hrd, Option.bind_some, hd]
    rw [if_pos ⟨Nat.eq_of_beq_eq_true h2, e3⟩, h5']
    rfl

theorem clrT_sound (h : SR T S) (z : List AV) (sz : Nat) (x : OA) : ImpS (clrT z sz T (ev E ts x)) (aopW E cf cv ts S (.clr z sz x)) := by
  intro k hk
  unfold clrT at hk
  rcases elL_true hk with ⟨hd, h7⟩ | ⟨cs, n', ex, hd, h7⟩ | ⟨id, ver, off, n', sz', ex, hd, h7⟩
  · exact ⟨_, S, T, by simp only [aopW, hd]; rfl, h, h7⟩
  · rw [ifK_true] at h7
    exact ⟨_, S, T, by simp only [aopW, hd]; rw [if_pos (Nat.eq_of_beq_eq_true h7.1)]; rfl, h, h7.2⟩
  · simp only [ifK_true, lenK_eq, zerK_eq] at h7
    obtain ⟨h2, h3, h4⟩ := h7
    obtain ⟨S', T', h5, h6, h8⟩ := stK_sound h h4
    refine ⟨_, S', T', ?_, h6, h8⟩
    simp only [aopW, hd]
    rw [if_pos ⟨Nat.eq_of_beq_eq_true h2, Nat.eq_of_beq_eq_true h3⟩, h5]
    rfl

end Go.Ai


/- Threaded operations. -/
namespace Go.Ai
variable {T : SK} {S : St} {E : Env} {ts : List AV} {f : Frm} {X : Cx3} {cf : CallFn} {cv : AV → List AV → St → Option (AV × St)}

def Below (n : Nat) (l : List Nat) : Prop := ∀ t ∈ l, t < n

theorem Below.left {n : Nat} {a b : List Nat} (h : Below n (a ++ b)) : Below n a := fun t ht => h t (List.mem_append_left _ ht)
theorem Below.right {n : Nat} {a b : List Nat} (h : Below n (a ++ b)) : Below n b := fun t ht => h t (List.mem_append_right _ ht)

structure FX (X : Cx3) (E : Env) (f : Frm) (ts : List AV) : Prop where
  fr : FrR f ts
  gv : ∀ g, X.gv g = E.gv g

theorem oaG_eq (h : FX X E f ts) {x : OA} (hx : Below ts.length (oaT x)) : oaG X x f = ev E ts x := by
  cases x with
  | t n => exact h.fr.2 n (hx n (by simp [oaT]))
  | c v => rfl
  | g n => exact h.gv n

theorem oaGs_eq (h : FX X E f ts) : ∀ {l : List OA}, Below ts.length (l.flatMap oaT) → (oaGs X l).map (fun x => x f) = l.map (ev E ts)
  | [], _ => rfl
  | x :: l, hl => by
    simp only [List.flatMap_cons] at hl
    show (oaG X x f) :: (oaGs X l).map (fun x => x f) = _
    rw [oaG_eq h hl.left, oaGs_eq h hl.right]
    rfl

theorem psGs_eq (h : FX X E f ts) : ∀ {l : List (Nat × Nat × OA)}, Below ts.length (l.flatMap fun p => oaT p.2.2) → (psGs X l).map (fun x => x f) = l.map fun p => ev E ts p.2.2
  | [], _ => rfl
  | p :: l, hl => by
    simp only [List.flatMap_cons] at hl
    show (oaG X p.2.2 f) :: (psGs X l).map (fun x => x f) = _
    rw [oaG_eq h hl.left, psGs_eq h hl.right]
    rfl

theorem oaGO_eq (h : FX X E f ts) {x : Option OA} (hx : Below ts.length (oaTO x)) (d : Nat) : bndV x.isSome (oaGO X x f) d = bnd E ts x d := by
  cases x with
  | none => rfl
  | some o =>
    show natOf (oaG X o f) = natOf (ev E ts o)
    rw [oaG_eq h (by simpa [oaTO] using hx)]

theorem getsT_eq (l : List GetF) (f : Frm) (k : List AV → Bool) : getsT l f k = k (l.map fun x => x f) := mapK_eq (g := fun x : GetF => x f) (fun _ _ => rfl) l k

/-- What an operation hands on, where it fills a slot. -/
def Fin (ts : List AV) (d : Option Nat) (kn : Kt) (r : Oc) (o : Option (AV × St)) : Prop :=
  ∃ v S' T' f', o = some (v, S') ∧ SR T' S' ∧ FrR f' (put ts d v) ∧ r kn f' T' = true

def DstOk (n : Nat) (d : Option Nat) : Prop := ∀ m, d = some m → m < n

theorem dst_fin (h : FrR f ts) {d : Option Nat} (hd : DstOk ts.length d) (v : AV) {k : Frm → Bool} (hk : dsT d v f k = true) : ∃ f', FrR f' (put ts d v) ∧ k f' = true := by
  cases d with
  | none => exact ⟨f, h, hk⟩
  | some n =>
    obtain ⟨f', h1, h2⟩ := h.set (hd n rfl) v
    have hk' : sT n v f k = true := hk
    rw [h1] at hk'
    exact ⟨f', h2, hk'⟩

variable {d : Option Nat} {kn : Kt} {r : Oc}

theorem fin_p (h : FrR f ts) (hs : SR T S) (hd : DstOk ts.length d) {F : VK} {o : Option AV} (hF : Imp F o) (hk : F (fun v => dsT d v f fun f => r kn f T) = true) : Fin ts d kn r (o.map fun v => (v, S)) := by
  obtain ⟨v, ho, hk⟩ := hF _ hk
  obtain ⟨f', h1, h2⟩ := dst_fin h hd v hk
  exact ⟨v, S, T, f', by rw [ho]; rfl, hs, h1, h2⟩

theorem fin_w (h : FrR f ts) (hd : DstOk ts.length d) {F : (AV → SK → Bool) → Bool} {o : Option (AV × St)} (hF : ImpS F o) (hk : F (fun v T => dsT d v f fun f => r kn f T) = true) : Fin ts d kn r o := by
  obtain ⟨v, S', T', ho, hs, hk⟩ := hF _ hk
  obtain ⟨f', h1, h2⟩ := dst_fin h hd v hk
  exact ⟨v, S', T', f', ho, hs, h1, h2⟩

theorem Imp.cast {F : VK} {o o' : Option AV} (h : Imp F o) (e : o = o') : Imp F o' := e ▸ h

theorem coP_sound (h : FX X E f ts) (hs : SR T S) (hd : DstOk ts.length d) {o : PO} (hr : Below ts.length o.reads) (hk : coP X o (dsT d) r kn f T = true) :
    Fin ts d kn r ((aopP E ts o).map fun v => (v, S)) := by
  cases o <;> simp only [PO.reads] at hr
  case mv x =>
    have hk' : dsT d (oaG X x f) f (fun f => r kn f T) = true := hk
    rw [oaG_eq h hr] at hk'
    obtain ⟨f', h1, h2⟩ := dst_fin h.fr hd _ hk'
    exact ⟨_, S, T, f', rfl, hs, h1, h2⟩
  case smv x =>
    have hk' : smvT (oaG X x f) (fun v => dsT d v f fun f => r kn f T) = true := hk
    rw [oaG_eq h hr] at hk'
    exact fin_p h.fr hs hd (smvT_sound _) hk'
  case pick c a b =>
    have hk' : pickT (oaG X c f) (oaG X a f) (oaG X b f) (fun v => dsT d v f fun f => r kn f T) = true := hk
    rw [oaG_eq h hr.left.left, oaG_eq h hr.left.right, oaG_eq h hr.right] at hk'
    exact fin_p h.fr hs hd (pickT_sound _ _ _) hk'
  case build z ps =>
    have hk' : getsT (psGs X ps) f (fun vs => buildT z (offs ps) vs fun v => dsT d v f fun f => r kn f T) = true := hk
    rw [getsT_eq, psGs_eq h hr] at hk'
    exact fin_p h.fr hs hd (buildT_sound z ps) hk'
  case mkl z len sz ps =>
    have hk' : getsT (psGs X ps) f (fun vs => mklT z len sz (offs ps) vs fun v => dsT d v f fun f => r kn f T) = true := hk
    rw [getsT_eq, psGs_eq h hr] at hk'
    exact fin_p h.fr hs hd (mklT_sound z len sz ps) hk'
  case nchk x =>
    have hk' : nchkT (oaG X x f) (fun v => dsT d v f fun f => r kn f T) = true := hk
    rw [oaG_eq h hr] at hk'
    exact fin_p h.fr hs hd (nchkT_sound _) hk'
  case arith op x y =>
    have hk' : arithK op (oaG X x f) (oaG X y f) (fun v => dsT d v f fun f => r kn f T) = true := hk
    rw [oaG_eq h hr.left, oaG_eq h hr.right] at hk'
    exact fin_p h.fr hs hd (arithK_sound op _ _) hk'
  case eq neg cl x y =>
    have hk' : eqT neg cl (oaG X x f) (oaG X y f) (fun v => dsT d v f fun f => r kn f T) = true := hk
    rw [oaG_eq h hr.left, oaG_eq h hr.right] at hk'
    exact fin_p h.fr hs hd (eqT_sound neg cl _ _) hk'
  case un op x =>
    have hk' : unT op (oaG X x f) (fun v => dsT d v f fun f => r kn f T) = true := hk
    rw [oaG_eq h hr] at hk'
    exact fin_p h.fr hs hd (unT_sound op _) hk'
  case toInt k x =>
    have hk' : toIntT k (oaG X x f) (fun v => dsT d v f fun f => r kn f T) = true := hk
    rw [oaG_eq h hr] at hk'
    exact fin_p h.fr hs hd (toIntT_sound k _) hk'
  case s2b x =>
    have hk' : s2bT (oaG X x f) (fun v => dsT d v f fun f => r kn f T) = true := hk
    rw [oaG_eq h hr] at hk'
    exact fin_p h.fr hs hd (s2bT_sound _) hk'
  case mkf n a b =>
    have hk' : getsT (oaGs X a) f (fun vs => getsT (oaGs X b) f fun us => mkfT n vs us fun v => dsT d v f fun f => r kn f T) = true := hk
    rw [getsT_eq, getsT_eq, oaGs_eq h hr.left, oaGs_eq h hr.right] at hk'
    exact fin_p h.fr hs hd (F := mkfT n (a.map (ev E ts)) (b.map (ev E ts))) (fun k hk => ⟨_, rfl, hk⟩) hk'
  case slS x lo hi =>
    have hk' : slST lo.isSome hi.isSome (oaG X x f) (oaGO X lo f) (oaGO X hi f) (fun v => dsT d v f fun f => r kn f T) = true := hk
    rw [oaG_eq h hr.left.left] at hk'
    refine fin_p h.fr hs hd ((slST_sound lo.isSome hi.isSome _ _ _).cast ?_) hk'
    simp only [aopP]
    generalize ev E ts x = z
    cases z <;> simp only [oaGO_eq h hr.left.right, oaGO_eq h hr.right] <;> rfl
  case slL sz x lo hi mx =>
    cases mx with
    | none =>
      have hk' : slLT lo.isSome hi.isSome sz (oaG X x f) (oaGO X lo f) (oaGO X hi f) (fun v => dsT d v f fun f => r kn f T) = true := hk
      rw [oaG_eq h hr.left.left.left] at hk'
      refine fin_p h.fr hs hd ((slLT_sound lo.isSome hi.isSome sz _ _ _).cast ?_) hk'
      simp only [aopP, oaGO_eq h hr.left.left.right, oaGO_eq h hr.left.right]
      rfl
    | some m =>
      cases hi with
      | none => cases hk
      | some hi =>
        have hk' : getsT [oaG X x, oaGO X lo, oaGO X (some hi), oaG X m] f (fun vs => slL4T lo.isSome sz vs fun v => dsT d v f fun f => r kn f T) = true := hk
        rw [getsT_eq] at hk'
        have hk'' : slL4T lo.isSome sz [oaG X x f, oaGO X lo f, oaG X hi f, oaG X m f] (fun v => dsT d v f fun f => r kn f T) = true := hk'
        rw [oaG_eq h hr.left.left.left, oaG_eq h (x := hi) (by simpa [oaTO] using hr.left.right), oaG_eq h (x := m) (by simpa [oaTO] using hr.right)] at hk''
        refine fin_p h.fr hs hd ((slL4T_sound lo.isSome sz _ _ _ _).cast ?_) hk''
        have e1 : bnd E ts (some hi) (lenN (ev E ts x)) = natOf (ev E ts hi) := rfl
        simp only [aopP, oaGO_eq h hr.left.left.right, e1]
        generalize bnd E ts lo 0 = a
        generalize natOf (ev E ts hi) = b
        generalize natOf (ev E ts m) = c
        cases a <;> cases b <;> cases c <;> rfl
  case fad off x =>
    have hk' : fadT off (oaG X x f) (fun v => dsT d v f fun f => r kn f T) = true := hk
    rw [oaG_eq h hr] at hk'
    exact fin_p h.fr hs hd (fadT_sound off _) hk'
  case fld off sz ag x =>
    have hk' : fldT off sz ag (oaG X x f) (fun v => dsT d v f fun f => r kn f T) = true := hk
    rw [oaG_eq h hr] at hk'
    exact fin_p h.fr hs hd (fldT_sound off sz ag _) hk'
  case iaL sz x i =>
    have hk' : iaLT sz (oaG X x f) (oaG X i f) (fun v => dsT d v f fun f => r kn f T) = true := hk
    rw [oaG_eq h hr.left, oaG_eq h hr.right] at hk'
    exact fin_p h.fr hs hd (iaLT_sound sz _ _) hk'
  case iaA len sz x i =>
    have hk' : iaAT len sz (oaG X x f) (oaG X i f) (fun v => dsT d v f fun f => r kn f T) = true := hk
    rw [oaG_eq h hr.left, oaG_eq h hr.right] at hk'
    exact fin_p h.fr hs hd (iaAT_sound len sz _ _) hk'
  case ixA len sz ag x i =>
    have hk' : ixAT len sz ag (oaG X x f) (oaG X i f) (fun v => dsT d v f fun f => r kn f T) = true := hk
    rw [oaG_eq h hr.left, oaG_eq h hr.right] at hk'
    exact fin_p h.fr hs hd (ixAT_sound len sz ag _ _) hk'
  case ixS x i =>
    have hk' : ixST (oaG X x f) (oaG X i f) (fun v => dsT d v f fun f => r kn f T) = true := hk
    rw [oaG_eq h hr.left, oaG_eq h hr.right] at hk'
    exact fin_p h.fr hs hd (ixST_sound _ _) hk'
  case ext x i =>
    have hk' : extT i (oaG X x f) (fun v => dsT d v f fun f => r kn f T) = true := hk
    rw [oaG_eq h hr] at hk'
    exact fin_p h.fr hs hd (extT_sound i _) hk'
  case lenS x =>
    have hk' : lenST (oaG X x f) (fun v => dsT d v f fun f => r kn f T) = true := hk
    rw [oaG_eq h hr] at hk'
    exact fin_p h.fr hs hd (lenST_sound _) hk'
  case lenL x =>
    have hk' : lenLT (oaG X x f) (fun v => dsT d v f fun f => r kn f T) = true := hk
    rw [oaG_eq h hr] at hk'
    exact fin_p h.fr hs hd (lenLT_sound _) hk'
  case lenC n =>
    have hk' : dsT d (.int .i64 (.ofNat n)) f (fun f => r kn f T) = true := hk
    obtain ⟨f', h1, h2⟩ := dst_fin h.fr hd _ hk'
    exact ⟨_, S, T, f', rfl, hs, h1, h2⟩
  case capL x =>
    have hk' : capLT (oaG X x f) (fun v => dsT d v f fun f => r kn f T) = true := hk
    rw [oaG_eq h hr] at hk'
    exact fin_p h.fr hs hd (capLT_sound _) hk'
  case maxI x xs =>
    have hk' : getsT (oaGs X (x :: xs)) f (fun vs => maxT vs fun v => dsT d v f fun f => r kn f T) = true := hk
    rw [getsT_eq, oaGs_eq h (l := x :: xs) (by simpa using hr)] at hk'
    exact fin_p h.fr hs hd (maxT_sound _ _) hk'
  case minI x xs =>
    have hk' : getsT (oaGs X (x :: xs)) f (fun vs => minT vs fun v => dsT d v f fun f => r kn f T) = true := hk
    rw [getsT_eq, oaGs_eq h (l := x :: xs) (by simpa using hr)] at hk'
    exact fin_p h.fr hs hd (minT_sound _ _) hk'
  case cmpS x y =>
    have hk' : cmpT (oaG X x f) (oaG X y f) (fun v => dsT d v f fun f => r kn f T) = true := hk
    rw [oaG_eq h hr.left, oaG_eq h hr.right] at hk'
    exact fin_p h.fr hs hd (cmpT_sound _ _) hk'
  case bad => cases hk

end Go.Ai

