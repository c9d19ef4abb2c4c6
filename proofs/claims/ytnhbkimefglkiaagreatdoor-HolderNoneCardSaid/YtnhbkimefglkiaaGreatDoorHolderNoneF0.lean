/- Printed by a program of this session (mkclaim.py): functions of the given program as code, and as threaded code. -/
import Derived.Test.YtnhbkimefglkiaaGreatDoorHolderNoneE
namespace Go.Proofs.YtnhbkimefglkiaaGreatDoor.HolderNone
open Go Go.Ai
set_option maxRecDepth 100000
set_option maxHeartbeats 0
noncomputable section
def nofc : Nat → Fc := asc []
theorem hnofc : TabF E nofc := asc_nil
theorem hnoyl : YlF E (fun _ _ _ _ => false) := YlF.none
def tabv0 : Nat → Fc := asc []
theorem htabv0 : TabF E tabv0 := asc_nil
def yl0 : Nat → Fc := fun _ _ _ _ => false
theorem hyl0 : YlF E yl0 := YlF.none
def co79 : Cd := cS (cO (oM (gC (.int .i64 0)) (cs sG6 sF0) (
  eO)))
 (cS (cO (oM (cg gG1 gF0) (cs sG7 sF0) (
  oM (cg gG0 gF0) (cs sG8 sF0) (
  o1 nchkT (cg gG8 gF0) (cs sG9 sF0) (
  o1 (fadT 1) (cg gG9 gF0) (cs sG10 sF0) (
  oD ld1T (cg gG10 gF0) (cs sG11 sF0) (
  o2 (arithK .mul) (cg gG7 gF0) (cg gG11 gF0) (cs sG12 sF0) (
  o2 (arithK .add) (gC (.int .i64 1)) (cg gG12 gF0) (cs sG13 sF0) (
  oM (cg gG2 gF0) (cs sG14 sF0) (
  o2 (arithK .add) (cg gG13 gF0) (cg gG14 gF0) (cs sG15 sF0) (
  oM (cg gG15 gF0) (cs sG6 sF0) (
  eO))))))))))))
 (cR))
def fn79 : Fc := fnT [(cs sG0 sF0), (cs sG1 sF0), (cs sG2 sF0)] (r1 (cg gG6 gF0)) co79
theorem se79 : FnS E 79 fn79 := fnOk (gv := gvT) (tab := asc []) (tabv := tabv0) (yl := yl0) (q := 3) (rf := rf79) (fun _ => rfl) asc_nil htabv0 hyl0 (by kernel_rfl) (by kernel_rfl) (by kernel_rfl)
def co167 : Cd := cS (cO (oM (gC (.bool false)) (cs sG4 sF0) (
  eO)))
 (cS (cO (oM (cg gG0 gF0) (cs sG5 sF0) (
  o2 (eqT true .ptr) (cg gG5 gF0) (gC .nilp) (cs sG6 sF0) (
  oM (cg gG6 gF0) (cs sG7 sF0) (
  oG (cg gG7 gF0) true (cs sG8 sF0) (oM (cg gG1 gF0) (cs sG8 sF0) (eO)) (
  oG (cg gG7 gF0) true (cs sG9 sF0) (o2 (arithK .geq) (cg gG8 gF0) (gC (.int .i64 0)) (cs sG9 sF0) (eO)) (
  o3 pickT (cg gG7 gF0) (cg gG9 gF0) (gC (.bool false)) (cs sG10 sF0) (
  oM (cg gG10 gF0) (cs sG11 sF0) (
  oG (cg gG11 gF0) true (cs sG12 sF0) (oM (cg gG1 gF0) (cs sG12 sF0) (eO)) (
  oG (cg gG11 gF0) true (cs sG13 sF0) (oM (cg gG0 gF0) (cs sG13 sF0) (eO)) (
  oG (cg gG11 gF0) true (cs sG14 sF0) (o1 nchkT (cg gG13 gF0) (cs sG14 sF0) (eO)) (
  oG (cg gG11 gF0) true (cs sG15 sF0) (o1 (fadT 0) (cg gG14 gF0) (cs sG15 sF0) (eO)) (
  oG (cg gG11 gF0) true (cs sG0 sF1) (oD ld1T (cg gG15 gF0) (cs sG0 sF1) (eO)) (
  oG (cg gG11 gF0) true (cs sG1 sF1) (o1 lenLT (cg gG0 gF1) (cs sG1 sF1) (eO)) (
  oG (cg gG11 gF0) true (cs sG2 sF1) (o2 (arithK .lss) (cg gG12 gF0) (cg gG1 gF1) (cs sG2 sF1) (eO)) (
  o3 pickT (cg gG11 gF0) (cg gG2 gF1) (gC (.bool false)) (cs sG3 sF1) (
  oM (cg gG3 gF1) (cs sG4 sF0) (
  eO))))))))))))))))))
 (cR))
def fn167 : Fc := fnT [(cs sG0 sF0), (cs sG1 sF0)] (r1 (cg gG4 gF0)) co167
theorem se167 : FnS E 167 fn167 := fnOk (gv := gvT) (tab := asc []) (tabv := tabv0) (yl := yl0) (q := 2) (rf := rf167) (fun _ => rfl) asc_nil htabv0 hyl0 (by kernel_rfl) (by kernel_rfl) (by kernel_rfl)
def co88 : Cd := cS (cO (oM (gC .nils) (cs sG2 sF0) (
  eO)))
 (cS (cS (cO (oM (cg gG0 gF0) (cs sG3 sF0) (
  o2 (eqT false .slice) (cg gG3 gF0) (gC .nils) (cs sG4 sF0) (
  eO))))
 (cC (cg gG4 gF0) (cS (cO (oM (gC .nils) (cs sG2 sF0) (
  eO)))
 (cR))
 (cSk)))
 (cS (cO (oN (mklT [] 0 1 []) [] (cs sG5 sF0) (
  oM (cg gG0 gF0) (cs sG6 sF0) (
  oW2 (appT 1 1) (cg gG5 gF0) (cg gG6 gF0) (cs sG7 sF0) (
  oM (cg gG7 gF0) (cs sG2 sF0) (
  eO))))))
 (cR)))
def fn88 : Fc := fnT [(cs sG0 sF0)] (r1 (cg gG2 gF0)) co88
theorem se88 : FnS E 88 fn88 := fnOk (gv := gvT) (tab := asc []) (tabv := tabv0) (yl := yl0) (q := 1) (rf := rf88) (fun _ => rfl) asc_nil htabv0 hyl0 (by kernel_rfl) (by kernel_rfl) (by kernel_rfl)
def co81 : Cd := cS (cO (oM (gC (.int .i64 0)) (cs sG6 sF0) (
  eO)))
 (cS (cS (cO (oM (cg gG0 gF0) (cs sG7 sF0) (
  oM (cg gG1 gF0) (cs sG8 sF0) (
  oF fn167 [(cg gG7 gF0), (cg gG8 gF0)] (cs sG9 sF0) (
  o1 (unT .not) (cg gG9 gF0) (cs sG10 sF0) (
  oM (cg gG10 gF0) (cs sG11 sF0) (
  oG (cg gG11 gF0) false (cs sG12 sF0) (oM (cg gG2 gF0) (cs sG12 sF0) (eO)) (
  oG (cg gG11 gF0) false (cs sG13 sF0) (o1 lenLT (cg gG12 gF0) (cs sG13 sF0) (eO)) (
  oG (cg gG11 gF0) false (cs sG14 sF0) (o2 (arithK .neq) (cg gG13 gF0) (gC (.int .i64 32)) (cs sG14 sF0) (eO)) (
  o3 pickT (cg gG11 gF0) (gC (.bool true)) (cg gG14 gF0) (cs sG15 sF0) (
  eO)))))))))))
 (cC (cg gG15 gF0) (cS (cO (oM (gC (.int .i64 1)) (cs sG6 sF0) (
  eO)))
 (cR))
 (cSk)))
 (cS (cO (oM (cg gG0 gF0) (cs sG0 sF1) (
  oM (cg gG0 gF0) (cs sG1 sF1) (
  o1 nchkT (cg gG1 gF1) (cs sG2 sF1) (
  o1 (fadT 2) (cg gG2 gF1) (cs sG3 sF1) (
  oD ld1T (cg gG3 gF1) (cs sG4 sF1) (
  oM (cg gG4 gF1) (cs sG5 sF1) (
  oG (cg gG5 gF1) false (cs sG6 sF1) (oM (cg gG0 gF0) (cs sG6 sF1) (eO)) (
  oG (cg gG5 gF1) false (cs sG7 sF1) (o1 nchkT (cg gG6 gF1) (cs sG7 sF1) (eO)) (
  oG (cg gG5 gF1) false (cs sG8 sF1) (o1 (fadT 1) (cg gG7 gF1) (cs sG8 sF1) (eO)) (
  oG (cg gG5 gF1) false (cs sG9 sF1) (oD ld1T (cg gG8 gF1) (cs sG9 sF1) (eO)) (
  oG (cg gG5 gF1) false (cs sG10 sF1) (o2 (arithK .eql) (cg gG9 gF1) (gC (.int .i64 0)) (cs sG10 sF1) (eO)) (
  o3 pickT (cg gG5 gF1) (gC (.bool true)) (cg gG10 gF1) (cs sG11 sF1) (
  o1 nchkT (cg gG0 gF1) (cs sG12 sF1) (
  o1 (fadT 2) (cg gG12 gF1) (cs sG13 sF1) (
  oW2 (storeT 1) (cg gG13 gF1) (cg gG11 gF1) s0 (
  eO)))))))))))))))))
 (cS (cS (cO (oM (cg gG0 gF0) (cs sG14 sF1) (
  o1 nchkT (cg gG14 gF1) (cs sG15 sF1) (
  o1 (fadT 2) (cg gG15 gF1) (cs sG0 sF2) (
  oD ld1T (cg gG0 gF2) (cs sG1 sF2) (
  eO))))))
 (cC (cg gG1 gF2) (cS (cO (oM (gC (.int .i64 3)) (cs sG6 sF0) (
  eO)))
 (cR))
 (cSk)))
 (cS (cS (cO (oM (cg gG0 gF0) (cs sG2 sF2) (
  o1 nchkT (cg gG2 gF2) (cs sG3 sF2) (
  o1 (fadT 1) (cg gG3 gF2) (cs sG4 sF2) (
  oD ld1T (cg gG4 gF2) (cs sG5 sF2) (
  o2 (arithK .gtr) (cg gG5 gF2) (gC (.int .i64 0)) (cs sG6 sF2) (
  eO)))))))
 (cC (cg gG6 gF2) (cO (oM (cg gG0 gF0) (cs sG7 sF2) (
  o1 nchkT (cg gG7 gF2) (cs sG8 sF2) (
  o1 (fadT 1) (cg gG8 gF2) (cs sG9 sF2) (
  oD ld1T (cg gG9 gF2) (cs sG10 sF2) (
  o2 (arithK .sub) (cg gG10 gF2) (gC (.int .i64 1)) (cs sG11 sF2) (
  o1 nchkT (cg gG7 gF2) (cs sG12 sF2) (
  o1 (fadT 1) (cg gG12 gF2) (cs sG13 sF2) (
  oW2 (storeT 1) (cg gG13 gF2) (cg gG11 gF2) s0 (
  eO))))))))))
 (cSk)))
 (cS (cD [] [iP (oM (cg gG0 gF0) (cs sG14 sF2) (eO)),
  iP (o1 nchkT (cg gG14 gF2) (cs sG15 sF2) (eO)),
  iP (o1 (fadT 0) (cg gG15 gF2) (cs sG0 sF3) (eO)),
  iR 0 1 (rd1 ld1T (cg gG0 gF3)) (cs sG1 sF3),
  iP (oM (cg gG1 gF0) (cs sG2 sF3) (eO)),
  iP (oM (cg gG2 gF0) (cs sG3 sF3) (eO)),
  iW (oF fn88 [(cg gG3 gF3)] (cs sG4 sF3) (eO)),
  iP (o2 (iaLT 1) (cg gG1 gF3) (cg gG2 gF3) (cs sG5 sF3) (eO)),
  iW (oW2 (storeT 1) (cg gG5 gF3) (cg gG4 gF3) s0 (eO))])
 (cS (cO (oM (cg gG0 gF0) (cs sG6 sF3) (
  o1 nchkT (cg gG6 gF3) (cs sG7 sF3) (
  o1 (fadT 3) (cg gG7 gF3) (cs sG8 sF3) (
  oD ld1T (cg gG8 gF3) (cs sG9 sF3) (
  o2 (arithK .add) (cg gG9 gF3) (gC (.int .i64 1)) (cs sG10 sF3) (
  o1 nchkT (cg gG6 gF3) (cs sG11 sF3) (
  o1 (fadT 3) (cg gG11 gF3) (cs sG12 sF3) (
  oW2 (storeT 1) (cg gG12 gF3) (cg gG10 gF3) s0 (
  eO))))))))))
 (cS (cO (oM (gC (.int .i64 0)) (cs sG6 sF0) (
  eO)))
 (cR))))))))
def fn81 : Fc := fnT [(cs sG0 sF0), (cs sG1 sF0), (cs sG2 sF0)] (r1 (cg gG6 gF0)) co81
theorem se81 : FnS E 81 fn81 := fnOk (gv := gvT) (tab := asc [(167, fn167), (88, fn88)]) (tabv := tabv0) (yl := yl0) (q := 3) (rf := rf81) (fun _ => rfl) (asc_cons se167 (asc_cons se88 asc_nil)) htabv0 hyl0 (by kernel_rfl) (by kernel_rfl) (by kernel_rfl)
def tabY : Nat → Fc := asc [(79, fn79), (81, fn81)]
theorem htabY : TabF E tabY := (asc_cons se79 (asc_cons se81 asc_nil))
def ylv : Nat → Fc := yieldT (inY gvT tabY)
theorem hylv : YlF E ylv := ylOk (fun _ => rfl) htabY
def co238 : Cd := cS (cO (oW1 (boxT 2) (cg gG1 gF0) (cs sG3 sF0) (
  oM (gC (.int .i64 0)) (cs sG4 sF0) (
  eO))))
 (cS (cS (cO (oM (cg gG0 gF0) (cs sG6 sF0) (
  o1 lenLT (cg gG6 gF0) (cs sG7 sF0) (
  oM (gC (.int .i64 0)) (cs sG8 sF0) (
  eO)))))
 (cB 0 (cL (cS (cO (o2 (arithK .lss) (cg gG8 gF0) (cg gG7 gF0) (cs sG9 sF0) (
  eO)))
 (cS (cC (cg gG9 gF0) (cSk)
 (cE 0))
 (cS (cB 1 (cS (cO (oM (cg gG8 gF0) (cs sG10 sF0) (
  oM (cg gG10 gF0) (cs sG5 sF0) (
  eO))))
 (cS (cD [] [iP (oD (ldT 2 true) (cg gG3 gF0) (cs sG11 sF0) (eO)),
  iP (oM (cg gG0 gF0) (cs sG12 sF0) (eO)),
  iP (oM (cg gG5 gF0) (cs sG13 sF0) (eO)),
  iP (o2 (iaLT 2) (cg gG12 gF0) (cg gG13 gF0) (cs sG14 sF0) (eO)),
  iP (oD (ldT 2 true) (cg gG14 gF0) (cs sG15 sF0) (eO)),
  iP (o2 (eqT false (.agg [1, 0])) (cg gG11 gF0) (cg gG15 gF0) (cs sG0 sF1) (eO))])
 (cC (cg gG0 gF1) (cS (cO (oM (cg gG5 gF0) (cs sG1 sF1) (
  oM (cg gG1 gF1) (cs sG4 sF0) (
  eO))))
 (cR))
 (cSk)))))
 (cO (o2 (arithK .add) (cg gG8 gF0) (gC (.int .i64 1)) (cs sG2 sF1) (
  oM (cg gG2 gF1) (cs sG8 sF0) (
  eO))))))))))
 (cS (cO (oM (gC (.int .i64 (-1))) (cs sG4 sF0) (
  eO)))
 (cR)))
def fn238 : Fc := fnT [(cs sG0 sF0), (cs sG1 sF0)] (r1 (cg gG4 gF0)) co238
theorem se238 : FnS E 238 fn238 := fnOk (gv := gvT) (tab := asc []) (tabv := tabv0) (yl := ylv) (q := 2) (rf := rf238) (fun _ => rfl) asc_nil htabv0 hylv (by kernel_rfl) (by kernel_rfl) (by kernel_rfl)
def co173 : Cd := cS (cO (oW1 (boxT 2) (cg gG1 gF0) (cs sG3 sF0) (
  oM (gC (.bool false)) (cs sG4 sF0) (
  eO))))
 (cS (cO (oM (cg gG0 gF0) (cs sG5 sF0) (
  oD (ldT 2 true) (cg gG3 gF0) (cs sG6 sF0) (
  oF fn238 [(cg gG5 gF0), (cg gG6 gF0)] (cs sG7 sF0) (
  o2 (arithK .geq) (cg gG7 gF0) (gC (.int .i64 0)) (cs sG8 sF0) (
  oM (cg gG8 gF0) (cs sG4 sF0) (
  eO)))))))
 (cR))
def fn173 : Fc := fnT [(cs sG0 sF0), (cs sG1 sF0)] (r1 (cg gG4 gF0)) co173
theorem se173 : FnS E 173 fn173 := fnOk (gv := gvT) (tab := asc [(238, fn238)]) (tabv := tabv0) (yl := ylv) (q := 2) (rf := rf173) (fun _ => rfl) (asc_cons se238 asc_nil) htabv0 hylv (by kernel_rfl) (by kernel_rfl) (by kernel_rfl)
def co172 : Cd := cS (cO (oW1 (boxT 4) (cg gG0 gF0) (cs sG2 sF0) (
  oM (gC (.bool false)) (cs sG3 sF0) (
  eO))))
 (cS (cO (o1 (fadT 7) (cg gG1 gF0) (cs sG4 sF0) (
  oD ld1T (cg gG4 gF0) (cs sG5 sF0) (
  o1 (fadT 0) (cg gG2 gF0) (cs sG6 sF0) (
  oD ld1T (cg gG6 gF0) (cs sG7 sF0) (
  o1 (fadT 1) (cg gG2 gF0) (cs sG8 sF0) (
  oD ld1T (cg gG8 gF0) (cs sG9 sF0) (
  oN (buildT [(.str []), (.int .i64 0)] [(0, 1), (1, 1)]) [(cg gG7 gF0), (cg gG9 gF0)] (cs sG10 sF0) (
  oF fn173 [(cg gG5 gF0), (cg gG10 gF0)] (cs sG11 sF0) (
  o1 (unT .not) (cg gG11 gF0) (cs sG12 sF0) (
  oM (cg gG12 gF0) (cs sG3 sF0) (
  eO))))))))))))
 (cR))
def fn172 : Fc := fnT [(cs sG0 sF0), (cs sG1 sF0)] (r1 (cg gG3 gF0)) co172
theorem se172 : FnS E 172 fn172 := fnOk (gv := gvT) (tab := asc [(173, fn173)]) (tabv := tabv0) (yl := ylv) (q := 2) (rf := rf172) (fun _ => rfl) (asc_cons se173 asc_nil) htabv0 hylv (by kernel_rfl) (by kernel_rfl) (by kernel_rfl)
def tabv1 : Nat → Fc := asc [(172, fn172)]
theorem htabv1 : TabF E tabv1 := (asc_cons se172 asc_nil)
def co236 : Cd := cS (cO (oM (gC (.int .u8 0)) (cs sG2 sF0) (
  eO)))
 (cS (cS (cO (oM (cg gG0 gF0) (cs sG3 sF0) (
  o2 (arithK .geq) (cg gG3 gF0) (gC (.int .u8 128)) (cs sG4 sF0) (
  eO))))
 (cC (cg gG4 gF0) (cS (cO (oM (cg gG0 gF0) (cs sG5 sF0) (
  o2 (arithK .shl) (cg gG5 gF0) (gC (.int .u64 1)) (cs sG6 sF0) (
  o2 (arithK .xor) (cg gG6 gF0) (gC (.int .u8 27)) (cs sG7 sF0) (
  oM (cg gG7 gF0) (cs sG2 sF0) (
  eO))))))
 (cR))
 (cSk)))
 (cS (cO (oM (cg gG0 gF0) (cs sG8 sF0) (
  o2 (arithK .shl) (cg gG8 gF0) (gC (.int .u64 1)) (cs sG9 sF0) (
  oM (cg gG9 gF0) (cs sG2 sF0) (
  eO)))))
 (cR)))
def fn236 : Fc := fnT [(cs sG0 sF0)] (r1 (cg gG2 gF0)) co236
theorem se236 : FnS E 236 fn236 := fnOk (gv := gvT) (tab := asc []) (tabv := tabv1) (yl := ylv) (q := 1) (rf := rf236) (fun _ => rfl) asc_nil htabv1 hylv (by kernel_rfl) (by kernel_rfl) (by kernel_rfl)
def co235 : Cd := cS (cO (oM (gC (.int .u8 1)) (cs sG2 sF0) (
  eO)))
 (cS (cO (oM (gC (.int .i64 0)) (cs sG4 sF0) (
  eO)))
 (cB 0 (cL (cS (cO (o2 (arithK .lss) (cg gG4 gF0) (gC (.int .i64 255)) (cs sG5 sF0) (
  eO)))
 (cS (cC (cg gG5 gF0) (cSk)
 (cE 0))
 (cS (cB 1 (cS (cO (oM (cg gG4 gF0) (cs sG6 sF0) (
  oM (cg gG6 gF0) (cs sG3 sF0) (
  eO))))
 (cS (cS (cO (oM (cg gG0 gF0) (cs sG7 sF0) (
  oM (cg gG3 gF0) (cs sG8 sF0) (
  oM (cg gG2 gF0) (cs sG9 sF0) (
  oV tabv1 ylv (cg gG7 gF0) [(cg gG8 gF0), (cg gG9 gF0)] (cs sG10 sF0) (
  o1 (unT .not) (cg gG10 gF0) (cs sG11 sF0) (
  eO)))))))
 (cC (cg gG11 gF0) (cR)
 (cSk)))
 (cO (oM (cg gG2 gF0) (cs sG12 sF0) (
  oM (cg gG2 gF0) (cs sG13 sF0) (
  oF fn236 [(cg gG13 gF0)] (cs sG14 sF0) (
  o2 (arithK .xor) (cg gG12 gF0) (cg gG14 gF0) (cs sG15 sF0) (
  oM (cg gG15 gF0) (cs sG2 sF0) (
  eO))))))))))
 (cO (o2 (arithK .add) (cg gG4 gF0) (gC (.int .i64 1)) (cs sG0 sF1) (
  oM (cg gG0 gF1) (cs sG4 sF0) (
  eO))))))))))
def fn235 : Fc := fnT [(cs sG0 sF0)] (rN []) co235
theorem se235 : FnS E 235 fn235 := fnOk (gv := gvT) (tab := asc [(236, fn236)]) (tabv := tabv1) (yl := ylv) (q := 1) (rf := rf235) (fun _ => rfl) (asc_cons se236 asc_nil) htabv1 hylv (by kernel_rfl) (by kernel_rfl) (by kernel_rfl)
def tabv2 : Nat → Fc := asc [(172, fn172), (235, fn235)]
theorem htabv2 : TabF E tabv2 := (asc_cons se172 (asc_cons se235 asc_nil))
def co121 : Cd := cS (cO (oM (gC (.int .i64 0)) (cs sG2 sF0) (
  eO)))
 (cS (cO (oM (cg gG0 gF0) (cs sG3 sF0) (
  o2 (arithK .add) (cg gG3 gF0) (gC (.int .i64 32)) (cs sG4 sF0) (
  o2 (arithK .sub) (cg gG4 gF0) (gC (.int .i64 1)) (cs sG5 sF0) (
  o2 (arithK .quo) (cg gG5 gF0) (gC (.int .i64 32)) (cs sG6 sF0) (
  oM (cg gG6 gF0) (cs sG2 sF0) (
  eO)))))))
 (cR))
def fn121 : Fc := fnT [(cs sG0 sF0)] (r1 (cg gG2 gF0)) co121
theorem se121 : FnS E 121 fn121 := fnOk (gv := gvT) (tab := asc []) (tabv := tabv2) (yl := ylv) (q := 1) (rf := rf121) (fun _ => rfl) asc_nil htabv2 hylv (by kernel_rfl) (by kernel_rfl) (by kernel_rfl)
def co308 : Cd := cS (cO (oD ld1T (cg gG1 gF0) (cs sG5 sF0) (
  o1 lenLT (cg gG5 gF0) (cs sG6 sF0) (
  oF fn121 [(cg gG6 gF0)] (cs sG7 sF0) (
  oM (gC (.int .i64 0)) (cs sG8 sF0) (
  eO))))))
 (cB 0 (cL (cS (cO (o2 (arithK .lss) (cg gG8 gF0) (cg gG7 gF0) (cs sG9 sF0) (
  eO)))
 (cS (cC (cg gG9 gF0) (cSk)
 (cE 0))
 (cS (cB 1 (cS (cO (oM (cg gG8 gF0) (cs sG10 sF0) (
  oM (cg gG10 gF0) (cs sG3 sF0) (
  eO))))
 (cS (cO (oW2 (mksT [(.int .u8 0)] 1 1) (gC (.int .i64 32)) (gC (.int .i64 32)) (cs sG11 sF0) (
  oM (cg gG11 gF0) (cs sG4 sF0) (
  eO))))
 (cS (cO (oM (cg gG4 gF0) (cs sG12 sF0) (
  oD ld1T (cg gG1 gF0) (cs sG13 sF0) (
  oM (cg gG3 gF0) (cs sG14 sF0) (
  o2 (arithK .mul) (cg gG14 gF0) (gC (.int .i64 32)) (cs sG15 sF0) (
  o3 (slLT true false 1) (cg gG13 gF0) (cg gG15 gF0) (gC .nili) (cs sG0 sF1) (
  oW2 (copyT 1) (cg gG12 gF0) (cg gG0 gF1) (cs sG1 sF1) (
  eO))))))))
 (cS (cO (oM (cg gG0 gF0) (cs sG2 sF1) (
  oM (cg gG3 gF0) (cs sG3 sF1) (
  oM (cg gG4 gF0) (cs sG4 sF1) (
  oV tabv2 ylv (cg gG2 gF1) [(cg gG3 gF1), (cg gG4 gF1)] (cs sG5 sF1) (
  o1 (unT .not) (cg gG5 gF1) (cs sG6 sF1) (
  eO)))))))
 (cC (cg gG6 gF1) (cR)
 (cSk)))))))
 (cO (o2 (arithK .add) (cg gG8 gF0) (gC (.int .i64 1)) (cs sG7 sF1) (
  oM (cg gG7 gF1) (cs sG8 sF0) (
  eO)))))))))
def fn308 : Fc := fnT [(cs sG0 sF0), (cs sG1 sF0)] (rN []) co308
theorem se308 : FnS E 308 fn308 := fnOk (gv := gvT) (tab := asc [(121, fn121)]) (tabv := tabv2) (yl := ylv) (q := 2) (rf := rf308) (fun _ => rfl) (asc_cons se121 asc_nil) htabv2 hylv (by kernel_rfl) (by kernel_rfl) (by kernel_rfl)
def tabv3 : Nat → Fc := asc [(172, fn172), (235, fn235), (308, fn308)]
theorem htabv3 : TabF E tabv3 := (asc_cons se172 (asc_cons se235 (asc_cons se308 asc_nil)))
def co7 : Cd := cS (cO (oM (cg gG0 gF0) (cs sG2 sF0) (
  o2 (eqT true .ptr) (cg gG2 gF0) (gC .nilp) (cs sG3 sF0) (
  eO))))
 (cC (cg gG3 gF0) (cO (oM (cg gG0 gF0) (cs sG4 sF0) (
  oM (cg gG0 gF0) (cs sG5 sF0) (
  oN (buildT [(.int .i64 0), (.int .i64 0), (.int .i64 0), .nils, .nils, .nilm, .nilm] []) [] (cs sG6 sF0) (
  o1 nchkT (cg gG4 gF0) (cs sG7 sF0) (
  o1 (fadT 9) (cg gG7 gF0) (cs sG8 sF0) (
  oW2 (storeT 1) (cg gG8 gF0) (gC (.bool true)) s0 (
  o1 nchkT (cg gG5 gF0) (cs sG9 sF0) (
  o1 (fadT 10) (cg gG9 gF0) (cs sG10 sF0) (
  oW2 (storeT 7) (cg gG10 gF0) (cg gG6 gF0) s0 (
  eO)))))))))))
 (cSk))
def fn7 : Fc := fnT [(cs sG0 sF0)] (rN []) co7
theorem se7 : FnS E 7 fn7 := fnOk (gv := gvT) (tab := asc []) (tabv := tabv3) (yl := ylv) (q := 1) (rf := rf7) (fun _ => rfl) asc_nil htabv3 hylv (by kernel_rfl) (by kernel_rfl) (by kernel_rfl)
def co8 : Cd := cS (cO (oM (cg gG0 gF0) (cs sG2 sF0) (
  o2 (eqT true .ptr) (cg gG2 gF0) (gC .nilp) (cs sG3 sF0) (
  eO))))
 (cC (cg gG3 gF0) (cS (cO (oM (cg gG0 gF0) (cs sG4 sF0) (
  o1 nchkT (cg gG4 gF0) (cs sG5 sF0) (
  o1 (fadT 7) (cg gG5 gF0) (cs sG6 sF0) (
  oD ld1T (cg gG6 gF0) (cs sG7 sF0) (
  oF fX [(cg gG7 gF0)] (cs sG8 sF0) (
  eO)))))))
 (cO (oM (cg gG0 gF0) (cs sG9 sF0) (
  oM (cg gG0 gF0) (cs sG10 sF0) (
  oN (buildT [(.int .i64 0), (.int .i64 0), (.int .i64 0), .nils, .nils, .nilm, .nilm] []) [] (cs sG11 sF0) (
  o1 nchkT (cg gG9 gF0) (cs sG12 sF0) (
  o1 (fadT 9) (cg gG12 gF0) (cs sG13 sF0) (
  oW2 (storeT 1) (cg gG13 gF0) (gC (.bool false)) s0 (
  o1 nchkT (cg gG10 gF0) (cs sG14 sF0) (
  o1 (fadT 10) (cg gG14 gF0) (cs sG15 sF0) (
  oW2 (storeT 7) (cg gG15 gF0) (cg gG11 gF0) s0 (
  eO))))))))))))
 (cSk))
def fn8 : Fc := fnT [(cs sG0 sF0)] (rN []) co8
theorem se8 : FnS E 8 fn8 := fnOk (gv := gvT) (tab := asc []) (tabv := tabv3) (yl := ylv) (q := 1) (rf := rf8) (fun _ => rfl) asc_nil htabv3 hylv (by kernel_rfl) (by kernel_rfl) (by kernel_rfl)
def co9 : Cd := cS (cO (oM (cg gG0 gF0) (cs sG4 sF0) (
  o2 (eqT true .ptr) (cg gG4 gF0) (gC .nilp) (cs sG5 sF0) (
  eO))))
 (cC (cg gG5 gF0) (cO (oM (cg gG0 gF0) (cs sG6 sF0) (
  o1 nchkT (cg gG6 gF0) (cs sG7 sF0) (
  o1 (fadT 7) (cg gG7 gF0) (cs sG8 sF0) (
  oD ld1T (cg gG8 gF0) (cs sG9 sF0) (
  oM (cg gG1 gF0) (cs sG10 sF0) (
  oF fX [(cg gG9 gF0), (cg gG10 gF0)] (cs sG11 sF0) (
  eO))))))))
 (cSk))
def fn9 : Fc := fnT [(cs sG0 sF0), (cs sG1 sF0)] (rN []) co9
theorem se9 : FnS E 9 fn9 := fnOk (gv := gvT) (tab := asc []) (tabv := tabv3) (yl := ylv) (q := 2) (rf := rf9) (fun _ => rfl) asc_nil htabv3 hylv (by kernel_rfl) (by kernel_rfl) (by kernel_rfl)
def co166 : Cd := cS (cO (oM (gC .nilf) (cs sG0 sF0) (
  eO)))
 (cS (cO (oM (gC (.fn 235 [] [])) (cs sG0 sF0) (
  eO)))
 (cR))
def fn166 : Fc := fnT [] (r1 (cg gG0 gF0)) co166
theorem se166 : FnS E 166 fn166 := fnOk (gv := gvT) (tab := asc []) (tabv := tabv3) (yl := ylv) (q := 0) (rf := rf166) (fun _ => rfl) asc_nil htabv3 hylv (by kernel_rfl) (by kernel_rfl) (by kernel_rfl)
def co74 : Cd := cS (cO (oM (gC .nilp) (cs sG0 sF0) (
  eO)))
 (cS (cO (oN (buildT [(.int .u8 0), (.int .u8 0), (.int .u8 0), (.int .u8 0), (.int .u8 0), (.int .u8 0), (.int .u8 0), (.int .u8 0), (.int .u8 0), (.int .u8 0), (.int .u8 0), (.int .u8 0), (.int .u8 0), (.int .u8 0), (.int .u8 0), (.int .u8 0), (.int .u8 0), (.int .u8 0), (.int .u8 0), (.int .u8 0), (.int .u8 0), (.int .u8 0), (.int .u8 0), (.int .u8 0), (.int .u8 0), (.int .u8 0), (.int .u8 0), (.int .u8 0), (.int .u8 0), (.int .u8 0), (.int .u8 0), (.int .u8 0), (.int .u8 0), (.int .u8 0), (.int .u8 0), (.int .u8 0), (.int .u8 0), (.int .u8 0), (.int .u8 0), (.int .u8 0), (.int .u8 0), (.int .u8 0), (.int .u8 0), (.int .u8 0), (.int .u8 0), (.int .u8 0), (.int .u8 0), (.int .u8 0), (.int .u8 0), (.int .u8 0), (.int .u8 0), (.int .u8 0), (.int .u8 0), (.int .u8 0), (.int .u8 0), (.int .u8 0), (.int .u8 0), (.int .u8 0), (.int .u8 0), (.int .u8 0), (.int .u8 0), (.int .u8 0), (.int .u8 0), (.int .u8 0), (.int .u8 0), (.int .u8 0), (.int .u8 0), (.int .u8 0), (.int .u8 0), (.int .u8 0), (.int .u8 0), (.int .u8 0), (.int .u8 0), (.int .u8 0), (.int .u8 0), (.int .u8 0), (.int .u8 0), (.int .u8 0), (.int .u8 0), (.int .u8 0), (.int .u8 0), (.int .u8 0), (.int .u8 0), (.int .u8 0), (.int .u8 0), (.int .u8 0), (.int .u8 0), (.int .u8 0), (.int .u8 0), (.int .u8 0), (.int .u8 0), (.int .u8 0), (.int .u8 0), (.int .u8 0), (.int .u8 0), (.int .u8 0), (.int .u8 0), (.int .u8 0), (.int .u8 0), (.int .u8 0), (.int .u8 0), (.int .u8 0), (.int .u8 0), (.int .u8 0), (.int .u8 0), (.int .u8 0), (.int .u8 0), (.int .u8 0), (.int .u8 0), (.int .u8 0), (.int .u8 0), (.int .u8 0), (.int .u8 0), (.int .u8 0), (.int .u8 0), (.int .u8 0), (.int .u8 0), (.int .u8 0), (.int .u8 0), (.int .u8 0), (.int .u8 0), (.int .u8 0), (.int .u8 0), (.int .u8 0), (.int .u8 0), (.int .u8 0), (.int .u8 0), (.int .u8 0), (.int .u8 0), (.int .u8 0), (.int .u8 0), (.int .u8 0), (.int .u8 0), (.int .u8 0), (.int .u8 0), (.int .u8 0), (.int .u8 0), (.int .u8 0), (.int .u8 0), (.int .u8 0), (.int .u8 0), (.int .u8 0), (.int .u8 0), (.int .u8 0), (.int .u8 0), (.int .u8 0), (.int .u8 0), (.int .u8 0), (.int .u8 0), (.int .u8 0), (.int .u8 0), (.int .u8 0), (.int .u8 0), (.int .u8 0), (.int .u8 0), (.int .u8 0), (.int .u8 0), (.int .u8 0), (.int .u8 0), (.int .u8 0), (.int .u8 0), (.int .u8 0), (.int .u8 0), (.int .u8 0), (.int .u8 0), (.int .u8 0), (.int .u8 0), (.int .u8 0), (.int .u8 0), (.int .u8 0), (.int .u8 0), (.int .u8 0), (.int .u8 0), (.int .u8 0), (.int .u8 0), (.int .u8 0), (.int .u8 0), (.int .u8 0), (.int .u8 0), (.int .u8 0), (.int .u8 0), (.int .u8 0), (.int .u8 0), (.int .u8 0), (.int .u8 0), (.int .u8 0), (.int .u8 0), (.int .u8 0), (.int .u8 0), (.int .u8 0), (.int .u8 0), (.int .u8 0), (.int .u8 0), (.int .u8 0), (.int .u8 0), (.int .u8 0), (.int .u8 0), (.int .u8 0), (.int .u8 0), (.int .u8 0), (.int .u8 0), (.int .u8 0), (.int .u8 0), (.int .u8 0), (.int .u8 0), (.int .u8 0), (.int .u8 0), (.int .u8 0), (.int .u8 0), (.int .u8 0), (.int .u8 0), (.int .u8 0), (.int .u8 0), (.int .u8 0), (.int .u8 0), (.int .u8 0), (.int .u8 0), (.int .u8 0), (.int .u8 0), (.int .u8 0), (.int .u8 0), (.int .u8 0), (.int .u8 0), (.int .u8 0), (.int .u8 0), (.int .u8 0), (.int .u8 0), (.int .u8 0), (.int .u8 0), (.int .u8 0), (.int .u8 0), (.int .u8 0), (.int .u8 0), (.int .u8 0), (.int .u8 0), (.int .u8 0), (.int .u8 0), (.int .u8 0), (.int .u8 0), (.int .u8 0), (.int .u8 0), (.int .u8 0), (.int .u8 0), (.int .u8 0), (.int .u8 0), (.int .u8 0), (.int .u8 0), (.int .u8 0), (.int .u8 0), (.int .u8 0), (.int .u8 0), (.int .u8 0), (.int .u8 0), (.int .u8 0), (.int .u8 0), (.int .u8 0), (.int .u8 0), (.int .u8 0), (.int .u8 0), (.int .u8 0), (.int .u8 0), (.int .u8 0), (.int .u8 0), (.int .u8 0), (.int .u8 0), (.int .u8 0), (.int .u8 0), (.int .u8 0), (.int .u8 0), (.int .u8 0), (.int .u8 0), (.int .u8 0), (.int .u8 0), (.int .u8 0), (.int .u8 0), (.int .u8 0), (.int .u8 0), (.int .u8 0), (.int .u8 0), (.int .u8 0), (.int .u8 0), (.int .u8 0), (.int .u8 0), (.int .u8 0), (.int .u8 0), (.int .u8 0), (.int .u8 0), (.int .u8 0), (.int .u8 0), (.int .u8 0), (.int .u8 0), (.int .u8 0), (.int .u8 0), (.int .u8 0), (.int .u8 0), (.int .u8 0), (.int .u8 0), (.int .u8 0), (.int .u8 0), (.int .u8 0), (.int .u8 0), (.int .u8 0), (.int .u8 0), (.int .u8 0), (.int .u8 0), (.int .u8 0), (.int .u8 0), (.int .u8 0), (.int .u8 0), (.int .u8 0), (.int .u8 0), (.int .u8 0), (.int .u8 0), (.int .u8 0), (.int .u8 0), (.int .u8 0), (.int .u8 0), (.int .u8 0), (.int .u8 0), (.int .u8 0), (.int .u8 0), (.int .u8 0), (.int .u8 0), (.int .u8 0), (.int .u8 0), (.int .u8 0), (.int .u8 0), (.int .u8 0), (.int .u8 0), (.int .u8 0), (.int .u8 0), (.int .u8 0), (.int .u8 0), (.int .u8 0), (.int .u8 0), (.int .u8 0), (.int .u8 0), (.int .u8 0), (.int .u8 0), (.int .u8 0), (.int .u8 0), (.int .u8 0), (.int .u8 0), (.int .u8 0), (.int .u8 0), (.int .u8 0), (.int .u8 0), (.int .u8 0), (.int .u8 0), (.int .u8 0), (.int .u8 0), (.int .u8 0), (.int .u8 0), (.int .u8 0), (.int .u8 0), (.int .u8 0), (.int .u8 0), (.int .u8 0), (.int .u8 0), (.int .u8 0), (.int .u8 0), (.int .u8 0), (.int .u8 0), (.int .u8 0), (.int .u8 0), (.int .u8 0), (.int .u8 0), (.int .u8 0), (.int .u8 0), (.int .u8 0), (.int .u8 0), (.int .u8 0), (.int .u8 0), (.int .u8 0), (.int .u8 0), (.int .u8 0), (.int .u8 0), (.int .u8 0), (.int .u8 0), (.int .u8 0), (.int .u8 0), (.int .u8 0), (.int .u8 0), (.int .u8 0), (.int .u8 0), (.int .u8 0), (.int .u8 0), (.int .u8 0), (.int .u8 0), (.int .u8 0), (.int .u8 0), (.int .u8 0), (.int .u8 0), (.int .u8 0), (.int .u8 0), (.int .u8 0), (.int .u8 0), (.int .u8 0), (.int .u8 0), (.int .u8 0), (.int .u8 0), (.int .u8 0), (.int .u8 0), (.int .u8 0), (.int .u8 0), (.int .u8 0), (.int .u8 0), (.int .u8 0), (.int .u8 0), (.int .u8 0), (.int .u8 0), (.int .u8 0), (.int .u8 0), (.int .u8 0), (.int .u8 0), (.int .u8 0), (.int .u8 0), (.int .u8 0), (.int .u8 0), (.int .u8 0), (.int .u8 0), (.int .u8 0), (.int .u8 0), (.int .u8 0), (.int .u8 0), (.int .u8 0), (.int .u8 0), (.int .u8 0), (.int .u8 0), (.int .u8 0), (.int .u8 0), (.int .u8 0), (.int .u8 0), (.int .u8 0), (.int .u8 0), (.int .u8 0), (.int .u8 0), (.int .u8 0), (.int .u8 0), (.int .u8 0), (.int .u8 0), (.int .u8 0), (.int .u8 0), (.int .u8 0), (.int .u8 0), (.int .u8 0), (.int .u8 0), (.int .u8 0), (.int .u8 0), (.int .u8 0), (.int .u8 0), (.int .u8 0), (.int .u8 0), (.int .u8 0), (.int .u8 0), (.int .u8 0), (.int .u8 0), (.int .u8 0), (.int .u8 0), (.int .u8 0), (.int .u8 0), (.int .u8 0), (.int .u8 0), (.int .u8 0), (.int .u8 0), (.int .u8 0), (.int .u8 0), (.int .u8 0), (.int .u8 0), (.int .u8 0), (.int .u8 0), (.int .u8 0), (.int .u8 0), (.int .u8 0), (.int .u8 0), (.int .u8 0), (.int .u8 0), (.int .u8 0), (.int .u8 0), (.int .u8 0), (.int .u8 0), (.int .u8 0), (.int .u8 0), (.int .u8 0), (.int .u8 0), (.int .u8 0), (.int .u8 0), (.int .u8 0), (.int .u8 0), (.int .u8 0), (.int .u8 0), (.int .u8 0), (.int .u8 0), (.int .u8 0), (.int .u8 0), (.int .u8 0), (.int .u8 0), (.int .u8 0), (.int .u8 0), (.int .u8 0), (.int .u8 0), (.int .u8 0), (.int .u8 0), (.int .u8 0), (.int .u8 0), (.int .u8 0), (.int .u8 0), (.int .u8 0), (.int .u8 0), (.int .u8 0), (.int .i64 0), (.int .i64 0), (.int .i64 0), (.int .i64 0), (.int .i64 0), (.int .i64 0), (.int .i64 0), (.int .i64 0), (.int .i64 0), (.int .i64 0), (.int .i64 0), (.int .i64 0), (.int .i64 0), (.int .i64 0), (.int .i64 0), (.int .i64 0), (.int .i64 0), (.int .i64 0), (.int .i64 0), (.int .i64 0), (.int .i64 0), (.int .i64 0), (.int .i64 0), (.int .i64 0), (.int .i64 0), (.int .i64 0), (.int .i64 0), (.int .i64 0), (.int .i64 0), (.int .i64 0), (.int .i64 0), (.int .i64 0), (.int .i64 0), (.int .i64 0), (.int .i64 0), (.int .i64 0), (.int .i64 0), (.int .i64 0), (.int .i64 0), (.int .i64 0), (.int .i64 0), (.int .i64 0), (.int .i64 0), (.int .i64 0), (.int .i64 0), (.int .i64 0), (.int .i64 0), (.int .i64 0), (.int .i64 0), (.int .i64 0), (.int .i64 0), (.int .i64 0), (.int .i64 0), (.int .i64 0), (.int .i64 0), (.int .i64 0), (.int .i64 0), (.int .i64 0), (.int .i64 0), (.int .i64 0), (.int .i64 0), (.int .i64 0), (.int .i64 0), (.int .i64 0), (.int .i64 0), (.int .i64 0), (.int .i64 0), (.int .i64 0), (.int .i64 0), (.int .i64 0), (.int .i64 0), (.int .i64 0), (.int .i64 0), (.int .i64 0), (.int .i64 0), (.int .i64 0), (.int .i64 0), (.int .i64 0), (.int .i64 0), (.int .i64 0), (.int .i64 0), (.int .i64 0), (.int .i64 0), (.int .i64 0), (.int .i64 0), (.int .i64 0), (.int .i64 0), (.int .i64 0), (.int .i64 0), (.int .i64 0), (.int .i64 0), (.int .i64 0), (.int .i64 0), (.int .i64 0), (.int .i64 0), (.int .i64 0), (.int .i64 0), (.int .i64 0), (.int .i64 0), (.int .i64 0), (.int .i64 0), (.int .i64 0), (.int .i64 0), (.int .i64 0), (.int .i64 0), (.int .i64 0), (.int .i64 0), (.int .i64 0), (.int .i64 0), (.int .i64 0), (.int .i64 0), (.int .i64 0), (.int .i64 0), (.int .i64 0), (.int .i64 0), (.int .i64 0), (.int .i64 0), (.int .i64 0), (.int .i64 0), (.int .i64 0), (.int .i64 0), (.int .i64 0), (.int .i64 0), (.int .i64 0), (.int .i64 0), (.int .i64 0), (.int .i64 0), (.int .i64 0), (.int .i64 0), (.int .i64 0), (.int .i64 0), (.int .i64 0), (.int .i64 0), (.int .i64 0), (.int .i64 0), (.int .i64 0), (.int .i64 0), (.int .i64 0), (.int .i64 0), (.int .i64 0), (.int .i64 0), (.int .i64 0), (.int .i64 0), (.int .i64 0), (.int .i64 0), (.int .i64 0), (.int .i64 0), (.int .i64 0), (.int .i64 0), (.int .i64 0), (.int .i64 0), (.int .i64 0), (.int .i64 0), (.int .i64 0), (.int .i64 0), (.int .i64 0), (.int .i64 0), (.int .i64 0), (.int .i64 0), (.int .i64 0), (.int .i64 0), (.int .i64 0), (.int .i64 0), (.int .i64 0), (.int .i64 0), (.int .i64 0), (.int .i64 0), (.int .i64 0), (.int .i64 0), (.int .i64 0), (.int .i64 0), (.int .i64 0), (.int .i64 0), (.int .i64 0), (.int .i64 0), (.int .i64 0), (.int .i64 0), (.int .i64 0), (.int .i64 0), (.int .i64 0), (.int .i64 0), (.int .i64 0), (.int .i64 0), (.int .i64 0), (.int .i64 0), (.int .i64 0), (.int .i64 0), (.int .i64 0), (.int .i64 0), (.int .i64 0), (.int .i64 0), (.int .i64 0), (.int .i64 0), (.int .i64 0), (.int .i64 0), (.int .i64 0), (.int .i64 0), (.int .i64 0), (.int .i64 0), (.int .i64 0), (.int .i64 0), (.int .i64 0), (.int .i64 0), (.int .i64 0), (.int .i64 0), (.int .i64 0), (.int .i64 0), (.int .i64 0), (.int .i64 0), (.int .i64 0), (.int .i64 0), (.int .i64 0), (.int .i64 0), (.int .i64 0), (.int .i64 0), (.int .i64 0), (.int .i64 0), (.int .i64 0), (.int .i64 0), (.int .i64 0), (.int .i64 0), (.int .i64 0), (.int .i64 0), (.int .i64 0), (.int .i64 0), (.int .i64 0), (.int .i64 0), (.int .i64 0), (.int .i64 0), (.int .i64 0), (.int .i64 0), (.int .i64 0), (.int .i64 0), (.int .i64 0), (.int .i64 0), (.int .i64 0), (.int .i64 0), (.int .i64 0), (.int .i64 0), (.int .i64 0), (.int .i64 0), (.int .i64 0), (.int .i64 0), (.int .i64 0), (.int .i64 0), (.int .i64 0), (.int .i64 0), (.int .i64 0), (.int .i64 0), (.int .i64 0), (.int .i64 0), (.int .i64 0), (.int .i64 0), (.int .i64 0), (.int .i64 0), (.int .i64 0)] []) [] (cs sG4 sF0) (
  oW1 (boxT 766) (cg gG4 gF0) (cs sG5 sF0) (
  oW0 (allocT [.nilp]) (cs sG1 sF0) (
  oW2 (storeT 1) (cg gG1 gF0) (cg gG5 gF0) s0 (
  eO))))))
 (cS (cS (cO (oF fn166 [] (cs sG6 sF0) (
  eO)))
 (cB 0 (cRg tabv3 (cg gG6 gF0) [7, 8] (.seq (.ops [ROp.mk (some 2) none (.p (.mv (.t 7)))])
 (.ops [ROp.mk (some 3) none (.p (.mv (.t 8)))])) (.block 1 (.seq (.draw [(ROp.mk (some 9) none (.d (.load 1 false (.t 1))), .r 0 0),
   (ROp.mk (some 10) none (.p (.mv (.t 2))), .p),
   (ROp.mk (some 11) none (.d (.load 1 false (.t 1))), .r 0 1),
   (ROp.mk (some 12) none (.p (.mv (.t 2))), .p),
   (ROp.mk (some 13) none (.p (.arith .add (.t 12) (.c (.int .i64 255)))), .p),
   (ROp.mk (some 14) none (.p (.mv (.t 3))), .p),
   (ROp.mk (some 15) none (.p (.mv (.t 3))), .p),
   (ROp.mk (some 16) none (.p (.nchk (.t 9))), .p),
   (ROp.mk (some 17) none (.p (.fad 0 (.t 16))), .p),
   (ROp.mk (some 18) none (.p (.iaA 510 1 (.t 17) (.t 10))), .p),
   (ROp.mk none none (.w (.store 1 (.t 18) (.t 14))), .w),
   (ROp.mk (some 19) none (.p (.nchk (.t 11))), .p),
   (ROp.mk (some 20) none (.p (.fad 0 (.t 19))), .p),
   (ROp.mk (some 21) none (.p (.iaA 510 1 (.t 20) (.t 13))), .p),
   (ROp.mk none none (.w (.store 1 (.t 21) (.t 15))), .w)] [])
  (.ops [ROp.mk (some 22) none (.d (.load 1 false (.t 1))),
   ROp.mk (some 23) none (.p (.mv (.t 3))),
   ROp.mk (some 24) none (.p (.mv (.t 2))),
   ROp.mk (some 25) none (.p (.nchk (.t 22))),
   ROp.mk (some 26) none (.p (.fad 510 (.t 25))),
   ROp.mk (some 27) none (.p (.iaA 256 1 (.t 26) (.t 23))),
   ROp.mk none none (.w (.store 1 (.t 27) (.t 24)))]))))))
 (cS (cO (oD ld1T (cg gG1 gF0) (cs sG12 sF1) (
  oM (cg gG12 gF1) (cs sG0 sF0) (
  eO))))
 (cR))))
def fn74 : Fc := fnT [] (r1 (cg gG0 gF0)) co74
theorem se74 : FnS E 74 fn74 := fnOk (gv := gvT) (tab := asc [(166, fn166)]) (tabv := tabv3) (yl := ylv) (q := 0) (rf := rf74) (fun _ => rfl) (asc_cons se166 asc_nil) htabv3 hylv (by kernel_rfl) (by kernel_rfl) (by kernel_rfl)
def co168 : Cd := cS (cO (oM (gC .nilp) (cs sG2 sF0) (
  eO)))
 (cS (cO (oN (buildT [.nils, (.int .i64 0), (.bool false), (.int .i64 0)] [(1, 1)]) [(gC (.int .i64 (-1)))] (cs sG4 sF0) (
  oW1 (boxT 4) (cg gG4 gF0) (cs sG5 sF0) (
  oM (cg gG5 gF0) (cs sG3 sF0) (
  eO)))))
 (cS (cS (cO (oM (cg gG0 gF0) (cs sG6 sF0) (
  oN maxT [(cg gG6 gF0), (gC (.int .i64 0))] (cs sG7 sF0) (
  oN minT [(cg gG7 gF0), (gC (.int .i64 2048))] (cs sG8 sF0) (
  oM (gC (.int .i64 0)) (cs sG9 sF0) (
  eO))))))
 (cB 0 (cL (cS (cO (o2 (arithK .lss) (cg gG9 gF0) (cg gG8 gF0) (cs sG10 sF0) (
  eO)))
 (cS (cC (cg gG10 gF0) (cSk)
 (cE 0))
 (cS (cB 1 (cD [] [iP (oM (cg gG3 gF0) (cs sG11 sF0) (eO)),
  iP (oM (cg gG3 gF0) (cs sG12 sF0) (eO)),
  iP (o1 nchkT (cg gG12 gF0) (cs sG13 sF0) (eO)),
  iP (o1 (fadT 0) (cg gG13 gF0) (cs sG14 sF0) (eO)),
  iR 0 1 (rd1 ld1T (cg gG14 gF0)) (cs sG15 sF0),
  iW (oW2 (mksT [(.int .u8 0)] 1 1) (gC (.int .i64 32)) (gC (.int .i64 32)) (cs sG0 sF1) (eO)),
  iP (oN (mklT [.nils] 1 1 [(0, 1)]) [(cg gG0 gF1)] (cs sG1 sF1) (eO)),
  iW (oW2 (appT 1 24) (cg gG15 gF0) (cg gG1 gF1) (cs sG2 sF1) (eO)),
  iP (o1 nchkT (cg gG11 gF0) (cs sG3 sF1) (eO)),
  iP (o1 (fadT 0) (cg gG3 gF1) (cs sG4 sF1) (eO)),
  iW (oW2 (storeT 1) (cg gG4 gF1) (cg gG2 gF1) s0 (eO))]))
 (cO (o2 (arithK .add) (cg gG9 gF0) (gC (.int .i64 1)) (cs sG5 sF1) (
  oM (cg gG5 gF1) (cs sG9 sF0) (
  eO))))))))))
 (cS (cO (oM (cg gG3 gF0) (cs sG6 sF1) (
  oM (cg gG6 gF1) (cs sG2 sF0) (
  eO))))
 (cR))))
def fn168 : Fc := fnT [(cs sG0 sF0)] (r1 (cg gG2 gF0)) co168
theorem se168 : FnS E 168 fn168 := fnOk (gv := gvT) (tab := asc []) (tabv := tabv3) (yl := ylv) (q := 1) (rf := rf168) (fun _ => rfl) asc_nil htabv3 hylv (by kernel_rfl) (by kernel_rfl) (by kernel_rfl)
def co83 : Cd := cS (cO (oM (gC .nilp) (cs sG2 sF0) (
  eO)))
 (cS (cO (oM (cg gG0 gF0) (cs sG3 sF0) (
  oN maxT [(cg gG3 gF0), (gC (.int .i64 0))] (cs sG4 sF0) (
  oN minT [(cg gG4 gF0), (gC (.int .i64 512))] (cs sG5 sF0) (
  oM (cg gG5 gF0) (cs sG0 sF0) (
  eO))))))
 (cS (cO (oM (cg gG0 gF0) (cs sG6 sF0) (
  o2 (arithK .mul) (gC (.int .i64 2)) (cg gG6 gF0) (cs sG7 sF0) (
  o2 (arithK .add) (gC (.int .i64 1)) (cg gG7 gF0) (cs sG8 sF0) (
  oF fn168 [(cg gG8 gF0)] (cs sG9 sF0) (
  oM (cg gG0 gF0) (cs sG10 sF0) (
  oN (buildT [.nilp, (.int .i64 0)] [(0, 1), (1, 1)]) [(cg gG9 gF0), (cg gG10 gF0)] (cs sG11 sF0) (
  oW1 (boxT 2) (cg gG11 gF0) (cs sG12 sF0) (
  oM (cg gG12 gF0) (cs sG2 sF0) (
  eO))))))))))
 (cR)))
def fn83 : Fc := fnT [(cs sG0 sF0)] (r1 (cg gG2 gF0)) co83
theorem se83 : FnS E 83 fn83 := fnOk (gv := gvT) (tab := asc [(168, fn168)]) (tabv := tabv3) (yl := ylv) (q := 1) (rf := rf83) (fun _ => rfl) (asc_cons se168 asc_nil) htabv3 hylv (by kernel_rfl) (by kernel_rfl) (by kernel_rfl)
def co84 : Cd := cS (cO (oM (gC .nilp) (cs sG0 sF0) (
  eO)))
 (cS (cO (oN (buildT [.nils, (.int .i64 0)] []) [] (cs sG1 sF0) (
  oW1 (boxT 2) (cg gG1 gF0) (cs sG2 sF0) (
  oM (cg gG2 gF0) (cs sG0 sF0) (
  eO)))))
 (cR))
def fn84 : Fc := fnT [] (r1 (cg gG0 gF0)) co84
theorem se84 : FnS E 84 fn84 := fnOk (gv := gvT) (tab := asc []) (tabv := tabv3) (yl := ylv) (q := 0) (rf := rf84) (fun _ => rfl) asc_nil htabv3 hylv (by kernel_rfl) (by kernel_rfl) (by kernel_rfl)
def co37 : Cd := cS (cO (oW1 (boxT 5) (cg gG0 gF0) (cs sG2 sF0) (
  oM (gC .nilp) (cs sG4 sF0) (
  eO))))
 (cS (cD [] [iR 0 3 (rd1 (ldT 5 true) (cg gG2 gF0)) (cs sG5 sF0),
  iP (oM (cg gG1 gF0) (cs sG6 sF0) (eO)),
  iW (oF fn74 [] (cs sG7 sF0) (eO)),
  iP (o1 (fadT 4) (cg gG2 gF0) (cs sG8 sF0) (eO)),
  iR 0 1 (rd1 ld1T (cg gG8 gF0)) (cs sG9 sF0),
  iW (oF fn83 [(cg gG9 gF0)] (cs sG10 sF0) (eO)),
  iW (oF fn84 [] (cs sG11 sF0) (eO)),
  iP (oN (buildT [(.int .i64 0), (.int .i64 0), (.int .i64 0), (.int .i64 0), (.int .i64 0), (.int .i64 0), .nilp, .nilp, .nilp, (.bool false), (.int .i64 0), (.int .i64 0), (.int .i64 0), .nils, .nils, .nilm, .nilm] [(0, 5), (5, 1), (6, 1), (7, 1), (8, 1)]) [(cg gG5 gF0), (cg gG6 gF0), (cg gG7 gF0), (cg gG10 gF0), (cg gG11 gF0)] (cs sG12 sF0) (eO)),
  iW (oW1 (boxT 17) (cg gG12 gF0) (cs sG13 sF0) (eO)),
  iP (oM (cg gG13 gF0) (cs sG4 sF0) (eO))])
 (cR))
def fn37 : Fc := fnT [(cs sG0 sF0), (cs sG1 sF0)] (r1 (cg gG4 gF0)) co37
theorem se37 : FnS E 37 fn37 := fnOk (gv := gvT) (tab := asc [(74, fn74), (83, fn83), (84, fn84)]) (tabv := tabv3) (yl := ylv) (q := 2) (rf := rf37) (fun _ => rfl) (asc_cons se74 (asc_cons se83 (asc_cons se84 asc_nil))) htabv3 hylv (by kernel_rfl) (by kernel_rfl) (by kernel_rfl)
def co112 : Cd := cS (cO (oM (gC (.bool false)) (cs sG2 sF0) (
  eO)))
 (cS (cO (oM (cg gG0 gF0) (cs sG3 sF0) (
  o2 (eqT true .ptr) (cg gG3 gF0) (gC .nilp) (cs sG4 sF0) (
  oM (cg gG4 gF0) (cs sG5 sF0) (
  oG (cg gG5 gF0) true (cs sG6 sF0) (oM (cg gG0 gF0) (cs sG6 sF0) (eO)) (
  oG (cg gG5 gF0) true (cs sG7 sF0) (o1 nchkT (cg gG6 gF0) (cs sG7 sF0) (eO)) (
  oG (cg gG5 gF0) true (cs sG8 sF0) (o1 (fadT 2) (cg gG7 gF0) (cs sG8 sF0) (eO)) (
  oG (cg gG5 gF0) true (cs sG9 sF0) (oD ld1T (cg gG8 gF0) (cs sG9 sF0) (eO)) (
  o3 pickT (cg gG5 gF0) (cg gG9 gF0) (gC (.bool false)) (cs sG10 sF0) (
  oM (cg gG10 gF0) (cs sG2 sF0) (
  eO)))))))))))
 (cR))
def fn112 : Fc := fnT [(cs sG0 sF0)] (r1 (cg gG2 gF0)) co112
theorem se112 : FnS E 112 fn112 := fnOk (gv := gvT) (tab := asc []) (tabv := tabv3) (yl := ylv) (q := 1) (rf := rf112) (fun _ => rfl) asc_nil htabv3 hylv (by kernel_rfl) (by kernel_rfl) (by kernel_rfl)
def co44 : Cd := cS (cO (oM (gC (.bool false)) (cs sG2 sF0) (
  eO)))
 (cS (cO (oM (cg gG0 gF0) (cs sG3 sF0) (
  o2 (eqT true .ptr) (cg gG3 gF0) (gC .nilp) (cs sG4 sF0) (
  oM (cg gG4 gF0) (cs sG5 sF0) (
  oG (cg gG5 gF0) true (cs sG6 sF0) (oM (cg gG0 gF0) (cs sG6 sF0) (eO)) (
  oG (cg gG5 gF0) true (cs sG7 sF0) (o1 nchkT (cg gG6 gF0) (cs sG7 sF0) (eO)) (
  oG (cg gG5 gF0) true (cs sG8 sF0) (o1 (fadT 0) (cg gG7 gF0) (cs sG8 sF0) (eO)) (
  oG (cg gG5 gF0) true (cs sG9 sF0) (oD ld1T (cg gG8 gF0) (cs sG9 sF0) (eO)) (
  oG (cg gG5 gF0) true (cs sG10 sF0) (oF fn112 [(cg gG9 gF0)] (cs sG10 sF0) (eO)) (
  o3 pickT (cg gG5 gF0) (cg gG10 gF0) (gC (.bool false)) (cs sG11 sF0) (
  oM (cg gG11 gF0) (cs sG2 sF0) (
  eO))))))))))))
 (cR))
def fn44 : Fc := fnT [(cs sG0 sF0)] (r1 (cg gG2 gF0)) co44
theorem se44 : FnS E 44 fn44 := fnOk (gv := gvT) (tab := asc [(112, fn112)]) (tabv := tabv3) (yl := ylv) (q := 1) (rf := rf44) (fun _ => rfl) (asc_cons se112 asc_nil) htabv3 hylv (by kernel_rfl) (by kernel_rfl) (by kernel_rfl)
def co12 : Cd := cS (cO (oM (gC (.bool false)) (cs sG2 sF0) (
  eO)))
 (cS (cO (oM (cg gG0 gF0) (cs sG3 sF0) (
  o2 (eqT true .ptr) (cg gG3 gF0) (gC .nilp) (cs sG4 sF0) (
  oM (cg gG4 gF0) (cs sG5 sF0) (
  oG (cg gG5 gF0) true (cs sG6 sF0) (oM (cg gG0 gF0) (cs sG6 sF0) (eO)) (
  oG (cg gG5 gF0) true (cs sG7 sF0) (o1 nchkT (cg gG6 gF0) (cs sG7 sF0) (eO)) (
  oG (cg gG5 gF0) true (cs sG8 sF0) (o1 (fadT 9) (cg gG7 gF0) (cs sG8 sF0) (eO)) (
  oG (cg gG5 gF0) true (cs sG9 sF0) (oD ld1T (cg gG8 gF0) (cs sG9 sF0) (eO)) (
  oG (cg gG5 gF0) true (cs sG10 sF0) (oM (cg gG9 gF0) (cs sG10 sF0) (eO)) (
  oG (cg gG10 gF0) false (cs sG11 sF0) (oM (cg gG0 gF0) (cs sG11 sF0) (eO)) (
  oG (cg gG10 gF0) false (cs sG12 sF0) (o1 nchkT (cg gG11 gF0) (cs sG12 sF0) (eO)) (
  oG (cg gG10 gF0) false (cs sG13 sF0) (o1 (fadT 7) (cg gG12 gF0) (cs sG13 sF0) (eO)) (
  oG (cg gG10 gF0) false (cs sG14 sF0) (oD ld1T (cg gG13 gF0) (cs sG14 sF0) (eO)) (
  oG (cg gG10 gF0) false (cs sG15 sF0) (oF fn44 [(cg gG14 gF0)] (cs sG15 sF0) (eO)) (
  oG (cg gG5 gF0) true (cs sG0 sF1) (o3 pickT (cg gG10 gF0) (gC (.bool true)) (cg gG15 gF0) (cs sG0 sF1) (eO)) (
  o3 pickT (cg gG5 gF0) (cg gG0 gF1) (gC (.bool false)) (cs sG1 sF1) (
  oM (cg gG1 gF1) (cs sG2 sF0) (
  eO))))))))))))))))))
 (cR))
def fn12 : Fc := fnT [(cs sG0 sF0)] (r1 (cg gG2 gF0)) co12
theorem se12 : FnS E 12 fn12 := fnOk (gv := gvT) (tab := asc [(44, fn44)]) (tabv := tabv3) (yl := ylv) (q := 1) (rf := rf12) (fun _ => rfl) (asc_cons se44 asc_nil) htabv3 hylv (by kernel_rfl) (by kernel_rfl) (by kernel_rfl)
def co122 : Cd := cS (cO (oM (gC .nils) (cs sG4 sF0) (
  oM (gC (.bool false)) (cs sG5 sF0) (
  eO))))
 (cS (cS (cO (oM (cg gG0 gF0) (cs sG6 sF0) (
  oM (cg gG1 gF0) (cs sG7 sF0) (
  oF fn167 [(cg gG6 gF0), (cg gG7 gF0)] (cs sG8 sF0) (
  o1 (unT .not) (cg gG8 gF0) (cs sG9 sF0) (
  eO))))))
 (cC (cg gG9 gF0) (cS (cO (oM (gC .nils) (cs sG4 sF0) (
  oM (gC (.bool false)) (cs sG5 sF0) (
  eO))))
 (cR))
 (cSk)))
 (cS (cO (oM (cg gG0 gF0) (cs sG10 sF0) (
  o1 nchkT (cg gG10 gF0) (cs sG11 sF0) (
  o1 (fadT 0) (cg gG11 gF0) (cs sG12 sF0) (
  oD ld1T (cg gG12 gF0) (cs sG13 sF0) (
  oM (cg gG1 gF0) (cs sG14 sF0) (
  o2 (iaLT 1) (cg gG13 gF0) (cg gG14 gF0) (cs sG15 sF0) (
  oD ld1T (cg gG15 gF0) (cs sG0 sF1) (
  oF fn88 [(cg gG0 gF1)] (cs sG1 sF1) (
  oM (cg gG1 gF1) (cs sG4 sF0) (
  oM (gC (.bool true)) (cs sG5 sF0) (
  eO))))))))))))
 (cR)))
def fn122 : Fc := fnT [(cs sG0 sF0), (cs sG1 sF0)] (rN [rT (cg gG4 gF0), rT (cg gG5 gF0)]) co122
theorem se122 : FnS E 122 fn122 := fnOk (gv := gvT) (tab := asc [(167, fn167), (88, fn88)]) (tabv := tabv3) (yl := ylv) (q := 2) (rf := rf122) (fun _ => rfl) (asc_cons se167 (asc_cons se88 asc_nil)) htabv3 hylv (by kernel_rfl) (by kernel_rfl) (by kernel_rfl)
def co78 : Cd := cS (cO (oW0 (allocT [(.int .i64 0), (.int .i64 0)]) (cs sG2 sF0) (
  eO)))
 (cS (cO (oM (cg gG0 gF0) (cs sG6 sF0) (
  o1 nchkT (cg gG6 gF0) (cs sG7 sF0) (
  o1 (fadT 0) (cg gG7 gF0) (cs sG8 sF0) (
  oD ld1T (cg gG8 gF0) (cs sG9 sF0) (
  oF fn122 [(cg gG9 gF0), (gC (.int .i64 0))] (cs sG10 sF0) (
  oM (cg gG10 gF0) (cs sG5 sF0) (
  o1 (extT 0) (cg gG5 gF0) (cs sG11 sF0) (
  o1 (extT 1) (cg gG5 gF0) (cs sG12 sF0) (
  oM (cg gG11 gF0) (cs sG3 sF0) (
  oM (cg gG12 gF0) (cs sG4 sF0) (
  eO))))))))))))
 (cS (cD [] [iP (oM (cg gG3 gF0) (cs sG13 sF0) (eO)),
  iP (o2 (iaLT 1) (cg gG13 gF0) (gC (.int .i64 0)) (cs sG14 sF0) (eO)),
  iP (oD ld1T (cg gG14 gF0) (cs sG15 sF0) (eO)),
  iP (o1 (toIntT .i64) (cg gG15 gF0) (cs sG0 sF1) (eO)),
  iP (oM (cg gG3 gF0) (cs sG1 sF1) (eO)),
  iP (o2 (iaLT 1) (cg gG1 gF1) (gC (.int .i64 1)) (cs sG2 sF1) (eO)),
  iP (oD ld1T (cg gG2 gF1) (cs sG3 sF1) (eO)),
  iP (o1 (toIntT .i64) (cg gG3 gF1) (cs sG4 sF1) (eO)),
  iP (o2 (arithK .shl) (cg gG4 gF1) (gC (.int .u64 24)) (cs sG5 sF1) (eO)),
  iP (oM (cg gG3 gF0) (cs sG6 sF1) (eO)),
  iP (o2 (iaLT 1) (cg gG6 gF1) (gC (.int .i64 2)) (cs sG7 sF1) (eO)),
  iP (oD ld1T (cg gG7 gF1) (cs sG8 sF1) (eO)),
  iP (o1 (toIntT .i64) (cg gG8 gF1) (cs sG9 sF1) (eO)),
  iP (o2 (arithK .shl) (cg gG9 gF1) (gC (.int .u64 16)) (cs sG10 sF1) (eO)),
  iP (o2 (arithK .or) (cg gG5 gF1) (cg gG10 gF1) (cs sG11 sF1) (eO)),
  iP (oM (cg gG3 gF0) (cs sG12 sF1) (eO)),
  iP (o2 (iaLT 1) (cg gG12 gF1) (gC (.int .i64 3)) (cs sG13 sF1) (eO)),
  iP (oD ld1T (cg gG13 gF1) (cs sG14 sF1) (eO)),
  iP (o1 (toIntT .i64) (cg gG14 gF1) (cs sG15 sF1) (eO)),
  iP (o2 (arithK .shl) (cg gG15 gF1) (gC (.int .u64 8)) (cs sG0 sF2) (eO)),
  iP (o2 (arithK .or) (cg gG11 gF1) (cg gG0 gF2) (cs sG1 sF2) (eO)),
  iP (oM (cg gG3 gF0) (cs sG2 sF2) (eO)),
  iP (o2 (iaLT 1) (cg gG2 gF2) (gC (.int .i64 4)) (cs sG3 sF2) (eO)),
  iP (oD ld1T (cg gG3 gF2) (cs sG4 sF2) (eO)),
  iP (o1 (toIntT .i64) (cg gG4 gF2) (cs sG5 sF2) (eO)),
  iP (o2 (arithK .or) (cg gG1 gF2) (cg gG5 gF2) (cs sG6 sF2) (eO)),
  iP (oN (buildT [(.int .i64 0), (.int .i64 0)] [(0, 1), (1, 1)]) [(cg gG0 gF1), (cg gG6 gF2)] (cs sG7 sF2) (eO)),
  iW (oW2 (storeT 2) (cg gG2 gF0) (cg gG7 gF2) s0 (eO))])
 (cR)))
def fn78 : Fc := fnT [(cs sG0 sF0)] (rN [rC (cg gG2 gF0) 2 true]) co78
theorem se78 : FnS E 78 fn78 := fnOk (gv := gvT) (tab := asc [(122, fn122)]) (tabv := tabv3) (yl := ylv) (q := 1) (rf := rf78) (fun _ => rfl) (asc_cons se122 asc_nil) htabv3 hylv (by kernel_rfl) (by kernel_rfl) (by kernel_rfl)
def co47 : Cd := cS (cO (oM (gC .nils) (cs sG2 sF0) (
  eO)))
 (cS (cS (cO (oM (cg gG0 gF0) (cs sG8 sF0) (
  o2 (eqT false .ptr) (cg gG8 gF0) (gC .nilp) (cs sG9 sF0) (
  eO))))
 (cC (cg gG9 gF0) (cS (cO (oM (gC .nils) (cs sG2 sF0) (
  eO)))
 (cR))
 (cSk)))
 (cS (cO (oM (cg gG0 gF0) (cs sG10 sF0) (
  oF fn78 [(cg gG10 gF0)] (cs sG11 sF0) (
  oW0 (allocT [(.int .i64 0), (.int .i64 0)]) (cs sG3 sF0) (
  oW2 (storeT 2) (cg gG3 gF0) (cg gG11 gF0) s0 (
  eO))))))
 (cS (cS (cO (oD (ldT 2 true) (cg gG3 gF0) (cs sG12 sF0) (
  oN (buildT [(.int .i64 0), (.int .i64 0)] []) [] (cs sG13 sF0) (
  o2 (eqT false (.agg [0, 0])) (cg gG12 gF0) (cg gG13 gF0) (cs sG14 sF0) (
  eO)))))
 (cC (cg gG14 gF0) (cS (cO (oM (gC .nils) (cs sG2 sF0) (
  eO)))
 (cR))
 (cSk)))
 (cS (cO (o1 (fadT 1) (cg gG3 gF0) (cs sG15 sF0) (
  oD ld1T (cg gG15 gF0) (cs sG0 sF1) (
  oW2 (mksT [(.int .u8 0)] 1 1) (gC (.int .i64 0)) (cg gG0 gF1) (cs sG1 sF1) (
  oM (cg gG1 gF1) (cs sG4 sF0) (
  eO))))))
 (cS (cS (cO (o1 (fadT 1) (cg gG3 gF0) (cs sG2 sF1) (
  oD ld1T (cg gG2 gF1) (cs sG3 sF1) (
  oF fn121 [(cg gG3 gF1)] (cs sG4 sF1) (
  oM (gC (.int .i64 0)) (cs sG5 sF1) (
  eO))))))
 (cB 0 (cL (cS (cO (o2 (arithK .lss) (cg gG5 gF1) (cg gG4 gF1) (cs sG6 sF1) (
  eO)))
 (cS (cC (cg gG6 gF1) (cSk)
 (cE 0))
 (cS (cB 1 (cS (cO (oM (cg gG5 gF1) (cs sG7 sF1) (
  oM (cg gG7 gF1) (cs sG5 sF0) (
  eO))))
 (cS (cD [] [iP (oM (cg gG0 gF0) (cs sG9 sF1) (eO)),
  iP (o1 nchkT (cg gG9 gF1) (cs sG10 sF1) (eO)),
  iP (o1 (fadT 0) (cg gG10 gF1) (cs sG11 sF1) (eO)),
  iR 0 1 (rd1 ld1T (cg gG11 gF1)) (cs sG12 sF1),
  iP (oM (cg gG0 gF0) (cs sG13 sF1) (eO)),
  iP (o1 (fadT 0) (cg gG3 gF0) (cs sG14 sF1) (eO)),
  iP (oD ld1T (cg gG14 gF1) (cs sG15 sF1) (eO)),
  iP (oM (cg gG5 gF0) (cs sG0 sF2) (eO)),
  iW (oF fn79 [(cg gG13 gF1), (cg gG15 gF1), (cg gG0 gF2)] (cs sG1 sF2) (eO)),
  iW (oF fn122 [(cg gG12 gF1), (cg gG1 gF2)] (cs sG2 sF2) (eO)),
  iP (oM (cg gG2 gF2) (cs sG8 sF1) (eO)),
  iP (o1 (extT 0) (cg gG8 gF1) (cs sG3 sF2) (eO)),
  iP (o1 (extT 1) (cg gG8 gF1) (cs sG4 sF2) (eO)),
  iP (oM (cg gG3 gF2) (cs sG6 sF0) (eO)),
  iP (oM (cg gG4 gF2) (cs sG7 sF0) (eO))])
 (cO (oM (cg gG4 gF0) (cs sG5 sF2) (
  oM (cg gG6 gF0) (cs sG6 sF2) (
  oW2 (appT 1 1) (cg gG5 gF2) (cg gG6 gF2) (cs sG7 sF2) (
  oM (cg gG7 gF2) (cs sG4 sF0) (
  eO)))))))))
 (cO (o2 (arithK .add) (cg gG5 gF1) (gC (.int .i64 1)) (cs sG8 sF2) (
  oM (cg gG8 gF2) (cs sG5 sF1) (
  eO))))))))))
 (cS (cO (oM (cg gG4 gF0) (cs sG9 sF2) (
  o1 (fadT 1) (cg gG3 gF0) (cs sG10 sF2) (
  oD ld1T (cg gG10 gF2) (cs sG11 sF2) (
  o1 (fadT 1) (cg gG3 gF0) (cs sG12 sF2) (
  oD ld1T (cg gG12 gF2) (cs sG13 sF2) (
  oN (slL4T false 1) [(cg gG9 gF2), (gC .nili), (cg gG11 gF2), (cg gG13 gF2)] (cs sG14 sF2) (
  oM (cg gG14 gF2) (cs sG2 sF0) (
  eO)))))))))
 (cR)))))))
def fn47 : Fc := fnT [(cs sG0 sF0)] (r1 (cg gG2 gF0)) co47
theorem se47 : FnS E 47 fn47 := fnOk (gv := gvT) (tab := asc [(78, fn78), (121, fn121), (79, fn79), (122, fn122)]) (tabv := tabv3) (yl := ylv) (q := 1) (rf := rf47) (fun _ => rfl) (asc_cons se78 (asc_cons se121 (asc_cons se79 (asc_cons se122 asc_nil)))) htabv3 hylv (by kernel_rfl) (by kernel_rfl) (by kernel_rfl)
def co115 : Cd := cS (cO (oM (gC .nilp) (cs sG2 sF0) (
  eO)))
 (cS (cO (oM (cg gG0 gF0) (cs sG3 sF0) (
  oF fn88 [(cg gG3 gF0)] (cs sG4 sF0) (
  oN (buildT [.nils, (.bool false)] [(0, 1)]) [(cg gG4 gF0)] (cs sG5 sF0) (
  oW1 (boxT 2) (cg gG5 gF0) (cs sG6 sF0) (
  oM (cg gG6 gF0) (cs sG2 sF0) (
  eO)))))))
 (cR))
def fn115 : Fc := fnT [(cs sG0 sF0)] (r1 (cg gG2 gF0)) co115
theorem se115 : FnS E 115 fn115 := fnOk (gv := gvT) (tab := asc [(88, fn88)]) (tabv := tabv3) (yl := ylv) (q := 1) (rf := rf115) (fun _ => rfl) (asc_cons se88 asc_nil) htabv3 hylv (by kernel_rfl) (by kernel_rfl) (by kernel_rfl)
def co194 : Cd := cS (cO (oM (gC .nils) (cs sG4 sF0) (
  eO)))
 (cS (cS (cO (oM (cg gG0 gF0) (cs sG6 sF0) (
  o1 nchkT (cg gG6 gF0) (cs sG7 sF0) (
  o1 (fadT 1) (cg gG7 gF0) (cs sG8 sF0) (
  oD ld1T (cg gG8 gF0) (cs sG9 sF0) (
  oM (cg gG9 gF0) (cs sG10 sF0) (
  oG (cg gG10 gF0) false (cs sG11 sF0) (oM (cg gG1 gF0) (cs sG11 sF0) (eO)) (
  oG (cg gG10 gF0) false (cs sG12 sF0) (oM (cg gG0 gF0) (cs sG12 sF0) (eO)) (
  oG (cg gG10 gF0) false (cs sG13 sF0) (o1 nchkT (cg gG12 gF0) (cs sG13 sF0) (eO)) (
  oG (cg gG10 gF0) false (cs sG14 sF0) (o1 (fadT 0) (cg gG13 gF0) (cs sG14 sF0) (eO)) (
  oG (cg gG10 gF0) false (cs sG15 sF0) (oD ld1T (cg gG14 gF0) (cs sG15 sF0) (eO)) (
  oG (cg gG10 gF0) false (cs sG0 sF1) (o1 lenLT (cg gG15 gF0) (cs sG0 sF1) (eO)) (
  oG (cg gG10 gF0) false (cs sG1 sF1) (o2 (arithK .gtr) (cg gG11 gF0) (cg gG0 gF1) (cs sG1 sF1) (eO)) (
  o3 pickT (cg gG10 gF0) (gC (.bool true)) (cg gG1 gF1) (cs sG2 sF1) (
  eO)))))))))))))))
 (cC (cg gG2 gF1) (cS (cO (oM (cg gG0 gF0) (cs sG3 sF1) (
  o1 nchkT (cg gG3 gF1) (cs sG4 sF1) (
  o1 (fadT 1) (cg gG4 gF1) (cs sG5 sF1) (
  oW2 (storeT 1) (cg gG5 gF1) (gC (.bool true)) s0 (
  eO))))))
 (cS (cO (oM (gC .nils) (cs sG4 sF0) (
  eO)))
 (cR)))
 (cSk)))
 (cS (cO (oM (cg gG0 gF0) (cs sG6 sF1) (
  o1 nchkT (cg gG6 gF1) (cs sG7 sF1) (
  o1 (fadT 0) (cg gG7 gF1) (cs sG8 sF1) (
  oD ld1T (cg gG8 gF1) (cs sG9 sF1) (
  oM (cg gG1 gF0) (cs sG10 sF1) (
  oM (cg gG1 gF0) (cs sG11 sF1) (
  oN (slL4T false 1) [(cg gG9 gF1), (gC .nili), (cg gG10 gF1), (cg gG11 gF1)] (cs sG12 sF1) (
  oM (cg gG12 gF1) (cs sG5 sF0) (
  eO))))))))))
 (cS (cO (oM (cg gG0 gF0) (cs sG13 sF1) (
  oM (cg gG0 gF0) (cs sG14 sF1) (
  o1 nchkT (cg gG14 gF1) (cs sG15 sF1) (
  o1 (fadT 0) (cg gG15 gF1) (cs sG0 sF2) (
  oD ld1T (cg gG0 gF2) (cs sG1 sF2) (
  oM (cg gG1 gF0) (cs sG2 sF2) (
  o3 (slLT true false 1) (cg gG1 gF2) (cg gG2 gF2) (gC .nili) (cs sG3 sF2) (
  o1 nchkT (cg gG13 gF1) (cs sG4 sF2) (
  o1 (fadT 0) (cg gG4 gF2) (cs sG5 sF2) (
  oW2 (storeT 1) (cg gG5 gF2) (cg gG3 gF2) s0 (
  eO))))))))))))
 (cS (cO (oM (cg gG5 gF0) (cs sG6 sF2) (
  oM (cg gG6 gF2) (cs sG4 sF0) (
  eO))))
 (cR)))))
def fn194 : Fc := fnT [(cs sG0 sF0), (cs sG1 sF0)] (r1 (cg gG4 gF0)) co194
theorem se194 : FnS E 194 fn194 := fnOk (gv := gvT) (tab := asc []) (tabv := tabv3) (yl := ylv) (q := 2) (rf := rf194) (fun _ => rfl) asc_nil htabv3 hylv (by kernel_rfl) (by kernel_rfl) (by kernel_rfl)
def co116 : Cd := cS (cO (oM (gC (.int .i64 0)) (cs sG2 sF0) (
  eO)))
 (cS (cS (cO (oM (cg gG0 gF0) (cs sG4 sF0) (
  o2 (eqT false .ptr) (cg gG4 gF0) (gC .nilp) (cs sG5 sF0) (
  eO))))
 (cC (cg gG5 gF0) (cS (cO (oM (gC (.int .i64 0)) (cs sG2 sF0) (
  eO)))
 (cR))
 (cSk)))
 (cS (cO (oM (cg gG0 gF0) (cs sG6 sF0) (
  oF fn194 [(cg gG6 gF0), (gC (.int .i64 4))] (cs sG7 sF0) (
  oM (cg gG7 gF0) (cs sG3 sF0) (
  eO)))))
 (cS (cS (cO (oM (cg gG3 gF0) (cs sG8 sF0) (
  o2 (eqT false .slice) (cg gG8 gF0) (gC .nils) (cs sG9 sF0) (
  oM (cg gG9 gF0) (cs sG10 sF0) (
  oG (cg gG10 gF0) false (cs sG11 sF0) (oM (cg gG3 gF0) (cs sG11 sF0) (eO)) (
  oG (cg gG10 gF0) false (cs sG12 sF0) (o2 (iaLT 1) (cg gG11 gF0) (gC (.int .i64 0)) (cs sG12 sF0) (eO)) (
  oG (cg gG10 gF0) false (cs sG13 sF0) (oD ld1T (cg gG12 gF0) (cs sG13 sF0) (eO)) (
  oG (cg gG10 gF0) false (cs sG14 sF0) (o2 (arithK .geq) (cg gG13 gF0) (gC (.int .u8 128)) (cs sG14 sF0) (eO)) (
  o3 pickT (cg gG10 gF0) (gC (.bool true)) (cg gG14 gF0) (cs sG15 sF0) (
  eO))))))))))
 (cC (cg gG15 gF0) (cS (cO (oM (cg gG0 gF0) (cs sG0 sF1) (
  o1 nchkT (cg gG0 gF1) (cs sG1 sF1) (
  o1 (fadT 1) (cg gG1 gF1) (cs sG2 sF1) (
  oW2 (storeT 1) (cg gG2 gF1) (gC (.bool true)) s0 (
  eO))))))
 (cS (cO (oM (gC (.int .i64 0)) (cs sG2 sF0) (
  eO)))
 (cR)))
 (cSk)))
 (cS (cD [] [iP (oM (cg gG3 gF0) (cs sG3 sF1) (eO)),
  iP (o2 (iaLT 1) (cg gG3 gF1) (gC (.int .i64 0)) (cs sG4 sF1) (eO)),
  iP (oD ld1T (cg gG4 gF1) (cs sG5 sF1) (eO)),
  iP (o1 (toIntT .i64) (cg gG5 gF1) (cs sG6 sF1) (eO)),
  iP (o2 (arithK .shl) (cg gG6 gF1) (gC (.int .u64 24)) (cs sG7 sF1) (eO)),
  iP (oM (cg gG3 gF0) (cs sG8 sF1) (eO)),
  iP (o2 (iaLT 1) (cg gG8 gF1) (gC (.int .i64 1)) (cs sG9 sF1) (eO)),
  iP (oD ld1T (cg gG9 gF1) (cs sG10 sF1) (eO)),
  iP (o1 (toIntT .i64) (cg gG10 gF1) (cs sG11 sF1) (eO)),
  iP (o2 (arithK .shl) (cg gG11 gF1) (gC (.int .u64 16)) (cs sG12 sF1) (eO)),
  iP (o2 (arithK .add) (cg gG7 gF1) (cg gG12 gF1) (cs sG13 sF1) (eO)),
  iP (oM (cg gG3 gF0) (cs sG14 sF1) (eO)),
  iP (o2 (iaLT 1) (cg gG14 gF1) (gC (.int .i64 2)) (cs sG15 sF1) (eO)),
  iP (oD ld1T (cg gG15 gF1) (cs sG0 sF2) (eO)),
  iP (o1 (toIntT .i64) (cg gG0 gF2) (cs sG1 sF2) (eO)),
  iP (o2 (arithK .shl) (cg gG1 gF2) (gC (.int .u64 8)) (cs sG2 sF2) (eO)),
  iP (o2 (arithK .add) (cg gG13 gF1) (cg gG2 gF2) (cs sG3 sF2) (eO)),
  iP (oM (cg gG3 gF0) (cs sG4 sF2) (eO)),
  iP (o2 (iaLT 1) (cg gG4 gF2) (gC (.int .i64 3)) (cs sG5 sF2) (eO)),
  iP (oD ld1T (cg gG5 gF2) (cs sG6 sF2) (eO)),
  iP (o1 (toIntT .i64) (cg gG6 gF2) (cs sG7 sF2) (eO)),
  iP (o2 (arithK .add) (cg gG3 gF2) (cg gG7 gF2) (cs sG8 sF2) (eO)),
  iP (o2 (arithK .sub) (cg gG8 gF2) (gC (.int .i64 2)) (cs sG9 sF2) (eO)),
  iP (oM (cg gG9 gF2) (cs sG2 sF0) (eO))])
 (cR)))))
def fn116 : Fc := fnT [(cs sG0 sF0)] (r1 (cg gG2 gF0)) co116
theorem se116 : FnS E 116 fn116 := fnOk (gv := gvT) (tab := asc [(194, fn194)]) (tabv := tabv3) (yl := ylv) (q := 1) (rf := rf116) (fun _ => rfl) (asc_cons se194 asc_nil) htabv3 hylv (by kernel_rfl) (by kernel_rfl) (by kernel_rfl)
def co195 : Cd := cS (cO (oW1 (boxT 2) (cg gG0 gF0) (cs sG1 sF0) (
  oM (gC (.int .i64 0)) (cs sG2 sF0) (
  eO))))
 (cS (cO (o1 (fadT 0) (cg gG1 gF0) (cs sG4 sF0) (
  oD ld1T (cg gG4 gF0) (cs sG5 sF0) (
  oF fn116 [(cg gG5 gF0)] (cs sG6 sF0) (
  oM (cg gG6 gF0) (cs sG3 sF0) (
  eO))))))
 (cS (cS (cO (oM (cg gG3 gF0) (cs sG7 sF0) (
  o1 (fadT 1) (cg gG1 gF0) (cs sG8 sF0) (
  oD ld1T (cg gG8 gF0) (cs sG9 sF0) (
  o2 (arithK .gtr) (cg gG7 gF0) (cg gG9 gF0) (cs sG10 sF0) (
  eO))))))
 (cC (cg gG10 gF0) (cS (cO (oM (gC (.int .i64 0)) (cs sG2 sF0) (
  eO)))
 (cR))
 (cSk)))
 (cS (cO (oM (cg gG3 gF0) (cs sG11 sF0) (
  oN maxT [(cg gG11 gF0), (gC (.int .i64 0))] (cs sG12 sF0) (
  oM (cg gG12 gF0) (cs sG2 sF0) (
  eO)))))
 (cR))))
def fn195 : Fc := fnT [(cs sG0 sF0)] (r1 (cg gG2 gF0)) co195
theorem se195 : FnS E 195 fn195 := fnOk (gv := gvT) (tab := asc [(116, fn116)]) (tabv := tabv3) (yl := ylv) (q := 1) (rf := rf195) (fun _ => rfl) (asc_cons se116 asc_nil) htabv3 hylv (by kernel_rfl) (by kernel_rfl) (by kernel_rfl)
def co128 : Cd := cS (cO (oM (gC .nils) (cs sG2 sF0) (
  eO)))
 (cS (cO (oM (cg gG0 gF0) (cs sG3 sF0) (
  oM (cg gG0 gF0) (cs sG4 sF0) (
  o1 lenLT (cg gG4 gF0) (cs sG5 sF0) (
  oM (cg gG0 gF0) (cs sG6 sF0) (
  o1 lenLT (cg gG6 gF0) (cs sG7 sF0) (
  oN (slL4T false 1) [(cg gG3 gF0), (gC .nili), (cg gG5 gF0), (cg gG7 gF0)] (cs sG8 sF0) (
  oM (cg gG8 gF0) (cs sG2 sF0) (
  eO)))))))))
 (cR))
def fn128 : Fc := fnT [(cs sG0 sF0)] (r1 (cg gG2 gF0)) co128
theorem se128 : FnS E 128 fn128 := fnOk (gv := gvT) (tab := asc []) (tabv := tabv3) (yl := ylv) (q := 1) (rf := rf128) (fun _ => rfl) asc_nil htabv3 hylv (by kernel_rfl) (by kernel_rfl) (by kernel_rfl)
def co196 : Cd := cS (cO (oM (gC .nils) (cs sG2 sF0) (
  eO)))
 (cS (cS (cO (oM (cg gG0 gF0) (cs sG4 sF0) (
  o2 (eqT false .ptr) (cg gG4 gF0) (gC .nilp) (cs sG5 sF0) (
  eO))))
 (cC (cg gG5 gF0) (cS (cO (oM (gC .nils) (cs sG2 sF0) (
  eO)))
 (cR))
 (cSk)))
 (cS (cO (oM (cg gG0 gF0) (cs sG6 sF0) (
  oF fn194 [(cg gG6 gF0), (gC (.int .i64 2))] (cs sG7 sF0) (
  oM (cg gG7 gF0) (cs sG3 sF0) (
  eO)))))
 (cS (cS (cO (oM (cg gG3 gF0) (cs sG8 sF0) (
  o2 (eqT false .slice) (cg gG8 gF0) (gC .nils) (cs sG9 sF0) (
  eO))))
 (cC (cg gG9 gF0) (cS (cO (oM (gC .nils) (cs sG2 sF0) (
  eO)))
 (cR))
 (cSk)))
 (cS (cD [] [iP (oM (cg gG0 gF0) (cs sG10 sF0) (eO)),
  iP (oM (cg gG3 gF0) (cs sG11 sF0) (eO)),
  iP (o2 (iaLT 1) (cg gG11 gF0) (gC (.int .i64 0)) (cs sG12 sF0) (eO)),
  iP (oD ld1T (cg gG12 gF0) (cs sG13 sF0) (eO)),
  iP (o1 (toIntT .i64) (cg gG13 gF0) (cs sG14 sF0) (eO)),
  iP (o2 (arithK .shl) (cg gG14 gF0) (gC (.int .u64 8)) (cs sG15 sF0) (eO)),
  iP (oM (cg gG3 gF0) (cs sG0 sF1) (eO)),
  iP (o2 (iaLT 1) (cg gG0 gF1) (gC (.int .i64 1)) (cs sG1 sF1) (eO)),
  iP (oD ld1T (cg gG1 gF1) (cs sG2 sF1) (eO)),
  iP (o1 (toIntT .i64) (cg gG2 gF1) (cs sG3 sF1) (eO)),
  iP (o2 (arithK .add) (cg gG15 gF0) (cg gG3 gF1) (cs sG4 sF1) (eO)),
  iW (oF fn194 [(cg gG10 gF0), (cg gG4 gF1)] (cs sG5 sF1) (eO)),
  iW (oF fn88 [(cg gG5 gF1)] (cs sG6 sF1) (eO)),
  iW (oF fn128 [(cg gG6 gF1)] (cs sG7 sF1) (eO)),
  iP (oM (cg gG7 gF1) (cs sG2 sF0) (eO))])
 (cR)))))
def fn196 : Fc := fnT [(cs sG0 sF0)] (r1 (cg gG2 gF0)) co196
theorem se196 : FnS E 196 fn196 := fnOk (gv := gvT) (tab := asc [(194, fn194), (88, fn88), (128, fn128)]) (tabv := tabv3) (yl := ylv) (q := 1) (rf := rf196) (fun _ => rfl) (asc_cons se194 (asc_cons se88 (asc_cons se128 asc_nil))) htabv3 hylv (by kernel_rfl) (by kernel_rfl) (by kernel_rfl)
def co117 : Cd := cS (cO (oW1 (boxT 2) (cg gG0 gF0) (cs sG1 sF0) (
  oM (gC .nils) (cs sG2 sF0) (
  eO))))
 (cS (cO (oM (gC .nils) (cs sG3 sF0) (
  eO)))
 (cS (cS (cO (oD (ldT 2 true) (cg gG1 gF0) (cs sG5 sF0) (
  oF fn195 [(cg gG5 gF0)] (cs sG6 sF0) (
  oM (gC (.int .i64 0)) (cs sG7 sF0) (
  eO)))))
 (cB 0 (cL (cS (cO (o2 (arithK .lss) (cg gG7 gF0) (cg gG6 gF0) (cs sG8 sF0) (
  eO)))
 (cS (cC (cg gG8 gF0) (cSk)
 (cE 0))
 (cS (cB 1 (cS (cD [[(.str []), (.int .i64 0), .nils, .nils]] [iP (o1 (fadT 0) (cg gG1 gF0) (cs sG9 sF0) (eO)),
  iP (oD ld1T (cg gG9 gF0) (cs sG10 sF0) (eO)),
  iW (oF fn196 [(cg gG10 gF0)] (cs sG11 sF0) (eO)),
  iR 1 2 (rd1 b2sT (cg gG11 gF0)) (cs sG12 sF0),
  iP (o1 (fadT 0) (cg gG1 gF0) (cs sG13 sF0) (eO)),
  iR 0 1 (rd1 ld1T (cg gG13 gF0)) (cs sG14 sF0),
  iW (oF fn116 [(cg gG14 gF0)] (cs sG15 sF0) (eO)),
  iP (oN (buildT [(.str []), (.int .i64 0), .nils, .nils] [(0, 1), (1, 1)]) [(cg gG12 gF0), (cg gG15 gF0)] (cs sG0 sF1) (eO)),
  iA 0 0 2 [(.str []), (.int .i64 0), .nils, .nils] (cs sG4 sF0),
  iW (oW2 (storeT 4) (cg gG4 gF0) (cg gG0 gF1) s0 (eO))])
 (cS (cO (o1 (fadT 0) (cg gG1 gF0) (cs sG1 sF1) (
  oD ld1T (cg gG1 gF1) (cs sG2 sF1) (
  oF fn196 [(cg gG2 gF1)] (cs sG3 sF1) (
  o1 (fadT 2) (cg gG4 gF0) (cs sG4 sF1) (
  oW2 (storeT 1) (cg gG4 gF1) (cg gG3 gF1) s0 (
  eO)))))))
 (cS (cO (o1 (fadT 0) (cg gG1 gF0) (cs sG5 sF1) (
  oD ld1T (cg gG5 gF1) (cs sG6 sF1) (
  oF fn196 [(cg gG6 gF1)] (cs sG7 sF1) (
  o1 (fadT 3) (cg gG4 gF0) (cs sG8 sF1) (
  oW2 (storeT 1) (cg gG8 gF1) (cg gG7 gF1) s0 (
  eO)))))))
 (cO (oM (cg gG3 gF0) (cs sG9 sF1) (
  oD (ldT 4 true) (cg gG4 gF0) (cs sG10 sF1) (
  oN (mklT [(.str []), (.int .i64 0), .nils, .nils] 1 4 [(0, 4)]) [(cg gG10 gF1)] (cs sG11 sF1) (
  oW2 (appT 4 72) (cg gG9 gF1) (cg gG11 gF1) (cs sG12 sF1) (
  oM (cg gG12 gF1) (cs sG3 sF0) (
  eO)))))))))))
 (cO (o2 (arithK .add) (cg gG7 gF0) (gC (.int .i64 1)) (cs sG13 sF1) (
  oM (cg gG13 gF1) (cs sG7 sF0) (
  eO))))))))))
 (cS (cO (oM (cg gG3 gF0) (cs sG14 sF1) (
  oM (cg gG14 gF1) (cs sG2 sF0) (
  eO))))
 (cR))))
def fn117 : Fc := fnT [(cs sG0 sF0)] (r1 (cg gG2 gF0)) co117
theorem se117 : FnS E 117 fn117 := fnOk (gv := gvT) (tab := asc [(195, fn195), (196, fn196), (116, fn116)]) (tabv := tabv3) (yl := ylv) (q := 1) (rf := rf117) (fun _ => rfl) (asc_cons se195 (asc_cons se196 (asc_cons se116 asc_nil))) htabv3 hylv (by kernel_rfl) (by kernel_rfl) (by kernel_rfl)
def co124 : Cd := cS (cO (oM (gC .nilp) (cs sG0 sF0) (
  eO)))
 (cS (cO (oN (buildT [.nils, (.bool false)] []) [] (cs sG1 sF0) (
  oW1 (boxT 2) (cg gG1 gF0) (cs sG2 sF0) (
  oM (cg gG2 gF0) (cs sG0 sF0) (
  eO)))))
 (cR))
def fn124 : Fc := fnT [] (r1 (cg gG0 gF0)) co124
theorem se124 : FnS E 124 fn124 := fnOk (gv := gvT) (tab := asc []) (tabv := tabv3) (yl := ylv) (q := 0) (rf := rf124) (fun _ => rfl) asc_nil htabv3 hylv (by kernel_rfl) (by kernel_rfl) (by kernel_rfl)
def co125 : Cd := cS (cS (cO (oM (cg gG0 gF0) (cs sG5 sF0) (
  o2 (eqT false .ptr) (cg gG5 gF0) (gC .nilp) (cs sG6 sF0) (
  eO))))
 (cC (cg gG6 gF0) (cR)
 (cSk)))
 (cS (cS (cO (oM (cg gG1 gF0) (cs sG7 sF0) (
  o2 (arithK .lss) (cg gG7 gF0) (gC (.int .i64 (-2))) (cs sG8 sF0) (
  oM (cg gG8 gF0) (cs sG9 sF0) (
  oG (cg gG9 gF0) false (cs sG10 sF0) (oM (cg gG1 gF0) (cs sG10 sF0) (eO)) (
  oG (cg gG9 gF0) false (cs sG11 sF0) (o2 (arithK .gtr) (cg gG10 gF0) (gC (.int .i64 2147483645)) (cs sG11 sF0) (eO)) (
  o3 pickT (cg gG9 gF0) (gC (.bool true)) (cg gG11 gF0) (cs sG12 sF0) (
  eO))))))))
 (cC (cg gG12 gF0) (cS (cO (oM (cg gG0 gF0) (cs sG13 sF0) (
  o1 nchkT (cg gG13 gF0) (cs sG14 sF0) (
  o1 (fadT 1) (cg gG14 gF0) (cs sG15 sF0) (
  oW2 (storeT 1) (cg gG15 gF0) (gC (.bool true)) s0 (
  eO))))))
 (cR))
 (cSk)))
 (cS (cO (oM (cg gG1 gF0) (cs sG0 sF1) (
  o2 (arithK .add) (cg gG0 gF1) (gC (.int .i64 2)) (cs sG1 sF1) (
  oM (cg gG1 gF1) (cs sG4 sF0) (
  eO)))))
 (cO (oM (cg gG0 gF0) (cs sG2 sF1) (
  oM (cg gG0 gF0) (cs sG3 sF1) (
  o1 nchkT (cg gG3 gF1) (cs sG4 sF1) (
  o1 (fadT 0) (cg gG4 gF1) (cs sG5 sF1) (
  oD ld1T (cg gG5 gF1) (cs sG6 sF1) (
  oM (cg gG4 gF0) (cs sG7 sF1) (
  o2 (arithK .shr) (cg gG7 gF1) (gC (.int .u64 24)) (cs sG8 sF1) (
  o1 (toIntT .u8) (cg gG8 gF1) (cs sG9 sF1) (
  oM (cg gG4 gF0) (cs sG10 sF1) (
  o2 (arithK .shr) (cg gG10 gF1) (gC (.int .u64 16)) (cs sG11 sF1) (
  o1 (toIntT .u8) (cg gG11 gF1) (cs sG12 sF1) (
  oM (cg gG4 gF0) (cs sG13 sF1) (
  o2 (arithK .shr) (cg gG13 gF1) (gC (.int .u64 8)) (cs sG14 sF1) (
  o1 (toIntT .u8) (cg gG14 gF1) (cs sG15 sF1) (
  oM (cg gG4 gF0) (cs sG0 sF2) (
  o1 (toIntT .u8) (cg gG0 gF2) (cs sG1 sF2) (
  oN (mklT [(.int .u8 0), (.int .u8 0), (.int .u8 0), (.int .u8 0)] 4 1 [(0, 1), (1, 1), (2, 1), (3, 1)]) [(cg gG9 gF1), (cg gG12 gF1), (cg gG15 gF1), (cg gG1 gF2)] (cs sG2 sF2) (
  oW2 (appT 1 1) (cg gG6 gF1) (cg gG2 gF2) (cs sG3 sF2) (
  o1 nchkT (cg gG2 gF1) (cs sG4 sF2) (
  o1 (fadT 0) (cg gG4 gF2) (cs sG5 sF2) (
  oW2 (storeT 1) (cg gG5 gF2) (cg gG3 gF2) s0 (
  eO)))))))))))))))))))))))))
def fn125 : Fc := fnT [(cs sG0 sF0), (cs sG1 sF0)] (rN []) co125
theorem se125 : FnS E 125 fn125 := fnOk (gv := gvT) (tab := asc []) (tabv := tabv3) (yl := ylv) (q := 2) (rf := rf125) (fun _ => rfl) asc_nil htabv3 hylv (by kernel_rfl) (by kernel_rfl) (by kernel_rfl)
def co197 : Cd := cS (cO (oW1 (boxT 1) (cg gG0 gF0) (cs sG2 sF0) (
  eO)))
 (cS (cO (oM (cg gG1 gF0) (cs sG6 sF0) (
  o1 lenLT (cg gG6 gF0) (cs sG7 sF0) (
  oM (gC (.int .i64 0)) (cs sG8 sF0) (
  eO)))))
 (cB 0 (cL (cS (cO (o2 (arithK .lss) (cg gG8 gF0) (cg gG7 gF0) (cs sG9 sF0) (
  eO)))
 (cS (cC (cg gG9 gF0) (cSk)
 (cE 0))
 (cS (cB 1 (cS (cO (o2 (iaLT 1) (cg gG6 gF0) (cg gG8 gF0) (cs sG10 sF0) (
  oD ld1T (cg gG10 gF0) (cs sG11 sF0) (
  oM (cg gG11 gF0) (cs sG5 sF0) (
  eO)))))
 (cO (o1 (fadT 0) (cg gG2 gF0) (cs sG12 sF0) (
  oD ld1T (cg gG12 gF0) (cs sG13 sF0) (
  oM (cg gG5 gF0) (cs sG14 sF0) (
  oF fn125 [(cg gG13 gF0), (cg gG14 gF0)] (cs sG15 sF0) (
  eO))))))))
 (cO (o2 (arithK .add) (cg gG8 gF0) (gC (.int .i64 1)) (cs sG0 sF1) (
  oM (cg gG0 gF1) (cs sG8 sF0) (
  eO))))))))))
def fn197 : Fc := fnT [(cs sG0 sF0), (cs sG1 sF0)] (rN []) co197
theorem se197 : FnS E 197 fn197 := fnOk (gv := gvT) (tab := asc [(125, fn125)]) (tabv := tabv3) (yl := ylv) (q := 2) (rf := rf197) (fun _ => rfl) (asc_cons se125 asc_nil) htabv3 hylv (by kernel_rfl) (by kernel_rfl) (by kernel_rfl)
def co199 : Cd := cS (cS (cO (oM (cg gG0 gF0) (cs sG4 sF0) (
  o2 (eqT false .ptr) (cg gG4 gF0) (gC .nilp) (cs sG5 sF0) (
  eO))))
 (cC (cg gG5 gF0) (cR)
 (cSk)))
 (cS (cS (cO (oM (cg gG1 gF0) (cs sG6 sF0) (
  o1 lenLT (cg gG6 gF0) (cs sG7 sF0) (
  o2 (arithK .gtr) (cg gG7 gF0) (gC (.int .i64 65535)) (cs sG8 sF0) (
  eO)))))
 (cC (cg gG8 gF0) (cS (cO (oM (cg gG0 gF0) (cs sG9 sF0) (
  o1 nchkT (cg gG9 gF0) (cs sG10 sF0) (
  o1 (fadT 1) (cg gG10 gF0) (cs sG11 sF0) (
  oW2 (storeT 1) (cg gG11 gF0) (gC (.bool true)) s0 (
  eO))))))
 (cR))
 (cSk)))
 (cS (cO (oM (cg gG0 gF0) (cs sG12 sF0) (
  oM (cg gG0 gF0) (cs sG13 sF0) (
  o1 nchkT (cg gG13 gF0) (cs sG14 sF0) (
  o1 (fadT 0) (cg gG14 gF0) (cs sG15 sF0) (
  oD ld1T (cg gG15 gF0) (cs sG0 sF1) (
  oM (cg gG1 gF0) (cs sG1 sF1) (
  o1 lenLT (cg gG1 gF1) (cs sG2 sF1) (
  o2 (arithK .shr) (cg gG2 gF1) (gC (.int .u64 8)) (cs sG3 sF1) (
  o1 (toIntT .u8) (cg gG3 gF1) (cs sG4 sF1) (
  oM (cg gG1 gF0) (cs sG5 sF1) (
  o1 lenLT (cg gG5 gF1) (cs sG6 sF1) (
  o1 (toIntT .u8) (cg gG6 gF1) (cs sG7 sF1) (
  oN (mklT [(.int .u8 0), (.int .u8 0)] 2 1 [(0, 1), (1, 1)]) [(cg gG4 gF1), (cg gG7 gF1)] (cs sG8 sF1) (
  oW2 (appT 1 1) (cg gG0 gF1) (cg gG8 gF1) (cs sG9 sF1) (
  o1 nchkT (cg gG12 gF0) (cs sG10 sF1) (
  o1 (fadT 0) (cg gG10 gF1) (cs sG11 sF1) (
  oW2 (storeT 1) (cg gG11 gF1) (cg gG9 gF1) s0 (
  eO)))))))))))))))))))
 (cO (oM (cg gG0 gF0) (cs sG12 sF1) (
  oM (cg gG0 gF0) (cs sG13 sF1) (
  o1 nchkT (cg gG13 gF1) (cs sG14 sF1) (
  o1 (fadT 0) (cg gG14 gF1) (cs sG15 sF1) (
  oD ld1T (cg gG15 gF1) (cs sG0 sF2) (
  oM (cg gG1 gF0) (cs sG1 sF2) (
  oW2 (appT 1 1) (cg gG0 gF2) (cg gG1 gF2) (cs sG2 sF2) (
  o1 nchkT (cg gG12 gF1) (cs sG3 sF2) (
  o1 (fadT 0) (cg gG3 gF2) (cs sG4 sF2) (
  oW2 (storeT 1) (cg gG4 gF2) (cg gG2 gF2) s0 (
  eO))))))))))))))
def fn199 : Fc := fnT [(cs sG0 sF0), (cs sG1 sF0)] (rN []) co199
theorem se199 : FnS E 199 fn199 := fnOk (gv := gvT) (tab := asc []) (tabv := tabv3) (yl := ylv) (q := 2) (rf := rf199) (fun _ => rfl) asc_nil htabv3 hylv (by kernel_rfl) (by kernel_rfl) (by kernel_rfl)
def co126 : Cd := cS (cO (oW1 (boxT 1) (cg gG0 gF0) (cs sG2 sF0) (
  oW1 (boxT 4) (cg gG1 gF0) (cs sG3 sF0) (
  eO))))
 (cS (cO (o1 (fadT 0) (cg gG2 gF0) (cs sG4 sF0) (
  oD ld1T (cg gG4 gF0) (cs sG5 sF0) (
  o1 (fadT 0) (cg gG3 gF0) (cs sG6 sF0) (
  oD ld1T (cg gG6 gF0) (cs sG7 sF0) (
  o1 s2bT (cg gG7 gF0) (cs sG8 sF0) (
  oF fn199 [(cg gG5 gF0), (cg gG8 gF0)] (cs sG9 sF0) (
  eO))))))))
 (cS (cO (o1 (fadT 0) (cg gG2 gF0) (cs sG10 sF0) (
  oD ld1T (cg gG10 gF0) (cs sG11 sF0) (
  o1 (fadT 1) (cg gG3 gF0) (cs sG12 sF0) (
  oD ld1T (cg gG12 gF0) (cs sG13 sF0) (
  oF fn125 [(cg gG11 gF0), (cg gG13 gF0)] (cs sG14 sF0) (
  eO)))))))
 (cO (o1 (fadT 0) (cg gG2 gF0) (cs sG15 sF0) (
  oD ld1T (cg gG15 gF0) (cs sG0 sF1) (
  o1 (fadT 2) (cg gG3 gF0) (cs sG1 sF1) (
  oD ld1T (cg gG1 gF1) (cs sG2 sF1) (
  oF fn199 [(cg gG0 gF1), (cg gG2 gF1)] (cs sG3 sF1) (
  eO)))))))))
def fn126 : Fc := fnT [(cs sG0 sF0), (cs sG1 sF0)] (rN []) co126
theorem se126 : FnS E 126 fn126 := fnOk (gv := gvT) (tab := asc [(199, fn199), (125, fn125)]) (tabv := tabv3) (yl := ylv) (q := 2) (rf := rf126) (fun _ => rfl) (asc_cons se199 (asc_cons se125 asc_nil)) htabv3 hylv (by kernel_rfl) (by kernel_rfl) (by kernel_rfl)
def co198 : Cd := cS (cO (oW1 (boxT 1) (cg gG0 gF0) (cs sG2 sF0) (
  eO)))
 (cS (cO (o1 (fadT 0) (cg gG2 gF0) (cs sG6 sF0) (
  oD ld1T (cg gG6 gF0) (cs sG7 sF0) (
  oM (cg gG1 gF0) (cs sG8 sF0) (
  o1 lenLT (cg gG8 gF0) (cs sG9 sF0) (
  oF fn125 [(cg gG7 gF0), (cg gG9 gF0)] (cs sG10 sF0) (
  eO)))))))
 (cS (cO (oM (cg gG1 gF0) (cs sG11 sF0) (
  o1 lenLT (cg gG11 gF0) (cs sG12 sF0) (
  oM (gC (.int .i64 0)) (cs sG13 sF0) (
  eO)))))
 (cB 0 (cL (cS (cO (o2 (arithK .lss) (cg gG13 gF0) (cg gG12 gF0) (cs sG14 sF0) (
  eO)))
 (cS (cC (cg gG14 gF0) (cSk)
 (cE 0))
 (cS (cB 1 (cS (cO (o2 (iaLT 4) (cg gG11 gF0) (cg gG13 gF0) (cs sG15 sF0) (
  oD (ldT 4 true) (cg gG15 gF0) (cs sG0 sF1) (
  oW0 (allocT [(.str []), (.int .i64 0), .nils, .nils]) (cs sG5 sF0) (
  oW2 (storeT 4) (cg gG5 gF0) (cg gG0 gF1) s0 (
  eO))))))
 (cS (cO (oD (ldT 1 true) (cg gG2 gF0) (cs sG1 sF1) (
  oD (ldT 4 true) (cg gG5 gF0) (cs sG2 sF1) (
  oF fn126 [(cg gG1 gF1), (cg gG2 gF1)] (cs sG3 sF1) (
  eO)))))
 (cO (o1 (fadT 0) (cg gG2 gF0) (cs sG4 sF1) (
  oD ld1T (cg gG4 gF1) (cs sG5 sF1) (
  o1 (fadT 3) (cg gG5 gF0) (cs sG6 sF1) (
  oD ld1T (cg gG6 gF1) (cs sG7 sF1) (
  oF fn199 [(cg gG5 gF1), (cg gG7 gF1)] (cs sG8 sF1) (
  eO))))))))))
 (cO (o2 (arithK .add) (cg gG13 gF0) (gC (.int .i64 1)) (cs sG9 sF1) (
  oM (cg gG9 gF1) (cs sG13 sF0) (
  eO)))))))))))
def fn198 : Fc := fnT [(cs sG0 sF0), (cs sG1 sF0)] (rN []) co198
theorem se198 : FnS E 198 fn198 := fnOk (gv := gvT) (tab := asc [(125, fn125), (126, fn126), (199, fn199)]) (tabv := tabv3) (yl := ylv) (q := 2) (rf := rf198) (fun _ => rfl) (asc_cons se125 (asc_cons se126 (asc_cons se199 asc_nil))) htabv3 hylv (by kernel_rfl) (by kernel_rfl) (by kernel_rfl)
def co127 : Cd := cS (cO (oM (gC .nils) (cs sG2 sF0) (
  oM (gC (.bool false)) (cs sG3 sF0) (
  eO))))
 (cS (cS (cO (oM (cg gG0 gF0) (cs sG4 sF0) (
  o2 (eqT false .ptr) (cg gG4 gF0) (gC .nilp) (cs sG5 sF0) (
  oM (cg gG5 gF0) (cs sG6 sF0) (
  oG (cg gG6 gF0) false (cs sG7 sF0) (oM (cg gG0 gF0) (cs sG7 sF0) (eO)) (
  oG (cg gG6 gF0) false (cs sG8 sF0) (o1 nchkT (cg gG7 gF0) (cs sG8 sF0) (eO)) (
  oG (cg gG6 gF0) false (cs sG9 sF0) (o1 (fadT 1) (cg gG8 gF0) (cs sG9 sF0) (eO)) (
  oG (cg gG6 gF0) false (cs sG10 sF0) (oD ld1T (cg gG9 gF0) (cs sG10 sF0) (eO)) (
  o3 pickT (cg gG6 gF0) (gC (.bool true)) (cg gG10 gF0) (cs sG11 sF0) (
  eO))))))))))
 (cC (cg gG11 gF0) (cS (cO (oM (gC .nils) (cs sG2 sF0) (
  oM (gC (.bool false)) (cs sG3 sF0) (
  eO))))
 (cR))
 (cSk)))
 (cS (cO (oM (cg gG0 gF0) (cs sG12 sF0) (
  o1 nchkT (cg gG12 gF0) (cs sG13 sF0) (
  o1 (fadT 0) (cg gG13 gF0) (cs sG14 sF0) (
  oD ld1T (cg gG14 gF0) (cs sG15 sF0) (
  oF fn88 [(cg gG15 gF0)] (cs sG0 sF1) (
  oF fn128 [(cg gG0 gF1)] (cs sG1 sF1) (
  oM (cg gG1 gF1) (cs sG2 sF0) (
  oM (gC (.bool true)) (cs sG3 sF0) (
  eO))))))))))
 (cR)))
def fn127 : Fc := fnT [(cs sG0 sF0)] (rN [rT (cg gG2 gF0), rT (cg gG3 gF0)]) co127
theorem se127 : FnS E 127 fn127 := fnOk (gv := gvT) (tab := asc [(88, fn88), (128, fn128)]) (tabv := tabv3) (yl := ylv) (q := 1) (rf := rf127) (fun _ => rfl) (asc_cons se88 (asc_cons se128 asc_nil)) htabv3 hylv (by kernel_rfl) (by kernel_rfl) (by kernel_rfl)
def co118 : Cd := cS (cO (oW1 (boxT 8) (cg gG0 gF0) (cs sG1 sF0) (
  oM (gC .nils) (cs sG2 sF0) (
  oM (gC (.bool false)) (cs sG3 sF0) (
  eO)))))
 (cS (cO (oF fn124 [] (cs sG5 sF0) (
  oN (buildT [.nilp] [(0, 1)]) [(cg gG5 gF0)] (cs sG6 sF0) (
  oW0 (allocT [.nilp]) (cs sG4 sF0) (
  oW2 (storeT 1) (cg gG4 gF0) (cg gG6 gF0) s0 (
  eO))))))
 (cS (cO (oD (ldT 1 true) (cg gG4 gF0) (cs sG7 sF0) (
  o1 (fadT 0) (cg gG1 gF0) (cs sG8 sF0) (
  oD ld1T (cg gG8 gF0) (cs sG9 sF0) (
  o1 (fadT 1) (cg gG1 gF0) (cs sG10 sF0) (
  oD ld1T (cg gG10 gF0) (cs sG11 sF0) (
  o1 (fadT 2) (cg gG1 gF0) (cs sG12 sF0) (
  oD ld1T (cg gG12 gF0) (cs sG13 sF0) (
  oN (mklT [(.int .i64 0), (.int .i64 0), (.int .i64 0)] 3 1 [(0, 1), (1, 1), (2, 1)]) [(cg gG9 gF0), (cg gG11 gF0), (cg gG13 gF0)] (cs sG14 sF0) (
  oF fn197 [(cg gG7 gF0), (cg gG14 gF0)] (cs sG15 sF0) (
  eO)))))))))))
 (cS (cO (oD (ldT 1 true) (cg gG4 gF0) (cs sG0 sF1) (
  o1 (fadT 3) (cg gG1 gF0) (cs sG1 sF1) (
  oD ld1T (cg gG1 gF1) (cs sG2 sF1) (
  oF fn198 [(cg gG0 gF1), (cg gG2 gF1)] (cs sG3 sF1) (
  eO))))))
 (cS (cO (oD (ldT 1 true) (cg gG4 gF0) (cs sG4 sF1) (
  o1 (fadT 4) (cg gG1 gF0) (cs sG5 sF1) (
  o1 (fadT 0) (cg gG5 gF1) (cs sG6 sF1) (
  oD ld1T (cg gG6 gF1) (cs sG7 sF1) (
  o1 (fadT 4) (cg gG1 gF0) (cs sG8 sF1) (
  o1 (fadT 1) (cg gG8 gF1) (cs sG9 sF1) (
  oD ld1T (cg gG9 gF1) (cs sG10 sF1) (
  o1 (fadT 4) (cg gG1 gF0) (cs sG11 sF1) (
  o1 (fadT 2) (cg gG11 gF1) (cs sG12 sF1) (
  oD ld1T (cg gG12 gF1) (cs sG13 sF1) (
  oN (mklT [(.int .i64 0), (.int .i64 0), (.int .i64 0)] 3 1 [(0, 1), (1, 1), (2, 1)]) [(cg gG7 gF1), (cg gG10 gF1), (cg gG13 gF1)] (cs sG14 sF1) (
  oF fn197 [(cg gG4 gF1), (cg gG14 gF1)] (cs sG15 sF1) (
  eO))))))))))))))
 (cS (cO (oD (ldT 1 true) (cg gG4 gF0) (cs sG0 sF2) (
  o1 (fadT 4) (cg gG1 gF0) (cs sG1 sF2) (
  o1 (fadT 3) (cg gG1 gF2) (cs sG2 sF2) (
  oD ld1T (cg gG2 gF2) (cs sG3 sF2) (
  oF fn198 [(cg gG0 gF2), (cg gG3 gF2)] (cs sG4 sF2) (
  eO)))))))
 (cS (cO (o1 (fadT 0) (cg gG4 gF0) (cs sG5 sF2) (
  oD ld1T (cg gG5 gF2) (cs sG6 sF2) (
  oF fn127 [(cg gG6 gF2)] (cs sG7 sF2) (
  o1 (extT 0) (cg gG7 gF2) (cs sG8 sF2) (
  o1 (extT 1) (cg gG7 gF2) (cs sG9 sF2) (
  oM (cg gG8 gF2) (cs sG2 sF0) (
  oM (cg gG9 gF2) (cs sG3 sF0) (
  eO)))))))))
 (cR)))))))
def fn118 : Fc := fnT [(cs sG0 sF0)] (rN [rT (cg gG2 gF0), rT (cg gG3 gF0)]) co118
theorem se118 : FnS E 118 fn118 := fnOk (gv := gvT) (tab := asc [(124, fn124), (197, fn197), (198, fn198), (127, fn127)]) (tabv := tabv3) (yl := ylv) (q := 1) (rf := rf118) (fun _ => rfl) (asc_cons se124 (asc_cons se197 (asc_cons se198 (asc_cons se127 asc_nil)))) htabv3 hylv (by kernel_rfl) (by kernel_rfl) (by kernel_rfl)
def co119 : Cd := cS (cO (oM (gC (.bool false)) (cs sG2 sF0) (
  eO)))
 (cS (cO (oM (cg gG0 gF0) (cs sG3 sF0) (
  o2 (eqT true .ptr) (cg gG3 gF0) (gC .nilp) (cs sG4 sF0) (
  oM (cg gG4 gF0) (cs sG5 sF0) (
  oG (cg gG5 gF0) true (cs sG6 sF0) (oM (cg gG0 gF0) (cs sG6 sF0) (eO)) (
  oG (cg gG5 gF0) true (cs sG7 sF0) (o1 nchkT (cg gG6 gF0) (cs sG7 sF0) (eO)) (
  oG (cg gG5 gF0) true (cs sG8 sF0) (o1 (fadT 1) (cg gG7 gF0) (cs sG8 sF0) (eO)) (
  oG (cg gG5 gF0) true (cs sG9 sF0) (oD ld1T (cg gG8 gF0) (cs sG9 sF0) (eO)) (
  oG (cg gG5 gF0) true (cs sG10 sF0) (o1 (unT .not) (cg gG9 gF0) (cs sG10 sF0) (eO)) (
  o3 pickT (cg gG5 gF0) (cg gG10 gF0) (gC (.bool false)) (cs sG11 sF0) (
  oM (cg gG11 gF0) (cs sG12 sF0) (
  oG (cg gG12 gF0) true (cs sG13 sF0) (oM (cg gG0 gF0) (cs sG13 sF0) (eO)) (
  oG (cg gG12 gF0) true (cs sG14 sF0) (o1 nchkT (cg gG13 gF0) (cs sG14 sF0) (eO)) (
  oG (cg gG12 gF0) true (cs sG15 sF0) (o1 (fadT 0) (cg gG14 gF0) (cs sG15 sF0) (eO)) (
  oG (cg gG12 gF0) true (cs sG0 sF1) (oD ld1T (cg gG15 gF0) (cs sG0 sF1) (eO)) (
  oG (cg gG12 gF0) true (cs sG1 sF1) (o1 lenLT (cg gG0 gF1) (cs sG1 sF1) (eO)) (
  oG (cg gG12 gF0) true (cs sG2 sF1) (o2 (arithK .eql) (cg gG1 gF1) (gC (.int .i64 0)) (cs sG2 sF1) (eO)) (
  o3 pickT (cg gG12 gF0) (cg gG2 gF1) (gC (.bool false)) (cs sG3 sF1) (
  oM (cg gG3 gF1) (cs sG2 sF0) (
  eO))))))))))))))))))))
 (cR))
def fn119 : Fc := fnT [(cs sG0 sF0)] (r1 (cg gG2 gF0)) co119
theorem se119 : FnS E 119 fn119 := fnOk (gv := gvT) (tab := asc []) (tabv := tabv3) (yl := ylv) (q := 1) (rf := rf119) (fun _ => rfl) asc_nil htabv3 hylv (by kernel_rfl) (by kernel_rfl) (by kernel_rfl)
def co120 : Cd := cS (cO (oM (gC (.bool false)) (cs sG4 sF0) (
  eO)))
 (cS (cS (cO (oM (cg gG0 gF0) (cs sG6 sF0) (
  o1 lenLT (cg gG6 gF0) (cs sG7 sF0) (
  oM (cg gG1 gF0) (cs sG8 sF0) (
  o1 lenLT (cg gG8 gF0) (cs sG9 sF0) (
  o2 (arithK .neq) (cg gG7 gF0) (cg gG9 gF0) (cs sG10 sF0) (
  eO)))))))
 (cC (cg gG10 gF0) (cS (cO (oM (gC (.bool false)) (cs sG4 sF0) (
  eO)))
 (cR))
 (cSk)))
 (cS (cS (cO (oM (cg gG0 gF0) (cs sG11 sF0) (
  o1 lenLT (cg gG11 gF0) (cs sG12 sF0) (
  oM (gC (.int .i64 0)) (cs sG13 sF0) (
  eO)))))
 (cB 0 (cL (cS (cO (o2 (arithK .lss) (cg gG13 gF0) (cg gG12 gF0) (cs sG14 sF0) (
  eO)))
 (cS (cC (cg gG14 gF0) (cSk)
 (cE 0))
 (cS (cB 1 (cS (cO (oM (cg gG13 gF0) (cs sG15 sF0) (
  oM (cg gG15 gF0) (cs sG5 sF0) (
  eO))))
 (cS (cD [] [iP (oM (cg gG0 gF0) (cs sG0 sF1) (eO)),
  iP (oM (cg gG5 gF0) (cs sG1 sF1) (eO)),
  iP (o2 (iaLT 1) (cg gG0 gF1) (cg gG1 gF1) (cs sG2 sF1) (eO)),
  iP (oD ld1T (cg gG2 gF1) (cs sG3 sF1) (eO)),
  iP (oM (cg gG1 gF0) (cs sG4 sF1) (eO)),
  iP (oM (cg gG5 gF0) (cs sG5 sF1) (eO)),
  iP (o2 (iaLT 1) (cg gG4 gF1) (cg gG5 gF1) (cs sG6 sF1) (eO)),
  iP (oD ld1T (cg gG6 gF1) (cs sG7 sF1) (eO)),
  iP (o2 (arithK .neq) (cg gG3 gF1) (cg gG7 gF1) (cs sG8 sF1) (eO))])
 (cC (cg gG8 gF1) (cS (cO (oM (gC (.bool false)) (cs sG4 sF0) (
  eO)))
 (cR))
 (cSk)))))
 (cO (o2 (arithK .add) (cg gG13 gF0) (gC (.int .i64 1)) (cs sG9 sF1) (
  oM (cg gG9 gF1) (cs sG13 sF0) (
  eO))))))))))
 (cS (cO (oM (gC (.bool true)) (cs sG4 sF0) (
  eO)))
 (cR))))
def fn120 : Fc := fnT [(cs sG0 sF0), (cs sG1 sF0)] (r1 (cg gG4 gF0)) co120
theorem se120 : FnS E 120 fn120 := fnOk (gv := gvT) (tab := asc []) (tabv := tabv3) (yl := ylv) (q := 2) (rf := rf120) (fun _ => rfl) asc_nil htabv3 hylv (by kernel_rfl) (by kernel_rfl) (by kernel_rfl)
def co46 : Cd := cS (cO (oW0 (allocT [(.int .i64 0), (.int .i64 0), (.int .i64 0), .nils, (.int .i64 0), (.int .i64 0), (.int .i64 0), .nils]) (cs sG2 sF0) (
  oM (gC (.bool false)) (cs sG3 sF0) (
  eO))))
 (cS (cO (oM (cg gG0 gF0) (cs sG8 sF0) (
  oF fn115 [(cg gG8 gF0)] (cs sG9 sF0) (
  oM (cg gG0 gF0) (cs sG10 sF0) (
  o1 lenLT (cg gG10 gF0) (cs sG11 sF0) (
  oN (buildT [.nilp, (.int .i64 0)] [(0, 1), (1, 1)]) [(cg gG9 gF0), (cg gG11 gF0)] (cs sG12 sF0) (
  oW0 (allocT [.nilp, (.int .i64 0)]) (cs sG4 sF0) (
  oW2 (storeT 2) (cg gG4 gF0) (cg gG12 gF0) s0 (
  eO)))))))))
 (cS (cO (o1 (fadT 0) (cg gG4 gF0) (cs sG13 sF0) (
  oD ld1T (cg gG13 gF0) (cs sG14 sF0) (
  oF fn116 [(cg gG14 gF0)] (cs sG15 sF0) (
  oN (buildT [(.int .i64 0), (.int .i64 0), (.int .i64 0), .nils, (.int .i64 0), (.int .i64 0), (.int .i64 0), .nils] [(0, 1)]) [(cg gG15 gF0)] (cs sG0 sF1) (
  oW0 (allocT [(.int .i64 0), (.int .i64 0), (.int .i64 0), .nils, (.int .i64 0), (.int .i64 0), (.int .i64 0), .nils]) (cs sG5 sF0) (
  oW2 (storeT 8) (cg gG5 gF0) (cg gG0 gF1) s0 (
  eO))))))))
 (cS (cO (o1 (fadT 0) (cg gG4 gF0) (cs sG1 sF1) (
  oD ld1T (cg gG1 gF1) (cs sG2 sF1) (
  oF fn116 [(cg gG2 gF1)] (cs sG3 sF1) (
  o1 (fadT 1) (cg gG5 gF0) (cs sG4 sF1) (
  oW2 (storeT 1) (cg gG4 gF1) (cg gG3 gF1) s0 (
  eO)))))))
 (cS (cO (o1 (fadT 0) (cg gG4 gF0) (cs sG5 sF1) (
  oD ld1T (cg gG5 gF1) (cs sG6 sF1) (
  oF fn116 [(cg gG6 gF1)] (cs sG7 sF1) (
  o1 (fadT 2) (cg gG5 gF0) (cs sG8 sF1) (
  oW2 (storeT 1) (cg gG8 gF1) (cg gG7 gF1) s0 (
  eO)))))))
 (cS (cO (oD (ldT 2 true) (cg gG4 gF0) (cs sG9 sF1) (
  oF fn117 [(cg gG9 gF1)] (cs sG10 sF1) (
  o1 (fadT 3) (cg gG5 gF0) (cs sG11 sF1) (
  oW2 (storeT 1) (cg gG11 gF1) (cg gG10 gF1) s0 (
  eO))))))
 (cS (cO (o1 (fadT 0) (cg gG4 gF0) (cs sG12 sF1) (
  oD ld1T (cg gG12 gF1) (cs sG13 sF1) (
  oF fn116 [(cg gG13 gF1)] (cs sG14 sF1) (
  o1 (fadT 4) (cg gG5 gF0) (cs sG15 sF1) (
  o1 (fadT 0) (cg gG15 gF1) (cs sG0 sF2) (
  oW2 (storeT 1) (cg gG0 gF2) (cg gG14 gF1) s0 (
  eO))))))))
 (cS (cO (o1 (fadT 0) (cg gG4 gF0) (cs sG1 sF2) (
  oD ld1T (cg gG1 gF2) (cs sG2 sF2) (
  oF fn116 [(cg gG2 gF2)] (cs sG3 sF2) (
  o1 (fadT 4) (cg gG5 gF0) (cs sG4 sF2) (
  o1 (fadT 1) (cg gG4 gF2) (cs sG5 sF2) (
  oW2 (storeT 1) (cg gG5 gF2) (cg gG3 gF2) s0 (
  eO))))))))
 (cS (cO (o1 (fadT 0) (cg gG4 gF0) (cs sG6 sF2) (
  oD ld1T (cg gG6 gF2) (cs sG7 sF2) (
  oF fn116 [(cg gG7 gF2)] (cs sG8 sF2) (
  o1 (fadT 4) (cg gG5 gF0) (cs sG9 sF2) (
  o1 (fadT 2) (cg gG9 gF2) (cs sG10 sF2) (
  oW2 (storeT 1) (cg gG10 gF2) (cg gG8 gF2) s0 (
  eO))))))))
 (cS (cO (oD (ldT 2 true) (cg gG4 gF0) (cs sG11 sF2) (
  oF fn117 [(cg gG11 gF2)] (cs sG12 sF2) (
  o1 (fadT 4) (cg gG5 gF0) (cs sG13 sF2) (
  o1 (fadT 3) (cg gG13 gF2) (cs sG14 sF2) (
  oW2 (storeT 1) (cg gG14 gF2) (cg gG12 gF2) s0 (
  eO)))))))
 (cS (cS (cO (oD (ldT 8 true) (cg gG5 gF0) (cs sG0 sF3) (
  oF fn118 [(cg gG0 gF3)] (cs sG1 sF3) (
  oM (cg gG1 gF3) (cs sG15 sF2) (
  o1 (extT 0) (cg gG15 gF2) (cs sG2 sF3) (
  o1 (extT 1) (cg gG15 gF2) (cs sG3 sF3) (
  oM (cg gG2 gF3) (cs sG6 sF0) (
  oM (cg gG3 gF3) (cs sG7 sF0) (
  eO)))))))))
 (cS (cO (o1 (fadT 0) (cg gG4 gF0) (cs sG4 sF3) (
  oD ld1T (cg gG4 gF3) (cs sG5 sF3) (
  oF fn119 [(cg gG5 gF3)] (cs sG6 sF3) (
  o1 (unT .not) (cg gG6 gF3) (cs sG7 sF3) (
  oM (cg gG7 gF3) (cs sG8 sF3) (
  oG (cg gG8 gF3) false (cs sG9 sF3) (oM (cg gG7 gF0) (cs sG9 sF3) (eO)) (
  oG (cg gG8 gF3) false (cs sG10 sF3) (o1 (unT .not) (cg gG9 gF3) (cs sG10 sF3) (eO)) (
  o3 pickT (cg gG8 gF3) (gC (.bool true)) (cg gG10 gF3) (cs sG11 sF3) (
  oM (cg gG11 gF3) (cs sG12 sF3) (
  oG (cg gG12 gF3) false (cs sG13 sF3) (oM (cg gG6 gF0) (cs sG13 sF3) (eO)) (
  oG (cg gG12 gF3) false (cs sG14 sF3) (oM (cg gG0 gF0) (cs sG14 sF3) (eO)) (
  oG (cg gG12 gF3) false (cs sG15 sF3) (oF fn120 [(cg gG13 gF3), (cg gG14 gF3)] (cs sG15 sF3) (eO)) (
  oG (cg gG12 gF3) false (cs sG0 sF4) (o1 (unT .not) (cg gG15 gF3) (cs sG0 sF4) (eO)) (
  o3 pickT (cg gG12 gF3) (gC (.bool true)) (cg gG0 gF4) (cs sG1 sF4) (
  eO))))))))))))))))
 (cC (cg gG1 gF4) (cS (cO (oN (buildT [(.int .i64 0), (.int .i64 0), (.int .i64 0), .nils, (.int .i64 0), (.int .i64 0), (.int .i64 0), .nils] []) [] (cs sG2 sF4) (
  oW2 (storeT 8) (cg gG2 gF0) (cg gG2 gF4) s0 (
  oM (gC (.bool false)) (cs sG3 sF0) (
  eO)))))
 (cR))
 (cSk))))
 (cS (cO (oD (ldT 8 true) (cg gG5 gF0) (cs sG3 sF4) (
  oW2 (storeT 8) (cg gG2 gF0) (cg gG3 gF4) s0 (
  oM (gC (.bool true)) (cs sG3 sF0) (
  eO)))))
 (cR))))))))))))
def fn46 : Fc := fnT [(cs sG0 sF0)] (rN [rC (cg gG2 gF0) 8 true, rT (cg gG3 gF0)]) co46
theorem se46 : FnS E 46 fn46 := fnOk (gv := gvT) (tab := asc [(115, fn115), (116, fn116), (117, fn117), (118, fn118), (119, fn119), (120, fn120)]) (tabv := tabv3) (yl := ylv) (q := 1) (rf := rf46) (fun _ => rfl) (asc_cons se115 (asc_cons se116 (asc_cons se117 (asc_cons se118 (asc_cons se119 (asc_cons se120 asc_nil)))))) htabv3 hylv (by kernel_rfl) (by kernel_rfl) (by kernel_rfl)
def co14 : Cd := cS (cO (oW0 (allocT [(.int .i64 0), (.int .i64 0), (.int .i64 0), .nils, (.int .i64 0), (.int .i64 0), (.int .i64 0), .nils]) (cs sG2 sF0) (
  eO)))
 (cS (cS (cO (oM (cg gG0 gF0) (cs sG5 sF0) (
  o2 (eqT false .ptr) (cg gG5 gF0) (gC .nilp) (cs sG6 sF0) (
  eO))))
 (cC (cg gG6 gF0) (cS (cO (oN (buildT [(.int .i64 0), (.int .i64 0), (.int .i64 0), .nils, (.int .i64 0), (.int .i64 0), (.int .i64 0), .nils] []) [] (cs sG7 sF0) (
  oW2 (storeT 8) (cg gG2 gF0) (cg gG7 gF0) s0 (
  eO))))
 (cR))
 (cSk)))
 (cS (cO (oM (cg gG0 gF0) (cs sG9 sF0) (
  o1 nchkT (cg gG9 gF0) (cs sG10 sF0) (
  o1 (fadT 7) (cg gG10 gF0) (cs sG11 sF0) (
  oD ld1T (cg gG11 gF0) (cs sG12 sF0) (
  oF fn47 [(cg gG12 gF0)] (cs sG13 sF0) (
  oF fn46 [(cg gG13 gF0)] (cs sG14 sF0) (
  oM (cg gG14 gF0) (cs sG8 sF0) (
  o1 (extT 0) (cg gG8 gF0) (cs sG15 sF0) (
  o1 (extT 1) (cg gG8 gF0) (cs sG0 sF1) (
  oW0 (allocT [(.int .i64 0), (.int .i64 0), (.int .i64 0), .nils, (.int .i64 0), (.int .i64 0), (.int .i64 0), .nils]) (cs sG3 sF0) (
  oW2 (storeT 8) (cg gG3 gF0) (cg gG15 gF0) s0 (
  oM (cg gG0 gF1) (cs sG4 sF0) (
  eO))))))))))))))
 (cS (cO (oD (ldT 8 true) (cg gG3 gF0) (cs sG1 sF1) (
  oW2 (storeT 8) (cg gG2 gF0) (cg gG1 gF1) s0 (
  eO))))
 (cR))))
def fn14 : Fc := fnT [(cs sG0 sF0)] (rN [rC (cg gG2 gF0) 8 true]) co14
theorem se14 : FnS E 14 fn14 := fnOk (gv := gvT) (tab := asc [(47, fn47), (46, fn46)]) (tabv := tabv3) (yl := ylv) (q := 1) (rf := rf14) (fun _ => rfl) (asc_cons se47 (asc_cons se46 asc_nil)) htabv3 hylv (by kernel_rfl) (by kernel_rfl) (by kernel_rfl)
def co171 : Cd := cS (cO (oM (gC .nils) (cs sG2 sF0) (
  eO)))
 (cS (cS (cO (oM (cg gG0 gF0) (cs sG3 sF0) (
  o2 (eqT false .slice) (cg gG3 gF0) (gC .nils) (cs sG4 sF0) (
  eO))))
 (cC (cg gG4 gF0) (cS (cO (oM (gC .nils) (cs sG2 sF0) (
  eO)))
 (cR))
 (cSk)))
 (cS (cO (oN (mklT [] 0 4 []) [] (cs sG5 sF0) (
  oM (cg gG0 gF0) (cs sG6 sF0) (
  oW2 (appT 4 72) (cg gG5 gF0) (cg gG6 gF0) (cs sG7 sF0) (
  oM (cg gG7 gF0) (cs sG2 sF0) (
  eO))))))
 (cR)))
def fn171 : Fc := fnT [(cs sG0 sF0)] (r1 (cg gG2 gF0)) co171
theorem se171 : FnS E 171 fn171 := fnOk (gv := gvT) (tab := asc []) (tabv := tabv3) (yl := ylv) (q := 1) (rf := rf171) (fun _ => rfl) asc_nil htabv3 hylv (by kernel_rfl) (by kernel_rfl) (by kernel_rfl)
def co90 : Cd := cS (cO (oM (gC (.int .i64 0)) (cs sG4 sF0) (
  eO)))
 (cS (cS (cO (oM (cg gG0 gF0) (cs sG6 sF0) (
  o1 lenLT (cg gG6 gF0) (cs sG7 sF0) (
  oM (gC (.int .i64 0)) (cs sG8 sF0) (
  eO)))))
 (cB 0 (cL (cS (cO (o2 (arithK .lss) (cg gG8 gF0) (cg gG7 gF0) (cs sG9 sF0) (
  eO)))
 (cS (cC (cg gG9 gF0) (cSk)
 (cE 0))
 (cS (cB 1 (cS (cO (oM (cg gG8 gF0) (cs sG10 sF0) (
  oM (cg gG10 gF0) (cs sG5 sF0) (
  eO))))
 (cS (cO (oM (cg gG1 gF0) (cs sG11 sF0) (
  oM (cg gG0 gF0) (cs sG12 sF0) (
  oM (cg gG5 gF0) (cs sG13 sF0) (
  o2 (iaLT 4) (cg gG12 gF0) (cg gG13 gF0) (cs sG14 sF0) (
  oD (ldT 4 true) (cg gG14 gF0) (cs sG15 sF0) (
  oV tabv3 ylv (cg gG11 gF0) [(cg gG15 gF0)] (cs sG0 sF1) (
  eO))))))))
 (cC (cg gG0 gF1) (cS (cO (oM (cg gG5 gF0) (cs sG1 sF1) (
  oM (cg gG1 gF1) (cs sG4 sF0) (
  eO))))
 (cR))
 (cSk)))))
 (cO (o2 (arithK .add) (cg gG8 gF0) (gC (.int .i64 1)) (cs sG2 sF1) (
  oM (cg gG2 gF1) (cs sG8 sF0) (
  eO))))))))))
 (cS (cO (oM (gC (.int .i64 (-1))) (cs sG4 sF0) (
  eO)))
 (cR)))
def fn90 : Fc := fnT [(cs sG0 sF0), (cs sG1 sF0)] (r1 (cg gG4 gF0)) co90
theorem se90 : FnS E 90 fn90 := fnOk (gv := gvT) (tab := asc []) (tabv := tabv3) (yl := ylv) (q := 2) (rf := rf90) (fun _ => rfl) asc_nil htabv3 hylv (by kernel_rfl) (by kernel_rfl) (by kernel_rfl)
def co170 : Cd := cS (cO (oM (gC .nils) (cs sG4 sF0) (
  eO)))
 (cS (cO (oM (cg gG0 gF0) (cs sG8 sF0) (
  oM (cg gG1 gF0) (cs sG9 sF0) (
  oF fn90 [(cg gG8 gF0), (cg gG9 gF0)] (cs sG10 sF0) (
  oM (cg gG10 gF0) (cs sG5 sF0) (
  eO))))))
 (cS (cS (cO (oM (cg gG5 gF0) (cs sG11 sF0) (
  o2 (arithK .eql) (cg gG11 gF0) (gC (.int .i64 (-1))) (cs sG12 sF0) (
  eO))))
 (cC (cg gG12 gF0) (cS (cO (oM (cg gG0 gF0) (cs sG13 sF0) (
  oM (cg gG13 gF0) (cs sG4 sF0) (
  eO))))
 (cR))
 (cSk)))
 (cS (cS (cO (oM (cg gG5 gF0) (cs sG14 sF0) (
  o2 (arithK .add) (cg gG14 gF0) (gC (.int .i64 1)) (cs sG15 sF0) (
  oM (cg gG15 gF0) (cs sG6 sF0) (
  eO)))))
 (cB 0 (cL (cS (cS (cO (oM (cg gG6 gF0) (cs sG0 sF1) (
  oM (cg gG0 gF0) (cs sG1 sF1) (
  o1 lenLT (cg gG1 gF1) (cs sG2 sF1) (
  o2 (arithK .lss) (cg gG0 gF1) (cg gG2 gF1) (cs sG3 sF1) (
  eO))))))
 (cC (cg gG3 gF1) (cSk)
 (cE 0)))
 (cS (cB 1 (cS (cO (oM (cg gG0 gF0) (cs sG6 sF1) (
  oM (cg gG6 gF0) (cs sG7 sF1) (
  o2 (iaLT 4) (cg gG6 gF1) (cg gG7 gF1) (cs sG8 sF1) (
  oD (ldT 4 true) (cg gG8 gF1) (cs sG9 sF1) (
  oW0 (allocT [(.str []), (.int .i64 0), .nils, .nils]) (cs sG7 sF0) (
  oW2 (storeT 4) (cg gG7 gF0) (cg gG9 gF1) s0 (
  eO))))))))
 (cS (cO (oM (cg gG1 gF0) (cs sG10 sF1) (
  oD (ldT 4 true) (cg gG7 gF0) (cs sG11 sF1) (
  oV tabv3 ylv (cg gG10 gF1) [(cg gG11 gF1)] (cs sG12 sF1) (
  o1 (unT .not) (cg gG12 gF1) (cs sG13 sF1) (
  eO))))))
 (cC (cg gG13 gF1) (cS (cO (oM (cg gG0 gF0) (cs sG14 sF1) (
  oM (cg gG5 gF0) (cs sG15 sF1) (
  oD (ldT 4 true) (cg gG7 gF0) (cs sG0 sF2) (
  o2 (iaLT 4) (cg gG14 gF1) (cg gG15 gF1) (cs sG1 sF2) (
  oW2 (storeT 4) (cg gG1 gF2) (cg gG0 gF2) s0 (
  eO)))))))
 (cO (oM (cg gG5 gF0) (cs sG2 sF2) (
  o2 (arithK .add) (cg gG2 gF2) (gC (.int .i64 1)) (cs sG3 sF2) (
  oM (cg gG3 gF2) (cs sG5 sF0) (
  eO))))))
 (cSk)))))
 (cO (oM (cg gG6 gF0) (cs sG4 sF1) (
  o2 (arithK .add) (cg gG4 gF1) (gC (.int .i64 1)) (cs sG5 sF1) (
  oM (cg gG5 gF1) (cs sG6 sF0) (
  eO))))))))))
 (cS (cO (oM (cg gG0 gF0) (cs sG4 sF2) (
  oM (cg gG5 gF0) (cs sG5 sF2) (
  o3 (slLT true false 4) (cg gG4 gF2) (cg gG5 gF2) (gC .nili) (cs sG6 sF2) (
  oW1 (clrT [(.str []), (.int .i64 0), .nils, .nils] 4) (cg gG6 gF2) s0 (
  eO))))))
 (cS (cO (oM (cg gG0 gF0) (cs sG7 sF2) (
  oM (cg gG5 gF0) (cs sG8 sF2) (
  o3 (slLT false true 4) (cg gG7 gF2) (gC .nili) (cg gG8 gF2) (cs sG9 sF2) (
  oM (cg gG9 gF2) (cs sG4 sF0) (
  eO))))))
 (cR))))))
def fn170 : Fc := fnT [(cs sG0 sF0), (cs sG1 sF0)] (r1 (cg gG4 gF0)) co170
theorem se170 : FnS E 170 fn170 := fnOk (gv := gvT) (tab := asc [(90, fn90)]) (tabv := tabv3) (yl := ylv) (q := 2) (rf := rf170) (fun _ => rfl) (asc_cons se90 asc_nil) htabv3 hylv (by kernel_rfl) (by kernel_rfl) (by kernel_rfl)
def co304 : Cd := cS (cO (oM (gC (.int .i64 0)) (cs sG2 sF0) (
  eO)))
 (cS (cS (cO (oM (cg gG0 gF0) (cs sG3 sF0) (
  o2 (arithK .geq) (cg gG3 gF0) (gC (.int .u64 4294967296)) (cs sG4 sF0) (
  eO))))
 (cC (cg gG4 gF0) (cS (cO (oM (cg gG0 gF0) (cs sG5 sF0) (
  o2 (arithK .shr) (cg gG5 gF0) (gC (.int .u64 32)) (cs sG6 sF0) (
  oM (cg gG6 gF0) (cs sG0 sF0) (
  eO)))))
 (cO (oM (gC (.int .i64 32)) (cs sG2 sF0) (
  eO))))
 (cSk)))
 (cS (cS (cO (oM (cg gG0 gF0) (cs sG7 sF0) (
  o2 (arithK .geq) (cg gG7 gF0) (gC (.int .u64 65536)) (cs sG8 sF0) (
  eO))))
 (cC (cg gG8 gF0) (cS (cO (oM (cg gG0 gF0) (cs sG9 sF0) (
  o2 (arithK .shr) (cg gG9 gF0) (gC (.int .u64 16)) (cs sG10 sF0) (
  oM (cg gG10 gF0) (cs sG0 sF0) (
  eO)))))
 (cO (oM (cg gG2 gF0) (cs sG11 sF0) (
  o2 (arithK .add) (cg gG11 gF0) (gC (.int .i64 16)) (cs sG12 sF0) (
  oM (cg gG12 gF0) (cs sG2 sF0) (
  eO))))))
 (cSk)))
 (cS (cS (cO (oM (cg gG0 gF0) (cs sG13 sF0) (
  o2 (arithK .geq) (cg gG13 gF0) (gC (.int .u64 256)) (cs sG14 sF0) (
  eO))))
 (cC (cg gG14 gF0) (cS (cO (oM (cg gG0 gF0) (cs sG15 sF0) (
  o2 (arithK .shr) (cg gG15 gF0) (gC (.int .u64 8)) (cs sG0 sF1) (
  oM (cg gG0 gF1) (cs sG0 sF0) (
  eO)))))
 (cO (oM (cg gG2 gF0) (cs sG1 sF1) (
  o2 (arithK .add) (cg gG1 gF1) (gC (.int .i64 8)) (cs sG2 sF1) (
  oM (cg gG2 gF1) (cs sG2 sF0) (
  eO))))))
 (cSk)))
 (cS (cO (oM (cg gG2 gF0) (cs sG3 sF1) (
  oM (cg gG0 gF0) (cs sG4 sF1) (
  o1 (toIntT .u8) (cg gG4 gF1) (cs sG5 sF1) (
  o2 ixST (gC (.str [0, 1, 2, 2, 3, 3, 3, 3, 4, 4, 4, 4, 4, 4, 4, 4, 5, 5, 5, 5, 5, 5, 5, 5, 5, 5, 5, 5, 5, 5, 5, 5, 6, 6, 6, 6, 6, 6, 6, 6, 6, 6, 6, 6, 6, 6, 6, 6, 6, 6, 6, 6, 6, 6, 6, 6, 6, 6, 6, 6, 6, 6, 6, 6, 7, 7, 7, 7, 7, 7, 7, 7, 7, 7, 7, 7, 7, 7, 7, 7, 7, 7, 7, 7, 7, 7, 7, 7, 7, 7, 7, 7, 7, 7, 7, 7, 7, 7, 7, 7, 7, 7, 7, 7, 7, 7, 7, 7, 7, 7, 7, 7, 7, 7, 7, 7, 7, 7, 7, 7, 7, 7, 7, 7, 7, 7, 7, 7, 8, 8, 8, 8, 8, 8, 8, 8, 8, 8, 8, 8, 8, 8, 8, 8, 8, 8, 8, 8, 8, 8, 8, 8, 8, 8, 8, 8, 8, 8, 8, 8, 8, 8, 8, 8, 8, 8, 8, 8, 8, 8, 8, 8, 8, 8, 8, 8, 8, 8, 8, 8, 8, 8, 8, 8, 8, 8, 8, 8, 8, 8, 8, 8, 8, 8, 8, 8, 8, 8, 8, 8, 8, 8, 8, 8, 8, 8, 8, 8, 8, 8, 8, 8, 8, 8, 8, 8, 8, 8, 8, 8, 8, 8, 8, 8, 8, 8, 8, 8, 8, 8, 8, 8, 8, 8, 8, 8, 8, 8, 8, 8, 8, 8, 8, 8, 8, 8, 8, 8, 8, 8, 8, 8, 8, 8, 8, 8])) (cg gG5 gF1) (cs sG6 sF1) (
  o1 (toIntT .i64) (cg gG6 gF1) (cs sG7 sF1) (
  o2 (arithK .add) (cg gG3 gF1) (cg gG7 gF1) (cs sG8 sF1) (
  oM (cg gG8 gF1) (cs sG2 sF0) (
  eO)))))))))
 (cR)))))
def fn304 : Fc := fnT [(cs sG0 sF0)] (r1 (cg gG2 gF0)) co304
theorem se304 : FnS E 304 fn304 := fnOk (gv := gvT) (tab := asc []) (tabv := tabv3) (yl := ylv) (q := 1) (rf := rf304) (fun _ => rfl) asc_nil htabv3 hylv (by kernel_rfl) (by kernel_rfl) (by kernel_rfl)
def co234 : Cd := cS (cO (oM (gC (.int .i64 0)) (cs sG2 sF0) (
  eO)))
 (cS (cC (gC (.bool false)) (cS (cO (oM (cg gG0 gF0) (cs sG3 sF0) (
  o1 (toIntT .u32) (cg gG3 gF0) (cs sG4 sF0) (
  oF fX [(cg gG4 gF0)] (cs sG5 sF0) (
  oM (cg gG5 gF0) (cs sG2 sF0) (
  eO))))))
 (cR))
 (cSk))
 (cS (cO (oM (cg gG0 gF0) (cs sG6 sF0) (
  oF fn304 [(cg gG6 gF0)] (cs sG7 sF0) (
  oM (cg gG7 gF0) (cs sG2 sF0) (
  eO)))))
 (cR)))
def fn234 : Fc := fnT [(cs sG0 sF0)] (r1 (cg gG2 gF0)) co234
theorem se234 : FnS E 234 fn234 := fnOk (gv := gvT) (tab := asc [(304, fn304)]) (tabv := tabv3) (yl := ylv) (q := 1) (rf := rf234) (fun _ => rfl) (asc_cons se304 asc_nil) htabv3 hylv (by kernel_rfl) (by kernel_rfl) (by kernel_rfl)
def co358 : Cd := cS (cO (oM (cg gG1 gF0) (cs sG10 sF0) (
  o2 (arithK .add) (cg gG10 gF0) (gC (.int .i64 1)) (cs sG11 sF0) (
  oM (cg gG11 gF0) (cs sG8 sF0) (
  eO)))))
 (cB 0 (cL (cS (cS (cO (oM (cg gG8 gF0) (cs sG12 sF0) (
  oM (cg gG2 gF0) (cs sG13 sF0) (
  o2 (arithK .lss) (cg gG12 gF0) (cg gG13 gF0) (cs sG14 sF0) (
  eO)))))
 (cC (cg gG14 gF0) (cSk)
 (cE 0)))
 (cS (cB 1 (cS (cO (oM (cg gG8 gF0) (cs sG1 sF1) (
  oM (cg gG1 gF1) (cs sG9 sF0) (
  eO))))
 (cB 2 (cL (cS (cS (cD [] [iP (oM (cg gG9 gF0) (cs sG2 sF1) (eO)),
  iP (oM (cg gG1 gF0) (cs sG3 sF1) (eO)),
  iP (o2 (arithK .gtr) (cg gG2 gF1) (cg gG3 gF1) (cs sG4 sF1) (eO)),
  iP (oM (cg gG4 gF1) (cs sG5 sF1) (eO)),
  iP (oG (cg gG5 gF1) true (cs sG6 sF1) (oM (cg gG3 gF0) (cs sG6 sF1) (eO)) (eO)),
  iP (oG (cg gG5 gF1) true (cs sG7 sF1) (oM (cg gG0 gF0) (cs sG7 sF1) (eO)) (eO)),
  iP (oG (cg gG5 gF1) true (cs sG8 sF1) (oM (cg gG9 gF0) (cs sG8 sF1) (eO)) (eO)),
  iP (oG (cg gG5 gF1) true (cs sG9 sF1) (o2 (iaLT 4) (cg gG7 gF1) (cg gG8 gF1) (cs sG9 sF1) (eO)) (eO)),
  iP (oG (cg gG5 gF1) true (cs sG10 sF1) (oD (ldT 4 true) (cg gG9 gF1) (cs sG10 sF1) (eO)) (eO)),
  iP (oG (cg gG5 gF1) true (cs sG11 sF1) (oM (cg gG0 gF0) (cs sG11 sF1) (eO)) (eO)),
  iP (oG (cg gG5 gF1) true (cs sG12 sF1) (oM (cg gG9 gF0) (cs sG12 sF1) (eO)) (eO)),
  iP (oG (cg gG5 gF1) true (cs sG13 sF1) (o2 (arithK .sub) (cg gG12 gF1) (gC (.int .i64 1)) (cs sG13 sF1) (eO)) (eO)),
  iP (oG (cg gG5 gF1) true (cs sG14 sF1) (o2 (iaLT 4) (cg gG11 gF1) (cg gG13 gF1) (cs sG14 sF1) (eO)) (eO)),
  iP (oG (cg gG5 gF1) true (cs sG15 sF1) (oD (ldT 4 true) (cg gG14 gF1) (cs sG15 sF1) (eO)) (eO)),
  iW (oG (cg gG5 gF1) true (cs sG0 sF2) (oV tabv3 ylv (cg gG6 gF1) [(cg gG10 gF1), (cg gG15 gF1)] (cs sG0 sF2) (eO)) (eO)),
  iP (oG (cg gG5 gF1) true (cs sG1 sF2) (o2 (arithK .lss) (cg gG0 gF2) (gC (.int .i64 0)) (cs sG1 sF2) (eO)) (eO)),
  iP (o3 pickT (cg gG5 gF1) (cg gG1 gF2) (gC (.bool false)) (cs sG2 sF2) (eO))])
 (cC (cg gG2 gF2) (cSk)
 (cE 2)))
 (cS (cB 3 (cD [] [iP (oM (cg gG0 gF0) (cs sG5 sF2) (eO)),
  iP (oM (cg gG9 gF0) (cs sG6 sF2) (eO)),
  iP (oM (cg gG0 gF0) (cs sG7 sF2) (eO)),
  iP (oM (cg gG9 gF0) (cs sG8 sF2) (eO)),
  iP (o2 (arithK .sub) (cg gG8 gF2) (gC (.int .i64 1)) (cs sG9 sF2) (eO)),
  iP (oM (cg gG0 gF0) (cs sG10 sF2) (eO)),
  iP (oM (cg gG9 gF0) (cs sG11 sF2) (eO)),
  iP (o2 (arithK .sub) (cg gG11 gF2) (gC (.int .i64 1)) (cs sG12 sF2) (eO)),
  iP (o2 (iaLT 4) (cg gG10 gF2) (cg gG12 gF2) (cs sG13 sF2) (eO)),
  iP (oD (ldT 4 true) (cg gG13 gF2) (cs sG14 sF2) (eO)),
  iP (oM (cg gG0 gF0) (cs sG15 sF2) (eO)),
  iP (oM (cg gG9 gF0) (cs sG0 sF3) (eO)),
  iP (o2 (iaLT 4) (cg gG15 gF2) (cg gG0 gF3) (cs sG1 sF3) (eO)),
  iP (oD (ldT 4 true) (cg gG1 gF3) (cs sG2 sF3) (eO)),
  iP (o2 (iaLT 4) (cg gG5 gF2) (cg gG6 gF2) (cs sG3 sF3) (eO)),
  iW (oW2 (storeT 4) (cg gG3 gF3) (cg gG14 gF2) s0 (eO)),
  iP (o2 (iaLT 4) (cg gG7 gF2) (cg gG9 gF2) (cs sG4 sF3) (eO)),
  iW (oW2 (storeT 4) (cg gG4 gF3) (cg gG2 gF3) s0 (eO))]))
 (cO (oM (cg gG9 gF0) (cs sG3 sF2) (
  o2 (arithK .sub) (cg gG3 gF2) (gC (.int .i64 1)) (cs sG4 sF2) (
  oM (cg gG4 gF2) (cs sG9 sF0) (
  eO)))))))))))
 (cO (oM (cg gG8 gF0) (cs sG15 sF0) (
  o2 (arithK .add) (cg gG15 gF0) (gC (.int .i64 1)) (cs sG0 sF1) (
  oM (cg gG0 gF1) (cs sG8 sF0) (
  eO)))))))))
def fn358 : Fc := fnT [(cs sG0 sF0), (cs sG1 sF0), (cs sG2 sF0), (cs sG3 sF0)] (rN []) co358
theorem se358 : FnS E 358 fn358 := fnOk (gv := gvT) (tab := asc []) (tabv := tabv3) (yl := ylv) (q := 4) (rf := rf358) (fun _ => rfl) asc_nil htabv3 hylv (by kernel_rfl) (by kernel_rfl) (by kernel_rfl)
def co343 : Cd := cS (cO (oM (gC (.bool true)) (cs sG10 sF0) (
  eO)))
 (cS (cO (oM (gC (.bool true)) (cs sG11 sF0) (
  eO)))
 (cB 0 (cL (cB 1 (cS (cO (oM (cg gG2 gF0) (cs sG5 sF1) (
  oM (cg gG1 gF0) (cs sG6 sF1) (
  o2 (arithK .sub) (cg gG5 gF1) (cg gG6 gF1) (cs sG7 sF1) (
  oM (cg gG7 gF1) (cs sG12 sF0) (
  eO))))))
 (cS (cS (cO (oM (cg gG12 gF0) (cs sG8 sF1) (
  o2 (arithK .leq) (cg gG8 gF1) (gC (.int .i64 12)) (cs sG9 sF1) (
  eO))))
 (cC (cg gG9 gF1) (cS (cO (oM (cg gG0 gF0) (cs sG10 sF1) (
  oM (cg gG1 gF0) (cs sG11 sF1) (
  oM (cg gG2 gF0) (cs sG12 sF1) (
  oM (cg gG4 gF0) (cs sG13 sF1) (
  oF fn358 [(cg gG10 gF1), (cg gG11 gF1), (cg gG12 gF1), (cg gG13 gF1)] (cs sG14 sF1) (
  eO)))))))
 (cR))
 (cSk)))
 (cS (cS (cO (oM (cg gG3 gF0) (cs sG15 sF1) (
  o2 (arithK .eql) (cg gG15 gF1) (gC (.int .i64 0)) (cs sG0 sF2) (
  eO))))
 (cC (cg gG0 gF2) (cS (cO (oM (cg gG0 gF0) (cs sG1 sF2) (
  oM (cg gG1 gF0) (cs sG2 sF2) (
  oM (cg gG2 gF0) (cs sG3 sF2) (
  oM (cg gG4 gF0) (cs sG4 sF2) (
  oF fX [(cg gG1 gF2), (cg gG2 gF2), (cg gG3 gF2), (cg gG4 gF2)] (cs sG5 sF2) (
  eO)))))))
 (cR))
 (cSk)))
 (cS (cS (cO (oM (cg gG10 gF0) (cs sG6 sF2) (
  o1 (unT .not) (cg gG6 gF2) (cs sG7 sF2) (
  eO))))
 (cC (cg gG7 gF2) (cS (cO (oM (cg gG0 gF0) (cs sG8 sF2) (
  oM (cg gG1 gF0) (cs sG9 sF2) (
  oM (cg gG2 gF0) (cs sG10 sF2) (
  oM (cg gG4 gF0) (cs sG11 sF2) (
  oF fX [(cg gG8 gF2), (cg gG9 gF2), (cg gG10 gF2), (cg gG11 gF2)] (cs sG12 sF2) (
  eO)))))))
 (cO (oM (cg gG3 gF0) (cs sG13 sF2) (
  o2 (arithK .sub) (cg gG13 gF2) (gC (.int .i64 1)) (cs sG14 sF2) (
  oM (cg gG14 gF2) (cs sG3 sF0) (
  eO))))))
 (cSk)))
 (cS (cO (oM (cg gG0 gF0) (cs sG0 sF3) (
  oM (cg gG1 gF0) (cs sG1 sF3) (
  oM (cg gG2 gF0) (cs sG2 sF3) (
  oM (cg gG4 gF0) (cs sG3 sF3) (
  oF fX [(cg gG0 gF3), (cg gG1 gF3), (cg gG2 gF3), (cg gG3 gF3)] (cs sG4 sF3) (
  oM (cg gG4 gF3) (cs sG15 sF2) (
  o1 (extT 0) (cg gG15 gF2) (cs sG5 sF3) (
  o1 (extT 1) (cg gG15 gF2) (cs sG6 sF3) (
  oM (cg gG5 gF3) (cs sG13 sF0) (
  oM (cg gG6 gF3) (cs sG14 sF0) (
  eO))))))))))))
 (cS (cS (cO (oM (cg gG14 gF0) (cs sG7 sF3) (
  o2 (arithK .eql) (cg gG7 gF3) (gC (.int .i64 2)) (cs sG8 sF3) (
  eO))))
 (cC (cg gG8 gF3) (cS (cO (oM (cg gG0 gF0) (cs sG9 sF3) (
  oM (cg gG1 gF0) (cs sG10 sF3) (
  oM (cg gG2 gF0) (cs sG11 sF3) (
  oM (cg gG4 gF0) (cs sG12 sF3) (
  oF fX [(cg gG9 gF3), (cg gG10 gF3), (cg gG11 gF3), (cg gG12 gF3)] (cs sG13 sF3) (
  eO)))))))
 (cS (cO (oM (cg gG2 gF0) (cs sG14 sF3) (
  o2 (arithK .sub) (cg gG14 gF3) (gC (.int .i64 1)) (cs sG15 sF3) (
  oM (cg gG13 gF0) (cs sG0 sF4) (
  oM (cg gG1 gF0) (cs sG1 sF4) (
  o2 (arithK .sub) (cg gG0 gF4) (cg gG1 gF4) (cs sG2 sF4) (
  o2 (arithK .sub) (cg gG15 gF3) (cg gG2 gF4) (cs sG3 sF4) (
  oM (cg gG3 gF4) (cs sG13 sF0) (
  eO)))))))))
 (cO (oM (gC (.int .i64 1)) (cs sG14 sF0) (
  eO)))))
 (cSk)))
 (cS (cS (cO (oM (cg gG10 gF0) (cs sG4 sF4) (
  oM (cg gG4 gF4) (cs sG5 sF4) (
  oG (cg gG5 gF4) true (cs sG6 sF4) (oM (cg gG11 gF0) (cs sG6 sF4) (eO)) (
  o3 pickT (cg gG5 gF4) (cg gG6 gF4) (gC (.bool false)) (cs sG7 sF4) (
  oM (cg gG7 gF4) (cs sG8 sF4) (
  oG (cg gG8 gF4) true (cs sG9 sF4) (oM (cg gG14 gF0) (cs sG9 sF4) (eO)) (
  oG (cg gG8 gF4) true (cs sG10 sF4) (o2 (arithK .eql) (cg gG9 gF4) (gC (.int .i64 1)) (cs sG10 sF4) (eO)) (
  o3 pickT (cg gG8 gF4) (cg gG10 gF4) (gC (.bool false)) (cs sG11 sF4) (
  eO))))))))))
 (cC (cg gG11 gF4) (cS (cO (oM (cg gG0 gF0) (cs sG12 sF4) (
  oM (cg gG1 gF0) (cs sG13 sF4) (
  oM (cg gG2 gF0) (cs sG14 sF4) (
  oM (cg gG4 gF0) (cs sG15 sF4) (
  oF fX [(cg gG12 gF4), (cg gG13 gF4), (cg gG14 gF4), (cg gG15 gF4)] (cs sG0 sF5) (
  eO)))))))
 (cC (cg gG0 gF5) (cR)
 (cSk)))
 (cSk)))
 (cS (cS (cD [] [iP (oM (cg gG1 gF0) (cs sG1 sF5) (eO)),
  iP (o2 (arithK .gtr) (cg gG1 gF5) (gC (.int .i64 0)) (cs sG2 sF5) (eO)),
  iP (oM (cg gG2 gF5) (cs sG3 sF5) (eO)),
  iP (oG (cg gG3 gF5) true (cs sG4 sF5) (oM (cg gG4 gF0) (cs sG4 sF5) (eO)) (eO)),
  iP (oG (cg gG3 gF5) true (cs sG5 sF5) (oM (cg gG0 gF0) (cs sG5 sF5) (eO)) (eO)),
  iP (oG (cg gG3 gF5) true (cs sG6 sF5) (oM (cg gG1 gF0) (cs sG6 sF5) (eO)) (eO)),
  iP (oG (cg gG3 gF5) true (cs sG7 sF5) (o2 (arithK .sub) (cg gG6 gF5) (gC (.int .i64 1)) (cs sG7 sF5) (eO)) (eO)),
  iP (oG (cg gG3 gF5) true (cs sG8 sF5) (o2 (iaLT 4) (cg gG5 gF5) (cg gG7 gF5) (cs sG8 sF5) (eO)) (eO)),
  iP (oG (cg gG3 gF5) true (cs sG9 sF5) (oD (ldT 4 true) (cg gG8 gF5) (cs sG9 sF5) (eO)) (eO)),
  iP (oG (cg gG3 gF5) true (cs sG10 sF5) (oM (cg gG0 gF0) (cs sG10 sF5) (eO)) (eO)),
  iP (oG (cg gG3 gF5) true (cs sG11 sF5) (oM (cg gG13 gF0) (cs sG11 sF5) (eO)) (eO)),
  iP (oG (cg gG3 gF5) true (cs sG12 sF5) (o2 (iaLT 4) (cg gG10 gF5) (cg gG11 gF5) (cs sG12 sF5) (eO)) (eO)),
  iP (oG (cg gG3 gF5) true (cs sG13 sF5) (oD (ldT 4 true) (cg gG12 gF5) (cs sG13 sF5) (eO)) (eO)),
  iW (oG (cg gG3 gF5) true (cs sG14 sF5) (oV tabv3 ylv (cg gG4 gF5) [(cg gG9 gF5), (cg gG13 gF5)] (cs sG14 sF5) (eO)) (eO)),
  iP (oG (cg gG3 gF5) true (cs sG15 sF5) (o2 (arithK .lss) (cg gG14 gF5) (gC (.int .i64 0)) (cs sG15 sF5) (eO)) (eO)),
  iP (oG (cg gG3 gF5) true (cs sG0 sF6) (o1 (unT .not) (cg gG15 gF5) (cs sG0 sF6) (eO)) (eO)),
  iP (o3 pickT (cg gG3 gF5) (cg gG0 gF6) (gC (.bool false)) (cs sG1 sF6) (eO))])
 (cC (cg gG1 gF6) (cS (cO (oM (cg gG0 gF0) (cs sG2 sF6) (
  oM (cg gG1 gF0) (cs sG3 sF6) (
  oM (cg gG2 gF0) (cs sG4 sF6) (
  oM (cg gG13 gF0) (cs sG5 sF6) (
  oM (cg gG4 gF0) (cs sG6 sF6) (
  oF fX [(cg gG2 gF6), (cg gG3 gF6), (cg gG4 gF6), (cg gG5 gF6), (cg gG6 gF6)] (cs sG7 sF6) (
  oM (cg gG7 gF6) (cs sG15 sF0) (
  eO)))))))))
 (cS (cO (oM (cg gG15 gF0) (cs sG8 sF6) (
  oM (cg gG8 gF6) (cs sG1 sF0) (
  eO))))
 (cE 1)))
 (cSk)))
 (cS (cO (oM (cg gG0 gF0) (cs sG10 sF6) (
  oM (cg gG1 gF0) (cs sG11 sF6) (
  oM (cg gG2 gF0) (cs sG12 sF6) (
  oM (cg gG13 gF0) (cs sG13 sF6) (
  oM (cg gG4 gF0) (cs sG14 sF6) (
  oF fX [(cg gG10 gF6), (cg gG11 gF6), (cg gG12 gF6), (cg gG13 gF6), (cg gG14 gF6)] (cs sG15 sF6) (
  oM (cg gG15 gF6) (cs sG9 sF6) (
  o1 (extT 0) (cg gG9 gF6) (cs sG0 sF7) (
  o1 (extT 1) (cg gG9 gF6) (cs sG1 sF7) (
  oM (cg gG0 gF7) (cs sG0 sF1) (
  oM (cg gG1 gF7) (cs sG1 sF1) (
  eO)))))))))))))
 (cS (cO (oM (cg gG1 gF1) (cs sG2 sF7) (
  oM (cg gG2 gF7) (cs sG11 sF0) (
  eO))))
 (cS (cO (oM (cg gG0 gF1) (cs sG3 sF7) (
  oM (cg gG1 gF0) (cs sG4 sF7) (
  o2 (arithK .sub) (cg gG3 gF7) (cg gG4 gF7) (cs sG5 sF7) (
  oM (cg gG2 gF0) (cs sG6 sF7) (
  oM (cg gG0 gF1) (cs sG7 sF7) (
  o2 (arithK .sub) (cg gG6 gF7) (cg gG7 gF7) (cs sG8 sF7) (
  oM (cg gG5 gF7) (cs sG2 sF1) (
  oM (cg gG8 gF7) (cs sG3 sF1) (
  eO))))))))))
 (cS (cO (oM (cg gG12 gF0) (cs sG9 sF7) (
  o2 (arithK .quo) (cg gG9 gF7) (gC (.int .i64 8)) (cs sG10 sF7) (
  oM (cg gG10 gF7) (cs sG4 sF1) (
  eO)))))
 (cS (cO (oM (cg gG2 gF1) (cs sG11 sF7) (
  oM (cg gG3 gF1) (cs sG12 sF7) (
  o2 (arithK .lss) (cg gG11 gF7) (cg gG12 gF7) (cs sG13 sF7) (
  eO)))))
 (cC (cg gG13 gF7) (cS (cO (oM (cg gG2 gF1) (cs sG14 sF7) (
  oM (cg gG4 gF1) (cs sG15 sF7) (
  o2 (arithK .geq) (cg gG14 gF7) (cg gG15 gF7) (cs sG0 sF8) (
  oM (cg gG0 gF8) (cs sG10 sF0) (
  eO))))))
 (cS (cO (oM (cg gG0 gF0) (cs sG1 sF8) (
  oM (cg gG1 gF0) (cs sG2 sF8) (
  oM (cg gG0 gF1) (cs sG3 sF8) (
  oM (cg gG3 gF0) (cs sG4 sF8) (
  oM (cg gG4 gF0) (cs sG5 sF8) (
  oF fX [(cg gG1 gF8), (cg gG2 gF8), (cg gG3 gF8), (cg gG4 gF8), (cg gG5 gF8)] (cs sG6 sF8) (
  eO))))))))
 (cO (oM (cg gG0 gF1) (cs sG7 sF8) (
  o2 (arithK .add) (cg gG7 gF8) (gC (.int .i64 1)) (cs sG8 sF8) (
  oM (cg gG8 gF8) (cs sG1 sF0) (
  eO)))))))
 (cS (cO (oM (cg gG3 gF1) (cs sG9 sF8) (
  oM (cg gG4 gF1) (cs sG10 sF8) (
  o2 (arithK .geq) (cg gG9 gF8) (cg gG10 gF8) (cs sG11 sF8) (
  oM (cg gG11 gF8) (cs sG10 sF0) (
  eO))))))
 (cS (cO (oM (cg gG0 gF0) (cs sG12 sF8) (
  oM (cg gG0 gF1) (cs sG13 sF8) (
  o2 (arithK .add) (cg gG13 gF8) (gC (.int .i64 1)) (cs sG14 sF8) (
  oM (cg gG2 gF0) (cs sG15 sF8) (
  oM (cg gG3 gF0) (cs sG0 sF9) (
  oM (cg gG4 gF0) (cs sG1 sF9) (
  oF fX [(cg gG12 gF8), (cg gG14 gF8), (cg gG15 gF8), (cg gG0 gF9), (cg gG1 gF9)] (cs sG2 sF9) (
  eO)))))))))
 (cO (oM (cg gG0 gF1) (cs sG3 sF9) (
  oM (cg gG3 gF9) (cs sG2 sF0) (
  eO))))))))))))))))))))))))
def fn343 : Fc := fnT [(cs sG0 sF0), (cs sG1 sF0), (cs sG2 sF0), (cs sG3 sF0), (cs sG4 sF0)] (rN []) co343
theorem se343 : FnS E 343 fn343 := fnOk (gv := gvT) (tab := asc [(358, fn358)]) (tabv := tabv3) (yl := ylv) (q := 5) (rf := rf343) (fun _ => rfl) (asc_cons se358 asc_nil) htabv3 hylv (by kernel_rfl) (by kernel_rfl) (by kernel_rfl)
def co306 : Cd := cS (cO (oM (cg gG0 gF0) (cs sG5 sF0) (
  o1 lenLT (cg gG5 gF0) (cs sG6 sF0) (
  oM (cg gG6 gF0) (cs sG4 sF0) (
  eO)))))
 (cO (oM (cg gG0 gF0) (cs sG7 sF0) (
  oM (cg gG4 gF0) (cs sG8 sF0) (
  oM (cg gG4 gF0) (cs sG9 sF0) (
  o1 (toIntT .u64) (cg gG9 gF0) (cs sG10 sF0) (
  oF fn234 [(cg gG10 gF0)] (cs sG11 sF0) (
  oM (cg gG1 gF0) (cs sG12 sF0) (
  oF fn343 [(cg gG7 gF0), (gC (.int .i64 0)), (cg gG8 gF0), (cg gG11 gF0), (cg gG12 gF0)] (cs sG13 sF0) (
  eO)))))))))
def fn306 : Fc := fnT [(cs sG0 sF0), (cs sG1 sF0)] (rN []) co306
theorem se306 : FnS E 306 fn306 := fnOk (gv := gvT) (tab := asc [(234, fn234), (343, fn343)]) (tabv := tabv3) (yl := ylv) (q := 2) (rf := rf306) (fun _ => rfl) (asc_cons se234 (asc_cons se343 asc_nil)) htabv3 hylv (by kernel_rfl) (by kernel_rfl) (by kernel_rfl)
def co237 : Cd := cS (cO (oM (gC .nils) (cs sG4 sF0) (
  eO)))
 (cS (cO (oM (cg gG0 gF0) (cs sG8 sF0) (
  oF fn171 [(cg gG8 gF0)] (cs sG9 sF0) (
  oM (cg gG9 gF0) (cs sG5 sF0) (
  eO)))))
 (cS (cS (cO (oM (cg gG1 gF0) (cs sG10 sF0) (
  o1 lenLT (cg gG10 gF0) (cs sG11 sF0) (
  oM (gC (.int .i64 0)) (cs sG12 sF0) (
  eO)))))
 (cB 0 (cL (cS (cO (o2 (arithK .lss) (cg gG12 gF0) (cg gG11 gF0) (cs sG13 sF0) (
  eO)))
 (cS (cC (cg gG13 gF0) (cSk)
 (cE 0))
 (cS (cB 1 (cS (cO (o2 (iaLT 4) (cg gG10 gF0) (cg gG12 gF0) (cs sG14 sF0) (
  oD (ldT 4 true) (cg gG14 gF0) (cs sG15 sF0) (
  oW0 (allocT [(.str []), (.int .i64 0), .nils, .nils]) (cs sG7 sF0) (
  oW2 (storeT 4) (cg gG7 gF0) (cg gG15 gF0) s0 (
  eO))))))
 (cS (cO (oM (cg gG5 gF0) (cs sG0 sF1) (
  oNN (mkfT 305) [] [(cg gG7 gF0)] (cs sG1 sF1) (
  oF fn170 [(cg gG0 gF1), (cg gG1 gF1)] (cs sG2 sF1) (
  oM (cg gG2 gF1) (cs sG5 sF0) (
  eO))))))
 (cO (oM (cg gG5 gF0) (cs sG3 sF1) (
  oD (ldT 4 true) (cg gG7 gF0) (cs sG4 sF1) (
  oN (mklT [(.str []), (.int .i64 0), .nils, .nils] 1 4 [(0, 4)]) [(cg gG4 gF1)] (cs sG5 sF1) (
  oW2 (appT 4 72) (cg gG3 gF1) (cg gG5 gF1) (cs sG6 sF1) (
  oM (cg gG6 gF1) (cs sG5 sF0) (
  eO))))))))))
 (cO (o2 (arithK .add) (cg gG12 gF0) (gC (.int .i64 1)) (cs sG7 sF1) (
  oM (cg gG7 gF1) (cs sG12 sF0) (
  eO))))))))))
 (cS (cO (oM (cg gG5 gF0) (cs sG8 sF1) (
  oF fn306 [(cg gG8 gF1), (gC (.fn 307 [] []))] (cs sG9 sF1) (
  eO))))
 (cS (cO (oM (cg gG5 gF0) (cs sG10 sF1) (
  oM (cg gG10 gF1) (cs sG4 sF0) (
  eO))))
 (cR)))))
def fn237 : Fc := fnT [(cs sG0 sF0), (cs sG1 sF0)] (r1 (cg gG4 gF0)) co237
theorem se237 : FnS E 237 fn237 := fnOk (gv := gvT) (tab := asc [(171, fn171), (170, fn170), (306, fn306)]) (tabv := tabv3) (yl := ylv) (q := 2) (rf := rf237) (fun _ => rfl) (asc_cons se171 (asc_cons se170 (asc_cons se306 asc_nil))) htabv3 hylv (by kernel_rfl) (by kernel_rfl) (by kernel_rfl)
def co169 : Cd := cS (cO (oW1 (boxT 8) (cg gG0 gF0) (cs sG1 sF0) (
  oW0 (allocT [(.int .i64 0), (.int .i64 0), (.int .i64 0), .nils, (.int .i64 0), (.int .i64 0), (.int .i64 0), .nils]) (cs sG2 sF0) (
  eO))))
 (cS (cS (cO (o1 (fadT 4) (cg gG1 gF0) (cs sG3 sF0) (
  o1 (fadT 1) (cg gG3 gF0) (cs sG4 sF0) (
  oD ld1T (cg gG4 gF0) (cs sG5 sF0) (
  o2 (arithK .eql) (cg gG5 gF0) (gC (.int .i64 1)) (cs sG6 sF0) (
  eO))))))
 (cC (cg gG6 gF0) (cO (o1 (fadT 3) (cg gG1 gF0) (cs sG7 sF0) (
  oD ld1T (cg gG7 gF0) (cs sG8 sF0) (
  o1 (fadT 4) (cg gG1 gF0) (cs sG9 sF0) (
  o1 (fadT 3) (cg gG9 gF0) (cs sG10 sF0) (
  oD ld1T (cg gG10 gF0) (cs sG11 sF0) (
  oF fn237 [(cg gG8 gF0), (cg gG11 gF0)] (cs sG12 sF0) (
  o1 (fadT 3) (cg gG1 gF0) (cs sG13 sF0) (
  oW2 (storeT 1) (cg gG13 gF0) (cg gG12 gF0) s0 (
  eO))))))))))
 (cO (o1 (fadT 4) (cg gG1 gF0) (cs sG14 sF0) (
  o1 (fadT 3) (cg gG14 gF0) (cs sG15 sF0) (
  oD ld1T (cg gG15 gF0) (cs sG0 sF1) (
  o1 (fadT 3) (cg gG1 gF0) (cs sG1 sF1) (
  oW2 (storeT 1) (cg gG1 gF1) (cg gG0 gF1) s0 (
  eO)))))))))
 (cS (cO (o1 (fadT 4) (cg gG1 gF0) (cs sG2 sF1) (
  o1 (fadT 2) (cg gG2 gF1) (cs sG3 sF1) (
  oD ld1T (cg gG3 gF1) (cs sG4 sF1) (
  oN (buildT [(.int .i64 0), (.int .i64 0), (.int .i64 0), .nils] []) [] (cs sG5 sF1) (
  o1 (fadT 0) (cg gG1 gF0) (cs sG6 sF1) (
  oW2 (storeT 1) (cg gG6 gF1) (cg gG4 gF1) s0 (
  o1 (fadT 4) (cg gG1 gF0) (cs sG7 sF1) (
  oW2 (storeT 4) (cg gG7 gF1) (cg gG5 gF1) s0 (
  eO))))))))))
 (cS (cO (oD (ldT 8 true) (cg gG1 gF0) (cs sG8 sF1) (
  oW2 (storeT 8) (cg gG2 gF0) (cg gG8 gF1) s0 (
  eO))))
 (cR))))
def fn169 : Fc := fnT [(cs sG0 sF0)] (rN [rC (cg gG2 gF0) 8 true]) co169
theorem se169 : FnS E 169 fn169 := fnOk (gv := gvT) (tab := asc [(237, fn237)]) (tabv := tabv3) (yl := ylv) (q := 1) (rf := rf169) (fun _ => rfl) (asc_cons se237 asc_nil) htabv3 hylv (by kernel_rfl) (by kernel_rfl) (by kernel_rfl)
def co50 : Cd := cS (cO (oM (gC (.bool false)) (cs sG4 sF0) (
  eO)))
 (cS (cO (oM (cg gG0 gF0) (cs sG5 sF0) (
  oD b2sT (cg gG5 gF0) (cs sG6 sF0) (
  oM (cg gG1 gF0) (cs sG7 sF0) (
  oD b2sT (cg gG7 gF0) (cs sG8 sF0) (
  o2 (arithK .eql) (cg gG6 gF0) (cg gG8 gF0) (cs sG9 sF0) (
  oM (cg gG9 gF0) (cs sG4 sF0) (
  eO))))))))
 (cR))
def fn50 : Fc := fnT [(cs sG0 sF0), (cs sG1 sF0)] (r1 (cg gG4 gF0)) co50
theorem se50 : FnS E 50 fn50 := fnOk (gv := gvT) (tab := asc []) (tabv := tabv3) (yl := ylv) (q := 2) (rf := rf50) (fun _ => rfl) asc_nil htabv3 hylv (by kernel_rfl) (by kernel_rfl) (by kernel_rfl)
def co174 : Cd := cS (cO (oW1 (boxT 8) (cg gG0 gF0) (cs sG2 sF0) (
  oW1 (boxT 8) (cg gG1 gF0) (cs sG3 sF0) (
  oM (gC (.bool false)) (cs sG4 sF0) (
  eO)))))
 (cS (cO (oD (ldT 8 true) (cg gG2 gF0) (cs sG10 sF0) (
  oF fn118 [(cg gG10 gF0)] (cs sG11 sF0) (
  oM (cg gG11 gF0) (cs sG9 sF0) (
  o1 (extT 0) (cg gG9 gF0) (cs sG12 sF0) (
  o1 (extT 1) (cg gG9 gF0) (cs sG13 sF0) (
  oM (cg gG12 gF0) (cs sG5 sF0) (
  oM (cg gG13 gF0) (cs sG6 sF0) (
  eO)))))))))
 (cS (cO (oD (ldT 8 true) (cg gG3 gF0) (cs sG15 sF0) (
  oF fn118 [(cg gG15 gF0)] (cs sG0 sF1) (
  oM (cg gG0 gF1) (cs sG14 sF0) (
  o1 (extT 0) (cg gG14 gF0) (cs sG1 sF1) (
  o1 (extT 1) (cg gG14 gF0) (cs sG2 sF1) (
  oM (cg gG1 gF1) (cs sG7 sF0) (
  oM (cg gG2 gF1) (cs sG8 sF0) (
  eO)))))))))
 (cS (cO (oM (cg gG5 gF0) (cs sG3 sF1) (
  oM (cg gG7 gF0) (cs sG4 sF1) (
  oF fn50 [(cg gG3 gF1), (cg gG4 gF1)] (cs sG5 sF1) (
  oM (cg gG5 gF1) (cs sG4 sF0) (
  eO))))))
 (cR))))
def fn174 : Fc := fnT [(cs sG0 sF0), (cs sG1 sF0)] (r1 (cg gG4 gF0)) co174
theorem se174 : FnS E 174 fn174 := fnOk (gv := gvT) (tab := asc [(118, fn118), (50, fn50)]) (tabv := tabv3) (yl := ylv) (q := 2) (rf := rf174) (fun _ => rfl) (asc_cons se118 (asc_cons se50 asc_nil)) htabv3 hylv (by kernel_rfl) (by kernel_rfl) (by kernel_rfl)
def co240 : Cd := cS (cO (oW1 (boxT 1) (cg gG0 gF0) (cs sG1 sF0) (
  oM (gC .nilf) (cs sG2 sF0) (
  eO))))
 (cS (cO (oNN (mkfT 308) [] [(cg gG1 gF0)] (cs sG3 sF0) (
  oM (cg gG3 gF0) (cs sG2 sF0) (
  eO))))
 (cR))
def fn240 : Fc := fnT [(cs sG0 sF0)] (r1 (cg gG2 gF0)) co240
theorem se240 : FnS E 240 fn240 := fnOk (gv := gvT) (tab := asc []) (tabv := tabv3) (yl := ylv) (q := 1) (rf := rf240) (fun _ => rfl) asc_nil htabv3 hylv (by kernel_rfl) (by kernel_rfl) (by kernel_rfl)
def co179 : Cd := cS (cO (oW1 (boxT 1) (cg gG0 gF0) (cs sG2 sF0) (
  oW0 (allocT [(.int .i64 0)]) (cs sG4 sF0) (
  eO))))
 (cS (cB 0 (cS (cO (oD ld1T (cg gG2 gF0) (cs sG0 sF1) (
  o2 (eqT false .ptr) (cg gG0 gF1) (gC .nilp) (cs sG1 sF1) (
  oM (cg gG1 gF1) (cs sG15 sF0) (
  eO)))))
 (cC (cg gG15 gF0) (cS (cO (oW2 (storeT 1) (cg gG4 gF0) (gC (.int .i64 1)) s0 (
  eO)))
 (cR))
 (cS (cD [] [iP (oM (cg gG1 gF0) (cs sG3 sF1) (eO)),
  iP (o1 lenLT (cg gG3 gF1) (cs sG4 sF1) (eO)),
  iW (oF fn121 [(cg gG4 gF1)] (cs sG5 sF1) (eO)),
  iR 0 1 (rd1 ld1T (cg gG2 gF0)) (cs sG6 sF1),
  iP (o1 nchkT (cg gG6 gF1) (cs sG7 sF1) (eO)),
  iP (o1 (fadT 1) (cg gG7 gF1) (cs sG8 sF1) (eO)),
  iR 0 1 (rd1 ld1T (cg gG8 gF1)) (cs sG9 sF1),
  iP (o2 (arithK .gtr) (cg gG5 gF1) (cg gG9 gF1) (cs sG10 sF1) (eO)),
  iP (oM (cg gG10 gF1) (cs sG2 sF1) (eO))])
 (cC (cg gG2 gF1) (cS (cO (oW2 (storeT 1) (cg gG4 gF0) (gC (.int .i64 7)) s0 (
  eO)))
 (cR))
 (cSk))))))
 (cS (cO (oD ld1T (cg gG2 gF0) (cs sG11 sF1) (
  oF fn78 [(cg gG11 gF1)] (cs sG12 sF1) (
  oW0 (allocT [(.int .i64 0), (.int .i64 0)]) (cs sG5 sF0) (
  oW2 (storeT 2) (cg gG5 gF0) (cg gG12 gF1) s0 (
  eO))))))
 (cS (cO (o1 (fadT 0) (cg gG5 gF0) (cs sG13 sF1) (
  oD ld1T (cg gG13 gF1) (cs sG14 sF1) (
  o2 (arithK .sub) (gC (.int .i64 1)) (cg gG14 gF1) (cs sG15 sF1) (
  oW0 (allocT [(.int .i64 0)]) (cs sG6 sF0) (
  oW2 (storeT 1) (cg gG6 gF0) (cg gG15 gF1) s0 (
  eO)))))))
 (cS (cS (cO (oM (cg gG1 gF0) (cs sG0 sF2) (
  oF fn240 [(cg gG0 gF2)] (cs sG1 sF2) (
  eO))))
 (cB 1 (cRg tabv3 (cg gG1 gF2) [34, 35] (.seq (.ops [ROp.mk (some 7) none (.p (.mv (.t 34)))])
 (.ops [ROp.mk (some 8) none (.p (.mv (.t 35)))])) (.block 2 (.seq (.draw [(ROp.mk (some 36) none (.d (.load 1 false (.t 2))), .r 0 1),
   (ROp.mk (some 37) none (.p (.nchk (.t 36))), .p),
   (ROp.mk (some 38) none (.p (.fad 0 (.t 37))), .p),
   (ROp.mk (some 39) none (.d (.load 1 false (.t 38))), .r 0 1),
   (ROp.mk (some 40) none (.d (.load 1 false (.t 2))), .r 0 0),
   (ROp.mk (some 41) none (.d (.load 1 false (.t 6))), .r 0 0),
   (ROp.mk (some 42) none (.p (.mv (.t 7))), .p),
   (ROp.mk (some 43) none (.w (.call 79 [(.t 40), (.t 41), (.t 42)])), .w),
   (ROp.mk (some 44) none (.p (.mv (.t 8))), .p),
   (ROp.mk (some 45) none (.w (.call 81 [(.t 39), (.t 43), (.t 44)])), .w),
   (ROp.mk (some 9) none (.p (.mv (.t 45))), .p)] [])
  (.seq (.ops [ROp.mk (some 46) none (.p (.mv (.t 9))),
   ROp.mk (some 47) none (.p (.arith .neq (.t 46) (.c (.int .i64 0))))])
  (.cond (.t 47) (.seq (.ops [ROp.mk (some 48) none (.p (.mv (.t 9))),
    ROp.mk none none (.w (.store 1 (.t 4) (.t 48)))])
   (.ret))
  (.skip))))))))
 (cS (cO (oW2 (mksT [(.int .u8 0)] 1 1) (gC (.int .i64 32)) (gC (.int .i64 32)) (cs sG1 sF3) (
  oM (cg gG1 gF3) (cs sG10 sF0) (
  eO))))
 (cS (cO (oM (cg gG1 gF0) (cs sG2 sF3) (
  o1 lenLT (cg gG2 gF3) (cs sG3 sF3) (
  oM (cg gG3 gF3) (cs sG11 sF0) (
  eO)))))
 (cS (cO (oM (cg gG10 gF0) (cs sG4 sF3) (
  oD ld1T (cg gG6 gF0) (cs sG5 sF3) (
  o1 (toIntT .u8) (cg gG5 gF3) (cs sG6 sF3) (
  oM (cg gG11 gF0) (cs sG7 sF3) (
  o2 (arithK .shr) (cg gG7 gF3) (gC (.int .u64 24)) (cs sG8 sF3) (
  o1 (toIntT .u8) (cg gG8 gF3) (cs sG9 sF3) (
  oM (cg gG11 gF0) (cs sG10 sF3) (
  o2 (arithK .shr) (cg gG10 gF3) (gC (.int .u64 16)) (cs sG11 sF3) (
  o1 (toIntT .u8) (cg gG11 gF3) (cs sG12 sF3) (
  oM (cg gG11 gF0) (cs sG13 sF3) (
  o2 (arithK .shr) (cg gG13 gF3) (gC (.int .u64 8)) (cs sG14 sF3) (
  o1 (toIntT .u8) (cg gG14 gF3) (cs sG15 sF3) (
  oM (cg gG11 gF0) (cs sG0 sF4) (
  o1 (toIntT .u8) (cg gG0 gF4) (cs sG1 sF4) (
  oN (mklT [(.int .u8 0), (.int .u8 0), (.int .u8 0), (.int .u8 0), (.int .u8 0)] 5 1 [(0, 1), (1, 1), (2, 1), (3, 1), (4, 1)]) [(cg gG6 gF3), (cg gG9 gF3), (cg gG12 gF3), (cg gG15 gF3), (cg gG1 gF4)] (cs sG2 sF4) (
  oW2 (copyT 1) (cg gG4 gF3) (cg gG2 gF4) (cs sG3 sF4) (
  eO))))))))))))))))))
 (cS (cS (cO (oD ld1T (cg gG2 gF0) (cs sG4 sF4) (
  o1 nchkT (cg gG4 gF4) (cs sG5 sF4) (
  o1 (fadT 0) (cg gG5 gF4) (cs sG6 sF4) (
  oD ld1T (cg gG6 gF4) (cs sG7 sF4) (
  oM (cg gG10 gF0) (cs sG8 sF4) (
  oF fn81 [(cg gG7 gF4), (gC (.int .i64 0)), (cg gG8 gF4)] (cs sG9 sF4) (
  oM (cg gG9 gF4) (cs sG12 sF0) (
  eO)))))))))
 (cS (cO (oM (cg gG12 gF0) (cs sG10 sF4) (
  o2 (arithK .neq) (cg gG10 gF4) (gC (.int .i64 0)) (cs sG11 sF4) (
  eO))))
 (cC (cg gG11 gF4) (cS (cO (oM (cg gG12 gF0) (cs sG12 sF4) (
  oW2 (storeT 1) (cg gG4 gF0) (cg gG12 gF4) s0 (
  eO))))
 (cR))
 (cSk))))
 (cS (cS (cO (o1 (fadT 1) (cg gG5 gF0) (cs sG13 sF4) (
  oD ld1T (cg gG13 gF4) (cs sG14 sF4) (
  oF fn121 [(cg gG14 gF4)] (cs sG15 sF4) (
  oM (gC (.int .i64 0)) (cs sG0 sF5) (
  eO))))))
 (cB 3 (cL (cS (cO (o2 (arithK .lss) (cg gG0 gF5) (cg gG15 gF4) (cs sG1 sF5) (
  eO)))
 (cS (cC (cg gG1 gF5) (cSk)
 (cE 3))
 (cS (cB 4 (cS (cO (oM (cg gG0 gF5) (cs sG2 sF5) (
  oM (cg gG2 gF5) (cs sG13 sF0) (
  eO))))
 (cS (cD [] [iR 0 1 (rd1 ld1T (cg gG2 gF0)) (cs sG3 sF5),
  iP (o1 nchkT (cg gG3 gF5) (cs sG4 sF5) (eO)),
  iP (o1 (fadT 0) (cg gG4 gF5) (cs sG5 sF5) (eO)),
  iR 0 1 (rd1 ld1T (cg gG5 gF5)) (cs sG6 sF5),
  iP (oD ld1T (cg gG2 gF0) (cs sG7 sF5) (eO)),
  iP (o1 (fadT 0) (cg gG5 gF0) (cs sG8 sF5) (eO)),
  iP (oD ld1T (cg gG8 gF5) (cs sG9 sF5) (eO)),
  iP (oM (cg gG13 gF0) (cs sG10 sF5) (eO)),
  iW (oF fn79 [(cg gG7 gF5), (cg gG9 gF5), (cg gG10 gF5)] (cs sG11 sF5) (eO)),
  iP (oN (mklT (List.replicate 32 (.int .u8 0)) 32 1 []) [] (cs sG12 sF5) (eO)),
  iW (oF fn81 [(cg gG6 gF5), (cg gG11 gF5), (cg gG12 gF5)] (cs sG13 sF5) (eO)),
  iP (oM (cg gG13 gF5) (cs sG14 sF0) (eO))])
 (cS (cO (oM (cg gG14 gF0) (cs sG14 sF5) (
  o2 (arithK .neq) (cg gG14 gF5) (gC (.int .i64 0)) (cs sG15 sF5) (
  eO))))
 (cC (cg gG15 gF5) (cS (cO (oM (cg gG14 gF0) (cs sG0 sF6) (
  oW2 (storeT 1) (cg gG4 gF0) (cg gG0 gF6) s0 (
  eO))))
 (cR))
 (cSk))))))
 (cO (o2 (arithK .add) (cg gG0 gF5) (gC (.int .i64 1)) (cs sG1 sF6) (
  oM (cg gG1 gF6) (cs sG0 sF5) (
  eO))))))))))
 (cS (cO (oW2 (storeT 1) (cg gG4 gF0) (gC (.int .i64 0)) s0 (
  eO)))
 (cR)))))))))))
def fn179 : Fc := fnT [(cs sG0 sF0), (cs sG1 sF0)] (rN [rC (cg gG4 gF0) 1 false]) co179
theorem se179 : FnS E 179 fn179 := fnOk (gv := gvT) (tab := asc [(121, fn121), (78, fn78), (240, fn240), (79, fn79), (81, fn81)]) (tabv := tabv3) (yl := ylv) (q := 2) (rf := rf179) (fun _ => rfl) (asc_cons se121 (asc_cons se78 (asc_cons se240 (asc_cons se79 (asc_cons se81 asc_nil))))) htabv3 hylv (by kernel_rfl) (by kernel_rfl) (by kernel_rfl)
def co100 : Cd := cS (cO (oW1 (boxT 8) (cg gG1 gF0) (cs sG3 sF0) (
  oM (gC (.int .i64 0)) (cs sG4 sF0) (
  eO))))
 (cS (cO (oD (ldT 8 true) (cg gG3 gF0) (cs sG9 sF0) (
  oF fn118 [(cg gG9 gF0)] (cs sG10 sF0) (
  oM (cg gG10 gF0) (cs sG8 sF0) (
  o1 (extT 0) (cg gG8 gF0) (cs sG11 sF0) (
  o1 (extT 1) (cg gG8 gF0) (cs sG12 sF0) (
  oM (cg gG11 gF0) (cs sG5 sF0) (
  oM (cg gG12 gF0) (cs sG6 sF0) (
  eO)))))))))
 (cS (cO (oM (cg gG0 gF0) (cs sG13 sF0) (
  o1 nchkT (cg gG13 gF0) (cs sG14 sF0) (
  o1 (fadT 7) (cg gG14 gF0) (cs sG15 sF0) (
  oD ld1T (cg gG15 gF0) (cs sG0 sF1) (
  oM (cg gG5 gF0) (cs sG1 sF1) (
  oF fn179 [(cg gG0 gF1), (cg gG1 gF1)] (cs sG2 sF1) (
  oM (cg gG2 gF1) (cs sG7 sF0) (
  eO)))))))))
 (cS (cS (cO (oM (cg gG7 gF0) (cs sG3 sF1) (
  o2 (arithK .eql) (cg gG3 gF1) (gC (.int .i64 3)) (cs sG4 sF1) (
  eO))))
 (cC (cg gG4 gF1) (cO (oM (cg gG0 gF0) (cs sG5 sF1) (
  oN (buildT [(.int .i64 0), (.int .i64 0), (.int .i64 0), .nils, .nils, .nilm, .nilm] []) [] (cs sG6 sF1) (
  o1 nchkT (cg gG5 gF1) (cs sG7 sF1) (
  o1 (fadT 10) (cg gG7 gF1) (cs sG8 sF1) (
  oW2 (storeT 7) (cg gG8 gF1) (cg gG6 gF1) s0 (
  eO)))))))
 (cSk)))
 (cS (cO (oM (cg gG7 gF0) (cs sG9 sF1) (
  oM (cg gG9 gF1) (cs sG4 sF0) (
  eO))))
 (cR)))))
def fn100 : Fc := fnT [(cs sG0 sF0), (cs sG1 sF0)] (r1 (cg gG4 gF0)) co100
theorem se100 : FnS E 100 fn100 := fnOk (gv := gvT) (tab := asc [(118, fn118), (179, fn179)]) (tabv := tabv3) (yl := ylv) (q := 2) (rf := rf100) (fun _ => rfl) (asc_cons se118 (asc_cons se179 asc_nil)) htabv3 hylv (by kernel_rfl) (by kernel_rfl) (by kernel_rfl)
def co85 : Cd := cS (cO (oW1 (boxT 16) (cg gG1 gF0) (cs sG3 sF0) (
  oW0 (allocT [(.int .i64 0), (.int .i64 0), (.int .i64 0), .nils, (.int .i64 0), (.int .i64 0), (.int .i64 0), .nils]) (cs sG4 sF0) (
  oM (gC (.bool false)) (cs sG5 sF0) (
  eO)))))
 (cS (cO (oM (cg gG0 gF0) (cs sG9 sF0) (
  oF fn14 [(cg gG9 gF0)] (cs sG10 sF0) (
  oW0 (allocT [(.int .i64 0), (.int .i64 0), (.int .i64 0), .nils, (.int .i64 0), (.int .i64 0), (.int .i64 0), .nils]) (cs sG6 sF0) (
  oW2 (storeT 8) (cg gG6 gF0) (cg gG10 gF0) s0 (
  eO))))))
 (cS (cO (oD (ldT 8 true) (cg gG6 gF0) (cs sG11 sF0) (
  oW0 (allocT [(.int .i64 0), (.int .i64 0), (.int .i64 0), .nils, (.int .i64 0), (.int .i64 0), (.int .i64 0), .nils]) (cs sG7 sF0) (
  oW2 (storeT 8) (cg gG7 gF0) (cg gG11 gF0) s0 (
  eO)))))
 (cS (cS (cO (o1 (fadT 4) (cg gG3 gF0) (cs sG12 sF0) (
  oD ld1T (cg gG12 gF0) (cs sG13 sF0) (
  o1 (fadT 1) (cg gG7 gF0) (cs sG14 sF0) (
  oD ld1T (cg gG14 gF0) (cs sG15 sF0) (
  o2 (arithK .lss) (cg gG13 gF0) (cg gG15 gF0) (cs sG0 sF1) (
  eO)))))))
 (cC (cg gG0 gF1) (cS (cO (oD (ldT 8 true) (cg gG7 gF0) (cs sG1 sF1) (
  oW2 (storeT 8) (cg gG4 gF0) (cg gG1 gF1) s0 (
  oM (gC (.bool false)) (cs sG5 sF0) (
  eO)))))
 (cR))
 (cSk)))
 (cS (cS (cO (o1 (fadT 4) (cg gG7 gF0) (cs sG2 sF1) (
  o1 (fadT 0) (cg gG2 gF1) (cs sG3 sF1) (
  oD ld1T (cg gG3 gF1) (cs sG4 sF1) (
  oM (cg gG4 gF1) (cs sG8 sF0) (
  eO))))))
 (cB 0 (cS (cO (oM (cg gG8 gF0) (cs sG6 sF1) (
  o2 (arithK .neq) (cg gG6 gF1) (gC (.int .i64 0)) (cs sG7 sF1) (
  oM (cg gG7 gF1) (cs sG8 sF1) (
  oG (cg gG8 gF1) true (cs sG9 sF1) (oM (cg gG8 gF0) (cs sG9 sF1) (eO)) (
  oG (cg gG8 gF1) true (cs sG10 sF1) (o1 (fadT 5) (cg gG3 gF0) (cs sG10 sF1) (eO)) (
  oG (cg gG8 gF1) true (cs sG11 sF1) (oD ld1T (cg gG10 gF1) (cs sG11 sF1) (eO)) (
  oG (cg gG8 gF1) true (cs sG12 sF1) (o2 (arithK .eql) (cg gG9 gF1) (cg gG11 gF1) (cs sG12 sF1) (eO)) (
  o3 pickT (cg gG8 gF1) (cg gG12 gF1) (gC (.bool false)) (cs sG13 sF1) (
  oM (cg gG13 gF1) (cs sG5 sF1) (
  eO)))))))))))
 (cC (cg gG5 gF1) (cO (oD (ldT 8 true) (cg gG7 gF0) (cs sG14 sF1) (
  oF fn169 [(cg gG14 gF1)] (cs sG15 sF1) (
  oW2 (storeT 8) (cg gG7 gF0) (cg gG15 gF1) s0 (
  eO)))))
 (cS (cO (oM (cg gG8 gF0) (cs sG1 sF2) (
  o2 (arithK .neq) (cg gG1 gF2) (gC (.int .i64 0)) (cs sG2 sF2) (
  oM (cg gG2 gF2) (cs sG3 sF2) (
  oG (cg gG3 gF2) true (cs sG4 sF2) (oM (cg gG8 gF0) (cs sG4 sF2) (eO)) (
  oG (cg gG3 gF2) true (cs sG5 sF2) (o1 (fadT 3) (cg gG3 gF0) (cs sG5 sF2) (eO)) (
  oG (cg gG3 gF2) true (cs sG6 sF2) (oD ld1T (cg gG5 gF2) (cs sG6 sF2) (eO)) (
  oG (cg gG3 gF2) true (cs sG7 sF2) (o2 (arithK .lss) (cg gG4 gF2) (cg gG6 gF2) (cs sG7 sF2) (eO)) (
  o3 pickT (cg gG3 gF2) (cg gG7 gF2) (gC (.bool false)) (cs sG8 sF2) (
  oM (cg gG8 gF2) (cs sG0 sF2) (
  eO)))))))))))
 (cC (cg gG0 gF2) (cO (oN (buildT [(.int .i64 0), (.int .i64 0), (.int .i64 0), .nils] []) [] (cs sG9 sF2) (
  o1 (fadT 4) (cg gG7 gF0) (cs sG10 sF2) (
  oW2 (storeT 4) (cg gG10 gF2) (cg gG9 gF2) s0 (
  eO)))))
 (cSk)))))))
 (cS (cO (o1 (fadT 3) (cg gG7 gF0) (cs sG11 sF2) (
  oD ld1T (cg gG11 gF2) (cs sG12 sF2) (
  oF fn171 [(cg gG12 gF2)] (cs sG13 sF2) (
  oNN (mkfT 172) [] [(cg gG3 gF0)] (cs sG14 sF2) (
  oF fn170 [(cg gG13 gF2), (cg gG14 gF2)] (cs sG15 sF2) (
  o1 (fadT 3) (cg gG7 gF0) (cs sG0 sF3) (
  oW2 (storeT 1) (cg gG0 gF3) (cg gG15 gF2) s0 (
  eO)))))))))
 (cS (cO (o1 (fadT 4) (cg gG3 gF0) (cs sG1 sF3) (
  oD ld1T (cg gG1 gF3) (cs sG2 sF3) (
  o1 (fadT 1) (cg gG7 gF0) (cs sG3 sF3) (
  oW2 (storeT 1) (cg gG3 gF3) (cg gG2 gF3) s0 (
  eO))))))
 (cS (cD [] [iR 0 2 (rd1 (ldT 8 true) (cg gG7 gF0)) (cs sG4 sF3),
  iP (oD (ldT 8 true) (cg gG7 gF0) (cs sG5 sF3) (eO)),
  iP (oD (ldT 8 true) (cg gG6 gF0) (cs sG6 sF3) (eO)),
  iW (oF fn174 [(cg gG5 gF3), (cg gG6 gF3)] (cs sG7 sF3) (eO)),
  iP (oM (cg gG7 gF3) (cs sG8 sF3) (eO)),
  iP (oG (cg gG8 gF3) false (cs sG9 sF3) (oM (cg gG0 gF0) (cs sG9 sF3) (eO)) (eO)),
  iP (oG (cg gG8 gF3) false (cs sG10 sF3) (oD (ldT 8 true) (cg gG7 gF0) (cs sG10 sF3) (eO)) (eO)),
  iW (oG (cg gG8 gF3) false (cs sG11 sF3) (oF fn100 [(cg gG9 gF3), (cg gG10 gF3)] (cs sG11 sF3) (eO)) (eO)),
  iP (oG (cg gG8 gF3) false (cs sG12 sF3) (o2 (arithK .eql) (cg gG11 gF3) (gC (.int .i64 0)) (cs sG12 sF3) (eO)) (eO)),
  iP (o3 pickT (cg gG8 gF3) (gC (.bool true)) (cg gG12 gF3) (cs sG13 sF3) (eO)),
  iW (oW2 (storeT 8) (cg gG4 gF0) (cg gG4 gF3) s0 (eO)),
  iP (oM (cg gG13 gF3) (cs sG5 sF0) (eO))])
 (cR))))))))
def fn85 : Fc := fnT [(cs sG0 sF0), (cs sG1 sF0)] (rN [rC (cg gG4 gF0) 8 true, rT (cg gG5 gF0)]) co85
theorem se85 : FnS E 85 fn85 := fnOk (gv := gvT) (tab := asc [(14, fn14), (169, fn169), (171, fn171), (170, fn170), (174, fn174), (100, fn100)]) (tabv := tabv3) (yl := ylv) (q := 2) (rf := rf85) (fun _ => rfl) (asc_cons se14 (asc_cons se169 (asc_cons se171 (asc_cons se170 (asc_cons se174 (asc_cons se100 asc_nil)))))) htabv3 hylv (by kernel_rfl) (by kernel_rfl) (by kernel_rfl)
end
end Go.Proofs.YtnhbkimefglkiaaGreatDoor.HolderNone
