/- Printed by a program of this session (mkclaim.py): functions of the given program as code, and as threaded code. -/
import Derived.Test.YtnhbkimefglkiaaGreatDoorHealthNoneE
namespace Go.Proofs.YtnhbkimefglkiaaGreatDoor.HealthNone
open Go Go.Ai
set_option maxRecDepth 100000
set_option maxHeartbeats 0
noncomputable section
def nofc : Nat → Fc := asc []
theorem hnofc : TabF E nofc := asc_nil
theorem hnoyl : YlF E (fun _ _ _ _ => false) := YlF.none
def tabv0 : Nat → Fc := asc []
theorem htabv0 : TabF E tabv0 := asc_nil
def yl0 : Nat → Fc := fun _ _ _ _ => false
theorem hyl0 : YlF E yl0 := YlF.none
def tabY : Nat → Fc := asc []
theorem htabY : TabF E tabY := asc_nil
def ylv : Nat → Fc := yieldT (inY gvT tabY)
theorem hylv : YlF E ylv := ylOk (fun _ => rfl) htabY
def co28 : Cd := cS (cO (oM (gC .nilp) (cs sG2 sF0) (
  eO)))
 (cS (cS (cO (oM (cg gG0 gF0) (cs sG3 sF0) (
  o2 (eqT false .ptr) (cg gG3 gF0) (gC .nilp) (cs sG4 sF0) (
  eO))))
 (cC (cg gG4 gF0) (cS (cO (oM (gC .nilp) (cs sG2 sF0) (
  eO)))
 (cR))
 (cSk)))
 (cS (cO (oM (cg gG0 gF0) (cs sG5 sF0) (
  o1 nchkT (cg gG5 gF0) (cs sG6 sF0) (
  o1 (fadT 6) (cg gG6 gF0) (cs sG7 sF0) (
  oD ld1T (cg gG7 gF0) (cs sG8 sF0) (
  oM (cg gG8 gF0) (cs sG2 sF0) (
  eO)))))))
 (cR)))
def fn28 : Fc := fnT [(cs sG0 sF0)] (r1 (cg gG2 gF0)) co28
theorem se28 : FnS E 28 fn28 := fnOk (gv := gvT) (tab := asc []) (tabv := tabv0) (yl := ylv) (q := 1) (rf := rf28) (fun _ => rfl) asc_nil htabv0 hylv (by kernel_rfl) (by kernel_rfl) (by kernel_rfl)
def co70 : Cd := cS (cO (oM (gC .nilp) (cs sG2 sF0) (
  eO)))
 (cS (cS (cO (oM (cg gG0 gF0) (cs sG3 sF0) (
  o2 (eqT false .ptr) (cg gG3 gF0) (gC .nilp) (cs sG4 sF0) (
  eO))))
 (cC (cg gG4 gF0) (cS (cO (oM (gC .nilp) (cs sG2 sF0) (
  eO)))
 (cR))
 (cSk)))
 (cS (cO (oM (cg gG0 gF0) (cs sG5 sF0) (
  o1 nchkT (cg gG5 gF0) (cs sG6 sF0) (
  o1 (fadT 6) (cg gG6 gF0) (cs sG7 sF0) (
  oD ld1T (cg gG7 gF0) (cs sG8 sF0) (
  oM (cg gG8 gF0) (cs sG2 sF0) (
  eO)))))))
 (cR)))
def fn70 : Fc := fnT [(cs sG0 sF0)] (r1 (cg gG2 gF0)) co70
theorem se70 : FnS E 70 fn70 := fnOk (gv := gvT) (tab := asc []) (tabv := tabv0) (yl := ylv) (q := 1) (rf := rf70) (fun _ => rfl) asc_nil htabv0 hylv (by kernel_rfl) (by kernel_rfl) (by kernel_rfl)
def co167 : Cd := cS (cO (oM (gC (.bool false)) (cs sG4 sF0) (
  eO)))
 (cS (cO (oM (cg gG0 gF0) (cs sG5 sF0) (
  o2 (eqT true .ptr) (cg gG5 gF0) (gC .nilp) (cs sG6 sF0) (
  oM (cg gG6 gF0) (cs sG7 sF0) (
  oG (cg gG7 gF0) true (cs sG8 sF0) (oM (cg gG1 gF0) (cs sG8 sF0) (eO)) (
  oG (cg gG7 gF0) true (cs sG9 sF0) (o2 (arithK .geq) (cg gG8 gF0) (gC (.int .i64 0)) (cs sG9 sF0) (eO)) (
  o3 pickT (cg gG7 gF0) (cg gG9 gF0) (gC (.bool false)) (cs sG10 sF0) (
  oM (cg gG10 gF0) (cs sG11 sF0) (
  oG (cg gG11 gF0) true (cs sG12 sF0) (oM (cg gG1 gF0) (cs sG12 sF0) (eO)) (
  oG (cg gG11 gF0) true (cs sG13 sF0) (oM (cg gG0 gF0) (cs sG13 sF0) (eO)) (
  oG (cg gG11 gF0) true (cs sG14 sF0) (o1 nchkT (cg gG13 gF0) (cs sG14 sF0) (eO)) (
  oG (cg gG11 gF0) true (cs sG15 sF0) (o1 (fadT 0) (cg gG14 gF0) (cs sG15 sF0) (eO)) (
  oG (cg gG11 gF0) true (cs sG0 sF1) (oD ld1T (cg gG15 gF0) (cs sG0 sF1) (eO)) (
  oG (cg gG11 gF0) true (cs sG1 sF1) (o1 lenLT (cg gG0 gF1) (cs sG1 sF1) (eO)) (
  oG (cg gG11 gF0) true (cs sG2 sF1) (o2 (arithK .lss) (cg gG12 gF0) (cg gG1 gF1) (cs sG2 sF1) (eO)) (
  o3 pickT (cg gG11 gF0) (cg gG2 gF1) (gC (.bool false)) (cs sG3 sF1) (
  oM (cg gG3 gF1) (cs sG4 sF0) (
  eO))))))))))))))))))
 (cR))
def fn167 : Fc := fnT [(cs sG0 sF0), (cs sG1 sF0)] (r1 (cg gG4 gF0)) co167
theorem se167 : FnS E 167 fn167 := fnOk (gv := gvT) (tab := asc []) (tabv := tabv0) (yl := ylv) (q := 2) (rf := rf167) (fun _ => rfl) asc_nil htabv0 hylv (by kernel_rfl) (by kernel_rfl) (by kernel_rfl)
def co88 : Cd := cS (cO (oM (gC .nils) (cs sG2 sF0) (
  eO)))
 (cS (cS (cO (oM (cg gG0 gF0) (cs sG3 sF0) (
  o2 (eqT false .slice) (cg gG3 gF0) (gC .nils) (cs sG4 sF0) (
  eO))))
 (cC (cg gG4 gF0) (cS (cO (oM (gC .nils) (cs sG2 sF0) (
  eO)))
 (cR))
 (cSk)))
 (cS (cO (oN (mklT [] 0 1 []) [] (cs sG5 sF0) (
  oM (cg gG0 gF0) (cs sG6 sF0) (
  oW2 (appT 1 1) (cg gG5 gF0) (cg gG6 gF0) (cs sG7 sF0) (
  oM (cg gG7 gF0) (cs sG2 sF0) (
  eO))))))
 (cR)))
def fn88 : Fc := fnT [(cs sG0 sF0)] (r1 (cg gG2 gF0)) co88
theorem se88 : FnS E 88 fn88 := fnOk (gv := gvT) (tab := asc []) (tabv := tabv0) (yl := ylv) (q := 1) (rf := rf88) (fun _ => rfl) asc_nil htabv0 hylv (by kernel_rfl) (by kernel_rfl) (by kernel_rfl)
def co122 : Cd := cS (cO (oM (gC .nils) (cs sG4 sF0) (
  oM (gC (.bool false)) (cs sG5 sF0) (
  eO))))
 (cS (cS (cO (oM (cg gG0 gF0) (cs sG6 sF0) (
  oM (cg gG1 gF0) (cs sG7 sF0) (
  oF fn167 [(cg gG6 gF0), (cg gG7 gF0)] (cs sG8 sF0) (
  o1 (unT .not) (cg gG8 gF0) (cs sG9 sF0) (
  eO))))))
 (cC (cg gG9 gF0) (cS (cO (oM (gC .nils) (cs sG4 sF0) (
  oM (gC (.bool false)) (cs sG5 sF0) (
  eO))))
 (cR))
 (cSk)))
 (cS (cO (oM (cg gG0 gF0) (cs sG10 sF0) (
  o1 nchkT (cg gG10 gF0) (cs sG11 sF0) (
  o1 (fadT 0) (cg gG11 gF0) (cs sG12 sF0) (
  oD ld1T (cg gG12 gF0) (cs sG13 sF0) (
  oM (cg gG1 gF0) (cs sG14 sF0) (
  o2 (iaLT 1) (cg gG13 gF0) (cg gG14 gF0) (cs sG15 sF0) (
  oD ld1T (cg gG15 gF0) (cs sG0 sF1) (
  oF fn88 [(cg gG0 gF1)] (cs sG1 sF1) (
  oM (cg gG1 gF1) (cs sG4 sF0) (
  oM (gC (.bool true)) (cs sG5 sF0) (
  eO))))))))))))
 (cR)))
def fn122 : Fc := fnT [(cs sG0 sF0), (cs sG1 sF0)] (rN [rT (cg gG4 gF0), rT (cg gG5 gF0)]) co122
theorem se122 : FnS E 122 fn122 := fnOk (gv := gvT) (tab := asc [(167, fn167), (88, fn88)]) (tabv := tabv0) (yl := ylv) (q := 2) (rf := rf122) (fun _ => rfl) (asc_cons se167 (asc_cons se88 asc_nil)) htabv0 hylv (by kernel_rfl) (by kernel_rfl) (by kernel_rfl)
def co78 : Cd := cS (cO (oW0 (allocT [(.int .i64 0), (.int .i64 0)]) (cs sG2 sF0) (
  eO)))
 (cS (cO (oM (cg gG0 gF0) (cs sG6 sF0) (
  o1 nchkT (cg gG6 gF0) (cs sG7 sF0) (
  o1 (fadT 0) (cg gG7 gF0) (cs sG8 sF0) (
  oD ld1T (cg gG8 gF0) (cs sG9 sF0) (
  oF fn122 [(cg gG9 gF0), (gC (.int .i64 0))] (cs sG10 sF0) (
  oM (cg gG10 gF0) (cs sG5 sF0) (
  o1 (extT 0) (cg gG5 gF0) (cs sG11 sF0) (
  o1 (extT 1) (cg gG5 gF0) (cs sG12 sF0) (
  oM (cg gG11 gF0) (cs sG3 sF0) (
  oM (cg gG12 gF0) (cs sG4 sF0) (
  eO))))))))))))
 (cS (cD [] [iP (oM (cg gG3 gF0) (cs sG13 sF0) (eO)),
  iP (o2 (iaLT 1) (cg gG13 gF0) (gC (.int .i64 0)) (cs sG14 sF0) (eO)),
  iP (oD ld1T (cg gG14 gF0) (cs sG15 sF0) (eO)),
  iP (o1 (toIntT .i64) (cg gG15 gF0) (cs sG0 sF1) (eO)),
  iP (oM (cg gG3 gF0) (cs sG1 sF1) (eO)),
  iP (o2 (iaLT 1) (cg gG1 gF1) (gC (.int .i64 1)) (cs sG2 sF1) (eO)),
  iP (oD ld1T (cg gG2 gF1) (cs sG3 sF1) (eO)),
  iP (o1 (toIntT .i64) (cg gG3 gF1) (cs sG4 sF1) (eO)),
  iP (o2 (arithK .shl) (cg gG4 gF1) (gC (.int .u64 24)) (cs sG5 sF1) (eO)),
  iP (oM (cg gG3 gF0) (cs sG6 sF1) (eO)),
  iP (o2 (iaLT 1) (cg gG6 gF1) (gC (.int .i64 2)) (cs sG7 sF1) (eO)),
  iP (oD ld1T (cg gG7 gF1) (cs sG8 sF1) (eO)),
  iP (o1 (toIntT .i64) (cg gG8 gF1) (cs sG9 sF1) (eO)),
  iP (o2 (arithK .shl) (cg gG9 gF1) (gC (.int .u64 16)) (cs sG10 sF1) (eO)),
  iP (o2 (arithK .or) (cg gG5 gF1) (cg gG10 gF1) (cs sG11 sF1) (eO)),
  iP (oM (cg gG3 gF0) (cs sG12 sF1) (eO)),
  iP (o2 (iaLT 1) (cg gG12 gF1) (gC (.int .i64 3)) (cs sG13 sF1) (eO)),
  iP (oD ld1T (cg gG13 gF1) (cs sG14 sF1) (eO)),
  iP (o1 (toIntT .i64) (cg gG14 gF1) (cs sG15 sF1) (eO)),
  iP (o2 (arithK .shl) (cg gG15 gF1) (gC (.int .u64 8)) (cs sG0 sF2) (eO)),
  iP (o2 (arithK .or) (cg gG11 gF1) (cg gG0 gF2) (cs sG1 sF2) (eO)),
  iP (oM (cg gG3 gF0) (cs sG2 sF2) (eO)),
  iP (o2 (iaLT 1) (cg gG2 gF2) (gC (.int .i64 4)) (cs sG3 sF2) (eO)),
  iP (oD ld1T (cg gG3 gF2) (cs sG4 sF2) (eO)),
  iP (o1 (toIntT .i64) (cg gG4 gF2) (cs sG5 sF2) (eO)),
  iP (o2 (arithK .or) (cg gG1 gF2) (cg gG5 gF2) (cs sG6 sF2) (eO)),
  iP (oN (buildT [(.int .i64 0), (.int .i64 0)] [(0, 1), (1, 1)]) [(cg gG0 gF1), (cg gG6 gF2)] (cs sG7 sF2) (eO)),
  iW (oW2 (storeT 2) (cg gG2 gF0) (cg gG7 gF2) s0 (eO))])
 (cR)))
def fn78 : Fc := fnT [(cs sG0 sF0)] (rN [rC (cg gG2 gF0) 2 true]) co78
theorem se78 : FnS E 78 fn78 := fnOk (gv := gvT) (tab := asc [(122, fn122)]) (tabv := tabv0) (yl := ylv) (q := 1) (rf := rf78) (fun _ => rfl) (asc_cons se122 asc_nil) htabv0 hylv (by kernel_rfl) (by kernel_rfl) (by kernel_rfl)
def co121 : Cd := cS (cO (oM (gC (.int .i64 0)) (cs sG2 sF0) (
  eO)))
 (cS (cO (oM (cg gG0 gF0) (cs sG3 sF0) (
  o2 (arithK .add) (cg gG3 gF0) (gC (.int .i64 32)) (cs sG4 sF0) (
  o2 (arithK .sub) (cg gG4 gF0) (gC (.int .i64 1)) (cs sG5 sF0) (
  o2 (arithK .quo) (cg gG5 gF0) (gC (.int .i64 32)) (cs sG6 sF0) (
  oM (cg gG6 gF0) (cs sG2 sF0) (
  eO)))))))
 (cR))
def fn121 : Fc := fnT [(cs sG0 sF0)] (r1 (cg gG2 gF0)) co121
theorem se121 : FnS E 121 fn121 := fnOk (gv := gvT) (tab := asc []) (tabv := tabv0) (yl := ylv) (q := 1) (rf := rf121) (fun _ => rfl) asc_nil htabv0 hylv (by kernel_rfl) (by kernel_rfl) (by kernel_rfl)
def co79 : Cd := cS (cO (oM (gC (.int .i64 0)) (cs sG6 sF0) (
  eO)))
 (cS (cO (oM (cg gG1 gF0) (cs sG7 sF0) (
  oM (cg gG0 gF0) (cs sG8 sF0) (
  o1 nchkT (cg gG8 gF0) (cs sG9 sF0) (
  o1 (fadT 1) (cg gG9 gF0) (cs sG10 sF0) (
  oD ld1T (cg gG10 gF0) (cs sG11 sF0) (
  o2 (arithK .mul) (cg gG7 gF0) (cg gG11 gF0) (cs sG12 sF0) (
  o2 (arithK .add) (gC (.int .i64 1)) (cg gG12 gF0) (cs sG13 sF0) (
  oM (cg gG2 gF0) (cs sG14 sF0) (
  o2 (arithK .add) (cg gG13 gF0) (cg gG14 gF0) (cs sG15 sF0) (
  oM (cg gG15 gF0) (cs sG6 sF0) (
  eO))))))))))))
 (cR))
def fn79 : Fc := fnT [(cs sG0 sF0), (cs sG1 sF0), (cs sG2 sF0)] (r1 (cg gG6 gF0)) co79
theorem se79 : FnS E 79 fn79 := fnOk (gv := gvT) (tab := asc []) (tabv := tabv0) (yl := ylv) (q := 3) (rf := rf79) (fun _ => rfl) asc_nil htabv0 hylv (by kernel_rfl) (by kernel_rfl) (by kernel_rfl)
def co47 : Cd := cS (cO (oM (gC .nils) (cs sG2 sF0) (
  eO)))
 (cS (cS (cO (oM (cg gG0 gF0) (cs sG8 sF0) (
  o2 (eqT false .ptr) (cg gG8 gF0) (gC .nilp) (cs sG9 sF0) (
  eO))))
 (cC (cg gG9 gF0) (cS (cO (oM (gC .nils) (cs sG2 sF0) (
  eO)))
 (cR))
 (cSk)))
 (cS (cO (oM (cg gG0 gF0) (cs sG10 sF0) (
  oF fn78 [(cg gG10 gF0)] (cs sG11 sF0) (
  oW0 (allocT [(.int .i64 0), (.int .i64 0)]) (cs sG3 sF0) (
  oW2 (storeT 2) (cg gG3 gF0) (cg gG11 gF0) s0 (
  eO))))))
 (cS (cS (cO (oD (ldT 2 true) (cg gG3 gF0) (cs sG12 sF0) (
  oN (buildT [(.int .i64 0), (.int .i64 0)] []) [] (cs sG13 sF0) (
  o2 (eqT false (.agg [0, 0])) (cg gG12 gF0) (cg gG13 gF0) (cs sG14 sF0) (
  eO)))))
 (cC (cg gG14 gF0) (cS (cO (oM (gC .nils) (cs sG2 sF0) (
  eO)))
 (cR))
 (cSk)))
 (cS (cO (o1 (fadT 1) (cg gG3 gF0) (cs sG15 sF0) (
  oD ld1T (cg gG15 gF0) (cs sG0 sF1) (
  oW2 (mksT [(.int .u8 0)] 1 1) (gC (.int .i64 0)) (cg gG0 gF1) (cs sG1 sF1) (
  oM (cg gG1 gF1) (cs sG4 sF0) (
  eO))))))
 (cS (cS (cO (o1 (fadT 1) (cg gG3 gF0) (cs sG2 sF1) (
  oD ld1T (cg gG2 gF1) (cs sG3 sF1) (
  oF fn121 [(cg gG3 gF1)] (cs sG4 sF1) (
  oM (gC (.int .i64 0)) (cs sG5 sF1) (
  eO))))))
 (cB 0 (cL (cS (cO (o2 (arithK .lss) (cg gG5 gF1) (cg gG4 gF1) (cs sG6 sF1) (
  eO)))
 (cS (cC (cg gG6 gF1) (cSk)
 (cE 0))
 (cS (cB 1 (cS (cO (oM (cg gG5 gF1) (cs sG7 sF1) (
  oM (cg gG7 gF1) (cs sG5 sF0) (
  eO))))
 (cS (cD [] [iP (oM (cg gG0 gF0) (cs sG9 sF1) (eO)),
  iP (o1 nchkT (cg gG9 gF1) (cs sG10 sF1) (eO)),
  iP (o1 (fadT 0) (cg gG10 gF1) (cs sG11 sF1) (eO)),
  iR 0 1 (rd1 ld1T (cg gG11 gF1)) (cs sG12 sF1),
  iP (oM (cg gG0 gF0) (cs sG13 sF1) (eO)),
  iP (o1 (fadT 0) (cg gG3 gF0) (cs sG14 sF1) (eO)),
  iP (oD ld1T (cg gG14 gF1) (cs sG15 sF1) (eO)),
  iP (oM (cg gG5 gF0) (cs sG0 sF2) (eO)),
  iW (oF fn79 [(cg gG13 gF1), (cg gG15 gF1), (cg gG0 gF2)] (cs sG1 sF2) (eO)),
  iW (oF fn122 [(cg gG12 gF1), (cg gG1 gF2)] (cs sG2 sF2) (eO)),
  iP (oM (cg gG2 gF2) (cs sG8 sF1) (eO)),
  iP (o1 (extT 0) (cg gG8 gF1) (cs sG3 sF2) (eO)),
  iP (o1 (extT 1) (cg gG8 gF1) (cs sG4 sF2) (eO)),
  iP (oM (cg gG3 gF2) (cs sG6 sF0) (eO)),
  iP (oM (cg gG4 gF2) (cs sG7 sF0) (eO))])
 (cO (oM (cg gG4 gF0) (cs sG5 sF2) (
  oM (cg gG6 gF0) (cs sG6 sF2) (
  oW2 (appT 1 1) (cg gG5 gF2) (cg gG6 gF2) (cs sG7 sF2) (
  oM (cg gG7 gF2) (cs sG4 sF0) (
  eO)))))))))
 (cO (o2 (arithK .add) (cg gG5 gF1) (gC (.int .i64 1)) (cs sG8 sF2) (
  oM (cg gG8 gF2) (cs sG5 sF1) (
  eO))))))))))
 (cS (cO (oM (cg gG4 gF0) (cs sG9 sF2) (
  o1 (fadT 1) (cg gG3 gF0) (cs sG10 sF2) (
  oD ld1T (cg gG10 gF2) (cs sG11 sF2) (
  o1 (fadT 1) (cg gG3 gF0) (cs sG12 sF2) (
  oD ld1T (cg gG12 gF2) (cs sG13 sF2) (
  oN (slL4T false 1) [(cg gG9 gF2), (gC .nili), (cg gG11 gF2), (cg gG13 gF2)] (cs sG14 sF2) (
  oM (cg gG14 gF2) (cs sG2 sF0) (
  eO)))))))))
 (cR)))))))
def fn47 : Fc := fnT [(cs sG0 sF0)] (r1 (cg gG2 gF0)) co47
theorem se47 : FnS E 47 fn47 := fnOk (gv := gvT) (tab := asc [(78, fn78), (121, fn121), (79, fn79), (122, fn122)]) (tabv := tabv0) (yl := ylv) (q := 1) (rf := rf47) (fun _ => rfl) (asc_cons se78 (asc_cons se121 (asc_cons se79 (asc_cons se122 asc_nil)))) htabv0 hylv (by kernel_rfl) (by kernel_rfl) (by kernel_rfl)
def co158 : Cd := cS (cO (oW0 (allocT [(.int .i64 0), (.int .i64 0), (.int .i64 0), .nils, .nils, .nils]) (cs sG2 sF0) (
  eO)))
 (cS (cDm [[], [], [(.int .i64 0), (.int .i64 0), (.int .i64 0), .nils, .nils, .nils]] [.mk (cg gG10 gF0) [(.bool false)], .mk (cg gG0 gF1) [(.int .i64 0)], .st [(.int .i64 0), (.int .i64 0), (.int .i64 0), .nils, .nils, .nils]] [iP (oM (cg gG0 gF0) (cs sG5 sF0) (eO)),
  iP (o1 nchkT (cg gG5 gF0) (cs sG6 sF0) (eO)),
  iP (o1 (fadT 0) (cg gG6 gF0) (cs sG7 sF0) (eO)),
  iP (o1 (fadT 0) (cg gG7 gF0) (cs sG8 sF0) (eO)),
  iP (oD ld1T (cg gG8 gF0) (cs sG9 sF0) (eO)),
  iM 0 0 0 [(.bool false)] 1 1 (cg gG9 gF0) (cg gG9 gF0) (cs sG10 sF0),
  iP (oM (cg gG0 gF0) (cs sG11 sF0) (eO)),
  iP (o1 nchkT (cg gG11 gF0) (cs sG12 sF0) (eO)),
  iP (o1 (fadT 0) (cg gG12 gF0) (cs sG13 sF0) (eO)),
  iP (o1 (fadT 0) (cg gG13 gF0) (cs sG14 sF0) (eO)),
  iP (oD ld1T (cg gG14 gF0) (cs sG15 sF0) (eO)),
  iM 1 0 0 [(.int .i64 0)] 1 8 (cg gG15 gF0) (cg gG15 gF0) (cs sG0 sF1),
  iP (oN (buildT [(.int .i64 0), (.int .i64 0), (.int .i64 0), .nils, .nils, .nils] [(4, 1), (5, 1)]) [(cg gG10 gF0), (cg gG0 gF1)] (cs sG1 sF1) (eO)),
  iA 2 0 0 [(.int .i64 0), (.int .i64 0), (.int .i64 0), .nils, .nils, .nils] (cs sG3 sF0),
  iW (oW2 (storeT 6) (cg gG3 gF0) (cg gG1 gF1) s0 (eO))])
 (cS (cS (cO (o1 (fadT 4) (cg gG3 gF0) (cs sG2 sF1) (
  oD ld1T (cg gG2 gF1) (cs sG3 sF1) (
  o1 lenLT (cg gG3 gF1) (cs sG4 sF1) (
  oM (gC (.int .i64 0)) (cs sG5 sF1) (
  eO))))))
 (cB 0 (cL (cS (cO (o2 (arithK .lss) (cg gG5 gF1) (cg gG4 gF1) (cs sG6 sF1) (
  eO)))
 (cS (cC (cg gG6 gF1) (cSk)
 (cE 0))
 (cS (cB 1 (cS (cO (oM (cg gG5 gF1) (cs sG7 sF1) (
  oM (cg gG7 gF1) (cs sG4 sF0) (
  eO))))
 (cO (o1 (fadT 4) (cg gG3 gF0) (cs sG8 sF1) (
  oD ld1T (cg gG8 gF1) (cs sG9 sF1) (
  oM (cg gG4 gF0) (cs sG10 sF1) (
  o2 (iaLT 1) (cg gG9 gF1) (cg gG10 gF1) (cs sG11 sF1) (
  oW2 (storeT 1) (cg gG11 gF1) (gC (.bool true)) s0 (
  eO)))))))))
 (cO (o2 (arithK .add) (cg gG5 gF1) (gC (.int .i64 1)) (cs sG12 sF1) (
  oM (cg gG12 gF1) (cs sG5 sF1) (
  eO))))))))))
 (cS (cO (oD (ldT 6 true) (cg gG3 gF0) (cs sG13 sF1) (
  oW2 (storeT 6) (cg gG2 gF0) (cg gG13 gF1) s0 (
  eO))))
 (cR))))
def fn158 : Fc := fnT [(cs sG0 sF0)] (rN [rC (cg gG2 gF0) 6 true]) co158
theorem se158 : FnS E 158 fn158 := fnOk (gv := gvT) (tab := asc []) (tabv := tabv0) (yl := ylv) (q := 1) (rf := rf158) (fun _ => rfl) asc_nil htabv0 hylv (by kernel_rfl) (by kernel_rfl) (by kernel_rfl)
def co71 : Cd := cS (cO (oW0 (allocT [(.int .i64 0), (.int .i64 0), (.int .i64 0), .nils, .nils, .nils]) (cs sG2 sF0) (
  eO)))
 (cS (cS (cO (oM (cg gG0 gF0) (cs sG6 sF0) (
  o2 (eqT false .ptr) (cg gG6 gF0) (gC .nilp) (cs sG7 sF0) (
  eO))))
 (cC (cg gG7 gF0) (cS (cO (oN (buildT [(.int .i64 0), (.int .i64 0), (.int .i64 0), .nils, .nils, .nils] []) [] (cs sG8 sF0) (
  oW2 (storeT 6) (cg gG2 gF0) (cg gG8 gF0) s0 (
  eO))))
 (cR))
 (cSk)))
 (cS (cO (oM (cg gG0 gF0) (cs sG9 sF0) (
  o1 nchkT (cg gG9 gF0) (cs sG10 sF0) (
  o1 (fadT 5) (cg gG10 gF0) (cs sG11 sF0) (
  oD ld1T (cg gG11 gF0) (cs sG12 sF0) (
  oF fn47 [(cg gG12 gF0)] (cs sG13 sF0) (
  oM (cg gG13 gF0) (cs sG3 sF0) (
  eO))))))))
 (cS (cS (cO (oM (cg gG3 gF0) (cs sG14 sF0) (
  o1 lenLT (cg gG14 gF0) (cs sG15 sF0) (
  o2 (arithK .eql) (cg gG15 gF0) (gC (.int .i64 0)) (cs sG0 sF1) (
  eO)))))
 (cC (cg gG0 gF1) (cS (cO (oM (cg gG0 gF0) (cs sG1 sF1) (
  oF fn158 [(cg gG1 gF1)] (cs sG2 sF1) (
  oW2 (storeT 6) (cg gG2 gF0) (cg gG2 gF1) s0 (
  eO)))))
 (cR))
 (cSk)))
 (cS (cO (oM (cg gG3 gF0) (cs sG4 sF1) (
  oF fX [(cg gG4 gF1)] (cs sG5 sF1) (
  oM (cg gG5 gF1) (cs sG3 sF1) (
  o1 (extT 0) (cg gG3 gF1) (cs sG6 sF1) (
  o1 (extT 1) (cg gG3 gF1) (cs sG7 sF1) (
  oW0 (allocT [(.int .i64 0), (.int .i64 0), (.int .i64 0), .nils, .nils, .nils]) (cs sG4 sF0) (
  oW2 (storeT 6) (cg gG4 gF0) (cg gG6 gF1) s0 (
  oM (cg gG7 gF1) (cs sG5 sF0) (
  eO))))))))))
 (cS (cO (oD (ldT 6 true) (cg gG4 gF0) (cs sG8 sF1) (
  oW2 (storeT 6) (cg gG2 gF0) (cg gG8 gF1) s0 (
  eO))))
 (cR))))))
def fn71 : Fc := fnT [(cs sG0 sF0)] (rN [rC (cg gG2 gF0) 6 true]) co71
theorem se71 : FnS E 71 fn71 := fnOk (gv := gvT) (tab := asc [(47, fn47), (158, fn158)]) (tabv := tabv0) (yl := ylv) (q := 1) (rf := rf71) (fun _ => rfl) (asc_cons se47 (asc_cons se158 asc_nil)) htabv0 hylv (by kernel_rfl) (by kernel_rfl) (by kernel_rfl)
def co56 : Cd := cS (cO (oM (gC (.bool false)) (cs sG4 sF0) (
  eO)))
 (cS (cO (oM (cg gG1 gF0) (cs sG5 sF0) (
  o2 (arithK .geq) (cg gG5 gF0) (gC (.int .i64 0)) (cs sG6 sF0) (
  oM (cg gG6 gF0) (cs sG7 sF0) (
  oG (cg gG7 gF0) true (cs sG8 sF0) (oM (cg gG1 gF0) (cs sG8 sF0) (eO)) (
  oG (cg gG7 gF0) true (cs sG9 sF0) (oM (cg gG0 gF0) (cs sG9 sF0) (eO)) (
  oG (cg gG7 gF0) true (cs sG10 sF0) (o1 nchkT (cg gG9 gF0) (cs sG10 sF0) (eO)) (
  oG (cg gG7 gF0) true (cs sG11 sF0) (o1 (fadT 0) (cg gG10 gF0) (cs sG11 sF0) (eO)) (
  oG (cg gG7 gF0) true (cs sG12 sF0) (o1 (fadT 0) (cg gG11 gF0) (cs sG12 sF0) (eO)) (
  oG (cg gG7 gF0) true (cs sG13 sF0) (oD ld1T (cg gG12 gF0) (cs sG13 sF0) (eO)) (
  oG (cg gG7 gF0) true (cs sG14 sF0) (o2 (arithK .lss) (cg gG8 gF0) (cg gG13 gF0) (cs sG14 sF0) (eO)) (
  o3 pickT (cg gG7 gF0) (cg gG14 gF0) (gC (.bool false)) (cs sG15 sF0) (
  oM (cg gG15 gF0) (cs sG4 sF0) (
  eO))))))))))))))
 (cR))
def fn56 : Fc := fnT [(cs sG0 sF0), (cs sG1 sF0)] (r1 (cg gG4 gF0)) co56
theorem se56 : FnS E 56 fn56 := fnOk (gv := gvT) (tab := asc []) (tabv := tabv0) (yl := ylv) (q := 2) (rf := rf56) (fun _ => rfl) asc_nil htabv0 hylv (by kernel_rfl) (by kernel_rfl) (by kernel_rfl)
def co25 : Cd := cS (cO (oM (gC .nilp) (cs sG4 sF0) (
  eO)))
 (cS (cS (cO (oM (cg gG0 gF0) (cs sG5 sF0) (
  o2 (eqT false .ptr) (cg gG5 gF0) (gC .nilp) (cs sG6 sF0) (
  oM (cg gG6 gF0) (cs sG7 sF0) (
  oG (cg gG7 gF0) false (cs sG8 sF0) (oM (cg gG0 gF0) (cs sG8 sF0) (eO)) (
  oG (cg gG7 gF0) false (cs sG9 sF0) (oM (cg gG1 gF0) (cs sG9 sF0) (eO)) (
  oG (cg gG7 gF0) false (cs sG10 sF0) (oF fn56 [(cg gG8 gF0), (cg gG9 gF0)] (cs sG10 sF0) (eO)) (
  oG (cg gG7 gF0) false (cs sG11 sF0) (o1 (unT .not) (cg gG10 gF0) (cs sG11 sF0) (eO)) (
  o3 pickT (cg gG7 gF0) (gC (.bool true)) (cg gG11 gF0) (cs sG12 sF0) (
  eO))))))))))
 (cC (cg gG12 gF0) (cS (cO (oM (gC .nilp) (cs sG4 sF0) (
  eO)))
 (cR))
 (cSk)))
 (cS (cO (oM (cg gG0 gF0) (cs sG13 sF0) (
  o1 nchkT (cg gG13 gF0) (cs sG14 sF0) (
  o1 (fadT 5) (cg gG14 gF0) (cs sG15 sF0) (
  oD ld1T (cg gG15 gF0) (cs sG0 sF1) (
  oM (cg gG1 gF0) (cs sG1 sF1) (
  o2 (iaLT 1) (cg gG0 gF1) (cg gG1 gF1) (cs sG2 sF1) (
  oD ld1T (cg gG2 gF1) (cs sG3 sF1) (
  oM (cg gG3 gF1) (cs sG4 sF0) (
  eO))))))))))
 (cR)))
def fn25 : Fc := fnT [(cs sG0 sF0), (cs sG1 sF0)] (r1 (cg gG4 gF0)) co25
theorem se25 : FnS E 25 fn25 := fnOk (gv := gvT) (tab := asc [(56, fn56)]) (tabv := tabv0) (yl := ylv) (q := 2) (rf := rf25) (fun _ => rfl) (asc_cons se56 asc_nil) htabv0 hylv (by kernel_rfl) (by kernel_rfl) (by kernel_rfl)
def co115 : Cd := cS (cO (oM (gC .nilp) (cs sG2 sF0) (
  eO)))
 (cS (cO (oM (cg gG0 gF0) (cs sG3 sF0) (
  oF fn88 [(cg gG3 gF0)] (cs sG4 sF0) (
  oN (buildT [.nils, (.bool false)] [(0, 1)]) [(cg gG4 gF0)] (cs sG5 sF0) (
  oW1 (boxT 2) (cg gG5 gF0) (cs sG6 sF0) (
  oM (cg gG6 gF0) (cs sG2 sF0) (
  eO)))))))
 (cR))
def fn115 : Fc := fnT [(cs sG0 sF0)] (r1 (cg gG2 gF0)) co115
theorem se115 : FnS E 115 fn115 := fnOk (gv := gvT) (tab := asc [(88, fn88)]) (tabv := tabv0) (yl := ylv) (q := 1) (rf := rf115) (fun _ => rfl) (asc_cons se88 asc_nil) htabv0 hylv (by kernel_rfl) (by kernel_rfl) (by kernel_rfl)
def co194 : Cd := cS (cO (oM (gC .nils) (cs sG4 sF0) (
  eO)))
 (cS (cS (cO (oM (cg gG0 gF0) (cs sG6 sF0) (
  o1 nchkT (cg gG6 gF0) (cs sG7 sF0) (
  o1 (fadT 1) (cg gG7 gF0) (cs sG8 sF0) (
  oD ld1T (cg gG8 gF0) (cs sG9 sF0) (
  oM (cg gG9 gF0) (cs sG10 sF0) (
  oG (cg gG10 gF0) false (cs sG11 sF0) (oM (cg gG1 gF0) (cs sG11 sF0) (eO)) (
  oG (cg gG10 gF0) false (cs sG12 sF0) (oM (cg gG0 gF0) (cs sG12 sF0) (eO)) (
  oG (cg gG10 gF0) false (cs sG13 sF0) (o1 nchkT (cg gG12 gF0) (cs sG13 sF0) (eO)) (
  oG (cg gG10 gF0) false (cs sG14 sF0) (o1 (fadT 0) (cg gG13 gF0) (cs sG14 sF0) (eO)) (
  oG (cg gG10 gF0) false (cs sG15 sF0) (oD ld1T (cg gG14 gF0) (cs sG15 sF0) (eO)) (
  oG (cg gG10 gF0) false (cs sG0 sF1) (o1 lenLT (cg gG15 gF0) (cs sG0 sF1) (eO)) (
  oG (cg gG10 gF0) false (cs sG1 sF1) (o2 (arithK .gtr) (cg gG11 gF0) (cg gG0 gF1) (cs sG1 sF1) (eO)) (
  o3 pickT (cg gG10 gF0) (gC (.bool true)) (cg gG1 gF1) (cs sG2 sF1) (
  eO)))))))))))))))
 (cC (cg gG2 gF1) (cS (cO (oM (cg gG0 gF0) (cs sG3 sF1) (
  o1 nchkT (cg gG3 gF1) (cs sG4 sF1) (
  o1 (fadT 1) (cg gG4 gF1) (cs sG5 sF1) (
  oW2 (storeT 1) (cg gG5 gF1) (gC (.bool true)) s0 (
  eO))))))
 (cS (cO (oM (gC .nils) (cs sG4 sF0) (
  eO)))
 (cR)))
 (cSk)))
 (cS (cO (oM (cg gG0 gF0) (cs sG6 sF1) (
  o1 nchkT (cg gG6 gF1) (cs sG7 sF1) (
  o1 (fadT 0) (cg gG7 gF1) (cs sG8 sF1) (
  oD ld1T (cg gG8 gF1) (cs sG9 sF1) (
  oM (cg gG1 gF0) (cs sG10 sF1) (
  oM (cg gG1 gF0) (cs sG11 sF1) (
  oN (slL4T false 1) [(cg gG9 gF1), (gC .nili), (cg gG10 gF1), (cg gG11 gF1)] (cs sG12 sF1) (
  oM (cg gG12 gF1) (cs sG5 sF0) (
  eO))))))))))
 (cS (cO (oM (cg gG0 gF0) (cs sG13 sF1) (
  oM (cg gG0 gF0) (cs sG14 sF1) (
  o1 nchkT (cg gG14 gF1) (cs sG15 sF1) (
  o1 (fadT 0) (cg gG15 gF1) (cs sG0 sF2) (
  oD ld1T (cg gG0 gF2) (cs sG1 sF2) (
  oM (cg gG1 gF0) (cs sG2 sF2) (
  o3 (slLT true false 1) (cg gG1 gF2) (cg gG2 gF2) (gC .nili) (cs sG3 sF2) (
  o1 nchkT (cg gG13 gF1) (cs sG4 sF2) (
  o1 (fadT 0) (cg gG4 gF2) (cs sG5 sF2) (
  oW2 (storeT 1) (cg gG5 gF2) (cg gG3 gF2) s0 (
  eO))))))))))))
 (cS (cO (oM (cg gG5 gF0) (cs sG6 sF2) (
  oM (cg gG6 gF2) (cs sG4 sF0) (
  eO))))
 (cR)))))
def fn194 : Fc := fnT [(cs sG0 sF0), (cs sG1 sF0)] (r1 (cg gG4 gF0)) co194
theorem se194 : FnS E 194 fn194 := fnOk (gv := gvT) (tab := asc []) (tabv := tabv0) (yl := ylv) (q := 2) (rf := rf194) (fun _ => rfl) asc_nil htabv0 hylv (by kernel_rfl) (by kernel_rfl) (by kernel_rfl)
def co116 : Cd := cS (cO (oM (gC (.int .i64 0)) (cs sG2 sF0) (
  eO)))
 (cS (cS (cO (oM (cg gG0 gF0) (cs sG4 sF0) (
  o2 (eqT false .ptr) (cg gG4 gF0) (gC .nilp) (cs sG5 sF0) (
  eO))))
 (cC (cg gG5 gF0) (cS (cO (oM (gC (.int .i64 0)) (cs sG2 sF0) (
  eO)))
 (cR))
 (cSk)))
 (cS (cO (oM (cg gG0 gF0) (cs sG6 sF0) (
  oF fn194 [(cg gG6 gF0), (gC (.int .i64 4))] (cs sG7 sF0) (
  oM (cg gG7 gF0) (cs sG3 sF0) (
  eO)))))
 (cS (cS (cO (oM (cg gG3 gF0) (cs sG8 sF0) (
  o2 (eqT false .slice) (cg gG8 gF0) (gC .nils) (cs sG9 sF0) (
  oM (cg gG9 gF0) (cs sG10 sF0) (
  oG (cg gG10 gF0) false (cs sG11 sF0) (oM (cg gG3 gF0) (cs sG11 sF0) (eO)) (
  oG (cg gG10 gF0) false (cs sG12 sF0) (o2 (iaLT 1) (cg gG11 gF0) (gC (.int .i64 0)) (cs sG12 sF0) (eO)) (
  oG (cg gG10 gF0) false (cs sG13 sF0) (oD ld1T (cg gG12 gF0) (cs sG13 sF0) (eO)) (
  oG (cg gG10 gF0) false (cs sG14 sF0) (o2 (arithK .geq) (cg gG13 gF0) (gC (.int .u8 128)) (cs sG14 sF0) (eO)) (
  o3 pickT (cg gG10 gF0) (gC (.bool true)) (cg gG14 gF0) (cs sG15 sF0) (
  eO))))))))))
 (cC (cg gG15 gF0) (cS (cO (oM (cg gG0 gF0) (cs sG0 sF1) (
  o1 nchkT (cg gG0 gF1) (cs sG1 sF1) (
  o1 (fadT 1) (cg gG1 gF1) (cs sG2 sF1) (
  oW2 (storeT 1) (cg gG2 gF1) (gC (.bool true)) s0 (
  eO))))))
 (cS (cO (oM (gC (.int .i64 0)) (cs sG2 sF0) (
  eO)))
 (cR)))
 (cSk)))
 (cS (cD [] [iP (oM (cg gG3 gF0) (cs sG3 sF1) (eO)),
  iP (o2 (iaLT 1) (cg gG3 gF1) (gC (.int .i64 0)) (cs sG4 sF1) (eO)),
  iP (oD ld1T (cg gG4 gF1) (cs sG5 sF1) (eO)),
  iP (o1 (toIntT .i64) (cg gG5 gF1) (cs sG6 sF1) (eO)),
  iP (o2 (arithK .shl) (cg gG6 gF1) (gC (.int .u64 24)) (cs sG7 sF1) (eO)),
  iP (oM (cg gG3 gF0) (cs sG8 sF1) (eO)),
  iP (o2 (iaLT 1) (cg gG8 gF1) (gC (.int .i64 1)) (cs sG9 sF1) (eO)),
  iP (oD ld1T (cg gG9 gF1) (cs sG10 sF1) (eO)),
  iP (o1 (toIntT .i64) (cg gG10 gF1) (cs sG11 sF1) (eO)),
  iP (o2 (arithK .shl) (cg gG11 gF1) (gC (.int .u64 16)) (cs sG12 sF1) (eO)),
  iP (o2 (arithK .add) (cg gG7 gF1) (cg gG12 gF1) (cs sG13 sF1) (eO)),
  iP (oM (cg gG3 gF0) (cs sG14 sF1) (eO)),
  iP (o2 (iaLT 1) (cg gG14 gF1) (gC (.int .i64 2)) (cs sG15 sF1) (eO)),
  iP (oD ld1T (cg gG15 gF1) (cs sG0 sF2) (eO)),
  iP (o1 (toIntT .i64) (cg gG0 gF2) (cs sG1 sF2) (eO)),
  iP (o2 (arithK .shl) (cg gG1 gF2) (gC (.int .u64 8)) (cs sG2 sF2) (eO)),
  iP (o2 (arithK .add) (cg gG13 gF1) (cg gG2 gF2) (cs sG3 sF2) (eO)),
  iP (oM (cg gG3 gF0) (cs sG4 sF2) (eO)),
  iP (o2 (iaLT 1) (cg gG4 gF2) (gC (.int .i64 3)) (cs sG5 sF2) (eO)),
  iP (oD ld1T (cg gG5 gF2) (cs sG6 sF2) (eO)),
  iP (o1 (toIntT .i64) (cg gG6 gF2) (cs sG7 sF2) (eO)),
  iP (o2 (arithK .add) (cg gG3 gF2) (cg gG7 gF2) (cs sG8 sF2) (eO)),
  iP (o2 (arithK .sub) (cg gG8 gF2) (gC (.int .i64 2)) (cs sG9 sF2) (eO)),
  iP (oM (cg gG9 gF2) (cs sG2 sF0) (eO))])
 (cR)))))
def fn116 : Fc := fnT [(cs sG0 sF0)] (r1 (cg gG2 gF0)) co116
theorem se116 : FnS E 116 fn116 := fnOk (gv := gvT) (tab := asc [(194, fn194)]) (tabv := tabv0) (yl := ylv) (q := 1) (rf := rf116) (fun _ => rfl) (asc_cons se194 asc_nil) htabv0 hylv (by kernel_rfl) (by kernel_rfl) (by kernel_rfl)
def co195 : Cd := cS (cO (oW1 (boxT 2) (cg gG0 gF0) (cs sG1 sF0) (
  oM (gC (.int .i64 0)) (cs sG2 sF0) (
  eO))))
 (cS (cO (o1 (fadT 0) (cg gG1 gF0) (cs sG4 sF0) (
  oD ld1T (cg gG4 gF0) (cs sG5 sF0) (
  oF fn116 [(cg gG5 gF0)] (cs sG6 sF0) (
  oM (cg gG6 gF0) (cs sG3 sF0) (
  eO))))))
 (cS (cS (cO (oM (cg gG3 gF0) (cs sG7 sF0) (
  o1 (fadT 1) (cg gG1 gF0) (cs sG8 sF0) (
  oD ld1T (cg gG8 gF0) (cs sG9 sF0) (
  o2 (arithK .gtr) (cg gG7 gF0) (cg gG9 gF0) (cs sG10 sF0) (
  eO))))))
 (cC (cg gG10 gF0) (cS (cO (oM (gC (.int .i64 0)) (cs sG2 sF0) (
  eO)))
 (cR))
 (cSk)))
 (cS (cO (oM (cg gG3 gF0) (cs sG11 sF0) (
  oN maxT [(cg gG11 gF0), (gC (.int .i64 0))] (cs sG12 sF0) (
  oM (cg gG12 gF0) (cs sG2 sF0) (
  eO)))))
 (cR))))
def fn195 : Fc := fnT [(cs sG0 sF0)] (r1 (cg gG2 gF0)) co195
theorem se195 : FnS E 195 fn195 := fnOk (gv := gvT) (tab := asc [(116, fn116)]) (tabv := tabv0) (yl := ylv) (q := 1) (rf := rf195) (fun _ => rfl) (asc_cons se116 asc_nil) htabv0 hylv (by kernel_rfl) (by kernel_rfl) (by kernel_rfl)
def co117 : Cd := cS (cO (oW1 (boxT 2) (cg gG0 gF0) (cs sG1 sF0) (
  oM (gC .nils) (cs sG2 sF0) (
  eO))))
 (cS (cO (oM (gC .nils) (cs sG3 sF0) (
  eO)))
 (cS (cS (cO (oD (ldT 2 true) (cg gG1 gF0) (cs sG5 sF0) (
  oF fn195 [(cg gG5 gF0)] (cs sG6 sF0) (
  oM (gC (.int .i64 0)) (cs sG7 sF0) (
  eO)))))
 (cB 0 (cL (cS (cO (o2 (arithK .lss) (cg gG7 gF0) (cg gG6 gF0) (cs sG8 sF0) (
  eO)))
 (cS (cC (cg gG8 gF0) (cSk)
 (cE 0))
 (cS (cB 1 (cS (cD [[(.str []), (.int .i64 0), .nils, .nils]] [iP (o1 (fadT 0) (cg gG1 gF0) (cs sG9 sF0) (eO)),
  iP (oD ld1T (cg gG9 gF0) (cs sG10 sF0) (eO)),
  iW (oF fX [(cg gG10 gF0)] (cs sG11 sF0) (eO)),
  iR 1 2 (rd1 b2sT (cg gG11 gF0)) (cs sG12 sF0),
  iP (o1 (fadT 0) (cg gG1 gF0) (cs sG13 sF0) (eO)),
  iR 0 1 (rd1 ld1T (cg gG13 gF0)) (cs sG14 sF0),
  iW (oF fn116 [(cg gG14 gF0)] (cs sG15 sF0) (eO)),
  iP (oN (buildT [(.str []), (.int .i64 0), .nils, .nils] [(0, 1), (1, 1)]) [(cg gG12 gF0), (cg gG15 gF0)] (cs sG0 sF1) (eO)),
  iA 0 0 2 [(.str []), (.int .i64 0), .nils, .nils] (cs sG4 sF0),
  iW (oW2 (storeT 4) (cg gG4 gF0) (cg gG0 gF1) s0 (eO))])
 (cS (cO (o1 (fadT 0) (cg gG1 gF0) (cs sG1 sF1) (
  oD ld1T (cg gG1 gF1) (cs sG2 sF1) (
  oF fX [(cg gG2 gF1)] (cs sG3 sF1) (
  o1 (fadT 2) (cg gG4 gF0) (cs sG4 sF1) (
  oW2 (storeT 1) (cg gG4 gF1) (cg gG3 gF1) s0 (
  eO)))))))
 (cS (cO (o1 (fadT 0) (cg gG1 gF0) (cs sG5 sF1) (
  oD ld1T (cg gG5 gF1) (cs sG6 sF1) (
  oF fX [(cg gG6 gF1)] (cs sG7 sF1) (
  o1 (fadT 3) (cg gG4 gF0) (cs sG8 sF1) (
  oW2 (storeT 1) (cg gG8 gF1) (cg gG7 gF1) s0 (
  eO)))))))
 (cO (oM (cg gG3 gF0) (cs sG9 sF1) (
  oD (ldT 4 true) (cg gG4 gF0) (cs sG10 sF1) (
  oN (mklT [(.str []), (.int .i64 0), .nils, .nils] 1 4 [(0, 4)]) [(cg gG10 gF1)] (cs sG11 sF1) (
  oW2 (appT 4 72) (cg gG9 gF1) (cg gG11 gF1) (cs sG12 sF1) (
  oM (cg gG12 gF1) (cs sG3 sF0) (
  eO)))))))))))
 (cO (o2 (arithK .add) (cg gG7 gF0) (gC (.int .i64 1)) (cs sG13 sF1) (
  oM (cg gG13 gF1) (cs sG7 sF0) (
  eO))))))))))
 (cS (cO (oM (cg gG3 gF0) (cs sG14 sF1) (
  oM (cg gG14 gF1) (cs sG2 sF0) (
  eO))))
 (cR))))
def fn117 : Fc := fnT [(cs sG0 sF0)] (r1 (cg gG2 gF0)) co117
theorem se117 : FnS E 117 fn117 := fnOk (gv := gvT) (tab := asc [(195, fn195), (116, fn116)]) (tabv := tabv0) (yl := ylv) (q := 1) (rf := rf117) (fun _ => rfl) (asc_cons se195 (asc_cons se116 asc_nil)) htabv0 hylv (by kernel_rfl) (by kernel_rfl) (by kernel_rfl)
def co124 : Cd := cS (cO (oM (gC .nilp) (cs sG0 sF0) (
  eO)))
 (cS (cO (oN (buildT [.nils, (.bool false)] []) [] (cs sG1 sF0) (
  oW1 (boxT 2) (cg gG1 gF0) (cs sG2 sF0) (
  oM (cg gG2 gF0) (cs sG0 sF0) (
  eO)))))
 (cR))
def fn124 : Fc := fnT [] (r1 (cg gG0 gF0)) co124
theorem se124 : FnS E 124 fn124 := fnOk (gv := gvT) (tab := asc []) (tabv := tabv0) (yl := ylv) (q := 0) (rf := rf124) (fun _ => rfl) asc_nil htabv0 hylv (by kernel_rfl) (by kernel_rfl) (by kernel_rfl)
def co125 : Cd := cS (cS (cO (oM (cg gG0 gF0) (cs sG5 sF0) (
  o2 (eqT false .ptr) (cg gG5 gF0) (gC .nilp) (cs sG6 sF0) (
  eO))))
 (cC (cg gG6 gF0) (cR)
 (cSk)))
 (cS (cS (cO (oM (cg gG1 gF0) (cs sG7 sF0) (
  o2 (arithK .lss) (cg gG7 gF0) (gC (.int .i64 (-2))) (cs sG8 sF0) (
  oM (cg gG8 gF0) (cs sG9 sF0) (
  oG (cg gG9 gF0) false (cs sG10 sF0) (oM (cg gG1 gF0) (cs sG10 sF0) (eO)) (
  oG (cg gG9 gF0) false (cs sG11 sF0) (o2 (arithK .gtr) (cg gG10 gF0) (gC (.int .i64 2147483645)) (cs sG11 sF0) (eO)) (
  o3 pickT (cg gG9 gF0) (gC (.bool true)) (cg gG11 gF0) (cs sG12 sF0) (
  eO))))))))
 (cC (cg gG12 gF0) (cS (cO (oM (cg gG0 gF0) (cs sG13 sF0) (
  o1 nchkT (cg gG13 gF0) (cs sG14 sF0) (
  o1 (fadT 1) (cg gG14 gF0) (cs sG15 sF0) (
  oW2 (storeT 1) (cg gG15 gF0) (gC (.bool true)) s0 (
  eO))))))
 (cR))
 (cSk)))
 (cS (cO (oM (cg gG1 gF0) (cs sG0 sF1) (
  o2 (arithK .add) (cg gG0 gF1) (gC (.int .i64 2)) (cs sG1 sF1) (
  oM (cg gG1 gF1) (cs sG4 sF0) (
  eO)))))
 (cO (oM (cg gG0 gF0) (cs sG2 sF1) (
  oM (cg gG0 gF0) (cs sG3 sF1) (
  o1 nchkT (cg gG3 gF1) (cs sG4 sF1) (
  o1 (fadT 0) (cg gG4 gF1) (cs sG5 sF1) (
  oD ld1T (cg gG5 gF1) (cs sG6 sF1) (
  oM (cg gG4 gF0) (cs sG7 sF1) (
  o2 (arithK .shr) (cg gG7 gF1) (gC (.int .u64 24)) (cs sG8 sF1) (
  o1 (toIntT .u8) (cg gG8 gF1) (cs sG9 sF1) (
  oM (cg gG4 gF0) (cs sG10 sF1) (
  o2 (arithK .shr) (cg gG10 gF1) (gC (.int .u64 16)) (cs sG11 sF1) (
  o1 (toIntT .u8) (cg gG11 gF1) (cs sG12 sF1) (
  oM (cg gG4 gF0) (cs sG13 sF1) (
  o2 (arithK .shr) (cg gG13 gF1) (gC (.int .u64 8)) (cs sG14 sF1) (
  o1 (toIntT .u8) (cg gG14 gF1) (cs sG15 sF1) (
  oM (cg gG4 gF0) (cs sG0 sF2) (
  o1 (toIntT .u8) (cg gG0 gF2) (cs sG1 sF2) (
  oN (mklT [(.int .u8 0), (.int .u8 0), (.int .u8 0), (.int .u8 0)] 4 1 [(0, 1), (1, 1), (2, 1), (3, 1)]) [(cg gG9 gF1), (cg gG12 gF1), (cg gG15 gF1), (cg gG1 gF2)] (cs sG2 sF2) (
  oW2 (appT 1 1) (cg gG6 gF1) (cg gG2 gF2) (cs sG3 sF2) (
  o1 nchkT (cg gG2 gF1) (cs sG4 sF2) (
  o1 (fadT 0) (cg gG4 gF2) (cs sG5 sF2) (
  oW2 (storeT 1) (cg gG5 gF2) (cg gG3 gF2) s0 (
  eO)))))))))))))))))))))))))
def fn125 : Fc := fnT [(cs sG0 sF0), (cs sG1 sF0)] (rN []) co125
theorem se125 : FnS E 125 fn125 := fnOk (gv := gvT) (tab := asc []) (tabv := tabv0) (yl := ylv) (q := 2) (rf := rf125) (fun _ => rfl) asc_nil htabv0 hylv (by kernel_rfl) (by kernel_rfl) (by kernel_rfl)
def co197 : Cd := cS (cO (oW1 (boxT 1) (cg gG0 gF0) (cs sG2 sF0) (
  eO)))
 (cS (cO (oM (cg gG1 gF0) (cs sG6 sF0) (
  o1 lenLT (cg gG6 gF0) (cs sG7 sF0) (
  oM (gC (.int .i64 0)) (cs sG8 sF0) (
  eO)))))
 (cB 0 (cL (cS (cO (o2 (arithK .lss) (cg gG8 gF0) (cg gG7 gF0) (cs sG9 sF0) (
  eO)))
 (cS (cC (cg gG9 gF0) (cSk)
 (cE 0))
 (cS (cB 1 (cS (cO (o2 (iaLT 1) (cg gG6 gF0) (cg gG8 gF0) (cs sG10 sF0) (
  oD ld1T (cg gG10 gF0) (cs sG11 sF0) (
  oM (cg gG11 gF0) (cs sG5 sF0) (
  eO)))))
 (cO (o1 (fadT 0) (cg gG2 gF0) (cs sG12 sF0) (
  oD ld1T (cg gG12 gF0) (cs sG13 sF0) (
  oM (cg gG5 gF0) (cs sG14 sF0) (
  oF fn125 [(cg gG13 gF0), (cg gG14 gF0)] (cs sG15 sF0) (
  eO))))))))
 (cO (o2 (arithK .add) (cg gG8 gF0) (gC (.int .i64 1)) (cs sG0 sF1) (
  oM (cg gG0 gF1) (cs sG8 sF0) (
  eO))))))))))
def fn197 : Fc := fnT [(cs sG0 sF0), (cs sG1 sF0)] (rN []) co197
theorem se197 : FnS E 197 fn197 := fnOk (gv := gvT) (tab := asc [(125, fn125)]) (tabv := tabv0) (yl := ylv) (q := 2) (rf := rf197) (fun _ => rfl) (asc_cons se125 asc_nil) htabv0 hylv (by kernel_rfl) (by kernel_rfl) (by kernel_rfl)
def co198 : Cd := cS (cO (oW1 (boxT 1) (cg gG0 gF0) (cs sG2 sF0) (
  eO)))
 (cS (cO (o1 (fadT 0) (cg gG2 gF0) (cs sG6 sF0) (
  oD ld1T (cg gG6 gF0) (cs sG7 sF0) (
  oM (cg gG1 gF0) (cs sG8 sF0) (
  o1 lenLT (cg gG8 gF0) (cs sG9 sF0) (
  oF fn125 [(cg gG7 gF0), (cg gG9 gF0)] (cs sG10 sF0) (
  eO)))))))
 (cS (cO (oM (cg gG1 gF0) (cs sG11 sF0) (
  o1 lenLT (cg gG11 gF0) (cs sG12 sF0) (
  oM (gC (.int .i64 0)) (cs sG13 sF0) (
  eO)))))
 (cB 0 (cL (cS (cO (o2 (arithK .lss) (cg gG13 gF0) (cg gG12 gF0) (cs sG14 sF0) (
  eO)))
 (cS (cC (cg gG14 gF0) (cSk)
 (cE 0))
 (cS (cB 1 (cS (cO (o2 (iaLT 4) (cg gG11 gF0) (cg gG13 gF0) (cs sG15 sF0) (
  oD (ldT 4 true) (cg gG15 gF0) (cs sG0 sF1) (
  oW0 (allocT [(.str []), (.int .i64 0), .nils, .nils]) (cs sG5 sF0) (
  oW2 (storeT 4) (cg gG5 gF0) (cg gG0 gF1) s0 (
  eO))))))
 (cS (cO (oD (ldT 1 true) (cg gG2 gF0) (cs sG1 sF1) (
  oD (ldT 4 true) (cg gG5 gF0) (cs sG2 sF1) (
  oF fX [(cg gG1 gF1), (cg gG2 gF1)] (cs sG3 sF1) (
  eO)))))
 (cO (o1 (fadT 0) (cg gG2 gF0) (cs sG4 sF1) (
  oD ld1T (cg gG4 gF1) (cs sG5 sF1) (
  o1 (fadT 3) (cg gG5 gF0) (cs sG6 sF1) (
  oD ld1T (cg gG6 gF1) (cs sG7 sF1) (
  oF fX [(cg gG5 gF1), (cg gG7 gF1)] (cs sG8 sF1) (
  eO))))))))))
 (cO (o2 (arithK .add) (cg gG13 gF0) (gC (.int .i64 1)) (cs sG9 sF1) (
  oM (cg gG9 gF1) (cs sG13 sF0) (
  eO)))))))))))
def fn198 : Fc := fnT [(cs sG0 sF0), (cs sG1 sF0)] (rN []) co198
theorem se198 : FnS E 198 fn198 := fnOk (gv := gvT) (tab := asc [(125, fn125)]) (tabv := tabv0) (yl := ylv) (q := 2) (rf := rf198) (fun _ => rfl) (asc_cons se125 asc_nil) htabv0 hylv (by kernel_rfl) (by kernel_rfl) (by kernel_rfl)
def co128 : Cd := cS (cO (oM (gC .nils) (cs sG2 sF0) (
  eO)))
 (cS (cO (oM (cg gG0 gF0) (cs sG3 sF0) (
  oM (cg gG0 gF0) (cs sG4 sF0) (
  o1 lenLT (cg gG4 gF0) (cs sG5 sF0) (
  oM (cg gG0 gF0) (cs sG6 sF0) (
  o1 lenLT (cg gG6 gF0) (cs sG7 sF0) (
  oN (slL4T false 1) [(cg gG3 gF0), (gC .nili), (cg gG5 gF0), (cg gG7 gF0)] (cs sG8 sF0) (
  oM (cg gG8 gF0) (cs sG2 sF0) (
  eO)))))))))
 (cR))
def fn128 : Fc := fnT [(cs sG0 sF0)] (r1 (cg gG2 gF0)) co128
theorem se128 : FnS E 128 fn128 := fnOk (gv := gvT) (tab := asc []) (tabv := tabv0) (yl := ylv) (q := 1) (rf := rf128) (fun _ => rfl) asc_nil htabv0 hylv (by kernel_rfl) (by kernel_rfl) (by kernel_rfl)
def co127 : Cd := cS (cO (oM (gC .nils) (cs sG2 sF0) (
  oM (gC (.bool false)) (cs sG3 sF0) (
  eO))))
 (cS (cS (cO (oM (cg gG0 gF0) (cs sG4 sF0) (
  o2 (eqT false .ptr) (cg gG4 gF0) (gC .nilp) (cs sG5 sF0) (
  oM (cg gG5 gF0) (cs sG6 sF0) (
  oG (cg gG6 gF0) false (cs sG7 sF0) (oM (cg gG0 gF0) (cs sG7 sF0) (eO)) (
  oG (cg gG6 gF0) false (cs sG8 sF0) (o1 nchkT (cg gG7 gF0) (cs sG8 sF0) (eO)) (
  oG (cg gG6 gF0) false (cs sG9 sF0) (o1 (fadT 1) (cg gG8 gF0) (cs sG9 sF0) (eO)) (
  oG (cg gG6 gF0) false (cs sG10 sF0) (oD ld1T (cg gG9 gF0) (cs sG10 sF0) (eO)) (
  o3 pickT (cg gG6 gF0) (gC (.bool true)) (cg gG10 gF0) (cs sG11 sF0) (
  eO))))))))))
 (cC (cg gG11 gF0) (cS (cO (oM (gC .nils) (cs sG2 sF0) (
  oM (gC (.bool false)) (cs sG3 sF0) (
  eO))))
 (cR))
 (cSk)))
 (cS (cO (oM (cg gG0 gF0) (cs sG12 sF0) (
  o1 nchkT (cg gG12 gF0) (cs sG13 sF0) (
  o1 (fadT 0) (cg gG13 gF0) (cs sG14 sF0) (
  oD ld1T (cg gG14 gF0) (cs sG15 sF0) (
  oF fn88 [(cg gG15 gF0)] (cs sG0 sF1) (
  oF fn128 [(cg gG0 gF1)] (cs sG1 sF1) (
  oM (cg gG1 gF1) (cs sG2 sF0) (
  oM (gC (.bool true)) (cs sG3 sF0) (
  eO))))))))))
 (cR)))
def fn127 : Fc := fnT [(cs sG0 sF0)] (rN [rT (cg gG2 gF0), rT (cg gG3 gF0)]) co127
theorem se127 : FnS E 127 fn127 := fnOk (gv := gvT) (tab := asc [(88, fn88), (128, fn128)]) (tabv := tabv0) (yl := ylv) (q := 1) (rf := rf127) (fun _ => rfl) (asc_cons se88 (asc_cons se128 asc_nil)) htabv0 hylv (by kernel_rfl) (by kernel_rfl) (by kernel_rfl)
def co118 : Cd := cS (cO (oW1 (boxT 8) (cg gG0 gF0) (cs sG1 sF0) (
  oM (gC .nils) (cs sG2 sF0) (
  oM (gC (.bool false)) (cs sG3 sF0) (
  eO)))))
 (cS (cO (oF fn124 [] (cs sG5 sF0) (
  oN (buildT [.nilp] [(0, 1)]) [(cg gG5 gF0)] (cs sG6 sF0) (
  oW0 (allocT [.nilp]) (cs sG4 sF0) (
  oW2 (storeT 1) (cg gG4 gF0) (cg gG6 gF0) s0 (
  eO))))))
 (cS (cO (oD (ldT 1 true) (cg gG4 gF0) (cs sG7 sF0) (
  o1 (fadT 0) (cg gG1 gF0) (cs sG8 sF0) (
  oD ld1T (cg gG8 gF0) (cs sG9 sF0) (
  o1 (fadT 1) (cg gG1 gF0) (cs sG10 sF0) (
  oD ld1T (cg gG10 gF0) (cs sG11 sF0) (
  o1 (fadT 2) (cg gG1 gF0) (cs sG12 sF0) (
  oD ld1T (cg gG12 gF0) (cs sG13 sF0) (
  oN (mklT [(.int .i64 0), (.int .i64 0), (.int .i64 0)] 3 1 [(0, 1), (1, 1), (2, 1)]) [(cg gG9 gF0), (cg gG11 gF0), (cg gG13 gF0)] (cs sG14 sF0) (
  oF fn197 [(cg gG7 gF0), (cg gG14 gF0)] (cs sG15 sF0) (
  eO)))))))))))
 (cS (cO (oD (ldT 1 true) (cg gG4 gF0) (cs sG0 sF1) (
  o1 (fadT 3) (cg gG1 gF0) (cs sG1 sF1) (
  oD ld1T (cg gG1 gF1) (cs sG2 sF1) (
  oF fn198 [(cg gG0 gF1), (cg gG2 gF1)] (cs sG3 sF1) (
  eO))))))
 (cS (cO (oD (ldT 1 true) (cg gG4 gF0) (cs sG4 sF1) (
  o1 (fadT 4) (cg gG1 gF0) (cs sG5 sF1) (
  o1 (fadT 0) (cg gG5 gF1) (cs sG6 sF1) (
  oD ld1T (cg gG6 gF1) (cs sG7 sF1) (
  o1 (fadT 4) (cg gG1 gF0) (cs sG8 sF1) (
  o1 (fadT 1) (cg gG8 gF1) (cs sG9 sF1) (
  oD ld1T (cg gG9 gF1) (cs sG10 sF1) (
  o1 (fadT 4) (cg gG1 gF0) (cs sG11 sF1) (
  o1 (fadT 2) (cg gG11 gF1) (cs sG12 sF1) (
  oD ld1T (cg gG12 gF1) (cs sG13 sF1) (
  oN (mklT [(.int .i64 0), (.int .i64 0), (.int .i64 0)] 3 1 [(0, 1), (1, 1), (2, 1)]) [(cg gG7 gF1), (cg gG10 gF1), (cg gG13 gF1)] (cs sG14 sF1) (
  oF fn197 [(cg gG4 gF1), (cg gG14 gF1)] (cs sG15 sF1) (
  eO))))))))))))))
 (cS (cO (oD (ldT 1 true) (cg gG4 gF0) (cs sG0 sF2) (
  o1 (fadT 4) (cg gG1 gF0) (cs sG1 sF2) (
  o1 (fadT 3) (cg gG1 gF2) (cs sG2 sF2) (
  oD ld1T (cg gG2 gF2) (cs sG3 sF2) (
  oF fn198 [(cg gG0 gF2), (cg gG3 gF2)] (cs sG4 sF2) (
  eO)))))))
 (cS (cO (o1 (fadT 0) (cg gG4 gF0) (cs sG5 sF2) (
  oD ld1T (cg gG5 gF2) (cs sG6 sF2) (
  oF fn127 [(cg gG6 gF2)] (cs sG7 sF2) (
  o1 (extT 0) (cg gG7 gF2) (cs sG8 sF2) (
  o1 (extT 1) (cg gG7 gF2) (cs sG9 sF2) (
  oM (cg gG8 gF2) (cs sG2 sF0) (
  oM (cg gG9 gF2) (cs sG3 sF0) (
  eO)))))))))
 (cR)))))))
def fn118 : Fc := fnT [(cs sG0 sF0)] (rN [rT (cg gG2 gF0), rT (cg gG3 gF0)]) co118
theorem se118 : FnS E 118 fn118 := fnOk (gv := gvT) (tab := asc [(124, fn124), (197, fn197), (198, fn198), (127, fn127)]) (tabv := tabv0) (yl := ylv) (q := 1) (rf := rf118) (fun _ => rfl) (asc_cons se124 (asc_cons se197 (asc_cons se198 (asc_cons se127 asc_nil)))) htabv0 hylv (by kernel_rfl) (by kernel_rfl) (by kernel_rfl)
def co119 : Cd := cS (cO (oM (gC (.bool false)) (cs sG2 sF0) (
  eO)))
 (cS (cO (oM (cg gG0 gF0) (cs sG3 sF0) (
  o2 (eqT true .ptr) (cg gG3 gF0) (gC .nilp) (cs sG4 sF0) (
  oM (cg gG4 gF0) (cs sG5 sF0) (
  oG (cg gG5 gF0) true (cs sG6 sF0) (oM (cg gG0 gF0) (cs sG6 sF0) (eO)) (
  oG (cg gG5 gF0) true (cs sG7 sF0) (o1 nchkT (cg gG6 gF0) (cs sG7 sF0) (eO)) (
  oG (cg gG5 gF0) true (cs sG8 sF0) (o1 (fadT 1) (cg gG7 gF0) (cs sG8 sF0) (eO)) (
  oG (cg gG5 gF0) true (cs sG9 sF0) (oD ld1T (cg gG8 gF0) (cs sG9 sF0) (eO)) (
  oG (cg gG5 gF0) true (cs sG10 sF0) (o1 (unT .not) (cg gG9 gF0) (cs sG10 sF0) (eO)) (
  o3 pickT (cg gG5 gF0) (cg gG10 gF0) (gC (.bool false)) (cs sG11 sF0) (
  oM (cg gG11 gF0) (cs sG12 sF0) (
  oG (cg gG12 gF0) true (cs sG13 sF0) (oM (cg gG0 gF0) (cs sG13 sF0) (eO)) (
  oG (cg gG12 gF0) true (cs sG14 sF0) (o1 nchkT (cg gG13 gF0) (cs sG14 sF0) (eO)) (
  oG (cg gG12 gF0) true (cs sG15 sF0) (o1 (fadT 0) (cg gG14 gF0) (cs sG15 sF0) (eO)) (
  oG (cg gG12 gF0) true (cs sG0 sF1) (oD ld1T (cg gG15 gF0) (cs sG0 sF1) (eO)) (
  oG (cg gG12 gF0) true (cs sG1 sF1) (o1 lenLT (cg gG0 gF1) (cs sG1 sF1) (eO)) (
  oG (cg gG12 gF0) true (cs sG2 sF1) (o2 (arithK .eql) (cg gG1 gF1) (gC (.int .i64 0)) (cs sG2 sF1) (eO)) (
  o3 pickT (cg gG12 gF0) (cg gG2 gF1) (gC (.bool false)) (cs sG3 sF1) (
  oM (cg gG3 gF1) (cs sG2 sF0) (
  eO))))))))))))))))))))
 (cR))
def fn119 : Fc := fnT [(cs sG0 sF0)] (r1 (cg gG2 gF0)) co119
theorem se119 : FnS E 119 fn119 := fnOk (gv := gvT) (tab := asc []) (tabv := tabv0) (yl := ylv) (q := 1) (rf := rf119) (fun _ => rfl) asc_nil htabv0 hylv (by kernel_rfl) (by kernel_rfl) (by kernel_rfl)
def co46 : Cd := cS (cO (oW0 (allocT [(.int .i64 0), (.int .i64 0), (.int .i64 0), .nils, (.int .i64 0), (.int .i64 0), (.int .i64 0), .nils]) (cs sG2 sF0) (
  oM (gC (.bool false)) (cs sG3 sF0) (
  eO))))
 (cS (cO (oM (cg gG0 gF0) (cs sG8 sF0) (
  oF fn115 [(cg gG8 gF0)] (cs sG9 sF0) (
  oM (cg gG0 gF0) (cs sG10 sF0) (
  o1 lenLT (cg gG10 gF0) (cs sG11 sF0) (
  oN (buildT [.nilp, (.int .i64 0)] [(0, 1), (1, 1)]) [(cg gG9 gF0), (cg gG11 gF0)] (cs sG12 sF0) (
  oW0 (allocT [.nilp, (.int .i64 0)]) (cs sG4 sF0) (
  oW2 (storeT 2) (cg gG4 gF0) (cg gG12 gF0) s0 (
  eO)))))))))
 (cS (cO (o1 (fadT 0) (cg gG4 gF0) (cs sG13 sF0) (
  oD ld1T (cg gG13 gF0) (cs sG14 sF0) (
  oF fn116 [(cg gG14 gF0)] (cs sG15 sF0) (
  oN (buildT [(.int .i64 0), (.int .i64 0), (.int .i64 0), .nils, (.int .i64 0), (.int .i64 0), (.int .i64 0), .nils] [(0, 1)]) [(cg gG15 gF0)] (cs sG0 sF1) (
  oW0 (allocT [(.int .i64 0), (.int .i64 0), (.int .i64 0), .nils, (.int .i64 0), (.int .i64 0), (.int .i64 0), .nils]) (cs sG5 sF0) (
  oW2 (storeT 8) (cg gG5 gF0) (cg gG0 gF1) s0 (
  eO))))))))
 (cS (cO (o1 (fadT 0) (cg gG4 gF0) (cs sG1 sF1) (
  oD ld1T (cg gG1 gF1) (cs sG2 sF1) (
  oF fn116 [(cg gG2 gF1)] (cs sG3 sF1) (
  o1 (fadT 1) (cg gG5 gF0) (cs sG4 sF1) (
  oW2 (storeT 1) (cg gG4 gF1) (cg gG3 gF1) s0 (
  eO)))))))
 (cS (cO (o1 (fadT 0) (cg gG4 gF0) (cs sG5 sF1) (
  oD ld1T (cg gG5 gF1) (cs sG6 sF1) (
  oF fn116 [(cg gG6 gF1)] (cs sG7 sF1) (
  o1 (fadT 2) (cg gG5 gF0) (cs sG8 sF1) (
  oW2 (storeT 1) (cg gG8 gF1) (cg gG7 gF1) s0 (
  eO)))))))
 (cS (cO (oD (ldT 2 true) (cg gG4 gF0) (cs sG9 sF1) (
  oF fn117 [(cg gG9 gF1)] (cs sG10 sF1) (
  o1 (fadT 3) (cg gG5 gF0) (cs sG11 sF1) (
  oW2 (storeT 1) (cg gG11 gF1) (cg gG10 gF1) s0 (
  eO))))))
 (cS (cO (o1 (fadT 0) (cg gG4 gF0) (cs sG12 sF1) (
  oD ld1T (cg gG12 gF1) (cs sG13 sF1) (
  oF fn116 [(cg gG13 gF1)] (cs sG14 sF1) (
  o1 (fadT 4) (cg gG5 gF0) (cs sG15 sF1) (
  o1 (fadT 0) (cg gG15 gF1) (cs sG0 sF2) (
  oW2 (storeT 1) (cg gG0 gF2) (cg gG14 gF1) s0 (
  eO))))))))
 (cS (cO (o1 (fadT 0) (cg gG4 gF0) (cs sG1 sF2) (
  oD ld1T (cg gG1 gF2) (cs sG2 sF2) (
  oF fn116 [(cg gG2 gF2)] (cs sG3 sF2) (
  o1 (fadT 4) (cg gG5 gF0) (cs sG4 sF2) (
  o1 (fadT 1) (cg gG4 gF2) (cs sG5 sF2) (
  oW2 (storeT 1) (cg gG5 gF2) (cg gG3 gF2) s0 (
  eO))))))))
 (cS (cO (o1 (fadT 0) (cg gG4 gF0) (cs sG6 sF2) (
  oD ld1T (cg gG6 gF2) (cs sG7 sF2) (
  oF fn116 [(cg gG7 gF2)] (cs sG8 sF2) (
  o1 (fadT 4) (cg gG5 gF0) (cs sG9 sF2) (
  o1 (fadT 2) (cg gG9 gF2) (cs sG10 sF2) (
  oW2 (storeT 1) (cg gG10 gF2) (cg gG8 gF2) s0 (
  eO))))))))
 (cS (cO (oD (ldT 2 true) (cg gG4 gF0) (cs sG11 sF2) (
  oF fn117 [(cg gG11 gF2)] (cs sG12 sF2) (
  o1 (fadT 4) (cg gG5 gF0) (cs sG13 sF2) (
  o1 (fadT 3) (cg gG13 gF2) (cs sG14 sF2) (
  oW2 (storeT 1) (cg gG14 gF2) (cg gG12 gF2) s0 (
  eO)))))))
 (cS (cS (cO (oD (ldT 8 true) (cg gG5 gF0) (cs sG0 sF3) (
  oF fn118 [(cg gG0 gF3)] (cs sG1 sF3) (
  oM (cg gG1 gF3) (cs sG15 sF2) (
  o1 (extT 0) (cg gG15 gF2) (cs sG2 sF3) (
  o1 (extT 1) (cg gG15 gF2) (cs sG3 sF3) (
  oM (cg gG2 gF3) (cs sG6 sF0) (
  oM (cg gG3 gF3) (cs sG7 sF0) (
  eO)))))))))
 (cS (cO (o1 (fadT 0) (cg gG4 gF0) (cs sG4 sF3) (
  oD ld1T (cg gG4 gF3) (cs sG5 sF3) (
  oF fn119 [(cg gG5 gF3)] (cs sG6 sF3) (
  o1 (unT .not) (cg gG6 gF3) (cs sG7 sF3) (
  oM (cg gG7 gF3) (cs sG8 sF3) (
  oG (cg gG8 gF3) false (cs sG9 sF3) (oM (cg gG7 gF0) (cs sG9 sF3) (eO)) (
  oG (cg gG8 gF3) false (cs sG10 sF3) (o1 (unT .not) (cg gG9 gF3) (cs sG10 sF3) (eO)) (
  o3 pickT (cg gG8 gF3) (gC (.bool true)) (cg gG10 gF3) (cs sG11 sF3) (
  oM (cg gG11 gF3) (cs sG12 sF3) (
  oG (cg gG12 gF3) false (cs sG13 sF3) (oM (cg gG6 gF0) (cs sG13 sF3) (eO)) (
  oG (cg gG12 gF3) false (cs sG14 sF3) (oM (cg gG0 gF0) (cs sG14 sF3) (eO)) (
  oG (cg gG12 gF3) false (cs sG15 sF3) (oF fX [(cg gG13 gF3), (cg gG14 gF3)] (cs sG15 sF3) (eO)) (
  oG (cg gG12 gF3) false (cs sG0 sF4) (o1 (unT .not) (cg gG15 gF3) (cs sG0 sF4) (eO)) (
  o3 pickT (cg gG12 gF3) (gC (.bool true)) (cg gG0 gF4) (cs sG1 sF4) (
  eO))))))))))))))))
 (cC (cg gG1 gF4) (cS (cO (oN (buildT [(.int .i64 0), (.int .i64 0), (.int .i64 0), .nils, (.int .i64 0), (.int .i64 0), (.int .i64 0), .nils] []) [] (cs sG2 sF4) (
  oW2 (storeT 8) (cg gG2 gF0) (cg gG2 gF4) s0 (
  oM (gC (.bool false)) (cs sG3 sF0) (
  eO)))))
 (cR))
 (cSk))))
 (cS (cO (oD (ldT 8 true) (cg gG5 gF0) (cs sG3 sF4) (
  oW2 (storeT 8) (cg gG2 gF0) (cg gG3 gF4) s0 (
  oM (gC (.bool true)) (cs sG3 sF0) (
  eO)))))
 (cR))))))))))))
def fn46 : Fc := fnT [(cs sG0 sF0)] (rN [rC (cg gG2 gF0) 8 true, rT (cg gG3 gF0)]) co46
theorem se46 : FnS E 46 fn46 := fnOk (gv := gvT) (tab := asc [(115, fn115), (116, fn116), (117, fn117), (118, fn118), (119, fn119)]) (tabv := tabv0) (yl := ylv) (q := 1) (rf := rf46) (fun _ => rfl) (asc_cons se115 (asc_cons se116 (asc_cons se117 (asc_cons se118 (asc_cons se119 asc_nil))))) htabv0 hylv (by kernel_rfl) (by kernel_rfl) (by kernel_rfl)
def co14 : Cd := cS (cO (oW0 (allocT [(.int .i64 0), (.int .i64 0), (.int .i64 0), .nils, (.int .i64 0), (.int .i64 0), (.int .i64 0), .nils]) (cs sG2 sF0) (
  eO)))
 (cS (cS (cO (oM (cg gG0 gF0) (cs sG5 sF0) (
  o2 (eqT false .ptr) (cg gG5 gF0) (gC .nilp) (cs sG6 sF0) (
  eO))))
 (cC (cg gG6 gF0) (cS (cO (oN (buildT [(.int .i64 0), (.int .i64 0), (.int .i64 0), .nils, (.int .i64 0), (.int .i64 0), (.int .i64 0), .nils] []) [] (cs sG7 sF0) (
  oW2 (storeT 8) (cg gG2 gF0) (cg gG7 gF0) s0 (
  eO))))
 (cR))
 (cSk)))
 (cS (cO (oM (cg gG0 gF0) (cs sG9 sF0) (
  o1 nchkT (cg gG9 gF0) (cs sG10 sF0) (
  o1 (fadT 7) (cg gG10 gF0) (cs sG11 sF0) (
  oD ld1T (cg gG11 gF0) (cs sG12 sF0) (
  oF fn47 [(cg gG12 gF0)] (cs sG13 sF0) (
  oF fn46 [(cg gG13 gF0)] (cs sG14 sF0) (
  oM (cg gG14 gF0) (cs sG8 sF0) (
  o1 (extT 0) (cg gG8 gF0) (cs sG15 sF0) (
  o1 (extT 1) (cg gG8 gF0) (cs sG0 sF1) (
  oW0 (allocT [(.int .i64 0), (.int .i64 0), (.int .i64 0), .nils, (.int .i64 0), (.int .i64 0), (.int .i64 0), .nils]) (cs sG3 sF0) (
  oW2 (storeT 8) (cg gG3 gF0) (cg gG15 gF0) s0 (
  oM (cg gG0 gF1) (cs sG4 sF0) (
  eO))))))))))))))
 (cS (cO (oD (ldT 8 true) (cg gG3 gF0) (cs sG1 sF1) (
  oW2 (storeT 8) (cg gG2 gF0) (cg gG1 gF1) s0 (
  eO))))
 (cR))))
def fn14 : Fc := fnT [(cs sG0 sF0)] (rN [rC (cg gG2 gF0) 8 true]) co14
theorem se14 : FnS E 14 fn14 := fnOk (gv := gvT) (tab := asc [(47, fn47), (46, fn46)]) (tabv := tabv0) (yl := ylv) (q := 1) (rf := rf14) (fun _ => rfl) (asc_cons se47 (asc_cons se46 asc_nil)) htabv0 hylv (by kernel_rfl) (by kernel_rfl) (by kernel_rfl)
def co171 : Cd := cS (cO (oM (gC .nils) (cs sG2 sF0) (
  eO)))
 (cS (cS (cO (oM (cg gG0 gF0) (cs sG3 sF0) (
  o2 (eqT false .slice) (cg gG3 gF0) (gC .nils) (cs sG4 sF0) (
  eO))))
 (cC (cg gG4 gF0) (cS (cO (oM (gC .nils) (cs sG2 sF0) (
  eO)))
 (cR))
 (cSk)))
 (cS (cO (oN (mklT [] 0 4 []) [] (cs sG5 sF0) (
  oM (cg gG0 gF0) (cs sG6 sF0) (
  oW2 (appT 4 72) (cg gG5 gF0) (cg gG6 gF0) (cs sG7 sF0) (
  oM (cg gG7 gF0) (cs sG2 sF0) (
  eO))))))
 (cR)))
def fn171 : Fc := fnT [(cs sG0 sF0)] (r1 (cg gG2 gF0)) co171
theorem se171 : FnS E 171 fn171 := fnOk (gv := gvT) (tab := asc []) (tabv := tabv0) (yl := ylv) (q := 1) (rf := rf171) (fun _ => rfl) asc_nil htabv0 hylv (by kernel_rfl) (by kernel_rfl) (by kernel_rfl)
def co90 : Cd := cS (cO (oM (gC (.int .i64 0)) (cs sG4 sF0) (
  eO)))
 (cS (cS (cO (oM (cg gG0 gF0) (cs sG6 sF0) (
  o1 lenLT (cg gG6 gF0) (cs sG7 sF0) (
  oM (gC (.int .i64 0)) (cs sG8 sF0) (
  eO)))))
 (cB 0 (cL (cS (cO (o2 (arithK .lss) (cg gG8 gF0) (cg gG7 gF0) (cs sG9 sF0) (
  eO)))
 (cS (cC (cg gG9 gF0) (cSk)
 (cE 0))
 (cS (cB 1 (cS (cO (oM (cg gG8 gF0) (cs sG10 sF0) (
  oM (cg gG10 gF0) (cs sG5 sF0) (
  eO))))
 (cS (cO (oM (cg gG1 gF0) (cs sG11 sF0) (
  oM (cg gG0 gF0) (cs sG12 sF0) (
  oM (cg gG5 gF0) (cs sG13 sF0) (
  o2 (iaLT 4) (cg gG12 gF0) (cg gG13 gF0) (cs sG14 sF0) (
  oD (ldT 4 true) (cg gG14 gF0) (cs sG15 sF0) (
  oV tabv0 ylv (cg gG11 gF0) [(cg gG15 gF0)] (cs sG0 sF1) (
  eO))))))))
 (cC (cg gG0 gF1) (cS (cO (oM (cg gG5 gF0) (cs sG1 sF1) (
  oM (cg gG1 gF1) (cs sG4 sF0) (
  eO))))
 (cR))
 (cSk)))))
 (cO (o2 (arithK .add) (cg gG8 gF0) (gC (.int .i64 1)) (cs sG2 sF1) (
  oM (cg gG2 gF1) (cs sG8 sF0) (
  eO))))))))))
 (cS (cO (oM (gC (.int .i64 (-1))) (cs sG4 sF0) (
  eO)))
 (cR)))
def fn90 : Fc := fnT [(cs sG0 sF0), (cs sG1 sF0)] (r1 (cg gG4 gF0)) co90
theorem se90 : FnS E 90 fn90 := fnOk (gv := gvT) (tab := asc []) (tabv := tabv0) (yl := ylv) (q := 2) (rf := rf90) (fun _ => rfl) asc_nil htabv0 hylv (by kernel_rfl) (by kernel_rfl) (by kernel_rfl)
def co170 : Cd := cS (cO (oM (gC .nils) (cs sG4 sF0) (
  eO)))
 (cS (cO (oM (cg gG0 gF0) (cs sG8 sF0) (
  oM (cg gG1 gF0) (cs sG9 sF0) (
  oF fn90 [(cg gG8 gF0), (cg gG9 gF0)] (cs sG10 sF0) (
  oM (cg gG10 gF0) (cs sG5 sF0) (
  eO))))))
 (cS (cS (cO (oM (cg gG5 gF0) (cs sG11 sF0) (
  o2 (arithK .eql) (cg gG11 gF0) (gC (.int .i64 (-1))) (cs sG12 sF0) (
  eO))))
 (cC (cg gG12 gF0) (cS (cO (oM (cg gG0 gF0) (cs sG13 sF0) (
  oM (cg gG13 gF0) (cs sG4 sF0) (
  eO))))
 (cR))
 (cSk)))
 (cS (cS (cO (oM (cg gG5 gF0) (cs sG14 sF0) (
  o2 (arithK .add) (cg gG14 gF0) (gC (.int .i64 1)) (cs sG15 sF0) (
  oM (cg gG15 gF0) (cs sG6 sF0) (
  eO)))))
 (cB 0 (cL (cS (cS (cO (oM (cg gG6 gF0) (cs sG0 sF1) (
  oM (cg gG0 gF0) (cs sG1 sF1) (
  o1 lenLT (cg gG1 gF1) (cs sG2 sF1) (
  o2 (arithK .lss) (cg gG0 gF1) (cg gG2 gF1) (cs sG3 sF1) (
  eO))))))
 (cC (cg gG3 gF1) (cSk)
 (cE 0)))
 (cS (cB 1 (cS (cO (oM (cg gG0 gF0) (cs sG6 sF1) (
  oM (cg gG6 gF0) (cs sG7 sF1) (
  o2 (iaLT 4) (cg gG6 gF1) (cg gG7 gF1) (cs sG8 sF1) (
  oD (ldT 4 true) (cg gG8 gF1) (cs sG9 sF1) (
  oW0 (allocT [(.str []), (.int .i64 0), .nils, .nils]) (cs sG7 sF0) (
  oW2 (storeT 4) (cg gG7 gF0) (cg gG9 gF1) s0 (
  eO))))))))
 (cS (cO (oM (cg gG1 gF0) (cs sG10 sF1) (
  oD (ldT 4 true) (cg gG7 gF0) (cs sG11 sF1) (
  oV tabv0 ylv (cg gG10 gF1) [(cg gG11 gF1)] (cs sG12 sF1) (
  o1 (unT .not) (cg gG12 gF1) (cs sG13 sF1) (
  eO))))))
 (cC (cg gG13 gF1) (cS (cO (oM (cg gG0 gF0) (cs sG14 sF1) (
  oM (cg gG5 gF0) (cs sG15 sF1) (
  oD (ldT 4 true) (cg gG7 gF0) (cs sG0 sF2) (
  o2 (iaLT 4) (cg gG14 gF1) (cg gG15 gF1) (cs sG1 sF2) (
  oW2 (storeT 4) (cg gG1 gF2) (cg gG0 gF2) s0 (
  eO)))))))
 (cO (oM (cg gG5 gF0) (cs sG2 sF2) (
  o2 (arithK .add) (cg gG2 gF2) (gC (.int .i64 1)) (cs sG3 sF2) (
  oM (cg gG3 gF2) (cs sG5 sF0) (
  eO))))))
 (cSk)))))
 (cO (oM (cg gG6 gF0) (cs sG4 sF1) (
  o2 (arithK .add) (cg gG4 gF1) (gC (.int .i64 1)) (cs sG5 sF1) (
  oM (cg gG5 gF1) (cs sG6 sF0) (
  eO))))))))))
 (cS (cO (oM (cg gG0 gF0) (cs sG4 sF2) (
  oM (cg gG5 gF0) (cs sG5 sF2) (
  o3 (slLT true false 4) (cg gG4 gF2) (cg gG5 gF2) (gC .nili) (cs sG6 sF2) (
  oW1 (clrT [(.str []), (.int .i64 0), .nils, .nils] 4) (cg gG6 gF2) s0 (
  eO))))))
 (cS (cO (oM (cg gG0 gF0) (cs sG7 sF2) (
  oM (cg gG5 gF0) (cs sG8 sF2) (
  o3 (slLT false true 4) (cg gG7 gF2) (gC .nili) (cg gG8 gF2) (cs sG9 sF2) (
  oM (cg gG9 gF2) (cs sG4 sF0) (
  eO))))))
 (cR))))))
def fn170 : Fc := fnT [(cs sG0 sF0), (cs sG1 sF0)] (r1 (cg gG4 gF0)) co170
theorem se170 : FnS E 170 fn170 := fnOk (gv := gvT) (tab := asc [(90, fn90)]) (tabv := tabv0) (yl := ylv) (q := 2) (rf := rf170) (fun _ => rfl) (asc_cons se90 asc_nil) htabv0 hylv (by kernel_rfl) (by kernel_rfl) (by kernel_rfl)
def co156 : Cd := cS (cO (oW1 (boxT 6) (cg gG0 gF0) (cs sG3 sF0) (
  oW1 (boxT 8) (cg gG1 gF0) (cs sG4 sF0) (
  oW0 (allocT [(.int .i64 0), (.int .i64 0), (.int .i64 0), .nils, (.int .i64 0), (.int .i64 0), (.int .i64 0), .nils]) (cs sG6 sF0) (
  eO)))))
 (cS (cS (cO (oM (cg gG2 gF0) (cs sG8 sF0) (
  o2 (arithK .lss) (cg gG8 gF0) (gC (.int .i64 0)) (cs sG9 sF0) (
  oM (cg gG9 gF0) (cs sG10 sF0) (
  oG (cg gG10 gF0) false (cs sG11 sF0) (oM (cg gG2 gF0) (cs sG11 sF0) (eO)) (
  oG (cg gG10 gF0) false (cs sG12 sF0) (o1 (fadT 5) (cg gG3 gF0) (cs sG12 sF0) (eO)) (
  oG (cg gG10 gF0) false (cs sG13 sF0) (oD ld1T (cg gG12 gF0) (cs sG13 sF0) (eO)) (
  oG (cg gG10 gF0) false (cs sG14 sF0) (o1 lenLT (cg gG13 gF0) (cs sG14 sF0) (eO)) (
  oG (cg gG10 gF0) false (cs sG15 sF0) (o2 (arithK .geq) (cg gG11 gF0) (cg gG14 gF0) (cs sG15 sF0) (eO)) (
  o3 pickT (cg gG10 gF0) (gC (.bool true)) (cg gG15 gF0) (cs sG0 sF1) (
  oM (cg gG0 gF1) (cs sG1 sF1) (
  oG (cg gG1 gF1) false (cs sG2 sF1) (o1 (fadT 1) (cg gG3 gF0) (cs sG2 sF1) (eO)) (
  oG (cg gG1 gF1) false (cs sG3 sF1) (oD ld1T (cg gG2 gF1) (cs sG3 sF1) (eO)) (
  oG (cg gG1 gF1) false (cs sG4 sF1) (o1 (fadT 1) (cg gG4 gF0) (cs sG4 sF1) (eO)) (
  oG (cg gG1 gF1) false (cs sG5 sF1) (oD ld1T (cg gG4 gF1) (cs sG5 sF1) (eO)) (
  oG (cg gG1 gF1) false (cs sG6 sF1) (o2 (arithK .lss) (cg gG3 gF1) (cg gG5 gF1) (cs sG6 sF1) (eO)) (
  o3 pickT (cg gG1 gF1) (gC (.bool true)) (cg gG6 gF1) (cs sG7 sF1) (
  eO))))))))))))))))))
 (cC (cg gG7 gF1) (cS (cO (oD (ldT 8 true) (cg gG4 gF0) (cs sG8 sF1) (
  oW2 (storeT 8) (cg gG6 gF0) (cg gG8 gF1) s0 (
  eO))))
 (cR))
 (cSk)))
 (cS (cS (cO (o1 (fadT 4) (cg gG4 gF0) (cs sG9 sF1) (
  oD (ldT 4 true) (cg gG9 gF1) (cs sG10 sF1) (
  oW0 (allocT [(.int .i64 0), (.int .i64 0), (.int .i64 0), .nils]) (cs sG7 sF0) (
  oW2 (storeT 4) (cg gG7 gF0) (cg gG10 gF1) s0 (
  eO))))))
 (cS (cD [] [iP (o1 (fadT 0) (cg gG7 gF0) (cs sG11 sF1) (eO)),
  iP (oD ld1T (cg gG11 gF1) (cs sG12 sF1) (eO)),
  iP (o2 (arithK .neq) (cg gG12 gF1) (gC (.int .i64 0)) (cs sG13 sF1) (eO)),
  iP (oM (cg gG13 gF1) (cs sG14 sF1) (eO)),
  iP (oG (cg gG14 gF1) true (cs sG15 sF1) (o1 (fadT 0) (cg gG7 gF0) (cs sG15 sF1) (eO)) (eO)),
  iP (oG (cg gG14 gF1) true (cs sG0 sF2) (oD ld1T (cg gG15 gF1) (cs sG0 sF2) (eO)) (eO)),
  iP (oG (cg gG14 gF1) true (cs sG1 sF2) (o1 (fadT 5) (cg gG3 gF0) (cs sG1 sF2) (eO)) (eO)),
  iP (oG (cg gG14 gF1) true (cs sG2 sF2) (oD ld1T (cg gG1 gF2) (cs sG2 sF2) (eO)) (eO)),
  iP (oG (cg gG14 gF1) true (cs sG3 sF2) (oM (cg gG2 gF0) (cs sG3 sF2) (eO)) (eO)),
  iP (oG (cg gG14 gF1) true (cs sG4 sF2) (o2 (iaLT 1) (cg gG2 gF2) (cg gG3 gF2) (cs sG4 sF2) (eO)) (eO)),
  iP (oG (cg gG14 gF1) true (cs sG5 sF2) (oD ld1T (cg gG4 gF2) (cs sG5 sF2) (eO)) (eO)),
  iP (oG (cg gG14 gF1) true (cs sG6 sF2) (o2 (arithK .eql) (cg gG0 gF2) (cg gG5 gF2) (cs sG6 sF2) (eO)) (eO)),
  iP (o3 pickT (cg gG14 gF1) (cg gG6 gF2) (gC (.bool false)) (cs sG7 sF2) (eO))])
 (cC (cg gG7 gF2) (cD [] [iP (oD (ldT 8 true) (cg gG4 gF0) (cs sG8 sF2) (eO)),
  iW (oF fX [(cg gG8 gF2)] (cs sG9 sF2) (eO)),
  iP (o1 (fadT 2) (cg gG7 gF0) (cs sG10 sF2) (eO)),
  iR 0 2 (rd1 ld1T (cg gG10 gF2)) (cs sG11 sF2),
  iP (o1 (fadT 3) (cg gG4 gF0) (cs sG12 sF2) (eO)),
  iW (oW2 (storeT 1) (cg gG12 gF2) (cg gG9 gF2) s0 (eO)),
  iP (o1 (fadT 0) (cg gG4 gF0) (cs sG13 sF2) (eO)),
  iW (oW2 (storeT 1) (cg gG13 gF2) (cg gG11 gF2) s0 (eO))])
 (cSk))))
 (cS (cS (cO (o1 (fadT 4) (cg gG4 gF0) (cs sG14 sF2) (
  o1 (fadT 0) (cg gG14 gF2) (cs sG15 sF2) (
  oD ld1T (cg gG15 gF2) (cs sG0 sF3) (
  o2 (arithK .neq) (cg gG0 gF3) (gC (.int .i64 0)) (cs sG1 sF3) (
  eO))))))
 (cC (cg gG1 gF3) (cO (oN (buildT [(.int .i64 0), (.int .i64 0), (.int .i64 0), .nils] []) [] (cs sG2 sF3) (
  o1 (fadT 4) (cg gG4 gF0) (cs sG3 sF3) (
  oW2 (storeT 4) (cg gG3 gF3) (cg gG2 gF3) s0 (
  eO)))))
 (cSk)))
 (cS (cO (o1 (fadT 3) (cg gG4 gF0) (cs sG4 sF3) (
  oD ld1T (cg gG4 gF3) (cs sG5 sF3) (
  oF fn171 [(cg gG5 gF3)] (cs sG6 sF3) (
  oNN (mkfT 226) [] [(cg gG3 gF0)] (cs sG7 sF3) (
  oF fn170 [(cg gG6 gF3), (cg gG7 gF3)] (cs sG8 sF3) (
  o1 (fadT 3) (cg gG4 gF0) (cs sG9 sF3) (
  oW2 (storeT 1) (cg gG9 gF3) (cg gG8 gF3) s0 (
  eO)))))))))
 (cS (cO (o1 (fadT 1) (cg gG3 gF0) (cs sG10 sF3) (
  oD ld1T (cg gG10 gF3) (cs sG11 sF3) (
  o1 (fadT 1) (cg gG4 gF0) (cs sG12 sF3) (
  oW2 (storeT 1) (cg gG12 gF3) (cg gG11 gF3) s0 (
  eO))))))
 (cS (cO (oD (ldT 8 true) (cg gG4 gF0) (cs sG13 sF3) (
  oW2 (storeT 8) (cg gG6 gF0) (cg gG13 gF3) s0 (
  eO))))
 (cR)))))))
def fn156 : Fc := fnT [(cs sG0 sF0), (cs sG1 sF0), (cs sG2 sF0)] (rN [rC (cg gG6 gF0) 8 true]) co156
theorem se156 : FnS E 156 fn156 := fnOk (gv := gvT) (tab := asc [(171, fn171), (170, fn170)]) (tabv := tabv0) (yl := ylv) (q := 3) (rf := rf156) (fun _ => rfl) (asc_cons se171 (asc_cons se170 asc_nil)) htabv0 hylv (by kernel_rfl) (by kernel_rfl) (by kernel_rfl)
def co157 : Cd := cS (cO (oW1 (boxT 8) (cg gG0 gF0) (cs sG1 sF0) (
  oM (gC .nils) (cs sG2 sF0) (
  eO))))
 (cS (cO (oM (gC .nils) (cs sG3 sF0) (
  eO)))
 (cS (cS (cO (o1 (fadT 3) (cg gG1 gF0) (cs sG6 sF0) (
  oD ld1T (cg gG6 gF0) (cs sG7 sF0) (
  o1 lenLT (cg gG7 gF0) (cs sG8 sF0) (
  oM (gC (.int .i64 0)) (cs sG9 sF0) (
  eO))))))
 (cB 0 (cL (cS (cO (o2 (arithK .lss) (cg gG9 gF0) (cg gG8 gF0) (cs sG10 sF0) (
  eO)))
 (cS (cC (cg gG10 gF0) (cSk)
 (cE 0))
 (cS (cB 1 (cS (cO (o2 (iaLT 4) (cg gG7 gF0) (cg gG9 gF0) (cs sG11 sF0) (
  oD (ldT 4 true) (cg gG11 gF0) (cs sG12 sF0) (
  oW0 (allocT [(.str []), (.int .i64 0), .nils, .nils]) (cs sG5 sF0) (
  oW2 (storeT 4) (cg gG5 gF0) (cg gG12 gF0) s0 (
  eO))))))
 (cO (oM (cg gG3 gF0) (cs sG13 sF0) (
  o1 (fadT 0) (cg gG5 gF0) (cs sG14 sF0) (
  oD ld1T (cg gG14 gF0) (cs sG15 sF0) (
  o1 (fadT 1) (cg gG5 gF0) (cs sG0 sF1) (
  oD ld1T (cg gG0 gF1) (cs sG1 sF1) (
  oN (buildT [(.str []), (.int .i64 0)] [(0, 1), (1, 1)]) [(cg gG15 gF0), (cg gG1 gF1)] (cs sG2 sF1) (
  oN (mklT [(.str []), (.int .i64 0)] 1 2 [(0, 2)]) [(cg gG2 gF1)] (cs sG3 sF1) (
  oW2 (appT 2 24) (cg gG13 gF0) (cg gG3 gF1) (cs sG4 sF1) (
  oM (cg gG4 gF1) (cs sG3 sF0) (
  eO)))))))))))))
 (cO (o2 (arithK .add) (cg gG9 gF0) (gC (.int .i64 1)) (cs sG5 sF1) (
  oM (cg gG5 gF1) (cs sG9 sF0) (
  eO))))))))))
 (cS (cO (oM (cg gG3 gF0) (cs sG6 sF1) (
  oM (cg gG6 gF1) (cs sG2 sF0) (
  eO))))
 (cR))))
def fn157 : Fc := fnT [(cs sG0 sF0)] (r1 (cg gG2 gF0)) co157
theorem se157 : FnS E 157 fn157 := fnOk (gv := gvT) (tab := asc []) (tabv := tabv0) (yl := ylv) (q := 1) (rf := rf157) (fun _ => rfl) asc_nil htabv0 hylv (by kernel_rfl) (by kernel_rfl) (by kernel_rfl)
def co92 : Cd := cS (cO (oM (gC (.bool false)) (cs sG4 sF0) (
  eO)))
 (cS (cS (cO (oM (cg gG0 gF0) (cs sG6 sF0) (
  o1 lenLT (cg gG6 gF0) (cs sG7 sF0) (
  oM (cg gG1 gF0) (cs sG8 sF0) (
  o1 lenLT (cg gG8 gF0) (cs sG9 sF0) (
  o2 (arithK .neq) (cg gG7 gF0) (cg gG9 gF0) (cs sG10 sF0) (
  eO)))))))
 (cC (cg gG10 gF0) (cS (cO (oM (gC (.bool false)) (cs sG4 sF0) (
  eO)))
 (cR))
 (cSk)))
 (cS (cS (cO (oM (cg gG0 gF0) (cs sG11 sF0) (
  o1 lenLT (cg gG11 gF0) (cs sG12 sF0) (
  oM (gC (.int .i64 0)) (cs sG13 sF0) (
  eO)))))
 (cB 0 (cL (cS (cO (o2 (arithK .lss) (cg gG13 gF0) (cg gG12 gF0) (cs sG14 sF0) (
  eO)))
 (cS (cC (cg gG14 gF0) (cSk)
 (cE 0))
 (cS (cB 1 (cS (cO (oM (cg gG13 gF0) (cs sG15 sF0) (
  oM (cg gG15 gF0) (cs sG5 sF0) (
  eO))))
 (cS (cD [] [iP (oM (cg gG0 gF0) (cs sG0 sF1) (eO)),
  iP (oM (cg gG5 gF0) (cs sG1 sF1) (eO)),
  iP (o2 (iaLT 2) (cg gG0 gF1) (cg gG1 gF1) (cs sG2 sF1) (eO)),
  iP (oD (ldT 2 true) (cg gG2 gF1) (cs sG3 sF1) (eO)),
  iP (oM (cg gG1 gF0) (cs sG4 sF1) (eO)),
  iP (oM (cg gG5 gF0) (cs sG5 sF1) (eO)),
  iP (o2 (iaLT 2) (cg gG4 gF1) (cg gG5 gF1) (cs sG6 sF1) (eO)),
  iP (oD (ldT 2 true) (cg gG6 gF1) (cs sG7 sF1) (eO)),
  iP (o2 (eqT true (.agg [1, 0])) (cg gG3 gF1) (cg gG7 gF1) (cs sG8 sF1) (eO))])
 (cC (cg gG8 gF1) (cS (cO (oM (gC (.bool false)) (cs sG4 sF0) (
  eO)))
 (cR))
 (cSk)))))
 (cO (o2 (arithK .add) (cg gG13 gF0) (gC (.int .i64 1)) (cs sG9 sF1) (
  oM (cg gG9 gF1) (cs sG13 sF0) (
  eO))))))))))
 (cS (cO (oM (gC (.bool true)) (cs sG4 sF0) (
  eO)))
 (cR))))
def fn92 : Fc := fnT [(cs sG0 sF0), (cs sG1 sF0)] (r1 (cg gG4 gF0)) co92
theorem se92 : FnS E 92 fn92 := fnOk (gv := gvT) (tab := asc []) (tabv := tabv0) (yl := ylv) (q := 2) (rf := rf92) (fun _ => rfl) asc_nil htabv0 hylv (by kernel_rfl) (by kernel_rfl) (by kernel_rfl)
def co155 : Cd := cS (cO (oD ld1T (cg gG1 gF0) (cs sG7 sF0) (
  oF fn28 [(cg gG7 gF0)] (cs sG8 sF0) (
  oF fn70 [(cg gG8 gF0)] (cs sG9 sF0) (
  oF fn71 [(cg gG9 gF0)] (cs sG10 sF0) (
  oW0 (allocT [(.int .i64 0), (.int .i64 0), (.int .i64 0), .nils, .nils, .nils]) (cs sG3 sF0) (
  oW2 (storeT 6) (cg gG3 gF0) (cg gG10 gF0) s0 (
  eO))))))))
 (cS (cO (o1 (fadT 4) (cg gG3 gF0) (cs sG11 sF0) (
  oD ld1T (cg gG11 gF0) (cs sG12 sF0) (
  o1 lenLT (cg gG12 gF0) (cs sG13 sF0) (
  oM (gC (.int .i64 0)) (cs sG14 sF0) (
  eO))))))
 (cB 0 (cL (cS (cO (o2 (arithK .lss) (cg gG14 gF0) (cg gG13 gF0) (cs sG15 sF0) (
  eO)))
 (cS (cC (cg gG15 gF0) (cSk)
 (cE 0))
 (cS (cB 1 (cS (cO (oM (cg gG14 gF0) (cs sG0 sF1) (
  o2 (iaLT 1) (cg gG12 gF0) (cg gG14 gF0) (cs sG1 sF1) (
  oD ld1T (cg gG1 gF1) (cs sG2 sF1) (
  oM (cg gG0 gF1) (cs sG4 sF0) (
  oM (cg gG2 gF1) (cs sG5 sF0) (
  eO)))))))
 (cS (cD [[(.int .i64 0), (.int .i64 0), (.int .i64 0), .nils, (.int .i64 0), (.int .i64 0), (.int .i64 0), .nils]] [iR 0 2 (rd1 (ldT 6 true) (cg gG3 gF0)) (cs sG3 sF1),
  iP (oD ld1T (cg gG1 gF0) (cs sG4 sF1) (eO)),
  iP (oM (cg gG4 gF0) (cs sG5 sF1) (eO)),
  iW (oF fn25 [(cg gG4 gF1), (cg gG5 gF1)] (cs sG6 sF1) (eO)),
  iW (oF fn14 [(cg gG6 gF1)] (cs sG7 sF1) (eO)),
  iP (oM (cg gG4 gF0) (cs sG8 sF1) (eO)),
  iW (oF fn156 [(cg gG3 gF1), (cg gG7 gF1), (cg gG8 gF1)] (cs sG9 sF1) (eO)),
  iA 0 0 3 [(.int .i64 0), (.int .i64 0), (.int .i64 0), .nils, (.int .i64 0), (.int .i64 0), (.int .i64 0), .nils] (cs sG6 sF0),
  iW (oW2 (storeT 8) (cg gG6 gF0) (cg gG9 gF1) s0 (eO))])
 (cS (cS (cD [] [iP (oM (cg gG5 gF0) (cs sG10 sF1) (eO)),
  iP (o1 (unT .not) (cg gG10 gF1) (cs sG11 sF1) (eO)),
  iP (oM (cg gG11 gF1) (cs sG12 sF1) (eO)),
  iP (oG (cg gG12 gF1) false (cs sG13 sF1) (o1 (fadT 0) (cg gG6 gF0) (cs sG13 sF1) (eO)) (eO)),
  iP (oG (cg gG12 gF1) false (cs sG14 sF1) (oD ld1T (cg gG13 gF1) (cs sG14 sF1) (eO)) (eO)),
  iP (oG (cg gG12 gF1) false (cs sG15 sF1) (o1 (fadT 2) (cg gG3 gF0) (cs sG15 sF1) (eO)) (eO)),
  iP (oG (cg gG12 gF1) false (cs sG0 sF2) (oD ld1T (cg gG15 gF1) (cs sG0 sF2) (eO)) (eO)),
  iP (oG (cg gG12 gF1) false (cs sG1 sF2) (o2 (arithK .neq) (cg gG14 gF1) (cg gG0 gF2) (cs sG1 sF2) (eO)) (eO)),
  iP (o3 pickT (cg gG12 gF1) (gC (.bool true)) (cg gG1 gF2) (cs sG2 sF2) (eO)),
  iP (oM (cg gG2 gF2) (cs sG3 sF2) (eO)),
  iP (oG (cg gG3 gF2) false (cs sG4 sF2) (oD (ldT 8 true) (cg gG6 gF0) (cs sG4 sF2) (eO)) (eO)),
  iW (oG (cg gG3 gF2) false (cs sG5 sF2) (oF fn157 [(cg gG4 gF2)] (cs sG5 sF2) (eO)) (eO)),
  iP (oG (cg gG3 gF2) false (cs sG6 sF2) (o1 (fadT 3) (cg gG3 gF0) (cs sG6 sF2) (eO)) (eO)),
  iG (cg gG3 gF2) false (cs sG7 sF2) (iR 0 1 (rd1 ld1T (cg gG6 gF2)) (cs sG7 sF2)),
  iW (oG (cg gG3 gF2) false (cs sG8 sF2) (oF fn92 [(cg gG5 gF2), (cg gG7 gF2)] (cs sG8 sF2) (eO)) (eO)),
  iP (oG (cg gG3 gF2) false (cs sG9 sF2) (o1 (unT .not) (cg gG8 gF2) (cs sG9 sF2) (eO)) (eO)),
  iP (o3 pickT (cg gG3 gF2) (gC (.bool true)) (cg gG9 gF2) (cs sG10 sF2) (eO))])
 (cC (cg gG10 gF2) (cE 1)
 (cSk)))
 (cS (cO (oM (cg gG0 gF0) (cs sG11 sF2) (
  oM (cg gG4 gF0) (cs sG12 sF2) (
  oD (ldT 8 true) (cg gG6 gF0) (cs sG13 sF2) (
  oV tabv0 ylv (cg gG11 gF2) [(cg gG12 gF2), (cg gG13 gF2)] (cs sG14 sF2) (
  o1 (unT .not) (cg gG14 gF2) (cs sG15 sF2) (
  eO)))))))
 (cC (cg gG15 gF2) (cR)
 (cSk)))))))
 (cO (o2 (arithK .add) (cg gG14 gF0) (gC (.int .i64 1)) (cs sG0 sF3) (
  oM (cg gG0 gF3) (cs sG14 sF0) (
  eO))))))))))
def fn155 : Fc := fnT [(cs sG0 sF0), (cs sG1 sF0)] (rN []) co155
theorem se155 : FnS E 155 fn155 := fnOk (gv := gvT) (tab := asc [(28, fn28), (70, fn70), (71, fn71), (25, fn25), (14, fn14), (156, fn156), (157, fn157), (92, fn92)]) (tabv := tabv0) (yl := ylv) (q := 2) (rf := rf155) (fun _ => rfl) (asc_cons se28 (asc_cons se70 (asc_cons se71 (asc_cons se25 (asc_cons se14 (asc_cons se156 (asc_cons se157 (asc_cons se92 asc_nil)))))))) htabv0 hylv (by kernel_rfl) (by kernel_rfl) (by kernel_rfl)
def tabv1 : Nat → Fc := asc [(155, fn155)]
theorem htabv1 : TabF E tabv1 := (asc_cons se155 asc_nil)
def co236 : Cd := cS (cO (oM (gC (.int .u8 0)) (cs sG2 sF0) (
  eO)))
 (cS (cS (cO (oM (cg gG0 gF0) (cs sG3 sF0) (
  o2 (arithK .geq) (cg gG3 gF0) (gC (.int .u8 128)) (cs sG4 sF0) (
  eO))))
 (cC (cg gG4 gF0) (cS (cO (oM (cg gG0 gF0) (cs sG5 sF0) (
  o2 (arithK .shl) (cg gG5 gF0) (gC (.int .u64 1)) (cs sG6 sF0) (
  o2 (arithK .xor) (cg gG6 gF0) (gC (.int .u8 27)) (cs sG7 sF0) (
  oM (cg gG7 gF0) (cs sG2 sF0) (
  eO))))))
 (cR))
 (cSk)))
 (cS (cO (oM (cg gG0 gF0) (cs sG8 sF0) (
  o2 (arithK .shl) (cg gG8 gF0) (gC (.int .u64 1)) (cs sG9 sF0) (
  oM (cg gG9 gF0) (cs sG2 sF0) (
  eO)))))
 (cR)))
def fn236 : Fc := fnT [(cs sG0 sF0)] (r1 (cg gG2 gF0)) co236
theorem se236 : FnS E 236 fn236 := fnOk (gv := gvT) (tab := asc []) (tabv := tabv1) (yl := ylv) (q := 1) (rf := rf236) (fun _ => rfl) asc_nil htabv1 hylv (by kernel_rfl) (by kernel_rfl) (by kernel_rfl)
def co235 : Cd := cS (cO (oM (gC (.int .u8 1)) (cs sG2 sF0) (
  eO)))
 (cS (cO (oM (gC (.int .i64 0)) (cs sG4 sF0) (
  eO)))
 (cB 0 (cL (cS (cO (o2 (arithK .lss) (cg gG4 gF0) (gC (.int .i64 255)) (cs sG5 sF0) (
  eO)))
 (cS (cC (cg gG5 gF0) (cSk)
 (cE 0))
 (cS (cB 1 (cS (cO (oM (cg gG4 gF0) (cs sG6 sF0) (
  oM (cg gG6 gF0) (cs sG3 sF0) (
  eO))))
 (cS (cS (cO (oM (cg gG0 gF0) (cs sG7 sF0) (
  oM (cg gG3 gF0) (cs sG8 sF0) (
  oM (cg gG2 gF0) (cs sG9 sF0) (
  oV tabv1 ylv (cg gG7 gF0) [(cg gG8 gF0), (cg gG9 gF0)] (cs sG10 sF0) (
  o1 (unT .not) (cg gG10 gF0) (cs sG11 sF0) (
  eO)))))))
 (cC (cg gG11 gF0) (cR)
 (cSk)))
 (cO (oM (cg gG2 gF0) (cs sG12 sF0) (
  oM (cg gG2 gF0) (cs sG13 sF0) (
  oF fn236 [(cg gG13 gF0)] (cs sG14 sF0) (
  o2 (arithK .xor) (cg gG12 gF0) (cg gG14 gF0) (cs sG15 sF0) (
  oM (cg gG15 gF0) (cs sG2 sF0) (
  eO))))))))))
 (cO (o2 (arithK .add) (cg gG4 gF0) (gC (.int .i64 1)) (cs sG0 sF1) (
  oM (cg gG0 gF1) (cs sG4 sF0) (
  eO))))))))))
def fn235 : Fc := fnT [(cs sG0 sF0)] (rN []) co235
theorem se235 : FnS E 235 fn235 := fnOk (gv := gvT) (tab := asc [(236, fn236)]) (tabv := tabv1) (yl := ylv) (q := 1) (rf := rf235) (fun _ => rfl) (asc_cons se236 asc_nil) htabv1 hylv (by kernel_rfl) (by kernel_rfl) (by kernel_rfl)
def tabv2 : Nat → Fc := asc [(155, fn155), (235, fn235)]
theorem htabv2 : TabF E tabv2 := (asc_cons se155 (asc_cons se235 asc_nil))
def co30 : Cd := cS (cO (oW0 (allocT [(.int .i64 0), (.bool false), .nils, .nils, .nils]) (cs sG4 sF0) (
  oM (gC (.bool false)) (cs sG5 sF0) (
  eO))))
 (cS (cS (cO (oM (cg gG0 gF0) (cs sG8 sF0) (
  o2 (eqT false .ptr) (cg gG8 gF0) (gC .nilp) (cs sG9 sF0) (
  eO))))
 (cC (cg gG9 gF0) (cS (cO (oN (buildT [(.int .i64 0), (.bool false), .nils, .nils, .nils] []) [] (cs sG10 sF0) (
  oW2 (storeT 5) (cg gG4 gF0) (cg gG10 gF0) s0 (
  oM (gC (.bool false)) (cs sG5 sF0) (
  eO)))))
 (cR))
 (cSk)))
 (cS (cS (cO (oM (cg gG1 gF0) (cs sG11 sF0) (
  oN maxT [(cg gG11 gF0), (gC (.int .i64 0))] (cs sG12 sF0) (
  oM (gC (.int .i64 0)) (cs sG13 sF0) (
  eO)))))
 (cB 0 (cL (cS (cO (o2 (arithK .lss) (cg gG13 gF0) (cg gG12 gF0) (cs sG14 sF0) (
  eO)))
 (cS (cC (cg gG14 gF0) (cSk)
 (cE 0))
 (cS (cB 1 (cS (cO (oN (buildT [(.int .i64 0), (.int .i64 0), (.int .i64 0), (.int .i64 0), (.str []), .nils] [(0, 1)]) [(gC (.int .i64 9))] (cs sG15 sF0) (
  oW0 (allocT [(.int .i64 0), (.int .i64 0), (.int .i64 0), (.int .i64 0), (.str []), .nils]) (cs sG6 sF0) (
  oW2 (storeT 6) (cg gG6 gF0) (cg gG15 gF0) s0 (
  eO)))))
 (cS (cS (cO (oM (cg gG0 gF0) (cs sG0 sF1) (
  oF fX [(cg gG0 gF1)] (cs sG1 sF1) (
  oF fX [(cg gG1 gF1)] (cs sG2 sF1) (
  o2 (arithK .eql) (cg gG2 gF1) (gC (.int .i64 0)) (cs sG3 sF1) (
  eO))))))
 (cC (cg gG3 gF1) (cO (o1 (fadT 0) (cg gG6 gF0) (cs sG4 sF1) (
  oW2 (storeT 1) (cg gG4 gF1) (gC (.int .i64 12)) s0 (
  eO))))
 (cSk)))
 (cS (cO (oM (cg gG0 gF0) (cs sG5 sF1) (
  oD (ldT 6 true) (cg gG6 gF0) (cs sG6 sF1) (
  oF fX [(cg gG5 gF1), (cg gG6 gF1)] (cs sG7 sF1) (
  oW0 (allocT [(.int .i64 0), (.bool false), .nils, .nils, .nils]) (cs sG7 sF0) (
  oW2 (storeT 5) (cg gG7 gF0) (cg gG7 gF1) s0 (
  eO)))))))
 (cS (cO (o1 (fadT 1) (cg gG7 gF0) (cs sG8 sF1) (
  oD ld1T (cg gG8 gF1) (cs sG9 sF1) (
  eO))))
 (cC (cg gG9 gF1) (cS (cO (oD (ldT 5 true) (cg gG7 gF0) (cs sG10 sF1) (
  oW2 (storeT 5) (cg gG4 gF0) (cg gG10 gF1) s0 (
  oM (gC (.bool true)) (cs sG5 sF0) (
  eO)))))
 (cR))
 (cSk)))))))
 (cO (o2 (arithK .add) (cg gG13 gF0) (gC (.int .i64 1)) (cs sG11 sF1) (
  oM (cg gG11 gF1) (cs sG13 sF0) (
  eO))))))))))
 (cS (cO (oN (buildT [(.int .i64 0), (.bool false), .nils, .nils, .nils] []) [] (cs sG12 sF1) (
  oW2 (storeT 5) (cg gG4 gF0) (cg gG12 gF1) s0 (
  oM (gC (.bool false)) (cs sG5 sF0) (
  eO)))))
 (cR))))
def fn30 : Fc := fnT [(cs sG0 sF0), (cs sG1 sF0)] (rN [rC (cg gG4 gF0) 5 true, rT (cg gG5 gF0)]) co30
theorem se30 : FnS E 30 fn30 := fnOk (gv := gvT) (tab := asc []) (tabv := tabv2) (yl := ylv) (q := 2) (rf := rf30) (fun _ => rfl) asc_nil htabv2 hylv (by kernel_rfl) (by kernel_rfl) (by kernel_rfl)
def co69 : Cd := cS (cO (oW1 (boxT 1) (cg gG0 gF0) (cs sG1 sF0) (
  oM (gC .nilf) (cs sG2 sF0) (
  eO))))
 (cS (cO (oNN (mkfT 155) [] [(cg gG1 gF0)] (cs sG3 sF0) (
  oM (cg gG3 gF0) (cs sG2 sF0) (
  eO))))
 (cR))
def fn69 : Fc := fnT [(cs sG0 sF0)] (r1 (cg gG2 gF0)) co69
theorem se69 : FnS E 69 fn69 := fnOk (gv := gvT) (tab := asc []) (tabv := tabv2) (yl := ylv) (q := 1) (rf := rf69) (fun _ => rfl) asc_nil htabv2 hylv (by kernel_rfl) (by kernel_rfl) (by kernel_rfl)
def co31 : Cd := cS (cO (oM (gC .nils) (cs sG2 sF0) (
  oM (gC .nils) (cs sG3 sF0) (
  eO))))
 (cS (cS (cO (oM (cg gG0 gF0) (cs sG11 sF0) (
  o2 (eqT false .ptr) (cg gG11 gF0) (gC .nilp) (cs sG12 sF0) (
  eO))))
 (cC (cg gG12 gF0) (cS (cO (oM (gC .nils) (cs sG2 sF0) (
  oM (gC .nils) (cs sG3 sF0) (
  eO))))
 (cR))
 (cSk)))
 (cS (cO (oW0 (allocT [.nils]) (cs sG4 sF0) (
  eO)))
 (cS (cO (oW0 (allocT [.nils]) (cs sG5 sF0) (
  eO)))
 (cS (cS (cO (oM (cg gG0 gF0) (cs sG13 sF0) (
  oF fn69 [(cg gG13 gF0)] (cs sG14 sF0) (
  eO))))
 (cB 0 (cRg tabv2 (cg gG14 gF0) [15, 16] (.seq (.ops [ROp.mk (some 6) none (.p (.mv (.t 15)))])
 (.ops [ROp.mk (some 7) none (.w (.alloc [(.int .i64 0), (.int .i64 0), (.int .i64 0), .nils, (.int .i64 0), (.int .i64 0), (.int .i64 0), .nils])),
  ROp.mk none none (.w (.store 8 (.t 7) (.t 16)))])) (.block 1 (.seq (.ops [ROp.mk (some 8) none (.p (.mv (.c .nils)))])
  (.seq (.seq (.ops [ROp.mk (some 17) none (.p (.fad 3 (.t 7))),
   ROp.mk (some 18) none (.d (.load 1 false (.t 17))),
   ROp.mk (some 19) none (.p (.lenL (.t 18))),
   ROp.mk (some 20) none (.p (.mv (.c (.int .i64 0))))])
  (.block 2 (.loop (.seq (.ops [ROp.mk (some 21) none (.p (.arith .lss (.t 20) (.t 19)))])
    (.seq (.cond (.t 21) (.skip)
    (.exit 2))
    (.seq (.block 3 (.seq (.ops [ROp.mk (some 22) none (.p (.iaL 4 (.t 18) (.t 20))),
      ROp.mk (some 23) none (.d (.load 4 true (.t 22))),
      ROp.mk (some 10) none (.w (.alloc [(.str []), (.int .i64 0), .nils, .nils])),
      ROp.mk none none (.w (.store 4 (.t 10) (.t 23)))])
     (.ops [ROp.mk (some 24) none (.p (.mv (.t 8))),
      ROp.mk (some 25) none (.p (.fad 2 (.t 10))),
      ROp.mk (some 26) none (.d (.load 1 false (.t 25))),
      ROp.mk (some 27) none (.w (.app 1 1 (.t 24) (.t 26))),
      ROp.mk (some 8) none (.p (.mv (.t 27)))])))
    (.ops [ROp.mk (some 28) none (.p (.arith .add (.t 20) (.c (.int .i64 1)))),
     ROp.mk (some 20) none (.p (.mv (.t 28)))])))))))
  (.draw [(ROp.mk (some 29) none (.d (.load 1 false (.t 4))), .r 0 0),
   (ROp.mk (some 30) none (.p (.mv (.t 6))), .p),
   (ROp.mk (some 31) none (.p (.mkl [(.int .i64 0)] 1 1 [(0, 1, (.t 30))])), .p),
   (ROp.mk (some 32) none (.w (.app 1 8 (.t 29) (.t 31))), .w),
   (ROp.mk (some 33) none (.d (.load 1 false (.t 5))), .r 0 1),
   (ROp.mk (some 34) none (.p (.mv (.t 8))), .p),
   (ROp.mk (some 35) none (.p (.mkl [.nils] 1 1 [(0, 1, (.t 34))])), .p),
   (ROp.mk (some 36) none (.w (.app 1 24 (.t 33) (.t 35))), .w),
   (ROp.mk none none (.w (.store 1 (.t 4) (.t 32))), .w),
   (ROp.mk none none (.w (.store 1 (.t 5) (.t 36))), .w)] [])))))))
 (cS (cD [] [iP (oD ld1T (cg gG4 gF0) (cs sG5 sF2) (eO)),
  iP (oD ld1T (cg gG5 gF0) (cs sG6 sF2) (eO)),
  iP (oM (cg gG5 gF2) (cs sG2 sF0) (eO)),
  iP (oM (cg gG6 gF2) (cs sG3 sF0) (eO))])
 (cR))))))
def fn31 : Fc := fnT [(cs sG0 sF0)] (rN [rT (cg gG2 gF0), rT (cg gG3 gF0)]) co31
theorem se31 : FnS E 31 fn31 := fnOk (gv := gvT) (tab := asc [(69, fn69)]) (tabv := tabv2) (yl := ylv) (q := 1) (rf := rf31) (fun _ => rfl) (asc_cons se69 asc_nil) htabv2 hylv (by kernel_rfl) (by kernel_rfl) (by kernel_rfl)
def co22 : Cd := cS (cO (oW0 (allocT [(.int .i64 0), (.int .i64 0), (.int .i64 0), (.int .i64 0), (.int .i64 0)]) (cs sG2 sF0) (
  eO)))
 (cS (cS (cO (oM (cg gG0 gF0) (cs sG3 sF0) (
  o2 (eqT false .ptr) (cg gG3 gF0) (gC .nilp) (cs sG4 sF0) (
  eO))))
 (cC (cg gG4 gF0) (cS (cO (oN (buildT [(.int .i64 0), (.int .i64 0), (.int .i64 0), (.int .i64 0), (.int .i64 0)] []) [] (cs sG5 sF0) (
  oW2 (storeT 5) (cg gG2 gF0) (cg gG5 gF0) s0 (
  eO))))
 (cR))
 (cSk)))
 (cS (cO (oM (cg gG0 gF0) (cs sG6 sF0) (
  o1 nchkT (cg gG6 gF0) (cs sG7 sF0) (
  o1 (fadT 0) (cg gG7 gF0) (cs sG8 sF0) (
  oD (ldT 5 true) (cg gG8 gF0) (cs sG9 sF0) (
  oW2 (storeT 5) (cg gG2 gF0) (cg gG9 gF0) s0 (
  eO)))))))
 (cR)))
def fn22 : Fc := fnT [(cs sG0 sF0)] (rN [rC (cg gG2 gF0) 5 true]) co22
theorem se22 : FnS E 22 fn22 := fnOk (gv := gvT) (tab := asc []) (tabv := tabv2) (yl := ylv) (q := 1) (rf := rf22) (fun _ => rfl) asc_nil htabv2 hylv (by kernel_rfl) (by kernel_rfl) (by kernel_rfl)
def co166 : Cd := cS (cO (oM (gC .nilf) (cs sG0 sF0) (
  eO)))
 (cS (cO (oM (gC (.fn 235 [] [])) (cs sG0 sF0) (
  eO)))
 (cR))
def fn166 : Fc := fnT [] (r1 (cg gG0 gF0)) co166
theorem se166 : FnS E 166 fn166 := fnOk (gv := gvT) (tab := asc []) (tabv := tabv2) (yl := ylv) (q := 0) (rf := rf166) (fun _ => rfl) asc_nil htabv2 hylv (by kernel_rfl) (by kernel_rfl) (by kernel_rfl)
def co74 : Cd := cS (cO (oM (gC .nilp) (cs sG0 sF0) (
  eO)))
 (cS (cO (oN (buildT [(.int .u8 0), (.int .u8 0), (.int .u8 0), (.int .u8 0), (.int .u8 0), (.int .u8 0), (.int .u8 0), (.int .u8 0), (.int .u8 0), (.int .u8 0), (.int .u8 0), (.int .u8 0), (.int .u8 0), (.int .u8 0), (.int .u8 0), (.int .u8 0), (.int .u8 0), (.int .u8 0), (.int .u8 0), (.int .u8 0), (.int .u8 0), (.int .u8 0), (.int .u8 0), (.int .u8 0), (.int .u8 0), (.int .u8 0), (.int .u8 0), (.int .u8 0), (.int .u8 0), (.int .u8 0), (.int .u8 0), (.int .u8 0), (.int .u8 0), (.int .u8 0), (.int .u8 0), (.int .u8 0), (.int .u8 0), (.int .u8 0), (.int .u8 0), (.int .u8 0), (.int .u8 0), (.int .u8 0), (.int .u8 0), (.int .u8 0), (.int .u8 0), (.int .u8 0), (.int .u8 0), (.int .u8 0), (.int .u8 0), (.int .u8 0), (.int .u8 0), (.int .u8 0), (.int .u8 0), (.int .u8 0), (.int .u8 0), (.int .u8 0), (.int .u8 0), (.int .u8 0), (.int .u8 0), (.int .u8 0), (.int .u8 0), (.int .u8 0), (.int .u8 0), (.int .u8 0), (.int .u8 0), (.int .u8 0), (.int .u8 0), (.int .u8 0), (.int .u8 0), (.int .u8 0), (.int .u8 0), (.int .u8 0), (.int .u8 0), (.int .u8 0), (.int .u8 0), (.int .u8 0), (.int .u8 0), (.int .u8 0), (.int .u8 0), (.int .u8 0), (.int .u8 0), (.int .u8 0), (.int .u8 0), (.int .u8 0), (.int .u8 0), (.int .u8 0), (.int .u8 0), (.int .u8 0), (.int .u8 0), (.int .u8 0), (.int .u8 0), (.int .u8 0), (.int .u8 0), (.int .u8 0), (.int .u8 0), (.int .u8 0), (.int .u8 0), (.int .u8 0), (.int .u8 0), (.int .u8 0), (.int .u8 0), (.int .u8 0), (.int .u8 0), (.int .u8 0), (.int .u8 0), (.int .u8 0), (.int .u8 0), (.int .u8 0), (.int .u8 0), (.int .u8 0), (.int .u8 0), (.int .u8 0), (.int .u8 0), (.int .u8 0), (.int .u8 0), (.int .u8 0), (.int .u8 0), (.int .u8 0), (.int .u8 0), (.int .u8 0), (.int .u8 0), (.int .u8 0), (.int .u8 0), (.int .u8 0), (.int .u8 0), (.int .u8 0), (.int .u8 0), (.int .u8 0), (.int .u8 0), (.int .u8 0), (.int .u8 0), (.int .u8 0), (.int .u8 0), (.int .u8 0), (.int .u8 0), (.int .u8 0), (.int .u8 0), (.int .u8 0), (.int .u8 0), (.int .u8 0), (.int .u8 0), (.int .u8 0), (.int .u8 0), (.int .u8 0), (.int .u8 0), (.int .u8 0), (.int .u8 0), (.int .u8 0), (.int .u8 0), (.int .u8 0), (.int .u8 0), (.int .u8 0), (.int .u8 0), (.int .u8 0), (.int .u8 0), (.int .u8 0), (.int .u8 0), (.int .u8 0), (.int .u8 0), (.int .u8 0), (.int .u8 0), (.int .u8 0), (.int .u8 0), (.int .u8 0), (.int .u8 0), (.int .u8 0), (.int .u8 0), (.int .u8 0), (.int .u8 0), (.int .u8 0), (.int .u8 0), (.int .u8 0), (.int .u8 0), (.int .u8 0), (.int .u8 0), (.int .u8 0), (.int .u8 0), (.int .u8 0), (.int .u8 0), (.int .u8 0), (.int .u8 0), (.int .u8 0), (.int .u8 0), (.int .u8 0), (.int .u8 0), (.int .u8 0), (.int .u8 0), (.int .u8 0), (.int .u8 0), (.int .u8 0), (.int .u8 0), (.int .u8 0), (.int .u8 0), (.int .u8 0), (.int .u8 0), (.int .u8 0), (.int .u8 0), (.int .u8 0), (.int .u8 0), (.int .u8 0), (.int .u8 0), (.int .u8 0), (.int .u8 0), (.int .u8 0), (.int .u8 0), (.int .u8 0), (.int .u8 0), (.int .u8 0), (.int .u8 0), (.int .u8 0), (.int .u8 0), (.int .u8 0), (.int .u8 0), (.int .u8 0), (.int .u8 0), (.int .u8 0), (.int .u8 0), (.int .u8 0), (.int .u8 0), (.int .u8 0), (.int .u8 0), (.int .u8 0), (.int .u8 0), (.int .u8 0), (.int .u8 0), (.int .u8 0), (.int .u8 0), (.int .u8 0), (.int .u8 0), (.int .u8 0), (.int .u8 0), (.int .u8 0), (.int .u8 0), (.int .u8 0), (.int .u8 0), (.int .u8 0), (.int .u8 0), (.int .u8 0), (.int .u8 0), (.int .u8 0), (.int .u8 0), (.int .u8 0), (.int .u8 0), (.int .u8 0), (.int .u8 0), (.int .u8 0), (.int .u8 0), (.int .u8 0), (.int .u8 0), (.int .u8 0), (.int .u8 0), (.int .u8 0), (.int .u8 0), (.int .u8 0), (.int .u8 0), (.int .u8 0), (.int .u8 0), (.int .u8 0), (.int .u8 0), (.int .u8 0), (.int .u8 0), (.int .u8 0), (.int .u8 0), (.int .u8 0), (.int .u8 0), (.int .u8 0), (.int .u8 0), (.int .u8 0), (.int .u8 0), (.int .u8 0), (.int .u8 0), (.int .u8 0), (.int .u8 0), (.int .u8 0), (.int .u8 0), (.int .u8 0), (.int .u8 0), (.int .u8 0), (.int .u8 0), (.int .u8 0), (.int .u8 0), (.int .u8 0), (.int .u8 0), (.int .u8 0), (.int .u8 0), (.int .u8 0), (.int .u8 0), (.int .u8 0), (.int .u8 0), (.int .u8 0), (.int .u8 0), (.int .u8 0), (.int .u8 0), (.int .u8 0), (.int .u8 0), (.int .u8 0), (.int .u8 0), (.int .u8 0), (.int .u8 0), (.int .u8 0), (.int .u8 0), (.int .u8 0), (.int .u8 0), (.int .u8 0), (.int .u8 0), (.int .u8 0), (.int .u8 0), (.int .u8 0), (.int .u8 0), (.int .u8 0), (.int .u8 0), (.int .u8 0), (.int .u8 0), (.int .u8 0), (.int .u8 0), (.int .u8 0), (.int .u8 0), (.int .u8 0), (.int .u8 0), (.int .u8 0), (.int .u8 0), (.int .u8 0), (.int .u8 0), (.int .u8 0), (.int .u8 0), (.int .u8 0), (.int .u8 0), (.int .u8 0), (.int .u8 0), (.int .u8 0), (.int .u8 0), (.int .u8 0), (.int .u8 0), (.int .u8 0), (.int .u8 0), (.int .u8 0), (.int .u8 0), (.int .u8 0), (.int .u8 0), (.int .u8 0), (.int .u8 0), (.int .u8 0), (.int .u8 0), (.int .u8 0), (.int .u8 0), (.int .u8 0), (.int .u8 0), (.int .u8 0), (.int .u8 0), (.int .u8 0), (.int .u8 0), (.int .u8 0), (.int .u8 0), (.int .u8 0), (.int .u8 0), (.int .u8 0), (.int .u8 0), (.int .u8 0), (.int .u8 0), (.int .u8 0), (.int .u8 0), (.int .u8 0), (.int .u8 0), (.int .u8 0), (.int .u8 0), (.int .u8 0), (.int .u8 0), (.int .u8 0), (.int .u8 0), (.int .u8 0), (.int .u8 0), (.int .u8 0), (.int .u8 0), (.int .u8 0), (.int .u8 0), (.int .u8 0), (.int .u8 0), (.int .u8 0), (.int .u8 0), (.int .u8 0), (.int .u8 0), (.int .u8 0), (.int .u8 0), (.int .u8 0), (.int .u8 0), (.int .u8 0), (.int .u8 0), (.int .u8 0), (.int .u8 0), (.int .u8 0), (.int .u8 0), (.int .u8 0), (.int .u8 0), (.int .u8 0), (.int .u8 0), (.int .u8 0), (.int .u8 0), (.int .u8 0), (.int .u8 0), (.int .u8 0), (.int .u8 0), (.int .u8 0), (.int .u8 0), (.int .u8 0), (.int .u8 0), (.int .u8 0), (.int .u8 0), (.int .u8 0), (.int .u8 0), (.int .u8 0), (.int .u8 0), (.int .u8 0), (.int .u8 0), (.int .u8 0), (.int .u8 0), (.int .u8 0), (.int .u8 0), (.int .u8 0), (.int .u8 0), (.int .u8 0), (.int .u8 0), (.int .u8 0), (.int .u8 0), (.int .u8 0), (.int .u8 0), (.int .u8 0), (.int .u8 0), (.int .u8 0), (.int .u8 0), (.int .u8 0), (.int .u8 0), (.int .u8 0), (.int .u8 0), (.int .u8 0), (.int .u8 0), (.int .u8 0), (.int .u8 0), (.int .u8 0), (.int .u8 0), (.int .u8 0), (.int .u8 0), (.int .u8 0), (.int .u8 0), (.int .u8 0), (.int .u8 0), (.int .u8 0), (.int .u8 0), (.int .u8 0), (.int .u8 0), (.int .u8 0), (.int .u8 0), (.int .u8 0), (.int .u8 0), (.int .u8 0), (.int .u8 0), (.int .u8 0), (.int .u8 0), (.int .u8 0), (.int .u8 0), (.int .u8 0), (.int .u8 0), (.int .u8 0), (.int .u8 0), (.int .u8 0), (.int .u8 0), (.int .u8 0), (.int .u8 0), (.int .u8 0), (.int .u8 0), (.int .u8 0), (.int .u8 0), (.int .u8 0), (.int .u8 0), (.int .u8 0), (.int .u8 0), (.int .u8 0), (.int .u8 0), (.int .u8 0), (.int .u8 0), (.int .u8 0), (.int .u8 0), (.int .u8 0), (.int .u8 0), (.int .u8 0), (.int .u8 0), (.int .u8 0), (.int .u8 0), (.int .u8 0), (.int .u8 0), (.int .u8 0), (.int .u8 0), (.int .u8 0), (.int .u8 0), (.int .u8 0), (.int .u8 0), (.int .u8 0), (.int .u8 0), (.int .u8 0), (.int .u8 0), (.int .u8 0), (.int .u8 0), (.int .u8 0), (.int .u8 0), (.int .u8 0), (.int .u8 0), (.int .u8 0), (.int .u8 0), (.int .u8 0), (.int .u8 0), (.int .u8 0), (.int .i64 0), (.int .i64 0), (.int .i64 0), (.int .i64 0), (.int .i64 0), (.int .i64 0), (.int .i64 0), (.int .i64 0), (.int .i64 0), (.int .i64 0), (.int .i64 0), (.int .i64 0), (.int .i64 0), (.int .i64 0), (.int .i64 0), (.int .i64 0), (.int .i64 0), (.int .i64 0), (.int .i64 0), (.int .i64 0), (.int .i64 0), (.int .i64 0), (.int .i64 0), (.int .i64 0), (.int .i64 0), (.int .i64 0), (.int .i64 0), (.int .i64 0), (.int .i64 0), (.int .i64 0), (.int .i64 0), (.int .i64 0), (.int .i64 0), (.int .i64 0), (.int .i64 0), (.int .i64 0), (.int .i64 0), (.int .i64 0), (.int .i64 0), (.int .i64 0), (.int .i64 0), (.int .i64 0), (.int .i64 0), (.int .i64 0), (.int .i64 0), (.int .i64 0), (.int .i64 0), (.int .i64 0), (.int .i64 0), (.int .i64 0), (.int .i64 0), (.int .i64 0), (.int .i64 0), (.int .i64 0), (.int .i64 0), (.int .i64 0), (.int .i64 0), (.int .i64 0), (.int .i64 0), (.int .i64 0), (.int .i64 0), (.int .i64 0), (.int .i64 0), (.int .i64 0), (.int .i64 0), (.int .i64 0), (.int .i64 0), (.int .i64 0), (.int .i64 0), (.int .i64 0), (.int .i64 0), (.int .i64 0), (.int .i64 0), (.int .i64 0), (.int .i64 0), (.int .i64 0), (.int .i64 0), (.int .i64 0), (.int .i64 0), (.int .i64 0), (.int .i64 0), (.int .i64 0), (.int .i64 0), (.int .i64 0), (.int .i64 0), (.int .i64 0), (.int .i64 0), (.int .i64 0), (.int .i64 0), (.int .i64 0), (.int .i64 0), (.int .i64 0), (.int .i64 0), (.int .i64 0), (.int .i64 0), (.int .i64 0), (.int .i64 0), (.int .i64 0), (.int .i64 0), (.int .i64 0), (.int .i64 0), (.int .i64 0), (.int .i64 0), (.int .i64 0), (.int .i64 0), (.int .i64 0), (.int .i64 0), (.int .i64 0), (.int .i64 0), (.int .i64 0), (.int .i64 0), (.int .i64 0), (.int .i64 0), (.int .i64 0), (.int .i64 0), (.int .i64 0), (.int .i64 0), (.int .i64 0), (.int .i64 0), (.int .i64 0), (.int .i64 0), (.int .i64 0), (.int .i64 0), (.int .i64 0), (.int .i64 0), (.int .i64 0), (.int .i64 0), (.int .i64 0), (.int .i64 0), (.int .i64 0), (.int .i64 0), (.int .i64 0), (.int .i64 0), (.int .i64 0), (.int .i64 0), (.int .i64 0), (.int .i64 0), (.int .i64 0), (.int .i64 0), (.int .i64 0), (.int .i64 0), (.int .i64 0), (.int .i64 0), (.int .i64 0), (.int .i64 0), (.int .i64 0), (.int .i64 0), (.int .i64 0), (.int .i64 0), (.int .i64 0), (.int .i64 0), (.int .i64 0), (.int .i64 0), (.int .i64 0), (.int .i64 0), (.int .i64 0), (.int .i64 0), (.int .i64 0), (.int .i64 0), (.int .i64 0), (.int .i64 0), (.int .i64 0), (.int .i64 0), (.int .i64 0), (.int .i64 0), (.int .i64 0), (.int .i64 0), (.int .i64 0), (.int .i64 0), (.int .i64 0), (.int .i64 0), (.int .i64 0), (.int .i64 0), (.int .i64 0), (.int .i64 0), (.int .i64 0), (.int .i64 0), (.int .i64 0), (.int .i64 0), (.int .i64 0), (.int .i64 0), (.int .i64 0), (.int .i64 0), (.int .i64 0), (.int .i64 0), (.int .i64 0), (.int .i64 0), (.int .i64 0), (.int .i64 0), (.int .i64 0), (.int .i64 0), (.int .i64 0), (.int .i64 0), (.int .i64 0), (.int .i64 0), (.int .i64 0), (.int .i64 0), (.int .i64 0), (.int .i64 0), (.int .i64 0), (.int .i64 0), (.int .i64 0), (.int .i64 0), (.int .i64 0), (.int .i64 0), (.int .i64 0), (.int .i64 0), (.int .i64 0), (.int .i64 0), (.int .i64 0), (.int .i64 0), (.int .i64 0), (.int .i64 0), (.int .i64 0), (.int .i64 0), (.int .i64 0), (.int .i64 0), (.int .i64 0), (.int .i64 0), (.int .i64 0), (.int .i64 0), (.int .i64 0), (.int .i64 0), (.int .i64 0), (.int .i64 0), (.int .i64 0), (.int .i64 0), (.int .i64 0), (.int .i64 0), (.int .i64 0), (.int .i64 0), (.int .i64 0), (.int .i64 0), (.int .i64 0), (.int .i64 0), (.int .i64 0), (.int .i64 0), (.int .i64 0), (.int .i64 0), (.int .i64 0), (.int .i64 0), (.int .i64 0), (.int .i64 0), (.int .i64 0), (.int .i64 0), (.int .i64 0), (.int .i64 0), (.int .i64 0), (.int .i64 0), (.int .i64 0), (.int .i64 0), (.int .i64 0), (.int .i64 0), (.int .i64 0), (.int .i64 0), (.int .i64 0)] []) [] (cs sG4 sF0) (
  oW1 (boxT 766) (cg gG4 gF0) (cs sG5 sF0) (
  oW0 (allocT [.nilp]) (cs sG1 sF0) (
  oW2 (storeT 1) (cg gG1 gF0) (cg gG5 gF0) s0 (
  eO))))))
 (cS (cS (cO (oF fn166 [] (cs sG6 sF0) (
  eO)))
 (cB 0 (cRg tabv2 (cg gG6 gF0) [7, 8] (.seq (.ops [ROp.mk (some 2) none (.p (.mv (.t 7)))])
 (.ops [ROp.mk (some 3) none (.p (.mv (.t 8)))])) (.block 1 (.seq (.draw [(ROp.mk (some 9) none (.d (.load 1 false (.t 1))), .r 0 0),
   (ROp.mk (some 10) none (.p (.mv (.t 2))), .p),
   (ROp.mk (some 11) none (.d (.load 1 false (.t 1))), .r 0 1),
   (ROp.mk (some 12) none (.p (.mv (.t 2))), .p),
   (ROp.mk (some 13) none (.p (.arith .add (.t 12) (.c (.int .i64 255)))), .p),
   (ROp.mk (some 14) none (.p (.mv (.t 3))), .p),
   (ROp.mk (some 15) none (.p (.mv (.t 3))), .p),
   (ROp.mk (some 16) none (.p (.nchk (.t 9))), .p),
   (ROp.mk (some 17) none (.p (.fad 0 (.t 16))), .p),
   (ROp.mk (some 18) none (.p (.iaA 510 1 (.t 17) (.t 10))), .p),
   (ROp.mk none none (.w (.store 1 (.t 18) (.t 14))), .w),
   (ROp.mk (some 19) none (.p (.nchk (.t 11))), .p),
   (ROp.mk (some 20) none (.p (.fad 0 (.t 19))), .p),
   (ROp.mk (some 21) none (.p (.iaA 510 1 (.t 20) (.t 13))), .p),
   (ROp.mk none none (.w (.store 1 (.t 21) (.t 15))), .w)] [])
  (.ops [ROp.mk (some 22) none (.d (.load 1 false (.t 1))),
   ROp.mk (some 23) none (.p (.mv (.t 3))),
   ROp.mk (some 24) none (.p (.mv (.t 2))),
   ROp.mk (some 25) none (.p (.nchk (.t 22))),
   ROp.mk (some 26) none (.p (.fad 510 (.t 25))),
   ROp.mk (some 27) none (.p (.iaA 256 1 (.t 26) (.t 23))),
   ROp.mk none none (.w (.store 1 (.t 27) (.t 24)))]))))))
 (cS (cO (oD ld1T (cg gG1 gF0) (cs sG12 sF1) (
  oM (cg gG12 gF1) (cs sG0 sF0) (
  eO))))
 (cR))))
def fn74 : Fc := fnT [] (r1 (cg gG0 gF0)) co74
theorem se74 : FnS E 74 fn74 := fnOk (gv := gvT) (tab := asc [(166, fn166)]) (tabv := tabv2) (yl := ylv) (q := 0) (rf := rf74) (fun _ => rfl) (asc_cons se166 asc_nil) htabv2 hylv (by kernel_rfl) (by kernel_rfl) (by kernel_rfl)
def co183 : Cd := cS (cO (oM (gC (.int .i64 0)) (cs sG4 sF0) (
  eO)))
 (cS (cS (cO (oM (cg gG0 gF0) (cs sG6 sF0) (
  o1 lenLT (cg gG6 gF0) (cs sG7 sF0) (
  oM (gC (.int .i64 0)) (cs sG8 sF0) (
  eO)))))
 (cB 0 (cL (cS (cO (o2 (arithK .lss) (cg gG8 gF0) (cg gG7 gF0) (cs sG9 sF0) (
  eO)))
 (cS (cC (cg gG9 gF0) (cSk)
 (cE 0))
 (cS (cB 1 (cS (cO (oM (cg gG8 gF0) (cs sG10 sF0) (
  oM (cg gG10 gF0) (cs sG5 sF0) (
  eO))))
 (cS (cO (oM (cg gG1 gF0) (cs sG11 sF0) (
  oM (cg gG0 gF0) (cs sG12 sF0) (
  oM (cg gG5 gF0) (cs sG13 sF0) (
  o2 (iaLT 1) (cg gG12 gF0) (cg gG13 gF0) (cs sG14 sF0) (
  oD ld1T (cg gG14 gF0) (cs sG15 sF0) (
  o2 (arithK .eql) (cg gG11 gF0) (cg gG15 gF0) (cs sG0 sF1) (
  eO))))))))
 (cC (cg gG0 gF1) (cS (cO (oM (cg gG5 gF0) (cs sG1 sF1) (
  oM (cg gG1 gF1) (cs sG4 sF0) (
  eO))))
 (cR))
 (cSk)))))
 (cO (o2 (arithK .add) (cg gG8 gF0) (gC (.int .i64 1)) (cs sG2 sF1) (
  oM (cg gG2 gF1) (cs sG8 sF0) (
  eO))))))))))
 (cS (cO (oM (gC (.int .i64 (-1))) (cs sG4 sF0) (
  eO)))
 (cR)))
def fn183 : Fc := fnT [(cs sG0 sF0), (cs sG1 sF0)] (r1 (cg gG4 gF0)) co183
theorem se183 : FnS E 183 fn183 := fnOk (gv := gvT) (tab := asc []) (tabv := tabv2) (yl := ylv) (q := 2) (rf := rf183) (fun _ => rfl) asc_nil htabv2 hylv (by kernel_rfl) (by kernel_rfl) (by kernel_rfl)
def co103 : Cd := cS (cO (oM (gC (.bool false)) (cs sG4 sF0) (
  eO)))
 (cS (cO (oM (cg gG0 gF0) (cs sG5 sF0) (
  oM (cg gG1 gF0) (cs sG6 sF0) (
  oF fn183 [(cg gG5 gF0), (cg gG6 gF0)] (cs sG7 sF0) (
  o2 (arithK .geq) (cg gG7 gF0) (gC (.int .i64 0)) (cs sG8 sF0) (
  oM (cg gG8 gF0) (cs sG4 sF0) (
  eO)))))))
 (cR))
def fn103 : Fc := fnT [(cs sG0 sF0), (cs sG1 sF0)] (r1 (cg gG4 gF0)) co103
theorem se103 : FnS E 103 fn103 := fnOk (gv := gvT) (tab := asc [(183, fn183)]) (tabv := tabv2) (yl := ylv) (q := 2) (rf := rf103) (fun _ => rfl) (asc_cons se183 asc_nil) htabv2 hylv (by kernel_rfl) (by kernel_rfl) (by kernel_rfl)
def co160 : Cd := cS (cO (oW1 (boxT 5) (cg gG0 gF0) (cs sG4 sF0) (
  oM (gC (.bool false)) (cs sG8 sF0) (
  eO))))
 (cS (cS (cO (oM (cg gG2 gF0) (cs sG11 sF0) (
  o1 lenLT (cg gG11 gF0) (cs sG12 sF0) (
  oM (cg gG3 gF0) (cs sG13 sF0) (
  o1 lenLT (cg gG13 gF0) (cs sG14 sF0) (
  o2 (arithK .neq) (cg gG12 gF0) (cg gG14 gF0) (cs sG15 sF0) (
  oM (cg gG15 gF0) (cs sG0 sF1) (
  oG (cg gG0 gF1) false (cs sG1 sF1) (oM (cg gG2 gF0) (cs sG1 sF1) (eO)) (
  oG (cg gG0 gF1) false (cs sG2 sF1) (o1 lenLT (cg gG1 gF1) (cs sG2 sF1) (eO)) (
  oG (cg gG0 gF1) false (cs sG3 sF1) (o1 (fadT 1) (cg gG4 gF0) (cs sG3 sF1) (eO)) (
  oG (cg gG0 gF1) false (cs sG4 sF1) (oD ld1T (cg gG3 gF1) (cs sG4 sF1) (eO)) (
  oG (cg gG0 gF1) false (cs sG5 sF1) (o1 (fadT 2) (cg gG4 gF0) (cs sG5 sF1) (eO)) (
  oG (cg gG0 gF1) false (cs sG6 sF1) (oD ld1T (cg gG5 gF1) (cs sG6 sF1) (eO)) (
  oG (cg gG0 gF1) false (cs sG7 sF1) (o2 (arithK .add) (cg gG4 gF1) (cg gG6 gF1) (cs sG7 sF1) (eO)) (
  oG (cg gG0 gF1) false (cs sG8 sF1) (o1 (fadT 3) (cg gG4 gF0) (cs sG8 sF1) (eO)) (
  oG (cg gG0 gF1) false (cs sG9 sF1) (oD ld1T (cg gG8 gF1) (cs sG9 sF1) (eO)) (
  oG (cg gG0 gF1) false (cs sG10 sF1) (o2 (arithK .add) (cg gG7 gF1) (cg gG9 gF1) (cs sG10 sF1) (eO)) (
  oG (cg gG0 gF1) false (cs sG11 sF1) (o2 (arithK .lss) (cg gG2 gF1) (cg gG10 gF1) (cs sG11 sF1) (eO)) (
  o3 pickT (cg gG0 gF1) (gC (.bool true)) (cg gG11 gF1) (cs sG12 sF1) (
  oM (cg gG12 gF1) (cs sG13 sF1) (
  oG (cg gG13 gF1) false (cs sG14 sF1) (oM (cg gG1 gF0) (cs sG14 sF1) (eO)) (
  oG (cg gG13 gF1) false (cs sG15 sF1) (o2 (arithK .lss) (cg gG14 gF1) (gC (.int .i64 0)) (cs sG15 sF1) (eO)) (
  o3 pickT (cg gG13 gF1) (gC (.bool true)) (cg gG15 gF1) (cs sG0 sF2) (
  eO))))))))))))))))))))))))
 (cC (cg gG0 gF2) (cS (cO (oM (gC (.bool false)) (cs sG8 sF0) (
  eO)))
 (cR))
 (cSk)))
 (cS (cS (cO (oM (cg gG2 gF0) (cs sG1 sF2) (
  o1 lenLT (cg gG1 gF2) (cs sG2 sF2) (
  oM (gC (.int .i64 0)) (cs sG3 sF2) (
  eO)))))
 (cB 0 (cL (cS (cO (o2 (arithK .lss) (cg gG3 gF2) (cg gG2 gF2) (cs sG4 sF2) (
  eO)))
 (cS (cC (cg gG4 gF2) (cSk)
 (cE 0))
 (cS (cB 1 (cS (cO (oM (cg gG3 gF2) (cs sG5 sF2) (
  o2 (iaLT 1) (cg gG1 gF2) (cg gG3 gF2) (cs sG6 sF2) (
  oD ld1T (cg gG6 gF2) (cs sG7 sF2) (
  oM (cg gG5 gF2) (cs sG9 sF0) (
  oM (cg gG7 gF2) (cs sG10 sF0) (
  eO)))))))
 (cS (cO (oM (cg gG10 gF0) (cs sG8 sF2) (
  o2 (arithK .lss) (cg gG8 gF2) (gC (.int .i64 0)) (cs sG9 sF2) (
  oM (cg gG9 gF2) (cs sG10 sF2) (
  oG (cg gG10 gF2) false (cs sG11 sF2) (oM (cg gG10 gF0) (cs sG11 sF2) (eO)) (
  oG (cg gG10 gF2) false (cs sG12 sF2) (o1 (fadT 0) (cg gG4 gF0) (cs sG12 sF2) (eO)) (
  oG (cg gG10 gF2) false (cs sG13 sF2) (oD ld1T (cg gG12 gF2) (cs sG13 sF2) (eO)) (
  oG (cg gG10 gF2) false (cs sG14 sF2) (o2 (arithK .geq) (cg gG11 gF2) (cg gG13 gF2) (cs sG14 sF2) (eO)) (
  o3 pickT (cg gG10 gF2) (gC (.bool true)) (cg gG14 gF2) (cs sG15 sF2) (
  oM (cg gG15 gF2) (cs sG0 sF3) (
  oG (cg gG0 gF3) false (cs sG1 sF3) (oM (cg gG2 gF0) (cs sG1 sF3) (eO)) (
  oG (cg gG0 gF3) false (cs sG2 sF3) (oM (cg gG9 gF0) (cs sG2 sF3) (eO)) (
  oG (cg gG0 gF3) false (cs sG3 sF3) (o3 (slLT false true 1) (cg gG1 gF3) (gC .nili) (cg gG2 gF3) (cs sG3 sF3) (eO)) (
  oG (cg gG0 gF3) false (cs sG4 sF3) (oM (cg gG10 gF0) (cs sG4 sF3) (eO)) (
  oG (cg gG0 gF3) false (cs sG5 sF3) (oF fn103 [(cg gG3 gF3), (cg gG4 gF3)] (cs sG5 sF3) (eO)) (
  o3 pickT (cg gG0 gF3) (gC (.bool true)) (cg gG5 gF3) (cs sG6 sF3) (
  oM (cg gG6 gF3) (cs sG7 sF3) (
  oG (cg gG7 gF3) false (cs sG8 sF3) (oM (cg gG3 gF0) (cs sG8 sF3) (eO)) (
  oG (cg gG7 gF3) false (cs sG9 sF3) (oM (cg gG9 gF0) (cs sG9 sF3) (eO)) (
  oG (cg gG7 gF3) false (cs sG10 sF3) (o2 (iaLT 1) (cg gG8 gF3) (cg gG9 gF3) (cs sG10 sF3) (eO)) (
  oG (cg gG7 gF3) false (cs sG11 sF3) (oD ld1T (cg gG10 gF3) (cs sG11 sF3) (eO)) (
  oG (cg gG7 gF3) false (cs sG12 sF3) (o1 lenLT (cg gG11 gF3) (cs sG12 sF3) (eO)) (
  oG (cg gG7 gF3) false (cs sG13 sF3) (oM (cg gG1 gF0) (cs sG13 sF3) (eO)) (
  oG (cg gG7 gF3) false (cs sG14 sF3) (o2 (arithK .neq) (cg gG12 gF3) (cg gG13 gF3) (cs sG14 sF3) (eO)) (
  o3 pickT (cg gG7 gF3) (gC (.bool true)) (cg gG14 gF3) (cs sG15 sF3) (
  eO))))))))))))))))))))))))))
 (cC (cg gG15 gF3) (cS (cO (oM (gC (.bool false)) (cs sG8 sF0) (
  eO)))
 (cR))
 (cSk)))))
 (cO (o2 (arithK .add) (cg gG3 gF2) (gC (.int .i64 1)) (cs sG0 sF4) (
  oM (cg gG0 gF4) (cs sG3 sF2) (
  eO))))))))))
 (cS (cO (oM (gC (.bool true)) (cs sG8 sF0) (
  eO)))
 (cR))))
def fn160 : Fc := fnT [(cs sG0 sF0), (cs sG1 sF0), (cs sG2 sF0), (cs sG3 sF0)] (r1 (cg gG8 gF0)) co160
theorem se160 : FnS E 160 fn160 := fnOk (gv := gvT) (tab := asc [(103, fn103)]) (tabv := tabv2) (yl := ylv) (q := 4) (rf := rf160) (fun _ => rfl) (asc_cons se103 asc_nil) htabv2 hylv (by kernel_rfl) (by kernel_rfl) (by kernel_rfl)
def co228 : Cd := cS (cO (oM (gC (.int .u8 0)) (cs sG2 sF0) (
  eO)))
 (cS (cO (oM (cg gG0 gF0) (cs sG3 sF0) (
  o1 (toIntT .u8) (cg gG3 gF0) (cs sG4 sF0) (
  o2 (arithK .add) (cg gG4 gF0) (gC (.int .u8 1)) (cs sG5 sF0) (
  oM (cg gG5 gF0) (cs sG2 sF0) (
  eO))))))
 (cR))
def fn228 : Fc := fnT [(cs sG0 sF0)] (r1 (cg gG2 gF0)) co228
theorem se228 : FnS E 228 fn228 := fnOk (gv := gvT) (tab := asc []) (tabv := tabv2) (yl := ylv) (q := 1) (rf := rf228) (fun _ => rfl) asc_nil htabv2 hylv (by kernel_rfl) (by kernel_rfl) (by kernel_rfl)
def co161 : Cd := cS (cO (oW1 (boxT 5) (cg gG0 gF0) (cs sG2 sF0) (
  oM (gC .nils) (cs sG4 sF0) (
  eO))))
 (cS (cO (oM (cg gG1 gF0) (cs sG8 sF0) (
  o1 lenLT (cg gG8 gF0) (cs sG9 sF0) (
  oW2 (mksT [(.int .u8 0)] 1 1) (gC (.int .i64 0)) (cg gG9 gF0) (cs sG10 sF0) (
  oM (cg gG10 gF0) (cs sG5 sF0) (
  eO))))))
 (cS (cS (cO (oM (cg gG1 gF0) (cs sG11 sF0) (
  o1 lenLT (cg gG11 gF0) (cs sG12 sF0) (
  oM (gC (.int .i64 0)) (cs sG13 sF0) (
  eO)))))
 (cB 0 (cL (cS (cO (o2 (arithK .lss) (cg gG13 gF0) (cg gG12 gF0) (cs sG14 sF0) (
  eO)))
 (cS (cC (cg gG14 gF0) (cSk)
 (cE 0))
 (cS (cB 1 (cS (cO (o2 (iaLT 1) (cg gG11 gF0) (cg gG13 gF0) (cs sG15 sF0) (
  oD ld1T (cg gG15 gF0) (cs sG0 sF1) (
  oM (cg gG0 gF1) (cs sG7 sF0) (
  eO)))))
 (cO (oM (cg gG5 gF0) (cs sG1 sF1) (
  oM (cg gG7 gF0) (cs sG2 sF1) (
  oF fn228 [(cg gG2 gF1)] (cs sG3 sF1) (
  oN (mklT [(.int .u8 0)] 1 1 [(0, 1)]) [(cg gG3 gF1)] (cs sG4 sF1) (
  oW2 (appT 1 1) (cg gG1 gF1) (cg gG4 gF1) (cs sG5 sF1) (
  oM (cg gG5 gF1) (cs sG5 sF0) (
  eO))))))))))
 (cO (o2 (arithK .add) (cg gG13 gF0) (gC (.int .i64 1)) (cs sG6 sF1) (
  oM (cg gG6 gF1) (cs sG13 sF0) (
  eO))))))))))
 (cS (cO (oM (cg gG5 gF0) (cs sG7 sF1) (
  oM (cg gG7 gF1) (cs sG4 sF0) (
  eO))))
 (cR))))
def fn161 : Fc := fnT [(cs sG0 sF0), (cs sG1 sF0)] (r1 (cg gG4 gF0)) co161
theorem se161 : FnS E 161 fn161 := fnOk (gv := gvT) (tab := asc [(228, fn228)]) (tabv := tabv2) (yl := ylv) (q := 2) (rf := rf161) (fun _ => rfl) (asc_cons se228 asc_nil) htabv2 hylv (by kernel_rfl) (by kernel_rfl) (by kernel_rfl)
def co304 : Cd := cS (cO (oM (gC (.int .i64 0)) (cs sG2 sF0) (
  eO)))
 (cS (cS (cO (oM (cg gG0 gF0) (cs sG3 sF0) (
  o2 (arithK .geq) (cg gG3 gF0) (gC (.int .u64 4294967296)) (cs sG4 sF0) (
  eO))))
 (cC (cg gG4 gF0) (cS (cO (oM (cg gG0 gF0) (cs sG5 sF0) (
  o2 (arithK .shr) (cg gG5 gF0) (gC (.int .u64 32)) (cs sG6 sF0) (
  oM (cg gG6 gF0) (cs sG0 sF0) (
  eO)))))
 (cO (oM (gC (.int .i64 32)) (cs sG2 sF0) (
  eO))))
 (cSk)))
 (cS (cS (cO (oM (cg gG0 gF0) (cs sG7 sF0) (
  o2 (arithK .geq) (cg gG7 gF0) (gC (.int .u64 65536)) (cs sG8 sF0) (
  eO))))
 (cC (cg gG8 gF0) (cS (cO (oM (cg gG0 gF0) (cs sG9 sF0) (
  o2 (arithK .shr) (cg gG9 gF0) (gC (.int .u64 16)) (cs sG10 sF0) (
  oM (cg gG10 gF0) (cs sG0 sF0) (
  eO)))))
 (cO (oM (cg gG2 gF0) (cs sG11 sF0) (
  o2 (arithK .add) (cg gG11 gF0) (gC (.int .i64 16)) (cs sG12 sF0) (
  oM (cg gG12 gF0) (cs sG2 sF0) (
  eO))))))
 (cSk)))
 (cS (cS (cO (oM (cg gG0 gF0) (cs sG13 sF0) (
  o2 (arithK .geq) (cg gG13 gF0) (gC (.int .u64 256)) (cs sG14 sF0) (
  eO))))
 (cC (cg gG14 gF0) (cS (cO (oM (cg gG0 gF0) (cs sG15 sF0) (
  o2 (arithK .shr) (cg gG15 gF0) (gC (.int .u64 8)) (cs sG0 sF1) (
  oM (cg gG0 gF1) (cs sG0 sF0) (
  eO)))))
 (cO (oM (cg gG2 gF0) (cs sG1 sF1) (
  o2 (arithK .add) (cg gG1 gF1) (gC (.int .i64 8)) (cs sG2 sF1) (
  oM (cg gG2 gF1) (cs sG2 sF0) (
  eO))))))
 (cSk)))
 (cS (cO (oM (cg gG2 gF0) (cs sG3 sF1) (
  oM (cg gG0 gF0) (cs sG4 sF1) (
  o1 (toIntT .u8) (cg gG4 gF1) (cs sG5 sF1) (
  o2 ixST (gC (.str [0, 1, 2, 2, 3, 3, 3, 3, 4, 4, 4, 4, 4, 4, 4, 4, 5, 5, 5, 5, 5, 5, 5, 5, 5, 5, 5, 5, 5, 5, 5, 5, 6, 6, 6, 6, 6, 6, 6, 6, 6, 6, 6, 6, 6, 6, 6, 6, 6, 6, 6, 6, 6, 6, 6, 6, 6, 6, 6, 6, 6, 6, 6, 6, 7, 7, 7, 7, 7, 7, 7, 7, 7, 7, 7, 7, 7, 7, 7, 7, 7, 7, 7, 7, 7, 7, 7, 7, 7, 7, 7, 7, 7, 7, 7, 7, 7, 7, 7, 7, 7, 7, 7, 7, 7, 7, 7, 7, 7, 7, 7, 7, 7, 7, 7, 7, 7, 7, 7, 7, 7, 7, 7, 7, 7, 7, 7, 7, 8, 8, 8, 8, 8, 8, 8, 8, 8, 8, 8, 8, 8, 8, 8, 8, 8, 8, 8, 8, 8, 8, 8, 8, 8, 8, 8, 8, 8, 8, 8, 8, 8, 8, 8, 8, 8, 8, 8, 8, 8, 8, 8, 8, 8, 8, 8, 8, 8, 8, 8, 8, 8, 8, 8, 8, 8, 8, 8, 8, 8, 8, 8, 8, 8, 8, 8, 8, 8, 8, 8, 8, 8, 8, 8, 8, 8, 8, 8, 8, 8, 8, 8, 8, 8, 8, 8, 8, 8, 8, 8, 8, 8, 8, 8, 8, 8, 8, 8, 8, 8, 8, 8, 8, 8, 8, 8, 8, 8, 8, 8, 8, 8, 8, 8, 8, 8, 8, 8, 8, 8, 8, 8, 8, 8, 8, 8, 8])) (cg gG5 gF1) (cs sG6 sF1) (
  o1 (toIntT .i64) (cg gG6 gF1) (cs sG7 sF1) (
  o2 (arithK .add) (cg gG3 gF1) (cg gG7 gF1) (cs sG8 sF1) (
  oM (cg gG8 gF1) (cs sG2 sF0) (
  eO)))))))))
 (cR)))))
def fn304 : Fc := fnT [(cs sG0 sF0)] (r1 (cg gG2 gF0)) co304
theorem se304 : FnS E 304 fn304 := fnOk (gv := gvT) (tab := asc []) (tabv := tabv2) (yl := ylv) (q := 1) (rf := rf304) (fun _ => rfl) asc_nil htabv2 hylv (by kernel_rfl) (by kernel_rfl) (by kernel_rfl)
def co234 : Cd := cS (cO (oM (gC (.int .i64 0)) (cs sG2 sF0) (
  eO)))
 (cS (cC (gC (.bool false)) (cS (cO (oM (cg gG0 gF0) (cs sG3 sF0) (
  o1 (toIntT .u32) (cg gG3 gF0) (cs sG4 sF0) (
  oF fX [(cg gG4 gF0)] (cs sG5 sF0) (
  oM (cg gG5 gF0) (cs sG2 sF0) (
  eO))))))
 (cR))
 (cSk))
 (cS (cO (oM (cg gG0 gF0) (cs sG6 sF0) (
  oF fn304 [(cg gG6 gF0)] (cs sG7 sF0) (
  oM (cg gG7 gF0) (cs sG2 sF0) (
  eO)))))
 (cR)))
def fn234 : Fc := fnT [(cs sG0 sF0)] (r1 (cg gG2 gF0)) co234
theorem se234 : FnS E 234 fn234 := fnOk (gv := gvT) (tab := asc [(304, fn304)]) (tabv := tabv2) (yl := ylv) (q := 1) (rf := rf234) (fun _ => rfl) (asc_cons se304 asc_nil) htabv2 hylv (by kernel_rfl) (by kernel_rfl) (by kernel_rfl)
def co294 : Cd := cS (cO (oM (cg gG1 gF0) (cs sG8 sF0) (
  o2 (arithK .add) (cg gG8 gF0) (gC (.int .i64 1)) (cs sG9 sF0) (
  oM (cg gG9 gF0) (cs sG6 sF0) (
  eO)))))
 (cB 0 (cL (cS (cS (cO (oM (cg gG6 gF0) (cs sG10 sF0) (
  oM (cg gG2 gF0) (cs sG11 sF0) (
  o2 (arithK .lss) (cg gG10 gF0) (cg gG11 gF0) (cs sG12 sF0) (
  eO)))))
 (cC (cg gG12 gF0) (cSk)
 (cE 0)))
 (cS (cB 1 (cS (cO (oM (cg gG6 gF0) (cs sG15 sF0) (
  oM (cg gG15 gF0) (cs sG7 sF0) (
  eO))))
 (cB 2 (cL (cS (cS (cD [] [iP (oM (cg gG7 gF0) (cs sG0 sF1) (eO)),
  iP (oM (cg gG1 gF0) (cs sG1 sF1) (eO)),
  iP (o2 (arithK .gtr) (cg gG0 gF1) (cg gG1 gF1) (cs sG2 sF1) (eO)),
  iP (oM (cg gG2 gF1) (cs sG3 sF1) (eO)),
  iP (oG (cg gG3 gF1) true (cs sG4 sF1) (oM (cg gG0 gF0) (cs sG4 sF1) (eO)) (eO)),
  iP (oG (cg gG3 gF1) true (cs sG5 sF1) (oM (cg gG7 gF0) (cs sG5 sF1) (eO)) (eO)),
  iP (oG (cg gG3 gF1) true (cs sG6 sF1) (o2 (iaLT 1) (cg gG4 gF1) (cg gG5 gF1) (cs sG6 sF1) (eO)) (eO)),
  iP (oG (cg gG3 gF1) true (cs sG7 sF1) (oD ld1T (cg gG6 gF1) (cs sG7 sF1) (eO)) (eO)),
  iP (oG (cg gG3 gF1) true (cs sG8 sF1) (oM (cg gG0 gF0) (cs sG8 sF1) (eO)) (eO)),
  iP (oG (cg gG3 gF1) true (cs sG9 sF1) (oM (cg gG7 gF0) (cs sG9 sF1) (eO)) (eO)),
  iP (oG (cg gG3 gF1) true (cs sG10 sF1) (o2 (arithK .sub) (cg gG9 gF1) (gC (.int .i64 1)) (cs sG10 sF1) (eO)) (eO)),
  iP (oG (cg gG3 gF1) true (cs sG11 sF1) (o2 (iaLT 1) (cg gG8 gF1) (cg gG10 gF1) (cs sG11 sF1) (eO)) (eO)),
  iP (oG (cg gG3 gF1) true (cs sG12 sF1) (oD ld1T (cg gG11 gF1) (cs sG12 sF1) (eO)) (eO)),
  iW (oG (cg gG3 gF1) true (cs sG13 sF1) (oF fX [(cg gG7 gF1), (cg gG12 gF1)] (cs sG13 sF1) (eO)) (eO)),
  iP (o3 pickT (cg gG3 gF1) (cg gG13 gF1) (gC (.bool false)) (cs sG14 sF1) (eO))])
 (cC (cg gG14 gF1) (cSk)
 (cE 2)))
 (cS (cB 3 (cD [] [iP (oM (cg gG0 gF0) (cs sG1 sF2) (eO)),
  iP (oM (cg gG7 gF0) (cs sG2 sF2) (eO)),
  iP (oM (cg gG0 gF0) (cs sG3 sF2) (eO)),
  iP (oM (cg gG7 gF0) (cs sG4 sF2) (eO)),
  iP (o2 (arithK .sub) (cg gG4 gF2) (gC (.int .i64 1)) (cs sG5 sF2) (eO)),
  iP (oM (cg gG0 gF0) (cs sG6 sF2) (eO)),
  iP (oM (cg gG7 gF0) (cs sG7 sF2) (eO)),
  iP (o2 (arithK .sub) (cg gG7 gF2) (gC (.int .i64 1)) (cs sG8 sF2) (eO)),
  iP (o2 (iaLT 1) (cg gG6 gF2) (cg gG8 gF2) (cs sG9 sF2) (eO)),
  iP (oD ld1T (cg gG9 gF2) (cs sG10 sF2) (eO)),
  iP (oM (cg gG0 gF0) (cs sG11 sF2) (eO)),
  iP (oM (cg gG7 gF0) (cs sG12 sF2) (eO)),
  iP (o2 (iaLT 1) (cg gG11 gF2) (cg gG12 gF2) (cs sG13 sF2) (eO)),
  iP (oD ld1T (cg gG13 gF2) (cs sG14 sF2) (eO)),
  iP (o2 (iaLT 1) (cg gG1 gF2) (cg gG2 gF2) (cs sG15 sF2) (eO)),
  iW (oW2 (storeT 1) (cg gG15 gF2) (cg gG10 gF2) s0 (eO)),
  iP (o2 (iaLT 1) (cg gG3 gF2) (cg gG5 gF2) (cs sG0 sF3) (eO)),
  iW (oW2 (storeT 1) (cg gG0 gF3) (cg gG14 gF2) s0 (eO))]))
 (cO (oM (cg gG7 gF0) (cs sG15 sF1) (
  o2 (arithK .sub) (cg gG15 gF1) (gC (.int .i64 1)) (cs sG0 sF2) (
  oM (cg gG0 gF2) (cs sG7 sF0) (
  eO)))))))))))
 (cO (oM (cg gG6 gF0) (cs sG13 sF0) (
  o2 (arithK .add) (cg gG13 gF0) (gC (.int .i64 1)) (cs sG14 sF0) (
  oM (cg gG14 gF0) (cs sG6 sF0) (
  eO)))))))))
def fn294 : Fc := fnT [(cs sG0 sF0), (cs sG1 sF0), (cs sG2 sF0)] (rN []) co294
theorem se294 : FnS E 294 fn294 := fnOk (gv := gvT) (tab := asc []) (tabv := tabv2) (yl := ylv) (q := 3) (rf := rf294) (fun _ => rfl) asc_nil htabv2 hylv (by kernel_rfl) (by kernel_rfl) (by kernel_rfl)
def co233 : Cd := cS (cO (oM (gC (.bool true)) (cs sG8 sF0) (
  eO)))
 (cS (cO (oM (gC (.bool true)) (cs sG9 sF0) (
  eO)))
 (cB 0 (cL (cB 1 (cS (cO (oM (cg gG2 gF0) (cs sG3 sF1) (
  oM (cg gG1 gF0) (cs sG4 sF1) (
  o2 (arithK .sub) (cg gG3 gF1) (cg gG4 gF1) (cs sG5 sF1) (
  oM (cg gG5 gF1) (cs sG10 sF0) (
  eO))))))
 (cS (cS (cO (oM (cg gG10 gF0) (cs sG6 sF1) (
  o2 (arithK .leq) (cg gG6 gF1) (gC (.int .i64 12)) (cs sG7 sF1) (
  eO))))
 (cC (cg gG7 gF1) (cS (cO (oM (cg gG0 gF0) (cs sG8 sF1) (
  oM (cg gG1 gF0) (cs sG9 sF1) (
  oM (cg gG2 gF0) (cs sG10 sF1) (
  oF fn294 [(cg gG8 gF1), (cg gG9 gF1), (cg gG10 gF1)] (cs sG11 sF1) (
  eO))))))
 (cR))
 (cSk)))
 (cS (cS (cO (oM (cg gG3 gF0) (cs sG12 sF1) (
  o2 (arithK .eql) (cg gG12 gF1) (gC (.int .i64 0)) (cs sG13 sF1) (
  eO))))
 (cC (cg gG13 gF1) (cS (cO (oM (cg gG0 gF0) (cs sG14 sF1) (
  oM (cg gG1 gF0) (cs sG15 sF1) (
  oM (cg gG2 gF0) (cs sG0 sF2) (
  oF fX [(cg gG14 gF1), (cg gG15 gF1), (cg gG0 gF2)] (cs sG1 sF2) (
  eO))))))
 (cR))
 (cSk)))
 (cS (cS (cO (oM (cg gG8 gF0) (cs sG2 sF2) (
  o1 (unT .not) (cg gG2 gF2) (cs sG3 sF2) (
  eO))))
 (cC (cg gG3 gF2) (cS (cO (oM (cg gG0 gF0) (cs sG4 sF2) (
  oM (cg gG1 gF0) (cs sG5 sF2) (
  oM (cg gG2 gF0) (cs sG6 sF2) (
  oF fX [(cg gG4 gF2), (cg gG5 gF2), (cg gG6 gF2)] (cs sG7 sF2) (
  eO))))))
 (cO (oM (cg gG3 gF0) (cs sG8 sF2) (
  o2 (arithK .sub) (cg gG8 gF2) (gC (.int .i64 1)) (cs sG9 sF2) (
  oM (cg gG9 gF2) (cs sG3 sF0) (
  eO))))))
 (cSk)))
 (cS (cO (oM (cg gG0 gF0) (cs sG11 sF2) (
  oM (cg gG1 gF0) (cs sG12 sF2) (
  oM (cg gG2 gF0) (cs sG13 sF2) (
  oF fX [(cg gG11 gF2), (cg gG12 gF2), (cg gG13 gF2)] (cs sG14 sF2) (
  oM (cg gG14 gF2) (cs sG10 sF2) (
  o1 (extT 0) (cg gG10 gF2) (cs sG15 sF2) (
  o1 (extT 1) (cg gG10 gF2) (cs sG0 sF3) (
  oM (cg gG15 gF2) (cs sG11 sF0) (
  oM (cg gG0 gF3) (cs sG12 sF0) (
  eO)))))))))))
 (cS (cS (cO (oM (cg gG12 gF0) (cs sG1 sF3) (
  o2 (arithK .eql) (cg gG1 gF3) (gC (.int .i64 2)) (cs sG2 sF3) (
  eO))))
 (cC (cg gG2 gF3) (cS (cO (oM (cg gG0 gF0) (cs sG3 sF3) (
  oM (cg gG1 gF0) (cs sG4 sF3) (
  oM (cg gG2 gF0) (cs sG5 sF3) (
  oF fX [(cg gG3 gF3), (cg gG4 gF3), (cg gG5 gF3)] (cs sG6 sF3) (
  eO))))))
 (cS (cO (oM (cg gG2 gF0) (cs sG7 sF3) (
  o2 (arithK .sub) (cg gG7 gF3) (gC (.int .i64 1)) (cs sG8 sF3) (
  oM (cg gG11 gF0) (cs sG9 sF3) (
  oM (cg gG1 gF0) (cs sG10 sF3) (
  o2 (arithK .sub) (cg gG9 gF3) (cg gG10 gF3) (cs sG11 sF3) (
  o2 (arithK .sub) (cg gG8 gF3) (cg gG11 gF3) (cs sG12 sF3) (
  oM (cg gG12 gF3) (cs sG11 sF0) (
  eO)))))))))
 (cO (oM (gC (.int .i64 1)) (cs sG12 sF0) (
  eO)))))
 (cSk)))
 (cS (cS (cO (oM (cg gG8 gF0) (cs sG13 sF3) (
  oM (cg gG13 gF3) (cs sG14 sF3) (
  oG (cg gG14 gF3) true (cs sG15 sF3) (oM (cg gG9 gF0) (cs sG15 sF3) (eO)) (
  o3 pickT (cg gG14 gF3) (cg gG15 gF3) (gC (.bool false)) (cs sG0 sF4) (
  oM (cg gG0 gF4) (cs sG1 sF4) (
  oG (cg gG1 gF4) true (cs sG2 sF4) (oM (cg gG12 gF0) (cs sG2 sF4) (eO)) (
  oG (cg gG1 gF4) true (cs sG3 sF4) (o2 (arithK .eql) (cg gG2 gF4) (gC (.int .i64 1)) (cs sG3 sF4) (eO)) (
  o3 pickT (cg gG1 gF4) (cg gG3 gF4) (gC (.bool false)) (cs sG4 sF4) (
  eO))))))))))
 (cC (cg gG4 gF4) (cS (cO (oM (cg gG0 gF0) (cs sG5 sF4) (
  oM (cg gG1 gF0) (cs sG6 sF4) (
  oM (cg gG2 gF0) (cs sG7 sF4) (
  oF fX [(cg gG5 gF4), (cg gG6 gF4), (cg gG7 gF4)] (cs sG8 sF4) (
  eO))))))
 (cC (cg gG8 gF4) (cR)
 (cSk)))
 (cSk)))
 (cS (cS (cD [] [iP (oM (cg gG1 gF0) (cs sG9 sF4) (eO)),
  iP (o2 (arithK .gtr) (cg gG9 gF4) (gC (.int .i64 0)) (cs sG10 sF4) (eO)),
  iP (oM (cg gG10 gF4) (cs sG11 sF4) (eO)),
  iP (oG (cg gG11 gF4) true (cs sG12 sF4) (oM (cg gG0 gF0) (cs sG12 sF4) (eO)) (eO)),
  iP (oG (cg gG11 gF4) true (cs sG13 sF4) (oM (cg gG1 gF0) (cs sG13 sF4) (eO)) (eO)),
  iP (oG (cg gG11 gF4) true (cs sG14 sF4) (o2 (arithK .sub) (cg gG13 gF4) (gC (.int .i64 1)) (cs sG14 sF4) (eO)) (eO)),
  iP (oG (cg gG11 gF4) true (cs sG15 sF4) (o2 (iaLT 1) (cg gG12 gF4) (cg gG14 gF4) (cs sG15 sF4) (eO)) (eO)),
  iP (oG (cg gG11 gF4) true (cs sG0 sF5) (oD ld1T (cg gG15 gF4) (cs sG0 sF5) (eO)) (eO)),
  iP (oG (cg gG11 gF4) true (cs sG1 sF5) (oM (cg gG0 gF0) (cs sG1 sF5) (eO)) (eO)),
  iP (oG (cg gG11 gF4) true (cs sG2 sF5) (oM (cg gG11 gF0) (cs sG2 sF5) (eO)) (eO)),
  iP (oG (cg gG11 gF4) true (cs sG3 sF5) (o2 (iaLT 1) (cg gG1 gF5) (cg gG2 gF5) (cs sG3 sF5) (eO)) (eO)),
  iP (oG (cg gG11 gF4) true (cs sG4 sF5) (oD ld1T (cg gG3 gF5) (cs sG4 sF5) (eO)) (eO)),
  iW (oG (cg gG11 gF4) true (cs sG5 sF5) (oF fX [(cg gG0 gF5), (cg gG4 gF5)] (cs sG5 sF5) (eO)) (eO)),
  iP (oG (cg gG11 gF4) true (cs sG6 sF5) (o1 (unT .not) (cg gG5 gF5) (cs sG6 sF5) (eO)) (eO)),
  iP (o3 pickT (cg gG11 gF4) (cg gG6 gF5) (gC (.bool false)) (cs sG7 sF5) (eO))])
 (cC (cg gG7 gF5) (cS (cO (oM (cg gG0 gF0) (cs sG8 sF5) (
  oM (cg gG1 gF0) (cs sG9 sF5) (
  oM (cg gG2 gF0) (cs sG10 sF5) (
  oM (cg gG11 gF0) (cs sG11 sF5) (
  oF fX [(cg gG8 gF5), (cg gG9 gF5), (cg gG10 gF5), (cg gG11 gF5)] (cs sG12 sF5) (
  oM (cg gG12 gF5) (cs sG13 sF0) (
  eO))))))))
 (cS (cO (oM (cg gG13 gF0) (cs sG13 sF5) (
  oM (cg gG13 gF5) (cs sG1 sF0) (
  eO))))
 (cE 1)))
 (cSk)))
 (cS (cO (oM (cg gG0 gF0) (cs sG15 sF5) (
  oM (cg gG1 gF0) (cs sG0 sF6) (
  oM (cg gG2 gF0) (cs sG1 sF6) (
  oM (cg gG11 gF0) (cs sG2 sF6) (
  oF fX [(cg gG15 gF5), (cg gG0 gF6), (cg gG1 gF6), (cg gG2 gF6)] (cs sG3 sF6) (
  oM (cg gG3 gF6) (cs sG14 sF5) (
  o1 (extT 0) (cg gG14 gF5) (cs sG4 sF6) (
  o1 (extT 1) (cg gG14 gF5) (cs sG5 sF6) (
  oM (cg gG4 gF6) (cs sG14 sF0) (
  oM (cg gG5 gF6) (cs sG15 sF0) (
  eO))))))))))))
 (cS (cO (oM (cg gG15 gF0) (cs sG6 sF6) (
  oM (cg gG6 gF6) (cs sG9 sF0) (
  eO))))
 (cS (cO (oM (cg gG14 gF0) (cs sG7 sF6) (
  oM (cg gG1 gF0) (cs sG8 sF6) (
  o2 (arithK .sub) (cg gG7 gF6) (cg gG8 gF6) (cs sG9 sF6) (
  oM (cg gG2 gF0) (cs sG10 sF6) (
  oM (cg gG14 gF0) (cs sG11 sF6) (
  o2 (arithK .sub) (cg gG10 gF6) (cg gG11 gF6) (cs sG12 sF6) (
  oM (cg gG9 gF6) (cs sG0 sF1) (
  oM (cg gG12 gF6) (cs sG1 sF1) (
  eO))))))))))
 (cS (cO (oM (cg gG10 gF0) (cs sG13 sF6) (
  o2 (arithK .quo) (cg gG13 gF6) (gC (.int .i64 8)) (cs sG14 sF6) (
  oM (cg gG14 gF6) (cs sG2 sF1) (
  eO)))))
 (cS (cO (oM (cg gG0 gF1) (cs sG15 sF6) (
  oM (cg gG1 gF1) (cs sG0 sF7) (
  o2 (arithK .lss) (cg gG15 gF6) (cg gG0 gF7) (cs sG1 sF7) (
  eO)))))
 (cC (cg gG1 gF7) (cS (cO (oM (cg gG0 gF1) (cs sG2 sF7) (
  oM (cg gG2 gF1) (cs sG3 sF7) (
  o2 (arithK .geq) (cg gG2 gF7) (cg gG3 gF7) (cs sG4 sF7) (
  oM (cg gG4 gF7) (cs sG8 sF0) (
  eO))))))
 (cS (cO (oM (cg gG0 gF0) (cs sG5 sF7) (
  oM (cg gG1 gF0) (cs sG6 sF7) (
  oM (cg gG14 gF0) (cs sG7 sF7) (
  oM (cg gG3 gF0) (cs sG8 sF7) (
  oF fX [(cg gG5 gF7), (cg gG6 gF7), (cg gG7 gF7), (cg gG8 gF7)] (cs sG9 sF7) (
  eO)))))))
 (cO (oM (cg gG14 gF0) (cs sG10 sF7) (
  o2 (arithK .add) (cg gG10 gF7) (gC (.int .i64 1)) (cs sG11 sF7) (
  oM (cg gG11 gF7) (cs sG1 sF0) (
  eO)))))))
 (cS (cO (oM (cg gG1 gF1) (cs sG12 sF7) (
  oM (cg gG2 gF1) (cs sG13 sF7) (
  o2 (arithK .geq) (cg gG12 gF7) (cg gG13 gF7) (cs sG14 sF7) (
  oM (cg gG14 gF7) (cs sG8 sF0) (
  eO))))))
 (cS (cO (oM (cg gG0 gF0) (cs sG15 sF7) (
  oM (cg gG14 gF0) (cs sG0 sF8) (
  o2 (arithK .add) (cg gG0 gF8) (gC (.int .i64 1)) (cs sG1 sF8) (
  oM (cg gG2 gF0) (cs sG2 sF8) (
  oM (cg gG3 gF0) (cs sG3 sF8) (
  oF fX [(cg gG15 gF7), (cg gG1 gF8), (cg gG2 gF8), (cg gG3 gF8)] (cs sG4 sF8) (
  eO))))))))
 (cO (oM (cg gG14 gF0) (cs sG5 sF8) (
  oM (cg gG5 gF8) (cs sG2 sF0) (
  eO))))))))))))))))))))))))
def fn233 : Fc := fnT [(cs sG0 sF0), (cs sG1 sF0), (cs sG2 sF0), (cs sG3 sF0)] (rN []) co233
theorem se233 : FnS E 233 fn233 := fnOk (gv := gvT) (tab := asc [(294, fn294)]) (tabv := tabv2) (yl := ylv) (q := 4) (rf := rf233) (fun _ => rfl) (asc_cons se294 asc_nil) htabv2 hylv (by kernel_rfl) (by kernel_rfl) (by kernel_rfl)
def co164 : Cd := cS (cO (oM (cg gG0 gF0) (cs sG3 sF0) (
  o1 lenLT (cg gG3 gF0) (cs sG4 sF0) (
  oM (cg gG4 gF0) (cs sG2 sF0) (
  eO)))))
 (cO (oM (cg gG0 gF0) (cs sG5 sF0) (
  oM (cg gG2 gF0) (cs sG6 sF0) (
  oM (cg gG2 gF0) (cs sG7 sF0) (
  o1 (toIntT .u64) (cg gG7 gF0) (cs sG8 sF0) (
  oF fn234 [(cg gG8 gF0)] (cs sG9 sF0) (
  oF fn233 [(cg gG5 gF0), (gC (.int .i64 0)), (cg gG6 gF0), (cg gG9 gF0)] (cs sG10 sF0) (
  eO))))))))
def fn164 : Fc := fnT [(cs sG0 sF0)] (rN []) co164
theorem se164 : FnS E 164 fn164 := fnOk (gv := gvT) (tab := asc [(234, fn234), (233, fn233)]) (tabv := tabv2) (yl := ylv) (q := 1) (rf := rf164) (fun _ => rfl) (asc_cons se234 (asc_cons se233 asc_nil)) htabv2 hylv (by kernel_rfl) (by kernel_rfl) (by kernel_rfl)
def co165 : Cd := cS (cO (oM (gC .nils) (cs sG2 sF0) (
  eO)))
 (cS (cS (cO (oM (cg gG0 gF0) (cs sG6 sF0) (
  o1 lenLT (cg gG6 gF0) (cs sG7 sF0) (
  o2 (arithK .lss) (cg gG7 gF0) (gC (.int .i64 2)) (cs sG8 sF0) (
  eO)))))
 (cC (cg gG8 gF0) (cS (cO (oM (cg gG0 gF0) (cs sG9 sF0) (
  oM (cg gG9 gF0) (cs sG2 sF0) (
  eO))))
 (cR))
 (cSk)))
 (cS (cS (cO (oM (gC (.int .i64 1)) (cs sG3 sF0) (
  eO)))
 (cB 0 (cL (cS (cS (cO (oM (cg gG3 gF0) (cs sG10 sF0) (
  oM (cg gG0 gF0) (cs sG11 sF0) (
  o1 lenLT (cg gG11 gF0) (cs sG12 sF0) (
  o2 (arithK .lss) (cg gG10 gF0) (cg gG12 gF0) (cs sG13 sF0) (
  eO))))))
 (cC (cg gG13 gF0) (cSk)
 (cE 0)))
 (cS (cB 1 (cS (cD [] [iP (oM (cg gG0 gF0) (cs sG0 sF1) (eO)),
  iP (oM (cg gG3 gF0) (cs sG1 sF1) (eO)),
  iP (o2 (iaLT 1) (cg gG0 gF1) (cg gG1 gF1) (cs sG2 sF1) (eO)),
  iP (oD ld1T (cg gG2 gF1) (cs sG3 sF1) (eO)),
  iP (oM (cg gG0 gF0) (cs sG4 sF1) (eO)),
  iP (oM (cg gG3 gF0) (cs sG5 sF1) (eO)),
  iP (o2 (arithK .sub) (cg gG5 gF1) (gC (.int .i64 1)) (cs sG6 sF1) (eO)),
  iP (o2 (iaLT 1) (cg gG4 gF1) (cg gG6 gF1) (cs sG7 sF1) (eO)),
  iP (oD ld1T (cg gG7 gF1) (cs sG8 sF1) (eO)),
  iP (o2 (arithK .eql) (cg gG3 gF1) (cg gG8 gF1) (cs sG9 sF1) (eO))])
 (cC (cg gG9 gF1) (cS (cO (oM (cg gG0 gF0) (cs sG10 sF1) (
  oM (cg gG3 gF0) (cs sG11 sF1) (
  o3 (slLT true false 1) (cg gG10 gF1) (cg gG11 gF1) (gC .nili) (cs sG12 sF1) (
  oM (cg gG12 gF1) (cs sG4 sF0) (
  eO))))))
 (cS (cS (cO (oM (gC (.int .i64 1)) (cs sG5 sF0) (
  eO)))
 (cB 2 (cL (cS (cS (cO (oM (cg gG5 gF0) (cs sG13 sF1) (
  oM (cg gG4 gF0) (cs sG14 sF1) (
  o1 lenLT (cg gG14 gF1) (cs sG15 sF1) (
  o2 (arithK .lss) (cg gG13 gF1) (cg gG15 gF1) (cs sG0 sF2) (
  eO))))))
 (cC (cg gG0 gF2) (cSk)
 (cE 2)))
 (cS (cB 3 (cS (cD [] [iP (oM (cg gG4 gF0) (cs sG3 sF2) (eO)),
  iP (oM (cg gG5 gF0) (cs sG4 sF2) (eO)),
  iP (o2 (iaLT 1) (cg gG3 gF2) (cg gG4 gF2) (cs sG5 sF2) (eO)),
  iP (oD ld1T (cg gG5 gF2) (cs sG6 sF2) (eO)),
  iP (oM (cg gG4 gF0) (cs sG7 sF2) (eO)),
  iP (oM (cg gG5 gF0) (cs sG8 sF2) (eO)),
  iP (o2 (arithK .sub) (cg gG8 gF2) (gC (.int .i64 1)) (cs sG9 sF2) (eO)),
  iP (o2 (iaLT 1) (cg gG7 gF2) (cg gG9 gF2) (cs sG10 sF2) (eO)),
  iP (oD ld1T (cg gG10 gF2) (cs sG11 sF2) (eO)),
  iP (o2 (arithK .neq) (cg gG6 gF2) (cg gG11 gF2) (cs sG12 sF2) (eO))])
 (cC (cg gG12 gF2) (cS (cO (oM (cg gG0 gF0) (cs sG13 sF2) (
  oM (cg gG3 gF0) (cs sG14 sF2) (
  oM (cg gG4 gF0) (cs sG15 sF2) (
  oM (cg gG5 gF0) (cs sG0 sF3) (
  o2 (iaLT 1) (cg gG15 gF2) (cg gG0 gF3) (cs sG1 sF3) (
  oD ld1T (cg gG1 gF3) (cs sG2 sF3) (
  o2 (iaLT 1) (cg gG13 gF2) (cg gG14 gF2) (cs sG3 sF3) (
  oW2 (storeT 1) (cg gG3 gF3) (cg gG2 gF3) s0 (
  eO))))))))))
 (cO (oM (cg gG3 gF0) (cs sG4 sF3) (
  o2 (arithK .add) (cg gG4 gF3) (gC (.int .i64 1)) (cs sG5 sF3) (
  oM (cg gG5 gF3) (cs sG3 sF0) (
  eO))))))
 (cSk))))
 (cO (oM (cg gG5 gF0) (cs sG1 sF2) (
  o2 (arithK .add) (cg gG1 gF2) (gC (.int .i64 1)) (cs sG2 sF2) (
  oM (cg gG2 gF2) (cs sG5 sF0) (
  eO))))))))))
 (cS (cO (oM (cg gG0 gF0) (cs sG6 sF3) (
  oM (cg gG3 gF0) (cs sG7 sF3) (
  o3 (slLT true false 1) (cg gG6 gF3) (cg gG7 gF3) (gC .nili) (cs sG8 sF3) (
  oW1 (clrT [(.int .i64 0)] 1) (cg gG8 gF3) s0 (
  eO))))))
 (cS (cO (oM (cg gG0 gF0) (cs sG9 sF3) (
  oM (cg gG3 gF0) (cs sG10 sF3) (
  o3 (slLT false true 1) (cg gG9 gF3) (gC .nili) (cg gG10 gF3) (cs sG11 sF3) (
  oM (cg gG11 gF3) (cs sG2 sF0) (
  eO))))))
 (cR)))))
 (cSk))))
 (cO (oM (cg gG3 gF0) (cs sG14 sF0) (
  o2 (arithK .add) (cg gG14 gF0) (gC (.int .i64 1)) (cs sG15 sF0) (
  oM (cg gG15 gF0) (cs sG3 sF0) (
  eO))))))))))
 (cS (cO (oM (cg gG0 gF0) (cs sG12 sF3) (
  oM (cg gG12 gF3) (cs sG2 sF0) (
  eO))))
 (cR))))
def fn165 : Fc := fnT [(cs sG0 sF0)] (r1 (cg gG2 gF0)) co165
theorem se165 : FnS E 165 fn165 := fnOk (gv := gvT) (tab := asc []) (tabv := tabv2) (yl := ylv) (q := 1) (rf := rf165) (fun _ => rfl) asc_nil htabv2 hylv (by kernel_rfl) (by kernel_rfl) (by kernel_rfl)
def co73 : Cd := cS (cO (oW1 (boxT 5) (cg gG1 gF0) (cs sG6 sF0) (
  oM (gC .nils) (cs sG10 sF0) (
  oM (gC .nils) (cs sG11 sF0) (
  oM (gC (.bool false)) (cs sG12 sF0) (
  eO))))))
 (cS (cS (cO (oD (ldT 5 true) (cg gG6 gF0) (cs sG4 sF1) (
  oM (cg gG2 gF0) (cs sG5 sF1) (
  oM (cg gG3 gF0) (cs sG6 sF1) (
  oM (cg gG4 gF0) (cs sG7 sF1) (
  oF fn160 [(cg gG4 gF1), (cg gG5 gF1), (cg gG6 gF1), (cg gG7 gF1)] (cs sG8 sF1) (
  o1 (unT .not) (cg gG8 gF1) (cs sG9 sF1) (
  eO))))))))
 (cC (cg gG9 gF1) (cS (cO (oM (gC .nils) (cs sG10 sF0) (
  oM (gC .nils) (cs sG11 sF0) (
  oM (gC (.bool false)) (cs sG12 sF0) (
  eO)))))
 (cR))
 (cSk)))
 (cS (cO (oD (ldT 5 true) (cg gG6 gF0) (cs sG10 sF1) (
  oM (cg gG3 gF0) (cs sG11 sF1) (
  oF fn161 [(cg gG10 gF1), (cg gG11 gF1)] (cs sG12 sF1) (
  oM (cg gG12 gF1) (cs sG13 sF0) (
  eO))))))
 (cS (cS (cO (oM (cg gG2 gF0) (cs sG13 sF1) (
  oM (gC (.int .i64 0)) (cs sG14 sF1) (
  eO))))
 (cB 0 (cL (cS (cO (o2 (arithK .lss) (cg gG14 gF1) (cg gG13 gF1) (cs sG15 sF1) (
  eO)))
 (cS (cC (cg gG15 gF1) (cSk)
 (cE 0))
 (cS (cB 1 (cS (cO (oM (cg gG14 gF1) (cs sG0 sF2) (
  oM (cg gG0 gF2) (cs sG14 sF0) (
  eO))))
 (cS (cD [] [iP (oM (cg gG0 gF0) (cs sG2 sF2) (eO)),
  iP (oM (cg gG13 gF0) (cs sG3 sF2) (eO)),
  iP (oM (cg gG4 gF0) (cs sG4 sF2) (eO)),
  iP (oM (cg gG14 gF0) (cs sG5 sF2) (eO)),
  iW (oF fX [(cg gG4 gF2), (cg gG5 gF2)] (cs sG6 sF2) (eO)),
  iP (o1 (fadT 1) (cg gG6 gF0) (cs sG7 sF2) (eO)),
  iR 0 1 (rd1 ld1T (cg gG7 gF2)) (cs sG8 sF2),
  iP (o1 (fadT 2) (cg gG6 gF0) (cs sG9 sF2) (eO)),
  iR 0 1 (rd1 ld1T (cg gG9 gF2)) (cs sG10 sF2),
  iP (o2 (arithK .add) (cg gG8 gF2) (cg gG10 gF2) (cs sG11 sF2) (eO)),
  iP (o2 (arithK .sub) (cg gG11 gF2) (gC (.int .i64 1)) (cs sG12 sF2) (eO)),
  iP (o1 (fadT 3) (cg gG6 gF0) (cs sG13 sF2) (eO)),
  iR 0 1 (rd1 ld1T (cg gG13 gF2)) (cs sG14 sF2),
  iW (oF fX [(cg gG2 gF2), (cg gG3 gF2), (cg gG6 gF2), (cg gG12 gF2), (cg gG14 gF2)] (cs sG15 sF2) (eO)),
  iP (oM (cg gG15 gF2) (cs sG1 sF2) (eO)),
  iP (o1 (extT 0) (cg gG1 gF2) (cs sG0 sF3) (eO)),
  iP (o1 (extT 1) (cg gG1 gF2) (cs sG1 sF3) (eO)),
  iP (o1 (extT 2) (cg gG1 gF2) (cs sG2 sF3) (eO)),
  iP (oM (cg gG0 gF3) (cs sG15 sF0) (eO)),
  iP (oM (cg gG1 gF3) (cs sG0 sF1) (eO)),
  iP (oM (cg gG2 gF3) (cs sG1 sF1) (eO))])
 (cS (cS (cO (oM (cg gG1 gF1) (cs sG3 sF3) (
  o1 (unT .not) (cg gG3 gF3) (cs sG4 sF3) (
  eO))))
 (cC (cg gG4 gF3) (cS (cO (oM (gC .nils) (cs sG10 sF0) (
  oM (gC .nils) (cs sG11 sF0) (
  oM (gC (.bool false)) (cs sG12 sF0) (
  eO)))))
 (cR))
 (cSk)))
 (cS (cO (oM (cg gG10 gF0) (cs sG5 sF3) (
  oM (cg gG15 gF0) (cs sG6 sF3) (
  oN (mklT [.nils] 1 1 [(0, 1)]) [(cg gG6 gF3)] (cs sG7 sF3) (
  oW2 (appT 1 24) (cg gG5 gF3) (cg gG7 gF3) (cs sG8 sF3) (
  oM (cg gG8 gF3) (cs sG10 sF0) (
  eO)))))))
 (cS (cO (oM (cg gG0 gF1) (cs sG9 sF3) (
  o1 lenLT (cg gG9 gF3) (cs sG10 sF3) (
  oM (gC (.int .i64 0)) (cs sG11 sF3) (
  eO)))))
 (cB 2 (cL (cS (cO (o2 (arithK .lss) (cg gG11 gF3) (cg gG10 gF3) (cs sG12 sF3) (
  eO)))
 (cS (cC (cg gG12 gF3) (cSk)
 (cE 2))
 (cS (cB 3 (cS (cO (o2 (iaLT 1) (cg gG9 gF3) (cg gG11 gF3) (cs sG13 sF3) (
  oD ld1T (cg gG13 gF3) (cs sG14 sF3) (
  oM (cg gG14 gF3) (cs sG3 sF1) (
  eO)))))
 (cO (oM (cg gG11 gF0) (cs sG15 sF3) (
  oM (cg gG3 gF0) (cs sG0 sF4) (
  oM (cg gG3 gF1) (cs sG1 sF4) (
  o2 (iaLT 1) (cg gG0 gF4) (cg gG1 gF4) (cs sG2 sF4) (
  oD ld1T (cg gG2 gF4) (cs sG3 sF4) (
  oN (mklT [(.int .i64 0)] 1 1 [(0, 1)]) [(cg gG3 gF4)] (cs sG4 sF4) (
  oW2 (appT 1 8) (cg gG15 gF3) (cg gG4 gF4) (cs sG5 sF4) (
  oM (cg gG5 gF4) (cs sG11 sF0) (
  eO))))))))))))
 (cO (o2 (arithK .add) (cg gG11 gF3) (gC (.int .i64 1)) (cs sG6 sF4) (
  oM (cg gG6 gF4) (cs sG11 sF3) (
  eO)))))))))))))))
 (cO (o2 (arithK .add) (cg gG14 gF1) (gC (.int .i64 1)) (cs sG7 sF4) (
  oM (cg gG7 gF4) (cs sG14 sF1) (
  eO))))))))))
 (cS (cO (oM (cg gG11 gF0) (cs sG8 sF4) (
  oF fn164 [(cg gG8 gF4)] (cs sG9 sF4) (
  eO))))
 (cS (cO (oM (cg gG10 gF0) (cs sG10 sF4) (
  oM (cg gG11 gF0) (cs sG11 sF4) (
  oF fn165 [(cg gG11 gF4)] (cs sG12 sF4) (
  oM (cg gG10 gF4) (cs sG10 sF0) (
  oM (cg gG12 gF4) (cs sG11 sF0) (
  oM (gC (.bool true)) (cs sG12 sF0) (
  eO))))))))
 (cR))))))
def fn73 : Fc := fnT [(cs sG0 sF0), (cs sG1 sF0), (cs sG2 sF0), (cs sG3 sF0), (cs sG4 sF0)] (rN [rT (cg gG10 gF0), rT (cg gG11 gF0), rT (cg gG12 gF0)]) co73
theorem se73 : FnS E 73 fn73 := fnOk (gv := gvT) (tab := asc [(160, fn160), (161, fn161), (164, fn164), (165, fn165)]) (tabv := tabv2) (yl := ylv) (q := 5) (rf := rf73) (fun _ => rfl) (asc_cons se160 (asc_cons se161 (asc_cons se164 (asc_cons se165 asc_nil)))) htabv2 hylv (by kernel_rfl) (by kernel_rfl) (by kernel_rfl)
def co32 : Cd := cS (cO (oM (gC .nils) (cs sG2 sF0) (
  oM (gC (.bool false)) (cs sG3 sF0) (
  eO))))
 (cS (cS (cO (oM (cg gG0 gF0) (cs sG12 sF0) (
  o2 (eqT false .ptr) (cg gG12 gF0) (gC .nilp) (cs sG13 sF0) (
  eO))))
 (cC (cg gG13 gF0) (cS (cO (oM (gC .nils) (cs sG2 sF0) (
  oM (gC (.bool false)) (cs sG3 sF0) (
  eO))))
 (cR))
 (cSk)))
 (cS (cO (oM (gC (.int .i64 0)) (cs sG4 sF0) (
  eO)))
 (cS (cS (cO (oM (cg gG0 gF0) (cs sG14 sF0) (
  oF fn28 [(cg gG14 gF0)] (cs sG15 sF0) (
  oF fn70 [(cg gG15 gF0)] (cs sG0 sF1) (
  oF fn71 [(cg gG0 gF1)] (cs sG1 sF1) (
  o1 (fldT 3 1 false) (cg gG1 gF1) (cs sG2 sF1) (
  o1 lenLT (cg gG2 gF1) (cs sG3 sF1) (
  oM (gC (.int .i64 0)) (cs sG4 sF1) (
  eO)))))))))
 (cB 0 (cL (cS (cO (o2 (arithK .lss) (cg gG4 gF1) (cg gG3 gF1) (cs sG5 sF1) (
  eO)))
 (cS (cC (cg gG5 gF1) (cSk)
 (cE 0))
 (cS (cB 1 (cS (cO (o2 (iaLT 2) (cg gG2 gF1) (cg gG4 gF1) (cs sG6 sF1) (
  oD (ldT 2 true) (cg gG6 gF1) (cs sG7 sF1) (
  oW0 (allocT [(.str []), (.int .i64 0)]) (cs sG6 sF0) (
  oW2 (storeT 2) (cg gG6 gF0) (cg gG7 gF1) s0 (
  eO))))))
 (cD [] [iP (oM (cg gG4 gF0) (cs sG8 sF1) (eO)),
  iP (o1 (fadT 1) (cg gG6 gF0) (cs sG9 sF1) (eO)),
  iR 0 1 (rd1 ld1T (cg gG9 gF1)) (cs sG10 sF1),
  iP (oM (cg gG0 gF0) (cs sG11 sF1) (eO)),
  iW (oF fn22 [(cg gG11 gF1)] (cs sG12 sF1) (eO)),
  iP (o1 (fldT 2 1 false) (cg gG12 gF1) (cs sG13 sF1) (eO)),
  iW (oF fX [(cg gG10 gF1), (cg gG13 gF1)] (cs sG14 sF1) (eO)),
  iP (o2 (arithK .add) (cg gG8 gF1) (cg gG14 gF1) (cs sG15 sF1) (eO)),
  iP (oM (cg gG15 gF1) (cs sG4 sF0) (eO))])))
 (cO (o2 (arithK .add) (cg gG4 gF1) (gC (.int .i64 1)) (cs sG0 sF2) (
  oM (cg gG0 gF2) (cs sG4 sF1) (
  eO))))))))))
 (cS (cO (oM (cg gG0 gF0) (cs sG2 sF2) (
  oF fn31 [(cg gG2 gF2)] (cs sG3 sF2) (
  oM (cg gG3 gF2) (cs sG1 sF2) (
  o1 (extT 0) (cg gG1 gF2) (cs sG4 sF2) (
  o1 (extT 1) (cg gG1 gF2) (cs sG5 sF2) (
  oM (cg gG4 gF2) (cs sG7 sF0) (
  oM (cg gG5 gF2) (cs sG8 sF0) (
  eO)))))))))
 (cS (cO (oF fn74 [] (cs sG7 sF2) (
  oM (cg gG0 gF0) (cs sG8 sF2) (
  oF fn22 [(cg gG8 gF2)] (cs sG9 sF2) (
  oM (cg gG4 gF0) (cs sG10 sF2) (
  oM (cg gG7 gF0) (cs sG11 sF2) (
  oM (cg gG8 gF0) (cs sG12 sF2) (
  oF fn73 [(cg gG7 gF2), (cg gG9 gF2), (cg gG10 gF2), (cg gG11 gF2), (cg gG12 gF2)] (cs sG13 sF2) (
  oM (cg gG13 gF2) (cs sG6 sF2) (
  o1 (extT 0) (cg gG6 gF2) (cs sG14 sF2) (
  o1 (extT 1) (cg gG6 gF2) (cs sG15 sF2) (
  o1 (extT 2) (cg gG6 gF2) (cs sG0 sF3) (
  oM (cg gG14 gF2) (cs sG9 sF0) (
  oM (cg gG15 gF2) (cs sG10 sF0) (
  oM (cg gG0 gF3) (cs sG11 sF0) (
  eO))))))))))))))))
 (cS (cO (oM (cg gG10 gF0) (cs sG1 sF3) (
  oM (cg gG11 gF0) (cs sG2 sF3) (
  oM (cg gG1 gF3) (cs sG2 sF0) (
  oM (cg gG2 gF3) (cs sG3 sF0) (
  eO))))))
 (cR)))))))
def fn32 : Fc := fnT [(cs sG0 sF0)] (rN [rT (cg gG2 gF0), rT (cg gG3 gF0)]) co32
theorem se32 : FnS E 32 fn32 := fnOk (gv := gvT) (tab := asc [(28, fn28), (70, fn70), (71, fn71), (22, fn22), (31, fn31), (74, fn74), (73, fn73)]) (tabv := tabv2) (yl := ylv) (q := 1) (rf := rf32) (fun _ => rfl) (asc_cons se28 (asc_cons se70 (asc_cons se71 (asc_cons se22 (asc_cons se31 (asc_cons se74 (asc_cons se73 asc_nil))))))) htabv2 hylv (by kernel_rfl) (by kernel_rfl) (by kernel_rfl)
end
end Go.Proofs.YtnhbkimefglkiaaGreatDoor.HealthNone
