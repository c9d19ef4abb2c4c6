/- Printed by a program of this session (mkclaim.py): functions of the given program as code, and as threaded code. -/
import Derived.Test.YtnhbkimefglkiaaGreatDoorHolderNoneF0
namespace Go.Proofs.YtnhbkimefglkiaaGreatDoor.HolderNone
open Go Go.Ai
set_option maxRecDepth 100000
set_option maxHeartbeats 0
noncomputable section
def co86 : Cd := cS (cO (oM (gC (.bool false)) (cs sG2 sF0) (
  eO)))
 (cS (cO (oM (cg gG0 gF0) (cs sG3 sF0) (
  o2 (arithK .geq) (cg gG3 gF0) (gC (.int .i64 0)) (cs sG4 sF0) (
  oM (cg gG4 gF0) (cs sG5 sF0) (
  oG (cg gG5 gF0) true (cs sG6 sF0) (oM (cg gG0 gF0) (cs sG6 sF0) (eO)) (
  oG (cg gG5 gF0) true (cs sG7 sF0) (o2 (arithK .leq) (cg gG6 gF0) (gC (.int .i64 256)) (cs sG7 sF0) (eO)) (
  o3 pickT (cg gG5 gF0) (cg gG7 gF0) (gC (.bool false)) (cs sG8 sF0) (
  oM (cg gG8 gF0) (cs sG2 sF0) (
  eO)))))))))
 (cR))
def fn86 : Fc := fnT [(cs sG0 sF0)] (r1 (cg gG2 gF0)) co86
theorem se86 : FnS E 86 fn86 := fnOk (gv := gvT) (tab := asc []) (tabv := tabv3) (yl := ylv) (q := 1) (rf := rf86) (fun _ => rfl) asc_nil htabv3 hylv (by kernel_rfl) (by kernel_rfl) (by kernel_rfl)
def co72 : Cd := cS (cO (oM (gC (.int .i64 0)) (cs sG4 sF0) (
  eO)))
 (cS (cS (cO (oM (cg gG0 gF0) (cs sG6 sF0) (
  o2 (arithK .lss) (cg gG6 gF0) (gC (.int .i64 0)) (cs sG7 sF0) (
  oM (cg gG7 gF0) (cs sG8 sF0) (
  oG (cg gG8 gF0) false (cs sG9 sF0) (oM (cg gG1 gF0) (cs sG9 sF0) (eO)) (
  oG (cg gG8 gF0) false (cs sG10 sF0) (o2 (arithK .lss) (cg gG9 gF0) (gC (.int .i64 1)) (cs sG10 sF0) (eO)) (
  o3 pickT (cg gG8 gF0) (gC (.bool true)) (cg gG10 gF0) (cs sG11 sF0) (
  eO))))))))
 (cC (cg gG11 gF0) (cS (cO (oM (gC (.int .i64 0)) (cs sG4 sF0) (
  eO)))
 (cR))
 (cSk)))
 (cS (cO (oM (cg gG0 gF0) (cs sG12 sF0) (
  oM (cg gG1 gF0) (cs sG13 sF0) (
  o2 (arithK .quo) (cg gG12 gF0) (cg gG13 gF0) (cs sG14 sF0) (
  oM (cg gG14 gF0) (cs sG5 sF0) (
  eO))))))
 (cS (cS (cO (oM (cg gG0 gF0) (cs sG15 sF0) (
  oM (cg gG1 gF0) (cs sG0 sF1) (
  o2 (arithK .rem) (cg gG15 gF0) (cg gG0 gF1) (cs sG1 sF1) (
  o2 (arithK .gtr) (cg gG1 gF1) (gC (.int .i64 0)) (cs sG2 sF1) (
  eO))))))
 (cC (cg gG2 gF1) (cO (oM (cg gG5 gF0) (cs sG3 sF1) (
  o2 (arithK .add) (cg gG3 gF1) (gC (.int .i64 1)) (cs sG4 sF1) (
  oM (cg gG4 gF1) (cs sG5 sF0) (
  eO)))))
 (cSk)))
 (cS (cO (oM (cg gG5 gF0) (cs sG5 sF1) (
  oM (cg gG5 gF1) (cs sG4 sF0) (
  eO))))
 (cR)))))
def fn72 : Fc := fnT [(cs sG0 sF0), (cs sG1 sF0)] (r1 (cg gG4 gF0)) co72
theorem se72 : FnS E 72 fn72 := fnOk (gv := gvT) (tab := asc []) (tabv := tabv3) (yl := ylv) (q := 2) (rf := rf72) (fun _ => rfl) asc_nil htabv3 hylv (by kernel_rfl) (by kernel_rfl) (by kernel_rfl)
def co87 : Cd := cS (cO (oW1 (boxT 16) (cg gG1 gF0) (cs sG4 sF0) (
  oW0 (allocT [(.int .i64 0), (.int .i64 0), (.int .i64 0), (.int .i64 0), (.int .i64 0), (.int .i64 0), (.int .i64 0), .nils, (.str []), (.int .i64 0), (.int .i64 0), (.int .i64 0), .nils, .nils, (.int .i64 0), .nils]) (cs sG6 sF0) (
  eO))))
 (cS (cD [] [iP (oM (cg gG2 gF0) (cs sG7 sF0) (eO)),
  iP (oM (cg gG0 gF0) (cs sG8 sF0) (eO)),
  iP (o1 nchkT (cg gG8 gF0) (cs sG9 sF0) (eO)),
  iP (o1 (fadT 5) (cg gG9 gF0) (cs sG10 sF0) (eO)),
  iP (oD ld1T (cg gG10 gF0) (cs sG11 sF0) (eO)),
  iP (o1 (fadT 3) (cg gG4 gF0) (cs sG12 sF0) (eO)),
  iP (oD ld1T (cg gG12 gF0) (cs sG13 sF0) (eO)),
  iP (oN (buildT [(.int .i64 0), (.int .i64 0), (.int .i64 0), (.int .i64 0), (.int .i64 0), (.int .i64 0), (.int .i64 0), .nils, (.str []), (.int .i64 0), (.int .i64 0), (.int .i64 0), .nils, .nils, (.int .i64 0), .nils] [(0, 1), (1, 1), (2, 1), (3, 1)]) [(cg gG7 gF0), (cg gG11 gF0), (gC (.int .i64 (-1))), (cg gG13 gF0)] (cs sG14 sF0) (eO)),
  iW (oW2 (storeT 16) (cg gG6 gF0) (cg gG14 gF0) s0 (eO))])
 (cR))
def fn87 : Fc := fnT [(cs sG0 sF0), (cs sG1 sF0), (cs sG2 sF0)] (rN [rC (cg gG6 gF0) 16 true]) co87
theorem se87 : FnS E 87 fn87 := fnOk (gv := gvT) (tab := asc []) (tabv := tabv3) (yl := ylv) (q := 3) (rf := rf87) (fun _ => rfl) asc_nil htabv3 hylv (by kernel_rfl) (by kernel_rfl) (by kernel_rfl)
def co249 : Cd := cS (cO (oW0 (allocT [(.int .u32 0), (.int .u32 0), (.int .u32 0), (.int .u32 0), (.int .u32 0), (.int .u32 0), (.int .u32 0), (.int .u32 0)]) (cs sG0 sF0) (
  eO)))
 (cS (cO (oN (buildT [(.int .u32 0), (.int .u32 0), (.int .u32 0), (.int .u32 0), (.int .u32 0), (.int .u32 0), (.int .u32 0), (.int .u32 0)] [(0, 1), (1, 1), (2, 1), (3, 1), (4, 1), (5, 1), (6, 1), (7, 1)]) [(gC (.int .u32 1779033703)), (gC (.int .u32 3144134277)), (gC (.int .u32 1013904242)), (gC (.int .u32 2773480762)), (gC (.int .u32 1359893119)), (gC (.int .u32 2600822924)), (gC (.int .u32 528734635)), (gC (.int .u32 1541459225))] (cs sG1 sF0) (
  oW2 (storeT 8) (cg gG0 gF0) (cg gG1 gF0) s0 (
  eO))))
 (cR))
def fn249 : Fc := fnT [] (rN [rC (cg gG0 gF0) 8 true]) co249
theorem se249 : FnS E 249 fn249 := fnOk (gv := gvT) (tab := asc []) (tabv := tabv3) (yl := ylv) (q := 0) (rf := rf249) (fun _ => rfl) asc_nil htabv3 hylv (by kernel_rfl) (by kernel_rfl) (by kernel_rfl)
def co250 : Cd := cS (cO (oM (gC .nils) (cs sG2 sF0) (
  eO)))
 (cS (cO (oN (mklT [] 0 1 []) [] (cs sG6 sF0) (
  oM (cg gG0 gF0) (cs sG7 sF0) (
  oW2 (appT 1 1) (cg gG6 gF0) (cg gG7 gF0) (cs sG8 sF0) (
  oN (mklT [(.int .u8 0)] 1 1 [(0, 1)]) [(gC (.int .u8 128))] (cs sG9 sF0) (
  oW2 (appT 1 1) (cg gG8 gF0) (cg gG9 gF0) (cs sG10 sF0) (
  oM (cg gG10 gF0) (cs sG3 sF0) (
  eO))))))))
 (cS (cB 0 (cL (cS (cS (cO (oM (cg gG3 gF0) (cs sG11 sF0) (
  o1 lenLT (cg gG11 gF0) (cs sG12 sF0) (
  o2 (arithK .rem) (cg gG12 gF0) (gC (.int .i64 64)) (cs sG13 sF0) (
  o2 (arithK .neq) (cg gG13 gF0) (gC (.int .i64 56)) (cs sG14 sF0) (
  eO))))))
 (cC (cg gG14 gF0) (cSk)
 (cE 0)))
 (cB 1 (cO (oM (cg gG3 gF0) (cs sG15 sF0) (
  oN (mklT [(.int .u8 0)] 1 1 [(0, 1)]) [(gC (.int .u8 0))] (cs sG0 sF1) (
  oW2 (appT 1 1) (cg gG15 gF0) (cg gG0 gF1) (cs sG1 sF1) (
  oM (cg gG1 gF1) (cs sG3 sF0) (
  eO))))))))))
 (cS (cO (oM (cg gG0 gF0) (cs sG2 sF1) (
  o1 lenLT (cg gG2 gF1) (cs sG3 sF1) (
  o1 (toIntT .u64) (cg gG3 gF1) (cs sG4 sF1) (
  o2 (arithK .mul) (cg gG4 gF1) (gC (.int .u64 8)) (cs sG5 sF1) (
  oM (cg gG5 gF1) (cs sG4 sF0) (
  eO)))))))
 (cS (cS (cO (oM (gC (.int .i64 56)) (cs sG5 sF0) (
  eO)))
 (cB 2 (cL (cS (cS (cO (oM (cg gG5 gF0) (cs sG6 sF1) (
  o2 (arithK .geq) (cg gG6 gF1) (gC (.int .i64 0)) (cs sG7 sF1) (
  eO))))
 (cC (cg gG7 gF1) (cSk)
 (cE 2)))
 (cS (cB 3 (cO (oM (cg gG3 gF0) (cs sG10 sF1) (
  oM (cg gG4 gF0) (cs sG11 sF1) (
  oM (cg gG5 gF0) (cs sG12 sF1) (
  o2 (arithK .shr) (cg gG11 gF1) (cg gG12 gF1) (cs sG13 sF1) (
  o1 (toIntT .u8) (cg gG13 gF1) (cs sG14 sF1) (
  oN (mklT [(.int .u8 0)] 1 1 [(0, 1)]) [(cg gG14 gF1)] (cs sG15 sF1) (
  oW2 (appT 1 1) (cg gG10 gF1) (cg gG15 gF1) (cs sG0 sF2) (
  oM (cg gG0 gF2) (cs sG3 sF0) (
  eO)))))))))))
 (cO (oM (cg gG5 gF0) (cs sG8 sF1) (
  o2 (arithK .sub) (cg gG8 gF1) (gC (.int .i64 8)) (cs sG9 sF1) (
  oM (cg gG9 gF1) (cs sG5 sF0) (
  eO))))))))))
 (cS (cO (oM (cg gG3 gF0) (cs sG1 sF2) (
  oM (cg gG1 gF2) (cs sG2 sF0) (
  eO))))
 (cR))))))
def fn250 : Fc := fnT [(cs sG0 sF0)] (r1 (cg gG2 gF0)) co250
theorem se250 : FnS E 250 fn250 := fnOk (gv := gvT) (tab := asc []) (tabv := tabv3) (yl := ylv) (q := 1) (rf := rf250) (fun _ => rfl) asc_nil htabv3 hylv (by kernel_rfl) (by kernel_rfl) (by kernel_rfl)
def co344 : Cd := cS (cO (oM (gC (.int .u32 0)) (cs sG4 sF0) (
  eO)))
 (cS (cO (oM (cg gG1 gF0) (cs sG6 sF0) (
  o1 (toIntT .u64) (cg gG6 gF0) (cs sG7 sF0) (
  o2 (arithK .and) (cg gG7 gF0) (gC (.int .u64 31)) (cs sG8 sF0) (
  oM (cg gG8 gF0) (cs sG5 sF0) (
  eO))))))
 (cS (cO (oM (cg gG0 gF0) (cs sG9 sF0) (
  oM (cg gG5 gF0) (cs sG10 sF0) (
  o2 (arithK .shl) (cg gG9 gF0) (cg gG10 gF0) (cs sG11 sF0) (
  oM (cg gG0 gF0) (cs sG12 sF0) (
  oM (cg gG5 gF0) (cs sG13 sF0) (
  o2 (arithK .sub) (gC (.int .u64 32)) (cg gG13 gF0) (cs sG14 sF0) (
  o2 (arithK .shr) (cg gG12 gF0) (cg gG14 gF0) (cs sG15 sF0) (
  o2 (arithK .or) (cg gG11 gF0) (cg gG15 gF0) (cs sG0 sF1) (
  oM (cg gG0 gF1) (cs sG4 sF0) (
  eO)))))))))))
 (cR)))
def fn344 : Fc := fnT [(cs sG0 sF0), (cs sG1 sF0)] (r1 (cg gG4 gF0)) co344
theorem se344 : FnS E 344 fn344 := fnOk (gv := gvT) (tab := asc []) (tabv := tabv3) (yl := ylv) (q := 2) (rf := rf344) (fun _ => rfl) asc_nil htabv3 hylv (by kernel_rfl) (by kernel_rfl) (by kernel_rfl)
def co312 : Cd := cS (cO (oM (gC (.int .u32 0)) (cs sG4 sF0) (
  eO)))
 (cS (cO (oM (cg gG0 gF0) (cs sG5 sF0) (
  oM (cg gG1 gF0) (cs sG6 sF0) (
  o1 (unT .neg) (cg gG6 gF0) (cs sG7 sF0) (
  oF fn344 [(cg gG5 gF0), (cg gG7 gF0)] (cs sG8 sF0) (
  oM (cg gG8 gF0) (cs sG4 sF0) (
  eO)))))))
 (cR))
def fn312 : Fc := fnT [(cs sG0 sF0), (cs sG1 sF0)] (r1 (cg gG4 gF0)) co312
theorem se312 : FnS E 312 fn312 := fnOk (gv := gvT) (tab := asc [(344, fn344)]) (tabv := tabv3) (yl := ylv) (q := 2) (rf := rf312) (fun _ => rfl) (asc_cons se344 asc_nil) htabv3 hylv (by kernel_rfl) (by kernel_rfl) (by kernel_rfl)
def co311 : Cd := cS (cO (oW0 (allocT (List.replicate 64 (.int .u32 0))) (cs sG2 sF0) (
  eO)))
 (cS (cO (oW0 (allocT (List.replicate 64 (.int .u32 0))) (cs sG3 sF0) (
  eO)))
 (cS (cS (cO (oM (gC (.int .i64 0)) (cs sG7 sF0) (
  eO)))
 (cB 0 (cL (cS (cO (o2 (arithK .lss) (cg gG7 gF0) (gC (.int .i64 64)) (cs sG8 sF0) (
  eO)))
 (cS (cC (cg gG8 gF0) (cSk)
 (cE 0))
 (cS (cB 1 (cS (cO (oM (cg gG7 gF0) (cs sG9 sF0) (
  oM (cg gG9 gF0) (cs sG4 sF0) (
  eO))))
 (cS (cS (cO (oM (cg gG4 gF0) (cs sG10 sF0) (
  o2 (arithK .lss) (cg gG10 gF0) (gC (.int .i64 16)) (cs sG11 sF0) (
  eO))))
 (cC (cg gG11 gF0) (cS (cD [] [iP (oM (cg gG4 gF0) (cs sG12 sF0) (eO)),
  iP (oM (cg gG0 gF0) (cs sG13 sF0) (eO)),
  iP (oM (cg gG4 gF0) (cs sG14 sF0) (eO)),
  iP (o2 (arithK .mul) (gC (.int .i64 4)) (cg gG14 gF0) (cs sG15 sF0) (eO)),
  iP (o2 (iaLT 1) (cg gG13 gF0) (cg gG15 gF0) (cs sG0 sF1) (eO)),
  iP (oD ld1T (cg gG0 gF1) (cs sG1 sF1) (eO)),
  iP (o1 (toIntT .u32) (cg gG1 gF1) (cs sG2 sF1) (eO)),
  iP (o2 (arithK .shl) (cg gG2 gF1) (gC (.int .u64 24)) (cs sG3 sF1) (eO)),
  iP (oM (cg gG0 gF0) (cs sG4 sF1) (eO)),
  iP (oM (cg gG4 gF0) (cs sG5 sF1) (eO)),
  iP (o2 (arithK .mul) (gC (.int .i64 4)) (cg gG5 gF1) (cs sG6 sF1) (eO)),
  iP (o2 (arithK .add) (cg gG6 gF1) (gC (.int .i64 1)) (cs sG7 sF1) (eO)),
  iP (o2 (iaLT 1) (cg gG4 gF1) (cg gG7 gF1) (cs sG8 sF1) (eO)),
  iP (oD ld1T (cg gG8 gF1) (cs sG9 sF1) (eO)),
  iP (o1 (toIntT .u32) (cg gG9 gF1) (cs sG10 sF1) (eO)),
  iP (o2 (arithK .shl) (cg gG10 gF1) (gC (.int .u64 16)) (cs sG11 sF1) (eO)),
  iP (o2 (arithK .or) (cg gG3 gF1) (cg gG11 gF1) (cs sG12 sF1) (eO)),
  iP (oM (cg gG0 gF0) (cs sG13 sF1) (eO)),
  iP (oM (cg gG4 gF0) (cs sG14 sF1) (eO)),
  iP (o2 (arithK .mul) (gC (.int .i64 4)) (cg gG14 gF1) (cs sG15 sF1) (eO)),
  iP (o2 (arithK .add) (cg gG15 gF1) (gC (.int .i64 2)) (cs sG0 sF2) (eO)),
  iP (o2 (iaLT 1) (cg gG13 gF1) (cg gG0 gF2) (cs sG1 sF2) (eO)),
  iP (oD ld1T (cg gG1 gF2) (cs sG2 sF2) (eO)),
  iP (o1 (toIntT .u32) (cg gG2 gF2) (cs sG3 sF2) (eO)),
  iP (o2 (arithK .shl) (cg gG3 gF2) (gC (.int .u64 8)) (cs sG4 sF2) (eO)),
  iP (o2 (arithK .or) (cg gG12 gF1) (cg gG4 gF2) (cs sG5 sF2) (eO)),
  iP (oM (cg gG0 gF0) (cs sG6 sF2) (eO)),
  iP (oM (cg gG4 gF0) (cs sG7 sF2) (eO)),
  iP (o2 (arithK .mul) (gC (.int .i64 4)) (cg gG7 gF2) (cs sG8 sF2) (eO)),
  iP (o2 (arithK .add) (cg gG8 gF2) (gC (.int .i64 3)) (cs sG9 sF2) (eO)),
  iP (o2 (iaLT 1) (cg gG6 gF2) (cg gG9 gF2) (cs sG10 sF2) (eO)),
  iP (oD ld1T (cg gG10 gF2) (cs sG11 sF2) (eO)),
  iP (o1 (toIntT .u32) (cg gG11 gF2) (cs sG12 sF2) (eO)),
  iP (o2 (arithK .or) (cg gG5 gF2) (cg gG12 gF2) (cs sG13 sF2) (eO)),
  iP (o2 (iaAT 64 1) (cg gG3 gF0) (cg gG12 gF0) (cs sG14 sF2) (eO)),
  iW (oW2 (storeT 1) (cg gG14 gF2) (cg gG13 gF2) s0 (eO))])
 (cE 1))
 (cSk)))
 (cS (cD [] [iP (oM (cg gG4 gF0) (cs sG15 sF2) (eO)),
  iP (o2 (arithK .sub) (cg gG15 gF2) (gC (.int .i64 2)) (cs sG0 sF3) (eO)),
  iP (o2 (iaAT 64 1) (cg gG3 gF0) (cg gG0 gF3) (cs sG1 sF3) (eO)),
  iP (oD ld1T (cg gG1 gF3) (cs sG2 sF3) (eO)),
  iP (oM (cg gG4 gF0) (cs sG3 sF3) (eO)),
  iP (o2 (arithK .sub) (cg gG3 gF3) (gC (.int .i64 15)) (cs sG4 sF3) (eO)),
  iP (o2 (iaAT 64 1) (cg gG3 gF0) (cg gG4 gF3) (cs sG5 sF3) (eO)),
  iP (oD ld1T (cg gG5 gF3) (cs sG6 sF3) (eO)),
  iP (oM (cg gG2 gF3) (cs sG5 sF0) (eO)),
  iP (oM (cg gG6 gF3) (cs sG6 sF0) (eO))])
 (cD [] [iP (oM (cg gG4 gF0) (cs sG7 sF3) (eO)),
  iP (oM (cg gG5 gF0) (cs sG8 sF3) (eO)),
  iW (oF fn312 [(cg gG8 gF3), (gC (.int .i64 17))] (cs sG9 sF3) (eO)),
  iP (oM (cg gG5 gF0) (cs sG10 sF3) (eO)),
  iW (oF fn312 [(cg gG10 gF3), (gC (.int .i64 19))] (cs sG11 sF3) (eO)),
  iP (o2 (arithK .xor) (cg gG9 gF3) (cg gG11 gF3) (cs sG12 sF3) (eO)),
  iP (oM (cg gG5 gF0) (cs sG13 sF3) (eO)),
  iP (o2 (arithK .shr) (cg gG13 gF3) (gC (.int .u64 10)) (cs sG14 sF3) (eO)),
  iP (o2 (arithK .xor) (cg gG12 gF3) (cg gG14 gF3) (cs sG15 sF3) (eO)),
  iP (oM (cg gG4 gF0) (cs sG0 sF4) (eO)),
  iP (o2 (arithK .sub) (cg gG0 gF4) (gC (.int .i64 7)) (cs sG1 sF4) (eO)),
  iP (o2 (iaAT 64 1) (cg gG3 gF0) (cg gG1 gF4) (cs sG2 sF4) (eO)),
  iR 0 4 (rd1 ld1T (cg gG2 gF4)) (cs sG3 sF4),
  iP (o2 (arithK .add) (cg gG15 gF3) (cg gG3 gF4) (cs sG4 sF4) (eO)),
  iP (oM (cg gG6 gF0) (cs sG5 sF4) (eO)),
  iW (oF fn312 [(cg gG5 gF4), (gC (.int .i64 7))] (cs sG6 sF4) (eO)),
  iP (oM (cg gG6 gF0) (cs sG7 sF4) (eO)),
  iW (oF fn312 [(cg gG7 gF4), (gC (.int .i64 18))] (cs sG8 sF4) (eO)),
  iP (o2 (arithK .xor) (cg gG6 gF4) (cg gG8 gF4) (cs sG9 sF4) (eO)),
  iP (oM (cg gG6 gF0) (cs sG10 sF4) (eO)),
  iP (o2 (arithK .shr) (cg gG10 gF4) (gC (.int .u64 3)) (cs sG11 sF4) (eO)),
  iP (o2 (arithK .xor) (cg gG9 gF4) (cg gG11 gF4) (cs sG12 sF4) (eO)),
  iP (o2 (arithK .add) (cg gG4 gF4) (cg gG12 gF4) (cs sG13 sF4) (eO)),
  iP (oM (cg gG4 gF0) (cs sG14 sF4) (eO)),
  iP (o2 (arithK .sub) (cg gG14 gF4) (gC (.int .i64 16)) (cs sG15 sF4) (eO)),
  iP (o2 (iaAT 64 1) (cg gG3 gF0) (cg gG15 gF4) (cs sG0 sF5) (eO)),
  iR 0 4 (rd1 ld1T (cg gG0 gF5)) (cs sG1 sF5),
  iP (o2 (arithK .add) (cg gG13 gF4) (cg gG1 gF5) (cs sG2 sF5) (eO)),
  iP (o2 (iaAT 64 1) (cg gG3 gF0) (cg gG7 gF3) (cs sG3 sF5) (eO)),
  iW (oW2 (storeT 1) (cg gG3 gF5) (cg gG2 gF5) s0 (eO))])))))
 (cO (o2 (arithK .add) (cg gG7 gF0) (gC (.int .i64 1)) (cs sG4 sF5) (
  oM (cg gG4 gF5) (cs sG7 sF0) (
  eO))))))))))
 (cS (cO (oD (ldT 64 true) (cg gG3 gF0) (cs sG5 sF5) (
  oW2 (storeT 64) (cg gG2 gF0) (cg gG5 gF5) s0 (
  eO))))
 (cR))))
def fn311 : Fc := fnT [(cs sG0 sF0)] (rN [rC (cg gG2 gF0) 64 true]) co311
theorem se311 : FnS E 311 fn311 := fnOk (gv := gvT) (tab := asc [(312, fn312)]) (tabv := tabv3) (yl := ylv) (q := 1) (rf := rf311) (fun _ => rfl) (asc_cons se312 asc_nil) htabv3 hylv (by kernel_rfl) (by kernel_rfl) (by kernel_rfl)
def co251 : Cd := cS (cD [(List.replicate 64 (.int .u32 0)), [(.int .u32 0), (.int .u32 0), (.int .u32 0), (.int .u32 0), (.int .u32 0), (.int .u32 0), (.int .u32 0), (.int .u32 0)]] [iP (oM (cg gG1 gF0) (cs sG13 sF0) (eO)),
  iW (oF fn311 [(cg gG13 gF0)] (cs sG14 sF0) (eO)),
  iP (oM (cg gG0 gF0) (cs sG15 sF0) (eO)),
  iP (o1 nchkT (cg gG15 gF0) (cs sG0 sF1) (eO)),
  iR 0 2 (rd1 (ldT 8 true) (cg gG0 gF1)) (cs sG1 sF1),
  iA 0 0 1 (List.replicate 64 (.int .u32 0)) (cs sG4 sF0),
  iA 1 0 1 [(.int .u32 0), (.int .u32 0), (.int .u32 0), (.int .u32 0), (.int .u32 0), (.int .u32 0), (.int .u32 0), (.int .u32 0)] (cs sG5 sF0),
  iW (oW2 (storeT 64) (cg gG4 gF0) (cg gG14 gF0) s0 (eO)),
  iW (oW2 (storeT 8) (cg gG5 gF0) (cg gG1 gF1) s0 (eO))])
 (cS (cS (cO (oD (ldT 64 true) (cg gG4 gF0) (cs sG2 sF1) (
  oM (gC (.int .i64 0)) (cs sG3 sF1) (
  eO))))
 (cB 0 (cL (cS (cO (o2 (arithK .lss) (cg gG3 gF1) (gC (.int .i64 64)) (cs sG4 sF1) (
  eO)))
 (cS (cC (cg gG4 gF1) (cSk)
 (cE 0))
 (cS (cB 1 (cS (cO (oM (cg gG3 gF1) (cs sG5 sF1) (
  o2 (ixAT 64 1 false) (cg gG2 gF1) (cg gG3 gF1) (cs sG6 sF1) (
  oM (cg gG5 gF1) (cs sG6 sF0) (
  oM (cg gG6 gF1) (cs sG7 sF0) (
  eO))))))
 (cS (cD [] [iP (o2 (iaAT 8 1) (cg gG5 gF0) (gC (.int .i64 0)) (cs sG7 sF1) (eO)),
  iP (oD ld1T (cg gG7 gF1) (cs sG8 sF1) (eO)),
  iP (o2 (iaAT 8 1) (cg gG5 gF0) (gC (.int .i64 4)) (cs sG9 sF1) (eO)),
  iP (oD ld1T (cg gG9 gF1) (cs sG10 sF1) (eO)),
  iP (oM (cg gG8 gF1) (cs sG8 sF0) (eO)),
  iP (oM (cg gG10 gF1) (cs sG9 sF0) (eO))])
 (cS (cD [] [iP (o2 (iaAT 8 1) (cg gG5 gF0) (gC (.int .i64 7)) (cs sG11 sF1) (eO)),
  iR 0 3 (rd1 ld1T (cg gG11 gF1)) (cs sG12 sF1),
  iP (oM (cg gG9 gF0) (cs sG13 sF1) (eO)),
  iW (oF fn312 [(cg gG13 gF1), (gC (.int .i64 6))] (cs sG14 sF1) (eO)),
  iP (oM (cg gG9 gF0) (cs sG15 sF1) (eO)),
  iW (oF fn312 [(cg gG15 gF1), (gC (.int .i64 11))] (cs sG0 sF2) (eO)),
  iP (o2 (arithK .xor) (cg gG14 gF1) (cg gG0 gF2) (cs sG1 sF2) (eO)),
  iP (oM (cg gG9 gF0) (cs sG2 sF2) (eO)),
  iW (oF fn312 [(cg gG2 gF2), (gC (.int .i64 25))] (cs sG3 sF2) (eO)),
  iP (o2 (arithK .xor) (cg gG1 gF2) (cg gG3 gF2) (cs sG4 sF2) (eO)),
  iP (o2 (arithK .add) (cg gG12 gF1) (cg gG4 gF2) (cs sG5 sF2) (eO)),
  iP (oM (cg gG9 gF0) (cs sG6 sF2) (eO)),
  iP (o2 (iaAT 8 1) (cg gG5 gF0) (gC (.int .i64 5)) (cs sG7 sF2) (eO)),
  iR 0 3 (rd1 ld1T (cg gG7 gF2)) (cs sG8 sF2),
  iP (o2 (arithK .and) (cg gG6 gF2) (cg gG8 gF2) (cs sG9 sF2) (eO)),
  iP (oM (cg gG9 gF0) (cs sG10 sF2) (eO)),
  iP (o1 (unT .xor) (cg gG10 gF2) (cs sG11 sF2) (eO)),
  iP (o2 (iaAT 8 1) (cg gG5 gF0) (gC (.int .i64 6)) (cs sG12 sF2) (eO)),
  iR 0 3 (rd1 ld1T (cg gG12 gF2)) (cs sG13 sF2),
  iP (o2 (arithK .and) (cg gG11 gF2) (cg gG13 gF2) (cs sG14 sF2) (eO)),
  iP (o2 (arithK .xor) (cg gG9 gF2) (cg gG14 gF2) (cs sG15 sF2) (eO)),
  iP (o2 (arithK .add) (cg gG5 gF2) (cg gG15 gF2) (cs sG0 sF3) (eO)),
  iP (oM (cg gG6 gF0) (cs sG1 sF3) (eO)),
  iP (o2 (iaAT 64 1) (gC gv1) (cg gG1 gF3) (cs sG2 sF3) (eO)),
  iR 0 3 (rd1 ld1T (cg gG2 gF3)) (cs sG3 sF3),
  iP (o2 (arithK .add) (cg gG0 gF3) (cg gG3 gF3) (cs sG4 sF3) (eO)),
  iP (oM (cg gG7 gF0) (cs sG5 sF3) (eO)),
  iP (o2 (arithK .add) (cg gG4 gF3) (cg gG5 gF3) (cs sG6 sF3) (eO)),
  iP (oM (cg gG6 gF3) (cs sG10 sF0) (eO))])
 (cS (cD [] [iP (oM (cg gG8 gF0) (cs sG7 sF3) (eO)),
  iW (oF fn312 [(cg gG7 gF3), (gC (.int .i64 2))] (cs sG8 sF3) (eO)),
  iP (oM (cg gG8 gF0) (cs sG9 sF3) (eO)),
  iW (oF fn312 [(cg gG9 gF3), (gC (.int .i64 13))] (cs sG10 sF3) (eO)),
  iP (o2 (arithK .xor) (cg gG8 gF3) (cg gG10 gF3) (cs sG11 sF3) (eO)),
  iP (oM (cg gG8 gF0) (cs sG12 sF3) (eO)),
  iW (oF fn312 [(cg gG12 gF3), (gC (.int .i64 22))] (cs sG13 sF3) (eO)),
  iP (o2 (arithK .xor) (cg gG11 gF3) (cg gG13 gF3) (cs sG14 sF3) (eO)),
  iP (oM (cg gG8 gF0) (cs sG15 sF3) (eO)),
  iP (o2 (iaAT 8 1) (cg gG5 gF0) (gC (.int .i64 1)) (cs sG0 sF4) (eO)),
  iR 0 3 (rd1 ld1T (cg gG0 gF4)) (cs sG1 sF4),
  iP (o2 (arithK .and) (cg gG15 gF3) (cg gG1 gF4) (cs sG2 sF4) (eO)),
  iP (oM (cg gG8 gF0) (cs sG3 sF4) (eO)),
  iP (o2 (iaAT 8 1) (cg gG5 gF0) (gC (.int .i64 2)) (cs sG4 sF4) (eO)),
  iR 0 3 (rd1 ld1T (cg gG4 gF4)) (cs sG5 sF4),
  iP (o2 (arithK .and) (cg gG3 gF4) (cg gG5 gF4) (cs sG6 sF4) (eO)),
  iP (o2 (arithK .xor) (cg gG2 gF4) (cg gG6 gF4) (cs sG7 sF4) (eO)),
  iP (o2 (iaAT 8 1) (cg gG5 gF0) (gC (.int .i64 1)) (cs sG8 sF4) (eO)),
  iR 0 3 (rd1 ld1T (cg gG8 gF4)) (cs sG9 sF4),
  iP (o2 (iaAT 8 1) (cg gG5 gF0) (gC (.int .i64 2)) (cs sG10 sF4) (eO)),
  iR 0 3 (rd1 ld1T (cg gG10 gF4)) (cs sG11 sF4),
  iP (o2 (arithK .and) (cg gG9 gF4) (cg gG11 gF4) (cs sG12 sF4) (eO)),
  iP (o2 (arithK .xor) (cg gG7 gF4) (cg gG12 gF4) (cs sG13 sF4) (eO)),
  iP (o2 (arithK .add) (cg gG14 gF3) (cg gG13 gF4) (cs sG14 sF4) (eO)),
  iP (oM (cg gG14 gF4) (cs sG11 sF0) (eO))])
 (cO (oM (cg gG10 gF0) (cs sG15 sF4) (
  oM (cg gG11 gF0) (cs sG0 sF5) (
  o2 (arithK .add) (cg gG15 gF4) (cg gG0 gF5) (cs sG1 sF5) (
  oM (cg gG8 gF0) (cs sG2 sF5) (
  o2 (iaAT 8 1) (cg gG5 gF0) (gC (.int .i64 1)) (cs sG3 sF5) (
  oD ld1T (cg gG3 gF5) (cs sG4 sF5) (
  o2 (iaAT 8 1) (cg gG5 gF0) (gC (.int .i64 2)) (cs sG5 sF5) (
  oD ld1T (cg gG5 gF5) (cs sG6 sF5) (
  o2 (iaAT 8 1) (cg gG5 gF0) (gC (.int .i64 3)) (cs sG7 sF5) (
  oD ld1T (cg gG7 gF5) (cs sG8 sF5) (
  oM (cg gG10 gF0) (cs sG9 sF5) (
  o2 (arithK .add) (cg gG8 gF5) (cg gG9 gF5) (cs sG10 sF5) (
  oM (cg gG9 gF0) (cs sG11 sF5) (
  o2 (iaAT 8 1) (cg gG5 gF0) (gC (.int .i64 5)) (cs sG12 sF5) (
  oD ld1T (cg gG12 gF5) (cs sG13 sF5) (
  o2 (iaAT 8 1) (cg gG5 gF0) (gC (.int .i64 6)) (cs sG14 sF5) (
  oD ld1T (cg gG14 gF5) (cs sG15 sF5) (
  oN (buildT [(.int .u32 0), (.int .u32 0), (.int .u32 0), (.int .u32 0), (.int .u32 0), (.int .u32 0), (.int .u32 0), (.int .u32 0)] [(0, 1), (1, 1), (2, 1), (3, 1), (4, 1), (5, 1), (6, 1), (7, 1)]) [(cg gG1 gF5), (cg gG2 gF5), (cg gG4 gF5), (cg gG6 gF5), (cg gG10 gF5), (cg gG11 gF5), (cg gG13 gF5), (cg gG15 gF5)] (cs sG0 sF6) (
  oW2 (storeT 8) (cg gG5 gF0) (cg gG0 gF6) s0 (
  eO))))))))))))))))))))))))))
 (cO (o2 (arithK .add) (cg gG3 gF1) (gC (.int .i64 1)) (cs sG1 sF6) (
  oM (cg gG1 gF6) (cs sG3 sF1) (
  eO))))))))))
 (cS (cO (oM (gC (.int .i64 0)) (cs sG2 sF6) (
  eO)))
 (cB 2 (cL (cS (cO (o2 (arithK .lss) (cg gG2 gF6) (gC (.int .i64 8)) (cs sG3 sF6) (
  eO)))
 (cS (cC (cg gG3 gF6) (cSk)
 (cE 2))
 (cS (cB 3 (cS (cO (oM (cg gG2 gF6) (cs sG4 sF6) (
  oM (cg gG4 gF6) (cs sG12 sF0) (
  eO))))
 (cD [] [iP (oM (cg gG0 gF0) (cs sG5 sF6) (eO)),
  iP (oM (cg gG12 gF0) (cs sG6 sF6) (eO)),
  iP (o1 nchkT (cg gG5 gF6) (cs sG7 sF6) (eO)),
  iP (o2 (iaAT 8 1) (cg gG7 gF6) (cg gG6 gF6) (cs sG8 sF6) (eO)),
  iP (oD ld1T (cg gG8 gF6) (cs sG9 sF6) (eO)),
  iP (oM (cg gG12 gF0) (cs sG10 sF6) (eO)),
  iP (o2 (iaAT 8 1) (cg gG5 gF0) (cg gG10 gF6) (cs sG11 sF6) (eO)),
  iP (oD ld1T (cg gG11 gF6) (cs sG12 sF6) (eO)),
  iP (o2 (arithK .add) (cg gG9 gF6) (cg gG12 gF6) (cs sG13 sF6) (eO)),
  iP (o1 nchkT (cg gG5 gF6) (cs sG14 sF6) (eO)),
  iP (o2 (iaAT 8 1) (cg gG14 gF6) (cg gG6 gF6) (cs sG15 sF6) (eO)),
  iW (oW2 (storeT 1) (cg gG15 gF6) (cg gG13 gF6) s0 (eO))])))
 (cO (o2 (arithK .add) (cg gG2 gF6) (gC (.int .i64 1)) (cs sG0 sF7) (
  oM (cg gG0 gF7) (cs sG2 sF6) (
  eO)))))))))))
def fn251 : Fc := fnT [(cs sG0 sF0), (cs sG1 sF0)] (rN []) co251
theorem se251 : FnS E 251 fn251 := fnOk (gv := gvT) (tab := asc [(311, fn311), (312, fn312)]) (tabv := tabv3) (yl := ylv) (q := 2) (rf := rf251) (fun _ => rfl) (asc_cons se311 (asc_cons se312 asc_nil)) htabv3 hylv (by kernel_rfl) (by kernel_rfl) (by kernel_rfl)
def co200 : Cd := cS (cO (oM (gC .nils) (cs sG2 sF0) (
  eO)))
 (cS (cO (oF fn249 [] (cs sG8 sF0) (
  oW0 (allocT [(.int .u32 0), (.int .u32 0), (.int .u32 0), (.int .u32 0), (.int .u32 0), (.int .u32 0), (.int .u32 0), (.int .u32 0)]) (cs sG3 sF0) (
  oW2 (storeT 8) (cg gG3 gF0) (cg gG8 gF0) s0 (
  eO)))))
 (cS (cS (cO (oM (cg gG0 gF0) (cs sG9 sF0) (
  oF fn250 [(cg gG9 gF0)] (cs sG10 sF0) (
  oM (cg gG10 gF0) (cs sG4 sF0) (
  eO)))))
 (cB 0 (cL (cS (cS (cO (oM (cg gG4 gF0) (cs sG11 sF0) (
  o1 lenLT (cg gG11 gF0) (cs sG12 sF0) (
  o2 (arithK .gtr) (cg gG12 gF0) (gC (.int .i64 0)) (cs sG13 sF0) (
  eO)))))
 (cC (cg gG13 gF0) (cSk)
 (cE 0)))
 (cS (cB 1 (cO (oM (cg gG4 gF0) (cs sG0 sF1) (
  o3 (slLT false true 1) (cg gG0 gF1) (gC .nili) (gC (.int .i64 64)) (cs sG1 sF1) (
  oF fn251 [(cg gG3 gF0), (cg gG1 gF1)] (cs sG2 sF1) (
  eO))))))
 (cO (oM (cg gG4 gF0) (cs sG14 sF0) (
  o3 (slLT true false 1) (cg gG14 gF0) (gC (.int .i64 64)) (gC .nili) (cs sG15 sF0) (
  oM (cg gG15 gF0) (cs sG4 sF0) (
  eO))))))))))
 (cS (cO (oM (gC .nils) (cs sG5 sF0) (
  eO)))
 (cS (cS (cO (oD (ldT 8 true) (cg gG3 gF0) (cs sG3 sF1) (
  oM (gC (.int .i64 0)) (cs sG4 sF1) (
  eO))))
 (cB 2 (cL (cS (cO (o2 (arithK .lss) (cg gG4 gF1) (gC (.int .i64 8)) (cs sG5 sF1) (
  eO)))
 (cS (cC (cg gG5 gF1) (cSk)
 (cE 2))
 (cS (cB 3 (cS (cO (o2 (ixAT 8 1 false) (cg gG3 gF1) (cg gG4 gF1) (cs sG6 sF1) (
  oM (cg gG6 gF1) (cs sG7 sF0) (
  eO))))
 (cO (oM (cg gG5 gF0) (cs sG7 sF1) (
  oM (cg gG7 gF0) (cs sG8 sF1) (
  o2 (arithK .shr) (cg gG8 gF1) (gC (.int .u64 24)) (cs sG9 sF1) (
  o1 (toIntT .u8) (cg gG9 gF1) (cs sG10 sF1) (
  oM (cg gG7 gF0) (cs sG11 sF1) (
  o2 (arithK .shr) (cg gG11 gF1) (gC (.int .u64 16)) (cs sG12 sF1) (
  o1 (toIntT .u8) (cg gG12 gF1) (cs sG13 sF1) (
  oM (cg gG7 gF0) (cs sG14 sF1) (
  o2 (arithK .shr) (cg gG14 gF1) (gC (.int .u64 8)) (cs sG15 sF1) (
  o1 (toIntT .u8) (cg gG15 gF1) (cs sG0 sF2) (
  oM (cg gG7 gF0) (cs sG1 sF2) (
  o1 (toIntT .u8) (cg gG1 gF2) (cs sG2 sF2) (
  oN (mklT [(.int .u8 0), (.int .u8 0), (.int .u8 0), (.int .u8 0)] 4 1 [(0, 1), (1, 1), (2, 1), (3, 1)]) [(cg gG10 gF1), (cg gG13 gF1), (cg gG0 gF2), (cg gG2 gF2)] (cs sG3 sF2) (
  oW2 (appT 1 1) (cg gG7 gF1) (cg gG3 gF2) (cs sG4 sF2) (
  oM (cg gG4 gF2) (cs sG5 sF0) (
  eO)))))))))))))))))))
 (cO (o2 (arithK .add) (cg gG4 gF1) (gC (.int .i64 1)) (cs sG5 sF2) (
  oM (cg gG5 gF2) (cs sG4 sF1) (
  eO))))))))))
 (cS (cO (oM (cg gG5 gF0) (cs sG6 sF2) (
  oM (cg gG6 gF2) (cs sG2 sF0) (
  eO))))
 (cR))))))
def fn200 : Fc := fnT [(cs sG0 sF0)] (r1 (cg gG2 gF0)) co200
theorem se200 : FnS E 200 fn200 := fnOk (gv := gvT) (tab := asc [(249, fn249), (250, fn250), (251, fn251)]) (tabv := tabv3) (yl := ylv) (q := 1) (rf := rf200) (fun _ => rfl) (asc_cons se249 (asc_cons se250 (asc_cons se251 asc_nil))) htabv3 hylv (by kernel_rfl) (by kernel_rfl) (by kernel_rfl)
def co202 : Cd := cS (cO (oM (gC .nils) (cs sG4 sF0) (
  eO)))
 (cS (cO (oW2 (mksT [(.int .u8 0)] 1 1) (gC (.int .i64 64)) (gC (.int .i64 64)) (cs sG7 sF0) (
  oM (cg gG7 gF0) (cs sG5 sF0) (
  eO))))
 (cS (cO (oM (cg gG5 gF0) (cs sG8 sF0) (
  oM (cg gG0 gF0) (cs sG9 sF0) (
  oW2 (copyT 1) (cg gG8 gF0) (cg gG9 gF0) (cs sG10 sF0) (
  eO)))))
 (cS (cS (cO (oM (cg gG5 gF0) (cs sG11 sF0) (
  o1 lenLT (cg gG11 gF0) (cs sG12 sF0) (
  oM (gC (.int .i64 0)) (cs sG13 sF0) (
  eO)))))
 (cB 0 (cL (cS (cO (o2 (arithK .lss) (cg gG13 gF0) (cg gG12 gF0) (cs sG14 sF0) (
  eO)))
 (cS (cC (cg gG14 gF0) (cSk)
 (cE 0))
 (cS (cB 1 (cS (cO (oM (cg gG13 gF0) (cs sG15 sF0) (
  oM (cg gG15 gF0) (cs sG6 sF0) (
  eO))))
 (cO (oM (cg gG5 gF0) (cs sG0 sF1) (
  oM (cg gG6 gF0) (cs sG1 sF1) (
  o2 (iaLT 1) (cg gG0 gF1) (cg gG1 gF1) (cs sG2 sF1) (
  oD ld1T (cg gG2 gF1) (cs sG3 sF1) (
  oM (cg gG1 gF0) (cs sG4 sF1) (
  o2 (arithK .xor) (cg gG3 gF1) (cg gG4 gF1) (cs sG5 sF1) (
  o2 (iaLT 1) (cg gG0 gF1) (cg gG1 gF1) (cs sG6 sF1) (
  oW2 (storeT 1) (cg gG6 gF1) (cg gG5 gF1) s0 (
  eO))))))))))))
 (cO (o2 (arithK .add) (cg gG13 gF0) (gC (.int .i64 1)) (cs sG7 sF1) (
  oM (cg gG7 gF1) (cs sG13 sF0) (
  eO))))))))))
 (cS (cO (oM (cg gG5 gF0) (cs sG8 sF1) (
  oM (cg gG8 gF1) (cs sG4 sF0) (
  eO))))
 (cR)))))
def fn202 : Fc := fnT [(cs sG0 sF0), (cs sG1 sF0)] (r1 (cg gG4 gF0)) co202
theorem se202 : FnS E 202 fn202 := fnOk (gv := gvT) (tab := asc []) (tabv := tabv3) (yl := ylv) (q := 2) (rf := rf202) (fun _ => rfl) asc_nil htabv3 hylv (by kernel_rfl) (by kernel_rfl) (by kernel_rfl)
def co252 : Cd := cS (cO (oM (gC .nils) (cs sG4 sF0) (
  eO)))
 (cS (cS (cO (oM (cg gG1 gF0) (cs sG5 sF0) (
  o2 (arithK .lss) (cg gG5 gF0) (gC (.int .i64 0)) (cs sG6 sF0) (
  eO))))
 (cC (cg gG6 gF0) (cO (oX))
 (cSk)))
 (cS (cS (cO (oM (cg gG1 gF0) (cs sG8 sF0) (
  oM (cg gG0 gF0) (cs sG9 sF0) (
  o1 capLT (cg gG9 gF0) (cs sG10 sF0) (
  oM (cg gG0 gF0) (cs sG11 sF0) (
  o1 lenLT (cg gG11 gF0) (cs sG12 sF0) (
  o2 (arithK .sub) (cg gG10 gF0) (cg gG12 gF0) (cs sG13 sF0) (
  o2 (arithK .sub) (cg gG8 gF0) (cg gG13 gF0) (cs sG14 sF0) (
  oM (cg gG14 gF0) (cs sG1 sF0) (
  eO))))))))))
 (cS (cO (oM (cg gG1 gF0) (cs sG15 sF0) (
  o2 (arithK .gtr) (cg gG15 gF0) (gC (.int .i64 0)) (cs sG0 sF1) (
  eO))))
 (cC (cg gG0 gF1) (cO (oM (cg gG0 gF0) (cs sG1 sF1) (
  oM (cg gG0 gF0) (cs sG2 sF1) (
  o1 capLT (cg gG2 gF1) (cs sG3 sF1) (
  o3 (slLT false true 1) (cg gG1 gF1) (gC .nili) (cg gG3 gF1) (cs sG4 sF1) (
  oM (cg gG1 gF0) (cs sG5 sF1) (
  oW2 (appZT [(.int .u8 0)] 1 1) (cg gG4 gF1) (cg gG5 gF1) (cs sG6 sF1) (
  oM (cg gG0 gF0) (cs sG7 sF1) (
  o1 lenLT (cg gG7 gF1) (cs sG8 sF1) (
  o3 (slLT false true 1) (cg gG6 gF1) (gC .nili) (cg gG8 gF1) (cs sG9 sF1) (
  oM (cg gG9 gF1) (cs sG0 sF0) (
  eO))))))))))))
 (cSk))))
 (cS (cO (oM (cg gG0 gF0) (cs sG10 sF1) (
  oM (cg gG10 gF1) (cs sG4 sF0) (
  eO))))
 (cR))))
def fn252 : Fc := fnT [(cs sG0 sF0), (cs sG1 sF0)] (r1 (cg gG4 gF0)) co252
theorem se252 : FnS E 252 fn252 := fnOk (gv := gvT) (tab := asc []) (tabv := tabv3) (yl := ylv) (q := 2) (rf := rf252) (fun _ => rfl) asc_nil htabv3 hylv (by kernel_rfl) (by kernel_rfl) (by kernel_rfl)
def co201 : Cd := cS (cO (oM (gC .nils) (cs sG2 sF0) (
  eO)))
 (cS (cO (oM (gC (.int .i64 0)) (cs sG3 sF0) (
  eO)))
 (cS (cS (cO (oM (cg gG0 gF0) (cs sG9 sF0) (
  o1 lenLT (cg gG9 gF0) (cs sG10 sF0) (
  oM (gC (.int .i64 0)) (cs sG11 sF0) (
  eO)))))
 (cB 0 (cL (cS (cO (o2 (arithK .lss) (cg gG11 gF0) (cg gG10 gF0) (cs sG12 sF0) (
  eO)))
 (cS (cC (cg gG12 gF0) (cSk)
 (cE 0))
 (cS (cB 1 (cS (cO (o2 (iaLT 1) (cg gG9 gF0) (cg gG11 gF0) (cs sG13 sF0) (
  oD ld1T (cg gG13 gF0) (cs sG14 sF0) (
  oM (cg gG14 gF0) (cs sG5 sF0) (
  eO)))))
 (cS (cO (oM (cg gG3 gF0) (cs sG15 sF0) (
  oM (cg gG5 gF0) (cs sG0 sF1) (
  o1 lenLT (cg gG0 gF1) (cs sG1 sF1) (
  o2 (arithK .add) (cg gG15 gF0) (cg gG1 gF1) (cs sG2 sF1) (
  oM (cg gG2 gF1) (cs sG3 sF0) (
  eO)))))))
 (cS (cO (oM (cg gG3 gF0) (cs sG3 sF1) (
  o2 (arithK .lss) (cg gG3 gF1) (gC (.int .i64 0)) (cs sG4 sF1) (
  eO))))
 (cC (cg gG4 gF1) (cO (oX))
 (cSk))))))
 (cO (o2 (arithK .add) (cg gG11 gF0) (gC (.int .i64 1)) (cs sG6 sF1) (
  oM (cg gG6 gF1) (cs sG11 sF0) (
  eO))))))))))
 (cS (cO (oM (cg gG3 gF0) (cs sG7 sF1) (
  oF fn252 [(gC .nils), (cg gG7 gF1)] (cs sG8 sF1) (
  oM (cg gG8 gF1) (cs sG6 sF0) (
  eO)))))
 (cS (cS (cO (oM (cg gG0 gF0) (cs sG9 sF1) (
  o1 lenLT (cg gG9 gF1) (cs sG10 sF1) (
  oM (gC (.int .i64 0)) (cs sG11 sF1) (
  eO)))))
 (cB 2 (cL (cS (cO (o2 (arithK .lss) (cg gG11 gF1) (cg gG10 gF1) (cs sG12 sF1) (
  eO)))
 (cS (cC (cg gG12 gF1) (cSk)
 (cE 2))
 (cS (cB 3 (cS (cO (o2 (iaLT 1) (cg gG9 gF1) (cg gG11 gF1) (cs sG13 sF1) (
  oD ld1T (cg gG13 gF1) (cs sG14 sF1) (
  oM (cg gG14 gF1) (cs sG8 sF0) (
  eO)))))
 (cO (oM (cg gG6 gF0) (cs sG15 sF1) (
  oM (cg gG8 gF0) (cs sG0 sF2) (
  oW2 (appT 1 1) (cg gG15 gF1) (cg gG0 gF2) (cs sG1 sF2) (
  oM (cg gG1 gF2) (cs sG6 sF0) (
  eO))))))))
 (cO (o2 (arithK .add) (cg gG11 gF1) (gC (.int .i64 1)) (cs sG2 sF2) (
  oM (cg gG2 gF2) (cs sG11 sF1) (
  eO))))))))))
 (cS (cO (oM (cg gG6 gF0) (cs sG3 sF2) (
  oM (cg gG3 gF2) (cs sG2 sF0) (
  eO))))
 (cR))))))
def fn201 : Fc := fnT [(cs sG0 sF0)] (r1 (cg gG2 gF0)) co201
theorem se201 : FnS E 201 fn201 := fnOk (gv := gvT) (tab := asc [(252, fn252)]) (tabv := tabv3) (yl := ylv) (q := 1) (rf := rf201) (fun _ => rfl) (asc_cons se252 asc_nil) htabv3 hylv (by kernel_rfl) (by kernel_rfl) (by kernel_rfl)
def co129 : Cd := cS (cO (oM (gC .nils) (cs sG4 sF0) (
  eO)))
 (cS (cS (cO (oM (cg gG0 gF0) (cs sG6 sF0) (
  o1 lenLT (cg gG6 gF0) (cs sG7 sF0) (
  o2 (arithK .gtr) (cg gG7 gF0) (gC (.int .i64 64)) (cs sG8 sF0) (
  eO)))))
 (cC (cg gG8 gF0) (cO (oM (cg gG0 gF0) (cs sG9 sF0) (
  oF fn200 [(cg gG9 gF0)] (cs sG10 sF0) (
  oM (cg gG10 gF0) (cs sG0 sF0) (
  eO)))))
 (cSk)))
 (cS (cO (oM (cg gG0 gF0) (cs sG11 sF0) (
  oF fn202 [(cg gG11 gF0), (gC (.int .u8 54))] (cs sG12 sF0) (
  oM (cg gG1 gF0) (cs sG13 sF0) (
  oN (mklT [.nils, .nils] 2 1 [(0, 1), (1, 1)]) [(cg gG12 gF0), (cg gG13 gF0)] (cs sG14 sF0) (
  oF fn201 [(cg gG14 gF0)] (cs sG15 sF0) (
  oF fn200 [(cg gG15 gF0)] (cs sG0 sF1) (
  oM (cg gG0 gF1) (cs sG5 sF0) (
  eO)))))))))
 (cS (cO (oM (cg gG0 gF0) (cs sG1 sF1) (
  oF fn202 [(cg gG1 gF1), (gC (.int .u8 92))] (cs sG2 sF1) (
  oM (cg gG5 gF0) (cs sG3 sF1) (
  oN (mklT [.nils, .nils] 2 1 [(0, 1), (1, 1)]) [(cg gG2 gF1), (cg gG3 gF1)] (cs sG4 sF1) (
  oF fn201 [(cg gG4 gF1)] (cs sG5 sF1) (
  oF fn200 [(cg gG5 gF1)] (cs sG6 sF1) (
  oM (cg gG6 gF1) (cs sG4 sF0) (
  eO)))))))))
 (cR))))
def fn129 : Fc := fnT [(cs sG0 sF0), (cs sG1 sF0)] (r1 (cg gG4 gF0)) co129
theorem se129 : FnS E 129 fn129 := fnOk (gv := gvT) (tab := asc [(200, fn200), (202, fn202), (201, fn201)]) (tabv := tabv3) (yl := ylv) (q := 2) (rf := rf129) (fun _ => rfl) (asc_cons se200 (asc_cons se202 (asc_cons se201 asc_nil))) htabv3 hylv (by kernel_rfl) (by kernel_rfl) (by kernel_rfl)
def co51 : Cd := cS (cO (oW1 (boxT 4) (cg gG2 gF0) (cs sG5 sF0) (
  oM (gC .nils) (cs sG6 sF0) (
  eO))))
 (cS (cO (oF fn124 [] (cs sG13 sF0) (
  oF fn124 [] (cs sG14 sF0) (
  oN (buildT [.nilp] [(0, 1)]) [(cg gG14 gF0)] (cs sG15 sF0) (
  oW0 (allocT [.nilp]) (cs sG8 sF0) (
  oM (cg gG13 gF0) (cs sG7 sF0) (
  oW2 (storeT 1) (cg gG8 gF0) (cg gG15 gF0) s0 (
  eO))))))))
 (cS (cO (oM (cg gG7 gF0) (cs sG0 sF1) (
  oM (cg gG0 gF0) (cs sG1 sF1) (
  oF fn125 [(cg gG0 gF1), (cg gG1 gF1)] (cs sG2 sF1) (
  eO)))))
 (cS (cO (o1 (fadT 0) (cg gG8 gF0) (cs sG3 sF1) (
  oD ld1T (cg gG3 gF1) (cs sG4 sF1) (
  oM (cg gG1 gF0) (cs sG5 sF1) (
  oF fn125 [(cg gG4 gF1), (cg gG5 gF1)] (cs sG6 sF1) (
  eO))))))
 (cS (cO (oD (ldT 1 true) (cg gG8 gF0) (cs sG7 sF1) (
  oD (ldT 4 true) (cg gG5 gF0) (cs sG8 sF1) (
  oF fn126 [(cg gG7 gF1), (cg gG8 gF1)] (cs sG9 sF1) (
  eO)))))
 (cS (cO (oM (cg gG7 gF0) (cs sG11 sF1) (
  oF fn127 [(cg gG11 gF1)] (cs sG12 sF1) (
  oM (cg gG12 gF1) (cs sG10 sF1) (
  o1 (extT 0) (cg gG10 gF1) (cs sG13 sF1) (
  o1 (extT 1) (cg gG10 gF1) (cs sG14 sF1) (
  oM (cg gG13 gF1) (cs sG9 sF0) (
  oM (cg gG14 gF1) (cs sG10 sF0) (
  eO)))))))))
 (cS (cO (o1 (fadT 0) (cg gG8 gF0) (cs sG0 sF2) (
  oD ld1T (cg gG0 gF2) (cs sG1 sF2) (
  oF fn127 [(cg gG1 gF2)] (cs sG2 sF2) (
  oM (cg gG2 gF2) (cs sG15 sF1) (
  o1 (extT 0) (cg gG15 gF1) (cs sG3 sF2) (
  o1 (extT 1) (cg gG15 gF1) (cs sG4 sF2) (
  oM (cg gG3 gF2) (cs sG11 sF0) (
  oM (cg gG4 gF2) (cs sG12 sF0) (
  eO))))))))))
 (cS (cO (oM (cg gG9 gF0) (cs sG5 sF2) (
  oM (cg gG11 gF0) (cs sG6 sF2) (
  oF fn129 [(cg gG5 gF2), (cg gG6 gF2)] (cs sG7 sF2) (
  o3 (slLT false true 1) (cg gG7 gF2) (gC .nili) (gC (.int .i64 8)) (cs sG8 sF2) (
  oF fn128 [(cg gG8 gF2)] (cs sG9 sF2) (
  oM (cg gG9 gF2) (cs sG6 sF0) (
  eO))))))))
 (cR))))))))
def fn51 : Fc := fnT [(cs sG0 sF0), (cs sG1 sF0), (cs sG2 sF0)] (r1 (cg gG6 gF0)) co51
theorem se51 : FnS E 51 fn51 := fnOk (gv := gvT) (tab := asc [(124, fn124), (125, fn125), (126, fn126), (127, fn127), (129, fn129), (128, fn128)]) (tabv := tabv3) (yl := ylv) (q := 3) (rf := rf51) (fun _ => rfl) (asc_cons se124 (asc_cons se125 (asc_cons se126 (asc_cons se127 (asc_cons se129 (asc_cons se128 asc_nil)))))) htabv3 hylv (by kernel_rfl) (by kernel_rfl) (by kernel_rfl)
def co89 : Cd := cS (cO (oW1 (boxT 16) (cg gG1 gF0) (cs sG8 sF0) (
  oW1 (boxT 8) (cg gG2 gF0) (cs sG9 sF0) (
  oM (gC .nils) (cs sG14 sF0) (
  eO)))))
 (cS (cS (cO (oM (cg gG5 gF0) (cs sG0 sF1) (
  o1 lenLT (cg gG0 gF1) (cs sG1 sF1) (
  oM (gC (.int .i64 0)) (cs sG2 sF1) (
  eO)))))
 (cB 0 (cL (cS (cO (o2 (arithK .lss) (cg gG2 gF1) (cg gG1 gF1) (cs sG3 sF1) (
  eO)))
 (cS (cC (cg gG3 gF1) (cSk)
 (cE 0))
 (cS (cB 1 (cS (cO (oM (cg gG2 gF1) (cs sG4 sF1) (
  oM (cg gG4 gF1) (cs sG15 sF0) (
  eO))))
 (cD [] [iP (oM (cg gG5 gF0) (cs sG5 sF1) (eO)),
  iP (oM (cg gG15 gF0) (cs sG6 sF1) (eO)),
  iP (oM (cg gG0 gF0) (cs sG7 sF1) (eO)),
  iP (o1 nchkT (cg gG7 gF1) (cs sG8 sF1) (eO)),
  iP (o1 (fadT 5) (cg gG8 gF1) (cs sG9 sF1) (eO)),
  iP (oD ld1T (cg gG9 gF1) (cs sG10 sF1) (eO)),
  iP (oM (cg gG4 gF0) (cs sG11 sF1) (eO)),
  iP (oM (cg gG5 gF0) (cs sG12 sF1) (eO)),
  iP (oM (cg gG15 gF0) (cs sG13 sF1) (eO)),
  iP (o2 (iaLT 4) (cg gG12 gF1) (cg gG13 gF1) (cs sG14 sF1) (eO)),
  iP (oD (ldT 4 true) (cg gG14 gF1) (cs sG15 sF1) (eO)),
  iW (oF fn51 [(cg gG10 gF1), (cg gG11 gF1), (cg gG15 gF1)] (cs sG0 sF2) (eO)),
  iP (o2 (iaLT 4) (cg gG5 gF1) (cg gG6 gF1) (cs sG1 sF2) (eO)),
  iP (o1 (fadT 3) (cg gG1 gF2) (cs sG2 sF2) (eO)),
  iW (oW2 (storeT 1) (cg gG2 gF2) (cg gG0 gF2) s0 (eO))])))
 (cO (o2 (arithK .add) (cg gG2 gF1) (gC (.int .i64 1)) (cs sG3 sF2) (
  oM (cg gG3 gF2) (cs sG2 sF1) (
  eO))))))))))
 (cS (cO (o1 (fadT 3) (cg gG8 gF0) (cs sG4 sF2) (
  oD ld1T (cg gG4 gF2) (cs sG5 sF2) (
  oM (cg gG3 gF0) (cs sG6 sF2) (
  oM (cg gG4 gF0) (cs sG7 sF2) (
  oM (cg gG5 gF0) (cs sG8 sF2) (
  oN (buildT [(.int .i64 0), (.int .i64 0), (.int .i64 0), .nils] [(0, 1), (1, 1), (2, 1), (3, 1)]) [(cg gG5 gF2), (cg gG6 gF2), (cg gG7 gF2), (cg gG8 gF2)] (cs sG9 sF2) (
  o1 (fadT 4) (cg gG9 gF0) (cs sG10 sF2) (
  oW2 (storeT 4) (cg gG10 gF2) (cg gG9 gF2) s0 (
  eO))))))))))
 (cS (cS (cO (oM (cg gG0 gF0) (cs sG11 sF2) (
  oD (ldT 8 true) (cg gG9 gF0) (cs sG12 sF2) (
  oF fn100 [(cg gG11 gF2), (cg gG12 gF2)] (cs sG13 sF2) (
  eO)))))
 (cB 2 (cS (cO (o2 (arithK .eql) (cg gG13 gF2) (gC (.int .i64 0)) (cs sG15 sF2) (
  oM (cg gG15 gF2) (cs sG14 sF2) (
  eO))))
 (cC (cg gG14 gF2) (cS (cO (oM (cg gG0 gF0) (cs sG0 sF3) (
  oD (ldT 16 true) (cg gG8 gF0) (cs sG1 sF3) (
  oM (cg gG6 gF0) (cs sG2 sF3) (
  oF fn87 [(cg gG0 gF3), (cg gG1 gF3), (cg gG2 gF3)] (cs sG3 sF3) (
  oN (mklT [(.int .i64 0), (.int .i64 0), (.int .i64 0), (.int .i64 0), (.int .i64 0), (.int .i64 0), (.int .i64 0), .nils, (.str []), (.int .i64 0), (.int .i64 0), (.int .i64 0), .nils, .nils, (.int .i64 0), .nils] 1 16 [(0, 16)]) [(cg gG3 gF3)] (cs sG4 sF3) (
  oM (cg gG4 gF3) (cs sG14 sF0) (
  eO))))))))
 (cR))
 (cS (cO (o2 (arithK .eql) (cg gG13 gF2) (gC (.int .i64 7)) (cs sG6 sF3) (
  oM (cg gG6 gF3) (cs sG5 sF3) (
  eO))))
 (cC (cg gG5 gF3) (cS (cO (oM (cg gG0 gF0) (cs sG7 sF3) (
  oD (ldT 16 true) (cg gG8 gF0) (cs sG8 sF3) (
  oF fX [(cg gG7 gF3), (cg gG8 gF3), (gC (.int .i64 7))] (cs sG9 sF3) (
  oM (cg gG9 gF3) (cs sG14 sF0) (
  eO))))))
 (cR))
 (cSk)))))))
 (cS (cO (oM (gC .nils) (cs sG14 sF0) (
  eO)))
 (cR)))))
def fn89 : Fc := fnT [(cs sG0 sF0), (cs sG1 sF0), (cs sG2 sF0), (cs sG3 sF0), (cs sG4 sF0), (cs sG5 sF0), (cs sG6 sF0)] (r1 (cg gG14 gF0)) co89
theorem se89 : FnS E 89 fn89 := fnOk (gv := gvT) (tab := asc [(51, fn51), (100, fn100), (87, fn87)]) (tabv := tabv3) (yl := ylv) (q := 7) (rf := rf89) (fun _ => rfl) (asc_cons se51 (asc_cons se100 (asc_cons se87 asc_nil))) htabv3 hylv (by kernel_rfl) (by kernel_rfl) (by kernel_rfl)
def co38 : Cd := cS (cO (oW1 (boxT 16) (cg gG1 gF0) (cs sG3 sF0) (
  oM (gC .nils) (cs sG4 sF0) (
  eO))))
 (cS (cO (oM (cg gG0 gF0) (cs sG9 sF0) (
  oD (ldT 16 true) (cg gG3 gF0) (cs sG10 sF0) (
  oF fn85 [(cg gG9 gF0), (cg gG10 gF0)] (cs sG11 sF0) (
  oM (cg gG11 gF0) (cs sG8 sF0) (
  o1 (extT 0) (cg gG8 gF0) (cs sG12 sF0) (
  o1 (extT 1) (cg gG8 gF0) (cs sG13 sF0) (
  oW0 (allocT [(.int .i64 0), (.int .i64 0), (.int .i64 0), .nils, (.int .i64 0), (.int .i64 0), (.int .i64 0), .nils]) (cs sG5 sF0) (
  oW2 (storeT 8) (cg gG5 gF0) (cg gG12 gF0) s0 (
  oM (cg gG13 gF0) (cs sG6 sF0) (
  eO)))))))))))
 (cS (cS (cD [] [iP (oM (cg gG6 gF0) (cs sG14 sF0) (eO)),
  iP (o1 (unT .not) (cg gG14 gF0) (cs sG15 sF0) (eO)),
  iP (oM (cg gG15 gF0) (cs sG0 sF1) (eO)),
  iP (oG (cg gG0 gF1) false (cs sG1 sF1) (o1 (fadT 3) (cg gG3 gF0) (cs sG1 sF1) (eO)) (eO)),
  iP (oG (cg gG0 gF1) false (cs sG2 sF1) (oD ld1T (cg gG1 gF1) (cs sG2 sF1) (eO)) (eO)),
  iP (oG (cg gG0 gF1) false (cs sG3 sF1) (o2 (arithK .lss) (cg gG2 gF1) (gC (.int .i64 1)) (cs sG3 sF1) (eO)) (eO)),
  iP (o3 pickT (cg gG0 gF1) (gC (.bool true)) (cg gG3 gF1) (cs sG4 sF1) (eO)),
  iP (oM (cg gG4 gF1) (cs sG5 sF1) (eO)),
  iP (oG (cg gG5 gF1) false (cs sG6 sF1) (o1 (fadT 6) (cg gG3 gF0) (cs sG6 sF1) (eO)) (eO)),
  iP (oG (cg gG5 gF1) false (cs sG7 sF1) (oD ld1T (cg gG6 gF1) (cs sG7 sF1) (eO)) (eO)),
  iP (oG (cg gG5 gF1) false (cs sG8 sF1) (o1 (fadT 0) (cg gG5 gF0) (cs sG8 sF1) (eO)) (eO)),
  iP (oG (cg gG5 gF1) false (cs sG9 sF1) (oD ld1T (cg gG8 gF1) (cs sG9 sF1) (eO)) (eO)),
  iP (oG (cg gG5 gF1) false (cs sG10 sF1) (o2 (arithK .neq) (cg gG7 gF1) (cg gG9 gF1) (cs sG10 sF1) (eO)) (eO)),
  iP (o3 pickT (cg gG5 gF1) (gC (.bool true)) (cg gG10 gF1) (cs sG11 sF1) (eO)),
  iP (oM (cg gG11 gF1) (cs sG12 sF1) (eO)),
  iP (oG (cg gG12 gF1) false (cs sG13 sF1) (o1 (fadT 9) (cg gG3 gF0) (cs sG13 sF1) (eO)) (eO)),
  iP (oG (cg gG12 gF1) false (cs sG14 sF1) (oD ld1T (cg gG13 gF1) (cs sG14 sF1) (eO)) (eO)),
  iW (oG (cg gG12 gF1) false (cs sG15 sF1) (oF fn86 [(cg gG14 gF1)] (cs sG15 sF1) (eO)) (eO)),
  iP (oG (cg gG12 gF1) false (cs sG0 sF2) (o1 (unT .not) (cg gG15 gF1) (cs sG0 sF2) (eO)) (eO)),
  iP (o3 pickT (cg gG12 gF1) (gC (.bool true)) (cg gG0 gF2) (cs sG1 sF2) (eO)),
  iP (oM (cg gG1 gF2) (cs sG2 sF2) (eO)),
  iP (oG (cg gG2 gF2) false (cs sG3 sF2) (o1 (fadT 15) (cg gG3 gF0) (cs sG3 sF2) (eO)) (eO)),
  iG (cg gG2 gF2) false (cs sG4 sF2) (iR 1 2 (rd1 ld1T (cg gG3 gF2)) (cs sG4 sF2)),
  iP (oG (cg gG2 gF2) false (cs sG5 sF2) (o1 lenLT (cg gG4 gF2) (cs sG5 sF2) (eO)) (eO)),
  iP (oG (cg gG2 gF2) false (cs sG6 sF2) (o1 (fadT 9) (cg gG3 gF0) (cs sG6 sF2) (eO)) (eO)),
  iP (oG (cg gG2 gF2) false (cs sG7 sF2) (oD ld1T (cg gG6 gF2) (cs sG7 sF2) (eO)) (eO)),
  iP (oG (cg gG2 gF2) false (cs sG8 sF2) (oM (cg gG0 gF0) (cs sG8 sF2) (eO)) (eO)),
  iP (oG (cg gG2 gF2) false (cs sG9 sF2) (o1 nchkT (cg gG8 gF2) (cs sG9 sF2) (eO)) (eO)),
  iP (oG (cg gG2 gF2) false (cs sG10 sF2) (o1 (fadT 0) (cg gG9 gF2) (cs sG10 sF2) (eO)) (eO)),
  iP (oG (cg gG2 gF2) false (cs sG11 sF2) (o1 (fadT 2) (cg gG10 gF2) (cs sG11 sF2) (eO)) (eO)),
  iP (oG (cg gG2 gF2) false (cs sG12 sF2) (oD ld1T (cg gG11 gF2) (cs sG12 sF2) (eO)) (eO)),
  iW (oG (cg gG2 gF2) false (cs sG13 sF2) (oF fn72 [(cg gG7 gF2), (cg gG12 gF2)] (cs sG13 sF2) (eO)) (eO)),
  iP (oG (cg gG2 gF2) false (cs sG14 sF2) (o2 (arithK .neq) (cg gG5 gF2) (cg gG13 gF2) (cs sG14 sF2) (eO)) (eO)),
  iP (o3 pickT (cg gG2 gF2) (gC (.bool true)) (cg gG14 gF2) (cs sG15 sF2) (eO)),
  iP (oM (cg gG15 gF2) (cs sG0 sF3) (eO)),
  iP (oG (cg gG0 gF3) false (cs sG1 sF3) (o1 (fadT 4) (cg gG5 gF0) (cs sG1 sF3) (eO)) (eO)),
  iP (oG (cg gG0 gF3) false (cs sG2 sF3) (o1 (fadT 0) (cg gG1 gF3) (cs sG2 sF3) (eO)) (eO)),
  iP (oG (cg gG0 gF3) false (cs sG3 sF3) (oD ld1T (cg gG2 gF3) (cs sG3 sF3) (eO)) (eO)),
  iP (oG (cg gG0 gF3) false (cs sG4 sF3) (o1 (fadT 3) (cg gG3 gF0) (cs sG4 sF3) (eO)) (eO)),
  iP (oG (cg gG0 gF3) false (cs sG5 sF3) (oD ld1T (cg gG4 gF3) (cs sG5 sF3) (eO)) (eO)),
  iP (oG (cg gG0 gF3) false (cs sG6 sF3) (o2 (arithK .gtr) (cg gG3 gF3) (cg gG5 gF3) (cs sG6 sF3) (eO)) (eO)),
  iP (o3 pickT (cg gG0 gF3) (gC (.bool true)) (cg gG6 gF3) (cs sG7 sF3) (eO))])
 (cC (cg gG7 gF3) (cS (cO (oM (gC .nils) (cs sG4 sF0) (
  eO)))
 (cR))
 (cSk)))
 (cS (cS (cO (o1 (fadT 4) (cg gG5 gF0) (cs sG8 sF3) (
  o1 (fadT 0) (cg gG8 gF3) (cs sG9 sF3) (
  oD ld1T (cg gG9 gF3) (cs sG10 sF3) (
  o1 (fadT 3) (cg gG3 gF0) (cs sG11 sF3) (
  oD ld1T (cg gG11 gF3) (cs sG12 sF3) (
  o2 (arithK .eql) (cg gG10 gF3) (cg gG12 gF3) (cs sG13 sF3) (
  eO))))))))
 (cC (cg gG13 gF3) (cS (cO (oM (cg gG0 gF0) (cs sG14 sF3) (
  oD (ldT 16 true) (cg gG3 gF0) (cs sG15 sF3) (
  oF fn87 [(cg gG14 gF3), (cg gG15 gF3), (gC (.int .i64 2))] (cs sG0 sF4) (
  oN (mklT [(.int .i64 0), (.int .i64 0), (.int .i64 0), (.int .i64 0), (.int .i64 0), (.int .i64 0), (.int .i64 0), .nils, (.str []), (.int .i64 0), (.int .i64 0), (.int .i64 0), .nils, .nils, (.int .i64 0), .nils] 1 16 [(0, 16)]) [(cg gG0 gF4)] (cs sG1 sF4) (
  oM (cg gG1 gF4) (cs sG4 sF0) (
  eO)))))))
 (cR))
 (cSk)))
 (cS (cD [[(.str []), (.int .i64 0), .nils, .nils]] [iP (o1 (fadT 8) (cg gG3 gF0) (cs sG2 sF4) (eO)),
  iR 0 1 (rd1 ld1T (cg gG2 gF4)) (cs sG3 sF4),
  iP (o1 (fadT 9) (cg gG3 gF0) (cs sG4 sF4) (eO)),
  iR 0 1 (rd1 ld1T (cg gG4 gF4)) (cs sG5 sF4),
  iP (o1 (fadT 15) (cg gG3 gF0) (cs sG6 sF4) (eO)),
  iP (oD ld1T (cg gG6 gF4) (cs sG7 sF4) (eO)),
  iW (oF fn88 [(cg gG7 gF4)] (cs sG8 sF4) (eO)),
  iP (oN (buildT [(.str []), (.int .i64 0), .nils, .nils] [(0, 1), (1, 1), (2, 1)]) [(cg gG3 gF4), (cg gG5 gF4), (cg gG8 gF4)] (cs sG9 sF4) (eO)),
  iA 0 0 1 [(.str []), (.int .i64 0), .nils, .nils] (cs sG7 sF0),
  iW (oW2 (storeT 4) (cg gG7 gF0) (cg gG9 gF4) s0 (eO))])
 (cS (cO (oM (cg gG0 gF0) (cs sG10 sF4) (
  oD (ldT 16 true) (cg gG3 gF0) (cs sG11 sF4) (
  oD (ldT 8 true) (cg gG5 gF0) (cs sG12 sF4) (
  o1 (fadT 6) (cg gG3 gF0) (cs sG13 sF4) (
  oD ld1T (cg gG13 gF4) (cs sG14 sF4) (
  oD (ldT 4 true) (cg gG7 gF0) (cs sG15 sF4) (
  oWN (mkrT [(.str []), (.int .i64 0), .nils, .nils] 1 4 [(0, 4)]) [(cg gG15 gF4)] (cs sG0 sF5) (
  oF fn89 [(cg gG10 gF4), (cg gG11 gF4), (cg gG12 gF4), (gC (.int .i64 1)), (cg gG14 gF4), (cg gG0 gF5), (gC (.int .i64 2))] (cs sG1 sF5) (
  oM (cg gG1 gF5) (cs sG4 sF0) (
  eO)))))))))))
 (cR))))))
def fn38 : Fc := fnT [(cs sG0 sF0), (cs sG1 sF0)] (r1 (cg gG4 gF0)) co38
theorem se38 : FnS E 38 fn38 := fnOk (gv := gvT) (tab := asc [(85, fn85), (86, fn86), (72, fn72), (87, fn87), (88, fn88), (89, fn89)]) (tabv := tabv3) (yl := ylv) (q := 2) (rf := rf38) (fun _ => rfl) (asc_cons se85 (asc_cons se86 (asc_cons se72 (asc_cons se87 (asc_cons se88 (asc_cons se89 asc_nil)))))) htabv3 hylv (by kernel_rfl) (by kernel_rfl) (by kernel_rfl)
def co93 : Cd := cS (cO (oW1 (boxT 8) (cg gG0 gF0) (cs sG1 sF0) (
  oM (gC .nils) (cs sG2 sF0) (
  eO))))
 (cS (cO (oM (gC .nils) (cs sG3 sF0) (
  eO)))
 (cS (cS (cO (o1 (fadT 3) (cg gG1 gF0) (cs sG6 sF0) (
  oD ld1T (cg gG6 gF0) (cs sG7 sF0) (
  o1 lenLT (cg gG7 gF0) (cs sG8 sF0) (
  oM (gC (.int .i64 0)) (cs sG9 sF0) (
  eO))))))
 (cB 0 (cL (cS (cO (o2 (arithK .lss) (cg gG9 gF0) (cg gG8 gF0) (cs sG10 sF0) (
  eO)))
 (cS (cC (cg gG10 gF0) (cSk)
 (cE 0))
 (cS (cB 1 (cS (cO (o2 (iaLT 4) (cg gG7 gF0) (cg gG9 gF0) (cs sG11 sF0) (
  oD (ldT 4 true) (cg gG11 gF0) (cs sG12 sF0) (
  oW0 (allocT [(.str []), (.int .i64 0), .nils, .nils]) (cs sG5 sF0) (
  oW2 (storeT 4) (cg gG5 gF0) (cg gG12 gF0) s0 (
  eO))))))
 (cO (oM (cg gG3 gF0) (cs sG13 sF0) (
  o1 (fadT 0) (cg gG5 gF0) (cs sG14 sF0) (
  oD ld1T (cg gG14 gF0) (cs sG15 sF0) (
  o1 (fadT 1) (cg gG5 gF0) (cs sG0 sF1) (
  oD ld1T (cg gG0 gF1) (cs sG1 sF1) (
  oN (buildT [(.str []), (.int .i64 0)] [(0, 1), (1, 1)]) [(cg gG15 gF0), (cg gG1 gF1)] (cs sG2 sF1) (
  oN (mklT [(.str []), (.int .i64 0)] 1 2 [(0, 2)]) [(cg gG2 gF1)] (cs sG3 sF1) (
  oW2 (appT 2 24) (cg gG13 gF0) (cg gG3 gF1) (cs sG4 sF1) (
  oM (cg gG4 gF1) (cs sG3 sF0) (
  eO)))))))))))))
 (cO (o2 (arithK .add) (cg gG9 gF0) (gC (.int .i64 1)) (cs sG5 sF1) (
  oM (cg gG5 gF1) (cs sG9 sF0) (
  eO))))))))))
 (cS (cO (oM (cg gG3 gF0) (cs sG6 sF1) (
  oM (cg gG6 gF1) (cs sG2 sF0) (
  eO))))
 (cR))))
def fn93 : Fc := fnT [(cs sG0 sF0)] (r1 (cg gG2 gF0)) co93
theorem se93 : FnS E 93 fn93 := fnOk (gv := gvT) (tab := asc []) (tabv := tabv3) (yl := ylv) (q := 1) (rf := rf93) (fun _ => rfl) asc_nil htabv3 hylv (by kernel_rfl) (by kernel_rfl) (by kernel_rfl)
def co92 : Cd := cS (cO (oM (gC (.bool false)) (cs sG4 sF0) (
  eO)))
 (cS (cS (cO (oM (cg gG0 gF0) (cs sG6 sF0) (
  o1 lenLT (cg gG6 gF0) (cs sG7 sF0) (
  oM (cg gG1 gF0) (cs sG8 sF0) (
  o1 lenLT (cg gG8 gF0) (cs sG9 sF0) (
  o2 (arithK .neq) (cg gG7 gF0) (cg gG9 gF0) (cs sG10 sF0) (
  eO)))))))
 (cC (cg gG10 gF0) (cS (cO (oM (gC (.bool false)) (cs sG4 sF0) (
  eO)))
 (cR))
 (cSk)))
 (cS (cS (cO (oM (cg gG0 gF0) (cs sG11 sF0) (
  o1 lenLT (cg gG11 gF0) (cs sG12 sF0) (
  oM (gC (.int .i64 0)) (cs sG13 sF0) (
  eO)))))
 (cB 0 (cL (cS (cO (o2 (arithK .lss) (cg gG13 gF0) (cg gG12 gF0) (cs sG14 sF0) (
  eO)))
 (cS (cC (cg gG14 gF0) (cSk)
 (cE 0))
 (cS (cB 1 (cS (cO (oM (cg gG13 gF0) (cs sG15 sF0) (
  oM (cg gG15 gF0) (cs sG5 sF0) (
  eO))))
 (cS (cD [] [iP (oM (cg gG0 gF0) (cs sG0 sF1) (eO)),
  iP (oM (cg gG5 gF0) (cs sG1 sF1) (eO)),
  iP (o2 (iaLT 2) (cg gG0 gF1) (cg gG1 gF1) (cs sG2 sF1) (eO)),
  iP (oD (ldT 2 true) (cg gG2 gF1) (cs sG3 sF1) (eO)),
  iP (oM (cg gG1 gF0) (cs sG4 sF1) (eO)),
  iP (oM (cg gG5 gF0) (cs sG5 sF1) (eO)),
  iP (o2 (iaLT 2) (cg gG4 gF1) (cg gG5 gF1) (cs sG6 sF1) (eO)),
  iP (oD (ldT 2 true) (cg gG6 gF1) (cs sG7 sF1) (eO)),
  iP (o2 (eqT true (.agg [1, 0])) (cg gG3 gF1) (cg gG7 gF1) (cs sG8 sF1) (eO))])
 (cC (cg gG8 gF1) (cS (cO (oM (gC (.bool false)) (cs sG4 sF0) (
  eO)))
 (cR))
 (cSk)))))
 (cO (o2 (arithK .add) (cg gG13 gF0) (gC (.int .i64 1)) (cs sG9 sF1) (
  oM (cg gG9 gF1) (cs sG13 sF0) (
  eO))))))))))
 (cS (cO (oM (gC (.bool true)) (cs sG4 sF0) (
  eO)))
 (cR))))
def fn92 : Fc := fnT [(cs sG0 sF0), (cs sG1 sF0)] (r1 (cg gG4 gF0)) co92
theorem se92 : FnS E 92 fn92 := fnOk (gv := gvT) (tab := asc []) (tabv := tabv3) (yl := ylv) (q := 2) (rf := rf92) (fun _ => rfl) asc_nil htabv3 hylv (by kernel_rfl) (by kernel_rfl) (by kernel_rfl)
def co40 : Cd := cS (cO (oW1 (boxT 16) (cg gG1 gF0) (cs sG3 sF0) (
  oM (gC .nils) (cs sG4 sF0) (
  eO))))
 (cS (cO (oM (cg gG0 gF0) (cs sG8 sF0) (
  oD (ldT 16 true) (cg gG3 gF0) (cs sG9 sF0) (
  oF fn85 [(cg gG8 gF0), (cg gG9 gF0)] (cs sG10 sF0) (
  oM (cg gG10 gF0) (cs sG7 sF0) (
  o1 (extT 0) (cg gG7 gF0) (cs sG11 sF0) (
  o1 (extT 1) (cg gG7 gF0) (cs sG12 sF0) (
  oW0 (allocT [(.int .i64 0), (.int .i64 0), (.int .i64 0), .nils, (.int .i64 0), (.int .i64 0), (.int .i64 0), .nils]) (cs sG5 sF0) (
  oW2 (storeT 8) (cg gG5 gF0) (cg gG11 gF0) s0 (
  oM (cg gG12 gF0) (cs sG6 sF0) (
  eO)))))))))))
 (cS (cS (cD [] [iP (oM (cg gG6 gF0) (cs sG13 sF0) (eO)),
  iP (o1 (unT .not) (cg gG13 gF0) (cs sG14 sF0) (eO)),
  iP (oM (cg gG14 gF0) (cs sG15 sF0) (eO)),
  iP (oG (cg gG15 gF0) false (cs sG0 sF1) (o1 (fadT 6) (cg gG3 gF0) (cs sG0 sF1) (eO)) (eO)),
  iP (oG (cg gG15 gF0) false (cs sG1 sF1) (oD ld1T (cg gG0 gF1) (cs sG1 sF1) (eO)) (eO)),
  iP (oG (cg gG15 gF0) false (cs sG2 sF1) (o1 (fadT 0) (cg gG5 gF0) (cs sG2 sF1) (eO)) (eO)),
  iP (oG (cg gG15 gF0) false (cs sG3 sF1) (oD ld1T (cg gG2 gF1) (cs sG3 sF1) (eO)) (eO)),
  iP (oG (cg gG15 gF0) false (cs sG4 sF1) (o2 (arithK .neq) (cg gG1 gF1) (cg gG3 gF1) (cs sG4 sF1) (eO)) (eO)),
  iP (o3 pickT (cg gG15 gF0) (gC (.bool true)) (cg gG4 gF1) (cs sG5 sF1) (eO)),
  iP (oM (cg gG5 gF1) (cs sG6 sF1) (eO)),
  iP (oG (cg gG6 gF1) false (cs sG7 sF1) (o1 (fadT 7) (cg gG3 gF0) (cs sG7 sF1) (eO)) (eO)),
  iG (cg gG6 gF1) false (cs sG8 sF1) (iR 0 1 (rd1 ld1T (cg gG7 gF1)) (cs sG8 sF1)),
  iP (oG (cg gG6 gF1) false (cs sG9 sF1) (oD (ldT 8 true) (cg gG5 gF0) (cs sG9 sF1) (eO)) (eO)),
  iW (oG (cg gG6 gF1) false (cs sG10 sF1) (oF fn93 [(cg gG9 gF1)] (cs sG10 sF1) (eO)) (eO)),
  iW (oG (cg gG6 gF1) false (cs sG11 sF1) (oF fn92 [(cg gG8 gF1), (cg gG10 gF1)] (cs sG11 sF1) (eO)) (eO)),
  iP (oG (cg gG6 gF1) false (cs sG12 sF1) (o1 (unT .not) (cg gG11 gF1) (cs sG12 sF1) (eO)) (eO)),
  iP (o3 pickT (cg gG6 gF1) (gC (.bool true)) (cg gG12 gF1) (cs sG13 sF1) (eO))])
 (cC (cg gG13 gF1) (cS (cO (oM (gC .nils) (cs sG4 sF0) (
  eO)))
 (cR))
 (cSk)))
 (cS (cO (oM (cg gG0 gF0) (cs sG14 sF1) (
  oD (ldT 16 true) (cg gG3 gF0) (cs sG15 sF1) (
  oF fn87 [(cg gG14 gF1), (cg gG15 gF1), (gC (.int .i64 6))] (cs sG0 sF2) (
  oN (mklT [(.int .i64 0), (.int .i64 0), (.int .i64 0), (.int .i64 0), (.int .i64 0), (.int .i64 0), (.int .i64 0), .nils, (.str []), (.int .i64 0), (.int .i64 0), (.int .i64 0), .nils, .nils, (.int .i64 0), .nils] 1 16 [(0, 16)]) [(cg gG0 gF2)] (cs sG1 sF2) (
  oM (cg gG1 gF2) (cs sG4 sF0) (
  eO)))))))
 (cR))))
def fn40 : Fc := fnT [(cs sG0 sF0), (cs sG1 sF0)] (r1 (cg gG4 gF0)) co40
theorem se40 : FnS E 40 fn40 := fnOk (gv := gvT) (tab := asc [(85, fn85), (93, fn93), (92, fn92), (87, fn87)]) (tabv := tabv3) (yl := ylv) (q := 2) (rf := rf40) (fun _ => rfl) (asc_cons se85 (asc_cons se93 (asc_cons se92 (asc_cons se87 asc_nil)))) htabv3 hylv (by kernel_rfl) (by kernel_rfl) (by kernel_rfl)
def co11 : Cd := cS (cO (oW1 (boxT 16) (cg gG1 gF0) (cs sG3 sF0) (
  oM (gC .nils) (cs sG4 sF0) (
  eO))))
 (cS (cS (cD [] [iP (oM (cg gG0 gF0) (cs sG5 sF0) (eO)),
  iP (o2 (eqT false .ptr) (cg gG5 gF0) (gC .nilp) (cs sG6 sF0) (eO)),
  iP (oM (cg gG6 gF0) (cs sG7 sF0) (eO)),
  iP (oG (cg gG7 gF0) false (cs sG8 sF0) (oM (cg gG0 gF0) (cs sG8 sF0) (eO)) (eO)),
  iW (oG (cg gG7 gF0) false (cs sG9 sF0) (oF fn12 [(cg gG8 gF0)] (cs sG9 sF0) (eO)) (eO)),
  iP (o3 pickT (cg gG7 gF0) (gC (.bool true)) (cg gG9 gF0) (cs sG10 sF0) (eO)),
  iP (oM (cg gG10 gF0) (cs sG11 sF0) (eO)),
  iP (oG (cg gG11 gF0) false (cs sG12 sF0) (o1 (fadT 2) (cg gG3 gF0) (cs sG12 sF0) (eO)) (eO)),
  iP (oG (cg gG11 gF0) false (cs sG13 sF0) (oD ld1T (cg gG12 gF0) (cs sG13 sF0) (eO)) (eO)),
  iP (oG (cg gG11 gF0) false (cs sG14 sF0) (oM (cg gG0 gF0) (cs sG14 sF0) (eO)) (eO)),
  iP (oG (cg gG11 gF0) false (cs sG15 sF0) (o1 nchkT (cg gG14 gF0) (cs sG15 sF0) (eO)) (eO)),
  iP (oG (cg gG11 gF0) false (cs sG0 sF1) (o1 (fadT 5) (cg gG15 gF0) (cs sG0 sF1) (eO)) (eO)),
  iP (oG (cg gG11 gF0) false (cs sG1 sF1) (oD ld1T (cg gG0 gF1) (cs sG1 sF1) (eO)) (eO)),
  iP (oG (cg gG11 gF0) false (cs sG2 sF1) (o2 (arithK .neq) (cg gG13 gF0) (cg gG1 gF1) (cs sG2 sF1) (eO)) (eO)),
  iP (o3 pickT (cg gG11 gF0) (gC (.bool true)) (cg gG2 gF1) (cs sG3 sF1) (eO))])
 (cC (cg gG3 gF1) (cS (cO (oM (gC .nils) (cs sG4 sF0) (
  eO)))
 (cR))
 (cSk)))
 (cS (cS (cO (o1 (fadT 0) (cg gG3 gF0) (cs sG4 sF1) (
  oD ld1T (cg gG4 gF1) (cs sG5 sF1) (
  eO))))
 (cB 0 (cS (cO (o2 (arithK .eql) (cg gG5 gF1) (gC (.int .i64 1)) (cs sG7 sF1) (
  oM (cg gG7 gF1) (cs sG6 sF1) (
  eO))))
 (cC (cg gG6 gF1) (cS (cO (oM (cg gG0 gF0) (cs sG8 sF1) (
  oD (ldT 16 true) (cg gG3 gF0) (cs sG9 sF1) (
  oF fn38 [(cg gG8 gF1), (cg gG9 gF1)] (cs sG10 sF1) (
  oM (cg gG10 gF1) (cs sG4 sF0) (
  eO))))))
 (cR))
 (cS (cO (o2 (arithK .eql) (cg gG5 gF1) (gC (.int .i64 3)) (cs sG12 sF1) (
  oM (cg gG12 gF1) (cs sG11 sF1) (
  eO))))
 (cC (cg gG11 gF1) (cS (cO (oM (cg gG0 gF0) (cs sG13 sF1) (
  oD (ldT 16 true) (cg gG3 gF0) (cs sG14 sF1) (
  oF fX [(cg gG13 gF1), (cg gG14 gF1)] (cs sG15 sF1) (
  oM (cg gG15 gF1) (cs sG4 sF0) (
  eO))))))
 (cR))
 (cS (cO (o2 (arithK .eql) (cg gG5 gF1) (gC (.int .i64 5)) (cs sG1 sF2) (
  oM (cg gG1 gF2) (cs sG0 sF2) (
  eO))))
 (cC (cg gG0 gF2) (cS (cO (oM (cg gG0 gF0) (cs sG2 sF2) (
  oD (ldT 16 true) (cg gG3 gF0) (cs sG3 sF2) (
  oF fn40 [(cg gG2 gF2), (cg gG3 gF2)] (cs sG4 sF2) (
  oM (cg gG4 gF2) (cs sG4 sF0) (
  eO))))))
 (cR))
 (cS (cO (o2 (arithK .eql) (cg gG5 gF1) (gC (.int .i64 7)) (cs sG6 sF2) (
  oM (cg gG6 gF2) (cs sG5 sF2) (
  eO))))
 (cC (cg gG5 gF2) (cS (cO (oM (cg gG0 gF0) (cs sG7 sF2) (
  oD (ldT 16 true) (cg gG3 gF0) (cs sG8 sF2) (
  oF fX [(cg gG7 gF2), (cg gG8 gF2)] (cs sG9 sF2) (
  oM (cg gG9 gF2) (cs sG4 sF0) (
  eO))))))
 (cR))
 (cS (cO (o2 (arithK .eql) (cg gG5 gF1) (gC (.int .i64 8)) (cs sG11 sF2) (
  oM (cg gG11 gF2) (cs sG10 sF2) (
  eO))))
 (cC (cg gG10 gF2) (cS (cO (oM (cg gG0 gF0) (cs sG12 sF2) (
  oD (ldT 16 true) (cg gG3 gF0) (cs sG13 sF2) (
  oF fX [(cg gG12 gF2), (cg gG13 gF2)] (cs sG14 sF2) (
  oM (cg gG14 gF2) (cs sG4 sF0) (
  eO))))))
 (cR))
 (cS (cO (o2 (arithK .eql) (cg gG5 gF1) (gC (.int .i64 10)) (cs sG0 sF3) (
  oM (cg gG0 gF3) (cs sG15 sF2) (
  eO))))
 (cC (cg gG15 gF2) (cS (cO (oM (cg gG0 gF0) (cs sG1 sF3) (
  oD (ldT 16 true) (cg gG3 gF0) (cs sG2 sF3) (
  oF fX [(cg gG1 gF3), (cg gG2 gF3)] (cs sG3 sF3) (
  oM (cg gG3 gF3) (cs sG4 sF0) (
  eO))))))
 (cR))
 (cSk)))))))))))))))
 (cS (cO (oM (gC .nils) (cs sG4 sF0) (
  eO)))
 (cR))))
def fn11 : Fc := fnT [(cs sG0 sF0), (cs sG1 sF0)] (r1 (cg gG4 gF0)) co11
theorem se11 : FnS E 11 fn11 := fnOk (gv := gvT) (tab := asc [(12, fn12), (38, fn38), (40, fn40)]) (tabv := tabv3) (yl := ylv) (q := 2) (rf := rf11) (fun _ => rfl) (asc_cons se12 (asc_cons se38 (asc_cons se40 asc_nil))) htabv3 hylv (by kernel_rfl) (by kernel_rfl) (by kernel_rfl)
def co16 : Cd := cS (cO (oM (gC .nils) (cs sG2 sF0) (
  eO)))
 (cS (cO (oM (gC .nils) (cs sG3 sF0) (
  eO)))
 (cS (cO (oM (cg gG0 gF0) (cs sG7 sF0) (
  oF fn14 [(cg gG7 gF0)] (cs sG8 sF0) (
  oW0 (allocT [(.int .i64 0), (.int .i64 0), (.int .i64 0), .nils, (.int .i64 0), (.int .i64 0), (.int .i64 0), .nils]) (cs sG4 sF0) (
  oW2 (storeT 8) (cg gG4 gF0) (cg gG8 gF0) s0 (
  eO))))))
 (cS (cS (cO (o1 (fadT 3) (cg gG4 gF0) (cs sG9 sF0) (
  oD ld1T (cg gG9 gF0) (cs sG10 sF0) (
  o1 lenLT (cg gG10 gF0) (cs sG11 sF0) (
  oM (gC (.int .i64 0)) (cs sG12 sF0) (
  eO))))))
 (cB 0 (cL (cS (cO (o2 (arithK .lss) (cg gG12 gF0) (cg gG11 gF0) (cs sG13 sF0) (
  eO)))
 (cS (cC (cg gG13 gF0) (cSk)
 (cE 0))
 (cS (cB 1 (cS (cO (o2 (iaLT 4) (cg gG10 gF0) (cg gG12 gF0) (cs sG14 sF0) (
  oD (ldT 4 true) (cg gG14 gF0) (cs sG15 sF0) (
  oW0 (allocT [(.str []), (.int .i64 0), .nils, .nils]) (cs sG6 sF0) (
  oW2 (storeT 4) (cg gG6 gF0) (cg gG15 gF0) s0 (
  eO))))))
 (cS (cD [] [iP (o1 (fadT 3) (cg gG6 gF0) (cs sG0 sF1) (eO)),
  iR 0 1 (rd1 ld1T (cg gG0 gF1)) (cs sG1 sF1),
  iP (oM (cg gG0 gF0) (cs sG2 sF1) (eO)),
  iP (o1 nchkT (cg gG2 gF1) (cs sG3 sF1) (eO)),
  iP (o1 (fadT 5) (cg gG3 gF1) (cs sG4 sF1) (eO)),
  iP (oD ld1T (cg gG4 gF1) (cs sG5 sF1) (eO)),
  iP (o1 (fadT 0) (cg gG4 gF0) (cs sG6 sF1) (eO)),
  iP (oD ld1T (cg gG6 gF1) (cs sG7 sF1) (eO)),
  iP (oD (ldT 4 true) (cg gG6 gF0) (cs sG8 sF1) (eO)),
  iW (oF fn51 [(cg gG5 gF1), (cg gG7 gF1), (cg gG8 gF1)] (cs sG9 sF1) (eO)),
  iW (oF fn50 [(cg gG1 gF1), (cg gG9 gF1)] (cs sG10 sF1) (eO)),
  iP (o1 (unT .not) (cg gG10 gF1) (cs sG11 sF1) (eO))])
 (cC (cg gG11 gF1) (cO (oM (cg gG3 gF0) (cs sG12 sF1) (
  o1 (fadT 0) (cg gG6 gF0) (cs sG13 sF1) (
  oD ld1T (cg gG13 gF1) (cs sG14 sF1) (
  oN (mklT [(.str [])] 1 1 [(0, 1)]) [(cg gG14 gF1)] (cs sG15 sF1) (
  oW2 (appT 1 16) (cg gG12 gF1) (cg gG15 gF1) (cs sG0 sF2) (
  oM (cg gG0 gF2) (cs sG3 sF0) (
  eO))))))))
 (cSk)))))
 (cO (o2 (arithK .add) (cg gG12 gF0) (gC (.int .i64 1)) (cs sG1 sF2) (
  oM (cg gG1 gF2) (cs sG12 sF0) (
  eO))))))))))
 (cS (cO (oM (cg gG3 gF0) (cs sG2 sF2) (
  oM (cg gG2 gF2) (cs sG2 sF0) (
  eO))))
 (cR)))))
def fn16 : Fc := fnT [(cs sG0 sF0)] (r1 (cg gG2 gF0)) co16
theorem se16 : FnS E 16 fn16 := fnOk (gv := gvT) (tab := asc [(14, fn14), (51, fn51), (50, fn50)]) (tabv := tabv3) (yl := ylv) (q := 1) (rf := rf16) (fun _ => rfl) (asc_cons se14 (asc_cons se51 (asc_cons se50 asc_nil))) htabv3 hylv (by kernel_rfl) (by kernel_rfl) (by kernel_rfl)
def co10 : Cd := cS (cO (oM (gC (.bool false)) (cs sG0 sF0) (
  eO)))
 (cS (cO (oN (buildT [(.int .i64 0), (.int .i64 0), (.int .i64 0), (.int .i64 0), (.int .i64 0)] [(0, 1), (1, 1), (2, 1), (4, 1)]) [(gC (.int .i64 3)), (gC (.int .i64 1)), (gC (.int .i64 1)), (gC (.int .i64 50))] (cs sG5 sF0) (
  oF fn37 [(cg gG5 gF0), (gC (.int .i64 1))] (cs sG6 sF0) (
  oM (cg gG6 gF0) (cs sG1 sF0) (
  eO)))))
 (cS (cO (oM (cg gG1 gF0) (cs sG7 sF0) (
  oN (mklT [(.int .u8 0)] 1 1 [(0, 1)]) [(gC (.int .u8 7))] (cs sG8 sF0) (
  oN (buildT [(.int .i64 0), (.int .i64 0), (.int .i64 0), (.int .i64 0), (.int .i64 0), (.int .i64 0), (.int .i64 0), .nils, (.str []), (.int .i64 0), (.int .i64 0), (.int .i64 0), .nils, .nils, (.int .i64 0), .nils] [(0, 1), (2, 1), (3, 1), (8, 1), (9, 1), (15, 1)]) [(gC (.int .i64 1)), (gC (.int .i64 1)), (gC (.int .i64 4)), (gC (.str [97])), (gC (.int .i64 1)), (cg gG8 gF0)] (cs sG9 sF0) (
  oF fn11 [(cg gG7 gF0), (cg gG9 gF0)] (cs sG10 sF0) (
  oM (cg gG10 gF0) (cs sG2 sF0) (
  eO)))))))
 (cS (cO (oM (cg gG1 gF0) (cs sG11 sF0) (
  oN (buildT [(.str []), (.int .i64 0)] [(0, 1), (1, 1)]) [(gC (.str [97])), (gC (.int .i64 1))] (cs sG12 sF0) (
  oN (mklT [(.str []), (.int .i64 0)] 1 2 [(0, 2)]) [(cg gG12 gF0)] (cs sG13 sF0) (
  oN (buildT [(.int .i64 0), (.int .i64 0), (.int .i64 0), (.int .i64 0), (.int .i64 0), (.int .i64 0), (.int .i64 0), .nils, (.str []), (.int .i64 0), (.int .i64 0), (.int .i64 0), .nils, .nils, (.int .i64 0), .nils] [(0, 1), (2, 1), (3, 1), (4, 1), (5, 1), (7, 1)]) [(gC (.int .i64 5)), (gC (.int .i64 1)), (gC (.int .i64 5)), (gC (.int .i64 4)), (gC (.int .i64 4)), (cg gG13 gF0)] (cs sG14 sF0) (
  oF fn11 [(cg gG11 gF0), (cg gG14 gF0)] (cs sG15 sF0) (
  oM (cg gG15 gF0) (cs sG3 sF0) (
  eO))))))))
 (cS (cO (oM (cg gG1 gF0) (cs sG0 sF1) (
  oF fn14 [(cg gG0 gF1)] (cs sG1 sF1) (
  oW0 (allocT [(.int .i64 0), (.int .i64 0), (.int .i64 0), .nils, (.int .i64 0), (.int .i64 0), (.int .i64 0), .nils]) (cs sG4 sF0) (
  oW2 (storeT 8) (cg gG4 gF0) (cg gG1 gF1) s0 (
  eO))))))
 (cS (cO (oM (cg gG2 gF0) (cs sG2 sF1) (
  o1 lenLT (cg gG2 gF1) (cs sG3 sF1) (
  o2 (arithK .eql) (cg gG3 gF1) (gC (.int .i64 1)) (cs sG4 sF1) (
  oM (cg gG4 gF1) (cs sG5 sF1) (
  oG (cg gG5 gF1) true (cs sG6 sF1) (oM (cg gG2 gF0) (cs sG6 sF1) (eO)) (
  oG (cg gG5 gF1) true (cs sG7 sF1) (o2 (iaLT 16) (cg gG6 gF1) (gC (.int .i64 0)) (cs sG7 sF1) (eO)) (
  oG (cg gG5 gF1) true (cs sG8 sF1) (o1 (fadT 0) (cg gG7 gF1) (cs sG8 sF1) (eO)) (
  oG (cg gG5 gF1) true (cs sG9 sF1) (oD ld1T (cg gG8 gF1) (cs sG9 sF1) (eO)) (
  oG (cg gG5 gF1) true (cs sG10 sF1) (o2 (arithK .eql) (cg gG9 gF1) (gC (.int .i64 2)) (cs sG10 sF1) (eO)) (
  o3 pickT (cg gG5 gF1) (cg gG10 gF1) (gC (.bool false)) (cs sG11 sF1) (
  oM (cg gG11 gF1) (cs sG12 sF1) (
  oG (cg gG12 gF1) true (cs sG13 sF1) (oM (cg gG3 gF0) (cs sG13 sF1) (eO)) (
  oG (cg gG12 gF1) true (cs sG14 sF1) (o1 lenLT (cg gG13 gF1) (cs sG14 sF1) (eO)) (
  oG (cg gG12 gF1) true (cs sG15 sF1) (o2 (arithK .eql) (cg gG14 gF1) (gC (.int .i64 1)) (cs sG15 sF1) (eO)) (
  o3 pickT (cg gG12 gF1) (cg gG15 gF1) (gC (.bool false)) (cs sG0 sF2) (
  oM (cg gG0 gF2) (cs sG1 sF2) (
  oG (cg gG1 gF2) true (cs sG2 sF2) (oM (cg gG3 gF0) (cs sG2 sF2) (eO)) (
  oG (cg gG1 gF2) true (cs sG3 sF2) (o2 (iaLT 16) (cg gG2 gF2) (gC (.int .i64 0)) (cs sG3 sF2) (eO)) (
  oG (cg gG1 gF2) true (cs sG4 sF2) (o1 (fadT 0) (cg gG3 gF2) (cs sG4 sF2) (eO)) (
  oG (cg gG1 gF2) true (cs sG5 sF2) (oD ld1T (cg gG4 gF2) (cs sG5 sF2) (eO)) (
  oG (cg gG1 gF2) true (cs sG6 sF2) (o2 (arithK .eql) (cg gG5 gF2) (gC (.int .i64 6)) (cs sG6 sF2) (eO)) (
  o3 pickT (cg gG1 gF2) (cg gG6 gF2) (gC (.bool false)) (cs sG7 sF2) (
  oM (cg gG7 gF2) (cs sG8 sF2) (
  oG (cg gG8 gF2) true (cs sG9 sF2) (o1 (fadT 3) (cg gG4 gF0) (cs sG9 sF2) (eO)) (
  oG (cg gG8 gF2) true (cs sG10 sF2) (oD ld1T (cg gG9 gF2) (cs sG10 sF2) (eO)) (
  oG (cg gG8 gF2) true (cs sG11 sF2) (o1 lenLT (cg gG10 gF2) (cs sG11 sF2) (eO)) (
  oG (cg gG8 gF2) true (cs sG12 sF2) (o2 (arithK .eql) (cg gG11 gF2) (gC (.int .i64 1)) (cs sG12 sF2) (eO)) (
  o3 pickT (cg gG8 gF2) (cg gG12 gF2) (gC (.bool false)) (cs sG13 sF2) (
  oM (cg gG13 gF2) (cs sG14 sF2) (
  oG (cg gG14 gF2) true (cs sG15 sF2) (o1 (fadT 3) (cg gG4 gF0) (cs sG15 sF2) (eO)) (
  oG (cg gG14 gF2) true (cs sG0 sF3) (oD ld1T (cg gG15 gF2) (cs sG0 sF3) (eO)) (
  oG (cg gG14 gF2) true (cs sG1 sF3) (o2 (iaLT 4) (cg gG0 gF3) (gC (.int .i64 0)) (cs sG1 sF3) (eO)) (
  oG (cg gG14 gF2) true (cs sG2 sF3) (o1 (fadT 2) (cg gG1 gF3) (cs sG2 sF3) (eO)) (
  oG (cg gG14 gF2) true (cs sG3 sF3) (oD ld1T (cg gG2 gF3) (cs sG3 sF3) (eO)) (
  oG (cg gG14 gF2) true (cs sG4 sF3) (oD b2sT (cg gG3 gF3) (cs sG4 sF3) (eO)) (
  oG (cg gG14 gF2) true (cs sG5 sF3) (o2 (arithK .eql) (cg gG4 gF3) (gC (.str [7])) (cs sG5 sF3) (eO)) (
  o3 pickT (cg gG14 gF2) (cg gG5 gF3) (gC (.bool false)) (cs sG6 sF3) (
  oM (cg gG6 gF3) (cs sG7 sF3) (
  oG (cg gG7 gF3) true (cs sG8 sF3) (oM (cg gG1 gF0) (cs sG8 sF3) (eO)) (
  oG (cg gG7 gF3) true (cs sG9 sF3) (oF fn16 [(cg gG8 gF3)] (cs sG9 sF3) (eO)) (
  oG (cg gG7 gF3) true (cs sG10 sF3) (o1 lenLT (cg gG9 gF3) (cs sG10 sF3) (eO)) (
  oG (cg gG7 gF3) true (cs sG11 sF3) (o2 (arithK .eql) (cg gG10 gF3) (gC (.int .i64 0)) (cs sG11 sF3) (eO)) (
  o3 pickT (cg gG7 gF3) (cg gG11 gF3) (gC (.bool false)) (cs sG12 sF3) (
  oM (cg gG12 gF3) (cs sG0 sF0) (
  eO))))))))))))))))))))))))))))))))))))))))))))))
 (cR))))))
def fn10 : Fc := fnT [] (r1 (cg gG0 gF0)) co10
theorem se10 : FnS E 10 fn10 := fnOk (gv := gvT) (tab := asc [(37, fn37), (11, fn11), (14, fn14), (16, fn16)]) (tabv := tabv3) (yl := ylv) (q := 0) (rf := rf10) (fun _ => rfl) (asc_cons se37 (asc_cons se11 (asc_cons se14 (asc_cons se16 asc_nil)))) htabv3 hylv (by kernel_rfl) (by kernel_rfl) (by kernel_rfl)
def co192 : Cd := cS (cO (oM (gC .nils) (cs sG2 sF0) (
  oM (gC (.bool false)) (cs sG3 sF0) (
  eO))))
 (cS (cS (cO (oM (cg gG0 gF0) (cs sG5 sF0) (
  o2 (arithK .lss) (cg gG5 gF0) (gC (.int .i64 (-2))) (cs sG6 sF0) (
  oM (cg gG6 gF0) (cs sG7 sF0) (
  oG (cg gG7 gF0) false (cs sG8 sF0) (oM (cg gG0 gF0) (cs sG8 sF0) (eO)) (
  oG (cg gG7 gF0) false (cs sG9 sF0) (o2 (arithK .gtr) (cg gG8 gF0) (gC (.int .i64 2147483645)) (cs sG9 sF0) (eO)) (
  o3 pickT (cg gG7 gF0) (gC (.bool true)) (cg gG9 gF0) (cs sG10 sF0) (
  eO))))))))
 (cC (cg gG10 gF0) (cS (cO (oM (gC .nils) (cs sG2 sF0) (
  oM (gC (.bool false)) (cs sG3 sF0) (
  eO))))
 (cR))
 (cSk)))
 (cS (cO (oM (cg gG0 gF0) (cs sG11 sF0) (
  o2 (arithK .add) (cg gG11 gF0) (gC (.int .i64 2)) (cs sG12 sF0) (
  oM (cg gG12 gF0) (cs sG4 sF0) (
  eO)))))
 (cS (cO (oM (cg gG4 gF0) (cs sG13 sF0) (
  o2 (arithK .quo) (cg gG13 gF0) (gC (.int .i64 16777216)) (cs sG14 sF0) (
  o1 (toIntT .u8) (cg gG14 gF0) (cs sG15 sF0) (
  oM (cg gG4 gF0) (cs sG0 sF1) (
  o2 (arithK .quo) (cg gG0 gF1) (gC (.int .i64 65536)) (cs sG1 sF1) (
  o2 (arithK .rem) (cg gG1 gF1) (gC (.int .i64 256)) (cs sG2 sF1) (
  o1 (toIntT .u8) (cg gG2 gF1) (cs sG3 sF1) (
  oM (cg gG4 gF0) (cs sG4 sF1) (
  o2 (arithK .quo) (cg gG4 gF1) (gC (.int .i64 256)) (cs sG5 sF1) (
  o2 (arithK .rem) (cg gG5 gF1) (gC (.int .i64 256)) (cs sG6 sF1) (
  o1 (toIntT .u8) (cg gG6 gF1) (cs sG7 sF1) (
  oM (cg gG4 gF0) (cs sG8 sF1) (
  o2 (arithK .rem) (cg gG8 gF1) (gC (.int .i64 256)) (cs sG9 sF1) (
  o1 (toIntT .u8) (cg gG9 gF1) (cs sG10 sF1) (
  oN (mklT [(.int .u8 0), (.int .u8 0), (.int .u8 0), (.int .u8 0)] 4 1 [(0, 1), (1, 1), (2, 1), (3, 1)]) [(cg gG15 gF0), (cg gG3 gF1), (cg gG7 gF1), (cg gG10 gF1)] (cs sG11 sF1) (
  oM (cg gG11 gF1) (cs sG2 sF0) (
  oM (gC (.bool true)) (cs sG3 sF0) (
  eO)))))))))))))))))))
 (cR))))
def fn192 : Fc := fnT [(cs sG0 sF0)] (rN [rT (cg gG2 gF0), rT (cg gG3 gF0)]) co192
theorem se192 : FnS E 192 fn192 := fnOk (gv := gvT) (tab := asc []) (tabv := tabv3) (yl := ylv) (q := 1) (rf := rf192) (fun _ => rfl) asc_nil htabv3 hylv (by kernel_rfl) (by kernel_rfl) (by kernel_rfl)
def co113 : Cd := cS (cO (oM (gC (.int .i64 0)) (cs sG4 sF0) (
  eO)))
 (cB 0 (cL (cS (cS (cO (oM (cg gG4 gF0) (cs sG7 sF0) (
  oM (cg gG1 gF0) (cs sG8 sF0) (
  o1 lenLT (cg gG8 gF0) (cs sG9 sF0) (
  o2 (arithK .lss) (cg gG7 gF0) (cg gG9 gF0) (cs sG10 sF0) (
  eO))))))
 (cC (cg gG10 gF0) (cSk)
 (cE 0)))
 (cS (cB 1 (cS (cO (oM (cg gG1 gF0) (cs sG14 sF0) (
  oM (cg gG4 gF0) (cs sG15 sF0) (
  o2 (iaLT 1) (cg gG14 gF0) (cg gG15 gF0) (cs sG0 sF1) (
  oD ld1T (cg gG0 gF1) (cs sG1 sF1) (
  oF fn192 [(cg gG1 gF1)] (cs sG2 sF1) (
  oM (cg gG2 gF1) (cs sG13 sF0) (
  o1 (extT 0) (cg gG13 gF0) (cs sG3 sF1) (
  o1 (extT 1) (cg gG13 gF0) (cs sG4 sF1) (
  oM (cg gG3 gF1) (cs sG5 sF0) (
  oM (cg gG4 gF1) (cs sG6 sF0) (
  eO))))))))))))
 (cD [] [iP (oM (cg gG0 gF0) (cs sG5 sF1) (eO)),
  iP (oM (cg gG0 gF0) (cs sG6 sF1) (eO)),
  iP (oM (cg gG0 gF0) (cs sG7 sF1) (eO)),
  iP (o1 nchkT (cg gG7 gF1) (cs sG8 sF1) (eO)),
  iP (o1 (fadT 0) (cg gG8 gF1) (cs sG9 sF1) (eO)),
  iP (oD ld1T (cg gG9 gF1) (cs sG10 sF1) (eO)),
  iP (oM (cg gG5 gF0) (cs sG11 sF1) (eO)),
  iW (oW2 (appT 1 1) (cg gG10 gF1) (cg gG11 gF1) (cs sG12 sF1) (eO)),
  iP (oM (cg gG0 gF0) (cs sG13 sF1) (eO)),
  iP (o1 nchkT (cg gG13 gF1) (cs sG14 sF1) (eO)),
  iP (o1 (fadT 1) (cg gG14 gF1) (cs sG15 sF1) (eO)),
  iR 0 1 (rd1 ld1T (cg gG15 gF1)) (cs sG0 sF2),
  iP (oM (cg gG0 gF2) (cs sG1 sF2) (eO)),
  iP (oG (cg gG1 gF2) false (cs sG2 sF2) (oM (cg gG6 gF0) (cs sG2 sF2) (eO)) (eO)),
  iP (oG (cg gG1 gF2) false (cs sG3 sF2) (o1 (unT .not) (cg gG2 gF2) (cs sG3 sF2) (eO)) (eO)),
  iP (o3 pickT (cg gG1 gF2) (gC (.bool true)) (cg gG3 gF2) (cs sG4 sF2) (eO)),
  iP (o1 nchkT (cg gG5 gF1) (cs sG5 sF2) (eO)),
  iP (o1 (fadT 0) (cg gG5 gF2) (cs sG6 sF2) (eO)),
  iW (oW2 (storeT 1) (cg gG6 gF2) (cg gG12 gF1) s0 (eO)),
  iP (o1 nchkT (cg gG6 gF1) (cs sG7 sF2) (eO)),
  iP (o1 (fadT 1) (cg gG7 gF2) (cs sG8 sF2) (eO)),
  iW (oW2 (storeT 1) (cg gG8 gF2) (cg gG4 gF2) s0 (eO))])))
 (cO (oM (cg gG4 gF0) (cs sG11 sF0) (
  o2 (arithK .add) (cg gG11 gF0) (gC (.int .i64 1)) (cs sG12 sF0) (
  oM (cg gG12 gF0) (cs sG4 sF0) (
  eO)))))))))
def fn113 : Fc := fnT [(cs sG0 sF0), (cs sG1 sF0)] (rN []) co113
theorem se113 : FnS E 113 fn113 := fnOk (gv := gvT) (tab := asc [(192, fn192)]) (tabv := tabv3) (yl := ylv) (q := 2) (rf := rf113) (fun _ => rfl) (asc_cons se192 asc_nil) htabv3 hylv (by kernel_rfl) (by kernel_rfl) (by kernel_rfl)
def co114 : Cd := cS (cO (oM (cg gG0 gF0) (cs sG5 sF0) (
  oM (cg gG1 gF0) (cs sG6 sF0) (
  o1 lenLT (cg gG6 gF0) (cs sG7 sF0) (
  oN (mklT [(.int .i64 0)] 1 1 [(0, 1)]) [(cg gG7 gF0)] (cs sG8 sF0) (
  oF fn113 [(cg gG5 gF0), (cg gG8 gF0)] (cs sG9 sF0) (
  eO)))))))
 (cS (cO (oM (gC (.int .i64 0)) (cs sG4 sF0) (
  eO)))
 (cB 0 (cL (cS (cS (cO (oM (cg gG4 gF0) (cs sG10 sF0) (
  oM (cg gG1 gF0) (cs sG11 sF0) (
  o1 lenLT (cg gG11 gF0) (cs sG12 sF0) (
  o2 (arithK .lss) (cg gG10 gF0) (cg gG12 gF0) (cs sG13 sF0) (
  eO))))))
 (cC (cg gG13 gF0) (cSk)
 (cE 0)))
 (cS (cB 1 (cS (cO (oM (cg gG0 gF0) (cs sG0 sF1) (
  oM (cg gG1 gF0) (cs sG1 sF1) (
  oM (cg gG4 gF0) (cs sG2 sF1) (
  o2 (iaLT 4) (cg gG1 gF1) (cg gG2 gF1) (cs sG3 sF1) (
  o1 (fadT 0) (cg gG3 gF1) (cs sG4 sF1) (
  oD ld1T (cg gG4 gF1) (cs sG5 sF1) (
  o1 s2bT (cg gG5 gF1) (cs sG6 sF1) (
  oF fX [(cg gG0 gF1), (cg gG6 gF1)] (cs sG7 sF1) (
  eO))))))))))
 (cS (cO (oM (cg gG0 gF0) (cs sG8 sF1) (
  oM (cg gG1 gF0) (cs sG9 sF1) (
  oM (cg gG4 gF0) (cs sG10 sF1) (
  o2 (iaLT 4) (cg gG9 gF1) (cg gG10 gF1) (cs sG11 sF1) (
  o1 (fadT 1) (cg gG11 gF1) (cs sG12 sF1) (
  oD ld1T (cg gG12 gF1) (cs sG13 sF1) (
  oN (mklT [(.int .i64 0)] 1 1 [(0, 1)]) [(cg gG13 gF1)] (cs sG14 sF1) (
  oF fn113 [(cg gG8 gF1), (cg gG14 gF1)] (cs sG15 sF1) (
  eO))))))))))
 (cS (cO (oM (cg gG0 gF0) (cs sG0 sF2) (
  oM (cg gG1 gF0) (cs sG1 sF2) (
  oM (cg gG4 gF0) (cs sG2 sF2) (
  o2 (iaLT 4) (cg gG1 gF2) (cg gG2 gF2) (cs sG3 sF2) (
  o1 (fadT 2) (cg gG3 gF2) (cs sG4 sF2) (
  oD ld1T (cg gG4 gF2) (cs sG5 sF2) (
  oF fX [(cg gG0 gF2), (cg gG5 gF2)] (cs sG6 sF2) (
  eO)))))))))
 (cO (oM (cg gG0 gF0) (cs sG7 sF2) (
  oM (cg gG1 gF0) (cs sG8 sF2) (
  oM (cg gG4 gF0) (cs sG9 sF2) (
  o2 (iaLT 4) (cg gG8 gF2) (cg gG9 gF2) (cs sG10 sF2) (
  o1 (fadT 3) (cg gG10 gF2) (cs sG11 sF2) (
  oD ld1T (cg gG11 gF2) (cs sG12 sF2) (
  oF fX [(cg gG7 gF2), (cg gG12 gF2)] (cs sG13 sF2) (
  eO)))))))))))))
 (cO (oM (cg gG4 gF0) (cs sG14 sF0) (
  o2 (arithK .add) (cg gG14 gF0) (gC (.int .i64 1)) (cs sG15 sF0) (
  oM (cg gG15 gF0) (cs sG4 sF0) (
  eO))))))))))
def fn114 : Fc := fnT [(cs sG0 sF0), (cs sG1 sF0)] (rN []) co114
theorem se114 : FnS E 114 fn114 := fnOk (gv := gvT) (tab := asc [(113, fn113)]) (tabv := tabv3) (yl := ylv) (q := 2) (rf := rf114) (fun _ => rfl) (asc_cons se113 asc_nil) htabv3 hylv (by kernel_rfl) (by kernel_rfl) (by kernel_rfl)
def co45 : Cd := cS (cO (oW1 (boxT 8) (cg gG0 gF0) (cs sG1 sF0) (
  oM (gC .nils) (cs sG2 sF0) (
  oM (gC (.bool false)) (cs sG3 sF0) (
  eO)))))
 (cS (cO (oN (buildT [.nils, (.bool false)] []) [] (cs sG5 sF0) (
  oW1 (boxT 2) (cg gG5 gF0) (cs sG6 sF0) (
  oM (cg gG6 gF0) (cs sG4 sF0) (
  eO)))))
 (cS (cO (oM (cg gG4 gF0) (cs sG7 sF0) (
  o1 (fadT 0) (cg gG1 gF0) (cs sG8 sF0) (
  oD ld1T (cg gG8 gF0) (cs sG9 sF0) (
  o1 (fadT 1) (cg gG1 gF0) (cs sG10 sF0) (
  oD ld1T (cg gG10 gF0) (cs sG11 sF0) (
  o1 (fadT 2) (cg gG1 gF0) (cs sG12 sF0) (
  oD ld1T (cg gG12 gF0) (cs sG13 sF0) (
  oN (mklT [(.int .i64 0), (.int .i64 0), (.int .i64 0)] 3 1 [(0, 1), (1, 1), (2, 1)]) [(cg gG9 gF0), (cg gG11 gF0), (cg gG13 gF0)] (cs sG14 sF0) (
  oF fn113 [(cg gG7 gF0), (cg gG14 gF0)] (cs sG15 sF0) (
  eO)))))))))))
 (cS (cO (oM (cg gG4 gF0) (cs sG0 sF1) (
  o1 (fadT 3) (cg gG1 gF0) (cs sG1 sF1) (
  oD ld1T (cg gG1 gF1) (cs sG2 sF1) (
  oF fn114 [(cg gG0 gF1), (cg gG2 gF1)] (cs sG3 sF1) (
  eO))))))
 (cS (cO (oM (cg gG4 gF0) (cs sG4 sF1) (
  o1 (fadT 4) (cg gG1 gF0) (cs sG5 sF1) (
  o1 (fadT 0) (cg gG5 gF1) (cs sG6 sF1) (
  oD ld1T (cg gG6 gF1) (cs sG7 sF1) (
  o1 (fadT 4) (cg gG1 gF0) (cs sG8 sF1) (
  o1 (fadT 1) (cg gG8 gF1) (cs sG9 sF1) (
  oD ld1T (cg gG9 gF1) (cs sG10 sF1) (
  o1 (fadT 4) (cg gG1 gF0) (cs sG11 sF1) (
  o1 (fadT 2) (cg gG11 gF1) (cs sG12 sF1) (
  oD ld1T (cg gG12 gF1) (cs sG13 sF1) (
  oN (mklT [(.int .i64 0), (.int .i64 0), (.int .i64 0)] 3 1 [(0, 1), (1, 1), (2, 1)]) [(cg gG7 gF1), (cg gG10 gF1), (cg gG13 gF1)] (cs sG14 sF1) (
  oF fn113 [(cg gG4 gF1), (cg gG14 gF1)] (cs sG15 sF1) (
  eO))))))))))))))
 (cS (cO (oM (cg gG4 gF0) (cs sG0 sF2) (
  o1 (fadT 4) (cg gG1 gF0) (cs sG1 sF2) (
  o1 (fadT 3) (cg gG1 gF2) (cs sG2 sF2) (
  oD ld1T (cg gG2 gF2) (cs sG3 sF2) (
  oF fn114 [(cg gG0 gF2), (cg gG3 gF2)] (cs sG4 sF2) (
  eO)))))))
 (cS (cD [] [iP (oM (cg gG4 gF0) (cs sG5 sF2) (eO)),
  iP (o1 nchkT (cg gG5 gF2) (cs sG6 sF2) (eO)),
  iP (o1 (fadT 0) (cg gG6 gF2) (cs sG7 sF2) (eO)),
  iP (oD ld1T (cg gG7 gF2) (cs sG8 sF2) (eO)),
  iP (oM (cg gG4 gF0) (cs sG9 sF2) (eO)),
  iP (o1 nchkT (cg gG9 gF2) (cs sG10 sF2) (eO)),
  iP (o1 (fadT 1) (cg gG10 gF2) (cs sG11 sF2) (eO)),
  iP (oD ld1T (cg gG11 gF2) (cs sG12 sF2) (eO)),
  iP (o1 (unT .not) (cg gG12 gF2) (cs sG13 sF2) (eO)),
  iP (oM (cg gG8 gF2) (cs sG2 sF0) (eO)),
  iP (oM (cg gG13 gF2) (cs sG3 sF0) (eO))])
 (cR)))))))
def fn45 : Fc := fnT [(cs sG0 sF0)] (rN [rT (cg gG2 gF0), rT (cg gG3 gF0)]) co45
theorem se45 : FnS E 45 fn45 := fnOk (gv := gvT) (tab := asc [(113, fn113), (114, fn114)]) (tabv := tabv3) (yl := ylv) (q := 1) (rf := rf45) (fun _ => rfl) (asc_cons se113 (asc_cons se114 asc_nil)) htabv3 hylv (by kernel_rfl) (by kernel_rfl) (by kernel_rfl)
def co13 : Cd := cS (cO (oW1 (boxT 8) (cg gG0 gF0) (cs sG2 sF0) (
  oW1 (boxT 8) (cg gG1 gF0) (cs sG3 sF0) (
  oM (gC (.bool false)) (cs sG4 sF0) (
  eO)))))
 (cS (cO (oD (ldT 8 true) (cg gG2 gF0) (cs sG10 sF0) (
  oF fn45 [(cg gG10 gF0)] (cs sG11 sF0) (
  oM (cg gG11 gF0) (cs sG9 sF0) (
  o1 (extT 0) (cg gG9 gF0) (cs sG12 sF0) (
  o1 (extT 1) (cg gG9 gF0) (cs sG13 sF0) (
  oM (cg gG12 gF0) (cs sG5 sF0) (
  oM (cg gG13 gF0) (cs sG6 sF0) (
  eO)))))))))
 (cS (cO (oD (ldT 8 true) (cg gG3 gF0) (cs sG15 sF0) (
  oF fn45 [(cg gG15 gF0)] (cs sG0 sF1) (
  oM (cg gG0 gF1) (cs sG14 sF0) (
  o1 (extT 0) (cg gG14 gF0) (cs sG1 sF1) (
  o1 (extT 1) (cg gG14 gF0) (cs sG2 sF1) (
  oM (cg gG1 gF1) (cs sG7 sF0) (
  oM (cg gG2 gF1) (cs sG8 sF0) (
  eO)))))))))
 (cS (cO (oM (cg gG5 gF0) (cs sG3 sF1) (
  oD b2sT (cg gG3 gF1) (cs sG4 sF1) (
  oM (cg gG7 gF0) (cs sG5 sF1) (
  oD b2sT (cg gG5 gF1) (cs sG6 sF1) (
  o2 (arithK .eql) (cg gG4 gF1) (cg gG6 gF1) (cs sG7 sF1) (
  oM (cg gG7 gF1) (cs sG4 sF0) (
  eO))))))))
 (cR))))
def fn13 : Fc := fnT [(cs sG0 sF0), (cs sG1 sF0)] (r1 (cg gG4 gF0)) co13
theorem se13 : FnS E 13 fn13 := fnOk (gv := gvT) (tab := asc [(45, fn45)]) (tabv := tabv3) (yl := ylv) (q := 2) (rf := rf13) (fun _ => rfl) (asc_cons se45 asc_nil) htabv3 hylv (by kernel_rfl) (by kernel_rfl) (by kernel_rfl)
def co15 : Cd := cS (cO (oM (gC (.bool false)) (cs sG8 sF0) (
  eO)))
 (cS (cS (cO (oM (cg gG0 gF0) (cs sG11 sF0) (
  o2 (eqT false .ptr) (cg gG11 gF0) (gC .nilp) (cs sG12 sF0) (
  eO))))
 (cC (cg gG12 gF0) (cS (cO (oM (gC (.bool false)) (cs sG8 sF0) (
  eO)))
 (cR))
 (cSk)))
 (cS (cO (oM (cg gG0 gF0) (cs sG14 sF0) (
  oF fn14 [(cg gG14 gF0)] (cs sG15 sF0) (
  oM (cg gG1 gF0) (cs sG0 sF1) (
  oM (cg gG2 gF0) (cs sG1 sF1) (
  oF fX [(cg gG15 gF0), (cg gG0 gF1), (cg gG1 gF1)] (cs sG2 sF1) (
  oM (cg gG2 gF1) (cs sG13 sF0) (
  o1 (extT 0) (cg gG13 gF0) (cs sG3 sF1) (
  o1 (extT 1) (cg gG13 gF0) (cs sG4 sF1) (
  oM (cg gG3 gF1) (cs sG9 sF0) (
  oM (cg gG4 gF1) (cs sG10 sF0) (
  eO))))))))))))
 (cS (cO (oM (cg gG10 gF0) (cs sG5 sF1) (
  oM (cg gG5 gF1) (cs sG6 sF1) (
  oG (cg gG6 gF1) true (cs sG7 sF1) (oM (cg gG0 gF0) (cs sG7 sF1) (eO)) (
  oG (cg gG6 gF1) true (cs sG8 sF1) (o1 nchkT (cg gG7 gF1) (cs sG8 sF1) (eO)) (
  oG (cg gG6 gF1) true (cs sG9 sF1) (o1 (fadT 7) (cg gG8 gF1) (cs sG9 sF1) (eO)) (
  oG (cg gG6 gF1) true (cs sG10 sF1) (oD ld1T (cg gG9 gF1) (cs sG10 sF1) (eO)) (
  oG (cg gG6 gF1) true (cs sG11 sF1) (oM (cg gG9 gF0) (cs sG11 sF1) (eO)) (
  oG (cg gG6 gF1) true (cs sG12 sF1) (oM (cg gG3 gF0) (cs sG12 sF1) (eO)) (
  oG (cg gG6 gF1) true (cs sG13 sF1) (oF fX [(cg gG10 gF1), (cg gG11 gF1), (cg gG12 gF1)] (cs sG13 sF1) (eO)) (
  o3 pickT (cg gG6 gF1) (cg gG13 gF1) (gC (.bool false)) (cs sG14 sF1) (
  oM (cg gG14 gF1) (cs sG8 sF0) (
  eO)))))))))))))
 (cR))))
def fn15 : Fc := fnT [(cs sG0 sF0), (cs sG1 sF0), (cs sG2 sF0), (cs sG3 sF0)] (r1 (cg gG8 gF0)) co15
theorem se15 : FnS E 15 fn15 := fnOk (gv := gvT) (tab := asc [(14, fn14)]) (tabv := tabv3) (yl := ylv) (q := 4) (rf := rf15) (fun _ => rfl) (asc_cons se14 asc_nil) htabv3 hylv (by kernel_rfl) (by kernel_rfl) (by kernel_rfl)
def co17 : Cd := cS (cO (oM (gC .nilp) (cs sG2 sF0) (
  eO)))
 (cS (cS (cO (oM (cg gG0 gF0) (cs sG3 sF0) (
  o2 (eqT false .ptr) (cg gG3 gF0) (gC .nilp) (cs sG4 sF0) (
  eO))))
 (cC (cg gG4 gF0) (cS (cO (oM (gC .nilp) (cs sG2 sF0) (
  eO)))
 (cR))
 (cSk)))
 (cS (cO (oM (cg gG0 gF0) (cs sG5 sF0) (
  o1 nchkT (cg gG5 gF0) (cs sG6 sF0) (
  o1 (fadT 8) (cg gG6 gF0) (cs sG7 sF0) (
  oD ld1T (cg gG7 gF0) (cs sG8 sF0) (
  oM (cg gG8 gF0) (cs sG2 sF0) (
  eO)))))))
 (cR)))
def fn17 : Fc := fnT [(cs sG0 sF0)] (r1 (cg gG2 gF0)) co17
theorem se17 : FnS E 17 fn17 := fnOk (gv := gvT) (tab := asc []) (tabv := tabv3) (yl := ylv) (q := 1) (rf := rf17) (fun _ => rfl) asc_nil htabv3 hylv (by kernel_rfl) (by kernel_rfl) (by kernel_rfl)
def co18 : Cd := cS (cO (oM (gC .nilp) (cs sG2 sF0) (
  eO)))
 (cS (cS (cO (oM (cg gG0 gF0) (cs sG3 sF0) (
  o2 (eqT false .ptr) (cg gG3 gF0) (gC .nilp) (cs sG4 sF0) (
  eO))))
 (cC (cg gG4 gF0) (cS (cO (oM (gC .nilp) (cs sG2 sF0) (
  eO)))
 (cR))
 (cSk)))
 (cS (cO (oM (cg gG0 gF0) (cs sG5 sF0) (
  o1 nchkT (cg gG5 gF0) (cs sG6 sF0) (
  o1 (fadT 7) (cg gG6 gF0) (cs sG7 sF0) (
  oD ld1T (cg gG7 gF0) (cs sG8 sF0) (
  oM (cg gG8 gF0) (cs sG2 sF0) (
  eO)))))))
 (cR)))
def fn18 : Fc := fnT [(cs sG0 sF0)] (r1 (cg gG2 gF0)) co18
theorem se18 : FnS E 18 fn18 := fnOk (gv := gvT) (tab := asc []) (tabv := tabv3) (yl := ylv) (q := 1) (rf := rf18) (fun _ => rfl) asc_nil htabv3 hylv (by kernel_rfl) (by kernel_rfl) (by kernel_rfl)
def co3 : Cd := cS (cO (oW1 (boxT 16) (cg gG0 gF0) (cs sG2 sF0) (
  oM (gC (.bool false)) (cs sG4 sF0) (
  eO))))
 (cS (cO (oM (gC .nilp) (cs sG5 sF0) (
  eO)))
 (cS (cO (oM (cg gG5 gF0) (cs sG6 sF0) (
  oF fn7 [(cg gG6 gF0)] (cs sG7 sF0) (
  eO))))
 (cS (cO (oM (cg gG5 gF0) (cs sG8 sF0) (
  oF fn8 [(cg gG8 gF0)] (cs sG9 sF0) (
  eO))))
 (cS (cO (oM (cg gG5 gF0) (cs sG10 sF0) (
  oM (cg gG1 gF0) (cs sG11 sF0) (
  oF fn9 [(cg gG10 gF0), (cg gG11 gF0)] (cs sG12 sF0) (
  eO)))))
 (cS (cO (oF fn10 [] (cs sG13 sF0) (
  oM (cg gG13 gF0) (cs sG14 sF0) (
  oG (cg gG14 gF0) true (cs sG15 sF0) (oM (cg gG5 gF0) (cs sG15 sF0) (eO)) (
  oG (cg gG14 gF0) true (cs sG0 sF1) (oD (ldT 16 true) (cg gG2 gF0) (cs sG0 sF1) (eO)) (
  oG (cg gG14 gF0) true (cs sG1 sF1) (oF fn11 [(cg gG15 gF0), (cg gG0 gF1)] (cs sG1 sF1) (eO)) (
  oG (cg gG14 gF0) true (cs sG2 sF1) (o1 lenLT (cg gG1 gF1) (cs sG2 sF1) (eO)) (
  oG (cg gG14 gF0) true (cs sG3 sF1) (o2 (arithK .eql) (cg gG2 gF1) (gC (.int .i64 0)) (cs sG3 sF1) (eO)) (
  o3 pickT (cg gG14 gF0) (cg gG3 gF1) (gC (.bool false)) (cs sG4 sF1) (
  oM (cg gG4 gF1) (cs sG5 sF1) (
  oG (cg gG5 gF1) true (cs sG6 sF1) (oM (cg gG5 gF0) (cs sG6 sF1) (eO)) (
  oG (cg gG5 gF1) true (cs sG7 sF1) (oF fn12 [(cg gG6 gF1)] (cs sG7 sF1) (eO)) (
  oG (cg gG5 gF1) true (cs sG8 sF1) (o1 (unT .not) (cg gG7 gF1) (cs sG8 sF1) (eO)) (
  o3 pickT (cg gG5 gF1) (cg gG8 gF1) (gC (.bool false)) (cs sG9 sF1) (
  oM (cg gG9 gF1) (cs sG10 sF1) (
  oG (cg gG10 gF1) true (cs sG11 sF1) (oM (cg gG5 gF0) (cs sG11 sF1) (eO)) (
  oG (cg gG10 gF1) true (cs sG12 sF1) (oF fn14 [(cg gG11 gF1)] (cs sG12 sF1) (eO)) (
  oG (cg gG10 gF1) true (cs sG13 sF1) (oN (buildT [(.int .i64 0), (.int .i64 0), (.int .i64 0), .nils, (.int .i64 0), (.int .i64 0), (.int .i64 0), .nils] []) [] (cs sG13 sF1) (eO)) (
  oG (cg gG10 gF1) true (cs sG14 sF1) (oF fn13 [(cg gG12 gF1), (cg gG13 gF1)] (cs sG14 sF1) (eO)) (
  o3 pickT (cg gG10 gF1) (cg gG14 gF1) (gC (.bool false)) (cs sG15 sF1) (
  oM (cg gG15 gF1) (cs sG0 sF2) (
  oG (cg gG0 gF2) true (cs sG1 sF2) (oM (cg gG5 gF0) (cs sG1 sF2) (eO)) (
  oG (cg gG0 gF2) true (cs sG2 sF2) (o1 (fadT 8) (cg gG2 gF0) (cs sG2 sF2) (eO)) (
  oG (cg gG0 gF2) true (cs sG3 sF2) (oD ld1T (cg gG2 gF2) (cs sG3 sF2) (eO)) (
  oG (cg gG0 gF2) true (cs sG4 sF2) (oM (cg gG1 gF0) (cs sG4 sF2) (eO)) (
  oG (cg gG0 gF2) true (cs sG5 sF2) (oF fn15 [(cg gG1 gF2), (cg gG3 gF2), (cg gG4 gF2), (gC (.int .u8 1))] (cs sG5 sF2) (eO)) (
  oG (cg gG0 gF2) true (cs sG6 sF2) (o1 (unT .not) (cg gG5 gF2) (cs sG6 sF2) (eO)) (
  o3 pickT (cg gG0 gF2) (cg gG6 gF2) (gC (.bool false)) (cs sG7 sF2) (
  oM (cg gG7 gF2) (cs sG8 sF2) (
  oG (cg gG8 gF2) true (cs sG9 sF2) (oM (cg gG5 gF0) (cs sG9 sF2) (eO)) (
  oG (cg gG8 gF2) true (cs sG10 sF2) (oF fn16 [(cg gG9 gF2)] (cs sG10 sF2) (eO)) (
  oG (cg gG8 gF2) true (cs sG11 sF2) (o1 lenLT (cg gG10 gF2) (cs sG11 sF2) (eO)) (
  oG (cg gG8 gF2) true (cs sG12 sF2) (o2 (arithK .eql) (cg gG11 gF2) (gC (.int .i64 0)) (cs sG12 sF2) (eO)) (
  o3 pickT (cg gG8 gF2) (cg gG12 gF2) (gC (.bool false)) (cs sG13 sF2) (
  oM (cg gG13 gF2) (cs sG14 sF2) (
  oG (cg gG14 gF2) true (cs sG15 sF2) (oM (cg gG5 gF0) (cs sG15 sF2) (eO)) (
  oG (cg gG14 gF2) true (cs sG0 sF3) (oF fn17 [(cg gG15 gF2)] (cs sG0 sF3) (eO)) (
  oG (cg gG14 gF2) true (cs sG1 sF3) (o2 (eqT false .ptr) (cg gG0 gF3) (gC .nilp) (cs sG1 sF3) (eO)) (
  o3 pickT (cg gG14 gF2) (cg gG1 gF3) (gC (.bool false)) (cs sG2 sF3) (
  oM (cg gG2 gF3) (cs sG3 sF3) (
  oG (cg gG3 gF3) true (cs sG4 sF3) (oM (cg gG5 gF0) (cs sG4 sF3) (eO)) (
  oG (cg gG3 gF3) true (cs sG5 sF3) (oF fn18 [(cg gG4 gF3)] (cs sG5 sF3) (eO)) (
  oG (cg gG3 gF3) true (cs sG6 sF3) (o2 (eqT false .ptr) (cg gG5 gF3) (gC .nilp) (cs sG6 sF3) (eO)) (
  o3 pickT (cg gG3 gF3) (cg gG6 gF3) (gC (.bool false)) (cs sG7 sF3) (
  oM (cg gG7 gF3) (cs sG4 sF0) (
  eO))))))))))))))))))))))))))))))))))))))))))))))
 (cR))))))
def fn3 : Fc := fnT [(cs sG0 sF0), (cs sG1 sF0)] (r1 (cg gG4 gF0)) co3
theorem se3 : FnS E 3 fn3 := fnOk (gv := gvT) (tab := asc [(7, fn7), (8, fn8), (9, fn9), (10, fn10), (11, fn11), (12, fn12), (14, fn14), (13, fn13), (15, fn15), (16, fn16), (17, fn17), (18, fn18)]) (tabv := tabv3) (yl := ylv) (q := 2) (rf := rf3) (fun _ => rfl) (asc_cons se7 (asc_cons se8 (asc_cons se9 (asc_cons se10 (asc_cons se11 (asc_cons se12 (asc_cons se14 (asc_cons se13 (asc_cons se15 (asc_cons se16 (asc_cons se17 (asc_cons se18 asc_nil)))))))))))) htabv3 hylv (by kernel_rfl) (by kernel_rfl) (by kernel_rfl)
end
end Go.Proofs.YtnhbkimefglkiaaGreatDoor.HolderNone
