/- Printed by a program of this session (mkclaim.py): functions of the given program as code, and as threaded code. -/
import Derived.Test.YtnhbkimefglkiaaGreatDoorHealthNoneF0
namespace Go.Proofs.YtnhbkimefglkiaaGreatDoor.HealthNone
open Go Go.Ai
set_option maxRecDepth 100000
set_option maxHeartbeats 0
noncomputable section
def co52 : Cd := cS (cO (oW1 (boxT 5) (cg gG0 gF0) (cs sG1 sF0) (
  oM (gC (.bool false)) (cs sG2 sF0) (
  eO))))
 (cS (cS (cO (o1 (fadT 1) (cg gG1 gF0) (cs sG3 sF0) (
  oD ld1T (cg gG3 gF0) (cs sG4 sF0) (
  o2 (arithK .lss) (cg gG4 gF0) (gC (.int .i64 1)) (cs sG5 sF0) (
  oM (cg gG5 gF0) (cs sG6 sF0) (
  oG (cg gG6 gF0) false (cs sG7 sF0) (o1 (fadT 2) (cg gG1 gF0) (cs sG7 sF0) (eO)) (
  oG (cg gG6 gF0) false (cs sG8 sF0) (oD ld1T (cg gG7 gF0) (cs sG8 sF0) (eO)) (
  oG (cg gG6 gF0) false (cs sG9 sF0) (o2 (arithK .lss) (cg gG8 gF0) (gC (.int .i64 1)) (cs sG9 sF0) (eO)) (
  o3 pickT (cg gG6 gF0) (gC (.bool true)) (cg gG9 gF0) (cs sG10 sF0) (
  oM (cg gG10 gF0) (cs sG11 sF0) (
  oG (cg gG11 gF0) false (cs sG12 sF0) (o1 (fadT 3) (cg gG1 gF0) (cs sG12 sF0) (eO)) (
  oG (cg gG11 gF0) false (cs sG13 sF0) (oD ld1T (cg gG12 gF0) (cs sG13 sF0) (eO)) (
  oG (cg gG11 gF0) false (cs sG14 sF0) (o2 (arithK .lss) (cg gG13 gF0) (gC (.int .i64 0)) (cs sG14 sF0) (eO)) (
  o3 pickT (cg gG11 gF0) (gC (.bool true)) (cg gG14 gF0) (cs sG15 sF0) (
  oM (cg gG15 gF0) (cs sG0 sF1) (
  oG (cg gG0 gF1) false (cs sG1 sF1) (o1 (fadT 4) (cg gG1 gF0) (cs sG1 sF1) (eO)) (
  oG (cg gG0 gF1) false (cs sG2 sF1) (oD ld1T (cg gG1 gF1) (cs sG2 sF1) (eO)) (
  oG (cg gG0 gF1) false (cs sG3 sF1) (o2 (arithK .lss) (cg gG2 gF1) (gC (.int .i64 1)) (cs sG3 sF1) (eO)) (
  o3 pickT (cg gG0 gF1) (gC (.bool true)) (cg gG3 gF1) (cs sG4 sF1) (
  oM (cg gG4 gF1) (cs sG5 sF1) (
  oG (cg gG5 gF1) false (cs sG6 sF1) (o1 (fadT 4) (cg gG1 gF0) (cs sG6 sF1) (eO)) (
  oG (cg gG5 gF1) false (cs sG7 sF1) (oD ld1T (cg gG6 gF1) (cs sG7 sF1) (eO)) (
  oG (cg gG5 gF1) false (cs sG8 sF1) (o2 (arithK .gtr) (cg gG7 gF1) (gC (.int .i64 512)) (cs sG8 sF1) (eO)) (
  o3 pickT (cg gG5 gF1) (gC (.bool true)) (cg gG8 gF1) (cs sG9 sF1) (
  oM (cg gG9 gF1) (cs sG10 sF1) (
  oG (cg gG10 gF1) false (cs sG11 sF1) (o1 (fadT 0) (cg gG1 gF0) (cs sG11 sF1) (eO)) (
  oG (cg gG10 gF1) false (cs sG12 sF1) (oD ld1T (cg gG11 gF1) (cs sG12 sF1) (eO)) (
  oG (cg gG10 gF1) false (cs sG13 sF1) (o2 (arithK .gtr) (cg gG12 gF1) (gC (.int .i64 255)) (cs sG13 sF1) (eO)) (
  o3 pickT (cg gG10 gF1) (gC (.bool true)) (cg gG13 gF1) (cs sG14 sF1) (
  oM (cg gG14 gF1) (cs sG15 sF1) (
  oG (cg gG15 gF1) false (cs sG0 sF2) (o1 (fadT 1) (cg gG1 gF0) (cs sG0 sF2) (eO)) (
  oG (cg gG15 gF1) false (cs sG1 sF2) (oD ld1T (cg gG0 gF2) (cs sG1 sF2) (eO)) (
  oG (cg gG15 gF1) false (cs sG2 sF2) (o2 (arithK .gtr) (cg gG1 gF2) (gC (.int .i64 255)) (cs sG2 sF2) (eO)) (
  o3 pickT (cg gG15 gF1) (gC (.bool true)) (cg gG2 gF2) (cs sG3 sF2) (
  oM (cg gG3 gF2) (cs sG4 sF2) (
  oG (cg gG4 gF2) false (cs sG5 sF2) (o1 (fadT 2) (cg gG1 gF0) (cs sG5 sF2) (eO)) (
  oG (cg gG4 gF2) false (cs sG6 sF2) (oD ld1T (cg gG5 gF2) (cs sG6 sF2) (eO)) (
  oG (cg gG4 gF2) false (cs sG7 sF2) (o2 (arithK .gtr) (cg gG6 gF2) (gC (.int .i64 255)) (cs sG7 sF2) (eO)) (
  o3 pickT (cg gG4 gF2) (gC (.bool true)) (cg gG7 gF2) (cs sG8 sF2) (
  oM (cg gG8 gF2) (cs sG9 sF2) (
  oG (cg gG9 gF2) false (cs sG10 sF2) (o1 (fadT 3) (cg gG1 gF0) (cs sG10 sF2) (eO)) (
  oG (cg gG9 gF2) false (cs sG11 sF2) (oD ld1T (cg gG10 gF2) (cs sG11 sF2) (eO)) (
  oG (cg gG9 gF2) false (cs sG12 sF2) (o2 (arithK .gtr) (cg gG11 gF2) (gC (.int .i64 255)) (cs sG12 sF2) (eO)) (
  o3 pickT (cg gG9 gF2) (gC (.bool true)) (cg gG12 gF2) (cs sG13 sF2) (
  eO)))))))))))))))))))))))))))))))))))))))))))))
 (cC (cg gG13 gF2) (cS (cO (oM (gC (.bool false)) (cs sG2 sF0) (
  eO)))
 (cR))
 (cSk)))
 (cS (cO (o1 (fadT 0) (cg gG1 gF0) (cs sG14 sF2) (
  oD ld1T (cg gG14 gF2) (cs sG15 sF2) (
  o1 (fadT 1) (cg gG1 gF0) (cs sG0 sF3) (
  oD ld1T (cg gG0 gF3) (cs sG1 sF3) (
  o1 (fadT 2) (cg gG1 gF0) (cs sG2 sF3) (
  oD ld1T (cg gG2 gF3) (cs sG3 sF3) (
  o2 (arithK .add) (cg gG1 gF3) (cg gG3 gF3) (cs sG4 sF3) (
  o1 (fadT 3) (cg gG1 gF0) (cs sG5 sF3) (
  oD ld1T (cg gG5 gF3) (cs sG6 sF3) (
  o2 (arithK .mul) (gC (.int .i64 2)) (cg gG6 gF3) (cs sG7 sF3) (
  o2 (arithK .add) (cg gG4 gF3) (cg gG7 gF3) (cs sG8 sF3) (
  o2 (arithK .geq) (cg gG15 gF2) (cg gG8 gF3) (cs sG9 sF3) (
  oM (cg gG9 gF3) (cs sG10 sF3) (
  oG (cg gG10 gF3) true (cs sG11 sF3) (o1 (fadT 0) (cg gG1 gF0) (cs sG11 sF3) (eO)) (
  oG (cg gG10 gF3) true (cs sG12 sF3) (oD ld1T (cg gG11 gF3) (cs sG12 sF3) (eO)) (
  oG (cg gG10 gF3) true (cs sG13 sF3) (o1 (fadT 2) (cg gG1 gF0) (cs sG13 sF3) (eO)) (
  oG (cg gG10 gF3) true (cs sG14 sF3) (oD ld1T (cg gG13 gF3) (cs sG14 sF3) (eO)) (
  oG (cg gG10 gF3) true (cs sG15 sF3) (o2 (arithK .add) (cg gG12 gF3) (cg gG14 gF3) (cs sG15 sF3) (eO)) (
  oG (cg gG10 gF3) true (cs sG0 sF4) (o2 (arithK .leq) (cg gG15 gF3) (gC (.int .i64 255)) (cs sG0 sF4) (eO)) (
  o3 pickT (cg gG10 gF3) (cg gG0 gF4) (gC (.bool false)) (cs sG1 sF4) (
  oM (cg gG1 gF4) (cs sG2 sF0) (
  eO)))))))))))))))))))))))
 (cR)))
def fn52 : Fc := fnT [(cs sG0 sF0)] (r1 (cg gG2 gF0)) co52
theorem se52 : FnS E 52 fn52 := fnOk (gv := gvT) (tab := asc []) (tabv := tabv2) (yl := ylv) (q := 1) (rf := rf52) (fun _ => rfl) asc_nil htabv2 hylv (by kernel_rfl) (by kernel_rfl) (by kernel_rfl)
def co168 : Cd := cS (cO (oM (gC .nilp) (cs sG2 sF0) (
  eO)))
 (cS (cO (oN (buildT [.nils, (.int .i64 0), (.bool false), (.int .i64 0)] [(1, 1)]) [(gC (.int .i64 (-1)))] (cs sG4 sF0) (
  oW1 (boxT 4) (cg gG4 gF0) (cs sG5 sF0) (
  oM (cg gG5 gF0) (cs sG3 sF0) (
  eO)))))
 (cS (cS (cO (oM (cg gG0 gF0) (cs sG6 sF0) (
  oN maxT [(cg gG6 gF0), (gC (.int .i64 0))] (cs sG7 sF0) (
  oN minT [(cg gG7 gF0), (gC (.int .i64 2048))] (cs sG8 sF0) (
  oM (gC (.int .i64 0)) (cs sG9 sF0) (
  eO))))))
 (cB 0 (cL (cS (cO (o2 (arithK .lss) (cg gG9 gF0) (cg gG8 gF0) (cs sG10 sF0) (
  eO)))
 (cS (cC (cg gG10 gF0) (cSk)
 (cE 0))
 (cS (cB 1 (cD [] [iP (oM (cg gG3 gF0) (cs sG11 sF0) (eO)),
  iP (oM (cg gG3 gF0) (cs sG12 sF0) (eO)),
  iP (o1 nchkT (cg gG12 gF0) (cs sG13 sF0) (eO)),
  iP (o1 (fadT 0) (cg gG13 gF0) (cs sG14 sF0) (eO)),
  iR 0 1 (rd1 ld1T (cg gG14 gF0)) (cs sG15 sF0),
  iW (oW2 (mksT [(.int .u8 0)] 1 1) (gC (.int .i64 32)) (gC (.int .i64 32)) (cs sG0 sF1) (eO)),
  iP (oN (mklT [.nils] 1 1 [(0, 1)]) [(cg gG0 gF1)] (cs sG1 sF1) (eO)),
  iW (oW2 (appT 1 24) (cg gG15 gF0) (cg gG1 gF1) (cs sG2 sF1) (eO)),
  iP (o1 nchkT (cg gG11 gF0) (cs sG3 sF1) (eO)),
  iP (o1 (fadT 0) (cg gG3 gF1) (cs sG4 sF1) (eO)),
  iW (oW2 (storeT 1) (cg gG4 gF1) (cg gG2 gF1) s0 (eO))]))
 (cO (o2 (arithK .add) (cg gG9 gF0) (gC (.int .i64 1)) (cs sG5 sF1) (
  oM (cg gG5 gF1) (cs sG9 sF0) (
  eO))))))))))
 (cS (cO (oM (cg gG3 gF0) (cs sG6 sF1) (
  oM (cg gG6 gF1) (cs sG2 sF0) (
  eO))))
 (cR))))
def fn168 : Fc := fnT [(cs sG0 sF0)] (r1 (cg gG2 gF0)) co168
theorem se168 : FnS E 168 fn168 := fnOk (gv := gvT) (tab := asc []) (tabv := tabv2) (yl := ylv) (q := 1) (rf := rf168) (fun _ => rfl) asc_nil htabv2 hylv (by kernel_rfl) (by kernel_rfl) (by kernel_rfl)
def co83 : Cd := cS (cO (oM (gC .nilp) (cs sG2 sF0) (
  eO)))
 (cS (cO (oM (cg gG0 gF0) (cs sG3 sF0) (
  oN maxT [(cg gG3 gF0), (gC (.int .i64 0))] (cs sG4 sF0) (
  oN minT [(cg gG4 gF0), (gC (.int .i64 512))] (cs sG5 sF0) (
  oM (cg gG5 gF0) (cs sG0 sF0) (
  eO))))))
 (cS (cO (oM (cg gG0 gF0) (cs sG6 sF0) (
  o2 (arithK .mul) (gC (.int .i64 2)) (cg gG6 gF0) (cs sG7 sF0) (
  o2 (arithK .add) (gC (.int .i64 1)) (cg gG7 gF0) (cs sG8 sF0) (
  oF fn168 [(cg gG8 gF0)] (cs sG9 sF0) (
  oM (cg gG0 gF0) (cs sG10 sF0) (
  oN (buildT [.nilp, (.int .i64 0)] [(0, 1), (1, 1)]) [(cg gG9 gF0), (cg gG10 gF0)] (cs sG11 sF0) (
  oW1 (boxT 2) (cg gG11 gF0) (cs sG12 sF0) (
  oM (cg gG12 gF0) (cs sG2 sF0) (
  eO))))))))))
 (cR)))
def fn83 : Fc := fnT [(cs sG0 sF0)] (r1 (cg gG2 gF0)) co83
theorem se83 : FnS E 83 fn83 := fnOk (gv := gvT) (tab := asc [(168, fn168)]) (tabv := tabv2) (yl := ylv) (q := 1) (rf := rf83) (fun _ => rfl) (asc_cons se168 asc_nil) htabv2 hylv (by kernel_rfl) (by kernel_rfl) (by kernel_rfl)
def co130 : Cd := cS (cO (oW1 (boxT 5) (cg gG0 gF0) (cs sG1 sF0) (
  oM (gC .nilp) (cs sG2 sF0) (
  eO))))
 (cS (cD [] [iR 0 1 (rd1 (ldT 5 true) (cg gG1 gF0)) (cs sG3 sF0),
  iW (oF fn83 [(gC (.int .i64 512))] (cs sG4 sF0) (eO)),
  iP (oN (buildT [(.int .i64 0), (.int .i64 0), (.int .i64 0), (.int .i64 0), (.int .i64 0), .nilp, (.bool false)] [(0, 5), (5, 1)]) [(cg gG3 gF0), (cg gG4 gF0)] (cs sG5 sF0) (eO)),
  iW (oW1 (boxT 7) (cg gG5 gF0) (cs sG6 sF0) (eO)),
  iP (oM (cg gG6 gF0) (cs sG2 sF0) (eO))])
 (cR))
def fn130 : Fc := fnT [(cs sG0 sF0)] (r1 (cg gG2 gF0)) co130
theorem se130 : FnS E 130 fn130 := fnOk (gv := gvT) (tab := asc [(83, fn83)]) (tabv := tabv2) (yl := ylv) (q := 1) (rf := rf130) (fun _ => rfl) (asc_cons se83 asc_nil) htabv2 hylv (by kernel_rfl) (by kernel_rfl) (by kernel_rfl)
def co53 : Cd := cS (cO (oW1 (boxT 5) (cg gG0 gF0) (cs sG1 sF0) (
  oM (gC .nilp) (cs sG2 sF0) (
  eO))))
 (cS (cD [] [iR 0 2 (rd1 (ldT 5 true) (cg gG1 gF0)) (cs sG3 sF0),
  iW (oF fn74 [] (cs sG4 sF0) (eO)),
  iR 0 1 (rd1 (ldT 5 true) (cg gG1 gF0)) (cs sG5 sF0),
  iW (oF fn130 [(cg gG5 gF0)] (cs sG6 sF0) (eO)),
  iP (oN (buildT [(.int .i64 0), (.int .i64 0), (.int .i64 0), (.int .i64 0), (.int .i64 0), .nilp, .nilp, (.int .i64 0), (.int .i64 0), (.int .i64 0), (.int .i64 0), (.int .i64 0), (.str []), (.int .i64 0), .nils, .nils, .nils, .nils, .nilm] [(0, 5), (5, 1), (6, 1)]) [(cg gG3 gF0), (cg gG4 gF0), (cg gG6 gF0)] (cs sG7 sF0) (eO)),
  iW (oW1 (boxT 19) (cg gG7 gF0) (cs sG8 sF0) (eO)),
  iP (oM (cg gG8 gF0) (cs sG2 sF0) (eO))])
 (cR))
def fn53 : Fc := fnT [(cs sG0 sF0)] (r1 (cg gG2 gF0)) co53
theorem se53 : FnS E 53 fn53 := fnOk (gv := gvT) (tab := asc [(74, fn74), (130, fn130)]) (tabv := tabv2) (yl := ylv) (q := 1) (rf := rf53) (fun _ => rfl) (asc_cons se74 (asc_cons se130 asc_nil)) htabv2 hylv (by kernel_rfl) (by kernel_rfl) (by kernel_rfl)
def co84 : Cd := cS (cO (oM (gC .nilp) (cs sG0 sF0) (
  eO)))
 (cS (cO (oN (buildT [.nils, (.int .i64 0)] []) [] (cs sG1 sF0) (
  oW1 (boxT 2) (cg gG1 gF0) (cs sG2 sF0) (
  oM (cg gG2 gF0) (cs sG0 sF0) (
  eO)))))
 (cR))
def fn84 : Fc := fnT [] (r1 (cg gG0 gF0)) co84
theorem se84 : FnS E 84 fn84 := fnOk (gv := gvT) (tab := asc []) (tabv := tabv2) (yl := ylv) (q := 0) (rf := rf84) (fun _ => rfl) asc_nil htabv2 hylv (by kernel_rfl) (by kernel_rfl) (by kernel_rfl)
def co54 : Cd := cS (cO (oW1 (boxT 5) (cg gG0 gF0) (cs sG1 sF0) (
  oM (gC .nilp) (cs sG2 sF0) (
  eO))))
 (cS (cD [] [iR 0 2 (rd1 (ldT 5 true) (cg gG1 gF0)) (cs sG3 sF0),
  iW (oF fn74 [] (cs sG4 sF0) (eO)),
  iW (oF fn84 [] (cs sG5 sF0) (eO)),
  iP (oN (buildT [(.int .i64 0), (.int .i64 0), (.int .i64 0), (.int .i64 0), (.int .i64 0), .nilp, .nilp, (.int .i64 0), .nils, (.bool false), (.int .i64 0), .nilm] [(0, 5), (5, 1), (6, 1)]) [(cg gG3 gF0), (cg gG4 gF0), (cg gG5 gF0)] (cs sG6 sF0) (eO)),
  iW (oW1 (boxT 12) (cg gG6 gF0) (cs sG7 sF0) (eO)),
  iP (oM (cg gG7 gF0) (cs sG2 sF0) (eO))])
 (cR))
def fn54 : Fc := fnT [(cs sG0 sF0)] (r1 (cg gG2 gF0)) co54
theorem se54 : FnS E 54 fn54 := fnOk (gv := gvT) (tab := asc [(74, fn74), (84, fn84)]) (tabv := tabv2) (yl := ylv) (q := 1) (rf := rf54) (fun _ => rfl) (asc_cons se74 (asc_cons se84 asc_nil)) htabv2 hylv (by kernel_rfl) (by kernel_rfl) (by kernel_rfl)
def co55 : Cd := cS (cO (oM (gC .nilp) (cs sG0 sF0) (
  eO)))
 (cS (cO (oN (buildT [.nils] []) [] (cs sG1 sF0) (
  oW1 (boxT 1) (cg gG1 gF0) (cs sG2 sF0) (
  oM (cg gG2 gF0) (cs sG0 sF0) (
  eO)))))
 (cR))
def fn55 : Fc := fnT [] (r1 (cg gG0 gF0)) co55
theorem se55 : FnS E 55 fn55 := fnOk (gv := gvT) (tab := asc []) (tabv := tabv2) (yl := ylv) (q := 0) (rf := rf55) (fun _ => rfl) asc_nil htabv2 hylv (by kernel_rfl) (by kernel_rfl) (by kernel_rfl)
def co37 : Cd := cS (cO (oW1 (boxT 5) (cg gG0 gF0) (cs sG2 sF0) (
  oM (gC .nilp) (cs sG4 sF0) (
  eO))))
 (cS (cD [] [iR 0 3 (rd1 (ldT 5 true) (cg gG2 gF0)) (cs sG5 sF0),
  iP (oM (cg gG1 gF0) (cs sG6 sF0) (eO)),
  iW (oF fn74 [] (cs sG7 sF0) (eO)),
  iP (o1 (fadT 4) (cg gG2 gF0) (cs sG8 sF0) (eO)),
  iR 0 1 (rd1 ld1T (cg gG8 gF0)) (cs sG9 sF0),
  iW (oF fn83 [(cg gG9 gF0)] (cs sG10 sF0) (eO)),
  iW (oF fn84 [] (cs sG11 sF0) (eO)),
  iP (oN (buildT [(.int .i64 0), (.int .i64 0), (.int .i64 0), (.int .i64 0), (.int .i64 0), (.int .i64 0), .nilp, .nilp, .nilp, (.bool false), (.int .i64 0), (.int .i64 0), (.int .i64 0), .nils, .nils, .nilm, .nilm] [(0, 5), (5, 1), (6, 1), (7, 1), (8, 1)]) [(cg gG5 gF0), (cg gG6 gF0), (cg gG7 gF0), (cg gG10 gF0), (cg gG11 gF0)] (cs sG12 sF0) (eO)),
  iW (oW1 (boxT 17) (cg gG12 gF0) (cs sG13 sF0) (eO)),
  iP (oM (cg gG13 gF0) (cs sG4 sF0) (eO))])
 (cR))
def fn37 : Fc := fnT [(cs sG0 sF0), (cs sG1 sF0)] (r1 (cg gG4 gF0)) co37
theorem se37 : FnS E 37 fn37 := fnOk (gv := gvT) (tab := asc [(74, fn74), (83, fn83), (84, fn84)]) (tabv := tabv2) (yl := ylv) (q := 2) (rf := rf37) (fun _ => rfl) (asc_cons se74 (asc_cons se83 (asc_cons se84 asc_nil))) htabv2 hylv (by kernel_rfl) (by kernel_rfl) (by kernel_rfl)
def co20 : Cd := cS (cO (oW1 (boxT 5) (cg gG0 gF0) (cs sG1 sF0) (
  oM (gC .nilp) (cs sG2 sF0) (
  oM (gC (.int .i64 0)) (cs sG3 sF0) (
  eO)))))
 (cS (cS (cO (oD (ldT 5 true) (cg gG1 gF0) (cs sG6 sF0) (
  oF fn52 [(cg gG6 gF0)] (cs sG7 sF0) (
  o1 (unT .not) (cg gG7 gF0) (cs sG8 sF0) (
  eO)))))
 (cC (cg gG8 gF0) (cS (cO (oM (gC .nilp) (cs sG2 sF0) (
  oM (gC (.int .i64 1)) (cs sG3 sF0) (
  eO))))
 (cR))
 (cSk)))
 (cS (cD [] [iR 0 3 (rd1 (ldT 5 true) (cg gG1 gF0)) (cs sG9 sF0),
  iP (oD (ldT 5 true) (cg gG1 gF0) (cs sG10 sF0) (eO)),
  iW (oF fn53 [(cg gG10 gF0)] (cs sG11 sF0) (eO)),
  iR 0 1 (rd1 (ldT 5 true) (cg gG1 gF0)) (cs sG12 sF0),
  iW (oF fn54 [(cg gG12 gF0)] (cs sG13 sF0) (eO)),
  iW (oF fn55 [] (cs sG14 sF0) (eO)),
  iP (oN (buildT [(.int .i64 0), (.int .i64 0), (.int .i64 0), (.int .i64 0), (.int .i64 0), .nils, .nilp, .nilp, .nilp] [(0, 5), (6, 1), (7, 1), (8, 1)]) [(cg gG9 gF0), (cg gG11 gF0), (cg gG13 gF0), (cg gG14 gF0)] (cs sG15 sF0) (eO)),
  iW (oW1 (boxT 9) (cg gG15 gF0) (cs sG0 sF1) (eO)),
  iP (oM (cg gG0 gF1) (cs sG4 sF0) (eO))])
 (cS (cS (cO (o1 (fadT 0) (cg gG1 gF0) (cs sG1 sF1) (
  oD ld1T (cg gG1 gF1) (cs sG2 sF1) (
  oM (gC (.int .i64 0)) (cs sG3 sF1) (
  eO)))))
 (cB 0 (cL (cS (cO (o2 (arithK .lss) (cg gG3 gF1) (cg gG2 gF1) (cs sG4 sF1) (
  eO)))
 (cS (cC (cg gG4 gF1) (cSk)
 (cE 0))
 (cS (cB 1 (cS (cO (oM (cg gG3 gF1) (cs sG5 sF1) (
  oM (cg gG5 gF1) (cs sG5 sF0) (
  eO))))
 (cD [] [iP (oM (cg gG4 gF0) (cs sG6 sF1) (eO)),
  iP (oM (cg gG4 gF0) (cs sG7 sF1) (eO)),
  iP (o1 nchkT (cg gG7 gF1) (cs sG8 sF1) (eO)),
  iP (o1 (fadT 5) (cg gG8 gF1) (cs sG9 sF1) (eO)),
  iR 0 1 (rd1 ld1T (cg gG9 gF1)) (cs sG10 sF1),
  iP (oD (ldT 5 true) (cg gG1 gF0) (cs sG11 sF1) (eO)),
  iP (oM (cg gG5 gF0) (cs sG12 sF1) (eO)),
  iW (oF fn37 [(cg gG11 gF1), (cg gG12 gF1)] (cs sG13 sF1) (eO)),
  iP (oN (mklT [.nilp] 1 1 [(0, 1)]) [(cg gG13 gF1)] (cs sG14 sF1) (eO)),
  iW (oW2 (appT 1 8) (cg gG10 gF1) (cg gG14 gF1) (cs sG15 sF1) (eO)),
  iP (o1 nchkT (cg gG6 gF1) (cs sG0 sF2) (eO)),
  iP (o1 (fadT 5) (cg gG0 gF2) (cs sG1 sF2) (eO)),
  iW (oW2 (storeT 1) (cg gG1 gF2) (cg gG15 gF1) s0 (eO))])))
 (cO (o2 (arithK .add) (cg gG3 gF1) (gC (.int .i64 1)) (cs sG2 sF2) (
  oM (cg gG2 gF2) (cs sG3 sF1) (
  eO))))))))))
 (cS (cO (oM (cg gG4 gF0) (cs sG3 sF2) (
  oM (cg gG3 gF2) (cs sG2 sF0) (
  oM (gC (.int .i64 0)) (cs sG3 sF0) (
  eO)))))
 (cR)))))
def fn20 : Fc := fnT [(cs sG0 sF0)] (rN [rT (cg gG2 gF0), rT (cg gG3 gF0)]) co20
theorem se20 : FnS E 20 fn20 := fnOk (gv := gvT) (tab := asc [(52, fn52), (53, fn53), (54, fn54), (55, fn55), (37, fn37)]) (tabv := tabv2) (yl := ylv) (q := 1) (rf := rf20) (fun _ => rfl) (asc_cons se52 (asc_cons se53 (asc_cons se54 (asc_cons se55 (asc_cons se37 asc_nil))))) htabv2 hylv (by kernel_rfl) (by kernel_rfl) (by kernel_rfl)
def co112 : Cd := cS (cO (oM (gC (.bool false)) (cs sG2 sF0) (
  eO)))
 (cS (cO (oM (cg gG0 gF0) (cs sG3 sF0) (
  o2 (eqT true .ptr) (cg gG3 gF0) (gC .nilp) (cs sG4 sF0) (
  oM (cg gG4 gF0) (cs sG5 sF0) (
  oG (cg gG5 gF0) true (cs sG6 sF0) (oM (cg gG0 gF0) (cs sG6 sF0) (eO)) (
  oG (cg gG5 gF0) true (cs sG7 sF0) (o1 nchkT (cg gG6 gF0) (cs sG7 sF0) (eO)) (
  oG (cg gG5 gF0) true (cs sG8 sF0) (o1 (fadT 2) (cg gG7 gF0) (cs sG8 sF0) (eO)) (
  oG (cg gG5 gF0) true (cs sG9 sF0) (oD ld1T (cg gG8 gF0) (cs sG9 sF0) (eO)) (
  o3 pickT (cg gG5 gF0) (cg gG9 gF0) (gC (.bool false)) (cs sG10 sF0) (
  oM (cg gG10 gF0) (cs sG2 sF0) (
  eO)))))))))))
 (cR))
def fn112 : Fc := fnT [(cs sG0 sF0)] (r1 (cg gG2 gF0)) co112
theorem se112 : FnS E 112 fn112 := fnOk (gv := gvT) (tab := asc []) (tabv := tabv2) (yl := ylv) (q := 1) (rf := rf112) (fun _ => rfl) asc_nil htabv2 hylv (by kernel_rfl) (by kernel_rfl) (by kernel_rfl)
def co44 : Cd := cS (cO (oM (gC (.bool false)) (cs sG2 sF0) (
  eO)))
 (cS (cO (oM (cg gG0 gF0) (cs sG3 sF0) (
  o2 (eqT true .ptr) (cg gG3 gF0) (gC .nilp) (cs sG4 sF0) (
  oM (cg gG4 gF0) (cs sG5 sF0) (
  oG (cg gG5 gF0) true (cs sG6 sF0) (oM (cg gG0 gF0) (cs sG6 sF0) (eO)) (
  oG (cg gG5 gF0) true (cs sG7 sF0) (o1 nchkT (cg gG6 gF0) (cs sG7 sF0) (eO)) (
  oG (cg gG5 gF0) true (cs sG8 sF0) (o1 (fadT 0) (cg gG7 gF0) (cs sG8 sF0) (eO)) (
  oG (cg gG5 gF0) true (cs sG9 sF0) (oD ld1T (cg gG8 gF0) (cs sG9 sF0) (eO)) (
  oG (cg gG5 gF0) true (cs sG10 sF0) (oF fn112 [(cg gG9 gF0)] (cs sG10 sF0) (eO)) (
  o3 pickT (cg gG5 gF0) (cg gG10 gF0) (gC (.bool false)) (cs sG11 sF0) (
  oM (cg gG11 gF0) (cs sG2 sF0) (
  eO))))))))))))
 (cR))
def fn44 : Fc := fnT [(cs sG0 sF0)] (r1 (cg gG2 gF0)) co44
theorem se44 : FnS E 44 fn44 := fnOk (gv := gvT) (tab := asc [(112, fn112)]) (tabv := tabv2) (yl := ylv) (q := 1) (rf := rf44) (fun _ => rfl) (asc_cons se112 asc_nil) htabv2 hylv (by kernel_rfl) (by kernel_rfl) (by kernel_rfl)
def co75 : Cd := cS (cO (oM (gC (.bool false)) (cs sG2 sF0) (
  eO)))
 (cS (cO (oM (cg gG0 gF0) (cs sG3 sF0) (
  o2 (eqT true .ptr) (cg gG3 gF0) (gC .nilp) (cs sG4 sF0) (
  oM (cg gG4 gF0) (cs sG5 sF0) (
  oG (cg gG5 gF0) true (cs sG6 sF0) (oM (cg gG0 gF0) (cs sG6 sF0) (eO)) (
  oG (cg gG5 gF0) true (cs sG7 sF0) (o1 nchkT (cg gG6 gF0) (cs sG7 sF0) (eO)) (
  oG (cg gG5 gF0) true (cs sG8 sF0) (o1 (fadT 6) (cg gG7 gF0) (cs sG8 sF0) (eO)) (
  oG (cg gG5 gF0) true (cs sG9 sF0) (oD ld1T (cg gG8 gF0) (cs sG9 sF0) (eO)) (
  oG (cg gG5 gF0) true (cs sG10 sF0) (oM (cg gG9 gF0) (cs sG10 sF0) (eO)) (
  oG (cg gG10 gF0) false (cs sG11 sF0) (oM (cg gG0 gF0) (cs sG11 sF0) (eO)) (
  oG (cg gG10 gF0) false (cs sG12 sF0) (o1 nchkT (cg gG11 gF0) (cs sG12 sF0) (eO)) (
  oG (cg gG10 gF0) false (cs sG13 sF0) (o1 (fadT 5) (cg gG12 gF0) (cs sG13 sF0) (eO)) (
  oG (cg gG10 gF0) false (cs sG14 sF0) (oD ld1T (cg gG13 gF0) (cs sG14 sF0) (eO)) (
  oG (cg gG10 gF0) false (cs sG15 sF0) (oF fn44 [(cg gG14 gF0)] (cs sG15 sF0) (eO)) (
  oG (cg gG5 gF0) true (cs sG0 sF1) (o3 pickT (cg gG10 gF0) (gC (.bool true)) (cg gG15 gF0) (cs sG0 sF1) (eO)) (
  o3 pickT (cg gG5 gF0) (cg gG0 gF1) (gC (.bool false)) (cs sG1 sF1) (
  oM (cg gG1 gF1) (cs sG2 sF0) (
  eO))))))))))))))))))
 (cR))
def fn75 : Fc := fnT [(cs sG0 sF0)] (r1 (cg gG2 gF0)) co75
theorem se75 : FnS E 75 fn75 := fnOk (gv := gvT) (tab := asc [(44, fn44)]) (tabv := tabv2) (yl := ylv) (q := 1) (rf := rf75) (fun _ => rfl) (asc_cons se44 asc_nil) htabv2 hylv (by kernel_rfl) (by kernel_rfl) (by kernel_rfl)
def co12 : Cd := cS (cO (oM (gC (.bool false)) (cs sG2 sF0) (
  eO)))
 (cS (cO (oM (cg gG0 gF0) (cs sG3 sF0) (
  o2 (eqT true .ptr) (cg gG3 gF0) (gC .nilp) (cs sG4 sF0) (
  oM (cg gG4 gF0) (cs sG5 sF0) (
  oG (cg gG5 gF0) true (cs sG6 sF0) (oM (cg gG0 gF0) (cs sG6 sF0) (eO)) (
  oG (cg gG5 gF0) true (cs sG7 sF0) (o1 nchkT (cg gG6 gF0) (cs sG7 sF0) (eO)) (
  oG (cg gG5 gF0) true (cs sG8 sF0) (o1 (fadT 9) (cg gG7 gF0) (cs sG8 sF0) (eO)) (
  oG (cg gG5 gF0) true (cs sG9 sF0) (oD ld1T (cg gG8 gF0) (cs sG9 sF0) (eO)) (
  oG (cg gG5 gF0) true (cs sG10 sF0) (oM (cg gG9 gF0) (cs sG10 sF0) (eO)) (
  oG (cg gG10 gF0) false (cs sG11 sF0) (oM (cg gG0 gF0) (cs sG11 sF0) (eO)) (
  oG (cg gG10 gF0) false (cs sG12 sF0) (o1 nchkT (cg gG11 gF0) (cs sG12 sF0) (eO)) (
  oG (cg gG10 gF0) false (cs sG13 sF0) (o1 (fadT 7) (cg gG12 gF0) (cs sG13 sF0) (eO)) (
  oG (cg gG10 gF0) false (cs sG14 sF0) (oD ld1T (cg gG13 gF0) (cs sG14 sF0) (eO)) (
  oG (cg gG10 gF0) false (cs sG15 sF0) (oF fn44 [(cg gG14 gF0)] (cs sG15 sF0) (eO)) (
  oG (cg gG5 gF0) true (cs sG0 sF1) (o3 pickT (cg gG10 gF0) (gC (.bool true)) (cg gG15 gF0) (cs sG0 sF1) (eO)) (
  o3 pickT (cg gG5 gF0) (cg gG0 gF1) (gC (.bool false)) (cs sG1 sF1) (
  oM (cg gG1 gF1) (cs sG2 sF0) (
  eO))))))))))))))))))
 (cR))
def fn12 : Fc := fnT [(cs sG0 sF0)] (r1 (cg gG2 gF0)) co12
theorem se12 : FnS E 12 fn12 := fnOk (gv := gvT) (tab := asc [(44, fn44)]) (tabv := tabv2) (yl := ylv) (q := 1) (rf := rf12) (fun _ => rfl) (asc_cons se44 asc_nil) htabv2 hylv (by kernel_rfl) (by kernel_rfl) (by kernel_rfl)
def co18 : Cd := cS (cO (oM (gC .nilp) (cs sG2 sF0) (
  eO)))
 (cS (cS (cO (oM (cg gG0 gF0) (cs sG3 sF0) (
  o2 (eqT false .ptr) (cg gG3 gF0) (gC .nilp) (cs sG4 sF0) (
  eO))))
 (cC (cg gG4 gF0) (cS (cO (oM (gC .nilp) (cs sG2 sF0) (
  eO)))
 (cR))
 (cSk)))
 (cS (cO (oM (cg gG0 gF0) (cs sG5 sF0) (
  o1 nchkT (cg gG5 gF0) (cs sG6 sF0) (
  o1 (fadT 7) (cg gG6 gF0) (cs sG7 sF0) (
  oD ld1T (cg gG7 gF0) (cs sG8 sF0) (
  oM (cg gG8 gF0) (cs sG2 sF0) (
  eO)))))))
 (cR)))
def fn18 : Fc := fnT [(cs sG0 sF0)] (r1 (cg gG2 gF0)) co18
theorem se18 : FnS E 18 fn18 := fnOk (gv := gvT) (tab := asc []) (tabv := tabv2) (yl := ylv) (q := 1) (rf := rf18) (fun _ => rfl) asc_nil htabv2 hylv (by kernel_rfl) (by kernel_rfl) (by kernel_rfl)
def co50 : Cd := cS (cO (oM (gC (.bool false)) (cs sG4 sF0) (
  eO)))
 (cS (cO (oM (cg gG0 gF0) (cs sG5 sF0) (
  oD b2sT (cg gG5 gF0) (cs sG6 sF0) (
  oM (cg gG1 gF0) (cs sG7 sF0) (
  oD b2sT (cg gG7 gF0) (cs sG8 sF0) (
  o2 (arithK .eql) (cg gG6 gF0) (cg gG8 gF0) (cs sG9 sF0) (
  oM (cg gG9 gF0) (cs sG4 sF0) (
  eO))))))))
 (cR))
def fn50 : Fc := fnT [(cs sG0 sF0), (cs sG1 sF0)] (r1 (cg gG4 gF0)) co50
theorem se50 : FnS E 50 fn50 := fnOk (gv := gvT) (tab := asc []) (tabv := tabv2) (yl := ylv) (q := 2) (rf := rf50) (fun _ => rfl) asc_nil htabv2 hylv (by kernel_rfl) (by kernel_rfl) (by kernel_rfl)
def co80 : Cd := cS (cO (oM (gC (.bool false)) (cs sG4 sF0) (
  eO)))
 (cS (cO (oM (cg gG0 gF0) (cs sG8 sF0) (
  o1 nchkT (cg gG8 gF0) (cs sG9 sF0) (
  o1 (fadT 0) (cg gG9 gF0) (cs sG10 sF0) (
  oD ld1T (cg gG10 gF0) (cs sG11 sF0) (
  oM (cg gG1 gF0) (cs sG12 sF0) (
  oF fn122 [(cg gG11 gF0), (cg gG12 gF0)] (cs sG13 sF0) (
  oM (cg gG13 gF0) (cs sG7 sF0) (
  o1 (extT 0) (cg gG7 gF0) (cs sG14 sF0) (
  o1 (extT 1) (cg gG7 gF0) (cs sG15 sF0) (
  oM (cg gG14 gF0) (cs sG5 sF0) (
  oM (cg gG15 gF0) (cs sG6 sF0) (
  eO)))))))))))))
 (cS (cO (oM (cg gG5 gF0) (cs sG0 sF1) (
  oW2 (mksT [(.int .u8 0)] 1 1) (gC (.int .i64 32)) (gC (.int .i64 32)) (cs sG1 sF1) (
  oF fn50 [(cg gG0 gF1), (cg gG1 gF1)] (cs sG2 sF1) (
  oM (cg gG2 gF1) (cs sG4 sF0) (
  eO))))))
 (cR)))
def fn80 : Fc := fnT [(cs sG0 sF0), (cs sG1 sF0)] (r1 (cg gG4 gF0)) co80
theorem se80 : FnS E 80 fn80 := fnOk (gv := gvT) (tab := asc [(122, fn122), (50, fn50)]) (tabv := tabv2) (yl := ylv) (q := 2) (rf := rf80) (fun _ => rfl) (asc_cons se122 (asc_cons se50 asc_nil)) htabv2 hylv (by kernel_rfl) (by kernel_rfl) (by kernel_rfl)
def co76 : Cd := cS (cO (oM (gC (.bool false)) (cs sG2 sF0) (
  eO)))
 (cS (cS (cO (oM (cg gG0 gF0) (cs sG5 sF0) (
  o2 (eqT false .ptr) (cg gG5 gF0) (gC .nilp) (cs sG6 sF0) (
  eO))))
 (cC (cg gG6 gF0) (cS (cO (oM (gC (.bool false)) (cs sG2 sF0) (
  eO)))
 (cR))
 (cSk)))
 (cS (cO (oM (cg gG0 gF0) (cs sG7 sF0) (
  oF fn78 [(cg gG7 gF0)] (cs sG8 sF0) (
  oW0 (allocT [(.int .i64 0), (.int .i64 0)]) (cs sG3 sF0) (
  oW2 (storeT 2) (cg gG3 gF0) (cg gG8 gF0) s0 (
  eO))))))
 (cS (cS (cO (oM (cg gG0 gF0) (cs sG9 sF0) (
  o1 nchkT (cg gG9 gF0) (cs sG10 sF0) (
  o1 (fadT 1) (cg gG10 gF0) (cs sG11 sF0) (
  oD ld1T (cg gG11 gF0) (cs sG12 sF0) (
  oM (gC (.int .i64 0)) (cs sG13 sF0) (
  eO)))))))
 (cB 0 (cL (cS (cO (o2 (arithK .lss) (cg gG13 gF0) (cg gG12 gF0) (cs sG14 sF0) (
  eO)))
 (cS (cC (cg gG14 gF0) (cSk)
 (cE 0))
 (cS (cB 1 (cS (cO (oM (cg gG13 gF0) (cs sG15 sF0) (
  oM (cg gG15 gF0) (cs sG4 sF0) (
  eO))))
 (cS (cO (oM (cg gG0 gF0) (cs sG0 sF1) (
  oM (cg gG0 gF0) (cs sG1 sF1) (
  o1 (fadT 0) (cg gG3 gF0) (cs sG2 sF1) (
  oD ld1T (cg gG2 gF1) (cs sG3 sF1) (
  o2 (arithK .sub) (gC (.int .i64 1)) (cg gG3 gF1) (cs sG4 sF1) (
  oM (cg gG4 gF0) (cs sG5 sF1) (
  oF fn79 [(cg gG1 gF1), (cg gG4 gF1), (cg gG5 gF1)] (cs sG6 sF1) (
  oF fn80 [(cg gG0 gF1), (cg gG6 gF1)] (cs sG7 sF1) (
  o1 (unT .not) (cg gG7 gF1) (cs sG8 sF1) (
  oM (cg gG8 gF1) (cs sG9 sF1) (
  oG (cg gG9 gF1) false (cs sG10 sF1) (oM (cg gG4 gF0) (cs sG10 sF1) (eO)) (
  oG (cg gG9 gF1) false (cs sG11 sF1) (o1 (fadT 1) (cg gG3 gF0) (cs sG11 sF1) (eO)) (
  oG (cg gG9 gF1) false (cs sG12 sF1) (oD ld1T (cg gG11 gF1) (cs sG12 sF1) (eO)) (
  oG (cg gG9 gF1) false (cs sG13 sF1) (oF fn121 [(cg gG12 gF1)] (cs sG13 sF1) (eO)) (
  oG (cg gG9 gF1) false (cs sG14 sF1) (o2 (arithK .geq) (cg gG10 gF1) (cg gG13 gF1) (cs sG14 sF1) (eO)) (
  oG (cg gG9 gF1) false (cs sG15 sF1) (oM (cg gG14 gF1) (cs sG15 sF1) (eO)) (
  oG (cg gG15 gF1) true (cs sG0 sF2) (oM (cg gG0 gF0) (cs sG0 sF2) (eO)) (
  oG (cg gG15 gF1) true (cs sG1 sF2) (oM (cg gG0 gF0) (cs sG1 sF2) (eO)) (
  oG (cg gG15 gF1) true (cs sG2 sF2) (o1 (fadT 0) (cg gG3 gF0) (cs sG2 sF2) (eO)) (
  oG (cg gG15 gF1) true (cs sG3 sF2) (oD ld1T (cg gG2 gF2) (cs sG3 sF2) (eO)) (
  oG (cg gG15 gF1) true (cs sG4 sF2) (oM (cg gG4 gF0) (cs sG4 sF2) (eO)) (
  oG (cg gG15 gF1) true (cs sG5 sF2) (oF fn79 [(cg gG1 gF2), (cg gG3 gF2), (cg gG4 gF2)] (cs sG5 sF2) (eO)) (
  oG (cg gG15 gF1) true (cs sG6 sF2) (oF fn80 [(cg gG0 gF2), (cg gG5 gF2)] (cs sG6 sF2) (eO)) (
  oG (cg gG15 gF1) true (cs sG7 sF2) (o1 (unT .not) (cg gG6 gF2) (cs sG7 sF2) (eO)) (
  oG (cg gG9 gF1) false (cs sG8 sF2) (o3 pickT (cg gG15 gF1) (cg gG7 gF2) (gC (.bool false)) (cs sG8 sF2) (eO)) (
  o3 pickT (cg gG9 gF1) (gC (.bool true)) (cg gG8 gF2) (cs sG9 sF2) (
  eO))))))))))))))))))))))))))))
 (cC (cg gG9 gF2) (cS (cO (oM (gC (.bool false)) (cs sG2 sF0) (
  eO)))
 (cR))
 (cSk)))))
 (cO (o2 (arithK .add) (cg gG13 gF0) (gC (.int .i64 1)) (cs sG10 sF2) (
  oM (cg gG10 gF2) (cs sG13 sF0) (
  eO))))))))))
 (cS (cO (oM (gC (.bool true)) (cs sG2 sF0) (
  eO)))
 (cR)))))
def fn76 : Fc := fnT [(cs sG0 sF0)] (r1 (cg gG2 gF0)) co76
theorem se76 : FnS E 76 fn76 := fnOk (gv := gvT) (tab := asc [(78, fn78), (79, fn79), (80, fn80), (121, fn121)]) (tabv := tabv2) (yl := ylv) (q := 1) (rf := rf76) (fun _ => rfl) (asc_cons se78 (asc_cons se79 (asc_cons se80 (asc_cons se121 asc_nil)))) htabv2 hylv (by kernel_rfl) (by kernel_rfl) (by kernel_rfl)
def co34 : Cd := cS (cO (oM (gC (.bool false)) (cs sG2 sF0) (
  eO)))
 (cS (cS (cO (oM (cg gG0 gF0) (cs sG9 sF0) (
  o2 (eqT false .ptr) (cg gG9 gF0) (gC .nilp) (cs sG10 sF0) (
  oM (cg gG10 gF0) (cs sG11 sF0) (
  oG (cg gG11 gF0) false (cs sG12 sF0) (oM (cg gG0 gF0) (cs sG12 sF0) (eO)) (
  oG (cg gG11 gF0) false (cs sG13 sF0) (oF fn28 [(cg gG12 gF0)] (cs sG13 sF0) (eO)) (
  oG (cg gG11 gF0) false (cs sG14 sF0) (oF fn70 [(cg gG13 gF0)] (cs sG14 sF0) (eO)) (
  oG (cg gG11 gF0) false (cs sG15 sF0) (oF fn75 [(cg gG14 gF0)] (cs sG15 sF0) (eO)) (
  o3 pickT (cg gG11 gF0) (gC (.bool true)) (cg gG15 gF0) (cs sG0 sF1) (
  eO))))))))))
 (cC (cg gG0 gF1) (cS (cO (oM (gC (.bool false)) (cs sG2 sF0) (
  eO)))
 (cR))
 (cSk)))
 (cS (cO (oM (cg gG0 gF0) (cs sG1 sF1) (
  oF fn22 [(cg gG1 gF1)] (cs sG2 sF1) (
  o1 (fldT 0 1 false) (cg gG2 gF1) (cs sG3 sF1) (
  oM (cg gG3 gF1) (cs sG3 sF0) (
  eO))))))
 (cS (cO (oM (cg gG0 gF0) (cs sG5 sF1) (
  oF fn31 [(cg gG5 gF1)] (cs sG6 sF1) (
  oM (cg gG6 gF1) (cs sG4 sF1) (
  o1 (extT 0) (cg gG4 gF1) (cs sG7 sF1) (
  o1 (extT 1) (cg gG4 gF1) (cs sG8 sF1) (
  oM (cg gG7 gF1) (cs sG4 sF0) (
  oM (cg gG8 gF1) (cs sG5 sF0) (
  eO)))))))))
 (cS (cO (oM (cg gG0 gF0) (cs sG10 sF1) (
  oF fn32 [(cg gG10 gF1)] (cs sG11 sF1) (
  oM (cg gG11 gF1) (cs sG9 sF1) (
  o1 (extT 0) (cg gG9 gF1) (cs sG12 sF1) (
  o1 (extT 1) (cg gG9 gF1) (cs sG13 sF1) (
  oM (cg gG12 gF1) (cs sG6 sF0) (
  oM (cg gG13 gF1) (cs sG7 sF0) (
  eO)))))))))
 (cS (cS (cO (oM (cg gG7 gF0) (cs sG14 sF1) (
  o1 (unT .not) (cg gG14 gF1) (cs sG15 sF1) (
  oM (cg gG15 gF1) (cs sG0 sF2) (
  oG (cg gG0 gF2) false (cs sG1 sF2) (oM (cg gG4 gF0) (cs sG1 sF2) (eO)) (
  oG (cg gG0 gF2) false (cs sG2 sF2) (o1 lenLT (cg gG1 gF2) (cs sG2 sF2) (eO)) (
  oG (cg gG0 gF2) false (cs sG3 sF2) (oM (cg gG3 gF0) (cs sG3 sF2) (eO)) (
  oG (cg gG0 gF2) false (cs sG4 sF2) (o2 (arithK .neq) (cg gG2 gF2) (cg gG3 gF2) (cs sG4 sF2) (eO)) (
  o3 pickT (cg gG0 gF2) (gC (.bool true)) (cg gG4 gF2) (cs sG5 sF2) (
  oM (cg gG5 gF2) (cs sG6 sF2) (
  oG (cg gG6 gF2) false (cs sG7 sF2) (oM (cg gG6 gF0) (cs sG7 sF2) (eO)) (
  oG (cg gG6 gF2) false (cs sG8 sF2) (o1 lenLT (cg gG7 gF2) (cs sG8 sF2) (eO)) (
  oG (cg gG6 gF2) false (cs sG9 sF2) (o2 (arithK .gtr) (cg gG8 gF2) (gC (.int .i64 0)) (cs sG9 sF2) (eO)) (
  o3 pickT (cg gG6 gF2) (gC (.bool true)) (cg gG9 gF2) (cs sG10 sF2) (
  eO)))))))))))))))
 (cC (cg gG10 gF2) (cS (cO (oM (gC (.bool false)) (cs sG2 sF0) (
  eO)))
 (cR))
 (cSk)))
 (cS (cS (cO (oM (cg gG3 gF0) (cs sG11 sF2) (
  oM (gC (.int .i64 0)) (cs sG12 sF2) (
  eO))))
 (cB 0 (cL (cS (cO (o2 (arithK .lss) (cg gG12 gF2) (cg gG11 gF2) (cs sG13 sF2) (
  eO)))
 (cS (cC (cg gG13 gF2) (cSk)
 (cE 0))
 (cS (cB 1 (cS (cO (oM (cg gG12 gF2) (cs sG14 sF2) (
  oM (cg gG14 gF2) (cs sG8 sF0) (
  eO))))
 (cS (cO (oM (cg gG0 gF0) (cs sG15 sF2) (
  oM (cg gG8 gF0) (cs sG0 sF3) (
  oF fn25 [(cg gG15 gF2), (cg gG0 gF3)] (cs sG1 sF3) (
  oF fn12 [(cg gG1 gF3)] (cs sG2 sF3) (
  oM (cg gG2 gF3) (cs sG3 sF3) (
  oG (cg gG3 gF3) false (cs sG4 sF3) (oM (cg gG0 gF0) (cs sG4 sF3) (eO)) (
  oG (cg gG3 gF3) false (cs sG5 sF3) (oM (cg gG8 gF0) (cs sG5 sF3) (eO)) (
  oG (cg gG3 gF3) false (cs sG6 sF3) (oF fn25 [(cg gG4 gF3), (cg gG5 gF3)] (cs sG6 sF3) (eO)) (
  oG (cg gG3 gF3) false (cs sG7 sF3) (oF fn18 [(cg gG6 gF3)] (cs sG7 sF3) (eO)) (
  oG (cg gG3 gF3) false (cs sG8 sF3) (oF fn76 [(cg gG7 gF3)] (cs sG8 sF3) (eO)) (
  oG (cg gG3 gF3) false (cs sG9 sF3) (o1 (unT .not) (cg gG8 gF3) (cs sG9 sF3) (eO)) (
  o3 pickT (cg gG3 gF3) (gC (.bool true)) (cg gG9 gF3) (cs sG10 sF3) (
  eO))))))))))))))
 (cC (cg gG10 gF3) (cS (cO (oM (gC (.bool false)) (cs sG2 sF0) (
  eO)))
 (cR))
 (cSk)))))
 (cO (o2 (arithK .add) (cg gG12 gF2) (gC (.int .i64 1)) (cs sG11 sF3) (
  oM (cg gG11 gF3) (cs sG12 sF2) (
  eO))))))))))
 (cS (cO (oM (gC (.bool true)) (cs sG2 sF0) (
  eO)))
 (cR))))))))
def fn34 : Fc := fnT [(cs sG0 sF0)] (r1 (cg gG2 gF0)) co34
theorem se34 : FnS E 34 fn34 := fnOk (gv := gvT) (tab := asc [(28, fn28), (70, fn70), (75, fn75), (22, fn22), (31, fn31), (32, fn32), (25, fn25), (12, fn12), (18, fn18), (76, fn76)]) (tabv := tabv2) (yl := ylv) (q := 1) (rf := rf34) (fun _ => rfl) (asc_cons se28 (asc_cons se70 (asc_cons se75 (asc_cons se22 (asc_cons se31 (asc_cons se32 (asc_cons se25 (asc_cons se12 (asc_cons se18 (asc_cons se76 asc_nil)))))))))) htabv2 hylv (by kernel_rfl) (by kernel_rfl) (by kernel_rfl)
def co33 : Cd := cS (cO (oM (gC (.bool false)) (cs sG0 sF0) (
  eO)))
 (cS (cO (oN (buildT [(.int .i64 0), (.int .i64 0), (.int .i64 0), (.int .i64 0), (.int .i64 0)] [(0, 1), (1, 1), (2, 1), (4, 1)]) [(gC (.int .i64 3)), (gC (.int .i64 1)), (gC (.int .i64 1)), (gC (.int .i64 50))] (cs sG8 sF0) (
  oF fn20 [(cg gG8 gF0)] (cs sG9 sF0) (
  oM (cg gG9 gF0) (cs sG7 sF0) (
  o1 (extT 0) (cg gG7 gF0) (cs sG10 sF0) (
  o1 (extT 1) (cg gG7 gF0) (cs sG11 sF0) (
  oM (cg gG10 gF0) (cs sG1 sF0) (
  oM (cg gG11 gF0) (cs sG2 sF0) (
  eO)))))))))
 (cS (cO (oM (cg gG1 gF0) (cs sG13 sF0) (
  oF fn31 [(cg gG13 gF0)] (cs sG14 sF0) (
  oM (cg gG14 gF0) (cs sG12 sF0) (
  o1 (extT 0) (cg gG12 gF0) (cs sG15 sF0) (
  o1 (extT 1) (cg gG12 gF0) (cs sG0 sF1) (
  oM (cg gG15 gF0) (cs sG3 sF0) (
  oM (cg gG0 gF1) (cs sG4 sF0) (
  eO)))))))))
 (cS (cO (oM (cg gG1 gF0) (cs sG2 sF1) (
  oF fn32 [(cg gG2 gF1)] (cs sG3 sF1) (
  oM (cg gG3 gF1) (cs sG1 sF1) (
  o1 (extT 0) (cg gG1 gF1) (cs sG4 sF1) (
  o1 (extT 1) (cg gG1 gF1) (cs sG5 sF1) (
  oM (cg gG4 gF1) (cs sG5 sF0) (
  oM (cg gG5 gF1) (cs sG6 sF0) (
  eO)))))))))
 (cS (cO (oM (cg gG2 gF0) (cs sG6 sF1) (
  o2 (arithK .eql) (cg gG6 gF1) (gC (.int .i64 0)) (cs sG7 sF1) (
  oM (cg gG7 gF1) (cs sG8 sF1) (
  oG (cg gG8 gF1) true (cs sG9 sF1) (oM (cg gG3 gF0) (cs sG9 sF1) (eO)) (
  oG (cg gG8 gF1) true (cs sG10 sF1) (o1 lenLT (cg gG9 gF1) (cs sG10 sF1) (eO)) (
  oG (cg gG8 gF1) true (cs sG11 sF1) (o2 (arithK .eql) (cg gG10 gF1) (gC (.int .i64 3)) (cs sG11 sF1) (eO)) (
  o3 pickT (cg gG8 gF1) (cg gG11 gF1) (gC (.bool false)) (cs sG12 sF1) (
  oM (cg gG12 gF1) (cs sG13 sF1) (
  oG (cg gG13 gF1) true (cs sG14 sF1) (oM (cg gG4 gF0) (cs sG14 sF1) (eO)) (
  oG (cg gG13 gF1) true (cs sG15 sF1) (o1 lenLT (cg gG14 gF1) (cs sG15 sF1) (eO)) (
  oG (cg gG13 gF1) true (cs sG0 sF2) (o2 (arithK .eql) (cg gG15 gF1) (gC (.int .i64 3)) (cs sG0 sF2) (eO)) (
  o3 pickT (cg gG13 gF1) (cg gG0 gF2) (gC (.bool false)) (cs sG1 sF2) (
  oM (cg gG1 gF2) (cs sG2 sF2) (
  oG (cg gG2 gF2) true (cs sG3 sF2) (oM (cg gG6 gF0) (cs sG3 sF2) (eO)) (
  o3 pickT (cg gG2 gF2) (cg gG3 gF2) (gC (.bool false)) (cs sG4 sF2) (
  oM (cg gG4 gF2) (cs sG5 sF2) (
  oG (cg gG5 gF2) true (cs sG6 sF2) (oM (cg gG5 gF0) (cs sG6 sF2) (eO)) (
  oG (cg gG5 gF2) true (cs sG7 sF2) (o1 lenLT (cg gG6 gF2) (cs sG7 sF2) (eO)) (
  oG (cg gG5 gF2) true (cs sG8 sF2) (o2 (arithK .eql) (cg gG7 gF2) (gC (.int .i64 0)) (cs sG8 sF2) (eO)) (
  o3 pickT (cg gG5 gF2) (cg gG8 gF2) (gC (.bool false)) (cs sG9 sF2) (
  oM (cg gG9 gF2) (cs sG10 sF2) (
  oG (cg gG10 gF2) true (cs sG11 sF2) (oM (cg gG1 gF0) (cs sG11 sF2) (eO)) (
  oG (cg gG10 gF2) true (cs sG12 sF2) (oF fn34 [(cg gG11 gF2)] (cs sG12 sF2) (eO)) (
  o3 pickT (cg gG10 gF2) (cg gG12 gF2) (gC (.bool false)) (cs sG13 sF2) (
  oM (cg gG13 gF2) (cs sG0 sF0) (
  eO)))))))))))))))))))))))))))
 (cR)))))
def fn33 : Fc := fnT [] (r1 (cg gG0 gF0)) co33
theorem se33 : FnS E 33 fn33 := fnOk (gv := gvT) (tab := asc [(20, fn20), (31, fn31), (32, fn32), (34, fn34)]) (tabv := tabv2) (yl := ylv) (q := 0) (rf := rf33) (fun _ => rfl) (asc_cons se20 (asc_cons se31 (asc_cons se32 (asc_cons se34 asc_nil)))) htabv2 hylv (by kernel_rfl) (by kernel_rfl) (by kernel_rfl)
def co57 : Cd := cS (cO (oM (gC (.bool false)) (cs sG4 sF0) (
  eO)))
 (cS (cS (cO (oM (cg gG0 gF0) (cs sG6 sF0) (
  o1 lenLT (cg gG6 gF0) (cs sG7 sF0) (
  oM (cg gG1 gF0) (cs sG8 sF0) (
  o1 lenLT (cg gG8 gF0) (cs sG9 sF0) (
  o2 (arithK .neq) (cg gG7 gF0) (cg gG9 gF0) (cs sG10 sF0) (
  eO)))))))
 (cC (cg gG10 gF0) (cS (cO (oM (gC (.bool false)) (cs sG4 sF0) (
  eO)))
 (cR))
 (cSk)))
 (cS (cS (cO (oM (gC (.int .i64 0)) (cs sG5 sF0) (
  eO)))
 (cB 0 (cL (cS (cS (cO (oM (cg gG5 gF0) (cs sG11 sF0) (
  oM (cg gG0 gF0) (cs sG12 sF0) (
  o1 lenLT (cg gG12 gF0) (cs sG13 sF0) (
  o2 (arithK .lss) (cg gG11 gF0) (cg gG13 gF0) (cs sG14 sF0) (
  eO))))))
 (cC (cg gG14 gF0) (cSk)
 (cE 0)))
 (cS (cB 1 (cS (cD [] [iP (oM (cg gG0 gF0) (cs sG1 sF1) (eO)),
  iP (oM (cg gG5 gF0) (cs sG2 sF1) (eO)),
  iP (o2 (iaLT 2) (cg gG1 gF1) (cg gG2 gF1) (cs sG3 sF1) (eO)),
  iP (oD (ldT 2 true) (cg gG3 gF1) (cs sG4 sF1) (eO)),
  iP (oM (cg gG1 gF0) (cs sG5 sF1) (eO)),
  iP (oM (cg gG5 gF0) (cs sG6 sF1) (eO)),
  iP (o2 (iaLT 2) (cg gG5 gF1) (cg gG6 gF1) (cs sG7 sF1) (eO)),
  iP (oD (ldT 2 true) (cg gG7 gF1) (cs sG8 sF1) (eO)),
  iP (o2 (eqT true (.agg [1, 0])) (cg gG4 gF1) (cg gG8 gF1) (cs sG9 sF1) (eO))])
 (cC (cg gG9 gF1) (cS (cO (oM (gC (.bool false)) (cs sG4 sF0) (
  eO)))
 (cR))
 (cSk))))
 (cO (oM (cg gG5 gF0) (cs sG15 sF0) (
  o2 (arithK .add) (cg gG15 gF0) (gC (.int .i64 1)) (cs sG0 sF1) (
  oM (cg gG0 gF1) (cs sG5 sF0) (
  eO))))))))))
 (cS (cO (oM (gC (.bool true)) (cs sG4 sF0) (
  eO)))
 (cR))))
def fn57 : Fc := fnT [(cs sG0 sF0), (cs sG1 sF0)] (r1 (cg gG4 gF0)) co57
theorem se57 : FnS E 57 fn57 := fnOk (gv := gvT) (tab := asc []) (tabv := tabv2) (yl := ylv) (q := 2) (rf := rf57) (fun _ => rfl) asc_nil htabv2 hylv (by kernel_rfl) (by kernel_rfl) (by kernel_rfl)
def co26 : Cd := cS (cO (oW1 (boxT 5) (cg gG0 gF0) (cs sG2 sF0) (
  oW1 (boxT 5) (cg gG1 gF0) (cs sG3 sF0) (
  oM (gC (.bool false)) (cs sG4 sF0) (
  eO)))))
 (cS (cS (cO (o1 (fadT 0) (cg gG2 gF0) (cs sG6 sF0) (
  oD ld1T (cg gG6 gF0) (cs sG7 sF0) (
  o1 (fadT 0) (cg gG3 gF0) (cs sG8 sF0) (
  oD ld1T (cg gG8 gF0) (cs sG9 sF0) (
  o2 (arithK .neq) (cg gG7 gF0) (cg gG9 gF0) (cs sG10 sF0) (
  oM (cg gG10 gF0) (cs sG11 sF0) (
  oG (cg gG11 gF0) false (cs sG12 sF0) (o1 (fadT 1) (cg gG2 gF0) (cs sG12 sF0) (eO)) (
  oG (cg gG11 gF0) false (cs sG13 sF0) (oD ld1T (cg gG12 gF0) (cs sG13 sF0) (eO)) (
  oG (cg gG11 gF0) false (cs sG14 sF0) (o1 (fadT 1) (cg gG3 gF0) (cs sG14 sF0) (eO)) (
  oG (cg gG11 gF0) false (cs sG15 sF0) (oD ld1T (cg gG14 gF0) (cs sG15 sF0) (eO)) (
  oG (cg gG11 gF0) false (cs sG0 sF1) (o2 (eqT true .bool) (cg gG13 gF0) (cg gG15 gF0) (cs sG0 sF1) (eO)) (
  o3 pickT (cg gG11 gF0) (gC (.bool true)) (cg gG0 gF1) (cs sG1 sF1) (
  oM (cg gG1 gF1) (cs sG2 sF1) (
  oG (cg gG2 gF1) false (cs sG3 sF1) (o1 (fadT 2) (cg gG2 gF0) (cs sG3 sF1) (eO)) (
  oG (cg gG2 gF1) false (cs sG4 sF1) (oD ld1T (cg gG3 gF1) (cs sG4 sF1) (eO)) (
  oG (cg gG2 gF1) false (cs sG5 sF1) (oD b2sT (cg gG4 gF1) (cs sG5 sF1) (eO)) (
  oG (cg gG2 gF1) false (cs sG6 sF1) (o1 (fadT 2) (cg gG3 gF0) (cs sG6 sF1) (eO)) (
  oG (cg gG2 gF1) false (cs sG7 sF1) (oD ld1T (cg gG6 gF1) (cs sG7 sF1) (eO)) (
  oG (cg gG2 gF1) false (cs sG8 sF1) (oD b2sT (cg gG7 gF1) (cs sG8 sF1) (eO)) (
  oG (cg gG2 gF1) false (cs sG9 sF1) (o2 (arithK .neq) (cg gG5 gF1) (cg gG8 gF1) (cs sG9 sF1) (eO)) (
  o3 pickT (cg gG2 gF1) (gC (.bool true)) (cg gG9 gF1) (cs sG10 sF1) (
  oM (cg gG10 gF1) (cs sG11 sF1) (
  oG (cg gG11 gF1) false (cs sG12 sF1) (o1 (fadT 3) (cg gG2 gF0) (cs sG12 sF1) (eO)) (
  oG (cg gG11 gF1) false (cs sG13 sF1) (oD ld1T (cg gG12 gF1) (cs sG13 sF1) (eO)) (
  oG (cg gG11 gF1) false (cs sG14 sF1) (o1 (fadT 3) (cg gG3 gF0) (cs sG14 sF1) (eO)) (
  oG (cg gG11 gF1) false (cs sG15 sF1) (oD ld1T (cg gG14 gF1) (cs sG15 sF1) (eO)) (
  oG (cg gG11 gF1) false (cs sG0 sF2) (oF fn57 [(cg gG13 gF1), (cg gG15 gF1)] (cs sG0 sF2) (eO)) (
  oG (cg gG11 gF1) false (cs sG1 sF2) (o1 (unT .not) (cg gG0 gF2) (cs sG1 sF2) (eO)) (
  o3 pickT (cg gG11 gF1) (gC (.bool true)) (cg gG1 gF2) (cs sG2 sF2) (
  oM (cg gG2 gF2) (cs sG3 sF2) (
  oG (cg gG3 gF2) false (cs sG4 sF2) (o1 (fadT 4) (cg gG2 gF0) (cs sG4 sF2) (eO)) (
  oG (cg gG3 gF2) false (cs sG5 sF2) (oD ld1T (cg gG4 gF2) (cs sG5 sF2) (eO)) (
  oG (cg gG3 gF2) false (cs sG6 sF2) (o1 lenLT (cg gG5 gF2) (cs sG6 sF2) (eO)) (
  oG (cg gG3 gF2) false (cs sG7 sF2) (o1 (fadT 4) (cg gG3 gF0) (cs sG7 sF2) (eO)) (
  oG (cg gG3 gF2) false (cs sG8 sF2) (oD ld1T (cg gG7 gF2) (cs sG8 sF2) (eO)) (
  oG (cg gG3 gF2) false (cs sG9 sF2) (o1 lenLT (cg gG8 gF2) (cs sG9 sF2) (eO)) (
  oG (cg gG3 gF2) false (cs sG10 sF2) (o2 (arithK .neq) (cg gG6 gF2) (cg gG9 gF2) (cs sG10 sF2) (eO)) (
  o3 pickT (cg gG3 gF2) (gC (.bool true)) (cg gG10 gF2) (cs sG11 sF2) (
  eO))))))))))))))))))))))))))))))))))))))))
 (cC (cg gG11 gF2) (cS (cO (oM (gC (.bool false)) (cs sG4 sF0) (
  eO)))
 (cR))
 (cSk)))
 (cS (cS (cO (oM (gC (.int .i64 0)) (cs sG5 sF0) (
  eO)))
 (cB 0 (cL (cS (cS (cO (oM (cg gG5 gF0) (cs sG12 sF2) (
  o1 (fadT 4) (cg gG2 gF0) (cs sG13 sF2) (
  oD ld1T (cg gG13 gF2) (cs sG14 sF2) (
  o1 lenLT (cg gG14 gF2) (cs sG15 sF2) (
  o2 (arithK .lss) (cg gG12 gF2) (cg gG15 gF2) (cs sG0 sF3) (
  eO)))))))
 (cC (cg gG0 gF3) (cSk)
 (cE 0)))
 (cS (cB 1 (cS (cD [] [iP (o1 (fadT 4) (cg gG2 gF0) (cs sG3 sF3) (eO)),
  iP (oD ld1T (cg gG3 gF3) (cs sG4 sF3) (eO)),
  iP (oM (cg gG5 gF0) (cs sG5 sF3) (eO)),
  iP (o2 (iaLT 1) (cg gG4 gF3) (cg gG5 gF3) (cs sG6 sF3) (eO)),
  iP (oD ld1T (cg gG6 gF3) (cs sG7 sF3) (eO)),
  iP (o1 (fadT 4) (cg gG3 gF0) (cs sG8 sF3) (eO)),
  iP (oD ld1T (cg gG8 gF3) (cs sG9 sF3) (eO)),
  iP (oM (cg gG5 gF0) (cs sG10 sF3) (eO)),
  iP (o2 (iaLT 1) (cg gG9 gF3) (cg gG10 gF3) (cs sG11 sF3) (eO)),
  iP (oD ld1T (cg gG11 gF3) (cs sG12 sF3) (eO)),
  iP (o2 (arithK .neq) (cg gG7 gF3) (cg gG12 gF3) (cs sG13 sF3) (eO))])
 (cC (cg gG13 gF3) (cS (cO (oM (gC (.bool false)) (cs sG4 sF0) (
  eO)))
 (cR))
 (cSk))))
 (cO (oM (cg gG5 gF0) (cs sG1 sF3) (
  o2 (arithK .add) (cg gG1 gF3) (gC (.int .i64 1)) (cs sG2 sF3) (
  oM (cg gG2 gF3) (cs sG5 sF0) (
  eO))))))))))
 (cS (cO (oM (gC (.bool true)) (cs sG4 sF0) (
  eO)))
 (cR))))
def fn26 : Fc := fnT [(cs sG0 sF0), (cs sG1 sF0)] (r1 (cg gG4 gF0)) co26
theorem se26 : FnS E 26 fn26 := fnOk (gv := gvT) (tab := asc [(57, fn57)]) (tabv := tabv2) (yl := ylv) (q := 2) (rf := rf26) (fun _ => rfl) (asc_cons se57 asc_nil) htabv2 hylv (by kernel_rfl) (by kernel_rfl) (by kernel_rfl)
def co6 : Cd := cS (cO (oM (gC (.bool false)) (cs sG2 sF0) (
  eO)))
 (cS (cO (oM (cg gG0 gF0) (cs sG10 sF0) (
  oF fn30 [(gC .nilp), (cg gG10 gF0)] (cs sG11 sF0) (
  oM (cg gG11 gF0) (cs sG9 sF0) (
  o1 (extT 0) (cg gG9 gF0) (cs sG12 sF0) (
  o1 (extT 1) (cg gG9 gF0) (cs sG13 sF0) (
  oW0 (allocT [(.int .i64 0), (.bool false), .nils, .nils, .nils]) (cs sG3 sF0) (
  oW2 (storeT 5) (cg gG3 gF0) (cg gG12 gF0) s0 (
  oM (cg gG13 gF0) (cs sG4 sF0) (
  eO))))))))))
 (cS (cO (oF fn31 [(gC .nilp)] (cs sG15 sF0) (
  oM (cg gG15 gF0) (cs sG14 sF0) (
  o1 (extT 0) (cg gG14 gF0) (cs sG0 sF1) (
  o1 (extT 1) (cg gG14 gF0) (cs sG1 sF1) (
  oM (cg gG0 gF1) (cs sG5 sF0) (
  oM (cg gG1 gF1) (cs sG6 sF0) (
  eO))))))))
 (cS (cO (oF fn32 [(gC .nilp)] (cs sG3 sF1) (
  oM (cg gG3 gF1) (cs sG2 sF1) (
  o1 (extT 0) (cg gG2 gF1) (cs sG4 sF1) (
  o1 (extT 1) (cg gG2 gF1) (cs sG5 sF1) (
  oM (cg gG4 gF1) (cs sG7 sF0) (
  oM (cg gG5 gF1) (cs sG8 sF0) (
  eO))))))))
 (cS (cO (oF fn33 [] (cs sG6 sF1) (
  oM (cg gG6 gF1) (cs sG7 sF1) (
  oG (cg gG7 gF1) true (cs sG8 sF1) (oM (cg gG4 gF0) (cs sG8 sF1) (eO)) (
  oG (cg gG7 gF1) true (cs sG9 sF1) (o1 (unT .not) (cg gG8 gF1) (cs sG9 sF1) (eO)) (
  o3 pickT (cg gG7 gF1) (cg gG9 gF1) (gC (.bool false)) (cs sG10 sF1) (
  oM (cg gG10 gF1) (cs sG11 sF1) (
  oG (cg gG11 gF1) true (cs sG12 sF1) (oD (ldT 5 true) (cg gG3 gF0) (cs sG12 sF1) (eO)) (
  oG (cg gG11 gF1) true (cs sG13 sF1) (oN (buildT [(.int .i64 0), (.bool false), .nils, .nils, .nils] []) [] (cs sG13 sF1) (eO)) (
  oG (cg gG11 gF1) true (cs sG14 sF1) (oF fn26 [(cg gG12 gF1), (cg gG13 gF1)] (cs sG14 sF1) (eO)) (
  o3 pickT (cg gG11 gF1) (cg gG14 gF1) (gC (.bool false)) (cs sG15 sF1) (
  oM (cg gG15 gF1) (cs sG0 sF2) (
  oG (cg gG0 gF2) true (cs sG1 sF2) (oM (cg gG5 gF0) (cs sG1 sF2) (eO)) (
  oG (cg gG0 gF2) true (cs sG2 sF2) (o1 lenLT (cg gG1 gF2) (cs sG2 sF2) (eO)) (
  oG (cg gG0 gF2) true (cs sG3 sF2) (o2 (arithK .eql) (cg gG2 gF2) (gC (.int .i64 0)) (cs sG3 sF2) (eO)) (
  o3 pickT (cg gG0 gF2) (cg gG3 gF2) (gC (.bool false)) (cs sG4 sF2) (
  oM (cg gG4 gF2) (cs sG5 sF2) (
  oG (cg gG5 gF2) true (cs sG6 sF2) (oM (cg gG6 gF0) (cs sG6 sF2) (eO)) (
  oG (cg gG5 gF2) true (cs sG7 sF2) (o1 lenLT (cg gG6 gF2) (cs sG7 sF2) (eO)) (
  oG (cg gG5 gF2) true (cs sG8 sF2) (o2 (arithK .eql) (cg gG7 gF2) (gC (.int .i64 0)) (cs sG8 sF2) (eO)) (
  o3 pickT (cg gG5 gF2) (cg gG8 gF2) (gC (.bool false)) (cs sG9 sF2) (
  oM (cg gG9 gF2) (cs sG10 sF2) (
  oG (cg gG10 gF2) true (cs sG11 sF2) (oM (cg gG7 gF0) (cs sG11 sF2) (eO)) (
  oG (cg gG10 gF2) true (cs sG12 sF2) (o1 lenLT (cg gG11 gF2) (cs sG12 sF2) (eO)) (
  oG (cg gG10 gF2) true (cs sG13 sF2) (o2 (arithK .eql) (cg gG12 gF2) (gC (.int .i64 0)) (cs sG13 sF2) (eO)) (
  o3 pickT (cg gG10 gF2) (cg gG13 gF2) (gC (.bool false)) (cs sG14 sF2) (
  oM (cg gG14 gF2) (cs sG15 sF2) (
  oG (cg gG15 gF2) true (cs sG0 sF3) (oM (cg gG8 gF0) (cs sG0 sF3) (eO)) (
  oG (cg gG15 gF2) true (cs sG1 sF3) (o1 (unT .not) (cg gG0 gF3) (cs sG1 sF3) (eO)) (
  o3 pickT (cg gG15 gF2) (cg gG1 gF3) (gC (.bool false)) (cs sG2 sF3) (
  oM (cg gG2 gF3) (cs sG3 sF3) (
  oG (cg gG3 gF3) true (cs sG4 sF3) (oF fn34 [(gC .nilp)] (cs sG4 sF3) (eO)) (
  oG (cg gG3 gF3) true (cs sG5 sF3) (o1 (unT .not) (cg gG4 gF3) (cs sG5 sF3) (eO)) (
  o3 pickT (cg gG3 gF3) (cg gG5 gF3) (gC (.bool false)) (cs sG6 sF3) (
  oM (cg gG6 gF3) (cs sG2 sF0) (
  eO))))))))))))))))))))))))))))))))))))
 (cR)))))
def fn6 : Fc := fnT [(cs sG0 sF0)] (r1 (cg gG2 gF0)) co6
theorem se6 : FnS E 6 fn6 := fnOk (gv := gvT) (tab := asc [(30, fn30), (31, fn31), (32, fn32), (33, fn33), (26, fn26), (34, fn34)]) (tabv := tabv2) (yl := ylv) (q := 1) (rf := rf6) (fun _ => rfl) (asc_cons se30 (asc_cons se31 (asc_cons se32 (asc_cons se33 (asc_cons se26 (asc_cons se34 asc_nil)))))) htabv2 hylv (by kernel_rfl) (by kernel_rfl) (by kernel_rfl)
end
end Go.Proofs.YtnhbkimefglkiaaGreatDoor.HealthNone
