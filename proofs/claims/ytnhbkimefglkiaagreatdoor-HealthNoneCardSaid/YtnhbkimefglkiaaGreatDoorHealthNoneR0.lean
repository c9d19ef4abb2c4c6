/- Printed by a program of this session (mkclaim.py): functions of the given program as code, and as threaded code. -/
import Derived.Test.YtnhbkimefglkiaaGreatDoorHealthNoneA
namespace Go.Proofs.YtnhbkimefglkiaaGreatDoor.HealthNone
open Go Go.Ai
set_option maxRecDepth 100000
set_option maxHeartbeats 0
def rf6 : RF := RF.mk 55 [.t 2] false (
 .seq (.ops [ROp.mk (some 2) none (.p (.mv (.c (.bool false))))])
 (.seq (.ops [ROp.mk (some 10) none (.p (.mv (.t 0))),
  ROp.mk (some 11) none (.w (.call 30 [(.c .nilp), (.t 10)])),
  ROp.mk (some 9) none (.p (.mv (.t 11))),
  ROp.mk (some 12) none (.p (.ext (.t 9) 0)),
  ROp.mk (some 13) none (.p (.ext (.t 9) 1)),
  ROp.mk (some 3) none (.w (.alloc [(.int .i64 0), (.bool false), .nils, .nils, .nils])),
  ROp.mk none none (.w (.store 5 (.t 3) (.t 12))),
  ROp.mk (some 4) none (.p (.mv (.t 13)))])
 (.seq (.ops [ROp.mk (some 15) none (.w (.call 31 [(.c .nilp)])),
  ROp.mk (some 14) none (.p (.mv (.t 15))),
  ROp.mk (some 16) none (.p (.ext (.t 14) 0)),
  ROp.mk (some 17) none (.p (.ext (.t 14) 1)),
  ROp.mk (some 5) none (.p (.mv (.t 16))),
  ROp.mk (some 6) none (.p (.mv (.t 17)))])
 (.seq (.ops [ROp.mk (some 19) none (.w (.call 32 [(.c .nilp)])),
  ROp.mk (some 18) none (.p (.mv (.t 19))),
  ROp.mk (some 20) none (.p (.ext (.t 18) 0)),
  ROp.mk (some 21) none (.p (.ext (.t 18) 1)),
  ROp.mk (some 7) none (.p (.mv (.t 20))),
  ROp.mk (some 8) none (.p (.mv (.t 21)))])
 (.seq (.ops [ROp.mk (some 22) none (.w (.call 33 [])),
  ROp.mk (some 23) none (.p (.mv (.t 22))),
  ROp.mk (some 24) (some (23, true)) (.p (.mv (.t 4))),
  ROp.mk (some 25) (some (23, true)) (.p (.un .not (.t 24))),
  ROp.mk (some 26) none (.p (.pick (.t 23) (.t 25) (.c (.bool false)))),
  ROp.mk (some 27) none (.p (.mv (.t 26))),
  ROp.mk (some 28) (some (27, true)) (.d (.load 5 true (.t 3))),
  ROp.mk (some 29) (some (27, true)) (.p (.build [(.int .i64 0), (.bool false), .nils, .nils, .nils] [])),
  ROp.mk (some 30) (some (27, true)) (.w (.call 26 [(.t 28), (.t 29)])),
  ROp.mk (some 31) none (.p (.pick (.t 27) (.t 30) (.c (.bool false)))),
  ROp.mk (some 32) none (.p (.mv (.t 31))),
  ROp.mk (some 33) (some (32, true)) (.p (.mv (.t 5))),
  ROp.mk (some 34) (some (32, true)) (.p (.lenL (.t 33))),
  ROp.mk (some 35) (some (32, true)) (.p (.arith .eql (.t 34) (.c (.int .i64 0)))),
  ROp.mk (some 36) none (.p (.pick (.t 32) (.t 35) (.c (.bool false)))),
  ROp.mk (some 37) none (.p (.mv (.t 36))),
  ROp.mk (some 38) (some (37, true)) (.p (.mv (.t 6))),
  ROp.mk (some 39) (some (37, true)) (.p (.lenL (.t 38))),
  ROp.mk (some 40) (some (37, true)) (.p (.arith .eql (.t 39) (.c (.int .i64 0)))),
  ROp.mk (some 41) none (.p (.pick (.t 37) (.t 40) (.c (.bool false)))),
  ROp.mk (some 42) none (.p (.mv (.t 41))),
  ROp.mk (some 43) (some (42, true)) (.p (.mv (.t 7))),
  ROp.mk (some 44) (some (42, true)) (.p (.lenL (.t 43))),
  ROp.mk (some 45) (some (42, true)) (.p (.arith .eql (.t 44) (.c (.int .i64 0)))),
  ROp.mk (some 46) none (.p (.pick (.t 42) (.t 45) (.c (.bool false)))),
  ROp.mk (some 47) none (.p (.mv (.t 46))),
  ROp.mk (some 48) (some (47, true)) (.p (.mv (.t 8))),
  ROp.mk (some 49) (some (47, true)) (.p (.un .not (.t 48))),
  ROp.mk (some 50) none (.p (.pick (.t 47) (.t 49) (.c (.bool false)))),
  ROp.mk (some 51) none (.p (.mv (.t 50))),
  ROp.mk (some 52) (some (51, true)) (.w (.call 34 [(.c .nilp)])),
  ROp.mk (some 53) (some (51, true)) (.p (.un .not (.t 52))),
  ROp.mk (some 54) none (.p (.pick (.t 51) (.t 53) (.c (.bool false)))),
  ROp.mk (some 2) none (.p (.mv (.t 54)))])
 (.ret))))))
theorem ok6 : rFun Tryz.prog an 6 = some rf6 := by kernel_rfl

def rf12 : RF := RF.mk 18 [.t 2] false (
 .seq (.ops [ROp.mk (some 2) none (.p (.mv (.c (.bool false))))])
 (.seq (.ops [ROp.mk (some 3) none (.p (.mv (.t 0))),
  ROp.mk (some 4) none (.p (.eq true .ptr (.t 3) (.c .nilp))),
  ROp.mk (some 5) none (.p (.mv (.t 4))),
  ROp.mk (some 6) (some (5, true)) (.p (.mv (.t 0))),
  ROp.mk (some 7) (some (5, true)) (.p (.nchk (.t 6))),
  ROp.mk (some 8) (some (5, true)) (.p (.fad 9 (.t 7))),
  ROp.mk (some 9) (some (5, true)) (.d (.load 1 false (.t 8))),
  ROp.mk (some 10) (some (5, true)) (.p (.mv (.t 9))),
  ROp.mk (some 11) (some (10, false)) (.p (.mv (.t 0))),
  ROp.mk (some 12) (some (10, false)) (.p (.nchk (.t 11))),
  ROp.mk (some 13) (some (10, false)) (.p (.fad 7 (.t 12))),
  ROp.mk (some 14) (some (10, false)) (.d (.load 1 false (.t 13))),
  ROp.mk (some 15) (some (10, false)) (.w (.call 44 [(.t 14)])),
  ROp.mk (some 16) (some (5, true)) (.p (.pick (.t 10) (.c (.bool true)) (.t 15))),
  ROp.mk (some 17) none (.p (.pick (.t 5) (.t 16) (.c (.bool false)))),
  ROp.mk (some 2) none (.p (.mv (.t 17)))])
 (.ret)))
theorem ok12 : rFun Tryz.prog an 12 = some rf12 := by kernel_rfl

def rf14 : RF := RF.mk 18 [.cell 2 8 true] false (
 .seq (.ops [ROp.mk (some 2) none (.w (.alloc [(.int .i64 0), (.int .i64 0), (.int .i64 0), .nils, (.int .i64 0), (.int .i64 0), (.int .i64 0), .nils]))])
 (.seq (.seq (.ops [ROp.mk (some 5) none (.p (.mv (.t 0))),
  ROp.mk (some 6) none (.p (.eq false .ptr (.t 5) (.c .nilp)))])
 (.cond (.t 6) (.seq (.ops [ROp.mk (some 7) none (.p (.build [(.int .i64 0), (.int .i64 0), (.int .i64 0), .nils, (.int .i64 0), (.int .i64 0), (.int .i64 0), .nils] [])),
   ROp.mk none none (.w (.store 8 (.t 2) (.t 7)))])
  (.ret))
 (.skip)))
 (.seq (.ops [ROp.mk (some 9) none (.p (.mv (.t 0))),
  ROp.mk (some 10) none (.p (.nchk (.t 9))),
  ROp.mk (some 11) none (.p (.fad 7 (.t 10))),
  ROp.mk (some 12) none (.d (.load 1 false (.t 11))),
  ROp.mk (some 13) none (.w (.call 47 [(.t 12)])),
  ROp.mk (some 14) none (.w (.call 46 [(.t 13)])),
  ROp.mk (some 8) none (.p (.mv (.t 14))),
  ROp.mk (some 15) none (.p (.ext (.t 8) 0)),
  ROp.mk (some 16) none (.p (.ext (.t 8) 1)),
  ROp.mk (some 3) none (.w (.alloc [(.int .i64 0), (.int .i64 0), (.int .i64 0), .nils, (.int .i64 0), (.int .i64 0), (.int .i64 0), .nils])),
  ROp.mk none none (.w (.store 8 (.t 3) (.t 15))),
  ROp.mk (some 4) none (.p (.mv (.t 16)))])
 (.seq (.ops [ROp.mk (some 17) none (.d (.load 8 true (.t 3))),
  ROp.mk none none (.w (.store 8 (.t 2) (.t 17)))])
 (.ret)))))
theorem ok14 : rFun Tryz.prog an 14 = some rf14 := by kernel_rfl

def rf18 : RF := RF.mk 9 [.t 2] false (
 .seq (.ops [ROp.mk (some 2) none (.p (.mv (.c .nilp)))])
 (.seq (.seq (.ops [ROp.mk (some 3) none (.p (.mv (.t 0))),
  ROp.mk (some 4) none (.p (.eq false .ptr (.t 3) (.c .nilp)))])
 (.cond (.t 4) (.seq (.ops [ROp.mk (some 2) none (.p (.mv (.c .nilp)))])
  (.ret))
 (.skip)))
 (.seq (.ops [ROp.mk (some 5) none (.p (.mv (.t 0))),
  ROp.mk (some 6) none (.p (.nchk (.t 5))),
  ROp.mk (some 7) none (.p (.fad 7 (.t 6))),
  ROp.mk (some 8) none (.d (.load 1 false (.t 7))),
  ROp.mk (some 2) none (.p (.mv (.t 8)))])
 (.ret))))
theorem ok18 : rFun Tryz.prog an 18 = some rf18 := by kernel_rfl

def rf20 : RF := RF.mk 36 [.t 2, .t 3] false (
 .seq (.ops [ROp.mk (some 1) none (.w (.box 5 (.t 0))),
  ROp.mk (some 2) none (.p (.mv (.c .nilp))),
  ROp.mk (some 3) none (.p (.mv (.c (.int .i64 0))))])
 (.seq (.seq (.ops [ROp.mk (some 6) none (.d (.load 5 true (.t 1))),
  ROp.mk (some 7) none (.w (.call 52 [(.t 6)])),
  ROp.mk (some 8) none (.p (.un .not (.t 7)))])
 (.cond (.t 8) (.seq (.ops [ROp.mk (some 2) none (.p (.mv (.c .nilp))),
   ROp.mk (some 3) none (.p (.mv (.c (.int .i64 1))))])
  (.ret))
 (.skip)))
 (.seq (.draw [(ROp.mk (some 9) none (.d (.load 5 true (.t 1))), .r 0 3),
  (ROp.mk (some 10) none (.d (.load 5 true (.t 1))), .r 0 0),
  (ROp.mk (some 11) none (.w (.call 53 [(.t 10)])), .w),
  (ROp.mk (some 12) none (.d (.load 5 true (.t 1))), .r 0 1),
  (ROp.mk (some 13) none (.w (.call 54 [(.t 12)])), .w),
  (ROp.mk (some 14) none (.w (.call 55 [])), .w),
  (ROp.mk (some 15) none (.p (.build [(.int .i64 0), (.int .i64 0), (.int .i64 0), (.int .i64 0), (.int .i64 0), .nils, .nilp, .nilp, .nilp] [(0, 5, (.t 9)), (6, 1, (.t 11)), (7, 1, (.t 13)), (8, 1, (.t 14))])), .p),
  (ROp.mk (some 16) none (.w (.box 9 (.t 15))), .w),
  (ROp.mk (some 4) none (.p (.mv (.t 16))), .p)] [])
 (.seq (.seq (.ops [ROp.mk (some 17) none (.p (.fad 0 (.t 1))),
  ROp.mk (some 18) none (.d (.load 1 false (.t 17))),
  ROp.mk (some 19) none (.p (.mv (.c (.int .i64 0))))])
 (.block 0 (.loop (.seq (.ops [ROp.mk (some 20) none (.p (.arith .lss (.t 19) (.t 18)))])
   (.seq (.cond (.t 20) (.skip)
   (.exit 0))
   (.seq (.block 1 (.seq (.ops [ROp.mk (some 21) none (.p (.mv (.t 19))),
     ROp.mk (some 5) none (.p (.mv (.t 21)))])
    (.draw [(ROp.mk (some 22) none (.p (.mv (.t 4))), .p),
     (ROp.mk (some 23) none (.p (.mv (.t 4))), .p),
     (ROp.mk (some 24) none (.p (.nchk (.t 23))), .p),
     (ROp.mk (some 25) none (.p (.fad 5 (.t 24))), .p),
     (ROp.mk (some 26) none (.d (.load 1 false (.t 25))), .r 0 1),
     (ROp.mk (some 27) none (.d (.load 5 true (.t 1))), .r 0 0),
     (ROp.mk (some 28) none (.p (.mv (.t 5))), .p),
     (ROp.mk (some 29) none (.w (.call 37 [(.t 27), (.t 28)])), .w),
     (ROp.mk (some 30) none (.p (.mkl [.nilp] 1 1 [(0, 1, (.t 29))])), .p),
     (ROp.mk (some 31) none (.w (.app 1 8 (.t 26) (.t 30))), .w),
     (ROp.mk (some 32) none (.p (.nchk (.t 22))), .p),
     (ROp.mk (some 33) none (.p (.fad 5 (.t 32))), .p),
     (ROp.mk none none (.w (.store 1 (.t 33) (.t 31))), .w)] [])))
   (.ops [ROp.mk (some 34) none (.p (.arith .add (.t 19) (.c (.int .i64 1)))),
    ROp.mk (some 19) none (.p (.mv (.t 34)))])))))))
 (.seq (.ops [ROp.mk (some 35) none (.p (.mv (.t 4))),
  ROp.mk (some 2) none (.p (.mv (.t 35))),
  ROp.mk (some 3) none (.p (.mv (.c (.int .i64 0))))])
 (.ret))))))
theorem ok20 : rFun Tryz.prog an 20 = some rf20 := by kernel_rfl

def rf22 : RF := RF.mk 10 [.cell 2 5 true] false (
 .seq (.ops [ROp.mk (some 2) none (.w (.alloc [(.int .i64 0), (.int .i64 0), (.int .i64 0), (.int .i64 0), (.int .i64 0)]))])
 (.seq (.seq (.ops [ROp.mk (some 3) none (.p (.mv (.t 0))),
  ROp.mk (some 4) none (.p (.eq false .ptr (.t 3) (.c .nilp)))])
 (.cond (.t 4) (.seq (.ops [ROp.mk (some 5) none (.p (.build [(.int .i64 0), (.int .i64 0), (.int .i64 0), (.int .i64 0), (.int .i64 0)] [])),
   ROp.mk none none (.w (.store 5 (.t 2) (.t 5)))])
  (.ret))
 (.skip)))
 (.seq (.ops [ROp.mk (some 6) none (.p (.mv (.t 0))),
  ROp.mk (some 7) none (.p (.nchk (.t 6))),
  ROp.mk (some 8) none (.p (.fad 0 (.t 7))),
  ROp.mk (some 9) none (.d (.load 5 true (.t 8))),
  ROp.mk none none (.w (.store 5 (.t 2) (.t 9)))])
 (.ret))))
theorem ok22 : rFun Tryz.prog an 22 = some rf22 := by kernel_rfl

def rf25 : RF := RF.mk 20 [.t 4] false (
 .seq (.ops [ROp.mk (some 4) none (.p (.mv (.c .nilp)))])
 (.seq (.seq (.ops [ROp.mk (some 5) none (.p (.mv (.t 0))),
  ROp.mk (some 6) none (.p (.eq false .ptr (.t 5) (.c .nilp))),
  ROp.mk (some 7) none (.p (.mv (.t 6))),
  ROp.mk (some 8) (some (7, false)) (.p (.mv (.t 0))),
  ROp.mk (some 9) (some (7, false)) (.p (.mv (.t 1))),
  ROp.mk (some 10) (some (7, false)) (.w (.call 56 [(.t 8), (.t 9)])),
  ROp.mk (some 11) (some (7, false)) (.p (.un .not (.t 10))),
  ROp.mk (some 12) none (.p (.pick (.t 7) (.c (.bool true)) (.t 11)))])
 (.cond (.t 12) (.seq (.ops [ROp.mk (some 4) none (.p (.mv (.c .nilp)))])
  (.ret))
 (.skip)))
 (.seq (.ops [ROp.mk (some 13) none (.p (.mv (.t 0))),
  ROp.mk (some 14) none (.p (.nchk (.t 13))),
  ROp.mk (some 15) none (.p (.fad 5 (.t 14))),
  ROp.mk (some 16) none (.d (.load 1 false (.t 15))),
  ROp.mk (some 17) none (.p (.mv (.t 1))),
  ROp.mk (some 18) none (.p (.iaL 1 (.t 16) (.t 17))),
  ROp.mk (some 19) none (.d (.load 1 false (.t 18))),
  ROp.mk (some 4) none (.p (.mv (.t 19)))])
 (.ret))))
theorem ok25 : rFun Tryz.prog an 25 = some rf25 := by kernel_rfl

def rf26 : RF := RF.mk 62 [.t 4] false (
 .seq (.ops [ROp.mk (some 2) none (.w (.box 5 (.t 0))),
  ROp.mk (some 3) none (.w (.box 5 (.t 1))),
  ROp.mk (some 4) none (.p (.mv (.c (.bool false))))])
 (.seq (.seq (.ops [ROp.mk (some 6) none (.p (.fad 0 (.t 2))),
  ROp.mk (some 7) none (.d (.load 1 false (.t 6))),
  ROp.mk (some 8) none (.p (.fad 0 (.t 3))),
  ROp.mk (some 9) none (.d (.load 1 false (.t 8))),
  ROp.mk (some 10) none (.p (.arith .neq (.t 7) (.t 9))),
  ROp.mk (some 11) none (.p (.mv (.t 10))),
  ROp.mk (some 12) (some (11, false)) (.p (.fad 1 (.t 2))),
  ROp.mk (some 13) (some (11, false)) (.d (.load 1 false (.t 12))),
  ROp.mk (some 14) (some (11, false)) (.p (.fad 1 (.t 3))),
  ROp.mk (some 15) (some (11, false)) (.d (.load 1 false (.t 14))),
  ROp.mk (some 16) (some (11, false)) (.p (.eq true .bool (.t 13) (.t 15))),
  ROp.mk (some 17) none (.p (.pick (.t 11) (.c (.bool true)) (.t 16))),
  ROp.mk (some 18) none (.p (.mv (.t 17))),
  ROp.mk (some 19) (some (18, false)) (.p (.fad 2 (.t 2))),
  ROp.mk (some 20) (some (18, false)) (.d (.load 1 false (.t 19))),
  ROp.mk (some 21) (some (18, false)) (.d (.b2s (.t 20))),
  ROp.mk (some 22) (some (18, false)) (.p (.fad 2 (.t 3))),
  ROp.mk (some 23) (some (18, false)) (.d (.load 1 false (.t 22))),
  ROp.mk (some 24) (some (18, false)) (.d (.b2s (.t 23))),
  ROp.mk (some 25) (some (18, false)) (.p (.arith .neq (.t 21) (.t 24))),
  ROp.mk (some 26) none (.p (.pick (.t 18) (.c (.bool true)) (.t 25))),
  ROp.mk (some 27) none (.p (.mv (.t 26))),
  ROp.mk (some 28) (some (27, false)) (.p (.fad 3 (.t 2))),
  ROp.mk (some 29) (some (27, false)) (.d (.load 1 false (.t 28))),
  ROp.mk (some 30) (some (27, false)) (.p (.fad 3 (.t 3))),
  ROp.mk (some 31) (some (27, false)) (.d (.load 1 false (.t 30))),
  ROp.mk (some 32) (some (27, false)) (.w (.call 57 [(.t 29), (.t 31)])),
  ROp.mk (some 33) (some (27, false)) (.p (.un .not (.t 32))),
  ROp.mk (some 34) none (.p (.pick (.t 27) (.c (.bool true)) (.t 33))),
  ROp.mk (some 35) none (.p (.mv (.t 34))),
  ROp.mk (some 36) (some (35, false)) (.p (.fad 4 (.t 2))),
  ROp.mk (some 37) (some (35, false)) (.d (.load 1 false (.t 36))),
  ROp.mk (some 38) (some (35, false)) (.p (.lenL (.t 37))),
  ROp.mk (some 39) (some (35, false)) (.p (.fad 4 (.t 3))),
  ROp.mk (some 40) (some (35, false)) (.d (.load 1 false (.t 39))),
  ROp.mk (some 41) (some (35, false)) (.p (.lenL (.t 40))),
  ROp.mk (some 42) (some (35, false)) (.p (.arith .neq (.t 38) (.t 41))),
  ROp.mk (some 43) none (.p (.pick (.t 35) (.c (.bool true)) (.t 42)))])
 (.cond (.t 43) (.seq (.ops [ROp.mk (some 4) none (.p (.mv (.c (.bool false))))])
  (.ret))
 (.skip)))
 (.seq (.seq (.ops [ROp.mk (some 5) none (.p (.mv (.c (.int .i64 0))))])
 (.block 0 (.loop (.seq (.seq (.ops [ROp.mk (some 44) none (.p (.mv (.t 5))),
    ROp.mk (some 45) none (.p (.fad 4 (.t 2))),
    ROp.mk (some 46) none (.d (.load 1 false (.t 45))),
    ROp.mk (some 47) none (.p (.lenL (.t 46))),
    ROp.mk (some 48) none (.p (.arith .lss (.t 44) (.t 47)))])
   (.cond (.t 48) (.skip)
   (.exit 0)))
   (.seq (.block 1 (.seq (.draw [(ROp.mk (some 51) none (.p (.fad 4 (.t 2))), .p),
     (ROp.mk (some 52) none (.d (.load 1 false (.t 51))), .r 0 0),
     (ROp.mk (some 53) none (.p (.mv (.t 5))), .p),
     (ROp.mk (some 54) none (.p (.iaL 1 (.t 52) (.t 53))), .p),
     (ROp.mk (some 55) none (.d (.load 1 false (.t 54))), .r 0 0),
     (ROp.mk (some 56) none (.p (.fad 4 (.t 3))), .p),
     (ROp.mk (some 57) none (.d (.load 1 false (.t 56))), .r 0 0),
     (ROp.mk (some 58) none (.p (.mv (.t 5))), .p),
     (ROp.mk (some 59) none (.p (.iaL 1 (.t 57) (.t 58))), .p),
     (ROp.mk (some 60) none (.d (.load 1 false (.t 59))), .r 0 0),
     (ROp.mk (some 61) none (.p (.arith .neq (.t 55) (.t 60))), .p)] [])
    (.cond (.t 61) (.seq (.ops [ROp.mk (some 4) none (.p (.mv (.c (.bool false))))])
     (.ret))
    (.skip))))
   (.ops [ROp.mk (some 49) none (.p (.mv (.t 5))),
    ROp.mk (some 50) none (.p (.arith .add (.t 49) (.c (.int .i64 1)))),
    ROp.mk (some 5) none (.p (.mv (.t 50)))]))))))
 (.seq (.ops [ROp.mk (some 4) none (.p (.mv (.c (.bool true))))])
 (.ret)))))
theorem ok26 : rFun Tryz.prog an 26 = some rf26 := by kernel_rfl

def rf28 : RF := RF.mk 9 [.t 2] false (
 .seq (.ops [ROp.mk (some 2) none (.p (.mv (.c .nilp)))])
 (.seq (.seq (.ops [ROp.mk (some 3) none (.p (.mv (.t 0))),
  ROp.mk (some 4) none (.p (.eq false .ptr (.t 3) (.c .nilp)))])
 (.cond (.t 4) (.seq (.ops [ROp.mk (some 2) none (.p (.mv (.c .nilp)))])
  (.ret))
 (.skip)))
 (.seq (.ops [ROp.mk (some 5) none (.p (.mv (.t 0))),
  ROp.mk (some 6) none (.p (.nchk (.t 5))),
  ROp.mk (some 7) none (.p (.fad 6 (.t 6))),
  ROp.mk (some 8) none (.d (.load 1 false (.t 7))),
  ROp.mk (some 2) none (.p (.mv (.t 8)))])
 (.ret))))
theorem ok28 : rFun Tryz.prog an 28 = some rf28 := by kernel_rfl

def rf30 : RF := RF.mk 29 [.cell 4 5 true, .t 5] false (
 .seq (.ops [ROp.mk (some 4) none (.w (.alloc [(.int .i64 0), (.bool false), .nils, .nils, .nils])),
  ROp.mk (some 5) none (.p (.mv (.c (.bool false))))])
 (.seq (.seq (.ops [ROp.mk (some 8) none (.p (.mv (.t 0))),
  ROp.mk (some 9) none (.p (.eq false .ptr (.t 8) (.c .nilp)))])
 (.cond (.t 9) (.seq (.ops [ROp.mk (some 10) none (.p (.build [(.int .i64 0), (.bool false), .nils, .nils, .nils] [])),
   ROp.mk none none (.w (.store 5 (.t 4) (.t 10))),
   ROp.mk (some 5) none (.p (.mv (.c (.bool false))))])
  (.ret))
 (.skip)))
 (.seq (.seq (.ops [ROp.mk (some 11) none (.p (.mv (.t 1))),
  ROp.mk (some 12) none (.p (.maxI (.t 11) [(.c (.int .i64 0))])),
  ROp.mk (some 13) none (.p (.mv (.c (.int .i64 0))))])
 (.block 0 (.loop (.seq (.ops [ROp.mk (some 14) none (.p (.arith .lss (.t 13) (.t 12)))])
   (.seq (.cond (.t 14) (.skip)
   (.exit 0))
   (.seq (.block 1 (.seq (.ops [ROp.mk (some 15) none (.p (.build [(.int .i64 0), (.int .i64 0), (.int .i64 0), (.int .i64 0), (.str []), .nils] [(0, 1, (.c (.int .i64 9)))])),
     ROp.mk (some 6) none (.w (.alloc [(.int .i64 0), (.int .i64 0), (.int .i64 0), (.int .i64 0), (.str []), .nils])),
     ROp.mk none none (.w (.store 6 (.t 6) (.t 15)))])
    (.seq (.seq (.ops [ROp.mk (some 16) none (.p (.mv (.t 0))),
     ROp.mk (some 17) none (.w (.call 23 [(.t 16)])),
     ROp.mk (some 18) none (.w (.call 24 [(.t 17)])),
     ROp.mk (some 19) none (.p (.arith .eql (.t 18) (.c (.int .i64 0))))])
    (.cond (.t 19) (.ops [ROp.mk (some 20) none (.p (.fad 0 (.t 6))),
      ROp.mk none none (.w (.store 1 (.t 20) (.c (.int .i64 12))))])
    (.skip)))
    (.seq (.ops [ROp.mk (some 21) none (.p (.mv (.t 0))),
     ROp.mk (some 22) none (.d (.load 6 true (.t 6))),
     ROp.mk (some 23) none (.w (.call 27 [(.t 21), (.t 22)])),
     ROp.mk (some 7) none (.w (.alloc [(.int .i64 0), (.bool false), .nils, .nils, .nils])),
     ROp.mk none none (.w (.store 5 (.t 7) (.t 23)))])
    (.seq (.ops [ROp.mk (some 24) none (.p (.fad 1 (.t 7))),
     ROp.mk (some 25) none (.d (.load 1 false (.t 24)))])
    (.cond (.t 25) (.seq (.ops [ROp.mk (some 26) none (.d (.load 5 true (.t 7))),
      ROp.mk none none (.w (.store 5 (.t 4) (.t 26))),
      ROp.mk (some 5) none (.p (.mv (.c (.bool true))))])
     (.ret))
    (.skip)))))))
   (.ops [ROp.mk (some 27) none (.p (.arith .add (.t 13) (.c (.int .i64 1)))),
    ROp.mk (some 13) none (.p (.mv (.t 27)))])))))))
 (.seq (.ops [ROp.mk (some 28) none (.p (.build [(.int .i64 0), (.bool false), .nils, .nils, .nils] [])),
  ROp.mk none none (.w (.store 5 (.t 4) (.t 28))),
  ROp.mk (some 5) none (.p (.mv (.c (.bool false))))])
 (.ret)))))
theorem ok30 : rFun Tryz.prog an 30 = some rf30 := by kernel_rfl

def rf31 : RF := RF.mk 39 [.t 2, .t 3] false (
 .seq (.ops [ROp.mk (some 2) none (.p (.mv (.c .nils))),
  ROp.mk (some 3) none (.p (.mv (.c .nils)))])
 (.seq (.seq (.ops [ROp.mk (some 11) none (.p (.mv (.t 0))),
  ROp.mk (some 12) none (.p (.eq false .ptr (.t 11) (.c .nilp)))])
 (.cond (.t 12) (.seq (.ops [ROp.mk (some 2) none (.p (.mv (.c .nils))),
   ROp.mk (some 3) none (.p (.mv (.c .nils)))])
  (.ret))
 (.skip)))
 (.seq (.ops [ROp.mk (some 4) none (.w (.alloc [.nils]))])
 (.seq (.ops [ROp.mk (some 5) none (.w (.alloc [.nils]))])
 (.seq (.seq (.ops [ROp.mk (some 13) none (.p (.mv (.t 0))),
  ROp.mk (some 14) none (.w (.call 69 [(.t 13)]))])
 (.block 0 (.range (.t 14) [15, 16] (.seq (.ops [ROp.mk (some 6) none (.p (.mv (.t 15)))])
   (.ops [ROp.mk (some 7) none (.w (.alloc [(.int .i64 0), (.int .i64 0), (.int .i64 0), .nils, (.int .i64 0), (.int .i64 0), (.int .i64 0), .nils])),
    ROp.mk none none (.w (.store 8 (.t 7) (.t 16)))]))
  (.block 1 (.seq (.ops [ROp.mk (some 8) none (.p (.mv (.c .nils)))])
    (.seq (.seq (.ops [ROp.mk (some 17) none (.p (.fad 3 (.t 7))),
     ROp.mk (some 18) none (.d (.load 1 false (.t 17))),
     ROp.mk (some 19) none (.p (.lenL (.t 18))),
     ROp.mk (some 20) none (.p (.mv (.c (.int .i64 0))))])
    (.block 2 (.loop (.seq (.ops [ROp.mk (some 21) none (.p (.arith .lss (.t 20) (.t 19)))])
      (.seq (.cond (.t 21) (.skip)
      (.exit 2))
      (.seq (.block 3 (.seq (.ops [ROp.mk (some 22) none (.p (.iaL 4 (.t 18) (.t 20))),
        ROp.mk (some 23) none (.d (.load 4 true (.t 22))),
        ROp.mk (some 10) none (.w (.alloc [(.str []), (.int .i64 0), .nils, .nils])),
        ROp.mk none none (.w (.store 4 (.t 10) (.t 23)))])
       (.ops [ROp.mk (some 24) none (.p (.mv (.t 8))),
        ROp.mk (some 25) none (.p (.fad 2 (.t 10))),
        ROp.mk (some 26) none (.d (.load 1 false (.t 25))),
        ROp.mk (some 27) none (.w (.app 1 1 (.t 24) (.t 26))),
        ROp.mk (some 8) none (.p (.mv (.t 27)))])))
      (.ops [ROp.mk (some 28) none (.p (.arith .add (.t 20) (.c (.int .i64 1)))),
       ROp.mk (some 20) none (.p (.mv (.t 28)))])))))))
    (.draw [(ROp.mk (some 29) none (.d (.load 1 false (.t 4))), .r 0 0),
     (ROp.mk (some 30) none (.p (.mv (.t 6))), .p),
     (ROp.mk (some 31) none (.p (.mkl [(.int .i64 0)] 1 1 [(0, 1, (.t 30))])), .p),
     (ROp.mk (some 32) none (.w (.app 1 8 (.t 29) (.t 31))), .w),
     (ROp.mk (some 33) none (.d (.load 1 false (.t 5))), .r 0 1),
     (ROp.mk (some 34) none (.p (.mv (.t 8))), .p),
     (ROp.mk (some 35) none (.p (.mkl [.nils] 1 1 [(0, 1, (.t 34))])), .p),
     (ROp.mk (some 36) none (.w (.app 1 24 (.t 33) (.t 35))), .w),
     (ROp.mk none none (.w (.store 1 (.t 4) (.t 32))), .w),
     (ROp.mk none none (.w (.store 1 (.t 5) (.t 36))), .w)] [])))))))
 (.seq (.draw [(ROp.mk (some 37) none (.d (.load 1 false (.t 4))), .r 0 0),
  (ROp.mk (some 38) none (.d (.load 1 false (.t 5))), .r 0 0),
  (ROp.mk (some 2) none (.p (.mv (.t 37))), .p),
  (ROp.mk (some 3) none (.p (.mv (.t 38))), .p)] [])
 (.ret)))))))
theorem ok31 : rFun Tryz.prog an 31 = some rf31 := by kernel_rfl

def rf32 : RF := RF.mk 51 [.t 2, .t 3] false (
 .seq (.ops [ROp.mk (some 2) none (.p (.mv (.c .nils))),
  ROp.mk (some 3) none (.p (.mv (.c (.bool false))))])
 (.seq (.seq (.ops [ROp.mk (some 12) none (.p (.mv (.t 0))),
  ROp.mk (some 13) none (.p (.eq false .ptr (.t 12) (.c .nilp)))])
 (.cond (.t 13) (.seq (.ops [ROp.mk (some 2) none (.p (.mv (.c .nils))),
   ROp.mk (some 3) none (.p (.mv (.c (.bool false))))])
  (.ret))
 (.skip)))
 (.seq (.ops [ROp.mk (some 4) none (.p (.mv (.c (.int .i64 0))))])
 (.seq (.seq (.ops [ROp.mk (some 14) none (.p (.mv (.t 0))),
  ROp.mk (some 15) none (.w (.call 28 [(.t 14)])),
  ROp.mk (some 16) none (.w (.call 70 [(.t 15)])),
  ROp.mk (some 17) none (.w (.call 71 [(.t 16)])),
  ROp.mk (some 18) none (.p (.fld 3 1 false (.t 17))),
  ROp.mk (some 19) none (.p (.lenL (.t 18))),
  ROp.mk (some 20) none (.p (.mv (.c (.int .i64 0))))])
 (.block 0 (.loop (.seq (.ops [ROp.mk (some 21) none (.p (.arith .lss (.t 20) (.t 19)))])
   (.seq (.cond (.t 21) (.skip)
   (.exit 0))
   (.seq (.block 1 (.seq (.ops [ROp.mk (some 22) none (.p (.iaL 2 (.t 18) (.t 20))),
     ROp.mk (some 23) none (.d (.load 2 true (.t 22))),
     ROp.mk (some 6) none (.w (.alloc [(.str []), (.int .i64 0)])),
     ROp.mk none none (.w (.store 2 (.t 6) (.t 23)))])
    (.draw [(ROp.mk (some 24) none (.p (.mv (.t 4))), .p),
     (ROp.mk (some 25) none (.p (.fad 1 (.t 6))), .p),
     (ROp.mk (some 26) none (.d (.load 1 false (.t 25))), .r 0 1),
     (ROp.mk (some 27) none (.p (.mv (.t 0))), .p),
     (ROp.mk (some 28) none (.w (.call 22 [(.t 27)])), .w),
     (ROp.mk (some 29) none (.p (.fld 2 1 false (.t 28))), .p),
     (ROp.mk (some 30) none (.w (.call 72 [(.t 26), (.t 29)])), .w),
     (ROp.mk (some 31) none (.p (.arith .add (.t 24) (.t 30))), .p),
     (ROp.mk (some 4) none (.p (.mv (.t 31))), .p)] [])))
   (.ops [ROp.mk (some 32) none (.p (.arith .add (.t 20) (.c (.int .i64 1)))),
    ROp.mk (some 20) none (.p (.mv (.t 32)))])))))))
 (.seq (.ops [ROp.mk (some 34) none (.p (.mv (.t 0))),
  ROp.mk (some 35) none (.w (.call 31 [(.t 34)])),
  ROp.mk (some 33) none (.p (.mv (.t 35))),
  ROp.mk (some 36) none (.p (.ext (.t 33) 0)),
  ROp.mk (some 37) none (.p (.ext (.t 33) 1)),
  ROp.mk (some 7) none (.p (.mv (.t 36))),
  ROp.mk (some 8) none (.p (.mv (.t 37)))])
 (.seq (.ops [ROp.mk (some 39) none (.w (.call 74 [])),
  ROp.mk (some 40) none (.p (.mv (.t 0))),
  ROp.mk (some 41) none (.w (.call 22 [(.t 40)])),
  ROp.mk (some 42) none (.p (.mv (.t 4))),
  ROp.mk (some 43) none (.p (.mv (.t 7))),
  ROp.mk (some 44) none (.p (.mv (.t 8))),
  ROp.mk (some 45) none (.w (.call 73 [(.t 39), (.t 41), (.t 42), (.t 43), (.t 44)])),
  ROp.mk (some 38) none (.p (.mv (.t 45))),
  ROp.mk (some 46) none (.p (.ext (.t 38) 0)),
  ROp.mk (some 47) none (.p (.ext (.t 38) 1)),
  ROp.mk (some 48) none (.p (.ext (.t 38) 2)),
  ROp.mk (some 9) none (.p (.mv (.t 46))),
  ROp.mk (some 10) none (.p (.mv (.t 47))),
  ROp.mk (some 11) none (.p (.mv (.t 48)))])
 (.seq (.ops [ROp.mk (some 49) none (.p (.mv (.t 10))),
  ROp.mk (some 50) none (.p (.mv (.t 11))),
  ROp.mk (some 2) none (.p (.mv (.t 49))),
  ROp.mk (some 3) none (.p (.mv (.t 50)))])
 (.ret))))))))
theorem ok32 : rFun Tryz.prog an 32 = some rf32 := by kernel_rfl

def rf33 : RF := RF.mk 46 [.t 0] false (
 .seq (.ops [ROp.mk (some 0) none (.p (.mv (.c (.bool false))))])
 (.seq (.ops [ROp.mk (some 8) none (.p (.build [(.int .i64 0), (.int .i64 0), (.int .i64 0), (.int .i64 0), (.int .i64 0)] [(0, 1, (.c (.int .i64 3))), (1, 1, (.c (.int .i64 1))), (2, 1, (.c (.int .i64 1))), (4, 1, (.c (.int .i64 50)))])),
  ROp.mk (some 9) none (.w (.call 20 [(.t 8)])),
  ROp.mk (some 7) none (.p (.mv (.t 9))),
  ROp.mk (some 10) none (.p (.ext (.t 7) 0)),
  ROp.mk (some 11) none (.p (.ext (.t 7) 1)),
  ROp.mk (some 1) none (.p (.mv (.t 10))),
  ROp.mk (some 2) none (.p (.mv (.t 11)))])
 (.seq (.ops [ROp.mk (some 13) none (.p (.mv (.t 1))),
  ROp.mk (some 14) none (.w (.call 31 [(.t 13)])),
  ROp.mk (some 12) none (.p (.mv (.t 14))),
  ROp.mk (some 15) none (.p (.ext (.t 12) 0)),
  ROp.mk (some 16) none (.p (.ext (.t 12) 1)),
  ROp.mk (some 3) none (.p (.mv (.t 15))),
  ROp.mk (some 4) none (.p (.mv (.t 16)))])
 (.seq (.ops [ROp.mk (some 18) none (.p (.mv (.t 1))),
  ROp.mk (some 19) none (.w (.call 32 [(.t 18)])),
  ROp.mk (some 17) none (.p (.mv (.t 19))),
  ROp.mk (some 20) none (.p (.ext (.t 17) 0)),
  ROp.mk (some 21) none (.p (.ext (.t 17) 1)),
  ROp.mk (some 5) none (.p (.mv (.t 20))),
  ROp.mk (some 6) none (.p (.mv (.t 21)))])
 (.seq (.ops [ROp.mk (some 22) none (.p (.mv (.t 2))),
  ROp.mk (some 23) none (.p (.arith .eql (.t 22) (.c (.int .i64 0)))),
  ROp.mk (some 24) none (.p (.mv (.t 23))),
  ROp.mk (some 25) (some (24, true)) (.p (.mv (.t 3))),
  ROp.mk (some 26) (some (24, true)) (.p (.lenL (.t 25))),
  ROp.mk (some 27) (some (24, true)) (.p (.arith .eql (.t 26) (.c (.int .i64 3)))),
  ROp.mk (some 28) none (.p (.pick (.t 24) (.t 27) (.c (.bool false)))),
  ROp.mk (some 29) none (.p (.mv (.t 28))),
  ROp.mk (some 30) (some (29, true)) (.p (.mv (.t 4))),
  ROp.mk (some 31) (some (29, true)) (.p (.lenL (.t 30))),
  ROp.mk (some 32) (some (29, true)) (.p (.arith .eql (.t 31) (.c (.int .i64 3)))),
  ROp.mk (some 33) none (.p (.pick (.t 29) (.t 32) (.c (.bool false)))),
  ROp.mk (some 34) none (.p (.mv (.t 33))),
  ROp.mk (some 35) (some (34, true)) (.p (.mv (.t 6))),
  ROp.mk (some 36) none (.p (.pick (.t 34) (.t 35) (.c (.bool false)))),
  ROp.mk (some 37) none (.p (.mv (.t 36))),
  ROp.mk (some 38) (some (37, true)) (.p (.mv (.t 5))),
  ROp.mk (some 39) (some (37, true)) (.p (.lenL (.t 38))),
  ROp.mk (some 40) (some (37, true)) (.p (.arith .eql (.t 39) (.c (.int .i64 0)))),
  ROp.mk (some 41) none (.p (.pick (.t 37) (.t 40) (.c (.bool false)))),
  ROp.mk (some 42) none (.p (.mv (.t 41))),
  ROp.mk (some 43) (some (42, true)) (.p (.mv (.t 1))),
  ROp.mk (some 44) (some (42, true)) (.w (.call 34 [(.t 43)])),
  ROp.mk (some 45) none (.p (.pick (.t 42) (.t 44) (.c (.bool false)))),
  ROp.mk (some 0) none (.p (.mv (.t 45)))])
 (.ret))))))
theorem ok33 : rFun Tryz.prog an 33 = some rf33 := by kernel_rfl

def rf34 : RF := RF.mk 60 [.t 2] false (
 .seq (.ops [ROp.mk (some 2) none (.p (.mv (.c (.bool false))))])
 (.seq (.seq (.ops [ROp.mk (some 9) none (.p (.mv (.t 0))),
  ROp.mk (some 10) none (.p (.eq false .ptr (.t 9) (.c .nilp))),
  ROp.mk (some 11) none (.p (.mv (.t 10))),
  ROp.mk (some 12) (some (11, false)) (.p (.mv (.t 0))),
  ROp.mk (some 13) (some (11, false)) (.w (.call 28 [(.t 12)])),
  ROp.mk (some 14) (some (11, false)) (.w (.call 70 [(.t 13)])),
  ROp.mk (some 15) (some (11, false)) (.w (.call 75 [(.t 14)])),
  ROp.mk (some 16) none (.p (.pick (.t 11) (.c (.bool true)) (.t 15)))])
 (.cond (.t 16) (.seq (.ops [ROp.mk (some 2) none (.p (.mv (.c (.bool false))))])
  (.ret))
 (.skip)))
 (.seq (.ops [ROp.mk (some 17) none (.p (.mv (.t 0))),
  ROp.mk (some 18) none (.w (.call 22 [(.t 17)])),
  ROp.mk (some 19) none (.p (.fld 0 1 false (.t 18))),
  ROp.mk (some 3) none (.p (.mv (.t 19)))])
 (.seq (.ops [ROp.mk (some 21) none (.p (.mv (.t 0))),
  ROp.mk (some 22) none (.w (.call 31 [(.t 21)])),
  ROp.mk (some 20) none (.p (.mv (.t 22))),
  ROp.mk (some 23) none (.p (.ext (.t 20) 0)),
  ROp.mk (some 24) none (.p (.ext (.t 20) 1)),
  ROp.mk (some 4) none (.p (.mv (.t 23))),
  ROp.mk (some 5) none (.p (.mv (.t 24)))])
 (.seq (.ops [ROp.mk (some 26) none (.p (.mv (.t 0))),
  ROp.mk (some 27) none (.w (.call 32 [(.t 26)])),
  ROp.mk (some 25) none (.p (.mv (.t 27))),
  ROp.mk (some 28) none (.p (.ext (.t 25) 0)),
  ROp.mk (some 29) none (.p (.ext (.t 25) 1)),
  ROp.mk (some 6) none (.p (.mv (.t 28))),
  ROp.mk (some 7) none (.p (.mv (.t 29)))])
 (.seq (.seq (.ops [ROp.mk (some 30) none (.p (.mv (.t 7))),
  ROp.mk (some 31) none (.p (.un .not (.t 30))),
  ROp.mk (some 32) none (.p (.mv (.t 31))),
  ROp.mk (some 33) (some (32, false)) (.p (.mv (.t 4))),
  ROp.mk (some 34) (some (32, false)) (.p (.lenL (.t 33))),
  ROp.mk (some 35) (some (32, false)) (.p (.mv (.t 3))),
  ROp.mk (some 36) (some (32, false)) (.p (.arith .neq (.t 34) (.t 35))),
  ROp.mk (some 37) none (.p (.pick (.t 32) (.c (.bool true)) (.t 36))),
  ROp.mk (some 38) none (.p (.mv (.t 37))),
  ROp.mk (some 39) (some (38, false)) (.p (.mv (.t 6))),
  ROp.mk (some 40) (some (38, false)) (.p (.lenL (.t 39))),
  ROp.mk (some 41) (some (38, false)) (.p (.arith .gtr (.t 40) (.c (.int .i64 0)))),
  ROp.mk (some 42) none (.p (.pick (.t 38) (.c (.bool true)) (.t 41)))])
 (.cond (.t 42) (.seq (.ops [ROp.mk (some 2) none (.p (.mv (.c (.bool false))))])
  (.ret))
 (.skip)))
 (.seq (.seq (.ops [ROp.mk (some 43) none (.p (.mv (.t 3))),
  ROp.mk (some 44) none (.p (.mv (.c (.int .i64 0))))])
 (.block 0 (.loop (.seq (.ops [ROp.mk (some 45) none (.p (.arith .lss (.t 44) (.t 43)))])
   (.seq (.cond (.t 45) (.skip)
   (.exit 0))
   (.seq (.block 1 (.seq (.ops [ROp.mk (some 46) none (.p (.mv (.t 44))),
     ROp.mk (some 8) none (.p (.mv (.t 46)))])
    (.seq (.ops [ROp.mk (some 47) none (.p (.mv (.t 0))),
     ROp.mk (some 48) none (.p (.mv (.t 8))),
     ROp.mk (some 49) none (.w (.call 25 [(.t 47), (.t 48)])),
     ROp.mk (some 50) none (.w (.call 12 [(.t 49)])),
     ROp.mk (some 51) none (.p (.mv (.t 50))),
     ROp.mk (some 52) (some (51, false)) (.p (.mv (.t 0))),
     ROp.mk (some 53) (some (51, false)) (.p (.mv (.t 8))),
     ROp.mk (some 54) (some (51, false)) (.w (.call 25 [(.t 52), (.t 53)])),
     ROp.mk (some 55) (some (51, false)) (.w (.call 18 [(.t 54)])),
     ROp.mk (some 56) (some (51, false)) (.w (.call 76 [(.t 55)])),
     ROp.mk (some 57) (some (51, false)) (.p (.un .not (.t 56))),
     ROp.mk (some 58) none (.p (.pick (.t 51) (.c (.bool true)) (.t 57)))])
    (.cond (.t 58) (.seq (.ops [ROp.mk (some 2) none (.p (.mv (.c (.bool false))))])
     (.ret))
    (.skip)))))
   (.ops [ROp.mk (some 59) none (.p (.arith .add (.t 44) (.c (.int .i64 1)))),
    ROp.mk (some 44) none (.p (.mv (.t 59)))])))))))
 (.seq (.ops [ROp.mk (some 2) none (.p (.mv (.c (.bool true))))])
 (.ret)))))))))
theorem ok34 : rFun Tryz.prog an 34 = some rf34 := by kernel_rfl

def rf37 : RF := RF.mk 14 [.t 4] false (
 .seq (.ops [ROp.mk (some 2) none (.w (.box 5 (.t 0))),
  ROp.mk (some 4) none (.p (.mv (.c .nilp)))])
 (.seq (.draw [(ROp.mk (some 5) none (.d (.load 5 true (.t 2))), .r 0 3),
  (ROp.mk (some 6) none (.p (.mv (.t 1))), .p),
  (ROp.mk (some 7) none (.w (.call 74 [])), .w),
  (ROp.mk (some 8) none (.p (.fad 4 (.t 2))), .p),
  (ROp.mk (some 9) none (.d (.load 1 false (.t 8))), .r 0 1),
  (ROp.mk (some 10) none (.w (.call 83 [(.t 9)])), .w),
  (ROp.mk (some 11) none (.w (.call 84 [])), .w),
  (ROp.mk (some 12) none (.p (.build [(.int .i64 0), (.int .i64 0), (.int .i64 0), (.int .i64 0), (.int .i64 0), (.int .i64 0), .nilp, .nilp, .nilp, (.bool false), (.int .i64 0), (.int .i64 0), (.int .i64 0), .nils, .nils, .nilm, .nilm] [(0, 5, (.t 5)), (5, 1, (.t 6)), (6, 1, (.t 7)), (7, 1, (.t 10)), (8, 1, (.t 11))])), .p),
  (ROp.mk (some 13) none (.w (.box 17 (.t 12))), .w),
  (ROp.mk (some 4) none (.p (.mv (.t 13))), .p)] [])
 (.ret)))
theorem ok37 : rFun Tryz.prog an 37 = some rf37 := by kernel_rfl

def rf44 : RF := RF.mk 12 [.t 2] false (
 .seq (.ops [ROp.mk (some 2) none (.p (.mv (.c (.bool false))))])
 (.seq (.ops [ROp.mk (some 3) none (.p (.mv (.t 0))),
  ROp.mk (some 4) none (.p (.eq true .ptr (.t 3) (.c .nilp))),
  ROp.mk (some 5) none (.p (.mv (.t 4))),
  ROp.mk (some 6) (some (5, true)) (.p (.mv (.t 0))),
  ROp.mk (some 7) (some (5, true)) (.p (.nchk (.t 6))),
  ROp.mk (some 8) (some (5, true)) (.p (.fad 0 (.t 7))),
  ROp.mk (some 9) (some (5, true)) (.d (.load 1 false (.t 8))),
  ROp.mk (some 10) (some (5, true)) (.w (.call 112 [(.t 9)])),
  ROp.mk (some 11) none (.p (.pick (.t 5) (.t 10) (.c (.bool false)))),
  ROp.mk (some 2) none (.p (.mv (.t 11)))])
 (.ret)))
theorem ok44 : rFun Tryz.prog an 44 = some rf44 := by kernel_rfl

def rf46 : RF := RF.mk 68 [.cell 2 8 true, .t 3] false (
 .seq (.ops [ROp.mk (some 2) none (.w (.alloc [(.int .i64 0), (.int .i64 0), (.int .i64 0), .nils, (.int .i64 0), (.int .i64 0), (.int .i64 0), .nils])),
  ROp.mk (some 3) none (.p (.mv (.c (.bool false))))])
 (.seq (.ops [ROp.mk (some 8) none (.p (.mv (.t 0))),
  ROp.mk (some 9) none (.w (.call 115 [(.t 8)])),
  ROp.mk (some 10) none (.p (.mv (.t 0))),
  ROp.mk (some 11) none (.p (.lenL (.t 10))),
  ROp.mk (some 12) none (.p (.build [.nilp, (.int .i64 0)] [(0, 1, (.t 9)), (1, 1, (.t 11))])),
  ROp.mk (some 4) none (.w (.alloc [.nilp, (.int .i64 0)])),
  ROp.mk none none (.w (.store 2 (.t 4) (.t 12)))])
 (.seq (.ops [ROp.mk (some 13) none (.p (.fad 0 (.t 4))),
  ROp.mk (some 14) none (.d (.load 1 false (.t 13))),
  ROp.mk (some 15) none (.w (.call 116 [(.t 14)])),
  ROp.mk (some 16) none (.p (.build [(.int .i64 0), (.int .i64 0), (.int .i64 0), .nils, (.int .i64 0), (.int .i64 0), (.int .i64 0), .nils] [(0, 1, (.t 15))])),
  ROp.mk (some 5) none (.w (.alloc [(.int .i64 0), (.int .i64 0), (.int .i64 0), .nils, (.int .i64 0), (.int .i64 0), (.int .i64 0), .nils])),
  ROp.mk none none (.w (.store 8 (.t 5) (.t 16)))])
 (.seq (.ops [ROp.mk (some 17) none (.p (.fad 0 (.t 4))),
  ROp.mk (some 18) none (.d (.load 1 false (.t 17))),
  ROp.mk (some 19) none (.w (.call 116 [(.t 18)])),
  ROp.mk (some 20) none (.p (.fad 1 (.t 5))),
  ROp.mk none none (.w (.store 1 (.t 20) (.t 19)))])
 (.seq (.ops [ROp.mk (some 21) none (.p (.fad 0 (.t 4))),
  ROp.mk (some 22) none (.d (.load 1 false (.t 21))),
  ROp.mk (some 23) none (.w (.call 116 [(.t 22)])),
  ROp.mk (some 24) none (.p (.fad 2 (.t 5))),
  ROp.mk none none (.w (.store 1 (.t 24) (.t 23)))])
 (.seq (.ops [ROp.mk (some 25) none (.d (.load 2 true (.t 4))),
  ROp.mk (some 26) none (.w (.call 117 [(.t 25)])),
  ROp.mk (some 27) none (.p (.fad 3 (.t 5))),
  ROp.mk none none (.w (.store 1 (.t 27) (.t 26)))])
 (.seq (.ops [ROp.mk (some 28) none (.p (.fad 0 (.t 4))),
  ROp.mk (some 29) none (.d (.load 1 false (.t 28))),
  ROp.mk (some 30) none (.w (.call 116 [(.t 29)])),
  ROp.mk (some 31) none (.p (.fad 4 (.t 5))),
  ROp.mk (some 32) none (.p (.fad 0 (.t 31))),
  ROp.mk none none (.w (.store 1 (.t 32) (.t 30)))])
 (.seq (.ops [ROp.mk (some 33) none (.p (.fad 0 (.t 4))),
  ROp.mk (some 34) none (.d (.load 1 false (.t 33))),
  ROp.mk (some 35) none (.w (.call 116 [(.t 34)])),
  ROp.mk (some 36) none (.p (.fad 4 (.t 5))),
  ROp.mk (some 37) none (.p (.fad 1 (.t 36))),
  ROp.mk none none (.w (.store 1 (.t 37) (.t 35)))])
 (.seq (.ops [ROp.mk (some 38) none (.p (.fad 0 (.t 4))),
  ROp.mk (some 39) none (.d (.load 1 false (.t 38))),
  ROp.mk (some 40) none (.w (.call 116 [(.t 39)])),
  ROp.mk (some 41) none (.p (.fad 4 (.t 5))),
  ROp.mk (some 42) none (.p (.fad 2 (.t 41))),
  ROp.mk none none (.w (.store 1 (.t 42) (.t 40)))])
 (.seq (.ops [ROp.mk (some 43) none (.d (.load 2 true (.t 4))),
  ROp.mk (some 44) none (.w (.call 117 [(.t 43)])),
  ROp.mk (some 45) none (.p (.fad 4 (.t 5))),
  ROp.mk (some 46) none (.p (.fad 3 (.t 45))),
  ROp.mk none none (.w (.store 1 (.t 46) (.t 44)))])
 (.seq (.seq (.ops [ROp.mk (some 48) none (.d (.load 8 true (.t 5))),
  ROp.mk (some 49) none (.w (.call 118 [(.t 48)])),
  ROp.mk (some 47) none (.p (.mv (.t 49))),
  ROp.mk (some 50) none (.p (.ext (.t 47) 0)),
  ROp.mk (some 51) none (.p (.ext (.t 47) 1)),
  ROp.mk (some 6) none (.p (.mv (.t 50))),
  ROp.mk (some 7) none (.p (.mv (.t 51)))])
 (.seq (.ops [ROp.mk (some 52) none (.p (.fad 0 (.t 4))),
  ROp.mk (some 53) none (.d (.load 1 false (.t 52))),
  ROp.mk (some 54) none (.w (.call 119 [(.t 53)])),
  ROp.mk (some 55) none (.p (.un .not (.t 54))),
  ROp.mk (some 56) none (.p (.mv (.t 55))),
  ROp.mk (some 57) (some (56, false)) (.p (.mv (.t 7))),
  ROp.mk (some 58) (some (56, false)) (.p (.un .not (.t 57))),
  ROp.mk (some 59) none (.p (.pick (.t 56) (.c (.bool true)) (.t 58))),
  ROp.mk (some 60) none (.p (.mv (.t 59))),
  ROp.mk (some 61) (some (60, false)) (.p (.mv (.t 6))),
  ROp.mk (some 62) (some (60, false)) (.p (.mv (.t 0))),
  ROp.mk (some 63) (some (60, false)) (.w (.call 120 [(.t 61), (.t 62)])),
  ROp.mk (some 64) (some (60, false)) (.p (.un .not (.t 63))),
  ROp.mk (some 65) none (.p (.pick (.t 60) (.c (.bool true)) (.t 64)))])
 (.cond (.t 65) (.seq (.ops [ROp.mk (some 66) none (.p (.build [(.int .i64 0), (.int .i64 0), (.int .i64 0), .nils, (.int .i64 0), (.int .i64 0), (.int .i64 0), .nils] [])),
   ROp.mk none none (.w (.store 8 (.t 2) (.t 66))),
   ROp.mk (some 3) none (.p (.mv (.c (.bool false))))])
  (.ret))
 (.skip))))
 (.seq (.ops [ROp.mk (some 67) none (.d (.load 8 true (.t 5))),
  ROp.mk none none (.w (.store 8 (.t 2) (.t 67))),
  ROp.mk (some 3) none (.p (.mv (.c (.bool true))))])
 (.ret)))))))))))))
theorem ok46 : rFun Tryz.prog an 46 = some rf46 := by kernel_rfl

def rf47 : RF := RF.mk 47 [.t 2] false (
 .seq (.ops [ROp.mk (some 2) none (.p (.mv (.c .nils)))])
 (.seq (.seq (.ops [ROp.mk (some 8) none (.p (.mv (.t 0))),
  ROp.mk (some 9) none (.p (.eq false .ptr (.t 8) (.c .nilp)))])
 (.cond (.t 9) (.seq (.ops [ROp.mk (some 2) none (.p (.mv (.c .nils)))])
  (.ret))
 (.skip)))
 (.seq (.ops [ROp.mk (some 10) none (.p (.mv (.t 0))),
  ROp.mk (some 11) none (.w (.call 78 [(.t 10)])),
  ROp.mk (some 3) none (.w (.alloc [(.int .i64 0), (.int .i64 0)])),
  ROp.mk none none (.w (.store 2 (.t 3) (.t 11)))])
 (.seq (.seq (.ops [ROp.mk (some 12) none (.d (.load 2 true (.t 3))),
  ROp.mk (some 13) none (.p (.build [(.int .i64 0), (.int .i64 0)] [])),
  ROp.mk (some 14) none (.p (.eq false (.agg [0, 0]) (.t 12) (.t 13)))])
 (.cond (.t 14) (.seq (.ops [ROp.mk (some 2) none (.p (.mv (.c .nils)))])
  (.ret))
 (.skip)))
 (.seq (.ops [ROp.mk (some 15) none (.p (.fad 1 (.t 3))),
  ROp.mk (some 16) none (.d (.load 1 false (.t 15))),
  ROp.mk (some 17) none (.w (.mks [(.int .u8 0)] 1 1 (.c (.int .i64 0)) (.t 16))),
  ROp.mk (some 4) none (.p (.mv (.t 17)))])
 (.seq (.seq (.ops [ROp.mk (some 18) none (.p (.fad 1 (.t 3))),
  ROp.mk (some 19) none (.d (.load 1 false (.t 18))),
  ROp.mk (some 20) none (.w (.call 121 [(.t 19)])),
  ROp.mk (some 21) none (.p (.mv (.c (.int .i64 0))))])
 (.block 0 (.loop (.seq (.ops [ROp.mk (some 22) none (.p (.arith .lss (.t 21) (.t 20)))])
   (.seq (.cond (.t 22) (.skip)
   (.exit 0))
   (.seq (.block 1 (.seq (.ops [ROp.mk (some 23) none (.p (.mv (.t 21))),
     ROp.mk (some 5) none (.p (.mv (.t 23)))])
    (.seq (.draw [(ROp.mk (some 25) none (.p (.mv (.t 0))), .p),
     (ROp.mk (some 26) none (.p (.nchk (.t 25))), .p),
     (ROp.mk (some 27) none (.p (.fad 0 (.t 26))), .p),
     (ROp.mk (some 28) none (.d (.load 1 false (.t 27))), .r 0 1),
     (ROp.mk (some 29) none (.p (.mv (.t 0))), .p),
     (ROp.mk (some 30) none (.p (.fad 0 (.t 3))), .p),
     (ROp.mk (some 31) none (.d (.load 1 false (.t 30))), .r 0 0),
     (ROp.mk (some 32) none (.p (.mv (.t 5))), .p),
     (ROp.mk (some 33) none (.w (.call 79 [(.t 29), (.t 31), (.t 32)])), .w),
     (ROp.mk (some 34) none (.w (.call 122 [(.t 28), (.t 33)])), .w),
     (ROp.mk (some 24) none (.p (.mv (.t 34))), .p),
     (ROp.mk (some 35) none (.p (.ext (.t 24) 0)), .p),
     (ROp.mk (some 36) none (.p (.ext (.t 24) 1)), .p),
     (ROp.mk (some 6) none (.p (.mv (.t 35))), .p),
     (ROp.mk (some 7) none (.p (.mv (.t 36))), .p)] [])
    (.ops [ROp.mk (some 37) none (.p (.mv (.t 4))),
     ROp.mk (some 38) none (.p (.mv (.t 6))),
     ROp.mk (some 39) none (.w (.app 1 1 (.t 37) (.t 38))),
     ROp.mk (some 4) none (.p (.mv (.t 39)))]))))
   (.ops [ROp.mk (some 40) none (.p (.arith .add (.t 21) (.c (.int .i64 1)))),
    ROp.mk (some 21) none (.p (.mv (.t 40)))])))))))
 (.seq (.ops [ROp.mk (some 41) none (.p (.mv (.t 4))),
  ROp.mk (some 42) none (.p (.fad 1 (.t 3))),
  ROp.mk (some 43) none (.d (.load 1 false (.t 42))),
  ROp.mk (some 44) none (.p (.fad 1 (.t 3))),
  ROp.mk (some 45) none (.d (.load 1 false (.t 44))),
  ROp.mk (some 46) none (.p (.slL 1 (.t 41) none (some (.t 43)) (some (.t 45)))),
  ROp.mk (some 2) none (.p (.mv (.t 46)))])
 (.ret))))))))
theorem ok47 : rFun Tryz.prog an 47 = some rf47 := by kernel_rfl

def rf50 : RF := RF.mk 10 [.t 4] false (
 .seq (.ops [ROp.mk (some 4) none (.p (.mv (.c (.bool false))))])
 (.seq (.ops [ROp.mk (some 5) none (.p (.mv (.t 0))),
  ROp.mk (some 6) none (.d (.b2s (.t 5))),
  ROp.mk (some 7) none (.p (.mv (.t 1))),
  ROp.mk (some 8) none (.d (.b2s (.t 7))),
  ROp.mk (some 9) none (.p (.arith .eql (.t 6) (.t 8))),
  ROp.mk (some 4) none (.p (.mv (.t 9)))])
 (.ret)))
theorem ok50 : rFun Tryz.prog an 50 = some rf50 := by kernel_rfl

def rf52 : RF := RF.mk 66 [.t 2] false (
 .seq (.ops [ROp.mk (some 1) none (.w (.box 5 (.t 0))),
  ROp.mk (some 2) none (.p (.mv (.c (.bool false))))])
 (.seq (.seq (.ops [ROp.mk (some 3) none (.p (.fad 1 (.t 1))),
  ROp.mk (some 4) none (.d (.load 1 false (.t 3))),
  ROp.mk (some 5) none (.p (.arith .lss (.t 4) (.c (.int .i64 1)))),
  ROp.mk (some 6) none (.p (.mv (.t 5))),
  ROp.mk (some 7) (some (6, false)) (.p (.fad 2 (.t 1))),
  ROp.mk (some 8) (some (6, false)) (.d (.load 1 false (.t 7))),
  ROp.mk (some 9) (some (6, false)) (.p (.arith .lss (.t 8) (.c (.int .i64 1)))),
  ROp.mk (some 10) none (.p (.pick (.t 6) (.c (.bool true)) (.t 9))),
  ROp.mk (some 11) none (.p (.mv (.t 10))),
  ROp.mk (some 12) (some (11, false)) (.p (.fad 3 (.t 1))),
  ROp.mk (some 13) (some (11, false)) (.d (.load 1 false (.t 12))),
  ROp.mk (some 14) (some (11, false)) (.p (.arith .lss (.t 13) (.c (.int .i64 0)))),
  ROp.mk (some 15) none (.p (.pick (.t 11) (.c (.bool true)) (.t 14))),
  ROp.mk (some 16) none (.p (.mv (.t 15))),
  ROp.mk (some 17) (some (16, false)) (.p (.fad 4 (.t 1))),
  ROp.mk (some 18) (some (16, false)) (.d (.load 1 false (.t 17))),
  ROp.mk (some 19) (some (16, false)) (.p (.arith .lss (.t 18) (.c (.int .i64 1)))),
  ROp.mk (some 20) none (.p (.pick (.t 16) (.c (.bool true)) (.t 19))),
  ROp.mk (some 21) none (.p (.mv (.t 20))),
  ROp.mk (some 22) (some (21, false)) (.p (.fad 4 (.t 1))),
  ROp.mk (some 23) (some (21, false)) (.d (.load 1 false (.t 22))),
  ROp.mk (some 24) (some (21, false)) (.p (.arith .gtr (.t 23) (.c (.int .i64 512)))),
  ROp.mk (some 25) none (.p (.pick (.t 21) (.c (.bool true)) (.t 24))),
  ROp.mk (some 26) none (.p (.mv (.t 25))),
  ROp.mk (some 27) (some (26, false)) (.p (.fad 0 (.t 1))),
  ROp.mk (some 28) (some (26, false)) (.d (.load 1 false (.t 27))),
  ROp.mk (some 29) (some (26, false)) (.p (.arith .gtr (.t 28) (.c (.int .i64 255)))),
  ROp.mk (some 30) none (.p (.pick (.t 26) (.c (.bool true)) (.t 29))),
  ROp.mk (some 31) none (.p (.mv (.t 30))),
  ROp.mk (some 32) (some (31, false)) (.p (.fad 1 (.t 1))),
  ROp.mk (some 33) (some (31, false)) (.d (.load 1 false (.t 32))),
  ROp.mk (some 34) (some (31, false)) (.p (.arith .gtr (.t 33) (.c (.int .i64 255)))),
  ROp.mk (some 35) none (.p (.pick (.t 31) (.c (.bool true)) (.t 34))),
  ROp.mk (some 36) none (.p (.mv (.t 35))),
  ROp.mk (some 37) (some (36, false)) (.p (.fad 2 (.t 1))),
  ROp.mk (some 38) (some (36, false)) (.d (.load 1 false (.t 37))),
  ROp.mk (some 39) (some (36, false)) (.p (.arith .gtr (.t 38) (.c (.int .i64 255)))),
  ROp.mk (some 40) none (.p (.pick (.t 36) (.c (.bool true)) (.t 39))),
  ROp.mk (some 41) none (.p (.mv (.t 40))),
  ROp.mk (some 42) (some (41, false)) (.p (.fad 3 (.t 1))),
  ROp.mk (some 43) (some (41, false)) (.d (.load 1 false (.t 42))),
  ROp.mk (some 44) (some (41, false)) (.p (.arith .gtr (.t 43) (.c (.int .i64 255)))),
  ROp.mk (some 45) none (.p (.pick (.t 41) (.c (.bool true)) (.t 44)))])
 (.cond (.t 45) (.seq (.ops [ROp.mk (some 2) none (.p (.mv (.c (.bool false))))])
  (.ret))
 (.skip)))
 (.seq (.ops [ROp.mk (some 46) none (.p (.fad 0 (.t 1))),
  ROp.mk (some 47) none (.d (.load 1 false (.t 46))),
  ROp.mk (some 48) none (.p (.fad 1 (.t 1))),
  ROp.mk (some 49) none (.d (.load 1 false (.t 48))),
  ROp.mk (some 50) none (.p (.fad 2 (.t 1))),
  ROp.mk (some 51) none (.d (.load 1 false (.t 50))),
  ROp.mk (some 52) none (.p (.arith .add (.t 49) (.t 51))),
  ROp.mk (some 53) none (.p (.fad 3 (.t 1))),
  ROp.mk (some 54) none (.d (.load 1 false (.t 53))),
  ROp.mk (some 55) none (.p (.arith .mul (.c (.int .i64 2)) (.t 54))),
  ROp.mk (some 56) none (.p (.arith .add (.t 52) (.t 55))),
  ROp.mk (some 57) none (.p (.arith .geq (.t 47) (.t 56))),
  ROp.mk (some 58) none (.p (.mv (.t 57))),
  ROp.mk (some 59) (some (58, true)) (.p (.fad 0 (.t 1))),
  ROp.mk (some 60) (some (58, true)) (.d (.load 1 false (.t 59))),
  ROp.mk (some 61) (some (58, true)) (.p (.fad 2 (.t 1))),
  ROp.mk (some 62) (some (58, true)) (.d (.load 1 false (.t 61))),
  ROp.mk (some 63) (some (58, true)) (.p (.arith .add (.t 60) (.t 62))),
  ROp.mk (some 64) (some (58, true)) (.p (.arith .leq (.t 63) (.c (.int .i64 255)))),
  ROp.mk (some 65) none (.p (.pick (.t 58) (.t 64) (.c (.bool false)))),
  ROp.mk (some 2) none (.p (.mv (.t 65)))])
 (.ret))))
theorem ok52 : rFun Tryz.prog an 52 = some rf52 := by kernel_rfl

def rf53 : RF := RF.mk 9 [.t 2] false (
 .seq (.ops [ROp.mk (some 1) none (.w (.box 5 (.t 0))),
  ROp.mk (some 2) none (.p (.mv (.c .nilp)))])
 (.seq (.draw [(ROp.mk (some 3) none (.d (.load 5 true (.t 1))), .r 0 2),
  (ROp.mk (some 4) none (.w (.call 74 [])), .w),
  (ROp.mk (some 5) none (.d (.load 5 true (.t 1))), .r 0 1),
  (ROp.mk (some 6) none (.w (.call 130 [(.t 5)])), .w),
  (ROp.mk (some 7) none (.p (.build [(.int .i64 0), (.int .i64 0), (.int .i64 0), (.int .i64 0), (.int .i64 0), .nilp, .nilp, (.int .i64 0), (.int .i64 0), (.int .i64 0), (.int .i64 0), (.int .i64 0), (.str []), (.int .i64 0), .nils, .nils, .nils, .nils, .nilm] [(0, 5, (.t 3)), (5, 1, (.t 4)), (6, 1, (.t 6))])), .p),
  (ROp.mk (some 8) none (.w (.box 19 (.t 7))), .w),
  (ROp.mk (some 2) none (.p (.mv (.t 8))), .p)] [])
 (.ret)))
theorem ok53 : rFun Tryz.prog an 53 = some rf53 := by kernel_rfl

def rf54 : RF := RF.mk 8 [.t 2] false (
 .seq (.ops [ROp.mk (some 1) none (.w (.box 5 (.t 0))),
  ROp.mk (some 2) none (.p (.mv (.c .nilp)))])
 (.seq (.draw [(ROp.mk (some 3) none (.d (.load 5 true (.t 1))), .r 0 2),
  (ROp.mk (some 4) none (.w (.call 74 [])), .w),
  (ROp.mk (some 5) none (.w (.call 84 [])), .w),
  (ROp.mk (some 6) none (.p (.build [(.int .i64 0), (.int .i64 0), (.int .i64 0), (.int .i64 0), (.int .i64 0), .nilp, .nilp, (.int .i64 0), .nils, (.bool false), (.int .i64 0), .nilm] [(0, 5, (.t 3)), (5, 1, (.t 4)), (6, 1, (.t 5))])), .p),
  (ROp.mk (some 7) none (.w (.box 12 (.t 6))), .w),
  (ROp.mk (some 2) none (.p (.mv (.t 7))), .p)] [])
 (.ret)))
theorem ok54 : rFun Tryz.prog an 54 = some rf54 := by kernel_rfl

def rf55 : RF := RF.mk 3 [.t 0] false (
 .seq (.ops [ROp.mk (some 0) none (.p (.mv (.c .nilp)))])
 (.seq (.ops [ROp.mk (some 1) none (.p (.build [.nils] [])),
  ROp.mk (some 2) none (.w (.box 1 (.t 1))),
  ROp.mk (some 0) none (.p (.mv (.t 2)))])
 (.ret)))
theorem ok55 : rFun Tryz.prog an 55 = some rf55 := by kernel_rfl

def rf56 : RF := RF.mk 16 [.t 4] false (
 .seq (.ops [ROp.mk (some 4) none (.p (.mv (.c (.bool false))))])
 (.seq (.ops [ROp.mk (some 5) none (.p (.mv (.t 1))),
  ROp.mk (some 6) none (.p (.arith .geq (.t 5) (.c (.int .i64 0)))),
  ROp.mk (some 7) none (.p (.mv (.t 6))),
  ROp.mk (some 8) (some (7, true)) (.p (.mv (.t 1))),
  ROp.mk (some 9) (some (7, true)) (.p (.mv (.t 0))),
  ROp.mk (some 10) (some (7, true)) (.p (.nchk (.t 9))),
  ROp.mk (some 11) (some (7, true)) (.p (.fad 0 (.t 10))),
  ROp.mk (some 12) (some (7, true)) (.p (.fad 0 (.t 11))),
  ROp.mk (some 13) (some (7, true)) (.d (.load 1 false (.t 12))),
  ROp.mk (some 14) (some (7, true)) (.p (.arith .lss (.t 8) (.t 13))),
  ROp.mk (some 15) none (.p (.pick (.t 7) (.t 14) (.c (.bool false)))),
  ROp.mk (some 4) none (.p (.mv (.t 15)))])
 (.ret)))
theorem ok56 : rFun Tryz.prog an 56 = some rf56 := by kernel_rfl

def rf57 : RF := RF.mk 26 [.t 4] false (
 .seq (.ops [ROp.mk (some 4) none (.p (.mv (.c (.bool false))))])
 (.seq (.seq (.ops [ROp.mk (some 6) none (.p (.mv (.t 0))),
  ROp.mk (some 7) none (.p (.lenL (.t 6))),
  ROp.mk (some 8) none (.p (.mv (.t 1))),
  ROp.mk (some 9) none (.p (.lenL (.t 8))),
  ROp.mk (some 10) none (.p (.arith .neq (.t 7) (.t 9)))])
 (.cond (.t 10) (.seq (.ops [ROp.mk (some 4) none (.p (.mv (.c (.bool false))))])
  (.ret))
 (.skip)))
 (.seq (.seq (.ops [ROp.mk (some 5) none (.p (.mv (.c (.int .i64 0))))])
 (.block 0 (.loop (.seq (.seq (.ops [ROp.mk (some 11) none (.p (.mv (.t 5))),
    ROp.mk (some 12) none (.p (.mv (.t 0))),
    ROp.mk (some 13) none (.p (.lenL (.t 12))),
    ROp.mk (some 14) none (.p (.arith .lss (.t 11) (.t 13)))])
   (.cond (.t 14) (.skip)
   (.exit 0)))
   (.seq (.block 1 (.seq (.draw [(ROp.mk (some 17) none (.p (.mv (.t 0))), .p),
     (ROp.mk (some 18) none (.p (.mv (.t 5))), .p),
     (ROp.mk (some 19) none (.p (.iaL 2 (.t 17) (.t 18))), .p),
     (ROp.mk (some 20) none (.d (.load 2 true (.t 19))), .r 0 0),
     (ROp.mk (some 21) none (.p (.mv (.t 1))), .p),
     (ROp.mk (some 22) none (.p (.mv (.t 5))), .p),
     (ROp.mk (some 23) none (.p (.iaL 2 (.t 21) (.t 22))), .p),
     (ROp.mk (some 24) none (.d (.load 2 true (.t 23))), .r 0 0),
     (ROp.mk (some 25) none (.p (.eq true (.agg [1, 0]) (.t 20) (.t 24))), .p)] [])
    (.cond (.t 25) (.seq (.ops [ROp.mk (some 4) none (.p (.mv (.c (.bool false))))])
     (.ret))
    (.skip))))
   (.ops [ROp.mk (some 15) none (.p (.mv (.t 5))),
    ROp.mk (some 16) none (.p (.arith .add (.t 15) (.c (.int .i64 1)))),
    ROp.mk (some 5) none (.p (.mv (.t 16)))]))))))
 (.seq (.ops [ROp.mk (some 4) none (.p (.mv (.c (.bool true))))])
 (.ret)))))
theorem ok57 : rFun Tryz.prog an 57 = some rf57 := by kernel_rfl

def rf69 : RF := RF.mk 4 [.t 2] false (
 .seq (.ops [ROp.mk (some 1) none (.w (.box 1 (.t 0))),
  ROp.mk (some 2) none (.p (.mv (.c .nilf)))])
 (.seq (.ops [ROp.mk (some 3) none (.p (.mkf 155 [] [(.t 1)])),
  ROp.mk (some 2) none (.p (.mv (.t 3)))])
 (.ret)))
theorem ok69 : rFun Tryz.prog an 69 = some rf69 := by kernel_rfl

def rf70 : RF := RF.mk 9 [.t 2] false (
 .seq (.ops [ROp.mk (some 2) none (.p (.mv (.c .nilp)))])
 (.seq (.seq (.ops [ROp.mk (some 3) none (.p (.mv (.t 0))),
  ROp.mk (some 4) none (.p (.eq false .ptr (.t 3) (.c .nilp)))])
 (.cond (.t 4) (.seq (.ops [ROp.mk (some 2) none (.p (.mv (.c .nilp)))])
  (.ret))
 (.skip)))
 (.seq (.ops [ROp.mk (some 5) none (.p (.mv (.t 0))),
  ROp.mk (some 6) none (.p (.nchk (.t 5))),
  ROp.mk (some 7) none (.p (.fad 6 (.t 6))),
  ROp.mk (some 8) none (.d (.load 1 false (.t 7))),
  ROp.mk (some 2) none (.p (.mv (.t 8)))])
 (.ret))))
theorem ok70 : rFun Tryz.prog an 70 = some rf70 := by kernel_rfl

def rf71 : RF := RF.mk 25 [.cell 2 6 true] false (
 .seq (.ops [ROp.mk (some 2) none (.w (.alloc [(.int .i64 0), (.int .i64 0), (.int .i64 0), .nils, .nils, .nils]))])
 (.seq (.seq (.ops [ROp.mk (some 6) none (.p (.mv (.t 0))),
  ROp.mk (some 7) none (.p (.eq false .ptr (.t 6) (.c .nilp)))])
 (.cond (.t 7) (.seq (.ops [ROp.mk (some 8) none (.p (.build [(.int .i64 0), (.int .i64 0), (.int .i64 0), .nils, .nils, .nils] [])),
   ROp.mk none none (.w (.store 6 (.t 2) (.t 8)))])
  (.ret))
 (.skip)))
 (.seq (.ops [ROp.mk (some 9) none (.p (.mv (.t 0))),
  ROp.mk (some 10) none (.p (.nchk (.t 9))),
  ROp.mk (some 11) none (.p (.fad 5 (.t 10))),
  ROp.mk (some 12) none (.d (.load 1 false (.t 11))),
  ROp.mk (some 13) none (.w (.call 47 [(.t 12)])),
  ROp.mk (some 3) none (.p (.mv (.t 13)))])
 (.seq (.seq (.ops [ROp.mk (some 14) none (.p (.mv (.t 3))),
  ROp.mk (some 15) none (.p (.lenL (.t 14))),
  ROp.mk (some 16) none (.p (.arith .eql (.t 15) (.c (.int .i64 0))))])
 (.cond (.t 16) (.seq (.ops [ROp.mk (some 17) none (.p (.mv (.t 0))),
   ROp.mk (some 18) none (.w (.call 158 [(.t 17)])),
   ROp.mk none none (.w (.store 6 (.t 2) (.t 18)))])
  (.ret))
 (.skip)))
 (.seq (.ops [ROp.mk (some 20) none (.p (.mv (.t 3))),
  ROp.mk (some 21) none (.w (.call 159 [(.t 20)])),
  ROp.mk (some 19) none (.p (.mv (.t 21))),
  ROp.mk (some 22) none (.p (.ext (.t 19) 0)),
  ROp.mk (some 23) none (.p (.ext (.t 19) 1)),
  ROp.mk (some 4) none (.w (.alloc [(.int .i64 0), (.int .i64 0), (.int .i64 0), .nils, .nils, .nils])),
  ROp.mk none none (.w (.store 6 (.t 4) (.t 22))),
  ROp.mk (some 5) none (.p (.mv (.t 23)))])
 (.seq (.ops [ROp.mk (some 24) none (.d (.load 6 true (.t 4))),
  ROp.mk none none (.w (.store 6 (.t 2) (.t 24)))])
 (.ret)))))))
theorem ok71 : rFun Tryz.prog an 71 = some rf71 := by kernel_rfl

def rf73 : RF := RF.mk 77 [.t 10, .t 11, .t 12] false (
 .seq (.ops [ROp.mk (some 6) none (.w (.box 5 (.t 1))),
  ROp.mk (some 10) none (.p (.mv (.c .nils))),
  ROp.mk (some 11) none (.p (.mv (.c .nils))),
  ROp.mk (some 12) none (.p (.mv (.c (.bool false))))])
 (.seq (.seq (.ops [ROp.mk (some 20) none (.d (.load 5 true (.t 6))),
  ROp.mk (some 21) none (.p (.mv (.t 2))),
  ROp.mk (some 22) none (.p (.mv (.t 3))),
  ROp.mk (some 23) none (.p (.mv (.t 4))),
  ROp.mk (some 24) none (.w (.call 160 [(.t 20), (.t 21), (.t 22), (.t 23)])),
  ROp.mk (some 25) none (.p (.un .not (.t 24)))])
 (.cond (.t 25) (.seq (.ops [ROp.mk (some 10) none (.p (.mv (.c .nils))),
   ROp.mk (some 11) none (.p (.mv (.c .nils))),
   ROp.mk (some 12) none (.p (.mv (.c (.bool false))))])
  (.ret))
 (.skip)))
 (.seq (.ops [ROp.mk (some 26) none (.d (.load 5 true (.t 6))),
  ROp.mk (some 27) none (.p (.mv (.t 3))),
  ROp.mk (some 28) none (.w (.call 161 [(.t 26), (.t 27)])),
  ROp.mk (some 13) none (.p (.mv (.t 28)))])
 (.seq (.seq (.ops [ROp.mk (some 29) none (.p (.mv (.t 2))),
  ROp.mk (some 30) none (.p (.mv (.c (.int .i64 0))))])
 (.block 0 (.loop (.seq (.ops [ROp.mk (some 31) none (.p (.arith .lss (.t 30) (.t 29)))])
   (.seq (.cond (.t 31) (.skip)
   (.exit 0))
   (.seq (.block 1 (.seq (.ops [ROp.mk (some 32) none (.p (.mv (.t 30))),
     ROp.mk (some 14) none (.p (.mv (.t 32)))])
    (.seq (.draw [(ROp.mk (some 34) none (.p (.mv (.t 0))), .p),
     (ROp.mk (some 35) none (.p (.mv (.t 13))), .p),
     (ROp.mk (some 36) none (.p (.mv (.t 4))), .p),
     (ROp.mk (some 37) none (.p (.mv (.t 14))), .p),
     (ROp.mk (some 38) none (.w (.call 163 [(.t 36), (.t 37)])), .w),
     (ROp.mk (some 39) none (.p (.fad 1 (.t 6))), .p),
     (ROp.mk (some 40) none (.d (.load 1 false (.t 39))), .r 0 1),
     (ROp.mk (some 41) none (.p (.fad 2 (.t 6))), .p),
     (ROp.mk (some 42) none (.d (.load 1 false (.t 41))), .r 0 1),
     (ROp.mk (some 43) none (.p (.arith .add (.t 40) (.t 42))), .p),
     (ROp.mk (some 44) none (.p (.arith .sub (.t 43) (.c (.int .i64 1)))), .p),
     (ROp.mk (some 45) none (.p (.fad 3 (.t 6))), .p),
     (ROp.mk (some 46) none (.d (.load 1 false (.t 45))), .r 0 1),
     (ROp.mk (some 47) none (.w (.call 162 [(.t 34), (.t 35), (.t 38), (.t 44), (.t 46)])), .w),
     (ROp.mk (some 33) none (.p (.mv (.t 47))), .p),
     (ROp.mk (some 48) none (.p (.ext (.t 33) 0)), .p),
     (ROp.mk (some 49) none (.p (.ext (.t 33) 1)), .p),
     (ROp.mk (some 50) none (.p (.ext (.t 33) 2)), .p),
     (ROp.mk (some 15) none (.p (.mv (.t 48))), .p),
     (ROp.mk (some 16) none (.p (.mv (.t 49))), .p),
     (ROp.mk (some 17) none (.p (.mv (.t 50))), .p)] [])
    (.seq (.seq (.ops [ROp.mk (some 51) none (.p (.mv (.t 17))),
     ROp.mk (some 52) none (.p (.un .not (.t 51)))])
    (.cond (.t 52) (.seq (.ops [ROp.mk (some 10) none (.p (.mv (.c .nils))),
      ROp.mk (some 11) none (.p (.mv (.c .nils))),
      ROp.mk (some 12) none (.p (.mv (.c (.bool false))))])
     (.ret))
    (.skip)))
    (.seq (.ops [ROp.mk (some 53) none (.p (.mv (.t 10))),
     ROp.mk (some 54) none (.p (.mv (.t 15))),
     ROp.mk (some 55) none (.p (.mkl [.nils] 1 1 [(0, 1, (.t 54))])),
     ROp.mk (some 56) none (.w (.app 1 24 (.t 53) (.t 55))),
     ROp.mk (some 10) none (.p (.mv (.t 56)))])
    (.seq (.ops [ROp.mk (some 57) none (.p (.mv (.t 16))),
     ROp.mk (some 58) none (.p (.lenL (.t 57))),
     ROp.mk (some 59) none (.p (.mv (.c (.int .i64 0))))])
    (.block 2 (.loop (.seq (.ops [ROp.mk (some 60) none (.p (.arith .lss (.t 59) (.t 58)))])
      (.seq (.cond (.t 60) (.skip)
      (.exit 2))
      (.seq (.block 3 (.seq (.ops [ROp.mk (some 61) none (.p (.iaL 1 (.t 57) (.t 59))),
        ROp.mk (some 62) none (.d (.load 1 false (.t 61))),
        ROp.mk (some 19) none (.p (.mv (.t 62)))])
       (.ops [ROp.mk (some 63) none (.p (.mv (.t 11))),
        ROp.mk (some 64) none (.p (.mv (.t 3))),
        ROp.mk (some 65) none (.p (.mv (.t 19))),
        ROp.mk (some 66) none (.p (.iaL 1 (.t 64) (.t 65))),
        ROp.mk (some 67) none (.d (.load 1 false (.t 66))),
        ROp.mk (some 68) none (.p (.mkl [(.int .i64 0)] 1 1 [(0, 1, (.t 67))])),
        ROp.mk (some 69) none (.w (.app 1 8 (.t 63) (.t 68))),
        ROp.mk (some 11) none (.p (.mv (.t 69)))])))
      (.ops [ROp.mk (some 70) none (.p (.arith .add (.t 59) (.c (.int .i64 1)))),
       ROp.mk (some 59) none (.p (.mv (.t 70)))]))))))))))))
   (.ops [ROp.mk (some 71) none (.p (.arith .add (.t 30) (.c (.int .i64 1)))),
    ROp.mk (some 30) none (.p (.mv (.t 71)))])))))))
 (.seq (.ops [ROp.mk (some 72) none (.p (.mv (.t 11))),
  ROp.mk (some 73) none (.w (.call 164 [(.t 72)]))])
 (.seq (.ops [ROp.mk (some 74) none (.p (.mv (.t 10))),
  ROp.mk (some 75) none (.p (.mv (.t 11))),
  ROp.mk (some 76) none (.w (.call 165 [(.t 75)])),
  ROp.mk (some 10) none (.p (.mv (.t 74))),
  ROp.mk (some 11) none (.p (.mv (.t 76))),
  ROp.mk (some 12) none (.p (.mv (.c (.bool true))))])
 (.ret)))))))
theorem ok73 : rFun Tryz.prog an 73 = some rf73 := by kernel_rfl

def rf74 : RF := RF.mk 29 [.t 0] false (
 .seq (.ops [ROp.mk (some 0) none (.p (.mv (.c .nilp)))])
 (.seq (.ops [ROp.mk (some 4) none (.p (.build [(.int .u8 0), (.int .u8 0), (.int .u8 0), (.int .u8 0), (.int .u8 0), (.int .u8 0), (.int .u8 0), (.int .u8 0), (.int .u8 0), (.int .u8 0), (.int .u8 0), (.int .u8 0), (.int .u8 0), (.int .u8 0), (.int .u8 0), (.int .u8 0), (.int .u8 0), (.int .u8 0), (.int .u8 0), (.int .u8 0), (.int .u8 0), (.int .u8 0), (.int .u8 0), (.int .u8 0), (.int .u8 0), (.int .u8 0), (.int .u8 0), (.int .u8 0), (.int .u8 0), (.int .u8 0), (.int .u8 0), (.int .u8 0), (.int .u8 0), (.int .u8 0), (.int .u8 0), (.int .u8 0), (.int .u8 0), (.int .u8 0), (.int .u8 0), (.int .u8 0), (.int .u8 0), (.int .u8 0), (.int .u8 0), (.int .u8 0), (.int .u8 0), (.int .u8 0), (.int .u8 0), (.int .u8 0), (.int .u8 0), (.int .u8 0), (.int .u8 0), (.int .u8 0), (.int .u8 0), (.int .u8 0), (.int .u8 0), (.int .u8 0), (.int .u8 0), (.int .u8 0), (.int .u8 0), (.int .u8 0), (.int .u8 0), (.int .u8 0), (.int .u8 0), (.int .u8 0), (.int .u8 0), (.int .u8 0), (.int .u8 0), (.int .u8 0), (.int .u8 0), (.int .u8 0), (.int .u8 0), (.int .u8 0), (.int .u8 0), (.int .u8 0), (.int .u8 0), (.int .u8 0), (.int .u8 0), (.int .u8 0), (.int .u8 0), (.int .u8 0), (.int .u8 0), (.int .u8 0), (.int .u8 0), (.int .u8 0), (.int .u8 0), (.int .u8 0), (.int .u8 0), (.int .u8 0), (.int .u8 0), (.int .u8 0), (.int .u8 0), (.int .u8 0), (.int .u8 0), (.int .u8 0), (.int .u8 0), (.int .u8 0), (.int .u8 0), (.int .u8 0), (.int .u8 0), (.int .u8 0), (.int .u8 0), (.int .u8 0), (.int .u8 0), (.int .u8 0), (.int .u8 0), (.int .u8 0), (.int .u8 0), (.int .u8 0), (.int .u8 0), (.int .u8 0), (.int .u8 0), (.int .u8 0), (.int .u8 0), (.int .u8 0), (.int .u8 0), (.int .u8 0), (.int .u8 0), (.int .u8 0), (.int .u8 0), (.int .u8 0), (.int .u8 0), (.int .u8 0), (.int .u8 0), (.int .u8 0), (.int .u8 0), (.int .u8 0), (.int .u8 0), (.int .u8 0), (.int .u8 0), (.int .u8 0), (.int .u8 0), (.int .u8 0), (.int .u8 0), (.int .u8 0), (.int .u8 0), (.int .u8 0), (.int .u8 0), (.int .u8 0), (.int .u8 0), (.int .u8 0), (.int .u8 0), (.int .u8 0), (.int .u8 0), (.int .u8 0), (.int .u8 0), (.int .u8 0), (.int .u8 0), (.int .u8 0), (.int .u8 0), (.int .u8 0), (.int .u8 0), (.int .u8 0), (.int .u8 0), (.int .u8 0), (.int .u8 0), (.int .u8 0), (.int .u8 0), (.int .u8 0), (.int .u8 0), (.int .u8 0), (.int .u8 0), (.int .u8 0), (.int .u8 0), (.int .u8 0), (.int .u8 0), (.int .u8 0), (.int .u8 0), (.int .u8 0), (.int .u8 0), (.int .u8 0), (.int .u8 0), (.int .u8 0), (.int .u8 0), (.int .u8 0), (.int .u8 0), (.int .u8 0), (.int .u8 0), (.int .u8 0), (.int .u8 0), (.int .u8 0), (.int .u8 0), (.int .u8 0), (.int .u8 0), (.int .u8 0), (.int .u8 0), (.int .u8 0), (.int .u8 0), (.int .u8 0), (.int .u8 0), (.int .u8 0), (.int .u8 0), (.int .u8 0), (.int .u8 0), (.int .u8 0), (.int .u8 0), (.int .u8 0), (.int .u8 0), (.int .u8 0), (.int .u8 0), (.int .u8 0), (.int .u8 0), (.int .u8 0), (.int .u8 0), (.int .u8 0), (.int .u8 0), (.int .u8 0), (.int .u8 0), (.int .u8 0), (.int .u8 0), (.int .u8 0), (.int .u8 0), (.int .u8 0), (.int .u8 0), (.int .u8 0), (.int .u8 0), (.int .u8 0), (.int .u8 0), (.int .u8 0), (.int .u8 0), (.int .u8 0), (.int .u8 0), (.int .u8 0), (.int .u8 0), (.int .u8 0), (.int .u8 0), (.int .u8 0), (.int .u8 0), (.int .u8 0), (.int .u8 0), (.int .u8 0), (.int .u8 0), (.int .u8 0), (.int .u8 0), (.int .u8 0), (.int .u8 0), (.int .u8 0), (.int .u8 0), (.int .u8 0), (.int .u8 0), (.int .u8 0), (.int .u8 0), (.int .u8 0), (.int .u8 0), (.int .u8 0), (.int .u8 0), (.int .u8 0), (.int .u8 0), (.int .u8 0), (.int .u8 0), (.int .u8 0), (.int .u8 0), (.int .u8 0), (.int .u8 0), (.int .u8 0), (.int .u8 0), (.int .u8 0), (.int .u8 0), (.int .u8 0), (.int .u8 0), (.int .u8 0), (.int .u8 0), (.int .u8 0), (.int .u8 0), (.int .u8 0), (.int .u8 0), (.int .u8 0), (.int .u8 0), (.int .u8 0), (.int .u8 0), (.int .u8 0), (.int .u8 0), (.int .u8 0), (.int .u8 0), (.int .u8 0), (.int .u8 0), (.int .u8 0), (.int .u8 0), (.int .u8 0), (.int .u8 0), (.int .u8 0), (.int .u8 0), (.int .u8 0), (.int .u8 0), (.int .u8 0), (.int .u8 0), (.int .u8 0), (.int .u8 0), (.int .u8 0), (.int .u8 0), (.int .u8 0), (.int .u8 0), (.int .u8 0), (.int .u8 0), (.int .u8 0), (.int .u8 0), (.int .u8 0), (.int .u8 0), (.int .u8 0), (.int .u8 0), (.int .u8 0), (.int .u8 0), (.int .u8 0), (.int .u8 0), (.int .u8 0), (.int .u8 0), (.int .u8 0), (.int .u8 0), (.int .u8 0), (.int .u8 0), (.int .u8 0), (.int .u8 0), (.int .u8 0), (.int .u8 0), (.int .u8 0), (.int .u8 0), (.int .u8 0), (.int .u8 0), (.int .u8 0), (.int .u8 0), (.int .u8 0), (.int .u8 0), (.int .u8 0), (.int .u8 0), (.int .u8 0), (.int .u8 0), (.int .u8 0), (.int .u8 0), (.int .u8 0), (.int .u8 0), (.int .u8 0), (.int .u8 0), (.int .u8 0), (.int .u8 0), (.int .u8 0), (.int .u8 0), (.int .u8 0), (.int .u8 0), (.int .u8 0), (.int .u8 0), (.int .u8 0), (.int .u8 0), (.int .u8 0), (.int .u8 0), (.int .u8 0), (.int .u8 0), (.int .u8 0), (.int .u8 0), (.int .u8 0), (.int .u8 0), (.int .u8 0), (.int .u8 0), (.int .u8 0), (.int .u8 0), (.int .u8 0), (.int .u8 0), (.int .u8 0), (.int .u8 0), (.int .u8 0), (.int .u8 0), (.int .u8 0), (.int .u8 0), (.int .u8 0), (.int .u8 0), (.int .u8 0), (.int .u8 0), (.int .u8 0), (.int .u8 0), (.int .u8 0), (.int .u8 0), (.int .u8 0), (.int .u8 0), (.int .u8 0), (.int .u8 0), (.int .u8 0), (.int .u8 0), (.int .u8 0), (.int .u8 0), (.int .u8 0), (.int .u8 0), (.int .u8 0), (.int .u8 0), (.int .u8 0), (.int .u8 0), (.int .u8 0), (.int .u8 0), (.int .u8 0), (.int .u8 0), (.int .u8 0), (.int .u8 0), (.int .u8 0), (.int .u8 0), (.int .u8 0), (.int .u8 0), (.int .u8 0), (.int .u8 0), (.int .u8 0), (.int .u8 0), (.int .u8 0), (.int .u8 0), (.int .u8 0), (.int .u8 0), (.int .u8 0), (.int .u8 0), (.int .u8 0), (.int .u8 0), (.int .u8 0), (.int .u8 0), (.int .u8 0), (.int .u8 0), (.int .u8 0), (.int .u8 0), (.int .u8 0), (.int .u8 0), (.int .u8 0), (.int .u8 0), (.int .u8 0), (.int .u8 0), (.int .u8 0), (.int .u8 0), (.int .u8 0), (.int .u8 0), (.int .u8 0), (.int .u8 0), (.int .u8 0), (.int .u8 0), (.int .u8 0), (.int .u8 0), (.int .u8 0), (.int .u8 0), (.int .u8 0), (.int .u8 0), (.int .u8 0), (.int .u8 0), (.int .u8 0), (.int .u8 0), (.int .u8 0), (.int .u8 0), (.int .u8 0), (.int .u8 0), (.int .u8 0), (.int .u8 0), (.int .u8 0), (.int .u8 0), (.int .u8 0), (.int .u8 0), (.int .u8 0), (.int .u8 0), (.int .u8 0), (.int .u8 0), (.int .u8 0), (.int .u8 0), (.int .u8 0), (.int .u8 0), (.int .u8 0), (.int .u8 0), (.int .u8 0), (.int .u8 0), (.int .u8 0), (.int .u8 0), (.int .u8 0), (.int .u8 0), (.int .u8 0), (.int .u8 0), (.int .u8 0), (.int .u8 0), (.int .u8 0), (.int .u8 0), (.int .u8 0), (.int .u8 0), (.int .u8 0), (.int .u8 0), (.int .u8 0), (.int .u8 0), (.int .u8 0), (.int .u8 0), (.int .u8 0), (.int .u8 0), (.int .u8 0), (.int .u8 0), (.int .u8 0), (.int .u8 0), (.int .u8 0), (.int .u8 0), (.int .u8 0), (.int .u8 0), (.int .u8 0), (.int .u8 0), (.int .u8 0), (.int .u8 0), (.int .u8 0), (.int .u8 0), (.int .u8 0), (.int .u8 0), (.int .u8 0), (.int .u8 0), (.int .u8 0), (.int .u8 0), (.int .u8 0), (.int .u8 0), (.int .u8 0), (.int .u8 0), (.int .u8 0), (.int .u8 0), (.int .u8 0), (.int .u8 0), (.int .u8 0), (.int .u8 0), (.int .u8 0), (.int .u8 0), (.int .u8 0), (.int .i64 0), (.int .i64 0), (.int .i64 0), (.int .i64 0), (.int .i64 0), (.int .i64 0), (.int .i64 0), (.int .i64 0), (.int .i64 0), (.int .i64 0), (.int .i64 0), (.int .i64 0), (.int .i64 0), (.int .i64 0), (.int .i64 0), (.int .i64 0), (.int .i64 0), (.int .i64 0), (.int .i64 0), (.int .i64 0), (.int .i64 0), (.int .i64 0), (.int .i64 0), (.int .i64 0), (.int .i64 0), (.int .i64 0), (.int .i64 0), (.int .i64 0), (.int .i64 0), (.int .i64 0), (.int .i64 0), (.int .i64 0), (.int .i64 0), (.int .i64 0), (.int .i64 0), (.int .i64 0), (.int .i64 0), (.int .i64 0), (.int .i64 0), (.int .i64 0), (.int .i64 0), (.int .i64 0), (.int .i64 0), (.int .i64 0), (.int .i64 0), (.int .i64 0), (.int .i64 0), (.int .i64 0), (.int .i64 0), (.int .i64 0), (.int .i64 0), (.int .i64 0), (.int .i64 0), (.int .i64 0), (.int .i64 0), (.int .i64 0), (.int .i64 0), (.int .i64 0), (.int .i64 0), (.int .i64 0), (.int .i64 0), (.int .i64 0), (.int .i64 0), (.int .i64 0), (.int .i64 0), (.int .i64 0), (.int .i64 0), (.int .i64 0), (.int .i64 0), (.int .i64 0), (.int .i64 0), (.int .i64 0), (.int .i64 0), (.int .i64 0), (.int .i64 0), (.int .i64 0), (.int .i64 0), (.int .i64 0), (.int .i64 0), (.int .i64 0), (.int .i64 0), (.int .i64 0), (.int .i64 0), (.int .i64 0), (.int .i64 0), (.int .i64 0), (.int .i64 0), (.int .i64 0), (.int .i64 0), (.int .i64 0), (.int .i64 0), (.int .i64 0), (.int .i64 0), (.int .i64 0), (.int .i64 0), (.int .i64 0), (.int .i64 0), (.int .i64 0), (.int .i64 0), (.int .i64 0), (.int .i64 0), (.int .i64 0), (.int .i64 0), (.int .i64 0), (.int .i64 0), (.int .i64 0), (.int .i64 0), (.int .i64 0), (.int .i64 0), (.int .i64 0), (.int .i64 0), (.int .i64 0), (.int .i64 0), (.int .i64 0), (.int .i64 0), (.int .i64 0), (.int .i64 0), (.int .i64 0), (.int .i64 0), (.int .i64 0), (.int .i64 0), (.int .i64 0), (.int .i64 0), (.int .i64 0), (.int .i64 0), (.int .i64 0), (.int .i64 0), (.int .i64 0), (.int .i64 0), (.int .i64 0), (.int .i64 0), (.int .i64 0), (.int .i64 0), (.int .i64 0), (.int .i64 0), (.int .i64 0), (.int .i64 0), (.int .i64 0), (.int .i64 0), (.int .i64 0), (.int .i64 0), (.int .i64 0), (.int .i64 0), (.int .i64 0), (.int .i64 0), (.int .i64 0), (.int .i64 0), (.int .i64 0), (.int .i64 0), (.int .i64 0), (.int .i64 0), (.int .i64 0), (.int .i64 0), (.int .i64 0), (.int .i64 0), (.int .i64 0), (.int .i64 0), (.int .i64 0), (.int .i64 0), (.int .i64 0), (.int .i64 0), (.int .i64 0), (.int .i64 0), (.int .i64 0), (.int .i64 0), (.int .i64 0), (.int .i64 0), (.int .i64 0), (.int .i64 0), (.int .i64 0), (.int .i64 0), (.int .i64 0), (.int .i64 0), (.int .i64 0), (.int .i64 0), (.int .i64 0), (.int .i64 0), (.int .i64 0), (.int .i64 0), (.int .i64 0), (.int .i64 0), (.int .i64 0), (.int .i64 0), (.int .i64 0), (.int .i64 0), (.int .i64 0), (.int .i64 0), (.int .i64 0), (.int .i64 0), (.int .i64 0), (.int .i64 0), (.int .i64 0), (.int .i64 0), (.int .i64 0), (.int .i64 0), (.int .i64 0), (.int .i64 0), (.int .i64 0), (.int .i64 0), (.int .i64 0), (.int .i64 0), (.int .i64 0), (.int .i64 0), (.int .i64 0), (.int .i64 0), (.int .i64 0), (.int .i64 0), (.int .i64 0), (.int .i64 0), (.int .i64 0), (.int .i64 0), (.int .i64 0), (.int .i64 0), (.int .i64 0), (.int .i64 0), (.int .i64 0), (.int .i64 0), (.int .i64 0), (.int .i64 0), (.int .i64 0), (.int .i64 0), (.int .i64 0), (.int .i64 0), (.int .i64 0), (.int .i64 0), (.int .i64 0), (.int .i64 0), (.int .i64 0), (.int .i64 0), (.int .i64 0), (.int .i64 0), (.int .i64 0), (.int .i64 0), (.int .i64 0), (.int .i64 0), (.int .i64 0), (.int .i64 0), (.int .i64 0), (.int .i64 0), (.int .i64 0), (.int .i64 0), (.int .i64 0), (.int .i64 0), (.int .i64 0), (.int .i64 0), (.int .i64 0), (.int .i64 0), (.int .i64 0), (.int .i64 0), (.int .i64 0), (.int .i64 0), (.int .i64 0), (.int .i64 0), (.int .i64 0), (.int .i64 0), (.int .i64 0)] [])),
  ROp.mk (some 5) none (.w (.box 766 (.t 4))),
  ROp.mk (some 1) none (.w (.alloc [.nilp])),
  ROp.mk none none (.w (.store 1 (.t 1) (.t 5)))])
 (.seq (.seq (.ops [ROp.mk (some 6) none (.w (.call 166 []))])
 (.block 0 (.range (.t 6) [7, 8] (.seq (.ops [ROp.mk (some 2) none (.p (.mv (.t 7)))])
   (.ops [ROp.mk (some 3) none (.p (.mv (.t 8)))]))
  (.block 1 (.seq (.draw [(ROp.mk (some 9) none (.d (.load 1 false (.t 1))), .r 0 0),
     (ROp.mk (some 10) none (.p (.mv (.t 2))), .p),
     (ROp.mk (some 11) none (.d (.load 1 false (.t 1))), .r 0 1),
     (ROp.mk (some 12) none (.p (.mv (.t 2))), .p),
     (ROp.mk (some 13) none (.p (.arith .add (.t 12) (.c (.int .i64 255)))), .p),
     (ROp.mk (some 14) none (.p (.mv (.t 3))), .p),
     (ROp.mk (some 15) none (.p (.mv (.t 3))), .p),
     (ROp.mk (some 16) none (.p (.nchk (.t 9))), .p),
     (ROp.mk (some 17) none (.p (.fad 0 (.t 16))), .p),
     (ROp.mk (some 18) none (.p (.iaA 510 1 (.t 17) (.t 10))), .p),
     (ROp.mk none none (.w (.store 1 (.t 18) (.t 14))), .w),
     (ROp.mk (some 19) none (.p (.nchk (.t 11))), .p),
     (ROp.mk (some 20) none (.p (.fad 0 (.t 19))), .p),
     (ROp.mk (some 21) none (.p (.iaA 510 1 (.t 20) (.t 13))), .p),
     (ROp.mk none none (.w (.store 1 (.t 21) (.t 15))), .w)] [])
    (.ops [ROp.mk (some 22) none (.d (.load 1 false (.t 1))),
     ROp.mk (some 23) none (.p (.mv (.t 3))),
     ROp.mk (some 24) none (.p (.mv (.t 2))),
     ROp.mk (some 25) none (.p (.nchk (.t 22))),
     ROp.mk (some 26) none (.p (.fad 510 (.t 25))),
     ROp.mk (some 27) none (.p (.iaA 256 1 (.t 26) (.t 23))),
     ROp.mk none none (.w (.store 1 (.t 27) (.t 24)))]))))))
 (.seq (.ops [ROp.mk (some 28) none (.d (.load 1 false (.t 1))),
  ROp.mk (some 0) none (.p (.mv (.t 28)))])
 (.ret)))))
theorem ok74 : rFun Tryz.prog an 74 = some rf74 := by kernel_rfl

def rf75 : RF := RF.mk 18 [.t 2] false (
 .seq (.ops [ROp.mk (some 2) none (.p (.mv (.c (.bool false))))])
 (.seq (.ops [ROp.mk (some 3) none (.p (.mv (.t 0))),
  ROp.mk (some 4) none (.p (.eq true .ptr (.t 3) (.c .nilp))),
  ROp.mk (some 5) none (.p (.mv (.t 4))),
  ROp.mk (some 6) (some (5, true)) (.p (.mv (.t 0))),
  ROp.mk (some 7) (some (5, true)) (.p (.nchk (.t 6))),
  ROp.mk (some 8) (some (5, true)) (.p (.fad 6 (.t 7))),
  ROp.mk (some 9) (some (5, true)) (.d (.load 1 false (.t 8))),
  ROp.mk (some 10) (some (5, true)) (.p (.mv (.t 9))),
  ROp.mk (some 11) (some (10, false)) (.p (.mv (.t 0))),
  ROp.mk (some 12) (some (10, false)) (.p (.nchk (.t 11))),
  ROp.mk (some 13) (some (10, false)) (.p (.fad 5 (.t 12))),
  ROp.mk (some 14) (some (10, false)) (.d (.load 1 false (.t 13))),
  ROp.mk (some 15) (some (10, false)) (.w (.call 44 [(.t 14)])),
  ROp.mk (some 16) (some (5, true)) (.p (.pick (.t 10) (.c (.bool true)) (.t 15))),
  ROp.mk (some 17) none (.p (.pick (.t 5) (.t 16) (.c (.bool false)))),
  ROp.mk (some 2) none (.p (.mv (.t 17)))])
 (.ret)))
theorem ok75 : rFun Tryz.prog an 75 = some rf75 := by kernel_rfl

def rf76 : RF := RF.mk 43 [.t 2] false (
 .seq (.ops [ROp.mk (some 2) none (.p (.mv (.c (.bool false))))])
 (.seq (.seq (.ops [ROp.mk (some 5) none (.p (.mv (.t 0))),
  ROp.mk (some 6) none (.p (.eq false .ptr (.t 5) (.c .nilp)))])
 (.cond (.t 6) (.seq (.ops [ROp.mk (some 2) none (.p (.mv (.c (.bool false))))])
  (.ret))
 (.skip)))
 (.seq (.ops [ROp.mk (some 7) none (.p (.mv (.t 0))),
  ROp.mk (some 8) none (.w (.call 78 [(.t 7)])),
  ROp.mk (some 3) none (.w (.alloc [(.int .i64 0), (.int .i64 0)])),
  ROp.mk none none (.w (.store 2 (.t 3) (.t 8)))])
 (.seq (.seq (.ops [ROp.mk (some 9) none (.p (.mv (.t 0))),
  ROp.mk (some 10) none (.p (.nchk (.t 9))),
  ROp.mk (some 11) none (.p (.fad 1 (.t 10))),
  ROp.mk (some 12) none (.d (.load 1 false (.t 11))),
  ROp.mk (some 13) none (.p (.mv (.c (.int .i64 0))))])
 (.block 0 (.loop (.seq (.ops [ROp.mk (some 14) none (.p (.arith .lss (.t 13) (.t 12)))])
   (.seq (.cond (.t 14) (.skip)
   (.exit 0))
   (.seq (.block 1 (.seq (.ops [ROp.mk (some 15) none (.p (.mv (.t 13))),
     ROp.mk (some 4) none (.p (.mv (.t 15)))])
    (.seq (.ops [ROp.mk (some 16) none (.p (.mv (.t 0))),
     ROp.mk (some 17) none (.p (.mv (.t 0))),
     ROp.mk (some 18) none (.p (.fad 0 (.t 3))),
     ROp.mk (some 19) none (.d (.load 1 false (.t 18))),
     ROp.mk (some 20) none (.p (.arith .sub (.c (.int .i64 1)) (.t 19))),
     ROp.mk (some 21) none (.p (.mv (.t 4))),
     ROp.mk (some 22) none (.w (.call 79 [(.t 17), (.t 20), (.t 21)])),
     ROp.mk (some 23) none (.w (.call 80 [(.t 16), (.t 22)])),
     ROp.mk (some 24) none (.p (.un .not (.t 23))),
     ROp.mk (some 25) none (.p (.mv (.t 24))),
     ROp.mk (some 26) (some (25, false)) (.p (.mv (.t 4))),
     ROp.mk (some 27) (some (25, false)) (.p (.fad 1 (.t 3))),
     ROp.mk (some 28) (some (25, false)) (.d (.load 1 false (.t 27))),
     ROp.mk (some 29) (some (25, false)) (.w (.call 121 [(.t 28)])),
     ROp.mk (some 30) (some (25, false)) (.p (.arith .geq (.t 26) (.t 29))),
     ROp.mk (some 31) (some (25, false)) (.p (.mv (.t 30))),
     ROp.mk (some 32) (some (31, true)) (.p (.mv (.t 0))),
     ROp.mk (some 33) (some (31, true)) (.p (.mv (.t 0))),
     ROp.mk (some 34) (some (31, true)) (.p (.fad 0 (.t 3))),
     ROp.mk (some 35) (some (31, true)) (.d (.load 1 false (.t 34))),
     ROp.mk (some 36) (some (31, true)) (.p (.mv (.t 4))),
     ROp.mk (some 37) (some (31, true)) (.w (.call 79 [(.t 33), (.t 35), (.t 36)])),
     ROp.mk (some 38) (some (31, true)) (.w (.call 80 [(.t 32), (.t 37)])),
     ROp.mk (some 39) (some (31, true)) (.p (.un .not (.t 38))),
     ROp.mk (some 40) (some (25, false)) (.p (.pick (.t 31) (.t 39) (.c (.bool false)))),
     ROp.mk (some 41) none (.p (.pick (.t 25) (.c (.bool true)) (.t 40)))])
    (.cond (.t 41) (.seq (.ops [ROp.mk (some 2) none (.p (.mv (.c (.bool false))))])
     (.ret))
    (.skip)))))
   (.ops [ROp.mk (some 42) none (.p (.arith .add (.t 13) (.c (.int .i64 1)))),
    ROp.mk (some 13) none (.p (.mv (.t 42)))])))))))
 (.seq (.ops [ROp.mk (some 2) none (.p (.mv (.c (.bool true))))])
 (.ret))))))
theorem ok76 : rFun Tryz.prog an 76 = some rf76 := by kernel_rfl

def rf78 : RF := RF.mk 40 [.cell 2 2 true] false (
 .seq (.ops [ROp.mk (some 2) none (.w (.alloc [(.int .i64 0), (.int .i64 0)]))])
 (.seq (.ops [ROp.mk (some 6) none (.p (.mv (.t 0))),
  ROp.mk (some 7) none (.p (.nchk (.t 6))),
  ROp.mk (some 8) none (.p (.fad 0 (.t 7))),
  ROp.mk (some 9) none (.d (.load 1 false (.t 8))),
  ROp.mk (some 10) none (.w (.call 122 [(.t 9), (.c (.int .i64 0))])),
  ROp.mk (some 5) none (.p (.mv (.t 10))),
  ROp.mk (some 11) none (.p (.ext (.t 5) 0)),
  ROp.mk (some 12) none (.p (.ext (.t 5) 1)),
  ROp.mk (some 3) none (.p (.mv (.t 11))),
  ROp.mk (some 4) none (.p (.mv (.t 12)))])
 (.seq (.draw [(ROp.mk (some 13) none (.p (.mv (.t 3))), .p),
  (ROp.mk (some 14) none (.p (.iaL 1 (.t 13) (.c (.int .i64 0)))), .p),
  (ROp.mk (some 15) none (.d (.load 1 false (.t 14))), .r 0 0),
  (ROp.mk (some 16) none (.p (.toInt .i64 (.t 15))), .p),
  (ROp.mk (some 17) none (.p (.mv (.t 3))), .p),
  (ROp.mk (some 18) none (.p (.iaL 1 (.t 17) (.c (.int .i64 1)))), .p),
  (ROp.mk (some 19) none (.d (.load 1 false (.t 18))), .r 0 0),
  (ROp.mk (some 20) none (.p (.toInt .i64 (.t 19))), .p),
  (ROp.mk (some 21) none (.p (.arith .shl (.t 20) (.c (.int .u64 24)))), .p),
  (ROp.mk (some 22) none (.p (.mv (.t 3))), .p),
  (ROp.mk (some 23) none (.p (.iaL 1 (.t 22) (.c (.int .i64 2)))), .p),
  (ROp.mk (some 24) none (.d (.load 1 false (.t 23))), .r 0 0),
  (ROp.mk (some 25) none (.p (.toInt .i64 (.t 24))), .p),
  (ROp.mk (some 26) none (.p (.arith .shl (.t 25) (.c (.int .u64 16)))), .p),
  (ROp.mk (some 27) none (.p (.arith .or (.t 21) (.t 26))), .p),
  (ROp.mk (some 28) none (.p (.mv (.t 3))), .p),
  (ROp.mk (some 29) none (.p (.iaL 1 (.t 28) (.c (.int .i64 3)))), .p),
  (ROp.mk (some 30) none (.d (.load 1 false (.t 29))), .r 0 0),
  (ROp.mk (some 31) none (.p (.toInt .i64 (.t 30))), .p),
  (ROp.mk (some 32) none (.p (.arith .shl (.t 31) (.c (.int .u64 8)))), .p),
  (ROp.mk (some 33) none (.p (.arith .or (.t 27) (.t 32))), .p),
  (ROp.mk (some 34) none (.p (.mv (.t 3))), .p),
  (ROp.mk (some 35) none (.p (.iaL 1 (.t 34) (.c (.int .i64 4)))), .p),
  (ROp.mk (some 36) none (.d (.load 1 false (.t 35))), .r 0 0),
  (ROp.mk (some 37) none (.p (.toInt .i64 (.t 36))), .p),
  (ROp.mk (some 38) none (.p (.arith .or (.t 33) (.t 37))), .p),
  (ROp.mk (some 39) none (.p (.build [(.int .i64 0), (.int .i64 0)] [(0, 1, (.t 16)), (1, 1, (.t 38))])), .p),
  (ROp.mk none none (.w (.store 2 (.t 2) (.t 39))), .w)] [])
 (.ret))))
theorem ok78 : rFun Tryz.prog an 78 = some rf78 := by kernel_rfl

def rf79 : RF := RF.mk 16 [.t 6] false (
 .seq (.ops [ROp.mk (some 6) none (.p (.mv (.c (.int .i64 0))))])
 (.seq (.ops [ROp.mk (some 7) none (.p (.mv (.t 1))),
  ROp.mk (some 8) none (.p (.mv (.t 0))),
  ROp.mk (some 9) none (.p (.nchk (.t 8))),
  ROp.mk (some 10) none (.p (.fad 1 (.t 9))),
  ROp.mk (some 11) none (.d (.load 1 false (.t 10))),
  ROp.mk (some 12) none (.p (.arith .mul (.t 7) (.t 11))),
  ROp.mk (some 13) none (.p (.arith .add (.c (.int .i64 1)) (.t 12))),
  ROp.mk (some 14) none (.p (.mv (.t 2))),
  ROp.mk (some 15) none (.p (.arith .add (.t 13) (.t 14))),
  ROp.mk (some 6) none (.p (.mv (.t 15)))])
 (.ret)))
theorem ok79 : rFun Tryz.prog an 79 = some rf79 := by kernel_rfl

def rf80 : RF := RF.mk 19 [.t 4] false (
 .seq (.ops [ROp.mk (some 4) none (.p (.mv (.c (.bool false))))])
 (.seq (.ops [ROp.mk (some 8) none (.p (.mv (.t 0))),
  ROp.mk (some 9) none (.p (.nchk (.t 8))),
  ROp.mk (some 10) none (.p (.fad 0 (.t 9))),
  ROp.mk (some 11) none (.d (.load 1 false (.t 10))),
  ROp.mk (some 12) none (.p (.mv (.t 1))),
  ROp.mk (some 13) none (.w (.call 122 [(.t 11), (.t 12)])),
  ROp.mk (some 7) none (.p (.mv (.t 13))),
  ROp.mk (some 14) none (.p (.ext (.t 7) 0)),
  ROp.mk (some 15) none (.p (.ext (.t 7) 1)),
  ROp.mk (some 5) none (.p (.mv (.t 14))),
  ROp.mk (some 6) none (.p (.mv (.t 15)))])
 (.seq (.ops [ROp.mk (some 16) none (.p (.mv (.t 5))),
  ROp.mk (some 17) none (.w (.mks [(.int .u8 0)] 1 1 (.c (.int .i64 32)) (.c (.int .i64 32)))),
  ROp.mk (some 18) none (.w (.call 50 [(.t 16), (.t 17)])),
  ROp.mk (some 4) none (.p (.mv (.t 18)))])
 (.ret))))
theorem ok80 : rFun Tryz.prog an 80 = some rf80 := by kernel_rfl

def rf83 : RF := RF.mk 13 [.t 2] false (
 .seq (.ops [ROp.mk (some 2) none (.p (.mv (.c .nilp)))])
 (.seq (.ops [ROp.mk (some 3) none (.p (.mv (.t 0))),
  ROp.mk (some 4) none (.p (.maxI (.t 3) [(.c (.int .i64 0))])),
  ROp.mk (some 5) none (.p (.minI (.t 4) [(.c (.int .i64 512))])),
  ROp.mk (some 0) none (.p (.mv (.t 5)))])
 (.seq (.ops [ROp.mk (some 6) none (.p (.mv (.t 0))),
  ROp.mk (some 7) none (.p (.arith .mul (.c (.int .i64 2)) (.t 6))),
  ROp.mk (some 8) none (.p (.arith .add (.c (.int .i64 1)) (.t 7))),
  ROp.mk (some 9) none (.w (.call 168 [(.t 8)])),
  ROp.mk (some 10) none (.p (.mv (.t 0))),
  ROp.mk (some 11) none (.p (.build [.nilp, (.int .i64 0)] [(0, 1, (.t 9)), (1, 1, (.t 10))])),
  ROp.mk (some 12) none (.w (.box 2 (.t 11))),
  ROp.mk (some 2) none (.p (.mv (.t 12)))])
 (.ret))))
theorem ok83 : rFun Tryz.prog an 83 = some rf83 := by kernel_rfl

def rf84 : RF := RF.mk 3 [.t 0] false (
 .seq (.ops [ROp.mk (some 0) none (.p (.mv (.c .nilp)))])
 (.seq (.ops [ROp.mk (some 1) none (.p (.build [.nils, (.int .i64 0)] [])),
  ROp.mk (some 2) none (.w (.box 2 (.t 1))),
  ROp.mk (some 0) none (.p (.mv (.t 2)))])
 (.ret)))
theorem ok84 : rFun Tryz.prog an 84 = some rf84 := by kernel_rfl

def rf88 : RF := RF.mk 8 [.t 2] false (
 .seq (.ops [ROp.mk (some 2) none (.p (.mv (.c .nils)))])
 (.seq (.seq (.ops [ROp.mk (some 3) none (.p (.mv (.t 0))),
  ROp.mk (some 4) none (.p (.eq false .slice (.t 3) (.c .nils)))])
 (.cond (.t 4) (.seq (.ops [ROp.mk (some 2) none (.p (.mv (.c .nils)))])
  (.ret))
 (.skip)))
 (.seq (.ops [ROp.mk (some 5) none (.p (.mkl [] 0 1 [])),
  ROp.mk (some 6) none (.p (.mv (.t 0))),
  ROp.mk (some 7) none (.w (.app 1 1 (.t 5) (.t 6))),
  ROp.mk (some 2) none (.p (.mv (.t 7)))])
 (.ret))))
theorem ok88 : rFun Tryz.prog an 88 = some rf88 := by kernel_rfl

def rf90 : RF := RF.mk 19 [.t 4] false (
 .seq (.ops [ROp.mk (some 4) none (.p (.mv (.c (.int .i64 0))))])
 (.seq (.seq (.ops [ROp.mk (some 6) none (.p (.mv (.t 0))),
  ROp.mk (some 7) none (.p (.lenL (.t 6))),
  ROp.mk (some 8) none (.p (.mv (.c (.int .i64 0))))])
 (.block 0 (.loop (.seq (.ops [ROp.mk (some 9) none (.p (.arith .lss (.t 8) (.t 7)))])
   (.seq (.cond (.t 9) (.skip)
   (.exit 0))
   (.seq (.block 1 (.seq (.ops [ROp.mk (some 10) none (.p (.mv (.t 8))),
     ROp.mk (some 5) none (.p (.mv (.t 10)))])
    (.seq (.ops [ROp.mk (some 11) none (.p (.mv (.t 1))),
     ROp.mk (some 12) none (.p (.mv (.t 0))),
     ROp.mk (some 13) none (.p (.mv (.t 5))),
     ROp.mk (some 14) none (.p (.iaL 4 (.t 12) (.t 13))),
     ROp.mk (some 15) none (.d (.load 4 true (.t 14))),
     ROp.mk (some 16) none (.w (.callv (.t 11) [(.t 15)]))])
    (.cond (.t 16) (.seq (.ops [ROp.mk (some 17) none (.p (.mv (.t 5))),
      ROp.mk (some 4) none (.p (.mv (.t 17)))])
     (.ret))
    (.skip)))))
   (.ops [ROp.mk (some 18) none (.p (.arith .add (.t 8) (.c (.int .i64 1)))),
    ROp.mk (some 8) none (.p (.mv (.t 18)))])))))))
 (.seq (.ops [ROp.mk (some 4) none (.p (.mv (.c (.int .i64 (-1)))))])
 (.ret))))
theorem ok90 : rFun Tryz.prog an 90 = some rf90 := by kernel_rfl

def rf92 : RF := RF.mk 26 [.t 4] false (
 .seq (.ops [ROp.mk (some 4) none (.p (.mv (.c (.bool false))))])
 (.seq (.seq (.ops [ROp.mk (some 6) none (.p (.mv (.t 0))),
  ROp.mk (some 7) none (.p (.lenL (.t 6))),
  ROp.mk (some 8) none (.p (.mv (.t 1))),
  ROp.mk (some 9) none (.p (.lenL (.t 8))),
  ROp.mk (some 10) none (.p (.arith .neq (.t 7) (.t 9)))])
 (.cond (.t 10) (.seq (.ops [ROp.mk (some 4) none (.p (.mv (.c (.bool false))))])
  (.ret))
 (.skip)))
 (.seq (.seq (.ops [ROp.mk (some 11) none (.p (.mv (.t 0))),
  ROp.mk (some 12) none (.p (.lenL (.t 11))),
  ROp.mk (some 13) none (.p (.mv (.c (.int .i64 0))))])
 (.block 0 (.loop (.seq (.ops [ROp.mk (some 14) none (.p (.arith .lss (.t 13) (.t 12)))])
   (.seq (.cond (.t 14) (.skip)
   (.exit 0))
   (.seq (.block 1 (.seq (.ops [ROp.mk (some 15) none (.p (.mv (.t 13))),
     ROp.mk (some 5) none (.p (.mv (.t 15)))])
    (.seq (.draw [(ROp.mk (some 16) none (.p (.mv (.t 0))), .p),
     (ROp.mk (some 17) none (.p (.mv (.t 5))), .p),
     (ROp.mk (some 18) none (.p (.iaL 2 (.t 16) (.t 17))), .p),
     (ROp.mk (some 19) none (.d (.load 2 true (.t 18))), .r 0 0),
     (ROp.mk (some 20) none (.p (.mv (.t 1))), .p),
     (ROp.mk (some 21) none (.p (.mv (.t 5))), .p),
     (ROp.mk (some 22) none (.p (.iaL 2 (.t 20) (.t 21))), .p),
     (ROp.mk (some 23) none (.d (.load 2 true (.t 22))), .r 0 0),
     (ROp.mk (some 24) none (.p (.eq true (.agg [1, 0]) (.t 19) (.t 23))), .p)] [])
    (.cond (.t 24) (.seq (.ops [ROp.mk (some 4) none (.p (.mv (.c (.bool false))))])
     (.ret))
    (.skip)))))
   (.ops [ROp.mk (some 25) none (.p (.arith .add (.t 13) (.c (.int .i64 1)))),
    ROp.mk (some 13) none (.p (.mv (.t 25)))])))))))
 (.seq (.ops [ROp.mk (some 4) none (.p (.mv (.c (.bool true))))])
 (.ret)))))
theorem ok92 : rFun Tryz.prog an 92 = some rf92 := by kernel_rfl

def rf103 : RF := RF.mk 9 [.t 4] false (
 .seq (.ops [ROp.mk (some 4) none (.p (.mv (.c (.bool false))))])
 (.seq (.ops [ROp.mk (some 5) none (.p (.mv (.t 0))),
  ROp.mk (some 6) none (.p (.mv (.t 1))),
  ROp.mk (some 7) none (.w (.call 183 [(.t 5), (.t 6)])),
  ROp.mk (some 8) none (.p (.arith .geq (.t 7) (.c (.int .i64 0)))),
  ROp.mk (some 4) none (.p (.mv (.t 8)))])
 (.ret)))
theorem ok103 : rFun Tryz.prog an 103 = some rf103 := by kernel_rfl

def rf112 : RF := RF.mk 11 [.t 2] false (
 .seq (.ops [ROp.mk (some 2) none (.p (.mv (.c (.bool false))))])
 (.seq (.ops [ROp.mk (some 3) none (.p (.mv (.t 0))),
  ROp.mk (some 4) none (.p (.eq true .ptr (.t 3) (.c .nilp))),
  ROp.mk (some 5) none (.p (.mv (.t 4))),
  ROp.mk (some 6) (some (5, true)) (.p (.mv (.t 0))),
  ROp.mk (some 7) (some (5, true)) (.p (.nchk (.t 6))),
  ROp.mk (some 8) (some (5, true)) (.p (.fad 2 (.t 7))),
  ROp.mk (some 9) (some (5, true)) (.d (.load 1 false (.t 8))),
  ROp.mk (some 10) none (.p (.pick (.t 5) (.t 9) (.c (.bool false)))),
  ROp.mk (some 2) none (.p (.mv (.t 10)))])
 (.ret)))
theorem ok112 : rFun Tryz.prog an 112 = some rf112 := by kernel_rfl

def rf115 : RF := RF.mk 7 [.t 2] false (
 .seq (.ops [ROp.mk (some 2) none (.p (.mv (.c .nilp)))])
 (.seq (.ops [ROp.mk (some 3) none (.p (.mv (.t 0))),
  ROp.mk (some 4) none (.w (.call 88 [(.t 3)])),
  ROp.mk (some 5) none (.p (.build [.nils, (.bool false)] [(0, 1, (.t 4))])),
  ROp.mk (some 6) none (.w (.box 2 (.t 5))),
  ROp.mk (some 2) none (.p (.mv (.t 6)))])
 (.ret)))
theorem ok115 : rFun Tryz.prog an 115 = some rf115 := by kernel_rfl

def rf116 : RF := RF.mk 42 [.t 2] false (
 .seq (.ops [ROp.mk (some 2) none (.p (.mv (.c (.int .i64 0))))])
 (.seq (.seq (.ops [ROp.mk (some 4) none (.p (.mv (.t 0))),
  ROp.mk (some 5) none (.p (.eq false .ptr (.t 4) (.c .nilp)))])
 (.cond (.t 5) (.seq (.ops [ROp.mk (some 2) none (.p (.mv (.c (.int .i64 0))))])
  (.ret))
 (.skip)))
 (.seq (.ops [ROp.mk (some 6) none (.p (.mv (.t 0))),
  ROp.mk (some 7) none (.w (.call 194 [(.t 6), (.c (.int .i64 4))])),
  ROp.mk (some 3) none (.p (.mv (.t 7)))])
 (.seq (.seq (.ops [ROp.mk (some 8) none (.p (.mv (.t 3))),
  ROp.mk (some 9) none (.p (.eq false .slice (.t 8) (.c .nils))),
  ROp.mk (some 10) none (.p (.mv (.t 9))),
  ROp.mk (some 11) (some (10, false)) (.p (.mv (.t 3))),
  ROp.mk (some 12) (some (10, false)) (.p (.iaL 1 (.t 11) (.c (.int .i64 0)))),
  ROp.mk (some 13) (some (10, false)) (.d (.load 1 false (.t 12))),
  ROp.mk (some 14) (some (10, false)) (.p (.arith .geq (.t 13) (.c (.int .u8 128)))),
  ROp.mk (some 15) none (.p (.pick (.t 10) (.c (.bool true)) (.t 14)))])
 (.cond (.t 15) (.seq (.ops [ROp.mk (some 16) none (.p (.mv (.t 0))),
   ROp.mk (some 17) none (.p (.nchk (.t 16))),
   ROp.mk (some 18) none (.p (.fad 1 (.t 17))),
   ROp.mk none none (.w (.store 1 (.t 18) (.c (.bool true))))])
  (.seq (.ops [ROp.mk (some 2) none (.p (.mv (.c (.int .i64 0))))])
  (.ret)))
 (.skip)))
 (.seq (.draw [(ROp.mk (some 19) none (.p (.mv (.t 3))), .p),
  (ROp.mk (some 20) none (.p (.iaL 1 (.t 19) (.c (.int .i64 0)))), .p),
  (ROp.mk (some 21) none (.d (.load 1 false (.t 20))), .r 0 0),
  (ROp.mk (some 22) none (.p (.toInt .i64 (.t 21))), .p),
  (ROp.mk (some 23) none (.p (.arith .shl (.t 22) (.c (.int .u64 24)))), .p),
  (ROp.mk (some 24) none (.p (.mv (.t 3))), .p),
  (ROp.mk (some 25) none (.p (.iaL 1 (.t 24) (.c (.int .i64 1)))), .p),
  (ROp.mk (some 26) none (.d (.load 1 false (.t 25))), .r 0 0),
  (ROp.mk (some 27) none (.p (.toInt .i64 (.t 26))), .p),
  (ROp.mk (some 28) none (.p (.arith .shl (.t 27) (.c (.int .u64 16)))), .p),
  (ROp.mk (some 29) none (.p (.arith .add (.t 23) (.t 28))), .p),
  (ROp.mk (some 30) none (.p (.mv (.t 3))), .p),
  (ROp.mk (some 31) none (.p (.iaL 1 (.t 30) (.c (.int .i64 2)))), .p),
  (ROp.mk (some 32) none (.d (.load 1 false (.t 31))), .r 0 0),
  (ROp.mk (some 33) none (.p (.toInt .i64 (.t 32))), .p),
  (ROp.mk (some 34) none (.p (.arith .shl (.t 33) (.c (.int .u64 8)))), .p),
  (ROp.mk (some 35) none (.p (.arith .add (.t 29) (.t 34))), .p),
  (ROp.mk (some 36) none (.p (.mv (.t 3))), .p),
  (ROp.mk (some 37) none (.p (.iaL 1 (.t 36) (.c (.int .i64 3)))), .p),
  (ROp.mk (some 38) none (.d (.load 1 false (.t 37))), .r 0 0),
  (ROp.mk (some 39) none (.p (.toInt .i64 (.t 38))), .p),
  (ROp.mk (some 40) none (.p (.arith .add (.t 35) (.t 39))), .p),
  (ROp.mk (some 41) none (.p (.arith .sub (.t 40) (.c (.int .i64 2)))), .p),
  (ROp.mk (some 2) none (.p (.mv (.t 41))), .p)] [])
 (.ret))))))
theorem ok116 : rFun Tryz.prog an 116 = some rf116 := by kernel_rfl

def rf117 : RF := RF.mk 31 [.t 2] false (
 .seq (.ops [ROp.mk (some 1) none (.w (.box 2 (.t 0))),
  ROp.mk (some 2) none (.p (.mv (.c .nils)))])
 (.seq (.ops [ROp.mk (some 3) none (.p (.mv (.c .nils)))])
 (.seq (.seq (.ops [ROp.mk (some 5) none (.d (.load 2 true (.t 1))),
  ROp.mk (some 6) none (.w (.call 195 [(.t 5)])),
  ROp.mk (some 7) none (.p (.mv (.c (.int .i64 0))))])
 (.block 0 (.loop (.seq (.ops [ROp.mk (some 8) none (.p (.arith .lss (.t 7) (.t 6)))])
   (.seq (.cond (.t 8) (.skip)
   (.exit 0))
   (.seq (.block 1 (.seq (.draw [(ROp.mk (some 9) none (.p (.fad 0 (.t 1))), .p),
     (ROp.mk (some 10) none (.d (.load 1 false (.t 9))), .r 0 0),
     (ROp.mk (some 11) none (.w (.call 196 [(.t 10)])), .w),
     (ROp.mk (some 12) none (.d (.b2s (.t 11))), .r 1 2),
     (ROp.mk (some 13) none (.p (.fad 0 (.t 1))), .p),
     (ROp.mk (some 14) none (.d (.load 1 false (.t 13))), .r 0 1),
     (ROp.mk (some 15) none (.w (.call 116 [(.t 14)])), .w),
     (ROp.mk (some 16) none (.p (.build [(.str []), (.int .i64 0), .nils, .nils] [(0, 1, (.t 12)), (1, 1, (.t 15))])), .p),
     (ROp.mk (some 4) none (.w (.alloc [(.str []), (.int .i64 0), .nils, .nils])), .a 0 0 2),
     (ROp.mk none none (.w (.store 4 (.t 4) (.t 16))), .w)] [[(.str []), (.int .i64 0), .nils, .nils]])
    (.seq (.ops [ROp.mk (some 17) none (.p (.fad 0 (.t 1))),
     ROp.mk (some 18) none (.d (.load 1 false (.t 17))),
     ROp.mk (some 19) none (.w (.call 196 [(.t 18)])),
     ROp.mk (some 20) none (.p (.fad 2 (.t 4))),
     ROp.mk none none (.w (.store 1 (.t 20) (.t 19)))])
    (.seq (.ops [ROp.mk (some 21) none (.p (.fad 0 (.t 1))),
     ROp.mk (some 22) none (.d (.load 1 false (.t 21))),
     ROp.mk (some 23) none (.w (.call 196 [(.t 22)])),
     ROp.mk (some 24) none (.p (.fad 3 (.t 4))),
     ROp.mk none none (.w (.store 1 (.t 24) (.t 23)))])
    (.ops [ROp.mk (some 25) none (.p (.mv (.t 3))),
     ROp.mk (some 26) none (.d (.load 4 true (.t 4))),
     ROp.mk (some 27) none (.p (.mkl [(.str []), (.int .i64 0), .nils, .nils] 1 4 [(0, 4, (.t 26))])),
     ROp.mk (some 28) none (.w (.app 4 72 (.t 25) (.t 27))),
     ROp.mk (some 3) none (.p (.mv (.t 28)))])))))
   (.ops [ROp.mk (some 29) none (.p (.arith .add (.t 7) (.c (.int .i64 1)))),
    ROp.mk (some 7) none (.p (.mv (.t 29)))])))))))
 (.seq (.ops [ROp.mk (some 30) none (.p (.mv (.t 3))),
  ROp.mk (some 2) none (.p (.mv (.t 30)))])
 (.ret)))))
theorem ok117 : rFun Tryz.prog an 117 = some rf117 := by kernel_rfl

def rf118 : RF := RF.mk 42 [.t 2, .t 3] false (
 .seq (.ops [ROp.mk (some 1) none (.w (.box 8 (.t 0))),
  ROp.mk (some 2) none (.p (.mv (.c .nils))),
  ROp.mk (some 3) none (.p (.mv (.c (.bool false))))])
 (.seq (.ops [ROp.mk (some 5) none (.w (.call 124 [])),
  ROp.mk (some 6) none (.p (.build [.nilp] [(0, 1, (.t 5))])),
  ROp.mk (some 4) none (.w (.alloc [.nilp])),
  ROp.mk none none (.w (.store 1 (.t 4) (.t 6)))])
 (.seq (.ops [ROp.mk (some 7) none (.d (.load 1 true (.t 4))),
  ROp.mk (some 8) none (.p (.fad 0 (.t 1))),
  ROp.mk (some 9) none (.d (.load 1 false (.t 8))),
  ROp.mk (some 10) none (.p (.fad 1 (.t 1))),
  ROp.mk (some 11) none (.d (.load 1 false (.t 10))),
  ROp.mk (some 12) none (.p (.fad 2 (.t 1))),
  ROp.mk (some 13) none (.d (.load 1 false (.t 12))),
  ROp.mk (some 14) none (.p (.mkl [(.int .i64 0), (.int .i64 0), (.int .i64 0)] 3 1 [(0, 1, (.t 9)), (1, 1, (.t 11)), (2, 1, (.t 13))])),
  ROp.mk (some 15) none (.w (.call 197 [(.t 7), (.t 14)]))])
 (.seq (.ops [ROp.mk (some 16) none (.d (.load 1 true (.t 4))),
  ROp.mk (some 17) none (.p (.fad 3 (.t 1))),
  ROp.mk (some 18) none (.d (.load 1 false (.t 17))),
  ROp.mk (some 19) none (.w (.call 198 [(.t 16), (.t 18)]))])
 (.seq (.ops [ROp.mk (some 20) none (.d (.load 1 true (.t 4))),
  ROp.mk (some 21) none (.p (.fad 4 (.t 1))),
  ROp.mk (some 22) none (.p (.fad 0 (.t 21))),
  ROp.mk (some 23) none (.d (.load 1 false (.t 22))),
  ROp.mk (some 24) none (.p (.fad 4 (.t 1))),
  ROp.mk (some 25) none (.p (.fad 1 (.t 24))),
  ROp.mk (some 26) none (.d (.load 1 false (.t 25))),
  ROp.mk (some 27) none (.p (.fad 4 (.t 1))),
  ROp.mk (some 28) none (.p (.fad 2 (.t 27))),
  ROp.mk (some 29) none (.d (.load 1 false (.t 28))),
  ROp.mk (some 30) none (.p (.mkl [(.int .i64 0), (.int .i64 0), (.int .i64 0)] 3 1 [(0, 1, (.t 23)), (1, 1, (.t 26)), (2, 1, (.t 29))])),
  ROp.mk (some 31) none (.w (.call 197 [(.t 20), (.t 30)]))])
 (.seq (.ops [ROp.mk (some 32) none (.d (.load 1 true (.t 4))),
  ROp.mk (some 33) none (.p (.fad 4 (.t 1))),
  ROp.mk (some 34) none (.p (.fad 3 (.t 33))),
  ROp.mk (some 35) none (.d (.load 1 false (.t 34))),
  ROp.mk (some 36) none (.w (.call 198 [(.t 32), (.t 35)]))])
 (.seq (.ops [ROp.mk (some 37) none (.p (.fad 0 (.t 4))),
  ROp.mk (some 38) none (.d (.load 1 false (.t 37))),
  ROp.mk (some 39) none (.w (.call 127 [(.t 38)])),
  ROp.mk (some 40) none (.p (.ext (.t 39) 0)),
  ROp.mk (some 41) none (.p (.ext (.t 39) 1)),
  ROp.mk (some 2) none (.p (.mv (.t 40))),
  ROp.mk (some 3) none (.p (.mv (.t 41)))])
 (.ret))))))))
theorem ok118 : rFun Tryz.prog an 118 = some rf118 := by kernel_rfl

def rf119 : RF := RF.mk 20 [.t 2] false (
 .seq (.ops [ROp.mk (some 2) none (.p (.mv (.c (.bool false))))])
 (.seq (.ops [ROp.mk (some 3) none (.p (.mv (.t 0))),
  ROp.mk (some 4) none (.p (.eq true .ptr (.t 3) (.c .nilp))),
  ROp.mk (some 5) none (.p (.mv (.t 4))),
  ROp.mk (some 6) (some (5, true)) (.p (.mv (.t 0))),
  ROp.mk (some 7) (some (5, true)) (.p (.nchk (.t 6))),
  ROp.mk (some 8) (some (5, true)) (.p (.fad 1 (.t 7))),
  ROp.mk (some 9) (some (5, true)) (.d (.load 1 false (.t 8))),
  ROp.mk (some 10) (some (5, true)) (.p (.un .not (.t 9))),
  ROp.mk (some 11) none (.p (.pick (.t 5) (.t 10) (.c (.bool false)))),
  ROp.mk (some 12) none (.p (.mv (.t 11))),
  ROp.mk (some 13) (some (12, true)) (.p (.mv (.t 0))),
  ROp.mk (some 14) (some (12, true)) (.p (.nchk (.t 13))),
  ROp.mk (some 15) (some (12, true)) (.p (.fad 0 (.t 14))),
  ROp.mk (some 16) (some (12, true)) (.d (.load 1 false (.t 15))),
  ROp.mk (some 17) (some (12, true)) (.p (.lenL (.t 16))),
  ROp.mk (some 18) (some (12, true)) (.p (.arith .eql (.t 17) (.c (.int .i64 0)))),
  ROp.mk (some 19) none (.p (.pick (.t 12) (.t 18) (.c (.bool false)))),
  ROp.mk (some 2) none (.p (.mv (.t 19)))])
 (.ret)))
theorem ok119 : rFun Tryz.prog an 119 = some rf119 := by kernel_rfl

def rf121 : RF := RF.mk 7 [.t 2] false (
 .seq (.ops [ROp.mk (some 2) none (.p (.mv (.c (.int .i64 0))))])
 (.seq (.ops [ROp.mk (some 3) none (.p (.mv (.t 0))),
  ROp.mk (some 4) none (.p (.arith .add (.t 3) (.c (.int .i64 32)))),
  ROp.mk (some 5) none (.p (.arith .sub (.t 4) (.c (.int .i64 1)))),
  ROp.mk (some 6) none (.p (.arith .quo (.t 5) (.c (.int .i64 32)))),
  ROp.mk (some 2) none (.p (.mv (.t 6)))])
 (.ret)))
theorem ok121 : rFun Tryz.prog an 121 = some rf121 := by kernel_rfl

def rf122 : RF := RF.mk 18 [.t 4, .t 5] false (
 .seq (.ops [ROp.mk (some 4) none (.p (.mv (.c .nils))),
  ROp.mk (some 5) none (.p (.mv (.c (.bool false))))])
 (.seq (.seq (.ops [ROp.mk (some 6) none (.p (.mv (.t 0))),
  ROp.mk (some 7) none (.p (.mv (.t 1))),
  ROp.mk (some 8) none (.w (.call 167 [(.t 6), (.t 7)])),
  ROp.mk (some 9) none (.p (.un .not (.t 8)))])
 (.cond (.t 9) (.seq (.ops [ROp.mk (some 4) none (.p (.mv (.c .nils))),
   ROp.mk (some 5) none (.p (.mv (.c (.bool false))))])
  (.ret))
 (.skip)))
 (.seq (.ops [ROp.mk (some 10) none (.p (.mv (.t 0))),
  ROp.mk (some 11) none (.p (.nchk (.t 10))),
  ROp.mk (some 12) none (.p (.fad 0 (.t 11))),
  ROp.mk (some 13) none (.d (.load 1 false (.t 12))),
  ROp.mk (some 14) none (.p (.mv (.t 1))),
  ROp.mk (some 15) none (.p (.iaL 1 (.t 13) (.t 14))),
  ROp.mk (some 16) none (.d (.load 1 false (.t 15))),
  ROp.mk (some 17) none (.w (.call 88 [(.t 16)])),
  ROp.mk (some 4) none (.p (.mv (.t 17))),
  ROp.mk (some 5) none (.p (.mv (.c (.bool true))))])
 (.ret))))
theorem ok122 : rFun Tryz.prog an 122 = some rf122 := by kernel_rfl

def rf124 : RF := RF.mk 3 [.t 0] false (
 .seq (.ops [ROp.mk (some 0) none (.p (.mv (.c .nilp)))])
 (.seq (.ops [ROp.mk (some 1) none (.p (.build [.nils, (.bool false)] [])),
  ROp.mk (some 2) none (.w (.box 2 (.t 1))),
  ROp.mk (some 0) none (.p (.mv (.t 2)))])
 (.ret)))
theorem ok124 : rFun Tryz.prog an 124 = some rf124 := by kernel_rfl

def rf125 : RF := RF.mk 38 [] false (
 .seq (.seq (.ops [ROp.mk (some 5) none (.p (.mv (.t 0))),
  ROp.mk (some 6) none (.p (.eq false .ptr (.t 5) (.c .nilp)))])
 (.cond (.t 6) (.ret)
 (.skip)))
 (.seq (.seq (.ops [ROp.mk (some 7) none (.p (.mv (.t 1))),
  ROp.mk (some 8) none (.p (.arith .lss (.t 7) (.c (.int .i64 (-2))))),
  ROp.mk (some 9) none (.p (.mv (.t 8))),
  ROp.mk (some 10) (some (9, false)) (.p (.mv (.t 1))),
  ROp.mk (some 11) (some (9, false)) (.p (.arith .gtr (.t 10) (.c (.int .i64 2147483645)))),
  ROp.mk (some 12) none (.p (.pick (.t 9) (.c (.bool true)) (.t 11)))])
 (.cond (.t 12) (.seq (.ops [ROp.mk (some 13) none (.p (.mv (.t 0))),
   ROp.mk (some 14) none (.p (.nchk (.t 13))),
   ROp.mk (some 15) none (.p (.fad 1 (.t 14))),
   ROp.mk none none (.w (.store 1 (.t 15) (.c (.bool true))))])
  (.ret))
 (.skip)))
 (.seq (.ops [ROp.mk (some 16) none (.p (.mv (.t 1))),
  ROp.mk (some 17) none (.p (.arith .add (.t 16) (.c (.int .i64 2)))),
  ROp.mk (some 4) none (.p (.mv (.t 17)))])
 (.ops [ROp.mk (some 18) none (.p (.mv (.t 0))),
  ROp.mk (some 19) none (.p (.mv (.t 0))),
  ROp.mk (some 20) none (.p (.nchk (.t 19))),
  ROp.mk (some 21) none (.p (.fad 0 (.t 20))),
  ROp.mk (some 22) none (.d (.load 1 false (.t 21))),
  ROp.mk (some 23) none (.p (.mv (.t 4))),
  ROp.mk (some 24) none (.p (.arith .shr (.t 23) (.c (.int .u64 24)))),
  ROp.mk (some 25) none (.p (.toInt .u8 (.t 24))),
  ROp.mk (some 26) none (.p (.mv (.t 4))),
  ROp.mk (some 27) none (.p (.arith .shr (.t 26) (.c (.int .u64 16)))),
  ROp.mk (some 28) none (.p (.toInt .u8 (.t 27))),
  ROp.mk (some 29) none (.p (.mv (.t 4))),
  ROp.mk (some 30) none (.p (.arith .shr (.t 29) (.c (.int .u64 8)))),
  ROp.mk (some 31) none (.p (.toInt .u8 (.t 30))),
  ROp.mk (some 32) none (.p (.mv (.t 4))),
  ROp.mk (some 33) none (.p (.toInt .u8 (.t 32))),
  ROp.mk (some 34) none (.p (.mkl [(.int .u8 0), (.int .u8 0), (.int .u8 0), (.int .u8 0)] 4 1 [(0, 1, (.t 25)), (1, 1, (.t 28)), (2, 1, (.t 31)), (3, 1, (.t 33))])),
  ROp.mk (some 35) none (.w (.app 1 1 (.t 22) (.t 34))),
  ROp.mk (some 36) none (.p (.nchk (.t 18))),
  ROp.mk (some 37) none (.p (.fad 0 (.t 36))),
  ROp.mk none none (.w (.store 1 (.t 37) (.t 35)))]))))
theorem ok125 : rFun Tryz.prog an 125 = some rf125 := by kernel_rfl

def rf127 : RF := RF.mk 18 [.t 2, .t 3] false (
 .seq (.ops [ROp.mk (some 2) none (.p (.mv (.c .nils))),
  ROp.mk (some 3) none (.p (.mv (.c (.bool false))))])
 (.seq (.seq (.ops [ROp.mk (some 4) none (.p (.mv (.t 0))),
  ROp.mk (some 5) none (.p (.eq false .ptr (.t 4) (.c .nilp))),
  ROp.mk (some 6) none (.p (.mv (.t 5))),
  ROp.mk (some 7) (some (6, false)) (.p (.mv (.t 0))),
  ROp.mk (some 8) (some (6, false)) (.p (.nchk (.t 7))),
  ROp.mk (some 9) (some (6, false)) (.p (.fad 1 (.t 8))),
  ROp.mk (some 10) (some (6, false)) (.d (.load 1 false (.t 9))),
  ROp.mk (some 11) none (.p (.pick (.t 6) (.c (.bool true)) (.t 10)))])
 (.cond (.t 11) (.seq (.ops [ROp.mk (some 2) none (.p (.mv (.c .nils))),
   ROp.mk (some 3) none (.p (.mv (.c (.bool false))))])
  (.ret))
 (.skip)))
 (.seq (.ops [ROp.mk (some 12) none (.p (.mv (.t 0))),
  ROp.mk (some 13) none (.p (.nchk (.t 12))),
  ROp.mk (some 14) none (.p (.fad 0 (.t 13))),
  ROp.mk (some 15) none (.d (.load 1 false (.t 14))),
  ROp.mk (some 16) none (.w (.call 88 [(.t 15)])),
  ROp.mk (some 17) none (.w (.call 128 [(.t 16)])),
  ROp.mk (some 2) none (.p (.mv (.t 17))),
  ROp.mk (some 3) none (.p (.mv (.c (.bool true))))])
 (.ret))))
theorem ok127 : rFun Tryz.prog an 127 = some rf127 := by kernel_rfl

def rf128 : RF := RF.mk 9 [.t 2] false (
 .seq (.ops [ROp.mk (some 2) none (.p (.mv (.c .nils)))])
 (.seq (.ops [ROp.mk (some 3) none (.p (.mv (.t 0))),
  ROp.mk (some 4) none (.p (.mv (.t 0))),
  ROp.mk (some 5) none (.p (.lenL (.t 4))),
  ROp.mk (some 6) none (.p (.mv (.t 0))),
  ROp.mk (some 7) none (.p (.lenL (.t 6))),
  ROp.mk (some 8) none (.p (.slL 1 (.t 3) none (some (.t 5)) (some (.t 7)))),
  ROp.mk (some 2) none (.p (.mv (.t 8)))])
 (.ret)))
theorem ok128 : rFun Tryz.prog an 128 = some rf128 := by kernel_rfl

def rf130 : RF := RF.mk 7 [.t 2] false (
 .seq (.ops [ROp.mk (some 1) none (.w (.box 5 (.t 0))),
  ROp.mk (some 2) none (.p (.mv (.c .nilp)))])
 (.seq (.draw [(ROp.mk (some 3) none (.d (.load 5 true (.t 1))), .r 0 1),
  (ROp.mk (some 4) none (.w (.call 83 [(.c (.int .i64 512))])), .w),
  (ROp.mk (some 5) none (.p (.build [(.int .i64 0), (.int .i64 0), (.int .i64 0), (.int .i64 0), (.int .i64 0), .nilp, (.bool false)] [(0, 5, (.t 3)), (5, 1, (.t 4))])), .p),
  (ROp.mk (some 6) none (.w (.box 7 (.t 5))), .w),
  (ROp.mk (some 2) none (.p (.mv (.t 6))), .p)] [])
 (.ret)))
theorem ok130 : rFun Tryz.prog an 130 = some rf130 := by kernel_rfl

def rf155 : RF := RF.mk 49 [] false (
 .seq (.ops [ROp.mk (some 7) none (.d (.load 1 false (.t 1))),
  ROp.mk (some 8) none (.w (.call 28 [(.t 7)])),
  ROp.mk (some 9) none (.w (.call 70 [(.t 8)])),
  ROp.mk (some 10) none (.w (.call 71 [(.t 9)])),
  ROp.mk (some 3) none (.w (.alloc [(.int .i64 0), (.int .i64 0), (.int .i64 0), .nils, .nils, .nils])),
  ROp.mk none none (.w (.store 6 (.t 3) (.t 10)))])
 (.seq (.ops [ROp.mk (some 11) none (.p (.fad 4 (.t 3))),
  ROp.mk (some 12) none (.d (.load 1 false (.t 11))),
  ROp.mk (some 13) none (.p (.lenL (.t 12))),
  ROp.mk (some 14) none (.p (.mv (.c (.int .i64 0))))])
 (.block 0 (.loop (.seq (.ops [ROp.mk (some 15) none (.p (.arith .lss (.t 14) (.t 13)))])
   (.seq (.cond (.t 15) (.skip)
   (.exit 0))
   (.seq (.block 1 (.seq (.ops [ROp.mk (some 16) none (.p (.mv (.t 14))),
     ROp.mk (some 17) none (.p (.iaL 1 (.t 12) (.t 14))),
     ROp.mk (some 18) none (.d (.load 1 false (.t 17))),
     ROp.mk (some 4) none (.p (.mv (.t 16))),
     ROp.mk (some 5) none (.p (.mv (.t 18)))])
    (.seq (.draw [(ROp.mk (some 19) none (.d (.load 6 true (.t 3))), .r 0 2),
     (ROp.mk (some 20) none (.d (.load 1 false (.t 1))), .r 0 0),
     (ROp.mk (some 21) none (.p (.mv (.t 4))), .p),
     (ROp.mk (some 22) none (.w (.call 25 [(.t 20), (.t 21)])), .w),
     (ROp.mk (some 23) none (.w (.call 14 [(.t 22)])), .w),
     (ROp.mk (some 24) none (.p (.mv (.t 4))), .p),
     (ROp.mk (some 25) none (.w (.call 156 [(.t 19), (.t 23), (.t 24)])), .w),
     (ROp.mk (some 6) none (.w (.alloc [(.int .i64 0), (.int .i64 0), (.int .i64 0), .nils, (.int .i64 0), (.int .i64 0), (.int .i64 0), .nils])), .a 0 0 3),
     (ROp.mk none none (.w (.store 8 (.t 6) (.t 25))), .w)] [[(.int .i64 0), (.int .i64 0), (.int .i64 0), .nils, (.int .i64 0), (.int .i64 0), (.int .i64 0), .nils]])
    (.seq (.seq (.draw [(ROp.mk (some 26) none (.p (.mv (.t 5))), .p),
     (ROp.mk (some 27) none (.p (.un .not (.t 26))), .p),
     (ROp.mk (some 28) none (.p (.mv (.t 27))), .p),
     (ROp.mk (some 29) (some (28, false)) (.p (.fad 0 (.t 6))), .p),
     (ROp.mk (some 30) (some (28, false)) (.d (.load 1 false (.t 29))), .r 0 0),
     (ROp.mk (some 31) (some (28, false)) (.p (.fad 2 (.t 3))), .p),
     (ROp.mk (some 32) (some (28, false)) (.d (.load 1 false (.t 31))), .r 0 0),
     (ROp.mk (some 33) (some (28, false)) (.p (.arith .neq (.t 30) (.t 32))), .p),
     (ROp.mk (some 34) none (.p (.pick (.t 28) (.c (.bool true)) (.t 33))), .p),
     (ROp.mk (some 35) none (.p (.mv (.t 34))), .p),
     (ROp.mk (some 36) (some (35, false)) (.d (.load 8 true (.t 6))), .r 0 0),
     (ROp.mk (some 37) (some (35, false)) (.w (.call 157 [(.t 36)])), .w),
     (ROp.mk (some 38) (some (35, false)) (.p (.fad 3 (.t 3))), .p),
     (ROp.mk (some 39) (some (35, false)) (.d (.load 1 false (.t 38))), .r 0 1),
     (ROp.mk (some 40) (some (35, false)) (.w (.call 92 [(.t 37), (.t 39)])), .w),
     (ROp.mk (some 41) (some (35, false)) (.p (.un .not (.t 40))), .p),
     (ROp.mk (some 42) none (.p (.pick (.t 35) (.c (.bool true)) (.t 41))), .p)] [])
    (.cond (.t 42) (.exit 1)
    (.skip)))
    (.seq (.ops [ROp.mk (some 43) none (.p (.mv (.t 0))),
     ROp.mk (some 44) none (.p (.mv (.t 4))),
     ROp.mk (some 45) none (.d (.load 8 true (.t 6))),
     ROp.mk (some 46) none (.w (.callv (.t 43) [(.t 44), (.t 45)])),
     ROp.mk (some 47) none (.p (.un .not (.t 46)))])
    (.cond (.t 47) (.ret)
    (.skip)))))))
   (.ops [ROp.mk (some 48) none (.p (.arith .add (.t 14) (.c (.int .i64 1)))),
    ROp.mk (some 14) none (.p (.mv (.t 48)))]))))))))
theorem ok155 : rFun Tryz.prog an 155 = some rf155 := by kernel_rfl

def rf156 : RF := RF.mk 62 [.cell 6 8 true] false (
 .seq (.ops [ROp.mk (some 3) none (.w (.box 6 (.t 0))),
  ROp.mk (some 4) none (.w (.box 8 (.t 1))),
  ROp.mk (some 6) none (.w (.alloc [(.int .i64 0), (.int .i64 0), (.int .i64 0), .nils, (.int .i64 0), (.int .i64 0), (.int .i64 0), .nils]))])
 (.seq (.seq (.ops [ROp.mk (some 8) none (.p (.mv (.t 2))),
  ROp.mk (some 9) none (.p (.arith .lss (.t 8) (.c (.int .i64 0)))),
  ROp.mk (some 10) none (.p (.mv (.t 9))),
  ROp.mk (some 11) (some (10, false)) (.p (.mv (.t 2))),
  ROp.mk (some 12) (some (10, false)) (.p (.fad 5 (.t 3))),
  ROp.mk (some 13) (some (10, false)) (.d (.load 1 false (.t 12))),
  ROp.mk (some 14) (some (10, false)) (.p (.lenL (.t 13))),
  ROp.mk (some 15) (some (10, false)) (.p (.arith .geq (.t 11) (.t 14))),
  ROp.mk (some 16) none (.p (.pick (.t 10) (.c (.bool true)) (.t 15))),
  ROp.mk (some 17) none (.p (.mv (.t 16))),
  ROp.mk (some 18) (some (17, false)) (.p (.fad 1 (.t 3))),
  ROp.mk (some 19) (some (17, false)) (.d (.load 1 false (.t 18))),
  ROp.mk (some 20) (some (17, false)) (.p (.fad 1 (.t 4))),
  ROp.mk (some 21) (some (17, false)) (.d (.load 1 false (.t 20))),
  ROp.mk (some 22) (some (17, false)) (.p (.arith .lss (.t 19) (.t 21))),
  ROp.mk (some 23) none (.p (.pick (.t 17) (.c (.bool true)) (.t 22)))])
 (.cond (.t 23) (.seq (.ops [ROp.mk (some 24) none (.d (.load 8 true (.t 4))),
   ROp.mk none none (.w (.store 8 (.t 6) (.t 24)))])
  (.ret))
 (.skip)))
 (.seq (.seq (.ops [ROp.mk (some 25) none (.p (.fad 4 (.t 4))),
  ROp.mk (some 26) none (.d (.load 4 true (.t 25))),
  ROp.mk (some 7) none (.w (.alloc [(.int .i64 0), (.int .i64 0), (.int .i64 0), .nils])),
  ROp.mk none none (.w (.store 4 (.t 7) (.t 26)))])
 (.seq (.draw [(ROp.mk (some 27) none (.p (.fad 0 (.t 7))), .p),
  (ROp.mk (some 28) none (.d (.load 1 false (.t 27))), .r 0 0),
  (ROp.mk (some 29) none (.p (.arith .neq (.t 28) (.c (.int .i64 0)))), .p),
  (ROp.mk (some 30) none (.p (.mv (.t 29))), .p),
  (ROp.mk (some 31) (some (30, true)) (.p (.fad 0 (.t 7))), .p),
  (ROp.mk (some 32) (some (30, true)) (.d (.load 1 false (.t 31))), .r 0 0),
  (ROp.mk (some 33) (some (30, true)) (.p (.fad 5 (.t 3))), .p),
  (ROp.mk (some 34) (some (30, true)) (.d (.load 1 false (.t 33))), .r 0 0),
  (ROp.mk (some 35) (some (30, true)) (.p (.mv (.t 2))), .p),
  (ROp.mk (some 36) (some (30, true)) (.p (.iaL 1 (.t 34) (.t 35))), .p),
  (ROp.mk (some 37) (some (30, true)) (.d (.load 1 false (.t 36))), .r 0 0),
  (ROp.mk (some 38) (some (30, true)) (.p (.arith .eql (.t 32) (.t 37))), .p),
  (ROp.mk (some 39) none (.p (.pick (.t 30) (.t 38) (.c (.bool false)))), .p)] [])
 (.cond (.t 39) (.draw [(ROp.mk (some 40) none (.d (.load 8 true (.t 4))), .r 0 0),
   (ROp.mk (some 41) none (.w (.call 225 [(.t 40)])), .w),
   (ROp.mk (some 42) none (.p (.fad 2 (.t 7))), .p),
   (ROp.mk (some 43) none (.d (.load 1 false (.t 42))), .r 0 2),
   (ROp.mk (some 44) none (.p (.fad 3 (.t 4))), .p),
   (ROp.mk none none (.w (.store 1 (.t 44) (.t 41))), .w),
   (ROp.mk (some 45) none (.p (.fad 0 (.t 4))), .p),
   (ROp.mk none none (.w (.store 1 (.t 45) (.t 43))), .w)] [])
 (.skip))))
 (.seq (.seq (.ops [ROp.mk (some 46) none (.p (.fad 4 (.t 4))),
  ROp.mk (some 47) none (.p (.fad 0 (.t 46))),
  ROp.mk (some 48) none (.d (.load 1 false (.t 47))),
  ROp.mk (some 49) none (.p (.arith .neq (.t 48) (.c (.int .i64 0))))])
 (.cond (.t 49) (.ops [ROp.mk (some 50) none (.p (.build [(.int .i64 0), (.int .i64 0), (.int .i64 0), .nils] [])),
   ROp.mk (some 51) none (.p (.fad 4 (.t 4))),
   ROp.mk none none (.w (.store 4 (.t 51) (.t 50)))])
 (.skip)))
 (.seq (.ops [ROp.mk (some 52) none (.p (.fad 3 (.t 4))),
  ROp.mk (some 53) none (.d (.load 1 false (.t 52))),
  ROp.mk (some 54) none (.w (.call 171 [(.t 53)])),
  ROp.mk (some 55) none (.p (.mkf 226 [] [(.t 3)])),
  ROp.mk (some 56) none (.w (.call 170 [(.t 54), (.t 55)])),
  ROp.mk (some 57) none (.p (.fad 3 (.t 4))),
  ROp.mk none none (.w (.store 1 (.t 57) (.t 56)))])
 (.seq (.ops [ROp.mk (some 58) none (.p (.fad 1 (.t 3))),
  ROp.mk (some 59) none (.d (.load 1 false (.t 58))),
  ROp.mk (some 60) none (.p (.fad 1 (.t 4))),
  ROp.mk none none (.w (.store 1 (.t 60) (.t 59)))])
 (.seq (.ops [ROp.mk (some 61) none (.d (.load 8 true (.t 4))),
  ROp.mk none none (.w (.store 8 (.t 6) (.t 61)))])
 (.ret))))))))
theorem ok156 : rFun Tryz.prog an 156 = some rf156 := by kernel_rfl

def rf157 : RF := RF.mk 23 [.t 2] false (
 .seq (.ops [ROp.mk (some 1) none (.w (.box 8 (.t 0))),
  ROp.mk (some 2) none (.p (.mv (.c .nils)))])
 (.seq (.ops [ROp.mk (some 3) none (.p (.mv (.c .nils)))])
 (.seq (.seq (.ops [ROp.mk (some 6) none (.p (.fad 3 (.t 1))),
  ROp.mk (some 7) none (.d (.load 1 false (.t 6))),
  ROp.mk (some 8) none (.p (.lenL (.t 7))),
  ROp.mk (some 9) none (.p (.mv (.c (.int .i64 0))))])
 (.block 0 (.loop (.seq (.ops [ROp.mk (some 10) none (.p (.arith .lss (.t 9) (.t 8)))])
   (.seq (.cond (.t 10) (.skip)
   (.exit 0))
   (.seq (.block 1 (.seq (.ops [ROp.mk (some 11) none (.p (.iaL 4 (.t 7) (.t 9))),
     ROp.mk (some 12) none (.d (.load 4 true (.t 11))),
     ROp.mk (some 5) none (.w (.alloc [(.str []), (.int .i64 0), .nils, .nils])),
     ROp.mk none none (.w (.store 4 (.t 5) (.t 12)))])
    (.ops [ROp.mk (some 13) none (.p (.mv (.t 3))),
     ROp.mk (some 14) none (.p (.fad 0 (.t 5))),
     ROp.mk (some 15) none (.d (.load 1 false (.t 14))),
     ROp.mk (some 16) none (.p (.fad 1 (.t 5))),
     ROp.mk (some 17) none (.d (.load 1 false (.t 16))),
     ROp.mk (some 18) none (.p (.build [(.str []), (.int .i64 0)] [(0, 1, (.t 15)), (1, 1, (.t 17))])),
     ROp.mk (some 19) none (.p (.mkl [(.str []), (.int .i64 0)] 1 2 [(0, 2, (.t 18))])),
     ROp.mk (some 20) none (.w (.app 2 24 (.t 13) (.t 19))),
     ROp.mk (some 3) none (.p (.mv (.t 20)))])))
   (.ops [ROp.mk (some 21) none (.p (.arith .add (.t 9) (.c (.int .i64 1)))),
    ROp.mk (some 9) none (.p (.mv (.t 21)))])))))))
 (.seq (.ops [ROp.mk (some 22) none (.p (.mv (.t 3))),
  ROp.mk (some 2) none (.p (.mv (.t 22)))])
 (.ret)))))
theorem ok157 : rFun Tryz.prog an 157 = some rf157 := by kernel_rfl

def rf158 : RF := RF.mk 30 [.cell 2 6 true] false (
 .seq (.ops [ROp.mk (some 2) none (.w (.alloc [(.int .i64 0), (.int .i64 0), (.int .i64 0), .nils, .nils, .nils]))])
 (.seq (.draw [(ROp.mk (some 5) none (.p (.mv (.t 0))), .p),
  (ROp.mk (some 6) none (.p (.nchk (.t 5))), .p),
  (ROp.mk (some 7) none (.p (.fad 0 (.t 6))), .p),
  (ROp.mk (some 8) none (.p (.fad 0 (.t 7))), .p),
  (ROp.mk (some 9) none (.d (.load 1 false (.t 8))), .r 0 0),
  (ROp.mk (some 10) none (.w (.mks [(.bool false)] 1 1 (.t 9) (.t 9))), .a 0 0 0),
  (ROp.mk (some 11) none (.p (.mv (.t 0))), .p),
  (ROp.mk (some 12) none (.p (.nchk (.t 11))), .p),
  (ROp.mk (some 13) none (.p (.fad 0 (.t 12))), .p),
  (ROp.mk (some 14) none (.p (.fad 0 (.t 13))), .p),
  (ROp.mk (some 15) none (.d (.load 1 false (.t 14))), .r 0 0),
  (ROp.mk (some 16) none (.w (.mks [(.int .i64 0)] 1 8 (.t 15) (.t 15))), .a 1 0 0),
  (ROp.mk (some 17) none (.p (.build [(.int .i64 0), (.int .i64 0), (.int .i64 0), .nils, .nils, .nils] [(4, 1, (.t 10)), (5, 1, (.t 16))])), .p),
  (ROp.mk (some 3) none (.w (.alloc [(.int .i64 0), (.int .i64 0), (.int .i64 0), .nils, .nils, .nils])), .a 2 0 0),
  (ROp.mk none none (.w (.store 6 (.t 3) (.t 17))), .w)] [[], [], [(.int .i64 0), (.int .i64 0), (.int .i64 0), .nils, .nils, .nils]])
 (.seq (.seq (.ops [ROp.mk (some 18) none (.p (.fad 4 (.t 3))),
  ROp.mk (some 19) none (.d (.load 1 false (.t 18))),
  ROp.mk (some 20) none (.p (.lenL (.t 19))),
  ROp.mk (some 21) none (.p (.mv (.c (.int .i64 0))))])
 (.block 0 (.loop (.seq (.ops [ROp.mk (some 22) none (.p (.arith .lss (.t 21) (.t 20)))])
   (.seq (.cond (.t 22) (.skip)
   (.exit 0))
   (.seq (.block 1 (.seq (.ops [ROp.mk (some 23) none (.p (.mv (.t 21))),
     ROp.mk (some 4) none (.p (.mv (.t 23)))])
    (.ops [ROp.mk (some 24) none (.p (.fad 4 (.t 3))),
     ROp.mk (some 25) none (.d (.load 1 false (.t 24))),
     ROp.mk (some 26) none (.p (.mv (.t 4))),
     ROp.mk (some 27) none (.p (.iaL 1 (.t 25) (.t 26))),
     ROp.mk none none (.w (.store 1 (.t 27) (.c (.bool true))))])))
   (.ops [ROp.mk (some 28) none (.p (.arith .add (.t 21) (.c (.int .i64 1)))),
    ROp.mk (some 21) none (.p (.mv (.t 28)))])))))))
 (.seq (.ops [ROp.mk (some 29) none (.d (.load 6 true (.t 3))),
  ROp.mk none none (.w (.store 6 (.t 2) (.t 29)))])
 (.ret)))))
theorem ok158 : rFun Tryz.prog an 158 = some rf158 := by kernel_rfl

def rf160 : RF := RF.mk 65 [.t 8] false (
 .seq (.ops [ROp.mk (some 4) none (.w (.box 5 (.t 0))),
  ROp.mk (some 8) none (.p (.mv (.c (.bool false))))])
 (.seq (.seq (.ops [ROp.mk (some 11) none (.p (.mv (.t 2))),
  ROp.mk (some 12) none (.p (.lenL (.t 11))),
  ROp.mk (some 13) none (.p (.mv (.t 3))),
  ROp.mk (some 14) none (.p (.lenL (.t 13))),
  ROp.mk (some 15) none (.p (.arith .neq (.t 12) (.t 14))),
  ROp.mk (some 16) none (.p (.mv (.t 15))),
  ROp.mk (some 17) (some (16, false)) (.p (.mv (.t 2))),
  ROp.mk (some 18) (some (16, false)) (.p (.lenL (.t 17))),
  ROp.mk (some 19) (some (16, false)) (.p (.fad 1 (.t 4))),
  ROp.mk (some 20) (some (16, false)) (.d (.load 1 false (.t 19))),
  ROp.mk (some 21) (some (16, false)) (.p (.fad 2 (.t 4))),
  ROp.mk (some 22) (some (16, false)) (.d (.load 1 false (.t 21))),
  ROp.mk (some 23) (some (16, false)) (.p (.arith .add (.t 20) (.t 22))),
  ROp.mk (some 24) (some (16, false)) (.p (.fad 3 (.t 4))),
  ROp.mk (some 25) (some (16, false)) (.d (.load 1 false (.t 24))),
  ROp.mk (some 26) (some (16, false)) (.p (.arith .add (.t 23) (.t 25))),
  ROp.mk (some 27) (some (16, false)) (.p (.arith .lss (.t 18) (.t 26))),
  ROp.mk (some 28) none (.p (.pick (.t 16) (.c (.bool true)) (.t 27))),
  ROp.mk (some 29) none (.p (.mv (.t 28))),
  ROp.mk (some 30) (some (29, false)) (.p (.mv (.t 1))),
  ROp.mk (some 31) (some (29, false)) (.p (.arith .lss (.t 30) (.c (.int .i64 0)))),
  ROp.mk (some 32) none (.p (.pick (.t 29) (.c (.bool true)) (.t 31)))])
 (.cond (.t 32) (.seq (.ops [ROp.mk (some 8) none (.p (.mv (.c (.bool false))))])
  (.ret))
 (.skip)))
 (.seq (.seq (.ops [ROp.mk (some 33) none (.p (.mv (.t 2))),
  ROp.mk (some 34) none (.p (.lenL (.t 33))),
  ROp.mk (some 35) none (.p (.mv (.c (.int .i64 0))))])
 (.block 0 (.loop (.seq (.ops [ROp.mk (some 36) none (.p (.arith .lss (.t 35) (.t 34)))])
   (.seq (.cond (.t 36) (.skip)
   (.exit 0))
   (.seq (.block 1 (.seq (.ops [ROp.mk (some 37) none (.p (.mv (.t 35))),
     ROp.mk (some 38) none (.p (.iaL 1 (.t 33) (.t 35))),
     ROp.mk (some 39) none (.d (.load 1 false (.t 38))),
     ROp.mk (some 9) none (.p (.mv (.t 37))),
     ROp.mk (some 10) none (.p (.mv (.t 39)))])
    (.seq (.ops [ROp.mk (some 40) none (.p (.mv (.t 10))),
     ROp.mk (some 41) none (.p (.arith .lss (.t 40) (.c (.int .i64 0)))),
     ROp.mk (some 42) none (.p (.mv (.t 41))),
     ROp.mk (some 43) (some (42, false)) (.p (.mv (.t 10))),
     ROp.mk (some 44) (some (42, false)) (.p (.fad 0 (.t 4))),
     ROp.mk (some 45) (some (42, false)) (.d (.load 1 false (.t 44))),
     ROp.mk (some 46) (some (42, false)) (.p (.arith .geq (.t 43) (.t 45))),
     ROp.mk (some 47) none (.p (.pick (.t 42) (.c (.bool true)) (.t 46))),
     ROp.mk (some 48) none (.p (.mv (.t 47))),
     ROp.mk (some 49) (some (48, false)) (.p (.mv (.t 2))),
     ROp.mk (some 50) (some (48, false)) (.p (.mv (.t 9))),
     ROp.mk (some 51) (some (48, false)) (.p (.slL 1 (.t 49) none (some (.t 50)) none)),
     ROp.mk (some 52) (some (48, false)) (.p (.mv (.t 10))),
     ROp.mk (some 53) (some (48, false)) (.w (.call 103 [(.t 51), (.t 52)])),
     ROp.mk (some 54) none (.p (.pick (.t 48) (.c (.bool true)) (.t 53))),
     ROp.mk (some 55) none (.p (.mv (.t 54))),
     ROp.mk (some 56) (some (55, false)) (.p (.mv (.t 3))),
     ROp.mk (some 57) (some (55, false)) (.p (.mv (.t 9))),
     ROp.mk (some 58) (some (55, false)) (.p (.iaL 1 (.t 56) (.t 57))),
     ROp.mk (some 59) (some (55, false)) (.d (.load 1 false (.t 58))),
     ROp.mk (some 60) (some (55, false)) (.p (.lenL (.t 59))),
     ROp.mk (some 61) (some (55, false)) (.p (.mv (.t 1))),
     ROp.mk (some 62) (some (55, false)) (.p (.arith .neq (.t 60) (.t 61))),
     ROp.mk (some 63) none (.p (.pick (.t 55) (.c (.bool true)) (.t 62)))])
    (.cond (.t 63) (.seq (.ops [ROp.mk (some 8) none (.p (.mv (.c (.bool false))))])
     (.ret))
    (.skip)))))
   (.ops [ROp.mk (some 64) none (.p (.arith .add (.t 35) (.c (.int .i64 1)))),
    ROp.mk (some 35) none (.p (.mv (.t 64)))])))))))
 (.seq (.ops [ROp.mk (some 8) none (.p (.mv (.c (.bool true))))])
 (.ret)))))
theorem ok160 : rFun Tryz.prog an 160 = some rf160 := by kernel_rfl

end Go.Proofs.YtnhbkimefglkiaaGreatDoor.HealthNone
