/- Printed by a program of this session (mkclaim.py): functions of the given program as code, and as threaded code. -/
import Derived.Test.YtnhbkimefglkiaaGreatDoorHealthNoneA
namespace Go.Proofs.YtnhbkimefglkiaaGreatDoor.HealthNone
open Go Go.Ai
set_option maxRecDepth 100000
set_option maxHeartbeats 0
def rf161 : RF := RF.mk 24 [.t 4] false (
 .seq (.ops [ROp.mk (some 2) none (.w (.box 5 (.t 0))),
  ROp.mk (some 4) none (.p (.mv (.c .nils)))])
 (.seq (.ops [ROp.mk (some 8) none (.p (.mv (.t 1))),
  ROp.mk (some 9) none (.p (.lenL (.t 8))),
  ROp.mk (some 10) none (.w (.mks [(.int .u8 0)] 1 1 (.c (.int .i64 0)) (.t 9))),
  ROp.mk (some 5) none (.p (.mv (.t 10)))])
 (.seq (.seq (.ops [ROp.mk (some 11) none (.p (.mv (.t 1))),
  ROp.mk (some 12) none (.p (.lenL (.t 11))),
  ROp.mk (some 13) none (.p (.mv (.c (.int .i64 0))))])
 (.block 0 (.loop (.seq (.ops [ROp.mk (some 14) none (.p (.arith .lss (.t 13) (.t 12)))])
   (.seq (.cond (.t 14) (.skip)
   (.exit 0))
   (.seq (.block 1 (.seq (.ops [ROp.mk (some 15) none (.p (.iaL 1 (.t 11) (.t 13))),
     ROp.mk (some 16) none (.d (.load 1 false (.t 15))),
     ROp.mk (some 7) none (.p (.mv (.t 16)))])
    (.ops [ROp.mk (some 17) none (.p (.mv (.t 5))),
     ROp.mk (some 18) none (.p (.mv (.t 7))),
     ROp.mk (some 19) none (.w (.call 228 [(.t 18)])),
     ROp.mk (some 20) none (.p (.mkl [(.int .u8 0)] 1 1 [(0, 1, (.t 19))])),
     ROp.mk (some 21) none (.w (.app 1 1 (.t 17) (.t 20))),
     ROp.mk (some 5) none (.p (.mv (.t 21)))])))
   (.ops [ROp.mk (some 22) none (.p (.arith .add (.t 13) (.c (.int .i64 1)))),
    ROp.mk (some 13) none (.p (.mv (.t 22)))])))))))
 (.seq (.ops [ROp.mk (some 23) none (.p (.mv (.t 5))),
  ROp.mk (some 4) none (.p (.mv (.t 23)))])
 (.ret)))))
theorem ok161 : rFun Tryz.prog an 161 = some rf161 := by kernel_rfl

def rf164 : RF := RF.mk 11 [] false (
 .seq (.ops [ROp.mk (some 3) none (.p (.mv (.t 0))),
  ROp.mk (some 4) none (.p (.lenL (.t 3))),
  ROp.mk (some 2) none (.p (.mv (.t 4)))])
 (.ops [ROp.mk (some 5) none (.p (.mv (.t 0))),
  ROp.mk (some 6) none (.p (.mv (.t 2))),
  ROp.mk (some 7) none (.p (.mv (.t 2))),
  ROp.mk (some 8) none (.p (.toInt .u64 (.t 7))),
  ROp.mk (some 9) none (.w (.call 234 [(.t 8)])),
  ROp.mk (some 10) none (.w (.call 233 [(.t 5), (.c (.int .i64 0)), (.t 6), (.t 9)]))]))
theorem ok164 : rFun Tryz.prog an 164 = some rf164 := by kernel_rfl

def rf165 : RF := RF.mk 61 [.t 2] false (
 .seq (.ops [ROp.mk (some 2) none (.p (.mv (.c .nils)))])
 (.seq (.seq (.ops [ROp.mk (some 6) none (.p (.mv (.t 0))),
  ROp.mk (some 7) none (.p (.lenL (.t 6))),
  ROp.mk (some 8) none (.p (.arith .lss (.t 7) (.c (.int .i64 2))))])
 (.cond (.t 8) (.seq (.ops [ROp.mk (some 9) none (.p (.mv (.t 0))),
   ROp.mk (some 2) none (.p (.mv (.t 9)))])
  (.ret))
 (.skip)))
 (.seq (.seq (.ops [ROp.mk (some 3) none (.p (.mv (.c (.int .i64 1))))])
 (.block 0 (.loop (.seq (.seq (.ops [ROp.mk (some 10) none (.p (.mv (.t 3))),
    ROp.mk (some 11) none (.p (.mv (.t 0))),
    ROp.mk (some 12) none (.p (.lenL (.t 11))),
    ROp.mk (some 13) none (.p (.arith .lss (.t 10) (.t 12)))])
   (.cond (.t 13) (.skip)
   (.exit 0)))
   (.seq (.block 1 (.seq (.draw [(ROp.mk (some 16) none (.p (.mv (.t 0))), .p),
     (ROp.mk (some 17) none (.p (.mv (.t 3))), .p),
     (ROp.mk (some 18) none (.p (.iaL 1 (.t 16) (.t 17))), .p),
     (ROp.mk (some 19) none (.d (.load 1 false (.t 18))), .r 0 0),
     (ROp.mk (some 20) none (.p (.mv (.t 0))), .p),
     (ROp.mk (some 21) none (.p (.mv (.t 3))), .p),
     (ROp.mk (some 22) none (.p (.arith .sub (.t 21) (.c (.int .i64 1)))), .p),
     (ROp.mk (some 23) none (.p (.iaL 1 (.t 20) (.t 22))), .p),
     (ROp.mk (some 24) none (.d (.load 1 false (.t 23))), .r 0 0),
     (ROp.mk (some 25) none (.p (.arith .eql (.t 19) (.t 24))), .p)] [])
    (.cond (.t 25) (.seq (.ops [ROp.mk (some 26) none (.p (.mv (.t 0))),
      ROp.mk (some 27) none (.p (.mv (.t 3))),
      ROp.mk (some 28) none (.p (.slL 1 (.t 26) (some (.t 27)) none none)),
      ROp.mk (some 4) none (.p (.mv (.t 28)))])
     (.seq (.seq (.ops [ROp.mk (some 5) none (.p (.mv (.c (.int .i64 1))))])
     (.block 2 (.loop (.seq (.seq (.ops [ROp.mk (some 29) none (.p (.mv (.t 5))),
        ROp.mk (some 30) none (.p (.mv (.t 4))),
        ROp.mk (some 31) none (.p (.lenL (.t 30))),
        ROp.mk (some 32) none (.p (.arith .lss (.t 29) (.t 31)))])
       (.cond (.t 32) (.skip)
       (.exit 2)))
       (.seq (.block 3 (.seq (.draw [(ROp.mk (some 35) none (.p (.mv (.t 4))), .p),
         (ROp.mk (some 36) none (.p (.mv (.t 5))), .p),
         (ROp.mk (some 37) none (.p (.iaL 1 (.t 35) (.t 36))), .p),
         (ROp.mk (some 38) none (.d (.load 1 false (.t 37))), .r 0 0),
         (ROp.mk (some 39) none (.p (.mv (.t 4))), .p),
         (ROp.mk (some 40) none (.p (.mv (.t 5))), .p),
         (ROp.mk (some 41) none (.p (.arith .sub (.t 40) (.c (.int .i64 1)))), .p),
         (ROp.mk (some 42) none (.p (.iaL 1 (.t 39) (.t 41))), .p),
         (ROp.mk (some 43) none (.d (.load 1 false (.t 42))), .r 0 0),
         (ROp.mk (some 44) none (.p (.arith .neq (.t 38) (.t 43))), .p)] [])
        (.cond (.t 44) (.seq (.ops [ROp.mk (some 45) none (.p (.mv (.t 0))),
          ROp.mk (some 46) none (.p (.mv (.t 3))),
          ROp.mk (some 47) none (.p (.mv (.t 4))),
          ROp.mk (some 48) none (.p (.mv (.t 5))),
          ROp.mk (some 49) none (.p (.iaL 1 (.t 47) (.t 48))),
          ROp.mk (some 50) none (.d (.load 1 false (.t 49))),
          ROp.mk (some 51) none (.p (.iaL 1 (.t 45) (.t 46))),
          ROp.mk none none (.w (.store 1 (.t 51) (.t 50)))])
         (.ops [ROp.mk (some 52) none (.p (.mv (.t 3))),
          ROp.mk (some 53) none (.p (.arith .add (.t 52) (.c (.int .i64 1)))),
          ROp.mk (some 3) none (.p (.mv (.t 53)))]))
        (.skip))))
       (.ops [ROp.mk (some 33) none (.p (.mv (.t 5))),
        ROp.mk (some 34) none (.p (.arith .add (.t 33) (.c (.int .i64 1)))),
        ROp.mk (some 5) none (.p (.mv (.t 34)))]))))))
     (.seq (.ops [ROp.mk (some 54) none (.p (.mv (.t 0))),
      ROp.mk (some 55) none (.p (.mv (.t 3))),
      ROp.mk (some 56) none (.p (.slL 1 (.t 54) (some (.t 55)) none none)),
      ROp.mk none none (.w (.clr [(.int .i64 0)] 1 (.t 56)))])
     (.seq (.ops [ROp.mk (some 57) none (.p (.mv (.t 0))),
      ROp.mk (some 58) none (.p (.mv (.t 3))),
      ROp.mk (some 59) none (.p (.slL 1 (.t 57) none (some (.t 58)) none)),
      ROp.mk (some 2) none (.p (.mv (.t 59)))])
     (.ret)))))
    (.skip))))
   (.ops [ROp.mk (some 14) none (.p (.mv (.t 3))),
    ROp.mk (some 15) none (.p (.arith .add (.t 14) (.c (.int .i64 1)))),
    ROp.mk (some 3) none (.p (.mv (.t 15)))]))))))
 (.seq (.ops [ROp.mk (some 60) none (.p (.mv (.t 0))),
  ROp.mk (some 2) none (.p (.mv (.t 60)))])
 (.ret)))))
theorem ok165 : rFun Tryz.prog an 165 = some rf165 := by kernel_rfl

def rf166 : RF := RF.mk 1 [.t 0] false (
 .seq (.ops [ROp.mk (some 0) none (.p (.mv (.c .nilf)))])
 (.seq (.ops [ROp.mk (some 0) none (.p (.mv (.c (.fn 235 [] []))))])
 (.ret)))
theorem ok166 : rFun Tryz.prog an 166 = some rf166 := by kernel_rfl

def rf167 : RF := RF.mk 20 [.t 4] false (
 .seq (.ops [ROp.mk (some 4) none (.p (.mv (.c (.bool false))))])
 (.seq (.ops [ROp.mk (some 5) none (.p (.mv (.t 0))),
  ROp.mk (some 6) none (.p (.eq true .ptr (.t 5) (.c .nilp))),
  ROp.mk (some 7) none (.p (.mv (.t 6))),
  ROp.mk (some 8) (some (7, true)) (.p (.mv (.t 1))),
  ROp.mk (some 9) (some (7, true)) (.p (.arith .geq (.t 8) (.c (.int .i64 0)))),
  ROp.mk (some 10) none (.p (.pick (.t 7) (.t 9) (.c (.bool false)))),
  ROp.mk (some 11) none (.p (.mv (.t 10))),
  ROp.mk (some 12) (some (11, true)) (.p (.mv (.t 1))),
  ROp.mk (some 13) (some (11, true)) (.p (.mv (.t 0))),
  ROp.mk (some 14) (some (11, true)) (.p (.nchk (.t 13))),
  ROp.mk (some 15) (some (11, true)) (.p (.fad 0 (.t 14))),
  ROp.mk (some 16) (some (11, true)) (.d (.load 1 false (.t 15))),
  ROp.mk (some 17) (some (11, true)) (.p (.lenL (.t 16))),
  ROp.mk (some 18) (some (11, true)) (.p (.arith .lss (.t 12) (.t 17))),
  ROp.mk (some 19) none (.p (.pick (.t 11) (.t 18) (.c (.bool false)))),
  ROp.mk (some 4) none (.p (.mv (.t 19)))])
 (.ret)))
theorem ok167 : rFun Tryz.prog an 167 = some rf167 := by kernel_rfl

def rf168 : RF := RF.mk 23 [.t 2] false (
 .seq (.ops [ROp.mk (some 2) none (.p (.mv (.c .nilp)))])
 (.seq (.ops [ROp.mk (some 4) none (.p (.build [.nils, (.int .i64 0), (.bool false), (.int .i64 0)] [(1, 1, (.c (.int .i64 (-1))))])),
  ROp.mk (some 5) none (.w (.box 4 (.t 4))),
  ROp.mk (some 3) none (.p (.mv (.t 5)))])
 (.seq (.seq (.ops [ROp.mk (some 6) none (.p (.mv (.t 0))),
  ROp.mk (some 7) none (.p (.maxI (.t 6) [(.c (.int .i64 0))])),
  ROp.mk (some 8) none (.p (.minI (.t 7) [(.c (.int .i64 2048))])),
  ROp.mk (some 9) none (.p (.mv (.c (.int .i64 0))))])
 (.block 0 (.loop (.seq (.ops [ROp.mk (some 10) none (.p (.arith .lss (.t 9) (.t 8)))])
   (.seq (.cond (.t 10) (.skip)
   (.exit 0))
   (.seq (.block 1 (.draw [(ROp.mk (some 11) none (.p (.mv (.t 3))), .p),
     (ROp.mk (some 12) none (.p (.mv (.t 3))), .p),
     (ROp.mk (some 13) none (.p (.nchk (.t 12))), .p),
     (ROp.mk (some 14) none (.p (.fad 0 (.t 13))), .p),
     (ROp.mk (some 15) none (.d (.load 1 false (.t 14))), .r 0 1),
     (ROp.mk (some 16) none (.w (.mks [(.int .u8 0)] 1 1 (.c (.int .i64 32)) (.c (.int .i64 32)))), .w),
     (ROp.mk (some 17) none (.p (.mkl [.nils] 1 1 [(0, 1, (.t 16))])), .p),
     (ROp.mk (some 18) none (.w (.app 1 24 (.t 15) (.t 17))), .w),
     (ROp.mk (some 19) none (.p (.nchk (.t 11))), .p),
     (ROp.mk (some 20) none (.p (.fad 0 (.t 19))), .p),
     (ROp.mk none none (.w (.store 1 (.t 20) (.t 18))), .w)] []))
   (.ops [ROp.mk (some 21) none (.p (.arith .add (.t 9) (.c (.int .i64 1)))),
    ROp.mk (some 9) none (.p (.mv (.t 21)))])))))))
 (.seq (.ops [ROp.mk (some 22) none (.p (.mv (.t 3))),
  ROp.mk (some 2) none (.p (.mv (.t 22)))])
 (.ret)))))
theorem ok168 : rFun Tryz.prog an 168 = some rf168 := by kernel_rfl

def rf170 : RF := RF.mk 42 [.t 4] false (
 .seq (.ops [ROp.mk (some 4) none (.p (.mv (.c .nils)))])
 (.seq (.ops [ROp.mk (some 8) none (.p (.mv (.t 0))),
  ROp.mk (some 9) none (.p (.mv (.t 1))),
  ROp.mk (some 10) none (.w (.call 90 [(.t 8), (.t 9)])),
  ROp.mk (some 5) none (.p (.mv (.t 10)))])
 (.seq (.seq (.ops [ROp.mk (some 11) none (.p (.mv (.t 5))),
  ROp.mk (some 12) none (.p (.arith .eql (.t 11) (.c (.int .i64 (-1)))))])
 (.cond (.t 12) (.seq (.ops [ROp.mk (some 13) none (.p (.mv (.t 0))),
   ROp.mk (some 4) none (.p (.mv (.t 13)))])
  (.ret))
 (.skip)))
 (.seq (.seq (.ops [ROp.mk (some 14) none (.p (.mv (.t 5))),
  ROp.mk (some 15) none (.p (.arith .add (.t 14) (.c (.int .i64 1)))),
  ROp.mk (some 6) none (.p (.mv (.t 15)))])
 (.block 0 (.loop (.seq (.seq (.ops [ROp.mk (some 16) none (.p (.mv (.t 6))),
    ROp.mk (some 17) none (.p (.mv (.t 0))),
    ROp.mk (some 18) none (.p (.lenL (.t 17))),
    ROp.mk (some 19) none (.p (.arith .lss (.t 16) (.t 18)))])
   (.cond (.t 19) (.skip)
   (.exit 0)))
   (.seq (.block 1 (.seq (.ops [ROp.mk (some 22) none (.p (.mv (.t 0))),
     ROp.mk (some 23) none (.p (.mv (.t 6))),
     ROp.mk (some 24) none (.p (.iaL 4 (.t 22) (.t 23))),
     ROp.mk (some 25) none (.d (.load 4 true (.t 24))),
     ROp.mk (some 7) none (.w (.alloc [(.str []), (.int .i64 0), .nils, .nils])),
     ROp.mk none none (.w (.store 4 (.t 7) (.t 25)))])
    (.seq (.ops [ROp.mk (some 26) none (.p (.mv (.t 1))),
     ROp.mk (some 27) none (.d (.load 4 true (.t 7))),
     ROp.mk (some 28) none (.w (.callv (.t 26) [(.t 27)])),
     ROp.mk (some 29) none (.p (.un .not (.t 28)))])
    (.cond (.t 29) (.seq (.ops [ROp.mk (some 30) none (.p (.mv (.t 0))),
      ROp.mk (some 31) none (.p (.mv (.t 5))),
      ROp.mk (some 32) none (.d (.load 4 true (.t 7))),
      ROp.mk (some 33) none (.p (.iaL 4 (.t 30) (.t 31))),
      ROp.mk none none (.w (.store 4 (.t 33) (.t 32)))])
     (.ops [ROp.mk (some 34) none (.p (.mv (.t 5))),
      ROp.mk (some 35) none (.p (.arith .add (.t 34) (.c (.int .i64 1)))),
      ROp.mk (some 5) none (.p (.mv (.t 35)))]))
    (.skip)))))
   (.ops [ROp.mk (some 20) none (.p (.mv (.t 6))),
    ROp.mk (some 21) none (.p (.arith .add (.t 20) (.c (.int .i64 1)))),
    ROp.mk (some 6) none (.p (.mv (.t 21)))]))))))
 (.seq (.ops [ROp.mk (some 36) none (.p (.mv (.t 0))),
  ROp.mk (some 37) none (.p (.mv (.t 5))),
  ROp.mk (some 38) none (.p (.slL 4 (.t 36) (some (.t 37)) none none)),
  ROp.mk none none (.w (.clr [(.str []), (.int .i64 0), .nils, .nils] 4 (.t 38)))])
 (.seq (.ops [ROp.mk (some 39) none (.p (.mv (.t 0))),
  ROp.mk (some 40) none (.p (.mv (.t 5))),
  ROp.mk (some 41) none (.p (.slL 4 (.t 39) none (some (.t 40)) none)),
  ROp.mk (some 4) none (.p (.mv (.t 41)))])
 (.ret)))))))
theorem ok170 : rFun Tryz.prog an 170 = some rf170 := by kernel_rfl

def rf171 : RF := RF.mk 8 [.t 2] false (
 .seq (.ops [ROp.mk (some 2) none (.p (.mv (.c .nils)))])
 (.seq (.seq (.ops [ROp.mk (some 3) none (.p (.mv (.t 0))),
  ROp.mk (some 4) none (.p (.eq false .slice (.t 3) (.c .nils)))])
 (.cond (.t 4) (.seq (.ops [ROp.mk (some 2) none (.p (.mv (.c .nils)))])
  (.ret))
 (.skip)))
 (.seq (.ops [ROp.mk (some 5) none (.p (.mkl [] 0 4 [])),
  ROp.mk (some 6) none (.p (.mv (.t 0))),
  ROp.mk (some 7) none (.w (.app 4 72 (.t 5) (.t 6))),
  ROp.mk (some 2) none (.p (.mv (.t 7)))])
 (.ret))))
theorem ok171 : rFun Tryz.prog an 171 = some rf171 := by kernel_rfl

def rf183 : RF := RF.mk 19 [.t 4] false (
 .seq (.ops [ROp.mk (some 4) none (.p (.mv (.c (.int .i64 0))))])
 (.seq (.seq (.ops [ROp.mk (some 6) none (.p (.mv (.t 0))),
  ROp.mk (some 7) none (.p (.lenL (.t 6))),
  ROp.mk (some 8) none (.p (.mv (.c (.int .i64 0))))])
 (.block 0 (.loop (.seq (.ops [ROp.mk (some 9) none (.p (.arith .lss (.t 8) (.t 7)))])
   (.seq (.cond (.t 9) (.skip)
   (.exit 0))
   (.seq (.block 1 (.seq (.ops [ROp.mk (some 10) none (.p (.mv (.t 8))),
     ROp.mk (some 5) none (.p (.mv (.t 10)))])
    (.seq (.ops [ROp.mk (some 11) none (.p (.mv (.t 1))),
     ROp.mk (some 12) none (.p (.mv (.t 0))),
     ROp.mk (some 13) none (.p (.mv (.t 5))),
     ROp.mk (some 14) none (.p (.iaL 1 (.t 12) (.t 13))),
     ROp.mk (some 15) none (.d (.load 1 false (.t 14))),
     ROp.mk (some 16) none (.p (.arith .eql (.t 11) (.t 15)))])
    (.cond (.t 16) (.seq (.ops [ROp.mk (some 17) none (.p (.mv (.t 5))),
      ROp.mk (some 4) none (.p (.mv (.t 17)))])
     (.ret))
    (.skip)))))
   (.ops [ROp.mk (some 18) none (.p (.arith .add (.t 8) (.c (.int .i64 1)))),
    ROp.mk (some 8) none (.p (.mv (.t 18)))])))))))
 (.seq (.ops [ROp.mk (some 4) none (.p (.mv (.c (.int .i64 (-1)))))])
 (.ret))))
theorem ok183 : rFun Tryz.prog an 183 = some rf183 := by kernel_rfl

def rf194 : RF := RF.mk 39 [.t 4] false (
 .seq (.ops [ROp.mk (some 4) none (.p (.mv (.c .nils)))])
 (.seq (.seq (.ops [ROp.mk (some 6) none (.p (.mv (.t 0))),
  ROp.mk (some 7) none (.p (.nchk (.t 6))),
  ROp.mk (some 8) none (.p (.fad 1 (.t 7))),
  ROp.mk (some 9) none (.d (.load 1 false (.t 8))),
  ROp.mk (some 10) none (.p (.mv (.t 9))),
  ROp.mk (some 11) (some (10, false)) (.p (.mv (.t 1))),
  ROp.mk (some 12) (some (10, false)) (.p (.mv (.t 0))),
  ROp.mk (some 13) (some (10, false)) (.p (.nchk (.t 12))),
  ROp.mk (some 14) (some (10, false)) (.p (.fad 0 (.t 13))),
  ROp.mk (some 15) (some (10, false)) (.d (.load 1 false (.t 14))),
  ROp.mk (some 16) (some (10, false)) (.p (.lenL (.t 15))),
  ROp.mk (some 17) (some (10, false)) (.p (.arith .gtr (.t 11) (.t 16))),
  ROp.mk (some 18) none (.p (.pick (.t 10) (.c (.bool true)) (.t 17)))])
 (.cond (.t 18) (.seq (.ops [ROp.mk (some 19) none (.p (.mv (.t 0))),
   ROp.mk (some 20) none (.p (.nchk (.t 19))),
   ROp.mk (some 21) none (.p (.fad 1 (.t 20))),
   ROp.mk none none (.w (.store 1 (.t 21) (.c (.bool true))))])
  (.seq (.ops [ROp.mk (some 4) none (.p (.mv (.c .nils)))])
  (.ret)))
 (.skip)))
 (.seq (.ops [ROp.mk (some 22) none (.p (.mv (.t 0))),
  ROp.mk (some 23) none (.p (.nchk (.t 22))),
  ROp.mk (some 24) none (.p (.fad 0 (.t 23))),
  ROp.mk (some 25) none (.d (.load 1 false (.t 24))),
  ROp.mk (some 26) none (.p (.mv (.t 1))),
  ROp.mk (some 27) none (.p (.mv (.t 1))),
  ROp.mk (some 28) none (.p (.slL 1 (.t 25) none (some (.t 26)) (some (.t 27)))),
  ROp.mk (some 5) none (.p (.mv (.t 28)))])
 (.seq (.ops [ROp.mk (some 29) none (.p (.mv (.t 0))),
  ROp.mk (some 30) none (.p (.mv (.t 0))),
  ROp.mk (some 31) none (.p (.nchk (.t 30))),
  ROp.mk (some 32) none (.p (.fad 0 (.t 31))),
  ROp.mk (some 33) none (.d (.load 1 false (.t 32))),
  ROp.mk (some 34) none (.p (.mv (.t 1))),
  ROp.mk (some 35) none (.p (.slL 1 (.t 33) (some (.t 34)) none none)),
  ROp.mk (some 36) none (.p (.nchk (.t 29))),
  ROp.mk (some 37) none (.p (.fad 0 (.t 36))),
  ROp.mk none none (.w (.store 1 (.t 37) (.t 35)))])
 (.seq (.ops [ROp.mk (some 38) none (.p (.mv (.t 5))),
  ROp.mk (some 4) none (.p (.mv (.t 38)))])
 (.ret))))))
theorem ok194 : rFun Tryz.prog an 194 = some rf194 := by kernel_rfl

def rf195 : RF := RF.mk 13 [.t 2] false (
 .seq (.ops [ROp.mk (some 1) none (.w (.box 2 (.t 0))),
  ROp.mk (some 2) none (.p (.mv (.c (.int .i64 0))))])
 (.seq (.ops [ROp.mk (some 4) none (.p (.fad 0 (.t 1))),
  ROp.mk (some 5) none (.d (.load 1 false (.t 4))),
  ROp.mk (some 6) none (.w (.call 116 [(.t 5)])),
  ROp.mk (some 3) none (.p (.mv (.t 6)))])
 (.seq (.seq (.ops [ROp.mk (some 7) none (.p (.mv (.t 3))),
  ROp.mk (some 8) none (.p (.fad 1 (.t 1))),
  ROp.mk (some 9) none (.d (.load 1 false (.t 8))),
  ROp.mk (some 10) none (.p (.arith .gtr (.t 7) (.t 9)))])
 (.cond (.t 10) (.seq (.ops [ROp.mk (some 2) none (.p (.mv (.c (.int .i64 0))))])
  (.ret))
 (.skip)))
 (.seq (.ops [ROp.mk (some 11) none (.p (.mv (.t 3))),
  ROp.mk (some 12) none (.p (.maxI (.t 11) [(.c (.int .i64 0))])),
  ROp.mk (some 2) none (.p (.mv (.t 12)))])
 (.ret)))))
theorem ok195 : rFun Tryz.prog an 195 = some rf195 := by kernel_rfl

def rf197 : RF := RF.mk 17 [] false (
 .seq (.ops [ROp.mk (some 2) none (.w (.box 1 (.t 0)))])
 (.seq (.ops [ROp.mk (some 6) none (.p (.mv (.t 1))),
  ROp.mk (some 7) none (.p (.lenL (.t 6))),
  ROp.mk (some 8) none (.p (.mv (.c (.int .i64 0))))])
 (.block 0 (.loop (.seq (.ops [ROp.mk (some 9) none (.p (.arith .lss (.t 8) (.t 7)))])
   (.seq (.cond (.t 9) (.skip)
   (.exit 0))
   (.seq (.block 1 (.seq (.ops [ROp.mk (some 10) none (.p (.iaL 1 (.t 6) (.t 8))),
     ROp.mk (some 11) none (.d (.load 1 false (.t 10))),
     ROp.mk (some 5) none (.p (.mv (.t 11)))])
    (.ops [ROp.mk (some 12) none (.p (.fad 0 (.t 2))),
     ROp.mk (some 13) none (.d (.load 1 false (.t 12))),
     ROp.mk (some 14) none (.p (.mv (.t 5))),
     ROp.mk (some 15) none (.w (.call 125 [(.t 13), (.t 14)]))])))
   (.ops [ROp.mk (some 16) none (.p (.arith .add (.t 8) (.c (.int .i64 1)))),
    ROp.mk (some 8) none (.p (.mv (.t 16)))]))))))))
theorem ok197 : rFun Tryz.prog an 197 = some rf197 := by kernel_rfl

def rf198 : RF := RF.mk 26 [] false (
 .seq (.ops [ROp.mk (some 2) none (.w (.box 1 (.t 0)))])
 (.seq (.ops [ROp.mk (some 6) none (.p (.fad 0 (.t 2))),
  ROp.mk (some 7) none (.d (.load 1 false (.t 6))),
  ROp.mk (some 8) none (.p (.mv (.t 1))),
  ROp.mk (some 9) none (.p (.lenL (.t 8))),
  ROp.mk (some 10) none (.w (.call 125 [(.t 7), (.t 9)]))])
 (.seq (.ops [ROp.mk (some 11) none (.p (.mv (.t 1))),
  ROp.mk (some 12) none (.p (.lenL (.t 11))),
  ROp.mk (some 13) none (.p (.mv (.c (.int .i64 0))))])
 (.block 0 (.loop (.seq (.ops [ROp.mk (some 14) none (.p (.arith .lss (.t 13) (.t 12)))])
   (.seq (.cond (.t 14) (.skip)
   (.exit 0))
   (.seq (.block 1 (.seq (.ops [ROp.mk (some 15) none (.p (.iaL 4 (.t 11) (.t 13))),
     ROp.mk (some 16) none (.d (.load 4 true (.t 15))),
     ROp.mk (some 5) none (.w (.alloc [(.str []), (.int .i64 0), .nils, .nils])),
     ROp.mk none none (.w (.store 4 (.t 5) (.t 16)))])
    (.seq (.ops [ROp.mk (some 17) none (.d (.load 1 true (.t 2))),
     ROp.mk (some 18) none (.d (.load 4 true (.t 5))),
     ROp.mk (some 19) none (.w (.call 126 [(.t 17), (.t 18)]))])
    (.ops [ROp.mk (some 20) none (.p (.fad 0 (.t 2))),
     ROp.mk (some 21) none (.d (.load 1 false (.t 20))),
     ROp.mk (some 22) none (.p (.fad 3 (.t 5))),
     ROp.mk (some 23) none (.d (.load 1 false (.t 22))),
     ROp.mk (some 24) none (.w (.call 199 [(.t 21), (.t 23)]))]))))
   (.ops [ROp.mk (some 25) none (.p (.arith .add (.t 13) (.c (.int .i64 1)))),
    ROp.mk (some 13) none (.p (.mv (.t 25)))])))))))))
theorem ok198 : rFun Tryz.prog an 198 = some rf198 := by kernel_rfl

def rf228 : RF := RF.mk 6 [.t 2] false (
 .seq (.ops [ROp.mk (some 2) none (.p (.mv (.c (.int .u8 0))))])
 (.seq (.ops [ROp.mk (some 3) none (.p (.mv (.t 0))),
  ROp.mk (some 4) none (.p (.toInt .u8 (.t 3))),
  ROp.mk (some 5) none (.p (.arith .add (.t 4) (.c (.int .u8 1)))),
  ROp.mk (some 2) none (.p (.mv (.t 5)))])
 (.ret)))
theorem ok228 : rFun Tryz.prog an 228 = some rf228 := by kernel_rfl

def rf233 : RF := RF.mk 134 [] false (
 .seq (.ops [ROp.mk (some 8) none (.p (.mv (.c (.bool true))))])
 (.seq (.ops [ROp.mk (some 9) none (.p (.mv (.c (.bool true))))])
 (.block 0 (.loop (.block 1 (.seq (.ops [ROp.mk (some 19) none (.p (.mv (.t 2))),
     ROp.mk (some 20) none (.p (.mv (.t 1))),
     ROp.mk (some 21) none (.p (.arith .sub (.t 19) (.t 20))),
     ROp.mk (some 10) none (.p (.mv (.t 21)))])
    (.seq (.seq (.ops [ROp.mk (some 22) none (.p (.mv (.t 10))),
     ROp.mk (some 23) none (.p (.arith .leq (.t 22) (.c (.int .i64 12))))])
    (.cond (.t 23) (.seq (.ops [ROp.mk (some 24) none (.p (.mv (.t 0))),
      ROp.mk (some 25) none (.p (.mv (.t 1))),
      ROp.mk (some 26) none (.p (.mv (.t 2))),
      ROp.mk (some 27) none (.w (.call 294 [(.t 24), (.t 25), (.t 26)]))])
     (.ret))
    (.skip)))
    (.seq (.seq (.ops [ROp.mk (some 28) none (.p (.mv (.t 3))),
     ROp.mk (some 29) none (.p (.arith .eql (.t 28) (.c (.int .i64 0))))])
    (.cond (.t 29) (.seq (.ops [ROp.mk (some 30) none (.p (.mv (.t 0))),
      ROp.mk (some 31) none (.p (.mv (.t 1))),
      ROp.mk (some 32) none (.p (.mv (.t 2))),
      ROp.mk (some 33) none (.w (.call 295 [(.t 30), (.t 31), (.t 32)]))])
     (.ret))
    (.skip)))
    (.seq (.seq (.ops [ROp.mk (some 34) none (.p (.mv (.t 8))),
     ROp.mk (some 35) none (.p (.un .not (.t 34)))])
    (.cond (.t 35) (.seq (.ops [ROp.mk (some 36) none (.p (.mv (.t 0))),
      ROp.mk (some 37) none (.p (.mv (.t 1))),
      ROp.mk (some 38) none (.p (.mv (.t 2))),
      ROp.mk (some 39) none (.w (.call 296 [(.t 36), (.t 37), (.t 38)]))])
     (.ops [ROp.mk (some 40) none (.p (.mv (.t 3))),
      ROp.mk (some 41) none (.p (.arith .sub (.t 40) (.c (.int .i64 1)))),
      ROp.mk (some 3) none (.p (.mv (.t 41)))]))
    (.skip)))
    (.seq (.ops [ROp.mk (some 43) none (.p (.mv (.t 0))),
     ROp.mk (some 44) none (.p (.mv (.t 1))),
     ROp.mk (some 45) none (.p (.mv (.t 2))),
     ROp.mk (some 46) none (.w (.call 297 [(.t 43), (.t 44), (.t 45)])),
     ROp.mk (some 42) none (.p (.mv (.t 46))),
     ROp.mk (some 47) none (.p (.ext (.t 42) 0)),
     ROp.mk (some 48) none (.p (.ext (.t 42) 1)),
     ROp.mk (some 11) none (.p (.mv (.t 47))),
     ROp.mk (some 12) none (.p (.mv (.t 48)))])
    (.seq (.seq (.ops [ROp.mk (some 49) none (.p (.mv (.t 12))),
     ROp.mk (some 50) none (.p (.arith .eql (.t 49) (.c (.int .i64 2))))])
    (.cond (.t 50) (.seq (.ops [ROp.mk (some 51) none (.p (.mv (.t 0))),
      ROp.mk (some 52) none (.p (.mv (.t 1))),
      ROp.mk (some 53) none (.p (.mv (.t 2))),
      ROp.mk (some 54) none (.w (.call 298 [(.t 51), (.t 52), (.t 53)]))])
     (.seq (.ops [ROp.mk (some 55) none (.p (.mv (.t 2))),
      ROp.mk (some 56) none (.p (.arith .sub (.t 55) (.c (.int .i64 1)))),
      ROp.mk (some 57) none (.p (.mv (.t 11))),
      ROp.mk (some 58) none (.p (.mv (.t 1))),
      ROp.mk (some 59) none (.p (.arith .sub (.t 57) (.t 58))),
      ROp.mk (some 60) none (.p (.arith .sub (.t 56) (.t 59))),
      ROp.mk (some 11) none (.p (.mv (.t 60)))])
     (.ops [ROp.mk (some 12) none (.p (.mv (.c (.int .i64 1))))])))
    (.skip)))
    (.seq (.seq (.ops [ROp.mk (some 61) none (.p (.mv (.t 8))),
     ROp.mk (some 62) none (.p (.mv (.t 61))),
     ROp.mk (some 63) (some (62, true)) (.p (.mv (.t 9))),
     ROp.mk (some 64) none (.p (.pick (.t 62) (.t 63) (.c (.bool false)))),
     ROp.mk (some 65) none (.p (.mv (.t 64))),
     ROp.mk (some 66) (some (65, true)) (.p (.mv (.t 12))),
     ROp.mk (some 67) (some (65, true)) (.p (.arith .eql (.t 66) (.c (.int .i64 1)))),
     ROp.mk (some 68) none (.p (.pick (.t 65) (.t 67) (.c (.bool false))))])
    (.cond (.t 68) (.seq (.ops [ROp.mk (some 69) none (.p (.mv (.t 0))),
      ROp.mk (some 70) none (.p (.mv (.t 1))),
      ROp.mk (some 71) none (.p (.mv (.t 2))),
      ROp.mk (some 72) none (.w (.call 299 [(.t 69), (.t 70), (.t 71)]))])
     (.cond (.t 72) (.ret)
     (.skip)))
    (.skip)))
    (.seq (.seq (.draw [(ROp.mk (some 73) none (.p (.mv (.t 1))), .p),
     (ROp.mk (some 74) none (.p (.arith .gtr (.t 73) (.c (.int .i64 0)))), .p),
     (ROp.mk (some 75) none (.p (.mv (.t 74))), .p),
     (ROp.mk (some 76) (some (75, true)) (.p (.mv (.t 0))), .p),
     (ROp.mk (some 77) (some (75, true)) (.p (.mv (.t 1))), .p),
     (ROp.mk (some 78) (some (75, true)) (.p (.arith .sub (.t 77) (.c (.int .i64 1)))), .p),
     (ROp.mk (some 79) (some (75, true)) (.p (.iaL 1 (.t 76) (.t 78))), .p),
     (ROp.mk (some 80) (some (75, true)) (.d (.load 1 false (.t 79))), .r 0 0),
     (ROp.mk (some 81) (some (75, true)) (.p (.mv (.t 0))), .p),
     (ROp.mk (some 82) (some (75, true)) (.p (.mv (.t 11))), .p),
     (ROp.mk (some 83) (some (75, true)) (.p (.iaL 1 (.t 81) (.t 82))), .p),
     (ROp.mk (some 84) (some (75, true)) (.d (.load 1 false (.t 83))), .r 0 0),
     (ROp.mk (some 85) (some (75, true)) (.w (.call 300 [(.t 80), (.t 84)])), .w),
     (ROp.mk (some 86) (some (75, true)) (.p (.un .not (.t 85))), .p),
     (ROp.mk (some 87) none (.p (.pick (.t 75) (.t 86) (.c (.bool false)))), .p)] [])
    (.cond (.t 87) (.seq (.ops [ROp.mk (some 88) none (.p (.mv (.t 0))),
      ROp.mk (some 89) none (.p (.mv (.t 1))),
      ROp.mk (some 90) none (.p (.mv (.t 2))),
      ROp.mk (some 91) none (.p (.mv (.t 11))),
      ROp.mk (some 92) none (.w (.call 301 [(.t 88), (.t 89), (.t 90), (.t 91)])),
      ROp.mk (some 13) none (.p (.mv (.t 92)))])
     (.seq (.ops [ROp.mk (some 93) none (.p (.mv (.t 13))),
      ROp.mk (some 1) none (.p (.mv (.t 93)))])
     (.exit 1)))
    (.skip)))
    (.seq (.ops [ROp.mk (some 95) none (.p (.mv (.t 0))),
     ROp.mk (some 96) none (.p (.mv (.t 1))),
     ROp.mk (some 97) none (.p (.mv (.t 2))),
     ROp.mk (some 98) none (.p (.mv (.t 11))),
     ROp.mk (some 99) none (.w (.call 302 [(.t 95), (.t 96), (.t 97), (.t 98)])),
     ROp.mk (some 94) none (.p (.mv (.t 99))),
     ROp.mk (some 100) none (.p (.ext (.t 94) 0)),
     ROp.mk (some 101) none (.p (.ext (.t 94) 1)),
     ROp.mk (some 14) none (.p (.mv (.t 100))),
     ROp.mk (some 15) none (.p (.mv (.t 101)))])
    (.seq (.ops [ROp.mk (some 102) none (.p (.mv (.t 15))),
     ROp.mk (some 9) none (.p (.mv (.t 102)))])
    (.seq (.ops [ROp.mk (some 103) none (.p (.mv (.t 14))),
     ROp.mk (some 104) none (.p (.mv (.t 1))),
     ROp.mk (some 105) none (.p (.arith .sub (.t 103) (.t 104))),
     ROp.mk (some 106) none (.p (.mv (.t 2))),
     ROp.mk (some 107) none (.p (.mv (.t 14))),
     ROp.mk (some 108) none (.p (.arith .sub (.t 106) (.t 107))),
     ROp.mk (some 16) none (.p (.mv (.t 105))),
     ROp.mk (some 17) none (.p (.mv (.t 108)))])
    (.seq (.ops [ROp.mk (some 109) none (.p (.mv (.t 10))),
     ROp.mk (some 110) none (.p (.arith .quo (.t 109) (.c (.int .i64 8)))),
     ROp.mk (some 18) none (.p (.mv (.t 110)))])
    (.seq (.ops [ROp.mk (some 111) none (.p (.mv (.t 16))),
     ROp.mk (some 112) none (.p (.mv (.t 17))),
     ROp.mk (some 113) none (.p (.arith .lss (.t 111) (.t 112)))])
    (.cond (.t 113) (.seq (.ops [ROp.mk (some 114) none (.p (.mv (.t 16))),
      ROp.mk (some 115) none (.p (.mv (.t 18))),
      ROp.mk (some 116) none (.p (.arith .geq (.t 114) (.t 115))),
      ROp.mk (some 8) none (.p (.mv (.t 116)))])
     (.seq (.ops [ROp.mk (some 117) none (.p (.mv (.t 0))),
      ROp.mk (some 118) none (.p (.mv (.t 1))),
      ROp.mk (some 119) none (.p (.mv (.t 14))),
      ROp.mk (some 120) none (.p (.mv (.t 3))),
      ROp.mk (some 121) none (.w (.call 233 [(.t 117), (.t 118), (.t 119), (.t 120)]))])
     (.ops [ROp.mk (some 122) none (.p (.mv (.t 14))),
      ROp.mk (some 123) none (.p (.arith .add (.t 122) (.c (.int .i64 1)))),
      ROp.mk (some 1) none (.p (.mv (.t 123)))])))
    (.seq (.ops [ROp.mk (some 124) none (.p (.mv (.t 17))),
      ROp.mk (some 125) none (.p (.mv (.t 18))),
      ROp.mk (some 126) none (.p (.arith .geq (.t 124) (.t 125))),
      ROp.mk (some 8) none (.p (.mv (.t 126)))])
     (.seq (.ops [ROp.mk (some 127) none (.p (.mv (.t 0))),
      ROp.mk (some 128) none (.p (.mv (.t 14))),
      ROp.mk (some 129) none (.p (.arith .add (.t 128) (.c (.int .i64 1)))),
      ROp.mk (some 130) none (.p (.mv (.t 2))),
      ROp.mk (some 131) none (.p (.mv (.t 3))),
      ROp.mk (some 132) none (.w (.call 233 [(.t 127), (.t 129), (.t 130), (.t 131)]))])
     (.ops [ROp.mk (some 133) none (.p (.mv (.t 14))),
      ROp.mk (some 2) none (.p (.mv (.t 133)))]))))))))))))))))))))))
theorem ok233 : rFun Tryz.prog an 233 = some rf233 := by kernel_rfl

def rf234 : RF := RF.mk 8 [.t 2] false (
 .seq (.ops [ROp.mk (some 2) none (.p (.mv (.c (.int .i64 0))))])
 (.seq (.cond (.c (.bool false)) (.seq (.ops [ROp.mk (some 3) none (.p (.mv (.t 0))),
   ROp.mk (some 4) none (.p (.toInt .u32 (.t 3))),
   ROp.mk (some 5) none (.w (.call 303 [(.t 4)])),
   ROp.mk (some 2) none (.p (.mv (.t 5)))])
  (.ret))
 (.skip))
 (.seq (.ops [ROp.mk (some 6) none (.p (.mv (.t 0))),
  ROp.mk (some 7) none (.w (.call 304 [(.t 6)])),
  ROp.mk (some 2) none (.p (.mv (.t 7)))])
 (.ret))))
theorem ok234 : rFun Tryz.prog an 234 = some rf234 := by kernel_rfl

def rf235 : RF := RF.mk 17 [] false (
 .seq (.ops [ROp.mk (some 2) none (.p (.mv (.c (.int .u8 1))))])
 (.seq (.ops [ROp.mk (some 4) none (.p (.mv (.c (.int .i64 0))))])
 (.block 0 (.loop (.seq (.ops [ROp.mk (some 5) none (.p (.arith .lss (.t 4) (.c (.int .i64 255))))])
   (.seq (.cond (.t 5) (.skip)
   (.exit 0))
   (.seq (.block 1 (.seq (.ops [ROp.mk (some 6) none (.p (.mv (.t 4))),
     ROp.mk (some 3) none (.p (.mv (.t 6)))])
    (.seq (.seq (.ops [ROp.mk (some 7) none (.p (.mv (.t 0))),
     ROp.mk (some 8) none (.p (.mv (.t 3))),
     ROp.mk (some 9) none (.p (.mv (.t 2))),
     ROp.mk (some 10) none (.w (.callv (.t 7) [(.t 8), (.t 9)])),
     ROp.mk (some 11) none (.p (.un .not (.t 10)))])
    (.cond (.t 11) (.ret)
    (.skip)))
    (.ops [ROp.mk (some 12) none (.p (.mv (.t 2))),
     ROp.mk (some 13) none (.p (.mv (.t 2))),
     ROp.mk (some 14) none (.w (.call 236 [(.t 13)])),
     ROp.mk (some 15) none (.p (.arith .xor (.t 12) (.t 14))),
     ROp.mk (some 2) none (.p (.mv (.t 15)))]))))
   (.ops [ROp.mk (some 16) none (.p (.arith .add (.t 4) (.c (.int .i64 1)))),
    ROp.mk (some 4) none (.p (.mv (.t 16)))]))))))))
theorem ok235 : rFun Tryz.prog an 235 = some rf235 := by kernel_rfl

def rf236 : RF := RF.mk 10 [.t 2] false (
 .seq (.ops [ROp.mk (some 2) none (.p (.mv (.c (.int .u8 0))))])
 (.seq (.seq (.ops [ROp.mk (some 3) none (.p (.mv (.t 0))),
  ROp.mk (some 4) none (.p (.arith .geq (.t 3) (.c (.int .u8 128))))])
 (.cond (.t 4) (.seq (.ops [ROp.mk (some 5) none (.p (.mv (.t 0))),
   ROp.mk (some 6) none (.p (.arith .shl (.t 5) (.c (.int .u64 1)))),
   ROp.mk (some 7) none (.p (.arith .xor (.t 6) (.c (.int .u8 27)))),
   ROp.mk (some 2) none (.p (.mv (.t 7)))])
  (.ret))
 (.skip)))
 (.seq (.ops [ROp.mk (some 8) none (.p (.mv (.t 0))),
  ROp.mk (some 9) none (.p (.arith .shl (.t 8) (.c (.int .u64 1)))),
  ROp.mk (some 2) none (.p (.mv (.t 9)))])
 (.ret))))
theorem ok236 : rFun Tryz.prog an 236 = some rf236 := by kernel_rfl

def rf294 : RF := RF.mk 49 [] false (
 .seq (.ops [ROp.mk (some 8) none (.p (.mv (.t 1))),
  ROp.mk (some 9) none (.p (.arith .add (.t 8) (.c (.int .i64 1)))),
  ROp.mk (some 6) none (.p (.mv (.t 9)))])
 (.block 0 (.loop (.seq (.seq (.ops [ROp.mk (some 10) none (.p (.mv (.t 6))),
    ROp.mk (some 11) none (.p (.mv (.t 2))),
    ROp.mk (some 12) none (.p (.arith .lss (.t 10) (.t 11)))])
   (.cond (.t 12) (.skip)
   (.exit 0)))
   (.seq (.block 1 (.seq (.ops [ROp.mk (some 15) none (.p (.mv (.t 6))),
     ROp.mk (some 7) none (.p (.mv (.t 15)))])
    (.block 2 (.loop (.seq (.seq (.draw [(ROp.mk (some 16) none (.p (.mv (.t 7))), .p),
       (ROp.mk (some 17) none (.p (.mv (.t 1))), .p),
       (ROp.mk (some 18) none (.p (.arith .gtr (.t 16) (.t 17))), .p),
       (ROp.mk (some 19) none (.p (.mv (.t 18))), .p),
       (ROp.mk (some 20) (some (19, true)) (.p (.mv (.t 0))), .p),
       (ROp.mk (some 21) (some (19, true)) (.p (.mv (.t 7))), .p),
       (ROp.mk (some 22) (some (19, true)) (.p (.iaL 1 (.t 20) (.t 21))), .p),
       (ROp.mk (some 23) (some (19, true)) (.d (.load 1 false (.t 22))), .r 0 0),
       (ROp.mk (some 24) (some (19, true)) (.p (.mv (.t 0))), .p),
       (ROp.mk (some 25) (some (19, true)) (.p (.mv (.t 7))), .p),
       (ROp.mk (some 26) (some (19, true)) (.p (.arith .sub (.t 25) (.c (.int .i64 1)))), .p),
       (ROp.mk (some 27) (some (19, true)) (.p (.iaL 1 (.t 24) (.t 26))), .p),
       (ROp.mk (some 28) (some (19, true)) (.d (.load 1 false (.t 27))), .r 0 0),
       (ROp.mk (some 29) (some (19, true)) (.w (.call 300 [(.t 23), (.t 28)])), .w),
       (ROp.mk (some 30) none (.p (.pick (.t 19) (.t 29) (.c (.bool false)))), .p)] [])
      (.cond (.t 30) (.skip)
      (.exit 2)))
      (.seq (.block 3 (.draw [(ROp.mk (some 33) none (.p (.mv (.t 0))), .p),
        (ROp.mk (some 34) none (.p (.mv (.t 7))), .p),
        (ROp.mk (some 35) none (.p (.mv (.t 0))), .p),
        (ROp.mk (some 36) none (.p (.mv (.t 7))), .p),
        (ROp.mk (some 37) none (.p (.arith .sub (.t 36) (.c (.int .i64 1)))), .p),
        (ROp.mk (some 38) none (.p (.mv (.t 0))), .p),
        (ROp.mk (some 39) none (.p (.mv (.t 7))), .p),
        (ROp.mk (some 40) none (.p (.arith .sub (.t 39) (.c (.int .i64 1)))), .p),
        (ROp.mk (some 41) none (.p (.iaL 1 (.t 38) (.t 40))), .p),
        (ROp.mk (some 42) none (.d (.load 1 false (.t 41))), .r 0 0),
        (ROp.mk (some 43) none (.p (.mv (.t 0))), .p),
        (ROp.mk (some 44) none (.p (.mv (.t 7))), .p),
        (ROp.mk (some 45) none (.p (.iaL 1 (.t 43) (.t 44))), .p),
        (ROp.mk (some 46) none (.d (.load 1 false (.t 45))), .r 0 0),
        (ROp.mk (some 47) none (.p (.iaL 1 (.t 33) (.t 34))), .p),
        (ROp.mk none none (.w (.store 1 (.t 47) (.t 42))), .w),
        (ROp.mk (some 48) none (.p (.iaL 1 (.t 35) (.t 37))), .p),
        (ROp.mk none none (.w (.store 1 (.t 48) (.t 46))), .w)] []))
      (.ops [ROp.mk (some 31) none (.p (.mv (.t 7))),
       ROp.mk (some 32) none (.p (.arith .sub (.t 31) (.c (.int .i64 1)))),
       ROp.mk (some 7) none (.p (.mv (.t 32)))])))))))
   (.ops [ROp.mk (some 13) none (.p (.mv (.t 6))),
    ROp.mk (some 14) none (.p (.arith .add (.t 13) (.c (.int .i64 1)))),
    ROp.mk (some 6) none (.p (.mv (.t 14)))]))))))
theorem ok294 : rFun Tryz.prog an 294 = some rf294 := by kernel_rfl

def rf304 : RF := RF.mk 25 [.t 2] false (
 .seq (.ops [ROp.mk (some 2) none (.p (.mv (.c (.int .i64 0))))])
 (.seq (.seq (.ops [ROp.mk (some 3) none (.p (.mv (.t 0))),
  ROp.mk (some 4) none (.p (.arith .geq (.t 3) (.c (.int .u64 4294967296))))])
 (.cond (.t 4) (.seq (.ops [ROp.mk (some 5) none (.p (.mv (.t 0))),
   ROp.mk (some 6) none (.p (.arith .shr (.t 5) (.c (.int .u64 32)))),
   ROp.mk (some 0) none (.p (.mv (.t 6)))])
  (.ops [ROp.mk (some 2) none (.p (.mv (.c (.int .i64 32))))]))
 (.skip)))
 (.seq (.seq (.ops [ROp.mk (some 7) none (.p (.mv (.t 0))),
  ROp.mk (some 8) none (.p (.arith .geq (.t 7) (.c (.int .u64 65536))))])
 (.cond (.t 8) (.seq (.ops [ROp.mk (some 9) none (.p (.mv (.t 0))),
   ROp.mk (some 10) none (.p (.arith .shr (.t 9) (.c (.int .u64 16)))),
   ROp.mk (some 0) none (.p (.mv (.t 10)))])
  (.ops [ROp.mk (some 11) none (.p (.mv (.t 2))),
   ROp.mk (some 12) none (.p (.arith .add (.t 11) (.c (.int .i64 16)))),
   ROp.mk (some 2) none (.p (.mv (.t 12)))]))
 (.skip)))
 (.seq (.seq (.ops [ROp.mk (some 13) none (.p (.mv (.t 0))),
  ROp.mk (some 14) none (.p (.arith .geq (.t 13) (.c (.int .u64 256))))])
 (.cond (.t 14) (.seq (.ops [ROp.mk (some 15) none (.p (.mv (.t 0))),
   ROp.mk (some 16) none (.p (.arith .shr (.t 15) (.c (.int .u64 8)))),
   ROp.mk (some 0) none (.p (.mv (.t 16)))])
  (.ops [ROp.mk (some 17) none (.p (.mv (.t 2))),
   ROp.mk (some 18) none (.p (.arith .add (.t 17) (.c (.int .i64 8)))),
   ROp.mk (some 2) none (.p (.mv (.t 18)))]))
 (.skip)))
 (.seq (.ops [ROp.mk (some 19) none (.p (.mv (.t 2))),
  ROp.mk (some 20) none (.p (.mv (.t 0))),
  ROp.mk (some 21) none (.p (.toInt .u8 (.t 20))),
  ROp.mk (some 22) none (.p (.ixS (.c (.str [0, 1, 2, 2, 3, 3, 3, 3, 4, 4, 4, 4, 4, 4, 4, 4, 5, 5, 5, 5, 5, 5, 5, 5, 5, 5, 5, 5, 5, 5, 5, 5, 6, 6, 6, 6, 6, 6, 6, 6, 6, 6, 6, 6, 6, 6, 6, 6, 6, 6, 6, 6, 6, 6, 6, 6, 6, 6, 6, 6, 6, 6, 6, 6, 7, 7, 7, 7, 7, 7, 7, 7, 7, 7, 7, 7, 7, 7, 7, 7, 7, 7, 7, 7, 7, 7, 7, 7, 7, 7, 7, 7, 7, 7, 7, 7, 7, 7, 7, 7, 7, 7, 7, 7, 7, 7, 7, 7, 7, 7, 7, 7, 7, 7, 7, 7, 7, 7, 7, 7, 7, 7, 7, 7, 7, 7, 7, 7, 8, 8, 8, 8, 8, 8, 8, 8, 8, 8, 8, 8, 8, 8, 8, 8, 8, 8, 8, 8, 8, 8, 8, 8, 8, 8, 8, 8, 8, 8, 8, 8, 8, 8, 8, 8, 8, 8, 8, 8, 8, 8, 8, 8, 8, 8, 8, 8, 8, 8, 8, 8, 8, 8, 8, 8, 8, 8, 8, 8, 8, 8, 8, 8, 8, 8, 8, 8, 8, 8, 8, 8, 8, 8, 8, 8, 8, 8, 8, 8, 8, 8, 8, 8, 8, 8, 8, 8, 8, 8, 8, 8, 8, 8, 8, 8, 8, 8, 8, 8, 8, 8, 8, 8, 8, 8, 8, 8, 8, 8, 8, 8, 8, 8, 8, 8, 8, 8, 8, 8, 8, 8, 8, 8, 8, 8, 8, 8])) (.t 21))),
  ROp.mk (some 23) none (.p (.toInt .i64 (.t 22))),
  ROp.mk (some 24) none (.p (.arith .add (.t 19) (.t 23))),
  ROp.mk (some 2) none (.p (.mv (.t 24)))])
 (.ret))))))
theorem ok304 : rFun Tryz.prog an 304 = some rf304 := by kernel_rfl

end Go.Proofs.YtnhbkimefglkiaaGreatDoor.HealthNone
