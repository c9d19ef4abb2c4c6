/- Printed by a program of this session (mkclaim.py): functions of the given program as code, and as threaded code. -/
import Derived.Test.YtnhbkimefglkiaaGreatDoorHolderNoneA
namespace Go.Proofs.YtnhbkimefglkiaaGreatDoor.HolderNone
open Go Go.Ai
set_option maxRecDepth 100000
set_option maxHeartbeats 0
def rf170 : RF := RF.mk 42 [.t 4] false (
 .seq (.ops [ROp.mk (some 4) none (.p (.mv (.c .nils)))])
 (.seq (.ops [ROp.mk (some 8) none (.p (.mv (.t 0))),
  ROp.mk (some 9) none (.p (.mv (.t 1))),
  ROp.mk (some 10) none (.w (.call 90 [(.t 8), (.t 9)])),
  ROp.mk (some 5) none (.p (.mv (.t 10)))])
 (.seq (.seq (.ops [ROp.mk (some 11) none (.p (.mv (.t 5))),
  ROp.mk (some 12) none (.p (.arith .eql (.t 11) (.c (.int .i64 (-1)))))])
 (.cond (.t 12) (.seq (.ops [ROp.mk (some 13) none (.p (.mv (.t 0))),
   ROp.mk (some 4) none (.p (.mv (.t 13)))])
  (.ret))
 (.skip)))
 (.seq (.seq (.ops [ROp.mk (some 14) none (.p (.mv (.t 5))),
  ROp.mk (some 15) none (.p (.arith .add (.t 14) (.c (.int .i64 1)))),
  ROp.mk (some 6) none (.p (.mv (.t 15)))])
 (.block 0 (.loop (.seq (.seq (.ops [ROp.mk (some 16) none (.p (.mv (.t 6))),
    ROp.mk (some 17) none (.p (.mv (.t 0))),
    ROp.mk (some 18) none (.p (.lenL (.t 17))),
    ROp.mk (some 19) none (.p (.arith .lss (.t 16) (.t 18)))])
   (.cond (.t 19) (.skip)
   (.exit 0)))
   (.seq (.block 1 (.seq (.ops [ROp.mk (some 22) none (.p (.mv (.t 0))),
     ROp.mk (some 23) none (.p (.mv (.t 6))),
     ROp.mk (some 24) none (.p (.iaL 4 (.t 22) (.t 23))),
     ROp.mk (some 25) none (.d (.load 4 true (.t 24))),
     ROp.mk (some 7) none (.w (.alloc [(.str []), (.int .i64 0), .nils, .nils])),
     ROp.mk none none (.w (.store 4 (.t 7) (.t 25)))])
    (.seq (.ops [ROp.mk (some 26) none (.p (.mv (.t 1))),
     ROp.mk (some 27) none (.d (.load 4 true (.t 7))),
     ROp.mk (some 28) none (.w (.callv (.t 26) [(.t 27)])),
     ROp.mk (some 29) none (.p (.un .not (.t 28)))])
    (.cond (.t 29) (.seq (.ops [ROp.mk (some 30) none (.p (.mv (.t 0))),
      ROp.mk (some 31) none (.p (.mv (.t 5))),
      ROp.mk (some 32) none (.d (.load 4 true (.t 7))),
      ROp.mk (some 33) none (.p (.iaL 4 (.t 30) (.t 31))),
      ROp.mk none none (.w (.store 4 (.t 33) (.t 32)))])
     (.ops [ROp.mk (some 34) none (.p (.mv (.t 5))),
      ROp.mk (some 35) none (.p (.arith .add (.t 34) (.c (.int .i64 1)))),
      ROp.mk (some 5) none (.p (.mv (.t 35)))]))
    (.skip)))))
   (.ops [ROp.mk (some 20) none (.p (.mv (.t 6))),
    ROp.mk (some 21) none (.p (.arith .add (.t 20) (.c (.int .i64 1)))),
    ROp.mk (some 6) none (.p (.mv (.t 21)))]))))))
 (.seq (.ops [ROp.mk (some 36) none (.p (.mv (.t 0))),
  ROp.mk (some 37) none (.p (.mv (.t 5))),
  ROp.mk (some 38) none (.p (.slL 4 (.t 36) (some (.t 37)) none none)),
  ROp.mk none none (.w (.clr [(.str []), (.int .i64 0), .nils, .nils] 4 (.t 38)))])
 (.seq (.ops [ROp.mk (some 39) none (.p (.mv (.t 0))),
  ROp.mk (some 40) none (.p (.mv (.t 5))),
  ROp.mk (some 41) none (.p (.slL 4 (.t 39) none (some (.t 40)) none)),
  ROp.mk (some 4) none (.p (.mv (.t 41)))])
 (.ret)))))))
theorem ok170 : rFun Tryz.prog an 170 = some rf170 := by kernel_rfl

def rf171 : RF := RF.mk 8 [.t 2] false (
 .seq (.ops [ROp.mk (some 2) none (.p (.mv (.c .nils)))])
 (.seq (.seq (.ops [ROp.mk (some 3) none (.p (.mv (.t 0))),
  ROp.mk (some 4) none (.p (.eq false .slice (.t 3) (.c .nils)))])
 (.cond (.t 4) (.seq (.ops [ROp.mk (some 2) none (.p (.mv (.c .nils)))])
  (.ret))
 (.skip)))
 (.seq (.ops [ROp.mk (some 5) none (.p (.mkl [] 0 4 [])),
  ROp.mk (some 6) none (.p (.mv (.t 0))),
  ROp.mk (some 7) none (.w (.app 4 72 (.t 5) (.t 6))),
  ROp.mk (some 2) none (.p (.mv (.t 7)))])
 (.ret))))
theorem ok171 : rFun Tryz.prog an 171 = some rf171 := by kernel_rfl

def rf172 : RF := RF.mk 13 [.t 3] false (
 .seq (.ops [ROp.mk (some 2) none (.w (.box 4 (.t 0))),
  ROp.mk (some 3) none (.p (.mv (.c (.bool false))))])
 (.seq (.ops [ROp.mk (some 4) none (.p (.fad 7 (.t 1))),
  ROp.mk (some 5) none (.d (.load 1 false (.t 4))),
  ROp.mk (some 6) none (.p (.fad 0 (.t 2))),
  ROp.mk (some 7) none (.d (.load 1 false (.t 6))),
  ROp.mk (some 8) none (.p (.fad 1 (.t 2))),
  ROp.mk (some 9) none (.d (.load 1 false (.t 8))),
  ROp.mk (some 10) none (.p (.build [(.str []), (.int .i64 0)] [(0, 1, (.t 7)), (1, 1, (.t 9))])),
  ROp.mk (some 11) none (.w (.call 173 [(.t 5), (.t 10)])),
  ROp.mk (some 12) none (.p (.un .not (.t 11))),
  ROp.mk (some 3) none (.p (.mv (.t 12)))])
 (.ret)))
theorem ok172 : rFun Tryz.prog an 172 = some rf172 := by kernel_rfl

def rf173 : RF := RF.mk 9 [.t 4] false (
 .seq (.ops [ROp.mk (some 3) none (.w (.box 2 (.t 1))),
  ROp.mk (some 4) none (.p (.mv (.c (.bool false))))])
 (.seq (.ops [ROp.mk (some 5) none (.p (.mv (.t 0))),
  ROp.mk (some 6) none (.d (.load 2 true (.t 3))),
  ROp.mk (some 7) none (.w (.call 238 [(.t 5), (.t 6)])),
  ROp.mk (some 8) none (.p (.arith .geq (.t 7) (.c (.int .i64 0)))),
  ROp.mk (some 4) none (.p (.mv (.t 8)))])
 (.ret)))
theorem ok173 : rFun Tryz.prog an 173 = some rf173 := by kernel_rfl

def rf174 : RF := RF.mk 22 [.t 4] false (
 .seq (.ops [ROp.mk (some 2) none (.w (.box 8 (.t 0))),
  ROp.mk (some 3) none (.w (.box 8 (.t 1))),
  ROp.mk (some 4) none (.p (.mv (.c (.bool false))))])
 (.seq (.ops [ROp.mk (some 10) none (.d (.load 8 true (.t 2))),
  ROp.mk (some 11) none (.w (.call 118 [(.t 10)])),
  ROp.mk (some 9) none (.p (.mv (.t 11))),
  ROp.mk (some 12) none (.p (.ext (.t 9) 0)),
  ROp.mk (some 13) none (.p (.ext (.t 9) 1)),
  ROp.mk (some 5) none (.p (.mv (.t 12))),
  ROp.mk (some 6) none (.p (.mv (.t 13)))])
 (.seq (.ops [ROp.mk (some 15) none (.d (.load 8 true (.t 3))),
  ROp.mk (some 16) none (.w (.call 118 [(.t 15)])),
  ROp.mk (some 14) none (.p (.mv (.t 16))),
  ROp.mk (some 17) none (.p (.ext (.t 14) 0)),
  ROp.mk (some 18) none (.p (.ext (.t 14) 1)),
  ROp.mk (some 7) none (.p (.mv (.t 17))),
  ROp.mk (some 8) none (.p (.mv (.t 18)))])
 (.seq (.ops [ROp.mk (some 19) none (.p (.mv (.t 5))),
  ROp.mk (some 20) none (.p (.mv (.t 7))),
  ROp.mk (some 21) none (.w (.call 50 [(.t 19), (.t 20)])),
  ROp.mk (some 4) none (.p (.mv (.t 21)))])
 (.ret)))))
theorem ok174 : rFun Tryz.prog an 174 = some rf174 := by kernel_rfl

def rf179 : RF := RF.mk 98 [.cell 4 1 false] false (
 .seq (.ops [ROp.mk (some 2) none (.w (.box 1 (.t 0))),
  ROp.mk (some 4) none (.w (.alloc [(.int .i64 0)]))])
 (.seq (.block 0 (.seq (.ops [ROp.mk (some 16) none (.d (.load 1 false (.t 2))),
   ROp.mk (some 17) none (.p (.eq false .ptr (.t 16) (.c .nilp))),
   ROp.mk (some 15) none (.p (.mv (.t 17)))])
  (.cond (.t 15) (.seq (.ops [ROp.mk none none (.w (.store 1 (.t 4) (.c (.int .i64 1))))])
   (.ret))
  (.seq (.draw [(ROp.mk (some 19) none (.p (.mv (.t 1))), .p),
    (ROp.mk (some 20) none (.p (.lenL (.t 19))), .p),
    (ROp.mk (some 21) none (.w (.call 121 [(.t 20)])), .w),
    (ROp.mk (some 22) none (.d (.load 1 false (.t 2))), .r 0 1),
    (ROp.mk (some 23) none (.p (.nchk (.t 22))), .p),
    (ROp.mk (some 24) none (.p (.fad 1 (.t 23))), .p),
    (ROp.mk (some 25) none (.d (.load 1 false (.t 24))), .r 0 1),
    (ROp.mk (some 26) none (.p (.arith .gtr (.t 21) (.t 25))), .p),
    (ROp.mk (some 18) none (.p (.mv (.t 26))), .p)] [])
   (.cond (.t 18) (.seq (.ops [ROp.mk none none (.w (.store 1 (.t 4) (.c (.int .i64 7))))])
    (.ret))
   (.skip))))))
 (.seq (.ops [ROp.mk (some 27) none (.d (.load 1 false (.t 2))),
  ROp.mk (some 28) none (.w (.call 78 [(.t 27)])),
  ROp.mk (some 5) none (.w (.alloc [(.int .i64 0), (.int .i64 0)])),
  ROp.mk none none (.w (.store 2 (.t 5) (.t 28)))])
 (.seq (.ops [ROp.mk (some 29) none (.p (.fad 0 (.t 5))),
  ROp.mk (some 30) none (.d (.load 1 false (.t 29))),
  ROp.mk (some 31) none (.p (.arith .sub (.c (.int .i64 1)) (.t 30))),
  ROp.mk (some 6) none (.w (.alloc [(.int .i64 0)])),
  ROp.mk none none (.w (.store 1 (.t 6) (.t 31)))])
 (.seq (.seq (.ops [ROp.mk (some 32) none (.p (.mv (.t 1))),
  ROp.mk (some 33) none (.w (.call 240 [(.t 32)]))])
 (.block 1 (.range (.t 33) [34, 35] (.seq (.ops [ROp.mk (some 7) none (.p (.mv (.t 34)))])
   (.ops [ROp.mk (some 8) none (.p (.mv (.t 35)))]))
  (.block 2 (.seq (.draw [(ROp.mk (some 36) none (.d (.load 1 false (.t 2))), .r 0 1),
     (ROp.mk (some 37) none (.p (.nchk (.t 36))), .p),
     (ROp.mk (some 38) none (.p (.fad 0 (.t 37))), .p),
     (ROp.mk (some 39) none (.d (.load 1 false (.t 38))), .r 0 1),
     (ROp.mk (some 40) none (.d (.load 1 false (.t 2))), .r 0 0),
     (ROp.mk (some 41) none (.d (.load 1 false (.t 6))), .r 0 0),
     (ROp.mk (some 42) none (.p (.mv (.t 7))), .p),
     (ROp.mk (some 43) none (.w (.call 79 [(.t 40), (.t 41), (.t 42)])), .w),
     (ROp.mk (some 44) none (.p (.mv (.t 8))), .p),
     (ROp.mk (some 45) none (.w (.call 81 [(.t 39), (.t 43), (.t 44)])), .w),
     (ROp.mk (some 9) none (.p (.mv (.t 45))), .p)] [])
    (.seq (.ops [ROp.mk (some 46) none (.p (.mv (.t 9))),
     ROp.mk (some 47) none (.p (.arith .neq (.t 46) (.c (.int .i64 0))))])
    (.cond (.t 47) (.seq (.ops [ROp.mk (some 48) none (.p (.mv (.t 9))),
      ROp.mk none none (.w (.store 1 (.t 4) (.t 48)))])
     (.ret))
    (.skip))))))))
 (.seq (.ops [ROp.mk (some 49) none (.w (.mks [(.int .u8 0)] 1 1 (.c (.int .i64 32)) (.c (.int .i64 32)))),
  ROp.mk (some 10) none (.p (.mv (.t 49)))])
 (.seq (.ops [ROp.mk (some 50) none (.p (.mv (.t 1))),
  ROp.mk (some 51) none (.p (.lenL (.t 50))),
  ROp.mk (some 11) none (.p (.mv (.t 51)))])
 (.seq (.ops [ROp.mk (some 52) none (.p (.mv (.t 10))),
  ROp.mk (some 53) none (.d (.load 1 false (.t 6))),
  ROp.mk (some 54) none (.p (.toInt .u8 (.t 53))),
  ROp.mk (some 55) none (.p (.mv (.t 11))),
  ROp.mk (some 56) none (.p (.arith .shr (.t 55) (.c (.int .u64 24)))),
  ROp.mk (some 57) none (.p (.toInt .u8 (.t 56))),
  ROp.mk (some 58) none (.p (.mv (.t 11))),
  ROp.mk (some 59) none (.p (.arith .shr (.t 58) (.c (.int .u64 16)))),
  ROp.mk (some 60) none (.p (.toInt .u8 (.t 59))),
  ROp.mk (some 61) none (.p (.mv (.t 11))),
  ROp.mk (some 62) none (.p (.arith .shr (.t 61) (.c (.int .u64 8)))),
  ROp.mk (some 63) none (.p (.toInt .u8 (.t 62))),
  ROp.mk (some 64) none (.p (.mv (.t 11))),
  ROp.mk (some 65) none (.p (.toInt .u8 (.t 64))),
  ROp.mk (some 66) none (.p (.mkl [(.int .u8 0), (.int .u8 0), (.int .u8 0), (.int .u8 0), (.int .u8 0)] 5 1 [(0, 1, (.t 54)), (1, 1, (.t 57)), (2, 1, (.t 60)), (3, 1, (.t 63)), (4, 1, (.t 65))])),
  ROp.mk (some 67) none (.w (.copyL 1 (.t 52) (.t 66)))])
 (.seq (.seq (.ops [ROp.mk (some 68) none (.d (.load 1 false (.t 2))),
  ROp.mk (some 69) none (.p (.nchk (.t 68))),
  ROp.mk (some 70) none (.p (.fad 0 (.t 69))),
  ROp.mk (some 71) none (.d (.load 1 false (.t 70))),
  ROp.mk (some 72) none (.p (.mv (.t 10))),
  ROp.mk (some 73) none (.w (.call 81 [(.t 71), (.c (.int .i64 0)), (.t 72)])),
  ROp.mk (some 12) none (.p (.mv (.t 73)))])
 (.seq (.ops [ROp.mk (some 74) none (.p (.mv (.t 12))),
  ROp.mk (some 75) none (.p (.arith .neq (.t 74) (.c (.int .i64 0))))])
 (.cond (.t 75) (.seq (.ops [ROp.mk (some 76) none (.p (.mv (.t 12))),
   ROp.mk none none (.w (.store 1 (.t 4) (.t 76)))])
  (.ret))
 (.skip))))
 (.seq (.seq (.ops [ROp.mk (some 77) none (.p (.fad 1 (.t 5))),
  ROp.mk (some 78) none (.d (.load 1 false (.t 77))),
  ROp.mk (some 79) none (.w (.call 121 [(.t 78)])),
  ROp.mk (some 80) none (.p (.mv (.c (.int .i64 0))))])
 (.block 3 (.loop (.seq (.ops [ROp.mk (some 81) none (.p (.arith .lss (.t 80) (.t 79)))])
   (.seq (.cond (.t 81) (.skip)
   (.exit 3))
   (.seq (.block 4 (.seq (.ops [ROp.mk (some 82) none (.p (.mv (.t 80))),
     ROp.mk (some 13) none (.p (.mv (.t 82)))])
    (.seq (.draw [(ROp.mk (some 83) none (.d (.load 1 false (.t 2))), .r 0 1),
     (ROp.mk (some 84) none (.p (.nchk (.t 83))), .p),
     (ROp.mk (some 85) none (.p (.fad 0 (.t 84))), .p),
     (ROp.mk (some 86) none (.d (.load 1 false (.t 85))), .r 0 1),
     (ROp.mk (some 87) none (.d (.load 1 false (.t 2))), .r 0 0),
     (ROp.mk (some 88) none (.p (.fad 0 (.t 5))), .p),
     (ROp.mk (some 89) none (.d (.load 1 false (.t 88))), .r 0 0),
     (ROp.mk (some 90) none (.p (.mv (.t 13))), .p),
     (ROp.mk (some 91) none (.w (.call 79 [(.t 87), (.t 89), (.t 90)])), .w),
     (ROp.mk (some 92) none (.p (.mkl (List.replicate 32 (.int .u8 0)) 32 1 [])), .p),
     (ROp.mk (some 93) none (.w (.call 81 [(.t 86), (.t 91), (.t 92)])), .w),
     (ROp.mk (some 14) none (.p (.mv (.t 93))), .p)] [])
    (.seq (.ops [ROp.mk (some 94) none (.p (.mv (.t 14))),
     ROp.mk (some 95) none (.p (.arith .neq (.t 94) (.c (.int .i64 0))))])
    (.cond (.t 95) (.seq (.ops [ROp.mk (some 96) none (.p (.mv (.t 14))),
      ROp.mk none none (.w (.store 1 (.t 4) (.t 96)))])
     (.ret))
    (.skip))))))
   (.ops [ROp.mk (some 97) none (.p (.arith .add (.t 80) (.c (.int .i64 1)))),
    ROp.mk (some 80) none (.p (.mv (.t 97)))])))))))
 (.seq (.ops [ROp.mk none none (.w (.store 1 (.t 4) (.c (.int .i64 0))))])
 (.ret))))))))))))
theorem ok179 : rFun Tryz.prog an 179 = some rf179 := by kernel_rfl

def rf192 : RF := RF.mk 28 [.t 2, .t 3] false (
 .seq (.ops [ROp.mk (some 2) none (.p (.mv (.c .nils))),
  ROp.mk (some 3) none (.p (.mv (.c (.bool false))))])
 (.seq (.seq (.ops [ROp.mk (some 5) none (.p (.mv (.t 0))),
  ROp.mk (some 6) none (.p (.arith .lss (.t 5) (.c (.int .i64 (-2))))),
  ROp.mk (some 7) none (.p (.mv (.t 6))),
  ROp.mk (some 8) (some (7, false)) (.p (.mv (.t 0))),
  ROp.mk (some 9) (some (7, false)) (.p (.arith .gtr (.t 8) (.c (.int .i64 2147483645)))),
  ROp.mk (some 10) none (.p (.pick (.t 7) (.c (.bool true)) (.t 9)))])
 (.cond (.t 10) (.seq (.ops [ROp.mk (some 2) none (.p (.mv (.c .nils))),
   ROp.mk (some 3) none (.p (.mv (.c (.bool false))))])
  (.ret))
 (.skip)))
 (.seq (.ops [ROp.mk (some 11) none (.p (.mv (.t 0))),
  ROp.mk (some 12) none (.p (.arith .add (.t 11) (.c (.int .i64 2)))),
  ROp.mk (some 4) none (.p (.mv (.t 12)))])
 (.seq (.ops [ROp.mk (some 13) none (.p (.mv (.t 4))),
  ROp.mk (some 14) none (.p (.arith .quo (.t 13) (.c (.int .i64 16777216)))),
  ROp.mk (some 15) none (.p (.toInt .u8 (.t 14))),
  ROp.mk (some 16) none (.p (.mv (.t 4))),
  ROp.mk (some 17) none (.p (.arith .quo (.t 16) (.c (.int .i64 65536)))),
  ROp.mk (some 18) none (.p (.arith .rem (.t 17) (.c (.int .i64 256)))),
  ROp.mk (some 19) none (.p (.toInt .u8 (.t 18))),
  ROp.mk (some 20) none (.p (.mv (.t 4))),
  ROp.mk (some 21) none (.p (.arith .quo (.t 20) (.c (.int .i64 256)))),
  ROp.mk (some 22) none (.p (.arith .rem (.t 21) (.c (.int .i64 256)))),
  ROp.mk (some 23) none (.p (.toInt .u8 (.t 22))),
  ROp.mk (some 24) none (.p (.mv (.t 4))),
  ROp.mk (some 25) none (.p (.arith .rem (.t 24) (.c (.int .i64 256)))),
  ROp.mk (some 26) none (.p (.toInt .u8 (.t 25))),
  ROp.mk (some 27) none (.p (.mkl [(.int .u8 0), (.int .u8 0), (.int .u8 0), (.int .u8 0)] 4 1 [(0, 1, (.t 15)), (1, 1, (.t 19)), (2, 1, (.t 23)), (3, 1, (.t 26))])),
  ROp.mk (some 2) none (.p (.mv (.t 27))),
  ROp.mk (some 3) none (.p (.mv (.c (.bool true))))])
 (.ret)))))
theorem ok192 : rFun Tryz.prog an 192 = some rf192 := by kernel_rfl

def rf194 : RF := RF.mk 39 [.t 4] false (
 .seq (.ops [ROp.mk (some 4) none (.p (.mv (.c .nils)))])
 (.seq (.seq (.ops [ROp.mk (some 6) none (.p (.mv (.t 0))),
  ROp.mk (some 7) none (.p (.nchk (.t 6))),
  ROp.mk (some 8) none (.p (.fad 1 (.t 7))),
  ROp.mk (some 9) none (.d (.load 1 false (.t 8))),
  ROp.mk (some 10) none (.p (.mv (.t 9))),
  ROp.mk (some 11) (some (10, false)) (.p (.mv (.t 1))),
  ROp.mk (some 12) (some (10, false)) (.p (.mv (.t 0))),
  ROp.mk (some 13) (some (10, false)) (.p (.nchk (.t 12))),
  ROp.mk (some 14) (some (10, false)) (.p (.fad 0 (.t 13))),
  ROp.mk (some 15) (some (10, false)) (.d (.load 1 false (.t 14))),
  ROp.mk (some 16) (some (10, false)) (.p (.lenL (.t 15))),
  ROp.mk (some 17) (some (10, false)) (.p (.arith .gtr (.t 11) (.t 16))),
  ROp.mk (some 18) none (.p (.pick (.t 10) (.c (.bool true)) (.t 17)))])
 (.cond (.t 18) (.seq (.ops [ROp.mk (some 19) none (.p (.mv (.t 0))),
   ROp.mk (some 20) none (.p (.nchk (.t 19))),
   ROp.mk (some 21) none (.p (.fad 1 (.t 20))),
   ROp.mk none none (.w (.store 1 (.t 21) (.c (.bool true))))])
  (.seq (.ops [ROp.mk (some 4) none (.p (.mv (.c .nils)))])
  (.ret)))
 (.skip)))
 (.seq (.ops [ROp.mk (some 22) none (.p (.mv (.t 0))),
  ROp.mk (some 23) none (.p (.nchk (.t 22))),
  ROp.mk (some 24) none (.p (.fad 0 (.t 23))),
  ROp.mk (some 25) none (.d (.load 1 false (.t 24))),
  ROp.mk (some 26) none (.p (.mv (.t 1))),
  ROp.mk (some 27) none (.p (.mv (.t 1))),
  ROp.mk (some 28) none (.p (.slL 1 (.t 25) none (some (.t 26)) (some (.t 27)))),
  ROp.mk (some 5) none (.p (.mv (.t 28)))])
 (.seq (.ops [ROp.mk (some 29) none (.p (.mv (.t 0))),
  ROp.mk (some 30) none (.p (.mv (.t 0))),
  ROp.mk (some 31) none (.p (.nchk (.t 30))),
  ROp.mk (some 32) none (.p (.fad 0 (.t 31))),
  ROp.mk (some 33) none (.d (.load 1 false (.t 32))),
  ROp.mk (some 34) none (.p (.mv (.t 1))),
  ROp.mk (some 35) none (.p (.slL 1 (.t 33) (some (.t 34)) none none)),
  ROp.mk (some 36) none (.p (.nchk (.t 29))),
  ROp.mk (some 37) none (.p (.fad 0 (.t 36))),
  ROp.mk none none (.w (.store 1 (.t 37) (.t 35)))])
 (.seq (.ops [ROp.mk (some 38) none (.p (.mv (.t 5))),
  ROp.mk (some 4) none (.p (.mv (.t 38)))])
 (.ret))))))
theorem ok194 : rFun Tryz.prog an 194 = some rf194 := by kernel_rfl

def rf195 : RF := RF.mk 13 [.t 2] false (
 .seq (.ops [ROp.mk (some 1) none (.w (.box 2 (.t 0))),
  ROp.mk (some 2) none (.p (.mv (.c (.int .i64 0))))])
 (.seq (.ops [ROp.mk (some 4) none (.p (.fad 0 (.t 1))),
  ROp.mk (some 5) none (.d (.load 1 false (.t 4))),
  ROp.mk (some 6) none (.w (.call 116 [(.t 5)])),
  ROp.mk (some 3) none (.p (.mv (.t 6)))])
 (.seq (.seq (.ops [ROp.mk (some 7) none (.p (.mv (.t 3))),
  ROp.mk (some 8) none (.p (.fad 1 (.t 1))),
  ROp.mk (some 9) none (.d (.load 1 false (.t 8))),
  ROp.mk (some 10) none (.p (.arith .gtr (.t 7) (.t 9)))])
 (.cond (.t 10) (.seq (.ops [ROp.mk (some 2) none (.p (.mv (.c (.int .i64 0))))])
  (.ret))
 (.skip)))
 (.seq (.ops [ROp.mk (some 11) none (.p (.mv (.t 3))),
  ROp.mk (some 12) none (.p (.maxI (.t 11) [(.c (.int .i64 0))])),
  ROp.mk (some 2) none (.p (.mv (.t 12)))])
 (.ret)))))
theorem ok195 : rFun Tryz.prog an 195 = some rf195 := by kernel_rfl

def rf196 : RF := RF.mk 24 [.t 2] false (
 .seq (.ops [ROp.mk (some 2) none (.p (.mv (.c .nils)))])
 (.seq (.seq (.ops [ROp.mk (some 4) none (.p (.mv (.t 0))),
  ROp.mk (some 5) none (.p (.eq false .ptr (.t 4) (.c .nilp)))])
 (.cond (.t 5) (.seq (.ops [ROp.mk (some 2) none (.p (.mv (.c .nils)))])
  (.ret))
 (.skip)))
 (.seq (.ops [ROp.mk (some 6) none (.p (.mv (.t 0))),
  ROp.mk (some 7) none (.w (.call 194 [(.t 6), (.c (.int .i64 2))])),
  ROp.mk (some 3) none (.p (.mv (.t 7)))])
 (.seq (.seq (.ops [ROp.mk (some 8) none (.p (.mv (.t 3))),
  ROp.mk (some 9) none (.p (.eq false .slice (.t 8) (.c .nils)))])
 (.cond (.t 9) (.seq (.ops [ROp.mk (some 2) none (.p (.mv (.c .nils)))])
  (.ret))
 (.skip)))
 (.seq (.draw [(ROp.mk (some 10) none (.p (.mv (.t 0))), .p),
  (ROp.mk (some 11) none (.p (.mv (.t 3))), .p),
  (ROp.mk (some 12) none (.p (.iaL 1 (.t 11) (.c (.int .i64 0)))), .p),
  (ROp.mk (some 13) none (.d (.load 1 false (.t 12))), .r 0 0),
  (ROp.mk (some 14) none (.p (.toInt .i64 (.t 13))), .p),
  (ROp.mk (some 15) none (.p (.arith .shl (.t 14) (.c (.int .u64 8)))), .p),
  (ROp.mk (some 16) none (.p (.mv (.t 3))), .p),
  (ROp.mk (some 17) none (.p (.iaL 1 (.t 16) (.c (.int .i64 1)))), .p),
  (ROp.mk (some 18) none (.d (.load 1 false (.t 17))), .r 0 0),
  (ROp.mk (some 19) none (.p (.toInt .i64 (.t 18))), .p),
  (ROp.mk (some 20) none (.p (.arith .add (.t 15) (.t 19))), .p),
  (ROp.mk (some 21) none (.w (.call 194 [(.t 10), (.t 20)])), .w),
  (ROp.mk (some 22) none (.w (.call 88 [(.t 21)])), .w),
  (ROp.mk (some 23) none (.w (.call 128 [(.t 22)])), .w),
  (ROp.mk (some 2) none (.p (.mv (.t 23))), .p)] [])
 (.ret))))))
theorem ok196 : rFun Tryz.prog an 196 = some rf196 := by kernel_rfl

def rf197 : RF := RF.mk 17 [] false (
 .seq (.ops [ROp.mk (some 2) none (.w (.box 1 (.t 0)))])
 (.seq (.ops [ROp.mk (some 6) none (.p (.mv (.t 1))),
  ROp.mk (some 7) none (.p (.lenL (.t 6))),
  ROp.mk (some 8) none (.p (.mv (.c (.int .i64 0))))])
 (.block 0 (.loop (.seq (.ops [ROp.mk (some 9) none (.p (.arith .lss (.t 8) (.t 7)))])
   (.seq (.cond (.t 9) (.skip)
   (.exit 0))
   (.seq (.block 1 (.seq (.ops [ROp.mk (some 10) none (.p (.iaL 1 (.t 6) (.t 8))),
     ROp.mk (some 11) none (.d (.load 1 false (.t 10))),
     ROp.mk (some 5) none (.p (.mv (.t 11)))])
    (.ops [ROp.mk (some 12) none (.p (.fad 0 (.t 2))),
     ROp.mk (some 13) none (.d (.load 1 false (.t 12))),
     ROp.mk (some 14) none (.p (.mv (.t 5))),
     ROp.mk (some 15) none (.w (.call 125 [(.t 13), (.t 14)]))])))
   (.ops [ROp.mk (some 16) none (.p (.arith .add (.t 8) (.c (.int .i64 1)))),
    ROp.mk (some 8) none (.p (.mv (.t 16)))]))))))))
theorem ok197 : rFun Tryz.prog an 197 = some rf197 := by kernel_rfl

def rf198 : RF := RF.mk 26 [] false (
 .seq (.ops [ROp.mk (some 2) none (.w (.box 1 (.t 0)))])
 (.seq (.ops [ROp.mk (some 6) none (.p (.fad 0 (.t 2))),
  ROp.mk (some 7) none (.d (.load 1 false (.t 6))),
  ROp.mk (some 8) none (.p (.mv (.t 1))),
  ROp.mk (some 9) none (.p (.lenL (.t 8))),
  ROp.mk (some 10) none (.w (.call 125 [(.t 7), (.t 9)]))])
 (.seq (.ops [ROp.mk (some 11) none (.p (.mv (.t 1))),
  ROp.mk (some 12) none (.p (.lenL (.t 11))),
  ROp.mk (some 13) none (.p (.mv (.c (.int .i64 0))))])
 (.block 0 (.loop (.seq (.ops [ROp.mk (some 14) none (.p (.arith .lss (.t 13) (.t 12)))])
   (.seq (.cond (.t 14) (.skip)
   (.exit 0))
   (.seq (.block 1 (.seq (.ops [ROp.mk (some 15) none (.p (.iaL 4 (.t 11) (.t 13))),
     ROp.mk (some 16) none (.d (.load 4 true (.t 15))),
     ROp.mk (some 5) none (.w (.alloc [(.str []), (.int .i64 0), .nils, .nils])),
     ROp.mk none none (.w (.store 4 (.t 5) (.t 16)))])
    (.seq (.ops [ROp.mk (some 17) none (.d (.load 1 true (.t 2))),
     ROp.mk (some 18) none (.d (.load 4 true (.t 5))),
     ROp.mk (some 19) none (.w (.call 126 [(.t 17), (.t 18)]))])
    (.ops [ROp.mk (some 20) none (.p (.fad 0 (.t 2))),
     ROp.mk (some 21) none (.d (.load 1 false (.t 20))),
     ROp.mk (some 22) none (.p (.fad 3 (.t 5))),
     ROp.mk (some 23) none (.d (.load 1 false (.t 22))),
     ROp.mk (some 24) none (.w (.call 199 [(.t 21), (.t 23)]))]))))
   (.ops [ROp.mk (some 25) none (.p (.arith .add (.t 13) (.c (.int .i64 1)))),
    ROp.mk (some 13) none (.p (.mv (.t 25)))])))))))))
theorem ok198 : rFun Tryz.prog an 198 = some rf198 := by kernel_rfl

def rf199 : RF := RF.mk 37 [] false (
 .seq (.seq (.ops [ROp.mk (some 4) none (.p (.mv (.t 0))),
  ROp.mk (some 5) none (.p (.eq false .ptr (.t 4) (.c .nilp)))])
 (.cond (.t 5) (.ret)
 (.skip)))
 (.seq (.seq (.ops [ROp.mk (some 6) none (.p (.mv (.t 1))),
  ROp.mk (some 7) none (.p (.lenL (.t 6))),
  ROp.mk (some 8) none (.p (.arith .gtr (.t 7) (.c (.int .i64 65535))))])
 (.cond (.t 8) (.seq (.ops [ROp.mk (some 9) none (.p (.mv (.t 0))),
   ROp.mk (some 10) none (.p (.nchk (.t 9))),
   ROp.mk (some 11) none (.p (.fad 1 (.t 10))),
   ROp.mk none none (.w (.store 1 (.t 11) (.c (.bool true))))])
  (.ret))
 (.skip)))
 (.seq (.ops [ROp.mk (some 12) none (.p (.mv (.t 0))),
  ROp.mk (some 13) none (.p (.mv (.t 0))),
  ROp.mk (some 14) none (.p (.nchk (.t 13))),
  ROp.mk (some 15) none (.p (.fad 0 (.t 14))),
  ROp.mk (some 16) none (.d (.load 1 false (.t 15))),
  ROp.mk (some 17) none (.p (.mv (.t 1))),
  ROp.mk (some 18) none (.p (.lenL (.t 17))),
  ROp.mk (some 19) none (.p (.arith .shr (.t 18) (.c (.int .u64 8)))),
  ROp.mk (some 20) none (.p (.toInt .u8 (.t 19))),
  ROp.mk (some 21) none (.p (.mv (.t 1))),
  ROp.mk (some 22) none (.p (.lenL (.t 21))),
  ROp.mk (some 23) none (.p (.toInt .u8 (.t 22))),
  ROp.mk (some 24) none (.p (.mkl [(.int .u8 0), (.int .u8 0)] 2 1 [(0, 1, (.t 20)), (1, 1, (.t 23))])),
  ROp.mk (some 25) none (.w (.app 1 1 (.t 16) (.t 24))),
  ROp.mk (some 26) none (.p (.nchk (.t 12))),
  ROp.mk (some 27) none (.p (.fad 0 (.t 26))),
  ROp.mk none none (.w (.store 1 (.t 27) (.t 25)))])
 (.ops [ROp.mk (some 28) none (.p (.mv (.t 0))),
  ROp.mk (some 29) none (.p (.mv (.t 0))),
  ROp.mk (some 30) none (.p (.nchk (.t 29))),
  ROp.mk (some 31) none (.p (.fad 0 (.t 30))),
  ROp.mk (some 32) none (.d (.load 1 false (.t 31))),
  ROp.mk (some 33) none (.p (.mv (.t 1))),
  ROp.mk (some 34) none (.w (.app 1 1 (.t 32) (.t 33))),
  ROp.mk (some 35) none (.p (.nchk (.t 28))),
  ROp.mk (some 36) none (.p (.fad 0 (.t 35))),
  ROp.mk none none (.w (.store 1 (.t 36) (.t 34)))]))))
theorem ok199 : rFun Tryz.prog an 199 = some rf199 := by kernel_rfl

def rf200 : RF := RF.mk 39 [.t 2] false (
 .seq (.ops [ROp.mk (some 2) none (.p (.mv (.c .nils)))])
 (.seq (.ops [ROp.mk (some 8) none (.w (.call 249 [])),
  ROp.mk (some 3) none (.w (.alloc [(.int .u32 0), (.int .u32 0), (.int .u32 0), (.int .u32 0), (.int .u32 0), (.int .u32 0), (.int .u32 0), (.int .u32 0)])),
  ROp.mk none none (.w (.store 8 (.t 3) (.t 8)))])
 (.seq (.seq (.ops [ROp.mk (some 9) none (.p (.mv (.t 0))),
  ROp.mk (some 10) none (.w (.call 250 [(.t 9)])),
  ROp.mk (some 4) none (.p (.mv (.t 10)))])
 (.block 0 (.loop (.seq (.seq (.ops [ROp.mk (some 11) none (.p (.mv (.t 4))),
    ROp.mk (some 12) none (.p (.lenL (.t 11))),
    ROp.mk (some 13) none (.p (.arith .gtr (.t 12) (.c (.int .i64 0))))])
   (.cond (.t 13) (.skip)
   (.exit 0)))
   (.seq (.block 1 (.ops [ROp.mk (some 16) none (.p (.mv (.t 4))),
     ROp.mk (some 17) none (.p (.slL 1 (.t 16) none (some (.c (.int .i64 64))) none)),
     ROp.mk (some 18) none (.w (.call 251 [(.t 3), (.t 17)]))]))
   (.ops [ROp.mk (some 14) none (.p (.mv (.t 4))),
    ROp.mk (some 15) none (.p (.slL 1 (.t 14) (some (.c (.int .i64 64))) none none)),
    ROp.mk (some 4) none (.p (.mv (.t 15)))]))))))
 (.seq (.ops [ROp.mk (some 5) none (.p (.mv (.c .nils)))])
 (.seq (.seq (.ops [ROp.mk (some 19) none (.d (.load 8 true (.t 3))),
  ROp.mk (some 20) none (.p (.mv (.c (.int .i64 0))))])
 (.block 2 (.loop (.seq (.ops [ROp.mk (some 21) none (.p (.arith .lss (.t 20) (.c (.int .i64 8))))])
   (.seq (.cond (.t 21) (.skip)
   (.exit 2))
   (.seq (.block 3 (.seq (.ops [ROp.mk (some 22) none (.p (.ixA 8 1 false (.t 19) (.t 20))),
     ROp.mk (some 7) none (.p (.mv (.t 22)))])
    (.ops [ROp.mk (some 23) none (.p (.mv (.t 5))),
     ROp.mk (some 24) none (.p (.mv (.t 7))),
     ROp.mk (some 25) none (.p (.arith .shr (.t 24) (.c (.int .u64 24)))),
     ROp.mk (some 26) none (.p (.toInt .u8 (.t 25))),
     ROp.mk (some 27) none (.p (.mv (.t 7))),
     ROp.mk (some 28) none (.p (.arith .shr (.t 27) (.c (.int .u64 16)))),
     ROp.mk (some 29) none (.p (.toInt .u8 (.t 28))),
     ROp.mk (some 30) none (.p (.mv (.t 7))),
     ROp.mk (some 31) none (.p (.arith .shr (.t 30) (.c (.int .u64 8)))),
     ROp.mk (some 32) none (.p (.toInt .u8 (.t 31))),
     ROp.mk (some 33) none (.p (.mv (.t 7))),
     ROp.mk (some 34) none (.p (.toInt .u8 (.t 33))),
     ROp.mk (some 35) none (.p (.mkl [(.int .u8 0), (.int .u8 0), (.int .u8 0), (.int .u8 0)] 4 1 [(0, 1, (.t 26)), (1, 1, (.t 29)), (2, 1, (.t 32)), (3, 1, (.t 34))])),
     ROp.mk (some 36) none (.w (.app 1 1 (.t 23) (.t 35))),
     ROp.mk (some 5) none (.p (.mv (.t 36)))])))
   (.ops [ROp.mk (some 37) none (.p (.arith .add (.t 20) (.c (.int .i64 1)))),
    ROp.mk (some 20) none (.p (.mv (.t 37)))])))))))
 (.seq (.ops [ROp.mk (some 38) none (.p (.mv (.t 5))),
  ROp.mk (some 2) none (.p (.mv (.t 38)))])
 (.ret)))))))
theorem ok200 : rFun Tryz.prog an 200 = some rf200 := by kernel_rfl

def rf201 : RF := RF.mk 36 [.t 2] false (
 .seq (.ops [ROp.mk (some 2) none (.p (.mv (.c .nils)))])
 (.seq (.ops [ROp.mk (some 3) none (.p (.mv (.c (.int .i64 0))))])
 (.seq (.seq (.ops [ROp.mk (some 9) none (.p (.mv (.t 0))),
  ROp.mk (some 10) none (.p (.lenL (.t 9))),
  ROp.mk (some 11) none (.p (.mv (.c (.int .i64 0))))])
 (.block 0 (.loop (.seq (.ops [ROp.mk (some 12) none (.p (.arith .lss (.t 11) (.t 10)))])
   (.seq (.cond (.t 12) (.skip)
   (.exit 0))
   (.seq (.block 1 (.seq (.ops [ROp.mk (some 13) none (.p (.iaL 1 (.t 9) (.t 11))),
     ROp.mk (some 14) none (.d (.load 1 false (.t 13))),
     ROp.mk (some 5) none (.p (.mv (.t 14)))])
    (.seq (.ops [ROp.mk (some 15) none (.p (.mv (.t 3))),
     ROp.mk (some 16) none (.p (.mv (.t 5))),
     ROp.mk (some 17) none (.p (.lenL (.t 16))),
     ROp.mk (some 18) none (.p (.arith .add (.t 15) (.t 17))),
     ROp.mk (some 3) none (.p (.mv (.t 18)))])
    (.seq (.ops [ROp.mk (some 19) none (.p (.mv (.t 3))),
     ROp.mk (some 20) none (.p (.arith .lss (.t 19) (.c (.int .i64 0))))])
    (.cond (.t 20) (.ops [ROp.mk (some 21) none (.p (.bad)),
      ROp.mk none none (.p (.bad))])
    (.skip))))))
   (.ops [ROp.mk (some 22) none (.p (.arith .add (.t 11) (.c (.int .i64 1)))),
    ROp.mk (some 11) none (.p (.mv (.t 22)))])))))))
 (.seq (.ops [ROp.mk (some 23) none (.p (.mv (.t 3))),
  ROp.mk (some 24) none (.w (.call 252 [(.c .nils), (.t 23)])),
  ROp.mk (some 6) none (.p (.mv (.t 24)))])
 (.seq (.seq (.ops [ROp.mk (some 25) none (.p (.mv (.t 0))),
  ROp.mk (some 26) none (.p (.lenL (.t 25))),
  ROp.mk (some 27) none (.p (.mv (.c (.int .i64 0))))])
 (.block 2 (.loop (.seq (.ops [ROp.mk (some 28) none (.p (.arith .lss (.t 27) (.t 26)))])
   (.seq (.cond (.t 28) (.skip)
   (.exit 2))
   (.seq (.block 3 (.seq (.ops [ROp.mk (some 29) none (.p (.iaL 1 (.t 25) (.t 27))),
     ROp.mk (some 30) none (.d (.load 1 false (.t 29))),
     ROp.mk (some 8) none (.p (.mv (.t 30)))])
    (.ops [ROp.mk (some 31) none (.p (.mv (.t 6))),
     ROp.mk (some 32) none (.p (.mv (.t 8))),
     ROp.mk (some 33) none (.w (.app 1 1 (.t 31) (.t 32))),
     ROp.mk (some 6) none (.p (.mv (.t 33)))])))
   (.ops [ROp.mk (some 34) none (.p (.arith .add (.t 27) (.c (.int .i64 1)))),
    ROp.mk (some 27) none (.p (.mv (.t 34)))])))))))
 (.seq (.ops [ROp.mk (some 35) none (.p (.mv (.t 6))),
  ROp.mk (some 2) none (.p (.mv (.t 35)))])
 (.ret)))))))
theorem ok201 : rFun Tryz.prog an 201 = some rf201 := by kernel_rfl

def rf202 : RF := RF.mk 25 [.t 4] false (
 .seq (.ops [ROp.mk (some 4) none (.p (.mv (.c .nils)))])
 (.seq (.ops [ROp.mk (some 7) none (.w (.mks [(.int .u8 0)] 1 1 (.c (.int .i64 64)) (.c (.int .i64 64)))),
  ROp.mk (some 5) none (.p (.mv (.t 7)))])
 (.seq (.ops [ROp.mk (some 8) none (.p (.mv (.t 5))),
  ROp.mk (some 9) none (.p (.mv (.t 0))),
  ROp.mk (some 10) none (.w (.copyL 1 (.t 8) (.t 9)))])
 (.seq (.seq (.ops [ROp.mk (some 11) none (.p (.mv (.t 5))),
  ROp.mk (some 12) none (.p (.lenL (.t 11))),
  ROp.mk (some 13) none (.p (.mv (.c (.int .i64 0))))])
 (.block 0 (.loop (.seq (.ops [ROp.mk (some 14) none (.p (.arith .lss (.t 13) (.t 12)))])
   (.seq (.cond (.t 14) (.skip)
   (.exit 0))
   (.seq (.block 1 (.seq (.ops [ROp.mk (some 15) none (.p (.mv (.t 13))),
     ROp.mk (some 6) none (.p (.mv (.t 15)))])
    (.ops [ROp.mk (some 16) none (.p (.mv (.t 5))),
     ROp.mk (some 17) none (.p (.mv (.t 6))),
     ROp.mk (some 18) none (.p (.iaL 1 (.t 16) (.t 17))),
     ROp.mk (some 19) none (.d (.load 1 false (.t 18))),
     ROp.mk (some 20) none (.p (.mv (.t 1))),
     ROp.mk (some 21) none (.p (.arith .xor (.t 19) (.t 20))),
     ROp.mk (some 22) none (.p (.iaL 1 (.t 16) (.t 17))),
     ROp.mk none none (.w (.store 1 (.t 22) (.t 21)))])))
   (.ops [ROp.mk (some 23) none (.p (.arith .add (.t 13) (.c (.int .i64 1)))),
    ROp.mk (some 13) none (.p (.mv (.t 23)))])))))))
 (.seq (.ops [ROp.mk (some 24) none (.p (.mv (.t 5))),
  ROp.mk (some 4) none (.p (.mv (.t 24)))])
 (.ret))))))
theorem ok202 : rFun Tryz.prog an 202 = some rf202 := by kernel_rfl

def rf234 : RF := RF.mk 8 [.t 2] false (
 .seq (.ops [ROp.mk (some 2) none (.p (.mv (.c (.int .i64 0))))])
 (.seq (.cond (.c (.bool false)) (.seq (.ops [ROp.mk (some 3) none (.p (.mv (.t 0))),
   ROp.mk (some 4) none (.p (.toInt .u32 (.t 3))),
   ROp.mk (some 5) none (.w (.call 303 [(.t 4)])),
   ROp.mk (some 2) none (.p (.mv (.t 5)))])
  (.ret))
 (.skip))
 (.seq (.ops [ROp.mk (some 6) none (.p (.mv (.t 0))),
  ROp.mk (some 7) none (.w (.call 304 [(.t 6)])),
  ROp.mk (some 2) none (.p (.mv (.t 7)))])
 (.ret))))
theorem ok234 : rFun Tryz.prog an 234 = some rf234 := by kernel_rfl

def rf235 : RF := RF.mk 17 [] false (
 .seq (.ops [ROp.mk (some 2) none (.p (.mv (.c (.int .u8 1))))])
 (.seq (.ops [ROp.mk (some 4) none (.p (.mv (.c (.int .i64 0))))])
 (.block 0 (.loop (.seq (.ops [ROp.mk (some 5) none (.p (.arith .lss (.t 4) (.c (.int .i64 255))))])
   (.seq (.cond (.t 5) (.skip)
   (.exit 0))
   (.seq (.block 1 (.seq (.ops [ROp.mk (some 6) none (.p (.mv (.t 4))),
     ROp.mk (some 3) none (.p (.mv (.t 6)))])
    (.seq (.seq (.ops [ROp.mk (some 7) none (.p (.mv (.t 0))),
     ROp.mk (some 8) none (.p (.mv (.t 3))),
     ROp.mk (some 9) none (.p (.mv (.t 2))),
     ROp.mk (some 10) none (.w (.callv (.t 7) [(.t 8), (.t 9)])),
     ROp.mk (some 11) none (.p (.un .not (.t 10)))])
    (.cond (.t 11) (.ret)
    (.skip)))
    (.ops [ROp.mk (some 12) none (.p (.mv (.t 2))),
     ROp.mk (some 13) none (.p (.mv (.t 2))),
     ROp.mk (some 14) none (.w (.call 236 [(.t 13)])),
     ROp.mk (some 15) none (.p (.arith .xor (.t 12) (.t 14))),
     ROp.mk (some 2) none (.p (.mv (.t 15)))]))))
   (.ops [ROp.mk (some 16) none (.p (.arith .add (.t 4) (.c (.int .i64 1)))),
    ROp.mk (some 4) none (.p (.mv (.t 16)))]))))))))
theorem ok235 : rFun Tryz.prog an 235 = some rf235 := by kernel_rfl

def rf236 : RF := RF.mk 10 [.t 2] false (
 .seq (.ops [ROp.mk (some 2) none (.p (.mv (.c (.int .u8 0))))])
 (.seq (.seq (.ops [ROp.mk (some 3) none (.p (.mv (.t 0))),
  ROp.mk (some 4) none (.p (.arith .geq (.t 3) (.c (.int .u8 128))))])
 (.cond (.t 4) (.seq (.ops [ROp.mk (some 5) none (.p (.mv (.t 0))),
   ROp.mk (some 6) none (.p (.arith .shl (.t 5) (.c (.int .u64 1)))),
   ROp.mk (some 7) none (.p (.arith .xor (.t 6) (.c (.int .u8 27)))),
   ROp.mk (some 2) none (.p (.mv (.t 7)))])
  (.ret))
 (.skip)))
 (.seq (.ops [ROp.mk (some 8) none (.p (.mv (.t 0))),
  ROp.mk (some 9) none (.p (.arith .shl (.t 8) (.c (.int .u64 1)))),
  ROp.mk (some 2) none (.p (.mv (.t 9)))])
 (.ret))))
theorem ok236 : rFun Tryz.prog an 236 = some rf236 := by kernel_rfl

def rf237 : RF := RF.mk 27 [.t 4] false (
 .seq (.ops [ROp.mk (some 4) none (.p (.mv (.c .nils)))])
 (.seq (.ops [ROp.mk (some 8) none (.p (.mv (.t 0))),
  ROp.mk (some 9) none (.w (.call 171 [(.t 8)])),
  ROp.mk (some 5) none (.p (.mv (.t 9)))])
 (.seq (.seq (.ops [ROp.mk (some 10) none (.p (.mv (.t 1))),
  ROp.mk (some 11) none (.p (.lenL (.t 10))),
  ROp.mk (some 12) none (.p (.mv (.c (.int .i64 0))))])
 (.block 0 (.loop (.seq (.ops [ROp.mk (some 13) none (.p (.arith .lss (.t 12) (.t 11)))])
   (.seq (.cond (.t 13) (.skip)
   (.exit 0))
   (.seq (.block 1 (.seq (.ops [ROp.mk (some 14) none (.p (.iaL 4 (.t 10) (.t 12))),
     ROp.mk (some 15) none (.d (.load 4 true (.t 14))),
     ROp.mk (some 7) none (.w (.alloc [(.str []), (.int .i64 0), .nils, .nils])),
     ROp.mk none none (.w (.store 4 (.t 7) (.t 15)))])
    (.seq (.ops [ROp.mk (some 16) none (.p (.mv (.t 5))),
     ROp.mk (some 17) none (.p (.mkf 305 [] [(.t 7)])),
     ROp.mk (some 18) none (.w (.call 170 [(.t 16), (.t 17)])),
     ROp.mk (some 5) none (.p (.mv (.t 18)))])
    (.ops [ROp.mk (some 19) none (.p (.mv (.t 5))),
     ROp.mk (some 20) none (.d (.load 4 true (.t 7))),
     ROp.mk (some 21) none (.p (.mkl [(.str []), (.int .i64 0), .nils, .nils] 1 4 [(0, 4, (.t 20))])),
     ROp.mk (some 22) none (.w (.app 4 72 (.t 19) (.t 21))),
     ROp.mk (some 5) none (.p (.mv (.t 22)))]))))
   (.ops [ROp.mk (some 23) none (.p (.arith .add (.t 12) (.c (.int .i64 1)))),
    ROp.mk (some 12) none (.p (.mv (.t 23)))])))))))
 (.seq (.ops [ROp.mk (some 24) none (.p (.mv (.t 5))),
  ROp.mk (some 25) none (.w (.call 306 [(.t 24), (.c (.fn 307 [] []))]))])
 (.seq (.ops [ROp.mk (some 26) none (.p (.mv (.t 5))),
  ROp.mk (some 4) none (.p (.mv (.t 26)))])
 (.ret))))))
theorem ok237 : rFun Tryz.prog an 237 = some rf237 := by kernel_rfl

def rf238 : RF := RF.mk 19 [.t 4] false (
 .seq (.ops [ROp.mk (some 3) none (.w (.box 2 (.t 1))),
  ROp.mk (some 4) none (.p (.mv (.c (.int .i64 0))))])
 (.seq (.seq (.ops [ROp.mk (some 6) none (.p (.mv (.t 0))),
  ROp.mk (some 7) none (.p (.lenL (.t 6))),
  ROp.mk (some 8) none (.p (.mv (.c (.int .i64 0))))])
 (.block 0 (.loop (.seq (.ops [ROp.mk (some 9) none (.p (.arith .lss (.t 8) (.t 7)))])
   (.seq (.cond (.t 9) (.skip)
   (.exit 0))
   (.seq (.block 1 (.seq (.ops [ROp.mk (some 10) none (.p (.mv (.t 8))),
     ROp.mk (some 5) none (.p (.mv (.t 10)))])
    (.seq (.draw [(ROp.mk (some 11) none (.d (.load 2 true (.t 3))), .r 0 0),
     (ROp.mk (some 12) none (.p (.mv (.t 0))), .p),
     (ROp.mk (some 13) none (.p (.mv (.t 5))), .p),
     (ROp.mk (some 14) none (.p (.iaL 2 (.t 12) (.t 13))), .p),
     (ROp.mk (some 15) none (.d (.load 2 true (.t 14))), .r 0 0),
     (ROp.mk (some 16) none (.p (.eq false (.agg [1, 0]) (.t 11) (.t 15))), .p)] [])
    (.cond (.t 16) (.seq (.ops [ROp.mk (some 17) none (.p (.mv (.t 5))),
      ROp.mk (some 4) none (.p (.mv (.t 17)))])
     (.ret))
    (.skip)))))
   (.ops [ROp.mk (some 18) none (.p (.arith .add (.t 8) (.c (.int .i64 1)))),
    ROp.mk (some 8) none (.p (.mv (.t 18)))])))))))
 (.seq (.ops [ROp.mk (some 4) none (.p (.mv (.c (.int .i64 (-1)))))])
 (.ret))))
theorem ok238 : rFun Tryz.prog an 238 = some rf238 := by kernel_rfl

def rf240 : RF := RF.mk 4 [.t 2] false (
 .seq (.ops [ROp.mk (some 1) none (.w (.box 1 (.t 0))),
  ROp.mk (some 2) none (.p (.mv (.c .nilf)))])
 (.seq (.ops [ROp.mk (some 3) none (.p (.mkf 308 [] [(.t 1)])),
  ROp.mk (some 2) none (.p (.mv (.t 3)))])
 (.ret)))
theorem ok240 : rFun Tryz.prog an 240 = some rf240 := by kernel_rfl

def rf249 : RF := RF.mk 2 [.cell 0 8 true] false (
 .seq (.ops [ROp.mk (some 0) none (.w (.alloc [(.int .u32 0), (.int .u32 0), (.int .u32 0), (.int .u32 0), (.int .u32 0), (.int .u32 0), (.int .u32 0), (.int .u32 0)]))])
 (.seq (.ops [ROp.mk (some 1) none (.p (.build [(.int .u32 0), (.int .u32 0), (.int .u32 0), (.int .u32 0), (.int .u32 0), (.int .u32 0), (.int .u32 0), (.int .u32 0)] [(0, 1, (.c (.int .u32 1779033703))), (1, 1, (.c (.int .u32 3144134277))), (2, 1, (.c (.int .u32 1013904242))), (3, 1, (.c (.int .u32 2773480762))), (4, 1, (.c (.int .u32 1359893119))), (5, 1, (.c (.int .u32 2600822924))), (6, 1, (.c (.int .u32 528734635))), (7, 1, (.c (.int .u32 1541459225)))])),
  ROp.mk none none (.w (.store 8 (.t 0) (.t 1)))])
 (.ret)))
theorem ok249 : rFun Tryz.prog an 249 = some rf249 := by kernel_rfl

def rf250 : RF := RF.mk 34 [.t 2] false (
 .seq (.ops [ROp.mk (some 2) none (.p (.mv (.c .nils)))])
 (.seq (.ops [ROp.mk (some 6) none (.p (.mkl [] 0 1 [])),
  ROp.mk (some 7) none (.p (.mv (.t 0))),
  ROp.mk (some 8) none (.w (.app 1 1 (.t 6) (.t 7))),
  ROp.mk (some 9) none (.p (.mkl [(.int .u8 0)] 1 1 [(0, 1, (.c (.int .u8 128)))])),
  ROp.mk (some 10) none (.w (.app 1 1 (.t 8) (.t 9))),
  ROp.mk (some 3) none (.p (.mv (.t 10)))])
 (.seq (.block 0 (.loop (.seq (.seq (.ops [ROp.mk (some 11) none (.p (.mv (.t 3))),
    ROp.mk (some 12) none (.p (.lenL (.t 11))),
    ROp.mk (some 13) none (.p (.arith .rem (.t 12) (.c (.int .i64 64)))),
    ROp.mk (some 14) none (.p (.arith .neq (.t 13) (.c (.int .i64 56))))])
   (.cond (.t 14) (.skip)
   (.exit 0)))
   (.block 1 (.ops [ROp.mk (some 15) none (.p (.mv (.t 3))),
     ROp.mk (some 16) none (.p (.mkl [(.int .u8 0)] 1 1 [(0, 1, (.c (.int .u8 0)))])),
     ROp.mk (some 17) none (.w (.app 1 1 (.t 15) (.t 16))),
     ROp.mk (some 3) none (.p (.mv (.t 17)))])))))
 (.seq (.ops [ROp.mk (some 18) none (.p (.mv (.t 0))),
  ROp.mk (some 19) none (.p (.lenL (.t 18))),
  ROp.mk (some 20) none (.p (.toInt .u64 (.t 19))),
  ROp.mk (some 21) none (.p (.arith .mul (.t 20) (.c (.int .u64 8)))),
  ROp.mk (some 4) none (.p (.mv (.t 21)))])
 (.seq (.seq (.ops [ROp.mk (some 5) none (.p (.mv (.c (.int .i64 56))))])
 (.block 2 (.loop (.seq (.seq (.ops [ROp.mk (some 22) none (.p (.mv (.t 5))),
    ROp.mk (some 23) none (.p (.arith .geq (.t 22) (.c (.int .i64 0))))])
   (.cond (.t 23) (.skip)
   (.exit 2)))
   (.seq (.block 3 (.ops [ROp.mk (some 26) none (.p (.mv (.t 3))),
     ROp.mk (some 27) none (.p (.mv (.t 4))),
     ROp.mk (some 28) none (.p (.mv (.t 5))),
     ROp.mk (some 29) none (.p (.arith .shr (.t 27) (.t 28))),
     ROp.mk (some 30) none (.p (.toInt .u8 (.t 29))),
     ROp.mk (some 31) none (.p (.mkl [(.int .u8 0)] 1 1 [(0, 1, (.t 30))])),
     ROp.mk (some 32) none (.w (.app 1 1 (.t 26) (.t 31))),
     ROp.mk (some 3) none (.p (.mv (.t 32)))]))
   (.ops [ROp.mk (some 24) none (.p (.mv (.t 5))),
    ROp.mk (some 25) none (.p (.arith .sub (.t 24) (.c (.int .i64 8)))),
    ROp.mk (some 5) none (.p (.mv (.t 25)))]))))))
 (.seq (.ops [ROp.mk (some 33) none (.p (.mv (.t 3))),
  ROp.mk (some 2) none (.p (.mv (.t 33)))])
 (.ret)))))))
theorem ok250 : rFun Tryz.prog an 250 = some rf250 := by kernel_rfl

def rf251 : RF := RF.mk 113 [] false (
 .seq (.draw [(ROp.mk (some 13) none (.p (.mv (.t 1))), .p),
  (ROp.mk (some 14) none (.w (.call 311 [(.t 13)])), .w),
  (ROp.mk (some 15) none (.p (.mv (.t 0))), .p),
  (ROp.mk (some 16) none (.p (.nchk (.t 15))), .p),
  (ROp.mk (some 17) none (.d (.load 8 true (.t 16))), .r 0 2),
  (ROp.mk (some 4) none (.w (.alloc (List.replicate 64 (.int .u32 0)))), .a 0 0 1),
  (ROp.mk (some 5) none (.w (.alloc [(.int .u32 0), (.int .u32 0), (.int .u32 0), (.int .u32 0), (.int .u32 0), (.int .u32 0), (.int .u32 0), (.int .u32 0)])), .a 1 0 1),
  (ROp.mk none none (.w (.store 64 (.t 4) (.t 14))), .w),
  (ROp.mk none none (.w (.store 8 (.t 5) (.t 17))), .w)] [(List.replicate 64 (.int .u32 0)), [(.int .u32 0), (.int .u32 0), (.int .u32 0), (.int .u32 0), (.int .u32 0), (.int .u32 0), (.int .u32 0), (.int .u32 0)]])
 (.seq (.seq (.ops [ROp.mk (some 18) none (.d (.load 64 true (.t 4))),
  ROp.mk (some 19) none (.p (.mv (.c (.int .i64 0))))])
 (.block 0 (.loop (.seq (.ops [ROp.mk (some 20) none (.p (.arith .lss (.t 19) (.c (.int .i64 64))))])
   (.seq (.cond (.t 20) (.skip)
   (.exit 0))
   (.seq (.block 1 (.seq (.ops [ROp.mk (some 21) none (.p (.mv (.t 19))),
     ROp.mk (some 22) none (.p (.ixA 64 1 false (.t 18) (.t 19))),
     ROp.mk (some 6) none (.p (.mv (.t 21))),
     ROp.mk (some 7) none (.p (.mv (.t 22)))])
    (.seq (.draw [(ROp.mk (some 23) none (.p (.iaA 8 1 (.t 5) (.c (.int .i64 0)))), .p),
     (ROp.mk (some 24) none (.d (.load 1 false (.t 23))), .r 0 0),
     (ROp.mk (some 25) none (.p (.iaA 8 1 (.t 5) (.c (.int .i64 4)))), .p),
     (ROp.mk (some 26) none (.d (.load 1 false (.t 25))), .r 0 0),
     (ROp.mk (some 8) none (.p (.mv (.t 24))), .p),
     (ROp.mk (some 9) none (.p (.mv (.t 26))), .p)] [])
    (.seq (.draw [(ROp.mk (some 27) none (.p (.iaA 8 1 (.t 5) (.c (.int .i64 7)))), .p),
     (ROp.mk (some 28) none (.d (.load 1 false (.t 27))), .r 0 3),
     (ROp.mk (some 29) none (.p (.mv (.t 9))), .p),
     (ROp.mk (some 30) none (.w (.call 312 [(.t 29), (.c (.int .i64 6))])), .w),
     (ROp.mk (some 31) none (.p (.mv (.t 9))), .p),
     (ROp.mk (some 32) none (.w (.call 312 [(.t 31), (.c (.int .i64 11))])), .w),
     (ROp.mk (some 33) none (.p (.arith .xor (.t 30) (.t 32))), .p),
     (ROp.mk (some 34) none (.p (.mv (.t 9))), .p),
     (ROp.mk (some 35) none (.w (.call 312 [(.t 34), (.c (.int .i64 25))])), .w),
     (ROp.mk (some 36) none (.p (.arith .xor (.t 33) (.t 35))), .p),
     (ROp.mk (some 37) none (.p (.arith .add (.t 28) (.t 36))), .p),
     (ROp.mk (some 38) none (.p (.mv (.t 9))), .p),
     (ROp.mk (some 39) none (.p (.iaA 8 1 (.t 5) (.c (.int .i64 5)))), .p),
     (ROp.mk (some 40) none (.d (.load 1 false (.t 39))), .r 0 3),
     (ROp.mk (some 41) none (.p (.arith .and (.t 38) (.t 40))), .p),
     (ROp.mk (some 42) none (.p (.mv (.t 9))), .p),
     (ROp.mk (some 43) none (.p (.un .xor (.t 42))), .p),
     (ROp.mk (some 44) none (.p (.iaA 8 1 (.t 5) (.c (.int .i64 6)))), .p),
     (ROp.mk (some 45) none (.d (.load 1 false (.t 44))), .r 0 3),
     (ROp.mk (some 46) none (.p (.arith .and (.t 43) (.t 45))), .p),
     (ROp.mk (some 47) none (.p (.arith .xor (.t 41) (.t 46))), .p),
     (ROp.mk (some 48) none (.p (.arith .add (.t 37) (.t 47))), .p),
     (ROp.mk (some 49) none (.p (.mv (.t 6))), .p),
     (ROp.mk (some 50) none (.p (.iaA 64 1 (.g 1) (.t 49))), .p),
     (ROp.mk (some 51) none (.d (.load 1 false (.t 50))), .r 0 3),
     (ROp.mk (some 52) none (.p (.arith .add (.t 48) (.t 51))), .p),
     (ROp.mk (some 53) none (.p (.mv (.t 7))), .p),
     (ROp.mk (some 54) none (.p (.arith .add (.t 52) (.t 53))), .p),
     (ROp.mk (some 10) none (.p (.mv (.t 54))), .p)] [])
    (.seq (.draw [(ROp.mk (some 55) none (.p (.mv (.t 8))), .p),
     (ROp.mk (some 56) none (.w (.call 312 [(.t 55), (.c (.int .i64 2))])), .w),
     (ROp.mk (some 57) none (.p (.mv (.t 8))), .p),
     (ROp.mk (some 58) none (.w (.call 312 [(.t 57), (.c (.int .i64 13))])), .w),
     (ROp.mk (some 59) none (.p (.arith .xor (.t 56) (.t 58))), .p),
     (ROp.mk (some 60) none (.p (.mv (.t 8))), .p),
     (ROp.mk (some 61) none (.w (.call 312 [(.t 60), (.c (.int .i64 22))])), .w),
     (ROp.mk (some 62) none (.p (.arith .xor (.t 59) (.t 61))), .p),
     (ROp.mk (some 63) none (.p (.mv (.t 8))), .p),
     (ROp.mk (some 64) none (.p (.iaA 8 1 (.t 5) (.c (.int .i64 1)))), .p),
     (ROp.mk (some 65) none (.d (.load 1 false (.t 64))), .r 0 3),
     (ROp.mk (some 66) none (.p (.arith .and (.t 63) (.t 65))), .p),
     (ROp.mk (some 67) none (.p (.mv (.t 8))), .p),
     (ROp.mk (some 68) none (.p (.iaA 8 1 (.t 5) (.c (.int .i64 2)))), .p),
     (ROp.mk (some 69) none (.d (.load 1 false (.t 68))), .r 0 3),
     (ROp.mk (some 70) none (.p (.arith .and (.t 67) (.t 69))), .p),
     (ROp.mk (some 71) none (.p (.arith .xor (.t 66) (.t 70))), .p),
     (ROp.mk (some 72) none (.p (.iaA 8 1 (.t 5) (.c (.int .i64 1)))), .p),
     (ROp.mk (some 73) none (.d (.load 1 false (.t 72))), .r 0 3),
     (ROp.mk (some 74) none (.p (.iaA 8 1 (.t 5) (.c (.int .i64 2)))), .p),
     (ROp.mk (some 75) none (.d (.load 1 false (.t 74))), .r 0 3),
     (ROp.mk (some 76) none (.p (.arith .and (.t 73) (.t 75))), .p),
     (ROp.mk (some 77) none (.p (.arith .xor (.t 71) (.t 76))), .p),
     (ROp.mk (some 78) none (.p (.arith .add (.t 62) (.t 77))), .p),
     (ROp.mk (some 11) none (.p (.mv (.t 78))), .p)] [])
    (.ops [ROp.mk (some 79) none (.p (.mv (.t 10))),
     ROp.mk (some 80) none (.p (.mv (.t 11))),
     ROp.mk (some 81) none (.p (.arith .add (.t 79) (.t 80))),
     ROp.mk (some 82) none (.p (.mv (.t 8))),
     ROp.mk (some 83) none (.p (.iaA 8 1 (.t 5) (.c (.int .i64 1)))),
     ROp.mk (some 84) none (.d (.load 1 false (.t 83))),
     ROp.mk (some 85) none (.p (.iaA 8 1 (.t 5) (.c (.int .i64 2)))),
     ROp.mk (some 86) none (.d (.load 1 false (.t 85))),
     ROp.mk (some 87) none (.p (.iaA 8 1 (.t 5) (.c (.int .i64 3)))),
     ROp.mk (some 88) none (.d (.load 1 false (.t 87))),
     ROp.mk (some 89) none (.p (.mv (.t 10))),
     ROp.mk (some 90) none (.p (.arith .add (.t 88) (.t 89))),
     ROp.mk (some 91) none (.p (.mv (.t 9))),
     ROp.mk (some 92) none (.p (.iaA 8 1 (.t 5) (.c (.int .i64 5)))),
     ROp.mk (some 93) none (.d (.load 1 false (.t 92))),
     ROp.mk (some 94) none (.p (.iaA 8 1 (.t 5) (.c (.int .i64 6)))),
     ROp.mk (some 95) none (.d (.load 1 false (.t 94))),
     ROp.mk (some 96) none (.p (.build [(.int .u32 0), (.int .u32 0), (.int .u32 0), (.int .u32 0), (.int .u32 0), (.int .u32 0), (.int .u32 0), (.int .u32 0)] [(0, 1, (.t 81)), (1, 1, (.t 82)), (2, 1, (.t 84)), (3, 1, (.t 86)), (4, 1, (.t 90)), (5, 1, (.t 91)), (6, 1, (.t 93)), (7, 1, (.t 95))])),
     ROp.mk none none (.w (.store 8 (.t 5) (.t 96)))]))))))
   (.ops [ROp.mk (some 97) none (.p (.arith .add (.t 19) (.c (.int .i64 1)))),
    ROp.mk (some 19) none (.p (.mv (.t 97)))])))))))
 (.seq (.ops [ROp.mk (some 98) none (.p (.mv (.c (.int .i64 0))))])
 (.block 2 (.loop (.seq (.ops [ROp.mk (some 99) none (.p (.arith .lss (.t 98) (.c (.int .i64 8))))])
   (.seq (.cond (.t 99) (.skip)
   (.exit 2))
   (.seq (.block 3 (.seq (.ops [ROp.mk (some 100) none (.p (.mv (.t 98))),
     ROp.mk (some 12) none (.p (.mv (.t 100)))])
    (.draw [(ROp.mk (some 101) none (.p (.mv (.t 0))), .p),
     (ROp.mk (some 102) none (.p (.mv (.t 12))), .p),
     (ROp.mk (some 103) none (.p (.nchk (.t 101))), .p),
     (ROp.mk (some 104) none (.p (.iaA 8 1 (.t 103) (.t 102))), .p),
     (ROp.mk (some 105) none (.d (.load 1 false (.t 104))), .r 0 0),
     (ROp.mk (some 106) none (.p (.mv (.t 12))), .p),
     (ROp.mk (some 107) none (.p (.iaA 8 1 (.t 5) (.t 106))), .p),
     (ROp.mk (some 108) none (.d (.load 1 false (.t 107))), .r 0 0),
     (ROp.mk (some 109) none (.p (.arith .add (.t 105) (.t 108))), .p),
     (ROp.mk (some 110) none (.p (.nchk (.t 101))), .p),
     (ROp.mk (some 111) none (.p (.iaA 8 1 (.t 110) (.t 102))), .p),
     (ROp.mk none none (.w (.store 1 (.t 111) (.t 109))), .w)] [])))
   (.ops [ROp.mk (some 112) none (.p (.arith .add (.t 98) (.c (.int .i64 1)))),
    ROp.mk (some 98) none (.p (.mv (.t 112)))])))))))))
theorem ok251 : rFun Tryz.prog an 251 = some rf251 := by kernel_rfl

def rf252 : RF := RF.mk 27 [.t 4] false (
 .seq (.ops [ROp.mk (some 4) none (.p (.mv (.c .nils)))])
 (.seq (.seq (.ops [ROp.mk (some 5) none (.p (.mv (.t 1))),
  ROp.mk (some 6) none (.p (.arith .lss (.t 5) (.c (.int .i64 0))))])
 (.cond (.t 6) (.ops [ROp.mk (some 7) none (.p (.bad)),
   ROp.mk none none (.p (.bad))])
 (.skip)))
 (.seq (.seq (.ops [ROp.mk (some 8) none (.p (.mv (.t 1))),
  ROp.mk (some 9) none (.p (.mv (.t 0))),
  ROp.mk (some 10) none (.p (.capL (.t 9))),
  ROp.mk (some 11) none (.p (.mv (.t 0))),
  ROp.mk (some 12) none (.p (.lenL (.t 11))),
  ROp.mk (some 13) none (.p (.arith .sub (.t 10) (.t 12))),
  ROp.mk (some 14) none (.p (.arith .sub (.t 8) (.t 13))),
  ROp.mk (some 1) none (.p (.mv (.t 14)))])
 (.seq (.ops [ROp.mk (some 15) none (.p (.mv (.t 1))),
  ROp.mk (some 16) none (.p (.arith .gtr (.t 15) (.c (.int .i64 0))))])
 (.cond (.t 16) (.ops [ROp.mk (some 17) none (.p (.mv (.t 0))),
   ROp.mk (some 18) none (.p (.mv (.t 0))),
   ROp.mk (some 19) none (.p (.capL (.t 18))),
   ROp.mk (some 20) none (.p (.slL 1 (.t 17) none (some (.t 19)) none)),
   ROp.mk (some 21) none (.p (.mv (.t 1))),
   ROp.mk (some 22) none (.w (.appZ [(.int .u8 0)] 1 1 (.t 20) (.t 21))),
   ROp.mk (some 23) none (.p (.mv (.t 0))),
   ROp.mk (some 24) none (.p (.lenL (.t 23))),
   ROp.mk (some 25) none (.p (.slL 1 (.t 22) none (some (.t 24)) none)),
   ROp.mk (some 0) none (.p (.mv (.t 25)))])
 (.skip))))
 (.seq (.ops [ROp.mk (some 26) none (.p (.mv (.t 0))),
  ROp.mk (some 4) none (.p (.mv (.t 26)))])
 (.ret)))))
theorem ok252 : rFun Tryz.prog an 252 = some rf252 := by kernel_rfl

def rf304 : RF := RF.mk 25 [.t 2] false (
 .seq (.ops [ROp.mk (some 2) none (.p (.mv (.c (.int .i64 0))))])
 (.seq (.seq (.ops [ROp.mk (some 3) none (.p (.mv (.t 0))),
  ROp.mk (some 4) none (.p (.arith .geq (.t 3) (.c (.int .u64 4294967296))))])
 (.cond (.t 4) (.seq (.ops [ROp.mk (some 5) none (.p (.mv (.t 0))),
   ROp.mk (some 6) none (.p (.arith .shr (.t 5) (.c (.int .u64 32)))),
   ROp.mk (some 0) none (.p (.mv (.t 6)))])
  (.ops [ROp.mk (some 2) none (.p (.mv (.c (.int .i64 32))))]))
 (.skip)))
 (.seq (.seq (.ops [ROp.mk (some 7) none (.p (.mv (.t 0))),
  ROp.mk (some 8) none (.p (.arith .geq (.t 7) (.c (.int .u64 65536))))])
 (.cond (.t 8) (.seq (.ops [ROp.mk (some 9) none (.p (.mv (.t 0))),
   ROp.mk (some 10) none (.p (.arith .shr (.t 9) (.c (.int .u64 16)))),
   ROp.mk (some 0) none (.p (.mv (.t 10)))])
  (.ops [ROp.mk (some 11) none (.p (.mv (.t 2))),
   ROp.mk (some 12) none (.p (.arith .add (.t 11) (.c (.int .i64 16)))),
   ROp.mk (some 2) none (.p (.mv (.t 12)))]))
 (.skip)))
 (.seq (.seq (.ops [ROp.mk (some 13) none (.p (.mv (.t 0))),
  ROp.mk (some 14) none (.p (.arith .geq (.t 13) (.c (.int .u64 256))))])
 (.cond (.t 14) (.seq (.ops [ROp.mk (some 15) none (.p (.mv (.t 0))),
   ROp.mk (some 16) none (.p (.arith .shr (.t 15) (.c (.int .u64 8)))),
   ROp.mk (some 0) none (.p (.mv (.t 16)))])
  (.ops [ROp.mk (some 17) none (.p (.mv (.t 2))),
   ROp.mk (some 18) none (.p (.arith .add (.t 17) (.c (.int .i64 8)))),
   ROp.mk (some 2) none (.p (.mv (.t 18)))]))
 (.skip)))
 (.seq (.ops [ROp.mk (some 19) none (.p (.mv (.t 2))),
  ROp.mk (some 20) none (.p (.mv (.t 0))),
  ROp.mk (some 21) none (.p (.toInt .u8 (.t 20))),
  ROp.mk (some 22) none (.p (.ixS (.c (.str [0, 1, 2, 2, 3, 3, 3, 3, 4, 4, 4, 4, 4, 4, 4, 4, 5, 5, 5, 5, 5, 5, 5, 5, 5, 5, 5, 5, 5, 5, 5, 5, 6, 6, 6, 6, 6, 6, 6, 6, 6, 6, 6, 6, 6, 6, 6, 6, 6, 6, 6, 6, 6, 6, 6, 6, 6, 6, 6, 6, 6, 6, 6, 6, 7, 7, 7, 7, 7, 7, 7, 7, 7, 7, 7, 7, 7, 7, 7, 7, 7, 7, 7, 7, 7, 7, 7, 7, 7, 7, 7, 7, 7, 7, 7, 7, 7, 7, 7, 7, 7, 7, 7, 7, 7, 7, 7, 7, 7, 7, 7, 7, 7, 7, 7, 7, 7, 7, 7, 7, 7, 7, 7, 7, 7, 7, 7, 7, 8, 8, 8, 8, 8, 8, 8, 8, 8, 8, 8, 8, 8, 8, 8, 8, 8, 8, 8, 8, 8, 8, 8, 8, 8, 8, 8, 8, 8, 8, 8, 8, 8, 8, 8, 8, 8, 8, 8, 8, 8, 8, 8, 8, 8, 8, 8, 8, 8, 8, 8, 8, 8, 8, 8, 8, 8, 8, 8, 8, 8, 8, 8, 8, 8, 8, 8, 8, 8, 8, 8, 8, 8, 8, 8, 8, 8, 8, 8, 8, 8, 8, 8, 8, 8, 8, 8, 8, 8, 8, 8, 8, 8, 8, 8, 8, 8, 8, 8, 8, 8, 8, 8, 8, 8, 8, 8, 8, 8, 8, 8, 8, 8, 8, 8, 8, 8, 8, 8, 8, 8, 8, 8, 8, 8, 8, 8, 8])) (.t 21))),
  ROp.mk (some 23) none (.p (.toInt .i64 (.t 22))),
  ROp.mk (some 24) none (.p (.arith .add (.t 19) (.t 23))),
  ROp.mk (some 2) none (.p (.mv (.t 24)))])
 (.ret))))))
theorem ok304 : rFun Tryz.prog an 304 = some rf304 := by kernel_rfl

def rf306 : RF := RF.mk 14 [] false (
 .seq (.ops [ROp.mk (some 5) none (.p (.mv (.t 0))),
  ROp.mk (some 6) none (.p (.lenL (.t 5))),
  ROp.mk (some 4) none (.p (.mv (.t 6)))])
 (.ops [ROp.mk (some 7) none (.p (.mv (.t 0))),
  ROp.mk (some 8) none (.p (.mv (.t 4))),
  ROp.mk (some 9) none (.p (.mv (.t 4))),
  ROp.mk (some 10) none (.p (.toInt .u64 (.t 9))),
  ROp.mk (some 11) none (.w (.call 234 [(.t 10)])),
  ROp.mk (some 12) none (.p (.mv (.t 1))),
  ROp.mk (some 13) none (.w (.call 343 [(.t 7), (.c (.int .i64 0)), (.t 8), (.t 11), (.t 12)]))]))
theorem ok306 : rFun Tryz.prog an 306 = some rf306 := by kernel_rfl

def rf308 : RF := RF.mk 24 [] false (
 .seq (.ops [ROp.mk (some 5) none (.d (.load 1 false (.t 1))),
  ROp.mk (some 6) none (.p (.lenL (.t 5))),
  ROp.mk (some 7) none (.w (.call 121 [(.t 6)])),
  ROp.mk (some 8) none (.p (.mv (.c (.int .i64 0))))])
 (.block 0 (.loop (.seq (.ops [ROp.mk (some 9) none (.p (.arith .lss (.t 8) (.t 7)))])
   (.seq (.cond (.t 9) (.skip)
   (.exit 0))
   (.seq (.block 1 (.seq (.ops [ROp.mk (some 10) none (.p (.mv (.t 8))),
     ROp.mk (some 3) none (.p (.mv (.t 10)))])
    (.seq (.ops [ROp.mk (some 11) none (.w (.mks [(.int .u8 0)] 1 1 (.c (.int .i64 32)) (.c (.int .i64 32)))),
     ROp.mk (some 4) none (.p (.mv (.t 11)))])
    (.seq (.ops [ROp.mk (some 12) none (.p (.mv (.t 4))),
     ROp.mk (some 13) none (.d (.load 1 false (.t 1))),
     ROp.mk (some 14) none (.p (.mv (.t 3))),
     ROp.mk (some 15) none (.p (.arith .mul (.t 14) (.c (.int .i64 32)))),
     ROp.mk (some 16) none (.p (.slL 1 (.t 13) (some (.t 15)) none none)),
     ROp.mk (some 17) none (.w (.copyL 1 (.t 12) (.t 16)))])
    (.seq (.ops [ROp.mk (some 18) none (.p (.mv (.t 0))),
     ROp.mk (some 19) none (.p (.mv (.t 3))),
     ROp.mk (some 20) none (.p (.mv (.t 4))),
     ROp.mk (some 21) none (.w (.callv (.t 18) [(.t 19), (.t 20)])),
     ROp.mk (some 22) none (.p (.un .not (.t 21)))])
    (.cond (.t 22) (.ret)
    (.skip)))))))
   (.ops [ROp.mk (some 23) none (.p (.arith .add (.t 8) (.c (.int .i64 1)))),
    ROp.mk (some 8) none (.p (.mv (.t 23)))])))))))
theorem ok308 : rFun Tryz.prog an 308 = some rf308 := by kernel_rfl

def rf311 : RF := RF.mk 86 [.cell 2 64 true] false (
 .seq (.ops [ROp.mk (some 2) none (.w (.alloc (List.replicate 64 (.int .u32 0))))])
 (.seq (.ops [ROp.mk (some 3) none (.w (.alloc (List.replicate 64 (.int .u32 0))))])
 (.seq (.seq (.ops [ROp.mk (some 7) none (.p (.mv (.c (.int .i64 0))))])
 (.block 0 (.loop (.seq (.ops [ROp.mk (some 8) none (.p (.arith .lss (.t 7) (.c (.int .i64 64))))])
   (.seq (.cond (.t 8) (.skip)
   (.exit 0))
   (.seq (.block 1 (.seq (.ops [ROp.mk (some 9) none (.p (.mv (.t 7))),
     ROp.mk (some 4) none (.p (.mv (.t 9)))])
    (.seq (.seq (.ops [ROp.mk (some 10) none (.p (.mv (.t 4))),
     ROp.mk (some 11) none (.p (.arith .lss (.t 10) (.c (.int .i64 16))))])
    (.cond (.t 11) (.seq (.draw [(ROp.mk (some 12) none (.p (.mv (.t 4))), .p),
      (ROp.mk (some 13) none (.p (.mv (.t 0))), .p),
      (ROp.mk (some 14) none (.p (.mv (.t 4))), .p),
      (ROp.mk (some 15) none (.p (.arith .mul (.c (.int .i64 4)) (.t 14))), .p),
      (ROp.mk (some 16) none (.p (.iaL 1 (.t 13) (.t 15))), .p),
      (ROp.mk (some 17) none (.d (.load 1 false (.t 16))), .r 0 0),
      (ROp.mk (some 18) none (.p (.toInt .u32 (.t 17))), .p),
      (ROp.mk (some 19) none (.p (.arith .shl (.t 18) (.c (.int .u64 24)))), .p),
      (ROp.mk (some 20) none (.p (.mv (.t 0))), .p),
      (ROp.mk (some 21) none (.p (.mv (.t 4))), .p),
      (ROp.mk (some 22) none (.p (.arith .mul (.c (.int .i64 4)) (.t 21))), .p),
      (ROp.mk (some 23) none (.p (.arith .add (.t 22) (.c (.int .i64 1)))), .p),
      (ROp.mk (some 24) none (.p (.iaL 1 (.t 20) (.t 23))), .p),
      (ROp.mk (some 25) none (.d (.load 1 false (.t 24))), .r 0 0),
      (ROp.mk (some 26) none (.p (.toInt .u32 (.t 25))), .p),
      (ROp.mk (some 27) none (.p (.arith .shl (.t 26) (.c (.int .u64 16)))), .p),
      (ROp.mk (some 28) none (.p (.arith .or (.t 19) (.t 27))), .p),
      (ROp.mk (some 29) none (.p (.mv (.t 0))), .p),
      (ROp.mk (some 30) none (.p (.mv (.t 4))), .p),
      (ROp.mk (some 31) none (.p (.arith .mul (.c (.int .i64 4)) (.t 30))), .p),
      (ROp.mk (some 32) none (.p (.arith .add (.t 31) (.c (.int .i64 2)))), .p),
      (ROp.mk (some 33) none (.p (.iaL 1 (.t 29) (.t 32))), .p),
      (ROp.mk (some 34) none (.d (.load 1 false (.t 33))), .r 0 0),
      (ROp.mk (some 35) none (.p (.toInt .u32 (.t 34))), .p),
      (ROp.mk (some 36) none (.p (.arith .shl (.t 35) (.c (.int .u64 8)))), .p),
      (ROp.mk (some 37) none (.p (.arith .or (.t 28) (.t 36))), .p),
      (ROp.mk (some 38) none (.p (.mv (.t 0))), .p),
      (ROp.mk (some 39) none (.p (.mv (.t 4))), .p),
      (ROp.mk (some 40) none (.p (.arith .mul (.c (.int .i64 4)) (.t 39))), .p),
      (ROp.mk (some 41) none (.p (.arith .add (.t 40) (.c (.int .i64 3)))), .p),
      (ROp.mk (some 42) none (.p (.iaL 1 (.t 38) (.t 41))), .p),
      (ROp.mk (some 43) none (.d (.load 1 false (.t 42))), .r 0 0),
      (ROp.mk (some 44) none (.p (.toInt .u32 (.t 43))), .p),
      (ROp.mk (some 45) none (.p (.arith .or (.t 37) (.t 44))), .p),
      (ROp.mk (some 46) none (.p (.iaA 64 1 (.t 3) (.t 12))), .p),
      (ROp.mk none none (.w (.store 1 (.t 46) (.t 45))), .w)] [])
     (.exit 1))
    (.skip)))
    (.seq (.draw [(ROp.mk (some 47) none (.p (.mv (.t 4))), .p),
     (ROp.mk (some 48) none (.p (.arith .sub (.t 47) (.c (.int .i64 2)))), .p),
     (ROp.mk (some 49) none (.p (.iaA 64 1 (.t 3) (.t 48))), .p),
     (ROp.mk (some 50) none (.d (.load 1 false (.t 49))), .r 0 0),
     (ROp.mk (some 51) none (.p (.mv (.t 4))), .p),
     (ROp.mk (some 52) none (.p (.arith .sub (.t 51) (.c (.int .i64 15)))), .p),
     (ROp.mk (some 53) none (.p (.iaA 64 1 (.t 3) (.t 52))), .p),
     (ROp.mk (some 54) none (.d (.load 1 false (.t 53))), .r 0 0),
     (ROp.mk (some 5) none (.p (.mv (.t 50))), .p),
     (ROp.mk (some 6) none (.p (.mv (.t 54))), .p)] [])
    (.draw [(ROp.mk (some 55) none (.p (.mv (.t 4))), .p),
     (ROp.mk (some 56) none (.p (.mv (.t 5))), .p),
     (ROp.mk (some 57) none (.w (.call 312 [(.t 56), (.c (.int .i64 17))])), .w),
     (ROp.mk (some 58) none (.p (.mv (.t 5))), .p),
     (ROp.mk (some 59) none (.w (.call 312 [(.t 58), (.c (.int .i64 19))])), .w),
     (ROp.mk (some 60) none (.p (.arith .xor (.t 57) (.t 59))), .p),
     (ROp.mk (some 61) none (.p (.mv (.t 5))), .p),
     (ROp.mk (some 62) none (.p (.arith .shr (.t 61) (.c (.int .u64 10)))), .p),
     (ROp.mk (some 63) none (.p (.arith .xor (.t 60) (.t 62))), .p),
     (ROp.mk (some 64) none (.p (.mv (.t 4))), .p),
     (ROp.mk (some 65) none (.p (.arith .sub (.t 64) (.c (.int .i64 7)))), .p),
     (ROp.mk (some 66) none (.p (.iaA 64 1 (.t 3) (.t 65))), .p),
     (ROp.mk (some 67) none (.d (.load 1 false (.t 66))), .r 0 4),
     (ROp.mk (some 68) none (.p (.arith .add (.t 63) (.t 67))), .p),
     (ROp.mk (some 69) none (.p (.mv (.t 6))), .p),
     (ROp.mk (some 70) none (.w (.call 312 [(.t 69), (.c (.int .i64 7))])), .w),
     (ROp.mk (some 71) none (.p (.mv (.t 6))), .p),
     (ROp.mk (some 72) none (.w (.call 312 [(.t 71), (.c (.int .i64 18))])), .w),
     (ROp.mk (some 73) none (.p (.arith .xor (.t 70) (.t 72))), .p),
     (ROp.mk (some 74) none (.p (.mv (.t 6))), .p),
     (ROp.mk (some 75) none (.p (.arith .shr (.t 74) (.c (.int .u64 3)))), .p),
     (ROp.mk (some 76) none (.p (.arith .xor (.t 73) (.t 75))), .p),
     (ROp.mk (some 77) none (.p (.arith .add (.t 68) (.t 76))), .p),
     (ROp.mk (some 78) none (.p (.mv (.t 4))), .p),
     (ROp.mk (some 79) none (.p (.arith .sub (.t 78) (.c (.int .i64 16)))), .p),
     (ROp.mk (some 80) none (.p (.iaA 64 1 (.t 3) (.t 79))), .p),
     (ROp.mk (some 81) none (.d (.load 1 false (.t 80))), .r 0 4),
     (ROp.mk (some 82) none (.p (.arith .add (.t 77) (.t 81))), .p),
     (ROp.mk (some 83) none (.p (.iaA 64 1 (.t 3) (.t 55))), .p),
     (ROp.mk none none (.w (.store 1 (.t 83) (.t 82))), .w)] [])))))
   (.ops [ROp.mk (some 84) none (.p (.arith .add (.t 7) (.c (.int .i64 1)))),
    ROp.mk (some 7) none (.p (.mv (.t 84)))])))))))
 (.seq (.ops [ROp.mk (some 85) none (.d (.load 64 true (.t 3))),
  ROp.mk none none (.w (.store 64 (.t 2) (.t 85)))])
 (.ret)))))
theorem ok311 : rFun Tryz.prog an 311 = some rf311 := by kernel_rfl

def rf312 : RF := RF.mk 9 [.t 4] false (
 .seq (.ops [ROp.mk (some 4) none (.p (.mv (.c (.int .u32 0))))])
 (.seq (.ops [ROp.mk (some 5) none (.p (.mv (.t 0))),
  ROp.mk (some 6) none (.p (.mv (.t 1))),
  ROp.mk (some 7) none (.p (.un .neg (.t 6))),
  ROp.mk (some 8) none (.w (.call 344 [(.t 5), (.t 7)])),
  ROp.mk (some 4) none (.p (.mv (.t 8)))])
 (.ret)))
theorem ok312 : rFun Tryz.prog an 312 = some rf312 := by kernel_rfl

def rf343 : RF := RF.mk 148 [] false (
 .seq (.ops [ROp.mk (some 10) none (.p (.mv (.c (.bool true))))])
 (.seq (.ops [ROp.mk (some 11) none (.p (.mv (.c (.bool true))))])
 (.block 0 (.loop (.block 1 (.seq (.ops [ROp.mk (some 21) none (.p (.mv (.t 2))),
     ROp.mk (some 22) none (.p (.mv (.t 1))),
     ROp.mk (some 23) none (.p (.arith .sub (.t 21) (.t 22))),
     ROp.mk (some 12) none (.p (.mv (.t 23)))])
    (.seq (.seq (.ops [ROp.mk (some 24) none (.p (.mv (.t 12))),
     ROp.mk (some 25) none (.p (.arith .leq (.t 24) (.c (.int .i64 12))))])
    (.cond (.t 25) (.seq (.ops [ROp.mk (some 26) none (.p (.mv (.t 0))),
      ROp.mk (some 27) none (.p (.mv (.t 1))),
      ROp.mk (some 28) none (.p (.mv (.t 2))),
      ROp.mk (some 29) none (.p (.mv (.t 4))),
      ROp.mk (some 30) none (.w (.call 358 [(.t 26), (.t 27), (.t 28), (.t 29)]))])
     (.ret))
    (.skip)))
    (.seq (.seq (.ops [ROp.mk (some 31) none (.p (.mv (.t 3))),
     ROp.mk (some 32) none (.p (.arith .eql (.t 31) (.c (.int .i64 0))))])
    (.cond (.t 32) (.seq (.ops [ROp.mk (some 33) none (.p (.mv (.t 0))),
      ROp.mk (some 34) none (.p (.mv (.t 1))),
      ROp.mk (some 35) none (.p (.mv (.t 2))),
      ROp.mk (some 36) none (.p (.mv (.t 4))),
      ROp.mk (some 37) none (.w (.call 359 [(.t 33), (.t 34), (.t 35), (.t 36)]))])
     (.ret))
    (.skip)))
    (.seq (.seq (.ops [ROp.mk (some 38) none (.p (.mv (.t 10))),
     ROp.mk (some 39) none (.p (.un .not (.t 38)))])
    (.cond (.t 39) (.seq (.ops [ROp.mk (some 40) none (.p (.mv (.t 0))),
      ROp.mk (some 41) none (.p (.mv (.t 1))),
      ROp.mk (some 42) none (.p (.mv (.t 2))),
      ROp.mk (some 43) none (.p (.mv (.t 4))),
      ROp.mk (some 44) none (.w (.call 360 [(.t 40), (.t 41), (.t 42), (.t 43)]))])
     (.ops [ROp.mk (some 45) none (.p (.mv (.t 3))),
      ROp.mk (some 46) none (.p (.arith .sub (.t 45) (.c (.int .i64 1)))),
      ROp.mk (some 3) none (.p (.mv (.t 46)))]))
    (.skip)))
    (.seq (.ops [ROp.mk (some 48) none (.p (.mv (.t 0))),
     ROp.mk (some 49) none (.p (.mv (.t 1))),
     ROp.mk (some 50) none (.p (.mv (.t 2))),
     ROp.mk (some 51) none (.p (.mv (.t 4))),
     ROp.mk (some 52) none (.w (.call 361 [(.t 48), (.t 49), (.t 50), (.t 51)])),
     ROp.mk (some 47) none (.p (.mv (.t 52))),
     ROp.mk (some 53) none (.p (.ext (.t 47) 0)),
     ROp.mk (some 54) none (.p (.ext (.t 47) 1)),
     ROp.mk (some 13) none (.p (.mv (.t 53))),
     ROp.mk (some 14) none (.p (.mv (.t 54)))])
    (.seq (.seq (.ops [ROp.mk (some 55) none (.p (.mv (.t 14))),
     ROp.mk (some 56) none (.p (.arith .eql (.t 55) (.c (.int .i64 2))))])
    (.cond (.t 56) (.seq (.ops [ROp.mk (some 57) none (.p (.mv (.t 0))),
      ROp.mk (some 58) none (.p (.mv (.t 1))),
      ROp.mk (some 59) none (.p (.mv (.t 2))),
      ROp.mk (some 60) none (.p (.mv (.t 4))),
      ROp.mk (some 61) none (.w (.call 362 [(.t 57), (.t 58), (.t 59), (.t 60)]))])
     (.seq (.ops [ROp.mk (some 62) none (.p (.mv (.t 2))),
      ROp.mk (some 63) none (.p (.arith .sub (.t 62) (.c (.int .i64 1)))),
      ROp.mk (some 64) none (.p (.mv (.t 13))),
      ROp.mk (some 65) none (.p (.mv (.t 1))),
      ROp.mk (some 66) none (.p (.arith .sub (.t 64) (.t 65))),
      ROp.mk (some 67) none (.p (.arith .sub (.t 63) (.t 66))),
      ROp.mk (some 13) none (.p (.mv (.t 67)))])
     (.ops [ROp.mk (some 14) none (.p (.mv (.c (.int .i64 1))))])))
    (.skip)))
    (.seq (.seq (.ops [ROp.mk (some 68) none (.p (.mv (.t 10))),
     ROp.mk (some 69) none (.p (.mv (.t 68))),
     ROp.mk (some 70) (some (69, true)) (.p (.mv (.t 11))),
     ROp.mk (some 71) none (.p (.pick (.t 69) (.t 70) (.c (.bool false)))),
     ROp.mk (some 72) none (.p (.mv (.t 71))),
     ROp.mk (some 73) (some (72, true)) (.p (.mv (.t 14))),
     ROp.mk (some 74) (some (72, true)) (.p (.arith .eql (.t 73) (.c (.int .i64 1)))),
     ROp.mk (some 75) none (.p (.pick (.t 72) (.t 74) (.c (.bool false))))])
    (.cond (.t 75) (.seq (.ops [ROp.mk (some 76) none (.p (.mv (.t 0))),
      ROp.mk (some 77) none (.p (.mv (.t 1))),
      ROp.mk (some 78) none (.p (.mv (.t 2))),
      ROp.mk (some 79) none (.p (.mv (.t 4))),
      ROp.mk (some 80) none (.w (.call 363 [(.t 76), (.t 77), (.t 78), (.t 79)]))])
     (.cond (.t 80) (.ret)
     (.skip)))
    (.skip)))
    (.seq (.seq (.draw [(ROp.mk (some 81) none (.p (.mv (.t 1))), .p),
     (ROp.mk (some 82) none (.p (.arith .gtr (.t 81) (.c (.int .i64 0)))), .p),
     (ROp.mk (some 83) none (.p (.mv (.t 82))), .p),
     (ROp.mk (some 84) (some (83, true)) (.p (.mv (.t 4))), .p),
     (ROp.mk (some 85) (some (83, true)) (.p (.mv (.t 0))), .p),
     (ROp.mk (some 86) (some (83, true)) (.p (.mv (.t 1))), .p),
     (ROp.mk (some 87) (some (83, true)) (.p (.arith .sub (.t 86) (.c (.int .i64 1)))), .p),
     (ROp.mk (some 88) (some (83, true)) (.p (.iaL 4 (.t 85) (.t 87))), .p),
     (ROp.mk (some 89) (some (83, true)) (.d (.load 4 true (.t 88))), .r 0 0),
     (ROp.mk (some 90) (some (83, true)) (.p (.mv (.t 0))), .p),
     (ROp.mk (some 91) (some (83, true)) (.p (.mv (.t 13))), .p),
     (ROp.mk (some 92) (some (83, true)) (.p (.iaL 4 (.t 90) (.t 91))), .p),
     (ROp.mk (some 93) (some (83, true)) (.d (.load 4 true (.t 92))), .r 0 0),
     (ROp.mk (some 94) (some (83, true)) (.w (.callv (.t 84) [(.t 89), (.t 93)])), .w),
     (ROp.mk (some 95) (some (83, true)) (.p (.arith .lss (.t 94) (.c (.int .i64 0)))), .p),
     (ROp.mk (some 96) (some (83, true)) (.p (.un .not (.t 95))), .p),
     (ROp.mk (some 97) none (.p (.pick (.t 83) (.t 96) (.c (.bool false)))), .p)] [])
    (.cond (.t 97) (.seq (.ops [ROp.mk (some 98) none (.p (.mv (.t 0))),
      ROp.mk (some 99) none (.p (.mv (.t 1))),
      ROp.mk (some 100) none (.p (.mv (.t 2))),
      ROp.mk (some 101) none (.p (.mv (.t 13))),
      ROp.mk (some 102) none (.p (.mv (.t 4))),
      ROp.mk (some 103) none (.w (.call 364 [(.t 98), (.t 99), (.t 100), (.t 101), (.t 102)])),
      ROp.mk (some 15) none (.p (.mv (.t 103)))])
     (.seq (.ops [ROp.mk (some 104) none (.p (.mv (.t 15))),
      ROp.mk (some 1) none (.p (.mv (.t 104)))])
     (.exit 1)))
    (.skip)))
    (.seq (.ops [ROp.mk (some 106) none (.p (.mv (.t 0))),
     ROp.mk (some 107) none (.p (.mv (.t 1))),
     ROp.mk (some 108) none (.p (.mv (.t 2))),
     ROp.mk (some 109) none (.p (.mv (.t 13))),
     ROp.mk (some 110) none (.p (.mv (.t 4))),
     ROp.mk (some 111) none (.w (.call 365 [(.t 106), (.t 107), (.t 108), (.t 109), (.t 110)])),
     ROp.mk (some 105) none (.p (.mv (.t 111))),
     ROp.mk (some 112) none (.p (.ext (.t 105) 0)),
     ROp.mk (some 113) none (.p (.ext (.t 105) 1)),
     ROp.mk (some 16) none (.p (.mv (.t 112))),
     ROp.mk (some 17) none (.p (.mv (.t 113)))])
    (.seq (.ops [ROp.mk (some 114) none (.p (.mv (.t 17))),
     ROp.mk (some 11) none (.p (.mv (.t 114)))])
    (.seq (.ops [ROp.mk (some 115) none (.p (.mv (.t 16))),
     ROp.mk (some 116) none (.p (.mv (.t 1))),
     ROp.mk (some 117) none (.p (.arith .sub (.t 115) (.t 116))),
     ROp.mk (some 118) none (.p (.mv (.t 2))),
     ROp.mk (some 119) none (.p (.mv (.t 16))),
     ROp.mk (some 120) none (.p (.arith .sub (.t 118) (.t 119))),
     ROp.mk (some 18) none (.p (.mv (.t 117))),
     ROp.mk (some 19) none (.p (.mv (.t 120)))])
    (.seq (.ops [ROp.mk (some 121) none (.p (.mv (.t 12))),
     ROp.mk (some 122) none (.p (.arith .quo (.t 121) (.c (.int .i64 8)))),
     ROp.mk (some 20) none (.p (.mv (.t 122)))])
    (.seq (.ops [ROp.mk (some 123) none (.p (.mv (.t 18))),
     ROp.mk (some 124) none (.p (.mv (.t 19))),
     ROp.mk (some 125) none (.p (.arith .lss (.t 123) (.t 124)))])
    (.cond (.t 125) (.seq (.ops [ROp.mk (some 126) none (.p (.mv (.t 18))),
      ROp.mk (some 127) none (.p (.mv (.t 20))),
      ROp.mk (some 128) none (.p (.arith .geq (.t 126) (.t 127))),
      ROp.mk (some 10) none (.p (.mv (.t 128)))])
     (.seq (.ops [ROp.mk (some 129) none (.p (.mv (.t 0))),
      ROp.mk (some 130) none (.p (.mv (.t 1))),
      ROp.mk (some 131) none (.p (.mv (.t 16))),
      ROp.mk (some 132) none (.p (.mv (.t 3))),
      ROp.mk (some 133) none (.p (.mv (.t 4))),
      ROp.mk (some 134) none (.w (.call 343 [(.t 129), (.t 130), (.t 131), (.t 132), (.t 133)]))])
     (.ops [ROp.mk (some 135) none (.p (.mv (.t 16))),
      ROp.mk (some 136) none (.p (.arith .add (.t 135) (.c (.int .i64 1)))),
      ROp.mk (some 1) none (.p (.mv (.t 136)))])))
    (.seq (.ops [ROp.mk (some 137) none (.p (.mv (.t 19))),
      ROp.mk (some 138) none (.p (.mv (.t 20))),
      ROp.mk (some 139) none (.p (.arith .geq (.t 137) (.t 138))),
      ROp.mk (some 10) none (.p (.mv (.t 139)))])
     (.seq (.ops [ROp.mk (some 140) none (.p (.mv (.t 0))),
      ROp.mk (some 141) none (.p (.mv (.t 16))),
      ROp.mk (some 142) none (.p (.arith .add (.t 141) (.c (.int .i64 1)))),
      ROp.mk (some 143) none (.p (.mv (.t 2))),
      ROp.mk (some 144) none (.p (.mv (.t 3))),
      ROp.mk (some 145) none (.p (.mv (.t 4))),
      ROp.mk (some 146) none (.w (.call 343 [(.t 140), (.t 142), (.t 143), (.t 144), (.t 145)]))])
     (.ops [ROp.mk (some 147) none (.p (.mv (.t 16))),
      ROp.mk (some 2) none (.p (.mv (.t 147)))]))))))))))))))))))))))
theorem ok343 : rFun Tryz.prog an 343 = some rf343 := by kernel_rfl

def rf344 : RF := RF.mk 17 [.t 4] false (
 .seq (.ops [ROp.mk (some 4) none (.p (.mv (.c (.int .u32 0))))])
 (.seq (.ops [ROp.mk (some 6) none (.p (.mv (.t 1))),
  ROp.mk (some 7) none (.p (.toInt .u64 (.t 6))),
  ROp.mk (some 8) none (.p (.arith .and (.t 7) (.c (.int .u64 31)))),
  ROp.mk (some 5) none (.p (.mv (.t 8)))])
 (.seq (.ops [ROp.mk (some 9) none (.p (.mv (.t 0))),
  ROp.mk (some 10) none (.p (.mv (.t 5))),
  ROp.mk (some 11) none (.p (.arith .shl (.t 9) (.t 10))),
  ROp.mk (some 12) none (.p (.mv (.t 0))),
  ROp.mk (some 13) none (.p (.mv (.t 5))),
  ROp.mk (some 14) none (.p (.arith .sub (.c (.int .u64 32)) (.t 13))),
  ROp.mk (some 15) none (.p (.arith .shr (.t 12) (.t 14))),
  ROp.mk (some 16) none (.p (.arith .or (.t 11) (.t 15))),
  ROp.mk (some 4) none (.p (.mv (.t 16)))])
 (.ret))))
theorem ok344 : rFun Tryz.prog an 344 = some rf344 := by kernel_rfl

def rf358 : RF := RF.mk 53 [] false (
 .seq (.ops [ROp.mk (some 10) none (.p (.mv (.t 1))),
  ROp.mk (some 11) none (.p (.arith .add (.t 10) (.c (.int .i64 1)))),
  ROp.mk (some 8) none (.p (.mv (.t 11)))])
 (.block 0 (.loop (.seq (.seq (.ops [ROp.mk (some 12) none (.p (.mv (.t 8))),
    ROp.mk (some 13) none (.p (.mv (.t 2))),
    ROp.mk (some 14) none (.p (.arith .lss (.t 12) (.t 13)))])
   (.cond (.t 14) (.skip)
   (.exit 0)))
   (.seq (.block 1 (.seq (.ops [ROp.mk (some 17) none (.p (.mv (.t 8))),
     ROp.mk (some 9) none (.p (.mv (.t 17)))])
    (.block 2 (.loop (.seq (.seq (.draw [(ROp.mk (some 18) none (.p (.mv (.t 9))), .p),
       (ROp.mk (some 19) none (.p (.mv (.t 1))), .p),
       (ROp.mk (some 20) none (.p (.arith .gtr (.t 18) (.t 19))), .p),
       (ROp.mk (some 21) none (.p (.mv (.t 20))), .p),
       (ROp.mk (some 22) (some (21, true)) (.p (.mv (.t 3))), .p),
       (ROp.mk (some 23) (some (21, true)) (.p (.mv (.t 0))), .p),
       (ROp.mk (some 24) (some (21, true)) (.p (.mv (.t 9))), .p),
       (ROp.mk (some 25) (some (21, true)) (.p (.iaL 4 (.t 23) (.t 24))), .p),
       (ROp.mk (some 26) (some (21, true)) (.d (.load 4 true (.t 25))), .r 0 0),
       (ROp.mk (some 27) (some (21, true)) (.p (.mv (.t 0))), .p),
       (ROp.mk (some 28) (some (21, true)) (.p (.mv (.t 9))), .p),
       (ROp.mk (some 29) (some (21, true)) (.p (.arith .sub (.t 28) (.c (.int .i64 1)))), .p),
       (ROp.mk (some 30) (some (21, true)) (.p (.iaL 4 (.t 27) (.t 29))), .p),
       (ROp.mk (some 31) (some (21, true)) (.d (.load 4 true (.t 30))), .r 0 0),
       (ROp.mk (some 32) (some (21, true)) (.w (.callv (.t 22) [(.t 26), (.t 31)])), .w),
       (ROp.mk (some 33) (some (21, true)) (.p (.arith .lss (.t 32) (.c (.int .i64 0)))), .p),
       (ROp.mk (some 34) none (.p (.pick (.t 21) (.t 33) (.c (.bool false)))), .p)] [])
      (.cond (.t 34) (.skip)
      (.exit 2)))
      (.seq (.block 3 (.draw [(ROp.mk (some 37) none (.p (.mv (.t 0))), .p),
        (ROp.mk (some 38) none (.p (.mv (.t 9))), .p),
        (ROp.mk (some 39) none (.p (.mv (.t 0))), .p),
        (ROp.mk (some 40) none (.p (.mv (.t 9))), .p),
        (ROp.mk (some 41) none (.p (.arith .sub (.t 40) (.c (.int .i64 1)))), .p),
        (ROp.mk (some 42) none (.p (.mv (.t 0))), .p),
        (ROp.mk (some 43) none (.p (.mv (.t 9))), .p),
        (ROp.mk (some 44) none (.p (.arith .sub (.t 43) (.c (.int .i64 1)))), .p),
        (ROp.mk (some 45) none (.p (.iaL 4 (.t 42) (.t 44))), .p),
        (ROp.mk (some 46) none (.d (.load 4 true (.t 45))), .r 0 0),
        (ROp.mk (some 47) none (.p (.mv (.t 0))), .p),
        (ROp.mk (some 48) none (.p (.mv (.t 9))), .p),
        (ROp.mk (some 49) none (.p (.iaL 4 (.t 47) (.t 48))), .p),
        (ROp.mk (some 50) none (.d (.load 4 true (.t 49))), .r 0 0),
        (ROp.mk (some 51) none (.p (.iaL 4 (.t 37) (.t 38))), .p),
        (ROp.mk none none (.w (.store 4 (.t 51) (.t 46))), .w),
        (ROp.mk (some 52) none (.p (.iaL 4 (.t 39) (.t 41))), .p),
        (ROp.mk none none (.w (.store 4 (.t 52) (.t 50))), .w)] []))
      (.ops [ROp.mk (some 35) none (.p (.mv (.t 9))),
       ROp.mk (some 36) none (.p (.arith .sub (.t 35) (.c (.int .i64 1)))),
       ROp.mk (some 9) none (.p (.mv (.t 36)))])))))))
   (.ops [ROp.mk (some 15) none (.p (.mv (.t 8))),
    ROp.mk (some 16) none (.p (.arith .add (.t 15) (.c (.int .i64 1)))),
    ROp.mk (some 8) none (.p (.mv (.t 16)))]))))))
theorem ok358 : rFun Tryz.prog an 358 = some rf358 := by kernel_rfl

end Go.Proofs.YtnhbkimefglkiaaGreatDoor.HolderNone
