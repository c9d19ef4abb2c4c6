/- Printed by a program of this session (mkclaim.py): functions of the given program as code, and as threaded code. -/
import Derived.Test.YtnhbkimefglkiaaGreatDoorHolderNoneA
namespace Go.Proofs.YtnhbkimefglkiaaGreatDoor.HolderNone
open Go Go.Ai
set_option maxRecDepth 100000
set_option maxHeartbeats 0
def rf3 : RF := RF.mk 56 [.t 4] false (
 .seq (.ops [ROp.mk (some 2) none (.w (.box 16 (.t 0))),
  ROp.mk (some 4) none (.p (.mv (.c (.bool false))))])
 (.seq (.ops [ROp.mk (some 5) none (.p (.mv (.c .nilp)))])
 (.seq (.ops [ROp.mk (some 6) none (.p (.mv (.t 5))),
  ROp.mk (some 7) none (.w (.call 7 [(.t 6)]))])
 (.seq (.ops [ROp.mk (some 8) none (.p (.mv (.t 5))),
  ROp.mk (some 9) none (.w (.call 8 [(.t 8)]))])
 (.seq (.ops [ROp.mk (some 10) none (.p (.mv (.t 5))),
  ROp.mk (some 11) none (.p (.mv (.t 1))),
  ROp.mk (some 12) none (.w (.call 9 [(.t 10), (.t 11)]))])
 (.seq (.ops [ROp.mk (some 13) none (.w (.call 10 [])),
  ROp.mk (some 14) none (.p (.mv (.t 13))),
  ROp.mk (some 15) (some (14, true)) (.p (.mv (.t 5))),
  ROp.mk (some 16) (some (14, true)) (.d (.load 16 true (.t 2))),
  ROp.mk (some 17) (some (14, true)) (.w (.call 11 [(.t 15), (.t 16)])),
  ROp.mk (some 18) (some (14, true)) (.p (.lenL (.t 17))),
  ROp.mk (some 19) (some (14, true)) (.p (.arith .eql (.t 18) (.c (.int .i64 0)))),
  ROp.mk (some 20) none (.p (.pick (.t 14) (.t 19) (.c (.bool false)))),
  ROp.mk (some 21) none (.p (.mv (.t 20))),
  ROp.mk (some 22) (some (21, true)) (.p (.mv (.t 5))),
  ROp.mk (some 23) (some (21, true)) (.w (.call 12 [(.t 22)])),
  ROp.mk (some 24) (some (21, true)) (.p (.un .not (.t 23))),
  ROp.mk (some 25) none (.p (.pick (.t 21) (.t 24) (.c (.bool false)))),
  ROp.mk (some 26) none (.p (.mv (.t 25))),
  ROp.mk (some 27) (some (26, true)) (.p (.mv (.t 5))),
  ROp.mk (some 28) (some (26, true)) (.w (.call 14 [(.t 27)])),
  ROp.mk (some 29) (some (26, true)) (.p (.build [(.int .i64 0), (.int .i64 0), (.int .i64 0), .nils, (.int .i64 0), (.int .i64 0), (.int .i64 0), .nils] [])),
  ROp.mk (some 30) (some (26, true)) (.w (.call 13 [(.t 28), (.t 29)])),
  ROp.mk (some 31) none (.p (.pick (.t 26) (.t 30) (.c (.bool false)))),
  ROp.mk (some 32) none (.p (.mv (.t 31))),
  ROp.mk (some 33) (some (32, true)) (.p (.mv (.t 5))),
  ROp.mk (some 34) (some (32, true)) (.p (.fad 8 (.t 2))),
  ROp.mk (some 35) (some (32, true)) (.d (.load 1 false (.t 34))),
  ROp.mk (some 36) (some (32, true)) (.p (.mv (.t 1))),
  ROp.mk (some 37) (some (32, true)) (.w (.call 15 [(.t 33), (.t 35), (.t 36), (.c (.int .u8 1))])),
  ROp.mk (some 38) (some (32, true)) (.p (.un .not (.t 37))),
  ROp.mk (some 39) none (.p (.pick (.t 32) (.t 38) (.c (.bool false)))),
  ROp.mk (some 40) none (.p (.mv (.t 39))),
  ROp.mk (some 41) (some (40, true)) (.p (.mv (.t 5))),
  ROp.mk (some 42) (some (40, true)) (.w (.call 16 [(.t 41)])),
  ROp.mk (some 43) (some (40, true)) (.p (.lenL (.t 42))),
  ROp.mk (some 44) (some (40, true)) (.p (.arith .eql (.t 43) (.c (.int .i64 0)))),
  ROp.mk (some 45) none (.p (.pick (.t 40) (.t 44) (.c (.bool false)))),
  ROp.mk (some 46) none (.p (.mv (.t 45))),
  ROp.mk (some 47) (some (46, true)) (.p (.mv (.t 5))),
  ROp.mk (some 48) (some (46, true)) (.w (.call 17 [(.t 47)])),
  ROp.mk (some 49) (some (46, true)) (.p (.eq false .ptr (.t 48) (.c .nilp))),
  ROp.mk (some 50) none (.p (.pick (.t 46) (.t 49) (.c (.bool false)))),
  ROp.mk (some 51) none (.p (.mv (.t 50))),
  ROp.mk (some 52) (some (51, true)) (.p (.mv (.t 5))),
  ROp.mk (some 53) (some (51, true)) (.w (.call 18 [(.t 52)])),
  ROp.mk (some 54) (some (51, true)) (.p (.eq false .ptr (.t 53) (.c .nilp))),
  ROp.mk (some 55) none (.p (.pick (.t 51) (.t 54) (.c (.bool false)))),
  ROp.mk (some 4) none (.p (.mv (.t 55)))])
 (.ret)))))))
theorem ok3 : rFun Tryz.prog an 3 = some rf3 := by kernel_rfl

def rf7 : RF := RF.mk 11 [] false (
 .seq (.ops [ROp.mk (some 2) none (.p (.mv (.t 0))),
  ROp.mk (some 3) none (.p (.eq true .ptr (.t 2) (.c .nilp)))])
 (.cond (.t 3) (.ops [ROp.mk (some 4) none (.p (.mv (.t 0))),
   ROp.mk (some 5) none (.p (.mv (.t 0))),
   ROp.mk (some 6) none (.p (.build [(.int .i64 0), (.int .i64 0), (.int .i64 0), .nils, .nils, .nilm, .nilm] [])),
   ROp.mk (some 7) none (.p (.nchk (.t 4))),
   ROp.mk (some 8) none (.p (.fad 9 (.t 7))),
   ROp.mk none none (.w (.store 1 (.t 8) (.c (.bool true)))),
   ROp.mk (some 9) none (.p (.nchk (.t 5))),
   ROp.mk (some 10) none (.p (.fad 10 (.t 9))),
   ROp.mk none none (.w (.store 7 (.t 10) (.t 6)))])
 (.skip)))
theorem ok7 : rFun Tryz.prog an 7 = some rf7 := by kernel_rfl

def rf8 : RF := RF.mk 16 [] false (
 .seq (.ops [ROp.mk (some 2) none (.p (.mv (.t 0))),
  ROp.mk (some 3) none (.p (.eq true .ptr (.t 2) (.c .nilp)))])
 (.cond (.t 3) (.seq (.ops [ROp.mk (some 4) none (.p (.mv (.t 0))),
   ROp.mk (some 5) none (.p (.nchk (.t 4))),
   ROp.mk (some 6) none (.p (.fad 7 (.t 5))),
   ROp.mk (some 7) none (.d (.load 1 false (.t 6))),
   ROp.mk (some 8) none (.w (.call 35 [(.t 7)]))])
  (.ops [ROp.mk (some 9) none (.p (.mv (.t 0))),
   ROp.mk (some 10) none (.p (.mv (.t 0))),
   ROp.mk (some 11) none (.p (.build [(.int .i64 0), (.int .i64 0), (.int .i64 0), .nils, .nils, .nilm, .nilm] [])),
   ROp.mk (some 12) none (.p (.nchk (.t 9))),
   ROp.mk (some 13) none (.p (.fad 9 (.t 12))),
   ROp.mk none none (.w (.store 1 (.t 13) (.c (.bool false)))),
   ROp.mk (some 14) none (.p (.nchk (.t 10))),
   ROp.mk (some 15) none (.p (.fad 10 (.t 14))),
   ROp.mk none none (.w (.store 7 (.t 15) (.t 11)))]))
 (.skip)))
theorem ok8 : rFun Tryz.prog an 8 = some rf8 := by kernel_rfl

def rf9 : RF := RF.mk 12 [] false (
 .seq (.ops [ROp.mk (some 4) none (.p (.mv (.t 0))),
  ROp.mk (some 5) none (.p (.eq true .ptr (.t 4) (.c .nilp)))])
 (.cond (.t 5) (.ops [ROp.mk (some 6) none (.p (.mv (.t 0))),
   ROp.mk (some 7) none (.p (.nchk (.t 6))),
   ROp.mk (some 8) none (.p (.fad 7 (.t 7))),
   ROp.mk (some 9) none (.d (.load 1 false (.t 8))),
   ROp.mk (some 10) none (.p (.mv (.t 1))),
   ROp.mk (some 11) none (.w (.call 36 [(.t 9), (.t 10)]))])
 (.skip)))
theorem ok9 : rFun Tryz.prog an 9 = some rf9 := by kernel_rfl

def rf10 : RF := RF.mk 61 [.t 0] false (
 .seq (.ops [ROp.mk (some 0) none (.p (.mv (.c (.bool false))))])
 (.seq (.ops [ROp.mk (some 5) none (.p (.build [(.int .i64 0), (.int .i64 0), (.int .i64 0), (.int .i64 0), (.int .i64 0)] [(0, 1, (.c (.int .i64 3))), (1, 1, (.c (.int .i64 1))), (2, 1, (.c (.int .i64 1))), (4, 1, (.c (.int .i64 50)))])),
  ROp.mk (some 6) none (.w (.call 37 [(.t 5), (.c (.int .i64 1))])),
  ROp.mk (some 1) none (.p (.mv (.t 6)))])
 (.seq (.ops [ROp.mk (some 7) none (.p (.mv (.t 1))),
  ROp.mk (some 8) none (.p (.mkl [(.int .u8 0)] 1 1 [(0, 1, (.c (.int .u8 7)))])),
  ROp.mk (some 9) none (.p (.build [(.int .i64 0), (.int .i64 0), (.int .i64 0), (.int .i64 0), (.int .i64 0), (.int .i64 0), (.int .i64 0), .nils, (.str []), (.int .i64 0), (.int .i64 0), (.int .i64 0), .nils, .nils, (.int .i64 0), .nils] [(0, 1, (.c (.int .i64 1))), (2, 1, (.c (.int .i64 1))), (3, 1, (.c (.int .i64 4))), (8, 1, (.c (.str [97]))), (9, 1, (.c (.int .i64 1))), (15, 1, (.t 8))])),
  ROp.mk (some 10) none (.w (.call 11 [(.t 7), (.t 9)])),
  ROp.mk (some 2) none (.p (.mv (.t 10)))])
 (.seq (.ops [ROp.mk (some 11) none (.p (.mv (.t 1))),
  ROp.mk (some 12) none (.p (.build [(.str []), (.int .i64 0)] [(0, 1, (.c (.str [97]))), (1, 1, (.c (.int .i64 1)))])),
  ROp.mk (some 13) none (.p (.mkl [(.str []), (.int .i64 0)] 1 2 [(0, 2, (.t 12))])),
  ROp.mk (some 14) none (.p (.build [(.int .i64 0), (.int .i64 0), (.int .i64 0), (.int .i64 0), (.int .i64 0), (.int .i64 0), (.int .i64 0), .nils, (.str []), (.int .i64 0), (.int .i64 0), (.int .i64 0), .nils, .nils, (.int .i64 0), .nils] [(0, 1, (.c (.int .i64 5))), (2, 1, (.c (.int .i64 1))), (3, 1, (.c (.int .i64 5))), (4, 1, (.c (.int .i64 4))), (5, 1, (.c (.int .i64 4))), (7, 1, (.t 13))])),
  ROp.mk (some 15) none (.w (.call 11 [(.t 11), (.t 14)])),
  ROp.mk (some 3) none (.p (.mv (.t 15)))])
 (.seq (.ops [ROp.mk (some 16) none (.p (.mv (.t 1))),
  ROp.mk (some 17) none (.w (.call 14 [(.t 16)])),
  ROp.mk (some 4) none (.w (.alloc [(.int .i64 0), (.int .i64 0), (.int .i64 0), .nils, (.int .i64 0), (.int .i64 0), (.int .i64 0), .nils])),
  ROp.mk none none (.w (.store 8 (.t 4) (.t 17)))])
 (.seq (.ops [ROp.mk (some 18) none (.p (.mv (.t 2))),
  ROp.mk (some 19) none (.p (.lenL (.t 18))),
  ROp.mk (some 20) none (.p (.arith .eql (.t 19) (.c (.int .i64 1)))),
  ROp.mk (some 21) none (.p (.mv (.t 20))),
  ROp.mk (some 22) (some (21, true)) (.p (.mv (.t 2))),
  ROp.mk (some 23) (some (21, true)) (.p (.iaL 16 (.t 22) (.c (.int .i64 0)))),
  ROp.mk (some 24) (some (21, true)) (.p (.fad 0 (.t 23))),
  ROp.mk (some 25) (some (21, true)) (.d (.load 1 false (.t 24))),
  ROp.mk (some 26) (some (21, true)) (.p (.arith .eql (.t 25) (.c (.int .i64 2)))),
  ROp.mk (some 27) none (.p (.pick (.t 21) (.t 26) (.c (.bool false)))),
  ROp.mk (some 28) none (.p (.mv (.t 27))),
  ROp.mk (some 29) (some (28, true)) (.p (.mv (.t 3))),
  ROp.mk (some 30) (some (28, true)) (.p (.lenL (.t 29))),
  ROp.mk (some 31) (some (28, true)) (.p (.arith .eql (.t 30) (.c (.int .i64 1)))),
  ROp.mk (some 32) none (.p (.pick (.t 28) (.t 31) (.c (.bool false)))),
  ROp.mk (some 33) none (.p (.mv (.t 32))),
  ROp.mk (some 34) (some (33, true)) (.p (.mv (.t 3))),
  ROp.mk (some 35) (some (33, true)) (.p (.iaL 16 (.t 34) (.c (.int .i64 0)))),
  ROp.mk (some 36) (some (33, true)) (.p (.fad 0 (.t 35))),
  ROp.mk (some 37) (some (33, true)) (.d (.load 1 false (.t 36))),
  ROp.mk (some 38) (some (33, true)) (.p (.arith .eql (.t 37) (.c (.int .i64 6)))),
  ROp.mk (some 39) none (.p (.pick (.t 33) (.t 38) (.c (.bool false)))),
  ROp.mk (some 40) none (.p (.mv (.t 39))),
  ROp.mk (some 41) (some (40, true)) (.p (.fad 3 (.t 4))),
  ROp.mk (some 42) (some (40, true)) (.d (.load 1 false (.t 41))),
  ROp.mk (some 43) (some (40, true)) (.p (.lenL (.t 42))),
  ROp.mk (some 44) (some (40, true)) (.p (.arith .eql (.t 43) (.c (.int .i64 1)))),
  ROp.mk (some 45) none (.p (.pick (.t 40) (.t 44) (.c (.bool false)))),
  ROp.mk (some 46) none (.p (.mv (.t 45))),
  ROp.mk (some 47) (some (46, true)) (.p (.fad 3 (.t 4))),
  ROp.mk (some 48) (some (46, true)) (.d (.load 1 false (.t 47))),
  ROp.mk (some 49) (some (46, true)) (.p (.iaL 4 (.t 48) (.c (.int .i64 0)))),
  ROp.mk (some 50) (some (46, true)) (.p (.fad 2 (.t 49))),
  ROp.mk (some 51) (some (46, true)) (.d (.load 1 false (.t 50))),
  ROp.mk (some 52) (some (46, true)) (.d (.b2s (.t 51))),
  ROp.mk (some 53) (some (46, true)) (.p (.arith .eql (.t 52) (.c (.str [7])))),
  ROp.mk (some 54) none (.p (.pick (.t 46) (.t 53) (.c (.bool false)))),
  ROp.mk (some 55) none (.p (.mv (.t 54))),
  ROp.mk (some 56) (some (55, true)) (.p (.mv (.t 1))),
  ROp.mk (some 57) (some (55, true)) (.w (.call 16 [(.t 56)])),
  ROp.mk (some 58) (some (55, true)) (.p (.lenL (.t 57))),
  ROp.mk (some 59) (some (55, true)) (.p (.arith .eql (.t 58) (.c (.int .i64 0)))),
  ROp.mk (some 60) none (.p (.pick (.t 55) (.t 59) (.c (.bool false)))),
  ROp.mk (some 0) none (.p (.mv (.t 60)))])
 (.ret)))))))
theorem ok10 : rFun Tryz.prog an 10 = some rf10 := by kernel_rfl

def rf11 : RF := RF.mk 52 [.t 4] false (
 .seq (.ops [ROp.mk (some 3) none (.w (.box 16 (.t 1))),
  ROp.mk (some 4) none (.p (.mv (.c .nils)))])
 (.seq (.seq (.draw [(ROp.mk (some 5) none (.p (.mv (.t 0))), .p),
  (ROp.mk (some 6) none (.p (.eq false .ptr (.t 5) (.c .nilp))), .p),
  (ROp.mk (some 7) none (.p (.mv (.t 6))), .p),
  (ROp.mk (some 8) (some (7, false)) (.p (.mv (.t 0))), .p),
  (ROp.mk (some 9) (some (7, false)) (.w (.call 12 [(.t 8)])), .w),
  (ROp.mk (some 10) none (.p (.pick (.t 7) (.c (.bool true)) (.t 9))), .p),
  (ROp.mk (some 11) none (.p (.mv (.t 10))), .p),
  (ROp.mk (some 12) (some (11, false)) (.p (.fad 2 (.t 3))), .p),
  (ROp.mk (some 13) (some (11, false)) (.d (.load 1 false (.t 12))), .r 1 1),
  (ROp.mk (some 14) (some (11, false)) (.p (.mv (.t 0))), .p),
  (ROp.mk (some 15) (some (11, false)) (.p (.nchk (.t 14))), .p),
  (ROp.mk (some 16) (some (11, false)) (.p (.fad 5 (.t 15))), .p),
  (ROp.mk (some 17) (some (11, false)) (.d (.load 1 false (.t 16))), .r 1 1),
  (ROp.mk (some 18) (some (11, false)) (.p (.arith .neq (.t 13) (.t 17))), .p),
  (ROp.mk (some 19) none (.p (.pick (.t 11) (.c (.bool true)) (.t 18))), .p)] [])
 (.cond (.t 19) (.seq (.ops [ROp.mk (some 4) none (.p (.mv (.c .nils)))])
  (.ret))
 (.skip)))
 (.seq (.seq (.ops [ROp.mk (some 20) none (.p (.fad 0 (.t 3))),
  ROp.mk (some 21) none (.d (.load 1 false (.t 20)))])
 (.block 0 (.seq (.ops [ROp.mk (some 23) none (.p (.arith .eql (.t 21) (.c (.int .i64 1)))),
   ROp.mk (some 22) none (.p (.mv (.t 23)))])
  (.cond (.t 22) (.seq (.ops [ROp.mk (some 24) none (.p (.mv (.t 0))),
    ROp.mk (some 25) none (.d (.load 16 true (.t 3))),
    ROp.mk (some 26) none (.w (.call 38 [(.t 24), (.t 25)])),
    ROp.mk (some 4) none (.p (.mv (.t 26)))])
   (.ret))
  (.seq (.ops [ROp.mk (some 28) none (.p (.arith .eql (.t 21) (.c (.int .i64 3)))),
    ROp.mk (some 27) none (.p (.mv (.t 28)))])
   (.cond (.t 27) (.seq (.ops [ROp.mk (some 29) none (.p (.mv (.t 0))),
     ROp.mk (some 30) none (.d (.load 16 true (.t 3))),
     ROp.mk (some 31) none (.w (.call 39 [(.t 29), (.t 30)])),
     ROp.mk (some 4) none (.p (.mv (.t 31)))])
    (.ret))
   (.seq (.ops [ROp.mk (some 33) none (.p (.arith .eql (.t 21) (.c (.int .i64 5)))),
     ROp.mk (some 32) none (.p (.mv (.t 33)))])
    (.cond (.t 32) (.seq (.ops [ROp.mk (some 34) none (.p (.mv (.t 0))),
      ROp.mk (some 35) none (.d (.load 16 true (.t 3))),
      ROp.mk (some 36) none (.w (.call 40 [(.t 34), (.t 35)])),
      ROp.mk (some 4) none (.p (.mv (.t 36)))])
     (.ret))
    (.seq (.ops [ROp.mk (some 38) none (.p (.arith .eql (.t 21) (.c (.int .i64 7)))),
      ROp.mk (some 37) none (.p (.mv (.t 38)))])
     (.cond (.t 37) (.seq (.ops [ROp.mk (some 39) none (.p (.mv (.t 0))),
       ROp.mk (some 40) none (.d (.load 16 true (.t 3))),
       ROp.mk (some 41) none (.w (.call 41 [(.t 39), (.t 40)])),
       ROp.mk (some 4) none (.p (.mv (.t 41)))])
      (.ret))
     (.seq (.ops [ROp.mk (some 43) none (.p (.arith .eql (.t 21) (.c (.int .i64 8)))),
       ROp.mk (some 42) none (.p (.mv (.t 43)))])
      (.cond (.t 42) (.seq (.ops [ROp.mk (some 44) none (.p (.mv (.t 0))),
        ROp.mk (some 45) none (.d (.load 16 true (.t 3))),
        ROp.mk (some 46) none (.w (.call 42 [(.t 44), (.t 45)])),
        ROp.mk (some 4) none (.p (.mv (.t 46)))])
       (.ret))
      (.seq (.ops [ROp.mk (some 48) none (.p (.arith .eql (.t 21) (.c (.int .i64 10)))),
        ROp.mk (some 47) none (.p (.mv (.t 48)))])
       (.cond (.t 47) (.seq (.ops [ROp.mk (some 49) none (.p (.mv (.t 0))),
         ROp.mk (some 50) none (.d (.load 16 true (.t 3))),
         ROp.mk (some 51) none (.w (.call 43 [(.t 49), (.t 50)])),
         ROp.mk (some 4) none (.p (.mv (.t 51)))])
        (.ret))
       (.skip)))))))))))))))
 (.seq (.ops [ROp.mk (some 4) none (.p (.mv (.c .nils)))])
 (.ret)))))
theorem ok11 : rFun Tryz.prog an 11 = some rf11 := by kernel_rfl

def rf12 : RF := RF.mk 18 [.t 2] false (
 .seq (.ops [ROp.mk (some 2) none (.p (.mv (.c (.bool false))))])
 (.seq (.ops [ROp.mk (some 3) none (.p (.mv (.t 0))),
  ROp.mk (some 4) none (.p (.eq true .ptr (.t 3) (.c .nilp))),
  ROp.mk (some 5) none (.p (.mv (.t 4))),
  ROp.mk (some 6) (some (5, true)) (.p (.mv (.t 0))),
  ROp.mk (some 7) (some (5, true)) (.p (.nchk (.t 6))),
  ROp.mk (some 8) (some (5, true)) (.p (.fad 9 (.t 7))),
  ROp.mk (some 9) (some (5, true)) (.d (.load 1 false (.t 8))),
  ROp.mk (some 10) (some (5, true)) (.p (.mv (.t 9))),
  ROp.mk (some 11) (some (10, false)) (.p (.mv (.t 0))),
  ROp.mk (some 12) (some (10, false)) (.p (.nchk (.t 11))),
  ROp.mk (some 13) (some (10, false)) (.p (.fad 7 (.t 12))),
  ROp.mk (some 14) (some (10, false)) (.d (.load 1 false (.t 13))),
  ROp.mk (some 15) (some (10, false)) (.w (.call 44 [(.t 14)])),
  ROp.mk (some 16) (some (5, true)) (.p (.pick (.t 10) (.c (.bool true)) (.t 15))),
  ROp.mk (some 17) none (.p (.pick (.t 5) (.t 16) (.c (.bool false)))),
  ROp.mk (some 2) none (.p (.mv (.t 17)))])
 (.ret)))
theorem ok12 : rFun Tryz.prog an 12 = some rf12 := by kernel_rfl

def rf13 : RF := RF.mk 24 [.t 4] false (
 .seq (.ops [ROp.mk (some 2) none (.w (.box 8 (.t 0))),
  ROp.mk (some 3) none (.w (.box 8 (.t 1))),
  ROp.mk (some 4) none (.p (.mv (.c (.bool false))))])
 (.seq (.ops [ROp.mk (some 10) none (.d (.load 8 true (.t 2))),
  ROp.mk (some 11) none (.w (.call 45 [(.t 10)])),
  ROp.mk (some 9) none (.p (.mv (.t 11))),
  ROp.mk (some 12) none (.p (.ext (.t 9) 0)),
  ROp.mk (some 13) none (.p (.ext (.t 9) 1)),
  ROp.mk (some 5) none (.p (.mv (.t 12))),
  ROp.mk (some 6) none (.p (.mv (.t 13)))])
 (.seq (.ops [ROp.mk (some 15) none (.d (.load 8 true (.t 3))),
  ROp.mk (some 16) none (.w (.call 45 [(.t 15)])),
  ROp.mk (some 14) none (.p (.mv (.t 16))),
  ROp.mk (some 17) none (.p (.ext (.t 14) 0)),
  ROp.mk (some 18) none (.p (.ext (.t 14) 1)),
  ROp.mk (some 7) none (.p (.mv (.t 17))),
  ROp.mk (some 8) none (.p (.mv (.t 18)))])
 (.seq (.ops [ROp.mk (some 19) none (.p (.mv (.t 5))),
  ROp.mk (some 20) none (.d (.b2s (.t 19))),
  ROp.mk (some 21) none (.p (.mv (.t 7))),
  ROp.mk (some 22) none (.d (.b2s (.t 21))),
  ROp.mk (some 23) none (.p (.arith .eql (.t 20) (.t 22))),
  ROp.mk (some 4) none (.p (.mv (.t 23)))])
 (.ret)))))
theorem ok13 : rFun Tryz.prog an 13 = some rf13 := by kernel_rfl

def rf14 : RF := RF.mk 18 [.cell 2 8 true] false (
 .seq (.ops [ROp.mk (some 2) none (.w (.alloc [(.int .i64 0), (.int .i64 0), (.int .i64 0), .nils, (.int .i64 0), (.int .i64 0), (.int .i64 0), .nils]))])
 (.seq (.seq (.ops [ROp.mk (some 5) none (.p (.mv (.t 0))),
  ROp.mk (some 6) none (.p (.eq false .ptr (.t 5) (.c .nilp)))])
 (.cond (.t 6) (.seq (.ops [ROp.mk (some 7) none (.p (.build [(.int .i64 0), (.int .i64 0), (.int .i64 0), .nils, (.int .i64 0), (.int .i64 0), (.int .i64 0), .nils] [])),
   ROp.mk none none (.w (.store 8 (.t 2) (.t 7)))])
  (.ret))
 (.skip)))
 (.seq (.ops [ROp.mk (some 9) none (.p (.mv (.t 0))),
  ROp.mk (some 10) none (.p (.nchk (.t 9))),
  ROp.mk (some 11) none (.p (.fad 7 (.t 10))),
  ROp.mk (some 12) none (.d (.load 1 false (.t 11))),
  ROp.mk (some 13) none (.w (.call 47 [(.t 12)])),
  ROp.mk (some 14) none (.w (.call 46 [(.t 13)])),
  ROp.mk (some 8) none (.p (.mv (.t 14))),
  ROp.mk (some 15) none (.p (.ext (.t 8) 0)),
  ROp.mk (some 16) none (.p (.ext (.t 8) 1)),
  ROp.mk (some 3) none (.w (.alloc [(.int .i64 0), (.int .i64 0), (.int .i64 0), .nils, (.int .i64 0), (.int .i64 0), (.int .i64 0), .nils])),
  ROp.mk none none (.w (.store 8 (.t 3) (.t 15))),
  ROp.mk (some 4) none (.p (.mv (.t 16)))])
 (.seq (.ops [ROp.mk (some 17) none (.d (.load 8 true (.t 3))),
  ROp.mk none none (.w (.store 8 (.t 2) (.t 17)))])
 (.ret)))))
theorem ok14 : rFun Tryz.prog an 14 = some rf14 := by kernel_rfl

def rf15 : RF := RF.mk 31 [.t 8] false (
 .seq (.ops [ROp.mk (some 8) none (.p (.mv (.c (.bool false))))])
 (.seq (.seq (.ops [ROp.mk (some 11) none (.p (.mv (.t 0))),
  ROp.mk (some 12) none (.p (.eq false .ptr (.t 11) (.c .nilp)))])
 (.cond (.t 12) (.seq (.ops [ROp.mk (some 8) none (.p (.mv (.c (.bool false))))])
  (.ret))
 (.skip)))
 (.seq (.ops [ROp.mk (some 14) none (.p (.mv (.t 0))),
  ROp.mk (some 15) none (.w (.call 14 [(.t 14)])),
  ROp.mk (some 16) none (.p (.mv (.t 1))),
  ROp.mk (some 17) none (.p (.mv (.t 2))),
  ROp.mk (some 18) none (.w (.call 48 [(.t 15), (.t 16), (.t 17)])),
  ROp.mk (some 13) none (.p (.mv (.t 18))),
  ROp.mk (some 19) none (.p (.ext (.t 13) 0)),
  ROp.mk (some 20) none (.p (.ext (.t 13) 1)),
  ROp.mk (some 9) none (.p (.mv (.t 19))),
  ROp.mk (some 10) none (.p (.mv (.t 20)))])
 (.seq (.ops [ROp.mk (some 21) none (.p (.mv (.t 10))),
  ROp.mk (some 22) none (.p (.mv (.t 21))),
  ROp.mk (some 23) (some (22, true)) (.p (.mv (.t 0))),
  ROp.mk (some 24) (some (22, true)) (.p (.nchk (.t 23))),
  ROp.mk (some 25) (some (22, true)) (.p (.fad 7 (.t 24))),
  ROp.mk (some 26) (some (22, true)) (.d (.load 1 false (.t 25))),
  ROp.mk (some 27) (some (22, true)) (.p (.mv (.t 9))),
  ROp.mk (some 28) (some (22, true)) (.p (.mv (.t 3))),
  ROp.mk (some 29) (some (22, true)) (.w (.call 49 [(.t 26), (.t 27), (.t 28)])),
  ROp.mk (some 30) none (.p (.pick (.t 22) (.t 29) (.c (.bool false)))),
  ROp.mk (some 8) none (.p (.mv (.t 30)))])
 (.ret)))))
theorem ok15 : rFun Tryz.prog an 15 = some rf15 := by kernel_rfl

def rf16 : RF := RF.mk 35 [.t 2] false (
 .seq (.ops [ROp.mk (some 2) none (.p (.mv (.c .nils)))])
 (.seq (.ops [ROp.mk (some 3) none (.p (.mv (.c .nils)))])
 (.seq (.ops [ROp.mk (some 7) none (.p (.mv (.t 0))),
  ROp.mk (some 8) none (.w (.call 14 [(.t 7)])),
  ROp.mk (some 4) none (.w (.alloc [(.int .i64 0), (.int .i64 0), (.int .i64 0), .nils, (.int .i64 0), (.int .i64 0), (.int .i64 0), .nils])),
  ROp.mk none none (.w (.store 8 (.t 4) (.t 8)))])
 (.seq (.seq (.ops [ROp.mk (some 9) none (.p (.fad 3 (.t 4))),
  ROp.mk (some 10) none (.d (.load 1 false (.t 9))),
  ROp.mk (some 11) none (.p (.lenL (.t 10))),
  ROp.mk (some 12) none (.p (.mv (.c (.int .i64 0))))])
 (.block 0 (.loop (.seq (.ops [ROp.mk (some 13) none (.p (.arith .lss (.t 12) (.t 11)))])
   (.seq (.cond (.t 13) (.skip)
   (.exit 0))
   (.seq (.block 1 (.seq (.ops [ROp.mk (some 14) none (.p (.iaL 4 (.t 10) (.t 12))),
     ROp.mk (some 15) none (.d (.load 4 true (.t 14))),
     ROp.mk (some 6) none (.w (.alloc [(.str []), (.int .i64 0), .nils, .nils])),
     ROp.mk none none (.w (.store 4 (.t 6) (.t 15)))])
    (.seq (.draw [(ROp.mk (some 16) none (.p (.fad 3 (.t 6))), .p),
     (ROp.mk (some 17) none (.d (.load 1 false (.t 16))), .r 0 1),
     (ROp.mk (some 18) none (.p (.mv (.t 0))), .p),
     (ROp.mk (some 19) none (.p (.nchk (.t 18))), .p),
     (ROp.mk (some 20) none (.p (.fad 5 (.t 19))), .p),
     (ROp.mk (some 21) none (.d (.load 1 false (.t 20))), .r 0 0),
     (ROp.mk (some 22) none (.p (.fad 0 (.t 4))), .p),
     (ROp.mk (some 23) none (.d (.load 1 false (.t 22))), .r 0 0),
     (ROp.mk (some 24) none (.d (.load 4 true (.t 6))), .r 0 0),
     (ROp.mk (some 25) none (.w (.call 51 [(.t 21), (.t 23), (.t 24)])), .w),
     (ROp.mk (some 26) none (.w (.call 50 [(.t 17), (.t 25)])), .w),
     (ROp.mk (some 27) none (.p (.un .not (.t 26))), .p)] [])
    (.cond (.t 27) (.ops [ROp.mk (some 28) none (.p (.mv (.t 3))),
      ROp.mk (some 29) none (.p (.fad 0 (.t 6))),
      ROp.mk (some 30) none (.d (.load 1 false (.t 29))),
      ROp.mk (some 31) none (.p (.mkl [(.str [])] 1 1 [(0, 1, (.t 30))])),
      ROp.mk (some 32) none (.w (.app 1 16 (.t 28) (.t 31))),
      ROp.mk (some 3) none (.p (.mv (.t 32)))])
    (.skip)))))
   (.ops [ROp.mk (some 33) none (.p (.arith .add (.t 12) (.c (.int .i64 1)))),
    ROp.mk (some 12) none (.p (.mv (.t 33)))])))))))
 (.seq (.ops [ROp.mk (some 34) none (.p (.mv (.t 3))),
  ROp.mk (some 2) none (.p (.mv (.t 34)))])
 (.ret))))))
theorem ok16 : rFun Tryz.prog an 16 = some rf16 := by kernel_rfl

def rf17 : RF := RF.mk 9 [.t 2] false (
 .seq (.ops [ROp.mk (some 2) none (.p (.mv (.c .nilp)))])
 (.seq (.seq (.ops [ROp.mk (some 3) none (.p (.mv (.t 0))),
  ROp.mk (some 4) none (.p (.eq false .ptr (.t 3) (.c .nilp)))])
 (.cond (.t 4) (.seq (.ops [ROp.mk (some 2) none (.p (.mv (.c .nilp)))])
  (.ret))
 (.skip)))
 (.seq (.ops [ROp.mk (some 5) none (.p (.mv (.t 0))),
  ROp.mk (some 6) none (.p (.nchk (.t 5))),
  ROp.mk (some 7) none (.p (.fad 8 (.t 6))),
  ROp.mk (some 8) none (.d (.load 1 false (.t 7))),
  ROp.mk (some 2) none (.p (.mv (.t 8)))])
 (.ret))))
theorem ok17 : rFun Tryz.prog an 17 = some rf17 := by kernel_rfl

def rf18 : RF := RF.mk 9 [.t 2] false (
 .seq (.ops [ROp.mk (some 2) none (.p (.mv (.c .nilp)))])
 (.seq (.seq (.ops [ROp.mk (some 3) none (.p (.mv (.t 0))),
  ROp.mk (some 4) none (.p (.eq false .ptr (.t 3) (.c .nilp)))])
 (.cond (.t 4) (.seq (.ops [ROp.mk (some 2) none (.p (.mv (.c .nilp)))])
  (.ret))
 (.skip)))
 (.seq (.ops [ROp.mk (some 5) none (.p (.mv (.t 0))),
  ROp.mk (some 6) none (.p (.nchk (.t 5))),
  ROp.mk (some 7) none (.p (.fad 7 (.t 6))),
  ROp.mk (some 8) none (.d (.load 1 false (.t 7))),
  ROp.mk (some 2) none (.p (.mv (.t 8)))])
 (.ret))))
theorem ok18 : rFun Tryz.prog an 18 = some rf18 := by kernel_rfl

def rf37 : RF := RF.mk 14 [.t 4] false (
 .seq (.ops [ROp.mk (some 2) none (.w (.box 5 (.t 0))),
  ROp.mk (some 4) none (.p (.mv (.c .nilp)))])
 (.seq (.draw [(ROp.mk (some 5) none (.d (.load 5 true (.t 2))), .r 0 3),
  (ROp.mk (some 6) none (.p (.mv (.t 1))), .p),
  (ROp.mk (some 7) none (.w (.call 74 [])), .w),
  (ROp.mk (some 8) none (.p (.fad 4 (.t 2))), .p),
  (ROp.mk (some 9) none (.d (.load 1 false (.t 8))), .r 0 1),
  (ROp.mk (some 10) none (.w (.call 83 [(.t 9)])), .w),
  (ROp.mk (some 11) none (.w (.call 84 [])), .w),
  (ROp.mk (some 12) none (.p (.build [(.int .i64 0), (.int .i64 0), (.int .i64 0), (.int .i64 0), (.int .i64 0), (.int .i64 0), .nilp, .nilp, .nilp, (.bool false), (.int .i64 0), (.int .i64 0), (.int .i64 0), .nils, .nils, .nilm, .nilm] [(0, 5, (.t 5)), (5, 1, (.t 6)), (6, 1, (.t 7)), (7, 1, (.t 10)), (8, 1, (.t 11))])), .p),
  (ROp.mk (some 13) none (.w (.box 17 (.t 12))), .w),
  (ROp.mk (some 4) none (.p (.mv (.t 13))), .p)] [])
 (.ret)))
theorem ok37 : rFun Tryz.prog an 37 = some rf37 := by kernel_rfl

def rf38 : RF := RF.mk 82 [.t 4] false (
 .seq (.ops [ROp.mk (some 3) none (.w (.box 16 (.t 1))),
  ROp.mk (some 4) none (.p (.mv (.c .nils)))])
 (.seq (.ops [ROp.mk (some 9) none (.p (.mv (.t 0))),
  ROp.mk (some 10) none (.d (.load 16 true (.t 3))),
  ROp.mk (some 11) none (.w (.call 85 [(.t 9), (.t 10)])),
  ROp.mk (some 8) none (.p (.mv (.t 11))),
  ROp.mk (some 12) none (.p (.ext (.t 8) 0)),
  ROp.mk (some 13) none (.p (.ext (.t 8) 1)),
  ROp.mk (some 5) none (.w (.alloc [(.int .i64 0), (.int .i64 0), (.int .i64 0), .nils, (.int .i64 0), (.int .i64 0), (.int .i64 0), .nils])),
  ROp.mk none none (.w (.store 8 (.t 5) (.t 12))),
  ROp.mk (some 6) none (.p (.mv (.t 13)))])
 (.seq (.seq (.draw [(ROp.mk (some 14) none (.p (.mv (.t 6))), .p),
  (ROp.mk (some 15) none (.p (.un .not (.t 14))), .p),
  (ROp.mk (some 16) none (.p (.mv (.t 15))), .p),
  (ROp.mk (some 17) (some (16, false)) (.p (.fad 3 (.t 3))), .p),
  (ROp.mk (some 18) (some (16, false)) (.d (.load 1 false (.t 17))), .r 0 0),
  (ROp.mk (some 19) (some (16, false)) (.p (.arith .lss (.t 18) (.c (.int .i64 1)))), .p),
  (ROp.mk (some 20) none (.p (.pick (.t 16) (.c (.bool true)) (.t 19))), .p),
  (ROp.mk (some 21) none (.p (.mv (.t 20))), .p),
  (ROp.mk (some 22) (some (21, false)) (.p (.fad 6 (.t 3))), .p),
  (ROp.mk (some 23) (some (21, false)) (.d (.load 1 false (.t 22))), .r 0 0),
  (ROp.mk (some 24) (some (21, false)) (.p (.fad 0 (.t 5))), .p),
  (ROp.mk (some 25) (some (21, false)) (.d (.load 1 false (.t 24))), .r 0 0),
  (ROp.mk (some 26) (some (21, false)) (.p (.arith .neq (.t 23) (.t 25))), .p),
  (ROp.mk (some 27) none (.p (.pick (.t 21) (.c (.bool true)) (.t 26))), .p),
  (ROp.mk (some 28) none (.p (.mv (.t 27))), .p),
  (ROp.mk (some 29) (some (28, false)) (.p (.fad 9 (.t 3))), .p),
  (ROp.mk (some 30) (some (28, false)) (.d (.load 1 false (.t 29))), .r 0 0),
  (ROp.mk (some 31) (some (28, false)) (.w (.call 86 [(.t 30)])), .w),
  (ROp.mk (some 32) (some (28, false)) (.p (.un .not (.t 31))), .p),
  (ROp.mk (some 33) none (.p (.pick (.t 28) (.c (.bool true)) (.t 32))), .p),
  (ROp.mk (some 34) none (.p (.mv (.t 33))), .p),
  (ROp.mk (some 35) (some (34, false)) (.p (.fad 15 (.t 3))), .p),
  (ROp.mk (some 36) (some (34, false)) (.d (.load 1 false (.t 35))), .r 1 2),
  (ROp.mk (some 37) (some (34, false)) (.p (.lenL (.t 36))), .p),
  (ROp.mk (some 38) (some (34, false)) (.p (.fad 9 (.t 3))), .p),
  (ROp.mk (some 39) (some (34, false)) (.d (.load 1 false (.t 38))), .r 1 1),
  (ROp.mk (some 40) (some (34, false)) (.p (.mv (.t 0))), .p),
  (ROp.mk (some 41) (some (34, false)) (.p (.nchk (.t 40))), .p),
  (ROp.mk (some 42) (some (34, false)) (.p (.fad 0 (.t 41))), .p),
  (ROp.mk (some 43) (some (34, false)) (.p (.fad 2 (.t 42))), .p),
  (ROp.mk (some 44) (some (34, false)) (.d (.load 1 false (.t 43))), .r 1 1),
  (ROp.mk (some 45) (some (34, false)) (.w (.call 72 [(.t 39), (.t 44)])), .w),
  (ROp.mk (some 46) (some (34, false)) (.p (.arith .neq (.t 37) (.t 45))), .p),
  (ROp.mk (some 47) none (.p (.pick (.t 34) (.c (.bool true)) (.t 46))), .p),
  (ROp.mk (some 48) none (.p (.mv (.t 47))), .p),
  (ROp.mk (some 49) (some (48, false)) (.p (.fad 4 (.t 5))), .p),
  (ROp.mk (some 50) (some (48, false)) (.p (.fad 0 (.t 49))), .p),
  (ROp.mk (some 51) (some (48, false)) (.d (.load 1 false (.t 50))), .r 2 2),
  (ROp.mk (some 52) (some (48, false)) (.p (.fad 3 (.t 3))), .p),
  (ROp.mk (some 53) (some (48, false)) (.d (.load 1 false (.t 52))), .r 2 2),
  (ROp.mk (some 54) (some (48, false)) (.p (.arith .gtr (.t 51) (.t 53))), .p),
  (ROp.mk (some 55) none (.p (.pick (.t 48) (.c (.bool true)) (.t 54))), .p)] [])
 (.cond (.t 55) (.seq (.ops [ROp.mk (some 4) none (.p (.mv (.c .nils)))])
  (.ret))
 (.skip)))
 (.seq (.seq (.ops [ROp.mk (some 56) none (.p (.fad 4 (.t 5))),
  ROp.mk (some 57) none (.p (.fad 0 (.t 56))),
  ROp.mk (some 58) none (.d (.load 1 false (.t 57))),
  ROp.mk (some 59) none (.p (.fad 3 (.t 3))),
  ROp.mk (some 60) none (.d (.load 1 false (.t 59))),
  ROp.mk (some 61) none (.p (.arith .eql (.t 58) (.t 60)))])
 (.cond (.t 61) (.seq (.ops [ROp.mk (some 62) none (.p (.mv (.t 0))),
   ROp.mk (some 63) none (.d (.load 16 true (.t 3))),
   ROp.mk (some 64) none (.w (.call 87 [(.t 62), (.t 63), (.c (.int .i64 2))])),
   ROp.mk (some 65) none (.p (.mkl [(.int .i64 0), (.int .i64 0), (.int .i64 0), (.int .i64 0), (.int .i64 0), (.int .i64 0), (.int .i64 0), .nils, (.str []), (.int .i64 0), (.int .i64 0), (.int .i64 0), .nils, .nils, (.int .i64 0), .nils] 1 16 [(0, 16, (.t 64))])),
   ROp.mk (some 4) none (.p (.mv (.t 65)))])
  (.ret))
 (.skip)))
 (.seq (.draw [(ROp.mk (some 66) none (.p (.fad 8 (.t 3))), .p),
  (ROp.mk (some 67) none (.d (.load 1 false (.t 66))), .r 0 1),
  (ROp.mk (some 68) none (.p (.fad 9 (.t 3))), .p),
  (ROp.mk (some 69) none (.d (.load 1 false (.t 68))), .r 0 1),
  (ROp.mk (some 70) none (.p (.fad 15 (.t 3))), .p),
  (ROp.mk (some 71) none (.d (.load 1 false (.t 70))), .r 0 0),
  (ROp.mk (some 72) none (.w (.call 88 [(.t 71)])), .w),
  (ROp.mk (some 73) none (.p (.build [(.str []), (.int .i64 0), .nils, .nils] [(0, 1, (.t 67)), (1, 1, (.t 69)), (2, 1, (.t 72))])), .p),
  (ROp.mk (some 7) none (.w (.alloc [(.str []), (.int .i64 0), .nils, .nils])), .a 0 0 1),
  (ROp.mk none none (.w (.store 4 (.t 7) (.t 73))), .w)] [[(.str []), (.int .i64 0), .nils, .nils]])
 (.seq (.ops [ROp.mk (some 74) none (.p (.mv (.t 0))),
  ROp.mk (some 75) none (.d (.load 16 true (.t 3))),
  ROp.mk (some 76) none (.d (.load 8 true (.t 5))),
  ROp.mk (some 77) none (.p (.fad 6 (.t 3))),
  ROp.mk (some 78) none (.d (.load 1 false (.t 77))),
  ROp.mk (some 79) none (.d (.load 4 true (.t 7))),
  ROp.mk (some 80) none (.w (.mkr [(.str []), (.int .i64 0), .nils, .nils] 1 4 [(0, 4, (.t 79))])),
  ROp.mk (some 81) none (.w (.call 89 [(.t 74), (.t 75), (.t 76), (.c (.int .i64 1)), (.t 78), (.t 80), (.c (.int .i64 2))])),
  ROp.mk (some 4) none (.p (.mv (.t 81)))])
 (.ret)))))))
theorem ok38 : rFun Tryz.prog an 38 = some rf38 := by kernel_rfl

def rf40 : RF := RF.mk 34 [.t 4] false (
 .seq (.ops [ROp.mk (some 3) none (.w (.box 16 (.t 1))),
  ROp.mk (some 4) none (.p (.mv (.c .nils)))])
 (.seq (.ops [ROp.mk (some 8) none (.p (.mv (.t 0))),
  ROp.mk (some 9) none (.d (.load 16 true (.t 3))),
  ROp.mk (some 10) none (.w (.call 85 [(.t 8), (.t 9)])),
  ROp.mk (some 7) none (.p (.mv (.t 10))),
  ROp.mk (some 11) none (.p (.ext (.t 7) 0)),
  ROp.mk (some 12) none (.p (.ext (.t 7) 1)),
  ROp.mk (some 5) none (.w (.alloc [(.int .i64 0), (.int .i64 0), (.int .i64 0), .nils, (.int .i64 0), (.int .i64 0), (.int .i64 0), .nils])),
  ROp.mk none none (.w (.store 8 (.t 5) (.t 11))),
  ROp.mk (some 6) none (.p (.mv (.t 12)))])
 (.seq (.seq (.draw [(ROp.mk (some 13) none (.p (.mv (.t 6))), .p),
  (ROp.mk (some 14) none (.p (.un .not (.t 13))), .p),
  (ROp.mk (some 15) none (.p (.mv (.t 14))), .p),
  (ROp.mk (some 16) (some (15, false)) (.p (.fad 6 (.t 3))), .p),
  (ROp.mk (some 17) (some (15, false)) (.d (.load 1 false (.t 16))), .r 0 0),
  (ROp.mk (some 18) (some (15, false)) (.p (.fad 0 (.t 5))), .p),
  (ROp.mk (some 19) (some (15, false)) (.d (.load 1 false (.t 18))), .r 0 0),
  (ROp.mk (some 20) (some (15, false)) (.p (.arith .neq (.t 17) (.t 19))), .p),
  (ROp.mk (some 21) none (.p (.pick (.t 15) (.c (.bool true)) (.t 20))), .p),
  (ROp.mk (some 22) none (.p (.mv (.t 21))), .p),
  (ROp.mk (some 23) (some (22, false)) (.p (.fad 7 (.t 3))), .p),
  (ROp.mk (some 24) (some (22, false)) (.d (.load 1 false (.t 23))), .r 0 1),
  (ROp.mk (some 25) (some (22, false)) (.d (.load 8 true (.t 5))), .r 0 0),
  (ROp.mk (some 26) (some (22, false)) (.w (.call 93 [(.t 25)])), .w),
  (ROp.mk (some 27) (some (22, false)) (.w (.call 92 [(.t 24), (.t 26)])), .w),
  (ROp.mk (some 28) (some (22, false)) (.p (.un .not (.t 27))), .p),
  (ROp.mk (some 29) none (.p (.pick (.t 22) (.c (.bool true)) (.t 28))), .p)] [])
 (.cond (.t 29) (.seq (.ops [ROp.mk (some 4) none (.p (.mv (.c .nils)))])
  (.ret))
 (.skip)))
 (.seq (.ops [ROp.mk (some 30) none (.p (.mv (.t 0))),
  ROp.mk (some 31) none (.d (.load 16 true (.t 3))),
  ROp.mk (some 32) none (.w (.call 87 [(.t 30), (.t 31), (.c (.int .i64 6))])),
  ROp.mk (some 33) none (.p (.mkl [(.int .i64 0), (.int .i64 0), (.int .i64 0), (.int .i64 0), (.int .i64 0), (.int .i64 0), (.int .i64 0), .nils, (.str []), (.int .i64 0), (.int .i64 0), (.int .i64 0), .nils, .nils, (.int .i64 0), .nils] 1 16 [(0, 16, (.t 32))])),
  ROp.mk (some 4) none (.p (.mv (.t 33)))])
 (.ret)))))
theorem ok40 : rFun Tryz.prog an 40 = some rf40 := by kernel_rfl

def rf44 : RF := RF.mk 12 [.t 2] false (
 .seq (.ops [ROp.mk (some 2) none (.p (.mv (.c (.bool false))))])
 (.seq (.ops [ROp.mk (some 3) none (.p (.mv (.t 0))),
  ROp.mk (some 4) none (.p (.eq true .ptr (.t 3) (.c .nilp))),
  ROp.mk (some 5) none (.p (.mv (.t 4))),
  ROp.mk (some 6) (some (5, true)) (.p (.mv (.t 0))),
  ROp.mk (some 7) (some (5, true)) (.p (.nchk (.t 6))),
  ROp.mk (some 8) (some (5, true)) (.p (.fad 0 (.t 7))),
  ROp.mk (some 9) (some (5, true)) (.d (.load 1 false (.t 8))),
  ROp.mk (some 10) (some (5, true)) (.w (.call 112 [(.t 9)])),
  ROp.mk (some 11) none (.p (.pick (.t 5) (.t 10) (.c (.bool false)))),
  ROp.mk (some 2) none (.p (.mv (.t 11)))])
 (.ret)))
theorem ok44 : rFun Tryz.prog an 44 = some rf44 := by kernel_rfl

def rf45 : RF := RF.mk 46 [.t 2, .t 3] false (
 .seq (.ops [ROp.mk (some 1) none (.w (.box 8 (.t 0))),
  ROp.mk (some 2) none (.p (.mv (.c .nils))),
  ROp.mk (some 3) none (.p (.mv (.c (.bool false))))])
 (.seq (.ops [ROp.mk (some 5) none (.p (.build [.nils, (.bool false)] [])),
  ROp.mk (some 6) none (.w (.box 2 (.t 5))),
  ROp.mk (some 4) none (.p (.mv (.t 6)))])
 (.seq (.ops [ROp.mk (some 7) none (.p (.mv (.t 4))),
  ROp.mk (some 8) none (.p (.fad 0 (.t 1))),
  ROp.mk (some 9) none (.d (.load 1 false (.t 8))),
  ROp.mk (some 10) none (.p (.fad 1 (.t 1))),
  ROp.mk (some 11) none (.d (.load 1 false (.t 10))),
  ROp.mk (some 12) none (.p (.fad 2 (.t 1))),
  ROp.mk (some 13) none (.d (.load 1 false (.t 12))),
  ROp.mk (some 14) none (.p (.mkl [(.int .i64 0), (.int .i64 0), (.int .i64 0)] 3 1 [(0, 1, (.t 9)), (1, 1, (.t 11)), (2, 1, (.t 13))])),
  ROp.mk (some 15) none (.w (.call 113 [(.t 7), (.t 14)]))])
 (.seq (.ops [ROp.mk (some 16) none (.p (.mv (.t 4))),
  ROp.mk (some 17) none (.p (.fad 3 (.t 1))),
  ROp.mk (some 18) none (.d (.load 1 false (.t 17))),
  ROp.mk (some 19) none (.w (.call 114 [(.t 16), (.t 18)]))])
 (.seq (.ops [ROp.mk (some 20) none (.p (.mv (.t 4))),
  ROp.mk (some 21) none (.p (.fad 4 (.t 1))),
  ROp.mk (some 22) none (.p (.fad 0 (.t 21))),
  ROp.mk (some 23) none (.d (.load 1 false (.t 22))),
  ROp.mk (some 24) none (.p (.fad 4 (.t 1))),
  ROp.mk (some 25) none (.p (.fad 1 (.t 24))),
  ROp.mk (some 26) none (.d (.load 1 false (.t 25))),
  ROp.mk (some 27) none (.p (.fad 4 (.t 1))),
  ROp.mk (some 28) none (.p (.fad 2 (.t 27))),
  ROp.mk (some 29) none (.d (.load 1 false (.t 28))),
  ROp.mk (some 30) none (.p (.mkl [(.int .i64 0), (.int .i64 0), (.int .i64 0)] 3 1 [(0, 1, (.t 23)), (1, 1, (.t 26)), (2, 1, (.t 29))])),
  ROp.mk (some 31) none (.w (.call 113 [(.t 20), (.t 30)]))])
 (.seq (.ops [ROp.mk (some 32) none (.p (.mv (.t 4))),
  ROp.mk (some 33) none (.p (.fad 4 (.t 1))),
  ROp.mk (some 34) none (.p (.fad 3 (.t 33))),
  ROp.mk (some 35) none (.d (.load 1 false (.t 34))),
  ROp.mk (some 36) none (.w (.call 114 [(.t 32), (.t 35)]))])
 (.seq (.draw [(ROp.mk (some 37) none (.p (.mv (.t 4))), .p),
  (ROp.mk (some 38) none (.p (.nchk (.t 37))), .p),
  (ROp.mk (some 39) none (.p (.fad 0 (.t 38))), .p),
  (ROp.mk (some 40) none (.d (.load 1 false (.t 39))), .r 0 0),
  (ROp.mk (some 41) none (.p (.mv (.t 4))), .p),
  (ROp.mk (some 42) none (.p (.nchk (.t 41))), .p),
  (ROp.mk (some 43) none (.p (.fad 1 (.t 42))), .p),
  (ROp.mk (some 44) none (.d (.load 1 false (.t 43))), .r 0 0),
  (ROp.mk (some 45) none (.p (.un .not (.t 44))), .p),
  (ROp.mk (some 2) none (.p (.mv (.t 40))), .p),
  (ROp.mk (some 3) none (.p (.mv (.t 45))), .p)] [])
 (.ret))))))))
theorem ok45 : rFun Tryz.prog an 45 = some rf45 := by kernel_rfl

def rf46 : RF := RF.mk 68 [.cell 2 8 true, .t 3] false (
 .seq (.ops [ROp.mk (some 2) none (.w (.alloc [(.int .i64 0), (.int .i64 0), (.int .i64 0), .nils, (.int .i64 0), (.int .i64 0), (.int .i64 0), .nils])),
  ROp.mk (some 3) none (.p (.mv (.c (.bool false))))])
 (.seq (.ops [ROp.mk (some 8) none (.p (.mv (.t 0))),
  ROp.mk (some 9) none (.w (.call 115 [(.t 8)])),
  ROp.mk (some 10) none (.p (.mv (.t 0))),
  ROp.mk (some 11) none (.p (.lenL (.t 10))),
  ROp.mk (some 12) none (.p (.build [.nilp, (.int .i64 0)] [(0, 1, (.t 9)), (1, 1, (.t 11))])),
  ROp.mk (some 4) none (.w (.alloc [.nilp, (.int .i64 0)])),
  ROp.mk none none (.w (.store 2 (.t 4) (.t 12)))])
 (.seq (.ops [ROp.mk (some 13) none (.p (.fad 0 (.t 4))),
  ROp.mk (some 14) none (.d (.load 1 false (.t 13))),
  ROp.mk (some 15) none (.w (.call 116 [(.t 14)])),
  ROp.mk (some 16) none (.p (.build [(.int .i64 0), (.int .i64 0), (.int .i64 0), .nils, (.int .i64 0), (.int .i64 0), (.int .i64 0), .nils] [(0, 1, (.t 15))])),
  ROp.mk (some 5) none (.w (.alloc [(.int .i64 0), (.int .i64 0), (.int .i64 0), .nils, (.int .i64 0), (.int .i64 0), (.int .i64 0), .nils])),
  ROp.mk none none (.w (.store 8 (.t 5) (.t 16)))])
 (.seq (.ops [ROp.mk (some 17) none (.p (.fad 0 (.t 4))),
  ROp.mk (some 18) none (.d (.load 1 false (.t 17))),
  ROp.mk (some 19) none (.w (.call 116 [(.t 18)])),
  ROp.mk (some 20) none (.p (.fad 1 (.t 5))),
  ROp.mk none none (.w (.store 1 (.t 20) (.t 19)))])
 (.seq (.ops [ROp.mk (some 21) none (.p (.fad 0 (.t 4))),
  ROp.mk (some 22) none (.d (.load 1 false (.t 21))),
  ROp.mk (some 23) none (.w (.call 116 [(.t 22)])),
  ROp.mk (some 24) none (.p (.fad 2 (.t 5))),
  ROp.mk none none (.w (.store 1 (.t 24) (.t 23)))])
 (.seq (.ops [ROp.mk (some 25) none (.d (.load 2 true (.t 4))),
  ROp.mk (some 26) none (.w (.call 117 [(.t 25)])),
  ROp.mk (some 27) none (.p (.fad 3 (.t 5))),
  ROp.mk none none (.w (.store 1 (.t 27) (.t 26)))])
 (.seq (.ops [ROp.mk (some 28) none (.p (.fad 0 (.t 4))),
  ROp.mk (some 29) none (.d (.load 1 false (.t 28))),
  ROp.mk (some 30) none (.w (.call 116 [(.t 29)])),
  ROp.mk (some 31) none (.p (.fad 4 (.t 5))),
  ROp.mk (some 32) none (.p (.fad 0 (.t 31))),
  ROp.mk none none (.w (.store 1 (.t 32) (.t 30)))])
 (.seq (.ops [ROp.mk (some 33) none (.p (.fad 0 (.t 4))),
  ROp.mk (some 34) none (.d (.load 1 false (.t 33))),
  ROp.mk (some 35) none (.w (.call 116 [(.t 34)])),
  ROp.mk (some 36) none (.p (.fad 4 (.t 5))),
  ROp.mk (some 37) none (.p (.fad 1 (.t 36))),
  ROp.mk none none (.w (.store 1 (.t 37) (.t 35)))])
 (.seq (.ops [ROp.mk (some 38) none (.p (.fad 0 (.t 4))),
  ROp.mk (some 39) none (.d (.load 1 false (.t 38))),
  ROp.mk (some 40) none (.w (.call 116 [(.t 39)])),
  ROp.mk (some 41) none (.p (.fad 4 (.t 5))),
  ROp.mk (some 42) none (.p (.fad 2 (.t 41))),
  ROp.mk none none (.w (.store 1 (.t 42) (.t 40)))])
 (.seq (.ops [ROp.mk (some 43) none (.d (.load 2 true (.t 4))),
  ROp.mk (some 44) none (.w (.call 117 [(.t 43)])),
  ROp.mk (some 45) none (.p (.fad 4 (.t 5))),
  ROp.mk (some 46) none (.p (.fad 3 (.t 45))),
  ROp.mk none none (.w (.store 1 (.t 46) (.t 44)))])
 (.seq (.seq (.ops [ROp.mk (some 48) none (.d (.load 8 true (.t 5))),
  ROp.mk (some 49) none (.w (.call 118 [(.t 48)])),
  ROp.mk (some 47) none (.p (.mv (.t 49))),
  ROp.mk (some 50) none (.p (.ext (.t 47) 0)),
  ROp.mk (some 51) none (.p (.ext (.t 47) 1)),
  ROp.mk (some 6) none (.p (.mv (.t 50))),
  ROp.mk (some 7) none (.p (.mv (.t 51)))])
 (.seq (.ops [ROp.mk (some 52) none (.p (.fad 0 (.t 4))),
  ROp.mk (some 53) none (.d (.load 1 false (.t 52))),
  ROp.mk (some 54) none (.w (.call 119 [(.t 53)])),
  ROp.mk (some 55) none (.p (.un .not (.t 54))),
  ROp.mk (some 56) none (.p (.mv (.t 55))),
  ROp.mk (some 57) (some (56, false)) (.p (.mv (.t 7))),
  ROp.mk (some 58) (some (56, false)) (.p (.un .not (.t 57))),
  ROp.mk (some 59) none (.p (.pick (.t 56) (.c (.bool true)) (.t 58))),
  ROp.mk (some 60) none (.p (.mv (.t 59))),
  ROp.mk (some 61) (some (60, false)) (.p (.mv (.t 6))),
  ROp.mk (some 62) (some (60, false)) (.p (.mv (.t 0))),
  ROp.mk (some 63) (some (60, false)) (.w (.call 120 [(.t 61), (.t 62)])),
  ROp.mk (some 64) (some (60, false)) (.p (.un .not (.t 63))),
  ROp.mk (some 65) none (.p (.pick (.t 60) (.c (.bool true)) (.t 64)))])
 (.cond (.t 65) (.seq (.ops [ROp.mk (some 66) none (.p (.build [(.int .i64 0), (.int .i64 0), (.int .i64 0), .nils, (.int .i64 0), (.int .i64 0), (.int .i64 0), .nils] [])),
   ROp.mk none none (.w (.store 8 (.t 2) (.t 66))),
   ROp.mk (some 3) none (.p (.mv (.c (.bool false))))])
  (.ret))
 (.skip))))
 (.seq (.ops [ROp.mk (some 67) none (.d (.load 8 true (.t 5))),
  ROp.mk none none (.w (.store 8 (.t 2) (.t 67))),
  ROp.mk (some 3) none (.p (.mv (.c (.bool true))))])
 (.ret)))))))))))))
theorem ok46 : rFun Tryz.prog an 46 = some rf46 := by kernel_rfl

def rf47 : RF := RF.mk 47 [.t 2] false (
 .seq (.ops [ROp.mk (some 2) none (.p (.mv (.c .nils)))])
 (.seq (.seq (.ops [ROp.mk (some 8) none (.p (.mv (.t 0))),
  ROp.mk (some 9) none (.p (.eq false .ptr (.t 8) (.c .nilp)))])
 (.cond (.t 9) (.seq (.ops [ROp.mk (some 2) none (.p (.mv (.c .nils)))])
  (.ret))
 (.skip)))
 (.seq (.ops [ROp.mk (some 10) none (.p (.mv (.t 0))),
  ROp.mk (some 11) none (.w (.call 78 [(.t 10)])),
  ROp.mk (some 3) none (.w (.alloc [(.int .i64 0), (.int .i64 0)])),
  ROp.mk none none (.w (.store 2 (.t 3) (.t 11)))])
 (.seq (.seq (.ops [ROp.mk (some 12) none (.d (.load 2 true (.t 3))),
  ROp.mk (some 13) none (.p (.build [(.int .i64 0), (.int .i64 0)] [])),
  ROp.mk (some 14) none (.p (.eq false (.agg [0, 0]) (.t 12) (.t 13)))])
 (.cond (.t 14) (.seq (.ops [ROp.mk (some 2) none (.p (.mv (.c .nils)))])
  (.ret))
 (.skip)))
 (.seq (.ops [ROp.mk (some 15) none (.p (.fad 1 (.t 3))),
  ROp.mk (some 16) none (.d (.load 1 false (.t 15))),
  ROp.mk (some 17) none (.w (.mks [(.int .u8 0)] 1 1 (.c (.int .i64 0)) (.t 16))),
  ROp.mk (some 4) none (.p (.mv (.t 17)))])
 (.seq (.seq (.ops [ROp.mk (some 18) none (.p (.fad 1 (.t 3))),
  ROp.mk (some 19) none (.d (.load 1 false (.t 18))),
  ROp.mk (some 20) none (.w (.call 121 [(.t 19)])),
  ROp.mk (some 21) none (.p (.mv (.c (.int .i64 0))))])
 (.block 0 (.loop (.seq (.ops [ROp.mk (some 22) none (.p (.arith .lss (.t 21) (.t 20)))])
   (.seq (.cond (.t 22) (.skip)
   (.exit 0))
   (.seq (.block 1 (.seq (.ops [ROp.mk (some 23) none (.p (.mv (.t 21))),
     ROp.mk (some 5) none (.p (.mv (.t 23)))])
    (.seq (.draw [(ROp.mk (some 25) none (.p (.mv (.t 0))), .p),
     (ROp.mk (some 26) none (.p (.nchk (.t 25))), .p),
     (ROp.mk (some 27) none (.p (.fad 0 (.t 26))), .p),
     (ROp.mk (some 28) none (.d (.load 1 false (.t 27))), .r 0 1),
     (ROp.mk (some 29) none (.p (.mv (.t 0))), .p),
     (ROp.mk (some 30) none (.p (.fad 0 (.t 3))), .p),
     (ROp.mk (some 31) none (.d (.load 1 false (.t 30))), .r 0 0),
     (ROp.mk (some 32) none (.p (.mv (.t 5))), .p),
     (ROp.mk (some 33) none (.w (.call 79 [(.t 29), (.t 31), (.t 32)])), .w),
     (ROp.mk (some 34) none (.w (.call 122 [(.t 28), (.t 33)])), .w),
     (ROp.mk (some 24) none (.p (.mv (.t 34))), .p),
     (ROp.mk (some 35) none (.p (.ext (.t 24) 0)), .p),
     (ROp.mk (some 36) none (.p (.ext (.t 24) 1)), .p),
     (ROp.mk (some 6) none (.p (.mv (.t 35))), .p),
     (ROp.mk (some 7) none (.p (.mv (.t 36))), .p)] [])
    (.ops [ROp.mk (some 37) none (.p (.mv (.t 4))),
     ROp.mk (some 38) none (.p (.mv (.t 6))),
     ROp.mk (some 39) none (.w (.app 1 1 (.t 37) (.t 38))),
     ROp.mk (some 4) none (.p (.mv (.t 39)))]))))
   (.ops [ROp.mk (some 40) none (.p (.arith .add (.t 21) (.c (.int .i64 1)))),
    ROp.mk (some 21) none (.p (.mv (.t 40)))])))))))
 (.seq (.ops [ROp.mk (some 41) none (.p (.mv (.t 4))),
  ROp.mk (some 42) none (.p (.fad 1 (.t 3))),
  ROp.mk (some 43) none (.d (.load 1 false (.t 42))),
  ROp.mk (some 44) none (.p (.fad 1 (.t 3))),
  ROp.mk (some 45) none (.d (.load 1 false (.t 44))),
  ROp.mk (some 46) none (.p (.slL 1 (.t 41) none (some (.t 43)) (some (.t 45)))),
  ROp.mk (some 2) none (.p (.mv (.t 46)))])
 (.ret))))))))
theorem ok47 : rFun Tryz.prog an 47 = some rf47 := by kernel_rfl

def rf50 : RF := RF.mk 10 [.t 4] false (
 .seq (.ops [ROp.mk (some 4) none (.p (.mv (.c (.bool false))))])
 (.seq (.ops [ROp.mk (some 5) none (.p (.mv (.t 0))),
  ROp.mk (some 6) none (.d (.b2s (.t 5))),
  ROp.mk (some 7) none (.p (.mv (.t 1))),
  ROp.mk (some 8) none (.d (.b2s (.t 7))),
  ROp.mk (some 9) none (.p (.arith .eql (.t 6) (.t 8))),
  ROp.mk (some 4) none (.p (.mv (.t 9)))])
 (.ret)))
theorem ok50 : rFun Tryz.prog an 50 = some rf50 := by kernel_rfl

def rf51 : RF := RF.mk 42 [.t 6] false (
 .seq (.ops [ROp.mk (some 5) none (.w (.box 4 (.t 2))),
  ROp.mk (some 6) none (.p (.mv (.c .nils)))])
 (.seq (.ops [ROp.mk (some 13) none (.w (.call 124 [])),
  ROp.mk (some 14) none (.w (.call 124 [])),
  ROp.mk (some 15) none (.p (.build [.nilp] [(0, 1, (.t 14))])),
  ROp.mk (some 8) none (.w (.alloc [.nilp])),
  ROp.mk (some 7) none (.p (.mv (.t 13))),
  ROp.mk none none (.w (.store 1 (.t 8) (.t 15)))])
 (.seq (.ops [ROp.mk (some 16) none (.p (.mv (.t 7))),
  ROp.mk (some 17) none (.p (.mv (.t 0))),
  ROp.mk (some 18) none (.w (.call 125 [(.t 16), (.t 17)]))])
 (.seq (.ops [ROp.mk (some 19) none (.p (.fad 0 (.t 8))),
  ROp.mk (some 20) none (.d (.load 1 false (.t 19))),
  ROp.mk (some 21) none (.p (.mv (.t 1))),
  ROp.mk (some 22) none (.w (.call 125 [(.t 20), (.t 21)]))])
 (.seq (.ops [ROp.mk (some 23) none (.d (.load 1 true (.t 8))),
  ROp.mk (some 24) none (.d (.load 4 true (.t 5))),
  ROp.mk (some 25) none (.w (.call 126 [(.t 23), (.t 24)]))])
 (.seq (.ops [ROp.mk (some 27) none (.p (.mv (.t 7))),
  ROp.mk (some 28) none (.w (.call 127 [(.t 27)])),
  ROp.mk (some 26) none (.p (.mv (.t 28))),
  ROp.mk (some 29) none (.p (.ext (.t 26) 0)),
  ROp.mk (some 30) none (.p (.ext (.t 26) 1)),
  ROp.mk (some 9) none (.p (.mv (.t 29))),
  ROp.mk (some 10) none (.p (.mv (.t 30)))])
 (.seq (.ops [ROp.mk (some 32) none (.p (.fad 0 (.t 8))),
  ROp.mk (some 33) none (.d (.load 1 false (.t 32))),
  ROp.mk (some 34) none (.w (.call 127 [(.t 33)])),
  ROp.mk (some 31) none (.p (.mv (.t 34))),
  ROp.mk (some 35) none (.p (.ext (.t 31) 0)),
  ROp.mk (some 36) none (.p (.ext (.t 31) 1)),
  ROp.mk (some 11) none (.p (.mv (.t 35))),
  ROp.mk (some 12) none (.p (.mv (.t 36)))])
 (.seq (.ops [ROp.mk (some 37) none (.p (.mv (.t 9))),
  ROp.mk (some 38) none (.p (.mv (.t 11))),
  ROp.mk (some 39) none (.w (.call 129 [(.t 37), (.t 38)])),
  ROp.mk (some 40) none (.p (.slL 1 (.t 39) none (some (.c (.int .i64 8))) none)),
  ROp.mk (some 41) none (.w (.call 128 [(.t 40)])),
  ROp.mk (some 6) none (.p (.mv (.t 41)))])
 (.ret)))))))))
theorem ok51 : rFun Tryz.prog an 51 = some rf51 := by kernel_rfl

def rf72 : RF := RF.mk 22 [.t 4] false (
 .seq (.ops [ROp.mk (some 4) none (.p (.mv (.c (.int .i64 0))))])
 (.seq (.seq (.ops [ROp.mk (some 6) none (.p (.mv (.t 0))),
  ROp.mk (some 7) none (.p (.arith .lss (.t 6) (.c (.int .i64 0)))),
  ROp.mk (some 8) none (.p (.mv (.t 7))),
  ROp.mk (some 9) (some (8, false)) (.p (.mv (.t 1))),
  ROp.mk (some 10) (some (8, false)) (.p (.arith .lss (.t 9) (.c (.int .i64 1)))),
  ROp.mk (some 11) none (.p (.pick (.t 8) (.c (.bool true)) (.t 10)))])
 (.cond (.t 11) (.seq (.ops [ROp.mk (some 4) none (.p (.mv (.c (.int .i64 0))))])
  (.ret))
 (.skip)))
 (.seq (.ops [ROp.mk (some 12) none (.p (.mv (.t 0))),
  ROp.mk (some 13) none (.p (.mv (.t 1))),
  ROp.mk (some 14) none (.p (.arith .quo (.t 12) (.t 13))),
  ROp.mk (some 5) none (.p (.mv (.t 14)))])
 (.seq (.seq (.ops [ROp.mk (some 15) none (.p (.mv (.t 0))),
  ROp.mk (some 16) none (.p (.mv (.t 1))),
  ROp.mk (some 17) none (.p (.arith .rem (.t 15) (.t 16))),
  ROp.mk (some 18) none (.p (.arith .gtr (.t 17) (.c (.int .i64 0))))])
 (.cond (.t 18) (.ops [ROp.mk (some 19) none (.p (.mv (.t 5))),
   ROp.mk (some 20) none (.p (.arith .add (.t 19) (.c (.int .i64 1)))),
   ROp.mk (some 5) none (.p (.mv (.t 20)))])
 (.skip)))
 (.seq (.ops [ROp.mk (some 21) none (.p (.mv (.t 5))),
  ROp.mk (some 4) none (.p (.mv (.t 21)))])
 (.ret))))))
theorem ok72 : rFun Tryz.prog an 72 = some rf72 := by kernel_rfl

def rf74 : RF := RF.mk 29 [.t 0] false (
 .seq (.ops [ROp.mk (some 0) none (.p (.mv (.c .nilp)))])
 (.seq (.ops [ROp.mk (some 4) none (.p (.build [(.int .u8 0), (.int .u8 0), (.int .u8 0), (.int .u8 0), (.int .u8 0), (.int .u8 0), (.int .u8 0), (.int .u8 0), (.int .u8 0), (.int .u8 0), (.int .u8 0), (.int .u8 0), (.int .u8 0), (.int .u8 0), (.int .u8 0), (.int .u8 0), (.int .u8 0), (.int .u8 0), (.int .u8 0), (.int .u8 0), (.int .u8 0), (.int .u8 0), (.int .u8 0), (.int .u8 0), (.int .u8 0), (.int .u8 0), (.int .u8 0), (.int .u8 0), (.int .u8 0), (.int .u8 0), (.int .u8 0), (.int .u8 0), (.int .u8 0), (.int .u8 0), (.int .u8 0), (.int .u8 0), (.int .u8 0), (.int .u8 0), (.int .u8 0), (.int .u8 0), (.int .u8 0), (.int .u8 0), (.int .u8 0), (.int .u8 0), (.int .u8 0), (.int .u8 0), (.int .u8 0), (.int .u8 0), (.int .u8 0), (.int .u8 0), (.int .u8 0), (.int .u8 0), (.int .u8 0), (.int .u8 0), (.int .u8 0), (.int .u8 0), (.int .u8 0), (.int .u8 0), (.int .u8 0), (.int .u8 0), (.int .u8 0), (.int .u8 0), (.int .u8 0), (.int .u8 0), (.int .u8 0), (.int .u8 0), (.int .u8 0), (.int .u8 0), (.int .u8 0), (.int .u8 0), (.int .u8 0), (.int .u8 0), (.int .u8 0), (.int .u8 0), (.int .u8 0), (.int .u8 0), (.int .u8 0), (.int .u8 0), (.int .u8 0), (.int .u8 0), (.int .u8 0), (.int .u8 0), (.int .u8 0), (.int .u8 0), (.int .u8 0), (.int .u8 0), (.int .u8 0), (.int .u8 0), (.int .u8 0), (.int .u8 0), (.int .u8 0), (.int .u8 0), (.int .u8 0), (.int .u8 0), (.int .u8 0), (.int .u8 0), (.int .u8 0), (.int .u8 0), (.int .u8 0), (.int .u8 0), (.int .u8 0), (.int .u8 0), (.int .u8 0), (.int .u8 0), (.int .u8 0), (.int .u8 0), (.int .u8 0), (.int .u8 0), (.int .u8 0), (.int .u8 0), (.int .u8 0), (.int .u8 0), (.int .u8 0), (.int .u8 0), (.int .u8 0), (.int .u8 0), (.int .u8 0), (.int .u8 0), (.int .u8 0), (.int .u8 0), (.int .u8 0), (.int .u8 0), (.int .u8 0), (.int .u8 0), (.int .u8 0), (.int .u8 0), (.int .u8 0), (.int .u8 0), (.int .u8 0), (.int .u8 0), (.int .u8 0), (.int .u8 0), (.int .u8 0), (.int .u8 0), (.int .u8 0), (.int .u8 0), (.int .u8 0), (.int .u8 0), (.int .u8 0), (.int .u8 0), (.int .u8 0), (.int .u8 0), (.int .u8 0), (.int .u8 0), (.int .u8 0), (.int .u8 0), (.int .u8 0), (.int .u8 0), (.int .u8 0), (.int .u8 0), (.int .u8 0), (.int .u8 0), (.int .u8 0), (.int .u8 0), (.int .u8 0), (.int .u8 0), (.int .u8 0), (.int .u8 0), (.int .u8 0), (.int .u8 0), (.int .u8 0), (.int .u8 0), (.int .u8 0), (.int .u8 0), (.int .u8 0), (.int .u8 0), (.int .u8 0), (.int .u8 0), (.int .u8 0), (.int .u8 0), (.int .u8 0), (.int .u8 0), (.int .u8 0), (.int .u8 0), (.int .u8 0), (.int .u8 0), (.int .u8 0), (.int .u8 0), (.int .u8 0), (.int .u8 0), (.int .u8 0), (.int .u8 0), (.int .u8 0), (.int .u8 0), (.int .u8 0), (.int .u8 0), (.int .u8 0), (.int .u8 0), (.int .u8 0), (.int .u8 0), (.int .u8 0), (.int .u8 0), (.int .u8 0), (.int .u8 0), (.int .u8 0), (.int .u8 0), (.int .u8 0), (.int .u8 0), (.int .u8 0), (.int .u8 0), (.int .u8 0), (.int .u8 0), (.int .u8 0), (.int .u8 0), (.int .u8 0), (.int .u8 0), (.int .u8 0), (.int .u8 0), (.int .u8 0), (.int .u8 0), (.int .u8 0), (.int .u8 0), (.int .u8 0), (.int .u8 0), (.int .u8 0), (.int .u8 0), (.int .u8 0), (.int .u8 0), (.int .u8 0), (.int .u8 0), (.int .u8 0), (.int .u8 0), (.int .u8 0), (.int .u8 0), (.int .u8 0), (.int .u8 0), (.int .u8 0), (.int .u8 0), (.int .u8 0), (.int .u8 0), (.int .u8 0), (.int .u8 0), (.int .u8 0), (.int .u8 0), (.int .u8 0), (.int .u8 0), (.int .u8 0), (.int .u8 0), (.int .u8 0), (.int .u8 0), (.int .u8 0), (.int .u8 0), (.int .u8 0), (.int .u8 0), (.int .u8 0), (.int .u8 0), (.int .u8 0), (.int .u8 0), (.int .u8 0), (.int .u8 0), (.int .u8 0), (.int .u8 0), (.int .u8 0), (.int .u8 0), (.int .u8 0), (.int .u8 0), (.int .u8 0), (.int .u8 0), (.int .u8 0), (.int .u8 0), (.int .u8 0), (.int .u8 0), (.int .u8 0), (.int .u8 0), (.int .u8 0), (.int .u8 0), (.int .u8 0), (.int .u8 0), (.int .u8 0), (.int .u8 0), (.int .u8 0), (.int .u8 0), (.int .u8 0), (.int .u8 0), (.int .u8 0), (.int .u8 0), (.int .u8 0), (.int .u8 0), (.int .u8 0), (.int .u8 0), (.int .u8 0), (.int .u8 0), (.int .u8 0), (.int .u8 0), (.int .u8 0), (.int .u8 0), (.int .u8 0), (.int .u8 0), (.int .u8 0), (.int .u8 0), (.int .u8 0), (.int .u8 0), (.int .u8 0), (.int .u8 0), (.int .u8 0), (.int .u8 0), (.int .u8 0), (.int .u8 0), (.int .u8 0), (.int .u8 0), (.int .u8 0), (.int .u8 0), (.int .u8 0), (.int .u8 0), (.int .u8 0), (.int .u8 0), (.int .u8 0), (.int .u8 0), (.int .u8 0), (.int .u8 0), (.int .u8 0), (.int .u8 0), (.int .u8 0), (.int .u8 0), (.int .u8 0), (.int .u8 0), (.int .u8 0), (.int .u8 0), (.int .u8 0), (.int .u8 0), (.int .u8 0), (.int .u8 0), (.int .u8 0), (.int .u8 0), (.int .u8 0), (.int .u8 0), (.int .u8 0), (.int .u8 0), (.int .u8 0), (.int .u8 0), (.int .u8 0), (.int .u8 0), (.int .u8 0), (.int .u8 0), (.int .u8 0), (.int .u8 0), (.int .u8 0), (.int .u8 0), (.int .u8 0), (.int .u8 0), (.int .u8 0), (.int .u8 0), (.int .u8 0), (.int .u8 0), (.int .u8 0), (.int .u8 0), (.int .u8 0), (.int .u8 0), (.int .u8 0), (.int .u8 0), (.int .u8 0), (.int .u8 0), (.int .u8 0), (.int .u8 0), (.int .u8 0), (.int .u8 0), (.int .u8 0), (.int .u8 0), (.int .u8 0), (.int .u8 0), (.int .u8 0), (.int .u8 0), (.int .u8 0), (.int .u8 0), (.int .u8 0), (.int .u8 0), (.int .u8 0), (.int .u8 0), (.int .u8 0), (.int .u8 0), (.int .u8 0), (.int .u8 0), (.int .u8 0), (.int .u8 0), (.int .u8 0), (.int .u8 0), (.int .u8 0), (.int .u8 0), (.int .u8 0), (.int .u8 0), (.int .u8 0), (.int .u8 0), (.int .u8 0), (.int .u8 0), (.int .u8 0), (.int .u8 0), (.int .u8 0), (.int .u8 0), (.int .u8 0), (.int .u8 0), (.int .u8 0), (.int .u8 0), (.int .u8 0), (.int .u8 0), (.int .u8 0), (.int .u8 0), (.int .u8 0), (.int .u8 0), (.int .u8 0), (.int .u8 0), (.int .u8 0), (.int .u8 0), (.int .u8 0), (.int .u8 0), (.int .u8 0), (.int .u8 0), (.int .u8 0), (.int .u8 0), (.int .u8 0), (.int .u8 0), (.int .u8 0), (.int .u8 0), (.int .u8 0), (.int .u8 0), (.int .u8 0), (.int .u8 0), (.int .u8 0), (.int .u8 0), (.int .u8 0), (.int .u8 0), (.int .u8 0), (.int .u8 0), (.int .u8 0), (.int .u8 0), (.int .u8 0), (.int .u8 0), (.int .u8 0), (.int .u8 0), (.int .u8 0), (.int .u8 0), (.int .u8 0), (.int .u8 0), (.int .u8 0), (.int .u8 0), (.int .u8 0), (.int .u8 0), (.int .u8 0), (.int .u8 0), (.int .u8 0), (.int .u8 0), (.int .u8 0), (.int .u8 0), (.int .u8 0), (.int .u8 0), (.int .u8 0), (.int .u8 0), (.int .u8 0), (.int .u8 0), (.int .u8 0), (.int .u8 0), (.int .u8 0), (.int .u8 0), (.int .u8 0), (.int .u8 0), (.int .u8 0), (.int .u8 0), (.int .u8 0), (.int .u8 0), (.int .u8 0), (.int .u8 0), (.int .u8 0), (.int .u8 0), (.int .u8 0), (.int .u8 0), (.int .u8 0), (.int .u8 0), (.int .u8 0), (.int .u8 0), (.int .u8 0), (.int .u8 0), (.int .u8 0), (.int .u8 0), (.int .u8 0), (.int .u8 0), (.int .u8 0), (.int .u8 0), (.int .u8 0), (.int .u8 0), (.int .u8 0), (.int .u8 0), (.int .u8 0), (.int .u8 0), (.int .u8 0), (.int .u8 0), (.int .u8 0), (.int .u8 0), (.int .u8 0), (.int .u8 0), (.int .u8 0), (.int .u8 0), (.int .u8 0), (.int .u8 0), (.int .u8 0), (.int .u8 0), (.int .u8 0), (.int .u8 0), (.int .u8 0), (.int .u8 0), (.int .u8 0), (.int .u8 0), (.int .u8 0), (.int .u8 0), (.int .u8 0), (.int .u8 0), (.int .u8 0), (.int .u8 0), (.int .u8 0), (.int .u8 0), (.int .u8 0), (.int .u8 0), (.int .i64 0), (.int .i64 0), (.int .i64 0), (.int .i64 0), (.int .i64 0), (.int .i64 0), (.int .i64 0), (.int .i64 0), (.int .i64 0), (.int .i64 0), (.int .i64 0), (.int .i64 0), (.int .i64 0), (.int .i64 0), (.int .i64 0), (.int .i64 0), (.int .i64 0), (.int .i64 0), (.int .i64 0), (.int .i64 0), (.int .i64 0), (.int .i64 0), (.int .i64 0), (.int .i64 0), (.int .i64 0), (.int .i64 0), (.int .i64 0), (.int .i64 0), (.int .i64 0), (.int .i64 0), (.int .i64 0), (.int .i64 0), (.int .i64 0), (.int .i64 0), (.int .i64 0), (.int .i64 0), (.int .i64 0), (.int .i64 0), (.int .i64 0), (.int .i64 0), (.int .i64 0), (.int .i64 0), (.int .i64 0), (.int .i64 0), (.int .i64 0), (.int .i64 0), (.int .i64 0), (.int .i64 0), (.int .i64 0), (.int .i64 0), (.int .i64 0), (.int .i64 0), (.int .i64 0), (.int .i64 0), (.int .i64 0), (.int .i64 0), (.int .i64 0), (.int .i64 0), (.int .i64 0), (.int .i64 0), (.int .i64 0), (.int .i64 0), (.int .i64 0), (.int .i64 0), (.int .i64 0), (.int .i64 0), (.int .i64 0), (.int .i64 0), (.int .i64 0), (.int .i64 0), (.int .i64 0), (.int .i64 0), (.int .i64 0), (.int .i64 0), (.int .i64 0), (.int .i64 0), (.int .i64 0), (.int .i64 0), (.int .i64 0), (.int .i64 0), (.int .i64 0), (.int .i64 0), (.int .i64 0), (.int .i64 0), (.int .i64 0), (.int .i64 0), (.int .i64 0), (.int .i64 0), (.int .i64 0), (.int .i64 0), (.int .i64 0), (.int .i64 0), (.int .i64 0), (.int .i64 0), (.int .i64 0), (.int .i64 0), (.int .i64 0), (.int .i64 0), (.int .i64 0), (.int .i64 0), (.int .i64 0), (.int .i64 0), (.int .i64 0), (.int .i64 0), (.int .i64 0), (.int .i64 0), (.int .i64 0), (.int .i64 0), (.int .i64 0), (.int .i64 0), (.int .i64 0), (.int .i64 0), (.int .i64 0), (.int .i64 0), (.int .i64 0), (.int .i64 0), (.int .i64 0), (.int .i64 0), (.int .i64 0), (.int .i64 0), (.int .i64 0), (.int .i64 0), (.int .i64 0), (.int .i64 0), (.int .i64 0), (.int .i64 0), (.int .i64 0), (.int .i64 0), (.int .i64 0), (.int .i64 0), (.int .i64 0), (.int .i64 0), (.int .i64 0), (.int .i64 0), (.int .i64 0), (.int .i64 0), (.int .i64 0), (.int .i64 0), (.int .i64 0), (.int .i64 0), (.int .i64 0), (.int .i64 0), (.int .i64 0), (.int .i64 0), (.int .i64 0), (.int .i64 0), (.int .i64 0), (.int .i64 0), (.int .i64 0), (.int .i64 0), (.int .i64 0), (.int .i64 0), (.int .i64 0), (.int .i64 0), (.int .i64 0), (.int .i64 0), (.int .i64 0), (.int .i64 0), (.int .i64 0), (.int .i64 0), (.int .i64 0), (.int .i64 0), (.int .i64 0), (.int .i64 0), (.int .i64 0), (.int .i64 0), (.int .i64 0), (.int .i64 0), (.int .i64 0), (.int .i64 0), (.int .i64 0), (.int .i64 0), (.int .i64 0), (.int .i64 0), (.int .i64 0), (.int .i64 0), (.int .i64 0), (.int .i64 0), (.int .i64 0), (.int .i64 0), (.int .i64 0), (.int .i64 0), (.int .i64 0), (.int .i64 0), (.int .i64 0), (.int .i64 0), (.int .i64 0), (.int .i64 0), (.int .i64 0), (.int .i64 0), (.int .i64 0), (.int .i64 0), (.int .i64 0), (.int .i64 0), (.int .i64 0), (.int .i64 0), (.int .i64 0), (.int .i64 0), (.int .i64 0), (.int .i64 0), (.int .i64 0), (.int .i64 0), (.int .i64 0), (.int .i64 0), (.int .i64 0), (.int .i64 0), (.int .i64 0), (.int .i64 0), (.int .i64 0), (.int .i64 0), (.int .i64 0), (.int .i64 0), (.int .i64 0), (.int .i64 0), (.int .i64 0), (.int .i64 0), (.int .i64 0), (.int .i64 0), (.int .i64 0), (.int .i64 0), (.int .i64 0), (.int .i64 0), (.int .i64 0), (.int .i64 0), (.int .i64 0), (.int .i64 0), (.int .i64 0), (.int .i64 0), (.int .i64 0), (.int .i64 0), (.int .i64 0), (.int .i64 0), (.int .i64 0), (.int .i64 0), (.int .i64 0), (.int .i64 0), (.int .i64 0), (.int .i64 0), (.int .i64 0), (.int .i64 0), (.int .i64 0), (.int .i64 0), (.int .i64 0), (.int .i64 0), (.int .i64 0), (.int .i64 0), (.int .i64 0), (.int .i64 0), (.int .i64 0), (.int .i64 0), (.int .i64 0), (.int .i64 0), (.int .i64 0), (.int .i64 0), (.int .i64 0), (.int .i64 0)] [])),
  ROp.mk (some 5) none (.w (.box 766 (.t 4))),
  ROp.mk (some 1) none (.w (.alloc [.nilp])),
  ROp.mk none none (.w (.store 1 (.t 1) (.t 5)))])
 (.seq (.seq (.ops [ROp.mk (some 6) none (.w (.call 166 []))])
 (.block 0 (.range (.t 6) [7, 8] (.seq (.ops [ROp.mk (some 2) none (.p (.mv (.t 7)))])
   (.ops [ROp.mk (some 3) none (.p (.mv (.t 8)))]))
  (.block 1 (.seq (.draw [(ROp.mk (some 9) none (.d (.load 1 false (.t 1))), .r 0 0),
     (ROp.mk (some 10) none (.p (.mv (.t 2))), .p),
     (ROp.mk (some 11) none (.d (.load 1 false (.t 1))), .r 0 1),
     (ROp.mk (some 12) none (.p (.mv (.t 2))), .p),
     (ROp.mk (some 13) none (.p (.arith .add (.t 12) (.c (.int .i64 255)))), .p),
     (ROp.mk (some 14) none (.p (.mv (.t 3))), .p),
     (ROp.mk (some 15) none (.p (.mv (.t 3))), .p),
     (ROp.mk (some 16) none (.p (.nchk (.t 9))), .p),
     (ROp.mk (some 17) none (.p (.fad 0 (.t 16))), .p),
     (ROp.mk (some 18) none (.p (.iaA 510 1 (.t 17) (.t 10))), .p),
     (ROp.mk none none (.w (.store 1 (.t 18) (.t 14))), .w),
     (ROp.mk (some 19) none (.p (.nchk (.t 11))), .p),
     (ROp.mk (some 20) none (.p (.fad 0 (.t 19))), .p),
     (ROp.mk (some 21) none (.p (.iaA 510 1 (.t 20) (.t 13))), .p),
     (ROp.mk none none (.w (.store 1 (.t 21) (.t 15))), .w)] [])
    (.ops [ROp.mk (some 22) none (.d (.load 1 false (.t 1))),
     ROp.mk (some 23) none (.p (.mv (.t 3))),
     ROp.mk (some 24) none (.p (.mv (.t 2))),
     ROp.mk (some 25) none (.p (.nchk (.t 22))),
     ROp.mk (some 26) none (.p (.fad 510 (.t 25))),
     ROp.mk (some 27) none (.p (.iaA 256 1 (.t 26) (.t 23))),
     ROp.mk none none (.w (.store 1 (.t 27) (.t 24)))]))))))
 (.seq (.ops [ROp.mk (some 28) none (.d (.load 1 false (.t 1))),
  ROp.mk (some 0) none (.p (.mv (.t 28)))])
 (.ret)))))
theorem ok74 : rFun Tryz.prog an 74 = some rf74 := by kernel_rfl

def rf78 : RF := RF.mk 40 [.cell 2 2 true] false (
 .seq (.ops [ROp.mk (some 2) none (.w (.alloc [(.int .i64 0), (.int .i64 0)]))])
 (.seq (.ops [ROp.mk (some 6) none (.p (.mv (.t 0))),
  ROp.mk (some 7) none (.p (.nchk (.t 6))),
  ROp.mk (some 8) none (.p (.fad 0 (.t 7))),
  ROp.mk (some 9) none (.d (.load 1 false (.t 8))),
  ROp.mk (some 10) none (.w (.call 122 [(.t 9), (.c (.int .i64 0))])),
  ROp.mk (some 5) none (.p (.mv (.t 10))),
  ROp.mk (some 11) none (.p (.ext (.t 5) 0)),
  ROp.mk (some 12) none (.p (.ext (.t 5) 1)),
  ROp.mk (some 3) none (.p (.mv (.t 11))),
  ROp.mk (some 4) none (.p (.mv (.t 12)))])
 (.seq (.draw [(ROp.mk (some 13) none (.p (.mv (.t 3))), .p),
  (ROp.mk (some 14) none (.p (.iaL 1 (.t 13) (.c (.int .i64 0)))), .p),
  (ROp.mk (some 15) none (.d (.load 1 false (.t 14))), .r 0 0),
  (ROp.mk (some 16) none (.p (.toInt .i64 (.t 15))), .p),
  (ROp.mk (some 17) none (.p (.mv (.t 3))), .p),
  (ROp.mk (some 18) none (.p (.iaL 1 (.t 17) (.c (.int .i64 1)))), .p),
  (ROp.mk (some 19) none (.d (.load 1 false (.t 18))), .r 0 0),
  (ROp.mk (some 20) none (.p (.toInt .i64 (.t 19))), .p),
  (ROp.mk (some 21) none (.p (.arith .shl (.t 20) (.c (.int .u64 24)))), .p),
  (ROp.mk (some 22) none (.p (.mv (.t 3))), .p),
  (ROp.mk (some 23) none (.p (.iaL 1 (.t 22) (.c (.int .i64 2)))), .p),
  (ROp.mk (some 24) none (.d (.load 1 false (.t 23))), .r 0 0),
  (ROp.mk (some 25) none (.p (.toInt .i64 (.t 24))), .p),
  (ROp.mk (some 26) none (.p (.arith .shl (.t 25) (.c (.int .u64 16)))), .p),
  (ROp.mk (some 27) none (.p (.arith .or (.t 21) (.t 26))), .p),
  (ROp.mk (some 28) none (.p (.mv (.t 3))), .p),
  (ROp.mk (some 29) none (.p (.iaL 1 (.t 28) (.c (.int .i64 3)))), .p),
  (ROp.mk (some 30) none (.d (.load 1 false (.t 29))), .r 0 0),
  (ROp.mk (some 31) none (.p (.toInt .i64 (.t 30))), .p),
  (ROp.mk (some 32) none (.p (.arith .shl (.t 31) (.c (.int .u64 8)))), .p),
  (ROp.mk (some 33) none (.p (.arith .or (.t 27) (.t 32))), .p),
  (ROp.mk (some 34) none (.p (.mv (.t 3))), .p),
  (ROp.mk (some 35) none (.p (.iaL 1 (.t 34) (.c (.int .i64 4)))), .p),
  (ROp.mk (some 36) none (.d (.load 1 false (.t 35))), .r 0 0),
  (ROp.mk (some 37) none (.p (.toInt .i64 (.t 36))), .p),
  (ROp.mk (some 38) none (.p (.arith .or (.t 33) (.t 37))), .p),
  (ROp.mk (some 39) none (.p (.build [(.int .i64 0), (.int .i64 0)] [(0, 1, (.t 16)), (1, 1, (.t 38))])), .p),
  (ROp.mk none none (.w (.store 2 (.t 2) (.t 39))), .w)] [])
 (.ret))))
theorem ok78 : rFun Tryz.prog an 78 = some rf78 := by kernel_rfl

def rf79 : RF := RF.mk 16 [.t 6] false (
 .seq (.ops [ROp.mk (some 6) none (.p (.mv (.c (.int .i64 0))))])
 (.seq (.ops [ROp.mk (some 7) none (.p (.mv (.t 1))),
  ROp.mk (some 8) none (.p (.mv (.t 0))),
  ROp.mk (some 9) none (.p (.nchk (.t 8))),
  ROp.mk (some 10) none (.p (.fad 1 (.t 9))),
  ROp.mk (some 11) none (.d (.load 1 false (.t 10))),
  ROp.mk (some 12) none (.p (.arith .mul (.t 7) (.t 11))),
  ROp.mk (some 13) none (.p (.arith .add (.c (.int .i64 1)) (.t 12))),
  ROp.mk (some 14) none (.p (.mv (.t 2))),
  ROp.mk (some 15) none (.p (.arith .add (.t 13) (.t 14))),
  ROp.mk (some 6) none (.p (.mv (.t 15)))])
 (.ret)))
theorem ok79 : rFun Tryz.prog an 79 = some rf79 := by kernel_rfl

def rf81 : RF := RF.mk 61 [.t 6] false (
 .seq (.ops [ROp.mk (some 6) none (.p (.mv (.c (.int .i64 0))))])
 (.seq (.seq (.ops [ROp.mk (some 7) none (.p (.mv (.t 0))),
  ROp.mk (some 8) none (.p (.mv (.t 1))),
  ROp.mk (some 9) none (.w (.call 167 [(.t 7), (.t 8)])),
  ROp.mk (some 10) none (.p (.un .not (.t 9))),
  ROp.mk (some 11) none (.p (.mv (.t 10))),
  ROp.mk (some 12) (some (11, false)) (.p (.mv (.t 2))),
  ROp.mk (some 13) (some (11, false)) (.p (.lenL (.t 12))),
  ROp.mk (some 14) (some (11, false)) (.p (.arith .neq (.t 13) (.c (.int .i64 32)))),
  ROp.mk (some 15) none (.p (.pick (.t 11) (.c (.bool true)) (.t 14)))])
 (.cond (.t 15) (.seq (.ops [ROp.mk (some 6) none (.p (.mv (.c (.int .i64 1))))])
  (.ret))
 (.skip)))
 (.seq (.ops [ROp.mk (some 16) none (.p (.mv (.t 0))),
  ROp.mk (some 17) none (.p (.mv (.t 0))),
  ROp.mk (some 18) none (.p (.nchk (.t 17))),
  ROp.mk (some 19) none (.p (.fad 2 (.t 18))),
  ROp.mk (some 20) none (.d (.load 1 false (.t 19))),
  ROp.mk (some 21) none (.p (.mv (.t 20))),
  ROp.mk (some 22) (some (21, false)) (.p (.mv (.t 0))),
  ROp.mk (some 23) (some (21, false)) (.p (.nchk (.t 22))),
  ROp.mk (some 24) (some (21, false)) (.p (.fad 1 (.t 23))),
  ROp.mk (some 25) (some (21, false)) (.d (.load 1 false (.t 24))),
  ROp.mk (some 26) (some (21, false)) (.p (.arith .eql (.t 25) (.c (.int .i64 0)))),
  ROp.mk (some 27) none (.p (.pick (.t 21) (.c (.bool true)) (.t 26))),
  ROp.mk (some 28) none (.p (.nchk (.t 16))),
  ROp.mk (some 29) none (.p (.fad 2 (.t 28))),
  ROp.mk none none (.w (.store 1 (.t 29) (.t 27)))])
 (.seq (.seq (.ops [ROp.mk (some 30) none (.p (.mv (.t 0))),
  ROp.mk (some 31) none (.p (.nchk (.t 30))),
  ROp.mk (some 32) none (.p (.fad 2 (.t 31))),
  ROp.mk (some 33) none (.d (.load 1 false (.t 32)))])
 (.cond (.t 33) (.seq (.ops [ROp.mk (some 6) none (.p (.mv (.c (.int .i64 3))))])
  (.ret))
 (.skip)))
 (.seq (.seq (.ops [ROp.mk (some 34) none (.p (.mv (.t 0))),
  ROp.mk (some 35) none (.p (.nchk (.t 34))),
  ROp.mk (some 36) none (.p (.fad 1 (.t 35))),
  ROp.mk (some 37) none (.d (.load 1 false (.t 36))),
  ROp.mk (some 38) none (.p (.arith .gtr (.t 37) (.c (.int .i64 0))))])
 (.cond (.t 38) (.ops [ROp.mk (some 39) none (.p (.mv (.t 0))),
   ROp.mk (some 40) none (.p (.nchk (.t 39))),
   ROp.mk (some 41) none (.p (.fad 1 (.t 40))),
   ROp.mk (some 42) none (.d (.load 1 false (.t 41))),
   ROp.mk (some 43) none (.p (.arith .sub (.t 42) (.c (.int .i64 1)))),
   ROp.mk (some 44) none (.p (.nchk (.t 39))),
   ROp.mk (some 45) none (.p (.fad 1 (.t 44))),
   ROp.mk none none (.w (.store 1 (.t 45) (.t 43)))])
 (.skip)))
 (.seq (.draw [(ROp.mk (some 46) none (.p (.mv (.t 0))), .p),
  (ROp.mk (some 47) none (.p (.nchk (.t 46))), .p),
  (ROp.mk (some 48) none (.p (.fad 0 (.t 47))), .p),
  (ROp.mk (some 49) none (.d (.load 1 false (.t 48))), .r 0 1),
  (ROp.mk (some 50) none (.p (.mv (.t 1))), .p),
  (ROp.mk (some 51) none (.p (.mv (.t 2))), .p),
  (ROp.mk (some 52) none (.w (.call 88 [(.t 51)])), .w),
  (ROp.mk (some 53) none (.p (.iaL 1 (.t 49) (.t 50))), .p),
  (ROp.mk none none (.w (.store 1 (.t 53) (.t 52))), .w)] [])
 (.seq (.ops [ROp.mk (some 54) none (.p (.mv (.t 0))),
  ROp.mk (some 55) none (.p (.nchk (.t 54))),
  ROp.mk (some 56) none (.p (.fad 3 (.t 55))),
  ROp.mk (some 57) none (.d (.load 1 false (.t 56))),
  ROp.mk (some 58) none (.p (.arith .add (.t 57) (.c (.int .i64 1)))),
  ROp.mk (some 59) none (.p (.nchk (.t 54))),
  ROp.mk (some 60) none (.p (.fad 3 (.t 59))),
  ROp.mk none none (.w (.store 1 (.t 60) (.t 58)))])
 (.seq (.ops [ROp.mk (some 6) none (.p (.mv (.c (.int .i64 0))))])
 (.ret)))))))))
theorem ok81 : rFun Tryz.prog an 81 = some rf81 := by kernel_rfl

def rf83 : RF := RF.mk 13 [.t 2] false (
 .seq (.ops [ROp.mk (some 2) none (.p (.mv (.c .nilp)))])
 (.seq (.ops [ROp.mk (some 3) none (.p (.mv (.t 0))),
  ROp.mk (some 4) none (.p (.maxI (.t 3) [(.c (.int .i64 0))])),
  ROp.mk (some 5) none (.p (.minI (.t 4) [(.c (.int .i64 512))])),
  ROp.mk (some 0) none (.p (.mv (.t 5)))])
 (.seq (.ops [ROp.mk (some 6) none (.p (.mv (.t 0))),
  ROp.mk (some 7) none (.p (.arith .mul (.c (.int .i64 2)) (.t 6))),
  ROp.mk (some 8) none (.p (.arith .add (.c (.int .i64 1)) (.t 7))),
  ROp.mk (some 9) none (.w (.call 168 [(.t 8)])),
  ROp.mk (some 10) none (.p (.mv (.t 0))),
  ROp.mk (some 11) none (.p (.build [.nilp, (.int .i64 0)] [(0, 1, (.t 9)), (1, 1, (.t 10))])),
  ROp.mk (some 12) none (.w (.box 2 (.t 11))),
  ROp.mk (some 2) none (.p (.mv (.t 12)))])
 (.ret))))
theorem ok83 : rFun Tryz.prog an 83 = some rf83 := by kernel_rfl

def rf84 : RF := RF.mk 3 [.t 0] false (
 .seq (.ops [ROp.mk (some 0) none (.p (.mv (.c .nilp)))])
 (.seq (.ops [ROp.mk (some 1) none (.p (.build [.nils, (.int .i64 0)] [])),
  ROp.mk (some 2) none (.w (.box 2 (.t 1))),
  ROp.mk (some 0) none (.p (.mv (.t 2)))])
 (.ret)))
theorem ok84 : rFun Tryz.prog an 84 = some rf84 := by kernel_rfl

def rf85 : RF := RF.mk 62 [.cell 4 8 true, .t 5] false (
 .seq (.ops [ROp.mk (some 3) none (.w (.box 16 (.t 1))),
  ROp.mk (some 4) none (.w (.alloc [(.int .i64 0), (.int .i64 0), (.int .i64 0), .nils, (.int .i64 0), (.int .i64 0), (.int .i64 0), .nils])),
  ROp.mk (some 5) none (.p (.mv (.c (.bool false))))])
 (.seq (.ops [ROp.mk (some 9) none (.p (.mv (.t 0))),
  ROp.mk (some 10) none (.w (.call 14 [(.t 9)])),
  ROp.mk (some 6) none (.w (.alloc [(.int .i64 0), (.int .i64 0), (.int .i64 0), .nils, (.int .i64 0), (.int .i64 0), (.int .i64 0), .nils])),
  ROp.mk none none (.w (.store 8 (.t 6) (.t 10)))])
 (.seq (.ops [ROp.mk (some 11) none (.d (.load 8 true (.t 6))),
  ROp.mk (some 7) none (.w (.alloc [(.int .i64 0), (.int .i64 0), (.int .i64 0), .nils, (.int .i64 0), (.int .i64 0), (.int .i64 0), .nils])),
  ROp.mk none none (.w (.store 8 (.t 7) (.t 11)))])
 (.seq (.seq (.ops [ROp.mk (some 12) none (.p (.fad 4 (.t 3))),
  ROp.mk (some 13) none (.d (.load 1 false (.t 12))),
  ROp.mk (some 14) none (.p (.fad 1 (.t 7))),
  ROp.mk (some 15) none (.d (.load 1 false (.t 14))),
  ROp.mk (some 16) none (.p (.arith .lss (.t 13) (.t 15)))])
 (.cond (.t 16) (.seq (.ops [ROp.mk (some 17) none (.d (.load 8 true (.t 7))),
   ROp.mk none none (.w (.store 8 (.t 4) (.t 17))),
   ROp.mk (some 5) none (.p (.mv (.c (.bool false))))])
  (.ret))
 (.skip)))
 (.seq (.seq (.ops [ROp.mk (some 18) none (.p (.fad 4 (.t 7))),
  ROp.mk (some 19) none (.p (.fad 0 (.t 18))),
  ROp.mk (some 20) none (.d (.load 1 false (.t 19))),
  ROp.mk (some 8) none (.p (.mv (.t 20)))])
 (.block 0 (.seq (.ops [ROp.mk (some 22) none (.p (.mv (.t 8))),
   ROp.mk (some 23) none (.p (.arith .neq (.t 22) (.c (.int .i64 0)))),
   ROp.mk (some 24) none (.p (.mv (.t 23))),
   ROp.mk (some 25) (some (24, true)) (.p (.mv (.t 8))),
   ROp.mk (some 26) (some (24, true)) (.p (.fad 5 (.t 3))),
   ROp.mk (some 27) (some (24, true)) (.d (.load 1 false (.t 26))),
   ROp.mk (some 28) (some (24, true)) (.p (.arith .eql (.t 25) (.t 27))),
   ROp.mk (some 29) none (.p (.pick (.t 24) (.t 28) (.c (.bool false)))),
   ROp.mk (some 21) none (.p (.mv (.t 29)))])
  (.cond (.t 21) (.ops [ROp.mk (some 30) none (.d (.load 8 true (.t 7))),
    ROp.mk (some 31) none (.w (.call 169 [(.t 30)])),
    ROp.mk none none (.w (.store 8 (.t 7) (.t 31)))])
  (.seq (.ops [ROp.mk (some 33) none (.p (.mv (.t 8))),
    ROp.mk (some 34) none (.p (.arith .neq (.t 33) (.c (.int .i64 0)))),
    ROp.mk (some 35) none (.p (.mv (.t 34))),
    ROp.mk (some 36) (some (35, true)) (.p (.mv (.t 8))),
    ROp.mk (some 37) (some (35, true)) (.p (.fad 3 (.t 3))),
    ROp.mk (some 38) (some (35, true)) (.d (.load 1 false (.t 37))),
    ROp.mk (some 39) (some (35, true)) (.p (.arith .lss (.t 36) (.t 38))),
    ROp.mk (some 40) none (.p (.pick (.t 35) (.t 39) (.c (.bool false)))),
    ROp.mk (some 32) none (.p (.mv (.t 40)))])
   (.cond (.t 32) (.ops [ROp.mk (some 41) none (.p (.build [(.int .i64 0), (.int .i64 0), (.int .i64 0), .nils] [])),
     ROp.mk (some 42) none (.p (.fad 4 (.t 7))),
     ROp.mk none none (.w (.store 4 (.t 42) (.t 41)))])
   (.skip)))))))
 (.seq (.ops [ROp.mk (some 43) none (.p (.fad 3 (.t 7))),
  ROp.mk (some 44) none (.d (.load 1 false (.t 43))),
  ROp.mk (some 45) none (.w (.call 171 [(.t 44)])),
  ROp.mk (some 46) none (.p (.mkf 172 [] [(.t 3)])),
  ROp.mk (some 47) none (.w (.call 170 [(.t 45), (.t 46)])),
  ROp.mk (some 48) none (.p (.fad 3 (.t 7))),
  ROp.mk none none (.w (.store 1 (.t 48) (.t 47)))])
 (.seq (.ops [ROp.mk (some 49) none (.p (.fad 4 (.t 3))),
  ROp.mk (some 50) none (.d (.load 1 false (.t 49))),
  ROp.mk (some 51) none (.p (.fad 1 (.t 7))),
  ROp.mk none none (.w (.store 1 (.t 51) (.t 50)))])
 (.seq (.draw [(ROp.mk (some 52) none (.d (.load 8 true (.t 7))), .r 0 2),
  (ROp.mk (some 53) none (.d (.load 8 true (.t 7))), .r 0 0),
  (ROp.mk (some 54) none (.d (.load 8 true (.t 6))), .r 0 0),
  (ROp.mk (some 55) none (.w (.call 174 [(.t 53), (.t 54)])), .w),
  (ROp.mk (some 56) none (.p (.mv (.t 55))), .p),
  (ROp.mk (some 57) (some (56, false)) (.p (.mv (.t 0))), .p),
  (ROp.mk (some 58) (some (56, false)) (.d (.load 8 true (.t 7))), .r 1 1),
  (ROp.mk (some 59) (some (56, false)) (.w (.call 100 [(.t 57), (.t 58)])), .w),
  (ROp.mk (some 60) (some (56, false)) (.p (.arith .eql (.t 59) (.c (.int .i64 0)))), .p),
  (ROp.mk (some 61) none (.p (.pick (.t 56) (.c (.bool true)) (.t 60))), .p),
  (ROp.mk none none (.w (.store 8 (.t 4) (.t 52))), .w),
  (ROp.mk (some 5) none (.p (.mv (.t 61))), .p)] [])
 (.ret)))))))))
theorem ok85 : rFun Tryz.prog an 85 = some rf85 := by kernel_rfl

def rf86 : RF := RF.mk 9 [.t 2] false (
 .seq (.ops [ROp.mk (some 2) none (.p (.mv (.c (.bool false))))])
 (.seq (.ops [ROp.mk (some 3) none (.p (.mv (.t 0))),
  ROp.mk (some 4) none (.p (.arith .geq (.t 3) (.c (.int .i64 0)))),
  ROp.mk (some 5) none (.p (.mv (.t 4))),
  ROp.mk (some 6) (some (5, true)) (.p (.mv (.t 0))),
  ROp.mk (some 7) (some (5, true)) (.p (.arith .leq (.t 6) (.c (.int .i64 256)))),
  ROp.mk (some 8) none (.p (.pick (.t 5) (.t 7) (.c (.bool false)))),
  ROp.mk (some 2) none (.p (.mv (.t 8)))])
 (.ret)))
theorem ok86 : rFun Tryz.prog an 86 = some rf86 := by kernel_rfl

def rf87 : RF := RF.mk 15 [.cell 6 16 true] false (
 .seq (.ops [ROp.mk (some 4) none (.w (.box 16 (.t 1))),
  ROp.mk (some 6) none (.w (.alloc [(.int .i64 0), (.int .i64 0), (.int .i64 0), (.int .i64 0), (.int .i64 0), (.int .i64 0), (.int .i64 0), .nils, (.str []), (.int .i64 0), (.int .i64 0), (.int .i64 0), .nils, .nils, (.int .i64 0), .nils]))])
 (.seq (.draw [(ROp.mk (some 7) none (.p (.mv (.t 2))), .p),
  (ROp.mk (some 8) none (.p (.mv (.t 0))), .p),
  (ROp.mk (some 9) none (.p (.nchk (.t 8))), .p),
  (ROp.mk (some 10) none (.p (.fad 5 (.t 9))), .p),
  (ROp.mk (some 11) none (.d (.load 1 false (.t 10))), .r 0 0),
  (ROp.mk (some 12) none (.p (.fad 3 (.t 4))), .p),
  (ROp.mk (some 13) none (.d (.load 1 false (.t 12))), .r 0 0),
  (ROp.mk (some 14) none (.p (.build [(.int .i64 0), (.int .i64 0), (.int .i64 0), (.int .i64 0), (.int .i64 0), (.int .i64 0), (.int .i64 0), .nils, (.str []), (.int .i64 0), (.int .i64 0), (.int .i64 0), .nils, .nils, (.int .i64 0), .nils] [(0, 1, (.t 7)), (1, 1, (.t 11)), (2, 1, (.c (.int .i64 (-1)))), (3, 1, (.t 13))])), .p),
  (ROp.mk none none (.w (.store 16 (.t 6) (.t 14))), .w)] [])
 (.ret)))
theorem ok87 : rFun Tryz.prog an 87 = some rf87 := by kernel_rfl

def rf88 : RF := RF.mk 8 [.t 2] false (
 .seq (.ops [ROp.mk (some 2) none (.p (.mv (.c .nils)))])
 (.seq (.seq (.ops [ROp.mk (some 3) none (.p (.mv (.t 0))),
  ROp.mk (some 4) none (.p (.eq false .slice (.t 3) (.c .nils)))])
 (.cond (.t 4) (.seq (.ops [ROp.mk (some 2) none (.p (.mv (.c .nils)))])
  (.ret))
 (.skip)))
 (.seq (.ops [ROp.mk (some 5) none (.p (.mkl [] 0 1 [])),
  ROp.mk (some 6) none (.p (.mv (.t 0))),
  ROp.mk (some 7) none (.w (.app 1 1 (.t 5) (.t 6))),
  ROp.mk (some 2) none (.p (.mv (.t 7)))])
 (.ret))))
theorem ok88 : rFun Tryz.prog an 88 = some rf88 := by kernel_rfl

def rf89 : RF := RF.mk 58 [.t 14] false (
 .seq (.ops [ROp.mk (some 8) none (.w (.box 16 (.t 1))),
  ROp.mk (some 9) none (.w (.box 8 (.t 2))),
  ROp.mk (some 14) none (.p (.mv (.c .nils)))])
 (.seq (.seq (.ops [ROp.mk (some 16) none (.p (.mv (.t 5))),
  ROp.mk (some 17) none (.p (.lenL (.t 16))),
  ROp.mk (some 18) none (.p (.mv (.c (.int .i64 0))))])
 (.block 0 (.loop (.seq (.ops [ROp.mk (some 19) none (.p (.arith .lss (.t 18) (.t 17)))])
   (.seq (.cond (.t 19) (.skip)
   (.exit 0))
   (.seq (.block 1 (.seq (.ops [ROp.mk (some 20) none (.p (.mv (.t 18))),
     ROp.mk (some 15) none (.p (.mv (.t 20)))])
    (.draw [(ROp.mk (some 21) none (.p (.mv (.t 5))), .p),
     (ROp.mk (some 22) none (.p (.mv (.t 15))), .p),
     (ROp.mk (some 23) none (.p (.mv (.t 0))), .p),
     (ROp.mk (some 24) none (.p (.nchk (.t 23))), .p),
     (ROp.mk (some 25) none (.p (.fad 5 (.t 24))), .p),
     (ROp.mk (some 26) none (.d (.load 1 false (.t 25))), .r 0 0),
     (ROp.mk (some 27) none (.p (.mv (.t 4))), .p),
     (ROp.mk (some 28) none (.p (.mv (.t 5))), .p),
     (ROp.mk (some 29) none (.p (.mv (.t 15))), .p),
     (ROp.mk (some 30) none (.p (.iaL 4 (.t 28) (.t 29))), .p),
     (ROp.mk (some 31) none (.d (.load 4 true (.t 30))), .r 0 0),
     (ROp.mk (some 32) none (.w (.call 51 [(.t 26), (.t 27), (.t 31)])), .w),
     (ROp.mk (some 33) none (.p (.iaL 4 (.t 21) (.t 22))), .p),
     (ROp.mk (some 34) none (.p (.fad 3 (.t 33))), .p),
     (ROp.mk none none (.w (.store 1 (.t 34) (.t 32))), .w)] [])))
   (.ops [ROp.mk (some 35) none (.p (.arith .add (.t 18) (.c (.int .i64 1)))),
    ROp.mk (some 18) none (.p (.mv (.t 35)))])))))))
 (.seq (.ops [ROp.mk (some 36) none (.p (.fad 3 (.t 8))),
  ROp.mk (some 37) none (.d (.load 1 false (.t 36))),
  ROp.mk (some 38) none (.p (.mv (.t 3))),
  ROp.mk (some 39) none (.p (.mv (.t 4))),
  ROp.mk (some 40) none (.p (.mv (.t 5))),
  ROp.mk (some 41) none (.p (.build [(.int .i64 0), (.int .i64 0), (.int .i64 0), .nils] [(0, 1, (.t 37)), (1, 1, (.t 38)), (2, 1, (.t 39)), (3, 1, (.t 40))])),
  ROp.mk (some 42) none (.p (.fad 4 (.t 9))),
  ROp.mk none none (.w (.store 4 (.t 42) (.t 41)))])
 (.seq (.seq (.ops [ROp.mk (some 43) none (.p (.mv (.t 0))),
  ROp.mk (some 44) none (.d (.load 8 true (.t 9))),
  ROp.mk (some 45) none (.w (.call 100 [(.t 43), (.t 44)]))])
 (.block 2 (.seq (.ops [ROp.mk (some 47) none (.p (.arith .eql (.t 45) (.c (.int .i64 0)))),
   ROp.mk (some 46) none (.p (.mv (.t 47)))])
  (.cond (.t 46) (.seq (.ops [ROp.mk (some 48) none (.p (.mv (.t 0))),
    ROp.mk (some 49) none (.d (.load 16 true (.t 8))),
    ROp.mk (some 50) none (.p (.mv (.t 6))),
    ROp.mk (some 51) none (.w (.call 87 [(.t 48), (.t 49), (.t 50)])),
    ROp.mk (some 52) none (.p (.mkl [(.int .i64 0), (.int .i64 0), (.int .i64 0), (.int .i64 0), (.int .i64 0), (.int .i64 0), (.int .i64 0), .nils, (.str []), (.int .i64 0), (.int .i64 0), (.int .i64 0), .nils, .nils, (.int .i64 0), .nils] 1 16 [(0, 16, (.t 51))])),
    ROp.mk (some 14) none (.p (.mv (.t 52)))])
   (.ret))
  (.seq (.ops [ROp.mk (some 54) none (.p (.arith .eql (.t 45) (.c (.int .i64 7)))),
    ROp.mk (some 53) none (.p (.mv (.t 54)))])
   (.cond (.t 53) (.seq (.ops [ROp.mk (some 55) none (.p (.mv (.t 0))),
     ROp.mk (some 56) none (.d (.load 16 true (.t 8))),
     ROp.mk (some 57) none (.w (.call 96 [(.t 55), (.t 56), (.c (.int .i64 7))])),
     ROp.mk (some 14) none (.p (.mv (.t 57)))])
    (.ret))
   (.skip)))))))
 (.seq (.ops [ROp.mk (some 14) none (.p (.mv (.c .nils)))])
 (.ret))))))
theorem ok89 : rFun Tryz.prog an 89 = some rf89 := by kernel_rfl

def rf90 : RF := RF.mk 19 [.t 4] false (
 .seq (.ops [ROp.mk (some 4) none (.p (.mv (.c (.int .i64 0))))])
 (.seq (.seq (.ops [ROp.mk (some 6) none (.p (.mv (.t 0))),
  ROp.mk (some 7) none (.p (.lenL (.t 6))),
  ROp.mk (some 8) none (.p (.mv (.c (.int .i64 0))))])
 (.block 0 (.loop (.seq (.ops [ROp.mk (some 9) none (.p (.arith .lss (.t 8) (.t 7)))])
   (.seq (.cond (.t 9) (.skip)
   (.exit 0))
   (.seq (.block 1 (.seq (.ops [ROp.mk (some 10) none (.p (.mv (.t 8))),
     ROp.mk (some 5) none (.p (.mv (.t 10)))])
    (.seq (.ops [ROp.mk (some 11) none (.p (.mv (.t 1))),
     ROp.mk (some 12) none (.p (.mv (.t 0))),
     ROp.mk (some 13) none (.p (.mv (.t 5))),
     ROp.mk (some 14) none (.p (.iaL 4 (.t 12) (.t 13))),
     ROp.mk (some 15) none (.d (.load 4 true (.t 14))),
     ROp.mk (some 16) none (.w (.callv (.t 11) [(.t 15)]))])
    (.cond (.t 16) (.seq (.ops [ROp.mk (some 17) none (.p (.mv (.t 5))),
      ROp.mk (some 4) none (.p (.mv (.t 17)))])
     (.ret))
    (.skip)))))
   (.ops [ROp.mk (some 18) none (.p (.arith .add (.t 8) (.c (.int .i64 1)))),
    ROp.mk (some 8) none (.p (.mv (.t 18)))])))))))
 (.seq (.ops [ROp.mk (some 4) none (.p (.mv (.c (.int .i64 (-1)))))])
 (.ret))))
theorem ok90 : rFun Tryz.prog an 90 = some rf90 := by kernel_rfl

def rf92 : RF := RF.mk 26 [.t 4] false (
 .seq (.ops [ROp.mk (some 4) none (.p (.mv (.c (.bool false))))])
 (.seq (.seq (.ops [ROp.mk (some 6) none (.p (.mv (.t 0))),
  ROp.mk (some 7) none (.p (.lenL (.t 6))),
  ROp.mk (some 8) none (.p (.mv (.t 1))),
  ROp.mk (some 9) none (.p (.lenL (.t 8))),
  ROp.mk (some 10) none (.p (.arith .neq (.t 7) (.t 9)))])
 (.cond (.t 10) (.seq (.ops [ROp.mk (some 4) none (.p (.mv (.c (.bool false))))])
  (.ret))
 (.skip)))
 (.seq (.seq (.ops [ROp.mk (some 11) none (.p (.mv (.t 0))),
  ROp.mk (some 12) none (.p (.lenL (.t 11))),
  ROp.mk (some 13) none (.p (.mv (.c (.int .i64 0))))])
 (.block 0 (.loop (.seq (.ops [ROp.mk (some 14) none (.p (.arith .lss (.t 13) (.t 12)))])
   (.seq (.cond (.t 14) (.skip)
   (.exit 0))
   (.seq (.block 1 (.seq (.ops [ROp.mk (some 15) none (.p (.mv (.t 13))),
     ROp.mk (some 5) none (.p (.mv (.t 15)))])
    (.seq (.draw [(ROp.mk (some 16) none (.p (.mv (.t 0))), .p),
     (ROp.mk (some 17) none (.p (.mv (.t 5))), .p),
     (ROp.mk (some 18) none (.p (.iaL 2 (.t 16) (.t 17))), .p),
     (ROp.mk (some 19) none (.d (.load 2 true (.t 18))), .r 0 0),
     (ROp.mk (some 20) none (.p (.mv (.t 1))), .p),
     (ROp.mk (some 21) none (.p (.mv (.t 5))), .p),
     (ROp.mk (some 22) none (.p (.iaL 2 (.t 20) (.t 21))), .p),
     (ROp.mk (some 23) none (.d (.load 2 true (.t 22))), .r 0 0),
     (ROp.mk (some 24) none (.p (.eq true (.agg [1, 0]) (.t 19) (.t 23))), .p)] [])
    (.cond (.t 24) (.seq (.ops [ROp.mk (some 4) none (.p (.mv (.c (.bool false))))])
     (.ret))
    (.skip)))))
   (.ops [ROp.mk (some 25) none (.p (.arith .add (.t 13) (.c (.int .i64 1)))),
    ROp.mk (some 13) none (.p (.mv (.t 25)))])))))))
 (.seq (.ops [ROp.mk (some 4) none (.p (.mv (.c (.bool true))))])
 (.ret)))))
theorem ok92 : rFun Tryz.prog an 92 = some rf92 := by kernel_rfl

def rf93 : RF := RF.mk 23 [.t 2] false (
 .seq (.ops [ROp.mk (some 1) none (.w (.box 8 (.t 0))),
  ROp.mk (some 2) none (.p (.mv (.c .nils)))])
 (.seq (.ops [ROp.mk (some 3) none (.p (.mv (.c .nils)))])
 (.seq (.seq (.ops [ROp.mk (some 6) none (.p (.fad 3 (.t 1))),
  ROp.mk (some 7) none (.d (.load 1 false (.t 6))),
  ROp.mk (some 8) none (.p (.lenL (.t 7))),
  ROp.mk (some 9) none (.p (.mv (.c (.int .i64 0))))])
 (.block 0 (.loop (.seq (.ops [ROp.mk (some 10) none (.p (.arith .lss (.t 9) (.t 8)))])
   (.seq (.cond (.t 10) (.skip)
   (.exit 0))
   (.seq (.block 1 (.seq (.ops [ROp.mk (some 11) none (.p (.iaL 4 (.t 7) (.t 9))),
     ROp.mk (some 12) none (.d (.load 4 true (.t 11))),
     ROp.mk (some 5) none (.w (.alloc [(.str []), (.int .i64 0), .nils, .nils])),
     ROp.mk none none (.w (.store 4 (.t 5) (.t 12)))])
    (.ops [ROp.mk (some 13) none (.p (.mv (.t 3))),
     ROp.mk (some 14) none (.p (.fad 0 (.t 5))),
     ROp.mk (some 15) none (.d (.load 1 false (.t 14))),
     ROp.mk (some 16) none (.p (.fad 1 (.t 5))),
     ROp.mk (some 17) none (.d (.load 1 false (.t 16))),
     ROp.mk (some 18) none (.p (.build [(.str []), (.int .i64 0)] [(0, 1, (.t 15)), (1, 1, (.t 17))])),
     ROp.mk (some 19) none (.p (.mkl [(.str []), (.int .i64 0)] 1 2 [(0, 2, (.t 18))])),
     ROp.mk (some 20) none (.w (.app 2 24 (.t 13) (.t 19))),
     ROp.mk (some 3) none (.p (.mv (.t 20)))])))
   (.ops [ROp.mk (some 21) none (.p (.arith .add (.t 9) (.c (.int .i64 1)))),
    ROp.mk (some 9) none (.p (.mv (.t 21)))])))))))
 (.seq (.ops [ROp.mk (some 22) none (.p (.mv (.t 3))),
  ROp.mk (some 2) none (.p (.mv (.t 22)))])
 (.ret)))))
theorem ok93 : rFun Tryz.prog an 93 = some rf93 := by kernel_rfl

def rf100 : RF := RF.mk 26 [.t 4] false (
 .seq (.ops [ROp.mk (some 3) none (.w (.box 8 (.t 1))),
  ROp.mk (some 4) none (.p (.mv (.c (.int .i64 0))))])
 (.seq (.ops [ROp.mk (some 9) none (.d (.load 8 true (.t 3))),
  ROp.mk (some 10) none (.w (.call 118 [(.t 9)])),
  ROp.mk (some 8) none (.p (.mv (.t 10))),
  ROp.mk (some 11) none (.p (.ext (.t 8) 0)),
  ROp.mk (some 12) none (.p (.ext (.t 8) 1)),
  ROp.mk (some 5) none (.p (.mv (.t 11))),
  ROp.mk (some 6) none (.p (.mv (.t 12)))])
 (.seq (.ops [ROp.mk (some 13) none (.p (.mv (.t 0))),
  ROp.mk (some 14) none (.p (.nchk (.t 13))),
  ROp.mk (some 15) none (.p (.fad 7 (.t 14))),
  ROp.mk (some 16) none (.d (.load 1 false (.t 15))),
  ROp.mk (some 17) none (.p (.mv (.t 5))),
  ROp.mk (some 18) none (.w (.call 179 [(.t 16), (.t 17)])),
  ROp.mk (some 7) none (.p (.mv (.t 18)))])
 (.seq (.seq (.ops [ROp.mk (some 19) none (.p (.mv (.t 7))),
  ROp.mk (some 20) none (.p (.arith .eql (.t 19) (.c (.int .i64 3))))])
 (.cond (.t 20) (.ops [ROp.mk (some 21) none (.p (.mv (.t 0))),
   ROp.mk (some 22) none (.p (.build [(.int .i64 0), (.int .i64 0), (.int .i64 0), .nils, .nils, .nilm, .nilm] [])),
   ROp.mk (some 23) none (.p (.nchk (.t 21))),
   ROp.mk (some 24) none (.p (.fad 10 (.t 23))),
   ROp.mk none none (.w (.store 7 (.t 24) (.t 22)))])
 (.skip)))
 (.seq (.ops [ROp.mk (some 25) none (.p (.mv (.t 7))),
  ROp.mk (some 4) none (.p (.mv (.t 25)))])
 (.ret))))))
theorem ok100 : rFun Tryz.prog an 100 = some rf100 := by kernel_rfl

def rf112 : RF := RF.mk 11 [.t 2] false (
 .seq (.ops [ROp.mk (some 2) none (.p (.mv (.c (.bool false))))])
 (.seq (.ops [ROp.mk (some 3) none (.p (.mv (.t 0))),
  ROp.mk (some 4) none (.p (.eq true .ptr (.t 3) (.c .nilp))),
  ROp.mk (some 5) none (.p (.mv (.t 4))),
  ROp.mk (some 6) (some (5, true)) (.p (.mv (.t 0))),
  ROp.mk (some 7) (some (5, true)) (.p (.nchk (.t 6))),
  ROp.mk (some 8) (some (5, true)) (.p (.fad 2 (.t 7))),
  ROp.mk (some 9) (some (5, true)) (.d (.load 1 false (.t 8))),
  ROp.mk (some 10) none (.p (.pick (.t 5) (.t 9) (.c (.bool false)))),
  ROp.mk (some 2) none (.p (.mv (.t 10)))])
 (.ret)))
theorem ok112 : rFun Tryz.prog an 112 = some rf112 := by kernel_rfl

def rf113 : RF := RF.mk 41 [] false (
 .seq (.ops [ROp.mk (some 4) none (.p (.mv (.c (.int .i64 0))))])
 (.block 0 (.loop (.seq (.seq (.ops [ROp.mk (some 7) none (.p (.mv (.t 4))),
    ROp.mk (some 8) none (.p (.mv (.t 1))),
    ROp.mk (some 9) none (.p (.lenL (.t 8))),
    ROp.mk (some 10) none (.p (.arith .lss (.t 7) (.t 9)))])
   (.cond (.t 10) (.skip)
   (.exit 0)))
   (.seq (.block 1 (.seq (.ops [ROp.mk (some 14) none (.p (.mv (.t 1))),
     ROp.mk (some 15) none (.p (.mv (.t 4))),
     ROp.mk (some 16) none (.p (.iaL 1 (.t 14) (.t 15))),
     ROp.mk (some 17) none (.d (.load 1 false (.t 16))),
     ROp.mk (some 18) none (.w (.call 192 [(.t 17)])),
     ROp.mk (some 13) none (.p (.mv (.t 18))),
     ROp.mk (some 19) none (.p (.ext (.t 13) 0)),
     ROp.mk (some 20) none (.p (.ext (.t 13) 1)),
     ROp.mk (some 5) none (.p (.mv (.t 19))),
     ROp.mk (some 6) none (.p (.mv (.t 20)))])
    (.draw [(ROp.mk (some 21) none (.p (.mv (.t 0))), .p),
     (ROp.mk (some 22) none (.p (.mv (.t 0))), .p),
     (ROp.mk (some 23) none (.p (.mv (.t 0))), .p),
     (ROp.mk (some 24) none (.p (.nchk (.t 23))), .p),
     (ROp.mk (some 25) none (.p (.fad 0 (.t 24))), .p),
     (ROp.mk (some 26) none (.d (.load 1 false (.t 25))), .r 0 0),
     (ROp.mk (some 27) none (.p (.mv (.t 5))), .p),
     (ROp.mk (some 28) none (.w (.app 1 1 (.t 26) (.t 27))), .w),
     (ROp.mk (some 29) none (.p (.mv (.t 0))), .p),
     (ROp.mk (some 30) none (.p (.nchk (.t 29))), .p),
     (ROp.mk (some 31) none (.p (.fad 1 (.t 30))), .p),
     (ROp.mk (some 32) none (.d (.load 1 false (.t 31))), .r 0 1),
     (ROp.mk (some 33) none (.p (.mv (.t 32))), .p),
     (ROp.mk (some 34) (some (33, false)) (.p (.mv (.t 6))), .p),
     (ROp.mk (some 35) (some (33, false)) (.p (.un .not (.t 34))), .p),
     (ROp.mk (some 36) none (.p (.pick (.t 33) (.c (.bool true)) (.t 35))), .p),
     (ROp.mk (some 37) none (.p (.nchk (.t 21))), .p),
     (ROp.mk (some 38) none (.p (.fad 0 (.t 37))), .p),
     (ROp.mk none none (.w (.store 1 (.t 38) (.t 28))), .w),
     (ROp.mk (some 39) none (.p (.nchk (.t 22))), .p),
     (ROp.mk (some 40) none (.p (.fad 1 (.t 39))), .p),
     (ROp.mk none none (.w (.store 1 (.t 40) (.t 36))), .w)] [])))
   (.ops [ROp.mk (some 11) none (.p (.mv (.t 4))),
    ROp.mk (some 12) none (.p (.arith .add (.t 11) (.c (.int .i64 1)))),
    ROp.mk (some 4) none (.p (.mv (.t 12)))]))))))
theorem ok113 : rFun Tryz.prog an 113 = some rf113 := by kernel_rfl

def rf114 : RF := RF.mk 46 [] false (
 .seq (.ops [ROp.mk (some 5) none (.p (.mv (.t 0))),
  ROp.mk (some 6) none (.p (.mv (.t 1))),
  ROp.mk (some 7) none (.p (.lenL (.t 6))),
  ROp.mk (some 8) none (.p (.mkl [(.int .i64 0)] 1 1 [(0, 1, (.t 7))])),
  ROp.mk (some 9) none (.w (.call 113 [(.t 5), (.t 8)]))])
 (.seq (.ops [ROp.mk (some 4) none (.p (.mv (.c (.int .i64 0))))])
 (.block 0 (.loop (.seq (.seq (.ops [ROp.mk (some 10) none (.p (.mv (.t 4))),
    ROp.mk (some 11) none (.p (.mv (.t 1))),
    ROp.mk (some 12) none (.p (.lenL (.t 11))),
    ROp.mk (some 13) none (.p (.arith .lss (.t 10) (.t 12)))])
   (.cond (.t 13) (.skip)
   (.exit 0)))
   (.seq (.block 1 (.seq (.ops [ROp.mk (some 16) none (.p (.mv (.t 0))),
     ROp.mk (some 17) none (.p (.mv (.t 1))),
     ROp.mk (some 18) none (.p (.mv (.t 4))),
     ROp.mk (some 19) none (.p (.iaL 4 (.t 17) (.t 18))),
     ROp.mk (some 20) none (.p (.fad 0 (.t 19))),
     ROp.mk (some 21) none (.d (.load 1 false (.t 20))),
     ROp.mk (some 22) none (.p (.s2b (.t 21))),
     ROp.mk (some 23) none (.w (.call 193 [(.t 16), (.t 22)]))])
    (.seq (.ops [ROp.mk (some 24) none (.p (.mv (.t 0))),
     ROp.mk (some 25) none (.p (.mv (.t 1))),
     ROp.mk (some 26) none (.p (.mv (.t 4))),
     ROp.mk (some 27) none (.p (.iaL 4 (.t 25) (.t 26))),
     ROp.mk (some 28) none (.p (.fad 1 (.t 27))),
     ROp.mk (some 29) none (.d (.load 1 false (.t 28))),
     ROp.mk (some 30) none (.p (.mkl [(.int .i64 0)] 1 1 [(0, 1, (.t 29))])),
     ROp.mk (some 31) none (.w (.call 113 [(.t 24), (.t 30)]))])
    (.seq (.ops [ROp.mk (some 32) none (.p (.mv (.t 0))),
     ROp.mk (some 33) none (.p (.mv (.t 1))),
     ROp.mk (some 34) none (.p (.mv (.t 4))),
     ROp.mk (some 35) none (.p (.iaL 4 (.t 33) (.t 34))),
     ROp.mk (some 36) none (.p (.fad 2 (.t 35))),
     ROp.mk (some 37) none (.d (.load 1 false (.t 36))),
     ROp.mk (some 38) none (.w (.call 193 [(.t 32), (.t 37)]))])
    (.ops [ROp.mk (some 39) none (.p (.mv (.t 0))),
     ROp.mk (some 40) none (.p (.mv (.t 1))),
     ROp.mk (some 41) none (.p (.mv (.t 4))),
     ROp.mk (some 42) none (.p (.iaL 4 (.t 40) (.t 41))),
     ROp.mk (some 43) none (.p (.fad 3 (.t 42))),
     ROp.mk (some 44) none (.d (.load 1 false (.t 43))),
     ROp.mk (some 45) none (.w (.call 193 [(.t 39), (.t 44)]))])))))
   (.ops [ROp.mk (some 14) none (.p (.mv (.t 4))),
    ROp.mk (some 15) none (.p (.arith .add (.t 14) (.c (.int .i64 1)))),
    ROp.mk (some 4) none (.p (.mv (.t 15)))])))))))
theorem ok114 : rFun Tryz.prog an 114 = some rf114 := by kernel_rfl

def rf115 : RF := RF.mk 7 [.t 2] false (
 .seq (.ops [ROp.mk (some 2) none (.p (.mv (.c .nilp)))])
 (.seq (.ops [ROp.mk (some 3) none (.p (.mv (.t 0))),
  ROp.mk (some 4) none (.w (.call 88 [(.t 3)])),
  ROp.mk (some 5) none (.p (.build [.nils, (.bool false)] [(0, 1, (.t 4))])),
  ROp.mk (some 6) none (.w (.box 2 (.t 5))),
  ROp.mk (some 2) none (.p (.mv (.t 6)))])
 (.ret)))
theorem ok115 : rFun Tryz.prog an 115 = some rf115 := by kernel_rfl

def rf116 : RF := RF.mk 42 [.t 2] false (
 .seq (.ops [ROp.mk (some 2) none (.p (.mv (.c (.int .i64 0))))])
 (.seq (.seq (.ops [ROp.mk (some 4) none (.p (.mv (.t 0))),
  ROp.mk (some 5) none (.p (.eq false .ptr (.t 4) (.c .nilp)))])
 (.cond (.t 5) (.seq (.ops [ROp.mk (some 2) none (.p (.mv (.c (.int .i64 0))))])
  (.ret))
 (.skip)))
 (.seq (.ops [ROp.mk (some 6) none (.p (.mv (.t 0))),
  ROp.mk (some 7) none (.w (.call 194 [(.t 6), (.c (.int .i64 4))])),
  ROp.mk (some 3) none (.p (.mv (.t 7)))])
 (.seq (.seq (.ops [ROp.mk (some 8) none (.p (.mv (.t 3))),
  ROp.mk (some 9) none (.p (.eq false .slice (.t 8) (.c .nils))),
  ROp.mk (some 10) none (.p (.mv (.t 9))),
  ROp.mk (some 11) (some (10, false)) (.p (.mv (.t 3))),
  ROp.mk (some 12) (some (10, false)) (.p (.iaL 1 (.t 11) (.c (.int .i64 0)))),
  ROp.mk (some 13) (some (10, false)) (.d (.load 1 false (.t 12))),
  ROp.mk (some 14) (some (10, false)) (.p (.arith .geq (.t 13) (.c (.int .u8 128)))),
  ROp.mk (some 15) none (.p (.pick (.t 10) (.c (.bool true)) (.t 14)))])
 (.cond (.t 15) (.seq (.ops [ROp.mk (some 16) none (.p (.mv (.t 0))),
   ROp.mk (some 17) none (.p (.nchk (.t 16))),
   ROp.mk (some 18) none (.p (.fad 1 (.t 17))),
   ROp.mk none none (.w (.store 1 (.t 18) (.c (.bool true))))])
  (.seq (.ops [ROp.mk (some 2) none (.p (.mv (.c (.int .i64 0))))])
  (.ret)))
 (.skip)))
 (.seq (.draw [(ROp.mk (some 19) none (.p (.mv (.t 3))), .p),
  (ROp.mk (some 20) none (.p (.iaL 1 (.t 19) (.c (.int .i64 0)))), .p),
  (ROp.mk (some 21) none (.d (.load 1 false (.t 20))), .r 0 0),
  (ROp.mk (some 22) none (.p (.toInt .i64 (.t 21))), .p),
  (ROp.mk (some 23) none (.p (.arith .shl (.t 22) (.c (.int .u64 24)))), .p),
  (ROp.mk (some 24) none (.p (.mv (.t 3))), .p),
  (ROp.mk (some 25) none (.p (.iaL 1 (.t 24) (.c (.int .i64 1)))), .p),
  (ROp.mk (some 26) none (.d (.load 1 false (.t 25))), .r 0 0),
  (ROp.mk (some 27) none (.p (.toInt .i64 (.t 26))), .p),
  (ROp.mk (some 28) none (.p (.arith .shl (.t 27) (.c (.int .u64 16)))), .p),
  (ROp.mk (some 29) none (.p (.arith .add (.t 23) (.t 28))), .p),
  (ROp.mk (some 30) none (.p (.mv (.t 3))), .p),
  (ROp.mk (some 31) none (.p (.iaL 1 (.t 30) (.c (.int .i64 2)))), .p),
  (ROp.mk (some 32) none (.d (.load 1 false (.t 31))), .r 0 0),
  (ROp.mk (some 33) none (.p (.toInt .i64 (.t 32))), .p),
  (ROp.mk (some 34) none (.p (.arith .shl (.t 33) (.c (.int .u64 8)))), .p),
  (ROp.mk (some 35) none (.p (.arith .add (.t 29) (.t 34))), .p),
  (ROp.mk (some 36) none (.p (.mv (.t 3))), .p),
  (ROp.mk (some 37) none (.p (.iaL 1 (.t 36) (.c (.int .i64 3)))), .p),
  (ROp.mk (some 38) none (.d (.load 1 false (.t 37))), .r 0 0),
  (ROp.mk (some 39) none (.p (.toInt .i64 (.t 38))), .p),
  (ROp.mk (some 40) none (.p (.arith .add (.t 35) (.t 39))), .p),
  (ROp.mk (some 41) none (.p (.arith .sub (.t 40) (.c (.int .i64 2)))), .p),
  (ROp.mk (some 2) none (.p (.mv (.t 41))), .p)] [])
 (.ret))))))
theorem ok116 : rFun Tryz.prog an 116 = some rf116 := by kernel_rfl

def rf117 : RF := RF.mk 31 [.t 2] false (
 .seq (.ops [ROp.mk (some 1) none (.w (.box 2 (.t 0))),
  ROp.mk (some 2) none (.p (.mv (.c .nils)))])
 (.seq (.ops [ROp.mk (some 3) none (.p (.mv (.c .nils)))])
 (.seq (.seq (.ops [ROp.mk (some 5) none (.d (.load 2 true (.t 1))),
  ROp.mk (some 6) none (.w (.call 195 [(.t 5)])),
  ROp.mk (some 7) none (.p (.mv (.c (.int .i64 0))))])
 (.block 0 (.loop (.seq (.ops [ROp.mk (some 8) none (.p (.arith .lss (.t 7) (.t 6)))])
   (.seq (.cond (.t 8) (.skip)
   (.exit 0))
   (.seq (.block 1 (.seq (.draw [(ROp.mk (some 9) none (.p (.fad 0 (.t 1))), .p),
     (ROp.mk (some 10) none (.d (.load 1 false (.t 9))), .r 0 0),
     (ROp.mk (some 11) none (.w (.call 196 [(.t 10)])), .w),
     (ROp.mk (some 12) none (.d (.b2s (.t 11))), .r 1 2),
     (ROp.mk (some 13) none (.p (.fad 0 (.t 1))), .p),
     (ROp.mk (some 14) none (.d (.load 1 false (.t 13))), .r 0 1),
     (ROp.mk (some 15) none (.w (.call 116 [(.t 14)])), .w),
     (ROp.mk (some 16) none (.p (.build [(.str []), (.int .i64 0), .nils, .nils] [(0, 1, (.t 12)), (1, 1, (.t 15))])), .p),
     (ROp.mk (some 4) none (.w (.alloc [(.str []), (.int .i64 0), .nils, .nils])), .a 0 0 2),
     (ROp.mk none none (.w (.store 4 (.t 4) (.t 16))), .w)] [[(.str []), (.int .i64 0), .nils, .nils]])
    (.seq (.ops [ROp.mk (some 17) none (.p (.fad 0 (.t 1))),
     ROp.mk (some 18) none (.d (.load 1 false (.t 17))),
     ROp.mk (some 19) none (.w (.call 196 [(.t 18)])),
     ROp.mk (some 20) none (.p (.fad 2 (.t 4))),
     ROp.mk none none (.w (.store 1 (.t 20) (.t 19)))])
    (.seq (.ops [ROp.mk (some 21) none (.p (.fad 0 (.t 1))),
     ROp.mk (some 22) none (.d (.load 1 false (.t 21))),
     ROp.mk (some 23) none (.w (.call 196 [(.t 22)])),
     ROp.mk (some 24) none (.p (.fad 3 (.t 4))),
     ROp.mk none none (.w (.store 1 (.t 24) (.t 23)))])
    (.ops [ROp.mk (some 25) none (.p (.mv (.t 3))),
     ROp.mk (some 26) none (.d (.load 4 true (.t 4))),
     ROp.mk (some 27) none (.p (.mkl [(.str []), (.int .i64 0), .nils, .nils] 1 4 [(0, 4, (.t 26))])),
     ROp.mk (some 28) none (.w (.app 4 72 (.t 25) (.t 27))),
     ROp.mk (some 3) none (.p (.mv (.t 28)))])))))
   (.ops [ROp.mk (some 29) none (.p (.arith .add (.t 7) (.c (.int .i64 1)))),
    ROp.mk (some 7) none (.p (.mv (.t 29)))])))))))
 (.seq (.ops [ROp.mk (some 30) none (.p (.mv (.t 3))),
  ROp.mk (some 2) none (.p (.mv (.t 30)))])
 (.ret)))))
theorem ok117 : rFun Tryz.prog an 117 = some rf117 := by kernel_rfl

def rf118 : RF := RF.mk 42 [.t 2, .t 3] false (
 .seq (.ops [ROp.mk (some 1) none (.w (.box 8 (.t 0))),
  ROp.mk (some 2) none (.p (.mv (.c .nils))),
  ROp.mk (some 3) none (.p (.mv (.c (.bool false))))])
 (.seq (.ops [ROp.mk (some 5) none (.w (.call 124 [])),
  ROp.mk (some 6) none (.p (.build [.nilp] [(0, 1, (.t 5))])),
  ROp.mk (some 4) none (.w (.alloc [.nilp])),
  ROp.mk none none (.w (.store 1 (.t 4) (.t 6)))])
 (.seq (.ops [ROp.mk (some 7) none (.d (.load 1 true (.t 4))),
  ROp.mk (some 8) none (.p (.fad 0 (.t 1))),
  ROp.mk (some 9) none (.d (.load 1 false (.t 8))),
  ROp.mk (some 10) none (.p (.fad 1 (.t 1))),
  ROp.mk (some 11) none (.d (.load 1 false (.t 10))),
  ROp.mk (some 12) none (.p (.fad 2 (.t 1))),
  ROp.mk (some 13) none (.d (.load 1 false (.t 12))),
  ROp.mk (some 14) none (.p (.mkl [(.int .i64 0), (.int .i64 0), (.int .i64 0)] 3 1 [(0, 1, (.t 9)), (1, 1, (.t 11)), (2, 1, (.t 13))])),
  ROp.mk (some 15) none (.w (.call 197 [(.t 7), (.t 14)]))])
 (.seq (.ops [ROp.mk (some 16) none (.d (.load 1 true (.t 4))),
  ROp.mk (some 17) none (.p (.fad 3 (.t 1))),
  ROp.mk (some 18) none (.d (.load 1 false (.t 17))),
  ROp.mk (some 19) none (.w (.call 198 [(.t 16), (.t 18)]))])
 (.seq (.ops [ROp.mk (some 20) none (.d (.load 1 true (.t 4))),
  ROp.mk (some 21) none (.p (.fad 4 (.t 1))),
  ROp.mk (some 22) none (.p (.fad 0 (.t 21))),
  ROp.mk (some 23) none (.d (.load 1 false (.t 22))),
  ROp.mk (some 24) none (.p (.fad 4 (.t 1))),
  ROp.mk (some 25) none (.p (.fad 1 (.t 24))),
  ROp.mk (some 26) none (.d (.load 1 false (.t 25))),
  ROp.mk (some 27) none (.p (.fad 4 (.t 1))),
  ROp.mk (some 28) none (.p (.fad 2 (.t 27))),
  ROp.mk (some 29) none (.d (.load 1 false (.t 28))),
  ROp.mk (some 30) none (.p (.mkl [(.int .i64 0), (.int .i64 0), (.int .i64 0)] 3 1 [(0, 1, (.t 23)), (1, 1, (.t 26)), (2, 1, (.t 29))])),
  ROp.mk (some 31) none (.w (.call 197 [(.t 20), (.t 30)]))])
 (.seq (.ops [ROp.mk (some 32) none (.d (.load 1 true (.t 4))),
  ROp.mk (some 33) none (.p (.fad 4 (.t 1))),
  ROp.mk (some 34) none (.p (.fad 3 (.t 33))),
  ROp.mk (some 35) none (.d (.load 1 false (.t 34))),
  ROp.mk (some 36) none (.w (.call 198 [(.t 32), (.t 35)]))])
 (.seq (.ops [ROp.mk (some 37) none (.p (.fad 0 (.t 4))),
  ROp.mk (some 38) none (.d (.load 1 false (.t 37))),
  ROp.mk (some 39) none (.w (.call 127 [(.t 38)])),
  ROp.mk (some 40) none (.p (.ext (.t 39) 0)),
  ROp.mk (some 41) none (.p (.ext (.t 39) 1)),
  ROp.mk (some 2) none (.p (.mv (.t 40))),
  ROp.mk (some 3) none (.p (.mv (.t 41)))])
 (.ret))))))))
theorem ok118 : rFun Tryz.prog an 118 = some rf118 := by kernel_rfl

def rf119 : RF := RF.mk 20 [.t 2] false (
 .seq (.ops [ROp.mk (some 2) none (.p (.mv (.c (.bool false))))])
 (.seq (.ops [ROp.mk (some 3) none (.p (.mv (.t 0))),
  ROp.mk (some 4) none (.p (.eq true .ptr (.t 3) (.c .nilp))),
  ROp.mk (some 5) none (.p (.mv (.t 4))),
  ROp.mk (some 6) (some (5, true)) (.p (.mv (.t 0))),
  ROp.mk (some 7) (some (5, true)) (.p (.nchk (.t 6))),
  ROp.mk (some 8) (some (5, true)) (.p (.fad 1 (.t 7))),
  ROp.mk (some 9) (some (5, true)) (.d (.load 1 false (.t 8))),
  ROp.mk (some 10) (some (5, true)) (.p (.un .not (.t 9))),
  ROp.mk (some 11) none (.p (.pick (.t 5) (.t 10) (.c (.bool false)))),
  ROp.mk (some 12) none (.p (.mv (.t 11))),
  ROp.mk (some 13) (some (12, true)) (.p (.mv (.t 0))),
  ROp.mk (some 14) (some (12, true)) (.p (.nchk (.t 13))),
  ROp.mk (some 15) (some (12, true)) (.p (.fad 0 (.t 14))),
  ROp.mk (some 16) (some (12, true)) (.d (.load 1 false (.t 15))),
  ROp.mk (some 17) (some (12, true)) (.p (.lenL (.t 16))),
  ROp.mk (some 18) (some (12, true)) (.p (.arith .eql (.t 17) (.c (.int .i64 0)))),
  ROp.mk (some 19) none (.p (.pick (.t 12) (.t 18) (.c (.bool false)))),
  ROp.mk (some 2) none (.p (.mv (.t 19)))])
 (.ret)))
theorem ok119 : rFun Tryz.prog an 119 = some rf119 := by kernel_rfl

def rf120 : RF := RF.mk 26 [.t 4] false (
 .seq (.ops [ROp.mk (some 4) none (.p (.mv (.c (.bool false))))])
 (.seq (.seq (.ops [ROp.mk (some 6) none (.p (.mv (.t 0))),
  ROp.mk (some 7) none (.p (.lenL (.t 6))),
  ROp.mk (some 8) none (.p (.mv (.t 1))),
  ROp.mk (some 9) none (.p (.lenL (.t 8))),
  ROp.mk (some 10) none (.p (.arith .neq (.t 7) (.t 9)))])
 (.cond (.t 10) (.seq (.ops [ROp.mk (some 4) none (.p (.mv (.c (.bool false))))])
  (.ret))
 (.skip)))
 (.seq (.seq (.ops [ROp.mk (some 11) none (.p (.mv (.t 0))),
  ROp.mk (some 12) none (.p (.lenL (.t 11))),
  ROp.mk (some 13) none (.p (.mv (.c (.int .i64 0))))])
 (.block 0 (.loop (.seq (.ops [ROp.mk (some 14) none (.p (.arith .lss (.t 13) (.t 12)))])
   (.seq (.cond (.t 14) (.skip)
   (.exit 0))
   (.seq (.block 1 (.seq (.ops [ROp.mk (some 15) none (.p (.mv (.t 13))),
     ROp.mk (some 5) none (.p (.mv (.t 15)))])
    (.seq (.draw [(ROp.mk (some 16) none (.p (.mv (.t 0))), .p),
     (ROp.mk (some 17) none (.p (.mv (.t 5))), .p),
     (ROp.mk (some 18) none (.p (.iaL 1 (.t 16) (.t 17))), .p),
     (ROp.mk (some 19) none (.d (.load 1 false (.t 18))), .r 0 0),
     (ROp.mk (some 20) none (.p (.mv (.t 1))), .p),
     (ROp.mk (some 21) none (.p (.mv (.t 5))), .p),
     (ROp.mk (some 22) none (.p (.iaL 1 (.t 20) (.t 21))), .p),
     (ROp.mk (some 23) none (.d (.load 1 false (.t 22))), .r 0 0),
     (ROp.mk (some 24) none (.p (.arith .neq (.t 19) (.t 23))), .p)] [])
    (.cond (.t 24) (.seq (.ops [ROp.mk (some 4) none (.p (.mv (.c (.bool false))))])
     (.ret))
    (.skip)))))
   (.ops [ROp.mk (some 25) none (.p (.arith .add (.t 13) (.c (.int .i64 1)))),
    ROp.mk (some 13) none (.p (.mv (.t 25)))])))))))
 (.seq (.ops [ROp.mk (some 4) none (.p (.mv (.c (.bool true))))])
 (.ret)))))
theorem ok120 : rFun Tryz.prog an 120 = some rf120 := by kernel_rfl

def rf121 : RF := RF.mk 7 [.t 2] false (
 .seq (.ops [ROp.mk (some 2) none (.p (.mv (.c (.int .i64 0))))])
 (.seq (.ops [ROp.mk (some 3) none (.p (.mv (.t 0))),
  ROp.mk (some 4) none (.p (.arith .add (.t 3) (.c (.int .i64 32)))),
  ROp.mk (some 5) none (.p (.arith .sub (.t 4) (.c (.int .i64 1)))),
  ROp.mk (some 6) none (.p (.arith .quo (.t 5) (.c (.int .i64 32)))),
  ROp.mk (some 2) none (.p (.mv (.t 6)))])
 (.ret)))
theorem ok121 : rFun Tryz.prog an 121 = some rf121 := by kernel_rfl

def rf122 : RF := RF.mk 18 [.t 4, .t 5] false (
 .seq (.ops [ROp.mk (some 4) none (.p (.mv (.c .nils))),
  ROp.mk (some 5) none (.p (.mv (.c (.bool false))))])
 (.seq (.seq (.ops [ROp.mk (some 6) none (.p (.mv (.t 0))),
  ROp.mk (some 7) none (.p (.mv (.t 1))),
  ROp.mk (some 8) none (.w (.call 167 [(.t 6), (.t 7)])),
  ROp.mk (some 9) none (.p (.un .not (.t 8)))])
 (.cond (.t 9) (.seq (.ops [ROp.mk (some 4) none (.p (.mv (.c .nils))),
   ROp.mk (some 5) none (.p (.mv (.c (.bool false))))])
  (.ret))
 (.skip)))
 (.seq (.ops [ROp.mk (some 10) none (.p (.mv (.t 0))),
  ROp.mk (some 11) none (.p (.nchk (.t 10))),
  ROp.mk (some 12) none (.p (.fad 0 (.t 11))),
  ROp.mk (some 13) none (.d (.load 1 false (.t 12))),
  ROp.mk (some 14) none (.p (.mv (.t 1))),
  ROp.mk (some 15) none (.p (.iaL 1 (.t 13) (.t 14))),
  ROp.mk (some 16) none (.d (.load 1 false (.t 15))),
  ROp.mk (some 17) none (.w (.call 88 [(.t 16)])),
  ROp.mk (some 4) none (.p (.mv (.t 17))),
  ROp.mk (some 5) none (.p (.mv (.c (.bool true))))])
 (.ret))))
theorem ok122 : rFun Tryz.prog an 122 = some rf122 := by kernel_rfl

def rf124 : RF := RF.mk 3 [.t 0] false (
 .seq (.ops [ROp.mk (some 0) none (.p (.mv (.c .nilp)))])
 (.seq (.ops [ROp.mk (some 1) none (.p (.build [.nils, (.bool false)] [])),
  ROp.mk (some 2) none (.w (.box 2 (.t 1))),
  ROp.mk (some 0) none (.p (.mv (.t 2)))])
 (.ret)))
theorem ok124 : rFun Tryz.prog an 124 = some rf124 := by kernel_rfl

def rf125 : RF := RF.mk 38 [] false (
 .seq (.seq (.ops [ROp.mk (some 5) none (.p (.mv (.t 0))),
  ROp.mk (some 6) none (.p (.eq false .ptr (.t 5) (.c .nilp)))])
 (.cond (.t 6) (.ret)
 (.skip)))
 (.seq (.seq (.ops [ROp.mk (some 7) none (.p (.mv (.t 1))),
  ROp.mk (some 8) none (.p (.arith .lss (.t 7) (.c (.int .i64 (-2))))),
  ROp.mk (some 9) none (.p (.mv (.t 8))),
  ROp.mk (some 10) (some (9, false)) (.p (.mv (.t 1))),
  ROp.mk (some 11) (some (9, false)) (.p (.arith .gtr (.t 10) (.c (.int .i64 2147483645)))),
  ROp.mk (some 12) none (.p (.pick (.t 9) (.c (.bool true)) (.t 11)))])
 (.cond (.t 12) (.seq (.ops [ROp.mk (some 13) none (.p (.mv (.t 0))),
   ROp.mk (some 14) none (.p (.nchk (.t 13))),
   ROp.mk (some 15) none (.p (.fad 1 (.t 14))),
   ROp.mk none none (.w (.store 1 (.t 15) (.c (.bool true))))])
  (.ret))
 (.skip)))
 (.seq (.ops [ROp.mk (some 16) none (.p (.mv (.t 1))),
  ROp.mk (some 17) none (.p (.arith .add (.t 16) (.c (.int .i64 2)))),
  ROp.mk (some 4) none (.p (.mv (.t 17)))])
 (.ops [ROp.mk (some 18) none (.p (.mv (.t 0))),
  ROp.mk (some 19) none (.p (.mv (.t 0))),
  ROp.mk (some 20) none (.p (.nchk (.t 19))),
  ROp.mk (some 21) none (.p (.fad 0 (.t 20))),
  ROp.mk (some 22) none (.d (.load 1 false (.t 21))),
  ROp.mk (some 23) none (.p (.mv (.t 4))),
  ROp.mk (some 24) none (.p (.arith .shr (.t 23) (.c (.int .u64 24)))),
  ROp.mk (some 25) none (.p (.toInt .u8 (.t 24))),
  ROp.mk (some 26) none (.p (.mv (.t 4))),
  ROp.mk (some 27) none (.p (.arith .shr (.t 26) (.c (.int .u64 16)))),
  ROp.mk (some 28) none (.p (.toInt .u8 (.t 27))),
  ROp.mk (some 29) none (.p (.mv (.t 4))),
  ROp.mk (some 30) none (.p (.arith .shr (.t 29) (.c (.int .u64 8)))),
  ROp.mk (some 31) none (.p (.toInt .u8 (.t 30))),
  ROp.mk (some 32) none (.p (.mv (.t 4))),
  ROp.mk (some 33) none (.p (.toInt .u8 (.t 32))),
  ROp.mk (some 34) none (.p (.mkl [(.int .u8 0), (.int .u8 0), (.int .u8 0), (.int .u8 0)] 4 1 [(0, 1, (.t 25)), (1, 1, (.t 28)), (2, 1, (.t 31)), (3, 1, (.t 33))])),
  ROp.mk (some 35) none (.w (.app 1 1 (.t 22) (.t 34))),
  ROp.mk (some 36) none (.p (.nchk (.t 18))),
  ROp.mk (some 37) none (.p (.fad 0 (.t 36))),
  ROp.mk none none (.w (.store 1 (.t 37) (.t 35)))]))))
theorem ok125 : rFun Tryz.prog an 125 = some rf125 := by kernel_rfl

def rf126 : RF := RF.mk 20 [] false (
 .seq (.ops [ROp.mk (some 2) none (.w (.box 1 (.t 0))),
  ROp.mk (some 3) none (.w (.box 4 (.t 1)))])
 (.seq (.ops [ROp.mk (some 4) none (.p (.fad 0 (.t 2))),
  ROp.mk (some 5) none (.d (.load 1 false (.t 4))),
  ROp.mk (some 6) none (.p (.fad 0 (.t 3))),
  ROp.mk (some 7) none (.d (.load 1 false (.t 6))),
  ROp.mk (some 8) none (.p (.s2b (.t 7))),
  ROp.mk (some 9) none (.w (.call 199 [(.t 5), (.t 8)]))])
 (.seq (.ops [ROp.mk (some 10) none (.p (.fad 0 (.t 2))),
  ROp.mk (some 11) none (.d (.load 1 false (.t 10))),
  ROp.mk (some 12) none (.p (.fad 1 (.t 3))),
  ROp.mk (some 13) none (.d (.load 1 false (.t 12))),
  ROp.mk (some 14) none (.w (.call 125 [(.t 11), (.t 13)]))])
 (.ops [ROp.mk (some 15) none (.p (.fad 0 (.t 2))),
  ROp.mk (some 16) none (.d (.load 1 false (.t 15))),
  ROp.mk (some 17) none (.p (.fad 2 (.t 3))),
  ROp.mk (some 18) none (.d (.load 1 false (.t 17))),
  ROp.mk (some 19) none (.w (.call 199 [(.t 16), (.t 18)]))]))))
theorem ok126 : rFun Tryz.prog an 126 = some rf126 := by kernel_rfl

def rf127 : RF := RF.mk 18 [.t 2, .t 3] false (
 .seq (.ops [ROp.mk (some 2) none (.p (.mv (.c .nils))),
  ROp.mk (some 3) none (.p (.mv (.c (.bool false))))])
 (.seq (.seq (.ops [ROp.mk (some 4) none (.p (.mv (.t 0))),
  ROp.mk (some 5) none (.p (.eq false .ptr (.t 4) (.c .nilp))),
  ROp.mk (some 6) none (.p (.mv (.t 5))),
  ROp.mk (some 7) (some (6, false)) (.p (.mv (.t 0))),
  ROp.mk (some 8) (some (6, false)) (.p (.nchk (.t 7))),
  ROp.mk (some 9) (some (6, false)) (.p (.fad 1 (.t 8))),
  ROp.mk (some 10) (some (6, false)) (.d (.load 1 false (.t 9))),
  ROp.mk (some 11) none (.p (.pick (.t 6) (.c (.bool true)) (.t 10)))])
 (.cond (.t 11) (.seq (.ops [ROp.mk (some 2) none (.p (.mv (.c .nils))),
   ROp.mk (some 3) none (.p (.mv (.c (.bool false))))])
  (.ret))
 (.skip)))
 (.seq (.ops [ROp.mk (some 12) none (.p (.mv (.t 0))),
  ROp.mk (some 13) none (.p (.nchk (.t 12))),
  ROp.mk (some 14) none (.p (.fad 0 (.t 13))),
  ROp.mk (some 15) none (.d (.load 1 false (.t 14))),
  ROp.mk (some 16) none (.w (.call 88 [(.t 15)])),
  ROp.mk (some 17) none (.w (.call 128 [(.t 16)])),
  ROp.mk (some 2) none (.p (.mv (.t 17))),
  ROp.mk (some 3) none (.p (.mv (.c (.bool true))))])
 (.ret))))
theorem ok127 : rFun Tryz.prog an 127 = some rf127 := by kernel_rfl

def rf128 : RF := RF.mk 9 [.t 2] false (
 .seq (.ops [ROp.mk (some 2) none (.p (.mv (.c .nils)))])
 (.seq (.ops [ROp.mk (some 3) none (.p (.mv (.t 0))),
  ROp.mk (some 4) none (.p (.mv (.t 0))),
  ROp.mk (some 5) none (.p (.lenL (.t 4))),
  ROp.mk (some 6) none (.p (.mv (.t 0))),
  ROp.mk (some 7) none (.p (.lenL (.t 6))),
  ROp.mk (some 8) none (.p (.slL 1 (.t 3) none (some (.t 5)) (some (.t 7)))),
  ROp.mk (some 2) none (.p (.mv (.t 8)))])
 (.ret)))
theorem ok128 : rFun Tryz.prog an 128 = some rf128 := by kernel_rfl

def rf129 : RF := RF.mk 23 [.t 4] false (
 .seq (.ops [ROp.mk (some 4) none (.p (.mv (.c .nils)))])
 (.seq (.seq (.ops [ROp.mk (some 6) none (.p (.mv (.t 0))),
  ROp.mk (some 7) none (.p (.lenL (.t 6))),
  ROp.mk (some 8) none (.p (.arith .gtr (.t 7) (.c (.int .i64 64))))])
 (.cond (.t 8) (.ops [ROp.mk (some 9) none (.p (.mv (.t 0))),
   ROp.mk (some 10) none (.w (.call 200 [(.t 9)])),
   ROp.mk (some 0) none (.p (.mv (.t 10)))])
 (.skip)))
 (.seq (.ops [ROp.mk (some 11) none (.p (.mv (.t 0))),
  ROp.mk (some 12) none (.w (.call 202 [(.t 11), (.c (.int .u8 54))])),
  ROp.mk (some 13) none (.p (.mv (.t 1))),
  ROp.mk (some 14) none (.p (.mkl [.nils, .nils] 2 1 [(0, 1, (.t 12)), (1, 1, (.t 13))])),
  ROp.mk (some 15) none (.w (.call 201 [(.t 14)])),
  ROp.mk (some 16) none (.w (.call 200 [(.t 15)])),
  ROp.mk (some 5) none (.p (.mv (.t 16)))])
 (.seq (.ops [ROp.mk (some 17) none (.p (.mv (.t 0))),
  ROp.mk (some 18) none (.w (.call 202 [(.t 17), (.c (.int .u8 92))])),
  ROp.mk (some 19) none (.p (.mv (.t 5))),
  ROp.mk (some 20) none (.p (.mkl [.nils, .nils] 2 1 [(0, 1, (.t 18)), (1, 1, (.t 19))])),
  ROp.mk (some 21) none (.w (.call 201 [(.t 20)])),
  ROp.mk (some 22) none (.w (.call 200 [(.t 21)])),
  ROp.mk (some 4) none (.p (.mv (.t 22)))])
 (.ret)))))
theorem ok129 : rFun Tryz.prog an 129 = some rf129 := by kernel_rfl

def rf166 : RF := RF.mk 1 [.t 0] false (
 .seq (.ops [ROp.mk (some 0) none (.p (.mv (.c .nilf)))])
 (.seq (.ops [ROp.mk (some 0) none (.p (.mv (.c (.fn 235 [] []))))])
 (.ret)))
theorem ok166 : rFun Tryz.prog an 166 = some rf166 := by kernel_rfl

def rf167 : RF := RF.mk 20 [.t 4] false (
 .seq (.ops [ROp.mk (some 4) none (.p (.mv (.c (.bool false))))])
 (.seq (.ops [ROp.mk (some 5) none (.p (.mv (.t 0))),
  ROp.mk (some 6) none (.p (.eq true .ptr (.t 5) (.c .nilp))),
  ROp.mk (some 7) none (.p (.mv (.t 6))),
  ROp.mk (some 8) (some (7, true)) (.p (.mv (.t 1))),
  ROp.mk (some 9) (some (7, true)) (.p (.arith .geq (.t 8) (.c (.int .i64 0)))),
  ROp.mk (some 10) none (.p (.pick (.t 7) (.t 9) (.c (.bool false)))),
  ROp.mk (some 11) none (.p (.mv (.t 10))),
  ROp.mk (some 12) (some (11, true)) (.p (.mv (.t 1))),
  ROp.mk (some 13) (some (11, true)) (.p (.mv (.t 0))),
  ROp.mk (some 14) (some (11, true)) (.p (.nchk (.t 13))),
  ROp.mk (some 15) (some (11, true)) (.p (.fad 0 (.t 14))),
  ROp.mk (some 16) (some (11, true)) (.d (.load 1 false (.t 15))),
  ROp.mk (some 17) (some (11, true)) (.p (.lenL (.t 16))),
  ROp.mk (some 18) (some (11, true)) (.p (.arith .lss (.t 12) (.t 17))),
  ROp.mk (some 19) none (.p (.pick (.t 11) (.t 18) (.c (.bool false)))),
  ROp.mk (some 4) none (.p (.mv (.t 19)))])
 (.ret)))
theorem ok167 : rFun Tryz.prog an 167 = some rf167 := by kernel_rfl

def rf168 : RF := RF.mk 23 [.t 2] false (
 .seq (.ops [ROp.mk (some 2) none (.p (.mv (.c .nilp)))])
 (.seq (.ops [ROp.mk (some 4) none (.p (.build [.nils, (.int .i64 0), (.bool false), (.int .i64 0)] [(1, 1, (.c (.int .i64 (-1))))])),
  ROp.mk (some 5) none (.w (.box 4 (.t 4))),
  ROp.mk (some 3) none (.p (.mv (.t 5)))])
 (.seq (.seq (.ops [ROp.mk (some 6) none (.p (.mv (.t 0))),
  ROp.mk (some 7) none (.p (.maxI (.t 6) [(.c (.int .i64 0))])),
  ROp.mk (some 8) none (.p (.minI (.t 7) [(.c (.int .i64 2048))])),
  ROp.mk (some 9) none (.p (.mv (.c (.int .i64 0))))])
 (.block 0 (.loop (.seq (.ops [ROp.mk (some 10) none (.p (.arith .lss (.t 9) (.t 8)))])
   (.seq (.cond (.t 10) (.skip)
   (.exit 0))
   (.seq (.block 1 (.draw [(ROp.mk (some 11) none (.p (.mv (.t 3))), .p),
     (ROp.mk (some 12) none (.p (.mv (.t 3))), .p),
     (ROp.mk (some 13) none (.p (.nchk (.t 12))), .p),
     (ROp.mk (some 14) none (.p (.fad 0 (.t 13))), .p),
     (ROp.mk (some 15) none (.d (.load 1 false (.t 14))), .r 0 1),
     (ROp.mk (some 16) none (.w (.mks [(.int .u8 0)] 1 1 (.c (.int .i64 32)) (.c (.int .i64 32)))), .w),
     (ROp.mk (some 17) none (.p (.mkl [.nils] 1 1 [(0, 1, (.t 16))])), .p),
     (ROp.mk (some 18) none (.w (.app 1 24 (.t 15) (.t 17))), .w),
     (ROp.mk (some 19) none (.p (.nchk (.t 11))), .p),
     (ROp.mk (some 20) none (.p (.fad 0 (.t 19))), .p),
     (ROp.mk none none (.w (.store 1 (.t 20) (.t 18))), .w)] []))
   (.ops [ROp.mk (some 21) none (.p (.arith .add (.t 9) (.c (.int .i64 1)))),
    ROp.mk (some 9) none (.p (.mv (.t 21)))])))))))
 (.seq (.ops [ROp.mk (some 22) none (.p (.mv (.t 3))),
  ROp.mk (some 2) none (.p (.mv (.t 22)))])
 (.ret)))))
theorem ok168 : rFun Tryz.prog an 168 = some rf168 := by kernel_rfl

def rf169 : RF := RF.mk 25 [.cell 2 8 true] false (
 .seq (.ops [ROp.mk (some 1) none (.w (.box 8 (.t 0))),
  ROp.mk (some 2) none (.w (.alloc [(.int .i64 0), (.int .i64 0), (.int .i64 0), .nils, (.int .i64 0), (.int .i64 0), (.int .i64 0), .nils]))])
 (.seq (.seq (.ops [ROp.mk (some 3) none (.p (.fad 4 (.t 1))),
  ROp.mk (some 4) none (.p (.fad 1 (.t 3))),
  ROp.mk (some 5) none (.d (.load 1 false (.t 4))),
  ROp.mk (some 6) none (.p (.arith .eql (.t 5) (.c (.int .i64 1))))])
 (.cond (.t 6) (.ops [ROp.mk (some 7) none (.p (.fad 3 (.t 1))),
   ROp.mk (some 8) none (.d (.load 1 false (.t 7))),
   ROp.mk (some 9) none (.p (.fad 4 (.t 1))),
   ROp.mk (some 10) none (.p (.fad 3 (.t 9))),
   ROp.mk (some 11) none (.d (.load 1 false (.t 10))),
   ROp.mk (some 12) none (.w (.call 237 [(.t 8), (.t 11)])),
   ROp.mk (some 13) none (.p (.fad 3 (.t 1))),
   ROp.mk none none (.w (.store 1 (.t 13) (.t 12)))])
 (.ops [ROp.mk (some 14) none (.p (.fad 4 (.t 1))),
   ROp.mk (some 15) none (.p (.fad 3 (.t 14))),
   ROp.mk (some 16) none (.d (.load 1 false (.t 15))),
   ROp.mk (some 17) none (.p (.fad 3 (.t 1))),
   ROp.mk none none (.w (.store 1 (.t 17) (.t 16)))])))
 (.seq (.ops [ROp.mk (some 18) none (.p (.fad 4 (.t 1))),
  ROp.mk (some 19) none (.p (.fad 2 (.t 18))),
  ROp.mk (some 20) none (.d (.load 1 false (.t 19))),
  ROp.mk (some 21) none (.p (.build [(.int .i64 0), (.int .i64 0), (.int .i64 0), .nils] [])),
  ROp.mk (some 22) none (.p (.fad 0 (.t 1))),
  ROp.mk none none (.w (.store 1 (.t 22) (.t 20))),
  ROp.mk (some 23) none (.p (.fad 4 (.t 1))),
  ROp.mk none none (.w (.store 4 (.t 23) (.t 21)))])
 (.seq (.ops [ROp.mk (some 24) none (.d (.load 8 true (.t 1))),
  ROp.mk none none (.w (.store 8 (.t 2) (.t 24)))])
 (.ret)))))
theorem ok169 : rFun Tryz.prog an 169 = some rf169 := by kernel_rfl

end Go.Proofs.YtnhbkimefglkiaaGreatDoor.HolderNone
