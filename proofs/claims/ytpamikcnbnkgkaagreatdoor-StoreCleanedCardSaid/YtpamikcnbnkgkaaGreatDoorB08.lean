/- All calls up to rank 5. -/
import Derived.Test.YtpamikcnbnkgkaaGreatDoorB07
set_option linter.all false
set_option maxRecDepth 1000000
set_option maxHeartbeats 0
namespace Go.Ev
noncomputable section
def A6 : List Ent := L5aa ++ (L5ab ++ (L5ac ++ (L5ad ++ (L5ae ++ (L5af ++ (L5ag ++ (L5ah ++ (L5ai ++ (L5aj ++ (L5ak ++ (L5al ++ A5)))))))))))
theorem okA6 : AllOK A6 := (L5aa_ok.app (L5ab_ok.app (L5ac_ok.app (L5ad_ok.app (L5ae_ok.app (L5af_ok.app (L5ag_ok.app (L5ah_ok.app (L5ai_ok.app (L5aj_ok.app (L5ak_ok.app (L5al_ok.app okA5))))))))))))
end
end Go.Ev
set_option maxRecDepth 1000000
set_option maxHeartbeats 0
namespace Go.Ev
noncomputable section
def L6aa : List Ent := [
 N 40 0 [K 12 0 2 2] 15 [(12,C 104 [xc,x0,xk,x0,x0,x0,Z,x0,x0,x1,xf,xz,x0,x1,x1,x1,x0,x0,x1,x1,xc,x0,xc,xc,x0,x0,x11,x0,x0,x1,x1,Z,x0,x1,x1,x1,x0,x0,x1,x1]),(14,x1r),(13,xo)] xd 15 [],
 N 40 0 [K 12 0 3 3] 16 [(12,C 104 [xc,x0,xk,x0,x0,x0,Z,x0,x0,x1,xf,xz,x0,x1,x1,x1,x0,x0,x1,x1,xc,x0,xc,xc,x0,x0,x11,x0,x0,x1,x1,Z,x0,x1,x1,x1,x0,x0,x1,x1,xc,x0,xc,xm,x0,x0,x1f,x0,x0,x1,x1,Z,x0,x1,x1,x1,x0,x0,x1,x1]),(15,x1u),(14,x1r),(13,xo)] xd 16 [],
 N 40 0 [K 12 0 4 4] 17 [(12,C 104 [xc,x0,xk,x0,x0,x0,Z,x0,x0,x1,xf,xz,x0,x1,x1,x1,x0,x0,x1,x1,xc,x0,xc,xc,x0,x0,x11,x0,x0,x1,x1,Z,x0,x1,x1,x1,x0,x0,x1,x1,xc,x0,xc,xm,x0,x0,x1f,x0,x0,x1,x1,Z,x0,x1,x1,x1,x0,x0,x1,x1,xc,x0,xc,xk,x0,x0,x2t,x0,x0,x1,x1,Z,x0,x1,x1,x1,x0,x0,x1,x1]),(16,x1x),(15,x1u),(14,x1r),(13,xo)] xd 17 [],
 N 40 0 [xg] 17 [(12,C 104 [xc,x0,xk,x0,x0,x0,Z,x0,x0,x1,xf,xz,x0,x1,x1,x1,x0,x0,x1,x1,xc,x0,xc,xc,x0,x0,x11,x0,x0,x1,x1,Z,x0,x1,x1,x1,x0,x0,x1,x1,xc,x0,xc,xm,x0,x0,x1f,x0,x0,x1,x1,Z,x0,x1,x1,x1,x0,x0,x1,x1,xc,x0,xc,xk,x0,x0,x2t,x0,x0,x1,x1,Z,x0,x1,x1,x1,x0,x0,x1,x1,xc,x0,xm,x0,x0,x0,Z,xm,x0,xi,x1,Z,x0,x1,x1,x1,x0,x0,x1,x1]),(16,x1x),(15,x1u),(14,x1r),(13,xo)] xd 17 [],
 N 40 0 x1c 14 [(12,C 104 [xc,xc,xc,xc,x0,x0,x12,x0,x0,x1,x1,Z,x0,x1,x1,x1,x0,x0,x1,x1]),(13,x14)] xd 14 [],
 N 40 0 x1c 14 [(12,C 104 [xc,xc,xc,xm,x0,x0,x12,x0,x0,x1,x1,Z,x0,x1,x1,x1,x0,x0,x1,x1]),(13,x16)] xd 14 [],
 N 40 0 x1c 14 [(12,C 104 [xc,xc,xc,xk,x0,x0,x12,x0,x0,x1,x1,Z,x0,x1,x1,x1,x0,x0,x1,x1]),(13,x18)] xd 14 [],
 N 40 0 [x49] 17 x4a xd 17 [],
 N 40 0 x1c 14 [(12,C 104 x52),(13,x1r)] xd 14 [],
 N 40 0 [S 12 0 7 20] 18 x5a xd 18 [],
 N 40 0 x1c 14 [(12,C 104 x5i),(13,x5d)] xd 14 [],
 N 40 0 [x5q] 19 x5r xd 19 [],
 N 40 0 x1c 14 [(12,C 104 [x9,xc,xc,xc,x0,x0,xz,x0,x0,x1,x1,Z,x0,x1,x1,x1,x0,x0,x1,x1]),(13,x5v)] xd 14 [],
 N 40 0 [S 12 0 9 20] 20 x6d xd 20 [],
 N 40 0 x1c 14 [(12,C 104 [xl,xc,xc,xc,x0,x0,xz,x0,x0,x1,x1,Z,x0,x1,x1,x1,x0,x0,x1,x1]),(13,x6g)] xd 14 []]
theorem L6aa_t : entsB (envT EB (mkT A6)) L6aa = true := by decide +kernel
theorem L6aa_ok : AllOK L6aa := entsB_ok (like_of okA6) L6aa_t
end
end Go.Ev
set_option maxRecDepth 1000000
set_option maxHeartbeats 0
namespace Go.Ev
noncomputable section
def L6ab : List Ent := [
 N 40 0 [S 12 0 10 20] 21 x6u xd 21 [],
 N 40 0 x1c 14 [(12,C 104 [I 6,xc,xc,xc,x0,x0,xz,x0,x0,x1,x1,Z,x0,x1,x1,x1,x0,x0,x1,x1]),(13,x6x)] xd 14 [],
 N 40 0 [S 12 0 11 20] 22 x7a xd 22 [],
 N 40 0 x1c 14 [(12,C 104 [I 7,xc,xc,xc,x0,x0,xz,x0,x0,x1,x1,Z,x0,x1,x1,x1,x0,x0,x1,x1]),(13,x7d)] xd 14 [],
 N 40 0 [S 12 0 12 20] 23 x7w xd 23 [],
 N 40 0 x1c 14 [(12,C 104 [x3,xc,xc,xc,x0,x0,xz,x0,x0,x1,x1,Z,x0,x1,x1,x1,x0,x0,x1,x1]),(13,x7z)] xd 14 [],
 N 40 0 [S 12 0 13 20] 24 x8d xd 24 [],
 N 40 0 x1c 14 [(12,C 104 [I 9,xc,xc,xc,x0,x0,xz,x0,x0,x1,x1,Z,x0,x1,x1,x1,x0,x0,x1,x1]),(13,x8g)] xd 14 []]
theorem L6ab_t : entsB (envT EB (mkT A6)) L6ab = true := by decide +kernel
theorem L6ab_ok : AllOK L6ab := entsB_ok (like_of okA6) L6ab_t
end
end Go.Ev
set_option maxRecDepth 1000000
set_option maxHeartbeats 0
namespace Go.Ev
noncomputable section
def L6ac : List Ent := [
 N 40 0 [S 12 0 14 20] 25 x8v xd 25 [],
 N 40 0 x1c 14 [(12,C 104 [x93,xc,xc,xc,x0,x0,xz,x0,x0,x1,x1,Z,x0,x1,x1,x1,x0,x0,x1,x1]),(13,x8y)] xd 14 [],
 N 40 0 [x49] 17 x9g xd 17 [],
 N 40 0 [S 12 0 5 20] 16 [(12,D 104 [xc,xc,xk,x0,x0,x0,Z,x0,x0,x1,xf,x12,x0,x1,x1,x1,x0,x0,x1,x1,xc,xc,xc,xm,x0,x0,x11,x0,x0,x1,x1,Z,x0,x1,x1,x1,x0,x0,x1,x1,xc,xc,xc,xk,x0,x0,x1f,x0,x0,x1,x1,Z,x0,x1,x1,x1,x0,x0,x1,x1,xc,xc,xm,x0,x0,x0,Z,xm,x0,xi,x1,Z,x0,x1,x1,x1,x0,x0,x1,x1,xc,xc,xm,x0,x0,x0,Z,xc,x0,xx,x1,Z,x0,x1,x1,x1,x0,x0,x1,x1]),(15,x1x),(14,x1u),(13,x1a)] xd 16 [],
 N 40 0 [x5q] 19 x9w xd 19 [],
 N 40 0 [x49] 17 x9z xd 17 [],
 N 40 0 x1c 14 [(12,C 104 [x93,xc,xc,xc,x0,x0,xz,x0,x0,x1,x1,Z,x0,x1,x1,x1,x0,x0,x1,x1]),(13,xa5)] xd 14 []]
theorem L6ac_t : entsB (envT EB (mkT A6)) L6ac = true := by decide +kernel
theorem L6ac_ok : AllOK L6ac := entsB_ok (like_of okA6) L6ac_t
end
end Go.Ev
set_option maxRecDepth 1000000
set_option maxHeartbeats 0
namespace Go.Ev
noncomputable section
def L6ad : List Ent := [
 N 40 0 [S 12 0 15 20] 26 xc5 xd 26 [],
 N 40 0 x1c 14 [(12,C 104 [xai,xc,xc,xc,x0,x0,xz,x0,x0,x1,x1,Z,x0,x1,x1,x1,x0,x0,x1,x1]),(13,xc8)] xd 14 [],
 N 40 0 [S 12 0 16 20] 27 xcl xd 27 [],
 N 40 0 x1c 14 [(12,C 104 [xak,xc,xc,xc,x0,x0,xz,x0,x0,x1,x1,Z,x0,x1,x1,x1,x0,x0,x1,x1]),(13,xco)] xd 14 [],
 N 40 0 [S 12 0 17 20] 28 xd3 xd 28 [],
 N 40 0 x1c 14 [(12,C 104 [xam,xc,xc,xc,x0,x0,xz,x0,x0,x1,x1,Z,x0,x1,x1,x1,x0,x0,x1,x1]),(13,xd6)] xd 14 []]
theorem L6ad_t : entsB (envT EB (mkT A6)) L6ad = true := by decide +kernel
theorem L6ad_ok : AllOK L6ad := entsB_ok (like_of okA6) L6ad_t
end
end Go.Ev
set_option maxRecDepth 1000000
set_option maxHeartbeats 0
namespace Go.Ev
noncomputable section
def L6ae : List Ent := [
 N 40 0 [x49] 17 xdg xd 17 [],
 N 40 0 [x5q] 19 xds xd 19 [],
 N 40 0 [x49] 17 xdu xd 17 [],
 N 40 0 x1c 14 [(12,C 104 [xam,xc,xc,xc,x0,x0,xz,x0,x0,x1,x1,Z,x0,x1,x1,x1,x0,x0,x1,x1]),(13,xa5)] xd 14 [],
 N 40 0 [S 12 0 18 20] 29 xeg xd 29 [],
 N 40 0 x1c 14 [(12,C 104 [xao,xc,xc,xc,x0,x0,xz,x0,x0,x1,x1,Z,x0,x1,x1,x1,x0,x0,x1,x1]),(13,xej)] xd 14 []]
theorem L6ae_t : entsB (envT EB (mkT A6)) L6ae = true := by decide +kernel
theorem L6ae_ok : AllOK L6ae := entsB_ok (like_of okA6) L6ae_t
end
end Go.Ev
set_option maxRecDepth 1000000
set_option maxHeartbeats 0
namespace Go.Ev
noncomputable section
def L6af : List Ent := [
 N 40 0 [S 12 0 19 20] 30 xeu xd 30 [],
 N 40 0 x1c 14 [(12,C 104 [xaq,xc,xc,xc,x0,x0,xz,x0,x0,x1,x1,Z,x0,x1,x1,x1,x0,x0,x1,x1]),(13,xex)] xd 14 [],
 N 40 0 [S 12 0 20 20] 31 xf9 xd 31 [],
 N 40 0 x1c 14 [(12,C 104 [I 16,xc,xc,xc,x0,x0,xz,x0,x0,x1,x1,Z,x0,x1,x1,x1,x0,x0,x1,x1]),(13,xfb)] xd 14 [],
 N 40 0 [x49] 17 xfh xd 17 []]
theorem L6af_t : entsB (envT EB (mkT A6)) L6af = true := by decide +kernel
theorem L6af_ok : AllOK L6af := entsB_ok (like_of okA6) L6af_t
end
end Go.Ev
set_option maxRecDepth 1000000
set_option maxHeartbeats 0
namespace Go.Ev
noncomputable section
def L6ag : List Ent := [
 N 40 0 [x5q] 19 xfr xd 19 [],
 N 40 0 [x49] 17 xft xd 17 [],
 N 40 0 x1c 14 [(12,C 104 [I 16,xc,xc,xc,x0,x0,xz,x0,x0,x1,x1,Z,x0,x1,x1,x1,x0,x0,x1,x1]),(13,xa5)] xd 14 [],
 N 179 4 [x44] 12 [] (.t [x3q,x0]) 17 [(12,D 100 [xk,x0,x0,x0,Z,x0,x0,x1,xf,x12,x0,x1,x1,x1,x0,x0,x1,x1,xc,xc,x0,x0,x2j,x0,x0,x1,x1,Z,x0,x1,x1,x1,x0,x0,x1,x1,xc,xm,x0,x0,x2k,x0,x0,x1,x1,Z,x0,x1,x1,x1,x0,x0,x1,x1,xc,xk,x0,x0,x2l,x0,x0,x1,x1,Z,x0,x1,x1,x1,x0,x0,x1,x1,xm,x0,x0,x0,Z,xm,x0,xi,x1,Z,x0,x1,x1,x1,x0,x0,x1,x1,xm,x0,x0,x0,Z,xc,x0,xx,x1,Z,x0,x1,x1,x1,x0,x0,x1,x1]),(13,x1a),(14,x14),(15,x16),(16,x18)],
 N 179 4 [x58] 12 [] (.t [.a [xc,xm,x9,x4b,Z],x0]) 14 [(12,D 100 x34),(13,x14)],
 N 179 4 [x5m] 12 [] (.t [.a [xc,xk,x9,x4b,Z],x0]) 14 [(12,D 100 x34),(13,x5o)],
 N 179 4 [x69] 12 [] (.t [.a [xc,x9,x9,x4b,Z],x0]) 14 [(12,D 100 x34),(13,x6b)],
 N 179 4 [x6r] 12 [] (.t [.a [xc,xl,x9,x4b,Z],x0]) 14 [(12,D 100 x34),(13,x6t)],
 N 179 4 [x77] 12 [] (.t [.a [xc,I 6,x9,x4b,Z],x0]) 14 [(12,D 100 x34),(13,x79)],
 N 179 4 [x7t] 12 [] (.t [.a [xc,I 7,x9,x4b,Z],x0]) 14 [(12,D 100 x34),(13,x7v)],
 N 179 4 [x8a] 12 [] (.t [.a [xc,x3,x9,x4b,Z],x0]) 14 [(12,D 100 x34),(13,x8c)],
 N 179 4 [x8s] 12 [] (.t [.a [xc,I 9,x9,x4b,Z],x0]) 14 [(12,D 100 x34),(13,x8u)],
 N 179 4 [x9s] 12 [] (.t [.a [xm,I 9,x9,S 12 0 5 18,S 13 0 5 1],x0]) 17 x9v,
 N 179 4 [xc2] 12 [] (.t [.a [xc,x93,x9,x4b,Z],x0]) 14 [(12,D 100 x34),(13,xc4)],
 N 179 4 [xci] 12 [] (.t [.a [xc,xai,x9,x4b,Z],x0]) 14 [(12,D 100 x34),(13,xck)],
 N 179 4 [xd0] 12 [] (.t [.a [xc,xak,x9,x4b,Z],x0]) 14 [(12,D 100 x34),(13,xd2)],
 N 179 4 [xdp] 12 [] (.t [.a [xm,xak,x9,S 12 0 5 18,S 13 0 5 1],x0]) 17 x9v,
 N 179 4 [xed] 12 [] (.t [.a [xc,xam,x9,x4b,Z],x0]) 14 [(12,D 100 x34),(13,xef)],
 N 179 4 [xer] 12 [] (.t [.a [xc,xao,x9,x4b,Z],x0]) 14 [(12,D 100 x34),(13,xet)],
 N 179 4 [xf6] 12 [] (.t [.a [xc,xaq,x9,x4b,Z],x0]) 14 [(12,D 100 x34),(13,xf8)],
 N 179 4 [xfo] 12 [] (.t [.a [xm,xaq,x9,S 12 0 5 18,S 13 0 5 1],x0]) 17 x9v,
 N 341 0 [x2,x0,x0] 16 [(12,C 423 [S 13 0 1 3,M 14]),(14,.mp [] 0),(13,D 215 [xf,x1f,Z]),(15,xo)] x1g 19 x1j,
 N 341 0 [x2,x0,x0] 16 [(12,C 423 [K 13 0 1 1,M 14]),(14,.mp [] 0),(13,C 215 [xf,x1f,Z]),(15,xo)] x1g 19 x1j,
 N 478 0 x1k 15 x1l xj 15 [],
 N 478 0 [x1d,.a [xm,x0,x0,x12]] 15 x1n xj 15 [],
 N 478 0 [x1d,.a [xk,x0,x0,x12]] 15 x1o xj 15 [],
 N 478 0 x26 15 x27 xj 15 [],
 N 478 0 x26 15 x5e xj 15 [],
 N 478 0 x26 15 x5w xj 15 []]
theorem L6ag_t : entsB (envT EB (mkT A6)) L6ag = true := by decide +kernel
theorem L6ag_ok : AllOK L6ag := entsB_ok (like_of okA6) L6ag_t
end
end Go.Ev
set_option maxRecDepth 1000000
set_option maxHeartbeats 0
namespace Go.Ev
noncomputable section
def L6ah : List Ent := [
 N 478 0 x26 15 x6h xj 15 [],
 N 478 0 x26 15 x6y xj 15 [],
 N 478 0 x26 15 x7e xj 15 [],
 N 478 0 x26 15 x80 xj 15 [],
 N 478 0 x26 15 x8h xj 15 [],
 N 478 0 x26 15 x8z xj 15 [],
 N 478 0 x26 15 xa6 xj 15 [],
 N 478 0 x26 15 xc9 xj 15 [],
 N 478 0 x26 15 xcp xj 15 [],
 N 478 0 x26 15 xd7 xj 15 [],
 N 478 0 x26 15 xek xj 15 [],
 N 478 0 x26 15 xey xj 15 [],
 N 478 0 x26 15 xfc xj 15 []]
theorem L6ah_t : entsB (envT EB (mkT A6)) L6ah = true := by decide +kernel
theorem L6ah_ok : AllOK L6ah := entsB_ok (like_of okA6) L6ah_t
end
end Go.Ev
set_option maxRecDepth 1000000
set_option maxHeartbeats 0
namespace Go.Ev
noncomputable section
def A7 : List Ent := L6aa ++ (L6ab ++ (L6ac ++ (L6ad ++ (L6ae ++ (L6af ++ (L6ag ++ (L6ah ++ A6)))))))
theorem okA7 : AllOK A7 := (L6aa_ok.app (L6ab_ok.app (L6ac_ok.app (L6ad_ok.app (L6ae_ok.app (L6af_ok.app (L6ag_ok.app (L6ah_ok.app okA6))))))))
end
end Go.Ev
