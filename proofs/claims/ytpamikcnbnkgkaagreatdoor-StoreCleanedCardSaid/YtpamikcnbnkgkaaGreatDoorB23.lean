/- Calls that are proved, rank 10. -/
import Derived.Test.YtpamikcnbnkgkaaGreatDoorB22
set_option linter.all false
set_option maxRecDepth 1000000
set_option maxHeartbeats 0
namespace Go.Ev
noncomputable section
def L10aa : List Ent := [
 N 4 0 [] 12 [] xj 12 [],
 N 7 0 x46 14 x4f (.t [x7,xj]) 17 [(13,x4i),(14,x4j),(15,x45),(16,C 176 ([x2,x3,xl,xc,x9]++x3w++x3x))],
 N 7 0 x46 14 xbr (.t [x7,xj]) 17 [(13,xbu),(14,x4j),(15,x45),(16,C 176 ([x2,x3,I 6,xc,x9]++x3w++x3x))],
 N 7 0 x46 14 xe0 (.t [x7,xj]) 17 [(13,xe3),(14,x4j),(15,x45),(16,C 176 ([x2,x3,I 7,xc,x9]++x3w++x3x))],
 N 16 0 x9b 21 x9u x9d 23 [(12,C 87 [S 22 0 4 2,x7,x3,I 9,x9,I 9,N0,x5]),(14,C 176 ([P 19 0,x3,xl,x0,x0,x0,x0,xk,I 7,x9,x9]++x9l++x9m)),(15,C 330 [S 21 0 1 1,M 17,M 18]),(17,.mp [] 3),(18,.mp [(xc,xj,0),(xm,xj,1),(xk,xj,2)] 3),(20,x9r),(21,D 3 [xk]),(22,x9t),(16,.gone),(13,.gone)],
 N 16 0 x9b 21 xa3 x9k 22 [(12,C 87 [x9x,x7,x3,I 9,x9,I 9,N0,x5]),(15,C 330 [S 21 0 1 1,M 17,M 18]),(17,.mp [] 3),(18,.mp [(xc,xj,0),(xm,xj,1),(xk,xj,2)] 3),(21,D 3 [xk]),(16,.gone)],
 N 16 0 xac 21 x9u x9d 23 [(12,C 87 [S 22 0 4 2,x7,x3,I 9,x9,I 9,N0,x5]),(14,C 176 ([P 19 0,x3,xl,x0,x0,x0,x0,xk,I 7,x9,x9]++x9l++x9m)),(15,C 330 [S 21 0 0 1,M 17,M 18]),(17,.mp [] 3),(18,.mp [(xc,xj,0),(xm,xj,1),(xk,xj,2)] 3),(20,x9r),(21,D 3 [xk]),(22,x9t),(16,.gone),(13,.gone)],
 N 16 0 xac 21 xa3 x9k 22 [(12,C 87 [x9x,x7,x3,I 9,x9,I 9,N0,x5]),(15,C 330 [S 21 0 0 1,M 17,M 18]),(17,.mp [] 3),(18,.mp [(xc,xj,0),(xm,xj,1),(xk,xj,2)] 3),(21,D 3 [xk]),(16,.gone)],
 N 16 0 [x2,xk] 17 x9c x9d 18 xad]
theorem L10aa_t : entsB (envT EB (mkT A10)) L10aa = true := by decide +kernel
theorem L10aa_ok : AllOK L10aa := entsB_ok (like_of okA10) L10aa_t
end
end Go.Ev
set_option maxRecDepth 1000000
set_option maxHeartbeats 0
namespace Go.Ev
noncomputable section
def L10ag : List Ent := [
 N 16 0 xas 17 x9c x9d 18 xad,
 N 16 0 xas 17 x9y x9k 17 [],
 N 16 0 xat 17 x9c x9d 18 xad,
 N 16 0 xat 17 x9y x9k 17 [],
 N 16 0 xau 17 x9c x9d 18 xad]
theorem L10ag_t : entsB (envT EB (mkT A10)) L10ag = true := by decide +kernel
theorem L10ag_ok : AllOK L10ag := entsB_ok (like_of okA10) L10ag_t
end
end Go.Ev
set_option maxRecDepth 1000000
set_option maxHeartbeats 0
namespace Go.Ev
noncomputable section
def L10am : List Ent := [
 N 16 0 xb7 17 x9c x9d 18 xad,
 N 16 0 xb7 17 x9y x9k 17 [],
 N 16 0 xb8 17 x9c x9d 18 xad,
 N 16 0 xb8 17 x9y x9k 17 [],
 N 16 0 xb9 17 x9c x9d 18 xad]
theorem L10am_t : entsB (envT EB (mkT A10)) L10am = true := by decide +kernel
theorem L10am_ok : AllOK L10am := entsB_ok (like_of okA10) L10am_t
end
end Go.Ev
set_option maxRecDepth 1000000
set_option maxHeartbeats 0
namespace Go.Ev
noncomputable section
def L10as : List Ent := [
 N 16 0 xbm 17 x9c x9d 18 xad,
 N 16 0 xbm 17 x9y x9k 17 [],
 N 16 0 xbn 17 x9c x9d 18 xad,
 N 16 0 xbn 17 x9y x9k 17 [],
 N 16 0 xbo 17 x9c x9d 18 xad]
theorem L10as_t : entsB (envT EB (mkT A10)) L10as = true := by decide +kernel
theorem L10as_ok : AllOK L10as := entsB_ok (like_of okA10) L10as_t
end
end Go.Ev
set_option maxRecDepth 1000000
set_option maxHeartbeats 0
namespace Go.Ev
noncomputable section
def L10ay : List Ent := [
 N 16 0 xaj 17 xdt x9k 17 [],
 N 16 0 xal 17 xdf x9d 18 xdz,
 N 16 0 xal 17 xdt x9k 17 [],
 N 16 0 xan 17 xdf x9d 18 xdz,
 N 16 0 xan 17 xdt x9k 17 []]
theorem L10ay_t : entsB (envT EB (mkT A10)) L10ay = true := by decide +kernel
theorem L10ay_ok : AllOK L10ay := entsB_ok (like_of okA10) L10ay_t
end
end Go.Ev
set_option maxRecDepth 1000000
set_option maxHeartbeats 0
namespace Go.Ev
noncomputable section
def L10be : List Ent := [
 N 16 0 xb2 17 xdt x9k 17 [],
 N 16 0 xb3 17 xdf x9d 18 xdz,
 N 16 0 xb3 17 xdt x9k 17 [],
 N 16 0 xb4 17 xdf x9d 18 xdz,
 N 16 0 xb4 17 xdt x9k 17 []]
theorem L10be_t : entsB (envT EB (mkT A10)) L10be = true := by decide +kernel
theorem L10be_ok : AllOK L10be := entsB_ok (like_of okA10) L10be_t
end
end Go.Ev
set_option maxRecDepth 1000000
set_option maxHeartbeats 0
namespace Go.Ev
noncomputable section
def L10bk : List Ent := [
 N 16 0 xbh 17 xdt x9k 17 [],
 N 16 0 xbi 17 xdf x9d 18 xdz,
 N 16 0 xbi 17 xdt x9k 17 [],
 N 16 0 xbj 17 xdf x9d 18 xdz,
 N 16 0 xbj 17 xdt x9k 17 []]
theorem L10bk_t : entsB (envT EB (mkT A10)) L10bk = true := by decide +kernel
theorem L10bk_ok : AllOK L10bk := entsB_ok (like_of okA10) L10bk_t
end
end Go.Ev
set_option maxRecDepth 1000000
set_option maxHeartbeats 0
namespace Go.Ev
noncomputable section
def L10bq : List Ent := [
 N 16 0 xaf 17 xfg x9d 18 xfy,
 N 16 0 xaf 17 xfs x9k 17 [],
 N 16 0 x4 17 xfg x9d 18 xfy,
 N 16 0 x4 17 xfs x9k 17 []]
theorem L10bq_t : entsB (envT EB (mkT A10)) L10bq = true := by decide +kernel
theorem L10bq_ok : AllOK L10bq := entsB_ok (like_of okA10) L10bq_t
end
end Go.Ev
set_option maxRecDepth 1000000
set_option maxHeartbeats 0
namespace Go.Ev
noncomputable section
def L10bw : List Ent := [
 N 16 0 xav 17 xfg x9d 18 xfy,
 N 16 0 xav 17 xfs x9k 17 [],
 N 16 0 xaw 17 xfg x9d 18 xfy,
 N 16 0 xaw 17 xfs x9k 17 []]
theorem L10bw_t : entsB (envT EB (mkT A10)) L10bw = true := by decide +kernel
theorem L10bw_ok : AllOK L10bw := entsB_ok (like_of okA10) L10bw_t
end
end Go.Ev
set_option maxRecDepth 1000000
set_option maxHeartbeats 0
namespace Go.Ev
noncomputable section
def L10cc : List Ent := [
 N 16 0 xb7 17 xfg x9d 18 xfy,
 N 16 0 xb7 17 xfs x9k 17 [],
 N 16 0 xb8 17 xfg x9d 18 xfy,
 N 16 0 xb8 17 xfs x9k 17 []]
theorem L10cc_t : entsB (envT EB (mkT A10)) L10cc = true := by decide +kernel
theorem L10cc_ok : AllOK L10cc := entsB_ok (like_of okA10) L10cc_t
end
end Go.Ev
set_option maxRecDepth 1000000
set_option maxHeartbeats 0
namespace Go.Ev
noncomputable section
def L10ci : List Ent := [
 N 16 0 xbj 17 xfg x9d 18 xfy,
 N 16 0 xbj 17 xfs x9k 17 [],
 N 16 0 xbk 17 xfg x9d 18 xfy,
 N 16 0 xbk 17 xfs x9k 17 []]
theorem L10ci_t : entsB (envT EB (mkT A10)) L10ci = true := by decide +kernel
theorem L10ci_ok : AllOK L10ci := entsB_ok (like_of okA10) L10ci_t
end
end Go.Ev
