/- Calls that are proved, rank 9. -/
import Derived.Test.YtpamikcnbnkgkaaGreatDoorB17
set_option linter.all false
set_option maxRecDepth 1000000
set_option maxHeartbeats 0
namespace Go.Ev
noncomputable section
def L9ad : List Ent := [
 N 8 0 x3u 19 [(13,C 49 [xk,x4c]),(14,C 46 x5t),(12,C 87 [S 15 0 3 2,x22,x3,xk,x9,x0,N0,x5]),(16,C 176 ([x23,x3,xl,xc,x3]++x3w++x3x)),(17,C 75 [K 18 0 40 40,Z,x5,x0]),(18,C 188 (x4g++x3y++x4h++x3z++x40++x41++x54++x55++x56++x41++x5j++x55++x5k++x41++x5l++(Q 2048 x6))),(15,x5n)] x53 21 [(12,C 87 [S 20 0 4 2,x22,x3,x9,x9,x0,N0,x5]),(16,C 176 ([x23,x3,xl,xc,x3,xm,xk]++x62++x63)),(18,C 188 (x4g++x3y++x4h++x3z++x40++x41++x54++x55++x56++x41++x5j++x55++x5k++x41++x64++x65++x66++x55++x67++x41++x68++(Q 1856 x6))),(19,C 24 [x0]),(20,x6a),(15,.gone)]]
theorem L9ad_t : entsB (envT EB (mkT A9)) L9ad = true := by decide +kernel
theorem L9ad_ok : AllOK L9ad := entsB_ok (like_of okA9) L9ad_t
end
end Go.Ev
set_option maxRecDepth 1000000
set_option maxHeartbeats 0
namespace Go.Ev
noncomputable section
def L9ah : List Ent := [
 N 8 0 x3u 19 [(13,C 49 [I 7,x4c]),(14,C 46 x7x),(12,C 87 [S 15 0 7 2,x22,x3,I 7,x9,x0,N0,x5]),(16,C 176 ([x23,x3,xl,xc,x3,xm,I 7,xk,xk]++x7l++x7m)),(17,C 75 [K 18 0 40 40,Z,x5,x0]),(18,C 188 (x4g++x3y++x4h++x3z++x40++x41++x54++x55++x56++x41++x5j++x55++x5k++x41++x64++x65++x66++x55++x67++x41++x6o++x55++x6p++x41++x74++x55++x75++x41++x76++x7n++x7o++x7p++x7q++x55++x7r++x41++x7s++(Q 1344 x6))),(15,x7u)] x53 21 [(12,C 87 [S 20 0 8 2,x22,x3,x3,x9,x0,N0,x5]),(16,C 176 ([x23,x3,xl,xc,x3,xm,I 7,xk,xl]++x7l++x7m)),(18,C 188 (x4g++x3y++x4h++x3z++x40++x41++x54++x55++x56++x41++x5j++x55++x5k++x41++x64++x65++x66++x55++x67++x41++x6o++x55++x6p++x41++x74++x55++x75++x41++x76++x7n++x7o++x7p++x7q++x55++x7r++x41++x87++x55++x88++x41++x89++(Q 1216 x6))),(19,C 24 [x0]),(20,x8b),(15,.gone)]]
theorem L9ah_t : entsB (envT EB (mkT A9)) L9ah = true := by decide +kernel
theorem L9ah_ok : AllOK L9ah := entsB_ok (like_of okA9) L9ah_t
end
end Go.Ev
set_option maxRecDepth 1000000
set_option maxHeartbeats 0
namespace Go.Ev
noncomputable section
def L9al : List Ent := [
 N 8 0 x3u 22 [(13,C 49 [x0,K 14 0 6 6]),(14,C 46 [xl,x0,x1,x1,x0,x0,x1,Z,Z,xf,x1f,x0,x1,x1,x1,x0,x0,x1,x1,xc,x0,xf,x1,x0,x0,x1,Z,x2t,x1,Z,x0,x1,x1,x1,x0,x0,x1,x1,xc,x0,xf,x1,x0,x0,x1,Z,K 17 0 5 5,x1,Z,x0,x1,x1,x1,x0,x0,x1,x1,xc,x0,xf,x1,x0,x0,x1,Z,x1h,x1,Z,x0,x1,x1,x1,x0,x0,x1,x1,xk,xu,x1,xx,x0,x0,x1,Z,Z,x1,Z,x0,x1,x1,x1,x0,x0,x1,x1,xk,xs,x1,xi,x0,x0,x1,Z,Z,x1,Z,x0,x1,x1,x1,x0,x0,x1,x1]),(18,xw),(17,xv),(16,xt),(15,xo),(12,C 87 [Z,P 19 0,x3,x0,xc,x0,N0,x5]),(19,C 176 ([P 20 0,x3,I 6]++xa++xb)),(20,C 75 [K 21 0 48 48,Z,x5,x0]),(21,C 188 (Q 3072 x6))] x3v 24 [(12,C 87 [S 23 0 1 2,P 19 0,x3,xc,x9,x0,N0,x5]),(19,C 176 ([P 20 0,x3,I 6,xc,x9]++x3w++x3x)),(21,xbu),(22,C 24 [x0]),(23,x45)]]
theorem L9al_t : entsB (envT EB (mkT A9)) L9al = true := by decide +kernel
theorem L9al_ok : AllOK L9al := entsB_ok (like_of okA9) L9al_t
end
end Go.Ev
set_option maxRecDepth 1000000
set_option maxHeartbeats 0
namespace Go.Ev
noncomputable section
def L9ap : List Ent := [
 N 8 0 x3u 19 [(13,C 49 [xl,x4c]),(14,C 46 x6v),(12,C 87 [S 15 0 5 2,x22,x3,xl,x9,x0,N0,x5]),(16,C 176 ([x23,x3,I 6,xc,x3,xm,xl]++x62++x63)),(17,C 75 [K 18 0 48 48,Z,x5,x0]),(18,C 188 (xbs++x3y++xbt++x3z++x40++x41++x54++x55++x56++x41++x5j++x55++x5k++x41++xbv++x65++xbw++x55++x67++x41++x6o++x55++x6p++x41++x6q++(Q 2240 x6))),(15,x6s)] x53 21 [(12,C 87 [S 20 0 6 2,x22,x3,I 6,x9,x0,N0,x5]),(16,C 176 ([x23,x3,I 6,xc,x3,xm,I 7]++x62++x63)),(18,C 188 (xbs++x3y++xbt++x3z++x40++x41++x54++x55++x56++x41++x5j++x55++x5k++x41++xbv++x65++xbw++x55++x67++x41++x6o++x55++x6p++x41++x74++x55++x75++x41++x76++(Q 2112 x6))),(19,C 24 [x0]),(20,x78),(15,.gone)]]
theorem L9ap_t : entsB (envT EB (mkT A9)) L9ap = true := by decide +kernel
theorem L9ap_ok : AllOK L9ap := entsB_ok (like_of okA9) L9ap_t
end
end Go.Ev
set_option maxRecDepth 1000000
set_option maxHeartbeats 0
namespace Go.Ev
noncomputable section
def L9at : List Ent := [
 N 8 0 x3u 19 [(13,C 49 [I 9,x4c]),(14,C 46 x8w),(12,C 87 [S 15 0 9 2,x22,x3,I 9,x9,x0,N0,x5]),(16,C 176 ([x23,x3,I 6,xc,x3,xm,I 7,xk,I 7]++x7l++x7m)),(17,C 75 [K 18 0 48 48,Z,x5,x0]),(18,C 188 (xbs++x3y++xbt++x3z++x40++x41++x54++x55++x56++x41++x5j++x55++x5k++x41++xbv++x65++xbw++x55++x67++x41++x6o++x55++x6p++x41++x74++x55++x75++x41++x76++x7n++xbx++x7p++xby++x55++x7r++x41++x87++x55++x88++x41++x8o++x55++x8p++x41++x8q++(Q 1600 x6))),(15,x8t)] x53 21 [(12,C 87 [S 20 0 10 2,x22,x3,x93,x9,x0,N0,x5]),(16,C 176 ([x23,x3,I 6,xc,x3,xm,I 7,xk,I 7,x9,xk]++x9l++x9m)),(18,C 188 (xbs++x3y++xbt++x3z++x40++x41++x54++x55++x56++x41++x5j++x55++x5k++x41++xbv++x65++xbw++x55++x67++x41++x6o++x55++x6p++x41++x74++x55++x75++x41++x76++x7n++xbx++x7p++xby++x55++x7r++x41++x87++x55++x88++x41++x8o++x55++x8p++x41++x8q++x7n++xbz++x9o++xc0++x55++xc1++x41++(B [179,126,90,145])++(Q 1344 x6))),(19,C 24 [x0]),(20,xc3),(15,.gone)]]
theorem L9at_t : entsB (envT EB (mkT A9)) L9at = true := by decide +kernel
theorem L9at_ok : AllOK L9at := entsB_ok (like_of okA9) L9at_t
end
end Go.Ev
set_option maxRecDepth 1000000
set_option maxHeartbeats 0
namespace Go.Ev
noncomputable section
def L9ax : List Ent := [
 N 8 0 x3u 19 [(13,C 49 [xak,x4c]),(14,C 46 xa4),(12,C 87 [S 15 0 4 2,x22,x3,xak,x9,xak,N0,x5]),(16,C 176 ([x23,x3,I 6,x0,x0,x0,x0,x0,x0,x9,I 7,xl,x9]++xdi++xdj)),(17,C 75 [K 18 0 48 48,Z,x5,x0]),(18,xdo),(15,xdq)] x53 21 [(12,C 87 [S 20 0 5 2,x22,x3,xam,x9,xak,N0,x5]),(16,C 176 ([x23,x3,I 6,x0,x0,x0,x0,x0,x0,x9,I 7,xl,I 6]++xdi++xdj)),(18,C 188 (xbs++x3y++xbt++x3z++x40++x41++x54++x55++x56++x41++x5j++x55++x5k++x41++xbv++x65++xbw++x55++x67++x41++x6o++x55++x6p++x41++x74++x55++x75++x41++x76++x7n++xbx++x7p++xby++x55++x7r++x41++x87++x55++x88++x41++x8o++x55++x8p++x41++x8q++x7n++xbz++x9o++xc0++x55++xc1++x41++xcg++x55++xch++x41++xcw++x55++xcx++x41++xcy++x7n++xdk++xdl++xdm++(Q 22 x6)++xdn++x41++(B [225,19,135,102,0,0,5,4,3,21,0,2,26,8,2,2,2,0,0,10,2,198,1,6,4,8,6,10,0,4,2,120])++(Q 32 x6)++(B [70,74,112,157,0,0,5,5,4])++x41++(B [178,237,106,62])++(Q 640 x6))),(19,C 24 [x0]),(20,D 221 [x9,xc2,x9,xci,x9,xd0,xl,xdp,xl,.s [2,26,8,2,2,2,0,0,10,2,198,1,6,4,8,6,10,0,4,2,120]]),(15,.gone)]]
theorem L9ax_t : entsB (envT EB (mkT A9)) L9ax = true := by decide +kernel
theorem L9ax_ok : AllOK L9ax := entsB_ok (like_of okA9) L9ax_t
end
end Go.Ev
set_option maxRecDepth 1000000
set_option maxHeartbeats 0
namespace Go.Ev
noncomputable section
def L9bb : List Ent := [
 N 8 0 x3u 19 [(13,C 49 [x9,x4c]),(14,C 46 x6e),(12,C 87 [S 15 0 4 2,x22,x3,x9,x9,x0,N0,x5]),(16,C 176 ([x23,x3,I 7,xc,x3,xm,xk]++x62++x63)),(17,C 75 [K 18 0 56 56,Z,x5,x0]),(18,C 188 (xe1++x3y++xe2++x3z++x40++x41++x54++x55++x56++x41++x5j++x55++x5k++x41++xe4++x65++xe5++x55++x67++x41++x68++(Q 2880 x6))),(15,x6a)] x53 21 [(12,C 87 [S 20 0 5 2,x22,x3,xl,x9,x0,N0,x5]),(16,C 176 ([x23,x3,I 7,xc,x3,xm,xl]++x62++x63)),(18,C 188 (xe1++x3y++xe2++x3z++x40++x41++x54++x55++x56++x41++x5j++x55++x5k++x41++xe4++x65++xe5++x55++x67++x41++x6o++x55++x6p++x41++x6q++(Q 2752 x6))),(19,C 24 [x0]),(20,x6s),(15,.gone)]]
theorem L9bb_t : entsB (envT EB (mkT A9)) L9bb = true := by decide +kernel
theorem L9bb_ok : AllOK L9bb := entsB_ok (like_of okA9) L9bb_t
end
end Go.Ev
set_option maxRecDepth 1000000
set_option maxHeartbeats 0
namespace Go.Ev
noncomputable section
def L9bf : List Ent := [
 N 8 0 x3u 19 [(13,C 49 [x3,x4c]),(14,C 46 x8e),(12,C 87 [S 15 0 8 2,x22,x3,x3,x9,x0,N0,x5]),(16,C 176 ([x23,x3,I 7,xc,x3,xm,I 7,xk,xl]++x7l++x7m)),(17,C 75 [K 18 0 56 56,Z,x5,x0]),(18,C 188 (xe1++x3y++xe2++x3z++x40++x41++x54++x55++x56++x41++x5j++x55++x5k++x41++xe4++x65++xe5++x55++x67++x41++x6o++x55++x6p++x41++x74++x55++x75++x41++x76++x7n++xe6++x7p++xe7++x55++x7r++x41++x87++x55++x88++x41++x89++(Q 2240 x6))),(15,x8b)] x53 21 [(12,C 87 [S 20 0 9 2,x22,x3,I 9,x9,x0,N0,x5]),(16,C 176 ([x23,x3,I 7,xc,x3,xm,I 7,xk,I 7]++x7l++x7m)),(18,C 188 (xe1++x3y++xe2++x3z++x40++x41++x54++x55++x56++x41++x5j++x55++x5k++x41++xe4++x65++xe5++x55++x67++x41++x6o++x55++x6p++x41++x74++x55++x75++x41++x76++x7n++xe6++x7p++xe7++x55++x7r++x41++x87++x55++x88++x41++x8o++x55++x8p++x41++x8q++(Q 2112 x6))),(19,C 24 [x0]),(20,x8t),(15,.gone)]]
theorem L9bf_t : entsB (envT EB (mkT A9)) L9bf = true := by decide +kernel
theorem L9bf_ok : AllOK L9bf := entsB_ok (like_of okA9) L9bf_t
end
end Go.Ev
set_option maxRecDepth 1000000
set_option maxHeartbeats 0
namespace Go.Ev
noncomputable section
def L9bj : List Ent := [
 N 8 0 x3u 19 [(13,C 49 [xak,x4c]),(14,C 46 xd4),(12,C 87 [S 15 0 12 2,x22,x3,xak,x9,x0,N0,x5]),(16,C 176 ([x23,x3,I 7,xc,x3,xm,I 7,xk,I 7,x9,I 7]++x9l++x9m)),(17,C 75 [K 18 0 56 56,Z,x5,x0]),(18,C 188 (xe1++x3y++xe2++x3z++x40++x41++x54++x55++x56++x41++x5j++x55++x5k++x41++xe4++x65++xe5++x55++x67++x41++x6o++x55++x6p++x41++x74++x55++x75++x41++x76++x7n++xe6++x7p++xe7++x55++x7r++x41++x87++x55++x88++x41++x8o++x55++x8p++x41++x8q++x7n++xe8++x9o++xe9++x55++xc1++x41++xcg++x55++xch++x41++xcw++x55++xcx++x41++xcy++(Q 1600 x6))),(15,xd1)] x53 21 [(12,C 87 [S 20 0 13 2,x22,x3,xam,x9,x0,N0,x5]),(16,C 176 ([x23,x3,I 7,xc,x3,xm,I 7,xk,I 7,x9,I 7,xl,xk]++xdi++xdj)),(18,C 188 (xe1++x3y++xe2++x3z++x40++x41++x54++x55++x56++x41++x5j++x55++x5k++x41++xe4++x65++xe5++x55++x67++x41++x6o++x55++x6p++x41++x74++x55++x75++x41++x76++x7n++xe6++x7p++xe7++x55++x7r++x41++x87++x55++x88++x41++x8o++x55++x8p++x41++x8q++x7n++xe8++x9o++xe9++x55++xc1++x41++xcg++x55++xch++x41++xcw++x55++xcx++x41++xcy++x7n++xea++xdl++xeb++x55++xec++x41++(B [249,185,85,2])++(Q 1344 x6))),(19,C 24 [x0]),(20,xee),(15,.gone)]]
theorem L9bj_t : entsB (envT EB (mkT A9)) L9bj = true := by decide +kernel
theorem L9bj_ok : AllOK L9bj := entsB_ok (like_of okA9) L9bj_t
end
end Go.Ev
set_option maxRecDepth 1000000
set_option maxHeartbeats 0
namespace Go.Ev
noncomputable section
def L9bn : List Ent := [
 N 8 0 x3u 19 [(13,C 49 [xaq,x4c]),(14,C 46 xa4),(12,C 87 [S 15 0 4 2,x22,x3,xaq,x9,xaq,N0,x5]),(16,C 176 ([x23,x3,I 7,x0,x0,x0,x0,x0,x0,x0,x0,xl,I 7,I 6,x9]++(Q 12 x0)++xfj)),(17,C 75 [K 18 0 56 56,Z,x5,x0]),(18,xfn),(15,xfp)] x53 21 [(12,C 87 [S 20 0 5 2,x22,x3,I 16,x9,xaq,N0,x5]),(16,C 176 ([x23,x3,I 7,x0,x0,x0,x0,x0,x0,x0,x0,xl,I 7,I 6,I 6]++(Q 12 x0)++xfj)),(18,C 188 (xe1++x3y++xe2++x3z++x40++x41++x54++x55++x56++x41++x5j++x55++x5k++x41++xe4++x65++xe5++x55++x67++x41++x6o++x55++x6p++x41++x74++x55++x75++x41++x76++x7n++xe6++x7p++xe7++x55++x7r++x41++x87++x55++x88++x41++x8o++x55++x8p++x41++x8q++x7n++xe8++x9o++xe9++x55++xc1++x41++xcg++x55++xch++x41++xcw++x55++xcx++x41++xcy++x7n++xea++xdl++xeb++x55++xec++x41++xep++x55++xeq++x41++xf2++x55++xf3++x41++xf4++x7n++xfk++x55++xfl++(Q 22 x6)++xfm++x41++(B [62,90,151,211,0,0,6,4,3,21,0,2,32,8,2,2,2,0,0,10,2,198,1,6,4,8,6,10,0,4,2,120])++(Q 32 x6)++(B [204,144,20,103,0,0,6,5,4])++x41++(B [109,164,122,139])++(Q 640 x6))),(19,C 24 [x0]),(20,D 221 [xl,xed,xl,xer,xl,xf6,I 6,xfo,I 6,.s [2,32,8,2,2,2,0,0,10,2,198,1,6,4,8,6,10,0,4,2,120]]),(15,.gone)]]
theorem L9bn_t : entsB (envT EB (mkT A9)) L9bn = true := by decide +kernel
theorem L9bn_ok : AllOK L9bn := entsB_ok (like_of okA9) L9bn_t
end
end Go.Ev
set_option maxRecDepth 1000000
set_option maxHeartbeats 0
namespace Go.Ev
noncomputable section
def L9br : List Ent := [
 N 33 0 [x2,x5p] 24 [(13,D 104 [xc,xl,xk,x0,x0,x0,Z,x0,x0,x1,xf,x2j,x0,x1,x1,x1,x0,x0,x1,x1,xc,xl,xc,xm,x0,x0,x2k,x0,x0,x1,x1,Z,x0,x1,x1,x1,x0,x0,x1,x1,xc,xl,xc,xk,x0,x0,x2l,x0,x0,x1,x1,Z,x0,x1,x1,x1,x0,x0,x1,x1,xc,xl,xm,x0,x0,x0,Z,xm,x0,xi,x1,Z,x0,x1,x1,x1,x0,x0,x1,x1,xc,xl,xm,x0,x0,x0,Z,xc,x0,xx,x1,Z,x0,x1,x1,x1,x0,x0,x1,x1,x93,x9,xc,xc,x0,x0,x47,x0,x0,x1,x1,Z,x0,x1,x1,x1,x0,x0,x1,x1,xai,x9,xc,xc,x0,x0,x51,x0,x0,x1,x1,Z,x0,x1,x1,x1,x0,x0,x1,x1,xak,x9,xc,xc,x0,x0,x2u,x0,x0,x1,x1,Z,x0,x1,x1,x1,x0,x0,x1,x1]),(19,xd2),(18,xck),(17,xc4),(16,x18),(15,x16),(14,x1a),(12,C 87 [S 20 0 4 2,P 21 0,x3,xak,x9,xak,N0,x5]),(21,C 176 ([P 22 0,x3,I 6,x0,x0,x0,x0,x0,x0,x9,I 7,xl,x9]++xdi++xdj)),(22,C 75 [K 23 0 48 48,Z,x5,x0]),(23,xdo),(20,xdq)] (.t [xj,.ni]) 24 []]
theorem L9br_t : entsB (envT EB (mkT A9)) L9br = true := by decide +kernel
theorem L9br_ok : AllOK L9br := entsB_ok (like_of okA9) L9br_t
end
end Go.Ev
