/- Calls that are proved, rank 9. -/
import Derived.Test.YtpamikcnbnkgkaaGreatDoorB17
set_option linter.all false
set_option maxRecDepth 1000000
set_option maxHeartbeats 0
namespace Go.Ev
noncomputable section
def L9aa : List Ent := [
 N 8 0 x3u 22 [(13,C 49 [x0,K 14 0 6 6]),(14,C 46 [xl,x0,x1,x1,x0,x0,x1,Z,Z,xf,x1f,x0,x1,x1,x1,x0,x0,x1,x1,xc,x0,xf,x1,x0,x0,x1,Z,x2t,x1,Z,x0,x1,x1,x1,x0,x0,x1,x1,xc,x0,xf,x1,x0,x0,x1,Z,K 17 0 5 5,x1,Z,x0,x1,x1,x1,x0,x0,x1,x1,xc,x0,xf,x1,x0,x0,x1,Z,x1h,x1,Z,x0,x1,x1,x1,x0,x0,x1,x1,xk,xu,x1,xx,x0,x0,x1,Z,Z,x1,Z,x0,x1,x1,x1,x0,x0,x1,x1,xk,xs,x1,xi,x0,x0,x1,Z,Z,x1,Z,x0,x1,x1,x1,x0,x0,x1,x1]),(18,xw),(17,xv),(16,xt),(15,xo),(12,C 87 [Z,P 19 0,x3,x0,xc,x0,N0,x5]),(19,C 176 ([P 20 0,x3,x9]++xa++xb)),(20,C 75 [K 21 0 32 32,Z,x5,x0]),(21,C 188 (Q 2048 x6))] x3v 24 [(12,C 87 [S 23 0 1 2,P 19 0,x3,xc,x9,x0,N0,x5]),(19,C 176 ([P 20 0,x3,x9,xc,x9]++x3w++x3x)),(21,x43),(22,C 24 [x0]),(23,x45)]]
theorem L9aa_t : entsB (envT EB (mkT A9)) L9aa = true := by decide +kernel
theorem L9aa_ok : AllOK L9aa := entsB_ok (like_of okA9) L9aa_t
end
end Go.Ev
set_option maxRecDepth 1000000
set_option maxHeartbeats 0
namespace Go.Ev
noncomputable section
def L9ae : List Ent := [
 N 8 0 x3u 19 [(13,C 49 [x9,x4c]),(14,C 46 x6e),(12,C 87 [S 15 0 4 2,x22,x3,x9,x9,x0,N0,x5]),(16,C 176 ([x23,x3,xl,xc,x3,xm,xk]++x62++x63)),(17,C 75 [K 18 0 40 40,Z,x5,x0]),(18,C 188 (x4g++x3y++x4h++x3z++x40++x41++x54++x55++x56++x41++x5j++x55++x5k++x41++x64++x65++x66++x55++x67++x41++x68++(Q 1856 x6))),(15,x6a)] x53 21 [(12,C 87 [S 20 0 5 2,x22,x3,xl,x9,x0,N0,x5]),(16,C 176 ([x23,x3,xl,xc,x3,xm,xl]++x62++x63)),(18,C 188 (x4g++x3y++x4h++x3z++x40++x41++x54++x55++x56++x41++x5j++x55++x5k++x41++x64++x65++x66++x55++x67++x41++x6o++x55++x6p++x41++x6q++(Q 1728 x6))),(19,C 24 [x0]),(20,x6s),(15,.gone)]]
theorem L9ae_t : entsB (envT EB (mkT A9)) L9ae = true := by decide +kernel
theorem L9ae_ok : AllOK L9ae := entsB_ok (like_of okA9) L9ae_t
end
end Go.Ev
set_option maxRecDepth 1000000
set_option maxHeartbeats 0
namespace Go.Ev
noncomputable section
def L9ai : List Ent := [
 N 8 0 x3u 19 [(13,C 49 [x3,x4c]),(14,C 46 x8e),(12,C 87 [S 15 0 8 2,x22,x3,x3,x9,x0,N0,x5]),(16,C 176 ([x23,x3,xl,xc,x3,xm,I 7,xk,xl]++x7l++x7m)),(17,C 75 [K 18 0 40 40,Z,x5,x0]),(18,C 188 (x4g++x3y++x4h++x3z++x40++x41++x54++x55++x56++x41++x5j++x55++x5k++x41++x64++x65++x66++x55++x67++x41++x6o++x55++x6p++x41++x74++x55++x75++x41++x76++x7n++x7o++x7p++x7q++x55++x7r++x41++x87++x55++x88++x41++x89++(Q 1216 x6))),(15,x8b)] x53 21 [(12,C 87 [S 20 0 9 2,x22,x3,I 9,x9,x0,N0,x5]),(16,C 176 ([x23,x3,xl,xc,x3,xm,I 7,xk,I 7]++x7l++x7m)),(18,x8r),(19,C 24 [x0]),(20,x8t),(15,.gone)]]
theorem L9ai_t : entsB (envT EB (mkT A9)) L9ai = true := by decide +kernel
theorem L9ai_ok : AllOK L9ai := entsB_ok (like_of okA9) L9ai_t
end
end Go.Ev
set_option maxRecDepth 1000000
set_option maxHeartbeats 0
namespace Go.Ev
noncomputable section
def L9am : List Ent := [
 N 8 0 x3u 19 [(13,C 49 [xc,x4c]),(14,C 46 x4k),(12,x4j),(16,C 176 ([x23,x3,I 6,xc,x9]++x3w++x3x)),(17,C 75 [K 18 0 48 48,Z,x5,x0]),(18,xbu),(15,x45)] x53 21 [(12,C 87 [S 20 0 2 2,x22,x3,xm,x9,x0,N0,x5]),(16,C 176 ([x23,x3,I 6,xc,I 6]++x3w++x3x)),(18,C 188 (xbs++x3y++xbt++x3z++x40++x41++x54++x55++x56++x41++x57++(Q 2688 x6))),(19,C 24 [x0]),(20,x59),(15,.gone)],
 N 8 0 x3u 19 [(13,C 49 [xm,x4c]),(14,C 46 x5b),(12,C 87 [S 15 0 2 2,x22,x3,xm,x9,x0,N0,x5]),(16,C 176 ([x23,x3,I 6,xc,I 6]++x3w++x3x)),(17,C 75 [K 18 0 48 48,Z,x5,x0]),(18,C 188 (xbs++x3y++xbt++x3z++x40++x41++x54++x55++x56++x41++x57++(Q 2688 x6))),(15,x59)] x53 21 [(12,C 87 [S 20 0 3 2,x22,x3,xk,x9,x0,N0,x5]),(16,C 176 ([x23,x3,I 6,xc,x3]++x3w++x3x)),(18,C 188 (xbs++x3y++xbt++x3z++x40++x41++x54++x55++x56++x41++x5j++x55++x5k++x41++x5l++(Q 2560 x6))),(19,C 24 [x0]),(20,x5n),(15,.gone)]]
theorem L9am_t : entsB (envT EB (mkT A9)) L9am = true := by decide +kernel
theorem L9am_ok : AllOK L9am := entsB_ok (like_of okA9) L9am_t
end
end Go.Ev
set_option maxRecDepth 1000000
set_option maxHeartbeats 0
namespace Go.Ev
noncomputable section
def L9aq : List Ent := [
 N 8 0 x3u 19 [(13,C 49 [I 6,x4c]),(14,C 46 x7b),(12,C 87 [S 15 0 6 2,x22,x3,I 6,x9,x0,N0,x5]),(16,C 176 ([x23,x3,I 6,xc,x3,xm,I 7]++x62++x63)),(17,C 75 [K 18 0 48 48,Z,x5,x0]),(18,C 188 (xbs++x3y++xbt++x3z++x40++x41++x54++x55++x56++x41++x5j++x55++x5k++x41++xbv++x65++xbw++x55++x67++x41++x6o++x55++x6p++x41++x74++x55++x75++x41++x76++(Q 2112 x6))),(15,x78)] x53 21 [(12,C 87 [S 20 0 7 2,x22,x3,I 7,x9,x0,N0,x5]),(16,C 176 ([x23,x3,I 6,xc,x3,xm,I 7,xk,xk]++x7l++x7m)),(18,C 188 (xbs++x3y++xbt++x3z++x40++x41++x54++x55++x56++x41++x5j++x55++x5k++x41++xbv++x65++xbw++x55++x67++x41++x6o++x55++x6p++x41++x74++x55++x75++x41++x76++x7n++xbx++x7p++xby++x55++x7r++x41++x7s++(Q 1856 x6))),(19,C 24 [x0]),(20,x7u),(15,.gone)]]
theorem L9aq_t : entsB (envT EB (mkT A9)) L9aq = true := by decide +kernel
theorem L9aq_ok : AllOK L9aq := entsB_ok (like_of okA9) L9aq_t
end
end Go.Ev
set_option maxRecDepth 1000000
set_option maxHeartbeats 0
namespace Go.Ev
noncomputable section
def L9au : List Ent := [
 N 8 0 x3u 19 [(13,C 49 [x93,x4c]),(14,C 46 xc6),(12,C 87 [S 15 0 10 2,x22,x3,x93,x9,x0,N0,x5]),(16,C 176 ([x23,x3,I 6,xc,x3,xm,I 7,xk,I 7,x9,xk]++x9l++x9m)),(17,C 75 [K 18 0 48 48,Z,x5,x0]),(18,C 188 (xbs++x3y++xbt++x3z++x40++x41++x54++x55++x56++x41++x5j++x55++x5k++x41++xbv++x65++xbw++x55++x67++x41++x6o++x55++x6p++x41++x74++x55++x75++x41++x76++x7n++xbx++x7p++xby++x55++x7r++x41++x87++x55++x88++x41++x8o++x55++x8p++x41++x8q++x7n++xbz++x9o++xc0++x55++xc1++x41++(B [179,126,90,145])++(Q 1344 x6))),(15,xc3)] x53 21 [(12,C 87 [S 20 0 11 2,x22,x3,xai,x9,x0,N0,x5]),(16,C 176 ([x23,x3,I 6,xc,x3,xm,I 7,xk,I 7,x9,xl]++x9l++x9m)),(18,C 188 (xbs++x3y++xbt++x3z++x40++x41++x54++x55++x56++x41++x5j++x55++x5k++x41++xbv++x65++xbw++x55++x67++x41++x6o++x55++x6p++x41++x74++x55++x75++x41++x76++x7n++xbx++x7p++xby++x55++x7r++x41++x87++x55++x88++x41++x8o++x55++x8p++x41++x8q++x7n++xbz++x9o++xc0++x55++xc1++x41++xcg++x55++xch++x41++(B [224,128,183,201])++(Q 1216 x6))),(19,C 24 [x0]),(20,xcj),(15,.gone)]]
theorem L9au_t : entsB (envT EB (mkT A9)) L9au = true := by decide +kernel
theorem L9au_ok : AllOK L9au := entsB_ok (like_of okA9) L9au_t
end
end Go.Ev
set_option maxRecDepth 1000000
set_option maxHeartbeats 0
namespace Go.Ev
noncomputable section
def L9ay : List Ent := [
 N 8 0 x3u 22 [(13,C 49 [x0,K 14 0 6 6]),(14,C 46 [xl,x0,x1,x1,x0,x0,x1,Z,Z,xf,x1f,x0,x1,x1,x1,x0,x0,x1,x1,xc,x0,xf,x1,x0,x0,x1,Z,x2t,x1,Z,x0,x1,x1,x1,x0,x0,x1,x1,xc,x0,xf,x1,x0,x0,x1,Z,K 17 0 5 5,x1,Z,x0,x1,x1,x1,x0,x0,x1,x1,xc,x0,xf,x1,x0,x0,x1,Z,x1h,x1,Z,x0,x1,x1,x1,x0,x0,x1,x1,xk,xu,x1,xx,x0,x0,x1,Z,Z,x1,Z,x0,x1,x1,x1,x0,x0,x1,x1,xk,xs,x1,xi,x0,x0,x1,Z,Z,x1,Z,x0,x1,x1,x1,x0,x0,x1,x1]),(18,xw),(17,xv),(16,xt),(15,xo),(12,C 87 [Z,P 19 0,x3,x0,xc,x0,N0,x5]),(19,C 176 ([P 20 0,x3,I 7]++xa++xb)),(20,C 75 [K 21 0 56 56,Z,x5,x0]),(21,C 188 (Q 3584 x6))] x3v 24 [(12,C 87 [S 23 0 1 2,P 19 0,x3,xc,x9,x0,N0,x5]),(19,C 176 ([P 20 0,x3,I 7,xc,x9]++x3w++x3x)),(21,xe3),(22,C 24 [x0]),(23,x45)]]
theorem L9ay_t : entsB (envT EB (mkT A9)) L9ay = true := by decide +kernel
theorem L9ay_ok : AllOK L9ay := entsB_ok (like_of okA9) L9ay_t
end
end Go.Ev
set_option maxRecDepth 1000000
set_option maxHeartbeats 0
namespace Go.Ev
noncomputable section
def L9bc : List Ent := [
 N 8 0 x3u 19 [(13,C 49 [xl,x4c]),(14,C 46 x6v),(12,C 87 [S 15 0 5 2,x22,x3,xl,x9,x0,N0,x5]),(16,C 176 ([x23,x3,I 7,xc,x3,xm,xl]++x62++x63)),(17,C 75 [K 18 0 56 56,Z,x5,x0]),(18,C 188 (xe1++x3y++xe2++x3z++x40++x41++x54++x55++x56++x41++x5j++x55++x5k++x41++xe4++x65++xe5++x55++x67++x41++x6o++x55++x6p++x41++x6q++(Q 2752 x6))),(15,x6s)] x53 21 [(12,C 87 [S 20 0 6 2,x22,x3,I 6,x9,x0,N0,x5]),(16,C 176 ([x23,x3,I 7,xc,x3,xm,I 7]++x62++x63)),(18,C 188 (xe1++x3y++xe2++x3z++x40++x41++x54++x55++x56++x41++x5j++x55++x5k++x41++xe4++x65++xe5++x55++x67++x41++x6o++x55++x6p++x41++x74++x55++x75++x41++x76++(Q 2624 x6))),(19,C 24 [x0]),(20,x78),(15,.gone)]]
theorem L9bc_t : entsB (envT EB (mkT A9)) L9bc = true := by decide +kernel
theorem L9bc_ok : AllOK L9bc := entsB_ok (like_of okA9) L9bc_t
end
end Go.Ev
set_option maxRecDepth 1000000
set_option maxHeartbeats 0
namespace Go.Ev
noncomputable section
def L9bg : List Ent := [
 N 8 0 x3u 19 [(13,C 49 [I 9,x4c]),(14,C 46 x8w),(12,C 87 [S 15 0 9 2,x22,x3,I 9,x9,x0,N0,x5]),(16,C 176 ([x23,x3,I 7,xc,x3,xm,I 7,xk,I 7]++x7l++x7m)),(17,C 75 [K 18 0 56 56,Z,x5,x0]),(18,C 188 (xe1++x3y++xe2++x3z++x40++x41++x54++x55++x56++x41++x5j++x55++x5k++x41++xe4++x65++xe5++x55++x67++x41++x6o++x55++x6p++x41++x74++x55++x75++x41++x76++x7n++xe6++x7p++xe7++x55++x7r++x41++x87++x55++x88++x41++x8o++x55++x8p++x41++x8q++(Q 2112 x6))),(15,x8t)] x53 21 [(12,C 87 [S 20 0 10 2,x22,x3,x93,x9,x0,N0,x5]),(16,C 176 ([x23,x3,I 7,xc,x3,xm,I 7,xk,I 7,x9,xk]++x9l++x9m)),(18,C 188 (xe1++x3y++xe2++x3z++x40++x41++x54++x55++x56++x41++x5j++x55++x5k++x41++xe4++x65++xe5++x55++x67++x41++x6o++x55++x6p++x41++x74++x55++x75++x41++x76++x7n++xe6++x7p++xe7++x55++x7r++x41++x87++x55++x88++x41++x8o++x55++x8p++x41++x8q++x7n++xe8++x9o++xe9++x55++xc1++x41++(B [179,126,90,145])++(Q 1856 x6))),(19,C 24 [x0]),(20,xc3),(15,.gone)]]
theorem L9bg_t : entsB (envT EB (mkT A9)) L9bg = true := by decide +kernel
theorem L9bg_ok : AllOK L9bg := entsB_ok (like_of okA9) L9bg_t
end
end Go.Ev
set_option maxRecDepth 1000000
set_option maxHeartbeats 0
namespace Go.Ev
noncomputable section
def L9bk : List Ent := [
 N 8 0 x3u 19 [(13,C 49 [xam,x4c]),(14,C 46 xeh),(12,C 87 [S 15 0 13 2,x22,x3,xam,x9,x0,N0,x5]),(16,C 176 ([x23,x3,I 7,xc,x3,xm,I 7,xk,I 7,x9,I 7,xl,xk]++xdi++xdj)),(17,C 75 [K 18 0 56 56,Z,x5,x0]),(18,C 188 (xe1++x3y++xe2++x3z++x40++x41++x54++x55++x56++x41++x5j++x55++x5k++x41++xe4++x65++xe5++x55++x67++x41++x6o++x55++x6p++x41++x74++x55++x75++x41++x76++x7n++xe6++x7p++xe7++x55++x7r++x41++x87++x55++x88++x41++x8o++x55++x8p++x41++x8q++x7n++xe8++x9o++xe9++x55++xc1++x41++xcg++x55++xch++x41++xcw++x55++xcx++x41++xcy++x7n++xea++xdl++xeb++x55++xec++x41++(B [249,185,85,2])++(Q 1344 x6))),(15,xee)] x53 21 [(12,C 87 [S 20 0 14 2,x22,x3,xao,x9,x0,N0,x5]),(16,C 176 ([x23,x3,I 7,xc,x3,xm,I 7,xk,I 7,x9,I 7,xl,xl]++xdi++xdj)),(18,C 188 (xe1++x3y++xe2++x3z++x40++x41++x54++x55++x56++x41++x5j++x55++x5k++x41++xe4++x65++xe5++x55++x67++x41++x6o++x55++x6p++x41++x74++x55++x75++x41++x76++x7n++xe6++x7p++xe7++x55++x7r++x41++x87++x55++x88++x41++x8o++x55++x8p++x41++x8q++x7n++xe8++x9o++xe9++x55++xc1++x41++xcg++x55++xch++x41++xcw++x55++xcx++x41++xcy++x7n++xea++xdl++xeb++x55++xec++x41++xep++x55++xeq++x41++(B [170,71,184,90])++(Q 1216 x6))),(19,C 24 [x0]),(20,xes),(15,.gone)]]
theorem L9bk_t : entsB (envT EB (mkT A9)) L9bk = true := by decide +kernel
theorem L9bk_ok : AllOK L9bk := entsB_ok (like_of okA9) L9bk_t
end
end Go.Ev
set_option maxRecDepth 1000000
set_option maxHeartbeats 0
namespace Go.Ev
noncomputable section
def L9bo : List Ent := [
 N 33 0 [x2,S 13 0 14 20] 30 [(13,D 104 [xc,xc,xk,x0,x0,x0,Z,x0,x0,x1,xf,x2j,x0,x1,x1,x1,x0,x0,x1,x1,xc,xc,xc,xc,x0,x0,x2k,x0,x0,x1,x1,Z,x0,x1,x1,x1,x0,x0,x1,x1,xc,xc,xc,xm,x0,x0,x2l,x0,x0,x1,x1,Z,x0,x1,x1,x1,x0,x0,x1,x1,xc,xc,xc,xk,x0,x0,x47,x0,x0,x1,x1,Z,x0,x1,x1,x1,x0,x0,x1,x1,xc,xc,xm,x0,x0,x0,Z,xm,x0,xi,x1,Z,x0,x1,x1,x1,x0,x0,x1,x1,xc,xc,xm,x0,x0,x0,Z,xc,x0,xx,x1,Z,x0,x1,x1,x1,x0,x0,x1,x1,xm,xc,xc,xc,x0,x0,x51,x0,x0,x1,x1,Z,x0,x1,x1,x1,x0,x0,x1,x1,xk,xc,xc,xc,x0,x0,x2u,x0,x0,x1,x1,Z,x0,x1,x1,x1,x0,x0,x1,x1,x9,xm,xc,xc,x0,x0,x2v,x0,x0,x1,x1,Z,x0,x1,x1,x1,x0,x0,x1,x1,xl,xm,xc,xc,x0,x0,x2w,x0,x0,x1,x1,Z,x0,x1,x1,x1,x0,x0,x1,x1,I 6,xm,xc,xc,x0,x0,x2x,x0,x0,x1,x1,Z,x0,x1,x1,x1,x0,x0,x1,x1,I 7,xk,xc,xc,x0,x0,x7i,x0,x0,x1,x1,Z,x0,x1,x1,x1,x0,x0,x1,x1,x3,xk,xc,xc,x0,x0,x84,x0,x0,x1,x1,Z,x0,x1,x1,x1,x0,x0,x1,x1,I 9,xk,xc,xc,x0,x0,x8l,x0,x0,x1,x1,Z,x0,x1,x1,x1,x0,x0,x1,x1]),(25,x8u),(24,x8c),(23,x7v),(22,x79),(21,x6t),(20,x6b),(19,x5o),(18,x14),(17,x18),(16,x16),(15,x14),(14,x1a),(12,C 87 [S 26 0 9 2,P 27 0,x3,I 9,x9,x0,N0,x5]),(27,C 176 ([P 28 0,x3,xl,xc,x3,xm,I 7,xk,I 7]++x7l++x7m)),(28,C 75 [K 29 0 40 40,Z,x5,x0]),(29,x8r),(26,x8t)] (.t [x5,.ni]) 31 [(12,C 87 [S 30 0 4 2,P 27 0,x3,I 9,x9,I 9,N0,x5]),(27,C 176 ([P 28 0,x3,xl,x0,x0,x0,x0,xk,I 7,x9,x9]++x9l++x9m)),(29,x9r),(30,x9t),(26,.gone)]]
theorem L9bo_t : entsB (envT EB (mkT A9)) L9bo = true := by decide +kernel
theorem L9bo_ok : AllOK L9bo := entsB_ok (like_of okA9) L9bo_t
end
end Go.Ev
set_option maxRecDepth 1000000
set_option maxHeartbeats 0
namespace Go.Ev
noncomputable section
def L9bs : List Ent := [
 N 33 0 [x2,S 13 0 20 20] 36 [(13,D 104 [xc,xc,xk,x0,x0,x0,Z,x0,x0,x1,xf,x2j,x0,x1,x1,x1,x0,x0,x1,x1,xc,xc,xc,xc,x0,x0,x2k,x0,x0,x1,x1,Z,x0,x1,x1,x1,x0,x0,x1,x1,xc,xc,xc,xm,x0,x0,x2l,x0,x0,x1,x1,Z,x0,x1,x1,x1,x0,x0,x1,x1,xc,xc,xc,xk,x0,x0,x47,x0,x0,x1,x1,Z,x0,x1,x1,x1,x0,x0,x1,x1,xc,xc,xm,x0,x0,x0,Z,xm,x0,xi,x1,Z,x0,x1,x1,x1,x0,x0,x1,x1,xc,xc,xm,x0,x0,x0,Z,xc,x0,xx,x1,Z,x0,x1,x1,x1,x0,x0,x1,x1,xm,xc,xc,xc,x0,x0,x51,x0,x0,x1,x1,Z,x0,x1,x1,x1,x0,x0,x1,x1,xk,xc,xc,xc,x0,x0,x2u,x0,x0,x1,x1,Z,x0,x1,x1,x1,x0,x0,x1,x1,x9,xm,xc,xc,x0,x0,x2v,x0,x0,x1,x1,Z,x0,x1,x1,x1,x0,x0,x1,x1,xl,xm,xc,xc,x0,x0,x2w,x0,x0,x1,x1,Z,x0,x1,x1,x1,x0,x0,x1,x1,I 6,xm,xc,xc,x0,x0,x2x,x0,x0,x1,x1,Z,x0,x1,x1,x1,x0,x0,x1,x1,I 7,xk,xc,xc,x0,x0,x7i,x0,x0,x1,x1,Z,x0,x1,x1,x1,x0,x0,x1,x1,x3,xk,xc,xc,x0,x0,x84,x0,x0,x1,x1,Z,x0,x1,x1,x1,x0,x0,x1,x1,I 9,xk,xc,xc,x0,x0,x8l,x0,x0,x1,x1,Z,x0,x1,x1,x1,x0,x0,x1,x1,x93,x9,xc,xc,x0,x0,x97,x0,x0,x1,x1,Z,x0,x1,x1,x1,x0,x0,x1,x1,xai,x9,xc,xc,x0,x0,xcd,x0,x0,x1,x1,Z,x0,x1,x1,x1,x0,x0,x1,x1,xak,x9,xc,xc,x0,x0,xct,x0,x0,x1,x1,Z,x0,x1,x1,x1,x0,x0,x1,x1,xam,xl,xc,xc,x0,x0,xde,x0,x0,x1,x1,Z,x0,x1,x1,x1,x0,x0,x1,x1,xao,xl,xc,xc,x0,x0,xeo,x0,x0,x1,x1,Z,x0,x1,x1,x1,x0,x0,x1,x1,xaq,xl,xc,xc,x0,x0,S 31 0 5 4,x0,x0,x1,x1,Z,x0,x1,x1,x1,x0,x0,x1,x1]),(31,xf8),(30,xet),(29,xef),(28,xd2),(27,xck),(26,xc4),(25,x8u),(24,x8c),(23,x7v),(22,x79),(21,x6t),(20,x6b),(19,x5o),(18,x14),(17,x18),(16,x16),(15,x14),(14,x1a),(12,C 87 [S 32 0 15 2,P 33 0,x3,xaq,x9,x0,N0,x5]),(33,C 176 ([P 34 0,x3,I 7,xc,x3,xm,I 7,xk,I 7,x9,I 7,xl,I 7]++xdi++xdj)),(34,C 75 [K 35 0 56 56,Z,x5,x0]),(35,xf5),(32,xf7)] (.t [x5,.ni]) 37 [(12,C 87 [S 36 0 4 2,P 33 0,x3,xaq,x9,xaq,N0,x5]),(33,C 176 ([P 34 0,x3,I 7,x0,x0,x0,x0,x0,x0,x0,x0,xl,I 7,I 6,x9]++(Q 12 x0)++xfj)),(35,xfn),(36,xfp),(32,.gone)]]
theorem L9bs_t : entsB (envT EB (mkT A9)) L9bs = true := by decide +kernel
theorem L9bs_ok : AllOK L9bs := entsB_ok (like_of okA9) L9bs_t
end
end Go.Ev
