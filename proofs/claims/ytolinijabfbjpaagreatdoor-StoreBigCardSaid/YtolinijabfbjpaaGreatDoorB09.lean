/- All calls up to rank 4. -/
import Derived.Test.YtolinijabfbjpaaGreatDoorB08
set_option linter.all false
set_option maxRecDepth 1000000
set_option maxHeartbeats 0
namespace Go.Ev
noncomputable section
def A5 : List Ent := L4aa ++ (L4ab ++ A4)
theorem okA5 : AllOK A5 := (L4aa_ok.app (L4ab_ok.app okA4))
end
end Go.Ev

/- Calls that are proved, rank 5. -/
set_option maxRecDepth 1000000
set_option maxHeartbeats 0
namespace Go.Ev
noncomputable section
def L5aa : List Ent := [
 N 40 0 x18 5 [(3,C 106 x30),(4,xj)] x8 5 [],
 N 40 0 x18 5 [(3,C 106 [x7,x7,xf,x0,x0,x0,Z,x0,x0,x1,xa,xx,x0,x1,x1,x1,x0,x0,x1,x1]),(4,x15)] x8 5 [],
 N 55 0 [x19,.a [x7,x0,x0,xu]] 6 [(4,x1m),(3,C 215 [xa,xw,Z]),(5,xj)] x1y 7 [(6,x1m)],
 N 55 0 [x19,.a [xh,x0,x0,xu]] 6 [(4,x1p),(3,C 215 [xa,xw,Z]),(5,xj)] x20 7 [(6,x1p)],
 N 55 0 [x19,.a [xf,x0,x0,xu]] 6 [(4,x1s),(3,C 215 [xa,xw,Z]),(5,xj)] x22 7 [(6,x1s)],
 N 55 0 [x19,.a [x7,x0,x0,xx]] 6 x1g x1y 7 [(6,x1m)],
 N 55 0 [x19,.a [xh,x0,x0,xx]] 6 x1k x20 7 [(6,x1p)],
 N 55 0 [x19,.a [xf,x0,x0,xx]] 6 x1l x22 7 [(6,x1s)],
 N 55 0 [x19,.a [x5,x0,x0,xu]] 6 x48 x49 7 x4a,
 N 55 0 [x19,.a [x5,x0,x0,xx]] 6 x43 x49 7 x4a,
 N 55 0 [x19,.a [xg,x0,x0,xu]] 6 x48 x5m 7 x4a,
 N 55 0 [x19,.a [xg,x0,x0,xx]] 6 x43 x5m 7 x4a,
 N 55 0 [x19,.a [I 6,x0,x0,xu]] 6 x48 x64 7 x4a]
theorem L5aa_t : entsB (envT EB (mkT A5)) L5aa = true := by decide +kernel
theorem L5aa_ok : AllOK L5aa := entsB_ok (like_of okA5) L5aa_t
end
end Go.Ev

/- Calls that are proved, rank 5. -/
set_option maxRecDepth 1000000
set_option maxHeartbeats 0
namespace Go.Ev
noncomputable section
def L5ab : List Ent := [
 N 55 0 [x19,.a [I 6,x0,x0,xx]] 6 x43 x64 7 x4a,
 N 55 0 [x19,.a [I 7,x0,x0,xu]] 6 x48 x6l 7 x4a,
 N 55 0 [x19,.a [I 7,x0,x0,xx]] 6 x43 x6l 7 x4a,
 N 55 0 [x19,.a [x3,x0,x0,xu]] 6 x48 (.t [.a [x3,x0,x0,x1b],x0]) 7 x4a,
 N 55 0 [x19,.a [I 9,x0,x0,xu]] 6 x48 (.t [.a [I 9,x0,x0,x1b],x0]) 7 x4a,
 N 55 0 [x19,.a [x7d,x0,x0,xu]] 6 x48 (.t [.a [x7d,x0,x0,x1b],x0]) 7 x4a,
 N 55 0 [x19,.a [x7l,x0,x0,xu]] 6 x48 (.t [.a [x7l,x0,x0,x1b],x0]) 7 x4a,
 N 55 0 [x19,.a [x3u,x0,x0,xu]] 6 x48 (.t [.a [x3u,x0,x0,x1b],x0]) 7 x4a,
 N 55 0 [x19,.a [x80,x0,x0,xu]] 6 x48 (.t [.a [x80,x0,x0,x1b],x0]) 7 x4a,
 N 55 0 [x19,.a [x87,x0,x0,xu]] 6 x48 (.t [.a [x87,x0,x0,x1b],x0]) 7 x4a,
 N 55 0 [x19,.a [I 15,x0,x0,xu]] 6 x48 (.t [.a [I 15,x0,x0,x1b],x0]) 7 x4a]
theorem L5ab_t : entsB (envT EB (mkT A5)) L5ab = true := by decide +kernel
theorem L5ab_ok : AllOK L5ab := entsB_ok (like_of okA5) L5ab_t
end
end Go.Ev

/- Calls that are proved, rank 5. -/
set_option maxRecDepth 1000000
set_option maxHeartbeats 0
namespace Go.Ev
noncomputable section
def L5ac : List Ent := [
 N 83 0 [.a [x7,x7,x0,x0,x14,x0,x0,x1,x1,Z,x0,x1,x1,x1,x0,x0,x1,x1]] 4 [(3,xz)] (.s [111,49]) 4 [],
 N 83 0 [.a [x7,x7,x0,x0,xb,x0,x0,x1,x1,Z,x0,x1,x1,x1,x0,x0,x1,x1]] 4 x1u (.s [111,49]) 4 [],
 N 83 0 [.a [x7,xh,x0,x0,x14,x0,x0,x1,x1,Z,x0,x1,x1,x1,x0,x0,x1,x1]] 4 x1o (.s [111,50]) 4 [],
 N 83 0 [.a [x7,xh,x0,x0,xb,x0,x0,x1,x1,Z,x0,x1,x1,x1,x0,x0,x1,x1]] 4 x1z (.s [111,50]) 4 [],
 N 83 0 [.a [x7,xf,x0,x0,x14,x0,x0,x1,x1,Z,x0,x1,x1,x1,x0,x0,x1,x1]] 4 x1r (.s [111,51]) 4 [],
 N 83 0 [.a [x7,xf,x0,x0,xb,x0,x0,x1,x1,Z,x0,x1,x1,x1,x0,x0,x1,x1]] 4 x21 (.s [111,51]) 4 [],
 N 83 0 [.a [x7,x5,x0,x0,x14,x0,x0,x1,x1,Z,x0,x1,x1,x1,x0,x0,x1,x1]] 4 x44 (.s [111,52]) 4 [],
 N 83 0 [.a [x7,x5,x0,x0,xb,x0,x0,x1,x1,Z,x0,x1,x1,x1,x0,x0,x1,x1]] 4 x47 (.s [111,52]) 4 [],
 N 83 0 [.a [x7,xg,x0,x0,x14,x0,x0,x1,x1,Z,x0,x1,x1,x1,x0,x0,x1,x1]] 4 x44 (.s [111,53]) 4 [],
 N 83 0 [.a [x7,xg,x0,x0,xb,x0,x0,x1,x1,Z,x0,x1,x1,x1,x0,x0,x1,x1]] 4 x47 (.s [111,53]) 4 [],
 N 83 0 [.a [x7,I 6,x0,x0,x14,x0,x0,x1,x1,Z,x0,x1,x1,x1,x0,x0,x1,x1]] 4 x44 (.s [111,54]) 4 [],
 N 83 0 [.a [x7,I 6,x0,x0,xb,x0,x0,x1,x1,Z,x0,x1,x1,x1,x0,x0,x1,x1]] 4 x47 (.s [111,54]) 4 [],
 N 83 0 [.a [x7,I 7,x0,x0,x14,x0,x0,x1,x1,Z,x0,x1,x1,x1,x0,x0,x1,x1]] 4 x44 (.s [111,55]) 4 [],
 N 83 0 [.a [x7,I 7,x0,x0,xb,x0,x0,x1,x1,Z,x0,x1,x1,x1,x0,x0,x1,x1]] 4 x47 (.s [111,55]) 4 [],
 N 83 0 [.a [x7,x3,x0,x0,x14,x0,x0,x1,x1,Z,x0,x1,x1,x1,x0,x0,x1,x1]] 4 x44 (.s [111,56]) 4 [],
 N 83 0 [.a [x7,x3,x0,x0,xb,x0,x0,x1,x1,Z,x0,x1,x1,x1,x0,x0,x1,x1]] 4 x47 (.s [111,56]) 4 [],
 N 83 0 [.a [x7,I 9,x0,x0,x14,x0,x0,x1,x1,Z,x0,x1,x1,x1,x0,x0,x1,x1]] 4 x44 (.s [111,57]) 4 [],
 N 83 0 [.a [x7,I 9,x0,x0,xb,x0,x0,x1,x1,Z,x0,x1,x1,x1,x0,x0,x1,x1]] 4 x47 (.s [111,57]) 4 [],
 N 83 0 [.a [x7,x7d,x0,x0,x14,x0,x0,x1,x1,Z,x0,x1,x1,x1,x0,x0,x1,x1]] 4 x44 (.s [111,49,48]) 4 [],
 N 83 0 [.a [x7,x7d,x0,x0,xb,x0,x0,x1,x1,Z,x0,x1,x1,x1,x0,x0,x1,x1]] 4 x47 (.s [111,49,48]) 4 [],
 N 83 0 [.a [x7,x7l,x0,x0,x14,x0,x0,x1,x1,Z,x0,x1,x1,x1,x0,x0,x1,x1]] 4 x44 (.s [111,49,49]) 4 [],
 N 83 0 [.a [x7,x7l,x0,x0,xb,x0,x0,x1,x1,Z,x0,x1,x1,x1,x0,x0,x1,x1]] 4 x47 (.s [111,49,49]) 4 [],
 N 83 0 [.a [x7,x3u,x0,x0,x14,x0,x0,x1,x1,Z,x0,x1,x1,x1,x0,x0,x1,x1]] 4 x44 (.s [111,49,50]) 4 [],
 N 83 0 [.a [x7,x3u,x0,x0,xb,x0,x0,x1,x1,Z,x0,x1,x1,x1,x0,x0,x1,x1]] 4 x47 (.s [111,49,50]) 4 [],
 N 83 0 [.a [x7,x80,x0,x0,x14,x0,x0,x1,x1,Z,x0,x1,x1,x1,x0,x0,x1,x1]] 4 x44 (.s [111,49,51]) 4 [],
 N 83 0 [.a [x7,x80,x0,x0,xb,x0,x0,x1,x1,Z,x0,x1,x1,x1,x0,x0,x1,x1]] 4 x47 (.s [111,49,51]) 4 [],
 N 83 0 [.a [x7,x87,x0,x0,x14,x0,x0,x1,x1,Z,x0,x1,x1,x1,x0,x0,x1,x1]] 4 x44 (.s [111,49,52]) 4 [],
 N 83 0 [.a [x7,x87,x0,x0,xb,x0,x0,x1,x1,Z,x0,x1,x1,x1,x0,x0,x1,x1]] 4 x47 (.s [111,49,52]) 4 [],
 N 83 0 [.a [x7,I 15,x0,x0,x14,x0,x0,x1,x1,Z,x0,x1,x1,x1,x0,x0,x1,x1]] 4 x44 (.s [111,49,53]) 4 [],
 N 83 0 [.a [x7,I 15,x0,x0,xb,x0,x0,x1,x1,Z,x0,x1,x1,x1,x0,x0,x1,x1]] 4 x47 (.s [111,49,53]) 4 []]
theorem L5ac_t : entsB (envT EB (mkT A5)) L5ac = true := by decide +kernel
theorem L5ac_ok : AllOK L5ac := entsB_ok (like_of okA5) L5ac_t
end
end Go.Ev

/- Calls that are proved, rank 5. -/
set_option maxRecDepth 1000000
set_option maxHeartbeats 0
namespace Go.Ev
noncomputable section
def L5ad : List Ent := [
 N 283 0 [x2] 4 [(3,C 472 [x3k,x0])] (.a [x7,x7,x5,S 4 0 6 18,Z]) 9 [(3,C 472 [x3k,I 95]),(4,D 102 [xf,x0,x0,x0,Z,x0,x0,x1,xa,x27,x0,x1,x1,x1,x0,x0,x1,x1,x7,x7,x0,x0,x28,x0,x0,x1,x1,Z,x0,x1,x1,x1,x0,x0,x1,x1,x7,xh,x0,x0,x29,x0,x0,x1,x1,Z,x0,x1,x1,x1,x0,x0,x1,x1,x7,xf,x0,x0,x3m,x0,x0,x1,x1,Z,x0,x1,x1,x1,x0,x0,x1,x1,xh,x0,x0,x0,Z,xh,x0,xd,x1,Z,x0,x1,x1,x1,x0,x0,x1,x1,xh,x0,x0,x0,Z,x7,x0,xs,x1,Z,x0,x1,x1,x1,x0,x0,x1,x1]),(5,x15),(6,xz),(7,x11),(8,x13)]]
theorem L5ad_t : entsB (envT EB (mkT A5)) L5ad = true := by decide +kernel
theorem L5ad_ok : AllOK L5ad := entsB_ok (like_of okA5) L5ad_t
end
end Go.Ev

/- Calls that are proved, rank 5. -/
set_option maxRecDepth 1000000
set_option maxHeartbeats 0
namespace Go.Ev
noncomputable section
def L5ae : List Ent := [
 N 283 0 [x2] 4 [(3,C 472 [x5g,x0])] x4x 6 [(3,C 472 [x5g,I 84]),(4,D 102 [x7,x5,x0,x0,x27,x0,x0,x1,x1,Z,x0,x1,x1,x1,x0,x0,x1,x1,xh,x0,x0,x0,Z,x5,x0,x3y,x1,Z,x0,x1,x1,x1,x0,x0,x1,x1]),(5,x42)],
 N 283 0 [x2] 4 [(3,C 472 [x60,x0])] x5u 7 [(3,C 472 [x60,I 158]),(4,D 102 [x7,x5,x0,x0,x27,x0,x0,x1,x1,Z,x0,x1,x1,x1,x0,x0,x1,x1,x7,xg,x0,x0,x28,x0,x0,x1,x1,Z,x0,x1,x1,x1,x0,x0,x1,x1,xh,x0,x0,x0,Z,x5,x0,x3y,x1,Z,x0,x1,x1,x1,x0,x0,x1,x1]),(5,x42),(6,x42)]]
theorem L5ae_t : entsB (envT EB (mkT A5)) L5ae = true := by decide +kernel
theorem L5ae_ok : AllOK L5ae := entsB_ok (like_of okA5) L5ae_t
end
end Go.Ev

/- Calls that are proved, rank 5. -/
set_option maxRecDepth 1000000
set_option maxHeartbeats 0
namespace Go.Ev
noncomputable section
def L5af : List Ent := [
 N 283 0 [x2] 4 [(3,C 472 [x6h,x0])] x6c 8 [(3,C 472 [x6h,I 232]),(4,D 102 [x7,x5,x0,x0,x27,x0,x0,x1,x1,Z,x0,x1,x1,x1,x0,x0,x1,x1,x7,xg,x0,x0,x28,x0,x0,x1,x1,Z,x0,x1,x1,x1,x0,x0,x1,x1,x7,I 6,x0,x0,x29,x0,x0,x1,x1,Z,x0,x1,x1,x1,x0,x0,x1,x1,xh,x0,x0,x0,Z,x5,x0,x3y,x1,Z,x0,x1,x1,x1,x0,x0,x1,x1]),(5,x42),(6,x42),(7,x42)]]
theorem L5af_t : entsB (envT EB (mkT A5)) L5af = true := by decide +kernel
theorem L5af_ok : AllOK L5af := entsB_ok (like_of okA5) L5af_t
end
end Go.Ev

/- Calls that are proved, rank 5. -/
set_option maxRecDepth 1000000
set_option maxHeartbeats 0
namespace Go.Ev
noncomputable section
def L5ag : List Ent := [
 N 283 0 [x2] 4 [(3,C 472 [x6w,x0])] x6t 9 [(3,C 472 [x6w,I 306]),(4,D 102 [x7,x5,x0,x0,x27,x0,x0,x1,x1,Z,x0,x1,x1,x1,x0,x0,x1,x1,x7,xg,x0,x0,x28,x0,x0,x1,x1,Z,x0,x1,x1,x1,x0,x0,x1,x1,x7,I 6,x0,x0,x29,x0,x0,x1,x1,Z,x0,x1,x1,x1,x0,x0,x1,x1,x7,I 7,x0,x0,x3m,x0,x0,x1,x1,Z,x0,x1,x1,x1,x0,x0,x1,x1,xh,x0,x0,x0,Z,x5,x0,x3y,x1,Z,x0,x1,x1,x1,x0,x0,x1,x1]),(5,x42),(6,x42),(7,x42),(8,x42)],
 N 430 0 [xt,x0,x0] 5 xv (.t [.a [xa,xw],x0]) 6 [(5,xj)],
 N 430 0 [x19,x0,x0] 5 x1a (.t [.a [xa,xw],x0]) 6 [(5,xj)]]
theorem L5ag_t : entsB (envT EB (mkT A5)) L5ag = true := by decide +kernel
theorem L5ag_ok : AllOK L5ag := entsB_ok (like_of okA5) L5ag_t
end
end Go.Ev

/- All calls up to rank 5. -/
set_option maxRecDepth 1000000
set_option maxHeartbeats 0
namespace Go.Ev
noncomputable section
def A6 : List Ent := L5aa ++ (L5ab ++ (L5ac ++ (L5ad ++ (L5ae ++ (L5af ++ (L5ag ++ A5))))))
theorem okA6 : AllOK A6 := (L5aa_ok.app (L5ab_ok.app (L5ac_ok.app (L5ad_ok.app (L5ae_ok.app (L5af_ok.app (L5ag_ok.app okA5)))))))
end
end Go.Ev
