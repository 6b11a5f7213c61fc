/- A part of what LimitFits rests on. -/
import Derived.Test.YtnpajahfimaakaaGreatDoorA32
import Derived.Test.YtnpajahfimaakaaGreatDoorA33
import Derived.Test.YtnpajahfimaakaaGreatDoorA34
import Derived.Test.YtnpajahfimaakaaGreatDoorA35
import Derived.Test.YtnpajahfimaakaaGreatDoorA36
import Derived.Test.YtnpajahfimaakaaGreatDoorA37
import Derived.Test.YtnpajahfimaakaaGreatDoorA38
import Derived.Test.YtnpajahfimaakaaGreatDoorA20
import Derived.Test.YtnpajahfimaakaaGreatDoorA01
set_option linter.all false
namespace Go.Ev
open List renaming all_eq_true->aop,mem_range->arC,getD_eq_getElem?_getD->arD,getElem?_eq_getElem->arG,length_eq_zero_iff->arH,range->arI,length_map->arJ,length_append->arK,length_take->arL,length_drop->arM,mem_append->arN,mem_of_mem_take->arO,mem_of_mem_drop->arP,mem_cons->arQ,all_cons->arR,all_nil->arT,mem_map->arV,range_eq_range'->arX,getElem?_take->arZ,getElem?_drop->asa,getElem?_map->asb,append_assoc->asd
open Bool renaming and_eq_true->AAA,and_true->arS
open IntKind renaming i64->arE
open _root_.Array renaming toList_inj->arF
open Nat renaming zero_add->arU,eq_of_beq_eq_true->arW,le_refl->arY
open Go.Proofs
variable{φ:Ren}
theorem aqu{m:Nat}(h:m<=11):(rV m&&uX m&&oF m)=true:=by
 rcases(show m=0\/m=1\/m=2\/m=3\/m=4\/m=5\/m=6\/m=7\/m=8\/m=9\/m=10\/m=11 by omega)with rfl|rfl|rfl|rfl|rfl|rfl|rfl|rfl|rfl|rfl|rfl|rfl
 ·exact aop.1 MT 0 (by decide)
 ·exact aop.1 MT 1 (by decide)
 ·exact aop.1 MT 2 (by decide)
 ·exact aop.1 MT 3 (by decide)
 ·exact aop.1 aaW 4 (by decide)
 ·exact aop.1 aaW 5 (by decide)
 ·exact aop.1 anm 6 (by decide)
 ·exact aop.1 ann 7 (by decide)
 ·exact aop.1 ano 8 (by decide)
 ·exact aop.1 anp 9 (by decide)
 ·exact aop.1 anq 10 (by decide)
 ·exact aop.1 anr 11 (by decide)
theorem Ux:sH (cJ o13 7 5) (oEp 7 o13.size)=true:=by decide+kernel
theorem Uy:sH (cJ o15 6 4) (oEp 6 o15.size)=true:=by decide+kernel
theorem ans:∃id,rK.drop 3=.region id o3 false::rK.drop 4:=⟨_,rfl⟩
theorem ag5:∃id,rK.drop 11=.region id o13 true::rK.drop 12:=⟨_,rfl⟩
theorem ag9:∃x y,rK.drop 13=.cond (.tmp 86) x y::rK.drop 14/\ct (if true then x else y)=cP:=⟨_,_,rfl,rfl⟩
theorem ant:∃id,cP=.region id o15 true::[]:=⟨_,rfl⟩
theorem aqv{cp:Bool}{m:Nat}{y:Sym}(h1:∀x,(y.q x).oneCell'=true):Ag (Bb cp m) y y:=⟨aO ⟨rfl,rfl,rfl,agm⟩ (by cases cp;exact agm;exact cH fun x hx=>rfl),aO (cH fun x hx=>⟨rfl,h1 _⟩) (cH fun x hx=>⟨rfl,h1 _⟩),agm,agm⟩
def C3(K:Nat->Option Obj)(cp:Bool)(N X:Int)(l:Nat)(w:World)(e:Ending)(w':World):Prop:=∃rs vs aM aK K1,e=.returned (bW cp N X aM aK)/\Grown w w'/\rJ K w w' K1/\dS K1 cp N rs vs aM aK/\rs≠[]/\rs.length<=l+1
section
variable {K:Nat->Option Obj} {cp:Bool} {N X n:Int} {rs:List (List Value×ByteArray)} {vs:List Int} {aM aK:Value} {a:List Value} {s:ByteArray}
theorem dS.mono{K':Nat->Option Obj}(hk:∀r o,K r=some o->K' r=some o)(h:dS K cp N rs vs aM aK):dS K' cp N rs vs aM aK:=⟨fun p hp=>(h.rok p hp).mono hk,h.aM.imp id fun⟨a,b⟩=>⟨a,b.mono hk⟩,h.aK.imp id fun h=>h.imp id fun⟨a,b,c⟩=>⟨a,b,c.mono hk⟩,h.rq,h.ON,h.ord⟩
theorem dS.form(h:dS K cp N rs vs aM aK):∀p∈rs,eI p.1:=fun p hp=>(h.rok p hp).form
theorem dS.Ys(h:dS K cp N rs vs aM aK):(rs.flatMap (·.1)).length=18*rs.length:=ET fun p hp=>(h.form p hp).len
theorem KD(e1:φ.s=(Uv N X n a rs vs).s)(j:Nat):VR φ (jV cp j) (.int .i64 (jY cp vs j)):=by
 cases cp
 ·exact aL
 ·exact vY (by rw[e1];exact aaV j)
theorem Uz(e1:φ.s=(Uv N X n a rs vs).s):VR φ (Hi cp) (.int .i64 (cond cp n 0)):=by
 cases cp
 ·exact aL
 ·exact vY (by rw[e1];rfl)
theorem KE(e1:φ.s=(Uv N X n a rs vs).s)(l:List Int)(t:Nat)(h:∀(j:Nat) (p:Int),l[j]? =some p->vs[t+j]? =some p):J φ ((List.range' t l.length).map (jV true)) (l.map (.int .i64)):=by
 have:=tn (φ:=φ) (f:=jV true) (vs:=l.map (.int .i64)) (s:=t) fun x u hx=>by
  rw[asb]at hx;cases hl:l[x]?with
  |none=>rw[hl]at hx;cases hx
  |some p=>
   rw[hl]at hx;cases hx;have:=h x p hl;refine vY ?_;rw[e1,aaV,arD,this];rfl
 rwa[arJ]at this
theorem aha{m:Nat}(h:m≠0):0∈Bc cp m:=by
 obtain⟨j,rfl⟩:∃j,m=j+1:=⟨m-1,by omega⟩
 cases cp<;>simp[Bc]
theorem ahb{m:Nat}(h:m≠0):1∈Bc true m:=by
 obtain⟨j,rfl⟩:∃j,m=j+1:=⟨m-1,by omega⟩
 simp[Bc]
theorem anu(m:Nat):ue (Kj cp m)=true:=by cases m<;>cases cp<;>rfl
theorem UA(hb:dS K cp N rs vs aM aK)(ha:eI a){w:World}(hw:∀r o,K r=some o->w.heap[r]? =some o):
  ∃φ:Ren,HR φ (ak (ald cp rs.length) (Kj cp rs.length)) w/\φ.y={Uv N X n a rs vs with k:=fun r=>w.heap[r]?}/\J φ (afp cp rs.length) [bW cp N X aM aK,.agg a.toArray,.int .i64 n]/\VR φ (nD 0 18 rs.length) aM/\VR φ (cond cp (nD 1 1 rs.length) eD) aK:=by
 let y:=Uv N X n a rs vs;have fin:∀{φ:Ren},φ.y={y with k:=fun r=>w.heap[r]?}->VR φ (nD 0 18 rs.length) aM->VR φ (cond cp (nD 1 1 rs.length) eD) aK->J φ (afp cp rs.length) [bW cp N X aM aK,.agg a.toArray,.int .i64 n]:=fun{φ} hy h1 h2=>by
  have e1:φ.s=y.s:=by funext x;show φ.y.s x=_;rw[hy]
  have e2:φ.q=y.q:=by funext x;show φ.y.q x=_;rw[hy]
  have hi:VR φ (.i .i64 (cond cp 2 1)) (.int .i64 (cond cp 2 1)):=by cases cp<;>exact vI
  exact J.cons (vA (J.cons hi (J.cons (vY (agB e1 1)) (J.cons (vY (agB e1 2)) (J.cons h1 (J.cons h2 J.nil)))))) (J.cons (vA (HS e2 ha)) (J.cons (vY (agB e1 5)) J.nil))
 have O9:(φ0 y w).y={y with k:=fun r=>w.heap[r]?}:=rfl;rcases hb.aM with⟨rfl,rfl⟩|⟨bU,bQ⟩
 ·have hv:aK=aF:=by
   rcases hb.aK with⟨_,h⟩|⟨_,_,h⟩|⟨h1,h2,_⟩
   ·exact h
   ·exact h
   ·exact absurd (arH.1 (hb.rq h1)) h2
  subst hv;have h2:VR (φ0 y w) (cond cp (nD 1 1 0) eD) aF:=by cases cp<;>exact bY
  exact⟨φ0 y w,bc y w,rfl,fin rfl bY h2,bY,h2⟩
 ·have gn:rs.length≠0:=fun e=>bU (arH.1 e)
  obtain⟨j,hj⟩:∃j,rs.length=j+1:=⟨rs.length-1,by omega⟩
  have hl:J (φ0 y w) (rS 0 rs.length) (rs.flatMap (·.1)):=KC (N:=N) (X:=X) (n:=n) (a:=a) (vs:=vs) (φ:=φ0 y w) rfl hb.form rs 0 fun j p h=>by rwa[arU]
  obtain⟨ay,g1,g2,g3,g4⟩:=bQ.enter (bc y w) hw rfl hl (n:=rs.length) (by rw[hb.Ys,Nat.mul_comm]);have g4':VR ay (nD 0 18 rs.length) aM:=by rw[hj]at g4⊢;exact g4
  rcases hb.aK with⟨rfl,rfl⟩|⟨h1,h2,_⟩|⟨rfl,h2,gh⟩
  ·refine⟨ay,?_,g2,fin g2 g4' bY,g4',bY⟩
   rw[hj]at g1⊢;exact g1
  ·have:=hb.rq h1
   rw[h2]at this;exact absurd this.symm gn
  ·have MV:=hb.rq rfl
   have e1:ay.s=y.s:=by funext x;show ay.y.s x=_;rw[g2];rfl
   have xG:J ay ((arI rs.length).map (jV true)) (vs.map (.int .i64)):=by
    rw[arX,<-MV];exact KE (N:=N) (X:=X) (n:=n) (a:=a) (rs:=rs) e1 vs 0 fun j p h=>by rwa[arU]
   obtain⟨aV,k1,k2,k3,k4⟩:=gh.enter g1 hw rfl xG (n:=rs.length) (by rw[arJ,MV,Nat.mul_one]);have r1:VR aV (nD 0 18 rs.length) aM:=VR.mono k3 _ _ g4';have r2:VR aV (cond true (nD 1 1 rs.length) eD) aK:=by rw[hj]at k4⊢;exact k4
   refine⟨aV,?_,k2.trans g2,fin (k2.trans g2) r1 r2,r1,r2⟩;rw[hj]at k1⊢;exact k1
theorem HU{l:List V}(h:l.all iY=true):oY (.a l)=true:=h
theorem aaX(j:Nat):([.a (x9 j),jV cp j,.a yr,Hi cp]:List V).all oY=true:=by
 simp only[arR,arT,arS,AAA];exact⟨HU (oI _),C2 cp j,HU (oI _),HT cp⟩
theorem ahc(j:Nat):([.a yr,Hi cp,.a (x9 j),jV cp j]:List V).all oY=true:=by
 simp only[arR,arT,arS,AAA];exact⟨HU (oI _),HT cp,HU (oI _),C2 cp j⟩
theorem ahd(hb:dS K cp N rs vs aM aK)(ha:qx K a s)(hn:cp=true->1<=n/\n<=N){k:Nat}(hk:k<=rs.length)
  (h1:∀j p,j<k->rs[j]? =some p->AH p.1 (jY cp vs j) a (cond cp n 0))(h2:∀p,rs[k]? =some p->AH a (cond cp n 0) p.1 (jY cp vs k))
  {φ:Ren}{w w':World}{nt:Nat}{L:List (Nat×V)}{A:Act}(hs:ad φ w.heap.size (U nt L) (ak 9 (CP cp rs.length k)) A w')(hw:∀r o,K r=some o->w.heap[r]? =some o)(hg:Grown w w')(e1:φ.s=(Uv N X n a rs vs).s)(e2:φ.q=(Uv N X n a rs vs).q){v:Value}(hv:VR φ (.a (Kl cp rs.length k)) v):
  C3 K cp N X rs.length w (.returned v) w':=by
 obtain⟨vz,rfl,iz⟩:=Ff hv;simp only[Kl,J]at iz;obtain⟨x0,_,e0,g0,x1,_,rfl,g1,x2,_,rfl,g2,x3,_,rfl,g3,x4,_,rfl,g4,rfl⟩:=iz;have h0':x0=.int .i64 (cond cp 2 1):=by cases cp<;>exact Ki g0
 have O1:x1=.int .i64 N:=by simp only[VR]at g1;rw[g1,e1];rfl
 have FX:x2=.int .i64 X:=by simp only[VR]at g2;rw[g2,e1];rfl
 subst h0';subst O1;subst FX;obtain rfl:vz=#[.int .i64 (cond cp 2 1),.int .i64 N,.int .i64 X,x3,x4]:=arF.1 e0;let na:=rs.take k++(a,s)::rs.drop k;let xD:=vs.take k++n::vs.drop k;have nY:na.length=rs.length+1:=by simp only[na,arK,arL,List.length_cons,arM];omega
 have aqw:∀p∈na,eI p.1:=fun p hp=>by
  rcases arN.1 hp with hp|hp
  ·exact hb.form p (arO hp)
  ·rcases arQ.1 hp with rfl|hp
   ·exact ha.form
   ·exact hb.form p (arP hp)
 have bQ:J φ (rU rs.length k) (na.flatMap (·.1)):=by
  have q1:=KC e2 hb.form (rs.take k) 0 fun j p hj=>by
   rw[arU];rw[arZ]at hj;split at hj
   ·exact hj
   ·cases hj
  have q2:=KC e2 hb.form (rs.drop k) k fun j p hj=>by rwa[asa]at hj
  rw[arL,Nat.min_eq_left hk]at q1;rw[arM]at q2;have:=J.append (J.append q1 (HS e2 ha.form)) q2;simpa only[na,List.flatMap_append,List.flatMap_cons,asd,rU]using this
 have aqx:(rU rs.length k).all iY=true:=by simp only[rU,List.all_append,OO,yr,oI,Bool.and_self]
 have aqy:(rs.length+1)*18=(rU rs.length k).length:=by
  have:yr.length=18:=rfl;simp only[rU,arK,OP,this];omega
 obtain⟨r5,c5,b5,k5,w5⟩:=hs.KB (b:=5) (l:=rU rs.length k) (T:=60) (g:=true) rfl (n:=rs.length+1) (sz:=18) (by decide) g3 bQ aqx aqy;have bU:na≠[]:=fun e=>by rw[e]at nY;simp at nY
 have hu5:rJ K w w' (ve K r5 (.cells c5 60 (0,0))):=(rJ.refl hg hw).add b5 k5;have ho':=Yr hb.ord hk hb.rq (s:=s) h1 h2;have anv:∀{K1:Nat->Option Obj},(∀r o,K r=some o->K1 r=some o)->∀p∈na,qx K1 p.1 p.2:=fun{K1} hs p hp=>by
  rcases arN.1 hp with hp|hp
  ·exact(hb.rok p (arO hp)).mono hs
  ·rcases arQ.1 hp with rfl|hp
   ·exact ha.mono hs
   ·exact(hb.rok p (arP hp)).mono hs
 have MV:cp=true->xD.length=na.length:=fun e=>by
  have:=hb.rq e;rw[nY];simp only[xD,arK,arL,List.length_cons,arM];omega
 have anw:cp=true->∀v∈xD,1<=v/\v<=N:=fun e v hv=>by
  rcases arN.1 hv with hv|hv
  ·exact hb.ON e v (arO hv)
  ·rcases arQ.1 hv with rfl|hv
   ·exact hn e
   ·exact hb.ON e v (arP hv)
 cases cp with
 |false=>
  have h4:x4=aF:=eQ (x:=eD) (φ:=φ) rfl g4 bY;subst h4;exact⟨na,xD,x3,aF,_,rfl,hg,hu5,⟨anv hu5.sub,.inr ⟨bU,w5 _ fH⟩,.inl ⟨rfl,rfl⟩,MV,anw,ho'⟩,bU,by omega⟩
 |true=>
  have aqz:=hb.rq rfl;have anx:J φ (uW rs.length k) (xD.map (.int .i64)):=by
   have q1:=KE e1 (vs.take k) 0 fun j p hj=>by
    rw[arU];rw[arZ]at hj;split at hj
    ·exact hj
    ·cases hj
   have q2:=KE e1 (vs.drop k) k fun j p hj=>by rwa[asa]at hj
   rw[arL,Nat.min_eq_left (by omega)]at q1;rw[arM,aqz]at q2;rw[<-arX]at q1;have q3:J φ [.y .i64 5] [.int .i64 n]:=J.cons (vY (by rw[e1];rfl)) J.nil;have:=J.append (J.append q1 q3) q2;simpa only[xD,List.map_append,List.map_cons,asd,uW,List.singleton_append]using this
  have aqA:(uW rs.length k).all iY=true:=aop.2 fun x hx=>by
   simp only[uW,arN,arV,List.mem_singleton]at hx;rcases hx with(⟨j,_,rfl⟩|rfl)|⟨j,_,rfl⟩<;>rfl
  have aqB:(rs.length+1)*1=(uW rs.length k).length:=by
   simp only[uW,arK,arJ,List.length_range,List.length_range',List.length_singleton];omega
  obtain⟨r7,c7,b7,k7,w7⟩:=hs.KB (b:=7) (l:=uW rs.length k) (T:=3) (g:=true) rfl (n:=rs.length+1) (sz:=1) (by decide) g4 anx aqA aqB;have hu7:=hu5.add b7 k7;exact⟨na,xD,x3,x4,_,rfl,hg,hu7,⟨anv hu7.sub,.inr ⟨bU,w5 _ (C1 hu5.at_ k7 _ _ fH)⟩,.inr (.inr ⟨rfl,by simp[xD],w7 _ fH⟩),MV,anw,ho'⟩,bU,by omega⟩
theorem C4{P:Program}(hm:P.follows .mixedOrders=true){n:Nat}{Q:Exit->Act->World->Prop}{id:Nat}{ops:Array Oper}{rest:List Code}{a:Act}{w:World}(h:fc none n P ops (Exit.then (aC none n P Q rest) Q) a {w with drawn:=w.drawn+1}):aC none n P Q (.region id ops true::rest) a w:=fc.region hm h
theorem HV{bs:List Nat}{af:Ren}(h:sJ bs φ af){b sz m:Nat}(hb:m≠0->b∈bs){v:Value}(hv:VR φ (nD b sz m) v):VR af (nD b sz m) v:=by
 cases m with
 |zero=>exact hv
 |succ m=>exact h.sl (hb (by omega)) hv
theorem MW{b sz m:Nat}(hz:sz=18\/sz=1){x x':Value}(hx:VR φ (nD b sz m) x)(iT:VR φ (nD b sz m) x'):x=x':=by
 cases m with
 |zero=>exact eQ (x:=eD) (φ:=φ) rfl hx iT
 |succ m=>
  simp only[nD,VR]at hx iT;obtain⟨r,c,h1,h2,h3,rfl⟩:=hx;obtain⟨r',c',g1,g2,g3,rfl⟩:=iT;rw[h1]at g1;cases g1;rcases hz with rfl|rfl
  ·rw[show c=c' by omega]
  ·rw[show c=c' by omega]
noncomputable def Yt(m:Nat)(cp:Bool):Bool:=match tV E3 (U 101 [(6,.p (some (6,0)))]) (ak 9 ((6,.cells (B3 cp m) 29 false)::Kj cp m)) Tryz.f16.results.toList with|some [v]=>same v (.a (B3 cp m))|_=>false
theorem aqC:((arI 12).all fun m=>Yt m false&&Yt m true)=true:=by decide+kernel
theorem ahe{cp:Bool}{m:Nat}(h:m<=11):tV E3 (U 101 [(6,.p (some (6,0)))]) (ak 9 ((6,.cells (B3 cp m) 29 false)::Kj cp m)) Tryz.f16.results.toList=some [.a (B3 cp m)]:=by
 have:=aop.1 aqC m (arC.2 (by omega));simp only[AAA]at this;have:Yt m cp=true:=by cases cp;exact this.1;exact this.2
 unfold Yt at this;split at this
 ·rename_i v e
  rw[e,bJ _ _ this]
 ·cases this
noncomputable def Yu(m k:Nat)(cp:Bool):Bool:=match tV E3 (U 101 [(6,.p (some (6,0)))]) (ak 9 (CP cp m k)) Tryz.f16.results.toList with|some [v]=>same v (.a (Kl cp m k))|_=>false
theorem aqD:((arI 12).all fun m=>(arI (m+1)).all fun k=>Yu m k false&&Yu m k true)=true:=by decide+kernel
theorem ahf{cp:Bool}{m k:Nat}(h:m<=11)(hk:k<=m):tV E3 (U 101 [(6,.p (some (6,0)))]) (ak 9 (CP cp m k)) Tryz.f16.results.toList=some [.a (Kl cp m k)]:=by
 have:=aop.1 (aop.1 aqD m (arC.2 (by omega))) k (arC.2 (by omega));simp only[AAA]at this;have:Yu m k cp=true:=by cases cp;exact this.1;exact this.2
 unfold Yu at this;split at this
 ·rename_i v e
  rw[e,bJ _ _ this]
 ·cases this
theorem UB(hb:dS K cp N rs vs aM aK)(ha:qx K a s)(hn:cp=true->1<=n/\n<=N)(h11:rs.length<=11)(m:Nat){w:World}(hw:∀r o,K r=some o->w.heap[r]? =some o):
  CallsIn (W none) m Tryz.prog 16 #[bW cp N X aM aK,.agg a.toArray,.int .i64 n] w (C3 K cp N X rs.length w):=by
 have ht:=aqu h11;simp only[AAA]at ht;obtain⟨⟨tin,tno⟩,aqE⟩:=ht;simp only[rV,AAA]at tin;obtain⟨⟨⟨ta0,ta1⟩,tb0⟩,tb1⟩:=tin;have ta:XI cp rs.length=true:=by cases cp;exact ta0;exact ta1
 have tb:XJ cp rs.length=true:=by cases cp;exact tb0;exact tb1
 unfold XI at ta;unfold XJ at tb;let y:=Uv N X n a rs vs;have one:∀x,(y.q x).oneCell'=true:=Yq ha.form hb.form
 have UC:Ag (Bb cp rs.length) y y:=aqv one;obtain⟨φ,hr,hy,cG,Fa,lH⟩:=UA hb ha.form hw (N:=N) (X:=X) (n:=n);have S0:φ.s=y.s:=by funext x;show φ.y.s x=_;rw[hy]
 have Q0:φ.q=y.q:=by funext x;show φ.y.q x=_;rw[hy]
 have W0:φ.w=y.w:=by funext x;show φ.y.w x=_;rw[hy]
 have G0:φ.g=y.g:=by funext x;show φ.y.g x=_;rw[hy]
 have hk0:φ.y.k=fun r=>w.heap[r]? :=by rw[hy]
 have bB:=ad.enter (nt:=101) hr (anu _) hk0 cG (by show 3<=101;decide);refine dz (fn:=Tryz.f16) (c:=(Tryz.f16.body).getD .skip) (args:=[bW cp N X aM aK,.agg a.toArray,.int .i64 n]) Tryz.func16 rfl (bp _ ?_);show aC none m Tryz.prog _ rK _ _;refine ad.Zq (aw ah {} {}) rfl 3 (cs:=rK) ta bB (fU.all hk0 hw) (eZ aS eX) rfl y (UC.au S0 Q0 W0 G0) fun φ a1 w1 hs hK sm1 hd kx n1 n2 n3 n4=> ?_
 show aC none m Tryz.prog _ (rK.drop 3) a1 w1;obtain⟨id,iJ⟩:=ans;rw[iJ];refine gB ?_;refine hs.abU hK (l:=o3.toList) (o:=o3.toList.headD default) (rest:=o3.toList.drop 1) rfl (t:=23) (e:=3) rfl rfl rfl (by decide) (ah.ty 23 _ _ rfl).2 (ah.ty 3 _ _ rfl).1 fun aV v2 w2 hs hK kq FU iK=> ?_
 refine ad.abW (aw ah {} {}) rfl 10 (l:=o3.toList.drop 1) tb hs hK (eZ aS eX) y (UC.au (by rw[kq];exact n1) (by rw[kq];exact n2) (by rw[kq];exact n3) (by rw[kq];exact n4)) fun eH a3 w3 hs hK sm3 gJ ig n1 n2 n3 n4=> ?_
 show aC none m Tryz.prog _ (rK.drop 4) a3 w3;have gJ:a3.defers=[]:=gJ.trans hd;have hsm:=(sm1.trans (sJ.le FU)).trans sm3;have hg:=(kx.trans iK).trans ig;obtain⟨k,hk,hA,hB⟩:=Uw ha.form (cond cp n 0) hb.form (jY cp vs);have hF:∀t:Bool,(∀p,rs[k]? =some p->∀K,Quiet Tryz.prog K 34 [.agg a.toArray,.int .i64 (cond cp n 0),.agg p.1.toArray,.int .i64 (jY cp vs k)] (· =.bool t))->aA Tryz.prog (afq cp rs.length k t) eH:=fun t ht=>by
  refine⟨agm,agm,agm,agm,agm,agm,agm,agm,aO (cH fun j hj=> ?_) ?_⟩
  ·have oK:=arC.1 hj
   have hp:rs[j]? =some rs[j]:=arG (by omega);exact dy (aaX j) ((hA j _ oK hp).1 _) (J.cons (vA (EV n2 hb.form hp)) (J.cons (KD n1 j) (J.cons (vA (HS n2 ha.form)) (J.cons (Uz n1) J.nil)))) vB
  ·by_cases bf:k<rs.length
   ·rw[bh.2 bf]
    have hp:rs[k]? =some rs[k]:=arG bf;exact⟨dy (aaX k) (hB _ hp _) (J.cons (vA (EV n2 hb.form hp)) (J.cons (KD n1 k) (J.cons (vA (HS n2 ha.form)) (J.cons (Uz n1) J.nil)))) vB,
     dy (ahc k) (ht _ hp _) (J.cons (vA (HS n2 ha.form)) (J.cons (Uz n1) (J.cons (vA (EV n2 hb.form hp)) (J.cons (KD n1 k) J.nil)))) vB,agm⟩
   ·have:Nat.blt k rs.length=false:=by
     cases e:Nat.blt k rs.length with
     |false=>rfl
     |true=>exact absurd (bh.1 e) bf
    rw[this];exact agm
 have go:(∀p,rs[k]? =some p->∀K,Quiet Tryz.prog K 34 [.agg a.toArray,.int .i64 (cond cp n 0),.agg p.1.toArray,.int .i64 (jY cp vs k)] (· =.bool true))->(∀p,rs[k]? =some p->AH a (cond cp n 0) p.1 (jY cp vs k))->
   aC none m Tryz.prog (fun e a' w'=>(e=.ret\/e=.normal)/\a'.defers=[]/\∃v,(results Tryz.f16 a'.tmps).run Tryz.prog w'=.ok v w'/\C3 K cp N X rs.length w (.returned v) w') (rK.drop 4) a3 w3:=fun hq hah=>by
  have tk:=aop.1 aqE k (arC.2 (by omega));simp only[AAA]at tk;obtain⟨⟨⟨⟨⟨⟨⟨⟨⟨⟨t0f,t0t⟩,t1f⟩,aqF⟩,t1t⟩,aqG⟩,t2⟩,t3⟩,t4⟩,t4'⟩,t5⟩:=tk;have t0:XL cp rs.length k=true:=by cases cp;exact t0f;exact t0t
  have t57:Kk cp rs.length k 5 7=true:=by cases cp;exact t1f;exact t1t
  have t75:Kk cp rs.length k 7 5=true:=by cases cp;exact aqF;exact aqG
  unfold XL at t0;unfold Kk at t57 t75;refine ad.runK (aw ah _ _) rfl 7 (cs:=rK.drop 4) t0 hs hK (eZ (hF true hq) eX) gJ y (UC.au n1 n2 n3 n4) fun jn a4 w4 hs hK sS pV n1 n2 n3 n4=> ?_
  show aC none m Tryz.prog _ (rK.drop 11) a4 w4;obtain⟨id,iJ⟩:=ag5;rw[iJ];have fin:∀{jH:Ren} {a5:Act} {w5:World},ad jH w.heap.size (U 101 [(6,.p (some (6,0)))]) (ak 9 (CP cp rs.length k)) a5 w5->GB w.heap.size w w5->jH.s=y.s->jH.q=y.q->∃v,(results Tryz.f16 a5.tmps).run Tryz.prog w5=.ok v w5/\C3 K cp N X rs.length w (.returned v) w5:=fun wE vM m1 m2=>by
   obtain⟨v,gE,ff⟩:=wE.leave ah (fn:=Tryz.f16) (l:=[.a (Kl cp rs.length k)]) (ahf h11 hk);exact⟨v,gE,ahd hb ha hn hk (fun j p hj hp=>(hA j p hj hp).2) hah wE hw vM.grown m1 m2 ff⟩
  have cont:∀jH a5 w5,ad jH w.heap.size (U 101 (CN cp rs.length k)) (ak 9 (CO cp rs.length k)) a5 w5->fU K jH->a5.defers=a4.defers->GB w.heap.size {w4 with drawn:=w4.drawn+1} w5->jH.s=y.s->jH.q=y.q->jH.w=y.w->jH.g=y.g->
    aC none m Tryz.prog (fun e a' w'=>(e=.ret\/e=.normal)/\a'.defers=[]/\∃v,(results Tryz.f16 a'.tmps).run Tryz.prog w'=.ok v w'/\C3 K cp N X rs.length w (.returned v) w') (rK.drop 12) a5 w5:=fun jH a5 w5 hs hK vL vM n1 n2 n3 n4=>by
   have vL:=vL.trans sS;have hg:=((hg.trans pV).trans (w'':={w4 with drawn:=w4.drawn+1}) ⟨arY _,fun _ _=>rfl,rfl,rfl,rfl⟩).trans vM;cases cp with
   |false=>
    unfold alg at t2;exact ad.runK (aw ah {} {}) rfl 10 (cs:=rK.drop 12) t2 hs hK (eZ aS eX) vL y (UC.au n1 n2 n3 n4) fun NT a6 w6 hs hK Ao Ap n1 n2 n3 n4=>⟨.inl rfl,Ao,fin hs (hg.trans Ap) n1 n2⟩
   |true=>
    unfold alh at t3;unfold afu at t4 t4';unfold ali at t5;refine ad.runK (aw ah {} {}) rfl 1 (cs:=rK.drop 12) t3 hs hK (eZ aS eX) vL y (UC.au n1 n2 n3 n4) fun NT a6 w6 hs hK Ao Ap n1 n2 n3 n4=> ?_
    show aC none m Tryz.prog _ (rK.drop 13) a6 w6;obtain⟨x,z,sj,tB⟩:=ag9;rw[sj];refine ky (t:=true) (by have:=hs.tv (t:=86) (x:=.b true) rfl;simp only[VR]at this;exact this) ?_;rw[tB];have hs:=hs.yf rfl;obtain⟨id,iJ⟩:=ant;rw[iJ];have aaY:∀Es a7 w7,ad Es w.heap.size (U 101 [(3,.p (some (3,0))),(6,.p (some (6,0)))]) (ak 9 (TG rs.length k)) a7 w7->fU K Es->a7.defers=a6.defers->GB w.heap.size {w6 with drawn:=w6.drawn+1} w7->Es.s=y.s->Es.q=y.q->Es.w=y.w->Es.g=y.g->
      aC none m Tryz.prog (fun e a' w'=>(e=.ret\/e=.normal)/\a'.defers=[]/\∃v,(results Tryz.f16 a'.tmps).run Tryz.prog w'=.ok v w'/\C3 K true N X rs.length w (.returned v) w') (rK.drop 14) a7 w7:=fun Es a7 w7 hs hK Et BE n1 n2 n3 n4=>
     ad.runK (aw ah {} {}) rfl 10 (cs:=rK.drop 14) t5 hs hK (eZ aS eX) (Et.trans Ao) y (UC.au n1 n2 n3 n4) fun φ8 a8 w8 hs hK Pd Xn n1 n2 n3 n4=>⟨.inl rfl,Pd,fin hs ((((hg.trans Ap).trans (w'':={w6 with drawn:=w6.drawn+1}) ⟨arY _,fun _ _=>rfl,rfl,rfl,rfl⟩).trans BE).trans Xn) n1 n2⟩
    refine C4 ah.mixed (fc.pair (x:=4) (y:=6) (by decide) ?_ ?_)
    ·exact ad.Wo (aw ah {} {}) rfl t4 hs.LA hK (eZ aS eX) y (UC.au n1 n2 n3 n4) fun Es a7 w7 hs hK Et BE n1 n2 n3 n4=>aaY Es a7 w7 hs hK Et BE n1 n2 n3 n4
    ·exact fc.perm Uy (ad.Wo (aw ah {} {}) rfl t4' hs.LA hK (eZ aS eX) y (UC.au n1 n2 n3 n4) fun Es a7 w7 hs hK Et BE n1 n2 n3 n4=>aaY Es a7 w7 hs hK Et BE n1 n2 n3 n4)
  refine C4 ah.mixed (fc.pair (x:=5) (y:=7) (by decide) ?_ ?_)
  ·exact ad.Wo (aw ah {} {}) rfl t57 hs.LA hK (eZ aS eX) y (UC.au n1 n2 n3 n4) fun Es a7 w7 hs hK Et BE n1 n2 n3 n4=>cont Es a7 w7 hs hK Et BE n1 n2 n3 n4
  ·exact fc.perm Ux (ad.Wo (aw ah {} {}) rfl t75 hs.LA hK (eZ aS eX) y (UC.au n1 n2 n3 n4) fun Es a7 w7 hs hK Et BE n1 n2 n3 n4=>cont Es a7 w7 hs hK Et BE n1 n2 n3 n4)
 by_cases bf:k<rs.length
 ·have hp:rs[k]? =some rs[k]:=arG bf
  obtain⟨t,t1,t2⟩:=Mw ha.form (hb.form _ (List.getElem_mem bf)) (cond cp n 0) (jY cp vs k);cases t with
  |true=>exact go (fun p tD=>by rw[hp]at tD;cases tD;exact t1) fun p tD=>by rw[hp]at tD;cases tD;exact t2 rfl
  |false=>
   have tx:XK cp rs.length k=true:=by
    have:=aop.1 tno k (arC.2 bf);simp only[AAA]at this;cases cp;exact this.1;exact this.2
   unfold XK at tx;refine ad.Zq (aw ah _ _) rfl 20 (cs:=rK.drop 4) tx hs hK (eZ (hF false fun p tD=>by rw[hp]at tD;cases tD;exact t1) eX) gJ y (UC.au n1 n2 n3 n4) fun jH a5 w5 wE hK5 sm5 vL vM m1 m2 m3 m4=>⟨.inl rfl,vL,?_⟩
   obtain⟨v,gE,ff⟩:=wE.leave ah (fn:=Tryz.f16) (l:=[.a (B3 cp rs.length)]) (ahe h11);refine⟨v,gE,?_⟩;have hsm:=hsm.trans sm5;have gG:=(hg.trans vM).grown;have r0:=HV hsm (b:=0) (fun h=>aha h) Fa;have r1:VR jH (cond cp (nD 1 1 rs.length) eD) aK:=by
    cases cp with
    |false=>exact lH
    |true=>exact HV hsm (b:=1) (fun h=>ahb h) lH
   have hv:v=bW cp N X aM aK:=by
    obtain⟨vz,rfl,iz⟩:=Ff (show VR jH (.a (B3 cp rs.length)) v from ff);simp only[B3,J]at iz;obtain⟨x0,_,e0,g0,x1,_,rfl,g1,x2,_,rfl,g2,x3,_,rfl,g3,x4,_,rfl,g4,rfl⟩:=iz;have h0':x0=.int .i64 (cond cp 2 1):=by cases cp<;>exact Ki g0
    have O1:x1=.int .i64 N:=by simp only[VR]at g1;rw[g1,m1];rfl
    have FX:x2=.int .i64 X:=by simp only[VR]at g2;rw[g2,m1];rfl
    have h3':x3=aM:=MW (.inl rfl) g3 r0;have h4':x4=aK:=by
     cases cp with
     |false=>exact eQ (x:=eD) (φ:=jH) rfl g4 r1
     |true=>exact MW (.inr rfl) g4 r1
    subst h0';subst O1;subst FX;subst h3';subst h4';rw[arF.1 (e0.trans (by rfl:_=(#[.int .i64 (cond cp 2 1),.int .i64 N,.int .i64 X,x3,x4]:Array Value).toList))];rfl
   subst hv;exact⟨rs,vs,aM,aK,K,rfl,gG,rJ.refl gG hw,hb,fun e=>by rw[e]at bf;exact absurd bf (by simp),by omega⟩
 ·have aaZ:rs[k]? =none:=List.getElem?_eq_none (by omega)
  exact go (fun p hp=>by rw[aaZ]at hp;cases hp) fun p hp=>by rw[aaZ]at hp;cases hp
end
theorem dS.o9{K:Nat->Option Obj}{cp:Bool}{N:Int}{rs:List (List Value×ByteArray)}{vs:List Int}{aM aK:Value}(h:dS K cp N rs vs aM aK):aM.oneCell'=true:=by
 rcases h.aM with⟨_,rfl⟩|⟨_,h⟩
 ·rfl
 ·exact h.one
theorem dS.pU{K:Nat->Option Obj}{cp:Bool}{N:Int}{rs:List (List Value×ByteArray)}{vs:List Int}{aM aK:Value}(h:dS K cp N rs vs aM aK):aK.oneCell'=true:=by
 rcases h.aK with⟨_,rfl⟩|⟨_,_,rfl⟩|⟨_,_,h⟩
 ·rfl
 ·rfl
 ·exact h.one
theorem dS.UD{K:Nat->Option Obj}{cp:Bool}{N:Int}{rs:List (List Value×ByteArray)}{vs:List Int}{aM aK:Value}(h:dS K cp N rs vs aM aK):∃a cap,aM=.slice a rs.length cap:=by
 rcases h.aM with⟨rfl,rfl⟩|⟨_,r,n,cap,c,rfl,h2,h3,_⟩
 ·exact⟨_,_,rfl⟩
 ·rw[h.Ys]at h3
  exact⟨_,cap,by rw[show n=rs.length by omega]⟩
theorem OQ{tb:bP}{o y:Sym}(h:Ag tb o y)(e1:φ.s=o.s)(e2:φ.q=o.q)(e3:φ.w=o.w)(e4:φ.g=o.g):Ag tb φ.y y:=by
 obtain⟨os,oq,ow,og,ok⟩:=o;have e1:φ.y.s=os:=e1;have e2:φ.y.q=oq:=e2;have e3:φ.y.w=ow:=e3;have e4:φ.y.g=og:=e4;refine⟨?_,?_,?_,?_⟩
 ·rw[e1];exact h.s
 ·have hq:pe φ.y=pe {s:=os,q:=oq,w:=ow,g:=og,k:=ok}:=by
   funext v x
   cases v<;>simp only[pe,e1,e2]
  rw[hq];exact h.q
 ·rw[e3];exact h.w
 ·rw[e4];exact h.g
def kEs:List (V×V×Nat):=[(.i .i64 3,kV 1 61 62 63 64,0),(.i .i64 4,kV 2 65 66 67 68,1),(.i .i64 1,kV 3 69 70 71 72,2),(.i .i64 2,kV 4 73 74 75 76,3),(.i .i64 5,kV 5 73 77 78 79,4)]
def C5:List (V×V×Nat)->List (V×V×Nat)->Bool
 |[],[]=>true
 |(a,b,n)::l,(a',b',n')::l'=>same a a'&&same b b'&&Nat.beq n n'&&C5 l l'
 |_,_=>false
theorem HW:∀{l l':List (V×V×Nat)},C5 l l'=true->l=l'
 |[],[],_=>rfl
 |(a,b,n)::l,(a',b',n')::l',h=>by
  simp only[C5,AAA]at h;rw[bJ _ _ h.1.1.1,bJ _ _ h.1.1.2,arW h.1.2,HW h.2]
 |[],_::_,h=>by simp only[C5]at h;cases h
 |_::_,[],h=>by simp only[C5]at h;cases h
noncomputable def kmR:Bool:=match tX (aI E3 {} {}) (exec (aI E3 {} {}) 100) 36 [] (ak 0 [])with
 |some (.m (some b),h')=>(match h'.get b with|.mp es c=>C5 es kEs&&Nat.beq c 5|_=>false)
 |_=>false
theorem aqH:kmR=true:=by decide+kernel
theorem ahg{qY b k l r:Nat}{v:Value}(h:VR φ (kV qY b k l r) v):v=kW qY b k l r:=by
 have f0:∀{x:Nat} {u:Value},VR φ (.f x [] []) u->u=.func (.func x) #[] #[]:=fun{x u} h=>by
  simp only[VR]at h;obtain⟨f',c',rfl,h1,h2⟩:=h;simp only[J]at h1 h2;rw[arF.1 (h1.trans (by rfl:[]=(#[]:Array Value).toList)),arF.1 (h2.trans (by rfl:[]=(#[]:Array Value).toList))]
 obtain⟨vs,rfl,iz⟩:=Ff (show VR φ (.a [.i .i64 qY,.f b [] [],.f k [] [],.f l [] [],.f r [] []]) v from h);simp only[J]at iz;obtain⟨x0,_,e0,g0,x1,_,rfl,g1,x2,_,rfl,g2,x3,_,rfl,g3,x4,_,rfl,g4,rfl⟩:=iz;rw[Ki g0,f0 g1,f0 g2,f0 g3,f0 g4]at e0;exact congrArg _ (arF.1 e0)
theorem ahh{l:List MapEntry}(h:fB φ kEs l):l=ca.1.toList:=by
 simp only[kEs,fB]at h;obtain⟨e0,_,rfl,a0,b0,c0,e1,_,rfl,a1,b1,c1,e2,_,rfl,a2,b2,c2,e3,_,rfl,a3,b3,c3,e4,_,rfl,a4,b4,c4,rfl⟩:=h;have key:∀{e:MapEntry} {n qY b k l r born:Nat},VR φ (.i .i64 n) e.key->VR φ (kV qY b k l r) e.val->e.born=born->e=kE n qY b k l r born:=fun{e n qY b k l r born} h1 h2 h3=>by
  obtain⟨key,val,bo⟩:=e;simp only at h1 h2 h3;rw[Ki h1,ahg h2,h3];rfl
 rw[key a0 b0 c0,key a1 b1 c1,key a2 b2 c2,key a3 b3 c3,key a4 b4 c4];rfl
theorem UE(n:Nat)(w:World):CallsIn (W none) n Tryz.prog 36 #[] w fun e w'=>∃r,e=.returned (.map (some r))/\Grown w w'/\w.heap.size<=r/\w'.heap[r]? =some (.map ca.1 ca.2):=by
 have hr:=aqH;unfold kmR at hr;split at hr
 ·rename_i b h' eF
  have hE:=aw ah {} {};let y:Sym:=dg [] [] [] [];have key:=((pI hE (cV hE 100).1 _ _ _ _ _ eF (φ0 y w) [] w n (fun g hg=>by have:g<0:=hg;omega) (eZ aS eX) J.nil (bc y w)).2);refine key.mono ?_;rintro e w' ⟨af,u,rfl,hx,V5,cM⟩;simp only[VR]at V5;obtain⟨r,hb,rfl⟩:=V5;split at hr
  ·rename_i es c hg
   simp only[AAA]at hr;have e1:=HW hr.1;have e2:=arW hr.2;subst e1;subst e2;obtain⟨o,h1,h2⟩:=cM.ew b r hb (by rw[hg];trivial);rw[hg]at h2;obtain⟨oU,rfl,h3⟩:=h2;have hk:(φ0 y w).y.k=fun r=>w.heap[r]? :=rfl
   refine⟨r,rfl,⟨hx.size,fun s bf=> ?_,hx.os,hx.tape,hx.output⟩,?_,?_⟩
   ·have ho:w.heap[s]? =some w.heap[s]:=Array.getElem?_eq_getElem bf
    rw[ho];exact(cM.kp s w.heap[s] (by rw[hx.le.yy,hk];exact ho)).1
   ·rcases hx.new b r hb with⟨b0,e⟩|h
    ·cases e
    ·exact h
   ·rw[h1,show oU=ca.1 from arF.1 (ahh h3)];rfl
  ·cases hr
 ·cases hr
def anz(cp:Bool)(m:Nat):List V:=[.i .i64 (cond cp 2 1),.y .i64 1,.y .i64 2,.q 50,cond cp (nD 0 1 m) eD]
def aqI(cp:Bool)(m:Nat):List (Nat×aQ):=cond cp [(0,.rc ((arI m).map (jV true)) 3)] []
def aqJ(cp:Bool)(m:Nat):aU:={bin:=[(.lss,.y .i64 2,.i .i64 1,.b false),(.gtr,.y .i64 2,.i .i64 100001,.b false),(.lss,.y .i64 1,.i .i64 1,.b false),(.gtr,.y .i64 8,.i .i64 700,.b false)]++cond cp ((.eql,.i .i64 m,.y .i64 8,.b true)::(arI m).flatMap fun j=>[(.lss,.y .i64 (10+j),.i .i64 1,.b false),(.gtr,.y .i64 (10+j),.y .i64 1,.b false)]) [(.gtr,.y .i64 8,.i .i64 0,.b true)]}
noncomputable def fmR(cp:Bool)(m:Nat):Bool:=dN (aI E3 (aqJ cp m) {on:=[(50,8)]}) 400 35 [.a (anz cp m)] (cond cp 1 0) (aqI cp m) (.b true) []
theorem aqK:fmR false 1=true:=by decide+kernel
theorem aqL:((List.range' 1 12).all fun m=>fmR true m)=true:=by decide+kernel
theorem ahi(m:Nat):fmR false m=fmR false 1:=rfl
section
variable {K:Nat->Option Obj} {cp:Bool} {N X:Int} {rs:List (List Value×ByteArray)} {vs:List Int} {aM aK:Value}
theorem UF(hb:dS K cp N rs vs aM aK)(bU:rs≠[])(Ig:rs.length<=12)(hN:1<=N)(hX:1<=X/\X<=100001):Quiet Tryz.prog K 35 [bW cp N X aM aK] (· =.bool true):=by
 have gn:0<rs.length:=List.length_pos_iff.2 bU;have ba:fmR cp rs.length=true:=by
  cases cp
  ·rw[ahi];exact aqK
  ·exact aop.1 aqL _ (by rw[List.mem_range'];exact⟨rs.length-1,by omega,by omega⟩)
 unfold fmR at ba;obtain⟨ra,EW,jD⟩:=hb.UD;let y:Sym:=Hx (fun x=>if x<10 then(match x with|1=>N|2=>X|_=>rs.length)else vs.getD (x-10) 0) (fun _=>aM)
 have yv:∀j,y.s (10+j)=vs.getD j 0:=fun j=>by
  show(if 10+j<10 then _ else vs.getD (10+j-10) 0)=_;rw[if_neg (by omega),show 10+j-10=j by omega]
 refine cC ah rfl ba y (fun φ e1 e2 _ _ hK=> ?_) (fun φ e1 e2 _ _ hK=>{on:=⟨⟨ra,rs.length,EW,(agB e2 50).trans jD,agB e1 8⟩,agm⟩}) (fun w hw=> ?_) (fun φ _ _ x hx=>Ih hx) ⟨_,_,Tryz.func35,rfl,rfl⟩
 ·have iv:∀x,aR φ.y (.y .i64 x)=some (.i64,y.s x):=fun x=>congrArg (fun z=>some (arE,z)) (agB e1 x)
  refine⟨agm,aO ⟨.lss (iv 2) rfl (decide_eq_false (by show ¬X<1;omega)),.gtr (iv 2) rfl (decide_eq_false (by show ¬(100001:Int)<X;omega)),.lss (iv 1) rfl (decide_eq_false (by show ¬N<1;omega)),.gtr (iv 8) rfl (decide_eq_false (by show ¬(700:Int)<(rs.length:Int);omega)),agm⟩ ?_,agm,agm,agm,agm,agm,agm,agm⟩;cases cp with
  |false=>exact⟨.gtr (iv 8) rfl (decide_eq_true (by show(0:Int)<(rs.length:Int);omega)),agm⟩
  |true=>
   refine⟨.eql (x:=rs.length) rfl (iv 8) (decide_eq_true rfl),cF fun j hj=> ?_⟩;have hj:=arC.1 hj;have MV:=hb.rq rfl;have hv:=hb.ON rfl (vs.getD j 0) (by rw[arD,arG (by omega)];exact List.getElem_mem _);have i1:=iv (10+j);rw[yv]at i1;exact⟨.lss i1 rfl (decide_eq_false (by omega)),.gtr i1 (iv 1) (decide_eq_false (by show ¬N<_;omega)),agm⟩
 ·let φ:=φ0 y w
  have hi:∀{φ:Ren},VR φ (.i .i64 (cond cp 2 1)) (.int .i64 (cond cp 2 1)):=fun{φ}=>by cases cp<;>exact vI
  have fin:∀{φ:Ren},φ.y={y with k:=fun r=>w.heap[r]?}->VR φ (cond cp (nD 0 1 rs.length) eD) aK->J φ [.a (anz cp rs.length)] [bW cp N X aM aK]:=fun{φ} hy h2=>by
   have e1:φ.s=y.s:=by funext x;show φ.y.s x=_;rw[hy]
   have e2:φ.q=y.q:=by funext x;show φ.y.q x=_;rw[hy]
   exact J.cons (vA (J.cons hi (J.cons (vY (agB e1 1)) (J.cons (vY (agB e1 2)) (J.cons (vQ (agB e2 50) hb.o9) (J.cons h2 J.nil)))))) J.nil
  rcases hb.aK with⟨rfl,rfl⟩|⟨h1,h2,_⟩|⟨rfl,h2,gh⟩
  ·exact⟨φ,bc y w,rfl,fin rfl bY⟩
  ·have:=hb.rq h1
   rw[h2]at this;have:rs.length=0:=this.symm;omega
  ·have MV:=hb.rq rfl
   have xG:J φ ((arI rs.length).map (jV true)) (vs.map (.int .i64)):=fy (by rw[arJ,MV]) fun x u hx=>by
    rw[asb]at hx;cases hl:vs[x]?with
    |none=>rw[hl]at hx;cases hx
    |some p=>
     rw[hl]at hx;cases hx;refine vY ?_;show y.s (10+x)=p;rw[yv,arD,hl];rfl
   obtain⟨aV,k1,k2,k3,k4⟩:=gh.enter (bc y w) hw rfl xG (n:=rs.length) (by rw[arJ,MV,Nat.mul_one]);obtain⟨j,hj⟩:∃j,rs.length=j+1:=⟨rs.length-1,by omega⟩
   refine⟨aV,?_,k2,fin k2 ?_⟩
   ·exact k1
   ·show VR aV (nD 0 1 rs.length) aK
    rw[hj]at k4⊢;exact k4
end
variable{a:List Value}
structure Yv(K:Nat->Option Obj)(t e:TypeId)(v:Value)(n:Nat)(val:Nat->Value):Prop where
 sl:∃a cap,v=.slice a n cap
 at_:∀i,i<n->∃p:Value,p.oneCell'=true/\(∀w,(Instr.indexAt t v (.int .i64 i)).run Tryz.prog w=.ok p w)/\∀w:World,(∀r o,K r=some o->w.heap[r]? =some o)->(Instr.loadAt e p).run Tryz.prog w=.ok (val i) w
theorem Yv.one{K:Nat->Option Obj}{t e:TypeId}{v:Value}{n:Nat}{val:Nat->Value}(hi:Yv K t e v n val):v.oneCell'=true:=by obtain⟨a,cap,rfl⟩:=hi.sl;rfl
theorem yx.mono{K K':Nat->Option Obj}(hk:∀r o,K r=some o->K' r=some o){c:Nat->Int}{aP fs:Value}{nv nf:Nat}{vc:Nat->Nat->Int}{fr:Nat->ji}(h:yx K c aP nv vc fs nf fr):yx K' c aP nv vc fs nf fr:=⟨h.int,h.aP.mono hk,h.Yj,h.fs.mono hk,h.agN⟩
def RT(c:Nat->Int)(aP fs:Value):List Value:=[.int .i64 (c 20),.int .i64 (c 21),.int .i64 (c 22),.int .i64 (c 23),aP,.int .i64 (c 25),fs,.int .i64 (c 1),.int .i64 (c 2),.int .i64 (c 3),.int .i64 (c 4),.int .i64 (c 5),.int .i64 (c 6),.int .i64 (c 7),.int .i64 (c 8)]
theorem Yw{c:Nat->Int}{aP fs:Value}(h1:aP.oneCell'=true)(h2:fs.oneCell'=true):∀u∈RT c aP fs,u.oneCell'=true:=fun u hu=>by
 simp only[RT,arQ,List.not_mem_nil,or_false]at hu;rcases hu with rfl|rfl|rfl|rfl|rfl|rfl|rfl|rfl|rfl|rfl|rfl|rfl|rfl|rfl|rfl<;>first|rfl|assumption
structure gC where
 cp:Bool
 cN:Int
 cX:Int
 rr:Value
 nr:Nat
 c:Nat->Nat->Int
 aP:Nat->Value
 fs:Nat->Value
 nv:Nat->Nat
 vc:Nat->Nat->Nat->Int
 nf:Nat->Nat
 fr:Nat->Nat->ji
 vv:Value
 y8:Nat
 ver:Nat->Int
structure OS(K:Nat->Option Obj)(b:gC):Prop where
 iN:eR b.cN
 iX:eR b.cX
 rin:xw K 22 73 b.rr b.nr fun i=>RT (b.c i) (b.aP i) (b.fs i)
 rcs:∀i,i<b.nr->yx K (b.c i) (b.aP i) (b.nv i) (b.vc i) (b.fs i) (b.nf i) (b.fr i)
 ON:Yv K 23 3 b.vv b.y8 fun i=>.int .i64 (b.ver i)
 vi:∀i,i<b.y8->eR (b.ver i)
def gC.W(b:gC):Value:=.agg #[.bool b.cp,.int .i64 b.cN,.int .i64 b.cX,b.rr,b.vv]
def gC.N(b:gC):Int:=1+ax b.cN 300
def gC.X(b:gC):Int:=13+ax b.cX 500
def aa0(K:Nat->Option Obj)(b:gC)(w:World)(e:Ending)(w':World):Prop:=∃rs vs aM aK K1,e=.returned (bW b.cp b.N b.X aM aK)/\Grown w w'/\rJ K w w' K1/\dS K1 b.cp b.N rs vs aM aK/\rs≠[]/\rs.length<=12
def Pv(b:gC)(e:Nat->Int):Nat->Int:=fun x=>match x with|6=>b.nr|7=>b.y8|13=>b.N|14=>b.X|x=>e x
def VG(b:gC)(aM aK r2 v2 p q:Value)(a raw:List Value):Nat->Value:=fun x=>if x<60 then(match x with|20=>b.rr|21=>b.vv|50=>aM|51=>aK|52=>r2|53=>v2|40=>p|_=>q)else if x<100 then a.getD (x-60) b0 else raw.getD (x-200) b0
def vR(b:gC)(e:Nat->Int)(aM aK r2 v2 p q:Value)(a raw:List Value):Sym:=Hx (Pv b e) (VG b aM aK r2 v2 p q a raw)
theorem Cc{b:gC}{r v:V}{s:List (Nat×SV)}{l:List Nat}{o y:Sym}(o1:b.rr.oneCell'=true)(o2:b.vv.oneCell'=true)(oe:∃e,o.s=Pv b e)(ye:∃e,y.s=Pv b e)(oq:o.q 20=b.rr/\o.q 21=b.vv)(yq:y.q 20=b.rr/\y.q 21=b.vv)(h1:pe o r (y.q 50))(h2:pe o v (y.q 51))
  (hs:cI (fun e:Nat×SV=>y.s e.1=match e.2 with|.y z=>o.s z|.i n=>n) s)(hl:∀x∈l,y.q x=o.q x/\(y.q x).oneCell'=true):Ag (B7 r v s l) o y:=by
 obtain⟨e,oe⟩:=oe;obtain⟨e',ye⟩:=ye;refine⟨aO hs ⟨?_,?_,agm⟩,aO ⟨⟨?_,?_⟩,⟨?_,?_⟩,h1,h2,agm⟩ (cH fun x hx=>hl x hx),agm,agm⟩
 ·show y.s 13=o.s 13
  rw[oe,ye];rfl
 ·show y.s 14=o.s 14
  rw[oe,ye];rfl
 ·show y.q 20=o.q 20
  rw[oq.1,yq.1]
 ·show(y.q 20).oneCell'=true
  rw[yq.1];exact o1
 ·show y.q 21=o.q 21
  rw[oq.2,yq.2]
 ·show(y.q 21).oneCell'=true
  rw[yq.2];exact o2
theorem btA{b:gC}{aM aK r2 v2 p q:Value}{raw:List Value}{j:Nat}(h:j<18):(VG b aM aK r2 v2 p q a raw) (60+j)=a.getD j b0:=by
 show(if 60+j<60 then _ else if 60+j<100 then a.getD (60+j-60) b0 else _)=_;rw[if_neg (by omega),if_pos (by omega),show 60+j-60=j by omega]
theorem btW{b:gC}{aM aK r2 v2 p q:Value}{raw:List Value}{j:Nat}:(VG b aM aK r2 v2 p q a raw) (200+j)=raw.getD j b0:=by
 show(if 200+j<60 then _ else if 200+j<100 then _ else raw.getD (200+j-200) b0)=_;rw[if_neg (by omega),if_neg (by omega),show 200+j-200=j by omega]
theorem C6{l:List Value}(hl:l.length=15)(h1:∀u∈l,u.oneCell'=true)(h:∀j,φ.q (200+j)=l.getD j b0):J φ xp l:=fy (by omega) fun x u hx=>by
 refine vQ ?_ (h1 u (List.mem_of_getElem? hx));rw[h,arD,hx];rfl
theorem aa1(ha:eI a)(h:∀j,j<18->φ.q (60+j)=a.getD j b0):J φ (uV 60) a:=xo ha.len ha.one fun i v hv=>by
 have hl:i<18:=by rw[<-ha.len];exact(List.getElem?_eq_some_iff.1 hv).1
 rw[h i hl,arD,hv];rfl
theorem C7{cp:Bool}{N X:Int}{x y:Nat}{r v:Value}(Vp:φ.s 13=N)(h14:φ.s 14=X)(hx:φ.q x=r)(hr:r.oneCell'=true)(hy:φ.q y=v)(hv:v.oneCell'=true):VR φ (.a (lL cp x y)) (bW cp N X r v):=by
 have hi:VR φ (.i .i64 (cond cp 2 1)) (.int .i64 (cond cp 2 1)):=by cases cp<;>exact vI
 exact vA (J.cons hi (J.cons (vY Vp) (J.cons (vY h14) (J.cons (vQ hx hr) (J.cons (vQ hy hv) J.nil)))))
theorem nJ(cp:Bool)(x y:Nat):oY (.a (lL cp x y))=true:=by cases cp<;>rfl
theorem anA:([true,false].all fun cp=>aW lD 72 nF 8 (iI cp))=true:=by decide+kernel
theorem ahj:∃id b,Ow.drop 2=.block id b::Ow.drop 3/\ct b=Vy:=⟨_,_,rfl,rfl⟩
theorem ahk:∃id,Vy=.region id Vz false::Vy.drop 1:=⟨_,rfl⟩
theorem anB:∃id,Vy.drop 4=.region id B5 false::[]:=⟨_,rfl⟩
theorem aqM:∃x y,c5.drop 7=.cond (.tmp 67) x y::c5.drop 8/\ct (if true then x else y)=cE5:=⟨_,_,rfl,rfl⟩
theorem ahl:∃id,cE5=.region id B6 false::[]:=⟨_,rfl⟩
section
variable {K:Nat->Option Obj} {b:gC}
structure HX(K:Nat->Option Obj)(b:gC)(w0:World)(i:Nat)(L:List (Nat×V))(a:Act)(w':World):Prop where
 ex:∃φ K1 rs vs aM aK e,dS K1 b.cp b.N rs vs aM aK/\rs.length<=i/\(1<=i->rs≠[])/\ad φ w0.heap.size (U 72 L) (ak 8 (iI b.cp)) a w'/\fU K1 φ/\KA K w0.heap.size K1/\a.defers=[]/\GB w0.heap.size w0 w'/\bD φ (vR b e aM aK aF aF aF aF [] [])
theorem ahm(h:OS K b){i:Nat}(ahn:i<12):∃v n e,v<4/\afC v=b.cp/\(b.cp=true->1<=n/\n<=b.N)/\Pv b e 5=n/\(v=0->n=0)/\(v=1->n=1)/\∃q:Value,∀φ:Ren,φ.s=Pv b e->φ.q 21=b.vv->φ.q 41=q->(∀r o,K r=some o->φ.y.k r=some o)->aA Tryz.prog (aar v i) φ/\iZ Tryz.prog (aas v) φ:=by
 obtain⟨g1,g2⟩:=bI b.cN (N:=300) (by decide);have hN:b.N=1+ax b.cN 300:=rfl;obtain⟨sa,rp,uO⟩:=h.ON.sl;cases hcp:b.cp with
 |false=>exact⟨0,0,fun _=>0,by decide,rfl,(fun e=>by cases e),rfl,fun _=>rfl,(fun e=>by cases e),aF,fun φ _ _ _ _=>⟨aS,eX⟩⟩
 |true=>
  rcases Nat.eq_zero_or_pos b.y8 with h0|gn
  ·refine⟨1,1,fun _=>1,by decide,rfl,fun _=>by omega,rfl,(fun e=>by cases e),fun _=>rfl,aF,fun φ f1 f2 f3 f4=>⟨?_,{on:=⟨⟨sa,b.y8,rp,f2.trans uO,agB f1 7⟩,agm⟩}⟩⟩
   have i7:aR φ.y (.y .i64 7)=some (.i64,(b.y8:Int)):=congrArg (fun z=>some (arE,z)) (agB f1 7);exact⟨agm,⟨.gtr (k:=.i64) (x:=b.y8) (y:=0) i7 rfl (by rw[h0];rfl),agm⟩,agm,agm,agm,agm,agm,agm,agm⟩
  ·have hj:i%b.y8<b.y8:=Nat.mod_lt _ gn
   obtain⟨q,q1,q2,q3⟩:=h.ON.at_ _ hj;have hint:=h.vi _ hj;have arw:=Nat.mod_le i b.y8;obtain⟨M,hM,m1,m4,hMN⟩:∃M:Nat,((M:Int)=if 4<=b.N then 4 else b.N)/\1<=M/\M<=4/\(M:Int)<=b.N:=by
    by_cases h4:4<=b.N
    ·exact⟨4,by rw[if_pos h4];rfl,by decide,by decide,by omega⟩
    ·exact⟨b.N.toNat,by rw[if_neg h4];omega,by omega,by omega,by omega⟩
   obtain⟨p1,p2⟩:=bI (b.ver (i%b.y8)) (N:=M) (by omega);let n:Int:=1+ax (b.ver (i%b.y8)) M;let e:Nat->Int:=fun x=>match x with|5=>n|31=>((i%b.y8:Nat):Int)|32=>b.ver (i%b.y8)|_=>ax (b.ver (i%b.y8)) M
   have hX:∀{φ:Ren},φ.s=Pv b e->φ.q 21=b.vv->φ.q 41=q->(∀r o,K r=some o->φ.y.k r=some o)->iZ Tryz.prog {on:=[(21,7)],oi:=[(23,21,.y .i64 31,41)],ol:=[(3,41,.y .i64 32)]} φ:=fun{φ} f1 f2 f3 f4=>
    {on:=⟨⟨sa,b.y8,rp,f2.trans uO,agB f1 7⟩,agm⟩,
     oi:=⟨fun af hl vi hv=>by
      simp only[VR]at hv;rw[hl.sy,f1]at hv;subst hv;rw[f3,f2];exact⟨q1,q2⟩,agm⟩,
     ol:=⟨fun w hw=>by
      rw[f3];exact⟨_,q3 w fun r o hk=>hw r o (f4 r o hk),vY (by rw[f1];rfl)⟩,agm⟩}
   have hp:=fun K=>eJ K hint (N:=M) ⟨m1,by omega⟩
   by_cases h4:4<=b.N
   ·have hM4:M=4:=by rw[if_pos h4]at hM;omega
    refine⟨2,n,e,by decide,rfl,fun _=>by omega,rfl,(fun e=>by cases e),(fun e=>by cases e),q,fun φ f1 f2 f3 f4=>⟨?_,hX f1 f2 f3 f4⟩⟩;have iv:∀x,aR φ.y (.y .i64 x)=some (.i64,Pv b e x):=fun x=>congrArg (fun z=>some (arE,z)) (agB f1 x)
    refine⟨agm,⟨.gtr (iv 7) rfl (decide_eq_true (by show(0:Int)<(b.y8:Int);omega)),.rem (k:=.i64) (x:=i) rfl (iv 7) (by show(b.y8:Int)≠0;omega) (iv 31) (fQ (by show eR ((i%b.y8:Nat):Int);unfold eR;omega)),.add (x:=1) (y:=ax (b.ver (i%b.y8)) M) rfl (iv 34) (iv 5) (fQ (by unfold eR;omega)),agm⟩,⟨⟨.i64,b.N,4,iv 13,rfl,?_⟩,agm⟩,agm,agm,agm,agm,agm,dy rfl (by have:=hp φ.y.k;rw[hM4]at this;exact this) (J.cons (vY (agB f1 32)) (J.cons vI J.nil)) (vY (by rw[f1,<-hM4];rfl)),agm⟩;refine(iv 13).trans ?_;show some (arE,b.N)=some (arE,if(4:Int)>b.N then 4 else b.N);rw[if_neg (by omega)]
   ·have hM4:(M:Int)=b.N:=by rw[if_neg h4]at hM;exact hM
    refine⟨3,n,e,by decide,rfl,fun _=>by omega,rfl,(fun e=>by cases e),(fun e=>by cases e),q,fun φ f1 f2 f3 f4=>⟨?_,hX f1 f2 f3 f4⟩⟩;have iv:∀x,aR φ.y (.y .i64 x)=some (.i64,Pv b e x):=fun x=>congrArg (fun z=>some (arE,z)) (agB f1 x)
    refine⟨agm,⟨.gtr (iv 7) rfl (decide_eq_true (by show(0:Int)<(b.y8:Int);omega)),.rem (k:=.i64) (x:=i) rfl (iv 7) (by show(b.y8:Int)≠0;omega) (iv 31) (fQ (by show eR ((i%b.y8:Nat):Int);unfold eR;omega)),.add (x:=1) (y:=ax (b.ver (i%b.y8)) M) rfl (iv 34) (iv 5) (fQ (by unfold eR;omega)),agm⟩,⟨⟨.i64,b.N,4,iv 13,rfl,?_⟩,agm⟩,agm,agm,agm,agm,agm,dy rfl (by have:=hp φ.y.k;rw[hM4]at this;exact this) (J.cons (vY (agB f1 32)) (J.cons (vY (agB f1 13)) J.nil)) (vY (by rw[f1,<-hM4];rfl)),agm⟩;show some (arE,(4:Int))=some (arE,if(4:Int)>b.N then 4 else b.N);rw[if_pos (by omega)]
theorem Yx(ht:tu K)(h:OS K b){w0:World}{i:Nat}(hi:i<b.nr)(ahn:i<12){m:Nat}{a:Act}{w':World}(hv:HX K b w0 i (tp i) a w'):
  aC none m Tryz.prog (fun e a' w''=>e=.normal/\HX K b w0 (i+1) (tp (i+1)) a' w'') Ow a w':=by
 obtain⟨φ,K1,rs,vs,aM,aK,e0,hb,hle,bU,hs,hK,C0,hd,hg,n1,n2,n3,n4⟩:=hv.ex;have o1:=h.rin.one;have o2:=h.ON.one;have Yy:=hb.o9;have Yz:=hb.pU;have mi:i∈arI 12:=arC.2 ahn;have t1:=dp (aop.1 alv i mi) b.cp;have t2:=dp (aop.1 alA i mi) b.cp;have t2s:=dp (aop.1 alB i mi) b.cp;have t3:=dp (aop.1 alD i mi) b.cp;have t5:=dp (aop.1 alI i mi) b.cp;have t5s:=dp (aop.1 alJ i mi) b.cp;have t6:=dp (aop.1 alL i mi) b.cp;have t7:=dp (aop.1 alN i mi) b.cp;unfold alu at t1;unfold alz at t2;unfold alC at t3;unfold alH at t5;unfold alK at t6;unfold alM at t7;obtain⟨sa,rp,uO⟩:=h.rin.sl;obtain⟨p,p1,p2,p3⟩:=h.rin.at_ i hi;obtain⟨v,n,e,Fb,hvc,hn,he5,hv0,gE,q,afI⟩:=ahm h ahn;have t4:=aop.1 (aop.1 alG i mi) v (arC.2 Fb);unfold alF at t4;rw[hvc]at t4;let raw:=RT (b.c i) (b.aP i) (b.fs i);have hr:=h.rcs i hi;have aho:∀u∈raw,u.oneCell'=true:=Yw hr.aP.one hr.fs.one
 have anC:raw.length=15:=rfl;let y1:=vR b e aM aK aF aF p q [] raw;have hX1:iZ Tryz.prog {on:=[(20,6)]} φ:={on:=⟨⟨sa,b.nr,rp,(agB n2 20).trans uO,agB n1 6⟩,agm⟩};have V6:aA Tryz.prog {bin:=[(.lss,.i .i64 i,.y .i64 6,.b true)]} φ:=⟨agm,⟨.lss (k:=.i64) (x:=i) (y:=b.nr) rfl (congrArg (fun z=>some (arE,z)) (agB n1 6)) (by simp;omega),agm⟩,agm,agm,agm,agm,agm,agm,agm⟩;have YA:∀{e e':Nat->Int} {r2 v2 p q r2' v2' p' q':Value} {a raw a' raw':List Value},Ag lD (vR b e aM aK r2 v2 p q a raw) (vR b e' aM aK r2' v2' p' q' a' raw'):=Cc o1 o2 ⟨_,rfl⟩ ⟨_,rfl⟩ ⟨rfl,rfl⟩ ⟨rfl,rfl⟩ ⟨rfl,Yy⟩ ⟨rfl,Yz⟩ trivial (fun x hx=>by cases hx)
 refine ad.runK (aw ah _ _) rfl 2 (cs:=Ow) t1 hs hK (eZ V6 hX1) hd y1 (YA.au n1 n2 n3 n4) fun φ a1 w1 hs hK hd kx n1 n2 n3 n4=> ?_
 show aC none m Tryz.prog _ (Ow.drop 2) a1 w1;obtain⟨id,bb,sj,tB⟩:=ahj;rw[sj];refine Aa ?_;rw[tB];obtain⟨id2,iJ⟩:=ahk;rw[iJ];refine gB ?_;have hX2:iZ Tryz.prog {oi:=[(22,20,.i .i64 i,40)],ol:=[(73,40,.a xp)]} φ:=by
  refine{oi:=⟨fun af hl vi hv=> ?_,agm⟩,ol:=⟨fun w hw=> ?_,agm⟩}
  ·have hv:=Ki hv
   subst hv;rw[show φ.q 40=p from agB n2 40,show φ.q 20=b.rr from agB n2 20];exact⟨p1,p2⟩
  ·rw[show φ.q 40=p from agB n2 40]
   exact⟨_,p3 w (fun r o e=>hw r o (hK r o (C0.1 r o e))),vA (C6 anC aho fun j=>by rw[n2];exact btW)⟩
 have agW:∀{e e':Nat->Int} {r2 v2 p q r2' v2' p' q':Value} {a a':List Value},Ag TJ (vR b e aM aK r2 v2 p q a raw) (vR b e' aM aK r2' v2' p' q' a' raw):=Cc o1 o2 ⟨_,rfl⟩ ⟨_,rfl⟩ ⟨rfl,rfl⟩ ⟨rfl,rfl⟩ ⟨rfl,Yy⟩ ⟨rfl,Yz⟩ trivial (fun x hx=>by
  obtain⟨j,_,rfl⟩:=arV.1 hx;show VG _ _ _ _ _ _ _ _ _ _=VG _ _ _ _ _ _ _ _ _ _/\(VG _ _ _ _ _ _ _ _ _ _).oneCell'=true;rw[btW,btW];exact⟨rfl,fm aho j⟩)
 refine ad.jR (aw ah _ _) rfl 5 (l:=Vz.toList) t2 hs hK (eZ aS hX2) y1 (agW.au n1 n2 n3 n4) fun φ a2 w2 hs hK mF iK n1 n2 n3 n4=> ?_
 refine hs.eV (l:=Vz.toList.drop 5) (o:=(Vz.toList.drop 5).headD default) (rest:=Vz.toList.drop 6) rfl rfl rfl rfl rfl Tryz.func15 rfl rfl (Vs:=[.a xp]) (by show[(U 72 (Mx i)).get 34]=_;rw[cA];rfl) ?_;intro args' ha;have:args'=[nI (b.c i) (b.aP i) (b.fs i)]:=mQ (φ:=φ) rfl ha (J.cons (vA (l:=xp) (vs:=raw) (C6 anC aho fun j=>by rw[n2];exact btW)) J.nil);subst this;refine(Ut (ht.mono C0.1) (hr.mono C0.1) (m-1) (hs.lJ hK)).mono ?_;rintro ee w3 ⟨ra,rs0,K2,rfl,gG,fb,lz⟩;refine⟨_,rfl,?_⟩;let y2:=vR b e aM aK aF aF p q ra [];let y2r:=vR b e aM aK aF aF p q ra raw;obtain⟨φ,hs,hK,n1,n2,n3,n4⟩:=hs.mS hK gG fb t2s (y:=y2r) (by
  have:=agW (e:=e) (e':=e) (r2:=aF) (v2:=aF) (p:=p) (q:=q) (r2':=aF) (v2':=aF) (p':=p) (q':=q) (a:=[]) (a':=ra);refine⟨?_,?_,agm,agm⟩
  ·have h:=this.s;rw[<-show φ.y.s=_ from n1]at h;exact h
  ·have h:=this.q
   have hq:pe φ.y=pe (vR b e aM aK aF aF p q [] raw):=by
    have e1:φ.y.s=_:=n1;have e2:φ.y.q=_:=n2
    funext v x
    cases v<;>simp only[pe,e1,e2]<;>rfl
   rw[hq];exact h)
 have anD:=C0.kD fb (by have:=iK.size;have:=kx.size;have:=hg.size;omega);have hs:=hs.put (d:=35) (by decide) (x:=.a (uV 60)) (v:=.agg ra.toArray) (vA (aa1 lz.form fun j hj=>by rw[n2];exact btA hj));have agA:∀{s:List (Nat×SV)} {e e':Nat->Int} {r2 v2 p q r2' v2' p' q':Value} {raw raw':List Value},cI (fun z:Nat×SV=>Pv b e' z.1=match z.2 with|.y z=>Pv b e z|.i n=>n) s->Ag (Mz s) (vR b e aM aK r2 v2 p q ra raw) (vR b e' aM aK r2' v2' p' q' ra raw'):=fun hss=>Cc o1 o2 ⟨_,rfl⟩ ⟨_,rfl⟩ ⟨rfl,rfl⟩ ⟨rfl,rfl⟩ ⟨rfl,Yy⟩ ⟨rfl,Yz⟩ hss (fun x hx=>by
  obtain⟨j,hj,rfl⟩:=arV.1 hx;have hj:=arC.1 hj;show VG _ _ _ _ _ _ _ _ _ _=VG _ _ _ _ _ _ _ _ _ _/\(VG _ _ _ _ _ _ _ _ _ _).oneCell'=true;rw[btA hj,btA hj];exact⟨rfl,fm lz.form.one j⟩)
 refine ad.jR (aw ah {} {}) rfl 5 (l:=Vz.toList.drop 6) t3 hs hK (eZ aS eX) y2 ((agA (s:=[]) (e:=e) (e':=e) trivial).au n1 n2 n3 n4) fun φ a3 w4 hs hK gJ ig n1 n2 n3 n4=> ?_
 show aC none m Tryz.prog _ (Vy.drop 1) a3 w4;have gJ:a3.defers=[]:=gJ.trans (mF.trans hd);obtain⟨hF4,hX4⟩:=afI φ n1 (agB n2 21) (agB n2 41) fun r o hk=>hK r o (anD.1 r o hk)
 refine ad.runK (aw ah _ _) rfl 3 (cs:=Vy.drop 1) t4 hs hK (eZ hF4 hX4) gJ y2 ((agA (s:=alE v) (e:=e) (e':=e) (by
  match v,Fb,hv0,gE with
  |0,_,h,_=>exact⟨he5.trans (h rfl),agm⟩
  |1,_,_,h=>exact⟨he5.trans (h rfl),agm⟩
  |2,_,_,_=>exact⟨rfl,agm⟩
  |3,_,_,_=>exact⟨rfl,agm⟩)).au n1 n2 n3 n4) fun φ a4 w5 hs hK sS pV n1 n2 n3 n4=> ?_
 show aC none m Tryz.prog _ (Vy.drop 4) a4 w5;obtain⟨id3,iJ⟩:=anB;rw[iJ];refine gB ?_;refine ad.jR (aw ah {} {}) rfl 3 (l:=B5.toList) t5 hs hK (eZ aS eX) y2 ((agA (s:=[(5,.y 5)]) (e:=e) (e':=e) ⟨rfl,agm⟩).au n1 n2 n3 n4) fun φ a5 w6 hs hK vL vM n1 n2 n3 n4=> ?_
 have YB:∀{φ:Ren} {x y:Nat} {r v:Value},φ.s=Pv b e->φ.q x=r->r.oneCell'=true->φ.q y=v->v.oneCell'=true->VR φ (.a (lL b.cp x y)) (bW b.cp b.N b.X r v):=fun{φ x y r v} f1 f2 f3 f4 f5=>C7 (by rw[f1];rfl) (by rw[f1];rfl) f2 f3 f4 f5
 refine hs.eV (l:=B5.toList.drop 3) (o:=(B5.toList.drop 3).headD default) (rest:=B5.toList.drop 4) rfl rfl rfl rfl rfl Tryz.func16 rfl rfl (Vs:=[.a (lL b.cp 50 51),.a (uV 60),.y .i64 5]) (by show[(U 72 (CQ b.cp i)).get 60,(U 72 (CQ b.cp i)).get 61,(U 72 (CQ b.cp i)).get 62]=_;rw[cA,cA,cA];rfl) ?_;intro args' ha;have:args'=[bW b.cp b.N b.X aM aK,.agg ra.toArray,.int .i64 n]:=mQ (φ:=φ) (by
   simp only[arR,arT,arS,AAA];exact⟨nJ _ _ _,HU (oI _),rfl⟩) ha (J.cons (YB n1 (agB n2 50) Yy (agB n2 51) Yz) (J.cons (vA (aa1 lz.form fun j hj=>by rw[n2];exact btA hj)) (J.cons (vY (by rw[n1];exact he5)) J.nil)))
 subst this;refine(UB (X:=b.X) (hb.mono fb.sub) lz hn (by omega) (m-1) (hs.lJ hK)).mono ?_;rintro ee w7 ⟨na,xD,fI,ga,K3,rfl,UG,UH,Pc,ahp,IU⟩;refine⟨_,rfl,?_⟩;have KF:=Pc.o9;have KG:=Pc.pU;let y3:=vR b e aM aK fI ga p q ra [];obtain⟨φ,hs,hK,n1,n2,n3,n4⟩:=hs.mS hK UG UH t5s (y:=y3) (by
  have:=agA (s:=[(5,.y 5)]) (e:=e) (e':=e) (r2:=aF) (v2:=aF) (p:=p) (q:=q) (r2':=fI) (v2':=ga) (p':=p) (q':=q) (raw:=[]) (raw':=[]) ⟨rfl,agm⟩;refine⟨?_,?_,agm,agm⟩
  ·have h:=this.s;rw[<-show φ.y.s=_ from n1]at h;exact h
  ·have h:=this.q
   have hq:pe φ.y=pe y2:=by
    have e1:φ.y.s=_:=n1;have e2:φ.y.q=_:=n2
    funext v x
    cases v<;>simp only[pe,e1,e2]
   rw[hq];exact h)
 have hs:=hs.put (d:=63) (by decide) (x:=.a (lL b.cp 52 53)) (v:=bW b.cp b.N b.X fI ga) (YB n1 (agB n2 52) KF (agB n2 53) KG);let y4:=vR b e fI ga aF aF aF aF [] [];have ag6:Ag (B7 (.q 52) (.q 53) [] []) y3 y4:=Cc o1 o2 ⟨_,rfl⟩ ⟨_,rfl⟩ ⟨rfl,rfl⟩ ⟨rfl,rfl⟩ ⟨rfl,KF⟩ ⟨rfl,KG⟩ trivial (fun x hx=>by cases hx);refine ad.jR (aw ah {} {}) rfl 2 (l:=B5.toList.drop 4) t6 hs hK (eZ aS eX) y4 (ag6.au n1 n2 n3 n4) fun φ a6 w8 hs hK Ao Ap n1 n2 n3 n4=> ?_
 show aC none m Tryz.prog _ (Ow.drop 3) a6 w8;have ag7:Ag lD y4 y4:=Cc o1 o2 ⟨_,rfl⟩ ⟨_,rfl⟩ ⟨rfl,rfl⟩ ⟨rfl,rfl⟩ ⟨rfl,KF⟩ ⟨rfl,KG⟩ trivial (fun x hx=>by cases hx);have G6:=((((((hg.trans kx).trans iK).trans (gG.gb (by have:=hg.size;have:=kx.size;have:=iK.size;omega))).trans ig).trans pV).trans vM);have G7:=(G6.trans (UG.gb (by have:=G6.size;omega))).trans Ap;exact ad.runK (aw ah {} {}) rfl 5 (cs:=Ow.drop 3) t7 hs hK (eZ aS eX) (Ao.trans (vL.trans sS)) y4 (ag7.au n1 n2 n3 n4) fun φ a7 w9 hs hK Et BE n1 n2 n3 n4=>
  ⟨rfl,⟨φ,K3,na,xD,fI,ga,e,Pc,by omega,fun _=>ahp,hs,hK,anD.kD UH (by have:=G6.size;omega),Et,G7.trans BE,n1,n2,n3,n4⟩⟩
theorem YC(h:OS K b){w0:World}{i:Nat}(hi:i=min b.nr 12){m:Nat}{Q:Act->World->Prop}{a:Act}{w':World}(hv:HX K b w0 i (tp i) a w')(hQ:∀a w',HX K b w0 i nF a w'->Q a w'):aC none m Tryz.prog (fun e a' w''=>e=.exit 0/\Q a' w'') Ow a w':=by
 obtain⟨φ,K1,rs,vs,aM,aK,e0,hb,hle,bU,hs,hK,C0,hd,hg,n1,n2,n3,n4⟩:=hv.ex;have o1:=h.rin.one;have o2:=h.ON.one;have Yy:=hb.o9;have Yz:=hb.pU;obtain⟨sa,rp,uO⟩:=h.rin.sl;have hx:=alw;simp only[AAA]at hx;have ba:XP b.cp i (decide (i<b.nr))=true:=by
  by_cases bf:i<b.nr
  ·rw[decide_eq_true bf,show i=12 by omega];exact dp hx.2 b.cp
  ·rw[decide_eq_false bf];exact dp (aop.1 hx.1 i (arC.2 (by omega))) b.cp
 unfold XP at ba;have hX1:iZ Tryz.prog {on:=[(20,6)]} φ:={on:=⟨⟨sa,b.nr,rp,(agB n2 20).trans uO,agB n1 6⟩,agm⟩};have V6:aA Tryz.prog {bin:=[(.lss,.i .i64 i,.y .i64 6,.b (decide (i<b.nr)))]} φ:=⟨agm,⟨.lss (k:=.i64) (x:=i) (y:=b.nr) rfl (congrArg (fun z=>some (arE,z)) (agB n1 6)) (decide_eq_decide.2 (by omega)),agm⟩,agm,agm,agm,agm,agm,agm,agm⟩;have YA:∀{e e':Nat->Int},Ag lD (vR b e aM aK aF aF aF aF [] []) (vR b e' aM aK aF aF aF aF [] []):=Cc o1 o2 ⟨_,rfl⟩ ⟨_,rfl⟩ ⟨rfl,rfl⟩ ⟨rfl,rfl⟩ ⟨rfl,Yy⟩ ⟨rfl,Yz⟩ trivial (fun x hx=>by cases hx)
 exact ad.runK (aw ah _ _) rfl 20 (cs:=Ow) ba hs hK (eZ V6 hX1) hd (vR b e0 aM aK aF aF aF aF [] []) (YA.au n1 n2 n3 n4) fun φ a1 w1 hs hK hd kx n1 n2 n3 n4=>
  ⟨rfl,hQ _ _ ⟨φ,K1,rs,vs,aM,aK,e0,hb,hle,bU,hs,hK,C0,hd,hg.trans kx,n1,n2,n3,n4⟩⟩
theorem KH(ht:tu K)(h:OS K b)(m:Nat){w:World}(hw:∀r o,K r=some o->w.heap[r]? =some o):CallsIn (W none) m Tryz.prog 5 #[b.W] w (aa0 K b w):=by
 have o1:=h.rin.one;have o2:=h.ON.one;obtain⟨g1,g2⟩:=bI b.cN (N:=300) (by decide);obtain⟨g3,g4⟩:=bI b.cX (N:=500) (by decide);have hN:b.N=1+ax b.cN 300:=rfl;have hXX:b.X=13+ax b.cX 500:=rfl;let e0:Nat->Int:=fun x=>match x with|1=>b.cN|2=>b.cX|11=>ax b.cN 300|12=>ax b.cX 500|_=>1
 let y0:=vR b e0 aF aF aF aF aF aF [] [];have bB:=ad.enter (nt:=72) (bc y0 w) rfl rfl (vs:=alq b.cp) (args:=[b.W]) (J.cons (vA (J.cons vB (J.cons (vY rfl) (J.cons (vY rfl) (J.cons (vQ rfl o1) (J.cons (vQ rfl o2) J.nil)))))) J.nil) (by show 1<=72;decide);refine dz (fn:=Tryz.f5) (c:=(Tryz.f5.body).getD .skip) (args:=[b.W]) Tryz.func5 rfl (bp _ ?_);show aC none m Tryz.prog _ c5 _ _;have t0:=aop.1 als b.cp (by cases b.cp<;>decide);unfold alr at t0;have hF0:aA Tryz.prog aaq (φ0 y0 w):=
  ⟨agm,⟨.add (k:=.i64) (x:=1) (y:=ax b.cN 300) rfl rfl rfl (fQ (by unfold eR;omega)),.add (k:=.i64) (x:=13) (y:=ax b.cX 500) rfl rfl rfl (fQ (by unfold eR;omega)),agm⟩,agm,agm,agm,agm,agm,agm,
   dy rfl (eJ _ h.iN (N:=300) (by decide)) (J.cons (vY rfl) (J.cons vI J.nil)) (vY rfl),dy rfl (eJ _ h.iX (N:=500) (by decide)) (J.cons (vY rfl) (J.cons vI J.nil)) (vY rfl),agm⟩
 have ag0:Ag (B7 eD eD [] []) y0 y0:=Cc o1 o2 ⟨_,rfl⟩ ⟨_,rfl⟩ ⟨rfl,rfl⟩ ⟨rfl,rfl⟩ ⟨rfl,rfl⟩ ⟨rfl,rfl⟩ trivial (fun x hx=>by cases hx);refine ad.runK (aw ah _ _) rfl 5 (cs:=c5) t0 bB (fU.all rfl hw) (eZ hF0 eX) rfl y0 (ag0.au rfl rfl rfl rfl) fun φ a w1 hs hK hd hg n1 n2 n3 n4=> ?_
 show aC none m Tryz.prog _ (c5.drop 5) a w1;refine dd (id:=0) (b:=(match c5.drop 5 with|.block _ (.loop b)::_=>b|_=>.skip)) (rest:=c5.drop 6) (min b.nr 12) (fun i a w'=>HX K b w i (tp i) a w') (fun j a w' hj hv=>Yx ht h (by omega) (by omega) hv) ?_
  ⟨φ,K,[],[],aF,aF,e0,⟨fun p hp=>(by cases hp),.inl ⟨rfl,rfl⟩,(by cases b.cp;exact .inl ⟨rfl,rfl⟩;exact .inr (.inl ⟨rfl,rfl,rfl⟩)),fun _=>rfl,fun _ v hv=>(by cases hv),fun i x y hx=>by simp at hx⟩,arY _,(fun h=>by omega),hs,hK,KA.refl,hd,hg,n1,n2,n3,n4⟩
 intro a w' hv;refine YC (Q:=fun a' w'=>aC none m Tryz.prog _ (c5.drop 6) a' w') h rfl hv ?_;rintro a w' ⟨φ,K1,rs,vs,aM,aK,e,hb,hle,bU,hs,hK,C0,hd,hg,n1,n2,n3,n4⟩;have Yy:=hb.o9;have Yz:=hb.pU;have te:=aop.1 alT b.cp (by cases b.cp<;>decide);simp only[AAA]at te;obtain⟨⟨⟨⟨⟨tE,tZ⟩,tY⟩,tW⟩,tR⟩,tS⟩:=te;unfold alO at tE;unfold alP at tZ;unfold alQ at tY;unfold alR at tW;unfold alS at tR;obtain⟨ra,EW,jD⟩:=hb.UD;let e8:Nat->Int:=fun x=>match x with|8=>rs.length|x=>e x
 have SI:=hs;have YA:∀{e e':Nat->Int} {r2 v2 r2' v2':Value},Ag lD (vR b e aM aK r2 v2 aF aF [] []) (vR b e' aM aK r2' v2' aF aF [] []):=Cc o1 o2 ⟨_,rfl⟩ ⟨_,rfl⟩ ⟨rfl,rfl⟩ ⟨rfl,rfl⟩ ⟨rfl,Yy⟩ ⟨rfl,Yz⟩ trivial (fun x hx=>by cases hx)
 have fin:∀{φ:Ren} {a:Act} {w':World} {K1:Nat->Option Obj} {rs:List (List Value×ByteArray)} {vs:List Int} {aM aK:Value} {e:Nat->Int},ad φ w.heap.size (U 72 [(2,.p (some (2,0)))]) (ak 4 [(2,.cells (lL b.cp 50 51) 29 false)]) a w'->fU K1 φ->KA K w.heap.size K1->GB w.heap.size w w'->dS K1 b.cp b.N rs vs aM aK->rs≠[]->rs.length<=12->φ.s=Pv b e->φ.q=VG b aM aK aF aF aF aF [] []->
   ∃v,(results Tryz.f5 a.tmps).run Tryz.prog w'=.ok v w'/\aa0 K b w (.returned v) w':=fun{φ a w' K1 rs vs aM aK e} hs hK C0 hg hb bU hle n1 n2=>by
  obtain⟨v,gE,ff⟩:=hs.leave ah (fn:=Tryz.f5) (l:=[.a (lL b.cp 50 51)]) (by cases b.cp<;>rfl);refine⟨v,gE,rs,vs,aM,aK,K1,congrArg _ (eQ (x:=.a (lL b.cp 50 51)) (φ:=φ) (nJ _ _ _) ff (C7 (by rw[n1];rfl) (by rw[n1];rfl) (by rw[n2];rfl) hb.o9 (by rw[n2];rfl) hb.pU)),hg.grown,⟨C0.1,hs.lJ hK,C0.2⟩,hb,bU,hle⟩
 obtain⟨φ,hs,hK,n1,n2,n3,n4⟩:∃af,ad af w.heap.size (U 72 nF) (ak 8 (iI b.cp)) a w'/\fU K1 af/\bD af (vR b e8 aM aK aF aF aF aF [] []):=by
  have tS0:aW lD 72 nF 8 (iI b.cp)=true:=aop.1 anA b.cp (by cases b.cp<;>decide);obtain⟨af,g1,g2,g3,g4,g5,g6⟩:=hs.sG hK tS0 (y:=vR b e8 aM aK aF aF aF aF [] []) (by
   have:=YA (e:=e) (e':=e8) (r2:=aF) (v2:=aF) (r2':=aF) (v2':=aF);refine⟨?_,?_,agm,agm⟩
   ·have h:=this.s;rw[<-show φ.y.s=_ from n1]at h;exact h
   ·have h:=this.q
    have hq:pe φ.y=pe (vR b e aM aK aF aF aF aF [] []):=by
     have e1:φ.y.s=_:=n1;have e2:φ.y.q=_:=n2
     funext v x
     cases v<;>simp only[pe,e1,e2]
    rw[hq];exact h)
  exact⟨af,g1,g2,g3,g4,g5,g6⟩
 have hX8:iZ Tryz.prog {on:=[(50,8)]} φ:={on:=⟨⟨ra,rs.length,EW,(agB n2 50).trans jD,agB n1 8⟩,agm⟩};have hF8:∀t:Bool,decide (rs.length=0)=t->aA Tryz.prog {bin:=[(.eql,.y .i64 8,.i .i64 0,.b t)]} φ:=fun t ht=>⟨agm,⟨.eql (k:=.i64) (x:=rs.length) (y:=0) (congrArg (fun z=>some (arE,z)) (agB n1 8)) rfl (by rw[<-ht];exact decide_eq_decide.2 (by omega)),agm⟩,agm,agm,agm,agm,agm,agm,agm⟩
 by_cases hz:rs=[]
 ·subst hz
  have iz:b.cp=true->vs=[]:=fun e=>arH.1 (hb.rq e)
  refine ad.runK (aw ah _ _) rfl 1 (cs:=c5.drop 6) tZ hs hK (eZ (hF8 true rfl) hX8) hd (vR b e aM aK aF aF aF aF [] []) (YA.au n1 n2 n3 n4) fun φ a w2 hs hK hd iK n1 n2 n3 n4=> ?_
  show aC none m Tryz.prog _ (c5.drop 7) a w2;obtain⟨x,z,sj,tB⟩:=aqM;rw[sj];refine ky (t:=true) (by have:=hs.tv (t:=67) (x:=.b true) rfl;simp only[VR]at this;exact this) ?_;rw[tB];have hs:=hs.yf rfl;obtain⟨id,iJ⟩:=ahl;rw[iJ];refine gB ?_;refine ad.jR (aw ah {} {}) rfl 2 (l:=B6.toList) tY hs hK (eZ aS eX) (vR b e aM aK aF aF aF aF [] []) (YA.au n1 n2 n3 n4) fun φ a w3 hs hK gJ ig n1 n2 n3 n4=> ?_
  let ra:=(Mn 2 0 0 0 aF 1 0 (bytes [104,111,109,101]) cj aF 0 cj cj cj 0 0 cj cj).toList;obtain⟨sz,z1,z2,z3⟩:=A7 (nm:=[104,111,109,101]) (by decide) (id:=1) (by decide) K1;have lz:qx K1 ra sz:=⟨.root,z3,z1,by omega,0,rfl,by decide,by decide⟩;refine hs.eV (l:=B6.toList.drop 2) (o:=(B6.toList.drop 2).headD default) (rest:=B6.toList.drop 3) rfl rfl rfl rfl rfl Tryz.func16 rfl rfl (Vs:=[.a (lL b.cp 50 51),.a aav,.i .i64 1]) (by show[(U 72 (Ho b.cp)).get 68,(U 72 (Ho b.cp)).get 69,.i .i64 1]=_;rw[cA,cA];rfl) ?_;intro args' ha;have:args'=[bW b.cp b.N b.X aM aK,.agg ra.toArray,.int .i64 1]:=mQ (φ:=φ) (by
    simp only[arR,arT,arS,AAA];exact⟨nJ _ _ _,rfl,rfl⟩) ha (J.cons (C7 (by rw[n1];rfl) (by rw[n1];rfl) (agB n2 50) Yy (agB n2 51) Yz) (J.cons (vA (J.cons vI (J.cons aL (J.cons aL (J.cons aL (J.cons bY (J.cons vI (J.cons aL (J.cons (vS (by decide)) (J.cons aD (J.cons bY (J.cons aL (J.cons aD (J.cons aD (J.cons aD (J.cons aL (J.cons aL (J.cons aD (J.cons aD J.nil))))))))))))))))))) (J.cons vI J.nil)))
  subst this;refine(UB (X:=b.X) hb lz (n:=1) (fun _=>by omega) (by decide) (m-1) (hs.lJ hK)).mono ?_;rintro ee w4 ⟨na,xD,fI,ga,K3,rfl,UG,UH,Pc,ahp,IU⟩;refine⟨_,rfl,?_⟩;have KF:=Pc.o9;have KG:=Pc.pU;let y3:=vR b e aM aK fI ga aF aF [] [];obtain⟨φ,hs,hK,n1,n2,n3,n4⟩:=hs.mS hK UG UH tS (y:=y3) (by
   have:=YA (e:=e) (e':=e) (r2:=aF) (v2:=aF) (r2':=fI) (v2':=ga);refine⟨?_,?_,agm,agm⟩
   ·have h:=this.s;rw[<-show φ.y.s=_ from n1]at h;exact h
   ·have h:=this.q
    have hq:pe φ.y=pe (vR b e aM aK aF aF aF aF [] []):=by
     have e1:φ.y.s=_:=n1;have e2:φ.y.q=_:=n2
     funext v x
     cases v<;>simp only[pe,e1,e2]
    rw[hq];exact h)
  have hs:=hs.put (d:=70) (by decide) (x:=.a (lL b.cp 52 53)) (v:=bW b.cp b.N b.X fI ga) (C7 (by rw[n1];rfl) (by rw[n1];rfl) (agB n2 52) KF (agB n2 53) KG);let y4:=vR b e fI ga aF aF aF aF [] [];have ag6:Ag (B7 (.q 52) (.q 53) [] []) y3 y4:=Cc o1 o2 ⟨_,rfl⟩ ⟨_,rfl⟩ ⟨rfl,rfl⟩ ⟨rfl,rfl⟩ ⟨rfl,KF⟩ ⟨rfl,KG⟩ trivial (fun x hx=>by cases hx);refine ad.jR (aw ah {} {}) rfl 2 (l:=B6.toList.drop 3) tW hs hK (eZ aS eX) y4 (ag6.au n1 n2 n3 n4) fun φ a w5 hs hK vL vM n1 n2 n3 n4=> ?_
  show aC none m Tryz.prog _ (c5.drop 8) a w5;have ag7:Ag lD y4 y4:=Cc o1 o2 ⟨_,rfl⟩ ⟨_,rfl⟩ ⟨rfl,rfl⟩ ⟨rfl,rfl⟩ ⟨rfl,KF⟩ ⟨rfl,KG⟩ trivial (fun x hx=>by cases hx);have G3:=(hg.trans iK).trans ig;have G5:=(G3.trans (UG.gb (by have:=G3.size;omega))).trans vM;exact ad.runK (aw ah {} {}) rfl 5 (cs:=c5.drop 8) tR hs hK (eZ aS eX) (vL.trans (gJ.trans hd)) y4 (ag7.au n1 n2 n3 n4) fun φ a7 w9 hs hK Et BE n1 n2 n3 n4=>
   ⟨.inl rfl,Et,fin hs hK (C0.kD UH (by have:=G3.size;omega)) (G5.trans BE) Pc ahp (by have:([]:List (List Value×ByteArray)).length=0:=rfl;omega) n1 n2⟩
 ·exact ad.runK (aw ah _ _) rfl 10 (cs:=c5.drop 6) tE hs hK (eZ (hF8 false (decide_eq_false fun e=>hz (arH.1 e))) hX8) hd (vR b e aM aK aF aF aF aF [] []) (YA.au n1 n2 n3 n4) fun φ a w2 hs hK hd iK n1 n2 n3 n4=>
   ⟨.inl rfl,hd,fin hs hK C0 (hg.trans iK) hb hz (by omega) n1 n2⟩
end
end Go.Ev
