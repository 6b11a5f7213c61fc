/- A part of what LimitFits rests on. -/
import Derived.Test.YtnpajahfimaakaaGreatDoorA13
import Derived.Test.YtnpajahfimaakaaGreatDoorA01
set_option linter.all false
namespace Go.Ev
open _root_.Array renaming length_toList->aop,toList_inj->arM,toArray_toList->asa
open List renaming mem_map->AAA,take_of_length_le->arC,mem_singleton->arD,mem_range->arE,all_eq_true->arF,getElem?_range->arG,getElem?_map->arI,replicate->arK,flatMap_cons->arL,flatMap_nil->arO,getElem?_eq_none->arQ,mem_append_left->arR,length->arS,range->arU,cons_append->arW,eq_nil_of_length_eq_zero->arX,getElem?_of_mem->asb
open Nat renaming le_refl->arH,le_trans->arV,lt_or_ge->arZ
open Bool renaming and_eq_true->arJ,or_eq_true->arY
open Region renaming ready->arN
open Option renaming map_some->arP,getD_some->asd
open Option.some renaming inj->arT
open Go.Proofs
variable{m:Nat}
theorem Oi(l:List Nat):(bytes l).toList=l.map UInt8.ofNat:=iw l
theorem xk{i:Nat}{p:ByteArray×Nat}(h:(dw m)[i]? =some p):i<m/\p=(bytes (qj i),1):=by
 simp only[dw,arI]at h;rcases arZ i m with hi|hi
 ·rw[arG hi]at h
  exact⟨hi,(arT h).symm⟩
 ·rw[arQ (by simpa using hi)]at h;cases h
theorem ti{p:ByteArray×Nat}(h:p∈dw m):∃i,i<m/\p=(bytes (qj i),1):=by
 obtain⟨i,hi⟩:=asb h;exact⟨i,xk hi⟩
theorem Oj(hm:m<=20):∀p∈dw m,RN p.1:=fun p hp=>by
 obtain⟨i,hi,rfl⟩:=ti hp;exact Tc (arF.1 Td i (arE.2 (by omega)))
theorem J6(hm:m<=20):∀i p q,(dw m)[i]? =some p->(dw m)[i+1]? =some q->(Op.bytesLess q.1.toList p.1.toList||q.1.toList==p.1.toList)=false:=fun i p q hp hq=>by
 obtain⟨h1,rfl⟩:=xk hp;obtain⟨h2,rfl⟩:=xk hq;have:=arF.1 Oh i (arE.2 (by omega));simp only[Oi];simpa using this
theorem CK{φ:Ren}:∀(ks:List Nat) (vs:List Value),J φ (ks.flatMap fun i=>[V.s (qj i),V.i .i64 1]) vs->vs=cg (ks.map fun i=>(bytes (qj i),1))
 |[],vs,h=>by
  simp only[arO,J]at h;rw[h];rfl
 |k::ks,vs,h=>by
  simp only[arL,arW,List.nil_append,J,VR]at h;obtain⟨_,_,rfl,⟨rfl,_⟩,_,_,rfl,rfl,h⟩:=h;rw[CK ks _ h];simp[cg,ja]
theorem AZ{n:Nat}{w:World}{N m:Nat}(hN:1<=N/\N<=90000)(hm:1<=m/\m<=20)(hZ:S8 m=true):
  CallsIn (W none) n Tryz.prog 10 #[.int .i64 N,.int .i64 m] w fun e w'=>∃v,e=.returned v/\(∃ln ov rv l,v=wV ln ov rv (N+1)/\GW w' ln ov rv (N+1) l (dw m)/\l.map (·.1)=jg N)/\Grown w w':=by
 let mv:Value:=.int .i64 m;have Xv:mv.oneCell'=true:=rfl;let y0:Sym:=dg [1,N,0,(N+1:Nat)] [.bool false,.bool false,mv] [] [];have bB:=ad.enter (nt:=55) (bc y0 w) rfl rfl (vs:=GX) (args:=[.int .i64 N,mv]) (J.cons (by simp only[VR];rfl) (J.cons (by simp only[VR];exact⟨rfl,Xv⟩) J.nil)) (by decide);refine dz (fn:=Tryz.f10) (c:=(Tryz.f10.body).getD .skip) (args:=[.int .i64 N,mv]) Tryz.func10 rfl (bp _ ?_);show aC none n E0.P _ c8h _ _;refine ad.dc (aq aB S5) rfl 3 akj bB (aA.dU ?_) rfl y0 (Ag.au (o:=y0) ⟨⟨rfl,rfl,rfl,agm⟩,⟨⟨rfl,Xv⟩,agm⟩,agm,agm⟩ rfl rfl rfl rfl) fun φ a w1 hs hd hg _ n1 n2 n3 n4=> ?_
 ·refine⟨agm,⟨?_,agm⟩,agm,agm,agm,agm,agm,agm,agm⟩
  exact .add (k:=.i64) (x:=N) (y:=1) rfl rfl rfl (i64_in (by omega))
 show aC none n E0.P _ (c8h.drop 3) a w1;refine dd (id:=0) (b:=(match c8h.drop 3 with|.block _ (.loop b)::_=>b|_=>.skip)) (rest:=c8h.drop 4) N (Xu w N mv) (fun j a w' hj h=>Ta hN.2 Xv hj h) ?_ ⟨φ,hs,hd,hg,n1,n2,n3,n4⟩
 intro a w' h;obtain⟨j,rfl⟩:∃j,N=j+1:=⟨N-1,by omega⟩
 obtain⟨φ,lc,hs,hd,hg,⟨n1,n2,n3,n4⟩,qU,iz⟩:=h;have hlen:lc.length=j+1:=by have:=congrArg arS qU;simpa using this
 show aC none n E0.P _ lA a w';let y1:Sym:=dg [(j+2:Nat),(j+1:Nat),0,(j+1+1:Nat)] [.bool false,.bool false,mv] [[],[],aZ lc] [];refine ad.dc (aq aB S7) rfl 100 (cs:=lA) akk hs (aA.dU ?_) hd y1 (Ag.au (o:=y1) ⟨⟨rfl,rfl,rfl,agm⟩,⟨⟨rfl,Xv⟩,agm⟩,⟨rfl,agm⟩,agm⟩ n1 n2 n3 n4) fun φ a2 w2 dx mF iK Ic n1 n2 n3 n4=>⟨rfl,?_⟩
 ·have t0:φ.y.s 0=((j+2:Nat):Int):=agB n1 0
  have t1:φ.y.s 1=((j+1:Nat):Int):=agB n1 1;exact⟨agm,⟨.leq (k:=.i64) (x:=(j+2:Nat)) (y:=(j+1:Nat)) (by simp only[aR,t0]) (by simp only[aR,t1]) (decide_eq_false (by omega)),agm⟩,agm,agm,agm,agm,agm,agm,agm⟩
 have aoV:∀p∈lc,cB w2 p:=fun p hp=>(iz p hp).aJ (Ic.aJ (Ts:=[98]) rfl) (by decide)
 have ez:=dx.subst 2 (.i .i64 m) (by rw[show φ.q 2=mv from agB n2 2];exact vI);refine ad.dc (aq aB _) rfl 10 (cs:=c8h.drop 4) hZ ez (aA.dU ⟨agm,agm,agm,agm,agm,agm,agm,agm,agm⟩) mF y1 (Ag.au (o:=y1) ⟨⟨rfl,agm⟩,agm,⟨rfl,agm⟩,agm⟩ n1 n2 n3 n4) fun φ a3 w3 ez gJ ig vO n1 n2 n3 n4=>⟨.inl rfl,gJ,?_⟩
 obtain⟨v,gE,ff⟩:=ez.leave aB (fn:=Tryz.f10) (l:=[.a [.sl (some (2,0)) 1 (.kn 1),.sr 4 2 0 4,.sl (some (6,0)) m (.un 2),.y .i64 3]]) rfl;have aoW:∀p∈lc,cB w3 p:=fun p hp=>(aoV p hp).aJ (vO.aJ (Ts:=[98]) rfl) (by decide)
 refine⟨v,gE,v,rfl,?_,((hg.trans iK).trans ig).grown⟩;simp only[fG,VR]at ff;obtain⟨cs,rfl,ib⟩:=ff;simp only[J]at ib;obtain⟨ln,_,ec,ym,ov,_,rfl,BB,rv,_,rfl,gh,nv,_,rfl,Vq,rfl⟩:=ib;have aoX:nv=.int .i64 ((j+1+1:Nat):Int):=by
  simp only[VR]at Vq;rw[Vq,show φ.s 3=((j+1+1:Nat):Int)from agB n1 3]
 subst aoX;have Ww:φ.w 2=aZ lc:=agB n3 2;have pa:dG w3 ln:=ez.hr.R9 (b1:=2) (b0:=3) rfl rfl ym;have aoY:cr w3 51 4 ov (aZ lc):=by have:=ez.hr.isRow (b:=4) (x:=2) (e:=51) rfl BB;rwa[Ww]at this
 have akm:cr w3 101 2 rv (cg (dw m)):=by
  simp only[VR]at gh;obtain⟨r6,cap,h6,h7,h8,rfl⟩:=gh;obtain⟨c6,g6,v6,l6,_,z6⟩:=ez.hr.cx h6 (l:=J3 m) rfl;have:=CK _ _ v6;have Gx:(J3 m).length=(cg (dw m)).length:=by
   have h1:=congrArg arS this;rw[List.length_take,Nat.min_eq_left (by rw[aop];exact l6)]at h1;exact h1
  refine⟨r6,m,cap,c6,rfl,by decide,by rw[fk];simp[dw],h7,by omega,g6,?_⟩;rw[<-Gx];exact this
 refine⟨ln,ov,rv,lc,?_,⟨pa,aoY,akm,aoW,fun i p hp=> ?_,by omega,by omega,by simp[dw];omega,Oj hm.2,J6 hm.2,fun p hp=> ?_⟩,qU⟩
 ·unfold wV
  congr 1
  exact arM.1 ec
 ·have hi:i<lc.length:=(List.getElem?_eq_some_iff.1 hp).1
  have zR:∀k,k<j+1->(lc[k]?).map (·.1)=some (th (j+1) k):=fun k hk=>by
   have:=congrArg (·[k]?) qU;simp only[arI]at this;rw[this,arG (by omega)];rfl
  have hpi:=zR i (by omega);rw[hp]at hpi;have lG:p.1.id=i+1:=by rw[arP]at hpi;rw[arT hpi];rfl
  refine⟨?_,by omega⟩;cases i with
  |zero=>simp only[bZ];omega
  |succ k=>
   have hk:=zR k (by omega);simp only[bZ];cases hlk:lc[k]?with
   |none=>rw[hlk]at hk;cases hk
   |some q=>
    rw[hlk]at hk;simp only[arP,Option.some.injEq]at hk;simp only[arP,asd,hk,th];omega
 ·have:p.1∈(arU (j+1)).map (th (j+1)):=by rw[<-qU];exact AAA.2 ⟨p,hp,rfl⟩
  obtain⟨k,hk,e⟩:=AAA.1 this;have:=arE.1 hk;rw[<-e];simp only[th];split<;>omega
variable{l:List (O×Value)}{ov rv:Value}
theorem oA{N:Nat}{o:O}:o∈jg N↔∃i,i<N/\o=th N i:=by
 simp only[jg,AAA,arE]
 constructor
 ·rintro⟨i,hi,rfl⟩;exact⟨i,hi,rfl⟩
 ·rintro⟨i,hi,rfl⟩;exact⟨i,hi,rfl⟩
structure dr(s:od)(N k:Nat):Prop where
 sub:∀o∈jg N,o∈s.bS.map (·.1)
 refs:∀p∈s.bS,p.1.ref<=N
 roots:∀q∈s.roots,q.2=k
 rne:s.roots≠[]
 k:1<=k/\k<=N
 N:N<=90000
theorem dr.id{s:od}{N k:Nat}(h:dr s N k){x:Nat}(hx:1<=x/\x<=N):∃p∈s.bS,p.1=th N (x-1):=by
 have:=h.sub (th N (x-1)) (oA.2 ⟨x-1,by omega,rfl⟩);obtain⟨p,hp,e⟩:=AAA.1 this;exact⟨p,hp,e⟩
theorem dr.ne{s:od}{N k:Nat}(h:dr s N k):s.bS≠[]:=by
 obtain⟨p,hp,_⟩:=h.id h.k;rintro e;rw[e]at hp;cases hp
theorem dr.whole{s:od}{N k:Nat}(h:dr s N k):tf s.bS s.roots:=by
 refine⟨fun q hq=> ?_,fun p hp=> ?_⟩
 ·obtain⟨p,hp,e⟩:=h.id h.k
  have:=h.k;exact⟨p,hp,by rw[e,h.roots q hq];simp only[th];omega⟩
 ·have:=h.refs p hp
  by_cases h0:p.1.ref=0
  ·exact .inl h0
  ·obtain⟨p',tD,e⟩:=h.id (x:=p.1.ref) (by omega)
   exact .inr ⟨p',tD,by rw[e];simp only[th];omega⟩
def xY(N k:Nat):List Nat:=(arU (N+1-k)).map (· +k)
theorem dr.path{s:od}{N k:Nat}(h:dr s N k)(hl:(l.map (·.1)).Perm (s.bS.map (·.1))):Path l (xY N k):=by
 have hk:=h.k;have hN:=h.N;refine⟨?_,fun i x hx=> ?_,fun x hx=> ?_⟩
 ·unfold xY
  rw[List.Nodup,List.pairwise_map];exact List.nodup_range.imp fun{a b} Ni e=>Ni (by omega)
 ·have hi:i<N+1-k/\x=i+k:=by
   simp only[xY,arI]at hx;rcases arZ i (N+1-k)with h|h
   ·rw[arG h]at hx
    exact⟨h,(arT hx).symm⟩
   ·rw[arQ (by simpa using h)]at hx;cases hx
  obtain⟨hi,rfl⟩:=hi;obtain⟨p,hp,e⟩:=h.id (x:=i+k) (by omega);obtain⟨q,hq,e2⟩:=yS hl ⟨p,hp,rfl⟩;obtain⟨j,hj⟩:=asb hq;refine⟨j,q,hj,by rw[e2,e];simp only[th];omega,?_⟩;rw[e2,e];simp only[th,xY,arI];rcases arZ (i+1) (N+1-k)with h|h
  ·rw[arG h,if_neg (by omega)]
   simp only[arP,asd];omega
  ·rw[arQ (by simpa using h),if_pos (by omega)];rfl
 ·simp only[xY,AAA,arE]at hx
  obtain⟨i,hi,rfl⟩:=hx;omega
theorem dr.reach{s:od}{N k:Nat}(h:dr s N k){n:Nat}{w:World}{ln:Value}{rs:List (ByteArray×Nat)}(ho:JZ w s ln ov rv l rs):
  CallsIn (W none) n Tryz.prog 26 #[wV ln ov rv s.next] w fun e w'=>∃v,e=.returned v/\(∃u row,v=.tuple #[u,.int .i64 0]/\row.length=N+1-k/\cr w' 3 1 u row)/\Grown w w':=by
 have hk:=h.k;have hN:=h.N;have hlen:(xY N k).length=N+1-k:=by simp[xY]
 have bU:l≠[]:=by
  rintro rfl;have:=ho.bS.length_eq;simp at this;exact h.ne (arX this.symm)
 have wS:rs≠[]:=by
  rintro rfl;have:=ho.roots.length_eq;simp at this;exact h.rne (arX this.symm)
 have:=NZ (n:=n) ho.gw ho.whole bU (h.path ho.bS) (k:=k) (by
  simp only[xY,arI];rw[arG (by omega)];simp) (fun q hq=>h.roots q (ho.roots.mem_iff.1 hq)) wS (by rw[hlen];omega)
 rw[hlen]at this;exact this
theorem jz{n:Nat}{w:World}{lines ov rv:Value}{next:Nat}{l:List (O×Value)}{rs:List (ByteArray×Nat)}(G:GW w lines ov rv next l rs){N0:Nat}(h0:dr ⟨l,rs,next⟩ N0 1){sv recv:Value}{sl:List (ByteArray×Nat)}{rl:List (R×Value)}(ZQ:kj w sv sl)(uO:sl.length<=100000)(xX:gj w recv rl)(jD:∀r∈rl,Sw w r)(hn:rl.length<=1000)
  {s:od}(hs:s=(⟨l,rs,next⟩:od).run rl)(aeB:s.bS.length<=100000)(yi:s.roots.length<=100000){N k c:Nat}(hc:dr s N k)(he:lim (N+1-k) s.roots.length (gH sl rl).length=c):
  CallsIn (W none) n Tryz.prog 11 #[wV lines ov rv next,sv,recv] w fun e w'=>∃v,e=.returned v/\v=.int .i64 c/\Grown w w':=by
 rw[<-he];exact S3 G (h0.whole.perm (List.Perm.refl _) (List.Perm.refl _)) h0.ne ZQ uO xX jD (by omega) hs hc.whole aeB yi hc.ne hc.rne fun n w' ln ov rv l' na ho=>hc.reach ho
theorem nz{N m next:Nat}(hl:l.map (·.1)=jg N)(hN:1<=N/\N<=90000)(hm:1<=m):dr ⟨l,dw m,next⟩ N 1:=by
 refine⟨fun o ho=>by rw[hl];exact ho,fun p hp=> ?_,fun q hq=> ?_,?_,by omega,hN.2⟩
 ·have:p.1∈jg N:=by rw[<-hl];exact AAA.2 ⟨p,hp,rfl⟩
  obtain⟨i,hi,e⟩:=oA.1 this;rw[e];simp only[th];split<;>omega
 ·obtain⟨i,_,rfl⟩:=ti hq;rfl
 ·intro e
  have:=congrArg arS e;simp[dw]at this;omega
theorem xl{N:Nat}(hl:l.map (·.1)=jg N):l.length=N:=by
 have:=congrArg arS hl;simpa[jg]using this
variable{φ:Ren}
theorem ad.Te{Ts:List Nat}{E:Env}(hE:E.OK)(qQ:E.ng=0)(hm:E.P.follows .mixedOrders=true){k:Nat}{ops:Array Oper}{tb:bP}{nt nb:Nat}{L:List Bool->List (Nat×V)}{HB:List Bool->List (Nat×aQ)}{ms:List (List Bool)}{stop:List Bool}
  (hc:iE E k ops tb nt nb L HB ms stop=true)(hT:ms.all (fun m=>Ts.all (fun T=>rG T (lI (HB m))))=true){φ:Ren}{B:Nat}{a:Act}{w:World}{n id:Nat}{Q:Exit->Act->World->Prop}{L0:List (Nat×V)}{HB0:List (Nat×aQ)}(hL:L (arK ops.size false)=L0)(hH:HB (arK ops.size false)=HB0)
  (hs:ad φ B (U nt L0) (ak nb HB0) a w)(y:Sym)(hy:Ag tb y y)(n1:φ.s=y.s)(n2:φ.q=y.q)(n3:φ.w=y.w)(n4:φ.g=y.g)
  (hF:∀ay,ay.s=y.s->ay.q=y.q->ay.w=y.w->ay.g=y.g->BD E ay)
  (hQ:∀af a' w',ad af B (U nt (L stop)) (ak nb (HB stop)) a' w'->a'.defers=a.defers->GB B w w'->cT w w' Ts->af.s=y.s->af.q=y.q->af.w=y.w->af.g=y.g->wpAnyIn (W none) n E.P .any ops Q (left stop.toArray) stop.toArray a' w'):
  (Code.region id ops true).wpIn (W none) n E.P Q a w:=by
 subst hL;subst hH;simp only[iE,arJ]at hc;obtain⟨⟨hp,h0⟩,pG⟩:=hc;refine wpIn_region_any hm ?_;have key:∀(fuel:Nat) (listed:Array Bool) (ay:Ren) (a1:Act) (w1:World),left listed=fuel->listed.size=ops.size->listed.toList∈ms->ad ay B (U nt (L listed.toList)) (ak nb (HB listed.toList)) a1 w1->
   a1.defers=a.defers->GB B w w1->cT w w1 Ts->ay.s=y.s->ay.q=y.q->ay.w=y.w->ay.g=y.g->wpAnyIn (W none) n E.P .any ops Q fuel listed a1 w1:=by
  intro fuel
  induction fuel with
  |zero=>
   intro listed ay a1 w1 hl ed kg b9 iM kx Xw e1 e2 e3 e4;have jQ:=arF.1 pG _ kg;simp only[zU,arY,arJ]at jQ;rcases jQ with bB|⟨zV,_⟩
   ·have:=jx bB
    have hq:=hQ ay a1 w1 (by rw[<-this];exact b9) iM kx Xw e1 e2 e3 e4;rw[<-this,asa,hl]at hq;exact hq
   ·obtain⟨i,hi,hr⟩:=List.any_eq_true.1 zV
    obtain⟨o,ho,hn,_⟩:=mem_ready ((fx ed).1 hr);have bf:i<listed.size:=by rw[ed];exact arE.1 hi
    exact absurd (mM hl i bf) (kr hn)
  |succ fuel ih=>
   intro listed ay a1 w1 hl ed kg b9 iM kx Xw e1 e2 e3 e4;have jQ:=arF.1 pG _ kg;simp only[zU,arY,arJ]at jQ;rcases jQ with bB|⟨zV,kS⟩
   ·have:=jx bB
    have hq:=hQ ay a1 w1 (by rw[<-this];exact b9) iM kx Xw e1 e2 e3 e4;rw[<-this,asa,hl]at hq;exact hq
   ·refine⟨fun hr=> ?_,fun i hi=> ?_⟩
    ·obtain⟨i,hi,cM⟩:=List.any_eq_true.1 zV
     have:=(fx ed).1 cM;rw[hr]at this;cases this
    ·obtain⟨o,ho,hn,_⟩:=mem_ready hi
     have bf:i<ops.size:=(Array.getElem?_eq_some_iff.1 ho).1;have h1:=arF.1 kS i (arE.2 bf);simp only[arY,Bool.not_eq_true',(fx ed).2 hi,arJ,Bool.true_eq_false,false_or]at h1;obtain⟨lg,bB⟩:=h1;have lg:=ku lg;have fa:(listed.setIfInBounds i true).toList=listed.toList.set i true:=by simp
     unfold zT at bB;rw[ho]at bB;simp only at bB;split at bB
     ·rename_i tQ
      have mK:=gV b9.fr tQ;split at bB
      ·rename_i x h1 zX
       unfold wpOpIn;rw[ho];simp only[mK,if_true];refine kR hE (gq hE (cV hE k).1) (gX (cV hE k).1) (by rw[qQ];exact fun g hg=>by omega) (hF ay e1 e2 e3 e4) b9.fr b9.hr none n o zX fun aV v w2 hx hv vJ=> ?_
       obtain⟨vK,ju⟩:=b9.after hx vJ;have akn:cT w w2 Ts:=Xw.trans ((b9.Lt hx vJ).aJ (arF.1 hT _ kg));have Gm:∀h,Agree tb aV h w2 y:=fun h=>(hy.au (o':=aV.y) (by rw[hx.le.yy];exact e1) (by rw[hx.le.yy];exact e2) (by rw[hx.le.yy];exact e3) (by rw[hx.le.yy];exact e4)).agree hp rfl h w2
       have uh:left (listed.setIfInBounds i true)=fuel:=by have:=pF hn;omega
       split at bB
       ·rename_i me
        cases e:bG tb (U nt (L listed.toList)) h1 nt (L (listed.toList.set i true)) nb (HB (listed.toList.set i true))with
        |none=>rw[e]at bB;cases bB
        |some σ=>
         have nS:=dM (a:=a1.put o.dst v) e (by rw[me];exact b9.fr.mono hx.le) vJ ju (arV b9.bz hx.size) y (Gm _);exact ih _ _ _ _ uh (by simpa using ed) (by rw[fa];exact lg) (by rw[fa];exact nS) (by rw[me];exact iM) (kx.trans vK) akn rfl rfl rfl rfl
       ·rename_i d me
        simp only[arJ]at bB;cases e:bG tb ((U nt (L listed.toList)).set d x) h1 nt (L (listed.toList.set i true)) nb (HB (listed.toList.set i true))with
        |none=>rw[e]at bB;cases bB.2
        |some σ=>
         have nS:=dM (a:=a1.put o.dst v) e (by rw[me];exact(b9.fr.mono hx.le).put (bh.1 bB.1) hv) vJ ju (arV b9.bz hx.size) y (Gm _);exact ih _ _ _ _ uh (by simpa using ed) (by rw[fa];exact lg) (by rw[fa];exact nS) (by rw[me];exact iM) (kx.trans vK) akn rfl rfl rfl rfl
      ·cases bB
     ·cases bB
 refine key ops.size _ φ a _ ?_ (by simp) (by simpa using ku h0) ?_ rfl ?_ (fun _ _ _ _ h=>h) n1 n2 n3 n4
 ·unfold left
  simp[List.countP_replicate]
 ·have:(Array.replicate ops.size false).toList=arK ops.size false:=by simp
  rw[this];exact⟨hs.fr,hs.hr.drew _,hs.loc,hs.kf,hs.bz⟩
 ·exact⟨arH _,fun _ _=>rfl,rfl,rfl,rfl⟩
theorem GZ{P:Program}{n fuel:Nat}{ops:Array Oper}{Q:Exit->Act->World->Prop}{listed:Array Bool}{i:Nat}{o:Oper}{a:Act}{w:World}(hr:arN .any ops listed=[i])(ho:ops[i]? =some o){l:List Oper}
  (hK:∀a w,wpListIn (W none) n P ops Q l a w->wpAnyIn (W none) n P .any ops Q fuel (listed.setIfInBounds i true) a w)(h:wpListIn (W none) n P ops Q (o::l) a w):wpAnyIn (W none) n P .any ops Q (fuel+1) listed a w:=by
 refine⟨fun h0=>(by rw[hr]at h0;cases h0),fun j hj=> ?_⟩;rw[hr]at hj;simp only[arD]at hj;subst hj;refine wpOpIn_mono hK ?_;unfold wpOpIn;rw[ho];exact h
theorem Tf{P:Program}{n:Nat}{ops:Array Oper}{Q:Exit->Act->World->Prop}{listed:Array Bool}{a:Act}{w:World}(hr:arN .any ops listed=[])(h:wpListIn (W none) n P ops Q [] a w):wpAnyIn (W none) n P .any ops Q 0 listed a w:=⟨hr,h⟩
theorem J.split{φ:Ren}:∀{a b:List V} {vs:List Value},J φ (a++b) vs->∃v1 v2,vs=v1++v2/\J φ a v1/\J φ b v2
 |[],b,vs,h=>⟨[],vs,rfl,J.nil,h⟩
 |x::a,b,vs,h=>by
  simp only[arW,J]at h;obtain⟨y,ys,rfl,h1,h2⟩:=h;obtain⟨v1,v2,rfl,h3,h4⟩:=J.split h2;exact⟨y::v1,v2,rfl,J.cons h1 h3,h4⟩
theorem rec_eq{k oid aP id nm:V}{vs:List Value}(h:J φ (nZ k oid aP id nm) vs){k':Int}{oid' id':Nat}(hk:∀v,VR φ k v->v=.int .i64 k')(ho:∀v,VR φ oid v->v=.int .i64 oid')(hi:∀v,VR φ id v->v=.int .i64 id'):∃v n,VR φ aP v/\VR φ nm n/\vs=recC k' oid' v id' n:=by
 simp only[nZ,J]at h;obtain⟨_,_,rfl,h1,_,_,rfl,h2,_,_,rfl,h3,_,_,rfl,h4,v,_,rfl,h5,_,_,rfl,h6,_,_,rfl,h7,nmv,_,rfl,h8,_,_,rfl,h9,_,_,rfl,h10,_,_,rfl,h11,_,_,rfl,Ig,_,_,rfl,Vp,_,_,rfl,h14,_,_,rfl,h15,_,_,rfl,h16,_,_,rfl,h17,_,_,rfl,h18,rfl⟩:=h;simp only[VR]at h3 h4 h7 h9 h10 h11 Ig Vp h14 h15 h16 h17 h18;refine⟨v,nmv,h5,h8,?_⟩;rw[hk _ h1,ho _ h2,hi _ h6,h3,h4,h7,h9.1,h10.2,h11,Ig.1,Vp.1,h14.1,h15,h16,h17.1,h18.1];rfl
theorem iS{k:Int}:∀v,VR φ (.i .i64 k) v->v=.int .i64 k:=fun v h=>by simpa only[VR]using h
theorem A0{nb:Nat}{HB:List (Nat×aQ)}{w:World}(hr:HR φ (ak nb HB) w){b:Nat}{cs:List V}(h:mO HB b=.cells cs 60 false){v:Value}(hv:VR φ (.sl (some (b,0)) m (.kn m)) v){rl:List (R×Value)}(bQ:∀vs,J φ cs vs->vs=bL rl)(hm:rl.length=m):gj w v rl:=by
 simp only[VR]at hv;obtain⟨r,hb,hle,rfl⟩:=hv;obtain⟨c,g,vc,_,z,_⟩:=hr.cx hb h;have z:=z rfl;rw[arC (by rw[aop,z];exact arH _)]at vc;have e:=bQ _ vc;have hl:c.size=m*18:=by
  have:=congrArg arS e;rw[aop,fe,hm]at this;exact this
 refine .inr ⟨r,m,m,c,rfl,by decide,by rw[fe,hm],arH _,hl.symm,g,?_⟩;rw[fe,hm,<-e];exact arC (by rw[aop];omega)
noncomputable def c6:List Code:=ct ((Tryz.f4.body).getD .skip)
def Ol:List V:=nZ (.i .i64 2) (.i .i64 0) nl (.i .i64 1) (.s [122])
def ZS:List V:=nZ (.i .i64 2) (.i .i64 0) nl (.i .i64 0) (.s [114,48,48])
def J7(b:Nat):List V:=nZ (.i .i64 1) (.i .i64 201) (.sl (some (b,0)) 1 (.kn 1)) (.i .i64 0) (.s [])
def aeM(b:Nat):List V:=nZ (.i .i64 1) (.i .i64 200) (.sl (some (b,0)) 1 (.kn 1)) (.i .i64 0) (.s [])
def Tg:List V:=nZ (.i .i64 5) (.i .i64 0) nl (.i .i64 1) (.s [122])
def J8:List (Nat×V):=[(1,.p (some (0,0))),(2,.p (some (1,0)))]
def gA:List (Nat×aQ):=[(0,lq),(1,.cells Ol 60 false)]
def lK:bP:={s:=[(3,.y 3)],q:=[(0,.q 0),(1,.q 1),(2,.q 2)]}
def Ml:bP:={s:=[(3,.y 3),(4,.y 4)],q:=[(0,.q 0),(1,.q 1),(2,.q 2),(7,.q 7),(8,.q 8),(9,.q 9)]}
theorem aoZ:av (ar E0 {}) 100 (c6.take 1) ⟨92,load [] 0 .leaf⟩ (ak 0 []) .n {} 92 [] 0 []=true:=by decide+kernel
theorem ako:∃id,c6.drop 1=.region id (aN (c6.drop 1)) false::c6.drop 2:=⟨_,rfl⟩
theorem ao0:bH (ar E0 {}) 100 (aN (c6.drop 1)) (((aN (c6.drop 1)).toList.drop 1).take 100) (U 92 [(15,wA)]) (ak 0 []) lK 92 [(1,.p (some (0,0)))] 1 [(0,lq)]=true:=by decide+kernel
theorem ao1:av (ar E0 {}) 100 ((c6.drop 2).take 1) (U 92 [(1,.p (some (0,0)))]) (ak 1 [(0,lq)]) .n lK 92 J8 2 gA=true:=by decide+kernel
def Vu(m:Nat):V:=.sl (some (2,0)) m (.kn m)
theorem akp:∃id,c6.drop 3=.region id (aN (c6.drop 3)) false::c6.drop 4:=⟨_,rfl⟩
def ZT:List (Nat×V):=(17,wA)::(19,Vu 1)::J8
def ZU:List (Nat×aQ):=gA++[(2,.cells Ol 60 false)]
theorem ao2:bH (ar E0 {}) 100 (aN (c6.drop 3)) ((aN (c6.drop 3)).toList.take 3) (U 92 J8) (ak 2 gA) lK 92 ZT 3 ZU=true:=by decide+kernel
theorem akq:(bG lK (U 92 ZT) (ak 3 ZU) 92 J8 2 gA).isSome=true:=by decide+kernel
theorem ao3:aW lK 92 J8 2 gA=true:=by decide+kernel
def A1:List (Nat×V):=(3,.i .i64 251)::J8
theorem akr:bH (ar E0 {}) 100 (aN (c6.drop 3)) (((aN (c6.drop 3)).toList.drop 4).take 100) (U 92 ((20,.i .i64 251)::J8)) (ak 2 gA) lK 92 A1 2 gA=true:=by decide+kernel
theorem aks:∃id,c6.drop 4=.region id (aN (c6.drop 4)) false::c6.drop 5:=⟨_,rfl⟩
def ZV:List (Nat×V):=(21,wA)::(24,Vu 2)::A1
def ZW:List (Nat×aQ):=gA++[(2,.cells (ZS++Ol) 60 false)]
theorem ao4:bH (ar E0 {}) 100 (aN (c6.drop 4)) ((aN (c6.drop 4)).toList.take 4) (U 92 A1) (ak 2 gA) lK 92 ZV 3 ZW=true:=by decide+kernel
theorem akt:(bG lK (U 92 ZV) (ak 3 ZW) 92 A1 2 gA).isSome=true:=by decide+kernel
theorem aku:aW lK 92 A1 2 gA=true:=by decide+kernel
def A2:List (Nat×V):=(4,.i .i64 0)::A1
theorem akv:bH (ar E0 {}) 100 (aN (c6.drop 4)) (((aN (c6.drop 4)).toList.drop 5).take 100) (U 92 ((25,.i .i64 0)::A1)) (ak 2 gA) lK 92 A2 2 gA=true:=by decide+kernel
theorem akw:∃id,c6.drop 5=.region id (aN (c6.drop 5)) false::c6.drop 6:=⟨_,rfl⟩
theorem ZX:aW lK 92 A2 2 gA=true:=by decide+kernel
def ZY:List (Nat×V):=(26,wB)::(29,Vu 2)::A2
def Th:List (Nat×aQ):=gA++[(2,.cells (J7 3++aeM 4) 60 false),(3,rN kN kN),(4,rN kY (.i .i64 201))]
theorem ao5:bH (ar E0 {}) 100 (aN (c6.drop 5)) (((aN (c6.drop 5)).toList.drop 1).take 3) (U 92 ((26,wB)::A2)) (ak 2 gA) Ml 92 ZY 5 Th=true:=by decide+kernel
theorem akx:(bG lK (U 92 ZY) (ak 5 Th) 92 A2 2 gA).isSome=true:=by decide+kernel
def A3:List (Nat×V):=(5,.i .i64 250)::A2
theorem aky:bH (ar E0 {}) 100 (aN (c6.drop 5)) (((aN (c6.drop 5)).toList.drop 5).take 100) (U 92 ((30,.i .i64 250)::A2)) (ak 2 gA) lK 92 A3 2 gA=true:=by decide+kernel
theorem akz:∃id,c6.drop 6=.region id (aN (c6.drop 6)) false::c6.drop 7:=⟨_,rfl⟩
theorem ZZ:aW lK 92 A3 2 gA=true:=by decide+kernel
def Z0:List (Nat×V):=(31,wB)::(33,Vu 1)::A3
def Z1:List (Nat×aQ):=gA++[(2,.cells (J7 3) 60 false),(3,rN kN kN)]
theorem ao6:bH (ar E0 {}) 100 (aN (c6.drop 6)) (((aN (c6.drop 6)).toList.drop 1).take 2) (U 92 ((31,wB)::A3)) (ak 2 gA) Ml 92 Z0 4 Z1=true:=by decide+kernel
theorem akA:(bG lK (U 92 Z0) (ak 4 Z1) 92 A3 2 gA).isSome=true:=by decide+kernel
def A4:List (Nat×V):=(6,.i .i64 0)::A3
theorem akB:bH (ar E0 {}) 100 (aN (c6.drop 6)) (((aN (c6.drop 6)).toList.drop 4).take 100) (U 92 ((34,.i .i64 0)::A3)) (ak 2 gA) lK 92 A4 5 gA=true:=by decide+kernel
def Z2:List (Nat×V):=(7,.i .i64 252)::A4
theorem ao7:av (ar E2 {}) 3000 ((c6.drop 8).take 10) (U 92 Z2) (ak 2 gA) .r {} 92 [(0,.b true)] 0 []=true:=by decide+kernel
theorem akC:∃id,c6.drop 7=.region id (aN (c6.drop 7)) true::c6.drop 8:=⟨_,rfl⟩
def G1(i:Nat):List Nat:=[115,48+i/10%10,48+i%10]
def Xx:aQ:=.cells [.i .i64 0,.i .i64 1,.i .i64 2,.i .i64 3,.i .i64 4,.i .i64 5,.i .i64 6,.i .i64 7] 3 false
def Ti:aQ:=.cells ((arU 8).flatMap fun i=>[.s (G1 i),.i .i64 (i+1:Nat)]) 112 true
def ao8:List Nat:=[35,36,37,38,39]
def ao9:List V:=[wA,.sl (some (2,0)) 8 (.kn 8),.sl (some (3,0)) 8 (.un 2),.a Tg,.sl (some (4,0)) 1 (.kn 1)]
def Z3(m:List Bool):List (Nat×V):=A4++GF m ao8 ao9
def Tj(m:List Bool):List (Nat×aQ):=gA++opt m 1 [(2,Xx)]++opt m 2 [(3,Ti)]++opt m 4 [(4,.cells Tg 60 false)]
def oB:List Bool:=[true,true,true,true,true,false,false]
noncomputable def Z4:List (List Bool):=grow (aN (c6.drop 7)) oB 20 [arK 7 false] [arK 7 false]
variable{next:Nat}{lines:Value}
theorem akD:iE (ar E0 {}) 1000 (aN (c6.drop 7)) lK 92 5 Z3 Tj Z4 oB=true:=by decide+kernel
theorem akE:(Z4.all fun m=>wT.all fun T=>rG T (lI (Tj m)))=true:=by decide+kernel
theorem akF:(bG lK (U 92 (Z3 oB)) (ak 5 (Tj oB)) 92 A4 2 gA).isSome=true:=by decide+kernel
theorem akG:aW lK 92 A4 2 gA=true:=by decide+kernel
theorem akH:bH (ar E0 {}) 100 (aN (c6.drop 7)) (((aN (c6.drop 7)).toList.drop 6).take 100) (U 92 ((40,.i .i64 252)::A4)) (ak 2 gA) lK 92 Z2 2 gA=true:=by decide+kernel
theorem aeN:arN .any (aN (c6.drop 7)) oB.toArray=[5]:=by decide+kernel
theorem aeO:arN .any (aN (c6.drop 7)) (oB.toArray.setIfInBounds 5 true)=[6]:=by decide+kernel
theorem aeP:arN .any (aN (c6.drop 7)) ((oB.toArray.setIfInBounds 5 true).setIfInBounds 6 true)=[]:=by decide+kernel
def zN:ByteArray:=bytes [122]
def Xy:ByteArray:=bytes [114,48,48]
theorem aeQ:RN zN:=Tc (by decide+kernel)
theorem aeR:RN Xy:=Tc (by decide+kernel)
def Tk:List (ByteArray×Nat):=(arU 8).map fun i=>(bytes (G1 i),i+1)
theorem Tl:(qW (dw 20) zN 1).length=21:=by decide+kernel
theorem Tm:(qW (Er (dw 20) Xy) zN 1).length=20:=by decide+kernel
theorem apa:(gH Tk [(.snap zN 1,uG)]).length=9:=by decide+kernel
theorem Ha{l:List (ByteArray×Nat)}{k:Nat}(h:∀q∈l,q.2=k)(nm:ByteArray):∀q∈qW l nm k,q.2=k:=fun q hq=>by
 rcases AN hq with rfl|hq
 ·rfl
 ·exact h q hq
theorem A5:∀q∈dw m,q.2=1:=fun q hq=>by obtain⟨i,_,rfl⟩:=ti hq;rfl
theorem CL{α:Type}{l:List α}{k:Nat}(h:l.length=k)(hk:k≠0):l≠[]:=by rintro rfl;exact hk h.symm
theorem dr.Tn{rs na:List (ByteArray×Nat)}{N k k':Nat}(h:dr ⟨l,rs,next⟩ N k)(h1:∀q∈na,q.2=k')(h2:na≠[])(hk:1<=k'/\k'<=N):dr ⟨l,na,next⟩ N k':=⟨h.sub,h.refs,h1,h2,hk,h.N⟩
theorem To{N:Nat}(hl:l.map (·.1)=jg N){p:O×Value}(hp:p∈l):1<=p.1.id/\p.1.id<=N:=by
 have:p.1∈jg N:=by rw[<-hl];exact AAA.2 ⟨p,hp,rfl⟩
 obtain⟨i,hi,e⟩:=oA.1 this;rw[e];simp only[th];omega
theorem Mm{N:Nat}(hl:l.map (·.1)=jg N){p:O×Value}(hp:N<p.1.id):my l p=l++[p]:=by
 unfold my;rw[if_neg];intro hm;obtain⟨q,hq,e⟩:=AAA.1 hm;have:=To hl hq;omega
theorem J9{N:Nat}(hl:l.map (·.1)=jg N)(hN:1<=N/\N<=90000)(hm:1<=m)(v:Value):dr ⟨l++[(⟨N+1,0⟩,v)],dw m,next⟩ N 1:=by
 have h:=nz (next:=next) hl hN hm;refine⟨fun o ho=> ?_,fun p hp=> ?_,h.roots,h.rne,h.k,h.N⟩
 ·have:=h.sub o ho
  rw[List.map_append];exact arR _ this
 ·rcases List.mem_append.1 hp with hp|hp
  ·exact h.refs p hp
  ·simp only[arD]at hp;subst hp;exact Nat.zero_le _
theorem Ka{N m next:Nat}(hl:l.map (·.1)=jg N)(hN:1<=N/\N+1<=90000)(hm:1<=m)(v1 v2:Value):dr ⟨my (l++[(⟨N+1,0⟩,v1)]) (⟨N,N+1⟩,v2),dw m,next⟩ (N+1) 1/\(my (l++[(⟨N+1,0⟩,v1)]) (⟨N,N+1⟩,v2)).length=l.length+1:=by
 have h:=nz (next:=next) hl ⟨hN.1,by omega⟩ hm;have kg:N∈(l++[((⟨N+1,0⟩:O),v1)]).map (·.1.id):=by
  obtain⟨p,hp,e⟩:=h.id (x:=N) (by omega);refine AAA.2 ⟨p,arR _ hp,?_⟩;rw[e];simp only[th];omega
 have NA:my (l++[(⟨N+1,0⟩,v1)]) (⟨N,N+1⟩,v2)=(l++[((⟨N+1,0⟩:O),v1)]).map (fun q:O×Value=>if q.1.id=N then((⟨N,N+1⟩:O),v2)else q):=by
  unfold my;rw[if_pos kg]
 rw[NA];refine⟨⟨fun o ho=> ?_,fun p hp=> ?_,h.roots,h.rne,by omega,hN.2⟩,by simp⟩
 ·obtain⟨i,hi,rfl⟩:=oA.1 ho
  rw[List.map_map]
  by_cases h1:i=N
  ·subst h1
   refine AAA.2 ⟨(⟨i+1,0⟩,v1),by simp,?_⟩;simp[th]
  ·obtain⟨p,hp,e⟩:=h.id (x:=i+1) (by omega)
   refine AAA.2 ⟨p,arR _ hp,?_⟩;have e':p.1=th N i:=by rw[e];simp
   simp only[Function.comp]
   by_cases h2:i+1=N
   ·have:p.1.id=N:=by rw[e'];exact h2
    rw[if_pos this];simp only[th];rw[if_neg (by omega)]
    congr 1
    ·omega
    ·omega
   ·have:p.1.id≠N:=by rw[e'];exact h2
    rw[if_neg this,e'];simp only[th];rw[if_neg h2,if_neg (by omega)]
 ·obtain⟨q,hq,rfl⟩:=AAA.1 hp
  split
  ·exact arH _
  ·rcases List.mem_append.1 hq with hq|hq
   ·have:=h.refs q hq;show q.1.ref<=N+1;omega
   ·simp only[arD]at hq;subst hq;exact Nat.zero_le _
theorem tj{B nt nb:Nat}{L:List (Nat×V)}{HB:List (Nat×aQ)}{a:Act}{w w':World}(hs:ad φ B (U nt L) (ak nb HB) a w)(hg:Grown w w'){L':List (Nat×V)}{nb':Nat}{BS:List (Nat×aQ)}{tb:bP}(hm:(bG tb (U nt L) (ak nb HB) nt L' nb' BS).isSome=true)(hp:fL tb=true)(GS:aW tb nt L' nb' BS=true){y:Sym}(hy:Ag tb y y)(hn:bD φ y){d:Nat}(hd:d<nt)(c:Nat):
  ∃af,ad af B (U nt ((d,.i .i64 c)::L')) (ak nb' BS) (a.put (some d) (.int .i64 c)) w'/\bD af y:=by
 obtain⟨ay,b9,n1,n2,n3,n4⟩:=hs.conv hm y ((hy.cL hn).agree hp rfl _ _);obtain⟨aV,dx,m1,m2,m3,m4⟩:=b9.grow hg GS (y:=y) (hy.pY n1 n2 n3 n4);exact⟨aV,dx.put hd vI,m1,m2,m3,m4⟩
theorem vW(h0:φ.q 0=lines)(h1:φ.q 1=ov)(h2:φ.q 2=rv)(h3:φ.s 3=next)(o0:lines.oneCell'=true)(o1:ov.oneCell'=true)(o2:rv.oneCell'=true):VR φ wA (wV lines ov rv next):=by
 have:=kz (φ:=φ) h0 h1 h2 h3 o0 o1 o2;simp only[fD,J]at this;obtain⟨_,_,e,h,rfl⟩:=this;simp only[List.cons.injEq,and_true]at e;rw[e];exact h
theorem Tp{next:Nat}(h0:φ.q 0=lines)(h1:φ.q 1=ov)(h2:φ.q 2=rv)(h3:φ.s 3=next){v:Value}(h:VR φ wA v):v=wV lines ov rv next:=by
 have:=fW (φ:=φ) h0 h1 h2 h3 (args:=[v]) (J.cons h J.nil);simpa using this
theorem Z5{next:Nat}(h0:φ.q 7=lines)(h1:φ.q 8=ov)(h2:φ.q 9=rv)(h3:φ.s 4=next){v:Value}(h:VR φ wB v):v=wV lines ov rv next:=by
 simp only[wB,VR,J]at h;obtain⟨cs,rfl,_,_,e1,⟨rfl,_⟩,_,_,rfl,⟨rfl,_⟩,_,_,rfl,⟨rfl,_⟩,_,_,rfl,rfl,rfl⟩:=h;rw[h0,h1,h2,h3]at e1;unfold wV
 congr 1
 exact arM.1 e1
theorem vWB(h7:φ.q 7=lines)(h8:φ.q 8=ov)(h9:φ.q 9=rv)(h4:φ.s 4=next)(p0:lines.oneCell'=true)(p1:ov.oneCell'=true)(p2:rv.oneCell'=true):VR φ wB (wV lines ov rv next):=by
 simp only[wB,VR];refine⟨_,rfl,J.cons ?_ (J.cons ?_ (J.cons ?_ (J.cons ?_ J.nil)))⟩
 ·simp only[VR];exact⟨h7.symm,p0⟩
 ·simp only[VR];exact⟨h8.symm,p1⟩
 ·simp only[VR];exact⟨h9.symm,p2⟩
 ·simp only[VR,h4]
theorem tl{v:Value}(h:VR φ nl v):v=uG:=by simp only[nl,VR]at h;exact h.2
def yA(ln ov rv:Value):Sym:=dg [0,0,0,4] [ln,ov,rv] [] []
def yB(ln ov rv ln2 ov2 rv2:Value):Sym:=dg [0,0,0,4,201] [ln,ov,rv,.bool false,.bool false,.bool false,.bool false,ln2,ov2,rv2] [] []
theorem CM{φ:Ren}:∀(ks:List Nat) (vs:List Value),J φ (ks.flatMap fun i=>[V.s (G1 i),V.i .i64 ((i+1:Nat):Int)]) vs->vs=cg (ks.map fun i=>(bytes (G1 i),i+1))
 |[],vs,h=>by
  simp only[arO,J]at h;rw[h];rfl
 |k::ks,vs,h=>by
  simp only[arL,arW,List.nil_append,J,VR]at h;obtain⟨_,_,rfl,⟨rfl,_⟩,_,_,rfl,rfl,h⟩:=h;rw[CM ks _ h];simp[cg,ja]
theorem Tq(n:Nat)(w:World):CallsIn (W none) n Tryz.prog 4 #[] w fun e w'=>∃v,e=.returned v/\v=.bool true/\Grown w w':=by
 let y0:Sym:=dg [] [] [] [];have bB:=ad.enter (nt:=92) (bc y0 w) rfl rfl (vs:=[]) (args:=[]) J.nil (by decide);refine dz (fn:=Tryz.f4) (c:=(Tryz.f4.body).getD .skip) (args:=[]) Tryz.func4 rfl (bp _ ?_);show aC none n E0.P _ c6 _ _;refine ad.dc (aq aB {}) rfl 1 aoZ bB bx.dU rfl y0 (Ag.au (o:=y0) ⟨agm,agm,agm,agm⟩ rfl rfl rfl rfl) fun φ a w1 hs iM kx _ n1 n2 n3 n4=> ?_
 show aC none n E0.P _ (c6.drop 1) a w1;obtain⟨id1,lH⟩:=ako;rw[lH];refine b8 ?_;refine hs.eV (l:=(aN (c6.drop 1)).toList) (o:=(aN (c6.drop 1)).toList.headD default) (rest:=(aN (c6.drop 1)).toList.drop 1) rfl rfl rfl rfl rfl Tryz.func10 rfl rfl (Vs:=[.i .i64 3,.i .i64 20]) rfl ?_;intro args' ha;have:args'=[.int .i64 (3:Nat),.int .i64 (20:Nat)]:=by
  simp only[J,VR]at ha;obtain⟨_,_,rfl,rfl,_,_,rfl,rfl,rfl⟩:=ha;rfl
 subst this;refine(AZ (n:=n-1) (N:=3) (m:=20) ⟨by decide,by decide⟩ ⟨by decide,by decide⟩ Xs).mono ?_;rintro e w2 ⟨v,rfl,⟨ln,ov,rv,l,rfl,G2,hl⟩,akI⟩;refine⟨_,rfl,?_⟩;have o0:=G2.BA.one;have o1:=G2.bS.one;have o2:=G2.roots.one;have Zm:=nz (next:=4) hl ⟨by decide,by decide⟩ (m:=20) (by decide);have E8:=xl hl;have D7:=kx.trans (akI.gb kx.size);have Kb:Ag lK (yA ln ov rv) (yA ln ov rv):=⟨⟨rfl,agm⟩,⟨⟨rfl,o0⟩,⟨rfl,o1⟩,⟨rfl,o2⟩,agm⟩,agm,agm⟩;obtain⟨φ,hs,n1,n2,n3,n4⟩:=hs.grow akI (tb:={}) (by decide+kernel) (y:=yA ln ov rv) ⟨agm,agm,agm,agm⟩;have hs:=hs.put (d:=15) (by decide) (x:=wA) (v:=wV ln ov rv (3+1)) (vW (agB n2 0) (agB n2 1) (agB n2 2) (agB n1 3) o0 o1 o2);refine ad.gz (aq aB {}) rfl 100 ao0 hs bx.dU _ (Kb.cL ⟨n1,n2,n3,n4⟩) fun φ a3 w3 hs gJ ig vO n1 n2 n3 n4=> ?_
 show aC none n E0.P _ (c6.drop 2) a3 w3;have wR:a3.defers=[]:=by rw[gJ];exact iM
 refine ad.dc (aq aB {}) rfl 1 (cs:=c6.drop 2) ao1 hs bx.dU wR _ (Kb.cL ⟨n1,n2,n3,n4⟩) fun φ a4 w4 hs sS pV D8 n1 n2 n3 n4=> ?_
 show aC none n E0.P _ (c6.drop 3) a4 w4;have g04:=(D7.trans ig).trans pV;have G4:GW w4 ln ov rv 4 l (dw 20):=G2.aJ ((vO.aJ rfl).trans (D8.aJ rfl));obtain⟨id3,zP⟩:=akp;rw[zP];refine b8 ?_;refine ad.gz (aq aB {}) rfl 3 ao2 hs bx.dU _ (Kb.cL ⟨n1,n2,n3,n4⟩) fun φ a5 w5 hs vL vM GA n1 n2 n3 n4=> ?_
 have G5:=G4.aJ (GA.aJ rfl);refine hs.eV (l:=(aN (c6.drop 3)).toList.drop 3) (o:=((aN (c6.drop 3)).toList.drop 3).headD default) (rest:=(aN (c6.drop 3)).toList.drop 4) rfl rfl rfl rfl rfl Tryz.func11 rfl rfl (Vs:=[wA,nl,Vu 1]) rfl ?_;intro args' ha;simp only[J]at ha;obtain⟨uw,_,rfl,S4,us,_,rfl,Cl,ur,_,rfl,Ie,rfl⟩:=ha;have e1:=Tp (next:=4) (agB n2 0) (agB n2 1) (agB n2 2) (agB n1 3) S4;have e2:=tl Cl;subst e1;subst e2;have Tr:∀(φ:Ren) (vs:List Value),J φ Ol vs->vs=fO (.root zN 1,uG):=fun φ vs hv=>by
  obtain⟨v,nm,h1,h2,rfl⟩:=rec_eq hv (k':=2) (oid':=0) (id':=1) iS iS iS;simp only[VR]at h2;rw[tl h1,h2.1];rfl
 have akJ:gj w5 ur [(.root zN 1,uG)]:=A0 hs.hr (cs:=Ol) rfl Ie (fun vs hv=>by rw[Tr φ vs hv];simp[bL]) rfl;refine(jz (n:=n-1) (c:=251) G5 Zm (sl:=[]) (.inl ⟨rfl,rfl⟩) (by decide) akJ (fun r hr=>by simp only[arD]at hr;subst hr;exact⟨aeQ,by decide⟩) (by decide) (s:=⟨l,qW (dw 20) zN 1,4⟩) rfl (by show l.length<=_;omega) (by rw[Tl];decide) (Zm.Tn (Ha A5 zN) (CL Tl (by decide)) ⟨by decide,by decide⟩) (by rw[Tl];rfl)).mono ?_;rintro e w6 ⟨v,rfl,rfl,aeS⟩;refine⟨_,rfl,?_⟩;obtain⟨φ,hs,oV⟩:=tj hs aeS akq rfl ao3 Kb ⟨n1,n2,n3,n4⟩ (d:=20) (by decide) 251;have O7:=(g04.trans vM).trans (aeS.gb (arV g04.size vM.size));have G6:=G5.aJ (cT.grown aeS wT);refine ad.gz (aq aB {}) rfl 100 akr hs bx.dU _ (Kb.cL oV) fun φ a7 w7 hs Et BE hk7 n1 n2 n3 n4=> ?_
 show aC none n E0.P _ (c6.drop 4) a7 w7;have apb:a7.defers=[]:=by rw[Et];show a5.defers=[];rw[vL,sS]
 have G7:=G6.aJ (hk7.aJ rfl);have g07:=O7.trans BE;obtain⟨id4,pJ⟩:=aks;rw[pJ];refine b8 ?_;refine ad.gz (aq aB {}) rfl 4 ao4 hs bx.dU _ (Kb.cL ⟨n1,n2,n3,n4⟩) fun φ a8 w8 hs Pd Xn hk8 n1 n2 n3 n4=> ?_
 have G8:=G7.aJ (hk8.aJ rfl);refine hs.eV (l:=(aN (c6.drop 4)).toList.drop 4) (o:=((aN (c6.drop 4)).toList.drop 4).headD default) (rest:=(aN (c6.drop 4)).toList.drop 5) rfl rfl rfl rfl rfl Tryz.func11 rfl rfl (Vs:=[wA,nl,Vu 2]) rfl ?_;intro args' ha;simp only[J]at ha;obtain⟨uw,_,rfl,S4,us,_,rfl,Cl,ur,_,rfl,Ie,rfl⟩:=ha;have e1:=Tp (next:=4) (agB n2 0) (agB n2 1) (agB n2 2) (agB n1 3) S4;have e2:=tl Cl;subst e1;subst e2;have akK:gj w8 ur [(.root Xy 0,uG),(.root zN 1,uG)]:=A0 hs.hr (cs:=ZS++Ol) rfl Ie (fun vs hv=>by
  obtain⟨v1,v2,rfl,h1,h2⟩:=hv.split;obtain⟨v,nm,h3,h4,rfl⟩:=rec_eq h1 (k':=2) (oid':=0) (id':=0) iS iS iS;simp only[VR]at h4;rw[Tr φ v2 h2,tl h3,h4.1];simp only[bL,arL,arO,List.append_nil];rfl) rfl
 refine(jz (n:=n-1) (c:=0) G8 Zm (sl:=[]) (.inl ⟨rfl,rfl⟩) (by decide) akK (fun r hr=>by
  simp only[List.mem_cons,List.not_mem_nil,or_false]at hr;rcases hr with rfl|rfl
  ·exact⟨aeR,by decide⟩
  ·exact⟨aeQ,by decide⟩) (by decide) (s:=⟨l,qW (Er (dw 20) Xy) zN 1,4⟩) rfl (by show l.length<=_;omega) (by rw[Tm];decide) (Zm.Tn (Ha (fun q hq=>A5 q (List.mem_filter.1 hq).1) zN) (CL Tm (by decide)) ⟨by decide,by decide⟩) (by rw[Tm];rfl)).mono ?_
 rintro e w9 ⟨v,rfl,rfl,BZ⟩;refine⟨_,rfl,?_⟩;obtain⟨φ,hs,oV⟩:=tj hs BZ akt rfl aku Kb ⟨n1,n2,n3,n4⟩ (d:=25) (by decide) 0;have g09:=(g07.trans Xn).trans (BZ.gb (arV g07.size Xn.size));have G9:=G8.aJ (cT.grown BZ wT);refine ad.gz (aq aB {}) rfl 100 akv hs bx.dU _ (Kb.cL oV) fun φ aa wa hs hda hga hka n1 n2 n3 n4=> ?_
 show aC none n E0.P _ (c6.drop 5) aa wa;have acX:aa.defers=[]:=by rw[hda];show a8.defers=[];rw[Pd,apb]
 have Ga:=G9.aJ (hka.aJ rfl);have g0a:=g09.trans hga;obtain⟨id5,WY⟩:=akw;rw[WY];refine b8 ?_;refine hs.eV (l:=(aN (c6.drop 5)).toList) (o:=(aN (c6.drop 5)).toList.headD default) (rest:=(aN (c6.drop 5)).toList.drop 1) rfl rfl rfl rfl rfl Tryz.func10 rfl rfl (Vs:=[.i .i64 200,.i .i64 1]) rfl ?_;intro args' ha;have:args'=[.int .i64 (200:Nat),.int .i64 (1:Nat)]:=by
  simp only[J,VR]at ha;obtain⟨_,_,rfl,rfl,_,_,rfl,rfl,rfl⟩:=ha;rfl
 subst this;refine(AZ (n:=n-1) (N:=200) (m:=1) ⟨by decide,by decide⟩ ⟨by decide,by decide⟩ S9).mono ?_;rintro e wb ⟨v,rfl,⟨ln2,ov2,rv2,l2,rfl,Gb2,Gx⟩,aeT⟩;refine⟨_,rfl,?_⟩;have p0:=Gb2.BA.one;have p1:=Gb2.bS.one;have p2:=Gb2.roots.one;have Gb:=Ga.aJ (cT.grown aeT wT);have g0b:=g0a.trans (aeT.gb g0a.size);have ars:=xl Gx;have hyB:Ag Ml (yB ln ov rv ln2 ov2 rv2) (yB ln ov rv ln2 ov2 rv2):=⟨⟨rfl,rfl,agm⟩,⟨⟨rfl,o0⟩,⟨rfl,o1⟩,⟨rfl,o2⟩,⟨rfl,p0⟩,⟨rfl,p1⟩,⟨rfl,p2⟩,agm⟩,agm,agm⟩;obtain⟨φ,hs,n1,n2,n3,n4⟩:=hs.grow aeT ZX (y:=yB ln ov rv ln2 ov2 rv2) ⟨⟨(agB n1 3).symm,agm⟩,⟨⟨(agB n2 0).symm,o0⟩,⟨(agB n2 1).symm,o1⟩,⟨(agB n2 2).symm,o2⟩,agm⟩,agm,agm⟩;have hs:=hs.put (d:=26) (by decide) (x:=wB) (v:=wV ln2 ov2 rv2 (200+1)) (vWB (agB n2 7) (agB n2 8) (agB n2 9) (agB n1 4) p0 p1 p2);refine ad.gz (aq aB {}) rfl 3 ao5 hs bx.dU _ (hyB.cL ⟨n1,n2,n3,n4⟩) fun φ ac wc hs hdc hgc hkc n1 n2 n3 n4=> ?_
 have Gc:=Gb.aJ (hkc.aJ rfl);have Gc2:=Gb2.aJ (hkc.aJ rfl);have g0c:=g0b.trans hgc;refine hs.eV (l:=((aN (c6.drop 5)).toList.drop 1).drop 3) (o:=((aN (c6.drop 5)).toList.drop 4).headD default) (rest:=(aN (c6.drop 5)).toList.drop 5) rfl rfl rfl rfl rfl Tryz.func11 rfl rfl (Vs:=[wB,nl,Vu 2]) rfl ?_;intro args' ha;simp only[J]at ha;obtain⟨uw,_,rfl,S4,us,_,rfl,Cl,ur,_,rfl,Ie,rfl⟩:=ha;have e1:=Z5 (next:=201) (agB n2 7) (agB n2 8) (agB n2 9) (agB n1 4) S4;have e2:=tl Cl;subst e1;subst e2;have Jh:∀(φ:Ren) (HB:List (Nat×aQ)) (nb:Nat) (w:World),HR φ (ak nb HB) w->mO HB 3=rN kN kN->∀r,φ 3=some r->cB w (⟨201,0⟩,.slice (some ⟨r,0,none⟩) 1 1):=fun φ HB nb w hr h3 r h=>by
  obtain⟨c,g,vc,_,z,_⟩:=hr.cx h (l:=[kN,kN,.s [],.sl none 0 (.kn 0)]) h3;have z:=z rfl;rw[arC (by rw[aop,z];exact arH _)]at vc;simp only[kN,J,VR]at vc;obtain⟨_,_,q,rfl,_,_,rfl,rfl,_,_,rfl,⟨rfl,_⟩,_,_,rfl,⟨_,rfl⟩,rfl⟩:=vc;exact⟨r,rfl,by rw[g];congr 2;exact arM.1 q⟩
 have yT:∀(φ:Ren) (vs:List Value),J φ (J7 3) vs->∃r,φ 3=some r/\vs=fO (.put ⟨201,0⟩,.slice (some ⟨r,0,none⟩) 1 1):=fun φ vs hv=>by
  obtain⟨v,nm,h1,h2,rfl⟩:=rec_eq hv (k':=1) (oid':=201) (id':=0) iS iS iS;simp only[VR]at h1 h2;obtain⟨r,hr,_,rfl⟩:=h1;exact⟨r,hr,by rw[h2.1];rfl⟩
 obtain⟨r3,r4,Ez,Xz,lz⟩:∃r3 r4,φ 3=some r3/\φ 4=some r4/\gj wc ur [(.put ⟨201,0⟩,.slice (some ⟨r3,0,none⟩) 1 1),(.put ⟨200,201⟩,.slice (some ⟨r4,0,none⟩) 1 1)]:=by
  have ff:∃r,φ 2=some r:=by simp only[Vu,VR]at Ie;exact⟨_,Ie.choose_spec.1⟩
  obtain⟨r2,h2⟩:=ff;obtain⟨c,g,vc,_,z,_⟩:=hs.hr.cx h2 (l:=J7 3++aeM 4) rfl;have z:=z rfl;rw[arC (by rw[aop,z];exact arH _)]at vc;have vc':=vc;obtain⟨v1,v2,_,h3,h4⟩:=vc.split;obtain⟨r3,zP,_⟩:=yT φ v1 h3;obtain⟨v,nm,h5,h6,_⟩:=rec_eq h4 (k':=1) (oid':=200) (id':=0) iS iS iS;simp only[VR]at h5;obtain⟨r4,pJ,_,_⟩:=h5;refine⟨r3,r4,zP,pJ,A0 hs.hr (cs:=J7 3++aeM 4) rfl Ie (fun vs hv=> ?_) rfl⟩;obtain⟨v1,v2,rfl,h3,h4⟩:=hv.split;obtain⟨r3',Ez,rfl⟩:=yT φ v1 h3;obtain⟨v,nm,h5,h6,rfl⟩:=rec_eq h4 (k':=1) (oid':=200) (id':=0) iS iS iS;simp only[VR]at h5 h6;obtain⟨r4',Xz,_,rfl⟩:=h5;rw[zP]at Ez;cases Ez;rw[pJ]at Xz;cases Xz;rw[h6.1];simp only[bL,arL,arO,List.append_nil];rfl
 have Tt:=Jh φ _ _ wc hs.hr rfl r3 Ez;have akL:cB wc (⟨200,201⟩,.slice (some ⟨r4,0,none⟩) 1 1):=by
  obtain⟨c,g,vc,_,z,_⟩:=hs.hr.cx Xz (l:=[kY,.i .i64 201,.s [],.sl none 0 (.kn 0)]) rfl;have z:=z rfl;rw[arC (by rw[aop,z];exact arH _)]at vc;simp only[kY,J,VR]at vc;obtain⟨_,_,q,rfl,_,_,rfl,rfl,_,_,rfl,⟨rfl,_⟩,_,_,rfl,⟨_,rfl⟩,rfl⟩:=vc;exact⟨r4,rfl,by rw[g];congr 2;exact arM.1 q⟩
 have PO:=nz (next:=201) Gx ⟨by decide,by decide⟩ (m:=1) (by decide);have Z6:=Ka (next:=202) Gx ⟨by decide,by decide⟩ (m:=1) (by decide) (.slice (some ⟨r3,0,none⟩) 1 1) (.slice (some ⟨r4,0,none⟩) 1 1);refine(jz (n:=n-1) (c:=250) Gc2 PO (sl:=[]) (.inl ⟨rfl,rfl⟩) (by decide) lz (fun r hr=>by
  simp only[List.mem_cons,List.not_mem_nil,or_false]at hr;rcases hr with rfl|rfl
  ·exact⟨Tt,⟨by decide,by decide⟩,by decide⟩
  ·exact⟨akL,⟨by decide,by decide⟩,by decide⟩) (by show 2<=1000;decide) (s:=⟨my (l2++[(⟨201,0⟩,.slice (some ⟨r3,0,none⟩) 1 1)]) (⟨200,201⟩,.slice (some ⟨r4,0,none⟩) 1 1),dw 1,202⟩) (by
   simp only[od.run,List.foldl_cons,List.foldl_nil,od.step];rw[Mm Gx (p:=(⟨201,0⟩,.slice (some ⟨r3,0,none⟩) 1 1)) (by show 200<201;decide)];rfl) (by show(my _ _).length<=_;rw[Z6.2];omega) (by show(dw 1).length<=100000;decide) Z6.1 rfl).mono ?_
 rintro e wd ⟨v,rfl,rfl,aeU⟩;refine⟨_,rfl,?_⟩;have yAB:∀φ:Ren,bD φ (yB ln ov rv ln2 ov2 rv2)->Agree lK φ (ak 5 Th) wc (yA ln ov rv):=fun φ h=>by
  refine bC ⟨(agB h.1 3).symm,agm⟩ ⟨?_,?_,?_,agm⟩ trivial trivial
  ·simp only[VR];exact⟨(agB h.2.1 0).symm,o0⟩
  ·simp only[VR];exact⟨(agB h.2.1 1).symm,o1⟩
  ·simp only[VR];exact⟨(agB h.2.1 2).symm,o2⟩
 obtain⟨φ,hs,n1,n2,n3,n4⟩:=hs.conv akx (yA ln ov rv) (yAB φ ⟨n1,n2,n3,n4⟩);obtain⟨φ,hs,n1,n2,n3,n4⟩:=hs.grow aeU ZX (y:=yA ln ov rv) (Kb.pY n1 n2 n3 n4);have hs:=hs.put (d:=30) (by decide) (x:=.i .i64 250) (v:=.int .i64 250) vI;have g0d:=g0c.trans (aeU.gb g0c.size);have Gd:=Gc.aJ (cT.grown aeU wT);refine ad.gz (aq aB {}) rfl 100 aky hs bx.dU _ (Kb.cL ⟨n1,n2,n3,n4⟩) fun φ ae we hs hde Xl hke n1 n2 n3 n4=> ?_
 show aC none n E0.P _ (c6.drop 6) ae we;have apc:ae.defers=[]:=by rw[hde];show ac.defers=[];rw[hdc];exact acX
 have Ge:=Gd.aJ (hke.aJ rfl);have g0e:=g0d.trans Xl;obtain⟨id6,JD⟩:=akz;rw[JD];refine b8 ?_;refine hs.eV (l:=(aN (c6.drop 6)).toList) (o:=(aN (c6.drop 6)).toList.headD default) (rest:=(aN (c6.drop 6)).toList.drop 1) rfl rfl rfl rfl rfl Tryz.func10 rfl rfl (Vs:=[.i .i64 200,.i .i64 1]) rfl ?_;intro args' ha;have:args'=[.int .i64 (200:Nat),.int .i64 (1:Nat)]:=by
  simp only[J,VR]at ha;obtain⟨_,_,rfl,rfl,_,_,rfl,rfl,rfl⟩:=ha;rfl
 subst this;refine(AZ (n:=n-1) (N:=200) (m:=1) ⟨by decide,by decide⟩ ⟨by decide,by decide⟩ S9).mono ?_;rintro e wf ⟨v,rfl,⟨ln3,ov3,rv3,l3,rfl,Gf3,Ql⟩,aeV⟩;refine⟨_,rfl,?_⟩;have t0:=Gf3.BA.one;have t1:=Gf3.bS.one;have t2:=Gf3.roots.one;have Gf:=Ge.aJ (cT.grown aeV wT);have g0f:=g0e.trans (aeV.gb g0e.size);have apd:=xl Ql;have hyC:Ag Ml (yB ln ov rv ln3 ov3 rv3) (yB ln ov rv ln3 ov3 rv3):=⟨⟨rfl,rfl,agm⟩,⟨⟨rfl,o0⟩,⟨rfl,o1⟩,⟨rfl,o2⟩,⟨rfl,t0⟩,⟨rfl,t1⟩,⟨rfl,t2⟩,agm⟩,agm,agm⟩;obtain⟨φ,hs,n1,n2,n3,n4⟩:=hs.grow aeV ZZ (y:=yB ln ov rv ln3 ov3 rv3) ⟨⟨(agB n1 3).symm,agm⟩,⟨⟨(agB n2 0).symm,o0⟩,⟨(agB n2 1).symm,o1⟩,⟨(agB n2 2).symm,o2⟩,agm⟩,agm,agm⟩;have hs:=hs.put (d:=31) (by decide) (x:=wB) (v:=wV ln3 ov3 rv3 (200+1)) (vWB (agB n2 7) (agB n2 8) (agB n2 9) (agB n1 4) t0 t1 t2);refine ad.gz (aq aB {}) rfl 2 ao6 hs bx.dU _ (hyC.cL ⟨n1,n2,n3,n4⟩) fun φ ag wg hs hdg O8 hkg n1 n2 n3 n4=> ?_
 have Gg:=Gf.aJ (hkg.aJ rfl);have Gg3:=Gf3.aJ (hkg.aJ rfl);have g0g:=g0f.trans O8;refine hs.eV (l:=((aN (c6.drop 6)).toList.drop 1).drop 2) (o:=((aN (c6.drop 6)).toList.drop 3).headD default) (rest:=(aN (c6.drop 6)).toList.drop 4) rfl rfl rfl rfl rfl Tryz.func11 rfl rfl (Vs:=[wB,nl,Vu 1]) rfl ?_;intro args' ha;simp only[J]at ha;obtain⟨uw,_,rfl,S4,us,_,rfl,Cl,ur,_,rfl,Ie,rfl⟩:=ha;have e1:=Z5 (next:=201) (agB n2 7) (agB n2 8) (agB n2 9) (agB n1 4) S4;have e2:=tl Cl;subst e1;subst e2;obtain⟨r3,Ez,lz⟩:∃r3,φ 3=some r3/\gj wg ur [(.put ⟨201,0⟩,.slice (some ⟨r3,0,none⟩) 1 1)]:=by
  have ff:∃r,φ 2=some r:=by simp only[Vu,VR]at Ie;exact⟨_,Ie.choose_spec.1⟩
  obtain⟨r2,h2⟩:=ff;obtain⟨c,g,vc,_,z,_⟩:=hs.hr.cx h2 (l:=J7 3) rfl;have z:=z rfl;rw[arC (by rw[aop,z];exact arH _)]at vc;obtain⟨r3,zP,_⟩:=yT φ _ vc;refine⟨r3,zP,A0 hs.hr (cs:=J7 3) rfl Ie (fun vs hv=> ?_) rfl⟩;obtain⟨r3',Ez,rfl⟩:=yT φ vs hv;rw[zP]at Ez;cases Ez;simp[bL]
 have Tt:=Jh φ _ _ wg hs.hr rfl r3 Ez;have hc3:=nz (next:=201) Ql ⟨by decide,by decide⟩ (m:=1) (by decide);refine(jz (n:=n-1) (c:=0) Gg3 hc3 (sl:=[]) (.inl ⟨rfl,rfl⟩) (by decide) lz (fun r hr=>by
  simp only[arD]at hr;subst hr;exact⟨Tt,⟨by decide,by decide⟩,by decide⟩) (by show 1<=1000;decide) (s:=⟨l3++[(⟨201,0⟩,.slice (some ⟨r3,0,none⟩) 1 1)],dw 1,202⟩) (by
   simp only[od.run,List.foldl_cons,List.foldl_nil,od.step];rw[Mm Ql (p:=(⟨201,0⟩,.slice (some ⟨r3,0,none⟩) 1 1)) (by show 200<201;decide)];rfl) (by show(l3++[((⟨201,0⟩:O),_)]).length<=_;rw[List.length_append,apd];show 200+1<=100000;decide) (by show(dw 1).length<=100000;decide) (J9 Ql ⟨by decide,by decide⟩ (by decide) _) rfl).mono ?_
 rintro e wh ⟨v,rfl,rfl,aeW⟩;refine⟨_,rfl,?_⟩;obtain⟨φ,hs,n1,n2,n3,n4⟩:=hs.conv akA (yA ln ov rv) (by
  refine bC ⟨(agB n1 3).symm,agm⟩ ⟨?_,?_,?_,agm⟩ trivial trivial
  ·simp only[VR];exact⟨(agB n2 0).symm,o0⟩
  ·simp only[VR];exact⟨(agB n2 1).symm,o1⟩
  ·simp only[VR];exact⟨(agB n2 2).symm,o2⟩)
 obtain⟨φ,hs,n1,n2,n3,n4⟩:=hs.grow aeW ZZ (y:=yA ln ov rv) (Kb.pY n1 n2 n3 n4);have hs:=hs.put (d:=34) (by decide) (x:=.i .i64 0) (v:=.int .i64 0) vI;have g0h:=g0g.trans (aeW.gb g0g.size);have Gh:=Gg.aJ (cT.grown aeW wT);refine ad.gz (aq aB {}) rfl 100 akB hs bx.dU _ (Kb.cL ⟨n1,n2,n3,n4⟩) fun φ ai wi hs hdi hgi hki n1 n2 n3 n4=> ?_
 show aC none n E0.P _ (c6.drop 7) ai wi;have ape:ai.defers=[]:=by rw[hdi];show ag.defers=[];rw[hdg];exact apc
 have Gi:=Gh.aJ (hki.aJ rfl);have g0i:=g0h.trans hgi;obtain⟨id7,Vr⟩:=akC;rw[Vr];refine ad.Te (Ts:=wT) (aq aB {}) rfl aB.mixed akD akE (L0:=A4) (HB0:=gA) rfl rfl hs (yA ln ov rv) Kb n1 n2 n3 n4 (fun ay _ _ _ _=>bx.dU) fun φ aj wj hs yJ hgj hkj n1 n2 n3 n4=> ?_
 refine GZ (fuel:=1) aeN (o:=((aN (c6.drop 7)).toList.drop 5).headD default) rfl (l:=(aN (c6.drop 7)).toList.drop 6) (fun a w h=>GZ (fuel:=0) aeO (o:=((aN (c6.drop 7)).toList.drop 6).headD default) rfl (l:=[]) (fun a w h=>Tf aeP h) h) ?_;have Gj:=Gi.aJ hkj;have g0j:=g0i.trans hgj;refine hs.eV (o:=((aN (c6.drop 7)).toList.drop 5).headD default) (rest:=(aN (c6.drop 7)).toList.drop 6) rfl rfl rfl rfl rfl Tryz.func11 rfl rfl (Vs:=[wA,.sl (some (3,0)) 8 (.un 2),.sl (some (4,0)) 1 (.kn 1)]) rfl ?_;intro args' ha;simp only[J]at ha;obtain⟨uw,_,rfl,S4,us,_,rfl,Cl,ur,_,rfl,Ie,rfl⟩:=ha;have e1:=Tp (next:=4) (agB n2 0) (agB n2 1) (agB n2 2) (agB n1 3) S4;subst e1;have ZQ:kj wj us Tk:=by
  simp only[VR]at Cl;obtain⟨r3,cap,h3,h7,h8,rfl⟩:=Cl;obtain⟨c6,g6,v6,l6,_,z6⟩:=hs.hr.cx h3 (l:=(arU 8).flatMap fun i=>[.s (G1 i),.i .i64 (i+1:Nat)]) rfl;have:=CM _ _ v6;refine .inr ⟨r3,8,cap,c6,rfl,by decide,by decide,h7,by omega,g6,?_⟩;exact this
 have lz:gj wj ur [(.snap zN 1,uG)]:=A0 hs.hr (cs:=Tg) rfl Ie (fun vs hv=>by
  obtain⟨v,nm,h1,h2,rfl⟩:=rec_eq hv (k':=5) (oid':=0) (id':=1) iS iS iS;simp only[VR]at h2;rw[tl h1,h2.1];rfl) rfl
 refine(jz (n:=n-1) (c:=252) Gj Zm ZQ (by decide) lz (fun r hr=>by simp only[arD]at hr;subst hr;exact⟨aeQ,by decide⟩) (by decide) (s:=⟨l,dw 20,4⟩) rfl (by show l.length<=_;omega) (by show(dw 20).length<=100000;decide) Zm (by rw[apa];rfl)).mono ?_;rintro e wk ⟨v,rfl,rfl,akM⟩;refine⟨_,rfl,?_⟩;obtain⟨φ,hs,oV⟩:=tj hs akM akF rfl akG Kb ⟨n1,n2,n3,n4⟩ (d:=40) (by decide) 252;have g0k:=g0j.trans (akM.gb g0j.size);refine ad.gz (l:=(aN (c6.drop 7)).toList.drop 6) (aq aB {}) rfl 100 akH hs bx.dU _ (Kb.cL oV) fun φ al wl hs oW hgl hkl n1 n2 n3 n4=> ?_
 show aC none n E0.P _ (c6.drop 8) al wl;have apf:al.defers=[]:=by rw[oW];show aj.defers=[];rw[yJ];exact ape
 refine ad.dc (aq aki {}) rfl 10 (cs:=c6.drop 8) ao7 hs bx.dU apf y0 (Ag.au (o:=yA ln ov rv) ⟨agm,agm,agm,agm⟩ n1 n2 n3 n4) fun φ am wm hs hdm hgm _ _ _ _ _=>⟨.inl rfl,hdm,?_⟩
 obtain⟨v,gE,ff⟩:=hs.leave aB (fn:=Tryz.f4) (l:=[.b true]) rfl;exact⟨v,gE,v,rfl,by simpa only[fG,VR]using ff,((g0k.trans hgl).trans hgm).grown⟩
end Go.Ev
