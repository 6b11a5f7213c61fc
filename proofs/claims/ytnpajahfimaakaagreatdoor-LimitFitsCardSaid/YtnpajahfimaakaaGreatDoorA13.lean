/- A part of what LimitFits rests on. -/
import Derived.Test.YtnpajahfimaakaaGreatDoorA12
import Derived.Test.YtnpajahfimaakaaGreatDoorA08
import Derived.Test.YtnpajahfimaakaaGreatDoorA01
set_option linter.all false
namespace Go.Ev
open List renaming getElem?_eq_getElem->aop,pairwise_iff_getElem->arC,getElem?_eq_some_iff->arD,take_length->arE,range->arF,mem_of_getElem?->arG,map_append->arH,mem_map->arI,getElem?_map->arK,ext_getElem?->arN,take_of_length_le->arR,getElem?_eq_none->arS,getElem?_mapIdx->arU,getElem_of_mem->arW,take_add_one->arX
open _root_.Array renaming toList_inj->AAA,length_toList->arV
open Option.some renaming inj->arJ
open List.cons renaming injEq->arL
open Ending renaming returned->arM
open IntKind renaming i64->arO
open UInt8 renaming ofNat->arP
open Nat renaming le_refl->arQ,eq_of_beq_eq_true->arT
open Go.Proofs
variable{φ:Ren}{next:Nat}{l:List (O×Value)}{rs:List (ByteArray×Nat)}
theorem HR.ad7{nb:Nat}{HB:List (Nat×aQ)}{w:World}(hr:HR φ (ak nb HB) w){b1 b0:Nat}(h1:mO HB b1=.rc [.s lU,.sl (some (b0,0)) 1 (.kn 1),.sl none 0 (.kn 0)] 96)(h0:mO HB b0=.rc [.s fN,.i .i64 3,.i .i64 0,.b false] 93){v:Value}(hv:VR φ (.sl (some (b1,0)) 1 (.kn 1)) v):dG w v:=by
 simp only[VR]at hv;obtain⟨r1,lH,_,rfl⟩:=hv;obtain⟨c1,g1,v1,z1,_⟩:=hr.RT lH h1;simp only[J,VR]at v1;obtain⟨_,_,e1,⟨rfl,_⟩,_,_,rfl,⟨r0,Fa,_,rfl⟩,_,_,rfl,⟨_,rfl⟩,rfl⟩:=v1;obtain⟨c0,g0,v0,z0,_⟩:=hr.RT Fa h0;simp only[J,VR]at v0;obtain⟨_,_,e0,⟨rfl,_⟩,_,_,rfl,rfl,_,_,rfl,rfl,_,_,rfl,rfl,rfl⟩:=v0;exact⟨r1,r0,c1,c0,rfl,g0,g1,e0,e1⟩
theorem AO{nb:Nat}{HB:List (Nat×aQ)}{w:World}(hr:HR φ (ak nb HB) w)(h7:mO HB 7=qM)(h5:mO HB 5=pf)(h4:mO HB 4=mw)(h2:mO HB 2=GO)(h1:mO HB 1=CE){rb:Nat}(hb:φ 7=some rb){mo mr:Array MapEntry×Nat}(hs:φ.s 3=next)(g1:φ.g 1=mo)(g2:φ.g 2=mr):
  ∃ln kv ro rr,Az w ln kv next mo mr rb ro rr/\dG w ln:=by
 obtain⟨c,e,v,_,z,_⟩:=hr.cx hb h7;have z:=z rfl;rw[arR (by rw[arV,z];exact arQ _)]at v;simp only[J]at v;obtain⟨ln,_,q,ym,kv,_,rfl,Du,ov,_,rfl,BB,rv,_,rfl,gh,nv,_,rfl,Vq,rfl⟩:=v;have z8:kv.oneCell'=true:=mG Du rfl;simp only[VR]at BB gh Vq;obtain⟨ro,ho,rfl⟩:=BB;obtain⟨rr,PQ,rfl⟩:=gh;rw[hs]at Vq;subst Vq;obtain⟨es4,c4,q4,m4,_⟩:=hr.qR ho h4;obtain⟨es5,c5,q5,m5,_⟩:=hr.qR PQ h5;simp only[MU]at m4 m5;rw[g1]at m4;rw[g2]at m5;have hc:c=#[ln,kv,.map (some ro),.map (some rr),.int .i64 next]:=AAA.1 q;subst hc;exact⟨ln,kv,ro,rr,⟨e,z8,by rw[q4,<-m4],by rw[q5,<-m5]⟩,hr.ad7 h2 h1 ym⟩
structure tf(bS:List (O×Value))(roots:List (ByteArray×Nat)):Prop where
 root:∀q∈roots,∃p∈bS,p.1.id=q.2
 ref:∀p∈bS,p.1.ref=0\/∃p'∈bS,p'.1.id=p.1.ref
theorem Mh{x:Nat}:Has l x↔∃p∈l,p.1.id=x:=by
 constructor
 ·rintro⟨j,hj,rfl⟩
  exact⟨l[j],List.getElem_mem hj,by simp[bZ,hj]⟩
 ·rintro⟨p,hp,rfl⟩
  obtain⟨j,hj,rfl⟩:=arW hp;exact⟨j,hj,by simp[bZ,hj]⟩
theorem yS{l':List (O×Value)}(h:(l.map (·.1)).Perm (l'.map (·.1))){x:O}(hx:∃p∈l',p.1=x):∃p∈l,p.1=x:=by
 obtain⟨p,hp,rfl⟩:=hx;have:p.1∈l.map (·.1):=h.symm.subset (arI.2 ⟨p,hp,rfl⟩);obtain⟨q,hq,e⟩:=arI.1 this;exact⟨q,hq,e⟩
theorem tf.perm{bS:List (O×Value)}{roots:List (ByteArray×Nat)}(h:tf bS roots)(hl:(l.map (·.1)).Perm (bS.map (·.1)))(hr:rs.Perm roots):Whole l rs:=by
 have key:∀x,(∃p∈bS,p.1.id=x)->Has l x:=fun x ⟨p,hp,e⟩=>by
  obtain⟨q,hq,e2⟩:=yS hl ⟨p,hp,rfl⟩;exact Mh.2 ⟨q,hq,by rw[e2,e]⟩
 refine⟨fun q hq=>key _ (h.root q (hr.mem_iff.1 hq)),fun p hp=> ?_⟩;obtain⟨q,hq,e⟩:=yS hl.symm ⟨p,hp,rfl⟩;rcases h.ref q hq with h0|h0
 ·exact .inl (by rw[<-e,h0])
 ·exact .inr (by rw[<-e];exact key _ h0)
theorem ajY{a b:ByteArray}(h:a.toList=b.toList):a=b:=by
 rw[Lib.toList_data,Lib.toList_data]at h;exact ByteArray.ext (AAA.1 h)
structure JZ(w:World)(s:od)(ln ov rv:Value)(l:List (O×Value))(rs:List (ByteArray×Nat)):Prop where
 gw:GW w ln ov rv s.next l rs
 whole:Whole l rs
 bS:(l.map (·.1)).Perm (s.bS.map (·.1))
 roots:rs.Perm s.roots
theorem ad8{w0 w:World}{s:od}(jQ:nj w0 s)(ym:s.bS.length<=100000)(jD:s.roots.length<=100000)(hW:tf s.bS s.roots){ln ov rv:Value}{l:List (O×Value)}{rs:List (ByteArray×Nat)}(h1:dG w ln)(h2:cr w 51 4 ov (aZ l))(h3:cr w 101 2 rv (cg rs))(h4:∀p∈l,cB w p)
  (h5:(l.map (·.1)).Perm (s.bS.map (·.1)))(h6:l.Pairwise (fun a b=>¬b.1.id<a.1.id))(h7:rs.Perm s.roots)(h8:rs.Pairwise (fun a b=>Op.bytesLess b.1.toList a.1.toList=false)):JZ w s ln ov rv l rs:=by
 have qX:∀p∈l,∃q∈s.bS,q.1=p.1:=fun p hp=>yS h5.symm ⟨p,hp,rfl⟩
 have Gz:(l.map (·.1.id)).Nodup:=by
  have:=(h5.map O.id).nodup_iff.2 (by rw[List.map_map];exact jQ.nd);rwa[List.map_map]at this
 have aoO:(rs.map (·.1)).Nodup:=(h7.map (·.1)).nodup_iff.2 jQ.Pa;refine⟨⟨h1,h2,h3,h4,fun i p hp=>⟨?_,?_⟩,jQ.nx,?_,?_,fun q hq=>jQ.rn q (h7.mem_iff.1 hq),fun i p q hp hq=> ?_,fun p hp=> ?_⟩,hW.perm h5 h7,h5,h7⟩
 ·cases i with
  |zero=>
   obtain⟨q,hq,e⟩:=qX p (arG hp);have:=jQ.ids q hq;rw[e]at this;simp only[bZ];omega
  |succ j=>
   have hj:j+1<l.length:=(arD.1 hp).1;have hjp:l[j]? =some l[j]:=aop (by omega);have e1:l[j+1]=p:=by rw[aop hj]at hp;exact arJ hp
   have:=(arC.1 h6) j (j+1) (by omega) hj (by omega);rw[e1]at this;have bU:l[j].1.id≠p.1.id:=fun e=>by have:=nq Gz hjp hp e;omega
   simp only[bZ,hjp,Option.map_some,Option.getD_some];omega
 ·obtain⟨q,hq,e⟩:=qX p (arG hp)
  have:=jQ.lt q hq;rwa[e]at this
 ·have:=h5.length_eq;simp at this;omega
 ·have:=h7.length_eq;omega
 ·have hj:i+1<rs.length:=(arD.1 hq).1
  have e0:rs[i]=p:=by rw[aop (by omega)]at hp;exact arJ hp
  have e1:rs[i+1]=q:=by rw[aop hj]at hq;exact arJ hq
  have:=(arC.1 h8) i (i+1) (by omega) hj (by omega);rw[e0,e1]at this;rw[this,Bool.false_or];cases hb:(q.1.toList==p.1.toList)with
  |false=>rfl
  |true=>
   have:=ajY (eq_of_beq hb);have:=nq aoO hq hp this;omega
 ·obtain⟨q,hq,e⟩:=qX p hp
  have:=jQ.refs q hq;rwa[e]at this
def tY(n next:Nat)(ln ov rv:Value)(row:List Value)(pv:Value):Sym:=dg [0,n,0,next] [ln,ov,rv,.bool false,.bool false,pv] [[],[],[],row] []
theorem AP{n:Nat}{w:World}{s:od}{rl:List (R×Value)}(jQ:nj w s)(ym:s.bS.length<=100000)(jD:s.roots.length<=100000)(hW:tf s.bS s.roots)(bU:s.bS≠[])(wS:s.roots≠[])
  {x z:V}{nb:Nat}{HB HBm:List (Nat×aQ)}{FZ:aU}(h9:bH (ar E0 {}) 100 (aN (jC.drop 8)) ((aN (jC.drop 8)).toList.take 1) (U 77 (sY x)) (ak nb HB) s8 77 (sZ x) nb HB=true)(hS9:aW s8 77 (sZ x) nb HB=true)
  (hM:bH (ar E0 {}) 100 (aN (jC.drop 8)) (((aN (jC.drop 8)).toList.drop 2).take 100) (U 77 (JX x)) (ak nb HB) tc 77 (wZ x) 3 HBm=true)(hZ:av (ar E0 FZ) 100 ((jC.drop 9).take 10) (U 77 (wZ x)) (ak 3 HBm) .r tc 77 (JY z) 1 [(0,lq)]=true)
  (hT9:wT.all (fun T=>rG T (lI HB))=true)(hTm:wT.all (fun T=>rG T (lI HBm))=true)(hmp:NM (lI HB)=true)(aoP:rG 180 (lI HB)=true)
  (hFZ:∀φ:Ren,∀(h1:cI (fun e:FuncId×List V×V=>∀af,Le φ af->∀args',J af e.2.1 args'->Quiet Tryz.prog φ.y.k e.1 args' fun u=>VR af e.2.2 u) [(24,fD,.i .i64 0)]),φ.s 1=rl.length->φ.w 3=bL rl->aA Tryz.prog FZ φ)
  (hz:∀φ:Ren,φ.s 1=rl.length->∀v,VR φ z v->v=.int .i64 rl.length)
  {φ:Ren}{a:Act}{w1:World}{ln kv:Value}{rb ro rr:Nat}{mr:Array MapEntry×Nat}(hs:ad φ w.heap.size (U 77 (sY x)) (ak nb HB) a w1)(hd:a.defers=[])(hg:GB w.heap.size w w1)(H:Az w1 ln kv s.next (kh s.bS) mr rb ro rr)(pa:dG w1 ln)(M:RM mr s.roots)
  (hn:bD φ (tY rl.length 0 (.bool false) (.bool false) (.bool false) (bL rl) (.pointer (some ⟨rb,0,none⟩)))):
  aC none n E0.P (fun e a' w'=>(e=.ret\/e=.normal)/\a'.defers=[]/\∃v,(results Tryz.f25 a'.tmps).run Tryz.prog w'=.ok v w'/\∃u,arM v=.returned u/\(∃iP uB qV l' na,u=.tuple #[wV iP uB qV s.next,.int .i64 rl.length,.int .i64 0]/\JZ w' s iP uB qV l' na)/\Grown w w') (jC.drop 8) a w1:=by
 obtain⟨id8,ZO⟩:=ad2;rw[ZO];refine b8 ?_;have W4:Ag s8 (tY rl.length 0 (.bool false) (.bool false) (.bool false) (bL rl) (.pointer (some ⟨rb,0,none⟩))) (tY rl.length 0 (.bool false) (.bool false) (.bool false) (bL rl) (.pointer (some ⟨rb,0,none⟩))):=⟨⟨rfl,agm⟩,⟨⟨rfl,rfl⟩,agm⟩,⟨rfl,agm⟩,agm⟩;refine ad.gz (aq aB {}) rfl 1 h9 hs bx.dU _ (W4.cL hn) fun φ a2 w2 hs mF iK Ic n1 n2 n3 n4=> ?_
 have adz:=Ic.aJ hT9;have H2:Az w2 ln kv s.next (kh s.bS) mr rb ro rr:=⟨Ic.c _ _ _ aoP H.Aw,H.kv,Ic.m hmp _ _ _ H.bS,Ic.m hmp _ _ _ H.roots⟩;have D7:=hg.trans iK;have L7:dG w2 ln:=pa.aJ adz (by decide) (by decide);refine hs.eV (l:=(aN (jC.drop 8)).toList.drop 1) (o:=((aN (jC.drop 8)).toList.drop 1).headD default) (rest:=(aN (jC.drop 8)).toList.drop 2) rfl rfl rfl rfl rfl Tryz.func48 rfl rfl (Vs:=[.q 5]) rfl ?_;intro args' ha;have:args'=[.pointer (some ⟨rb,0,none⟩)]:=by
  simp only[J,VR]at ha;obtain⟨_,_,rfl,⟨rfl,_⟩,rfl⟩:=ha;rw[n2];rfl
 subst this;refine(Sh (n:=n-1) H2 L7 bU wS M (fun p hp=>D7.isVal rfl (jQ.aP p hp)) jQ.ids jQ.refs ym jD).mono ?_;rintro e w3 ⟨v,rfl,⟨iP,uB,qV,l',na,rfl,o1,o2,o3,o4,o5,o6,o7,o8⟩,gG⟩;refine⟨_,rfl,?_⟩;have uN:JZ w3 s iP uB qV l' na:=ad8 jQ ym jD hW o1 o2 o3 o4 o5 o6 o7 o8;have q0:=o1.one;have q1:=o2.one;have q2:=o3.one;have yn:l'≠[]:=by
  rintro rfl;have:=o5.length_eq;simp at this;exact bU (List.eq_nil_of_length_eq_zero this.symm)
 obtain⟨φ,hs,n1,n2,n3,n4⟩:=hs.grow gG hS9 (y:=tY rl.length s.next iP uB qV (bL rl) (.pointer (some ⟨rb,0,none⟩))) ⟨⟨(agB n1 1).symm,agm⟩,⟨⟨(agB n2 5).symm,rfl⟩,agm⟩,⟨(agB n3 3).symm,agm⟩,agm⟩;have hs:=hs.put (d:=65) (by decide) (x:=.a [.q 0,.q 1,.q 2,.y .i64 3]) (v:=wV iP uB qV s.next) (by
  have:=kz (φ:=φ) (lines:=iP) (ov:=uB) (rv:=qV) (next:=s.next) (agB n2 0) (agB n2 1) (agB n2 2) (agB n1 3) q0 q1 q2;simp only[fD,J]at this;obtain⟨_,_,e,h,rfl⟩:=this;simp only[arL,and_true]at e;rw[e];exact h)
 have hyM:Ag tc (tY rl.length s.next iP uB qV (bL rl) (.pointer (some ⟨rb,0,none⟩))) (tY rl.length s.next iP uB qV (bL rl) (.pointer (some ⟨rb,0,none⟩))):=⟨⟨rfl,rfl,agm⟩,⟨⟨rfl,q0⟩,⟨rfl,q1⟩,⟨rfl,q2⟩,agm⟩,⟨rfl,agm⟩,agm⟩;refine ad.gz (aq aB {}) rfl 100 hM hs bx.dU _ (hyM.cL ⟨n1,n2,n3,n4⟩) fun φ a4 w4 hs sS pV D8 n1 n2 n3 n4=> ?_
 show aC none n E0.P _ (jC.drop 9) a4 w4;have ajZ:GW w4 iP uB qV s.next l' na:=uN.gw.aJ (D8.aJ hT9);have JC:a4.defers=[]:=by rw[sS];show a2.defers=[];rw[mF,hd]
 refine ad.dc (aq aB FZ) rfl 10 (cs:=jC.drop 9) hZ hs (aA.dU (hFZ φ ⟨?_,agm⟩ (agB n1 1) (agB n3 3))) JC _ (hyM.cL ⟨n1,n2,n3,n4⟩) fun af a5 w5 wE vL vM GA m1 m2 m3 m4=> ?_
 ·intro af hle args' ha
  have:=fW (φ:=af) (lines:=iP) (ov:=uB) (rv:=qV) (next:=s.next) (by rw[hle.qy];exact agB n2 0) (by rw[hle.qy];exact agB n2 1) (by rw[hle.qy];exact agB n2 2) (by rw[hle.sy];exact agB n1 3) ha;subst this;refine⟨⟨_,_,Tryz.func24,rfl,rfl⟩,fun n w' hk=> ?_⟩;have aj0:∀(r:Nat) (c:Array Value) (T:TypeId),T∈wT->w4.heap[r]? =some (.cells c T (0,0))->w'.heap[r]? =some (.cells c T (0,0)):=fun r c T hT ho=>hk r _ (hs.kT (List.all_eq_true.1 hTm T hT) ho)
  refine(As (n:=n) (ajZ.aJ aj0) uN.whole yn).mono ?_;rintro e w'' ⟨v,h1,rfl,h3⟩;exact⟨_,h1,by simp only[VR],h3⟩
 refine⟨.inl rfl,vL,?_⟩;obtain⟨v,gE,ff⟩:=wE.leave aB (fn:=Tryz.f25) (l:=[.a [.q 0,.q 1,.q 2,.y .i64 3],z,.i .i64 0]) rfl;refine⟨v,gE,v,rfl,⟨iP,uB,qV,l',na,?_,⟨ajZ.aJ (GA.aJ hTm),uN.whole,uN.bS,uN.roots⟩⟩,(((D7.trans (gG.gb D7.size)).trans pV).trans vM).grown⟩;simp only[fG,VR,J]at ff;obtain⟨vs,rfl,uv,_,e1,huv,zv,_,rfl,hzv,_,_,rfl,rfl,rfl⟩:=ff;have hu:uv=wV iP uB qV s.next:=by
  have ha:J af fD [uv]:=J.cons (by simp only[VR,J];exact huv) J.nil;have:=fW (φ:=af) (lines:=iP) (ov:=uB) (rv:=qV) (next:=s.next) (agB m2 0) (agB m2 1) (agB m2 2) (agB m1 3) ha;simpa using this
 rw[hu,hz af (agB m1 1) zv hzv]at e1
 congr 1
 exact AAA.1 e1
variable{lines ov rv:Value}
def gj(w:World)(v:Value)(rl:List (R×Value)):Prop:=(rl=[]/\v=uG)\/cr w 60 18 v (bL rl)
theorem gj.one{w:World}{v:Value}{rl:List (R×Value)}(h:gj w v rl):v.oneCell'=true:=by
 rcases h with⟨_,rfl⟩|h
 ·rfl
 ·exact h.one
theorem ad9{a b:List UInt8}(h:(Op.bytesLess b a||b==a)=false):a<b:=by
 simp only[Bool.or_eq_false_iff]at h;have h1:¬b<a:=by have:=h.1;rw[bytesLess_eq]at this;simpa using this
 have h2:b≠a:=by have:=h.2;simpa using this
 refine Classical.byContradiction fun h3=>h2 ?_
 exact List.le_antisymm (List.not_lt.1 h3) (List.not_lt.1 h1)
theorem Xk(h:∀i p q,rs[i]? =some p->rs[i+1]? =some q->(Op.bytesLess q.1.toList p.1.toList||q.1.toList==p.1.toList)=false):∀(j i:Nat) (p q:ByteArray×Nat),i<j->rs[i]? =some p->rs[j]? =some q->p.1.toList<q.1.toList:=by
 intro j
 induction j with
 |zero=>intro i p q h;omega
 |succ j ih=>
  intro i p q mf hp hq;have hj:j+1<rs.length:=(arD.1 hq).1;have hjp:rs[j]? =some rs[j]:=aop (by omega);have h1:=ad9 (h j _ _ hjp hq);rcases Nat.lt_or_ge i j with bf|Xl
  ·exact List.lt_trans (ih i p _ bf hp hjp) h1
  ·have:i=j:=by omega
   subst this;rw[hjp]at hp;cases hp;exact h1
theorem GW.Pa{w:World}(h:GW w lines ov rv next l rs):(rs.map (·.1)).Nodup:=by
 rw[List.Nodup,arC];intro i j hi hj mf e;have oK:j<rs.length:=by simpa using hj
 have h1:rs[i]? =some rs[i]:=aop (by omega);have h2:rs[j]? =some rs[j]:=aop oK;have:=Xk h.ord j i _ _ mf h1 h2;simp only[List.getElem_map]at e;rw[e]at this;exact List.lt_irrefl _ this
theorem GW.nd{w:World}(h:GW w lines ov rv next l rs):(l.map (·.1.id)).Nodup:=by
 rw[List.Nodup,arC];intro i j hi hj mf e;have oK:j<l.length:=by simpa using hj
 have h1:l[i]? =some l[i]:=aop (by omega);have h2:l[j]? =some l[j]:=aop oK;simp only[List.getElem_map]at e;have:=h.asc.inj (i:=i+1) (j:=j+1) (by omega) (by omega) (by simp[bZ,h1,h2,e]);omega
theorem GW.bst{w:World}(h:GW w lines ov rv next l rs)(hW:Whole l rs):nj w ⟨l,rs,next⟩:=by
 have lG:∀p∈l,1<=p.1.id/\p.1.id<=100000:=fun p hp=>h.lG _ (Mh.2 ⟨p,hp,rfl⟩)
 refine⟨h.aP,lG,h.ref,h.nd,h.Pa,fun q hq=>h.lG _ (hW.root q hq),h.rn,h.nx,fun p hp=> ?_⟩;obtain⟨i,hi,rfl⟩:=arW hp;exact(h.ids i _ (aop hi)).2
theorem aea(h:(rs.map (·.1)).Nodup):RM (Ea rs rs.length) rs:=by
 rw[RS h _ (arQ _),arE];refine⟨?_,fun e he=> ?_,?_⟩
 ·apply arN
  intro i;simp only[arK,arU];cases rs[i]? <;>rfl
 ·simp only[List.mem_mapIdx]at he
  obtain⟨i,hi,rfl⟩:=he;exact hi
 ·have:((rs.mapIdx JH).map (·.born))=arF rs.length:=by
   apply arN;intro i;simp only[arK,arU];rcases Nat.lt_or_ge i rs.length with h|h
   ·rw[aop h,List.getElem?_range h];rfl
   ·rw[arS h,arS (by simpa using h)];rfl
  show((rs.mapIdx JH).map (·.born)).Nodup;rw[this];exact List.nodup_range
theorem SG{n:Nat}{w:World}{lines ov rv:Value}{next:Nat}{l:List (O×Value)}{rs:List (ByteArray×Nat)}(G:GW w lines ov rv next l rs)(hW:Whole l rs)(bU:l≠[]){recv:Value}{rl:List (R×Value)}(xX:gj w recv rl)(jD:∀r∈rl,Sw w r)(hn:rl.length<=100000)
  {s:od}(hs:s=(⟨l,rs,next⟩:od).run rl)(hW2:tf s.bS s.roots)(uO:s.bS.length<=100000)(yi:s.roots.length<=100000)(SH:s.bS≠[])(wS:s.roots≠[]):
  CallsIn (W none) n Tryz.prog 25 #[wV lines ov rv next,recv] w fun e w'=>∃v,e=.returned v/\(∃iP uB qV l' na,v=.tuple #[wV iP uB qV s.next,.int .i64 rl.length,.int .i64 0]/\JZ w' s iP uB qV l' na)/\Grown w w':=by
 have o0:=G.BA.one;have o1:=G.bS.one;have o2:=G.roots.one;have o4:=xX.one;have hB0:=G.bst hW;have hBs:nj w s:=by rw[hs];exact hB0.run jD
 have M0:=aea G.Pa;have hom:om l l.length=kh l:=by rw[Zx G.asc _ (arQ _),arE];rfl
 let y0:Sym:=dg [0,0,0,next] [lines,ov,rv,.bool false,recv] [] [];have cG:J (φ0 y0 w) GN [wV lines ov rv next,recv]:=by
  have:=kz (φ:=φ0 y0 w) (lines:=lines) (ov:=ov) (rv:=rv) (next:=next) rfl rfl rfl rfl o0 o1 o2;simp only[fD,J]at this;obtain⟨_,_,e,h,rfl⟩:=this;simp only[arL,and_true]at e;subst e;exact J.cons h (J.cons (by simp only[VR];exact⟨rfl,o4⟩) J.nil)
 have bB:=ad.enter (nt:=77) (bc y0 w) rfl rfl cG (by decide);refine dz (fn:=Tryz.f25) (c:=(Tryz.f25.body).getD .skip) (args:=[wV lines ov rv next,recv]) Tryz.func25 rfl (bp _ ?_);show aC none n E0.P _ jC _ _;have O9:Ag Si y0 y0:=⟨⟨rfl,agm⟩,⟨⟨rfl,o0⟩,⟨rfl,o1⟩,⟨rfl,o2⟩,⟨rfl,o4⟩,agm⟩,agm,agm⟩;refine ad.dc (aq aB Mb) rfl 4 ajP bB (aA.dU ?_) rfl y0 (O9.au rfl rfl rfl rfl) fun φ a w1 b9 hd hg _ n1 n2 n3 n4=> ?_
 ·refine⟨agm,agm,agm,agm,agm,agm,agm,agm,⟨?_,agm⟩⟩
  intro af hle args' ha;have:=fW (φ:=af) (lines:=lines) (ov:=ov) (rv:=rv) (next:=next) (by rw[hle.qy];rfl) (by rw[hle.qy];rfl) (by rw[hle.qy];rfl) (by rw[hle.sy];rfl) ha;subst this;refine⟨⟨_,_,Tryz.func24,rfl,rfl⟩,fun n w' hk=> ?_⟩;refine(As (n:=n) (G.aJ fun r c T _ ho=>hk r _ ho) hW bU).mono ?_;rintro e w'' ⟨v,h1,rfl,h3⟩;exact⟨_,h1,by simp only[VR],h3⟩
 show aC none n E0.P _ (jC.drop 4) a w1;obtain⟨id4,pJ⟩:=adC;rw[pJ];refine b8 ?_;refine ad.gz (aq aB {}) rfl 1 ajQ b9 bx.dU _ (O9.cL ⟨n1,n2,n3,n4⟩) fun φ a2 w2 dx mF iK _ n1 n2 n3 n4=> ?_
 have D7:=hg.trans iK;refine dx.eV (l:=(aN (jC.drop 4)).toList.drop 1) (o:=((aN (jC.drop 4)).toList.drop 1).headD default) (rest:=(aN (jC.drop 4)).toList.drop 2) rfl rfl rfl rfl rfl Tryz.func42 rfl rfl (Vs:=fD) rfl ?_;intro args' ha;have:=fW (φ:=φ) (lines:=lines) (ov:=ov) (rv:=rv) (next:=next) (agB n2 0) (agB n2 1) (agB n2 2) (agB n1 3) ha;subst this;have G2:=G.kept fun r o ho=>D7.at_ rfl ho
 refine(ade (n:=n-1) G2 hB0.Xe).mono ?_;rintro e w3 ⟨v,rfl,⟨ln,rb,rk,qV,ro,rr,rfl,pa,hb⟩,gG⟩;rw[hom]at hb;refine⟨_,rfl,?_⟩;obtain⟨φ,ez,n1,n2,n3,n4⟩:=dx.conv ajR (dg [0,0,0,next] [.bool false,.bool false,.bool false,.bool false,recv] [] [(#[],0),kh l,Ea rs rs.length]) (by
  refine bC ⟨(agB n1 3).symm,agm⟩ ⟨?_,agm⟩ trivial trivial;simp only[VR];exact⟨(agB n2 4).symm,o4⟩)
 obtain⟨φ,ez,m1,m2,m3,m4,aoQ⟩:=ez.Aw (fun _=>rfl) gG hb pa (agB n1 3) (agB n4 1) (agB n4 2) (fun e he=>by rw[(Ay he).1];exact rfl) M0.key;have ez:=ez.put (d:=24) (by decide) (x:=.p (some (7,0))) (v:=.pointer (some ⟨rb,0,none⟩)) (by simp only[VR];exact⟨rb,aoQ,rfl⟩);have NY:=D7.trans (gG.gb D7.size);let y1:Sym:=dg [0,0,0,next] [.bool false,.bool false,.bool false,.bool false,recv] [] [(#[],0),kh l,Ea rs rs.length];have lR:Ag Ek y1 y1:=⟨⟨rfl,agm⟩,⟨⟨rfl,o4⟩,agm⟩,agm,⟨rfl,rfl,agm⟩⟩;refine ad.gz (aq aB {}) rfl 100 ajS ez bx.dU _ (lR.cL ⟨m1.trans n1,m2.trans n2,m3.trans n3,m4.trans n4⟩) fun φ a4 w4 ll sS pV _ n1 n2 n3 n4=> ?_
 show aC none n E0.P _ (jC.drop 5) a4 w4;have JC:a4.defers=[]:=by rw[sS];show a2.defers=[];rw[mF,hd]
 refine ad.dc (aq aB {}) rfl 1 ajT ll bx.dU JC _ (lR.cL ⟨n1,n2,n3,n4⟩) fun φ a5 w5 wE vL vM _ n1 n2 n3 n4=> ?_
 show aC none n E0.P _ (jC.drop 6) a5 w5;have Vt:=(NY.trans pV).trans vM;rcases xX with⟨rfl,rfl⟩|bQ
 ·
  have aeb:=wE.subst 4 nl (by
   have:φ.q 4=uG:=agB n2 4;rw[this];exact vN)
  let y2:Sym:=dg [0,0,0,next] [] [] [(#[],0),kh l,Ea rs rs.length];refine ad.dc (aq aB {}) rfl 2 (cs:=jC.drop 6) adY aeb bx.dU vL y2 (Ag.au (o:=y1) ⟨⟨rfl,agm⟩,agm,agm,⟨rfl,rfl,agm⟩⟩ n1 n2 n3 n4) fun φ a6 w6 qT Ao Ap _ n1 n2 n3 n4=> ?_
  show aC none n E0.P _ (jC.drop 8) a6 w6;obtain⟨r7,h7⟩:=qT.ptr 8 rfl;obtain⟨ln,kv,ro,rr,H6,Sa⟩:=AO qT.hr rfl rfl rfl rfl rfl h7 (agB n1 3) (agB n4 1) (agB n4 2);obtain⟨φ,qT,m1,m2,m3,m4⟩:=qT.conv ad1 (tY 0 0 (.bool false) (.bool false) (.bool false) [] (.pointer (some ⟨r7,0,none⟩))) (by
   refine bC trivial ⟨?_,agm⟩ trivial trivial;simp only[VR];exact⟨r7,h7,rfl⟩)
  have hse:s=⟨l,rs,next⟩:=hs;subst hse;exact AP (rl:=[]) hBs uO yi hW2 SH wS ad3 Xh ad4 ad6 rfl rfl rfl rfl (fun φ hq _ _=>⟨agm,agm,agm,agm,agm,agm,agm,agm,hq⟩) (fun φ _ v hv=>by simp only[VR]at hv;exact hv) qT Ao (Vt.trans Ap) H6 Sa M0 ⟨m1,m2,m3,m4⟩
 ·
  obtain⟨φ,aeb,hy5⟩:=wE.gY (tb:=Ek) (by decide+kernel) (y:=dg [0,rl.length,0,next] [.bool false,.bool false,.bool false,.bool false,recv] [[],[],[],bL rl] [(#[],0),kh l,Ea rs rs.length]) (lR.pY n1 n2 n3 n4|>fun h=>⟨⟨h.s.1,agm⟩,⟨h.q.1,agm⟩,agm,⟨h.g.1,h.g.2.1,agm⟩⟩);obtain⟨n1,n2,n3,n4⟩:=hy5;obtain⟨NT,qT,ZP⟩:=aeb.jb (bQ.kept fun r o h=>Vt.at_ rfl h) rfl 4 3 (agB n2 4) (agB n3 3);refine ad.dc (aq aB Sl) rfl 1 (cs:=jC.drop 6) ajU qT (aA.dU ?_) vL (aY 0 rl.length next (bL rl) (kh l) (Ea rs rs.length)) ?_ fun φ a7 w7 hs7 Et BE _ k1 k2 k3 k4=> ?_
  ·refine⟨agm,agm,agm,⟨⟨rl.length,by decide,?_,?_⟩,agm⟩,agm,agm,agm,agm,agm⟩
   ·show rl.length*18=(NT.y.w 3).length
    rw[ZP,show φ.y.w 3=bL rl from agB n3 3,fe]
   ·show NT.y.s 1=_
    rw[ZP];exact agB n1 1
  ·refine Ag.au (o:=dg [0,rl.length,0,next] [.bool false,.bool false,.bool false,.bool false,recv] [[],[],[],bL rl] [(#[],0),kh l,Ea rs rs.length]) ⟨⟨rfl,rfl,rfl,agm⟩,agm,⟨rfl,agm⟩,⟨rfl,rfl,agm⟩⟩ ?_ ?_ ?_ ?_<;>rw[ZP]
   ·exact n1
   ·exact n2
   ·exact n3
   ·exact n4
  show aC none n E0.P _ (jC.drop 7) a7 w7;have g07:=Vt.trans BE;refine dd (id:=0) (b:=(match jC.drop 7 with|.block _ (.loop b)::_=>b|_=>.skip)) (rest:=jC.drop 8) rl.length (Xf w rl ⟨l,rs,next⟩) (fun i a w' hi hinv=>SA hB0 jD hn hi hinv) ?_ ⟨φ,_,.inl hs7,Et,g07,⟨k1,k2,k3,k4⟩,M0⟩
  rintro a8 w8 ⟨φ8,mr,aoR,Pd,g08,⟨n1,n2,n3,n4⟩,M8⟩;rw[arE,<-hs]at n1 n4 M8;show aC none n E0.P _ eB a8 w8;have hyX:Ag sW (aY rl.length rl.length s.next (bL rl) (kh s.bS) mr) (aY rl.length rl.length s.next (bL rl) (kh s.bS) mr):=⟨⟨rfl,rfl,rfl,agm⟩,agm,⟨rfl,agm⟩,⟨rfl,rfl,agm⟩⟩;have hFX:aA Tryz.prog AL φ8:=by
   have t0:φ8.y.s 0=rl.length:=agB n1 0;have t1:φ8.y.s 1=rl.length:=agB n1 1;exact⟨agm,⟨.lss (k:=.i64) (x:=rl.length) (y:=rl.length) (by simp only[aR,t0]) (by simp only[aR,t1]) (by simp),agm⟩,agm,agm,agm,agm,agm,agm,agm⟩
  rcases aoR with SI|SI
  ·refine ad.dc (aq rP AL) rfl 100 (cs:=eB) adT SI (aA.dU hFX) Pd _ (hyX.cL ⟨n1,n2,n3,n4⟩) fun φ9 a9 w9 Oe hd9 hg9 _ n1 n2 n3 n4=>⟨rfl,?_⟩
   obtain⟨r7,h7⟩:=Oe.ptr 8 rfl;obtain⟨ln,kv,ro,rr,H9,SJ⟩:=AO Oe.hr rfl rfl rfl rfl rfl h7 (agB n1 3) (agB n4 1) (agB n4 2);obtain⟨φ,Oe,m1,m2,m3,m4⟩:=Oe.conv adZ (tY rl.length 0 (.bool false) (.bool false) (.bool false) (bL rl) (.pointer (some ⟨r7,0,none⟩))) (by
    refine bC ⟨(agB n1 1).symm,agm⟩ ⟨?_,agm⟩ ⟨(agB n3 3).symm,agm⟩ trivial;simp only[VR];exact⟨r7,h7,rfl⟩)
   exact AP (rl:=rl) hBs uO yi hW2 SH wS SD Mg SE SF rfl rfl rfl rfl (fun φ hq h1 h2=>⟨agm,agm,agm,⟨⟨rl.length,by decide,by show rl.length*18=_;rw[h2,fe],h1⟩,agm⟩,agm,agm,agm,agm,hq⟩) (fun φ h1 v hv=>by simp only[VR]at hv;rw[hv,h1]) Oe hd9 (g08.trans hg9) H9 SJ M8 ⟨m1,m2,m3,m4⟩
  ·refine ad.dc (aq rP AL) rfl 100 (cs:=eB) adU SI (aA.dU hFX) Pd _ (hyX.cL ⟨n1,n2,n3,n4⟩) fun φ9 a9 w9 Oe hd9 hg9 _ n1 n2 n3 n4=>⟨rfl,?_⟩
   obtain⟨r7,h7⟩:=Oe.ptr 8 rfl;obtain⟨ln,kv,ro,rr,H9,SJ⟩:=AO Oe.hr rfl rfl rfl rfl rfl h7 (agB n1 3) (agB n4 1) (agB n4 2);obtain⟨φ,Oe,m1,m2,m3,m4⟩:=Oe.conv ad0 (tY rl.length 0 (.bool false) (.bool false) (.bool false) (bL rl) (.pointer (some ⟨r7,0,none⟩))) (by
    refine bC ⟨(agB n1 1).symm,agm⟩ ⟨?_,agm⟩ ⟨(agB n3 3).symm,agm⟩ trivial;simp only[VR];exact⟨r7,h7,rfl⟩)
   exact AP (rl:=rl) hBs uO yi hW2 SH wS SD Mg SE SF rfl rfl rfl rfl (fun φ hq h1 h2=>⟨agm,agm,agm,⟨⟨rl.length,by decide,by show rl.length*18=_;rw[h2,fe],h1⟩,agm⟩,agm,agm,agm,agm,hq⟩) (fun φ h1 v hv=>by simp only[VR]at hv;rw[hv,h1]) Oe hd9 (g08.trans hg9) H9 SJ M8 ⟨m1,m2,m3,m4⟩
noncomputable def ar0:List Code:=ct ((Tryz.f28.body).getD .skip)
def rQ:aQ:=.gS 1 .string []
def qg:List (Nat×V):=[(1,.q 1),(5,.m (some 0))]
theorem aj1:av (ar E0 {}) 100 (ar0.take 4) ⟨44,load [nl,.q 1] 0 .leaf⟩ (ak 0 []) .n {q:=[(1,.q 1)]} 44 qg 1 [(0,.mp [] 0)]=true:=by decide+kernel
def aec:bP:={q:=[(1,.q 1)],g:=[(1,.fold 0)]}
theorem aed:(bG aec (U 44 qg) (ak 1 [(0,.mp [] 0)]) 44 qg 1 [(0,rQ)]).isSome=true:=by decide+kernel
def SK:aU:={bd:=[(1,0,100000)],rz:=[(0,2)],rl:=[(0,0,1)]}
def mA:List (Nat×V):=[(1,.q 1),(5,.m (some 0)),(13,.sr 1 0 0 2),(14,.y .i64 1),(15,.y .i64 0)]
def lx(b:aQ):List (Nat×aQ):=[(0,b),(1,.rw 0 112)]
theorem aj2:av (ar E0 SK) 100 (ar0.take 3) ⟨44,load [.sr 0 0 0 2,.q 1] 0 .leaf⟩ (ak 1 [(0,.rw 0 112)]) .n {s:=[(0,.i 0),(1,.y 1)],q:=[(1,.q 1)],w:=[(0,.same 0)]} 44 mA 2 (lx (.mp [] 0))=true:=by decide+kernel
def Eu(g:List (Nat×WV)):bP:={s:=[(0,.y 0),(1,.y 1)],q:=[(1,.q 1)],w:=[(0,.same 0)],g:=g}
theorem aee:(bG (Eu [(1,.fold 0)]) (U 44 mA) (ak 2 (lx (.mp [] 0))) 44 mA 2 (lx rQ)).isSome=true:=by decide+kernel
theorem aef:aW (Eu [(1,.same 1)]) 44 mA 2 (lx rQ)=true:=by decide+kernel
noncomputable def xd:List Code:=roundOf (ar0.drop 3)
def aeg:aU:={bin:=[(.lss,.y .i64 0,.y .i64 1,.b true),(.add,.y .i64 0,.i .i64 1,.y .i64 9)],rz:=[(0,2)],re:=[(0,0,[.q 8,.y .i64 6])],qs:=[8]}
def nmS:aQ:=.gS 1 .string [(.q 8,some (.b true))]
def nmD:aQ:=.gS 1 .string [(.q 8,none)]
def aeh:bP:={s:=[(0,.y 9),(1,.y 1)],q:=[(1,.q 1),(8,.q 8)],w:=[(0,.same 0)],g:=[(1,.same 1)]}
theorem aj3:av (ar E0 aeg) 100 (xd.take 100) (U 44 mA) (ak 2 (lx rQ)) .n aeh 44 mA 2 (lx nmS)=true:=by decide+kernel
theorem aei:(bG (Eu [(1,.fold 0)]) (U 44 mA) (ak 2 (lx nmS)) 44 mA 2 (lx rQ)).isSome=true:=by decide+kernel
def Ew:aU:={bin:=[(.lss,.y .i64 0,.y .i64 1,.b false)]}
theorem aj4:av (ar E0 Ew) 100 (xd.take 100) (U 44 mA) (ak 2 (lx rQ)) (.e 0) {q:=[(1,.q 1)],g:=[(1,.same 1)]} 44 qg 1 [(0,rQ)]=true:=by decide+kernel
def J0:List (Nat×V):=[(4,.y .i64 7)]
def Ex:aU:={ml:=[(1,.y .i64 7)]}
theorem aj5:av (ar E0 Ex) 100 ((ar0.drop 4).take 10) (U 44 (jG 1 nl qg)) (ak 1 (iO 1 nl [(0,rQ)])) .r {s:=[(7,.y 7)]} 44 J0 0 []=true:=by decide+kernel
def eC:List (Nat×V):=[(5,.m (some 0)),(23,.sr 1 3 0 18),(24,.y .i64 1),(25,.y .i64 0)]
def dO(b:aQ):List (Nat×aQ):=[(0,b),(1,.rw 3 60)]
def SL:aU:={rz:=[(3,18)],rl:=[(3,0,1)]}
theorem aj6:av (ar E0 SL) 100 ((ar0.drop 4).take 1) (U 44 (jG 1 (.sr 1 3 0 18) qg)) (ak 2 ((1,.rw 3 60)::iO 1 (.sr 1 3 0 18) [(0,rQ)])) .n {s:=[(0,.i 0),(1,.y 1)],w:=[(3,.same 3)],g:=[(1,.same 1)]} 44 eC 2 (dO rQ)=true:=by decide+kernel
noncomputable def ly:List Code:=roundOf (ar0.drop 5)
def uP(rv:List V)(bd:List (Nat×Int×Int))(qs:List Nat):aU:={bd:=bd,bin:=[(.lss,.y .i64 0,.y .i64 1,.b true),(.add,.y .i64 0,.i .i64 1,.y .i64 9)],rz:=[(3,18)],re:=[(3,0,rv)],qs:=qs}
def xe(g:List (Nat×WV)):bP:={s:=[(0,.y 0),(1,.y 1)],w:=[(3,.same 3)],g:=g}
def AQ:bP:={s:=[(0,.y 9),(1,.y 1)],q:=[(8,.q 8)],w:=[(3,.same 3)],g:=[(1,.same 1)]}
theorem aej:aW (xe [(1,.same 1)]) 44 eC 2 (dO rQ)=true:=by decide+kernel
def SM:List V:=nZ (.i .i64 1) (.y .i64 4) (.q 10) (.i .i64 0) (.s [])
def SN:List V:=nZ (.i .i64 2) (.i .i64 0) nl (.y .i64 4) (.q 8)
def SO:List V:=nZ (.i .i64 5) (.i .i64 0) nl (.i .i64 1) (.q 8)
def SP:List V:=nZ (.i .i64 5) (.i .i64 0) nl (.i .i64 0) (.q 8)
theorem aek:av (ar E0 (uP SM [] [8])) 100 (ly.take 100) (U 44 eC) (ak 2 (dO rQ)) .n AQ 44 eC 2 (dO rQ)=true:=by decide+kernel
theorem ael:av (ar E0 (uP SN [] [8])) 100 (ly.take 100) (U 44 eC) (ak 2 (dO rQ)) .n AQ 44 eC 2 (dO rQ)=true:=by decide+kernel
theorem aem:av (ar E0 (uP SO [] [8])) 100 (ly.take 100) (U 44 eC) (ak 2 (dO rQ)) .n AQ 44 eC 2 (dO nmS)=true:=by decide+kernel
theorem aen:av (ar E0 (uP SP [] [8])) 100 (ly.take 100) (U 44 eC) (ak 2 (dO rQ)) .n AQ 44 eC 2 (dO nmD)=true:=by decide+kernel
theorem SQ:(bG (xe [(1,.fold 0)]) (U 44 eC) (ak 2 (dO rQ)) 44 eC 2 (dO rQ)).isSome=true:=by decide+kernel
theorem aeo:(bG (xe [(1,.fold 0)]) (U 44 eC) (ak 2 (dO nmS)) 44 eC 2 (dO rQ)).isSome=true:=by decide+kernel
theorem aep:(bG (xe [(1,.fold 0)]) (U 44 eC) (ak 2 (dO nmD)) 44 eC 2 (dO rQ)).isSome=true:=by decide+kernel
theorem aeq:av (ar E0 Ew) 100 (ly.take 100) (U 44 eC) (ak 2 (dO rQ)) (.e 2) {g:=[(1,.same 1)]} 44 [(5,.m (some 0))] 1 [(0,rQ)]=true:=by decide+kernel
theorem aj7:av (ar E0 Ex) 100 ((ar0.drop 6).take 10) (U 44 [(5,.m (some 0))]) (ak 1 [(0,rQ)]) .r {s:=[(7,.y 7)]} 44 J0 0 []=true:=by decide+kernel
variable{m:Array MapEntry×Nat}{ns:List ByteArray}
structure KM(m:Array MapEntry×Nat)(ns:List ByteArray):Prop where
 BW:m.1.toList.map (·.key)=ns.map Value.string
 nd:ns.Nodup
def GU(ns:List ByteArray)(nm:ByteArray):List ByteArray:=if ns.any (fun x=>decide (x=nm))=true then ns else ns++[nm]
def Of(ns:List ByteArray)(nm:ByteArray):List ByteArray:=ns.filter (fun x=>decide (x≠nm))
theorem KM.nil:KM (#[],0) []:=⟨rfl,List.nodup_nil⟩
theorem KM.size{m:Array MapEntry×Nat}{ns:List ByteArray}(M:KM m ns):m.1.size=ns.length:=by
 have:=congrArg List.length M.BW;simpa using this
theorem KM.get(M:KM m ns){j:Nat}{e:MapEntry}(h:m.1.toList[j]? =some e):∃x,ns[j]? =some x/\e.key=.string x:=by
 have:=congrArg (·[j]?) M.BW;simp only[arK,h,Option.map_some]at this;cases hx:ns[j]?with
 |none=>rw[hx]at this;cases this
 |some x=>rw[hx]at this;exact⟨x,rfl,arJ this⟩
theorem KM.key{m:Array MapEntry×Nat}{ns:List ByteArray}(M:KM m ns):∀x∈m.1.toList,MapKept.IsKey .string x.key:=fun x hx=>by
 obtain⟨j,hj⟩:=List.getElem?_of_mem hx;obtain⟨y,_,e⟩:=M.get hj;rw[e];trivial
theorem Mi{nm:ByteArray}:ns.any (fun x=>decide (x=nm))=true↔nm∈ns:=by
 simp[List.any_eq_true]
theorem KM.set(M:KM m ns)(nm:ByteArray)(v:Value):KM (iq .string m (.string nm) v) (GU ns nm):=by
 unfold iq;rcases MapKept.findNow_spec (d:=.string) (k:=.string nm) trivial m.1.toList 0 M.key with⟨h1,h2⟩|⟨j,e,h1,h2,h3⟩
 ·rw[h1]
  have BQ:nm∉ns:=fun hm=>by
   have:Value.string nm∈m.1.toList.map (·.key):=by rw[M.BW];exact arI.2 ⟨nm,hm,rfl⟩
   obtain⟨x,hx,e⟩:=arI.1 this;exact h2 x hx e
  have aj8:¬(ns.any (fun x=>decide (x=nm))=true):=fun h=>BQ (Mi.1 h)
  refine⟨?_,?_⟩
  ·rw[Array.toList_push,arH,M.BW,GU,if_neg aj8,arH];rfl
  ·rw[GU,if_neg aj8,List.nodup_append]
   refine⟨M.nd,by simp,fun a ha b hb Ni=> ?_⟩;simp at hb;subst hb;subst Ni;exact BQ ha
 ·rw[h1]
  simp only[Nat.zero_add];obtain⟨x,hx,ex⟩:=M.get h2;rw[h3]at ex;have hxn:nm=x:=Value.string.inj ex;subst hxn;have adV:ns.any (fun x=>decide (x=nm))=true:=Mi.2 (arG hx);rw[GU,if_pos adV];refine⟨?_,M.nd⟩;rw[<-M.BW];apply arN;intro i;simp only[Array.toList_modify,arK,List.getElem?_modify]
  by_cases mf:j=i
  ·subst mf;simp[h2,h3]
  ·simp[mf]
theorem KM.del(M:KM m ns)(nm:ByteArray):KM (oT .string m (.string nm)) (Of ns nm):=by
 unfold oT;rcases MapKept.findNow_spec (d:=.string) (k:=.string nm) trivial m.1.toList 0 M.key with⟨h1,h2⟩|⟨j,e,h1,h2,h3⟩
 ·rw[h1]
  have:Of ns nm=ns:=by
   unfold Of;rw[List.filter_eq_self];intro x hx;simp only[decide_eq_true_eq];intro hxe;have:Value.string nm∈m.1.toList.map (·.key):=by rw[M.BW];exact arI.2 ⟨nm,hxe▸hx,rfl⟩
   obtain⟨y,hy,e⟩:=arI.1 this;exact h2 y hy e
  rw[this];exact M
 ·rw[h1]
  simp only[Nat.zero_add];obtain⟨x,hx,ex⟩:=M.get h2;rw[h3]at ex;have hxn:nm=x:=Value.string.inj ex;subst hxn;have hd:Of ns nm=ns.eraseIdx j:=uJ fun i y hi=>by
   simp only[decide_eq_true_eq]
   constructor
   ·rintro h rfl
    rw[hx]at hi;cases hi;exact h rfl
   ·intro h e'
    subst e';have Gz:(ns.map id).Nodup:=by simpa using M.nd
    exact h (nq Gz hi hx rfl)
  have hl:(m.1.eraseIdxIfInBounds j).toList=m.1.toList.eraseIdx j:=by
   have bf:j<m.1.size:=by simpa using(arD.1 h2).1
   rw[Array.eraseIdxIfInBounds,dif_pos bf];simp
  refine⟨?_,?_⟩
  ·rw[hl,hd,nu,nu,M.BW]
  ·exact M.nd.sublist (List.filter_sublist)
def iR(ns:List ByteArray):R×Value->List ByteArray
 |(.snap nm id,_)=>if id=1 then GU ns nm else Of ns nm
 |_=>ns
def gH(sl:List (ByteArray×Nat))(rl:List (R×Value)):List ByteArray:=rl.foldl iR ((sl.map (·.1)).foldl GU [])
def kj(w:World)(v:Value)(sl:List (ByteArray×Nat)):Prop:=(sl=[]/\v=uG)\/cr w 112 2 v (cg sl)
theorem kj.one{w:World}{v:Value}{sl:List (ByteArray×Nat)}(h:kj w v sl):v.oneCell'=true:=by
 rcases h with⟨_,rfl⟩|h
 ·rfl
 ·exact h.one
def RN':R×Value->Prop
 |(.put _,v)=>v.oneCell'=true
 |(.root _ _,_)=>True
 |(.snap _ id,_)=>id<=1
theorem Mj{n:Nat}{w:World}{recv:Value}{rl:List (R×Value)}(lz:gj w recv rl)(Zo:∀r∈rl,RN' r)(hl:rl.length<=100000){ns:List ByteArray}{m:Array MapEntry×Nat}(M:KM m ns){φ:Ren}{a:Act}{w1:World}(hs:ad φ w.heap.size (U 44 qg) (ak 1 [(0,rQ)]) a w1)(hd:a.defers=[])(hg:GB w.heap.size w w1)
  (hq:φ.q 1=recv)(hm:φ.g 1=m):
  aC none n E0.P (fun e a' w'=>(e=.ret\/e=.normal)/\a'.defers=[]/\∃v,(results Tryz.f28 a'.tmps).run Tryz.prog w'=.ok v w'/\∃u,arM v=.returned u/\u=.int .i64 (rl.foldl iR ns).length/\Grown w w') (ar0.drop 4) a w1:=by
 have fin:∀{φ:Ren} {a:Act} {w2:World} {L:List (Nat×V)},ad φ w.heap.size (U 44 J0) (ak 0 []) a w2->a.defers=[]->GB w.heap.size w w2->∀{k:Nat},φ.s 7=k->(∃v,(results Tryz.f28 a.tmps).run Tryz.prog w2=.ok v w2/\∃u,arM v=.returned u/\u=.int .i64 k/\Grown w w2):=fun hs _ hg k hk=>by
  obtain⟨v,gE,ff⟩:=hs.leave aB (fn:=Tryz.f28) (l:=[.y .i64 7]) rfl;refine⟨v,gE,v,rfl,?_,hg.grown⟩;simp only[fG,VR]at ff;rw[ff,hk]
 rcases lz with⟨rfl,rfl⟩|bQ
 ·have cu:=hs.subst 1 nl (by rw[hq];exact vN)
  obtain⟨φ,cu,n1,n2,n3,n4⟩:=ad.gY (L:=jG 1 nl qg) (HB:=iO 1 nl [(0,rQ)]) cu (tb:={g:=[(1,.same 1)]}) (by decide+kernel) (y:=dg [0,0,0,0,0,0,0,ns.length] [] [] [(#[],0),m]) ⟨agm,agm,agm,⟨hm.symm,agm⟩⟩;refine ad.dc (aq aB Ex) rfl 10 (cs:=ar0.drop 4) aj5 cu (aA.dU ?_) hd (dg [0,0,0,0,0,0,0,ns.length] [] [] []) (Ag.au (o:=dg [0,0,0,0,0,0,0,ns.length] [] [] [(#[],0),m]) ⟨⟨rfl,agm⟩,agm,agm,agm⟩ n1 n2 n3 n4) fun φ a2 w2 dx mF iK _ m1 m2 m3 m4=>⟨.inl rfl,mF,fin (L:=[]) dx mF (hg.trans iK) (agB m1 7)⟩
  refine⟨agm,agm,agm,agm,agm,agm,agm,⟨?_,agm⟩,agm⟩;show some (arO,φ.y.s 7)=some (arO,(((φ.g 1).1.size:Nat):Int));rw[show φ.g 1=m from agB n4 1,M.size,show φ.y.s 7=ns.length from agB n1 7]
 ·obtain⟨φ,hs,n1,n2,n3,n4⟩:=hs.gY (tb:={q:=[(1,.q 1)],g:=[(1,.same 1)]}) (by decide+kernel) (y:=dg [0,rl.length] [.bool false,recv] [[],[],[],bL rl] [(#[],0),m]) ⟨agm,⟨⟨hq.symm,bQ.one⟩,agm⟩,agm,⟨hm.symm,agm⟩⟩
  obtain⟨aV,dx,kq⟩:=hs.jb (bQ.kept fun r o h=>hg.at_ rfl h) rfl 1 3 (agB n2 1) (agB n3 3);let Y:Nat->Array MapEntry×Nat->Sym:=fun i m=>dg [i,rl.length] [] [[],[],[],bL rl] [(#[],0),m]
  refine ad.dc (aq aB SL) rfl 1 (cs:=ar0.drop 4) aj6 dx (aA.dU ?_) hd (Y 0 m) ?_ fun eH a3 w3 ez gJ ig _ k1 k2 k3 k4=> ?_
  ·refine⟨agm,agm,agm,⟨⟨rl.length,by decide,?_,?_⟩,agm⟩,agm,agm,agm,agm,agm⟩
   ·show rl.length*18=(aV.y.w 3).length
    rw[kq,show φ.y.w 3=bL rl from agB n3 3,fe]
   ·show aV.y.s 1=_
    rw[kq];exact agB n1 1
  ·refine Ag.au (o:=dg [0,rl.length] [.bool false,recv] [[],[],[],bL rl] [(#[],0),m]) ⟨⟨rfl,rfl,agm⟩,agm,⟨rfl,agm⟩,⟨rfl,agm⟩⟩ ?_ ?_ ?_ ?_<;>rw[kq]
   ·exact n1
   ·exact n2
   ·exact n3
   ·exact n4
  show aC none n E0.P _ (ar0.drop 5) a3 w3;let Inv:Nat->Act->World->Prop:=fun i a w'=>∃φ m',ad φ w.heap.size (U 44 eC) (ak 2 (dO rQ)) a w'/\a.defers=[]/\GB w.heap.size w w'/\bD φ (Y i m')/\KM m' ((rl.take i).foldl iR ns)
  refine dd (id:=2) (b:=(match ar0.drop 5 with|.block _ (.loop b)::_=>b|_=>.skip)) (rest:=ar0.drop 6) rl.length Inv ?_ ?_ ⟨eH,m,ez,gJ,hg.trans ig,⟨k1,k2,k3,k4⟩,M⟩
  ·rintro i a w' hi ⟨φ,m',hs,hd,hg,⟨n1,n2,n3,n4⟩,M'⟩
   show aC none n E0.P _ ly a w';obtain⟨r,qP⟩:∃r,rl[i]? =some r:=⟨rl[i],aop hi⟩
   have bB:(rl.take (i+1)).foldl iR ns=iR ((rl.take i).foldl iR ns) r:=by rw[arX,qP];simp
   have hr:=Zo r (arG qP);have round:∀(rv:List V) (b:aQ) (us:List (V×Option V)) (nm pv:Value) (m2:Array MapEntry×Nat) (id:Nat),rv.length=18->b=.gS 1 .string us->nm.oneCell'=true->(∃s,nm=.string s)->
     (∀φ:Ren,φ.s 4=id->φ.q 8=nm->φ.q 10=pv->J φ rv (fO r))->(∀φ:Ren,φ.q 8=nm->∀m3,MU φ .string m' us m3->m3=m2)->
     av (ar E0 (uP rv [] [8])) 100 (ly.take 100) (U 44 eC) (ak 2 (dO rQ)) .n AQ 44 eC 2 (dO b)=true->(bG (xe [(1,.fold 0)]) (U 44 eC) (ak 2 (dO b)) 44 eC 2 (dO rQ)).isSome=true->KM m2 (iR ((rl.take i).foldl iR ns) r)->
     aC none n E0.P (fun e a' w''=>e=.normal/\Inv (i+1) a' w'') ly a w':=by
    intro rv b us nm pv m2 id hlen hb aoS aoT gh Pb ba pR hM2;obtain⟨ay,b9,p1,p2,p3,p4⟩:=hs.gY aej (y:=dg [i,rl.length,0,0,id,0,0,0,0,(i+1:Nat)] [.bool false,.bool false,.bool false,.bool false,.bool false,.bool false,.bool false,.bool false,nm,.bool false,pv] [[],[],[],bL rl] [(#[],0),m']) ⟨⟨(agB n1 0).symm,(agB n1 1).symm,agm⟩,agm,⟨(agB n3 3).symm,agm⟩,⟨(agB n4 1).symm,agm⟩⟩;have t0:ay.y.s 0=i:=agB p1 0;have t1:ay.y.s 1=rl.length:=agB p1 1;have t9:ay.y.s 9=((i+1:Nat):Int):=agB p1 9;refine ad.dc (aq aB _) rfl 100 (cs:=ly) ba b9 (aA.dU ?_) hd (dg [(i+1:Nat),rl.length] [.bool false,.bool false,.bool false,.bool false,.bool false,.bool false,.bool false,.bool false,nm] [[],[],[],bL rl] [(#[],0),m']) ?_ fun af a' w'' cu cy dh _ e1 e2 e3 e4=>⟨rfl,?_⟩
    ·refine⟨agm,⟨?_,?_,agm⟩,agm,agm,⟨⟨(by show 0<18;decide),hlen,i,t0,?_,?_⟩,agm⟩,⟨?_,agm⟩,agm,agm,agm⟩
     ·exact .lss (k:=.i64) (x:=i) (y:=rl.length) (by simp only[aR,t0]) (by simp only[aR,t1]) (by simp;omega)
     ·exact .add (k:=.i64) (x:=i) (y:=1) (by simp only[aR,t0]) rfl (by simp only[aR,t9];rfl) (i64_in (by omega))
     ·show(i+1)*18<=(ay.w 3).length
      rw[show ay.w 3=bL rl from agB p3 3,fe];omega
     ·show J ay rv (((ay.w 3).drop (i*18)).take 18)
      rw[show ay.w 3=bL rl from agB p3 3,CH qP];exact gh ay (agB p1 4) (agB p2 8) (agB p2 10)
     ·obtain⟨s,hs⟩:=aoT
      exact⟨s,(agB p2 8).trans hs⟩
    ·exact Ag.au (o:=dg [i,rl.length,0,0,id,0,0,0,0,(i+1:Nat)] [.bool false,.bool false,.bool false,.bool false,.bool false,.bool false,.bool false,.bool false,nm,.bool false,pv] [[],[],[],bL rl] [(#[],0),m']) ⟨⟨rfl,rfl,agm⟩,⟨⟨rfl,aoS⟩,agm⟩,⟨rfl,agm⟩,⟨rfl,agm⟩⟩ p1 p2 p3 p4
    ·have oZ:Agree (xe [(1,.fold 0)]) af (ak 2 (dO b)) w'' (Y (i+1) m2):=by
      refine bC ⟨(agB e1 0).symm,(agB e1 1).symm,agm⟩ trivial ⟨(agB e3 3).symm,agm⟩ ⟨?_,agm⟩;intro r0 es c Fa jE;obtain⟨oU,c',g7,mu,_⟩:=cu.hr.qR Fa (x:=1) (d:=.string) (us:=us) (by show mO (dO b) 0=_;rw[hb];rfl);rw[jE]at g7;cases g7;rw[show af.g 1=m' from agB e4 1]at mu;exact(Pb af (agB e2 8) _ mu).symm
     obtain⟨aV,dx,j1,j2,j3,j4⟩:=cu.conv pR _ oZ;exact⟨aV,m2,dx,cy,hg.trans dh,⟨j1,j2,j3,j4⟩,by rw[bB];exact hM2⟩
   obtain⟨r,v⟩:=r;cases r with
   |put o=>exact round SM rQ [] (.string ByteArray.empty) v m' o.id rfl rfl rfl ⟨_,rfl⟩ (fun φ h4 _ h10=>GR vI (by simp only[VR,h4]) (by simp only[VR];exact⟨h10.symm,hr⟩) vI (vS (by simp))) (fun φ _ m3 mu=>mu) aek SQ M'
   |root nm id=>exact round SN rQ [] (.string nm) (.bool false) m' id rfl rfl rfl ⟨_,rfl⟩ (fun φ h4 h8 _=>GR vI vI vN (by simp only[VR,h4]) (by simp only[VR];exact⟨h8.symm,rfl⟩)) (fun φ _ m3 mu=>mu) ael SQ M'
   |snap nm id=>
    have lG:id<=1:=hr
    by_cases h1:id=1
    ·subst h1
     refine round SO nmS _ (.string nm) (.bool false) (iq .string m' (.string nm) (.bool true)) 0 rfl rfl rfl ⟨_,rfl⟩ (fun φ _ h8 _=>GR vI vI vN vI (by simp only[VR];exact⟨h8.symm,rfl⟩)) (fun φ h8 m3 mu=> ?_) aem aeo ?_
     ·simp only[MU,VR]at mu
      obtain⟨_,_,⟨rfl,_⟩,rfl,_,rfl⟩:=mu;rw[h8]
     ·have:iR ((rl.take i).foldl iR ns) (.snap nm 1,v)=GU ((rl.take i).foldl iR ns) nm:=rfl
      rw[this];exact M'.set nm _
    ·have h0:id=0:=by omega
     subst h0;refine round SP nmD _ (.string nm) (.bool false) (oT .string m' (.string nm)) 0 rfl rfl rfl ⟨_,rfl⟩ (fun φ _ h8 _=>GR vI vI vN vI (by simp only[VR];exact⟨h8.symm,rfl⟩)) (fun φ h8 m3 mu=> ?_) aen aep ?_
     ·simp only[MU,VR]at mu
      obtain⟨_,⟨rfl,_⟩,_,rfl⟩:=mu;rw[h8]
     ·have:iR ((rl.take i).foldl iR ns) (.snap nm 0,v)=Of ((rl.take i).foldl iR ns) nm:=rfl
      rw[this];exact M'.del nm
  ·rintro a w' ⟨φ,m',hs,hd,hg,⟨n1,n2,n3,n4⟩,M'⟩
   rw[arE]at M';show aC none n E0.P _ ly a w';refine ad.dc (aq aB Ew) rfl 100 (cs:=ly) aeq hs (aA.dU ?_) hd (dg [] [] [] [(#[],0),m']) (Ag.au (o:=Y rl.length m') ⟨agm,agm,agm,⟨rfl,agm⟩⟩ n1 n2 n3 n4) fun φ a4 w4 ll sS pV _ p1 p2 p3 p4=>⟨rfl,?_⟩
   ·have t0:φ.y.s 0=rl.length:=agB n1 0
    have t1:φ.y.s 1=rl.length:=agB n1 1;exact⟨agm,⟨.lss (k:=.i64) (x:=rl.length) (y:=rl.length) (by simp only[aR,t0]) (by simp only[aR,t1]) (by simp),agm⟩,agm,agm,agm,agm,agm,agm,agm⟩
   obtain⟨φ,ll,n1,n2,n3,n4⟩:=ll.gY (tb:={g:=[(1,.same 1)]}) (by decide+kernel) (y:=dg [0,0,0,0,0,0,0,(rl.foldl iR ns).length] [] [] [(#[],0),m']) ⟨agm,agm,agm,⟨(agB p4 1).symm,agm⟩⟩;refine ad.dc (aq aB Ex) rfl 10 (cs:=ar0.drop 6) aj7 ll (aA.dU ?_) sS (dg [0,0,0,0,0,0,0,(rl.foldl iR ns).length] [] [] []) (Ag.au (o:=dg [0,0,0,0,0,0,0,(rl.foldl iR ns).length] [] [] [(#[],0),m']) ⟨⟨rfl,agm⟩,agm,agm,agm⟩ n1 n2 n3 n4) fun φ a5 w5 wE vL vM _ m1 m2 m3 m4=>⟨.inl rfl,vL,fin (L:=[]) wE vL ((hg.trans pV).trans vM) (agB m1 7)⟩
   refine⟨agm,agm,agm,agm,agm,agm,agm,⟨?_,agm⟩,agm⟩;show some (arO,φ.y.s 7)=some (arO,(((φ.g 1).1.size:Nat):Int));rw[show φ.g 1=m' from agB n4 1,M'.size,show φ.y.s 7=(rl.foldl iR ns).length from agB n1 7]
theorem SR{n:Nat}{w:World}{sv recv:Value}{sl:List (ByteArray×Nat)}{rl:List (R×Value)}(ZQ:kj w sv sl)(lz:gj w recv rl)(Zo:∀r∈rl,RN' r)(uO:sl.length<=100000)(hl:rl.length<=100000):
  CallsIn (W none) n Tryz.prog 28 #[sv,recv] w fun e w'=>∃u,e=.returned u/\u=.int .i64 (gH sl rl).length/\Grown w w':=by
 have o1:=lz.one;refine dz (fn:=Tryz.f28) (c:=(Tryz.f28.body).getD .skip) (args:=[sv,recv]) Tryz.func28 rfl (bp _ ?_);show aC none n E0.P _ ar0 _ _;rcases ZQ with⟨rfl,rfl⟩|bQ
 ·let y0:Sym:=dg [] [.bool false,recv] [] []
  have bB:=ad.enter (nt:=44) (bc y0 w) rfl rfl (vs:=[nl,.q 1]) (args:=[uG,recv]) (J.cons vN (J.cons (by simp only[VR];exact⟨rfl,o1⟩) J.nil)) (by decide);refine ad.dc (aq aB {}) rfl 4 aj1 bB bx.dU rfl y0 (Ag.au (o:=y0) ⟨agm,⟨⟨rfl,o1⟩,agm⟩,agm,agm⟩ rfl rfl rfl rfl) fun φ a w1 hs hd hg _ n1 n2 n3 n4=> ?_
  show aC none n E0.P _ (ar0.drop 4) a w1;obtain⟨φ,hs,m1,m2,m3,m4⟩:=hs.conv aed (dg [] [.bool false,recv] [] [(#[],0),(#[],0)]) (by
   refine bC trivial ⟨?_,agm⟩ trivial ⟨?_,agm⟩
   ·simp only[VR];exact⟨(agB n2 1).symm,o1⟩
   ·intro r es c hr jE
    obtain⟨o,g1,g2⟩:=hs.hr.ew 0 r hr (by rw[aH];trivial);rw[aH]at g2;rw[jE]at g1;cases g1;obtain⟨el,g3,g4⟩:=g2;cases g3;simp only[fB]at g4;rw[AAA.1 (g4.trans rfl:es.toList=(#[]:Array MapEntry).toList)];rfl)
  exact Mj lz Zo hl KM.nil hs hd hg (agB m2 1) (agB m4 1)
 ·let y0:Sym:=dg [0,sl.length] [.bool false,recv] [cg sl] []
  obtain⟨ay,h1,e1,le1,v1⟩:=bQ.add (bc y0 w) rfl 0 rfl;have bB:=ad.enter (nt:=44) h1 rfl (by rw[e1];rfl) (vs:=[.sr 0 0 0 2,.q 1]) (args:=[sv,recv]) (J.cons v1 (J.cons (by simp only[VR,Ren.q,e1];exact⟨rfl,o1⟩) J.nil)) (by decide);refine ad.dc (aq aB SK) rfl 3 aj2 bB (aA.dU ?_) rfl y0 ?_ fun φ a w1 hs hd hg _ n1 n2 n3 n4=> ?_
  ·have t1:ay.y.s 1=sl.length:=by rw[e1];rfl
   refine⟨⟨⟨?_,?_⟩,agm⟩,agm,agm,⟨⟨sl.length,by decide,?_,t1⟩,agm⟩,agm,agm,agm,agm,agm⟩
   ·show(0:Int)<=ay.y.s 1;rw[t1];omega
   ·show ay.y.s 1<=(100000:Int);rw[t1];omega
   ·show sl.length*2=(ay.y.w 0).length
    rw[e1];exact(fk sl).symm
  ·refine Ag.au (o:=y0) ⟨⟨rfl,rfl,agm⟩,⟨⟨rfl,o1⟩,agm⟩,⟨rfl,agm⟩,agm⟩ ?_ ?_ ?_ ?_<;>rw[e1]<;>rfl
  show aC none n E0.P _ (ar0.drop 3) a w1;let Y:Nat->Array MapEntry×Nat->Sym:=fun i m=>dg [i,sl.length] [.bool false,recv] [cg sl] [(#[],0),m]
  obtain⟨φ,hs,m1,m2,m3,m4⟩:=hs.conv aee (Y 0 (#[],0)) (by
   refine bC ⟨(agB n1 0).symm,(agB n1 1).symm,agm⟩ ⟨?_,agm⟩ ⟨(agB n3 0).symm,agm⟩ ⟨?_,agm⟩
   ·simp only[VR];exact⟨(agB n2 1).symm,o1⟩
   ·intro r es c hr jE
    obtain⟨o,g1,g2⟩:=hs.hr.ew 0 r hr (by rw[aH];trivial);rw[aH]at g2;rw[jE]at g1;cases g1;obtain⟨el,g3,g4⟩:=g2;cases g3;simp only[fB]at g4;rw[AAA.1 (g4.trans rfl:es.toList=(#[]:Array MapEntry).toList)];rfl)
  let Inv:Nat->Act->World->Prop:=fun i a w'=>∃φ m',ad φ w.heap.size (U 44 mA) (ak 2 (lx rQ)) a w'/\a.defers=[]/\GB w.heap.size w w'/\bD φ (Y i m')/\KM m' (((sl.take i).map (·.1)).foldl GU [])
  refine dd (id:=0) (b:=(match ar0.drop 3 with|.block _ (.loop b)::_=>b|_=>.skip)) (rest:=ar0.drop 4) sl.length Inv ?_ ?_ ⟨φ,_,hs,hd,hg,⟨m1,m2,m3,m4⟩,KM.nil⟩
  ·rintro i a w' hi ⟨φ,m',hs,hd,hg,⟨n1,n2,n3,n4⟩,M'⟩
   show aC none n E0.P _ xd a w';obtain⟨p,hp⟩:∃p,sl[i]? =some p:=⟨sl[i],aop hi⟩
   obtain⟨ay,b9,p1,p2,p3,p4⟩:=hs.gY aef (y:=dg [i,sl.length,0,0,0,0,p.2,0,0,(i+1:Nat)] [.bool false,recv,.bool false,.bool false,.bool false,.bool false,.bool false,.bool false,.string p.1] [cg sl] [(#[],0),m']) ⟨⟨(agB n1 0).symm,(agB n1 1).symm,agm⟩,⟨⟨(agB n2 1).symm,o1⟩,agm⟩,⟨(agB n3 0).symm,agm⟩,⟨(agB n4 1).symm,agm⟩⟩;have t0:ay.y.s 0=i:=agB p1 0;have t1:ay.y.s 1=sl.length:=agB p1 1;have t6:ay.y.s 6=p.2:=agB p1 6;have t9:ay.y.s 9=((i+1:Nat):Int):=agB p1 9;refine ad.dc (aq aB _) rfl 100 (cs:=xd) aj3 b9 (aA.dU ?_) hd (dg [(i+1:Nat),sl.length] [.bool false,recv,.bool false,.bool false,.bool false,.bool false,.bool false,.bool false,.string p.1] [cg sl] [(#[],0),m']) ?_ fun af a' w'' cu cy dh _ e1 e2 e3 e4=>⟨rfl,?_⟩
   ·refine⟨agm,⟨?_,?_,agm⟩,agm,agm,⟨⟨by decide,rfl,i,t0,?_,?_⟩,agm⟩,⟨⟨p.1,agB p2 8⟩,agm⟩,agm,agm,agm⟩
    ·exact .lss (k:=.i64) (x:=i) (y:=sl.length) (by simp only[aR,t0]) (by simp only[aR,t1]) (by simp;omega)
    ·exact .add (k:=.i64) (x:=i) (y:=1) (by simp only[aR,t0]) rfl (by simp only[aR,t9];rfl) (i64_in (by omega))
    ·show(i+1)*2<=(ay.w 0).length
     rw[show ay.w 0=cg sl from agB p3 0,fk];omega
    ·show J ay [.q 8,.y .i64 6] (((ay.w 0).drop (i*2)).take 2)
     rw[show ay.w 0=cg sl from agB p3 0,ui hp];refine J.cons ?_ (J.cons ?_ J.nil)
     ·simp only[VR];exact⟨(agB p2 8).symm,rfl⟩
     ·simp only[VR,Ren.s,t6]
   ·exact Ag.au (o:=dg [i,sl.length,0,0,0,0,p.2,0,0,(i+1:Nat)] [.bool false,recv,.bool false,.bool false,.bool false,.bool false,.bool false,.bool false,.string p.1] [cg sl] [(#[],0),m']) ⟨⟨rfl,rfl,agm⟩,⟨⟨rfl,o1⟩,⟨rfl,rfl⟩,agm⟩,⟨rfl,agm⟩,⟨rfl,agm⟩⟩ p1 p2 p3 p4
   ·have oZ:Agree (Eu [(1,.fold 0)]) af (ak 2 (lx nmS)) w'' (Y (i+1) (iq .string m' (.string p.1) (.bool true))):=by
     refine bC ⟨(agB e1 0).symm,(agB e1 1).symm,agm⟩ ⟨?_,agm⟩ ⟨(agB e3 0).symm,agm⟩ ⟨?_,agm⟩
     ·simp only[VR];exact⟨(agB e2 1).symm,o1⟩
     ·intro r0 es c Fa jE
      obtain⟨oU,c',g7,mu,_⟩:=cu.hr.qR Fa (x:=1) (d:=.string) (us:=[(.q 8,some (.b true))]) rfl;rw[jE]at g7;cases g7;rw[show af.g 1=m' from agB e4 1]at mu;simp only[MU,VR]at mu;obtain⟨_,_,⟨rfl,_⟩,rfl,_,mu⟩:=mu;rw[mu,show af.q 8=.string p.1 from agB e2 8];rfl
    obtain⟨aV,dx,j1,j2,j3,j4⟩:=cu.conv aei _ oZ;refine⟨aV,_,dx,cy,hg.trans dh,⟨j1,j2,j3,j4⟩,?_⟩;rw[arX,hp];simp only[Option.toList_some,arH,List.map_cons,List.map_nil,List.foldl_append,List.foldl_cons,List.foldl_nil];exact M'.set p.1 _
  ·rintro a w' ⟨φ,m',hs,hd,hg,⟨n1,n2,n3,n4⟩,M'⟩
   rw[arE]at M';show aC none n E0.P _ xd a w';refine ad.dc (aq aB Ew) rfl 100 (cs:=xd) aj4 hs (aA.dU ?_) hd (dg [] [.bool false,recv] [] [(#[],0),m']) (Ag.au (o:=Y sl.length m') ⟨agm,⟨⟨rfl,o1⟩,agm⟩,agm,⟨rfl,agm⟩⟩ n1 n2 n3 n4) fun φ a4 w4 ll sS pV _ p1 p2 p3 p4=>⟨rfl,?_⟩
   ·have t0:φ.y.s 0=sl.length:=agB n1 0
    have t1:φ.y.s 1=sl.length:=agB n1 1;exact⟨agm,⟨.lss (k:=.i64) (x:=sl.length) (y:=sl.length) (by simp only[aR,t0]) (by simp only[aR,t1]) (by simp),agm⟩,agm,agm,agm,agm,agm,agm,agm⟩
   exact Mj lz Zo hl M' ll sS (hg.trans pV) (agB p2 1) (agB p4 1)
noncomputable def c9:List Code:=ct ((Tryz.f11.body).getD .skip)
def wA:V:=.a [.q 0,.q 1,.q 2,.y .i64 3]
def wB:V:=.a [.q 7,.q 8,.q 9,.y .i64 4]
def GV:List V:=[wA,.q 5,.q 6]
def AR:List (Nat×V):=[(1,.q 5),(2,.q 6)]
def SU:List (Nat×V):=(3,.p (some (0,0)))::AR
def SX:bP:={s:=[(3,.y 3)],q:=[(0,.q 0),(1,.q 1),(2,.q 2),(5,.q 5),(6,.q 6)]}
theorem aj9:av (ar E0 Mb) 100 (c9.take 4) ⟨48,load GV 0 .leaf⟩ (ak 0 []) .n SX 48 SU 1 [(0,lq)]=true:=by decide+kernel
theorem aer:∃id,c9.drop 4=.region id (aN (c9.drop 4)) false::c9.drop 5:=⟨_,rfl⟩
def SY:List (Nat×V):=(18,wA)::(19,.q 6)::AR
theorem aka:bH (ar E0 {}) 100 (aN (c9.drop 4)) ((aN (c9.drop 4)).toList.take 2) (U 48 SU) (ak 1 [(0,lq)]) SX 48 SY 0 []=true:=by decide+kernel
def SZ:bP:={q:=[(5,.q 5),(6,.q 6)]}
theorem akb:(bG SZ (U 48 SY) (ak 0 []) 48 AR 0 []).isSome=true:=by decide+kernel
theorem akc:aW SZ 48 AR 0 []=true:=by decide+kernel
def aes:List (Nat×V):=(20,.t [wB,.y .i64 5,.i .i64 0])::AR
def oQ:aQ:=.cells [.q 7,.q 8,.q 9,.y .i64 4] 47 false
def S1:List (Nat×V):=(8,.p (some (0,0)))::(10,.i .i64 0)::AR
def AU:bP:={s:=[(4,.y 4)],q:=[(5,.q 5),(6,.q 6),(7,.q 7),(8,.q 8),(9,.q 9)]}
theorem akd:bH (ar E0 {}) 100 (aN (c9.drop 4)) (((aN (c9.drop 4)).toList.drop 3).take 100) (U 48 aes) (ak 0 []) AU 48 S1 1 [(0,oQ)]=true:=by decide+kernel
def AV:List (Nat×V):=(8,.p (some (0,0)))::AR
theorem ake:av (ar E0 {}) 100 ((c9.drop 5).take 2) (U 48 S1) (ak 1 [(0,oQ)]) .n AU 48 AV 1 [(0,oQ)]=true:=by decide+kernel
theorem aet:∃id,c9.drop 7=.region id (aN (c9.drop 7)) false::c9.drop 8:=⟨_,rfl⟩
def J1:List (Nat×V):=(28,wB)::AV
theorem akf:bH (ar E0 {}) 100 (aN (c9.drop 7)) ((aN (c9.drop 7)).toList.take 1) (U 48 AV) (ak 1 [(0,oQ)]) AU 48 J1 1 [(0,oQ)]=true:=by decide+kernel
theorem aeu:aW AU 48 J1 1 [(0,oQ)]=true:=by decide+kernel
def aev:List (Nat×V):=(29,.t [.q 10,.i .i64 0])::J1
def S2:List (Nat×V):=(11,.q 10)::(10,.i .i64 0)::AV
def Ey:bP:={s:=[(4,.y 4)],q:=[(5,.q 5),(6,.q 6),(7,.q 7),(8,.q 8),(9,.q 9),(10,.q 10)]}
theorem akg:bH (ar E0 {}) 100 (aN (c9.drop 7)) (((aN (c9.drop 7)).toList.drop 2).take 100) (U 48 aev) (ak 1 [(0,oQ)]) Ey 48 S2 1 [(0,oQ)]=true:=by decide+kernel
def J2:List (Nat×V):=(11,.q 10)::AV
theorem akh:av (ar E0 {}) 100 ((c9.drop 8).take 2) (U 48 S2) (ak 1 [(0,oQ)]) .n Ey 48 J2 1 [(0,oQ)]=true:=by decide+kernel
theorem aew:aW Ey 48 J2 1 [(0,oQ)]=true:=by decide+kernel
def AW:List (Nat×V):=jG 10 (.sr 2 0 0 1) (jG 9 (.sr 1 1 0 2) J2)
def AX:List (Nat×aQ):=(2,.rw 0 3)::iO 10 (.sr 2 0 0 1) ((1,.rw 1 101)::iO 9 (.sr 1 1 0 2) [(0,oQ)])
def xg(bn:List (BinOp×V×V×V)):aU:={bin:=bn,rz:=[(0,1),(1,2)],rl:=[(0,0,11),(1,0,12)],qc:=[(28,[.q 5,.q 6],.y .i64 13)]}
def gO(b:Bool):BinOp×V×V×V:=(.gtr,.y .i64 11,.i .i64 200,.b b)
def gR(b:Bool):BinOp×V×V×V:=(.gtr,.y .i64 12,.i .i64 20,.b b)
def gN(b:Bool):BinOp×V×V×V:=(.gtr,.y .i64 13,.i .i64 8,.b b)
theorem aex:av (ar E0 (xg [gO true])) 200 ((c9.drop 10).take 2) (U 48 AW) (ak 3 AX) .r {} 48 [(6,.i .i64 250)] 0 []=true:=by decide+kernel
theorem aey:av (ar E0 (xg [gO false,gR true])) 200 ((c9.drop 10).take 2) (U 48 AW) (ak 3 AX) .r {} 48 [(6,.i .i64 251)] 0 []=true:=by decide+kernel
theorem aez:av (ar E0 (xg [gO false,gR false,gN true])) 200 ((c9.drop 10).take 2) (U 48 AW) (ak 3 AX) .r {} 48 [(6,.i .i64 252)] 0 []=true:=by decide+kernel
theorem aeA:av (ar E0 (xg [gO false,gR false,gN false])) 200 ((c9.drop 10).take 2) (U 48 AW) (ak 3 AX) .r {} 48 [(6,.i .i64 0)] 0 []=true:=by decide+kernel
def lim(a b c:Nat):Nat:=if 200<a then 250 else if 20<b then 251 else if 8<c then 252 else 0
theorem gj.kept{w w':World}{v:Value}{rl:List (R×Value)}(h:gj w v rl)(hk:∀(r:Nat) (o:Obj),w.heap[r]? =some o->w'.heap[r]? =some o):gj w' v rl:=by
 rcases h with h|h
 ·exact .inl h
 ·exact .inr (h.kept hk)
theorem kj.kept{w w':World}{v:Value}{sl:List (ByteArray×Nat)}(h:kj w v sl)(hk:∀(r:Nat) (o:Obj),w.heap[r]? =some o->w'.heap[r]? =some o):kj w' v sl:=by
 rcases h with h|h
 ·exact .inl h
 ·exact .inr (h.kept hk)
theorem Sw.kept{w w':World}{r:R×Value}(h:Sw w r)(hk:∀(x:Nat) (o:Obj),w.heap[x]? =some o->w'.heap[x]? =some o):Sw w' r:=by
 obtain⟨r,v⟩:=r;cases r with
 |put o=>exact⟨h.1.kept fun r c ho=>hk r _ ho,h.2⟩
 |root nm id=>exact h
 |snap nm id=>exact h
theorem Sw.rn'{w:World}{r:R×Value}(h:Sw w r):RN' r:=by
 obtain⟨r,v⟩:=r;cases r with
 |put o=>exact h.1.one
 |root nm id=>trivial
 |snap nm id=>exact h.2
def lY(next next':Nat)(lines ov rv sv recv iP uB qV uv:Value)(a b c:Nat)(r0 r1:List Value)(m:Nat):Sym:=dg [0,0,0,next,next',m,0,0,0,0,0,a,b,c] [lines,ov,rv,.bool false,.bool false,sv,recv,iP,uB,qV,uv] [r0,r1] []
theorem S3{n:Nat}{w:World}{lines ov rv:Value}{next:Nat}{l:List (O×Value)}{rs:List (ByteArray×Nat)}(G:GW w lines ov rv next l rs)(hW:Whole l rs)(bU:l≠[]){sv recv:Value}{sl:List (ByteArray×Nat)}{rl:List (R×Value)}(ZQ:kj w sv sl)(uO:sl.length<=100000)(xX:gj w recv rl)(jD:∀r∈rl,Sw w r)(hn:rl.length<=100000)
  {s:od}(hs:s=(⟨l,rs,next⟩:od).run rl)(hW2:tf s.bS s.roots)(aeB:s.bS.length<=100000)(yi:s.roots.length<=100000)(SH:s.bS≠[])(wS:s.roots≠[]){N:Nat}
  (JB:∀n w' ln ov rv l' na,JZ w' s ln ov rv l' na->CallsIn (W none) n Tryz.prog 26 #[wV ln ov rv s.next] w' fun e w''=>∃v,e=.returned v/\(∃u row,v=.tuple #[u,.int .i64 0]/\row.length=N/\cr w'' 3 1 u row)/\Grown w' w''):
  CallsIn (W none) n Tryz.prog 11 #[wV lines ov rv next,sv,recv] w fun e w'=>∃v,e=.returned v/\v=.int .i64 (lim N s.roots.length (gH sl rl).length)/\Grown w w':=by
 have o0:=G.BA.one;have o1:=G.bS.one;have o2:=G.roots.one;have o5:=ZQ.one;have o6:=xX.one;let y0:Sym:=dg [0,0,0,next] [lines,ov,rv,.bool false,.bool false,sv,recv] [] [];have hwA:∀φ:Ren,φ.q=y0.q->φ.s=y0.s->VR φ wA (wV lines ov rv next):=fun φ hq hs=>by
  have:=kz (φ:=φ) (lines:=lines) (ov:=ov) (rv:=rv) (next:=next) (by rw[hq];rfl) (by rw[hq];rfl) (by rw[hq];rfl) (by rw[hs];rfl) o0 o1 o2;simp only[fD,J]at this;obtain⟨_,_,e,h,rfl⟩:=this;simp only[arL,and_true]at e;rw[e];exact h
 have bB:=ad.enter (nt:=48) (bc y0 w) rfl rfl (vs:=GV) (args:=[wV lines ov rv next,sv,recv]) (J.cons (hwA _ rfl rfl) (J.cons (by simp only[VR];exact⟨rfl,o5⟩) (J.cons (by simp only[VR];exact⟨rfl,o6⟩) J.nil))) (by decide);refine dz (fn:=Tryz.f11) (c:=(Tryz.f11.body).getD .skip) (args:=[wV lines ov rv next,sv,recv]) Tryz.func11 rfl (bp _ ?_);show aC none n E0.P _ c9 _ _;have O9:Ag SX y0 y0:=⟨⟨rfl,agm⟩,⟨⟨rfl,o0⟩,⟨rfl,o1⟩,⟨rfl,o2⟩,⟨rfl,o5⟩,⟨rfl,o6⟩,agm⟩,agm,agm⟩;refine ad.dc (aq aB Mb) rfl 4 aj9 bB (aA.dU ?_) rfl y0 (O9.au rfl rfl rfl rfl) fun φ a w1 b9 hd hg _ n1 n2 n3 n4=> ?_
 ·refine⟨agm,agm,agm,agm,agm,agm,agm,agm,⟨?_,agm⟩⟩
  intro af hle args' ha;have:=fW (φ:=af) (lines:=lines) (ov:=ov) (rv:=rv) (next:=next) (by rw[hle.qy];rfl) (by rw[hle.qy];rfl) (by rw[hle.qy];rfl) (by rw[hle.sy];rfl) ha;subst this;refine⟨⟨_,_,Tryz.func24,rfl,rfl⟩,fun n w' hk=> ?_⟩;refine(As (n:=n) (G.aJ fun r c T _ ho=>hk r _ ho) hW bU).mono ?_;rintro e w'' ⟨v,h1,rfl,h3⟩;exact⟨_,h1,by simp only[VR],h3⟩
 show aC none n E0.P _ (c9.drop 4) a w1;obtain⟨id4,pJ⟩:=aer;rw[pJ];refine b8 ?_;refine ad.gz (aq aB {}) rfl 2 aka b9 bx.dU _ (O9.cL ⟨n1,n2,n3,n4⟩) fun φ a2 w2 dx mF iK _ n1 n2 n3 n4=> ?_
 have D7:=hg.trans iK;have k02:∀(r:Nat) (o:Obj),w.heap[r]? =some o->w2.heap[r]? =some o:=fun r o ho=>D7.at_ rfl ho
 refine dx.eV (l:=(aN (c9.drop 4)).toList.drop 2) (o:=((aN (c9.drop 4)).toList.drop 2).headD default) (rest:=(aN (c9.drop 4)).toList.drop 3) rfl rfl rfl rfl rfl Tryz.func25 rfl rfl (Vs:=[wA,.q 6]) rfl ?_;intro args' ha;have:args'=[wV lines ov rv next,recv]:=by
  simp only[J]at ha;obtain⟨uw,_,rfl,S4,ur,_,rfl,Ie,rfl⟩:=ha;have h1:J φ fD [uw]:=J.cons S4 J.nil;have:=fW (φ:=φ) (lines:=lines) (ov:=ov) (rv:=rv) (next:=next) (agB n2 0) (agB n2 1) (agB n2 2) (agB n1 3) h1;simp only[arL,and_true]at this;simp only[VR]at Ie;rw[this,Ie.1,n2];rfl
 subst this;refine(SG (n:=n-1) (G.kept k02) hW bU (xX.kept k02) (fun r hr=>(jD r hr).kept k02) hn hs hW2 aeB yi SH wS).mono ?_;rintro e w3 ⟨v,rfl,⟨iP,uB,qV,l',na,rfl,uN⟩,gG⟩;refine⟨_,rfl,?_⟩;have p0:=uN.gw.BA.one;have p1:=uN.gw.bS.one;have p2:=uN.gw.roots.one;have NY:=D7.trans (gG.gb D7.size);obtain⟨φ,ez,n1,n2,n3,n4⟩:=dx.conv akb (dg [] [.bool false,.bool false,.bool false,.bool false,.bool false,sv,recv] [] []) (by
  refine bC trivial ⟨?_,?_,agm⟩ trivial trivial
  ·simp only[VR];exact⟨(agB n2 5).symm,o5⟩
  ·simp only[VR];exact⟨(agB n2 6).symm,o6⟩)
 let y1:Sym:=dg [0,0,0,0,s.next,rl.length] [.bool false,.bool false,.bool false,.bool false,.bool false,sv,recv,iP,uB,qV] [] [];obtain⟨φ,ez,n1,n2,n3,n4⟩:=ez.grow gG akc (y:=y1) ⟨agm,⟨⟨(agB n2 5).symm,o5⟩,⟨(agB n2 6).symm,o6⟩,agm⟩,agm,agm⟩;have hwB:∀φ:Ren,φ.q 7=iP->φ.q 8=uB->φ.q 9=qV->φ.s 4=s.next->VR φ wB (wV iP uB qV s.next):=fun φ h7 h8 h9 h4=>by
  simp only[wB,VR];refine⟨_,rfl,J.cons ?_ (J.cons ?_ (J.cons ?_ (J.cons ?_ J.nil)))⟩
  ·simp only[VR];exact⟨h7.symm,p0⟩
  ·simp only[VR];exact⟨h8.symm,p1⟩
  ·simp only[VR];exact⟨h9.symm,p2⟩
  ·simp only[VR,h4]
 have ez:=ez.put (d:=20) (by decide) (x:=.t [wB,.y .i64 5,.i .i64 0]) (v:=.tuple #[wV iP uB qV s.next,.int .i64 rl.length,.int .i64 0]) (by
  simp only[VR];refine⟨_,rfl,J.cons (hwB φ (agB n2 7) (agB n2 8) (agB n2 9) (agB n1 4)) (J.cons ?_ (J.cons vI J.nil))⟩;simp only[VR];rw[show φ.s 5=rl.length from agB n1 5])
 have lR:Ag AU y1 y1:=⟨⟨rfl,agm⟩,⟨⟨rfl,o5⟩,⟨rfl,o6⟩,⟨rfl,p0⟩,⟨rfl,p1⟩,⟨rfl,p2⟩,agm⟩,agm,agm⟩;refine ad.gz (aq aB {}) rfl 100 akd ez bx.dU _ (lR.cL ⟨n1,n2,n3,n4⟩) fun φ a4 w4 ll sS pV D8 n1 n2 n3 n4=> ?_
 show aC none n E0.P _ (c9.drop 5) a4 w4;have JC:a4.defers=[]:=by rw[sS];show a2.defers=[];rw[mF,hd]
 refine ad.dc (aq aB {}) rfl 2 (cs:=c9.drop 5) ake ll bx.dU JC _ (lR.cL ⟨n1,n2,n3,n4⟩) fun φ a5 w5 wE vL vM GA n1 n2 n3 n4=> ?_
 show aC none n E0.P _ (c9.drop 7) a5 w5;obtain⟨id7,Vr⟩:=aet;rw[Vr];refine b8 ?_;refine ad.gz (aq aB {}) rfl 1 akf wE bx.dU _ (lR.cL ⟨n1,n2,n3,n4⟩) fun φ a6 w6 qT Ao Ap LN n1 n2 n3 n4=> ?_
 have kc6:cT w3 w6 wT:=((D8.aJ rfl).trans (GA.aJ rfl)).trans (LN.aJ rfl);have ZR:JZ w6 s iP uB qV l' na:=⟨uN.gw.aJ kc6,uN.whole,uN.bS,uN.roots⟩;have O7:=((NY.trans pV).trans vM).trans Ap;refine qT.eV (l:=(aN (c9.drop 7)).toList.drop 1) (o:=((aN (c9.drop 7)).toList.drop 1).headD default) (rest:=(aN (c9.drop 7)).toList.drop 2) rfl rfl rfl rfl rfl Tryz.func26 rfl rfl (Vs:=[wB]) rfl ?_;intro args' ha;have:args'=[wV iP uB qV s.next]:=by
  simp only[J,wB,VR]at ha;obtain⟨_,_,rfl,⟨cs,rfl,_,_,e1,⟨rfl,_⟩,_,_,rfl,⟨rfl,_⟩,_,_,rfl,⟨rfl,_⟩,_,_,rfl,rfl,rfl⟩,rfl⟩:=ha;rw[n1,n2]at e1;unfold wV
  congr 2
  exact AAA.1 e1
 subst this;refine(JB (n-1) w6 iP uB qV l' na ZR).mono ?_;rintro e w7 ⟨v,rfl,⟨uv,row,rfl,bQ,hu⟩,GC⟩;refine⟨_,rfl,?_⟩;have g07:=O7.trans (GC.gb O7.size);have p10:=hu.one;have Xm:cr w7 101 2 qV (cg na):=ZR.gw.roots.grown GC;let y2:Sym:=lY 0 s.next (.bool false) (.bool false) (.bool false) sv recv iP uB qV uv N s.roots.length (gH sl rl).length row (cg na) 0;obtain⟨φ,hs7,n1,n2,n3,n4⟩:=qT.grow GC aeu (y:=y2) ⟨⟨(agB n1 4).symm,agm⟩,⟨⟨(agB n2 5).symm,o5⟩,⟨(agB n2 6).symm,o6⟩,⟨(agB n2 7).symm,p0⟩,⟨(agB n2 8).symm,p1⟩,⟨(agB n2 9).symm,p2⟩,agm⟩,agm,agm⟩;have hs7:=hs7.put (d:=29) (by decide) (x:=.t [.q 10,.i .i64 0]) (v:=.tuple #[uv,.int .i64 0]) (by
  simp only[VR];refine⟨_,rfl,J.cons ?_ (J.cons vI J.nil)⟩;simp only[VR];exact⟨(agB n2 10).symm,p10⟩)
 have kq:Ag Ey y2 y2:=⟨⟨rfl,agm⟩,⟨⟨rfl,o5⟩,⟨rfl,o6⟩,⟨rfl,p0⟩,⟨rfl,p1⟩,⟨rfl,p2⟩,⟨rfl,p10⟩,agm⟩,agm,agm⟩;refine ad.gz (aq aB {}) rfl 100 akg hs7 bx.dU _ (kq.cL ⟨n1,n2,n3,n4⟩) fun φ a8 w8 SI Pd Xn hk8 n1 n2 n3 n4=> ?_
 show aC none n E0.P _ (c9.drop 8) a8 w8;have aoU:a8.defers=[]:=by rw[Pd];show a6.defers=[];rw[Ao,vL]
 refine ad.dc (aq aB {}) rfl 2 (cs:=c9.drop 8) akh SI bx.dU aoU _ (kq.cL ⟨n1,n2,n3,n4⟩) fun φ a9 w9 Oe hd9 hg9 hk9 n1 n2 n3 n4=> ?_
 show aC none n E0.P _ (c9.drop 10) a9 w9;have kc9:cT w7 w9 [3,101]:=(hk8.aJ rfl).trans (hk9.aJ rfl);have g09:=(g07.trans Xn).trans hg9;obtain⟨φ,hsA,m1,m2,m3,m4⟩:=Oe.gY aew (y:=y2) (kq.pY n1 n2 n3 n4);obtain⟨φB,hsB,hyB⟩:=hsA.jb (Xm.aJ kc9 (by decide)) rfl 9 1 (agB m2 9) (agB m3 1);obtain⟨CJ,hsC,hyC⟩:=hsB.jb (hu.aJ kc9 (by decide)) rfl 10 0 (by show φB.y.q 10=_;rw[hyB];exact agB m2 10) (by show φB.y.w 0=_;rw[hyB];exact agB m3 0);have cs:CJ.y.s=y2.s:=by rw[hyC,hyB];exact m1
 have cq:CJ.y.q=y2.q:=by rw[hyC,hyB];exact m2
 have cw:CJ.y.w=y2.w:=by rw[hyC,hyB];exact m3
 have aeC:na.length=s.roots.length:=uN.roots.length_eq;have facts:∀bn,cI (fun e:BinOp×V×V×V=>fT CJ.y e.1 e.2.1 e.2.2.1 e.2.2.2) bn->aA Tryz.prog (xg bn) CJ:=fun bn yE=>by
  refine⟨agm,yE,agm,⟨⟨N,(by show 0<1;decide),?_,?_⟩,⟨s.roots.length,(by show 0<2;decide),?_,?_⟩,agm⟩,agm,agm,agm,agm,⟨?_,agm⟩⟩
  ·show N*1=(CJ.y.w 0).length
   rw[cw,Nat.mul_one];exact bQ.symm
  ·show CJ.y.s 11=_
   rw[cs];rfl
  ·show s.roots.length*2=(CJ.y.w 1).length
   rw[cw];show _=(cg na).length;rw[fk,aeC]
  ·show CJ.y.s 12=_
   rw[cs];rfl
  ·intro af hle args' ha
   simp only[J,VR]at ha;obtain⟨_,_,rfl,⟨rfl,_⟩,_,_,rfl,⟨rfl,_⟩,rfl⟩:=ha;have e5:af.q 5=sv:=by rw[hle.qy];show CJ.y.q 5=_;rw[cq];rfl
   have e6:af.q 6=recv:=by rw[hle.qy];show CJ.y.q 6=_;rw[cq];rfl
   have e13:af.s 13=(gH sl rl).length:=by rw[hle.sy];show CJ.y.s 13=_;rw[cs];rfl
   rw[e5,e6];refine⟨⟨_,_,Tryz.func28,rfl,rfl⟩,fun n w' hk=> ?_⟩;have kk:∀(r:Nat) (o:Obj),w.heap[r]? =some o->w'.heap[r]? =some o:=fun r o ho=>hk r o (by
    rw[hsC.kB (Array.getElem?_eq_some_iff.1 ho).1];exact g09.at_ rfl ho)
   refine(SR (n:=n) (ZQ.kept kk) (xX.kept kk) (fun r hr=>(jD r hr).rn') uO hn).mono ?_;rintro e w'' ⟨v,h1,rfl,h3⟩;exact⟨_,h1,by simp only[VR,e13],h3⟩
 have s11:CJ.y.s 11=N:=by rw[cs];rfl
 have s12:CJ.y.s 12=s.roots.length:=by rw[cs];rfl
 have s13:CJ.y.s 13=(gH sl rl).length:=by rw[cs];rfl
 have bO:∀t,decide ((200:Int)<N)=t->fT CJ.y .gtr (.y .i64 11) (.i .i64 200) (.b t):=fun t ht=>.gtr (k:=.i64) (x:=N) (y:=200) (by simp only[aR,s11]) rfl ht
 have bR:∀t,decide ((20:Int)<s.roots.length)=t->fT CJ.y .gtr (.y .i64 12) (.i .i64 20) (.b t):=fun t ht=>.gtr (k:=.i64) (x:=s.roots.length) (y:=20) (by simp only[aR,s12]) rfl ht
 have bN:∀t,decide ((8:Int)<(gH sl rl).length)=t->fT CJ.y .gtr (.y .i64 13) (.i .i64 8) (.b t):=fun t ht=>.gtr (k:=.i64) (x:=(gH sl rl).length) (y:=8) (by simp only[aR,s13]) rfl ht
 have fin:∀(bn:List (BinOp×V×V×V)) (x:Nat),cI (fun e:BinOp×V×V×V=>fT CJ.y e.1 e.2.1 e.2.2.1 e.2.2.2) bn->av (ar E0 (xg bn)) 200 ((c9.drop 10).take 2) (U 48 AW) (ak 3 AX) .r {} 48 [(6,.i .i64 x)] 0 []=true->lim N s.roots.length (gH sl rl).length=x->
   aC none n E0.P (fun e a' w'=>(e=.ret\/e=.normal)/\a'.defers=[]/\∃v,(results Tryz.f11 a'.tmps).run Tryz.prog w'=.ok v w'/\∃u,arM v=.returned u/\u=.int .i64 (lim N s.roots.length (gH sl rl).length)/\Grown w w') (c9.drop 10) a9 w9:=fun bn x yE ba hx=>by
  refine ad.dc (aq aB _) rfl 2 (cs:=c9.drop 10) ba hsC (aA.dU (facts bn yE)) hd9 y2 (Ag.au (o:=CJ.y) ⟨agm,agm,agm,agm⟩ rfl rfl rfl rfl) fun φ aa wa hsa hda hga _ _ _ _ _=>⟨.inl rfl,hda,?_⟩
  obtain⟨v,gE,ff⟩:=hsa.leave aB (fn:=Tryz.f11) (l:=[.i .i64 x]) rfl;refine⟨v,gE,v,rfl,?_,(g09.trans hga).grown⟩;simp only[fG,VR]at ff;rw[ff,hx]
 by_cases h1:200<N
 ·exact fin [gO true] 250 ⟨bO true (by simp;omega),agm⟩ aex (by simp[lim,h1])
 ·by_cases h2:20<s.roots.length
  ·exact fin [gO false,gR true] 251 ⟨bO false (by simp;omega),bR true (by simp;omega),agm⟩ aey (by simp[lim,h1,h2])
  ·by_cases h3:8<(gH sl rl).length
   ·exact fin [gO false,gR false,gN true] 252 ⟨bO false (by simp;omega),bR false (by simp;omega),bN true (by simp;omega),agm⟩ aez (by simp[lim,h1,h2,h3])
   ·exact fin [gO false,gR false,gN false] 0 ⟨bO false (by simp;omega),bR false (by simp;omega),bN false (by simp;omega),agm⟩ aeA (by simp[lim,h1,h2,h3])
noncomputable def E2:Env:={E1 with eh:=eh2}
theorem aki:E2.OK:=by
 refine⟨rP.ty,rP.fn,rP.mixed,rP.hl,rP.qh,?_,rP.xh⟩;intro f args h v h' e0 φ w args' ha hr;have e:eh2 f args h=some (v,h'):=e0;clear e0;unfold eh2 at e;cases h1:Nat.beq f 39 with
 |true=>
  rw[h1]at e;have:=arT h1;subst this;exact⟨⟨_,_,Tryz.func39,rfl,rfl⟩,fun n=>LH hr e ha n⟩
 |false=>
  rw[h1]at e;cases h2:Nat.beq f 22 with
  |true=>
   rw[h2]at e;have:=arT h2;subst this;exact⟨⟨_,_,Tryz.func22,rfl,rfl⟩,fun n=>LI hr e ha n⟩
  |false=>rw[h2]at e;cases e
noncomputable def c8h:List Code:=ct ((Tryz.f10.body).getD .skip)
def GX:List V:=[.y .i64 1,.q 2]
def GY:List (Nat×aQ):=[(2,.cells [.s lU,.sl (some (3,0)) 1 (.kn 1),.sl none 0 (.kn 0)] 96 false),(3,.cells [.s fN,.i .i64 3,.i .i64 0,.b false] 93 false)]
def Mk(x r:V):aQ:=.cells [.sl (some (2,0)) 1 (.kn 1),x,r,.y .i64 3] 47 false
def dK:List (Nat×V):=[(0,.y .i64 1),(1,.q 2),(4,.p (some (0,0))),(5,.p (some (1,0))),(6,.y .i64 0)]
def tg:List (Nat×aQ):=[(0,zW),(1,Mk nl nl)]++GY
def S5:aU:={bin:=[(.add,.y .i64 1,.i .i64 1,.y .i64 3)]}
def aeD:bP:={s:=[(0,.i 1),(1,.y 1),(3,.y 3)],q:=[(2,.q 2)]}
theorem akj:av (ar E0 S5) 100 (c8h.take 3) ⟨55,load GX 0 .leaf⟩ (ak 0 []) .n aeD 55 dK 4 tg=true:=by decide+kernel
noncomputable def lA:List Code:=roundOf (c8h.drop 3)
def iH:List (Nat×aQ):=[(0,zW),(1,Mk (.sr 4 2 0 4) nl),(4,.row 2 [] 51)]++GY
def AY(e:Bool):aU:={bd:=[(7,0,100000)],bin:=[(.leq,.y .i64 0,.y .i64 1,.b true),(.add,.y .i64 0,.i .i64 1,.y .i64 5),(.eql,.y .i64 0,.y .i64 1,.b e)],rz:=[(2,4)],rl:=[(2,0,7)]}
def qi:List V:=[.y .i64 4,.i .i64 0,.i .i64 0,.sl (some (5,0)) 1 (.kn 1)]
def ou(k v:V):List (Nat×aQ):=[(0,zW),(1,Mk (.sl (some (4,0)) 1 (.un 4)) nl),(4,.cells qi 51 true),(5,rN k v)]++GY
def oz(k v:V):List (Nat×aQ):=[(0,zW),(1,Mk (.sr 4 2 1 4) nl),(4,.row 2 qi 51),(5,rN k v)]++GY
def xi(w:List (Nat×WV)):bP:={s:=[(0,.y 5),(1,.y 1),(3,.y 3),(4,.y 0),(6,.y 5)],q:=[(2,.q 2)],w:=w}
theorem aeE:av (ar E0 (AY false)) 200 (lA.take 100) (U 55 dK) (ak 4 tg) .n (xi []) 55 dK 6 (ou kY vYh)=true:=by decide+kernel
theorem aeF:av (ar E0 (AY true)) 200 (lA.take 100) (U 55 dK) (ak 4 tg) .n (xi []) 55 dK 6 (ou kN kN)=true:=by decide+kernel
theorem aeG:av (ar E0 (AY false)) 200 (lA.take 100) (U 55 dK) (ak 5 iH) .n (xi [(2,.same 2)]) 55 dK 6 (oz kY vYh)=true:=by decide+kernel
theorem aeH:av (ar E0 (AY true)) 200 (lA.take 100) (U 55 dK) (ak 5 iH) .n (xi [(2,.same 2)]) 55 dK 6 (oz kN kN)=true:=by decide+kernel
def xj:bP:={s:=[(0,.y 0),(1,.y 1),(3,.y 3)],q:=[(2,.q 2)],w:=[(2,.fold 4)]}
theorem Xo:(bG xj (U 55 dK) (ak 6 (ou kY vYh)) 55 dK 5 iH).isSome=true:=by decide+kernel
theorem Xp:(bG xj (U 55 dK) (ak 6 (ou kN kN)) 55 dK 5 iH).isSome=true:=by decide+kernel
theorem Xq:(bG xj (U 55 dK) (ak 6 (oz kY vYh)) 55 dK 5 iH).isSome=true:=by decide+kernel
theorem Xr:(bG xj (U 55 dK) (ak 6 (oz kN kN)) 55 dK 5 iH).isSome=true:=by decide+kernel
def aeI:bP:={s:=[(0,.y 0),(1,.y 1),(3,.y 3)],q:=[(2,.q 2)]}
def S6:bP:={s:=[(0,.y 0),(1,.y 1),(3,.y 3)],q:=[(2,.q 2)],w:=[(2,.same 2)]}
theorem aeJ:aW aeI 55 dK 4 tg=true:=by decide+kernel
theorem aeK:aW S6 55 dK 5 iH=true:=by decide+kernel
def S7:aU:={bin:=[(.leq,.y .i64 0,.y .i64 1,.b false)]}
theorem akk:av (ar E0 S7) 100 (lA.take 100) (U 55 dK) (ak 5 iH) (.e 0) S6 55 dK 5 iH=true:=by decide+kernel
def qj(i:Nat):List Nat:=[114,48+i/10%10,48+i%10]
def J3(m:Nat):List V:=(arF m).flatMap fun i=>[.s (qj i),.i .i64 1]
def J4.aeL(m:Nat):aQ:=.cells [.sl (some (2,0)) 1 (.kn 1),.sr 4 2 0 4,.sl (some (6,0)) m (.un 2),.y .i64 3] 47 false
def J4(m:Nat):List (Nat×aQ):=[(0,J4.aeL m),(4,.row 2 [] 51),(6,.cells (J3 m) 101 true)]++GY
noncomputable def S8(m:Nat):Bool:=av (ar E0 {rz:=[(2,4)]}) 3000 ((c8h.drop 4).take 10) (U 55 (jG 2 (.i .i64 m) dK)) (ak 5 (iO 2 (.i .i64 m) iH)) .r {s:=[(3,.y 3)],w:=[(2,.same 2)]} 55 [(4,.p (some (0,0)))] 7 (J4 m)
theorem S9:S8 1=true:=by decide+kernel
theorem Xs:S8 20=true:=by decide+kernel
def th(N i:Nat):O:=⟨i+1,if i+1=N then 0 else i+2⟩
def jg(N:Nat):List O:=(arF N).map (th N)
def dw(m:Nat):List (ByteArray×Nat):=(arF m).map fun i=>(bytes (qj i),1)
def cY(N:Nat)(mv:Value)(i k:Nat)(row:List Value):Sym:=dg [i,N,0,(N+1:Nat),0,(i+1:Nat),0,k] [.bool false,.bool false,mv] [[],[],row] []
def Xu(w:World)(N:Nat)(mv:Value):Nat->Act->World->Prop
 |0,a,w'=>∃φ,ad φ w.heap.size (U 55 dK) (ak 4 tg) a w'/\a.defers=[]/\GB w.heap.size w w'/\bD φ (dg [1,N,0,(N+1:Nat)] [.bool false,.bool false,mv] [] [])
 |j+1,a,w'=>∃φ lc,ad φ w.heap.size (U 55 dK) (ak 5 iH) a w'/\a.defers=[]/\GB w.heap.size w w'/\bD φ (dg [(j+2:Nat),N,0,(N+1:Nat)] [.bool false,.bool false,mv] [[],[],aZ lc] [])/\lc.map (·.1)=(arF (j+1)).map (th N)/\∀p∈lc,cB w' p
theorem Og{N i k:Nat}{e:Bool}(hN:N<=90000)(hi:i<=N)(he:decide (i=N)=e)(s0:φ.y.s 0=i)(s1:φ.y.s 1=N)(s5:φ.y.s 5=(i+1:Nat))(s7:φ.y.s 7=k)(hk:k<=100000)(hw:(φ.y.w 2).length=k*4):aA Tryz.prog (AY e) φ:=by
 refine⟨⟨⟨?_,?_⟩,agm⟩,⟨?_,?_,?_,agm⟩,agm,⟨⟨k,(by show 0<4;decide),hw.symm,s7⟩,agm⟩,agm,agm,agm,agm,agm⟩
 ·show(0:Int)<=φ.y.s 7;rw[s7];omega
 ·show φ.y.s 7<=(100000:Int);rw[s7];omega
 ·exact .leq (k:=.i64) (x:=i) (y:=N) (by simp only[aR,s0]) (by simp only[aR,s1]) (by simp;omega)
 ·exact .add (k:=.i64) (x:=i) (y:=1) (by simp only[aR,s0]) rfl (by simp only[aR,s5];rfl) (i64_in (by omega))
 ·exact .eql (k:=.i64) (x:=i) (y:=N) (by simp only[aR,s0]) (by simp only[aR,s1]) (by rw[<-he];exact decide_eq_decide.2 (by omega))
theorem Ta{n:Nat}{w:World}{N:Nat}{mv:Value}(hN:N<=90000)(Xv:mv.oneCell'=true){j:Nat}(hj:j<N){a:Act}{w':World}(h:Xu w N mv j a w'):aC none n E0.P (fun e a' w''=>e=.normal/\Xu w N mv (j+1) a' w'') lA a w':=by
 have key:∀(e:Bool) (k v:V) (nb:Nat) (HB G:List (Nat×aQ)) (wt:List (Nat×WV)) (lc:List (O×Value)),decide (j+1=N)=e->(∀φ:Ren,φ.s 6=((j+2:Nat):Int)->∀vs,J φ [k,v,.s [],.sl none 0 (.kn 0)] vs->vs=(dB (th N j)).toList)->
   av (ar E0 (AY e)) 200 (lA.take 100) (U 55 dK) (ak nb HB) .n (xi wt) 55 dK 6 G=true->(bG xj (U 55 dK) (ak 6 G) 55 dK 5 iH).isSome=true->(wt=[]\/wt=[(2,.same 2)])->[98].all (fun T=>rG T (lI HB))=true->mO G 5=rN k v->
   (∀φ a w,ad φ w.heap.size (U 55 dK) (ak 6 G) a w->True)->
   (∀φ B a w1,ad φ B (U 55 dK) (ak 6 G) a w1->φ.w 2=aZ lc->∃r c vs,φ 4=some r/\w1.heap[r]? =some (.cells c 51 (0,0))/\J φ qi vs/\(∀z l e',(ak 6 G).get 4=.row z l e'->c.toList.take ((φ.w z).length+l.length)=aZ lc++vs)/\(∀l e' g,(ak 6 G).get 4=.cells l e' g->c.toList.take l.length=aZ lc++vs))->
   lc.length=j->lc.map (·.1)=(arF j).map (th N)->(∀p∈lc,cB w' p)->
   ∀φ:Ren,ad φ w.heap.size (U 55 dK) (ak nb HB) a w'->a.defers=[]->GB w.heap.size w w'->bD φ (cY N mv (j+1) lc.length (aZ lc))->aC none n E0.P (fun e a' w''=>e=.normal/\Xu w N mv (j+1) a' w'') lA a w':=by
  intro e k v nb HB G wt lc he mZ ba pR hwt hT h5 _ hex Ia qU iz φ hs hd hg hn;obtain⟨n1,n2,n3,n4⟩:=hn;have W4:Ag (xi wt) (cY N mv (j+1) lc.length (aZ lc)) (dg [(j+2:Nat),N,0,(N+1:Nat),(j+1:Nat),0,(j+2:Nat)] [.bool false,.bool false,mv] [[],[],aZ lc] []):=by
   refine⟨⟨rfl,rfl,rfl,rfl,rfl,agm⟩,⟨⟨rfl,Xv⟩,agm⟩,?_,agm⟩;rcases hwt with rfl|rfl
   ·exact agm
   ·exact⟨rfl,agm⟩
  refine ad.dc (aq aB (AY e)) rfl 100 (cs:=lA) ba hs (aA.dU (Og hN (by omega) he (agB n1 0) (agB n1 1) (agB n1 5) (agB n1 7) (by omega) (by rw[show φ.y.w 2=aZ lc from agB n3 2,fh]))) hd _ (W4.au n1 n2 n3 n4) fun af a' w'' cu cy dh jS e1 e2 e3 e4=>⟨rfl,?_⟩
  obtain⟨r4,c4,vs,h4,g4,v4,t1,t2⟩:=hex af _ a' w'' cu (agB e3 2);have Fb:=v4;simp only[qi,J,VR]at v4;obtain⟨_,_,rfl,rfl,_,_,rfl,rfl,_,_,rfl,rfl,_,_,rfl,⟨r5,WY,_,rfl⟩,rfl⟩:=v4;have s4:af.s 4=((j+1:Nat):Int):=agB e1 4;obtain⟨c5,g5,v5,_,z5,_⟩:=cu.hr.cx WY (l:=[k,v,.s [],.sl none 0 (.kn 0)]) h5;have z5:=z5 rfl;rw[arR (by rw[arV,z5];exact arQ _)]at v5;have hc5:c5=dB (th N j):=AAA.1 (mZ af (agB e1 6) _ v5);subst hc5;have akl:cB w'' (th N j,.slice (some ⟨r5,0,none⟩) 1 1):=⟨r5,rfl,g5⟩;rw[s4]at t1 t2;have oZ:Agree xj af (ak 6 G) w'' (dg [(j+2:Nat),N,0,(N+1:Nat)] [.bool false,.bool false,mv] [[],[],aZ (lc++[(th N j,.slice (some ⟨r5,0,none⟩) 1 1)])] []):=by
   refine bC ⟨(agB e1 0).symm,(agB e1 1).symm,(agB e1 3).symm,agm⟩ ⟨?_,agm⟩ ⟨?_,agm⟩ trivial
   ·simp only[VR];exact⟨(agB e2 2).symm,Xv⟩
   ·intro r cs e' hr ib
    rw[h4]at hr;cases hr;rw[g4]at ib;cases ib;have bQ:aZ (lc++[(th N j,.slice (some ⟨r5,0,none⟩) 1 1)])=aZ lc++[.int .i64 ((j+1:Nat):Int),.int .i64 0,.int .i64 0,.slice (some ⟨r5,0,none⟩) 1 1]:=by simp[aZ,gK,th]
    exact⟨fun z l e h=>by rw[t1 z l e h];exact bQ,fun l e g h=>by rw[t2 l e g h];exact bQ⟩
  obtain⟨aV,dx,j1,j2,j3,j4⟩:=cu.conv pR _ oZ;refine⟨aV,_,dx,cy,hg.trans dh,⟨j1,j2,j3,j4⟩,by rw[arH,qU,List.range_succ,arH];rfl,fun p hp=> ?_⟩;rcases List.mem_append.1 hp with hp|hp
  ·exact(iz p hp).aJ (jS.aJ hT) (by decide)
  ·simp only[List.mem_singleton]at hp;subst hp;exact akl
 have hY:j+1≠N->∀φ:Ren,φ.s 6=((j+2:Nat):Int)->∀vs,J φ [kY,vYh,.s [],.sl none 0 (.kn 0)] vs->vs=(dB (th N j)).toList:=fun bU φ h6 vs hv=>by
  simp only[kY,vYh,J,VR]at hv;obtain⟨_,_,rfl,rfl,_,_,rfl,rfl,_,_,rfl,⟨rfl,_⟩,_,_,rfl,⟨_,rfl⟩,rfl⟩:=hv;rw[h6];simp[dB,th,bU]
 have hNn:j+1=N->∀φ:Ren,φ.s 6=((j+2:Nat):Int)->∀vs,J φ [kN,kN,.s [],.sl none 0 (.kn 0)] vs->vs=(dB (th N j)).toList:=fun he φ h6 vs hv=>by
  simp only[kN,J,VR]at hv;obtain⟨_,_,rfl,rfl,_,_,rfl,rfl,_,_,rfl,⟨rfl,_⟩,_,_,rfl,⟨_,rfl⟩,rfl⟩:=hv;simp[dB,th,he]
 have ex0:∀k v,∀φ B a w1,ad φ B (U 55 dK) (ak 6 (ou k v)) a w1->φ.w 2=aZ []->∃r c vs,φ 4=some r/\w1.heap[r]? =some (.cells c 51 (0,0))/\J φ qi vs/\(∀z l e',(ak 6 (ou k v)).get 4=.row z l e'->c.toList.take ((φ.w z).length+l.length)=aZ []++vs)/\(∀l e' g,(ak 6 (ou k v)).get 4=.cells l e' g->c.toList.take l.length=aZ []++vs):=fun k v φ B a w1 hs hw=>by
  obtain⟨r1,h1⟩:=hs.ptr 5 rfl;obtain⟨c1,_,v1,_⟩:=hs.hr.cx h1 (l:=[.sl (some (2,0)) 1 (.kn 1),.sl (some (4,0)) 1 (.un 4),nl,.y .i64 3]) rfl;simp only[J,VR]at v1;obtain⟨_,_,_,_,_,_,_,⟨r4,cap,h4,_⟩,_⟩:=v1;obtain⟨c4,g4,v4,z4,_,_⟩:=hs.hr.cx h4 (l:=qi) rfl;refine⟨r4,c4,_,h4,g4,v4,fun z l e' h=> ?_,fun l e' g h=> ?_⟩
  ·rw[aH]at h;cases h
  ·rw[aH]at h;cases h;rfl
 have ex1:∀k v lc,∀φ B a w1,ad φ B (U 55 dK) (ak 6 (oz k v)) a w1->φ.w 2=aZ lc->∃r c vs,φ 4=some r/\w1.heap[r]? =some (.cells c 51 (0,0))/\J φ qi vs/\(∀z l e',(ak 6 (oz k v)).get 4=.row z l e'->c.toList.take ((φ.w z).length+l.length)=aZ lc++vs)/\(∀l e' g,(ak 6 (oz k v)).get 4=.cells l e' g->c.toList.take l.length=aZ lc++vs):=fun k v lc φ B a w1 hs hw=>by
  obtain⟨r1,h1⟩:=hs.ptr 5 rfl;obtain⟨c1,_,v1,_⟩:=hs.hr.cx h1 (l:=[.sl (some (2,0)) 1 (.kn 1),.sr 4 2 1 4,nl,.y .i64 3]) rfl;simp only[J,VR]at v1;obtain⟨_,_,_,_,_,_,_,⟨r4,nn,cap,h4,_⟩,_⟩:=v1;obtain⟨c4,vs,g4,v4,t4,z4,_⟩:=hs.hr.Q9 h4 (x:=2) (l:=qi) rfl;refine⟨r4,c4,vs,h4,g4,v4,fun z l e' h=> ?_,fun l e' g h=> ?_⟩
  ·rw[aH]at h;cases h;rw[t4,hw]
  ·rw[aH]at h;cases h
 cases j with
 |zero=>
  obtain⟨φ,hs,hd,hg,n1,n2,n3,n4⟩:=h;obtain⟨ay,b9,m1,m2,m3,m4⟩:=hs.gY aeJ (y:=cY N mv 1 0 []) ⟨⟨(agB n1 0).symm,(agB n1 1).symm,(agB n1 3).symm,agm⟩,⟨⟨(agB n2 2).symm,Xv⟩,agm⟩,agm,agm⟩
  by_cases he:0+1=N
  ·exact key true kN kN 4 tg (ou kN kN) [] [] (by simp[he]) (hNn he) aeF Xp (.inl rfl) rfl rfl (fun _ _ _ _=>trivial) (ex0 kN kN) rfl rfl (fun _ h=>by cases h) ay b9 hd hg ⟨m1,m2,m3,m4⟩
  ·exact key false kY vYh 4 tg (ou kY vYh) [] [] (by simp[he]) (hY he) aeE Xo (.inl rfl) rfl rfl (fun _ _ _ _=>trivial) (ex0 kY vYh) rfl rfl (fun _ h=>by cases h) ay b9 hd hg ⟨m1,m2,m3,m4⟩
 |succ j=>
  obtain⟨φ,lc,hs,hd,hg,⟨n1,n2,n3,n4⟩,qU,iz⟩:=h;have hlen:lc.length=j+1:=by have:=congrArg List.length qU;simpa using this
  obtain⟨ay,b9,m1,m2,m3,m4⟩:=hs.gY aeK (y:=cY N mv (j+1+1) lc.length (aZ lc)) ⟨⟨(agB n1 0).symm,(agB n1 1).symm,(agB n1 3).symm,agm⟩,⟨⟨(agB n2 2).symm,Xv⟩,agm⟩,⟨(agB n3 2).symm,agm⟩,agm⟩
  by_cases he:j+1+1=N
  ·exact key true kN kN 5 iH (oz kN kN) [(2,.same 2)] lc (by simp[he]) (hNn he) aeH Xr (.inr rfl) rfl rfl (fun _ _ _ _=>trivial) (ex1 kN kN lc) hlen qU iz ay b9 hd hg ⟨m1,m2,m3,m4⟩
  ·exact key false kY vYh 5 iH (oz kY vYh) [(2,.same 2)] lc (by simp[he]) (hY he) aeG Xq (.inr rfl) rfl rfl (fun _ _ _ _=>trivial) (ex1 kY vYh lc) hlen qU iz ay b9 hd hg ⟨m1,m2,m3,m4⟩
noncomputable def c34:List Code:=ct ((Tryz.f93.body).getD .skip)
noncomputable def J5(l:List Nat):Bool:=l.all (fun x=>Nat.blt x 256)&&av (ar E0 {}) 400 (c34.take 50) ⟨Tryz.f93.ntmps,load [.s l] 0 .leaf⟩ (ak 0 []) .r {} Tryz.f93.ntmps [(2,.b true)] 0 []
theorem Tc{l:List Nat}(h:J5 l=true):RN (bytes l):=by
 simp only[J5,Bool.and_eq_true,List.all_eq_true]at h;have h1:∀x∈l,x<256:=fun x hx=>by
  have:=h.1 x hx;have:x+1<=256:=by simpa[Nat.blt]using this
  omega
 intro K;refine⟨⟨_,_,Tryz.func93,rfl,rfl⟩,fun n w _=> ?_⟩;let y0:Sym:=dg [] [] [] [];have bB:=ad.enter (nt:=Tryz.f93.ntmps) (bc y0 w) rfl rfl (vs:=[.s l]) (args:=[.string (bytes l)]) (J.cons (vS h1) J.nil) (by show 1<=_;decide);refine dz (fn:=Tryz.f93) (c:=(Tryz.f93.body).getD .skip) (args:=[.string (bytes l)]) Tryz.func93 rfl (bp _ ?_);show aC none n E0.P _ c34 _ _;refine ad.dc (aq aB {}) rfl 50 h.2 bB bx.dU rfl y0 (Ag.au (o:=y0) ⟨agm,agm,agm,agm⟩ rfl rfl rfl rfl) fun φ a w1 hs hd hg _ _ _ _ _=>⟨.inl rfl,hd,?_⟩
 obtain⟨v,gE,ff⟩:=hs.leave aB (fn:=Tryz.f93) (l:=[.b true]) rfl;exact⟨v,gE,v,rfl,by simpa only[fG,VR]using ff,hg.grown⟩
theorem Td:((arF 20).all fun i=>J5 (qj i))=true:=by decide+kernel
theorem Oh:((arF 19).all fun i=> !(Op.bytesLess ((qj (i+1)).map arP) ((qj i).map arP)||((qj (i+1)).map arP)==((qj i).map arP)))=true:=by decide+kernel
end Go.Ev
