/- A part of what LimitFits rests on. -/
import Derived.Test.YtnpajahfimaakaaGreatDoorA31
import Derived.Test.YtnpajahfimaakaaGreatDoorA20
import Derived.Test.YtnpajahfimaakaaGreatDoorA01
set_option linter.all false
namespace Go.Ev
open List renaming getD_eq_getElem?_getD->aop,all_eq_true->AAA,mem_of_getElem?->arC,getElem?_append_right->arD,getElem?_append_left->arE,flatMap_cons->arF,not_mem_nil->arG,mem_range->arH,mem_cons->arI,mem_cons_self->arJ,mem_flatMap->arK,mem_append->arL,getElem?_eq_some_iff->arM,getElem?_cons_succ->arN,mem_cons_of_mem->arP,length_append->arQ
open Nat renaming mul_succ->arO,add_sub_cancel->arR
open Go.Proofs
variable{α:Type}
def yg(c:Nat->Int)(nv:Nat)(t:Nat->Int)(aP p:Value)(cs:List Value):Sym:=
 {s:=fun x=>match x with|6=>nv|41=>ax (c 21) 12|42=>ax (c 22) 8|43=>ax (c 23) 13|44=>1+ax (c 21) 12|x=>t x,
  q:=fun x=>if x<100 then(match x with|24=>aP|_=>p)else cs.getD (x-100) b0,
  w:=fun _=>[],g:=fun _=>(#[],0),k:=fun _=>none}
theorem ES{ss:List Nat}{k:Nat}{o y:Sym}(s:∀x∈ss,y.s x=o.s x)(q:y.q 24=o.q 24/\(y.q 24).oneCell'=true)(qc:∀x,x<4*k->y.q (100+x)=o.q (100+x)/\(y.q (100+x)).oneCell'=true):Ag (oH ss k) o y:=⟨cH fun x hx=>s x hx,⟨q,cH fun x hx=>qc x (arH.1 hx)⟩,agm,agm⟩
theorem jX{c:Nat->Int}{nv:Nat}{t:Nat->Int}{aP p:Value}{cs:List Value}(x:Nat):(yg c nv t aP p cs).q (100+x)=cs.getD x b0:=by
 show(if 100+x<100 then _ else cs.getD (100+x-100) b0)=_;rw[if_neg (by omega),show 100+x-100=x by omega]
theorem fm{cs:List Value}(h:∀u∈cs,u.oneCell'=true)(x:Nat):(cs.getD x b0).oneCell'=true:=by
 rw[aop];cases e:cs[x]?with
 |none=>rfl
 |some u=>exact h u (arC e)
theorem Bs{a b:List α}{x:Nat}(h:x<a.length)(d:α):(a++b).getD x d=a.getD x d:=by rw[aop,arE h,aop]
theorem ag2{a b:List α}{x n:Nat}(h:a.length=n)(d:α):(a++b).getD (n+x) d=b.getD x d:=by rw[aop,arD (by omega),aop,show n+x-a.length=x by omega]
theorem CZ{K:Nat->Option Obj}{vs:List (List Value×ByteArray)}(h:∀p∈vs,A9 K p):(vs.flatMap (·.1)).length=4*vs.length/\∀u∈vs.flatMap (·.1),u.oneCell'=true:=by
 refine⟨(Kg fun p hp=>(h p hp).len).trans (Nat.mul_comm _ _),fun u hu=> ?_⟩;obtain⟨p,hp,hu⟩:=arK.1 hu;exact(h p hp).one u hu
theorem Yn:∃id b,yz.drop 2=.block id b::yz.drop 3/\ct b=cR:=⟨_,_,rfl,rfl⟩
theorem ank:∃id,cR.drop 1=.region id o18 true::[]:=⟨_,rfl⟩
section
variable {K:Nat->Option Obj} {c:Nat->Int} {aP fs:Value} {nv nf:Nat} {vc:Nat->Nat->Int} {fr:Nat->ji}
structure Uq(K:Nat->Option Obj)(w0:World)(yv:List Value->Sym)(i:Nat)(a:Act)(w':World):Prop where
 ex:∃(φ:Ren) (K1:Nat->Option Obj) (vs:List (List Value×ByteArray)),vs.length=i/\(∀p∈vs,A9 K1 p)/\ad φ w0.heap.size (U 103 (Bq i)) (ak 8 (Bp i)) a w'/\fU K1 φ/\KA K w0.heap.size K1/\a.defers=[]/\GB w0.heap.size w0 w'/\bD φ (yv (vs.flatMap (·.1)))
theorem Yo(ht:tu K)(h:yx K c aP nv vc fs nf fr){w0:World}{i:Nat}(hi:i<nv)(hi5:i<5){m:Nat}{a:Act}{w':World}(hv:Uq K w0 (yg c nv (fun _=>0) aP aF) i a w'):
  aC none m Tryz.prog (fun e a' w''=>e=.normal/\Uq K w0 (yg c nv (fun _=>0) aP aF) (i+1) a' w'') yz a w':=by
 obtain⟨φ,K1,vs,hl,h4,hs,hK,C0,hd,hg,n1,n2,n3,n4⟩:=hv.ex;have o1:=h.aP.one;obtain⟨Yp,rZ⟩:=CZ h4;rw[hl]at Yp;let cs:=vs.flatMap (·.1);have Yp:cs.length=4*i:=Yp;obtain⟨sa,rp,uO⟩:=h.aP.sl;have mi:i∈List.range 5:=arH.2 hi5;have r1:=AAA.1 am8 i mi;have r2:=AAA.1 anb i mi;have r3:=AAA.1 ang i mi;have r8:=AAA.1 agX i mi;have rh:=AAA.1 agY i mi;have rs:=AAA.1 anh i (arH.2 (by omega));have rs2:=AAA.1 agZ i mi;unfold am7 at r1;unfold ana at r2;unfold anf at r3;unfold aaT at r8;unfold aaU at rh;have ag3:∀{t t':Nat->Int} {p p':Value},Ag (oH Pu i) (yg c nv t aP p cs) (yg c nv t' aP p' cs):=fun{t t' p p'}=>ES (fun x hx=>by simp only[Pu,arI,arG,or_false]at hx;rcases hx with rfl|rfl|rfl<;>rfl) ⟨rfl,o1⟩ fun x hx=>by rw[jX,jX];exact⟨rfl,fm rZ x⟩
 have hX1:iZ Tryz.prog {on:=[(24,6)]} φ:={on:=⟨⟨sa,nv,rp,(agB n2 24).trans uO,agB n1 6⟩,agm⟩};have V6:aA Tryz.prog {bin:=[(.lss,.i .i64 i,.y .i64 6,.b true)]} φ:=⟨agm,⟨.lss (k:=.i64) (x:=i) (y:=nv) rfl (congrArg (fun z=>some (IntKind.i64,z)) (agB n1 6)) (by simp;omega),agm⟩,agm,agm,agm,agm,agm,agm,agm⟩;refine ad.runK (aw ah _ _) rfl 2 (cs:=yz) r1 hs hK (eZ V6 hX1) hd (yg c nv (fun _=>0) aP aF cs) (ag3.au n1 n2 n3 n4) fun φ a1 w1 hs hK hd kx n1 n2 n3 n4=> ?_
 show aC none m Tryz.prog _ (yz.drop 2) a1 w1;obtain⟨id,b,sj,tB⟩:=Yn;rw[sj];refine Aa ?_;rw[tB];obtain⟨p,p1,p2,p3⟩:=h.aP.at_ i hi;obtain⟨k,o,XX,hvt⟩:=Yl K (h.Yj i 0 hi) (h.Yj i 1 hi);let t1:Nat->Int:=fun x=>match x with|50=>vc i 0|51=>vc i 1|52=>vc i 2|53=>k|_=>o
 obtain⟨aV,dx,Ca,m1,m2,m3,m4⟩:=hs.sG hK rs (y:=yg c nv t1 aP p cs) (by
  have:=ag3 (t:=fun _=>0) (t':=t1) (p:=aF) (p':=p);refine⟨?_,?_,agm,agm⟩
  ·have h:=this.s;rw[<-n1]at h;exact h
  ·have h:=this.q
   have hq:pe φ.y=pe (yg c nv (fun _=>0) aP aF cs):=by
    have e1:φ.y.s=_:=n1;have e2:φ.y.q=_:=n2
    funext v x
    cases v<;>simp only[pe,e1,e2]
   rw[hq];exact h)
 have ag6:∀{p p':Value},Ag (oH s6v i) (yg c nv t1 aP p cs) (yg c nv t1 aP p' cs):=fun{p p'}=>ES (fun x hx=>rfl) ⟨rfl,o1⟩ fun x hx=>by rw[jX,jX];exact⟨rfl,fm rZ x⟩
 have hX2:iZ Tryz.prog {oi:=[(66,24,.i .i64 i,3)],ol:=[(116,3,.a [.y .i64 50,.y .i64 51,.y .i64 52])]} aV:=by
  refine{oi:=⟨fun af hl vi hv=> ?_,agm⟩,ol:=⟨fun w hw=> ?_,agm⟩}
  ·have hv:=Ki hv
   subst hv;rw[show aV.q 3=p from agB m2 3,show aV.q 24=aP from agB m2 24];exact⟨p1,p2⟩
  ·rw[show aV.q 3=p from agB m2 3]
   exact⟨_,p3 w (fun r o e=>hw r o (Ca r o (C0.1 r o e))),vA (J.cons (vY (agB m1 50)) (J.cons (vY (agB m1 51)) (J.cons (vY (agB m1 52)) J.nil)))⟩
 refine ad.runK (aw ah _ _) rfl 1 (cs:=cR) r2 dx Ca (eZ aS hX2) hd (yg c nv t1 aP p cs) (ag6.au m1 m2 m3 m4) fun φ a2 w2 hs hK hd iK n1 n2 n3 n4=> ?_
 show aC none m Tryz.prog _ (cR.drop 1) a2 w2;obtain⟨id,iJ⟩:=ank;rw[iJ];have ag8:∀{cells:List Value},cells.length=4->(∀u∈cells,u.oneCell'=true)->Ag (oH s8v (i+1)) (yg c nv t1 aP p (cs++cells)) (yg c nv t1 aP p (cs++cells)):=fun{cells} _ h1=>ES (fun x hx=>rfl) ⟨rfl,o1⟩ fun x hx=>by
  rw[jX];exact⟨rfl,fm (fun u hu=>(arL.1 hu).elim (rZ u) (h1 u)) x⟩
 have arv:∀{cells Ur:List Value} {ss:List Nat},Ag (oH ss i) (yg c nv t1 aP p (cs++cells)) (yg c nv t1 aP p (cs++Ur)):=fun{cells Ur ss}=>ES (fun x hx=>rfl) ⟨rfl,o1⟩ fun x hx=>by
  rw[jX,jX,Bs (by omega),Bs (by omega)];exact⟨rfl,fm rZ x⟩
 let X:List Bool->Pn->Prop:=fun mk pn=>∃cells s,pn.y=yg c nv t1 aP p (cs++cells)/\cells.length=4/\(∀u∈cells,u.oneCell'=true)/\KA K w0.heap.size pn.K/\(∀q∈vs,A9 pn.K q)/\(mk.getD 9 false=true->A9 pn.K (cells,s))
 have hb4:∀u∈[b0,b0,b0,b0],u.oneCell'=true:=fun u hu=>by simp only[arI,arG,or_false]at hu;rcases hu with rfl|rfl|rfl|rfl<;>rfl
 obtain⟨eH,ez,X3,m1,m2,m3,m4⟩:=hs.sG hK rs2 (y:=yg c nv t1 aP p (cs++[b0,b0,b0,b0])) (ES (fun x hx=>(agB n1 x).symm) ⟨(agB n2 24).symm,o1⟩ fun x hx=>by
  rw[show φ.y.q (100+x)=_ from agB n2 (100+x),jX,jX,Bs (by omega)];exact⟨rfl,fm rZ x⟩)
 refine ad.z7 (aw ah aaS {}) rfl ah.mixed X r8 (L0:=MR i) (HB0:=Up i) (by rw[Br];rfl) (by rw[Br];show agV++[(3,Un (Pt i))]++(Uo i++[])++[(5,.cells [.y .i64 50,.y .i64 51,.y .i64 52] 116 false)]=_;rw[List.append_nil];rfl) ez ⟨_,K1⟩ ⟨m1,m2,m3,m4⟩ X3 ⟨[b0,b0,b0,b0],cj,rfl,rfl,hb4,C0,h4,fun e=>by rw[Br]at e;cases e⟩ ?_ ?_ ?_ ?_ ?_
 ·rintro mk pn ⟨cells,s,e,l4,h1,_⟩
  rw[e];exact ag8 l4 h1
 ·rintro mk pn ay ⟨cells,s,e,l4,h1,hk,_⟩ n1 k1
  rw[e]at n1;exact eZ ⟨agm,agm,agm,agm,agm,agm,agm,agm,dy rfl (hvt.mono fun r o e=>k1 r o (hk.1 r o e)) (J.cons (vY (agB n1.1 50)) (J.cons (vY (agB n1.1 51)) J.nil)) (vA (J.cons (vY (agB n1.1 53)) (J.cons (vY (agB n1.1 54)) J.nil))),agm⟩ eX
 ·rintro mk j pn hj ⟨cells,s,e,l4,h1,hk,iz,h9⟩
  have j9:j≠9:=by rintro rfl;cases hj
  exact⟨cells,s,e,l4,h1,hk,iz,fun e=>h9 (by rwa[Bo j9]at e)⟩
 ·rintro mk j ay pn a1 w3 C hm cM hh b9 n1 k1 ⟨cells,s,e,l4,h1,hk,iz,h9⟩ hC
  obtain rfl:j=9:=Nat.eq_of_beq_eq_true hh;rw[e]at n1;have cc:=AAA.1 rh mk hm;simp only[cM,Bool.not_true,Bool.false_or,Bool.and_eq_true]at cc;obtain⟨⟨⟨⟨c0,c1⟩,c2⟩,c3⟩,c4⟩:=cc;have c0:=bJ _ _ c0;have c1:=bJ _ _ c1;refine b9.LC (o:=(o18.toList.drop 9).headD default) rfl rfl rfl rfl rfl Tryz.func32 rfl rfl (Vs:=[.a [.y .i64 53,.y .i64 54],.y .i64 52,.i .i64 9]) (by show[(U 103 (vp i mk)).get 94,(U 103 (vp i mk)).get 96,.i .i64 9]=_;rw[cA,cA,c0,c1]) ?_;intro args' ha;have:args'=[.agg #[.int .i64 k,.int .i64 o],.int .i64 (vc i 2),.int .i64 9]:=mQ (φ:=ay) rfl ha (J.cons (vA (J.cons (vY (agB n1.1 53)) (J.cons (vY (agB n1.1 54)) J.nil))) (J.cons (vY (agB n1.1 52)) (J.cons vI J.nil)));subst this;refine(TQ (K:=pn.K) (ht.mono hk.1) XX (h.Yj i 2 hi) (m-1) (b9.lJ k1)).mono ?_;rintro e w4 ⟨Bt,K3,s3,rfl,gG,fb,Fb⟩;refine⟨_,rfl,?_⟩;obtain⟨aV,dx,k2,e1,e2,e3,e4⟩:=b9.mS k1 gG fb c2 (y:=yg c nv t1 aP p (cs++Bt)) (by
   refine ES (fun x hx=>(agB n1.1 x).symm) ⟨(agB n1.2.1 24).symm,o1⟩ fun x hx=> ?_
   rw[show ay.y.q (100+x)=_ from agB n1.2.1 (100+x),jX,jX,Bs (by omega),Bs (by omega)];exact⟨rfl,fm rZ x⟩)
  have ez:=dx.put (d:=97) (by decide) (x:=.a (q4 i)) (v:=.agg Bt.toArray) (vA (fy (show 4=Bt.length from Fb.len.symm) fun x u hx=>by
   refine vQ ?_ (Fb.one u (arC hx));rw[e2,jX,ag2 Yp,aop];show(Bt[x]?).getD b0=u;rw[hx];rfl))
  obtain⟨eH,ll,k4,f1,f2,f3,f4⟩:=ez.xU k2 c4 _ (((ag8 Fb.len Fb.one).au e1 e2 e3 e4).agree c3 rfl _ _);exact hC eH ⟨_,K3⟩ _ w4 ll rfl ⟨f1,f2,f3,f4⟩ k4 ⟨Bt,s3,rfl,Fb.len,Fb.one,hk.kD fb b9.bz,fun q hq=>(iz q hq).mono fb.sub,fun _=>Fb⟩ (gG.gb b9.bz)
 ·rintro jn pn a3 w3 ll sS pV n4 k4 ⟨cells,s,e,l4,h1,hk,iz,h9⟩
  have Fb:=h9 (by rw[Br];rfl);rw[Br]at ll;rw[e]at n4;show aC none m Tryz.prog _ (yz.drop 3) a3 w3;have hfm:cs++cells=(vs++[(cells,s)]).flatMap (·.1):=by simp[cs,List.flatMap_append]
  have lS:(vs++[(cells,s)]).length=i+1:=by simp[hl]
  have pG:∀q∈vs++[(cells,s)],A9 pn.K q:=fun q hq=>(arL.1 hq).elim (iz q) fun hq=>by rw[List.mem_singleton.1 hq];exact Fb
  refine ad.runK (aw ah {} {}) rfl 5 (cs:=yz.drop 3) r3 ll k4 (eZ aS eX) (sS.trans hd) (yg c nv (fun _=>0) aP aF ((vs++[(cells,s)]).flatMap (·.1))) (by
   have:Ag (oH Pu (i+1)) (yg c nv t1 aP p (cs++cells)) (yg c nv (fun _=>0) aP aF ((vs++[(cells,s)]).flatMap (·.1))):=by
    rw[<-hfm];refine ES (fun x hx=>by simp only[Pu,arI,arG,or_false]at hx;rcases hx with rfl|rfl|rfl<;>rfl) ⟨rfl,o1⟩ fun x hx=> ?_
    rw[jX,jX];exact⟨rfl,fm (fun u hu=>(arL.1 hu).elim (rZ u) (h1 u)) x⟩
   exact this.au n4.1 n4.2.1 n4.2.2.1 n4.2.2.2) fun jH a4 w4 wE GA vL vM n1 n2 n3 n4=> ?_
  exact⟨rfl,⟨jH,pn.K,_,lS,pG,wE,GA,hk,vL,(((hg.trans kx).trans iK).trans pV).trans vM,n1,n2,n3,n4⟩⟩
theorem xz(ht:tu K)(h:yx K c aP nv vc fs nf fr){r:Nat}(hr:ax (c 20) 7=r)(zP:r∈[0,5,6])(m:Nat){w:World}(hw:∀r o,K r=some o->w.heap[r]? =some o):CallsIn (W none) m Tryz.prog 15 #[nI c aP fs] w (HO K w):=by
 have o1:=h.aP.one;have o2:=h.fs.one;let y0:=roY c aP fs (fun x=>(yg c nv (fun _=>0) aP aF []).s x) (fun _=>aF);have bB:=ad.enter (nt:=103) (bc y0 w) rfl rfl (vs:=Cb) (args:=[nI c aP fs]) (MP o1 o2 (fun x hx=>if_pos hx) rfl rfl) (by decide);refine dz (fn:=Tryz.f15) (c:=(Tryz.f15.body).getD .skip) (args:=[nI c aP fs]) Tryz.func15 rfl (bp _ ?_);show aC none m Tryz.prog _ Fg _ _;have r0:=AAA.1 am6 r zP;unfold am5 at r0;obtain⟨b1,b2⟩:=bI (c 21) (N:=12) (by decide);obtain⟨b3,b4⟩:=bI (c 22) (N:=8) (by decide);obtain⟨b5,b6⟩:=bI (c 23) (N:=13) (by decide);have hF0:aA Tryz.prog (aaR r) (φ0 y0 w):=by
  have p7:=eJ (φ0 y0 w).y.k (h.int 20) (N:=7) (by decide);rw[show((7:Nat):Int)=7 from rfl,hr]at p7;exact⟨agm,⟨.add (k:=.i64) (x:=1) (y:=ax (c 21) 12) rfl rfl rfl (fQ (by unfold eR;omega)),agm⟩,agm,agm,agm,agm,agm,agm,dy rfl p7 (J.cons (vY rfl) (J.cons vI J.nil)) vI,dy rfl (eJ _ (h.int 21) (N:=12) (by decide)) (J.cons (vY rfl) (J.cons vI J.nil)) (vY rfl),dy rfl (eJ _ (h.int 22) (N:=8) (by decide)) (J.cons (vY rfl) (J.cons vI J.nil)) (vY rfl),dy rfl (eJ _ (h.int 23) (N:=13) (by decide)) (J.cons (vY rfl) (J.cons vI J.nil)) (vY rfl),agm⟩
 refine ad.runK (aw ah _ _) rfl 5 (cs:=Fg) r0 bB (fU.all rfl hw) (eZ hF0 eX) rfl (yg c nv (fun _=>0) aP aF []) (Ag.au (o:=y0) (ES (fun x hx=>by simp only[Pu,arI,arG,or_false]at hx;rcases hx with rfl|rfl|rfl<;>rfl) ⟨rfl,o1⟩ fun x hx=>by omega) rfl rfl rfl rfl) fun φ a w1 hs hK hd hg n1 n2 n3 n4=> ?_
 show aC none m Tryz.prog _ (Fg.drop 5) a w1;refine dd (id:=1) (b:=(match Fg.drop 5 with|.block _ (.loop b)::_=>b|_=>.skip)) (rest:=Fg.drop 6) (min nv 5) (Uq K w (yg c nv (fun _=>0) aP aF)) (fun j a w' hj hv=>Yo ht h (by omega) (by omega) hv) ?_
  ⟨φ,K,[],rfl,(fun p hp=>by cases hp),hs,hK,KA.refl,hd,hg,n1,n2,n3,n4⟩
 rintro a w' ⟨φ,K1,vs,hl,h4,hs,hK,C0,hd,hg,n1,n2,n3,n4⟩;obtain⟨Yp,rZ⟩:=CZ h4;obtain⟨sa,rp,uO⟩:=h.aP.sl;obtain⟨k,hk⟩:∃k,k=min nv 5:=⟨_,rfl⟩
 rw[<-hk]at hs hl;have GA:k<=5:=by omega
 have mk6:k∈List.range 6:=arH.2 (by omega);rw[hl]at Yp;have agk:Ag (oH Pu k) (yg c nv (fun _=>0) aP aF (vs.flatMap (·.1))) (yg c nv (fun _=>0) aP aF (vs.flatMap (·.1))):=ES (fun x hx=>rfl) ⟨rfl,o1⟩ fun x hx=>by rw[jX];exact⟨rfl,fm rZ x⟩
 have hX1:iZ Tryz.prog {on:=[(24,6)]} φ:={on:=⟨⟨sa,nv,rp,(agB n2 24).trans uO,agB n1 6⟩,agm⟩};have Y5:Ym k (decide (k<nv))=true:=by
  have hx:=am9;simp only[Bool.and_eq_true]at hx
  by_cases bf:k<nv
  ·rw[decide_eq_true bf,show k=5 by omega];exact hx.2
  ·rw[decide_eq_false bf];exact AAA.1 hx.1 k mk6
 unfold Ym at Y5;have V6:aA Tryz.prog {bin:=[(.lss,.i .i64 k,.y .i64 6,.b (decide (k<nv)))]} φ:=⟨agm,⟨.lss (k:=.i64) (x:=k) (y:=nv) rfl (congrArg (fun z=>some (IntKind.i64,z)) (agB n1 6)) (decide_eq_decide.2 (by omega)),agm⟩,agm,agm,agm,agm,agm,agm,agm⟩;refine ad.runK (aw ah _ _) rfl 20 (cs:=yz) Y5 hs hK (eZ V6 hX1) hd _ (agk.au n1 n2 n3 n4) fun aV a2 w2 dx Ca mF iK n1 n2 n3 n4=>⟨rfl,?_⟩
 have VK:=AAA.1 anj k mk6;unfold ani at VK;refine ad.runK (aw ah _ _) rfl 5 (cs:=Fg.drop 6) VK dx Ca (eZ aS eX) mF _ (agk.au n1 n2 n3 n4) fun eH a3 w3 ez X3 gJ ig n1 n2 n3 n4=>⟨.inl rfl,gJ,?_⟩
 obtain⟨v,gE,ff⟩:=ez.leave ah (fn:=Tryz.f15) (l:=[.a (HQ k)]) (by
  match k,GA with
  |0,_=>rfl
  |1,_=>rfl
  |2,_=>rfl
  |3,_=>rfl
  |4,_=>rfl
  |5,_=>rfl)
 have gG:Grown w w3:=((hg.trans iK).trans ig).grown;have Us:=ez.lJ X3;have s44:eH.s 44=1+ax (c 21) 12:=agB n1 44;have s42:eH.s 42=ax (c 22) 8:=agB n1 42;have s43:eH.s 43=ax (c 23) 13:=agB n1 43;have fin:∀{ov:Value} {K2:Nat->Option Obj},J eH [Pt k] [ov]->ov.oneCell'=true->(∀x,VR eH (Pt k) x->x=ov)->rJ K w w3 K2->(∀p∈vs,A9 K2 p)->((vs=[]/\ov=aF)\/(vs≠[]/\RowK K2 98 4 ov (vs.flatMap (·.1))))->HO K w (.returned v) w3:=fun{ov K2} h1 aqs aqt fb h4' BB=>by
  obtain⟨vz,rfl,iz⟩:=Ff (show VR eH (.a (HQ k)) v from ff);have hz:vz=Mn 1 (1+ax (c 21) 12) (ax (c 22) 8) (ax (c 23) 13) ov 0 0 cj cj aF 0 cj cj cj 0 0 cj cj:=by
   have e:=iz;simp only[HQ,J]at e;obtain⟨x0,_,e0,g0,x1,_,rfl,g1,x2,_,rfl,g2,x3,_,rfl,g3,x4,ys,rfl,g4,e5⟩:=e;have h0:=Ki g0;have O1:x1=.int .i64 (1+ax (c 21) 12):=by simp only[VR]at g1;rw[g1,s44]
   have FX:x2=.int .i64 (ax (c 22) 8):=by simp only[VR]at g2;rw[g2,s42]
   have h3':x3=.int .i64 (ax (c 23) 13):=by simp only[VR]at g3;rw[g3,s43]
   have h4':=aqt x4 g4;have h5:ys=[.int .i64 0,.int .i64 0,.string cj,.string cj,aF,.int .i64 0,.string cj,.string cj,.string cj,.int .i64 0,.int .i64 0,.string cj,.string cj]:=
    ug (φ:=eH) (l:=[zI,zI,.s [],.s [],eD,zI,.s [],.s [],.s [],zI,zI,.s [],.s []]) rfl e5 (J.cons aL (J.cons aL (J.cons aD (J.cons aD (J.cons bY (J.cons aL (J.cons aD (J.cons aD (J.cons aD (J.cons aL (J.cons aL (J.cons aD (J.cons aD J.nil)))))))))))))
   subst h0;subst O1;subst FX;subst h3';subst h4';subst h5;exact Array.toList_inj.1 e0
  subst hz;obtain⟨s,s1,s2,s3⟩:=Ot (K:=K2) (oid:=1+ax (c 21) 12) (ocl:=ax (c 22) 8) (ove:=ax (c 23) 13) ⟨by omega,by omega⟩ ⟨b3,by omega⟩ ⟨b5,by omega⟩ (by omega) h4' BB;exact⟨_,s,K2,rfl,gG,fb,⟨.put (oid:=1+ax (c 21) 12) (ocl:=ax (c 22) 8) (ove:=ax (c 23) 13) aqs,s3,s1,s2,1+ax (c 21) 12,rfl,by omega,by omega⟩⟩
 refine⟨_,gE,?_⟩;rcases Nat.eq_zero_or_pos k with h0|gn
 ·subst h0
  have iz:vs=[]:=List.length_eq_zero_iff.1 hl;exact fin (J.cons bY J.nil) rfl (fun x hx=>eQ (x:=eD) (φ:=eH) rfl hx bY) ⟨C0.1,Us,C0.2⟩ h4 (.inl ⟨iz,rfl⟩)
 ·obtain⟨j,rfl⟩:∃j,k=j+1:=⟨k-1,by omega⟩
  obtain⟨vz,hvz,iz⟩:=Ff (show VR eH (.a (HQ (j+1))) v from ff);obtain⟨ov,_,BB⟩:=iz.get (n:=4) (y:=Pt (j+1)) rfl;have RU:=BB;simp only[Pt,VR]at RU;obtain⟨r4,cap,f4,ic,ed,rfl⟩:=RU;obtain⟨c3,g3,v3,l3,_,z3⟩:=ez.hr.cx f4 (l:=EE (j+1)) (e:=98) (g:=true) rfl;have hlen:(EE (j+1)).length=4*(j+1):=by simp[EE]
  rw[hlen]at v3;have pJ:w.heap.size<=r4:=ez.loc 4 r4 f4 (by rw[aH];trivial);have qp:c3.toList.take (4*(j+1))=vs.flatMap (·.1):=by
   have:J eH (EE (j+1)) (vs.flatMap (·.1)):=fy Yp.symm fun x u hx=>by
    refine vQ ?_ (rZ u (arC hx));rw[n2,jX,aop,hx];rfl
   refine ug (φ:=eH) (l:=EE (j+1)) ?_ v3 this;simp[EE,iY]
  let K2:=ve K1 r4 (.cells c3 98 (0,0));have Ca:∀r o,K1 r=some o->K2 r=some o:=fun s o h=>by
   by_cases e:s=r4
   ·subst e
    have:=Us s o h;rw[g3]at this;cases this;exact fH
   ·show(if s=r4 then _ else K1 s)=_
    rw[if_neg e];exact h
  have bQ:RowK K2 98 4 (.slice (some ⟨r4,0,none⟩) (j+1) cap) (vs.flatMap (·.1)):=⟨r4,j+1,cap,c3,rfl,by decide,by rw[Yp];omega,ic,by omega,fH,by rw[Yp];exact qp⟩;refine fin (J.cons BB J.nil) rfl (fun x hx=> ?_) ⟨fun r o h=>Ca r o (C0.1 r o h),fun r o h=> ?_,fun r o h=> ?_⟩ (fun p hp=>(h4 p hp).mono Ca) (.inr ⟨fun e=>by rw[e]at hl;simp at hl,bQ⟩)
  ·simp only[Pt,VR]at hx
   obtain⟨r',c',q1,q2,q3,rfl⟩:=hx;rw[f4]at q1;cases q1;rw[show c'=cap by omega]
  ·rcases fR h with⟨rfl,rfl⟩|h
   ·exact g3
   ·exact Us r o h
  ·rcases fR h with⟨rfl,rfl⟩|h
   ·exact .inr pJ
   ·exact C0.2 r o h
theorem Ut(ht:tu K)(h:yx K c aP nv vc fs nf fr)(m:Nat){w:World}(hw:∀r o,K r=some o->w.heap[r]? =some o):CallsIn (W none) m Tryz.prog 15 #[nI c aP fs] w (HO K w):=by
 obtain⟨r,hr,r7⟩:=nG (c:=c 20) (N:=7) (by decide);obtain⟨b1,b2⟩:=bI (c 21) (N:=12) (by decide);obtain⟨b3,b4⟩:=bI (c 21) (N:=2) (by decide);rcases(show r=0\/r=1\/r=2\/r=3\/r=4\/r=5\/r=6 by omega)with rfl|rfl|rfl|rfl|rfl|rfl|rfl
 ·exact xz ht h hr (by decide) m hw
 ·obtain⟨nm,oV,hq⟩:=HN h hr (n:=12) (by decide) Yh
  obtain⟨s,s1,s2,s3⟩:=A7 oV (id:=ax (c 21) 12) ⟨b1,by omega⟩ K;refine(hq.2 m w hw).mono ?_;rintro e w' ⟨v,rfl,rfl,hg⟩;exact⟨(Mn 2 0 0 0 aF (ax (c 21) 12) 0 (bytes nm) cj aF 0 cj cj cj 0 0 cj cj).toList,s,K,rfl,hg,rJ.refl hg hw,⟨.root,s3,s1,by omega,0,rfl,by decide,by decide⟩⟩
 ·exact OL h hr m hw
 ·exact OM h hr m hw
 ·obtain⟨nm,oV,hq⟩:=HN h hr (n:=2) (by decide) Yi
  obtain⟨s,s1,s2,s3⟩:=Ke oV (id:=ax (c 21) 2) ⟨b3,by omega⟩ K;refine(hq.2 m w hw).mono ?_;rintro e w' ⟨v,rfl,rfl,hg⟩;exact⟨(Mn 5 0 0 0 aF (ax (c 21) 2) 0 (bytes nm) cj aF 0 cj cj cj 0 0 cj cj).toList,s,K,rfl,hg,rJ.refl hg hw,⟨.snap,s3,s1,by omega,0,rfl,by decide,by decide⟩⟩
 ·exact xz ht h hr (by decide) m hw
 ·exact xz ht h hr (by decide) m hw
end
def AH(a:List Value)(n:Int)(b:List Value)(m:Int):Prop:=n<m\/(n=m/\∀K x,lW K x->Quiet Tryz.prog K 38 [.map (some x),.agg a.toArray,.agg b.toArray] (· =.int .i64 (-1)))
def jY(cp:Bool)(vs:List Int)(j:Nat):Int:=cond cp (vs.getD j 0) 0
structure dS(K:Nat->Option Obj)(cp:Bool)(N:Int)(rs:List (List Value×ByteArray))(vs:List Int)(aM aK:Value):Prop where
 rok:∀p∈rs,qx K p.1 p.2
 aM:(rs=[]/\aM=aF)\/(rs≠[]/\RowK K 60 18 aM (rs.flatMap (·.1)))
 aK:(cp=false/\aK=aF)\/(cp=true/\vs=[]/\aK=aF)\/(cp=true/\vs≠[]/\RowK K 3 1 aK (vs.map (.int .i64)))
 rq:cp=true->vs.length=rs.length
 ON:cp=true->∀v∈vs,1<=v/\v<=N
 ord:∀i a b,rs[i]? =some a->rs[i+1]? =some b->AH a.1 (jY cp vs i) b.1 (jY cp vs (i+1))
def bW(cp:Bool)(N X:Int)(aM aK:Value):Value:=.agg #[.int .i64 (cond cp 2 1),.int .i64 N,.int .i64 X,aM,aK]
theorem ET{z:Nat}:∀{aP:List (List Value×ByteArray)},(∀p∈aP,p.1.length=z)->(aP.flatMap (·.1)).length=z*aP.length
 |[],_=>rfl
 |p::l,h=>by
  rw[arF,arQ,ET fun q hq=>h q (arP _ hq),h p arJ,List.length_cons,arO];omega
theorem EU{z:Nat}:∀{aP:List (List Value×ByteArray)},(∀p∈aP,p.1.length=z)->∀{i:Nat} {p:List Value×ByteArray},aP[i]? =some p->∀{j:Nat},j<z->(aP.flatMap (·.1))[z*i+j]? =p.1[j]?
 |[],_,i,p,hp,_,_=>by simp at hp
 |q::l,h,0,p,hp,j,hj=>by
  simp only[List.getElem?_cons_zero,Option.some.injEq]at hp;subst hp;rw[arF,arE (by rw[h q arJ];omega)];simp
 |q::l,h,i+1,p,hp,j,hj=>by
  simp only[arN]at hp;have hq:=h q arJ;rw[arF,arD (by rw[hq,arO];omega),hq,show z*(i+1)+j-z=z*i+j by rw[arO];omega];exact EU (fun r hr=>h r (arP _ hr)) hp hj
theorem MS{l:List α}{k:Nat}(hk:k<=l.length)(x:α)(i:Nat):(l.take k++x::l.drop k)[i]? =if i<k then l[i]?else if i=k then some x else l[i-1]? :=by
 have hl:(l.take k).length=k:=by rw[List.length_take];omega
 by_cases h1:i<k
 ·rw[if_pos h1,arE (by omega),List.getElem?_take_of_lt h1]
 ·rw[if_neg h1,arD (by omega),hl]
  by_cases h2:i=k
  ·rw[if_pos h2,h2,Nat.sub_self];rfl
  ·rw[if_neg h2,show i-k=(i-1-k)+1 by omega,arN,List.getElem?_drop]
   congr 1;omega
theorem Uu{cp:Bool}{vs:List Int}{k:Nat}(hk:cp=true->k<=vs.length)(x:Int)(i:Nat):jY cp (vs.take k++x::vs.drop k) i=if i<k then jY cp vs i else if i=k then cond cp x 0 else jY cp vs (i-1):=by
 cases cp with
 |false=>simp only[jY,cond_false];split<;>first|rfl|(split<;>rfl)
 |true=>
  simp only[jY,cond_true,aop,MS (hk rfl)];split
  ·rfl
  ·split<;>rfl
theorem C1{K:Nat->Option Obj}{w:World}(hl:∀r o,K r=some o->w.heap[r]? =some o){r:Nat}{o:Obj}(ho:w.heap[r]? =some o):∀s p,K s=some p->ve K r o s=some p:=fun s p h=>by
 by_cases e:s=r
 ·subst e
  have:=hl s p h;rw[ho]at this;cases this;exact fH
 ·show(if s=r then _ else K s)=_
  rw[if_neg e];exact h
theorem rJ.add{K K1:Nat->Option Obj}{w w':World}(hu:rJ K w w' K1){r:Nat}{o:Obj}(hr:w.heap.size<=r)(ho:w'.heap[r]? =some o):rJ K w w' (ve K1 r o):=⟨fun s p h=>C1 hu.at_ ho s p (hu.sub s p h),fun s p h=>(fR h).elim (fun⟨e1,e2⟩=>by rw[e1,e2];exact ho) (hu.at_ s p),fun s p h=>(fR h).elim (fun⟨e1,_⟩=>.inr (by omega)) (hu.new s p)⟩
theorem ad.KB{φ:Ren}{B nt nb:Nat}{L:List (Nat×V)}{HB:List (Nat×aQ)}{a:Act}{w:World}(hs:ad φ B (U nt L) (ak nb HB) a w){b:Nat}{l:List V}{T:TypeId}{g:Bool}(hb:mO HB b=.cells l T g){n sz:Nat}(h0:0<sz){v:Value}(hv:VR φ (.sl (some (b,0)) n (.un sz)) v)
  {row:List Value}(bQ:J φ l row)(hd:l.all iY=true)(hl:n*sz=l.length):∃r c,B<=r/\w.heap[r]? =some (.cells c T (0,0))/\∀K:Nat->Option Obj,K r=some (.cells c T (0,0))->RowK K T sz v row:=by
 simp only[VR]at hv;obtain⟨r,cap,f,ic,ed,rfl⟩:=hv;obtain⟨c,g1,v1,l1,_,z1⟩:=hs.hr.cx f hb;have hr:B<=r:=hs.loc b r f (by rw[aH,hb];trivial);have hlen:l.length=row.length:=bQ.length.symm;have hc:c.toList.take l.length=row:=ug (φ:=φ) hd v1 bQ;exact⟨r,c,hr,g1,fun K hK=>⟨r,n,cap,c,rfl,h0,by rw[hl,hlen],ic,by omega,hK,by rw[<-hlen];exact hc⟩⟩
def Uv(N X n:Int)(a:List Value)(rs:List (List Value×ByteArray))(vs:List Int):Sym:=
 {s:=fun x=>if x<10 then(match x with|1=>N|2=>X|_=>n)else vs.getD (x-10) 0,
  q:=fun x=>if x<100 then a.getD (x-40) b0 else(rs.flatMap (·.1)).getD (x-100) b0,
  w:=fun _=>[],g:=fun _=>(#[],0),k:=fun _=>none}
section
variable {N X n:Int} {a:List Value} {rs:List (List Value×ByteArray)} {vs:List Int}
theorem aaV(j:Nat):(Uv N X n a rs vs).s (10+j)=vs.getD j 0:=by
 show(if 10+j<10 then _ else vs.getD (10+j-10) 0)=_;rw[if_neg (by omega),show 10+j-10=j by omega]
theorem Yq(ha:eI a)(hf:∀p∈rs,eI p.1)(x:Nat):((Uv N X n a rs vs).q x).oneCell'=true:=by
 show(if x<100 then a.getD (x-40) b0 else(rs.flatMap (·.1)).getD (x-100) b0).oneCell'=true;split
 ·exact fm ha.one _
 ·exact fm (fun u hu=>by obtain⟨p,hp,hu⟩:=arK.1 hu;exact(hf p hp).one u hu) _
variable {φ:Ren} (e2:φ.q=(Uv N X n a rs vs).q)
include e2
theorem HS(ha:eI a):J φ yr a:=xo ha.len ha.one fun i v hv=>by
 have hl:i<18:=by rw[<-ha.len];exact(arM.1 hv).1
 rw[e2];show(if 40+i<100 then a.getD (40+i-40) b0 else _)=v;rw[if_pos (by omega),show 40+i-40=i by omega,aop,hv];rfl
theorem EV(hf:∀p∈rs,eI p.1){j:Nat}{p:List Value×ByteArray}(hp:rs[j]? =some p):J φ (x9 j) p.1:=have hpf:=hf p (arC hp)
 xo hpf.len hpf.one fun i v hv=>by
  have hl:i<18:=by rw[<-hpf.len];exact(arM.1 hv).1
  rw[e2];show(if 100+18*j+i<100 then _ else(rs.flatMap (·.1)).getD (100+18*j+i-100) b0)=v;rw[if_neg (by omega),show 100+18*j+i-100=18*j+i by omega,aop,EU (fun q hq=>(hf q hq).len) hp hl,hv];rfl
theorem KC(hf:∀p∈rs,eI p.1)(l:List (List Value×ByteArray))(s:Nat)(h:∀(j:Nat) (p:List Value×ByteArray),l[j]? =some p->rs[s+j]? =some p):J φ (rS s l.length) (l.flatMap (·.1)):=ia l s fun j p hj=>EV e2 hf (h j p hj)
end
theorem oI(s:Nat):(uV s).all iY=true:=AAA.2 fun x hx=>by obtain⟨i,_,rfl⟩:=List.mem_map.1 hx;rfl
theorem OO(a n:Nat):(rS a n).all iY=true:=AAA.2 fun x hx=>by obtain⟨j,_,hx⟩:=arK.1 hx;exact AAA.1 (oI _) x hx
theorem OP(a n:Nat):(rS a n).length=18*n:=by
 unfold rS
 induction n generalizing a with
 |zero=>rfl
 |succ n ih=>rw[List.range'_succ,arF,arQ,ih];simp[x9,uV];omega
theorem C2(cp:Bool)(j:Nat):oY (jV cp j)=true:=by cases cp<;>rfl
theorem HT(cp:Bool):oY (Hi cp)=true:=by cases cp<;>rfl
theorem Uw{a:List Value}(ha:eI a)(n:Int){rs:List (List Value×ByteArray)}(hf:∀p∈rs,eI p.1)(vr:Nat->Int):∃k,k<=rs.length/\(∀j p,j<k->rs[j]? =some p->(∀K,Quiet Tryz.prog K 34 [.agg p.1.toArray,.int .i64 (vr j),.agg a.toArray,.int .i64 n] (· =.bool true))/\AH p.1 (vr j) a n)/\
  ∀p,rs[k]? =some p->∀K,Quiet Tryz.prog K 34 [.agg p.1.toArray,.int .i64 (vr k),.agg a.toArray,.int .i64 n] (· =.bool false):=by
 have key:∀d k,k+d=rs.length->(∀j p,j<k->rs[j]? =some p->(∀K,Quiet Tryz.prog K 34 [.agg p.1.toArray,.int .i64 (vr j),.agg a.toArray,.int .i64 n] (· =.bool true))/\AH p.1 (vr j) a n)->∃k,k<=rs.length/\(∀j p,j<k->rs[j]? =some p->(∀K,Quiet Tryz.prog K 34 [.agg p.1.toArray,.int .i64 (vr j),.agg a.toArray,.int .i64 n] (· =.bool true))/\AH p.1 (vr j) a n)/\
   ∀p,rs[k]? =some p->∀K,Quiet Tryz.prog K 34 [.agg p.1.toArray,.int .i64 (vr k),.agg a.toArray,.int .i64 n] (· =.bool false):=by
  intro d
  induction d with
  |zero=>exact fun k hk h=>⟨k,by omega,h,fun p hp=>by rw[List.getElem?_eq_none (by omega)]at hp;cases hp⟩
  |succ d ih=>
   intro k hk h;have bf:k<rs.length:=by omega
   have hp:rs[k]? =some rs[k]:=List.getElem?_eq_getElem bf;obtain⟨t,h1,h2⟩:=Mw (hf _ (List.getElem_mem bf)) ha (vr k) n;cases t with
   |false=>exact⟨k,by omega,h,fun p tD=>by rw[hp]at tD;cases tD;exact h1⟩
   |true=>
    refine ih (k+1) (by omega) fun j p hj hpj=> ?_
    rcases Nat.lt_or_ge j k with hl|hl
    ·exact h j p hl hpj
    ·obtain rfl:j=k:=by omega
     rw[hp]at hpj;cases hpj;exact⟨h1,h2 rfl⟩
 exact key rs.length 0 (by omega) fun j p hj=>by omega
theorem Yr{cp:Bool}{rs:List (List Value×ByteArray)}{vs:List Int}(anl:∀i a b,rs[i]? =some a->rs[i+1]? =some b->AH a.1 (jY cp vs i) b.1 (jY cp vs (i+1))){k:Nat}(hk:k<=rs.length)(hv:cp=true->vs.length=rs.length){a:List Value}{s:ByteArray}{n0:Int}
  (h1:∀j p,j<k->rs[j]? =some p->AH p.1 (jY cp vs j) a (cond cp n0 0))(h2:∀p,rs[k]? =some p->AH a (cond cp n0 0) p.1 (jY cp vs k)):
  ∀i x y,(rs.take k++(a,s)::rs.drop k)[i]? =some x->(rs.take k++(a,s)::rs.drop k)[i+1]? =some y->AH x.1 (jY cp (vs.take k++n0::vs.drop k) i) y.1 (jY cp (vs.take k++n0::vs.drop k) (i+1)):=by
 intro i x y hx hy;have Du:cp=true->k<=vs.length:=fun e=>by rw[hv e];exact hk
 rw[MS hk]at hx hy;rw[Uu Du,Uu Du];rcases Nat.lt_trichotomy (i+1) k with h|h|h
 ·rw[if_pos (by omega)]at hx
  rw[if_pos h]at hy;rw[if_pos (show i<k by omega),if_pos h];exact anl i x y hx hy
 ·rw[if_pos (by omega)]at hx
  rw[if_neg (by omega),if_pos h]at hy;rw[if_pos (show i<k by omega),if_neg (by omega),if_pos h];cases hy;exact h1 i x (by omega) hx
 ·rw[if_neg (by omega),if_neg (by omega),arR]at hy
  rw[if_neg (show ¬i<k by omega),if_neg (show ¬i+1<k by omega),if_neg (show ¬i+1=k by omega),arR];rw[if_neg (by omega)]at hx
  by_cases he:i=k
  ·rw[if_pos he]at hx
   rw[if_pos he];cases hx;rw[he]at hy⊢;exact h2 y hy
  ·rw[if_neg he]at hx
   rw[if_neg he];have:=anl (i-1) x y hx (by rw[show i-1+1=i by omega];exact hy);rwa[show i-1+1=i by omega]at this
end Go.Ev
