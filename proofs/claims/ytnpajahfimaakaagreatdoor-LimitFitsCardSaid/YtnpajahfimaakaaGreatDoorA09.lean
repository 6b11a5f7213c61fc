/- A part of what LimitFits rests on. -/
import Derived.Test.YtnpajahfimaakaaGreatDoorA08
import Derived.Test.YtnpajahfimaakaaGreatDoorA01
set_option linter.all false
namespace Go.Ev
open _root_.Array renaming toList_inj->aop
open Go.Proofs
structure GW(w:World)(lines ov rv:Value)(next:Nat)(l:List (O×Value))(rs:List (ByteArray×Nat)):Prop where
 BA:dG w lines
 bS:cr w 51 4 ov (aZ l)
 roots:cr w 101 2 rv (cg rs)
 aP:∀p∈l,cB w p
 ids:∀i p,l[i]? =some p->bZ l i<p.1.id/\p.1.id<next
 nx:1<=next/\next<=100001
 ln:l.length<=100000
 rl:rs.length<=100000
 rn:∀p∈rs,RN p.1
 ord:∀i p q,rs[i]? =some p->rs[i+1]? =some q->(Op.bytesLess q.1.toList p.1.toList||q.1.toList==p.1.toList)=false
 ref:∀p∈l,p.1.ref<=100000
theorem dG.one{w:World}{v:Value}(h:dG w v):v.oneCell'=true:=by
 obtain⟨_,_,_,_,rfl,_⟩:=h;rfl
theorem cr.one{w:World}{T sz:Nat}{v:Value}{row:List Value}(h:cr w T sz v row):v.oneCell'=true:=by
 obtain⟨_,_,_,_,rfl,_⟩:=h;rfl
theorem GW.kept{w w':World}{lines ov rv:Value}{next:Nat}{l:List (O×Value)}{rs:List (ByteArray×Nat)}(h:GW w lines ov rv next l rs)(hk:∀(r:Nat) (o:Obj),w.heap[r]? =some o->w'.heap[r]? =some o):GW w' lines ov rv next l rs:=
 {h with BA:=h.BA.kept hk,bS:=h.bS.kept hk,roots:=h.roots.kept hk,aP:=fun p hp=>(h.aP p hp).kept fun r c=>hk r _}
theorem GW.ordered{n:Nat}{w:World}{lines ov rv:Value}{next:Nat}{l:List (O×Value)}{rs:List (ByteArray×Nat)}(h:GW w lines ov rv next l rs):
  CallsIn (W none) n Tryz.prog 88 #[wV lines ov rv next] w fun e w'=>∃v,e=.returned v/\v=.bool true/\Grown w w':=
 I8 h.bS h.roots h.BA.one (fun p hp=>(h.aP p hp).one) h.ids h.nx h.ln h.rl h.rn h.ord
structure Found(w:World)(l:List (O×Value))(lv mv:Value):Prop where
 late:∃late,cr w 51 4 lv (aZ late)/\late.map (·.1)=l.map (·.1)/\∀p∈late,cB w p
 place:Wv w mv (pm l l.length)
theorem Found.kept{w w':World}{l:List (O×Value)}{lv mv:Value}(h:Found w l lv mv)(hc:∀(r:Nat) (c:Array Value) (T:TypeId),T=51\/T=98->w.heap[r]? =some (.cells c T (0,0))->w'.heap[r]? =some (.cells c T (0,0)))
  (hm:∀(r:Nat) (es:Array MapEntry) (n:Nat),w.heap[r]? =some (.map es n)->w'.heap[r]? =some (.map es n)):Found w' l lv mv:=by
 obtain⟨⟨late,⟨r,n,cap,c,h1,h2,h3,h4,h5,h6,h7⟩,Gx,Ql⟩,rm,hm1,yh⟩:=h;exact⟨⟨late,⟨r,n,cap,c,h1,h2,h3,h4,h5,hc _ _ _ (.inl rfl) h6,h7⟩,Gx,fun p hp=>(Ql p hp).kept fun r c=>hc r c _ (.inr rfl)⟩,rm,hm1,hm _ _ _ yh⟩
theorem acq{P:Program}{K:Nat->Option Obj}{f:FuncId}{args:List Value}{Q Q':Value->Prop}(h:Quiet P K f args Q)(hq:∀v,Q v->Q' v):Quiet P K f args Q':=⟨h.1,fun n w hk=>(h.2 n w hk).mono fun e w' ⟨v,h1,h2,h3⟩=>⟨v,h1,hq v h2,h3⟩⟩
theorem NS{n:Nat}{w:World}{lines ov rv:Value}{next:Nat}{l:List (O×Value)}{rs:List (ByteArray×Nat)}(H:GW w lines ov rv next l rs)(bU:l≠[])
  (hwh:∀n w' lv mv,Found w' l lv mv->cr w' 101 2 rv (cg rs)->CallsIn (W none) n Tryz.prog 91 #[.agg #[lv,mv],rv] w' fun e w''=>∃v,e=.returned v/\v=.bool true/\Grown w' w''):
  CallsIn (W none) n Tryz.prog 41 #[wV lines ov rv next] w fun e w'=>∃v,e=.returned v/\(∃lv mv,v=.tuple #[.agg #[lv,mv],.int .i64 0]/\Found w' l lv mv)/\Grown w w':=by
 have BB:=H.bS.one;have gh:=H.roots.one;let y0:Sym:=dg [0,l.length,0,next] [.bool false,ov,rv] [aZ l] [(#[],0),(#[],0)];obtain⟨ay,h1,lR,v1⟩:=H.BA.add y0;have cG:J ay mY [wV lines ov rv next]:=by
  refine J.cons ?_ J.nil;simp only[VR];refine⟨_,rfl,J.cons v1 (J.cons ?_ (J.cons ?_ (J.cons ?_ J.nil)))⟩
  ·simp only[VR,Ren.q,lR];exact⟨rfl,BB⟩
  ·simp only[VR,Ren.q,lR];exact⟨rfl,gh⟩
  ·simp only[VR,Ren.s,lR];rfl
 have bB:=ad.enter (nt:=67) h1 rfl (by rw[lR];rfl) cG (by decide);refine dz (fn:=Tryz.f41) (c:=(Tryz.f41.body).getD .skip) Tryz.func41 rfl (bp _ ?_);show aC none n E0.P _ BU _ _;refine ad.dc (aq aB Q3) rfl 8 aiq bB (aA.dU ?_) rfl y0 ?_ fun φ a w1 hs hd hg _ n1 n2 n3 n4=> ?_
 ·refine⟨agm,agm,agm,agm,agm,agm,agm,agm,⟨?_,agm⟩⟩
  intro af hle args' ha;have:args'=[wV lines ov rv next]:=by
   have hb:=hle;simp only[mY,J,VR]at ha;obtain⟨_,_,rfl,⟨cs,rfl,_,_,e1,⟨r,lH,_,rfl⟩,_,_,rfl,⟨rfl,_⟩,_,_,rfl,⟨rfl,_⟩,_,_,rfl,rfl,rfl⟩,rfl⟩:=ha;simp only[VR]at v1;obtain⟨r',cM,_,gE⟩:=v1;have:=(hle.at_ _ _ cM).1;rw[this]at lH;cases lH;rw[hle.qy,hle.sy,<-gE]at e1;have q1:ay.q 1=ov:=by simp only[Ren.q,lR];rfl
   have q2:ay.q 2=rv:=by simp only[Ren.q,lR];rfl
   have s3:ay.s 3=next:=by simp only[Ren.s,lR];rfl
   rw[q1,q2,s3]at e1
   congr 1
   unfold wV
   congr 1
   exact aop.1 e1
  subst this;refine⟨⟨_,_,Tryz.func88,rfl,rfl⟩,fun n w' hk=> ?_⟩;rw[lR]at hk;refine((H.kept fun r o h=>hk r o h).ordered (n:=n)).mono ?_;rintro e w'' ⟨v,h1,h2,h3⟩;exact⟨v,h1,by simp only[VR];exact h2,h3⟩
 ·refine Ag.au (o:=y0) ⟨⟨rfl,agm⟩,⟨⟨rfl,BB⟩,⟨rfl,gh⟩,agm⟩,agm,agm⟩ ?_ ?_ ?_ ?_<;>rw[lR]<;>rfl
 show aC none n E0.P _ (BU.drop 8) a w1;obtain⟨aV,dx,kq⟩:=hs.jb (H.bS.kept fun r o h=>hg.at_ rfl h) rfl 1 0 (agB n2 1) (agB n3 0);refine ad.dc (aq aB DU) rfl 1 air dx (aA.dU ?_) hd y0 ?_ fun eH a3 w3 ez gJ ig _ m1 m2 m3 m4=> ?_
 ·refine⟨agm,agm,agm,⟨⟨l.length,by decide,?_,?_⟩,agm⟩,agm,agm,agm,agm,agm⟩
  ·show l.length*4=(aV.y.w 0).length
   rw[kq,show φ.y.w 0=aZ l from agB n3 0,fh]
  ·show aV.y.s 1=_
   rw[kq];exact agB n1 1
 ·refine Ag.au (o:=y0) ⟨⟨rfl,rfl,rfl,agm⟩,⟨⟨rfl,gh⟩,agm⟩,⟨rfl,agm⟩,agm⟩ ?_ ?_ ?_ ?_<;>rw[kq]
  ·exact n1
  ·exact n2
  ·exact n3
  ·exact n4
 show aC none n E0.P _ (BU.drop 9) a3 w3;have oZ:Agree LJ eH (ak 9 Jg) w3 (dg [0,l.length,0,next] [.bool false,.bool false,rv] [aZ l] [(#[],0),(#[],0)]):=by
  refine bC ⟨(agB m1 0).symm,(agB m1 1).symm,(agB m1 3).symm,agm⟩ ⟨?_,agm⟩ ⟨(agB m3 0).symm,agm⟩ ⟨?_,agm⟩
  ·simp only[VR];exact⟨(agB m2 2).symm,gh⟩
  ·intro r es c hr jE
   obtain⟨o,h1,h2⟩:=ez.hr.ew 7 r hr (by rw[aH];trivial);rw[aH]at h2;rw[jE]at h1;cases h1;obtain⟨el,h1,h2⟩:=h2;cases h1;simp only[fB]at h2;show(#[],0)=(es,0);have:es=#[]:=aop.1 h2;rw[this]
 obtain⟨jn,ll,k1,k2,k3,k4⟩:=ez.conv ab9 _ oZ;obtain⟨N,hN⟩:∃N,l.length=N+1:=by
  cases l with
  |nil=>exact(bU rfl).elim
  |cons x xs=>exact⟨xs.length,rfl⟩
 refine dd (id:=0) (b:=(match BU.drop 9 with|.block _ (.loop b)::_=>b|_=>.skip)) (rest:=BU.drop 10) (N+1) (Al w l rv next) ?_ ?_ ⟨jn,ll,gJ,hg.trans ig,k1,k2,k3,k4⟩
 ·intro i a w' hi hinv
  obtain⟨p,hp⟩:∃p,l[i]? =some p:=⟨l[i],List.getElem?_eq_getElem (by omega)⟩
  have hm:=List.mem_of_getElem? hp;have lG:1<=p.1.id/\p.1.id<=100000:=by have:=H.ids i p hp;have:=H.nx;omega
  cases i with
  |zero=>
   by_cases hz:p.1.ref=0
   ·exact Am gh hp (H.aP p hm) lG (H.ref p hm) H.ln (DY hz) acd acf hinv
   ·exact Am gh hp (H.aP p hm) lG (H.ref p hm) H.ln (DX hz) acb ace hinv
  |succ i=>
   by_cases hz:p.1.ref=0
   ·exact An gh hp (H.aP p hm) lG (H.ref p hm) H.ln (DY hz) ach acj hinv
   ·exact An gh hp (H.aP p hm) lG (H.ref p hm) H.ln (DX hz) acg aci hinv
 ·rintro a w' ⟨φ,late,hs,hd,hg,⟨n1,n2,n3,n4⟩,xV,xG⟩
  let Y:Sym:=dg [(N+1:Nat),l.length,0,next] [.bool false,.bool false,rv] [aZ l,[],aZ late] [(#[],0),pm l (N+1)];refine ad.go aB rfl wD 100 (cs:=roundOf (BU.drop 9)) Q6 ais hs hd Y ?_ (fun ay b9 m1 m2 m3 m4=> ?_) Y ?_ fun af a' w'' cu cy dh hk k1 k2 k3 k4=>⟨rfl,?_⟩
  ·exact⟨⟨(agB n1 0).symm,(agB n1 1).symm,(agB n1 3).symm,agm⟩,⟨⟨(agB n2 2).symm,gh⟩,agm⟩,⟨(agB n3 0).symm,(agB n3 2).symm,agm⟩,⟨(agB n4 1).symm,agm⟩⟩
  ·have s0:ay.y.s 0=(N+1:Nat):=agB m1 0
   have s1:ay.y.s 1=l.length:=agB m1 1;exact⟨agm,⟨.lss (k:=.i64) (x:=(N+1:Nat)) (y:=l.length) (by simp only[aR,s0]) (by simp only[aR,s1]) (by simp;omega),agm⟩,agm,agm,agm,agm,agm,agm,agm⟩
  ·exact⟨⟨rfl,rfl,rfl,agm⟩,⟨⟨rfl,gh⟩,agm⟩,⟨rfl,rfl,agm⟩,⟨rfl,agm⟩⟩
  obtain⟨r5,h5⟩:=cu.ptr 7 rfl;obtain⟨c5,_,v5,_⟩:=cu.hr.cx h5 (l:=[.sr 9 2 0 4,.m (some 7)]) rfl;simp only[J]at v5;obtain⟨lv,_,_,Wx,mv,_,_,Rb,_⟩:=v5;have hF:Found w'' l lv mv:=by
   refine⟨⟨late,?_,?_,fun p hp=>(xG p hp).kept fun r c h=>hk.c r c 98 rfl h⟩,?_⟩
   ·have:=cu.hr.isRow (e:=51) rfl Wx
    rwa[show af.w 2=aZ late from agB k3 2]at this
   ·rw[xV,List.take_of_length_le (by omega)]
   ·simp only[VR]at Rb
    obtain⟨r7,h7,rfl⟩:=Rb;obtain⟨es,c,g7,mu,_⟩:=cu.hr.qR h7 (x:=1) (d:=.int .i64) (us:=[]) rfl;simp only[MU]at mu;refine⟨r7,rfl,?_⟩;rw[g7,hN,<-show af.g 1=pm l (N+1)from agB k4 1,<-mu]
  have aiv:lv.oneCell'=true:=by
   simp only[VR]at Wx;obtain⟨_,_,_,_,_,_,_,_,rfl⟩:=Wx;rfl
  have aiw:mv.oneCell'=true:=by
   simp only[VR]at Rb;obtain⟨_,_,rfl⟩:=Rb;rfl
  let Z:Sym:=dg [0,0,0,next] [.bool false,.bool false,rv,.bool false,.bool false,lv,mv] [] [];have oZ:Agree Q7 af (ak 13 gP) w'' Z:=by
   refine bC ⟨(agB k1 3).symm,agm⟩ ⟨?_,Wx,Rb,agm⟩ trivial trivial;simp only[VR];exact⟨(agB k2 2).symm,gh⟩
  obtain⟨jH,wE,j1,j2,j3,j4⟩:=cu.conv ait Z oZ;refine ad.go aB rfl Q8 10 (cs:=BU.drop 10) aco aiu wE cy Z ?_ (fun ay b9 m1 m2 m3 m4=> ?_) Z ?_ fun NT a6 w6 qT Ao Ap LN i1 i2 i3 i4=> ?_
  ·exact⟨⟨(agB j1 3).symm,agm⟩,⟨⟨(agB j2 2).symm,gh⟩,⟨(agB j2 5).symm,aiv⟩,⟨(agB j2 6).symm,aiw⟩,agm⟩,agm,agm⟩
  ·refine⟨agm,agm,agm,agm,agm,agm,agm,agm,⟨?_,agm⟩⟩
   intro af hle args' ha;have:args'=[.agg #[lv,mv],rv]:=by
    simp only[J,VR]at ha;obtain⟨_,_,rfl,⟨cs,rfl,_,_,e1,⟨rfl,_⟩,_,_,rfl,⟨rfl,_⟩,rfl⟩,_,_,rfl,⟨rfl,_⟩,rfl⟩:=ha;rw[hle.qy,m2]at e1⊢
    congr 2
    exact aop.1 e1
   subst this;refine⟨⟨_,_,Tryz.func91,rfl,rfl⟩,fun n w' I2=> ?_⟩;refine(hwh n w' lv mv (hF.kept (fun r c T hT h=>I2 _ _ ?_) fun r es c h=>I2 _ _ (b9.kM rfl h)) ?_).mono ?_
   ·rcases hT with rfl|rfl
    ·exact b9.kT rfl h
    ·exact b9.kT rfl h
   ·refine H.roots.kept fun r o h=>I2 _ _ ?_
    rw[b9.kB (Array.getElem?_eq_some_iff.1 h).1];exact(hg.trans dh).at_ rfl h
   ·rintro e w'' ⟨v,h1,h2,h3⟩
    exact⟨v,h1,by simp only[VR];exact h2,h3⟩
  ·exact⟨agm,⟨⟨rfl,aiv⟩,⟨rfl,aiw⟩,agm⟩,agm,agm⟩
  refine⟨.inl rfl,Ao,?_⟩;obtain⟨v,gE,ff⟩:=qT.leave aB (fn:=Tryz.f41) (l:=[.a [.q 5,.q 6],.i .i64 0]) rfl;refine⟨v,gE,v,rfl,⟨lv,mv,?_,?_⟩,((hg.trans dh).trans Ap).grown⟩
  ·simp only[fG,VR,J]at ff
   obtain⟨vs,rfl,_,_,e1,⟨cs,rfl,_,_,e2,⟨rfl,_⟩,_,_,rfl,⟨rfl,_⟩,rfl⟩,_,_,rfl,rfl,rfl⟩:=ff;rw[i2]at e2
   congr 1
   apply aop.1;rw[e1]
   congr 2
   exact aop.1 e2
  ·exact hF.kept (fun r c T hT h=>LN.c r c T (by rcases hT with rfl|rfl<;>rfl) h) fun r es c h=>LN.m rfl r es c h
noncomputable def c49:List Code:=ct ((Tryz.f91.body).getD .skip)
def Zt:List (Nat×aQ):=[(2,.rm 0 (.int .i64)),(1,.rw 1 51),(0,.rw 0 101)]
def uu:List V:=[.a [.sr 1 1 0 4,.m (some 2)],.sr 0 0 0 2]
def pS:List (Nat×V):=[(2,.p (some (3,0))),(4,.b false),(5,.f 139 [] [.p (some (3,0))]),(11,.sr 0 0 0 2),(12,.y .i64 1),(13,.y .i64 0)]
def pT:List (Nat×aQ):=[(3,.cells [.sr 1 1 0 4,.m (some 2)] 128 false),(2,.rm 0 (.int .i64)),(1,.rw 1 51),(0,.rw 0 101)]
def DZ:aU:={rz:=[(0,2),(1,4)],rl:=[(0,0,1)]}
def acr:bP:={s:=[(0,.i 0),(1,.y 1)],w:=[(0,.same 0),(1,.same 1)],g:=[(0,.same 0)]}
theorem aix:av (ar E0 DZ) 100 (c49.take 3) ⟨34,load uu 0 .leaf⟩ (ak 3 Zt) .n acr 34 pS 4 pT=true:=by decide+kernel
def Rc:bP:={s:=[(0,.y 0),(1,.y 1)],w:=[(0,.same 0),(1,.same 1)],g:=[(0,.same 0)]}
theorem Re:aW Rc 34 pS 4 pT=true:=by decide+kernel
def Rf:aU:={bd:=[(5,1,100000)],bin:=[(.lss,.y .i64 0,.y .i64 1,.b true),(.add,.y .i64 0,.i .i64 1,.y .i64 2)],rz:=[(0,2),(1,4)],re:=[(0,0,[.q 4,.y .i64 5])],mg:=[(0,.y .i64 5,some .top)]}
def acs:bP:={s:=[(0,.y 2),(1,.y 1)],w:=[(0,.same 0),(1,.same 1)],g:=[(0,.same 0)]}
theorem aiy:av (ar E0 Rf) 200 ((roundOf (c49.drop 3)).take 100) (U 34 pS) (ak 4 pT) .n acs 34 pS 4 pT=true:=by decide+kernel
def wF:aU:={bin:=[(.lss,.y .i64 0,.y .i64 1,.b false)],rz:=[(0,2),(1,4)]}
theorem aiz:av (ar E0 wF) 100 ((roundOf (c49.drop 3)).take 100) (U 34 pS) (ak 4 pT) (.e 0) Rc 34 pS 4 pT=true:=by decide+kernel
def jc:List (Nat×V):=[(2,.p (some (3,0))),(4,.b false),(5,.f 139 [] [.p (some (3,0))]),(23,.sr 1 1 0 4),(24,.y .i64 1),(25,.y .i64 0)]
def jd:List (Nat×aQ):=[(3,.cells [.sr 1 1 0 4,.m (some 2)] 128 false),(2,.rm 0 (.int .i64)),(1,.rw 1 51)]
def Rg:aU:={rz:=[(0,2),(1,4)],rl:=[(1,0,3)]}
def acu:bP:={s:=[(0,.i 0),(1,.y 3)],w:=[(1,.same 1)],g:=[(0,.same 0)]}
theorem aiA:av (ar E0 Rg) 100 ((c49.drop 4).take 1) (U 34 pS) (ak 4 pT) .n acu 34 jc 4 jd=true:=by decide+kernel
def Rh:bP:={s:=[(0,.y 0),(1,.y 1)],w:=[(1,.same 1)],g:=[(0,.same 0)]}
def Jn:bP:={s:=[(0,.y 2),(1,.y 1)],w:=[(1,.same 1)],g:=[(0,.same 0)]}
theorem Jo:aW Rh 34 jc 4 jd=true:=by decide+kernel
def Ri:aU:={bd:=[(6,1,100000)],bin:=[(.lss,.y .i64 0,.y .i64 1,.b true),(.add,.y .i64 0,.i .i64 1,.y .i64 2)],rz:=[(0,2),(1,4)],re:=[(1,0,[.y .i64 4,.i .i64 0,.i .i64 0,.sl (some (4,0)) 1 (.kn 1)])],mg:=[(0,.y .i64 6,some .top)]}
theorem acv:av (ar E0 Ri) 300 ((roundOf (c49.drop 5)).take 100) (U 34 jc) (ak 5 ((4,Wt)::jd)) .n Jn 34 jc 4 jd=true:=by decide+kernel
def Rj:aU:={bin:=[(.lss,.y .i64 0,.y .i64 1,.b true),(.add,.y .i64 0,.i .i64 1,.y .i64 2)],rz:=[(0,2),(1,4)],re:=[(1,0,[.y .i64 4,.i .i64 0,.i .i64 0,.sl (some (4,0)) 1 (.kn 1)])]}
theorem acw:av (ar E0 Rj) 300 ((roundOf (c49.drop 5)).take 100) (U 34 jc) (ak 5 ((4,Jh)::jd)) .n Jn 34 jc 4 jd=true:=by decide+kernel
theorem aiB:av (ar E0 wF) 100 ((roundOf (c49.drop 5)).take 100) (U 34 jc) (ak 4 jd) (.e 2) Rh 34 jc 4 jd=true:=by decide+kernel
def acx:List (Nat×V):=[(4,.b true)]
theorem aiC:av (ar E0 {}) 100 ((c49.drop 6).take 2) (U 34 jc) (ak 4 jd) .r {} 34 acx 0 []=true:=by decide+kernel
end Go.Ev
