/- A part of what LimitFits rests on. -/
import Derived.Test.YtnpajahfimaakaaGreatDoorA06
import Derived.Test.YtnpajahfimaakaaGreatDoorA05
import Derived.Test.YtnpajahfimaakaaGreatDoorA01
set_option linter.all false
namespace Go.Ev
open Bool renaming and_eq_true->aop,not_eq_true'->arG,or_eq_true->arN
open Nat renaming eq_of_beq_eq_true->AAA,beq->arE,le_trans->arI,lt_irrefl->arY
open _root_.Array renaming getElem?_eq_some_iff->arC,getD_eq_getD_getElem?->arF,replicate->arM,toList_inj->arU,getElem?_eq_getElem->arX,toArray_toList->arZ
open Region renaming ready->arD,binds->arT
open List renaming all_eq_true->arH,mem_cons_of_mem->arK,getElem?_eq_getElem->arL,take_append_drop->arO,countP_replicate->arP,replicate->arQ,mem_range->arR,mem_of_getElem?->arS,any_eq_true->arW,range->asa
open Region.linearise renaming go->arJ
open Option renaming map_some->arV
variable{af φ:Ren}{nb:Nat}{HB:List (Nat×aQ)}
noncomputable section
mutual
def uf(x:Nat)(p:V):V->V
 |.q z=>cond (arE z x) p (.q z)
 |.f fn a b=>.f fn (oM x p a) (oM x p b)
 |.EZ t v=>.EZ t (uf x p v)
 |.a l=>.a (oM x p l)
 |.t l=>.t (oM x p l)
 |v=>v
def oM(x:Nat)(p:V):List V->List V
 |[]=>[]
 |v::l=>uf x p v::oM x p l
end
mutual
theorem nR{φ af:Ren}(hle:Le φ af){x:Nat}{p:V}(hp:VR af p (φ.q x)):∀(v:V) (u:Value),VR φ v u->VR af (uf x p v) u
 |.q z,u,h=>by
  simp only[uf];cases hb:arE z x with
  |true=>
   have:=AAA hb;subst this;simp only[VR]at h;simp only[cond];rw[h.1];exact hp
  |false=>exact VR.mono hle _ _ h
 |.f fn a b,u,h=>by
  simp only[uf,VR]at h⊢;obtain⟨f',c',h1,h2,h3⟩:=h;exact⟨f',c',h1,jw hle hp a _ h2,jw hle hp b _ h3⟩
 |.EZ t v,u,h=>by
  simp only[uf,VR]at h⊢;obtain⟨y,h1,h2⟩:=h;exact⟨y,h1,nR hle hp v _ h2⟩
 |.a l,u,h=>by
  simp only[uf,VR]at h⊢;obtain⟨y,h1,h2⟩:=h;exact⟨y,h1,jw hle hp l _ h2⟩
 |.t l,u,h=>by
  simp only[uf,VR]at h⊢;obtain⟨y,h1,h2⟩:=h;exact⟨y,h1,jw hle hp l _ h2⟩
 |.top,u,h=>by simp[uf,VR]
 |.b _,u,h=>VR.mono hle _ _ h
 |.i _ _,u,h=>VR.mono hle _ _ h
 |.y _ _,u,h=>VR.mono hle _ _ h
 |.sr ..,u,h=>VR.mono hle _ _ h
 |.pr ..,u,h=>VR.mono hle _ _ h
 |.s _,u,h=>VR.mono hle _ _ h
 |.p _,u,h=>VR.mono hle _ _ h
 |.sl ..,u,h=>VR.mono hle _ _ h
 |.es,u,h=>VR.mono hle _ _ h
 |.m _,u,h=>VR.mono hle _ _ h
 |.yl _,u,h=>VR.mono hle _ _ h
 |.o,u,h=>VR.mono hle _ _ h
 |.nf,u,h=>VR.mono hle _ _ h
 |.ni,u,h=>VR.mono hle _ _ h
theorem jw{φ af:Ren}(hle:Le φ af){x:Nat}{p:V}(hp:VR af p (φ.q x)):∀(v:List V) (u:List Value),J φ v u->J af (oM x p v) u
 |[],u,h=>by simpa[oM,J]using h
 |v::l,u,h=>by
  simp only[J]at h;obtain⟨y,ys,rfl,h1,h2⟩:=h;exact J.cons (nR hle hp v y h1) (jw hle hp l ys h2)
end
theorem gZ(x:Nat)(p:V):∀l:List V,(oM x p l).length=l.length
 |[]=>rfl
 |v::l=>by simp[oM,gZ x p l]
def QF(x:Nat)(p:V):List (V×V×Nat)->List (V×V×Nat)
 |[]=>[]
 |(k,v,n)::l=>(uf x p k,uf x p v,n)::QF x p l
theorem Lu{φ af:Ren}(hle:Le φ af){x:Nat}{p:V}(hp:VR af p (φ.q x)):∀(v:List (V×V×Nat)) (u:List MapEntry),fB φ v u->fB af (QF x p v) u
 |[],u,h=>by simpa[QF,fB]using h
 |(k,v,n)::l,u,h=>by
  simp only[fB,QF]at h⊢;obtain⟨e,es,rfl,h1,h2,h3,h4⟩:=h;exact⟨e,es,rfl,nR hle hp k _ h1,nR hle hp v _ h2,h3,Lu hle hp l es h4⟩
def Gk(x:Nat)(p:V):aQ->aQ
 |.cells l e g=>.cells (oM x p l) e g
 |.rc l e=>.rc (oM x p l) e
 |.row y l e=>.row y (oM x p l) e
 |.mp es c=>.mp (QF x p es) c
 |b=>b
theorem DK(hle:Le φ af){x:Nat}{p:V}(hp:VR af p (φ.q x)){N:Nat}(b:aQ){o:Obj}(h:BR φ N b o):BR af N (Gk x p b) o:=by
 cases b with
 |cells l e g=>
  obtain⟨c,h1,h2,h3,h4,h5⟩:=h;exact⟨c,h1,by rw[gZ];exact jw hle hp _ _ h2,by rw[gZ];exact h3,by rw[gZ];exact h4,h5⟩
 |rc l e=>
  obtain⟨c,h1,h2,h3,h4⟩:=h;exact⟨c,h1,by rw[gZ];exact jw hle hp _ _ h2,by rw[gZ];exact h3,h4⟩
 |row y l e=>
  obtain⟨c,vs,h1,h2,h3,h4,h5⟩:=h;exact⟨c,vs,h1,jw hle hp _ _ h2,by rw[gZ,hle.wy];exact h3,by rw[gZ,hle.wy];exact h4,h5⟩
 |mp es c=>
  obtain⟨el,h1,h2⟩:=h;exact⟨el,h1,Lu hle hp _ _ h2⟩
 |_=>exact h.mono hle
theorem cU(x:Nat)(p:V)(b:aQ):((Gk x p b).live↔b.live)/\((Gk x p b).mut↔b.mut):=by
 cases b<;>exact⟨Iff.rfl,Iff.rfl⟩
def jG(x:Nat)(p:V):List (Nat×V)->List (Nat×V)
 |[]=>[]
 |(k,v)::l=>(k,uf x p v)::jG x p l
def iO(x:Nat)(p:V):List (Nat×aQ)->List (Nat×aQ)
 |[]=>[]
 |(k,v)::l=>(k,Gk x p v)::iO x p l
theorem yO(x:Nat)(p:V):∀(l:List (Nat×V)) (j:Nat),BP (jG x p l) j=uf x p (BP l j)
 |[],j=>by simp[jG,BP,uf]
 |(k,v)::l,j=>by
  simp only[jG,BP]
  by_cases h:j=k
  ·rw[if_pos h,if_pos h]
  ·rw[if_neg h,if_neg h,yO x p l j]
theorem yP(x:Nat)(p:V):∀(l:List (Nat×aQ)) (j:Nat),mO (iO x p l) j=Gk x p (mO l j)
 |[],j=>rfl
 |(k,v)::l,j=>by
  simp only[iO,mO]
  by_cases h:j=k
  ·rw[if_pos h,if_pos h]
  ·rw[if_neg h,if_neg h,yP x p l j]
theorem ad.Wl{φ:Ren}{B nt nb:Nat}{L:List (Nat×V)}{HB:List (Nat×aQ)}{a:Act}{w:World}(hs:ad φ B (U nt L) (ak nb HB) a w){r:Nat}{ob:Obj}{N:Nat}(ho:w.heap[r]? =some ob)
  (hn:∀b q,(b,q)∈HB->q.live->∀N,¬BR φ N q ob)(x:Nat)(p:V)(ew:aQ)(hb:¬ew.mut)(hbr:BR φ N ew ob)(hp:VR (up φ nb r N) p (φ.q x)):
  ad (up φ nb r N) B (U nt (jG x p L)) (ak (nb+1) ((nb,ew)::iO x p HB)) a w:=by
 have QG:=hs.hr.abN ho hn ew hb hbr;have F8:∀s,φ nb≠some s:=fun s es=>by have:=(hs.hr.lM _ _ es).1;exact absurd this (arY _)
 have hle:Le φ (up φ nb r N):=jr F8;have fb:∀b s,up φ nb r N b=some s->(b=nb/\s=r)\/(b≠nb/\φ b=some s):=fun b s es=>by
  simp only[up]at es
  by_cases l8:b=nb
  ·rw[if_pos l8]at es;cases es;exact .inl ⟨l8,rfl⟩
  ·rw[if_neg l8]at es;exact .inr ⟨l8,es⟩
 have dZ:∀b,(ak (nb+1) ((nb,ew)::iO x p HB)).get b=if b=nb then ew else Gk x p ((ak nb HB).get b):=fun b=>by
  rw[aH,aH];simp only[mO];rw[yP]
 have Cv:∀b,(ak (nb+1) ((nb,ew)::HB)).get b=if b=nb then ew else(ak nb HB).get b:=fun b=>by
  rw[aH,aH];rfl
 refine⟨⟨hs.fr.1,fun k=> ?_⟩,⟨QG.iL,fun b s es=> ?_,fun b s es hl=> ?_,fun b b' s es oU hl ru=> ?_,fun s o hk=> ?_⟩,fun b s es hm=> ?_,fun s cu=> ?_,hs.bz⟩
 ·have:=hs.fr.2 k
  rw[cA]at this⊢;rw[yO];exact nR hle hp _ _ this
 ·exact QG.lM b s es
 ·rw[dZ]at hl⊢
  by_cases yE:b=nb
  ·have:=QG.ew b s es (by rw[Cv,if_pos yE];rw[if_pos yE]at hl;exact hl)
   rw[Cv,if_pos yE]at this;rw[if_pos yE];exact this
  ·rw[if_neg yE]at hl⊢
   rcases fb b s es with⟨h1,_⟩|⟨_,O6⟩
   ·exact absurd h1 yE
   ·obtain⟨o,h1,h2⟩:=hs.hr.ew b s O6 ((cU x p _).1.1 hl)
    exact⟨o,h1,by rw[(hle b s O6).2];exact DK hle hp _ h2⟩
 ·have conv:∀b,((ak (nb+1) ((nb,ew)::iO x p HB)).get b).live->((ak (nb+1) ((nb,ew)::HB)).get b).live:=fun b h=>by
   rw[dZ]at h;rw[Cv]
   by_cases yE:b=nb
   ·rw[if_pos yE]at h⊢;exact h
   ·rw[if_neg yE]at h⊢;exact(cU x p _).1.1 h
  exact QG.inj b b' s es oU (conv b hl) (conv b' ru)
 ·have:=QG.kp s o hk
  refine⟨this.1,fun b es=> ?_⟩;have h2:=this.2 b es;rw[Cv]at h2;rw[dZ]
  by_cases yE:b=nb
  ·rw[if_pos yE]at h2⊢;exact h2
  ·rw[if_neg yE]at h2⊢;exact fun h=>h2 ((cU x p _).2.1 h)
 ·rw[dZ]at hm
  rcases fb b s es with⟨h1,_⟩|⟨h1,O6⟩
  ·rw[if_pos h1]at hm;exact absurd hm hb
  ·rw[if_neg h1]at hm;exact hs.loc b s O6 ((cU x p _).2.1 hm)
 ·refine hs.kf s fun b es hm=> ?_
  have yE:b≠nb:=fun e=>F8 s (e▸es)
  refine cu b ((hle b s es).1) ?_;rw[dZ,if_neg yE];exact(cU x p _).2.2 hm
theorem ad.lb{φ:Ren}{B nt nb:Nat}{L:List (Nat×V)}{HB:List (Nat×aQ)}{a:Act}{w:World}(hs:ad φ B (U nt L) (ak nb HB) a w){r:Nat}{c:Array Value}{T:TypeId}(ho:w.heap[r]? =some (.cells c T (0,0)))
  (hn:rG T HB=true)(x:Nat)(p:V)(ew:aQ)(hb:¬ew.mut)(hbr:BR φ c.size ew (.cells c T (0,0)))(hp:VR (up φ nb r c.size) p (φ.q x)):
  ad (up φ nb r c.size) B (U nt (jG x p L)) (ak (nb+1) ((nb,ew)::iO x p HB)) a w:=hs.Wl ho (fun b q hm hl N=>sD hn b q hm hl) x p ew hb hbr hp
theorem HR.abO{w:World}(hr:HR φ (ak nb HB) w){r:Nat}{es:Array MapEntry}{c:Nat}(ho:w.heap[r]? =some (.map es c))(hn:NM HB=true)(x:Nat)(d:TypeDesc)(hx:φ.g x=(es,c))(hk:∀e∈es.toList,MapKept.IsKey d e.key):
  HR (up φ nb r 0) (ak (nb+1) ((nb,.rm x d)::HB)) w:=hr.abN ho (fun b q hm hl N=>DJ hn b q hm hl) (.rm x d) (fun h=>h) ⟨es,c,rfl,by simp only[MU];exact hx.symm,hk⟩
end
variable{B nt:Nat}{L:List (Nat×V)}{a:Act}
noncomputable section
theorem lf{E:Env}(hE:E.OK){call yld:dJ}(hC:pD E call)(hY:qC E yld)(ops:Array Oper)(ro:Option Nat)(n:Nat){Q:Exit->Act->World->Prop}(l2:List Oper):∀(l:List Oper) (fr:Fr) (h:H) (cQ:Fr) (h':H),wu E call yld ops l fr h=some (cQ,h')->
  ∀(φ:Ren) (a:Act) (w:World),GL E.ng φ->BD E φ->FR φ fr a.tmps->HR φ h w->
  (∀af a' w',Ext φ w af w'->FR af cQ a'.tmps->a'.defers=a.defers->HR af h' w'->wpListIn (W ro) n E.P ops Q l2 a' w')->wpListIn (W ro) n E.P ops Q (l++l2) a w
 |[],fr,h,cQ,h',e,φ,a,w,_,_,hf,hr,hQ=>by
  simp only[FC,Option.some.injEq,Prod.mk.injEq]at e;obtain⟨rfl,rfl⟩:=e;exact hQ φ a w (Ext.refl φ w) hf rfl hr
 |o::rest,fr,h,cQ,h',e,φ,a,w,hg,bK,hf,hr,hQ=>by
  simp only[Co]at e;rw[List.cons_append];split at e
  ·rename_i hw
   have mK:=gV hf hw;simp only[wpListIn,mK,if_true];split at e
   ·rename_i v h1 hs
    refine kR hE hC hY hg bK hf hr ro n o hs fun af u w' hx hv cM=> ?_
    split at e
    ·rename_i hd
     refine lf hE hC hY ops ro n l2 rest fr h1 cQ h' e af (a.put o.dst u) w' (hg.mono hx.le) (bK.mono hx.le) ?_ cM fun jZ IH w'' iT su sw mL=> ?_
     ·rw[hd];exact hf.mono hx.le
     ·exact hQ jZ IH w'' (hx.trans iT) su (by rw[sw];rw[hd];rfl) mL
    ·rename_i d hd
     cases bf:Nat.blt d fr.n with
     |false=>rw[bf]at e;cases e
     |true=>
      rw[bf]at e;simp only[cond]at e;refine lf hE hC hY ops ro n l2 rest (fr.set d v) h1 cQ h' e af (a.put o.dst u) w' (hg.mono hx.le) (bK.mono hx.le) ?_ cM fun jZ IH w'' iT su sw mL=> ?_
      ·rw[hd];exact(hf.mono hx.le).put (bh.1 bf) hv
      ·exact hQ jZ IH w'' (hx.trans iT) su (by rw[sw];rw[hd];rfl) mL
   ·cases e
  ·rename_i hw
   have mK:=gV hf hw;simp only[wpListIn,mK,Bool.false_eq_true,if_false];refine⟨fun _ _=>trivial,?_⟩;split at e
   ·rename_i hd
    refine lf hE hC hY ops ro n l2 rest fr h cQ h' e φ (a.put o.dst undef) w hg bK ?_ hr fun jZ IH w'' iT su sw mL=> ?_
    ·rw[hd];exact hf
    ·exact hQ jZ IH w'' iT su (by rw[sw];rw[hd];rfl) mL
   ·rename_i d hd
    cases bf:Nat.blt d fr.n with
    |false=>rw[bf]at e;cases e
    |true=>
     rw[bf]at e;simp only[cond]at e;refine lf hE hC hY ops ro n l2 rest (fr.set d (.t [])) h cQ h' e φ (a.put o.dst undef) w hg bK ?_ hr fun jZ IH w'' iT su sw mL=> ?_
     ·rw[hd];exact hf.put (bh.1 bf) (by simp only[VR];exact⟨#[],rfl,by simp[J]⟩)
     ·exact hQ jZ IH w'' iT su (by rw[sw];rw[hd];rfl) mL
  ·cases e
def bH(E:Env)(k:Nat)(ops:Array Oper)(l:List Oper)(fr:Fr)(h:H)(tb:bP)(nt:Nat)(L:List (Nat×V))(nb:Nat)(HB:List (Nat×aQ)):Bool:=fL tb&&
 match wu E (jP E (exec E k)) (mh (exec E k)) ops l fr h with
 |some (cQ,h')=>(bG tb cQ h' nt L nb HB).isSome
 |none=>false
theorem ad.gz{E:Env}(hE:E.OK)(qQ:E.ng=0)(m:Nat){k:Nat}{ops:Array Oper}{l:List Oper}{fr:Fr}{tF:Nat}{HB0:List (Nat×aQ)}{tb:bP}{nt:Nat}{L:List (Nat×V)}{nb:Nat}{HB:List (Nat×aQ)}(hc:bH E k ops (l.take m) fr (ak tF HB0) tb nt L nb HB=true)
  {φ:Ren}{B:Nat}{a:Act}{w:World}{n:Nat}(hs:ad φ B fr (ak tF HB0) a w)(bK:BD E φ)(y:Sym)(hy:iC tb φ.y y){Q:Exit->Act->World->Prop}
  (hQ:∀af a' w',ad af B (U nt L) (ak nb HB) a' w'->a'.defers=a.defers->GB B w w'->zS HB0 w w'->af.s=y.s->af.q=y.q->af.w=y.w->af.g=y.g->wpListIn (W none) n E.P ops Q (l.drop m) a' w'):wpListIn (W none) n E.P ops Q l a w:=by
 simp only[bH,aop]at hc;obtain⟨hp,hc⟩:=hc;split at hc
 ·rename_i cQ h' hex
  cases e:bG tb cQ h' nt L nb HB with
  |none=>rw[e]at hc;cases hc
  |some σ=>
   have:=lf hE (gq hE (cV hE k).1) (gX (cV hE k).1) ops none n (Q:=Q) (l.drop m) (l.take m) fr (ak tF HB0) cQ h' hex φ a w (by rw[qQ];exact fun g hg=>by omega) bK hs.fr hs.hr fun af a' w' iD wz cy cM=>by
    obtain⟨vK,ju⟩:=hs.after iD cM;have bB:=dM e wz cM ju (arI hs.bz iD.size) y (hy.agree hp iD.le.yy h' w');exact hQ _ a' w' bB cy vK (hs.Lt iD cM) rfl rfl rfl rfl
   rwa[arO]at this
 ·cases hc
theorem ad.grow{w w':World}(hs:ad φ B (U nt L) (ak nb HB) a w)(hg:Grown w w'){tb:bP}(hc:aW tb nt L nb HB=true){y:Sym}(hy:Ag tb φ.y y):
  ∃af,ad af B (U nt L) (ak nb HB) a w'/\af.s=y.s/\af.q=y.q/\af.w=y.w/\af.g=y.g:=by
 simp only[aW,aop]at hc;cases e:bG tb (U nt L) (ak nb HB) nt L nb HB with
 |none=>rw[e]at hc;cases hc.2
 |some σ=>exact⟨_,dM e hs.fr (hg.ok hs.hr).1 hs.loc (arI hs.bz hg.size) y ((hy.au rfl rfl rfl rfl).agree hc.1 rfl _ _),rfl,rfl,rfl,rfl⟩
theorem ad.put{φ:Ren}{B nt:Nat}{L:List (Nat×V)}{h:H}{a:Act}{w:World}(hs:ad φ B (U nt L) h a w){d:Nat}(hd:d<nt){x:V}{v:Value}(hv:VR φ x v):ad φ B (U nt ((d,x)::L)) h (a.put (some d) v) w:=⟨FR.put hs.fr hd hv,hs.hr,hs.loc,hs.kf,hs.bz⟩
theorem Wm{P:Program}{n:Nat}{ops:Array Oper}{Q:Exit->Act->World->Prop}{o:Oper}{rest:List Oper}{a:Act}{w:World}{c:Call}{f:Operand}{g:FuncId}{first im:Array Value}{fn:Func}{cd:Code}(gm:o.op=.call c)(BN:c.callee=.value f)
  (tQ:o.guard=none)(hv:a.eval f=.func (.func g) first im)(lF:P.funcs[g]? =some fn)(pE:fn.body=some cd)(jN:(fn.name== "runtime.NumGoroutine")=false)
  (eF:CallsIn (W none) (n-1) P g (first++c.args.map a.eval++im) w fun e w'=>∃v,e=.returned v/\wpListIn (W none) n P ops Q rest (a.put o.dst v) w'):wpListIn (W none) n P ops Q (o::rest) a w:=by
 have hw:Region.wanted o (yielded ops a.tmps)=true:=by simp[Region.wanted,tQ]
 simp only[wpListIn,hw,if_true];refine⟨fun _ _=>trivial,?_⟩;rw[Oper.semAt_eq _ _ _ (fun c' e=>by rw[gm]at e;cases e)];have nP:¬fn.name= "runtime.NumGoroutine" :=by simpa using jN
 have e:(execOp a.eval o).run P w=.ok (.enter g (first++c.args.map a.eval++im)) w:=by
  simp[execOp,gm,resolve,BN,hv,Deferred.ofValue,invoke,callFunc,lF,pE,nP]
 rw[e];refine⟨(fun hd=>(by cases hd)),?_⟩;refine eF.mono ?_;rintro e w' ⟨v',rfl,h3⟩;exact h3
theorem ad.eV{φ:Ren}{B:Nat}{fr:Fr}{h:H}{a:Act}{w:World}(hs:ad φ B fr h a w){P:Program}{n:Nat}{ops:Array Oper}{Q:Exit->Act->World->Prop}{l:List Oper}{o:Oper}{rest:List Oper}(hl:l=o::rest){c:Call}{f:Operand}{g:FuncId}{fn:Func}{cd:Code}(gm:o.op=.call c)(BN:c.callee=.value f)
  (tQ:o.guard=none)(Wn:ev 0 fr f=.f g [] [])(lF:P.funcs[g]? =some fn)(pE:fn.body=some cd)(jN:(fn.name== "runtime.NumGoroutine")=false){Vs:List V}(hVs:c.args.toList.map (ev 0 fr)=Vs)
  (eF:∀args',J φ Vs args'->CallsIn (W none) (n-1) P g args'.toArray w fun e w'=>∃v,e=.returned v/\wpListIn (W none) n P ops Q rest (a.put o.dst v) w'):wpListIn (W none) n P ops Q l a w:=by
 subst hl;have hg:GL 0 φ:=fun g hg=>by omega
 have so:=ry hg hs.fr f;rw[Wn]at so;simp only[VR]at so;obtain⟨eu,fY,hv,h1,h2⟩:=so;simp only[J]at h1 h2;have e1:eu=#[]:=arU.1 h1;have e2:fY=#[]:=arU.1 h2;subst e1;subst e2;refine Wm gm BN tQ hv lF pE jN ?_;have cG:=vU hg hs.fr c.args.toList;rw[hVs]at cG;have:=eF _ cG;have mJ:(c.args.toList.map a.eval).toArray=#[]++c.args.map a.eval++#[]:=by
  apply Array.ext';simp
 rw[mJ]at this;exact this
end
variable{fr:Fr}{h:H}
noncomputable section
structure I3(φ af:Ren):Prop where
 f:af.f=φ.f
 n:af.n=φ.n
 s:af.s=φ.s
 q:af.q=φ.q
 w:af.w=φ.w
 g:af.g=φ.g
mutual
theorem I3.vr{φ af:Ren}(h:I3 φ af):∀(x:V) (v:Value),VR φ x v->VR af x v
 |.top,_,_=>by simp[VR]
 |.b x,v,e=>by simpa[VR]using e
 |.i k n,v,e=>by simpa[VR]using e
 |.y k x,v,e=>by simpa only[VR,h.s]using e
 |.q x,v,e=>by simpa only[VR,h.q]using e
 |.sr b x k sz,v,e=>by simpa only[VR,h.w,h.f,h.n]using e
 |.pr b x y sz off,v,e=>by simpa only[VR,h.s,h.f]using e
 |.s l,v,e=>by simpa[VR]using e
 |.p none,v,e=>by simpa[VR]using e
 |.p (some (b,o)),v,e=>by simpa only[VR,h.f]using e
 |.sl none n c,v,e=>by simpa[VR]using e
 |.sl (some (b,o)) n (.kn c),v,e=>by simpa only[VR,h.f]using e
 |.sl (some (b,o)) n (.un sz),v,e=>by simpa only[VR,h.f,h.n]using e
 |.es,v,e=>by simpa[VR]using e
 |.m none,v,e=>by simpa[VR]using e
 |.m (some b),v,e=>by simpa only[VR,h.f]using e
 |.f fn first im,v,e=>by
  simp only[VR]at e⊢;obtain⟨f',c',hv,h1,h2⟩:=e;exact⟨f',c',hv,h.Zn first _ h1,h.Zn im _ h2⟩
 |.yl b,v,e=>by simpa only[VR,h.f]using e
 |.o,v,e=>by simpa[VR]using e
 |.nf,v,e=>by simpa[VR]using e
 |.EZ t x,v,e=>by
  simp only[VR]at e⊢;obtain⟨x',hv,hx⟩:=e;exact⟨x',hv,h.vr x x' hx⟩
 |.ni,v,e=>by simpa[VR]using e
 |.a cs,v,e=>by
  simp only[VR]at e⊢;obtain⟨Db,hv,hx⟩:=e;exact⟨Db,hv,h.Zn cs _ hx⟩
 |.t cs,v,e=>by
  simp only[VR]at e⊢;obtain⟨Db,hv,hx⟩:=e;exact⟨Db,hv,h.Zn cs _ hx⟩
theorem I3.Zn{φ af:Ren}(h:I3 φ af):∀(x:List V) (v:List Value),J φ x v->J af x v
 |[],v,e=>by simpa[J]using e
 |x::xs,v,e=>by
  simp only[J]at e;obtain⟨y,ys,rfl,h1,h2⟩:=e;exact J.cons (h.vr x y h1) (h.Zn xs ys h2)
end
theorem I3.ers{φ af:Ren}(h:I3 φ af):∀{x:List (V×V×Nat)} {l:List MapEntry},fB φ x l->fB af x l
 |[],_,e=>by simpa[fB]using e
 |(k,v,n)::xs,l,e=>by
  simp only[fB]at e⊢;obtain⟨e1,es,rfl,h1,h2,h3,h4⟩:=e;exact⟨e1,es,rfl,h.vr _ _ h1,h.vr _ _ h2,h3,h.ers h4⟩
theorem I3.mu{φ af:Ren}(h:I3 φ af){d:TypeDesc}:∀{us:List (V×Option V)} {m m':Array MapEntry×Nat},MU φ d m us m'->MU af d m us m'
 |[],_,_,e=>by simpa[MU]using e
 |(k,some v)::us,_,_,e=>by
  simp only[MU]at e⊢;obtain⟨kv,vv,h1,h2,h3,h4⟩:=e;exact⟨kv,vv,h.vr _ _ h1,h.vr _ _ h2,h3,h.mu h4⟩
 |(k,none)::us,_,_,e=>by
  simp only[MU]at e⊢;obtain⟨kv,h1,h3,h4⟩:=e;exact⟨kv,h.vr _ _ h1,h3,h.mu h4⟩
theorem I3.frr(h:I3 φ af){t:Array Value}(hf:FR φ fr t):FR af fr t:=⟨hf.1,fun k=>h.vr _ _ (hf.2 k)⟩
theorem I3.br(h:I3 φ af){N:Nat}{x:aQ}{o:Obj}(hb:BR φ N x o):BR af N x o:=by
 cases x with
 |gone=>trivial
 |cells l e g=>obtain⟨c,h1,h2,h3,h4,h5⟩:=hb;exact⟨c,h1,h.Zn _ _ h2,h3,h4,h5⟩
 |mp es k=>obtain⟨c,h1,h2⟩:=hb;exact⟨c,h1,h.ers h2⟩
 |row x l e=>obtain⟨c,vs,h1,h2,h3,h4,h5⟩:=hb;exact⟨c,vs,h1,h.Zn _ _ h2,by rw[h.w];exact h3,by rw[h.w];exact h4,h5⟩
 |gS x d kD=>obtain⟨es,c,h1,h2,h3⟩:=hb;exact⟨es,c,h1,by rw[h.g];exact h.mu h2,h3⟩
 |rc l e=>obtain⟨c,h1,h2,h3,h4⟩:=hb;exact⟨c,h1,h.Zn _ _ h2,h3,h4⟩
 |rw x e=>obtain⟨c,h1,h2,h3,h4⟩:=hb;exact⟨c,h1,by rw[h.w];exact h2,by rw[h.w];exact h3,h4⟩
 |rm x d=>obtain⟨es,c,h1,h2,h3⟩:=hb;exact⟨es,c,h1,by rw[h.g];exact h.mu h2,h3⟩
 |iter s k=>exact hb
 |loop st kF fr ps az bd df=>obtain⟨fn,t,d,h1,h2,h3⟩:=hb;exact⟨fn,t,d,h1,h.frr h2,by rw[h.f];exact h3⟩
 |O0=>exact hb
theorem ad.other{w w':World}(hs:ad φ B fr h a w){r:Nat}(hn:∀b,φ b=some r->¬(h.get b).live)(ed:w'.heap.size=w.heap.size)(pN:∀i,i≠r->w'.heap[i]? =w.heap[i]?):
  ∃af,ad af B fr h a w'/\af.s=φ.s/\af.q=φ.q/\af.w=φ.w/\af.g=φ.g/\(∀b,af b=φ b)/\af.n=φ.n:=by
 let af:Ren:={φ with y:={φ.y with k:=fun x=>if x=r then w'.heap[r]?else φ.y.k x}};have hq:I3 φ af:=⟨rfl,rfl,rfl,rfl,rfl,rfl⟩;refine⟨af,⟨hq.frr hs.fr,⟨hs.hr.iL,fun b s es=> ?_,fun b s es hl=> ?_,hs.hr.inj,fun s o hk=> ?_⟩,hs.loc,fun s cu=> ?_,by rw[ed];exact hs.bz⟩,rfl,rfl,rfl,rfl,fun _=>rfl,rfl⟩
 ·rw[ed];exact hs.hr.lM b s es
 ·obtain⟨o,h1,h2⟩:=hs.hr.ew b s es hl
  refine⟨o,?_,hq.br h2⟩;rw[pN s (by rintro rfl;exact hn b es hl)];exact h1
 ·have hk:(if s=r then w'.heap[r]?else φ.y.k s)=some o:=hk
  by_cases yi:s=r
  ·subst yi
   rw[if_pos rfl]at hk;exact⟨hk,fun b es hm=>hn b es hm.live⟩
  ·rw[if_neg yi]at hk
   have:=hs.hr.kp s o hk;exact⟨by rw[pN s yi];exact this.1,this.2⟩
 ·show(if s=r then w'.heap[r]?else φ.y.k s)=_
  by_cases yi:s=r
  ·subst yi;rw[if_pos rfl]
  ·rw[if_neg yi,pN s yi]
   exact hs.kf s cu
theorem ad.Gl{w:World}(hs:ad φ B (U nt L) (ak nb HB) a w){r:Nat}{ob:Obj}{N:Nat}(ho:w.heap[r]? =some ob)(hB:B<=r)(hn:∀b,φ b≠some r)(ew:aQ)(aot:ew.mut)(hbr:BR φ N ew ob):
  ∃af,ad af B (U nt L) (ak (nb+1) ((nb,ew)::HB)) a w/\af nb=some r/\af.n nb=N/\(∀b,b≠nb->af b=φ b)/\af.s=φ.s/\af.q=φ.q/\af.w=φ.w/\af.g=φ.g:=by
 have F8:∀s,φ nb≠some s:=fun s es=>by have:=(hs.hr.lM _ _ es).1;exact absurd this (arY _)
 let ay:Ren:=up φ nb r N;let aV:Ren:={ay with y:={ay.y with k:=fun x=>if x=r then none else φ.y.k x}};have hle:Le φ ay:=jr F8;have hq:I3 ay aV:=⟨rfl,rfl,rfl,rfl,rfl,rfl⟩;have bf:r<w.heap.size:=(arC.1 ho).1;have fb:∀b s,aV b=some s->(b=nb/\s=r)\/(b≠nb/\φ b=some s):=fun b s es=>by
  have es:(up φ nb r N) b=some s:=es;simp only[up]at es
  by_cases l8:b=nb
  ·rw[if_pos l8]at es;cases es;exact .inl ⟨l8,rfl⟩
  ·rw[if_neg l8]at es;exact .inr ⟨l8,es⟩
 have dZ:∀b,(ak (nb+1) ((nb,ew)::HB)).get b=if b=nb then ew else(ak nb HB).get b:=fun b=>by
  rw[aH,aH];rfl
 refine⟨aV,⟨hq.frr (hs.fr.mono hle),⟨by show φ.m+1=nb+1;rw[hs.hr.iL];rfl,fun b s es=> ?_,fun b s es hl=> ?_,fun b b' s es oU hl ru=> ?_,fun s o hk=> ?_⟩,fun b s es hm=> ?_,fun s cu=> ?_,hs.bz⟩,by simp[aV,ay,up],by simp[aV,ay,up],fun b hb=>by simp[aV,ay,up,hb],rfl,rfl,rfl,rfl⟩
 ·rcases fb b s es with⟨rfl,rfl⟩|⟨_,es⟩
  ·exact⟨Nat.lt_succ_self _,bf⟩
  ·have:=hs.hr.lM b s es
   exact⟨Nat.lt_succ_of_lt this.1,this.2⟩
 ·rw[dZ]at hl⊢
  rcases fb b s es with⟨rfl,rfl⟩|⟨bU,es⟩
  ·rw[if_pos rfl]
   refine⟨_,ho,hq.br ?_⟩;have:aV.n b=N:=by simp[aV,ay,up]
   rw[this];exact hbr.mono hle
  ·rw[if_neg bU]at hl⊢
   obtain⟨o,h1,h2⟩:=hs.hr.ew b s es hl;refine⟨o,h1,hq.br ?_⟩;have:aV.n b=φ.n b:=(hle b s es).2;rw[this];exact h2.mono hle
 ·rw[dZ]at hl ru
  rcases fb b s es with⟨h1,h2⟩|⟨bU,O6⟩
  ·rcases fb b' s oU with⟨h3,_⟩|⟨yn,es2⟩
   ·rw[h1,h3]
   ·exact absurd (h2▸es2) (hn b')
  ·rcases fb b' s oU with⟨h3,h4⟩|⟨yn,es2⟩
   ·exact absurd (h4▸O6) (hn b)
   ·rw[if_neg bU]at hl;rw[if_neg yn]at ru
    exact hs.hr.inj b b' s O6 es2 hl ru
 ·have hk:(if s=r then none else φ.y.k s)=some o:=hk
  by_cases yi:s=r
  ·rw[if_pos yi]at hk;cases hk
  ·rw[if_neg yi]at hk
   have:=hs.hr.kp s o hk;refine⟨this.1,fun b es=> ?_⟩;rw[dZ];rcases fb b s es with⟨_,h2⟩|⟨bU,es⟩
   ·exact absurd h2 yi
   ·rw[if_neg bU];exact this.2 b es
 ·rw[dZ]at hm
  rcases fb b s es with⟨_,rfl⟩|⟨bU,O6⟩
  ·exact hB
  ·rw[if_neg bU]at hm;exact hs.loc b s O6 hm
 ·show(if s=r then none else φ.y.k s)=_
  by_cases yi:s=r
  ·exact absurd aot (by have:=cu nb (by simp[aV,ay,up,yi]);rw[dZ,if_pos rfl]at this;exact this)
  ·rw[if_neg yi]
   refine hs.kf s fun b es hm=> ?_
   have yE:b≠nb:=fun e=>F8 s (e▸es)
   exact cu b (by simp[aV,ay,up,yE,es]) (by rw[dZ,if_neg yE];exact hm)
end
variable{P:Program}{K:Nat->Option Obj}{f:FuncId}{args:List Value}
noncomputable section
structure XF where
 ap:List (Nat×Nat×Nat):=[]
 an:List (Nat×Nat):=[]
 bs:List (Nat×Nat):=[]
 ql:List (Nat×Nat):=[]
 ss:List (Nat×Nat×Option Nat×Nat):=[]
 oi:List (TypeId×Nat×V×Nat):=[]
 ol:List (TypeId×Nat×V):=[]
 on:List (Nat×Nat):=[]
 os:List (TypeId×Nat×V×Nat):=[]
def lk2:List (Nat×Nat×Nat)->Nat->Nat->Option Nat
 |[],_,_=>none
 |(x',y',z)::l,x,y=>cond (arE x' x&&arE y' y) (some z) (lk2 l x y)
def DL:Option Nat->Option Nat->Bool
 |none,none=>true
 |some a,some b=>arE a b
 |_,_=>false
theorem NN{a b:Option Nat}(h:DL a b=true):a=b:=by
 cases a<;>cases b<;>simp_all[DL]
def lkS:List (Nat×Nat×Option Nat×Nat)->Nat->Nat->Option Nat->Option Nat
 |[],_,_,_=>none
 |(x',a',b',z)::l,x,a,b=>cond (arE x' x&&arE a' a&&DL b' b) (some z) (lkS l x a b)
def lkI:List (TypeId×Nat×V×Nat)->TypeId->Nat->V->Option Nat
 |[],_,_,_=>none
 |(t',x',i',z)::l,t,x,i=>cond (arE t' t&&arE x' x&&same i' i) (some z) (lkI l t x i)
def lkL:List (TypeId×Nat×V)->TypeId->Nat->Option V
 |[],_,_=>none
 |(t',x',v)::l,t,x=>cond (arE t' t&&arE x' x) (some v) (lkL l t x)
theorem Lv:∀{l:List (Nat×Nat×Nat)} {x y z:Nat},lk2 l x y=some z->(x,y,z)∈l
 |[],_,_,_,h=>by cases h
 |(a,b,c)::l,x,y,z,h=>by
  simp only[lk2]at h;cases hc:arE a x&&arE b y with
  |true=>
   rw[hc]at h;cases h;simp only[aop]at hc;rw[<-AAA hc.1,<-AAA hc.2];simp
  |false=>rw[hc]at h;exact arK _ (Lv h)
theorem Lw:∀{l:List (Nat×Nat×Option Nat×Nat)} {x a:Nat} {b:Option Nat} {z:Nat},lkS l x a b=some z->(x,a,b,z)∈l
 |[],_,_,_,_,h=>by cases h
 |(x',a',b',c)::l,x,a,b,z,h=>by
  simp only[lkS]at h;cases hc:arE x' x&&arE a' a&&DL b' b with
  |true=>
   rw[hc]at h;cases h;simp only[aop]at hc;rw[<-AAA hc.1.1,<-AAA hc.1.2,<-NN hc.2];simp
  |false=>rw[hc]at h;exact arK _ (Lw h)
theorem DM:∀{l:List (TypeId×Nat×V×Nat)} {t:TypeId} {x:Nat} {i:V} {z:Nat},lkI l t x i=some z->(t,x,i,z)∈l
 |[],_,_,_,_,h=>by cases h
 |(t',x',i',c)::l,t,x,i,z,h=>by
  simp only[lkI]at h;cases hc:arE t' t&&arE x' x&&same i' i with
  |true=>
   rw[hc]at h;cases h;simp only[aop]at hc;rw[<-AAA hc.1.1,<-AAA hc.1.2,<-bJ _ _ hc.2];simp
  |false=>rw[hc]at h;exact arK _ (DM h)
theorem Lx:∀{l:List (TypeId×Nat×V)} {t:TypeId} {x:Nat} {v:V},lkL l t x=some v->(t,x,v)∈l
 |[],_,_,_,h=>by cases h
 |(t',x',v')::l,t,x,v,h=>by
  simp only[lkL]at h;cases hc:arE t' t&&arE x' x with
  |true=>
   rw[hc]at h;cases h;simp only[aop]at hc;rw[<-AAA hc.1,<-AAA hc.2];simp
  |false=>rw[hc]at h;exact arK _ (Lx h)
def XF.x(F:XF):Xt:={ap:=lk2 F.ap,an:=lk F.an,bs:=lk F.bs,ql:=lk F.ql,ss:=lkS F.ss,oi:=lkI F.oi,ol:=lkL F.ol,on:=lk F.on,os:=lkI F.os}
structure iZ(P:Program)(F:XF)(φ:Ren):Prop where
 ap:cI (fun e:Nat×Nat×Nat=>∃s:ByteArray,φ.q e.2.1=.string s/\0<s.size/\φ.w e.2.2=φ.w e.1++cz s/\(φ.w e.2.2).length<=1000000) F.ap:=by exact agm
 an:cI (fun e:Nat×Nat=>∃s:ByteArray,φ.q e.1=.string s/\0<s.size/\φ.w e.2=cz s/\s.size<=1000000) F.an:=by exact agm
 bs:cI (fun e:Nat×Nat=>∃s:ByteArray,φ.q e.2=.string s/\φ.w e.1=cz s/\0<s.size/\s.size<=1000000) F.bs:=by exact agm
 ql:cI (fun e:Nat×Nat=>∃s:ByteArray,φ.q e.1=.string s/\φ.s e.2=(s.size:Int)) F.ql:=by exact agm
 ss:cI (fun e:Nat×Nat×Option Nat×Nat=>∃s:ByteArray,φ.q e.1=.string s/\e.2.1<=e.2.2.1.getD s.size/\e.2.2.1.getD s.size<=s.size/\φ.q e.2.2.2=.string (s.extract e.2.1 (e.2.2.1.getD s.size))) F.ss:=by exact agm
 oi:cI (fun e:TypeId×Nat×V×Nat=>∀af,Le φ af->∀vi,VR af e.2.2.1 vi->(φ.q e.2.2.2).oneCell'=true/\∀w,(Instr.indexAt e.1 (φ.q e.2.1) vi).run P w=.ok (φ.q e.2.2.2) w) F.oi:=by exact agm
 ol:cI (fun e:TypeId×Nat×V=>∀w:World,(∀r o,φ.y.k r=some o->w.heap[r]? =some o)->∃u,(Instr.loadAt e.1 (φ.q e.2.1)).run P w=.ok u w/\VR φ e.2.2 u) F.ol:=by exact agm
 on:cI (fun e:Nat×Nat=>∃a n cap,φ.q e.1=.slice a n cap/\φ.s e.2=(n:Int)) F.on:=by exact agm
 os:cI (fun e:TypeId×Nat×V×Nat=>∀af,Le φ af->∀vi,VR af e.2.2.1 vi->(φ.q e.2.2.2).oneCell'=true/\∀w,(Instr.sliceAt e.1 (φ.q e.2.1) none (some vi) none).run P w=.ok (φ.q e.2.2.2) w) F.os:=by exact agm
theorem iZ.x{P:Program}{F:XF}{φ:Ren}(h:iZ P F φ):zb P F.x φ:=⟨fun _ _ _ e=>h.ap.mem _ (Lv e),fun _ _ e=>h.an.mem _ (eU e),fun _ _ e=>h.bs.mem _ (eU e),fun _ _ e=>h.ql.mem _ (eU e),fun _ _ _ _ e=>h.ss.mem _ (Lw e),
 fun _ _ _ _ e=>h.oi.mem _ (DM e),fun _ _ _ e=>h.ol.mem _ (Lx e),fun _ _ e=>h.on.mem _ (eU e),fun _ _ _ _ e=>h.os.mem _ (DM e)⟩
def aI(E:Env)(F:aU)(X:XF):Env:={ar E F with xt:=X.x}
theorem aw{E:Env}(hE:E.OK)(F:aU)(X:XF):(aI E F X).OK:=⟨hE.ty,hE.fn,hE.mixed,hE.hl,hE.qh,hE.eh,hE.xh⟩
theorem eZ{E:Env}{F:aU}{X:XF}(h:aA E.P F φ)(hx:iZ E.P X φ):BD (aI E F X) φ:=fun af hle=>by
 have b:=h.dU (E:=E) af hle;exact⟨b.bd,b.bin,b.mx,b.rx,b.rl,b.re,b.qs,b.mg,b.ml,b.qc,zb.mono hle hx.x⟩
theorem Quiet.mono{K':Nat->Option Obj}(h:∀r o,K r=some o->K' r=some o){Q:Value->Prop}(hq:Quiet P K f args Q):Quiet P K' f args Q:=⟨hq.1,fun n w hw=>hq.2 n w fun r o hk=>hw r o (h r o hk)⟩
theorem Quiet.imp{Q Q':Value->Prop}(hq:Quiet P K f args Q)(h:∀v,Q v->Q' v):Quiet P K f args Q':=⟨hq.1,fun n w hw=>(hq.2 n w hw).mono fun e w' ⟨v,h1,h2,h3⟩=>⟨v,h1,h v h2,h3⟩⟩
def oY:V->Bool
 |.a cs=>cs.all iY
 |v=>iY v
theorem ug{φ:Ren}:∀{l:List V},l.all iY=true->∀{a b:List Value},J φ l a->J φ l b->a=b
 |[],_,a,b,ha,hb=>by simp only[J]at ha hb;rw[ha,hb]
 |x::l,h,a,b,ha,hb=>by
  simp only[List.all_cons,aop]at h;simp only[J]at ha hb;obtain⟨y,ys,rfl,h1,h2⟩:=ha;obtain⟨z,zs,rfl,h3,h4⟩:=hb;rw[uc h.1 h1 h3,ug h.2 h2 h4]
theorem eQ{φ:Ren}{x:V}{v u:Value}(hd:oY x=true)(hv:VR φ x v)(hu:VR φ x u):v=u:=by
 cases x with
 |a cs=>
  simp only[VR]at hv hu;obtain⟨c1,rfl,h1⟩:=hv;obtain⟨c2,rfl,h2⟩:=hu;rw[arU.1 (ug hd h1 h2)]
 |_=>simp only[oY]at hd;exact uc hd hv hu
theorem mQ{φ:Ren}:∀{l:List V},l.all oY=true->∀{a b:List Value},J φ l a->J φ l b->a=b
 |[],_,a,b,ha,hb=>by simp only[J]at ha hb;rw[ha,hb]
 |x::l,h,a,b,ha,hb=>by
  simp only[List.all_cons,aop]at h;simp only[J]at ha hb;obtain⟨y,ys,rfl,h1,h2⟩:=ha;obtain⟨z,zs,rfl,h3,h4⟩:=hb;rw[eQ h.1 h1 h3,mQ h.2 h2 h4]
theorem dy{l:List V}{r:V}{u:Value}(hd:l.all oY=true)(h:Quiet P φ.y.k f args (· =u))(ha:J φ l args)(hr:VR φ r u):
  ∀af,Le φ af->∀args',J af l args'->Quiet P φ.y.k f args' fun u=>VR af r u:=fun af hle args' Zk=>by
 rw[mQ hd Zk (J.mono hle _ _ ha)];exact h.imp fun v hv=>by rw[hv];exact VR.mono hle _ _ hr
def QH:aQ->aQ->Bool
 |.cells l e g,.cells l' e' g'=>iV l l'&&arE e e'&&cond g g' (!g')
 |.row x l e,.row x' l' e'=>arE x x'&&iV l l'&&arE e e'
 |_,_=>false
theorem QI{a b:aQ}(h:QH a b=true):a=b:=by
 cases a<;>cases b<;>simp only[QH,aop]at h<;>first|(cases h;done)|skip
 ·rename_i l e g l' e' g'
  rw[fS _ _ h.1.1,AAA h.1.2];have:g=g':=by cases g<;>cases g'<;>simp_all
  rw[this]
 ·rename_i x l e x' l' e'
  rw[AAA h.1.1,fS _ _ h.1.2,AAA h.2]
def dN(E:Env)(k:Nat)(f:FuncId)(Vs:List V)(nb:Nat)(HB:List (Nat×aQ))(v:V)(BS:List (Nat×aQ)):Bool:=match tX E (exec E k) f Vs (ak nb HB)with
 |some (v0,h')=>same v0 v&&BS.all fun p=>QH (h'.get p.1) p.2
 |none=>false
structure aic(φ:Ren)(w:World)(v:V)(BS:List (Nat×aQ))(u:Value)(w':World):Prop where
 grown:Grown w w'
 ex:∃af h',Le φ af/\VR af v u/\HR af h' w'/\(∀p∈BS,h'.get p.1=p.2)/\∀b r,af b=some r->φ b=some r\/φ.m<=b
theorem DN{E:Env}(hE:E.OK)(qQ:E.ng=0){k:Nat}{f:FuncId}{Vs:List V}{nb:Nat}{HB:List (Nat×aQ)}{v:V}{BS:List (Nat×aQ)}(hc:dN E k f Vs nb HB v BS=true){φ:Ren}(bK:BD E φ){w:World}(hr:HR φ (ak nb HB) w)
  (hk:φ.y.k=fun r=>w.heap[r]?){args':List Value}(ha:J φ Vs args'):
  (∃fn c,E.P.funcs[f]? =some fn/\fn.body=some c/\(fn.name== "runtime.NumGoroutine")=false)/\∀n,CallsIn (W none) n E.P f args'.toArray w fun e w'=>∃u,e=.returned u/\aic φ w v BS u w':=by
 unfold dN at hc;split at hc
 ·rename_i v0 h' eF
  simp only[aop,arH]at hc;have hv:=bJ _ _ hc.1;subst hv;have key:=fun n=>pI hE (cV hE k).1 _ _ _ _ _ eF φ args' w n (by rw[qQ];exact fun g hg=>by omega) bK ha hr
  refine⟨(key 0).1,fun n=>((key n).2).mono ?_⟩;rintro e w' ⟨af,u,rfl,hx,V5,cM⟩;refine⟨u,rfl,⟨hx.size,fun r bf=> ?_,hx.os,hx.tape,hx.output⟩,af,h',hx.le,V5,cM,fun p hp=>QI (hc.2 p hp),hx.only⟩;have ho:w.heap[r]? =some w.heap[r]:=arX bf;rw[ho];exact(cM.kp r w.heap[r] (by rw[hx.le.yy,hk];exact ho)).1
 ·cases hc
end
variable{ops:Array Oper}{i:Nat}
noncomputable section
def mR(ops:Array Oper)(m:List Bool)(i:Nat):Bool:=match ops[i]?with
 |some o=> !(m.getD i true)&&(gI o).all fun j=>m.getD j false
 |none=>false
def zT(E:Env)(k:Nat)(ops:Array Oper)(tb:bP)(nt nb:Nat)(L:List Bool->List (Nat×V))(HB:List Bool->List (Nat×aQ))(m:List Bool)(i:Nat):Bool:=match ops[i]?with
 |some o=>
  match mc ops (U nt (L m)) o with
  |some true=>
   match dP E (jP E (exec E k)) (mh (exec E k)) (U nt (L m)) o.op (ak nb (HB m))with
   |some (x,h1)=>
    match o.dst with
    |none=>(bG tb (U nt (L m)) h1 nt (L (m.set i true)) nb (HB (m.set i true))).isSome
    |some d=>Nat.blt d nt&&(bG tb ((U nt (L m)).set d x) h1 nt (L (m.set i true)) nb (HB (m.set i true))).isSome
   |none=>false
  |_=>false
 |none=>false
def oO:List Bool->List Bool->Bool
 |[],[]=>true
 |a::az,b::bs=>(cond a b (!b))&&oO az bs
 |_,_=>false
theorem jx:∀{a b:List Bool},oO a b=true->a=b
 |[],[],_=>rfl
 |a::az,b::bs,h=>by
  simp only[oO,aop]at h;rw[ah8 h.1,jx h.2]
 |[],_::_,h=>by cases h
 |_::_,[],h=>by cases h
def zU(E:Env)(k:Nat)(ops:Array Oper)(tb:bP)(nt nb:Nat)(L:List Bool->List (Nat×V))(HB:List Bool->List (Nat×aQ))(ms:List (List Bool))(stop m:List Bool):Bool:=oO m stop||(((asa ops.size).any (mR ops m))&&(asa ops.size).all fun i=> !(mR ops m i)||(ms.any (oO (m.set i true))&&zT E k ops tb nt nb L HB m i))
def iE(E:Env)(k:Nat)(ops:Array Oper)(tb:bP)(nt nb:Nat)(L:List Bool->List (Nat×V))(HB:List Bool->List (Nat×aQ))(ms:List (List Bool))(stop:List Bool):Bool:=fL tb&&ms.any (oO (arQ ops.size false))&&ms.all fun m=>zU E k ops tb nt nb L HB ms stop m
def grow(ops:Array Oper)(stop:List Bool):Nat->List (List Bool)->List (List Bool)->List (List Bool)
 |0,_,acc=>acc
 |f+1,fr,acc=>
  let nx:=fr.flatMap fun m=>cond (oO m stop) [] ((asa ops.size).filterMap fun i=>cond (mR ops m i) (some (m.set i true)) none)
  let nx:=nx.foldl (fun a m=>cond (a.any (oO m)) a (m::a)) []
  match nx with
  |[]=>acc
  |_=>grow ops stop f nx (nx++acc)
theorem fx{listed:Array Bool}(ed:listed.size=ops.size):mR ops listed.toList i=true↔i∈arD .any ops listed:=by
 have dZ:∀j d,listed.toList.getD j d=listed.getD j d:=fun j d=>by
  rw[arF,List.getD_eq_getElem?_getD];simp
 constructor
 ·intro h
  unfold mR at h;split at h
  ·rename_i o ho
   simp only[aop,arG,arH,dZ]at h;have hi:i<ops.size:=(arC.1 ho).1;simp only[arD,List.mem_filter,arR,aop,arG];refine⟨hi,h.1,?_⟩;rw[ho];simp only[arV,Option.getD_some,Array.all_eq_true',arN,arG];intro e he;cases hb:arT .any e with
   |false=>exact .inl rfl
   |true=>
    refine .inr (h.2 e.on ?_);simp only[gI,List.mem_filterMap];exact⟨e,by simpa using he,by rw[hb];rfl⟩
  ·cases h
 ·intro h
  obtain⟨o,ho,hn,hd⟩:=mem_ready h;unfold mR;rw[ho];simp only[aop,arG,arH,dZ];exact⟨hn,fun j hj=>hd j hj⟩
theorem ku{m:List Bool}{ms:List (List Bool)}(h:ms.any (oO m)=true):m∈ms:=by
 obtain⟨x,hx,e⟩:=arW.1 h;rw[jx e];exact hx
theorem ad.explore{E:Env}(hE:E.OK)(qQ:E.ng=0)(hm:E.P.follows .mixedOrders=true){k:Nat}{ops:Array Oper}{tb:bP}{nt nb:Nat}{L:List Bool->List (Nat×V)}{HB:List Bool->List (Nat×aQ)}{ms:List (List Bool)}{stop:List Bool}
  (hc:iE E k ops tb nt nb L HB ms stop=true){φ:Ren}{B:Nat}{a:Act}{w:World}{n id:Nat}{Q:Exit->Act->World->Prop}{L0:List (Nat×V)}{HB0:List (Nat×aQ)}(hL:L (arQ ops.size false)=L0)(hH:HB (arQ ops.size false)=HB0)
  (hs:ad φ B (U nt L0) (ak nb HB0) a w)(y:Sym)(hy:Ag tb y y)(n1:φ.s=y.s)(n2:φ.q=y.q)(n3:φ.w=y.w)(n4:φ.g=y.g)
  (hF:∀ay,ay.s=y.s->ay.q=y.q->ay.w=y.w->ay.g=y.g->BD E ay)
  (hQ:∀af a' w',ad af B (U nt (L stop)) (ak nb (HB stop)) a' w'->a'.defers=a.defers->GB B w w'->af.s=y.s->af.q=y.q->af.w=y.w->af.g=y.g->wpAnyIn (W none) n E.P .any ops Q (left stop.toArray) stop.toArray a' w'):
  (Code.region id ops true).wpIn (W none) n E.P Q a w:=by
 subst hL;subst hH;simp only[iE,aop]at hc;obtain⟨⟨hp,h0⟩,pG⟩:=hc;refine wpIn_region_any hm ?_;have key:∀(fuel:Nat) (listed:Array Bool) (ay:Ren) (a1:Act) (w1:World),left listed=fuel->listed.size=ops.size->listed.toList∈ms->ad ay B (U nt (L listed.toList)) (ak nb (HB listed.toList)) a1 w1->
   a1.defers=a.defers->GB B w w1->ay.s=y.s->ay.q=y.q->ay.w=y.w->ay.g=y.g->wpAnyIn (W none) n E.P .any ops Q fuel listed a1 w1:=by
  intro fuel
  induction fuel with
  |zero=>
   intro listed ay a1 w1 hl ed kg b9 iM kx e1 e2 e3 e4;have jQ:=arH.1 pG _ kg;simp only[zU,arN,aop]at jQ;rcases jQ with bB|⟨zV,_⟩
   ·have:=jx bB
    have hq:=hQ ay a1 w1 (by rw[<-this];exact b9) iM kx e1 e2 e3 e4;rw[<-this,arZ,hl]at hq;exact hq
   ·obtain⟨i,hi,hr⟩:=arW.1 zV
    obtain⟨o,ho,hn,_⟩:=mem_ready ((fx ed).1 hr);have bf:i<listed.size:=by rw[ed];exact arR.1 hi
    exact absurd (mM hl i bf) (kr hn)
  |succ fuel ih=>
   intro listed ay a1 w1 hl ed kg b9 iM kx e1 e2 e3 e4;have jQ:=arH.1 pG _ kg;simp only[zU,arN,aop]at jQ;rcases jQ with bB|⟨zV,kS⟩
   ·have:=jx bB
    have hq:=hQ ay a1 w1 (by rw[<-this];exact b9) iM kx e1 e2 e3 e4;rw[<-this,arZ,hl]at hq;exact hq
   ·refine⟨fun hr=> ?_,fun i hi=> ?_⟩
    ·obtain⟨i,hi,cM⟩:=arW.1 zV
     have:=(fx ed).1 cM;rw[hr]at this;cases this
    ·obtain⟨o,ho,hn,_⟩:=mem_ready hi
     have bf:i<ops.size:=(arC.1 ho).1;have h1:=arH.1 kS i (arR.2 bf);simp only[arN,arG,(fx ed).2 hi,aop,Bool.true_eq_false,false_or]at h1;obtain⟨lg,bB⟩:=h1;have lg:=ku lg;have fa:(listed.setIfInBounds i true).toList=listed.toList.set i true:=by simp
     unfold zT at bB;rw[ho]at bB;simp only at bB;split at bB
     ·rename_i tQ
      have mK:=gV b9.fr tQ;split at bB
      ·rename_i x h1 zX
       unfold wpOpIn;rw[ho];simp only[mK,if_true];refine kR hE (gq hE (cV hE k).1) (gX (cV hE k).1) (by rw[qQ];exact fun g hg=>by omega) (hF ay e1 e2 e3 e4) b9.fr b9.hr none n o zX fun aV v w2 hx hv vJ=> ?_
       obtain⟨vK,ju⟩:=b9.after hx vJ;have Gm:∀h,Agree tb aV h w2 y:=fun h=>(hy.au (o':=aV.y) (by rw[hx.le.yy];exact e1) (by rw[hx.le.yy];exact e2) (by rw[hx.le.yy];exact e3) (by rw[hx.le.yy];exact e4)).agree hp rfl h w2
       have uh:left (listed.setIfInBounds i true)=fuel:=by have:=pF hn;omega
       split at bB
       ·rename_i me
        cases e:bG tb (U nt (L listed.toList)) h1 nt (L (listed.toList.set i true)) nb (HB (listed.toList.set i true))with
        |none=>rw[e]at bB;cases bB
        |some σ=>
         have nS:=dM (a:=a1.put o.dst v) e (by rw[me];exact b9.fr.mono hx.le) vJ ju (arI b9.bz hx.size) y (Gm _);exact ih _ _ _ _ uh (by simpa using ed) (by rw[fa];exact lg) (by rw[fa];exact nS) (by rw[me];exact iM) (kx.trans vK) rfl rfl rfl rfl
       ·rename_i d me
        simp only[aop]at bB;cases e:bG tb ((U nt (L listed.toList)).set d x) h1 nt (L (listed.toList.set i true)) nb (HB (listed.toList.set i true))with
        |none=>rw[e]at bB;cases bB.2
        |some σ=>
         have nS:=dM (a:=a1.put o.dst v) e (by rw[me];exact(b9.fr.mono hx.le).put (bh.1 bB.1) hv) vJ ju (arI b9.bz hx.size) y (Gm _);exact ih _ _ _ _ uh (by simpa using ed) (by rw[fa];exact lg) (by rw[fa];exact nS) (by rw[me];exact iM) (kx.trans vK) rfl rfl rfl rfl
      ·cases bB
     ·cases bB
 refine key ops.size _ φ a _ ?_ (by simp) (by simpa using ku h0) ?_ rfl ?_ n1 n2 n3 n4
 ·unfold left
  simp[arP]
 ·have:(arM ops.size false).toList=arQ ops.size false:=by simp
  rw[this];exact⟨hs.fr,hs.hr.drew _,hs.loc,hs.kf,hs.bz⟩
 ·exact⟨Nat.le_refl _,fun _ _=>rfl,rfl,rfl,rfl⟩
end
variable{y:Nat}
section
noncomputable section
inductive I4(ops:Array Oper):Array Bool->List Nat->Prop
 |nil {listed:Array Bool} (h:arD .any ops listed=[]):I4 ops listed []
 |cons {listed:Array Bool} {i:Nat} {l:List Nat} (h:i∈arD .any ops listed) (t:I4 ops (listed.setIfInBounds i true) l):I4 ops listed (i::l)
theorem Gn{listed:Array Bool}(h:i∈arD .any ops listed):listed.getD i true=false:=by
 obtain⟨_,_,h,_⟩:=mem_ready h;exact h
theorem abP:∀(fuel t:Nat) (listed:Array Bool),listed.size=ops.size->left listed<=fuel->I4 ops listed (arJ .any ops fuel t listed []):=by
 intro fuel
 induction fuel with
 |zero=>
  intro t listed ed hl;simp only[arJ,List.reverse_nil];refine .nil ?_;cases e:arD .any ops listed with
  |nil=>rfl
  |cons i is=>
   obtain⟨o,ho,hn,_⟩:=mem_ready (ops:=ops) (listed:=listed) (i:=i) (by rw[e];simp);have bf:i<listed.size:=by
    rw[ed];exact(arC.1 ho).1
   exact absurd (mM (by omega) i bf) (kr hn)
 |succ fuel ih=>
  intro t listed ed hl;simp only[arJ]
  change I4 ops listed (match(arD .any ops listed)[t%(arD .any ops listed).length]?with
   |some i=>arJ .any ops fuel (t/(arD .any ops listed).length) (listed.setIfInBounds i true) [i]
   |none=>[].reverse)
  cases hi:(arD .any ops listed)[t%(arD .any ops listed).length]?with
  |none=>
   refine .nil ?_;cases hr:arD .any ops listed with
   |nil=>rfl
   |cons x xs=>
    rw[hr]at hi;have bf:t%(x::xs).length<(x::xs).length:=Nat.mod_lt _ (by simp);simp at hi;simp at bf;omega
  |some i=>
   simp only[];rw[linearise_go_acc,List.reverse_singleton,List.singleton_append];have hm:=arS hi;have:=pF (Gn hm);exact .cons hm (ih _ _ (by simpa using ed) (by omega))
def cJ(ops:Array Oper)(x y:Nat):Array Oper:=ops.modify y fun o=>{o with after:=o.after.push {on:=x,ground:=.data}}
theorem nU(ops:Array Oper)(x y i:Nat):(cJ ops x y)[i]? =if i=y then(ops[i]?).map (fun o=>{o with after:=o.after.push {on:=x,ground:=.data}})else ops[i]? :=by
 unfold cJ;rw[Array.getElem?_modify]
 by_cases h:y=i
 ·rw[if_pos h,if_pos h.symm]
 ·rw[if_neg h,if_neg (fun e=>h e.symm)]
theorem rI(ops:Array Oper)(x y:Nat):(cJ ops x y).size=ops.size:=by unfold cJ;exact Array.size_modify
theorem dR{ops:Array Oper}{listed:Array Bool}{i:Nat}:i∈arD .any ops listed↔∃o,ops[i]? =some o/\listed.getD i true=false/\o.after.all (fun e=> !arT .any e||listed.getD e.on false)=true:=by
 simp only[arD,List.mem_filter,arR,aop,arG]
 constructor
 ·rintro⟨h1,h2,h3⟩
  have ho:ops[i]? =some ops[i]:=arX h1;rw[ho]at h3;exact⟨_,ho,h2,by simpa using h3⟩
 ·rintro⟨o,ho,h2,h3⟩
  refine⟨(arC.1 ho).1,h2,?_⟩;rw[ho];simpa using h3
theorem i6{ops:Array Oper}{x y:Nat}{listed:Array Bool}{i:Nat}:i∈arD .any (cJ ops x y) listed↔i∈arD .any ops listed/\(i=y->listed.getD x false=true):=by
 rw[dR,dR,nU]
 by_cases h:i=y
 ·rw[if_pos h]
  constructor
  ·rintro⟨o,ho,h1,h2⟩
   cases NC:ops[i]?with
   |none=>rw[NC]at ho;cases ho
   |some o'=>
    rw[NC]at ho;simp only[arV,Option.some.injEq]at ho;subst ho;rw[Array.all_push]at h2;simp only[aop]at h2;exact⟨⟨o',rfl,h1,h2.1⟩,fun _=>by simpa[arT]using h2.2⟩
  ·rintro⟨⟨o,ho,h1,h2⟩,h3⟩
   refine⟨_,by rw[ho];rfl,h1,?_⟩;rw[Array.all_push];simp only[aop];exact⟨h2,by simp[arT,h3 h]⟩
 ·rw[if_neg h]
  exact⟨fun h'=>⟨h',fun e=>absurd e h⟩,fun h'=>h'.1⟩
theorem pO{x:Nat}{listed:Array Bool}(h:arD .any ops listed=[]):arD .any (cJ ops x y) listed=[]:=by
 cases e:arD .any (cJ ops x y) listed with
 |nil=>rfl
 |cons i is=>
  have:=(i6 (ops:=ops) (x:=x) (y:=y) (listed:=listed) (i:=i)).1 (by rw[e];simp);rw[h]at this;cases this.1
theorem I5{listed:Array Bool}{j:Nat}(h:listed.getD j false=true):(listed.setIfInBounds i true).getD j false=true:=by
 rw[arF]at h⊢
 by_cases hi:i=j
 ·subst hi
  cases e:listed[i]?with
  |none=>rw[e]at h;cases h
  |some b=>
   have:=(arC.1 e).1;simp[this]
 ·rw[Array.getElem?_setIfInBounds_ne hi];exact h
theorem zY{x:Nat}{listed:Array Bool}{l:List Nat}(h:I4 ops listed l)(hx:listed.getD x false=true):I4 (cJ ops x y) listed l:=by
 induction h with
 |nil h=>exact .nil (pO h)
 |cons h t ih=>exact .cons (i6.2 ⟨h,fun _=>hx⟩) (ih (I5 hx))
theorem QJ{x:Nat}(bU:x≠y){listed:Array Bool}{l:List Nat}(h:I4 ops listed l):I4 (cJ ops x y) listed l\/I4 (cJ ops y x) listed l:=by
 induction h with
 |nil h=>exact .inl (.nil (pO h))
 | @cons listed i l h t ih=>
  have bf:i<listed.size:=by
   have:=Gn h;rw[arF]at this;cases e:listed[i]?with
   |none=>rw[e]at this;cases this
   |some b=>exact(arC.1 e).1
  have fa:(listed.setIfInBounds i true).getD i false=true:=by simp[arF,bf]
  by_cases hx:i=x
  ·subst hx
   exact .inl (.cons (i6.2 ⟨h,fun e=>absurd e bU⟩) (zY t fa))
  ·by_cases hy:i=y
   ·subst hy
    exact .inr (.cons (i6.2 ⟨h,fun e=>absurd e hx⟩) (zY t fa))
   ·rcases ih with ih|ih
    ·exact .inl (.cons (i6.2 ⟨h,fun e=>absurd e hy⟩) ih)
    ·exact .inr (.cons (i6.2 ⟨h,fun e=>absurd e hx⟩) ih)
variable {ro:Option Nat} {n:Nat} {P:Program} {Q:Exit->Act->World->Prop}
theorem DO(ops:Array Oper)(x y:Nat)(tmps:Array Value):yielded (cJ ops x y) tmps=yielded ops tmps:=by
 funext j
 unfold yielded;rw[nU]
 by_cases h:j=y
 ·rw[if_pos h]
  cases ops[j]? <;>rfl
 ·rw[if_neg h]
theorem sE{ops:Array Oper}{x y:Nat}:∀(l:List Nat) (a:Act) (w:World),wpOpsIn (W ro) n P (cJ ops x y) Q l a w->wpOpsIn (W ro) n P ops Q l a w
 |[],a,w,h=>h
 |i::l,a,w,h=>by
  rw[wpOpsIn_cons]at h⊢;unfold wpOpIn at h⊢;rw[nU,DO]at h;have ih:∀a w,wpOpsIn (W ro) n P (cJ ops x y) Q l a w->wpOpsIn (W ro) n P ops Q l a w:=sE l
  by_cases hi:i=y
  ·rw[if_pos hi]at h
   cases ho:ops[i]?with
   |none=>rw[ho]at h;exact ih _ _ h
   |some o=>
    rw[ho]at h;simp only[arV]at h⊢;split
    ·rename_i hw
     have h:Oper.wpIn (W ro) n P o a w (wpOpsIn (W ro) n P (cJ ops x y) Q l) Q:=by
      have:=h;rw[if_pos (by exact hw)]at this;exact this
     exact Oper.wpIn_mono (fun a w=>ih a w) h
    ·rename_i hw
     have h:(∀f,o.about P w a.eval=some f->(W ro).fn f)/\wpOpsIn (W ro) n P (cJ ops x y) Q l (a.put o.dst undef) w:=by
      have:=h;rw[if_neg (by exact hw)]at this;exact this
     exact⟨h.1,ih _ _ h.2⟩
  ·rw[if_neg hi]at h
   cases ho:ops[i]?with
   |none=>rw[ho]at h;exact ih _ _ h
   |some o=>
    rw[ho]at h;simp only at h⊢;split
    ·rename_i hw
     rw[if_pos hw]at h;exact Oper.wpIn_mono (fun a w=>ih a w) h
    ·rename_i hw
     rw[if_neg hw]at h;exact⟨h.1,ih _ _ h.2⟩
def fc(ro:Option Nat)(n:Nat)(P:Program)(ops:Array Oper)(Q:Exit->Act->World->Prop)(a:Act)(w:World):Prop:=∀l,I4 ops (arM ops.size false) l->wpOpsIn (W ro) n P ops Q l a w
theorem fc.region{ops:Array Oper}{id:Nat}(hm:P.follows .mixedOrders=true){a:Act}{w:World}(h:fc ro n P ops Q a {w with drawn:=w.drawn+1}):(Code.region id ops true).wpIn (W ro) n P Q a w:=wpIn_region_draw fun t=>by
  simp only[Region.schedule,hm,Bool.true_or,if_true];exact h _ (abP ops.size t _ (by simp) (by unfold left;simp[arP]))
theorem fc.pair{x y:Nat}(bU:x≠y){a:Act}{w:World}(hA:fc ro n P (cJ ops x y) Q a w)(hB:fc ro n P (cJ ops y x) Q a w):fc ro n P ops Q a w:=fun l hl=>by
 rcases QJ bU hl with h|h
 ·exact sE _ _ _ (hA l (by rw[rI];exact h))
 ·exact sE _ _ _ (hB l (by rw[rI];exact h))
theorem Ly{ops:Array Oper}:∀(fuel:Nat) (l:List Nat) (listed:Array Bool) (a:Act) (w:World),I4 ops listed l->wpAnyIn (W ro) n P .any ops Q fuel listed a w->wpOpsIn (W ro) n P ops Q l a w
 |0,[],_,a,w,_,h=>h.2
 |0,i::l,listed,a,w,hl,h=>by
  cases hl with
  |cons hi _=>rw[h.1]at hi;cases hi
 |fuel+1,[],_,a,w,hl,h=>by
  cases hl with
  |nil hr=>exact h.1 hr
 |fuel+1,i::l,listed,a,w,hl,h=>by
  cases hl with
  |cons hi ht=>
   rw[wpOpsIn_cons];exact wpOpIn_mono (fun a w=>Ly fuel l _ a w ht) (h.2 i hi)
theorem fc.any{ops:Array Oper}{a:Act}{w:World}(h:wpAnyIn (W ro) n P .any ops Q ops.size (arM ops.size false) a w):fc ro n P ops Q a w:=fun l hl=>Ly _ _ _ _ _ hl h
def Lz(E:Env)(k:Nat)(ops:Array Oper)(fr:Fr)(h:H)(tb:bP)(nt:Nat)(L:List (Nat×V))(nb:Nat)(HB:List (Nat×aQ)):Bool:=fL tb&&
 match Qi E (jP E (exec E k)) (mh (exec E k)) ops fr h with
 |some (cQ,h')=>(bG tb cQ h' nt L nb HB).isSome
 |none=>false
theorem ad.LA{B:Nat}{a:Act}{w:World}(hs:ad φ B fr h a w):ad φ B fr h a {w with drawn:=w.drawn+1}:=⟨hs.fr,hs.hr.drew _,hs.loc,hs.kf,hs.bz⟩
end
end
variable{w':World}
noncomputable section
def fU(K:Nat->Option Obj)(φ:Ren):Prop:=∀r o,K r=some o->φ.y.k r=some o
structure rJ(K:Nat->Option Obj)(w w':World)(K1:Nat->Option Obj):Prop where
 sub:∀r o,K r=some o->K1 r=some o
 at_:∀r o,K1 r=some o->w'.heap[r]? =some o
 new:∀r o,K1 r=some o->K r=some o\/w.heap.size<=r
theorem rJ.refl{w:World}(hg:Grown w w')(h:∀r o,K r=some o->w.heap[r]? =some o):rJ K w w' K:=⟨fun _ _ h=>h,fun r o hk=>by
  have:=h r o hk;rw[hg.same r (arC.1 this).1];exact this,fun _ _ h=>.inl h⟩
open Classical in
theorem fV{tb:bP}{σ:Bd}(hm:bG tb fr h nt L nb HB=some σ){w:World}(hr:HR φ h w)(y:Sym):
  ∀r o,φ.y.k r=some o->(ren φ σ y nb (ak nb HB) w).y.k r=some o:=by
 unfold bG at hm;obtain⟨e1,e2⟩:=bj hm;split at e2
 ·rename_i mP h1
  split at e2
  ·rename_i QA h2
   obtain⟨e3,e4⟩:=bj e2;cases e4;obtain⟨b1,b2,b3⟩:=IY tb h HB mP σ h2;intro r o hk;obtain⟨k1,k2⟩:=hr.kp r o hk;show(if∃b,(lk σ b).bind φ.f=some r/\((ak nb HB).get b).mut then none else w.heap[r]?)=some o;rw[if_neg]
   ·exact k1
   ·rintro⟨b,e,qG⟩
    cases hc:lk σ b with
    |none=>rw[hc]at e;cases e
    |some c=>
     rw[hc]at e;have xG:=qG.live;have hb:BOK tb h c ((ak nb HB).get b) (h.get c) mP σ:=by
      rw[aH]at xG⊢;obtain⟨c',h3,h4⟩:=b3 b _ (ke xG);rw[hc]at h3;cases h3;exact h4
     exact k2 c e (hb.2.2.1 qG)
  ·cases e2
 ·cases e2
theorem ad.xU{w:World}(hs:ad φ B fr h a w)(hK:fU K φ){tb:bP}(hm:(bG tb fr h nt L nb HB).isSome=true)(y:Sym)(ha:Agree tb φ h w y):
  ∃af,ad af B (U nt L) (ak nb HB) a w/\fU K af/\af.s=y.s/\af.q=y.q/\af.w=y.w/\af.g=y.g:=by
 cases e:bG tb fr h nt L nb HB with
 |none=>rw[e]at hm;cases hm
 |some σ=>exact⟨_,dM e hs.fr hs.hr hs.loc hs.bz y ha,fun r o hk=>fV e hs.hr y r o (hK r o hk),rfl,rfl,rfl,rfl⟩
theorem ad.sG{w:World}(hs:ad φ B (U nt L) (ak nb HB) a w)(hK:fU K φ){tb:bP}(hc:aW tb nt L nb HB=true){y:Sym}(hy:Ag tb φ.y y):
  ∃af,ad af B (U nt L) (ak nb HB) a w/\fU K af/\af.s=y.s/\af.q=y.q/\af.w=y.w/\af.g=y.g:=by
 simp only[aW,aop]at hc;exact hs.xU hK hc.2 y ((hy.au rfl rfl rfl rfl).agree hc.1 rfl _ _)
theorem ad.runK{E:Env}(hE:E.OK)(qQ:E.ng=0)(m:Nat){k:Nat}{cs:List Code}{fr:Fr}{tF:Nat}{HB0:List (Nat×aQ)}{x:X}{tb:bP}{nt:Nat}{L:List (Nat×V)}{nb:Nat}{HB:List (Nat×aQ)}(hc:av E k (cs.take m) fr (ak tF HB0) x tb nt L nb HB=true)
  {K:Nat->Option Obj}{φ:Ren}{B:Nat}{a:Act}{w:World}{n:Nat}(hs:ad φ B fr (ak tF HB0) a w)(hK:fU K φ)(bK:BD E φ)(hd:a.defers=[])(y:Sym)(hy:iC tb φ.y y){Q:Exit->Act->World->Prop}
  (hQ:∀af a' w',ad af B (U nt L) (ak nb HB) a' w'->fU K af->a'.defers=[]->GB B w w'->af.s=y.s->af.q=y.q->af.w=y.w->af.g=y.g->Exit.then (aC none n E.P Q (cs.drop m)) Q x.exit a' w'):aC none n E.P Q cs a w:=by
 simp only[av,aop]at hc;obtain⟨hp,hc⟩:=hc;split at hc
 ·rename_i x' cQ h' hex
  simp only[aop]at hc;have hx:=pL hc.1;subst hx;cases e:bG tb cQ h' nt L nb HB with
  |none=>rw[e]at hc;cases hc.2
  |some σ=>
   have:=k9 hE (n:=n) (Q:=Q) (cs.drop m) (cs.take m) fr (ak tF HB0) x cQ h' hex φ a w (by rw[qQ];exact fun g hg=>by omega) bK hs.fr hd hs.hr fun af a' w' iD wz cy cM=>by
    obtain⟨vK,ju⟩:=hs.after iD cM;have bB:=dM e wz cM ju (arI hs.bz iD.size) y (hy.agree hp iD.le.yy h' w');exact hQ _ a' w' bB (fun r o hk=>fV e cM y r o (by rw[iD.le.yy];exact hK r o hk)) cy vK rfl rfl rfl rfl
   rwa[arO]at this
 ·cases hc
theorem ad.jR{E:Env}(hE:E.OK)(qQ:E.ng=0)(m:Nat){k:Nat}{ops:Array Oper}{l:List Oper}{fr:Fr}{tF:Nat}{HB0:List (Nat×aQ)}{tb:bP}{nt:Nat}{L:List (Nat×V)}{nb:Nat}{HB:List (Nat×aQ)}(hc:bH E k ops (l.take m) fr (ak tF HB0) tb nt L nb HB=true)
  {K:Nat->Option Obj}{φ:Ren}{B:Nat}{a:Act}{w:World}{n:Nat}(hs:ad φ B fr (ak tF HB0) a w)(hK:fU K φ)(bK:BD E φ)(y:Sym)(hy:iC tb φ.y y){Q:Exit->Act->World->Prop}
  (hQ:∀af a' w',ad af B (U nt L) (ak nb HB) a' w'->fU K af->a'.defers=a.defers->GB B w w'->af.s=y.s->af.q=y.q->af.w=y.w->af.g=y.g->wpListIn (W none) n E.P ops Q (l.drop m) a' w'):wpListIn (W none) n E.P ops Q l a w:=by
 simp only[bH,aop]at hc;obtain⟨hp,hc⟩:=hc;split at hc
 ·rename_i cQ h' hex
  cases e:bG tb cQ h' nt L nb HB with
  |none=>rw[e]at hc;cases hc
  |some σ=>
   have:=lf hE (gq hE (cV hE k).1) (gX (cV hE k).1) ops none n (Q:=Q) (l.drop m) (l.take m) fr (ak tF HB0) cQ h' hex φ a w (by rw[qQ];exact fun g hg=>by omega) bK hs.fr hs.hr fun af a' w' iD wz cy cM=>by
    obtain⟨vK,ju⟩:=hs.after iD cM;have bB:=dM e wz cM ju (arI hs.bz iD.size) y (hy.agree hp iD.le.yy h' w');exact hQ _ a' w' bB (fun r o hk=>fV e cM y r o (by rw[iD.le.yy];exact hK r o hk)) cy vK rfl rfl rfl rfl
   rwa[arO]at this
 ·cases hc
theorem ad.Wo{E:Env}(hE:E.OK)(qQ:E.ng=0){k:Nat}{ops:Array Oper}{fr:Fr}{tF:Nat}{HB0:List (Nat×aQ)}{tb:bP}{nt:Nat}{L:List (Nat×V)}{nb:Nat}{HB:List (Nat×aQ)}(hc:Lz E k ops fr (ak tF HB0) tb nt L nb HB=true)
  {K:Nat->Option Obj}{φ:Ren}{B:Nat}{a:Act}{w:World}{n:Nat}(hs:ad φ B fr (ak tF HB0) a w)(hK:fU K φ)(bK:BD E φ)(y:Sym)(hy:iC tb φ.y y){Q:Exit->Act->World->Prop}
  (hQ:∀af a' w',ad af B (U nt L) (ak nb HB) a' w'->fU K af->a'.defers=a.defers->GB B w w'->af.s=y.s->af.q=y.q->af.w=y.w->af.g=y.g->Q .normal a' w'):fc none n E.P ops Q a w:=by
 simp only[Lz,aop]at hc;obtain⟨hp,hc⟩:=hc;split at hc
 ·rename_i cQ h' hex
  cases e:bG tb cQ h' nt L nb HB with
  |none=>rw[e]at hc;cases hc
  |some σ=>
   obtain⟨p,hp1,xR⟩:=Ln FN hex;have II:∀i,¬mE (arM ops.size false) i:=fun i h=>by
    unfold mE at h;rw[arF,Array.getElem?_replicate]at h;split at h<;>simp at h
   refine fc.any ?_;refine P5 hE (gq hE (cV hE k).1) (gX (cV hE k).1) p none n (φ0:=φ) (a0:=a) (w0:=w) (by rw[qQ];exact fun g hg=>by omega) bK (fun af a' w' iD wz cy cM=> ?_) ops.size _ a w ?_ ⟨by simp,fun i o _ h=>absurd h (II i),⟨φ,0,Ext.refl φ w,by rw[p.s0];exact hs.hr,Nat.zero_le _,fun i oi _ _=>⟨fun h=>absurd h (II i),fun h=>by omega⟩,fun t _=>hs.fr.2 t,fun t i oi _ _ h=>absurd h (II i)⟩,hs.fr.1,rfl⟩
   ·rw[hp1]at wz
    rw[xR]at cM;obtain⟨vK,ju⟩:=hs.after iD cM;have bB:=dM e wz cM ju (arI hs.bz iD.size) y (hy.agree hp iD.le.yy h' w');exact hQ _ a' w' bB (fun r o hk=>fV e cM y r o (by rw[iD.le.yy];exact hK r o hk)) cy vK rfl rfl rfl rfl
   ·unfold left;simp[arP]
 ·cases hc
theorem ad.lJ{w:World}(hs:ad φ B fr h a w)(hK:fU K φ):∀r o,K r=some o->w.heap[r]? =some o:=fun r o hk=>(hs.hr.kp r o (hK r o hk)).1
open Classical in
theorem ad.mS{K1:Nat->Option Obj}{w:World}(hs:ad φ B (U nt L) (ak nb HB) a w)(hK:fU K φ)(hg:Grown w w')(hu:rJ K w w' K1){tb:bP}(hc:aW tb nt L nb HB=true){y:Sym}(hy:Ag tb φ.y y):
  ∃af,ad af B (U nt L) (ak nb HB) a w'/\fU K1 af/\af.s=y.s/\af.q=y.q/\af.w=y.w/\af.g=y.g:=by
 simp only[aW,aop]at hc;cases e:bG tb (U nt L) (ak nb HB) nt L nb HB with
 |none=>rw[e]at hc;cases hc.2
 |some σ=>
  have cM:=(hg.ok hs.hr).1;refine⟨_,dM e hs.fr cM hs.loc (arI hs.bz hg.size) y ((hy.au rfl rfl rfl rfl).agree hc.1 rfl _ _),fun r o hk=> ?_,rfl,rfl,rfl,rfl⟩;rcases hu.new r o hk with h|h
  ·exact fV e cM y r o (hK r o h)
  ·show(if∃b,(lk σ b).bind φ.f=some r/\((ak nb HB).get b).mut then none else w'.heap[r]?)=some o
   rw[if_neg]
   ·exact hu.at_ r o hk
   ·rintro⟨b,e,_⟩
    cases hc:lk σ b with
    |none=>rw[hc]at e;cases e
    |some c=>
     rw[hc]at e;have:=(hs.hr.lM c r e).2;omega
theorem fU.all{w:World}(hk:φ.y.k=fun r=>w.heap[r]?)(h:∀r o,K r=some o->w.heap[r]? =some o):fU K φ:=fun r o e=>by rw[hk];exact h r o e
end
open Go.Proofs
def cr(w:World)(T sz:Nat)(v:Value)(row:List Value):Prop:=∃r n cap c,v=.slice (some ⟨r,0,none⟩) n cap/\0<sz/\n*sz=row.length/\n<=cap/\cap*sz=c.size/\w.heap[r]? =some (.cells c T (0,0))/\c.toList.take row.length=row
theorem cr.grown{w:World}(h:Grown w w'){T sz:Nat}{v:Value}{row:List Value}(hi:cr w T sz v row):cr w' T sz v row:=by
 obtain⟨r,n,cap,c,h1,h2,h3,h4,h5,h6,h7⟩:=hi;exact⟨r,n,cap,c,h1,h2,h3,h4,h5,by rw[h.same r (arC.1 h6).1];exact h6,h7⟩
theorem cr.kept{w:World}(h:∀(r:Nat) (o:Obj),w.heap[r]? =some o->w'.heap[r]? =some o){T sz:Nat}{v:Value}{row:List Value}(hi:cr w T sz v row):cr w' T sz v row:=by
 obtain⟨r,n,cap,c,h1,h2,h3,h4,h5,h6,h7⟩:=hi;exact⟨r,n,cap,c,h1,h2,h3,h4,h5,h _ _ h6,h7⟩
theorem cr.add{φ:Ren}{nb:Nat}{HB:List (Nat×aQ)}{w:World}(hr:HR φ (ak nb HB) w){T sz:Nat}{v:Value}{row:List Value}(hi:cr w T sz v row)(hn:rG T HB=true)(x:Nat)(hx:φ.w x=row):
  ∃af,HR af (ak (nb+1) ((nb,.rw x T)::HB)) w/\af.y=φ.y/\Le φ af/\VR af (.sr nb x 0 sz) v:=by
 obtain⟨r,n,cap,c,rfl,h2,h3,h4,h5,h6,h7⟩:=hi;have hle:(row.length:Nat)<=c.size:=by
  rw[<-h5,<-h3];exact Nat.mul_le_mul_right _ h4
 have F8:∀s,φ nb≠some s:=fun s es=>by have:=(hr.lM _ _ es).1;exact absurd this (arY _)
 refine⟨up φ nb r c.size,hr.add h6 hn (.rw x T) (fun h=>h) ⟨c,rfl,by rw[hx];exact h7,by rw[hx];exact hle,rfl⟩,rfl,jr F8,?_⟩;simp only[VR];refine⟨r,n,cap,by simp[up],h2,?_,by omega,by simp[up,h5],by simp⟩;show n*sz=(φ.w x).length;rw[hx];exact h3
theorem fM{α:Type}{k:Nat}{f:α->List Value}(hf:∀x,(f x).length=k):∀l:List α,(l.flatMap f).length=l.length*k
 |[]=>by simp
 |x::xs=>by simp[hf,fM hf xs,Nat.add_mul];omega
theorem lj{α:Type}{k:Nat}{f:α->List Value}(hf:∀x,(f x).length=k):∀(l:List α) (i:Nat) (x:α),l[i]? =some x->((l.flatMap f).drop (i*k)).take k=f x
 |[],i,x,h=>by simp at h
 |y::ys,0,x,h=>by
  simp at h;subst h;simp[<-hf y]
 |y::ys,i+1,x,h=>by
  simp at h;have ih:=lj hf ys i x h;have e:(i+1)*k=(f y).length+i*k:=by rw[hf,Nat.add_mul];omega
  rw[List.flatMap_cons,e,List.drop_length_add_append];exact ih
structure O where
 id:Nat
 ref:Nat
def gK(p:O×Value):List Value:=[.int .i64 p.1.id,.int .i64 0,.int .i64 0,p.2]
def ja(p:ByteArray×Nat):List Value:=[.string p.1,.int .i64 p.2]
def aZ(l:List (O×Value)):List Value:=l.flatMap gK
def cg(l:List (ByteArray×Nat)):List Value:=l.flatMap ja
theorem fh(l:List (O×Value)):(aZ l).length=l.length*4:=fM (f:=gK) (fun _=>rfl) l
theorem fk(l:List (ByteArray×Nat)):(cg l).length=l.length*2:=fM (f:=ja) (fun _=>rfl) l
theorem qJ{l:List (O×Value)}{p:O×Value}(h:l[i]? =some p):((aZ l).drop (i*4)).take 4=gK p:=lj (f:=gK) (fun _=>rfl) l i p h
theorem ui{l:List (ByteArray×Nat)}{p:ByteArray×Nat}(h:l[i]? =some p):((cg l).drop (i*2)).take 2=ja p:=lj (f:=ja) (fun _=>rfl) l i p h
def RN(s:ByteArray):Prop:=∀K,Quiet Tryz.prog K 93 [.string s] fun v=>v=.bool true
def wV(lines ov rv:Value)(next:Nat):Value:=.agg #[lines,ov,rv,.int .i64 next]
noncomputable def Bz:List Code:=ct ((Tryz.f88.body).getD .skip)
def roundOf:List Code->List Code
 |.block _ (.loop b)::_=>ct b
 |_=>[]
def aid:List (Nat×aQ):=[(1,.rw 1 101),(0,.rw 0 51)]
def Gp:List V:=[.a [.q 0,.sr 0 0 0 4,.sr 1 1 0 2,.y .i64 3]]
def pP:List (Nat×V):=[(1,.p (some (2,0))),(2,.b false),(3,.y .i64 2),(17,.sr 0 0 0 4),(18,.y .i64 1),(19,.y .i64 0)]
def fC:List (Nat×aQ):=[(2,.cells [.q 0,.sr 0 0 0 4,.sr 1 1 0 2,.y .i64 3] 47 false),(1,.rw 1 101),(0,.rw 0 51)]
def QK:aU:={bin:=[(.lss,.y .i64 3,.i .i64 1,.b false),(.gtr,.y .i64 3,.i .i64 100001,.b false)],rz:=[(0,4),(1,2)],rl:=[(0,0,1)]}
def abQ:bP:={s:=[(0,.i 0),(1,.y 1),(2,.i 0),(3,.y 3)],q:=[(0,.q 0)],w:=[(0,.same 0),(1,.same 1)]}
theorem aie:av (ar E0 QK) 100 (Bz.take 5) ⟨66,load Gp 0 .leaf⟩ (ak 2 aid) .n abQ 66 pP 3 fC=true:=by decide+kernel
def QL:bP:={s:=[(0,.y 0),(1,.y 1),(2,.y 2),(3,.y 3)],q:=[(0,.q 0)],w:=[(0,.same 0),(1,.same 1)]}
theorem I6:aW QL 66 pP 3 fC=true:=by decide+kernel
def QM:aU:={bin:=[(.lss,.y .i64 0,.y .i64 1,.b true),(.leq,.y .i64 4,.y .i64 2,.b false),(.geq,.y .i64 4,.y .i64 3,.b false),(.add,.y .i64 0,.i .i64 1,.y .i64 5)],rz:=[(0,4),(1,2)],re:=[(0,0,[.y .i64 4,.i .i64 0,.i .i64 0,.q 3])]}
def abR:bP:={s:=[(0,.y 5),(1,.y 1),(2,.y 4),(3,.y 3)],q:=[(0,.q 0)],w:=[(0,.same 0),(1,.same 1)]}
theorem aif:av (ar E0 QM) 100 ((roundOf (Bz.drop 5)).take 100) (U 66 pP) (ak 3 fC) .n abR 66 pP 3 fC=true:=by decide+kernel
def DP:aU:={bin:=[(.lss,.y .i64 0,.y .i64 1,.b false)],rz:=[(0,4),(1,2)]}
theorem aih:av (ar E0 DP) 100 ((roundOf (Bz.drop 5)).take 100) (U 66 pP) (ak 3 fC) (.e 0) QL 66 pP 3 fC=true:=by decide+kernel
def mn:List (Nat×V):=[(1,.p (some (2,0))),(2,.b false),(38,.sr 1 1 0 2),(39,.y .i64 1),(40,.y .i64 0)]
def QN:aU:={rz:=[(0,4),(1,2)],rl:=[(1,0,4)]}
def abS:bP:={s:=[(0,.i 0),(1,.y 4),(3,.y 3)],q:=[(0,.q 0)],w:=[(0,.same 0),(1,.same 1)]}
theorem aii:av (ar E0 QN) 100 ((Bz.drop 6).take 1) (U 66 pP) (ak 3 fC) .n abS 66 mn 3 fC=true:=by decide+kernel
def I7:bP:={s:=[(0,.y 0),(1,.y 1),(3,.y 3)],q:=[(0,.q 0)],w:=[(0,.same 0),(1,.same 1)]}
theorem DQ:aW I7 66 mn 3 fC=true:=by decide+kernel
def QP:aU:={bin:=[(.lss,.y .i64 0,.y .i64 1,.b true),(.gtr,.y .i64 0,.i .i64 0,.b false),(.add,.y .i64 0,.i .i64 1,.y .i64 5)],rz:=[(0,4),(1,2)],re:=[(1,0,[.q 4,.y .i64 6])],qc:=[(93,[.q 4],.b true)]}
def QQ:bP:={s:=[(0,.y 5),(1,.y 1),(3,.y 3)],q:=[(0,.q 0)],w:=[(0,.same 0),(1,.same 1)]}
theorem aij:av (ar E0 QP) 100 ((roundOf (Bz.drop 7)).take 100) (U 66 mn) (ak 3 fC) .n QQ 66 mn 3 fC=true:=by decide+kernel
def QR:aU:={bin:=[(.lss,.y .i64 0,.y .i64 1,.b true),(.gtr,.y .i64 0,.i .i64 0,.b true),(.sub,.y .i64 0,.i .i64 1,.y .i64 7),(.leq,.q 4,.q 5,.b false),(.add,.y .i64 0,.i .i64 1,.y .i64 5)],rz:=[(0,4),(1,2)],re:=[(1,0,[.q 4,.y .i64 6]),(1,7,[.q 5,.y .i64 8])],qc:=[(93,[.q 4],.b true)]}
theorem aik:av (ar E0 QR) 100 ((roundOf (Bz.drop 7)).take 100) (U 66 mn) (ak 3 fC) .n QQ 66 mn 3 fC=true:=by decide+kernel
theorem ail:av (ar E0 DP) 100 ((roundOf (Bz.drop 7)).take 100) (U 66 mn) (ak 3 fC) (.e 2) I7 66 mn 3 fC=true:=by decide+kernel
def abT:List (Nat×V):=[(2,.b true)]
theorem aim:av (ar E0 {}) 100 ((Bz.drop 8).take 2) (U 66 mn) (ak 3 fC) .r {} 66 abT 0 []=true:=by decide+kernel
def dg(s:List Int)(q:List Value)(w:List (List Value))(g:List (Array MapEntry×Nat)):Sym:=
 {s:=fun x=>s.getD x 0,q:=fun x=>q.getD x (.bool false),w:=fun x=>w.getD x [],g:=fun x=>g.getD x (#[],0),k:=fun _=>none}
def bD(φ:Ren)(y:Sym):Prop:=φ.s=y.s/\φ.q=y.q/\φ.w=y.w/\φ.g=y.g
def bZ(l:List (O×Value)):Nat->Nat
 |0=>0
 |i+1=>((l[i]?).map (·.1.id)).getD 0
theorem i64_in{n:Int}(h: -1000000000<=n/\n<=1000000000):cZ .i64 n=true:=by
 simp only[cZ,aop,ma];omega
theorem I8{n:Nat}{w:World}{lines ov rv:Value}{next:Nat}{l:List (O×Value)}{rs:List (ByteArray×Nat)}(ho:cr w 51 4 ov (aZ l))(hr:cr w 101 2 rv (cg rs))(lS:lines.oneCell'=true)(iz:∀p∈l,p.2.oneCell'=true)
  (I9:∀i p,l[i]? =some p->bZ l i<p.1.id/\p.1.id<next)(LB:1<=next/\next<=100001)(ym:l.length<=100000)(jD:rs.length<=100000)(Zo:∀p∈rs,RN p.1)
  (hrs:∀i p q,rs[i]? =some p->rs[i+1]? =some q->(Op.bytesLess q.1.toList p.1.toList||q.1.toList==p.1.toList)=false):
  CallsIn (W none) n Tryz.prog 88 #[wV lines ov rv next] w fun e w'=>∃v,e=.returned v/\v=.bool true/\Grown w w':=by
 have km:=fh l;have Zp:=fk rs;let y0:Sym:=dg [0,l.length,0,next] [lines] [aZ l,cg rs] [];obtain⟨ay,h1,e1,le1,v1⟩:=ho.add (bc y0 w) rfl 0 rfl;obtain⟨aV,h2,e2,le2,v2⟩:=hr.add h1 rfl 1 (by show ay.y.w 1=_;rw[e1];rfl);have kq:aV.y=(φ0 y0 w).y:=e2.trans e1;have cG:J aV Gp [wV lines ov rv next]:=by
  refine J.cons ?_ J.nil;simp only[VR];refine⟨_,rfl,?_⟩;refine J.cons ?_ (J.cons (VR.mono le2 _ _ v1) (J.cons v2 (J.cons ?_ J.nil)))
  ·simp only[VR,Ren.q,kq];exact⟨rfl,lS⟩
  ·simp only[VR,Ren.s,kq];rfl
 have bB:=ad.enter (nt:=66) h2 rfl (by rw[kq];rfl) cG (by decide);refine dz (fn:=Tryz.f88) (c:=(Tryz.f88.body).getD .skip) Tryz.func88 rfl (bp _ ?_);show aC none n E0.P _ Bz _ _;refine ad.dc (aq aB QK) rfl 5 aie bB (aA.dU ?_) rfl y0 ?_ fun φ a w1 hs hd hg _ n1 n2 n3 n4=> ?_
 ·refine⟨agm,⟨?_,?_,agm⟩,agm,⟨⟨l.length,by decide,?_,?_⟩,agm⟩,agm,agm,agm,agm,agm⟩
  ·refine .lss (k:=.i64) (x:=next) (y:=1) ?_ rfl (by simp;omega)
   simp only[aR,kq];rfl
  ·refine .gtr (k:=.i64) (x:=next) (y:=100001) ?_ rfl (by simp;omega)
   simp only[aR,kq];rfl
  ·simp only[Ren.w,kq];exact km.symm
  ·simp only[Ren.s,kq];rfl
 ·refine Ag.au (o:=y0) ⟨⟨rfl,rfl,rfl,rfl,agm⟩,⟨⟨rfl,lS⟩,agm⟩,⟨rfl,rfl,agm⟩,agm⟩ ?_ ?_ ?_ ?_<;>rw[kq]<;>rfl
 show aC none n E0.P _ (Bz.drop 5) a w1;let Y1:Nat->Sym:=fun i=>dg [i,l.length,bZ l i,next] [lines] [aZ l,cg rs] []
 let Inv1:Nat->Act->World->Prop:=fun i a w'=>∃φ,ad φ w.heap.size (U 66 pP) (ak 3 fC) a w'/\a.defers=[]/\GB w.heap.size w w'/\bD φ (Y1 i)
 refine dd (id:=0) (b:=(match Bz.drop 5 with|.block _ (.loop b)::_=>b|_=>.skip)) (rest:=Bz.drop 6) l.length Inv1 ?_ ?_ ⟨φ,hs,hd,hg,n1,n2,n3,n4⟩
 ·rintro i a w' hi ⟨φ,hs,hd,hg,n1,n2,n3,n4⟩
  obtain⟨p,hp⟩:∃p,l[i]? =some p:=⟨l[i],arL hi⟩
  have lG:=I9 i p hp;refine ad.go aB rfl QM 100 (cs:=roundOf (Bz.drop 5)) I6 aif hs hd (dg [i,l.length,bZ l i,next,p.1.id,i+1] [lines,lines,lines,p.2] [aZ l,cg rs] []) ?_ (fun ay b9 m1 m2 m3 m4=> ?_) (Y1 (i+1)) ?_ fun af a' w'' cu cy dh _ k1 k2 k3 k4=> ?_
  ·exact⟨⟨(agB n1 0).symm,(agB n1 1).symm,(agB n1 2).symm,(agB n1 3).symm,agm⟩,⟨⟨(agB n2 0).symm,lS⟩,agm⟩,⟨(agB n3 0).symm,(agB n3 1).symm,agm⟩,agm⟩
  ·have s0:ay.y.s 0=i:=agB m1 0
   have s1:ay.y.s 1=l.length:=agB m1 1;have s2:ay.y.s 2=bZ l i:=agB m1 2;have s3:ay.y.s 3=next:=agB m1 3;have s4:ay.y.s 4=p.1.id:=agB m1 4;have s5:ay.y.s 5=i+1:=agB m1 5;refine⟨agm,⟨?_,?_,?_,?_,agm⟩,agm,agm,⟨⟨by decide,rfl,i,s0,?_,?_⟩,agm⟩,agm,agm,agm,agm⟩
   ·exact .lss (k:=.i64) (x:=i) (y:=l.length) (by simp only[aR,s0]) (by simp only[aR,s1]) (by simp;omega)
   ·exact .leq (k:=.i64) (x:=p.1.id) (y:=bZ l i) (by simp only[aR,s4]) (by simp only[aR,s2]) (by simp;omega)
   ·exact .geq (k:=.i64) (x:=p.1.id) (y:=next) (by simp only[aR,s4]) (by simp only[aR,s3]) (by simp;omega)
   ·exact .add (k:=.i64) (x:=i) (y:=1) (by simp only[aR,s0]) rfl (by simp only[aR,s5]) (i64_in (by omega))
   ·show(i+1)*4<=(ay.w 0).length
    rw[show ay.w 0=aZ l from agB m3 0,km];omega
   ·show J ay [.y .i64 4,.i .i64 0,.i .i64 0,.q 3] (((ay.w 0).drop (i*4)).take 4)
    rw[show ay.w 0=aZ l from agB m3 0,qJ hp];refine J.cons ?_ (J.cons (by simp only[VR]) (J.cons (by simp only[VR]) (J.cons ?_ J.nil)))
    ·simp only[VR,Ren.s,s4]
    ·simp only[VR];exact⟨(agB m2 3).symm,iz p (arS hp)⟩
  ·refine⟨⟨?_,rfl,?_,rfl,agm⟩,⟨⟨rfl,lS⟩,agm⟩,⟨rfl,rfl,agm⟩,agm⟩
   ·show((i+1:Nat):Int)=(i:Int)+1;omega
   ·show((bZ l (i+1):Nat):Int)=(p.1.id:Int);simp[bZ,hp]
  ·exact⟨rfl,af,cu,cy,hg.trans dh,k1,k2,k3,k4⟩
 ·rintro a w' ⟨φ,hs,hd,hg,n1,n2,n3,n4⟩
  refine ad.go aB rfl DP 100 (cs:=roundOf (Bz.drop 5)) I6 aih hs hd (Y1 l.length) ?_ (fun ay b9 m1 m2 m3 m4=> ?_) (Y1 l.length) ?_ fun af a' w'' cu cy dh _ k1 k2 k3 k4=>⟨rfl,?_⟩
  ·exact⟨⟨(agB n1 0).symm,(agB n1 1).symm,(agB n1 2).symm,(agB n1 3).symm,agm⟩,⟨⟨(agB n2 0).symm,lS⟩,agm⟩,⟨(agB n3 0).symm,(agB n3 1).symm,agm⟩,agm⟩
  ·have s0:ay.y.s 0=l.length:=agB m1 0
   have s1:ay.y.s 1=l.length:=agB m1 1;exact⟨agm,⟨.lss (k:=.i64) (x:=l.length) (y:=l.length) (by simp only[aR,s0]) (by simp only[aR,s1]) (by simp),agm⟩,agm,agm,agm,agm,agm,agm,agm⟩
  ·exact⟨⟨rfl,rfl,rfl,rfl,agm⟩,⟨⟨rfl,lS⟩,agm⟩,⟨rfl,rfl,agm⟩,agm⟩
  let Y2:Nat->Sym:=fun i=>dg [i,rs.length,0,next] [lines] [aZ l,cg rs] []
  refine ad.go aB rfl QN 1 (cs:=Bz.drop 6) I6 aii cu cy (dg [l.length,l.length,bZ l l.length,next,rs.length] [lines] [aZ l,cg rs] []) ?_ (fun ay b9 m1 m2 m3 m4=> ?_) (Y2 0) ?_ fun aV a2 w2 dx mF iK _ k1 k2 k3 k4=> ?_
  ·exact⟨⟨(agB k1 0).symm,(agB k1 1).symm,(agB k1 2).symm,(agB k1 3).symm,agm⟩,⟨⟨(agB k2 0).symm,lS⟩,agm⟩,⟨(agB k3 0).symm,(agB k3 1).symm,agm⟩,agm⟩
  ·refine⟨agm,agm,agm,⟨⟨rs.length,by decide,?_,agB m1 4⟩,agm⟩,agm,agm,agm,agm,agm⟩
   show rs.length*2=(ay.w 1).length;rw[show ay.w 1=cg rs from agB m3 1,Zp]
  ·exact⟨⟨rfl,rfl,rfl,agm⟩,⟨⟨rfl,lS⟩,agm⟩,⟨rfl,rfl,agm⟩,agm⟩
  show aC none n E0.P _ (Bz.drop 7) a2 w2;have aou:=(hg.trans dh).trans iK;clear cu cy dh hg hs hd;let Inv2:Nat->Act->World->Prop:=fun i a w'=>∃φ,ad φ w.heap.size (U 66 mn) (ak 3 fC) a w'/\a.defers=[]/\GB w.heap.size w w'/\bD φ (Y2 i)
  refine dd (id:=2) (b:=(match Bz.drop 7 with|.block _ (.loop b)::_=>b|_=>.skip)) (rest:=Bz.drop 8) rs.length Inv2 ?_ ?_ ⟨aV,dx,mF,aou,k1,k2,k3,k4⟩
  ·rintro i a w' hi ⟨φ,hs,hd,hg,n1,n2,n3,n4⟩
   obtain⟨p,hp⟩:∃p,rs[i]? =some p:=⟨rs[i],arL hi⟩
   have a0:∀(y:Sym),y.s 0=i->y.s 1=rs.length->y.s 3=next->y.q 0=lines->y.w 0=aZ l->y.w 1=cg rs->Ag I7 φ.y y:=fun y g1 g2 g3 g4 g5 g6=>
    ⟨⟨g1.trans (agB n1 0).symm,g2.trans (agB n1 1).symm,g3.trans (agB n1 3).symm,agm⟩,⟨⟨g4.trans (agB n2 0).symm,by rw[g4];exact lS⟩,agm⟩,⟨g5.trans (agB n3 0).symm,g6.trans (agB n3 1).symm,agm⟩,agm⟩
   have FQ:∀ay:Ren,ay.q 4=.string p.1->∀af,Le ay af->∀args',J af [.q 4] args'->Quiet E0.P ay.y.k 93 args' fun u=>VR af (.b true) u:=fun ay hq af hle args' ha=>by
    simp only[J]at ha;obtain⟨v,_,rfl,hv,rfl⟩:=ha;simp only[VR]at hv;rw[hle.qy,hq]at hv;rw[hv.1];have:=Zo p (arS hp) ay.y.k;refine⟨this.1,fun n w hk=>(this.2 n w hk).mono ?_⟩;rintro e w' ⟨u,h1,h2,h3⟩;exact⟨u,h1,by simp only[VR];exact h2,h3⟩
   have bQ:∀ay:Ren,ay.w=(dg [] [] [aZ l,cg rs] []).w->∀(j:Nat) (pj:ByteArray×Nat) (a b:Nat),rs[j]? =some pj->ay.q a=.string pj.1->ay.s b=pj.2->(j+1)*2<=(ay.w 1).length/\J ay [.q a,.y .i64 b] (((ay.w 1).drop (j*2)).take 2):=fun ay m3 j pj a b hj ha hb=>by
    have bf:j<rs.length:=by
     rcases Nat.lt_or_ge j rs.length with h|h
     ·exact h
     ·rw[List.getElem?_eq_none h]at hj;cases hj
    rw[show ay.w 1=cg rs from agB m3 1,Zp,ui hj];refine⟨by omega,J.cons ?_ (J.cons ?_ J.nil)⟩
    ·simp only[VR];exact⟨ha.symm,rfl⟩
    ·simp only[VR];rw[hb]
   cases i with
   |zero=>
    refine ad.go aB rfl QP 100 (cs:=roundOf (Bz.drop 7)) DQ aij hs hd (dg [0,rs.length,0,next,0,1,p.2] [lines,lines,lines,lines,.string p.1] [aZ l,cg rs] []) (a0 _ rfl rfl rfl rfl rfl rfl) (fun ay b9 m1 m2 m3 m4=> ?_) (Y2 1) ?_ fun af a' w'' cu cy dh _ k1 k2 k3 k4=>⟨rfl,af,cu,cy,hg.trans dh,k1,k2,k3,k4⟩
    ·have s0:ay.y.s 0=0:=agB m1 0
     have s1:ay.y.s 1=rs.length:=agB m1 1;have s5:ay.y.s 5=1:=agB m1 5;have q4:ay.q 4=.string p.1:=agB m2 4;have r0:=bQ ay m3 0 p 4 6 hp q4 (agB m1 6);refine⟨agm,⟨?_,?_,?_,agm⟩,agm,agm,⟨⟨by decide,rfl,0,s0,r0.1,r0.2⟩,agm⟩,agm,agm,agm,⟨FQ ay q4,agm⟩⟩
     ·exact .lss (k:=.i64) (x:=0) (y:=rs.length) (by simp only[aR,s0]) (by simp only[aR,s1]) (by simp;omega)
     ·exact .gtr (k:=.i64) (x:=0) (y:=0) (by simp only[aR,s0]) rfl (by simp)
     ·exact .add (k:=.i64) (x:=0) (y:=1) (by simp only[aR,s0]) rfl (by simp only[aR,s5];rfl) (i64_in (by omega))
    ·exact⟨⟨rfl,rfl,rfl,agm⟩,⟨⟨rfl,lS⟩,agm⟩,⟨rfl,rfl,agm⟩,agm⟩
   |succ i=>
    obtain⟨q,hq⟩:∃q,rs[i]? =some q:=⟨rs[i],arL (by omega)⟩
    refine ad.go aB rfl QR 100 (cs:=roundOf (Bz.drop 7)) DQ aik hs hd (dg [(i+1:Nat),rs.length,0,next,0,i+2,p.2,i,q.2] [lines,lines,lines,lines,.string p.1,.string q.1] [aZ l,cg rs] []) (a0 _ rfl rfl rfl rfl rfl rfl) (fun ay b9 m1 m2 m3 m4=> ?_) (Y2 (i+2)) ?_ fun af a' w'' cu cy dh _ k1 k2 k3 k4=>⟨rfl,af,cu,cy,hg.trans dh,k1,k2,k3,k4⟩
    ·have s0:ay.y.s 0=((i+1:Nat):Int):=agB m1 0
     have s1:ay.y.s 1=rs.length:=agB m1 1;have s5:ay.y.s 5=i+2:=agB m1 5;have s7:ay.y.s 7=i:=agB m1 7;have q4:ay.q 4=.string p.1:=agB m2 4;have q5:ay.q 5=.string q.1:=agB m2 5;have r0:=bQ ay m3 (i+1) p 4 6 hp q4 (agB m1 6);have r1:=bQ ay m3 i q 5 8 hq q5 (agB m1 8);refine⟨agm,⟨?_,?_,?_,?_,?_,agm⟩,agm,agm,⟨⟨by decide,rfl,i+1,s0,r0.1,r0.2⟩,⟨by decide,rfl,i,s7,r1.1,r1.2⟩,agm⟩,agm,agm,agm,⟨FQ ay q4,agm⟩⟩
     ·exact .lss (k:=.i64) (x:=(i+1:Nat)) (y:=rs.length) (by simp only[aR,s0]) (by simp only[aR,s1]) (by simp;omega)
     ·exact .gtr (k:=.i64) (x:=(i+1:Nat)) (y:=0) (by simp only[aR,s0]) rfl (by simp<;>omega)
     ·exact .sub (k:=.i64) (x:=(i+1:Nat)) (y:=1) (by simp only[aR,s0]) rfl (by simp only[aR,s7];congr 2;omega) (i64_in (by omega))
     ·exact .aia (x:=p.1.toList) (y:=q.1.toList) (by simp only[gu];rw[show ay.y.q 4=.string p.1 from q4]) (by simp only[gu];rw[show ay.y.q 5=.string q.1 from q5]) (hrs i q p hq hp)
     ·exact .add (k:=.i64) (x:=(i+1:Nat)) (y:=1) (by simp only[aR,s0]) rfl (by simp only[aR,s5];congr 2<;>omega) (i64_in (by omega))
    ·exact⟨⟨by show((i+2:Nat):Int)=(i:Int)+2;omega,rfl,rfl,agm⟩,⟨⟨rfl,lS⟩,agm⟩,⟨rfl,rfl,agm⟩,agm⟩
  ·rintro a w' ⟨φ,hs,hd,hg,n1,n2,n3,n4⟩
   refine ad.go aB rfl DP 100 (cs:=roundOf (Bz.drop 7)) DQ ail hs hd (Y2 rs.length) ?_ (fun ay b9 m1 m2 m3 m4=> ?_) (Y2 rs.length) ?_ fun af a' w'' cu cy dh _ k1 k2 k3 k4=>⟨rfl,?_⟩
   ·exact⟨⟨(agB n1 0).symm,(agB n1 1).symm,(agB n1 3).symm,agm⟩,⟨⟨(agB n2 0).symm,lS⟩,agm⟩,⟨(agB n3 0).symm,(agB n3 1).symm,agm⟩,agm⟩
   ·have s0:ay.y.s 0=rs.length:=agB m1 0
    have s1:ay.y.s 1=rs.length:=agB m1 1;exact⟨agm,⟨.lss (k:=.i64) (x:=rs.length) (y:=rs.length) (by simp only[aR,s0]) (by simp only[aR,s1]) (by simp),agm⟩,agm,agm,agm,agm,agm,agm,agm⟩
   ·exact⟨⟨rfl,rfl,rfl,agm⟩,⟨⟨rfl,lS⟩,agm⟩,⟨rfl,rfl,agm⟩,agm⟩
   refine ad.go aB rfl {} 2 (cs:=Bz.drop 8) DQ aim cu cy (Y2 rs.length) ?_ (fun ay b9 m1 m2 m3 m4=> ?_) (Y2 0) ?_ fun eH a3 w3 ez gJ ig _ j1 j2 j3 j4=> ?_
   ·exact⟨⟨(agB k1 0).symm,(agB k1 1).symm,(agB k1 3).symm,agm⟩,⟨⟨(agB k2 0).symm,lS⟩,agm⟩,⟨(agB k3 0).symm,(agB k3 1).symm,agm⟩,agm⟩
   ·exact⟨agm,agm,agm,agm,agm,agm,agm,agm,agm⟩
   ·exact⟨agm,agm,agm,agm⟩
   refine⟨.inl rfl,gJ,?_⟩;obtain⟨v,gE,ff⟩:=ez.leave aB (fn:=Tryz.f88) (l:=[.b true]) rfl;exact⟨v,gE,v,rfl,by simpa only[fG,VR]using ff,((hg.trans dh).trans ig).grown⟩
end Go.Ev
