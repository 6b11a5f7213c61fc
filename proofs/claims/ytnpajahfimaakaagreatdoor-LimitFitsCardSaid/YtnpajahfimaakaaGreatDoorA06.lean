/- A part of what LimitFits rests on. -/
import Derived.Test.YtnpajahfimaakaaGreatDoorA05
import Derived.Test.YtnpajahfimaakaaGreatDoorA01
set_option linter.all false
namespace Go.Ev
open Nat renaming eq_of_beq_eq_true->aop,beq->arC,le_of_mul_le_mul_right->arI,eq_of_mul_eq_mul_right->arJ,le_trans->arK,add_zero->arL,lt_of_lt_of_le->arM
open Bool renaming and_eq_true->AAA
open Option.some renaming injEq->arD
open List renaming mem_cons_of_mem->arE,mem_cons->arF,append_nil->arG
open _root_.Array renaming getElem?_eq_getElem->arH
variable{c:Nat}{φ:Ren}{h:H}
noncomputable section
def BP:List (Nat×V)->Nat->V
 |[],_=>.top
 |(k,v)::l,j=>if j=k then v else BP l j
def mO:List (Nat×aQ)->Nat->aQ
 |[],_=>.gone
 |(k,v)::l,j=>if j=k then v else mO l j
def frT:List (Nat×V)->T V
 |[]=>.leaf
 |(k,v)::l=>T.set .top (frT l) k v
def hT:List (Nat×aQ)->T aQ
 |[]=>.leaf
 |(k,v)::l=>T.set .gone (hT l) k v
def U(n:Nat)(L:List (Nat×V)):Fr:=⟨n,frT L⟩
def ak(n:Nat)(L:List (Nat×aQ)):H:=⟨n,hT L⟩
theorem Lo:∀(L:List (Nat×V)) (j:Nat),T.get .top (frT L) j=BP L j
 |[],j=>T.il _ _
 |(k,v)::l,j=>by rw[frT,T.bg,BP,Lo l]
theorem Qu:∀(L:List (Nat×aQ)) (j:Nat),T.get .gone (hT L) j=mO L j
 |[],j=>T.il _ _
 |(k,v)::l,j=>by rw[hT,T.bg,mO,Qu l]
theorem cA(n:Nat)(L:List (Nat×V))(j:Nat):(U n L).get j=BP L j:=Lo L j
theorem aH(n:Nat)(L:List (Nat×aQ))(j:Nat):(ak n L).get j=mO L j:=Qu L j
theorem ke:∀{L:List (Nat×aQ)} {j:Nat},(mO L j).live->(j,mO L j)∈L
 |[],j,h=>h.elim
 |(k,v)::l,j,h=>by
  simp only[mO]at h⊢
  by_cases e:j=k
  ·rw[if_pos e];rw[e];simp
  ·rw[if_neg e]at h⊢;exact arE _ (ke h)
def lk{α:Type}:List (Nat×α)->Nat->Option α
 |[],_=>none
 |(k,v)::l,j=>cond (arC j k) (some v) (lk l j)
inductive SV where
 |y (x:Nat)
 |i (n:Int)
inductive WV where
 |same (x:Nat)
 |fold (b:Nat)
structure bP where
 s:List (Nat×SV):=[]
 q:List (Nat×V):=[]
 w:List (Nat×WV):=[]
 g:List (Nat×WV):=[]
abbrev Bd:=List (Nat×Nat)
def Qv:Bd->Nat->Bool
 |[],_=>false
 |(_,c)::σ,b=>cond (arC b c) true (Qv σ b)
def rF(b c:Nat)(σ:Bd):Option Bd:=match lk σ b with
 |some c'=>cond (arC c' c) (some σ) none
 |none=>cond (Qv σ c) none (some ((b,c)::σ))
def zQ(σ dC:Bd):Prop:=∀b c,lk σ b=some c->lk dC b=some c
def DH(σ:Bd):Prop:=∀b b' c,lk σ b=some c->lk σ b'=some c->b=b'
theorem zQ.refl(σ:Bd):zQ σ σ:=fun _ _ h=>h
theorem zQ.trans{a b c:Bd}(h:zQ a b)(h':zQ b c):zQ a c:=fun x y e=>h' x y (h x y e)
theorem qD{α:Type}{k:Nat}{v:α}{l:List (Nat×α)}{j:Nat}:lk ((k,v)::l) j=if j=k then some v else lk l j:=by
 simp only[lk]
 by_cases h:j=k
 ·subst h;simp
 ·rw[YZ h,if_neg h];rfl
theorem Lp:∀{σ:Bd} {c:Nat},Qv σ c=false->∀b,lk σ b≠some c
 |[],c,_,b,e=>by cases e
 |(k,d)::σ,c,h,b,e=>by
  simp only[Qv]at h;cases hb:arC c d with
  |true=>rw[hb]at h;cases h
  |false=>
   rw[hb]at h;rw[qD]at e
   by_cases hk:b=k
   ·rw[if_pos hk]at e;cases e;rw[Nat.beq_refl]at hb;cases hb
   ·rw[if_neg hk]at e;exact Lp h b e
theorem Qw{b:Nat}{σ dC:Bd}(h:rF b c σ=some dC):zQ σ dC/\lk dC b=some c/\(DH σ->DH dC):=by
 unfold rF at h;split at h
 ·rename_i c' hc
  cases hb:arC c' c with
  |false=>rw[hb]at h;cases h
  |true=>
   rw[hb]at h;simp only[cond,arD]at h;subst h;rw[aop hb]at hc;exact⟨zQ.refl _,hc,id⟩
 ·rename_i hn
  cases hb:Qv σ c with
  |true=>rw[hb]at h;cases h
  |false=>
   rw[hb]at h;simp only[cond,arD]at h;subst h;have BQ:=Lp hb;refine⟨fun x y e=> ?_,?_,fun hi x x' y e e'=> ?_⟩
   ·rw[qD]
    by_cases hx:x=b
    ·rw[hx,hn]at e;cases e
    ·rw[if_neg hx];exact e
   ·rw[qD,if_pos rfl]
   ·rw[qD]at e e'
    by_cases hx:x=b
    ·rw[if_pos hx]at e;cases e
     by_cases iT:x'=b
     ·rw[hx,iT]
     ·rw[if_neg iT]at e';exact absurd e' (BQ x')
    ·rw[if_neg hx]at e
     by_cases iT:x'=b
     ·rw[if_pos iT]at e';cases e';exact absurd e (BQ x)
     ·rw[if_neg iT]at e';exact hi x x' y e e'
def iY:V->Bool
 |.b _|.i _ _|.y _ _|.q _|.s _|.p _|.sl none _ _|.sl (some _) _ (.kn _)|.m _|.nf|.ni|.sr .. =>true
 |_=>false
theorem uc{x:V}{v u:Value}(hd:iY x=true)(hv:VR φ x v)(hu:VR φ x u):v=u:=by
 cases x with
 |b=>simp only[VR]at hv hu;rw[hv,hu]
 |i=>simp only[VR]at hv hu;rw[hv,hu]
 |y=>simp only[VR]at hv hu;rw[hv,hu]
 |q=>simp only[VR]at hv hu;rw[hv.1,hu.1]
 |s=>simp only[VR]at hv hu;rw[hv.1,hu.1]
 |p a=>
  cases a with
  |none=>simp only[VR]at hv hu;rw[hv,hu]
  |some bo=>
   obtain⟨b,o⟩:=bo;simp only[VR]at hv hu;obtain⟨r,h1,rfl⟩:=hv;obtain⟨r',h2,rfl⟩:=hu;rw[h1]at h2;cases h2;rfl
 |sl a n c=>
  cases a with
  |none=>simp only[VR]at hv hu;rw[hv.2,hu.2]
  |some bo=>
   obtain⟨b,o⟩:=bo;cases c with
   |kn c=>
    simp only[VR]at hv hu;obtain⟨r,h1,_,rfl⟩:=hv;obtain⟨r',h2,_,rfl⟩:=hu;rw[h1]at h2;cases h2;rfl
   |un=>cases hd
 |m a=>
  cases a with
  |none=>simp only[VR]at hv hu;rw[hv,hu]
  |some b=>
   simp only[VR]at hv hu;obtain⟨r,h1,rfl⟩:=hv;obtain⟨r',h2,rfl⟩:=hu;rw[h1]at h2;cases h2;rfl
 |nf=>simp only[VR]at hv hu;rw[hv,hu]
 |ni=>simp only[VR]at hv hu;rw[hv,hu]
 |sr b x k sz=>
  simp only[VR]at hv hu;obtain⟨r,n,cap,h1,hz,h2,_,h3,rfl⟩:=hv;obtain⟨r',n',IV,g1,_,g2,_,g3,rfl⟩:=hu;rw[h1]at g1;cases g1;have e1:n=n':=arJ hz (h2.trans g2.symm);have e2:cap=IV:=arJ hz (h3.trans g3.symm);rw[e1,e2]
 |_=>cases hd
theorem NK{x:V}(hd:iY x=true):jL x=true:=by
 cases x<;>first|rfl|cases hd
def Qx(sz:Nat)(l:List V)(g:Bool):Cap->Bool
 |.un sz'=>arC sz sz'
 |.kn c=>(!g)&&arC (c*sz) l.length
def Qy(h:H)(c k sz x' k':Nat):Bool:=match h.get c with
 |.row x'' l _=>arC x'' x'&&arC (k*sz+l.length) (k'*sz)
 |_=>false
def IW(h:H)(c k sz n:Nat)(cp:Cap):Bool:=match h.get c with
 |.cells l _ g=>arC (k*sz+l.length) (n*sz)&&Nat.blt 0 sz&&Qx sz l g cp
 |_=>false
mutual
def mV(tb:bP)(h:H):V->V->Bd->Option Bd
 |.top,_,σ=>some σ
 |.b x,.b y,σ=>cond (cond x y (!y)) (some σ) none
 |.i k n,.i k' n',σ=>cond (decide (k=k')&&Cp n n') (some σ) none
 |.y k x,.y k' x',σ=>
  match lk tb.s x with
  |some (.y z)=>cond (decide (k=k')&&arC z x') (some σ) none
  |_=>none
 |.y k x,.i k' n,σ=>
  match lk tb.s x with
  |some (.i m)=>cond (decide (k=k')&&Cp m n) (some σ) none
  |_=>none
 |.q x,a,σ=>
  match lk tb.q x with
  |some a'=>cond (same a' a&&iY a) (some σ) none
  |none=>none
 |.s l,.s l',σ=>cond (kU l l') (some σ) none
 |.p none,.p none,σ=>some σ
 |.p (some (b,o)),.p (some (b',o')),σ=>cond (arC o o') (rF b b' σ) none
 |.sl none n _,.sl none n' _,σ=>cond (arC n n') (some σ) none
 |.sl (some (b,o)) n c,.sl (some (b',o')) n' c',σ=>cond (arC o o'&&arC n n'&&P8 c c') (rF b b' σ) none
 |.sr b x k sz,.sr b' x' k' sz',σ=>
  match lk tb.w x with
  |some (.same z)=>cond (arC z x'&&arC k k'&&arC sz sz') (rF b b' σ) none
  |some (.fold c)=>cond (arC c b'&&arC sz sz'&&Qy h b' k sz x' k') (rF b b' σ) none
  |none=>none
 |.sr b x k sz,.sl (some (b',o')) n cp,σ=>
  match lk tb.w x with
  |some (.fold c)=>cond (arC c b'&&arC o' 0&&IW h b' k sz n cp) (rF b b' σ) none
  |_=>none
 |.es,.es,σ=>some σ
 |.m none,.m none,σ=>some σ
 |.m (some b),.m (some b'),σ=>rF b b' σ
 |.f fn a b,.f fn' a' b',σ=>
  cond (arC fn fn')
   (match Ib tb h a a' σ with
   |some mP=>Ib tb h b b' mP
   |none=>none) none
 |.yl b,.yl b',σ=>rF b b' σ
 |.o,a,σ=>cond (jL a) (some σ) none
 |.nf,.nf,σ=>some σ
 |.EZ t x,.EZ t' x',σ=>cond (arC t t') (mV tb h x x' σ) none
 |.ni,.ni,σ=>some σ
 |.a l,.a l',σ=>Ib tb h l l' σ
 |.t l,.t l',σ=>Ib tb h l l' σ
 |_,_,_=>none
def Ib(tb:bP)(h:H):List V->List V->Bd->Option Bd
 |[],[],σ=>some σ
 |x::xs,y::ys,σ=>
  match mV tb h x y σ with
  |some mP=>Ib tb h xs ys mP
  |none=>none
 |_,_,_=>none
end
structure Agree(tb:bP)(φ:Ren)(h:H)(w:World)(y:Sym):Prop where
 s:∀x v,lk tb.s x=some v->y.s x=match v with|.y z=>φ.s z|.i n=>n
 q:∀x a,lk tb.q x=some a->VR φ a (y.q x)
 ws:∀x z,lk tb.w x=some (.same z)->y.w x=φ.w z
 wf:∀x c,lk tb.w x=some (.fold c)->∀r cs e,φ c=some r->w.heap[r]? =some (.cells cs e (0,0))->
  (∀z l e',h.get c=.row z l e'->y.w x=cs.toList.take ((φ.w z).length+l.length))/\(∀l e' g,h.get c=.cells l e' g->y.w x=cs.toList.take l.length)
 gs:∀x z,lk tb.g x=some (.same z)->y.g x=φ.g z
 gf:∀x c,lk tb.g x=some (.fold c)->∀r es n,φ c=some r->w.heap[r]? =some (.map es n)->y.g x=(es,n)
def Rel(φ aV:Ren)(σ:Bd):Prop:=∀b c,lk σ b=some c->aV b=φ c/\aV.n b=φ.n c
theorem Rel.sub{φ aV:Ren}{σ dC:Bd}(h:Rel φ aV dC)(hl:zQ σ dC):Rel φ aV σ:=fun b c e=>h b c (hl b c e)
def qE(tb:bP)(h:H)(σ dC:Bd)(P:Ren->Ren->Prop):Prop:=zQ σ dC/\(DH σ->DH dC)/\∀(φ aV:Ren) (w:World),HR φ h w->Agree tb φ h w aV.y->Rel φ aV dC->P φ aV
theorem qE.id{tb:bP}{σ:Bd}{P:Ren->Ren->Prop}(hp:∀(φ aV:Ren) (w:World),HR φ h w->Agree tb φ h w aV.y->P φ aV):qE tb h σ σ P:=⟨zQ.refl _,fun x=>x,fun φ aV w hr ha _=>hp φ aV w hr ha⟩
theorem qE.bind{tb:bP}{σ dC:Bd}{b:Nat}(hb:rF b c σ=some dC){P:Ren->Ren->Prop}(hp:∀(φ aV:Ren) (w:World),HR φ h w->Agree tb φ h w aV.y->aV b=φ c->aV.n b=φ.n c->P φ aV):qE tb h σ dC P:=by
 obtain⟨h1,h2,h3⟩:=Qw hb;exact⟨h1,h3,fun φ aV w hr ha dm=>hp φ aV w hr ha (dm b c h2).1 (dm b c h2).2⟩
theorem bj{α:Type}{c:Bool}{m:Option α}{x:α}(h:cond c m none=some x):c=true/\m=some x:=by
 cases c with
 |true=>exact⟨rfl,h⟩
 |false=>cases h
theorem ah8{x y:Bool}(h:cond x y (!y)=true):x=y:=by cases x<;>cases y<;>first|rfl|cases h
theorem Qz{k sz x' k':Nat}(hm:Qy h c k sz x' k'=true):∃l e,h.get c=.row x' l e/\k*sz+l.length=k'*sz:=by
 unfold Qy at hm;split at hm
 ·rename_i x'' l e hg
  simp only[AAA]at hm;have:=aop hm.1;subst this;exact⟨l,e,hg,aop hm.2⟩
 ·cases hm
theorem NL{k sz n:Nat}{cp:Cap}(hm:IW h c k sz n cp=true):∃l e g,h.get c=.cells l e g/\k*sz+l.length=n*sz/\0<sz/\Qx sz l g cp=true:=by
 unfold IW at hm;split at hm
 ·rename_i l e g hg
  simp only[AAA]at hm;exact⟨l,e,g,hg,aop hm.1.1,bh.1 hm.1.2,hm.2⟩
 ·cases hm
mutual
theorem xS(tb:bP)(h:H):∀(p a:V) (σ dC:Bd),mV tb h p a σ=some dC->qE tb h σ dC fun φ aV=>∀v,VR φ a v->VR aV p v
 |.top,a,σ,dC,e=>by
  simp only[mV,arD]at e;subst e;exact qE.id fun _ _ _ _ _ _ _=>by simp[VR]
 |.b x,a,σ,dC,e=>by
  cases a<;>(try simp only[mV]at e)<;>(try(cases e;done))
  obtain⟨e1,e2⟩:=bj e;cases e2;rw[ah8 e1];exact qE.id fun _ _ _ _ _ v hv=>by simpa[VR]using hv
 |.i k n,a,σ,dC,e=>by
  cases a<;>(try simp only[mV]at e)<;>(try(cases e;done))
  obtain⟨e1,e2⟩:=bj e;simp only[AAA,decide_eq_true_eq]at e1;cases e2;rw[e1.1,pH e1.2];exact qE.id fun _ _ _ _ _ v hv=>by simpa[VR]using hv
 |.y k x,a,σ,dC,e=>by
  cases a<;>(try simp only[mV]at e)<;>(try(cases e;done))
  ·split at e
   ·rename_i m hm
    obtain⟨e1,e2⟩:=bj e;simp only[AAA,decide_eq_true_eq]at e1;cases e2;refine qE.id fun φ aV w hr ha v hv=> ?_
    have:=ha.s _ _ hm;simp only[VR]at hv⊢;rw[hv,e1.1,<-pH e1.2];show Value.int _ m=.int _ (aV.y.s x);rw[this]
   ·cases e
  ·split at e
   ·rename_i z hz
    obtain⟨e1,e2⟩:=bj e;simp only[AAA,decide_eq_true_eq]at e1;cases e2;refine qE.id fun φ aV w hr ha v hv=> ?_
    have:=ha.s _ _ hz;simp only[VR]at hv⊢;rw[hv,e1.1,<-aop e1.2];show Value.int _ (φ.s z)=.int _ (aV.y.s x);rw[this]
   ·cases e
 |.q x,a,σ,dC,e=>by
  have e:(match lk tb.q x with
   |some a'=>cond (same a' a&&iY a) (some σ) none
   |none=>none)=some dC:=by cases a<;>simpa only[mV]using e
  split at e
  ·rename_i a' Zk
   obtain⟨e1,e2⟩:=bj e;simp only[AAA]at e1;cases e2;have hs:=bJ _ _ e1.1;subst hs;refine qE.id fun φ aV w hr ha v hv=> ?_
   have hq:=ha.q _ _ Zk;have hvq:v=aV.y.q x:=uc e1.2 hv hq;simp only[VR];exact⟨hvq,mG hv (NK e1.2)⟩
  ·cases e
 |.s l,a,σ,dC,e=>by
  cases a<;>(try simp only[mV]at e)<;>(try(cases e;done))
  obtain⟨e1,e2⟩:=bj e;cases e2;rw[tT e1];exact qE.id fun _ _ _ _ _ v hv=>by simpa[VR]using hv
 |.p none,a,σ,dC,e=>by
  cases a<;>(try simp only[mV]at e)<;>(try(cases e;done))
  rename_i b;cases b<;>(try simp only[mV]at e)<;>(try(cases e;done))
  cases e;exact qE.id fun _ _ _ _ _ v hv=>by simpa[VR]using hv
 |.p (some (b,o)),a,σ,dC,e=>by
  cases a<;>(try simp only[mV]at e)<;>(try(cases e;done))
  rename_i bo;cases bo with
  |none=>simp only[mV]at e;cases e
  |some bo=>
   obtain⟨b',o'⟩:=bo;simp only[mV]at e;obtain⟨e1,e2⟩:=bj e;rw[aop e1];refine qE.bind e2 fun φ aV w hr ha hb hn v hv=> ?_
   simp only[VR]at hv⊢;obtain⟨r,h1,h2⟩:=hv;exact⟨r,hb.trans h1,h2⟩
 |.sl none n c,a,σ,dC,e=>by
  cases a<;>(try simp only[mV]at e)<;>(try(cases e;done))
  rename_i bo n' c';cases bo<;>(try simp only[mV]at e)<;>(try(cases e;done))
  obtain⟨e1,e2⟩:=bj e;cases e2;rw[aop e1];exact qE.id fun _ _ _ _ _ v hv=>by simpa[VR]using hv
 |.sl (some (b,o)) n c,a,σ,dC,e=>by
  cases a<;>(try simp only[mV]at e)<;>(try(cases e;done))
  rename_i bo n' c';cases bo with
  |none=>simp only[mV]at e;cases e
  |some bo=>
   obtain⟨b',o'⟩:=bo;simp only[mV]at e;obtain⟨e1,e2⟩:=bj e;simp only[AAA]at e1;rw[aop e1.1.1,aop e1.1.2,FH e1.2];refine qE.bind e2 fun φ aV w hr ha hb hn v hv=> ?_
   cases c' with
   |kn c'=>
    simp only[VR]at hv⊢;obtain⟨r,h1,h2⟩:=hv;exact⟨r,hb.trans h1,h2⟩
   |un s=>
    simp only[VR]at hv⊢;obtain⟨r,cap,h1,h2,h3,h4⟩:=hv;exact⟨r,cap,hb.trans h1,h2,by rw[hn];exact h3,h4⟩
 |.sr b x k sz,a,σ,dC,e=>by
  cases a<;>(try simp only[mV]at e)<;>(try(cases e;done))
  ·rename_i b' x' k' sz'
   split at e
   ·rename_i z hz
    obtain⟨e1,e2⟩:=bj e;simp only[AAA]at e1;have c1:=aop e1.1.1;have c2:=aop e1.1.2;have c3:=aop e1.2;subst c1;subst c2;subst c3;refine qE.bind e2 fun φ aV w hr ha hb hn v hv=> ?_
    simp only[VR]at hv⊢;obtain⟨r,n,cap,h1,h2,h3,h4,h5,h6⟩:=hv;have hw:aV.w x=φ.w z:=ha.ws _ _ hz;exact⟨r,n,cap,hb.trans h1,h2,by rw[hw];exact h3,h4,by rw[hn];exact h5,h6⟩
   ·rename_i c hc
    obtain⟨e1,e2⟩:=bj e;simp only[AAA]at e1;have c1:=aop e1.1.1;have c2:=aop e1.1.2;subst c1;subst c2;obtain⟨l,el,hg,hlen⟩:=Qz e1.2;refine qE.bind e2 fun φ aV w hr ha hb hn v hv=> ?_
    simp only[VR]at hv⊢;obtain⟨r,n,cap,h1,h2,h3,h4,h5,h6⟩:=hv;obtain⟨cs,vs,k1,k2,k3,k4,k5⟩:=hr.rowAt h1 hg;have hw:aV.w x=cs.toList.take ((φ.w x').length+l.length):=(ha.wf _ _ hc r cs _ h1 k1).1 _ _ _ hg;have hlw:(aV.w x).length=(φ.w x').length+l.length:=by rw[hw];simp;omega
    have hdiv:∃d,l.length=d*sz/\k+d=k':=by
     refine⟨k'-k,?_,?_⟩
     ·rw[Nat.sub_mul];omega
     ·have:k*sz<=k'*sz:=by omega
      have:=arI this h2;omega
    obtain⟨d,iM,mF⟩:=hdiv;refine⟨r,n+d,cap,hb.trans h1,h2,by rw[hlw,<-h3,iM,Nat.add_mul],by omega,by rw[hn];exact h5,?_⟩;rw[h6];congr 1;omega
   ·cases e
  ·rename_i bo n cp
   cases bo with
   |none=>simp only[mV]at e;cases e
   |some bo=>
    obtain⟨b',o'⟩:=bo;simp only[mV]at e;split at e
    ·rename_i c hc
     obtain⟨e1,e2⟩:=bj e;simp only[AAA]at e1;have c1:=aop e1.1.1;have c2:=aop e1.1.2;subst c1;subst c2;obtain⟨l,el,g,hg,hlen,ed,ic⟩:=NL e1.2;refine qE.bind e2 fun φ aV w hr ha hb hn v hv=> ?_
     have hdiv:∃d,l.length=d*sz/\k+d=n:=by
      refine⟨n-k,?_,?_⟩
      ·rw[Nat.sub_mul];omega
      ·have:k*sz<=n*sz:=by omega
       have:=arI this ed;omega
     obtain⟨d,iM,mF⟩:=hdiv;have fin:∀r cap,φ c=some r->n<=cap->cap*sz=φ.n c->v=.slice (some ⟨r,0,none⟩) n cap->VR aV (.sr b x k sz) v:=fun r cap h1 h2 h3 h4=>by
      obtain⟨ob,o1,o2⟩:=hr.ew c r h1 (by rw[hg];trivial);rw[hg]at o2;obtain⟨cs,rfl,o3,o4,o5,o6⟩:=o2;have hw:aV.w x=cs.toList.take l.length:=(ha.wf _ _ hc r cs _ h1 o1).2 _ _ _ hg;have hlw:(aV.w x).length=l.length:=by rw[hw];simp;omega
      simp only[VR];exact⟨r,d,cap,hb.trans h1,ed,by rw[hlw,iM],by omega,by rw[hn];exact h3,by rw[h4];congr 1;omega⟩
     cases cp with
     |un s=>
      simp only[VR]at hv;obtain⟨r,cap,h1,h2,h3,h4⟩:=hv;have hs:sz=s:=aop ic;exact fin r cap h1 h2 (by rw[hs,<-h3];omega) h4
     |kn cc=>
      simp only[VR]at hv;obtain⟨r,h1,h2,h4⟩:=hv;simp only[Qx,AAA,Bool.not_eq_true']at ic;obtain⟨ob,o1,o2⟩:=hr.ew c r h1 (by rw[hg];trivial);rw[hg]at o2;obtain⟨cs,rfl,o3,o4,o5,o6⟩:=o2;exact fin r cc h1 h2 (by rw[aop ic.2,<-o6,o5 ic.1]) h4
    ·cases e
 |.pr b x y sz off,a,σ,dC,e=>by cases a<;>simp only[mV]at e<;>cases e
 |.es,a,σ,dC,e=>by
  cases a<;>(try simp only[mV]at e)<;>(try(cases e;done))
  cases e;exact qE.id fun _ _ _ _ _ v hv=>by simpa[VR]using hv
 |.m none,a,σ,dC,e=>by
  cases a<;>(try simp only[mV]at e)<;>(try(cases e;done))
  rename_i b;cases b<;>(try simp only[mV]at e)<;>(try(cases e;done))
  cases e;exact qE.id fun _ _ _ _ _ v hv=>by simpa[VR]using hv
 |.m (some b),a,σ,dC,e=>by
  cases a<;>(try simp only[mV]at e)<;>(try(cases e;done))
  rename_i b';cases b' with
  |none=>simp only[mV]at e;cases e
  |some b'=>
   simp only[mV]at e;refine qE.bind e fun φ aV w hr ha hb hn v hv=> ?_
   simp only[VR]at hv⊢;obtain⟨r,h1,h2⟩:=hv;exact⟨r,hb.trans h1,h2⟩
 |.f fn x y,a,σ,dC,e=>by
  cases a<;>(try simp only[mV]at e)<;>(try(cases e;done))
  rename_i fn' x' y';obtain⟨e1,e2⟩:=bj e;rw[aop e1];split at e2
  ·rename_i mP h1
   have m1:=mj tb h x x' σ mP h1;have m2:=mj tb h y y' mP dC e2;refine⟨m1.1.trans m2.1,fun i=>m2.2.1 (m1.2.1 i),fun φ aV w hr ha dm v hv=> ?_⟩;simp only[VR]at hv⊢;obtain⟨f',c',g1,g2,g3⟩:=hv;exact⟨f',c',g1,m1.2.2 φ aV w hr ha (dm.sub m2.1) _ g2,m2.2.2 φ aV w hr ha dm _ g3⟩
  ·cases e2
 |.yl b,a,σ,dC,e=>by
  cases a<;>(try simp only[mV]at e)<;>(try(cases e;done))
  refine qE.bind e fun φ aV w hr ha hb hn v hv=> ?_
  simp only[VR]at hv⊢;obtain⟨r,h1,h2⟩:=hv;exact⟨r,hb.trans h1,h2⟩
 |.o,a,σ,dC,e=>by
  simp only[mV]at e;obtain⟨e1,e2⟩:=bj e;cases e2;exact qE.id fun φ aV w _ _ v hv=>by simp only[VR];exact mG hv e1
 |.nf,a,σ,dC,e=>by
  cases a<;>(try simp only[mV]at e)<;>(try(cases e;done))
  cases e;exact qE.id fun _ _ _ _ _ v hv=>by simpa[VR]using hv
 |.EZ t x,a,σ,dC,e=>by
  cases a<;>(try simp only[mV]at e)<;>(try(cases e;done))
  rename_i t' x';obtain⟨e1,e2⟩:=bj e;rw[aop e1];have m:=xS tb h x x' σ dC e2;refine⟨m.1,m.2.1,fun φ aV w hr ha dm v hv=> ?_⟩;simp only[VR]at hv⊢;obtain⟨y,g1,g2⟩:=hv;exact⟨y,g1,m.2.2 φ aV w hr ha dm _ g2⟩
 |.ni,a,σ,dC,e=>by
  cases a<;>(try simp only[mV]at e)<;>(try(cases e;done))
  cases e;exact qE.id fun _ _ _ _ _ v hv=>by simpa[VR]using hv
 |.a l,a,σ,dC,e=>by
  cases a<;>(try simp only[mV]at e)<;>(try(cases e;done))
  rename_i l';have m:=mj tb h l l' σ dC e;refine⟨m.1,m.2.1,fun φ aV w hr ha dm v hv=> ?_⟩;simp only[VR]at hv⊢;obtain⟨y,g1,g2⟩:=hv;exact⟨y,g1,m.2.2 φ aV w hr ha dm _ g2⟩
 |.t l,a,σ,dC,e=>by
  cases a<;>(try simp only[mV]at e)<;>(try(cases e;done))
  rename_i l';have m:=mj tb h l l' σ dC e;refine⟨m.1,m.2.1,fun φ aV w hr ha dm v hv=> ?_⟩;simp only[VR]at hv⊢;obtain⟨y,g1,g2⟩:=hv;exact⟨y,g1,m.2.2 φ aV w hr ha dm _ g2⟩
theorem mj(tb:bP)(h:H):∀(p a:List V) (σ dC:Bd),Ib tb h p a σ=some dC->qE tb h σ dC fun φ aV=>∀v,J φ a v->J aV p v
 |[],a,σ,dC,e=>by
  cases a<;>simp only[Ib]at e<;>try(cases e;done)
  cases e;exact qE.id fun _ _ _ _ _ v hv=>by simpa[J]using hv
 |x::xs,a,σ,dC,e=>by
  cases a with
  |nil=>simp only[Ib]at e;cases e
  |cons y ys=>
   simp only[Ib]at e;split at e
   ·rename_i mP h1
    have m1:=xS tb h x y σ mP h1;have m2:=mj tb h xs ys mP dC e;refine⟨m1.1.trans m2.1,fun i=>m2.2.1 (m1.2.1 i),fun φ aV w hr ha dm v hv=> ?_⟩;simp only[J]at hv;obtain⟨u,us,rfl,g1,g2⟩:=hv;exact J.cons (m1.2.2 φ aV w hr ha (dm.sub m2.1) _ g1) (m2.2.2 φ aV w hr ha dm _ g2)
   ·cases e
end
end
variable{B:Nat}{w':World}{fr:Fr}{a:Act}
noncomputable section
def mEs(tb:bP)(h:H):List (V×V×Nat)->List (V×V×Nat)->Bd->Option Bd
 |[],[],σ=>some σ
 |(k,v,n)::xs,(k',v',n')::ys,σ=>
  cond (arC n n')
   (match mV tb h k k' σ with
   |some mP=>
    match mV tb h v v' mP with
    |some QA=>mEs tb h xs ys QA
    |none=>none
   |none=>none) none
 |_,_,_=>none
theorem QB(tb:bP)(h:H):∀(p a:List (V×V×Nat)) (σ dC:Bd),mEs tb h p a σ=some dC->qE tb h σ dC fun φ aV=>∀v,fB φ a v->fB aV p v
 |[],a,σ,dC,e=>by
  cases a with
  |nil=>
   simp only[mEs,arD]at e;subst e;exact qE.id fun _ _ _ _ _ v hv=>by simpa[fB]using hv
  |cons _ _=>simp only[mEs]at e;cases e
 |(k,v,n)::xs,a,σ,dC,e=>by
  cases a with
  |nil=>simp only[mEs]at e;cases e
  |cons y ys=>
   obtain⟨k',v',n'⟩:=y;simp only[mEs]at e;obtain⟨e1,e2⟩:=bj e;have e1:=aop e1;subst e1;split at e2
   ·rename_i mP h1
    split at e2
    ·rename_i QA h2
     have m1:=xS tb h k k' σ mP h1;have m2:=xS tb h v v' mP QA h2;have m3:=QB tb h xs ys QA dC e2;refine⟨(m1.1.trans m2.1).trans m3.1,fun i=>m3.2.1 (m2.2.1 (m1.2.1 i)),fun φ aV w hr ha dm l hl=> ?_⟩;simp only[fB]at hl⊢;obtain⟨en,es,rfl,g1,g2,g3,g4⟩:=hl;exact⟨en,es,rfl,m1.2.2 φ aV w hr ha (dm.sub (m2.1.trans m3.1)) _ g1,m2.2.2 φ aV w hr ha (dm.sub m3.1) _ g2,g3,m3.2.2 φ aV w hr ha dm _ g4⟩
    ·cases e2
   ·cases e2
def O5(tb:bP)(h:H):List (V×Option V)->List (V×Option V)->Bd->Option Bd
 |[],[],σ=>some σ
 |(k,some v)::xs,(k',some v')::ys,σ=>
  match mV tb h k k' σ with
  |some mP=>
   match mV tb h v v' mP with
   |some QA=>O5 tb h xs ys QA
   |none=>none
  |none=>none
 |(k,none)::xs,(k',none)::ys,σ=>
  match mV tb h k k' σ with
  |some mP=>O5 tb h xs ys mP
  |none=>none
 |_,_,_=>none
theorem IX(tb:bP)(h:H)(d:TypeDesc):∀(p a:List (V×Option V)) (σ dC:Bd),O5 tb h p a σ=some dC->qE tb h σ dC fun φ aV=>∀m m',MU φ d m a m'->MU aV d m p m'
 |[],a,σ,dC,e=>by
  cases a with
  |nil=>
   simp only[O5,arD]at e;subst e;exact qE.id fun _ _ _ _ _ m m' hv=>by simpa[MU]using hv
  |cons _ _=>simp only[O5]at e;cases e
 |(k,some v)::xs,a,σ,dC,e=>by
  cases a with
  |nil=>simp only[O5]at e;cases e
  |cons y ys=>
   obtain⟨k',v'⟩:=y;cases v' with
   |none=>simp only[O5]at e;cases e
   |some v'=>
    simp only[O5]at e;split at e
    ·rename_i mP h1
     split at e
     ·rename_i QA h2
      have m1:=xS tb h k k' σ mP h1;have m2:=xS tb h v v' mP QA h2;have m3:=IX tb h d xs ys QA dC e;refine⟨(m1.1.trans m2.1).trans m3.1,fun i=>m3.2.1 (m2.2.1 (m1.2.1 i)),fun φ aV w hr ha dm m m' hl=> ?_⟩;simp only[MU]at hl⊢;obtain⟨kv,vv,g1,g2,g3,g4⟩:=hl;exact⟨kv,vv,m1.2.2 φ aV w hr ha (dm.sub (m2.1.trans m3.1)) _ g1,m2.2.2 φ aV w hr ha (dm.sub m3.1) _ g2,g3,m3.2.2 φ aV w hr ha dm _ _ g4⟩
     ·cases e
    ·cases e
 |(k,none)::xs,a,σ,dC,e=>by
  cases a with
  |nil=>simp only[O5]at e;cases e
  |cons y ys=>
   obtain⟨k',v'⟩:=y;cases v' with
   |some v'=>simp only[O5]at e;cases e
   |none=>
    simp only[O5]at e;split at e
    ·rename_i mP h1
     have m1:=xS tb h k k' σ mP h1;have m3:=IX tb h d xs ys mP dC e;refine⟨m1.1.trans m3.1,fun i=>m3.2.1 (m1.2.1 i),fun φ aV w hr ha dm m m' hl=> ?_⟩;simp only[MU]at hl⊢;obtain⟨kv,g1,g3,g4⟩:=hl;exact⟨kv,m1.2.2 φ aV w hr ha (dm.sub m3.1) _ g1,g3,m3.2.2 φ aV w hr ha dm _ _ g4⟩
    ·cases e
def iB(x c:Nat)(tb:List (Nat×WV)):Bool:=match lk tb x with
 |some (.fold c')=>arC c' c
 |_=>false
def jt(x x':Nat)(tb:List (Nat×WV)):Bool:=match lk tb x with
 |some (.same z)=>arC z x'
 |_=>false
theorem fK{x:Nat}{tb:List (Nat×WV)}(h:iB x c tb=true):lk tb x=some (.fold c):=by
 unfold iB at h;split at h
 ·rename_i c' hc;rw[hc,aop h]
 ·cases h
theorem lT{x:Nat}{tb:List (Nat×WV)}(h:jt x c tb=true):lk tb x=some (.same c):=by
 unfold jt at h;split at h
 ·rename_i c' hc;rw[hc,aop h]
 ·cases h
def mB(tb:bP)(h:H)(c:Nat):aQ->aQ->Bd->Option Bd
 |.cells l e g,.cells l' e' g',σ=>cond (arC e e'&&cond g true (!g')) (Ib tb h l (cond g (l'.take l.length) l') σ) none
 |.rc l e,.cells l' e' _,σ=>cond (arC e e') (Ib tb h l l' σ) none
 |.rc l e,.rc l' e',σ=>cond (arC e e') (Ib tb h l l' σ) none
 |.row x l e,.row x' l' e',σ=>
  cond (arC e e')
   (cond (jt x x' tb.w) (Ib tb h l l' σ)
    (match l with
    |[]=>cond (iB x c tb.w) (some σ) none
    |_=>none)) none
 |.row x [] e,.cells _ e' _,σ=>cond (arC e e'&&iB x c tb.w) (some σ) none
 |.rw x e,.row _ _ e',σ=>cond (arC e e'&&iB x c tb.w) (some σ) none
 |.rw x e,.cells _ e' _,σ=>cond (arC e e'&&iB x c tb.w) (some σ) none
 |.rw x e,.rw x' e',σ=>cond (arC e e'&&jt x x' tb.w) (some σ) none
 |.mp es k,.mp oU k',σ=>cond (arC k k') (mEs tb h es oU σ) none
 |.gS x d kD,.gS x' d' abL,σ=>
  cond (kP d d')
   (cond (jt x x' tb.g) (O5 tb h kD abL σ)
    (match kD with
    |[]=>cond (iB x c tb.g) (some σ) none
    |_=>none)) none
 |.gS x _ [],.mp [] _,σ=>cond (iB x c tb.g) (some σ) none
 |.rm x d,.gS _ d' _,σ=>cond (kP d d'&&iB x c tb.g) (some σ) none
 |.rm x d,.rm x' d',σ=>cond (kP d d'&&jt x x' tb.g) (some σ) none
 |_,_,_=>none
def BOK(tb:bP)(h:H)(c:Nat)(p a:aQ)(σ dC:Bd):Prop:=zQ σ dC/\(DH σ->DH dC)/\(p.mut->a.mut)/\a.live/\∀(φ aV:Ren) (w:World),HR φ h w->Agree tb φ h w aV.y->Rel φ aV dC->∀r o N,φ c=some r->w.heap[r]? =some o->BR φ N a o->BR aV N p o
theorem ud{c:Array Value}{n:Nat}(h:n<=c.size):c.toList.take ((c.toList.take n).length+0)=c.toList.take n++[]:=by
 have e:(c.toList.take n).length=n:=by simp;omega
 rw[e,arL,arG]
theorem ah9(tb:bP)(h:H)(c:Nat)(p a:aQ)(σ dC:Bd)(hg:h.get c=a)(e:mB tb h c p a σ=some dC):BOK tb h c p a σ dC:=by
 have qF:∀{l l':List V} {σ dC:Bd},Ib tb h l l' σ=some dC->∀(φ aV:Ren) (w:World),HR φ h w->Agree tb φ h w aV.y->Rel φ aV dC->∀(cs:Array Value),J φ l' (cs.toList.take l'.length)->l'.length<=cs.size->
   J aV l (cs.toList.take l.length)/\l.length=l'.length:=fun{l l' σ dC} hm φ aV w hr ha dm cs hv hle=>by
  have m:=(mj tb h l l' σ dC hm).2.2 φ aV w hr ha dm _ hv;have hl:=m.length;have:(cs.toList.take l'.length).length=l'.length:=by simp;omega
  rw[this]at hl;exact⟨by rw[<-hl];exact m,hl.symm⟩
 unfold mB at e;split at e
 ·rename_i l ety g l' e' g'
  obtain⟨e1,e2⟩:=bj e;simp only[AAA]at e1;have c1:=aop e1.1;subst c1;have m:=mj tb h l _ σ dC e2;refine⟨m.1,m.2.1,fun _=>trivial,agm,fun φ aV w hr ha dm r o N hc ho hb=> ?_⟩;obtain⟨cs,rfl,h2,h3,h4,h5⟩:=hb;cases g with
  |false=>
   have O3:Ib tb h l l' σ=some dC:=e2;obtain⟨g1,g2⟩:=qF O3 φ aV w hr ha dm cs h2 h3;refine⟨cs,rfl,g1,by omega,fun hgf=> ?_,h5⟩;rw[g2];refine h4 ?_;simpa using e1.2
  |true=>
   have O3:Ib tb h l (l'.take l.length) σ=some dC:=e2;have FX:J φ (l'.take l.length) (cs.toList.take (l'.take l.length).length):=by
    have:=J.take l.length h2;rwa[List.take_take,show min l.length l'.length=(l'.take l.length).length by simp]at this
   obtain⟨g1,g2⟩:=qF O3 φ aV w hr ha dm cs FX (by simp;omega);have:(l'.take l.length).length<=l'.length:=by rw[List.length_take];omega
   exact⟨cs,rfl,g1,by omega,fun hgf=>(by cases hgf),h5⟩
 ·rename_i l ety l' e' g'
  obtain⟨e1,e2⟩:=bj e;have c1:=aop e1;subst c1;have m:=mj tb h l l' σ dC e2;refine⟨m.1,m.2.1,fun _=>trivial,agm,fun φ aV w hr ha dm r o N hc ho hb=> ?_⟩;obtain⟨cs,rfl,h2,h3,h4,h5⟩:=hb;obtain⟨g1,g2⟩:=qF e2 φ aV w hr ha dm cs h2 h3;exact⟨cs,rfl,g1,by omega,h5⟩
 ·rename_i l ety l' e'
  obtain⟨e1,e2⟩:=bj e;have c1:=aop e1;subst c1;have m:=mj tb h l l' σ dC e2;refine⟨m.1,m.2.1,fun hm=>hm,agm,fun φ aV w hr ha dm r o N hc ho hb=> ?_⟩;obtain⟨cs,rfl,h2,h3,h5⟩:=hb;obtain⟨g1,g2⟩:=qF e2 φ aV w hr ha dm cs h2 h3;exact⟨cs,rfl,g1,by omega,h5⟩
 ·rename_i x l ety x' l' e'
  obtain⟨e1,e2⟩:=bj e;have c1:=aop e1;subst c1;cases hs:jt x x' tb.w with
  |true=>
   rw[hs]at e2;simp only[cond]at e2;have m:=mj tb h l l' σ dC e2;refine⟨m.1,m.2.1,fun _=>trivial,agm,fun φ aV w hr ha dm r o N hc ho hb=> ?_⟩;obtain⟨cs,vs,rfl,h2,h3,h4,h5⟩:=hb;have hw:aV.w x=φ.w x':=ha.ws _ _ (lT hs);have g:=m.2.2 φ aV w hr ha dm _ h2;have hl:l.length=l'.length:=by rw[<-g.length,<-h2.length]
   exact⟨cs,vs,rfl,g,by rw[hw,hl];exact h3,by rw[hw,hl];exact h4,h5⟩
  |false=>
   rw[hs]at e2;simp only[cond]at e2;split at e2
   ·obtain⟨e3,e4⟩:=bj e2
    cases e4;refine⟨zQ.refl _,fun i=>i,fun _=>trivial,agm,fun φ aV w hr ha dm r o N hc ho hb=> ?_⟩;obtain⟨cs,vs,rfl,h2,h3,h4,h5⟩:=hb;have hw:aV.w x=cs.toList.take ((φ.w x').length+l'.length):=(ha.wf _ _ (fK e3) r cs _ hc ho).1 _ _ _ hg;refine⟨cs,[],rfl,J.nil,?_,?_,h5⟩
    ·rw[hw];exact ud h4
    ·rw[hw];simp;omega
   ·cases e2
 ·rename_i x ety l' e' g'
  obtain⟨e1,e2⟩:=bj e;simp only[AAA]at e1;have c1:=aop e1.1;subst c1;cases e2;refine⟨zQ.refl _,fun i=>i,fun _=>trivial,agm,fun φ aV w hr ha dm r o N hc ho hb=> ?_⟩;obtain⟨cs,rfl,h2,h3,h4,h5⟩:=hb;have hw:aV.w x=cs.toList.take l'.length:=(ha.wf _ _ (fK e1.2) r cs _ hc ho).2 _ _ _ hg;refine⟨cs,[],rfl,J.nil,?_,?_,h5⟩
  ·rw[hw];exact ud h3
  ·rw[hw];simp;omega
 ·rename_i x ety x' l' e'
  obtain⟨e1,e2⟩:=bj e;simp only[AAA]at e1;have c1:=aop e1.1;subst c1;cases e2;refine⟨zQ.refl _,fun i=>i,fun _=>trivial,agm,fun φ aV w hr ha dm r o N hc ho hb=> ?_⟩;obtain⟨cs,vs,rfl,h2,h3,h4,h5⟩:=hb;have hw:aV.w x=cs.toList.take ((φ.w x').length+l'.length):=(ha.wf _ _ (fK e1.2) r cs _ hc ho).1 _ _ _ hg;refine⟨cs,rfl,?_,?_,h5⟩
  ·rw[hw];have:=ud h4;rwa[arL,arG]at this
  ·rw[hw];simp;omega
 ·rename_i x ety l' e' g'
  obtain⟨e1,e2⟩:=bj e;simp only[AAA]at e1;have c1:=aop e1.1;subst c1;cases e2;refine⟨zQ.refl _,fun i=>i,fun _=>trivial,agm,fun φ aV w hr ha dm r o N hc ho hb=> ?_⟩;obtain⟨cs,rfl,h2,h3,h4,h5⟩:=hb;have hw:aV.w x=cs.toList.take l'.length:=(ha.wf _ _ (fK e1.2) r cs _ hc ho).2 _ _ _ hg;refine⟨cs,rfl,?_,?_,h5⟩
  ·rw[hw];have:=ud h3;rwa[arL,arG]at this
  ·rw[hw];simp;omega
 ·rename_i x ety x' e'
  obtain⟨e1,e2⟩:=bj e;simp only[AAA]at e1;have c1:=aop e1.1;subst c1;cases e2;refine⟨zQ.refl _,fun i=>i,fun hm=>hm,agm,fun φ aV w hr ha dm r o N hc ho hb=> ?_⟩;obtain⟨cs,rfl,h2,h3,h5⟩:=hb;have hw:aV.w x=φ.w x':=ha.ws _ _ (lT e1.2);exact⟨cs,rfl,by rw[hw];exact h2,by rw[hw];exact h3,h5⟩
 ·rename_i es k oU k'
  obtain⟨e1,e2⟩:=bj e;have c1:=aop e1;subst c1;have m:=QB tb h es oU σ dC e2;refine⟨m.1,m.2.1,fun _=>trivial,agm,fun φ aV w hr ha dm r o N hc ho hb=> ?_⟩;obtain⟨el,rfl,h2⟩:=hb;exact⟨el,rfl,m.2.2 φ aV w hr ha dm _ h2⟩
 ·rename_i x d kD x' d' abL
  obtain⟨e1,e2⟩:=bj e;have c1:=ko e1;subst c1;cases hs:jt x x' tb.g with
  |true=>
   rw[hs]at e2;simp only[cond]at e2;have m:=IX tb h d kD abL σ dC e2;refine⟨m.1,m.2.1,fun _=>trivial,agm,fun φ aV w hr ha dm r o N hc ho hb=> ?_⟩;obtain⟨es,n,rfl,h2,h3⟩:=hb;have hw:aV.g x=φ.g x':=ha.gs _ _ (lT hs);exact⟨es,n,rfl,by rw[hw];exact m.2.2 φ aV w hr ha dm _ _ h2,h3⟩
  |false=>
   rw[hs]at e2;simp only[cond]at e2;split at e2
   ·obtain⟨e3,e4⟩:=bj e2
    cases e4;refine⟨zQ.refl _,fun i=>i,fun _=>trivial,agm,fun φ aV w hr ha dm r o N hc ho hb=> ?_⟩;obtain⟨es,n,rfl,h2,h3⟩:=hb;have hw:aV.g x=(es,n):=ha.gf _ _ (fK e3) r es n hc ho;exact⟨es,n,rfl,by simp only[MU];exact hw.symm,h3⟩
   ·cases e2
 ·rename_i x d k
  obtain⟨e3,e4⟩:=bj e;cases e4;refine⟨zQ.refl _,fun i=>i,fun _=>trivial,agm,fun φ aV w hr ha dm r o N hc ho hb=> ?_⟩;obtain⟨el,rfl,h2⟩:=hb;simp only[fB]at h2;have hw:aV.g x=(el,k):=ha.gf _ _ (fK e3) r el k hc ho;exact⟨el,k,rfl,by simp only[MU];exact hw.symm,by rw[h2];intro e he;cases he⟩
 ·rename_i x d x' d' u
  obtain⟨e1,e2⟩:=bj e;simp only[AAA]at e1;have c1:=ko e1.1;subst c1;cases e2;refine⟨zQ.refl _,fun i=>i,fun hm=>hm.elim,agm,fun φ aV w hr ha dm r o N hc ho hb=> ?_⟩;obtain⟨es,n,rfl,h2,h3⟩:=hb;have hw:aV.g x=(es,n):=ha.gf _ _ (fK e1.2) r es n hc ho;exact⟨es,n,rfl,by simp only[MU];exact hw.symm,h3⟩
 ·rename_i x d x' d'
  obtain⟨e1,e2⟩:=bj e;simp only[AAA]at e1;have c1:=ko e1.1;subst c1;cases e2;refine⟨zQ.refl _,fun i=>i,fun hm=>hm,agm,fun φ aV w hr ha dm r o N hc ho hb=> ?_⟩;obtain⟨es,n,rfl,h2,h3⟩:=hb;have hw:aV.g x=φ.g x':=ha.gs _ _ (lT e1.2);exact⟨es,n,rfl,by rw[hw];simpa only[MU]using h2,h3⟩
 ·cases e
def mBs(tb:bP)(h:H):List (Nat×aQ)->Bd->Option Bd
 |[],σ=>some σ
 |(b,p)::l,σ=>
  match lk σ b with
  |some c=>
   match mB tb h c p (h.get c) σ with
   |some mP=>mBs tb h l mP
   |none=>none
  |none=>none
theorem IY(tb:bP)(h:H):∀(l:List (Nat×aQ)) (σ dC:Bd),mBs tb h l σ=some dC->zQ σ dC/\(DH σ->DH dC)/\∀b p,(b,p)∈l->∃c,lk dC b=some c/\BOK tb h c p (h.get c) σ dC
 |[],σ,dC,e=>by
  simp only[mBs,arD]at e;subst e;exact⟨zQ.refl _,fun i=>i,fun b p hm=>by cases hm⟩
 |(b,p)::l,σ,dC,e=>by
  simp only[mBs]at e;split at e
  ·rename_i c hc
   split at e
   ·rename_i mP h1
    have k1:=ah9 tb h c p _ σ mP rfl h1;obtain⟨g1,g2,g3⟩:=IY tb h l mP dC e;refine⟨k1.1.trans g1,fun i=>g2 (k1.2.1 i),fun b' p' hm=> ?_⟩;rcases arF.1 hm with hm|hm
    ·cases hm
     exact⟨c,g1 _ _ (k1.1 _ _ hc),k1.1.trans g1,fun i=>g2 (k1.2.1 i),k1.2.2.1,k1.2.2.2.1,fun φ aV w hr ha dm=>k1.2.2.2.2 φ aV w hr ha (dm.sub g1)⟩
    ·obtain⟨c',h2,h3⟩:=g3 b' p' hm
     exact⟨c',h2,k1.1.trans h3.1,fun i=>h3.2.1 (k1.2.1 i),h3.2.2⟩
   ·cases e
  ·cases e
def mLs(tb:bP)(h:H)(fr:Fr):List (Nat×V)->Bd->Option Bd
 |[],σ=>some σ
 |(k,p)::l,σ=>
  match mV tb h p (fr.get k) σ with
  |some mP=>mLs tb h fr l mP
  |none=>none
theorem QC(tb:bP)(h:H)(fr:Fr):∀(l:List (Nat×V)) (σ dC:Bd),mLs tb h fr l σ=some dC->qE tb h σ dC fun φ aV=>∀k p,(k,p)∈l->∀v,VR φ (fr.get k) v->VR aV p v
 |[],σ,dC,e=>by
  simp only[mLs,arD]at e;subst e;exact qE.id fun _ _ _ _ _ k p hm=>by cases hm
 |(k,p)::l,σ,dC,e=>by
  simp only[mLs]at e;split at e
  ·rename_i mP h1
   have m1:=xS tb h p _ σ mP h1;have m2:=QC tb h fr l mP dC e;refine⟨m1.1.trans m2.1,fun i=>m2.2.1 (m1.2.1 i),fun φ aV w hr ha dm k' p' hm=> ?_⟩;rcases arF.1 hm with hm|hm
   ·cases hm
    exact m1.2.2 φ aV w hr ha (dm.sub m2.1)
   ·exact m2.2.2 φ aV w hr ha dm k' p' hm
  ·cases e
def DI(n:Nat):Bd->Bool
 |[]=>true
 |(b,_)::σ=>Nat.blt b n&&DI n σ
theorem Cw{n:Nat}:∀{σ:Bd},DI n σ=true->∀b c,lk σ b=some c->b<n
 |[],_,b,c,e=>by cases e
 |(k,d)::σ,h,b,c,e=>by
  simp only[DI,AAA]at h;rw[qD]at e
  by_cases hb:b=k
  ·rw[hb];exact bh.1 h.1
  ·rw[if_neg hb]at e;exact Cw h.2 b c e
def bG(tb:bP)(fr:Fr)(h:H)(nt:Nat)(L:List (Nat×V))(nb:Nat)(HB:List (Nat×aQ)):Option Bd:=cond (arC fr.n nt)
  (match mLs tb h fr L []with
  |some σ=>
   match mBs tb h HB σ with
   |some dC=>cond (DI nb dC) (some dC) none
   |none=>none
  |none=>none) none
structure ad(φ:Ren)(B:Nat)(fr:Fr)(h:H)(a:Act)(w:World):Prop where
 fr:FR φ fr a.tmps
 hr:HR φ h w
 loc:∀b r,φ b=some r->(h.get b).mut->B<=r
 kf:∀r,(∀b,φ b=some r->¬(h.get b).mut)->φ.y.k r=w.heap[r]?
 bz:B<=w.heap.size
structure GB(B:Nat)(w w':World):Prop where
 size:w.heap.size<=w'.heap.size
 same:∀r,r<B->w'.heap[r]? =w.heap[r]?
 os:w'.os=w.os
 tape:w'.tape=w.tape
 output:w'.output=w.output
theorem GB.refl(B:Nat)(w:World):GB B w w:=⟨Nat.le_refl _,fun _ _=>rfl,rfl,rfl,rfl⟩
theorem GB.trans{B:Nat}{w w' w'':World}(h:GB B w w')(h':GB B w' w''):GB B w w'':=⟨arK h.size h'.size,fun r hr=>(h'.same r hr).trans (h.same r hr),h'.os.trans h.os,h'.tape.trans h.tape,h'.output.trans h.output⟩
theorem GB.mono{B':Nat}{w:World}(h:GB B w w')(hb:B'<=B):GB B' w w':=⟨h.size,fun r hr=>h.same r (by omega),h.os,h.tape,h.output⟩
theorem GB.grown{w:World}(h:GB w.heap.size w w'):Grown w w':=⟨h.size,h.same,h.os,h.tape,h.output⟩
theorem Grown.gb{w:World}(h:Grown w w')(hb:B<=w.heap.size):GB B w w':=⟨h.size,fun r hr=>h.same r (by omega),h.os,h.tape,h.output⟩
open Classical in
def ren(φ:Ren)(σ:Bd)(y:Sym)(nb:Nat)(h2:H)(w:World):Ren:=
 {f:=fun b=>(lk σ b).bind φ.f,
  n:=fun b=>match lk σ b with|some c=>φ.n c|none=>0,
  y:={y with k:=fun r=>if∃b,(lk σ b).bind φ.f=some r/\(h2.get b).mut then none else w.heap[r]?},
  m:=nb}
theorem Wb(φ:Ren)(σ:Bd)(y:Sym)(nb:Nat)(h2:H)(w:World):Rel φ (ren φ σ y nb h2 w) σ:=fun b c e=>by
 constructor
 ·show(lk σ b).bind φ.f=φ.f c
  rw[e];rfl
 ·show(match lk σ b with|some c=>φ.n c|none=>0)=φ.n c
  rw[e]
theorem Agree.k{tb:bP}{φ:Ren}{h:H}{w:World}{y:Sym}(ha:Agree tb φ h w y)(k:Nat->Option Obj):Agree tb φ h w {y with k:=k}:=⟨ha.s,ha.q,ha.ws,ha.wf,ha.gs,ha.gf⟩
open Classical in
theorem dM{tb:bP}{fr:Fr}{h:H}{nt:Nat}{L:List (Nat×V)}{nb:Nat}{HB:List (Nat×aQ)}{σ:Bd}(hm:bG tb fr h nt L nb HB=some σ){φ:Ren}{B:Nat}{a:Act}{w:World}(hf:FR φ fr a.tmps)(hr:HR φ h w)
  (hl:∀b r,φ b=some r->(h.get b).mut->B<=r)(hB:B<=w.heap.size)(y:Sym)(ha:Agree tb φ h w y):
  ad (ren φ σ y nb (ak nb HB) w) B (U nt L) (ak nb HB) a w:=by
 unfold bG at hm;obtain⟨e1,e2⟩:=bj hm;split at e2
 ·rename_i mP h1
  split at e2
  ·rename_i QA h2
   obtain⟨e3,e4⟩:=bj e2;cases e4;have m1:=QC tb h fr L [] mP h1;obtain⟨b1,b2,b3⟩:=IY tb h HB mP σ h2;have dm:=Wb φ σ y nb (ak nb HB) w;have Zk:Agree tb φ h w (ren φ σ y nb (ak nb HB) w).y:=ha.k _;have abq:DH σ:=b2 (m1.2.1 (fun b b' c e=>by cases e));have zR:∀b r,ren φ σ y nb (ak nb HB) w b=some r->∃c,lk σ b=some c/\φ c=some r:=fun b r e=>by
    have e:(lk σ b).bind φ.f=some r:=e;cases hc:lk σ b with
    |none=>rw[hc]at e;cases e
    |some c=>rw[hc]at e;exact⟨c,rfl,e⟩
   have hblk:∀b c,lk σ b=some c->((ak nb HB).get b).live->BOK tb h c ((ak nb HB).get b) (h.get c) mP σ:=fun b c hc xG=>by
    rw[aH]at xG⊢;obtain⟨c',h3,h4⟩:=b3 b _ (ke xG);rw[hc]at h3;cases h3;exact h4
   refine⟨⟨?_,fun k=> ?_⟩,⟨rfl,fun b r e=> ?_,fun b r e xG=> ?_,fun b b' r e e' xG abM=> ?_,fun r o hk=> ?_⟩,fun b r e qG=> ?_,fun r hn=> ?_,hB⟩
   ·rw[hf.1];exact aop e1
   ·rw[cA]
    have key:∀(M:List (Nat×V)),(∀k p,(k,p)∈M->(k,p)∈L)->VR (ren φ σ y nb (ak nb HB) w) (BP M k) (a.tmps.getD k undef):=by
     intro M
     induction M with
     |nil=>intro _;simp[BP,VR]
     |cons kp M ih=>
      obtain⟨k',p⟩:=kp;intro hM;simp only[BP]
      by_cases hk:k=k'
      ·rw[if_pos hk]
       subst hk;exact m1.2.2 φ _ w hr Zk (dm.sub b1) k p (hM k p (by simp)) _ (hf.2 k)
      ·rw[if_neg hk];exact ih fun k p hp=>hM k p (arE _ hp)
    exact key L fun _ _ h=>h
   ·obtain⟨c,hc,Zl⟩:=zR b r e
    exact⟨Cw e3 b c hc,(hr.lM c r Zl).2⟩
   ·obtain⟨c,hc,Zl⟩:=zR b r e
    have bk:=hblk b c hc xG;obtain⟨o,h3,h4⟩:=hr.ew c r Zl bk.2.2.2.1;have:=bk.2.2.2.2 φ _ w hr Zk dm r o (φ.n c) Zl h3 h4;exact⟨o,h3,by rw[(dm b c hc).2];exact this⟩
   ·obtain⟨c,hc,Zl⟩:=zR b r e
    obtain⟨c',nK,aos⟩:=zR b' r e';have bk:=hblk b c hc xG;have bk':=hblk b' c' nK abM;have:=hr.inj c c' r Zl aos bk.2.2.2.1 bk'.2.2.2.1;subst this;exact abq b b' c hc nK
   ·have hk:(if∃b,(lk σ b).bind φ.f=some r/\((ak nb HB).get b).mut then none else w.heap[r]?)=some o:=hk
    split at hk
    ·cases hk
    ·rename_i hn
     exact⟨hk,fun b e qG=>hn ⟨b,e,qG⟩⟩
   ·obtain⟨c,hc,Zl⟩:=zR b r e
    exact hl c r Zl ((hblk b c hc qG.live).2.2.1 qG)
   ·show(if∃b,(lk σ b).bind φ.f=some r/\((ak nb HB).get b).mut then none else w.heap[r]?)=w.heap[r]?
    rw[if_neg];rintro⟨b,e,qG⟩;exact hn b e qG
  ·cases e2
 ·cases e2
theorem ad.conv{w:World}(hs:ad φ B fr h a w){tb:bP}{nt:Nat}{L:List (Nat×V)}{nb:Nat}{HB:List (Nat×aQ)}(hm:(bG tb fr h nt L nb HB).isSome=true)(y:Sym)(ha:Agree tb φ h w y):
  ∃af,ad af B (U nt L) (ak nb HB) a w/\af.s=y.s/\af.q=y.q/\af.w=y.w/\af.g=y.g:=by
 cases e:bG tb fr h nt L nb HB with
 |none=>rw[e]at hm;cases hm
 |some σ=>exact⟨_,dM e hs.fr hs.hr hs.loc hs.bz y ha,rfl,rfl,rfl,rfl⟩
def FY:X->X->Bool
 |.n,.n=>true
 |.e i,.e j=>arC i j
 |.r,.r=>true
 |_,_=>false
theorem pL{x y:X}(h:FY x y=true):x=y:=by
 cases x<;>cases y<;>try(cases h;done)
 ·rfl
 ·rw[aop h]
 ·rfl
def fL(tb:bP):Bool:=tb.q.all (fun p=>match p.2 with|.q _=>true|.s _=>true|.b _=>true|.i .. =>true|.y .. =>true|.sl none _ _=>true|_=>false)&&
 tb.w.all (fun p=>match p.2 with|.same _=>true|_=>false)&&tb.g.all (fun p=>match p.2 with|.same _=>true|_=>false)
def runs(E:Env)(k:Nat)(c:Code)(fr:Fr)(h:H)(x:X)(tb:bP)(nt:Nat)(L:List (Nat×V))(nb:Nat)(HB:List (Nat×aQ)):Bool:=fL tb&&
 match exec E k none c fr [] h with
 |some (x',cQ,[],h')=>FY x x'&&(bG tb cQ h' nt L nb HB).isSome
 |_=>false
structure iC(tb:bP)(o y:Sym):Prop where
 s:∀x v,lk tb.s x=some v->y.s x=match v with|.y z=>o.s z|.i n=>n
 q:∀x a,lk tb.q x=some a->VR ⟨fun _=>none,fun _=>0,o,0⟩ a (y.q x)
 w:∀x z,lk tb.w x=some (.same z)->y.w x=o.w z
 g:∀x z,lk tb.g x=some (.same z)->y.g x=o.g z
theorem eU{α:Type}:∀{l:List (Nat×α)} {x:Nat} {v:α},lk l x=some v->(x,v)∈l
 |[],_,_,h=>by cases h
 |(k,u)::l,x,v,h=>by
  rw[qD]at h
  by_cases e:x=k
  ·rw[if_pos e]at h;cases h;rw[e];simp
  ·rw[if_neg e]at h;exact arE _ (eU h)
theorem iC.agree{tb:bP}{o y:Sym}(hp:fL tb=true)(ha:iC tb o y)(hy:φ.y=o)(h:H)(w:World):Agree tb φ h w y:=by
 simp only[fL,AAA,List.all_eq_true]at hp;obtain⟨⟨p1,p2⟩,p3⟩:=hp;subst hy;refine⟨ha.s,fun x a e=> ?_,ha.w,fun x c e=> ?_,ha.g,fun x c e=> ?_⟩
 ·have h1:=ha.q x a e
  have h2:=p1 _ (eU e);cases a<;>simp only at h2<;>try(cases h2;done)
  ·simpa only[VR]using h1
  ·simpa only[VR]using h1
  ·simpa only[VR,Ren.s]using h1
  ·simpa only[VR,Ren.q]using h1
  ·simpa only[VR]using h1
  ·rename_i a n c
   cases a with
   |none=>simpa only[VR]using h1
   |some _=>cases h2
 ·have:=p2 _ (eU e);cases this
 ·have:=p3 _ (eU e);cases this
theorem ad.run{E:Env}(hE:E.OK)(qQ:E.ng=0){k:Nat}{c:Code}{fr:Fr}{h:H}{x:X}{tb:bP}{nt:Nat}{L:List (Nat×V)}{nb:Nat}{HB:List (Nat×aQ)}(hc:runs E k c fr h x tb nt L nb HB=true)
  {φ:Ren}{B:Nat}{a:Act}{w:World}{n:Nat}(hs:ad φ B fr h a w)(bK:BD E φ)(hd:a.defers=[])(y:Sym)(hy:iC tb φ.y y){Q:Exit->Act->World->Prop}
  (hQ:∀af a' w',ad af B (U nt L) (ak nb HB) a' w'->a'.defers=[]->GB B w w'->af.s=y.s->af.q=y.q->af.w=y.w->af.g=y.g->Q x.exit a' w'):c.wpIn (W none) n E.P Q a w:=by
 simp only[runs,AAA]at hc;obtain⟨hp,hc⟩:=hc;split at hc
 ·rename_i x' cQ h' hex
  simp only[AAA]at hc;have hx:=pL hc.1;subst hx;cases e:bG tb cQ h' nt L nb HB with
  |none=>rw[e]at hc;cases hc.2
  |some σ=>
   refine wpIn_mono ((cV hE k).1 none c fr [] h x cQ [] h' hex φ a w none n (by rw[qQ];exact fun g hg=>by omega) bK rfl hs.fr (by rw[hd];rfl) hs.hr) ?_;rintro ex a' w' ⟨af,iD,rfl,wz,cy,cM⟩;have hyy:af.y=φ.y:=iD.le.yy;have F0:∀r,r<B->w'.heap[r]? =w.heap[r]? /\∀b,af b=some r->¬(h'.get b).mut:=fun r hr=>by
    have hk:φ.y.k r=w.heap[r]? :=hs.kf r fun b e qG=>by have:=hs.loc b r e qG;omega
    have bf:r<w.heap.size:=arM hr hs.bz;have ho:w.heap[r]? =some w.heap[r]:=arH bf;have:=cM.kp r w.heap[r] (by rw[hyy,hk,ho]);exact⟨this.1.trans ho.symm,this.2⟩
   have bB:=dM e wz cM (fun b r eb qG=>by
    rcases Nat.lt_or_ge r B with h|h
    ·exact absurd qG ((F0 r h).2 b eb)
    ·exact h) (arK hs.bz iD.size) y (hy.agree hp hyy h' w')
   exact hQ _ a' w' bB (by simpa only[DR]using cy) ⟨iD.size,fun r hr=>(F0 r hr).1,iD.os,iD.tape,iD.output⟩ rfl rfl rfl rfl
 ·cases hc
theorem QD{ro:Option Nat}{n:Nat}{P:Program}{c:Code}{Q:Exit->Act->World->Prop}(N:Nat)(Inv:Nat->Act->World->Prop)
  (step:∀i a w,i<N->Inv i a w->c.wpIn (W ro) n P (fun e a' w'=>e=.normal/\Inv (i+1) a' w') a w)
  (last:∀a w,Inv N a w->c.wpIn (W ro) n P (fun e a' w'=>e≠ .normal/\Q e a' w') a w){a:Act}{w:World}(h0:Inv 0 a w):(Code.loop c).wpIn (W ro) n P Q a w:=by
 have key:∀k i a w,i+k=N->Inv i a w->Code.roundsIn (W ro) n P c Q (k+1) a w:=by
  intro k
  induction k with
  |zero=>
   intro i a w hi hinv;rw[roundsIn_succ];have:i=N:=by omega
   subst this;refine wpIn_mono (last a w hinv) ?_;rintro e a' w' ⟨bU,hq⟩;cases e<;>first|exact absurd rfl bU|exact hq
  |succ k ih=>
   intro i a w hi hinv;rw[roundsIn_succ];refine wpIn_mono (step i a w (by omega) hinv) ?_;rintro e a' w' ⟨rfl,hq⟩;exact ih (i+1) a' w' (by omega) hq
 exact wpIn_loop_rounds (N+1) (key N 0 a w (by omega) h0)
end
variable{nb:Nat}{HB:List (Nat×aQ)}
noncomputable section
structure aU where
 bd:List (Nat×Int×Int):=[]
 bin:List (BinOp×V×V×V):=[]
 mx:List (V×V×V):=[]
 rz:List (Nat×Nat):=[]
 rl:List (Nat×Nat×Nat):=[]
 re:List (Nat×Nat×List V):=[]
 qs:List Nat:=[]
 mg:List (Nat×V×Option V):=[]
 ml:List (Nat×V):=[]
 qc:List (FuncId×List V×V):=[]
def IZ(a b:BinOp):Bool:=decide (a=b)
def Lq:List (BinOp×V×V×V)->BinOp->V->V->Option V
 |[],_,_,_=>none
 |(o,a,b,r)::l,op,x,y=>cond (IZ o op&&same a x&&same b y) (some r) (Lq l op x y)
def Wc:List (V×V×V)->V->V->Option V
 |[],_,_=>none
 |(a,b,r)::l,x,y=>cond (same a x&&same b y) (some r) (Wc l x y)
def Wd:List (Nat×Nat×Nat)->Nat->Nat->Option Nat
 |[],_,_=>none
 |(x',k,y')::l,x,y=>cond (arC x' x&&arC y' y) (some k) (Wd l x y)
def We:List (Nat×Nat×Nat)->Nat->Nat->Option Nat
 |[],_,_=>none
 |(x',k',y)::l,x,k=>cond (arC x' x&&arC k' k) (some y) (We l x k)
def Wf:List (Nat×Nat×List V)->Nat->Nat->Option (List V)
 |[],_,_=>none
 |(x',y',vs)::l,x,y=>cond (arC x' x&&arC y' y) (some vs) (Wf l x y)
def Wg:List Nat->Nat->Bool
 |[],_=>false
 |a::l,x=>cond (arC a x) true (Wg l x)
def Wh:List (Nat×V×Option V)->Nat->V->Option (Option V)
 |[],_,_=>none
 |(x',k',r)::l,x,k=>cond (arC x' x&&same k' k) (some r) (Wh l x k)
def Wi:List (FuncId×List V×V)->FuncId->List V->Option V
 |[],_,_=>none
 |(f',a',r)::l,f,a=>cond (arC f' f&&iV a' a) (some r) (Wi l f a)
def ar(E:Env)(F:aU):Env:=
 {E with
  bd:=lk F.bd,
  bin:=Lq F.bin,
  mx:=Wc F.mx,
  rz:=fun x=>(lk F.rz x).getD 0,
  rx:=Wd F.rl,
  rl:=We F.rl,
  re:=Wf F.re,
  qs:=Wg F.qs,
  mg:=Wh F.mg,
  ml:=lk F.ml,
  qc:=Wi F.qc,
  xt:={}}
theorem Cx:∀{l:List (BinOp×V×V×V)} {op:BinOp} {x y r:V},Lq l op x y=some r->(op,x,y,r)∈l
 |[],_,_,_,_,h=>by cases h
 |(o,a,b,c)::l,op,x,y,r,h=>by
  simp only[Lq]at h;cases hc:IZ o op&&same a x&&same b y with
  |true=>
   rw[hc]at h;simp only[cond,arD]at h;subst h;simp only[AAA,IZ,decide_eq_true_eq]at hc;rw[<-hc.1.1,<-bJ _ _ hc.1.2,<-bJ _ _ hc.2];simp
  |false=>rw[hc]at h;exact arE _ (Cx h)
theorem F1:∀{l:List (V×V×V)} {x y r:V},Wc l x y=some r->(x,y,r)∈l
 |[],_,_,_,h=>by cases h
 |(a,b,c)::l,x,y,r,h=>by
  simp only[Wc]at h;cases hc:same a x&&same b y with
  |true=>
   rw[hc]at h;simp only[cond,arD]at h;subst h;simp only[AAA]at hc;rw[<-bJ _ _ hc.1,<-bJ _ _ hc.2];simp
  |false=>rw[hc]at h;exact arE _ (F1 h)
theorem F2:∀{l:List (Nat×Nat×Nat)} {x y k:Nat},Wd l x y=some k->(x,k,y)∈l
 |[],_,_,_,h=>by cases h
 |(a,b,c)::l,x,y,k,h=>by
  simp only[Wd]at h;cases hc:arC a x&&arC c y with
  |true=>
   rw[hc]at h;simp only[cond,arD]at h;subst h;simp only[AAA]at hc;rw[<-aop hc.1,<-aop hc.2];simp
  |false=>rw[hc]at h;exact arE _ (F2 h)
theorem F3:∀{l:List (Nat×Nat×Nat)} {x k y:Nat},We l x k=some y->(x,k,y)∈l
 |[],_,_,_,h=>by cases h
 |(a,b,c)::l,x,k,y,h=>by
  simp only[We]at h;cases hc:arC a x&&arC b k with
  |true=>
   rw[hc]at h;simp only[cond,arD]at h;subst h;simp only[AAA]at hc;rw[<-aop hc.1,<-aop hc.2];simp
  |false=>rw[hc]at h;exact arE _ (F3 h)
theorem F4:∀{l:List (Nat×Nat×List V)} {x y:Nat} {vs:List V},Wf l x y=some vs->(x,y,vs)∈l
 |[],_,_,_,h=>by cases h
 |(a,b,c)::l,x,y,vs,h=>by
  simp only[Wf]at h;cases hc:arC a x&&arC b y with
  |true=>
   rw[hc]at h;simp only[cond,arD]at h;subst h;simp only[AAA]at hc;rw[<-aop hc.1,<-aop hc.2];simp
  |false=>rw[hc]at h;exact arE _ (F4 h)
theorem F5:∀{l:List Nat} {x:Nat},Wg l x=true->x∈l
 |[],_,h=>by cases h
 |a::l,x,h=>by
  simp only[Wg]at h;cases hc:arC a x with
  |true=>rw[aop hc];simp
  |false=>rw[hc]at h;exact arE _ (F5 h)
theorem F6:∀{l:List (Nat×V×Option V)} {x:Nat} {k:V} {r:Option V},Wh l x k=some r->(x,k,r)∈l
 |[],_,_,_,h=>by cases h
 |(a,b,c)::l,x,k,r,h=>by
  simp only[Wh]at h;cases hc:arC a x&&same b k with
  |true=>
   rw[hc]at h;simp only[cond,arD]at h;subst h;simp only[AAA]at hc;rw[<-aop hc.1,<-bJ _ _ hc.2];simp
  |false=>rw[hc]at h;exact arE _ (F6 h)
theorem F7:∀{l:List (FuncId×List V×V)} {f:FuncId} {a:List V} {r:V},Wi l f a=some r->(f,a,r)∈l
 |[],_,_,_,h=>by cases h
 |(f',b,c)::l,f,a,r,h=>by
  simp only[Wi]at h;cases hc:arC f' f&&iV b a with
  |true=>
   rw[hc]at h;simp only[cond,arD]at h;subst h;simp only[AAA]at hc;rw[<-aop hc.1,<-fS _ _ hc.2];simp
  |false=>rw[hc]at h;exact arE _ (F7 h)
def aR(o:Sym):V->Option (IntKind×Int)
 |.i k n=>some (k,n)
 |.y k x=>some (k,o.s x)
 |_=>none
def gu(o:Sym):V->Option (List UInt8)
 |.s l=>some (l.map UInt8.ofNat)
 |.q x=>
  match o.q x with
  |.string s=>some s.toList
  |_=>none
 |_=>none
theorem dq{x:V}{v:Value}(hx:VR φ x v){k:IntKind}{n:Int}(h:aR φ.y x=some (k,n)):v=.int k n:=by
 cases x<;>simp only[aR]at h<;>try(cases h;done)
 ·simp only[VR]at hx;cases h;exact hx
 ·simp only[VR]at hx;cases h;exact hx
theorem qH{x:V}{k:IntKind}{n:Int}(h:aR φ.y x=some (k,n)):VR φ x (.int k n):=by
 cases x<;>simp only[aR]at h<;>try(cases h;done)
 ·simp only[VR];cases h;rfl
 ·simp only[VR];cases h;rfl
theorem jm{x:V}{v:Value}(hx:VR φ x v){l:List UInt8}(h:gu φ.y x=some l):∃s,v=.string s/\s.toList=l:=by
 cases x<;>simp only[gu]at h<;>try(cases h;done)
 ·simp only[VR]at hx
  split at h
  ·rename_i s hs
   cases h;exact⟨s,hx.1.trans hs,rfl⟩
  ·cases h
 ·simp only[VR]at hx;cases h
  exact⟨_,hx.1,iw _⟩
def QE(o:Sym):V->ByteArray->Prop
 |.s l,s=>s=bytes l
 |.q x,s=>o.q x=.string s
 |_,_=>False
theorem QE.ok{x:V}{s:ByteArray}(h:QE φ.y x s){v:Value}(hv:VR φ x v):v=.string s:=by
 cases x<;>simp only[QE]at h
 ·simp only[VR]at hv;exact hv.1.trans h
 ·simp only[VR]at hv;rw[hv.1,h]
inductive fT(o:Sym):BinOp->V->V->V->Prop
 |lss {a b:V} {k:IntKind} {x y:Int} {t:Bool} (ha:aR o a=some (k,x)) (hb:aR o b=some (k,y)) (h:decide (x<y)=t):fT o .lss a b (.b t)
 |leq {a b:V} {k:IntKind} {x y:Int} {t:Bool} (ha:aR o a=some (k,x)) (hb:aR o b=some (k,y)) (h:decide (x<=y)=t):fT o .leq a b (.b t)
 |gtr {a b:V} {k:IntKind} {x y:Int} {t:Bool} (ha:aR o a=some (k,x)) (hb:aR o b=some (k,y)) (h:decide (y<x)=t):fT o .gtr a b (.b t)
 |geq {a b:V} {k:IntKind} {x y:Int} {t:Bool} (ha:aR o a=some (k,x)) (hb:aR o b=some (k,y)) (h:decide (y<=x)=t):fT o .geq a b (.b t)
 |eql {a b:V} {k:IntKind} {x y:Int} {t:Bool} (ha:aR o a=some (k,x)) (hb:aR o b=some (k,y)) (h:decide (x=y)=t):fT o .eql a b (.b t)
 |neq {a b:V} {k:IntKind} {x y:Int} {t:Bool} (ha:aR o a=some (k,x)) (hb:aR o b=some (k,y)) (h:decide (x≠y)=t):fT o .neq a b (.b t)
 |add {a b r:V} {k:IntKind} {x y:Int} (ha:aR o a=some (k,x)) (hb:aR o b=some (k,y)) (hr:aR o r=some (k,x+y)) (h:cZ k (x+y)=true):fT o .add a b r
 |sub {a b r:V} {k:IntKind} {x y:Int} (ha:aR o a=some (k,x)) (hb:aR o b=some (k,y)) (hr:aR o r=some (k,x-y)) (h:cZ k (x-y)=true):fT o .sub a b r
 |quo {a b r:V} {k:IntKind} {x y:Int} (ha:aR o a=some (k,x)) (hb:aR o b=some (k,y)) (hy:y≠0) (hr:aR o r=some (k,x.tdiv y)) (h:cZ k (x.tdiv y)=true):fT o .quo a b r
 |rem {a b r:V} {k:IntKind} {x y:Int} (ha:aR o a=some (k,x)) (hb:aR o b=some (k,y)) (hy:y≠0) (hr:aR o r=some (k,x.tmod y)) (h:cZ k (x.tmod y)=true):fT o .rem a b r
 |aia {a b:V} {x y:List UInt8} {t:Bool} (ha:gu o a=some x) (hb:gu o b=some y) (h:(Op.bytesLess x y||x==y)=t):fT o .leq a b (.b t)
 |Wj {a b:V} {x y:List UInt8} {t:Bool} (ha:gu o a=some x) (hb:gu o b=some y) (h:Op.bytesLess x y=t):fT o .lss a b (.b t)
 |aib {a b:V} {x y:List UInt8} {t:Bool} (ha:gu o a=some x) (hb:gu o b=some y) (h:(!(Op.bytesLess x y||x==y))=t):fT o .gtr a b (.b t)
 |I0 {a b:V} {x y:List UInt8} {t:Bool} (ha:gu o a=some x) (hb:gu o b=some y) (h:(x==y)=t):fT o .eql a b (.b t)
 |Wk {a b:V} {x y:List UInt8} {t:Bool} (ha:gu o a=some x) (hb:gu o b=some y) (h:(x !=y)=t):fT o .neq a b (.b t)
 |I1 {a b:V} {z:Nat} {s t:ByteArray} (ha:QE o a s) (hb:QE o b t) (hl:s.size+t.size<=1000000) (hr:o.q z=.string (s++t)):fT o .add a b (.q z)
theorem yN{k:IntKind}{n:Int}(h:cZ k n=true):k.wrap n=n:=by
 rw[<-kJ];unfold pt;rw[h];rfl
theorem fT.ok{P:Program}{φ:Ren}{op:BinOp}{a b r:V}(hf:fT φ.y op a b r)(t:TypeId)(ox oy:Operand)(va vb:Value)(w:World)(ha:VR φ a va)(hb:VR φ b vb):
  ∃v,(do eqGuard op t ox oy va vb;binOp op t va vb:Sem Value).run P w=.ok v w/\VR φ r v:=by
 cases hf with
 | @lss _ _ k x y t' h1 h2 h=>rw[dq ha h1,dq hb h2];exact⟨.bool t',by simp[eqGuard_at_int,binOp_lss,h],by simp only[VR]⟩
 | @leq _ _ k x y t' h1 h2 h=>rw[dq ha h1,dq hb h2];exact⟨.bool t',by simp[eqGuard_at_int,binOp_leq,h],by simp only[VR]⟩
 | @gtr _ _ k x y t' h1 h2 h=>rw[dq ha h1,dq hb h2];exact⟨.bool t',by simp[eqGuard_at_int,binOp_gtr,h],by simp only[VR]⟩
 | @geq _ _ k x y t' h1 h2 h=>rw[dq ha h1,dq hb h2];exact⟨.bool t',by simp[eqGuard_at_int,binOp_geq,h],by simp only[VR]⟩
 | @eql _ _ k x y t' h1 h2 h=>
  rw[dq ha h1,dq hb h2];have e:(x==y)=t':=by rw[<-h];rfl
  exact⟨.bool t',by simp[eqGuard_at_int,binOp_eql,e],by simp only[VR]⟩
 | @neq _ _ k x y t' h1 h2 h=>
  rw[dq ha h1,dq hb h2];have e:(x !=y)=t':=by
   rw[<-h]
   by_cases Zb:x=y<;>simp[Zb]
  exact⟨.bool t',by simp[eqGuard_at_int,binOp_neq,e],by simp only[VR]⟩
 | @add _ _ _ k x y h1 h2 h3 h=>rw[dq ha h1,dq hb h2];exact⟨.int k (x+y),by simp[eqGuard_at_int,binOp_add,Op.intArith,yN h],qH h3⟩
 | @sub _ _ _ k x y h1 h2 h3 h=>rw[dq ha h1,dq hb h2];exact⟨.int k (x-y),by simp[eqGuard_at_int,binOp_sub,Op.intArith,yN h],qH h3⟩
 | @quo _ _ _ k x y h1 h2 hy h3 h=>rw[dq ha h1,dq hb h2];exact⟨.int k (x.tdiv y),by simp[eqGuard_at_int,binOp_quo,Op.intDiv,hy,yN h],qH h3⟩
 | @rem _ _ _ k x y h1 h2 hy h3 h=>rw[dq ha h1,dq hb h2];exact⟨.int k (x.tmod y),by simp[eqGuard_at_int,binOp_rem,Op.intDiv,hy,yN h],qH h3⟩
 | @aia _ _ x y t' h1 h2 h=>
  obtain⟨s1,rfl,e1⟩:=jm ha h1;obtain⟨s2,rfl,e2⟩:=jm hb h2;subst e1;subst e2;exact⟨.bool t',by simp[eqGuard_at_string,binOp,Op.stringOp,<-h],by simp only[VR]⟩
 | @Wj _ _ x y t' h1 h2 h=>
  obtain⟨s1,rfl,e1⟩:=jm ha h1;obtain⟨s2,rfl,e2⟩:=jm hb h2;subst e1;subst e2;exact⟨.bool t',by simp[eqGuard_at_string,binOp,Op.stringOp,<-h],by simp only[VR]⟩
 | @aib _ _ x y t' h1 h2 h=>
  obtain⟨s1,rfl,e1⟩:=jm ha h1;obtain⟨s2,rfl,e2⟩:=jm hb h2;subst e1;subst e2;exact⟨.bool t',by simp[eqGuard_at_string,binOp,Op.stringOp,<-h],by simp only[VR]⟩
 | @I0 _ _ x y t' h1 h2 h=>
  obtain⟨s1,rfl,e1⟩:=jm ha h1;obtain⟨s2,rfl,e2⟩:=jm hb h2;subst e1;subst e2;exact⟨.bool t',by simp[eqGuard_at_string,binOp,Op.stringOp,<-h],by simp only[VR]⟩
 | @Wk _ _ x y t' h1 h2 h=>
  obtain⟨s1,rfl,e1⟩:=jm ha h1;obtain⟨s2,rfl,e2⟩:=jm hb h2;subst e1;subst e2;exact⟨.bool t',by simp[eqGuard_at_string,binOp,Op.stringOp,<-h,bne],by simp only[VR]⟩
 | @I1 _ _ z s t' h1 h2 hl hr=>
  rw[h1.ok ha,h2.ok hb];refine⟨.string (s++t'),?_,by simp only[VR];exact⟨hr.symm,rfl⟩⟩;have hn:¬(((s.size+t'.size:Nat):Int)>IntKind.i64.max):=by rw[IntKind.max_i64];omega
  simp only[eqGuard_at_string,binOp,Op.stringOp,pure_bind];rw[if_neg hn];rfl
def cI{α:Type}(p:α->Prop):List α->Prop
 |[]=>True
 |x::xs=>p x/\cI p xs
theorem cI.mem{α:Type}{p:α->Prop}:∀{l:List α},cI p l->∀x∈l,p x
 |[],_,x,hx=>by cases hx
 |y::ys,h,x,hx=>by
  rcases arF.1 hx with rfl|hx
  ·exact h.1
  ·exact h.2.mem x hx
structure aA(P:Program)(F:aU)(φ:Ren):Prop where
 bd:cI (fun e:Nat×Int×Int=>e.2.1<=φ.s e.1/\φ.s e.1<=e.2.2) F.bd
 bin:cI (fun e:BinOp×V×V×V=>fT φ.y e.1 e.2.1 e.2.2.1 e.2.2.2) F.bin
 mx:cI (fun e:V×V×V=>∃k x y,aR φ.y e.1=some (k,x)/\aR φ.y e.2.1=some (k,y)/\aR φ.y e.2.2=some (k,if y>x then y else x)) F.mx
 rl:cI (fun e:Nat×Nat×Nat=>∃n,0<(lk F.rz e.1).getD 0/\n*(lk F.rz e.1).getD 0=(φ.w e.1).length/\φ.s e.2.2=((n+e.2.1:Nat):Int)) F.rl
 re:cI (fun e:Nat×Nat×List V=>0<(lk F.rz e.1).getD 0/\e.2.2.length=(lk F.rz e.1).getD 0/\∃n:Nat,φ.s e.2.1=(n:Int)/\(n+1)*(lk F.rz e.1).getD 0<=(φ.w e.1).length/\J φ e.2.2 (((φ.w e.1).drop (n*(lk F.rz e.1).getD 0)).take ((lk F.rz e.1).getD 0))) F.re
 qs:cI (fun x=>∃s,φ.q x=.string s) F.qs
 mg:cI (fun e:Nat×V×Option V=>(∃kv,VR φ e.2.1 kv/\iY e.2.1=true/\∀d,MapKept.IsKey d kv->(∀x∈(φ.g e.1).1.toList,MapKept.IsKey d x.key)->
  match e.2.2 with
  |none=>Instr.findNow d kv (φ.g e.1).1.toList 0=some none
  |some v=>∃j u,Instr.findNow d kv (φ.g e.1).1.toList 0=some (some (j,u))/\VR φ v u)) F.mg
 ml:cI (fun e:Nat×V=>aR φ.y e.2=some (.i64,(((φ.g e.1).1.size:Nat):Int))) F.ml
 qc:cI (fun e:FuncId×List V×V=>∀af,Le φ af->∀args',J af e.2.1 args'->Quiet P φ.y.k e.1 args' fun u=>VR af e.2.2 u) F.qc
theorem aA.dU{E:Env}{F:aU}(h:aA E.P F φ):BD (ar E F) φ:=by
 intro af hle;have hy:=hle.yy;refine⟨fun x lo hi e=> ?_,fun op a b r e t ox oy va vb w ha hb=> ?_,fun a b r e va vb ha hb=> ?_,fun x y j e=> ?_,fun x k y e=> ?_,fun x y vs e=> ?_,fun x e=> ?_,fun x k r e d kv hk vE Lr=> ?_,fun x v e=> ?_,fun f args v e args' ha=> ?_,zb.none _ _⟩
 ·rw[hle.sy];exact h.bd.mem _ (eU e)
 ·have:=h.bin.mem _ (Cx e)
  rw[<-hy]at this;exact this.ok t ox oy va vb w ha hb
 ·obtain⟨k,x,y,h1,h2,h3⟩:=h.mx.mem _ (F1 e)
  rw[<-hy]at h1 h2 h3;exact⟨k,x,y,dq ha h1,dq hb h2,qH h3⟩
 ·obtain⟨n,h1,h2,h3⟩:=h.rl.mem _ (F2 e)
  exact⟨n,h1,by rw[hle.wy];exact h2,by rw[hle.sy];exact h3⟩
 ·obtain⟨n,h1,h2,h3⟩:=h.rl.mem _ (F3 e)
  exact⟨n,h1,by rw[hle.wy];exact h2,by rw[hle.sy];exact h3⟩
 ·obtain⟨h1,h2,n,h3,h4,h5⟩:=h.re.mem _ (F4 e)
  exact⟨h1,h2,n,by rw[hle.sy];exact h3,by rw[hle.wy];exact h4,by rw[hle.wy];exact J.mono hle _ _ h5⟩
 ·rw[hle.qy];exact h.qs.mem _ (F5 e)
 ·obtain⟨kv',h1,h2,h3⟩:=h.mg.mem _ (F6 e)
  have I2:kv=kv':=uc h2 hk (VR.mono hle _ _ h1);subst I2;rw[hle.gy]at Lr⊢;have:=h3 d vE Lr;cases r with
  |none=>exact this
  |some v=>
   obtain⟨j,u,g1,g2⟩:=this;exact⟨j,u,g1,VR.mono hle _ _ g2⟩
 ·have:=h.ml.mem _ (eU e)
  rw[<-hy]at this;rw[hle.gy];exact qH this
 ·have:=h.qc.mem _ (F7 e) af hle args' ha
  rw[hy];exact this
theorem aq{E:Env}(hE:E.OK)(F:aU):(ar E F).OK:=⟨hE.ty,hE.fn,hE.mixed,hE.hl,hE.qh,hE.eh,hE.xh⟩
theorem dz{P:Program}{f:FuncId}{fn:Func}{c:Code}(lF:P.funcs[f]? =some fn)(hc:fn.body=some c){args:List Value}{w:World}{n:Nat}{R:Ending->World->Prop}
  (h:c.wpIn (W none) n P (fun e a' w'=>(e=.ret\/e=.normal)/\a'.defers=[]/\∃v,(results fn a'.tmps).run P w'=.ok v w'/\R (.returned v) w') {tmps:=args.toArray++Array.replicate (fn.ntmps-args.toArray.size) undef,defers:=[]} w):
  CallsIn (W none) n P f args.toArray w R:=by
 refine callsIn_of_wp_marks lF hc trivial ?_;refine wpIn_mono h ?_;rintro e a' w' ⟨he,hd,v,hv,hR⟩;have key:LeavesInM (W none) n P fn a'.tmps R a'.defers .returning w':=by
  rw[hd];exact⟨v,hv,hR⟩
 rcases he with rfl|rfl
 ·exact key
 ·exact key
theorem ad.leave{E:Env}(hE:E.OK){fn:Func}{w:World}(hs:ad φ B fr h a w){l:List V}(e:tV E fr h fn.results.toList=some l):∃v,(results fn a.tmps).run E.P w=.ok v w/\VR φ (fG l) v:=sB hE hs.fr hs.hr fn e
def rG(e:TypeId):List (Nat×aQ)->Bool
 |[]=>true
 |(_,.cells _ e' _)::l=> !(arC e' e)&&rG e l
 |(_,.rc _ e')::l=> !(arC e' e)&&rG e l
 |(_,.row _ _ e')::l=> !(arC e' e)&&rG e l
 |(_,.rw _ e')::l=> !(arC e' e)&&rG e l
 |_::l=>rG e l
theorem sD{e:TypeId}{φ:Ren}{N:Nat}{c:Array Value}{fz:Nat×Nat}:∀{HB:List (Nat×aQ)},rG e HB=true->∀b p,(b,p)∈HB->p.live->¬BR φ N p (.cells c e fz)
 |[],_,b,p,hm,_,_=>by cases hm
 |(k,q)::l,h,b,p,hm,hl,hb=>by
  rcases arF.1 hm with hm|hm
  ·cases hm
   cases q with
   |gone=>exact hl
   |cells l' e' g=>
    obtain⟨c',h1,_⟩:=hb;cases h1;simp[rG]at h
   |mp es n=>obtain⟨_,h1,_⟩:=hb;cases h1
   |row x l' e'=>
    obtain⟨c',_,h1,_⟩:=hb;cases h1;simp[rG]at h
   |gS x d u=>obtain⟨_,_,h1,_⟩:=hb;cases h1
   |rc l' e'=>
    obtain⟨c',h1,_⟩:=hb;cases h1;simp[rG]at h
   |rw x e'=>
    obtain⟨c',h1,_⟩:=hb;cases h1;simp[rG]at h
   |rm x d=>obtain⟨_,_,h1,_⟩:=hb;cases h1
   |iter s p=>have:=hb.1;cases this
   |loop st pd fr ps arA bd df=>obtain⟨_,_,_,h1,_⟩:=hb;cases h1
   |O0=>cases hb
  ·have h':rG e l=true:=by
    cases q<;>simp only[rG,AAA]at h<;>first|exact h.2|exact h
   exact sD h' b p hm hl hb
theorem HR.abN{w:World}(hr:HR φ (ak nb HB) w){r:Nat}{ob:Obj}{N:Nat}(ho:w.heap[r]? =some ob)(hn:∀b q,(b,q)∈HB->q.live->∀N,¬BR φ N q ob)(p:aQ)(hp:¬p.mut)(hb:BR φ N p ob):
  HR (up φ nb r N) (ak (nb+1) ((nb,p)::HB)) w:=by
 have F8:∀s,φ nb≠some s:=fun s es=>by have:=(hr.lM _ _ es).1;exact absurd this (Nat.lt_irrefl _)
 have hle:Le φ (up φ nb r N):=jr F8;have bf:r<w.heap.size:=(Array.getElem?_eq_some_iff.1 ho).1;have fb:∀b s,up φ nb r N b=some s->(b=nb/\s=r)\/(b≠nb/\φ b=some s):=fun b s es=>by
  simp only[up]at es
  by_cases l8:b=nb
  ·rw[if_pos l8]at es;cases es;exact .inl ⟨l8,rfl⟩
  ·rw[if_neg l8]at es;exact .inr ⟨l8,es⟩
 have dZ:∀b,(ak (nb+1) ((nb,p)::HB)).get b=if b=nb then p else(ak nb HB).get b:=fun b=>by
  rw[aH,aH];rfl
 have BQ:∀b,φ b=some r->¬((ak nb HB).get b).live:=fun b es hl=>by
  obtain⟨o,h1,h2⟩:=hr.ew b r es hl;rw[ho]at h1;cases h1;rw[aH]at h2 hl;exact hn b _ (ke hl) hl _ h2
 refine⟨by show φ.m+1=nb+1;rw[hr.iL];rfl,fun b s es=> ?_,fun b s es hl=> ?_,fun b b' s es oU hl ru=> ?_,fun s o hk=> ?_⟩
 ·rcases fb b s es with⟨rfl,rfl⟩|⟨_,es⟩
  ·exact⟨Nat.lt_succ_self _,bf⟩
  ·have:=hr.lM b s es
   exact⟨Nat.lt_succ_of_lt this.1,this.2⟩
 ·rw[dZ]at hl⊢
  rcases fb b s es with⟨rfl,rfl⟩|⟨bU,es⟩
  ·rw[if_pos rfl]
   refine⟨_,ho,?_⟩;have:(up φ b s N).n b=N:=by simp[up]
   rw[this];exact hb.mono hle
  ·rw[if_neg bU]at hl⊢
   obtain⟨o,h1,h2⟩:=hr.ew b s es hl;exact⟨o,h1,by rw[(hle b s es).2];exact h2.mono hle⟩
 ·rw[dZ]at hl ru
  rcases fb b s es with⟨h1,h2⟩|⟨bU,O6⟩
  ·rcases fb b' s oU with⟨h3,_⟩|⟨yn,es2⟩
   ·rw[h1,h3]
   ·rw[if_neg yn]at ru;exact absurd ru (BQ b' (h2▸es2))
  ·rcases fb b' s oU with⟨h3,h4⟩|⟨yn,es2⟩
   ·rw[if_neg bU]at hl;exact absurd hl (BQ b (h4▸O6))
   ·rw[if_neg bU]at hl;rw[if_neg yn]at ru
    exact hr.inj b b' s O6 es2 hl ru
 ·have:=hr.kp s o hk
  refine⟨this.1,fun b es=> ?_⟩;rw[dZ];rcases fb b s es with⟨h1,_⟩|⟨bU,es⟩
  ·rw[if_pos h1];exact hp
  ·rw[if_neg bU];exact this.2 b es
theorem HR.add{φ:Ren}{nb:Nat}{HB:List (Nat×aQ)}{w:World}(hr:HR φ (ak nb HB) w){r:Nat}{c:Array Value}{e:TypeId}(ho:w.heap[r]? =some (.cells c e (0,0)))(hn:rG e HB=true)(p:aQ)(hp:¬p.mut)(hb:BR φ c.size p (.cells c e (0,0))):
  HR (up φ nb r c.size) (ak (nb+1) ((nb,p)::HB)) w:=hr.abN ho (fun b q hm hl N=>sD hn b q hm hl) p hp hb
def φ0(y:Sym)(w:World):Ren:={f:=fun _=>none,n:=fun _=>0,y:={y with k:=fun r=>w.heap[r]?},m:=0}
theorem bc(y:Sym)(w:World):HR (φ0 y w) (ak 0 []) w:=⟨rfl,(fun _ _ e=>(by cases e)),(fun _ _ e=>(by cases e)),(fun _ _ _ e=>(by cases e)),fun r o hk=>⟨hk,(fun _ e=>(by cases e))⟩⟩
def ue:List (Nat×aQ)->Bool
 |[]=>true
 |(_,.gone)::l=>ue l
 |(_,.rc ..)::l=>ue l
 |(_,.rw ..)::l=>ue l
 |(_,.rm ..)::l=>ue l
 |_=>false
theorem F9:∀{HB:List (Nat×aQ)},ue HB=true->∀b,¬(mO HB b).mut
 |[],_,b=>fun h=>h
 |(k,q)::l,h,b=>by
  simp only[mO]
  by_cases hb:b=k
  ·rw[if_pos hb]
   cases q<;>first|exact fun h=>h|(simp[ue]at h;done)
  ·rw[if_neg hb]
   refine F9 ?_ b;cases q<;>first|exact h|(simp[ue]at h;done)
theorem ad.enter{w:World}(hr:HR φ (ak nb HB) w)(vG:ue HB=true)(hk:φ.y.k=fun r=>w.heap[r]?){vs:List V}{args:List Value}(ha:J φ vs args){nt:Nat}(hn:vs.length<=nt):
  ad φ w.heap.size ⟨nt,load vs 0 .leaf⟩ (ak nb HB) {tmps:=args.toArray++Array.replicate (nt-args.toArray.size) undef,defers:=[]} w:=
 ⟨DE ha nt hn,hr,fun b r _ hm=>absurd hm (by rw[aH];exact F9 vG b),fun r _=>by rw[hk],Nat.le_refl _⟩
end
noncomputable section
def ct:Code->List Code
 |.seq a b=>ct a++ct b
 |c=>[c]
def aC(ro:Option Nat)(n:Nat)(P:Program)(Q:Exit->Act->World->Prop):List Code->Act->World->Prop
 |[],a,w=>Q .normal a w
 |c::cs,a,w=>c.wpIn (W ro) n P (Exit.then (aC ro n P Q cs) Q) a w
theorem qI{ro:Option Nat}{n:Nat}{P:Program}{Q Q':Exit->Act->World->Prop}(hq:∀e a w,Q e a w->Q' e a w):∀(l:List Code) (a:Act) (w:World),aC ro n P Q l a w->aC ro n P Q' l a w
 |[],a,w,h=>hq _ _ _ h
 |c::cs,a,w,h=>wpIn_mono h fun e a' w' he=>by
  cases e with
  |normal=>exact qI hq cs a' w' he
  |_=>exact hq _ _ _ he
theorem xT{ro:Option Nat}{n:Nat}{P:Program}{Q:Exit->Act->World->Prop}:∀(l l':List Code) (a:Act) (w:World),aC ro n P Q (l++l') a w->aC ro n P (Exit.then (aC ro n P Q l') Q) l a w
 |[],l',a,w,h=>h
 |c::cs,l',a,w,h=>by
  refine wpIn_mono h fun e a' w' he=> ?_
  cases e with
  |normal=>exact xT cs l' a' w' he
  |_=>exact he
theorem bp{ro:Option Nat}{n:Nat}{P:Program}:∀(c:Code) {Q:Exit->Act->World->Prop} {a:Act} {w:World},aC ro n P Q (ct c) a w->c.wpIn (W ro) n P Q a w:=by
 intro c;have one:∀(c:Code) {Q:Exit->Act->World->Prop} {a:Act} {w:World},aC ro n P Q [c] a w->c.wpIn (W ro) n P Q a w:=fun c Q a w h=>by
  refine wpIn_mono h fun e a' w' he=> ?_
  cases e with
  |normal=>exact he
  |_=>exact he
 induction c with
 |seq x y ihx ihy=>
  intro Q a w h;refine wpIn_seq (ihx (qI (fun e a w he=> ?_) _ _ _ (xT _ _ _ _ h)));cases e with
  |normal=>exact ihy he
  |_=>exact he
 |_=>intro Q a w h;exact one _ h
def rH(E:Env)(k:Nat):List Code->Fr->H->Option (X×Fr×H)
 |[],fr,h=>some (.n,fr,h)
 |c::cs,fr,h=>
  match exec E k none c fr [] h with
  |some (.n,cQ,[],h')=>rH E k cs cQ h'
  |some (x,cQ,[],h')=>some (x,cQ,h')
  |_=>none
theorem k9{E:Env}{D:List Deferred}(hE:E.OK){k:Nat}{n:Nat}{Q:Exit->Act->World->Prop}(rest:List Code):∀(cs:List Code) (fr:Fr) (h:H) (x:X) (cQ:Fr) (h':H),rH E k cs fr h=some (x,cQ,h')->
  ∀(φ:Ren) (a:Act) (w:World),GL E.ng φ->BD E φ->FR φ fr a.tmps->a.defers=D->HR φ h w->
  (∀af a' w',Ext φ w af w'->FR af cQ a'.tmps->a'.defers=D->HR af h' w'->Exit.then (aC none n E.P Q rest) Q x.exit a' w')->aC none n E.P Q (cs++rest) a w
 |[],fr,h,x,cQ,h',e,φ,a,w,hg,bK,hf,hd,hr,hQ=>by
  simp only[rH,arD,Prod.mk.injEq]at e;obtain⟨rfl,rfl,rfl⟩:=e;exact hQ φ a w (Ext.refl φ w) hf hd hr
 |c::cs,fr,h,x,cQ,h',e,φ,a,w,hg,bK,hf,hd,hr,hQ=>by
  simp only[rH]at e;split at e
  ·rename_i tC h1 hex
   refine wpIn_mono ((cV hE k).1 none c fr [] h .n tC [] h1 hex φ a w none n hg bK rfl hf (by rw[hd];rfl) hr) ?_;rintro ex a1 w1 ⟨ay,oX,rfl,vH,iM,lH⟩;exact k9 hE rest cs tC h1 x cQ h' e ay a1 w1 (hg.mono oX.le) (bK.mono oX.le) vH (by simpa only[DR]using iM) lH fun af a' w' hx wz cy cM=>hQ af a' w' (oX.trans hx) wz cy cM
  ·rename_i x1 tC h1 bU hex
   simp only[arD,Prod.mk.injEq]at e;obtain⟨rfl,rfl,rfl⟩:=e;refine wpIn_mono ((cV hE k).1 none c fr [] h x1 tC [] h1 hex φ a w none n hg bK rfl hf (by rw[hd];rfl) hr) ?_;rintro ex a1 w1 ⟨ay,oX,rfl,vH,iM,lH⟩;have:=hQ ay a1 w1 oX vH (by simpa only[DR]using iM) lH;cases x1 with
   |n=>exact(bU rfl).elim
   |e id=>exact this
   |r=>exact this
  ·cases e
def av(E:Env)(k:Nat)(cs:List Code)(fr:Fr)(h:H)(x:X)(tb:bP)(nt:Nat)(L:List (Nat×V))(nb:Nat)(HB:List (Nat×aQ)):Bool:=fL tb&&
 match rH E k cs fr h with
 |some (x',cQ,h')=>FY x x'&&(bG tb cQ h' nt L nb HB).isSome
 |none=>false
theorem ad.after{w:World}(hs:ad φ B fr h a w){af:Ren}{h':H}(iD:Ext φ w af w')(cM:HR af h' w'):
  GB B w w'/\∀b r,af b=some r->(h'.get b).mut->B<=r:=by
 have hyy:af.y=φ.y:=iD.le.yy;have F0:∀r,r<B->w'.heap[r]? =w.heap[r]? /\∀b,af b=some r->¬(h'.get b).mut:=fun r hr=>by
  have hk:φ.y.k r=w.heap[r]? :=hs.kf r fun b e qG=>by have:=hs.loc b r e qG;omega
  have bf:r<w.heap.size:=arM hr hs.bz;have ho:w.heap[r]? =some w.heap[r]:=arH bf;have:=cM.kp r w.heap[r] (by rw[hyy,hk,ho]);exact⟨this.1.trans ho.symm,this.2⟩
 refine⟨⟨iD.size,fun r hr=>(F0 r hr).1,iD.os,iD.tape,iD.output⟩,fun b r eb qG=> ?_⟩;rcases Nat.lt_or_ge r B with h|h
 ·exact absurd qG ((F0 r h).2 b eb)
 ·exact h
def lI:List (Nat×aQ)->List (Nat×aQ)
 |[]=>[]
 |(_,.rc ..)::l=>lI l
 |(_,.rw ..)::l=>lI l
 |(_,.rm ..)::l=>lI l
 |x::l=>x::lI l
theorem pM:∀{HB:List (Nat×aQ)} {b:Nat} {p:aQ},(b,p)∈HB->p.mut->(b,p)∈lI HB
 |(k,q)::l,b,p,h,hm=>by
  rcases arF.1 h with e|h
  ·cases e
   cases q<;>first|exact hm.elim|exact List.mem_cons_self
  ·have ih:=pM h hm
   cases q<;>first|exact ih|exact arE _ ih
def NM:List (Nat×aQ)->Bool
 |[]=>true
 |(_,.mp ..)::_=>false
 |(_,.gS ..)::_=>false
 |(_,.rm ..)::_=>false
 |_::l=>NM l
theorem DJ{φ:Ren}{N:Nat}{es:Array MapEntry}{n:Nat}:∀{HB:List (Nat×aQ)},NM HB=true->∀b p,(b,p)∈HB->p.live->¬BR φ N p (.map es n)
 |(k,q)::l,h,b,p,hm,hl,hb=>by
  rcases arF.1 hm with e|hm
  ·cases e
   cases q with
   |gone=>exact hl
   |cells=>obtain⟨c,e,_⟩:=hb;cases e
   |rc=>obtain⟨c,e,_⟩:=hb;cases e
   |rw=>obtain⟨c,e,_⟩:=hb;cases e
   |row=>obtain⟨c,vs,e,_⟩:=hb;cases e
   |mp=>cases h
   |gS=>cases h
   |rm=>cases h
   |iter=>cases hb.1
   |loop=>obtain⟨_,_,_,e,_⟩:=hb;cases e
   |O0=>cases hb
  ·refine DJ (HB:=l) ?_ b p hm hl hb
   cases q<;>first|exact h|cases h
theorem Ls{N:Nat}{mb:Option Nat}{s l:Nat}{se:Array Nat}{p:aQ}(hl:p.live):¬BR φ N p (.mapIter mb s se l):=fun hb=>by
 cases p with
 |gone=>exact hl
 |cells=>obtain⟨c,e,_⟩:=hb;cases e
 |rc=>obtain⟨c,e,_⟩:=hb;cases e
 |rw=>obtain⟨c,e,_⟩:=hb;cases e
 |row=>obtain⟨c,vs,e,_⟩:=hb;cases e
 |mp=>obtain⟨c,e,_⟩:=hb;cases e
 |gS=>obtain⟨c,d,e,_⟩:=hb;cases e
 |rm=>obtain⟨c,d,e,_⟩:=hb;cases e
 |iter=>cases hb.1
 |loop=>obtain⟨_,_,_,e,_⟩:=hb;cases e
 |O0=>cases hb
structure zS(HB:List (Nat×aQ))(w w':World):Prop where
 c:∀(r:Nat) (c:Array Value) (T:TypeId),rG T (lI HB)=true->w.heap[r]? =some (.cells c T (0,0))->w'.heap[r]? =some (.cells c T (0,0))
 m:NM (lI HB)=true->∀(r:Nat) (es:Array MapEntry) (n:Nat),w.heap[r]? =some (.map es n)->w'.heap[r]? =some (.map es n)
 i:∀(r:Nat) (mb:Option Nat) (s:Nat) (se:Array Nat) (l:Nat),w.heap[r]? =some (.mapIter mb s se l)->w'.heap[r]? =some (.mapIter mb s se l)
theorem ad.kT{w:World}(hs:ad φ B fr (ak nb HB) a w){r:Nat}{c:Array Value}{T:TypeId}(hn:rG T (lI HB)=true)(ho:w.heap[r]? =some (.cells c T (0,0))):φ.y.k r=some (.cells c T (0,0)):=by
 rw[hs.kf r fun b e qG=> ?_,ho];obtain⟨o,h1,h2⟩:=hs.hr.ew b r e qG.live;rw[ho]at h1;cases h1;rw[aH]at h2 qG;exact sD hn b _ (pM (ke qG.live) qG) qG.live h2
theorem ad.kM{w:World}(hs:ad φ B fr (ak nb HB) a w){r:Nat}{es:Array MapEntry}{n:Nat}(hn:NM (lI HB)=true)(ho:w.heap[r]? =some (.map es n)):φ.y.k r=some (.map es n):=by
 rw[hs.kf r fun b e qG=> ?_,ho];obtain⟨o,h1,h2⟩:=hs.hr.ew b r e qG.live;rw[ho]at h1;cases h1;rw[aH]at h2 qG;exact DJ hn b _ (pM (ke qG.live) qG) qG.live h2
theorem ad.kI{w:World}(hs:ad φ B fr h a w){r:Nat}{mb:Option Nat}{s l:Nat}{se:Array Nat}(ho:w.heap[r]? =some (.mapIter mb s se l)):φ.y.k r=some (.mapIter mb s se l):=by
 rw[hs.kf r fun b e qG=> ?_,ho];obtain⟨o,h1,h2⟩:=hs.hr.ew b r e qG.live;rw[ho]at h1;cases h1;exact Ls qG.live h2
theorem ad.kB{w:World}(hs:ad φ B fr h a w){r:Nat}(hr:r<B):φ.y.k r=w.heap[r]? :=hs.kf r fun b e qG=>by have:=hs.loc b r e qG;omega
theorem ad.Lt{w:World}(hs:ad φ B fr (ak nb HB) a w){af:Ren}{h':H}(iD:Ext φ w af w')(cM:HR af h' w'):zS HB w w':=⟨fun r c T hn ho=>(cM.kp r _ (by rw[iD.le.yy,hs.kT hn ho])).1,fun hn r es n ho=>(cM.kp r _ (by rw[iD.le.yy,hs.kM hn ho])).1,fun r mb s se l ho=>(cM.kp r _ (by rw[iD.le.yy,hs.kI ho])).1⟩
theorem ad.dc{E:Env}(hE:E.OK)(qQ:E.ng=0)(m:Nat){k:Nat}{cs:List Code}{fr:Fr}{tF:Nat}{HB0:List (Nat×aQ)}{x:X}{tb:bP}{nt:Nat}{L:List (Nat×V)}{nb:Nat}{HB:List (Nat×aQ)}(hc:av E k (cs.take m) fr (ak tF HB0) x tb nt L nb HB=true)
  {φ:Ren}{B:Nat}{a:Act}{w:World}{n:Nat}(hs:ad φ B fr (ak tF HB0) a w)(bK:BD E φ)(hd:a.defers=[])(y:Sym)(hy:iC tb φ.y y){Q:Exit->Act->World->Prop}
  (hQ:∀af a' w',ad af B (U nt L) (ak nb HB) a' w'->a'.defers=[]->GB B w w'->zS HB0 w w'->af.s=y.s->af.q=y.q->af.w=y.w->af.g=y.g->Exit.then (aC none n E.P Q (cs.drop m)) Q x.exit a' w'):aC none n E.P Q cs a w:=by
 simp only[av,AAA]at hc;obtain⟨hp,hc⟩:=hc;split at hc
 ·rename_i x' cQ h' hex
  simp only[AAA]at hc;have hx:=pL hc.1;subst hx;cases e:bG tb cQ h' nt L nb HB with
  |none=>rw[e]at hc;cases hc.2
  |some σ=>
   have:=k9 hE (n:=n) (Q:=Q) (cs.drop m) (cs.take m) fr (ak tF HB0) x cQ h' hex φ a w (by rw[qQ];exact fun g hg=>by omega) bK hs.fr hd hs.hr fun af a' w' iD wz cy cM=>by
    obtain⟨vK,ju⟩:=hs.after iD cM;have bB:=dM e wz cM ju (arK hs.bz iD.size) y (hy.agree hp iD.le.yy h' w');exact hQ _ a' w' bB cy vK (hs.Lt iD cM) rfl rfl rfl rfl
   rwa[List.take_append_drop]at this
 ·cases hc
theorem dd{ro:Option Nat}{n:Nat}{P:Program}{id:Nat}{b:Code}{rest:List Code}{Q:Exit->Act->World->Prop}(N:Nat)(Inv:Nat->Act->World->Prop)
  (step:∀i a w,i<N->Inv i a w->aC ro n P (fun e a' w'=>e=.normal/\Inv (i+1) a' w') (ct b) a w)
  (last:∀a w,Inv N a w->aC ro n P (fun e a' w'=>e=.exit id/\aC ro n P Q rest a' w') (ct b) a w){a:Act}{w:World}(h0:Inv 0 a w):aC ro n P Q (.block id (.loop b)::rest) a w:=by
 refine wpIn_block (QD N Inv (fun i a w hi hv=>bp b (step i a w hi hv)) (fun a w hi=>wpIn_mono (bp b (last a w hi)) ?_) h0);rintro e a' w' ⟨rfl,hq⟩;refine⟨by simp,?_⟩;simp only[Exit.inBlock,if_true];exact hq
def pe(o:Sym):V->Value->Prop
 |.q z,v=>v=o.q z/\v.oneCell'=true
 |.s l,v=>v=.string (bytes l)/\∀x∈l,x<256
 |.b x,v=>v=.bool x
 |.i k n,v=>v=.int k n
 |.y k z,v=>v=.int k (o.s z)
 |.sl none n _,v=>n=0/\v=.slice none 0 0
 |_,_=>False
structure Ag(tb:bP)(o y:Sym):Prop where
 s:cI (fun e:Nat×SV=>y.s e.1=match e.2 with|.y z=>o.s z|.i n=>n) tb.s
 q:cI (fun e:Nat×V=>pe o e.2 (y.q e.1)) tb.q
 w:cI (fun e:Nat×WV=>match e.2 with|.same z=>y.w e.1=o.w z|.fold _=>True) tb.w
 g:cI (fun e:Nat×WV=>match e.2 with|.same z=>y.g e.1=o.g z|.fold _=>True) tb.g
theorem Ag.au{tb:bP}{o o' y:Sym}(h:Ag tb o y)(hs:o'.s=o.s)(hq:o'.q=o.q)(hw:o'.w=o.w)(hg:o'.g=o.g):iC tb o' y:=by
 refine⟨fun x v e=> ?_,fun x a e=> ?_,fun x z e=> ?_,fun x z e=> ?_⟩
 ·rw[hs];exact h.s.mem _ (eU e)
 ·have:=h.q.mem _ (eU e)
  simp only at this;cases a with
  |q z=>simp only[pe]at this;simp only[VR,Ren.q,hq];exact this
  |s l=>simp only[pe]at this;simp only[VR];exact this
  |b x=>simp only[pe]at this;simp only[VR];exact this
  |i k n=>simp only[pe]at this;simp only[VR];exact this
  |y k z=>simp only[pe]at this;simp only[VR,Ren.s,hs];exact this
  |sl a n c=>
   cases a with
   |none=>simp only[pe]at this;simp only[VR];exact this
   |some _=>exact this.elim
  |_=>exact this.elim
 ·rw[hw];exact h.w.mem _ (eU e)
 ·rw[hg];exact h.g.mem _ (eU e)
def aW(tb:bP)(nt:Nat)(L:List (Nat×V))(nb:Nat)(HB:List (Nat×aQ)):Bool:=fL tb&&(bG tb (U nt L) (ak nb HB) nt L nb HB).isSome
theorem ad.gY{nt:Nat}{L:List (Nat×V)}{HB:List (Nat×aQ)}{w:World}(hs:ad φ B (U nt L) (ak nb HB) a w){tb:bP}(hc:aW tb nt L nb HB=true){y:Sym}(hy:Ag tb φ.y y):
  ∃af,ad af B (U nt L) (ak nb HB) a w/\af.s=y.s/\af.q=y.q/\af.w=y.w/\af.g=y.g:=by
 simp only[aW,AAA]at hc;exact hs.conv hc.2 y ((hy.au rfl rfl rfl rfl).agree hc.1 rfl _ _)
theorem ad.go{E:Env}(hE:E.OK)(qQ:E.ng=0)(F:aU)(m:Nat){k:Nat}{cs:List Code}{x:X}{tb0 tb:bP}{nt nb nb':Nat}{L L':List (Nat×V)}{HB BS:List (Nat×aQ)}(Zm:aW tb0 nt L nb HB=true)
  (hc:av (ar E F) k (cs.take m) (U nt L) (ak nb HB) x tb nt L' nb' BS=true)
  {φ:Ren}{B:Nat}{a:Act}{w:World}{n:Nat}(hs:ad φ B (U nt L) (ak nb HB) a w)(hd:a.defers=[])(y1:Sym)(h1:Ag tb0 φ.y y1)
  (hF:∀ay,ad ay B (U nt L) (ak nb HB) a w->ay.s=y1.s->ay.q=y1.q->ay.w=y1.w->ay.g=y1.g->aA E.P F ay)(y2:Sym)(h2:Ag tb y1 y2){Q:Exit->Act->World->Prop}
  (hQ:∀af a' w',ad af B (U nt L') (ak nb' BS) a' w'->a'.defers=[]->GB B w w'->zS HB w w'->af.s=y2.s->af.q=y2.q->af.w=y2.w->af.g=y2.g->Exit.then (aC none n E.P Q (cs.drop m)) Q x.exit a' w'):aC none n E.P Q cs a w:=by
 obtain⟨ay,b9,e1,e2,e3,e4⟩:=hs.gY Zm h1;exact ad.dc (aq hE F) qQ m hc b9 (hF ay b9 e1 e2 e3 e4).dU hd y2 (h2.au e1 e2 e3 e4) hQ
end
end Go.Ev
