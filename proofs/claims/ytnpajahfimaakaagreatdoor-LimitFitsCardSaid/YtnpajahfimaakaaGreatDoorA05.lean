/- A part of what LimitFits rests on. -/
import Derived.Test.YtnpajahfimaakaaGreatDoorA04
import Derived.Test.YtnpajahfimaakaaGreatDoorProg
import Derived.Test.YtnpajahfimaakaaGreatDoorA01
set_option linter.all false
namespace Go.Ev
open Option.some renaming injEq->aop
open Prod.mk renaming injEq->AAA
open Value renaming func->arC
open Result renaming andThen_ok->arD
open Sem renaming run_pure->arE,run_bind->arG
open Nat renaming blt->arF,zero_add->arH,eq_of_beq_eq_true->arK,beq->arM,lt_or_ge->arY
open Option renaming map_eq_some_iff->arI,map_some->arN
open List renaming getElem?_cons_succ->arJ,getD_eq_getElem?_getD->arR,getElem?_cons_zero->arV,length_eq_one_iff->arW,take_succ_cons->arZ,range->asa
open _root_.Array renaming getElem?_setIfInBounds_ne->arL,replicate->arP,getElem?_eq_getElem->arS,getElem?_toList->arX
open Bool renaming and_eq_true->arO
open Instr renaming endRound->arQ,endLoop->arT
open Code renaming roundsIn->arU
variable{fr:Fr}{h h':H}
section
noncomputable section
def IM{α:Type}(n:Nat)(f:Nat->α):α:= @Nat.rec (fun _=>α) (f 0) (fun m _=>f (Nat.succ m)) n
theorem Cq{α:Type}(n:Nat)(f:Nat->α):IM n f=f n:=by cases n<;>rfl
def lower(k v:Nat):List Nat->T Nat->T Nat
 |[],t=>t
 |d::ds,t=>lower k v ds (cond (arF v (T.get k t d)) (T.set k t d v) t)
def bwd(k:Nat):List Oper->Nat->Nat->T Nat->T Nat
 |[],_,_,t=>t
 |o::os,i,p,t=>
  match bwd k os (i+1) (cond (dT o) (p+1) p) t with
  |t'=>IM (cond (dT o) p (T.get k t' i)) fun v=>lower k v (gI o) t'
def NF(ops:Array Oper)(k:Nat)(t:T Nat):Prop:=∀j e oe,ops[e]? =some oe->dT oe=true->T.get k t j<=idxOf ops e->rC ops j e
theorem FL{ops:Array Oper}{k v:Nat}:∀(ds:List Nat) (t:T Nat),(∀d∈ds,∀e oe,ops[e]? =some oe->dT oe=true->v<=idxOf ops e->rC ops d e)->NF ops k t->NF ops k (lower k v ds t)
 |[],t,_,h=>h
 |d::ds,t,hd,h=>by
  refine FL ds _ (fun d' h'=>hd d' (by simp[h'])) ?_;cases arF v (T.get k t d)with
  |false=>exact h
  |true=>
   intro j e oe yK tL hle;simp only[cond,T.bg]at hle
   by_cases hj:j=d
   ·subst hj
    rw[if_pos rfl]at hle;exact hd j (by simp) e oe yK tL hle
   ·rw[if_neg hj]at hle;exact h j e oe yK tL hle
theorem Qe{ops:Array Oper}{k:Nat}(hch:∀i j oi oj,ops[i]? =some oi->ops[j]? =some oj->dT oi=true->dT oj=true->idxOf ops i<=idxOf ops j->rC ops i j):
  ∀(os:List Oper) (i:Nat) (t:T Nat),os=ops.toList.drop i->NF ops k t->NF ops k (bwd k os i (idxOf ops i) t)
 |[],i,t,_,h=>h
 |o::os,i,t,hos,h=>by
  have ho:ops[i]? =some o:=by
   have:(ops.toList.drop i)[0]? =some o:=by rw[<-hos];rfl
   simpa using this
  have abn:os=ops.toList.drop (i+1):=by
   have:(ops.toList.drop i).drop 1=os:=by rw[<-hos];rfl
   rw[<-this,List.drop_drop]
  have ih:=Qe (k:=k) hch os (i+1) t abn h;rw[kX ho]at ih;simp only[bwd,Cq];refine FL _ _ (fun d hd e oe yK tL hle=> ?_) ih;cases hi:dT o with
  |true=>
   rw[hi]at hle;exact(rC.dep ho hd).trans (hch i e o oe ho yK hi tL hle)
  |false=>
   rw[hi]at hle ih;exact(rC.dep ho hd).trans (ih i e oe yK tL hle)
structure Row where
 rf:Fr
 g:Bool
 x:V
instance:Inhabited Row:=⟨⟨⟨0,.leaf⟩,false,.top⟩⟩
def xP(fr:Fr):List Nat->Fr->Fr
 |[],r=>r
 |t::ts,r=>xP fr ts (r.set t (fr.get t))
theorem zH(fr:Fr):∀(l:List Nat) (r:Fr) (t:Nat),(xP fr l r).n=r.n/\((xP fr l r).get t=r.get t\/(t∈l/\(xP fr l r).get t=fr.get t))
 |[],r,t=>⟨rfl,.inl rfl⟩
 |a::l,r,t=>by
  obtain⟨h1,h2⟩:=zH fr l (r.set a (fr.get a)) t;refine⟨h1,?_⟩;simp only[xP];rcases h2 with h2|⟨h2,h3⟩
  ·rw[h2,Fr.bg]
   by_cases ht:t=a
   ·rw[if_pos ht,ht];exact .inr ⟨by simp,rfl⟩
   ·rw[if_neg ht];exact .inl rfl
  ·exact .inr ⟨by simp[h2],h3⟩
def V1(fr:Fr):Option Nat->V->Option Fr
 |none,_=>some fr
 |some d,x=>cond (arF d fr.n) (some (fr.set d x)) none
def Qf(fr:Fr):Option Nat->V->Fr
 |none,_=>fr
 |some d,x=>fr.set d x
theorem V2{cQ:Fr}{d:Option Nat}{x:V}(h:V1 fr d x=some cQ):cQ=Qf fr d x/\∀t,d=some t->t<fr.n:=by
 cases d with
 |none=>simp only[V1,aop]at h;exact⟨h.symm,fun t e=>by cases e⟩
 |some t=>
  simp only[V1]at h;cases hb:arF t fr.n with
  |false=>rw[hb]at h;cases h
  |true=>
   rw[hb]at h;simp only[cond,aop]at h;exact⟨h.symm,fun u e=>by cases e;exact bh.1 hb⟩
variable (E:Env) (call yld:dJ) (ops:Array Oper)
def zJ(o:Oper)(rf:Fr)(h:H):Option (Bool×V×H):=match mc ops rf o with
 |some true=>
  match zD E rf h call yld o.op with
  |some (x,h')=>some (true,x,h')
  |none=>none
 |some false=>some (false,.t [],h)
 |none=>none
def Qg:List Oper->Fr->H->Option (List Row×List H×Fr×H)
 |[],fr,h=>some ([],[h],fr,h)
 |o::os,fr,h=>
  match xP fr (reads ops o) ⟨fr.n,.leaf⟩with
  |rf=>
   match zJ E call yld ops o rf h with
   |some (g,x,h')=>
    match V1 fr o.dst x with
    |some cQ=>
     match Qg os cQ h' with
     |some (rows,hs,Cr,h2)=>some (⟨rf,g,x⟩::rows,cond (dT o) (h::hs) hs,Cr,h2)
     |none=>none
    |none=>none
   |none=>none
def tU:List Oper->List Row->Fr->Nat->Fr
 |_,_,fr,0=>fr
 |o::os,r::rs,fr,i+1=>tU os rs (Qf fr o.dst r.x) i
 |_,_,fr,_+1=>fr
variable {E call yld ops}
theorem FM(NG:QO call){o:Oper}{rf:Fr}{g:Bool}{x:V}(hs:zJ E call yld ops o rf h=some (g,x,h'))(hq:dT o=false):h'=h:=by
 simp only[zJ,iU]at hs;split at hs
 ·split at hs
  ·rename_i x1 h1 he
   simp only[aop,AAA]at hs;obtain⟨_,rfl,rfl⟩:=hs;cases hk:kd o.op with
   |ef=>simp[dT,hk]at hq
   |rd=>exact Ze NG hk he
   |pure=>
    obtain⟨r,hr⟩:=Li (E:=E) (call:=call) (yld:=yld) (fr:=rf) hk;rw[hr]at he;cases r with
    |none=>cases he
    |some v=>simp only[arN,aop,AAA]at he;exact he.2.symm
  ·cases hs
 ·simp only[aop,AAA]at hs;exact hs.2.2.symm
 ·cases hs
structure Zg(E:Env)(call yld:dJ)(ops:Array Oper)(fr:Fr)(hs:List H)(n i:Nat)(o:Oper)(r:Row)(fi fi':Fr):Prop where
 rfn:r.rf.n=n
 rfv:∀t,r.rf.get t=.top\/(t∈reads ops o/\r.rf.get t=fi.get t)
 gd:mc ops r.rf o=some r.g
 nx:fi'=Qf fi o.dst r.x
 dst:∀d,o.dst=some d->d<n
 at_:∃h,hs[i]? =some h/\(r.g=false->r.x=.t []/\(dT o=true->hs[i+1]? =some h))/\
  (r.g=true->dT o=true->∃h',hs[i+1]? =some h'/\dP E call yld r.rf o.op h=some (r.x,h'))/\
  (r.g=true->dT o=false->dP E call yld r.rf o.op h=some (r.x,h))
theorem Lm(NG:QO call):∀(os:List Oper) (fr:Fr) (h:H) (rows:List Row) (hs:List H) (cQ:Fr) (h':H),Qg E call yld ops os fr h=some (rows,hs,cQ,h')->
  hs[0]? =some h/\hs[iL os]? =some h'/\hs.length=iL os+1/\tU os rows fr os.length=cQ/\
  ∀i o,os[i]? =some o->∃r,rows[i]? =some r/\Zg E call yld ops fr hs fr.n (iL (os.take i)) o r (tU os rows fr i) (tU os rows fr (i+1))
 |[],fr,h,rows,hs,cQ,h',e=>by
  simp only[Qg,aop,AAA]at e;obtain⟨rfl,rfl,rfl,rfl⟩:=e;exact⟨rfl,rfl,rfl,rfl,fun i o ho=>by simp at ho⟩
 |o::os,fr,h,rows,hs,cQ,h',e=>by
  simp only[Qg]at e;split at e
  ·rename_i g x h1 bB
   split at e
   ·rename_i tC NA
    split at e
    ·rename_i zK b9 Cr h2 ba
     simp only[aop,AAA]at e;obtain⟨rfl,rfl,rfl,rfl⟩:=e;obtain⟨i1,i2,i3,i4,i5⟩:=Lm NG os tC h1 zK b9 Cr h2 ba;obtain⟨p1,p2⟩:=V2 NA;have lF:tC.n=fr.n:=by rw[p1];cases o.dst<;>rfl
     have hq:dT o=false->h1=h:=FM NG bB;refine⟨?_,?_,?_,?_,fun i oi NC=> ?_⟩
     ·cases he:dT o with
      |true=>rfl
      |false=>simp only[cond];rw[i1,hq he]
     ·cases he:dT o with
      |true=>simp only[iL,he,cond];simpa using i2
      |false=>simp only[iL,he,cond];exact i2
     ·cases he:dT o with
      |true=>simp only[iL,he,cond];simp[i3]
      |false=>simp only[iL,he,cond];exact i3
     ·simp only[List.length_cons,tU]
      rw[<-p1];exact i4
     ·cases i with
      |zero=>
       simp only[arV,aop]at NC;subst NC;refine⟨_,rfl,?_⟩;have hz:tU os zK (Qf fr o.dst x) 0=Qf fr o.dst x:=by cases os<;>cases zK<;>rfl
       refine⟨(zH fr _ _ 0).1,fun t=> ?_,?_,hz,p2,?_⟩
       ·rcases(zH fr (reads ops o) ⟨fr.n,.leaf⟩ t).2 with h|h
        ·exact .inl (by rw[h];rfl)
        ·exact .inr h
       ·simp only[zJ,iU]at bB
        split at bB
        ·rename_i hg
         split at bB
         ·simp only[aop,AAA]at bB
          obtain⟨rfl,_⟩:=bB;exact hg
         ·cases bB
        ·rename_i hg
         simp only[aop,AAA]at bB;obtain⟨rfl,_⟩:=bB;exact hg
        ·cases bB
       ·simp only[List.take_zero,iL]
        have h0:(cond (dT o) (h::b9) b9)[0]? =some h:=by
         cases he:dT o with
         |true=>rfl
         |false=>simp only[cond];rw[i1,hq he]
        refine⟨h,h0,fun hg=> ?_,fun hg he=> ?_,fun hg he=> ?_⟩
        ·have hg:g=_:=hg
         subst hg;simp only[zJ,iU]at bB;split at bB
         ·split at bB
          ·simp at bB
          ·cases bB
         ·simp only[aop,AAA]at bB
          obtain⟨_,rfl,rfl⟩:=bB;refine⟨rfl,fun he=> ?_⟩;rw[he];simpa[cond]using i1
         ·cases bB
        ·have hg:g=_:=hg
         subst hg;simp only[zJ,iU]at bB;split at bB
         ·split at bB
          ·rename_i dx
           simp only[aop,AAA]at bB;obtain⟨_,rfl,rfl⟩:=bB;refine⟨_,?_,dx⟩;rw[he];simpa[cond]using i1
          ·cases bB
         ·simp at bB
         ·cases bB
        ·have hg:g=_:=hg
         subst hg;have e1:=hq he;simp only[zJ,iU]at bB;split at bB
         ·split at bB
          ·rename_i dx
           simp only[aop,AAA]at bB;obtain⟨_,rfl,rfl⟩:=bB;rw[e1]at dx;exact dx
          ·cases bB
         ·simp at bB
         ·cases bB
      |succ i=>
       simp only[arJ]at NC;obtain⟨r,hr,ok⟩:=i5 i oi NC;refine⟨r,by simpa using hr,?_⟩;obtain⟨a1,a2,a3,a4,a5,a6⟩:=ok;rw[lF]at a1 a5;have f1:tU (o::os) (⟨xP fr (reads ops o) ⟨fr.n,.leaf⟩,g,x⟩::zK) fr (i+1)=tU os zK tC i:=by rw[p1];rfl
       have f2:tU (o::os) (⟨xP fr (reads ops o) ⟨fr.n,.leaf⟩,g,x⟩::zK) fr (i+1+1)=tU os zK tC (i+1):=by rw[p1];rfl
       refine⟨a1,fun t=>by rw[f1];exact a2 t,a3,by rw[f1,f2];exact a4,a5,?_⟩;simp only[arZ,iL];cases he:dT o with
       |true=>simpa[cond]using a6
       |false=>simpa[cond]using a6
    ·cases e
   ·cases e
  ·cases e
def chk(E:Env)(call yld:dJ)(rf:Fr)(o:Op)(x:V):List H->Bool
 |[]=>true
 |h::hs=>
  match zD E rf h call yld o with
  |some (x',_)=>same x' x&&chk E call yld rf o x hs
  |none=>false
theorem Qh{E:Env}{call yld:dJ}(NG:QO call){rf:Fr}{o:Op}{x:V}(hk:kd o=.rd):∀{l:List H},chk E call yld rf o x l=true->∀h∈l,dP E call yld rf o h=some (x,h)
 |[],_,h,hm=>by cases hm
 |a::l,hc,h,hm=>by
  simp only[chk,iU]at hc;split at hc
  ·rename_i x' h' hs
   simp only[arO]at hc;rcases List.mem_cons.1 hm with rfl|hm
   ·rw[hs,bJ _ _ hc.1,Ze NG hk hs]
   ·exact Qh NG hk hc.2 h hm
  ·cases hc
def second(E:Env)(call yld:dJ)(lv hv:T Nat)(k:Nat)(hs:List H):List Oper->List Row->Nat->Nat->Bool
 |o::os,r::rs,i,p=>
  (match kd o.op with
  |.rd=>cond r.g (cond (arM (T.get 0 lv i) p&&arM (T.get k hv i) p) true (chk E call yld r.rf o.op r.x ((hs.drop (T.get 0 lv i)).take (T.get k hv i+1-T.get 0 lv i)))) true
  |_=>true)&&second E call yld lv hv k hs os rs (i+1) (cond (dT o) (p+1) p)
 |_,_,_,_=>true
theorem Cs{E:Env}{call yld:dJ}{lv hv:T Nat}{k:Nat}{hs:List H}:∀(os:List Oper) (rs:List Row) (i p:Nat),second E call yld lv hv k hs os rs i p=true->
  ∀j o r,os[j]? =some o->rs[j]? =some r->kd o.op=.rd->r.g=true->
   (T.get 0 lv (i+j)=p+iL (os.take j)/\T.get k hv (i+j)=p+iL (os.take j))\/chk E call yld r.rf o.op r.x ((hs.drop (T.get 0 lv (i+j))).take (T.get k hv (i+j)+1-T.get 0 lv (i+j)))=true
 |[],rs,i,p,_,j,o,r,ho,_,_,_=>by simp at ho
 |o::os,[],i,p,_,j,o',r,_,hr,_,_=>by simp at hr
 |o::os,r::rs,i,p,h,j,o',r',ho,hr,hk,hg=>by
  simp only[second,arO]at h;cases j with
  |zero=>
   simp only[arV,aop]at ho hr;subst ho;subst hr;have h1:=h.1;rw[hk]at h1;simp only[hg,cond_true]at h1;cases hb:arM (T.get 0 lv i) p&&arM (T.get k hv i) p with
   |true=>
    simp only[arO]at hb;refine .inl ?_;simp only[Nat.add_zero,List.take_zero,iL];exact⟨arK hb.1,arK hb.2⟩
   |false=>
    rw[hb]at h1;exact .inr h1
  |succ j=>
   simp only[arJ]at ho hr;have ih:=Cs os rs (i+1) _ h.2 j o' r' ho hr hk hg;have e1:i+1+j=i+(j+1):=by omega
   have e2:(cond (dT o) (p+1) p)+iL (os.take j)=p+iL ((o::os).take (j+1)):=by
    simp only[arZ,iL];cases dT o<;>simp only[cond]<;>omega
   rw[e1,e2]at ih;exact ih
def stat(ops:Array Oper):Option (T Nat×T Nat×Nat):=match fwd ops ops.toList 0 0 ⟨.leaf,.leaf,.leaf,.leaf⟩with
 |some s=>IM (iL ops.toList) fun k=>some (s.lv,bwd k ops.toList 0 0 .leaf,k)
 |none=>none
def Qi(E:Env)(call yld:dJ)(ops:Array Oper)(fr:Fr)(h:H):Option (Fr×H):=match stat ops with
 |some (lv,hv,k)=>
  match Qg E call yld ops ops.toList fr h with
  |some (rows,hs,cQ,h')=>cond (second E call yld lv hv k hs ops.toList rows 0 0) (some (cQ,h')) none
  |none=>none
 |none=>none
theorem Ln{E:Env}{call yld:dJ}(NG:QO call){ops:Array Oper}{cQ:Fr}(e:Qi E call yld ops fr h=some (cQ,h')):
  ∃p:FE E call yld ops fr h,p.Lh ops.size=cQ/\p.st p.k=h':=by
 unfold Qi at e;split at e
 ·rename_i lv hv k bB
  unfold stat at bB;simp only[Cq]at bB;split at bB
  ·rename_i s hs
   simp only[aop,AAA]at bB;obtain⟨rfl,rfl,rfl⟩:=bB;have hlen:ops.toList.length=ops.size:=by simp
   have I:=Qc ops.toList 0 _ s (by simp) hs (Qb.init ops);rw[arH,hlen]at I;have bf:∀{i:Nat} {o:Oper},ops[i]? =some o->i<ops.size:=fun{i o} ho=>by
    rcases arY i ops.size with h|h
    ·exact h
    ·rw[Array.getElem?_eq_none h]at ho;cases ho
   have htl:∀{i:Nat} {o:Oper},ops[i]? =some o->ops.toList[i]? =some o:=fun{i o} ho=>by simpa using ho
   have hk:idxOf ops ops.size=iL ops.toList:=by
    unfold idxOf;rw[List.take_of_length_le (by simp)]
   have chain:∀i j oi oj,ops[i]? =some oi->ops[j]? =some oj->dT oi=true->dT oj=true->idxOf ops i<=idxOf ops j->rC ops i j:=fun i j oi oj hi hj ei ej hle=>by
    refine I.lv j i oi hi ei ?_;rw[I.lve j oj (bf hj) hj ej];omega
   have abq:∀i j oi oj,ops[i]? =some oi->ops[j]? =some oj->dT oi=true->dT oj=true->idxOf ops i=idxOf ops j->i=j:=fun i j oi oj hi hj ei ej he=>by
    rcases Nat.lt_trichotomy i j with h|h|h
    ·have:=mN hi ei h;omega
    ·exact h
    ·have:=mN hj ej h;omega
   have H0:NF ops (iL ops.toList) .leaf:=fun j e oe yK tL hle=>by
    rw[T.il]at hle;have:=mN yK tL (bf yK);rw[hk]at this;omega
   have HB:NF ops (iL ops.toList) (bwd (iL ops.toList) ops.toList 0 0 .leaf):=Qe chain ops.toList 0 .leaf (by simp) H0;split at e
   ·rename_i rows hs tC h1 ba
    obtain⟨d1,d2,d3,d4,d5⟩:=Lm NG ops.toList fr h rows hs tC h1 ba;cases abr:second E call yld s.lv (bwd (iL ops.toList) ops.toList 0 0 .leaf) (iL ops.toList) hs ops.toList rows 0 0 with
    |false=>rw[abr]at e;cases e
    |true=>
     rw[abr]at e;simp only[cond,aop,AAA]at e;obtain⟨rfl,rfl⟩:=e;have sec:=Cs ops.toList rows 0 0 abr;have row:∀i o,ops[i]? =some o->∃r,rows[i]? =some r/\rows.getD i default=r/\Zg E call yld ops fr hs fr.n (idxOf ops i) o r (tU ops.toList rows fr i) (tU ops.toList rows fr (i+1)):=fun i o ho=>by
      obtain⟨r,hr,ok⟩:=d5 i o (htl ho);exact⟨r,hr,by simp[arR,hr],ok⟩
     have bB:∀{q hq},hs[q]? =some hq->hs.getD q h=hq:=fun{q hq} e=>by simp[arR,e]
     refine⟨{
      x:=fun i=>(rows.getD i default).x,
      g:=fun i=>(rows.getD i default).g,
      rf:=fun i=>cond (arF i ops.size) (rows.getD i default).rf fr,
      Lh:=tU ops.toList rows fr,
      st:=fun q=>hs.getD q h,
      yI:=fun i=>match ops[i]?with|some o=>dT o|none=>false,
      idx:=idxOf ops,
      lo:=T.get 0 s.lv,
      hi:=T.get (iL ops.toList) (bwd (iL ops.toList) ops.toList 0 0 .leaf),
      k:=iL ops.toList,
      top:=fun i o ho=>I.top i o (bf ho) ho,
      Nz:=fun i j oi oj t mf hi hj h1 h2=>I.Nz i j oi oj t mf (bf hj) hi hj h1 h2,
      P4:=fun i j oi oj t mf hi hj h1 h2=>I.P4 i j oi oj t mf (bf hj) hi hj h1 h2,
      inj:=fun i j oi oj hi hj ei ej he=>abq i j oi oj hi hj (by simpa[hi]using ei) (by simpa[hj]using ej) he,
      lt:=fun i oi hi ei=>by
       have:=mN hi (by simpa[hi]using ei) (bf hi);rw[hk]at this;exact this,
      FF:= ?_,
      chain:=fun i j oi oj hi hj ei ej he=>chain i j oi oj hi hj (by simpa[hi]using ei) (by simpa[hj]using ej) (Nat.le_of_lt he),
      low:=fun e i oe oi he hi ee hl _=>I.lv i e oe he (by simpa[he]using ee) hl,
      ahL:=fun i oi hi _=>by have:=I.lvk i;rw[hk]at this;exact this,
      high:=fun e i oe oi he hi ee hl _=>HB i e oe he (by simpa[he]using ee) hl,
      guard:=fun i o ho=> ?_,
      skip:=fun i o ho hg=> ?_,
      eff:=fun i o ho hg he=> ?_,
      quiet:=fun i o ho hg he q h1 h2 h3=> ?_,
      dst:=fun i o d ho hd=> ?_,
      rfn:=fun i=> ?_,
      rfv:=fun i o t ho=> ?_,
      f0:=by cases ops.toList<;>cases rows<;>rfl,
      fs:=fun i o ho=> ?_,
      s0:=bB d1},?_,?_⟩
     ·
      have gen:∀n,n<=ops.size->∀p,p<idxOf ops n->∃i oi,ops[i]? =some oi/\(match ops[i]?with|some o=>dT o|none=>false)=true/\idxOf ops i=p:=by
       intro n
       induction n with
       |zero=>intro _ p hp;simp[idxOf,iL]at hp
       |succ n ih=>
        intro hn p hp;have kZ:n<ops.size:=by omega
        have ho:ops[n]? =some ops[n]:=arS kZ;rw[kX ho]at hp;cases he:dT ops[n]with
        |false=>rw[he]at hp;exact ih (by omega) p hp
        |true=>
         rw[he]at hp;simp only[cond]at hp;rcases arY p (idxOf ops n)with h|h
         ·exact ih (by omega) p h
         ·exact⟨n,_,ho,by rw[ho];exact he,by omega⟩
      intro p hp;exact gen ops.size (Nat.le_refl _) p (by rw[hk];exact hp)
     ·obtain⟨r,_,hr,ok⟩:=row i o ho
      rw[hr,bh.2 (bf ho)];exact ok.gd
     ·obtain⟨r,_,hr,ok⟩:=row i o ho
      rw[hr]at hg⊢;obtain⟨hq,a1,a2,_⟩:=ok.at_;obtain⟨b1,b2⟩:=a2 hg;refine⟨b1,fun he=> ?_⟩;rw[bB a1,bB (b2 (by simpa[ho]using he))]
     ·obtain⟨r,_,hr,ok⟩:=row i o ho
      rw[hr]at hg⊢;rw[bh.2 (bf ho)];obtain⟨hq,a1,_,a3,_⟩:=ok.at_;obtain⟨hq',b1,b2⟩:=a3 hg (by simpa[ho]using he);rw[bB a1,bB b1];exact b2
     ·obtain⟨r,qP,hr,ok⟩:=row i o ho
      rw[hr]at hg⊢;rw[bh.2 (bf ho)];have he':dT o=false:=by simpa[ho]using he
      obtain⟨hq,a1,_,_,a4⟩:=ok.at_;have a4:=a4 hg he';cases hkd:kd o.op with
      |ef=>simp[dT,hkd]at he'
      |pure=>
       obtain⟨v,hv⟩:=Li (E:=E) (call:=call) (yld:=yld) (fr:=r.rf) hkd;simp only[cond];rw[hv]at a4⊢;cases v with
       |none=>cases a4
       |some v=>
        simp only[arN,aop,AAA]at a4⊢;exact⟨a4.1,agm⟩
      |rd=>
       simp only[cond];rcases sec i o r (htl ho) qP hkd hg with⟨c1,c2⟩|hc
       ·rw[arH,arH]at c1 c2
        have:q=idxOf ops i:=by
         unfold idxOf;omega
        subst this;rw[bB a1];exact a4
       ·rw[arH]at hc
        have Zh:q<hs.length:=by omega
        have hqs:hs[q]? =some hs[q]:=List.getElem?_eq_getElem Zh;rw[bB hqs];refine Qh NG hkd hc _ ?_;rw[List.mem_iff_getElem?];refine⟨q-T.get 0 s.lv i,?_⟩;rw[List.getElem?_take,if_pos (by omega),List.getElem?_drop];rw[show T.get 0 s.lv i+(q-T.get 0 s.lv i)=q by omega];exact hqs
     ·obtain⟨r,_,hr,ok⟩:=row i o ho
      exact ok.dst d hd
     ·cases hb:arF i ops.size with
      |false=>rfl
      |true=>
       obtain⟨r,_,hr,ok⟩:=row i _ (arS (bh.1 hb));rw[hr];exact ok.rfn
     ·obtain⟨r,_,hr,ok⟩:=row i o ho
      rw[hr,bh.2 (bf ho)];exact ok.rfv t
     ·obtain⟨r,_,hr,ok⟩:=row i o ho
      rw[hr,ok.nx];cases o.dst<;>rfl
     ·show tU ops.toList rows fr ops.size=tC
      rw[<-hlen];exact d4
     ·exact bB d2
   ·cases e
  ·cases bB
 ·cases e
end
end
variable{E:Env}
noncomputable section
abbrev Out:=Option (X×Fr×List Nat×H)
abbrev k8:=Option Nat->Code->Fr->List Nat->H->Out
def load(args:List V)(i:Nat)(t:T V):T V:=match args with
 |[]=>t
 |x::xs=>load xs (i+1) (T.set .top t i x)
def takes:List Nat->H->Option H
 |[],h=>some h
 |b::bs,h=>
  match h.get b with
  |.O0=>takes bs (h.set b .gone)
  |_=>none
def tV(E:Env)(fr:Fr)(h:H):List ResultVar->Option (List V)
 |[]=>some []
 |.tmp t::rs=>
  match tV E fr h rs with
  |some l=>some (fr.get t::l)
  |none=>none
 |.cell a t::rs=>
  match fr.get a with
  |.p p=>
   match rA E t (.p p) h,tV E fr h rs with
   |some (v,_),some l=>some (v::l)
   |_,_=>none
  |_=>none
def fG:List V->V
 |[v]=>v
 |l=>.t l
def tX(E:Env)(ex:k8):dJ:=fun f args h=>
 match E.ft f with
 |some fn=>
  match fn.body with
  |some c=>
   cond (Nat.ble args.length fn.ntmps)
    (match ex none c {n:=fn.ntmps,t:=load args 0 .leaf} [] h with
    |some (.e _,_,_,_)=>none
    |some (_,fr,ds,h1)=>
     match takes ds h1 with
     |some h2=>
      match tV E fr h2 fn.results.toList with
      |some l=>some (fG l,h2)
      |none=>none
     |none=>none
    |none=>none) none
  |none=>none
 |none=>none
def Zi(E:Env)(ex:k8):dJ:=fun f args h=>
 match E.qh E.bd f args h with
 |some v=>some (v,h)
 |none=>
 match E.eh f args h with
 |some r=>some r
 |none=>
 match E.xh E.xt f args h with
 |some r=>some r
 |none=>tX E ex f args h
def jP(E:Env)(ex:k8):dJ:=fun f args h=>
 match E.qc f args with
 |some v=>some (v,h)
 |none=>cond (qoF f) none (Zi E ex f args h)
theorem FN{ex:k8}:QO (jP E ex):=fun f args h x h' hq e=>by
 unfold jP at e;split at e
 ·cases e;rfl
 ·rw[hq]at e;cases e
def sA(fr:Fr):List Tmp->List V->Option Fr
 |[],[]=>some fr
 |t::ts,v::vs=>cond (arF t fr.n) (sA (fr.set t v) ts vs) none
 |_,_=>none
def mh(ex:k8):dJ:=fun l args h=>
 match h.get l with
 |.loop _ _ fr params assign body _=>
  match sA fr params.toList args with
  |some tC=>
   match ex (some l) assign tC [] h with
   |some (.n,Cr,[],h1)=>
    match h1.get l with
    |.loop .ready kF cQ V3 V4 ahO df'=>
     match ex (some l) body Cr [] (h1.set l (.loop .busy kF cQ V3 V4 ahO df'))with
     |some (x,_,_,h2)=>
      match h2.get l with
      |.loop _ _ abt zL zM IP abu=>
       match x with
       |.n=>some (.b true,h2.set l (.loop .ready none abt zL zM IP abu))
       |.r=>some (.b false,h2.set l (.loop .done (some .ret) abt zL zM IP abu))
       |.e id=>some (.b false,h2.set l (.loop .done (some (.exit id)) abt zL zM IP abu))
      |_=>none
     |none=>none
    |_=>none
   |_=>none
  |none=>none
 |_=>none
def nQ(l:Nat)(fr:Fr)(ds:List Nat)(h:H):Out:=match h.get l with
 |.loop st kF cQ ps arA bd df=>
  match st with
  |.busy=>none
  |_=>
   match kF with
   |none=>some (.n,fr,ds,h.set l (.loop .exhausted kF cQ ps arA bd df))
   |some .ret=>some (.r,fr,ds,h.set l (.loop .exhausted kF cQ ps arA bd df))
   |some (.exit id)=>some (.e id,fr,ds,h.set l (.loop .exhausted kF cQ ps arA bd df))
   |_=>none
 |_=>none
def DC(E:Env)(call:dJ)(ro:Option Nat)(g:Operand)(ps:Array Tmp)(arA bd:Code)(fr:Fr)(ds:List Nat)(h:H):Out:=match ev E.ng fr g with
 |.f gf first im=>
  match ro with
  |none=>
   match call gf (first++[.yl (h.n+1)]++im) ((h.new .O0).new (.loop .ready none fr ps arA bd h.n))with
   |some (_,h3)=>nQ (h.n+1) fr (h.n::ds) h3
   |none=>none
  |some l0=>
   match h.get l0 with
   |.loop _ _ _ _ _ _ df=>
    match call gf (first++[.yl h.n]++im) (h.new (.loop .ready none fr ps arA bd df))with
    |some (_,h3)=>nQ h.n fr ds h3
    |none=>none
   |_=>none
 |_=>none
section
variable (E:Env) (ex:k8) (ro:Option Nat) (fr:Fr) (ds:List Nat) (h:H)
def aoa:Option (Fr×H)->Out
 |some (cQ,h')=>some (.n,cQ,ds,h')
 |none=>none
def aob(_:Nat)(ops:Array Oper)(draw:Bool):Out:=aoa ds (cond draw (Qi E (jP E ex) (mh ex) ops fr h) (wu E (jP E ex) (mh ex) ops ops.toList fr h))
def aoc(a b:Code):Out:=match ex ro a fr ds h with
 |some (.n,cQ,vF,h')=>ex ro b cQ vF h'
 |r=>r
def ahP(c:Operand)(a b:Code):Out:=match ev E.ng fr c with
 |.b true=>ex ro a fr ds h
 |.b false=>ex ro b fr ds h
 |_=>none
def aod(id:Nat)(b:Code):Out:=match ex ro b fr ds h with
 |some (.e j,cQ,vF,h')=>cond (arM j id) (some (.n,cQ,vF,h')) (some (.e j,cQ,vF,h'))
 |r=>r
def ahQ(b:Code):Out:=match ex ro b fr ds h with
 |some (.n,cQ,vF,h')=>ex ro (.loop b) cQ vF h'
 |r=>r
end
def ahS(E:Env)(ex:k8):k8:=fun ro c fr ds h=>
 @Code.rec (fun _=>Out) (some (.n,fr,ds,h)) (aob E ex fr ds h) (fun a b _ _=>aoc ex ro fr ds h a b) (fun c a b _ _=>ahP E ex ro fr ds h c a b) (fun id b _=>aod ex ro fr ds h id b) (fun b _=>ahQ ex ro fr ds h b) (fun g ps arA bd _ _=>DC E (jP E ex) ro g ps arA bd fr ds h) (fun id=>some (.e id,fr,ds,h)) (fun b _=>ex ro b fr ds h) (fun _=>some (.n,fr,ds,h)) (fun _=>none) (some (.r,fr,ds,h)) (fun _=>none) c
def exec(E:Env)(k:Nat):k8:= @Nat.rec (fun _=>k8) (fun _ _ _ _ _=>none) (fun _ ih=>ahS E ih) k
section
variable (E:Env) (k:Nat) (ro:Option Nat) (fr:Fr) (ds:List Nat) (h:H)
theorem Ct(c:Code):exec E 0 ro c fr ds h=none:=rfl
theorem dD:exec E (k+1) ro .skip fr ds h=some (.n,fr,ds,h):=rfl
theorem db(l:Nat):exec E (k+1) ro (.label l) fr ds h=some (.n,fr,ds,h):=rfl
theorem dE(id:Nat):exec E (k+1) ro (.exit id) fr ds h=some (.e id,fr,ds,h):=rfl
theorem eG:exec E (k+1) ro .ret fr ds h=some (.r,fr,ds,h):=rfl
theorem fo(id:Nat)(ops:Array Oper):exec E (k+1) ro (.region id ops false) fr ds h=
  match wu E (jP E (exec E k)) (mh (exec E k)) ops ops.toList fr h with
  |some (cQ,h')=>some (.n,cQ,ds,h')
  |none=>none:=rfl
theorem fp(id:Nat)(ops:Array Oper):exec E (k+1) ro (.region id ops true) fr ds h=
  match Qi E (jP E (exec E k)) (mh (exec E k)) ops fr h with
  |some (cQ,h')=>some (.n,cQ,ds,h')
  |none=>none:=rfl
theorem gp(a b:Code):exec E (k+1) ro (.seq a b) fr ds h=
  match exec E k ro a fr ds h with
  |some (.n,cQ,vF,h')=>exec E k ro b cQ vF h'
  |r=>r:=rfl
theorem fu(c:Operand)(a b:Code):exec E (k+1) ro (.cond c a b) fr ds h=
  match ev E.ng fr c with
  |.b true=>exec E k ro a fr ds h
  |.b false=>exec E k ro b fr ds h
  |_=>none:=rfl
theorem eL(id:Nat)(b:Code):exec E (k+1) ro (.block id b) fr ds h=
  match exec E k ro b fr ds h with
  |some (.e j,cQ,vF,h')=>cond (arM j id) (some (.n,cQ,vF,h')) (some (.e j,cQ,vF,h'))
  |r=>r:=rfl
theorem fv(b:Code):exec E (k+1) ro (.loop b) fr ds h=
  match exec E k ro b fr ds h with
  |some (.n,cQ,vF,h')=>exec E k ro (.loop b) cQ vF h'
  |r=>r:=rfl
theorem eM(g:Operand)(ps:Array Tmp)(arA bd:Code):exec E (k+1) ro (.rangeFunc g ps arA bd) fr ds h=DC E (jP E (exec E k)) ro g ps arA bd fr ds h:=rfl
theorem eN(b:Code):exec E (k+1) ro (.scope b) fr ds h=exec E k ro b fr ds h:=rfl
theorem fw(l:Nat):exec E (k+1) ro (.goto l) fr ds h=none:=rfl
theorem dQ(s:String):exec E (k+1) ro (.refuse s) fr ds h=none:=rfl
end
end
variable{P:Program}{a:Act}{c:Code}{φ:Ren}{ex:k8}
section
noncomputable section
variable {D:List Deferred}
theorem gW{b:Frame}{k:List Item}{cs:List Frame}{w:World}:
  step P (lone (b.atR a (.code (.scope c)::k)) cs w)=.next (lone (b.atR a (.code c:: .inScope c::k)) cs w):=
 step_lone_go (by simp[stepG,stepG.exec,Frame.atR])
theorem BO{b:Frame}{k:List Item}{cs:List Frame}{w:World}:
  step P (lone (b.atR a (.inScope c::k)) cs w)=.next (lone (b.atR a k) cs w):=
 step_lone_go (by simp[stepG,stepG.exec,Frame.atR])
theorem IQ{F:Fence}{n:Nat}{Q:Exit->Act->World->Prop}{w:World}(h:c.wpIn F n P (fun e a w=>(∀l,e≠ .goto l)/\Q e a w) a w):(Code.scope c).wpIn F n P Q a w:=by
 intro b k cs vG hb hr;have h0:(lone (b.atR a (.code (.scope c)::k)) cs w).fenced P F:=fenced_calm hb hr rfl;obtain⟨e,Qj,za,⟨qQ,hq⟩,mJ⟩:=h b (.inScope c::k) cs vG hb hr;cases e with
 |normal=>exact⟨.normal,Qj,za,hq,.head h0 gW (StepsIn.trans mJ (.one (fenced_calm hb hr rfl) BO))⟩
 |exit id=>
  have hx:exitTo id (.inScope c::k)=exitTo id k:=by simp[exitTo]
  exact⟨.exit id,Qj,za,hq,fun k' hk=>.head h0 gW (mJ.1 k' (by rw[hx];exact hk)),
   fun cM hk=>let⟨k₁,h1,h2⟩:=mJ.2 cM (by rw[hx];exact hk);⟨k₁,h1,.head h0 gW h2⟩⟩
 |goto l=>exact absurd rfl (qQ l)
 |ret=>exact⟨_,Qj,za,hq,.of_steps (.one h0 gW) mJ⟩
 |panic ch=>exact⟨_,Qj,za,hq,.of_steps (.one h0 gW) mJ⟩
 |outgrown=>exact⟨_,Qj,za,hq,.of_steps (.one h0 gW) mJ⟩
def xQ(D:List Deferred)(φ:Ren)(w:World)(x:X)(fr:Fr)(ds:List Nat)(h:H):Exit->Act->World->Prop:=fun e a' w'=>
 ∃af,Ext φ w af w'/\e=x.exit/\FR af fr a'.tmps/\DR D af ds a'.defers/\HR af h w'
theorem xQ.back{xE:Ren}{w za:World}{x:X}{ds:List Nat}(hx:Ext φ w xE za){e:Exit}{a':Act}{w':World}(hp:xQ D xE za x fr ds h e a' w'):xQ D φ w x fr ds h e a' w':=by
 obtain⟨af,h1,h2⟩:=hp;exact⟨af,hx.trans h1,h2⟩
def DD(E:Env)(ex:k8):Prop:=∀{D:List Deferred} ro c fr ds h x cQ vF h',ex ro c fr ds h=some (x,cQ,vF,h')->∀φ a w yM n,GL E.ng φ->BD E φ->RO φ ro yM->FR φ fr a.tmps->DR D φ ds a.defers->HR φ h w->
 c.wpIn (W yM) n E.P (xQ D φ w x cQ vF h') a w
theorem FO:∀(args:List V) (i:Nat) (t:T V) (k:Nat),T.get .top (load args i t) k=if i<=k then(match args[k-i]?with|some x=>x|none=>T.get .top t k)else T.get .top t k
 |[],i,t,k=>by simp[load]
 |x::xs,i,t,k=>by
  rw[load,FO xs (i+1)];simp only[T.bg]
  by_cases h1:i+1<=k
  ·have h2:i<=k:=by omega
   have h3:¬k=i:=by omega
   have e:k-i=(k-(i+1))+1:=by omega
   simp only[if_pos h1,if_pos h2,if_neg h3,e,arJ]
  ·simp only[if_neg h1]
   by_cases h2:k=i
   ·subst h2;simp
   ·simp only[if_neg h2,if_neg (show ¬i<=k by omega)]
theorem DE{args:List V}{args':List Value}(h:J φ args args')(n:Nat)(hn:args.length<=n):
  FR φ {n:=n,t:=load args 0 .leaf} (args'.toArray++arP (n-args'.toArray.size) undef):=by
 have hl:=h.length;refine⟨by simp;omega,fun k=> ?_⟩;show VR φ (T.get .top (load args 0 .leaf) k) _;rw[FO,if_pos (Nat.zero_le _),Nat.sub_zero];cases hx:args[k]?with
 |none=>rw[T.il];simp only[VR]
 |some x=>
  obtain⟨v,hv,hxv⟩:=h.get hx;have:(args'.toArray++arP (n-args'.toArray.size) undef).getD k undef=v:=by
   rw[Array.getD_eq_getD_getElem?,Array.getElem?_append_left (by
    have:k<args'.length:=by
     rcases arY k args'.length with h|h
     ·exact h
     ·rw[List.getElem?_eq_none h]at hv;cases hv
    simpa using this)]
   simp[hv]
  rw[this];exact hxv
theorem FP{E:Env}{fn:Func}{tmps:Array Value}{R:Ending->World->Prop}{n:Nat}{ro:Option Nat}:∀(ds:List Nat) (h h2:H),takes ds h=some h2->∀(φ:Ren) (w:World) (l:List Deferred),DR [] φ ds l->HR φ h w->
  (∀w',Ext φ w φ w'->HR φ h2 w'->LeavesInM (W ro) n E.P fn tmps R [] .returning w')->LeavesInM (W ro) n E.P fn tmps R l .returning w
 |[],h,h2,e,φ,w,l,hd,hr,hK=>by
  simp only[takes,aop]at e;subst e;simp only[DR]at hd;subst hd;exact hK w (Ext.refl φ w) hr
 |b::bs,h,h2,e,φ,w,l,hd,hr,hK=>by
  simp only[takes]at e;simp only[DR]at hd;obtain⟨r,ds,rfl,hb,hds⟩:=hd;split at e
  ·rename_i Fv
   obtain⟨o,h1,hBR⟩:=hr.ew b r hb (by rw[Fv];trivial);rw[Fv]at hBR;have ho:o=.deferred (some []):=hBR;subst ho;have bf:=(hr.lM b r hb).2;let w':World:={w with heap:=w.heap.setIfInBounds r (.deferred none)};have hT:=hr.turn (w':=w') .gone (.deferred none) hb (by rw[Fv];trivial) trivial (by simp[w']) (by simp[w',bf]) (fun s hs=>by simp[w',arL (Ne.symm hs)]) rfl rfl rfl;refine⟨by simp,.inl ⟨r,w',rfl,?_,?_⟩⟩
   ·simp[Instr.takeDeferred,getObj,setObj,Sem.run,h1,w']
   ·exact FP bs (h.set b .gone) h2 e φ w' ds hds hT.1 (fun w'' hx mL=>hK w'' (hT.2.trans hx) mL)
  ·cases e
theorem NH(hE:E.OK){w:World}(hr:HR φ h w)(t:TypeId){p:Option (Nat×Nat)}{v:Value}(hx:VR φ (.p p) v){y:V}(hy:rA E t (.p p) h=some (y,h')):
  ∃r o u,v=.pointer (some ⟨r,o,none⟩)/\(loadVar t ⟨r,o,none⟩).run E.P w=.ok u w/\VR φ y u:=by
 cases p with
 |none=>simp only[rA,vZ]at hy;split at hy<;>first|(cases hy;done)|(rename_i e;cases e)
 |some bo=>
  obtain⟨b,o⟩:=bo;simp only[rA,vZ]at hy;cases htt:E.tt t with
  |none=>rw[htt]at hy;cases hy
  |some td=>
   obtain⟨i,d⟩:=td;rw[htt]at hy;obtain⟨hi,hd⟩:=hE.ty t i d htt;simp only[VR]at hx;obtain⟨r,hb,rfl⟩:=hx;simp only[]at hy;split at hy
   ·rename_i l e g hl
    split at hy
    ·rename_i x hx
     simp only[aop,AAA]at hy;obtain⟨rfl,rfl⟩:=hy;obtain⟨vs,h1,h2,h3⟩:=hr.qz hb hl 0 l.length (by omega);rw[List.drop_zero,List.take_length]at h2;obtain⟨u,g1,g2⟩:=eE (P:=E.P) (w:=w) (o:=0) hi hd h2 (fun j u hu=>h3 j u hu) hx;rw[arH]at g1;refine⟨r,o,u,rfl,?_,g2⟩;simpa[Instr.loadAt,Instr.sureAddr]using g1
    ·cases hy
   ·rename_i l e hl
    split at hy
    ·rename_i x hx
     simp only[aop,AAA]at hy;obtain⟨rfl,rfl⟩:=hy;obtain⟨vs,h1,h2,h3⟩:=hr.zf hb hl 0 l.length (by omega);rw[List.drop_zero,List.take_length]at h2;obtain⟨u,g1,g2⟩:=eE (P:=E.P) (w:=w) (o:=0) hi hd h2 (fun j u hu=>h3 j u hu) hx;rw[arH]at g1;refine⟨r,o,u,rfl,?_,g2⟩;simpa[Instr.loadAt,Instr.sureAddr]using g1
    ·cases hy
   ·cases hy
def wx(tmps:Array Value):ResultVar->Sem Value
 |.tmp t=>pure (tmps.getD t undef)
 |.cell a t=>do loadVar t (<-asAddr (tmps.getD a undef))
theorem DF{E:Env}(hE:E.OK){φ:Ren}{fr:Fr}{tmps:Array Value}{h:H}{w:World}(hf:FR φ fr tmps)(hr:HR φ h w):∀(rs:List ResultVar) (l:List V),tV E fr h rs=some l->
  ∃vs,(rs.mapM (wx tmps)).run E.P w=.ok vs w/\J φ l vs
 |[],l,e=>by
  simp only[tV,aop]at e;subst e;exact⟨[],by simp,J.nil⟩
 |.tmp t::rs,l,e=>by
  simp only[tV]at e;split at e
  ·rename_i l' ru
   simp only[aop]at e;subst e;obtain⟨vs,h1,h2⟩:=DF hE hf hr rs l' ru;refine⟨tmps.getD t undef::vs,?_,J.cons (hf.2 t) h2⟩;have e:(wx tmps (.tmp t)).run E.P w=.ok (tmps.getD t undef) w:=rfl;simp only[List.mapM_cons,arG,e,arD,h1,arE]
  ·cases e
 |.cell a t::rs,l,e=>by
  simp only[tV]at e;split at e
  ·rename_i p hp
   have hfa:=hf.2 a;rw[hp]at hfa;split at e
   ·rename_i v h0 l' hv ru
    simp only[aop]at e;subst e;obtain⟨vs,h1,h2⟩:=DF hE hf hr rs l' ru;obtain⟨r,o,u,aoe,hld,V5⟩:=NH hE hr t hfa hv;refine⟨u::vs,?_,J.cons V5 h2⟩;have e:(wx tmps (.cell a t)).run E.P w=.ok u w:=by
     simp only[wx,arG,aoe,asAddr,arE,arD,hld]
    simp only[List.mapM_cons,arG,e,arD,h1,arE]
   ·cases e
  ·cases e
theorem sB(hE:E.OK){tmps:Array Value}{w:World}(hf:FR φ fr tmps)(hr:HR φ h w)(fn:Func){l:List V}(e:tV E fr h fn.results.toList=some l):
  ∃v,(results fn tmps).run E.P w=.ok v w/\VR φ (fG l) v:=by
 obtain⟨vs,h1,h2⟩:=DF hE hf hr fn.results.toList l e;have hm:(fn.results.mapM (wx tmps)).run E.P w=.ok vs.toArray w:=by
  rw[Array.mapM_eq_mapM_toList];simp[h1]
 have abv:results fn tmps=(do
   let vs<-fn.results.mapM (wx tmps)
   pure (if h:vs.size=1 then vs[0]else .tuple vs)):=rfl
 rw[abv,arG,hm];simp only[arD,arE]
 by_cases O1:vs.length=1
 ·obtain⟨v,rfl⟩:=arW.1 O1
  have lS:l.length=1:=by rw[<-h2.length];exact O1
  obtain⟨x,rfl⟩:=arW.1 lS;simp only[J]at h2;obtain⟨y,ys,h3,h4,_⟩:=h2;cases h3;exact⟨v,by simp,h4⟩
 ·refine⟨.tuple vs.toArray,by simp[O1],?_⟩
  have lS:l.length≠1:=by rw[<-h2.length];exact O1
  have:fG l=.t l:=by
   match l,lS with
   |[],_=>rfl
   |[x],h=>exact absurd rfl h
   |_::_::_,_=>rfl
  rw[this];simp only[VR];exact⟨_,rfl,by simpa using h2⟩
theorem pI(hE:E.OK)(hX:DD E ex):pD E (tX E ex):=by
 intro f args h v h' hs φ args' w n hg bK cG hr;unfold tX at hs;split at hs
 ·rename_i fn lF
  obtain⟨ahV,jN⟩:=hE.fn _ _ lF;split at hs
  ·rename_i c hc
   refine⟨⟨fn,c,ahV,hc,jN⟩,?_⟩;cases hle:Nat.ble args.length fn.ntmps with
   |false=>rw[hle]at hs;cases hs
   |true=>
    rw[hle]at hs;simp only[cond]at hs;have ahD:args.length<=fn.ntmps:=Nat.le_of_ble_eq_true hle;have hF:=DE cG fn.ntmps ahD;refine callsIn_of_wp_marks ahV hc trivial ?_;split at hs
    ·cases hs
    ·rename_i x fr ds h1 bU hex
     have hwp:=hX none c _ [] h x fr ds h1 hex φ {tmps:=args'.toArray++arP (fn.ntmps-args'.toArray.size) undef,defers:=[]} w none n hg bK rfl hF rfl hr;refine wpIn_mono hwp ?_;rintro e a' w' ⟨af,hx,rfl,hf,hd,cM⟩;split at hs
     ·rename_i h2 hh2
      split at hs
      ·rename_i l hl
       simp only[aop,AAA]at hs;obtain⟨rfl,rfl⟩:=hs;have key:LeavesInM (W none) n E.P fn a'.tmps (Res φ w (fG l) h2) a'.defers .returning w':=by
        refine FP ds h1 h2 hh2 af w' a'.defers hd cM fun w'' aof mL=> ?_
        obtain⟨v,gE,ff⟩:=sB hE hf mL fn hl;exact⟨v,gE,af,v,rfl,hx.trans aof,ff,mL⟩
       cases x with
       |n=>exact key
       |r=>exact key
       |e id=>exact(bU id rfl).elim
      ·cases hs
     ·cases hs
    ·cases hs
  ·cases hs
 ·cases hs
theorem gq(hE:E.OK)(hX:DD E ex):pD E (jP E ex):=by
 intro f args h v h' hs φ args' w n hg bK cG hr;unfold jP at hs;split at hs
 ·rename_i u FQ
  simp only[aop,AAA]at hs;obtain⟨rfl,rfl⟩:=hs;obtain⟨q1,q2⟩:=bK.here.qc _ _ _ FQ _ cG;refine⟨q1,(q2 n w fun r o hk=>(hr.kp r o hk).1).mono ?_⟩;rintro e w' ⟨v',rfl,hv,gG⟩;obtain⟨g1,g2⟩:=gG.ok hr;exact⟨φ,v',rfl,g2,hv,g1⟩
 cases NG:qoF f with
 |true=>rw[NG]at hs;cases hs
 |false=>
 rw[NG]at hs;simp only[cond_false]at hs;unfold Zi at hs;split at hs
 ·rename_i u hqh
  simp only[aop,AAA]at hs;obtain⟨rfl,rfl⟩:=hs;obtain⟨q1,q2⟩:=hE.qh _ _ _ _ _ hqh φ w _ bK.here.bd cG hr;refine⟨q1,(q2 n).mono ?_⟩;rintro e w' ⟨v',rfl,hv,gG⟩;obtain⟨g1,g2⟩:=gG.ok hr;exact⟨φ,v',rfl,g2,hv,g1⟩
 split at hs
 ·rename_i r heh
  simp only[aop]at hs;subst hs;obtain⟨q1,q2⟩:=hE.eh _ _ _ _ _ heh φ w _ cG hr;refine⟨q1,(q2 n).mono ?_⟩;rintro e w' ⟨af,v',rfl,hx,hv,cM⟩;exact⟨af,v',rfl,hx,hv,cM⟩
 split at hs
 ·rename_i r heh
  simp only[aop]at hs;subst hs;obtain⟨q1,q2⟩:=hE.xh _ _ _ _ _ _ heh φ w _ bK.here.xt cG hr;refine⟨q1,(q2 n).mono ?_⟩;rintro e w' ⟨af,v',rfl,hx,hv,cM⟩;exact⟨af,v',rfl,hx,hv,cM⟩
 exact pI hE hX _ _ _ _ _ hs φ args' w n hg bK cG hr
end
end
section
noncomputable section
variable {D:List Deferred}
theorem HR.getLoop{P:Program}{φ:Ren}{h:H}{w:World}(hr:HR φ h w){l r:Nat}(hl:φ l=some r){st:LoopState}{kF:Option Code}{fr:Fr}{ps:Array Tmp}{arA bd:Code}{df:Nat}(hg:h.get l=.loop st kF fr ps arA bd df):
  ∃fn tmps d,(Instr.getLoop r).run P w=.ok {state:=st,pending:=kF,fn,tmps,params:=ps,assign:=arA,body:=bd,defers:=d} w/\w.heap[r]? =some (.loop {state:=st,pending:=kF,fn,tmps,params:=ps,assign:=arA,body:=bd,defers:=d})/\FR φ fr tmps/\φ df=some d:=by
 obtain⟨o,h1,h2⟩:=hr.ew l r hl (by rw[hg];trivial);rw[hg]at h2;obtain⟨fn,tmps,d,rfl,h3,h4⟩:=h2;exact⟨fn,tmps,d,by simp[Instr.getLoop,getObj,Sem.run,h1],h1,h3,h4⟩
theorem HR.ua{P:Program}{φ:Ren}{h:H}{w:World}(hr:HR φ h w){l r:Nat}(hl:φ l=some r){st:LoopState}{kF:Option Code}{fr:Fr}{ps:Array Tmp}{arA bd:Code}{df:Nat}(hg:h.get l=.loop st kF fr ps arA bd df)
  {fn:FuncId}{tmps:Array Value}{d:Nat}(ho:w.heap[r]? =some (.loop {state:=st,pending:=kF,fn,tmps,params:=ps,assign:=arA,body:=bd,defers:=d}))(hf:FR φ fr tmps)(hd:φ df=some d)(st':LoopState)(zO:Option Code):
  ∃w',(setObj r (.loop {state:=st',pending:=zO,fn,tmps,params:=ps,assign:=arA,body:=bd,defers:=d})).run P w=.ok () w'/\HR φ (h.set l (.loop st' zO fr ps arA bd df)) w'/\Ext φ w φ w':=by
 have bf:=(hr.lM l r hl).2;let w':World:={w with heap:=w.heap.setIfInBounds r (.loop {state:=st',pending:=zO,fn,tmps,params:=ps,assign:=arA,body:=bd,defers:=d})};have hT:=hr.turn (w':=w') (.loop st' zO fr ps arA bd df) (.loop {state:=st',pending:=zO,fn,tmps,params:=ps,assign:=arA,body:=bd,defers:=d}) hl (by rw[hg];trivial) ⟨fn,tmps,d,rfl,hf,hd⟩
  (by simp[w']) (by simp[w',bf]) (fun s hs=>by simp[w',arL (Ne.symm hs)]) rfl rfl rfl
 exact⟨w',by simp[setObj,Sem.run,ho,w'],hT.1,hT.2⟩
theorem Cu{φ:Ren}:∀(ts:List Tmp) (vs:List V) (xD:List Value) (fr cQ:Fr) (tmps:Array Value),J φ vs xD->FR φ fr tmps->sA fr ts vs=some cQ->ts.length=xD.length/\
  FR φ cQ ((ts.zip xD).foldl (fun(tm:Array Value) (x:Tmp×Value)=>tm.setIfInBounds x.1 x.2) tmps)
 |[],[],xD,fr,cQ,tmps,hv,hf,h=>by
  simp only[J]at hv;subst hv;simp only[sA,aop]at h;subst h;exact⟨rfl,hf⟩
 |[],_::_,_,_,_,_,_,_,h=>by simp[sA]at h
 |_::_,[],_,_,_,_,_,_,h=>by simp[sA]at h
 |t::ts,v::vs,xD,fr,cQ,tmps,hv,hf,h=>by
  simp only[J]at hv;obtain⟨y,ys,rfl,h1,h2⟩:=hv;simp only[sA]at h;cases bf:arF t fr.n with
  |false=>rw[bf]at h;cases h
  |true=>
   rw[bf]at h;simp only[cond]at h;have wz:FR φ (fr.set t v) (tmps.setIfInBounds t y):=by
    rcases hf.set t h1 with g|g
    ·exact g
    ·have:=bh.1 bf;omega
   obtain⟨h3,h4⟩:=Cu ts vs ys (fr.set t v) cQ (tmps.setIfInBounds t y) h2 wz h;exact⟨by simp[h3],by simpa using h4⟩
theorem gX(hX:DD E ex):qC E (mh ex):=by
 intro l args h v h' hs φ args' w n ro r hg bK cG hr hl;unfold mh at hs;split at hs
 ·rename_i st kF fr ps arA bd df hlp
  obtain⟨fn,tmps,d,dZ,ho,hf,hd⟩:=hr.getLoop (P:=E.P) hl hlp;split at hs
  ·rename_i tC aog
   obtain⟨hlen,V6⟩:=Cu ps.toList args args' fr tC tmps cG hf aog;refine⟨fn,(ps.toList.zip args').foldl (fun(tm:Array Value) (x:Tmp×Value)=>tm.setIfInBounds x.1 x.2) tmps,arA,bd,?_,?_⟩
   ·have ed:args'.length=ps.size:=by rw[<-hlen];simp
    have PC:(ps.zip args'.toArray).foldl (fun(tm:Array Value) (x:Tmp×Value)=>tm.setIfInBounds x.1 x.2) tmps=(ps.toList.zip args').foldl (fun(tm:Array Value) (x:Tmp×Value)=>tm.setIfInBounds x.1 x.2) tmps:=by
     rw[<-Array.foldl_toList,Array.toList_zip]
    simp only[Instr.yield,arG,dZ,arD];rw[if_neg (by simp[ed])];simp only[pure_bind,arE];rw[<-PC]
   ·split at hs
    ·rename_i Cr h1 aoh
     refine roundIn_of_wpIn trivial ?_;have hwp:=hX (some l) arA tC [] h .n Cr [] h1 aoh φ {tmps:=(ps.toList.zip args').foldl (fun(tm:Array Value) (x:Tmp×Value)=>tm.setIfInBounds x.1 x.2) tmps,defers:=[]} w (some r) n hg bK ⟨r,rfl,hl⟩ V6 rfl hr;refine wpIn_mono hwp ?_;rintro e a1 w1 ⟨ay,oX,rfl,vH,iM,lH⟩;have lS:=(oX.le l r hl).1;split at hs
     ·rename_i zO cQ ps' as' dU df' ahW
      obtain⟨fn1,arc,d1,ahX,Qk,aoi,aoj⟩:=lH.getLoop (P:=E.P) lS ahW;obtain⟨w2,fa,vJ,E9⟩:=lH.ua (P:=E.P) lS ahW Qk aoi aoj .busy zO;refine⟨w2,?_,?_⟩
      ·simp[Instr.beginRound,ahX,fa]
      ·split at hs
       ·rename_i x frx aok h2 aol
        have aom:=hX (some l) bd Cr [] _ x frx aok h2 aol ay a1 w2 (some r) n (hg.mono oX.le) (bK.mono oX.le) ⟨r,rfl,lS⟩ vH iM vJ;refine wpIn_mono aom ?_;rintro e a3 w3 ⟨eH,NI,rfl,hf3,gJ,zP⟩;have Ql:=(NI.le l r lS).1;have hxx:Ext φ w eH w3:=oX.trans (E9.trans NI);split at hs
        ·rename_i st3 ard fr3 ps3 as3 bd3 df3 V7
         obtain⟨fn3,arf,d3,Qm,ho3,abw,abx⟩:=zP.getLoop (P:=E.P) Ql V7;cases x with
         |n=>
          simp only[aop,AAA]at hs;obtain⟨rfl,rfl⟩:=hs;obtain⟨w4,FT,pJ,V8⟩:=zP.ua (P:=E.P) Ql V7 ho3 abw abx .ready none;exact⟨.bool true,w4,by simp[arQ,Qm,FT],eH,.bool true,rfl,hxx.trans V8,by simp only[VR],pJ⟩
         |r=>
          simp only[aop,AAA]at hs;obtain⟨rfl,rfl⟩:=hs;obtain⟨w4,FT,pJ,V8⟩:=zP.ua (P:=E.P) Ql V7 ho3 abw abx .done (some .ret);exact⟨.bool false,w4,by simp[arQ,Qm,FT],eH,.bool false,rfl,hxx.trans V8,by simp only[VR],pJ⟩
         |e id=>
          simp only[aop,AAA]at hs;obtain⟨rfl,rfl⟩:=hs;obtain⟨w4,FT,pJ,V8⟩:=zP.ua (P:=E.P) Ql V7 ho3 abw abx .done (some (.exit id));exact⟨.bool false,w4,by simp[arQ,Qm,FT],eH,.bool false,rfl,hxx.trans V8,by simp only[VR],pJ⟩
        ·cases hs
       ·cases hs
     ·cases hs
    ·cases hs
  ·cases hs
 ·cases hs
theorem rD{F:Fence}{n:Nat}{P:Program}{c:Code}{Q Q':Exit->Act->World->Prop}(hq:∀e a w,Q e a w->Q' e a w):∀(m:Nat) (a:Act) (w:World),arU F n P c Q m a w->arU F n P c Q' m a w
 |0,_,_,h=>h
 |m+1,a,w,h=>wpIn_mono h fun e a' w' he=>by
  cases e with
  |normal=>exact rD hq m a' w' he
  |_=>exact hq _ _ _ he
theorem rE{E:Env}{φ:Ren}{w:World}{l:Nat}{fr:Fr}{ds:List Nat}{h:H}{x:X}{cQ:Fr}{vF:List Nat}{h':H}(hs:nQ l fr ds h=some (x,cQ,vF,h'))
  {af:Ren}{w':World}(hx:Ext φ w af w')(hr:HR af h w'){r:Nat}(hl:af l=some r){a':Act}(hf:FR af fr a'.tmps)(hd:DR D af ds a'.defers)(ro:Option Nat)(n:Nat):
  ∃jump aby,(arT r).run E.P w'=.ok jump aby/\
   (match jump with
   |none=>xQ D φ w x cQ vF h' .normal a' aby
   |some c=>c.wpIn (W ro) n E.P (xQ D φ w x cQ vF h') a' aby):=by
 unfold nQ at hs;split at hs
 ·rename_i st kF Dz ps arA bd df hlp
  obtain⟨fn,tmps,d,dZ,ho,hff,xN⟩:=hr.getLoop (P:=E.P) hl hlp;obtain⟨w4,fa,pJ,V8⟩:=hr.ua (P:=E.P) hl hlp ho hff xN .exhausted kF;split at hs
  ·cases hs
  ·rename_i Za
   have bB:¬(st==LoopState.busy)=true:=fun e=>Za (by simpa using e)
   have aon:(arT r).run E.P w'=.ok kF w4:=by
    simp only[arT,arG,dZ,arD];rw[if_neg bB];simp[fa]
   refine⟨kF,w4,aon,?_⟩;split at hs
   ·simp only[aop,AAA]at hs
    obtain⟨rfl,rfl,rfl,rfl⟩:=hs;exact⟨af,hx.trans V8,rfl,hf,hd,pJ⟩
   ·simp only[aop,AAA]at hs
    obtain⟨rfl,rfl,rfl,rfl⟩:=hs;exact wpIn_ret ⟨af,hx.trans V8,rfl,hf,hd,pJ⟩
   ·simp only[aop,AAA]at hs
    obtain⟨rfl,rfl,rfl,rfl⟩:=hs;exact wpIn_exit ⟨af,hx.trans V8,rfl,hf,hd,pJ⟩
   ·cases hs
 ·cases hs
theorem NJ{E:Env}{call:dJ}(hC:pD E call){ro:Option Nat}{g:Operand}{ps:Array Tmp}{arA bd:Code}{fr:Fr}{ds:List Nat}{h:H}{x:X}{cQ:Fr}{vF:List Nat}{h':H}
  (hs:DC E call ro g ps arA bd fr ds h=some (x,cQ,vF,h')){φ:Ren}{a:Act}{w:World}{yM:Option Nat}{n:Nat}(hg:GL E.ng φ)(bK:BD E φ)(vG:RO φ ro yM)(hf:FR φ fr a.tmps)(hd:DR D φ ds a.defers)(hr:HR φ h w):
  (Code.rangeFunc g ps arA bd).wpIn (W yM) n E.P (xQ D φ w x cQ vF h') a w:=by
 unfold DC at hs;have so:=ry hg hf g;split at hs
 ·rename_i gf first im hgv
  rw[hgv]at so;simp only[VR]at so;obtain⟨eu,fY,hv,h1,h2⟩:=so;refine wpIn_rangeFunc fun fn _=> ?_
  cases ro with
  |none=>
   simp only[RO]at vG;subst vG;simp only[]at hs;split at hs
   ·rename_i v0 h3 ib
    have hA:=hr.alloc 0 .O0 (.deferred (some [])) rfl;have aoo:Le φ (up φ h.n w.heap.size 0):=jr hr.fresh;let ay:=up φ h.n w.heap.size 0;let w1:World:={w with heap:=w.heap.push (.deferred (some []))};have hdn:ay h.n=some w.heap.size:=by simp[ay,up]
    let lp:Loop:={state:=.ready,pending:=none,fn,tmps:=a.tmps,params:=ps,assign:=arA,body:=bd,defers:=w.heap.size};have V9:∀s,ay (h.new .O0).n≠some s:=hA.1.fresh
    have FU:Le ay (up ay (h.new .O0).n w1.heap.size 0):=jr V9;have hB:=hA.1.alloc 0 (.loop .ready none fr ps arA bd h.n) (.loop lp) ⟨fn,a.tmps,w.heap.size,rfl,(hf.mono aoo).mono FU,(FU _ _ hdn).1⟩;let aV:=up ay (h.new .O0).n w1.heap.size 0;let w2:World:={w1 with heap:=w1.heap.push (.loop lp)};have E9:Ext φ w aV w2:=hA.2.trans hB.2;have E8:aV (h.n+1)=some w1.heap.size:=by simp[aV,up]
    have hw1:w1.heap.size=w.heap.size+1:=by simp[w1]
    have cG:J aV (first++[.yl (h.n+1)]++im) (eu.toList++[arC (.yield w1.heap.size) #[] #[]]++fY.toList):=
     ((J.mono E9.le _ _ h1).append (J.cons (by simp only[VR];exact⟨_,E8,rfl⟩) J.nil)).append (J.mono E9.le _ _ h2)
    obtain⟨⟨fn',cd,lF,pE,jN⟩,eF⟩:=hC _ _ _ _ _ ib aV _ w2 (n-1) (hg.mono E9.le) (bK.mono E9.le) cG hB.1;have nP:¬fn'.name= "runtime.NumGoroutine" :=by simpa using jN
    refine⟨w1.heap.size,[{target:=.collected w.heap.size,args:=#[]}],w2,{target:=.fn (.func gf) fY,args:=eu++#[arC (.yield w1.heap.size) #[] #[]]},w2,gf,eu++#[arC (.yield w1.heap.size) #[] #[]]++fY,w2,?_,?_,fun _ _=>trivial,?_,(fun hd=>(by cases hd)),?_⟩
    ·simp[Instr.enterLoop,W,w1,w2,lp]
    ·have hm:(#[Operand.const (arC (.yield w1.heap.size) #[] #[])]:Array Operand).map a.eval=#[arC (.yield w1.heap.size) #[] #[]]:=by simp[Act.eval]
     simp only[resolve,rangeCall,hv,Deferred.ofValue,arE,hm]
    ·simp[invoke,callFunc,lF,pE,nP]
    ·have mJ:(eu.toList++[arC (.yield w1.heap.size) #[] #[]]++fY.toList).toArray=eu++#[arC (.yield w1.heap.size) #[] #[]]++fY:=by
      apply Array.ext';simp
     rw[mJ]at eF;refine(IG (ro:=none) eF).mono ?_;rintro e w3 ⟨eH,v3,rfl,NI,_,zP⟩;have IU:=E9.le.trans NI.le;exact rE hs (E9.trans NI) zP (NI.le _ _ E8).1 (a':={a with defers:=[{target:=.collected w.heap.size,args:=#[]}]++a.defers}) (hf.mono IU)
      ⟨w.heap.size,a.defers,rfl,((FU.trans NI.le) _ _ hdn).1,hd.mono IU⟩ none n
   ·cases hs
  |some l0=>
   obtain⟨r0,rfl,Fa⟩:=vG;simp only[]at hs;split at hs
   ·rename_i st0 arh Dz ps0 as0 bd0 df aoq
    obtain⟨fn0,ari,d0,Cv,ho0,arp,aor⟩:=hr.getLoop (P:=E.P) Fa aoq;split at hs
    ·rename_i v0 h3 ib
     let lp:Loop:={state:=.ready,pending:=none,fn,tmps:=a.tmps,params:=ps,assign:=arA,body:=bd,defers:=d0};have FU:Le φ (up φ h.n w.heap.size 0):=jr hr.fresh;have hB:=hr.alloc 0 (.loop .ready none fr ps arA bd df) (.loop lp) ⟨fn,a.tmps,d0,rfl,hf.mono FU,(FU _ _ aor).1⟩;let aV:=up φ h.n w.heap.size 0;let w2:World:={w with heap:=w.heap.push (.loop lp)};have E9:Ext φ w aV w2:=hB.2;have E8:aV h.n=some w.heap.size:=by simp[aV,up]
     have cG:J aV (first++[.yl h.n]++im) (eu.toList++[arC (.yield w.heap.size) #[] #[]]++fY.toList):=
      ((J.mono E9.le _ _ h1).append (J.cons (by simp only[VR];exact⟨_,E8,rfl⟩) J.nil)).append (J.mono E9.le _ _ h2)
     obtain⟨⟨fn',cd,lF,pE,jN⟩,eF⟩:=hC _ _ _ _ _ ib aV _ w2 (n-1) (hg.mono E9.le) (bK.mono E9.le) cG hB.1;have nP:¬fn'.name= "runtime.NumGoroutine" :=by simpa using jN
     refine⟨w.heap.size,[],w2,{target:=.fn (.func gf) fY,args:=eu++#[arC (.yield w.heap.size) #[] #[]]},w2,gf,eu++#[arC (.yield w.heap.size) #[] #[]]++fY,w2,?_,?_,fun _ _=>trivial,?_,(fun hd=>(by cases hd)),?_⟩
     ·simp[Instr.enterLoop,W,Cv,w2,lp]
     ·have hm:(#[Operand.const (arC (.yield w.heap.size) #[] #[])]:Array Operand).map a.eval=#[arC (.yield w.heap.size) #[] #[]]:=by simp[Act.eval]
      simp only[resolve,rangeCall,hv,Deferred.ofValue,arE,hm]
     ·simp[invoke,callFunc,lF,pE,nP]
     ·have mJ:(eu.toList++[arC (.yield w.heap.size) #[] #[]]++fY.toList).toArray=eu++#[arC (.yield w.heap.size) #[] #[]]++fY:=by
       apply Array.ext';simp
      rw[mJ]at eF;refine(IG (ro:=some r0) eF).mono ?_;rintro e w3 ⟨eH,v3,rfl,NI,_,zP⟩;have IU:=E9.le.trans NI.le;exact rE hs (E9.trans NI) zP (NI.le _ _ E8).1 (a':={a with defers:=[]++a.defers}) (hf.mono IU) (by simpa using hd.mono IU) (some r0) n
    ·cases hs
   ·cases hs
 ·cases hs
end
end
section
noncomputable section
variable {D:List Deferred}
def Qn(E:Env)(ex:k8)(k:Nat):Prop:=∀{D:List Deferred} ro b fr ds h x cQ vF h',ex ro (.loop b) fr ds h=some (x,cQ,vF,h')->∀φ a w yM n,GL E.ng φ->BD E φ->RO φ ro yM->FR φ fr a.tmps->DR D φ ds a.defers->HR φ h w->
 arU (W yM) n E.P b (xQ D φ w x cQ vF h') k a w
theorem cV{E:Env}(hE:E.OK):∀k,DD E (exec E k)/\Qn E (exec E k) k
 |0=>⟨fun _ _ _ _ _ _ _ _ _ h=>by simp[Ct]at h,fun _ _ _ _ _ _ _ _ _ h=>by simp[Ct]at h⟩
 |k+1=>by
  obtain⟨O4,ihL⟩:=cV hE k;have hC:=gq hE O4;have hY:=gX O4;have Zj:Qn E (exec E (k+1)) (k+1):=by
   intro D ro b fr ds h x cQ vF h' hs φ a w yM n hg bK vG hf hd hr;simp only[dD,db,dE,eG,fo,fp,gp,fu,eL,fv,eM,eN,fw,dQ]at hs;rw[roundsIn_succ];split at hs
   ·rename_i tC ds1 h1 hex
    refine wpIn_mono (O4 _ _ _ _ _ _ _ _ _ hex φ a w yM n hg bK vG hf hd hr) ?_;rintro e a1 w1 ⟨ay,oX,rfl,vH,iM,lH⟩;have:=ihL _ _ _ _ _ _ _ _ _ hs ay a1 w1 yM n (hg.mono oX.le) (bK.mono oX.le) (vG.mono oX.le) vH iM lH;exact rD (fun e a w hp=>hp.back oX) k a1 w1 this
   ·rename_i r bU
    refine wpIn_mono (O4 _ _ _ _ _ _ _ _ _ hs φ a w yM n hg bK vG hf hd hr) ?_;rintro e a1 w1 hp;have tD:=hp;obtain⟨ay,oX,rfl,vH,iM,lH⟩:=hp;cases x with
    |n=>exact absurd hs (bU _ _ _)
    |e id=>exact tD
    |r=>exact tD
  refine⟨?_,Zj⟩;intro D ro c fr ds h x cQ vF h' hs φ a w yM n hg bK vG hf hd hr;cases c with
  |skip=>
   simp only[dD,db,dE,eG,aop,AAA]at hs;obtain⟨rfl,rfl,rfl,rfl⟩:=hs;exact wpIn_skip ⟨φ,Ext.refl φ w,rfl,hf,hd,hr⟩
  |label l=>
   simp only[dD,db,dE,eG,aop,AAA]at hs;obtain⟨rfl,rfl,rfl,rfl⟩:=hs;exact wpIn_label ⟨φ,Ext.refl φ w,rfl,hf,hd,hr⟩
  |exit id=>
   simp only[dD,db,dE,eG,aop,AAA]at hs;obtain⟨rfl,rfl,rfl,rfl⟩:=hs;exact wpIn_exit ⟨φ,Ext.refl φ w,rfl,hf,hd,hr⟩
  |ret=>
   simp only[dD,db,dE,eG,aop,AAA]at hs;obtain⟨rfl,rfl,rfl,rfl⟩:=hs;exact wpIn_ret ⟨φ,Ext.refl φ w,rfl,hf,hd,hr⟩
  |region id ops draw=>
   cases draw with
   |true=>
    simp only[dD,db,dE,eG,fo,fp,gp,fu,eL,fv,eM,eN,fw,dQ]at hs;split at hs
    ·rename_i tC h1 abz
     simp only[aop,AAA]at hs;obtain⟨rfl,rfl,rfl,rfl⟩:=hs;obtain⟨p,hp1,xR⟩:=Ln FN abz;refine VZ hE hE.mixed hC hY p yM n id hg bK hf hr fun af a' w' hx wz cy cM=> ?_
     rw[hp1]at wz;rw[xR]at cM;exact⟨af,hx,rfl,wz,by rw[cy];exact hd.mono hx.le,cM⟩
    ·cases hs
   |false=>
    simp only[dD,db,dE,eG,fo,fp,gp,fu,eL,fv,eM,eN,fw,dQ]at hs;split at hs
    ·rename_i tC h1 abz
     simp only[aop,AAA]at hs;obtain⟨rfl,rfl,rfl,rfl⟩:=hs;refine wpIn_region_list (tP hE hC hY ops yM n ops.toList fr h tC h1 abz φ a w hg bK hf hr fun af a' w' hx wz cy cM=> ?_);exact⟨af,hx,rfl,wz,by rw[cy];exact hd.mono hx.le,cM⟩
    ·cases hs
  |seq p q=>
   simp only[dD,db,dE,eG,fo,fp,gp,fu,eL,fv,eM,eN,fw,dQ]at hs;refine wpIn_seq ?_;split at hs
   ·rename_i tC ds1 h1 hex
    refine wpIn_mono (O4 _ _ _ _ _ _ _ _ _ hex φ a w yM n hg bK vG hf hd hr) ?_;rintro e a1 w1 ⟨ay,oX,rfl,vH,iM,lH⟩;exact wpIn_mono (O4 _ _ _ _ _ _ _ _ _ hs ay a1 w1 yM n (hg.mono oX.le) (bK.mono oX.le) (vG.mono oX.le) vH iM lH) fun e a w hp=>hp.back oX
   ·rename_i r bU
    refine wpIn_mono (O4 _ _ _ _ _ _ _ _ _ hs φ a w yM n hg bK vG hf hd hr) ?_;rintro e a1 w1 hp;have tD:=hp;obtain⟨ay,oX,rfl,vH,iM,lH⟩:=hp;cases x with
    |n=>exact absurd hs (bU _ _ _)
    |e id=>exact tD
    |r=>exact tD
  |cond c p q=>
   simp only[dD,db,dE,eG,fo,fp,gp,fu,eL,fv,eM,eN,fw,dQ]at hs;have hv:=ry hg hf c;split at hs
   ·rename_i e;rw[e]at hv;simp only[VR]at hv
    exact wpIn_cond_true hv (O4 _ _ _ _ _ _ _ _ _ hs φ a w yM n hg bK vG hf hd hr)
   ·rename_i e;rw[e]at hv;simp only[VR]at hv
    exact wpIn_cond_false hv (O4 _ _ _ _ _ _ _ _ _ hs φ a w yM n hg bK vG hf hd hr)
   ·cases hs
  |block id b=>
   simp only[dD,db,dE,eG,fo,fp,gp,fu,eL,fv,eM,eN,fw,dQ]at hs;refine wpIn_block ?_;split at hs
   ·rename_i j tC ds1 h1 hex
    refine wpIn_mono (O4 _ _ _ _ _ _ _ _ _ hex φ a w yM n hg bK vG hf hd hr) ?_;rintro e a1 w1 ⟨ay,oX,rfl,vH,iM,lH⟩;simp only[X.exit,Exit.inBlock];cases hj:arM j id with
    |true=>
     rw[hj]at hs;simp only[cond,aop,AAA]at hs;obtain⟨rfl,rfl,rfl,rfl⟩:=hs;rw[if_pos (arK hj)];exact⟨ay,oX,rfl,vH,iM,lH⟩
    |false=>
     rw[hj]at hs;simp only[cond,aop,AAA]at hs;obtain⟨rfl,rfl,rfl,rfl⟩:=hs;rw[if_neg (fun e=>by rw[e,Nat.beq_refl]at hj;cases hj)];exact⟨ay,oX,rfl,vH,iM,lH⟩
   ·rename_i r bU
    refine wpIn_mono (O4 _ _ _ _ _ _ _ _ _ hs φ a w yM n hg bK vG hf hd hr) ?_;rintro e a1 w1 hp;have tD:=hp;obtain⟨ay,oX,rfl,vH,iM,lH⟩:=hp;cases x with
    |n=>exact tD
    |e j=>exact absurd hs (bU _ _ _ _)
    |r=>exact tD
  |loop b=>exact wpIn_loop_rounds (k+1) (Zj _ _ _ _ _ _ _ _ _ hs φ a w yM n hg bK vG hf hd hr)
  |rangeFunc g ps arA bd=>
   simp only[dD,db,dE,eG,fo,fp,gp,fu,eL,fv,eM,eN,fw,dQ]at hs;exact NJ hC hs hg bK vG hf hd hr
  |scope b=>
   simp only[dD,db,dE,eG,fo,fp,gp,fu,eL,fv,eM,eN,fw,dQ]at hs;refine IQ (wpIn_mono (O4 _ _ _ _ _ _ _ _ _ hs φ a w yM n hg bK vG hf hd hr) ?_);rintro e a1 w1 hp;have tD:=hp;obtain⟨ay,oX,rfl,vH,iM,lH⟩:=hp;exact⟨fun l=>by cases x<;>simp[X.exit],tD⟩
  |goto l=>simp only[dD,db,dE,eG,fo,fp,gp,fu,eL,fv,eM,eN,fw,dQ]at hs;cases hs
  |refuse s=>simp only[dD,db,dE,eG,fo,fp,gp,fu,eL,fv,eM,eN,fw,dQ]at hs;cases hs
end
end
end Go.Ev
namespace Go.Ev
open Option.some renaming injEq->aop
open Prod.mk renaming injEq->AAA
open Value renaming func->arC
open Result renaming andThen_ok->arD
open Sem renaming run_pure->arE,run_bind->arG
open Nat renaming blt->arF,zero_add->arH,eq_of_beq_eq_true->arK,beq->arM,lt_or_ge->arY
open Option renaming map_eq_some_iff->arI,map_some->arN
open List renaming getElem?_cons_succ->arJ,getD_eq_getElem?_getD->arR,getElem?_cons_zero->arV,length_eq_one_iff->arW,take_succ_cons->arZ,range->asa
open _root_.Array renaming getElem?_setIfInBounds_ne->arL,replicate->arP,getElem?_eq_getElem->arS,getElem?_toList->arX
open Bool renaming and_eq_true->arO
open Instr renaming endRound->arQ,endLoop->arT
open Code renaming roundsIn->arU
open Go.Proofs
theorem DG{P:Program}{t:TypeId}{i:TypeInfo}(h:P.types[t]? =some i):P.info? t=some i:=by
 have bf:t<P.types.size:=(Array.getElem?_eq_some_iff.1 h).1;unfold Tables.info?;rw[if_pos bf];exact h
theorem Qo{α β:Type}{f:Nat->β}{g:α->β}{l:List α}{n:Nat}(h:(asa n).map f=l.map g){t:Nat}(ht:t<n):∃a,l[t]? =some a/\g a=f t:=by
 have e:=congrArg (·[t]?) h;simp only[List.getElem?_map,List.getElem?_range ht,arN]at e;exact arI.1 e.symm
def Qp(P:Program)(i:TypeInfo):Option TypeDesc:=match i.desc with
 |.named _ u=>(P.types[u]?).map (·.desc)
 |d=>some d
theorem Qr{P:Program}{t:TypeId}{i:TypeInfo}{d:TypeDesc}(h:P.types[t]? =some i)(hu:Qp P i=some d):P.underlying t=some d:=by
 unfold Program.underlying;rw[DG h];unfold Qp at hu;split at hu
 ·rename_i n u hd
  obtain⟨j,hj,rfl⟩:=arI.1 hu;obtain⟨_⟩:=i;subst hd;simp only[DG hj];rfl
 ·rename_i hn
  obtain⟨_⟩:=i;cases hu;split
  ·rename_i e;cases e;exact absurd rfl (hn _ _)
  ·rename_i e;cases e;rfl
  ·rename_i e;cases e
namespace Tb
open Tryz
abbrev FV:=Option (TypeInfo×TypeDesc)
def ao{α:Type}(l:T α)(v:α)(r:T α):T α:=.node l v r
def ey{α:Type}:T α:=.leaf
def jF(a b:TypeInfo):FV:=some (a,b.desc)
def aX(a:TypeInfo):FV:=some (a,a.desc)
def pK(a b:TypeInfo):T FV:=.node .leaf (jF a b) .leaf
def bA(a:TypeInfo):T FV:=.node .leaf (aX a) .leaf
def bw(a:Func):T (Option Func):=.node .leaf (some a) .leaf
noncomputable def abA:T FV:=(ao (ao (ao (ao (ao (ao (bA t511) (aX t255) ey) (aX t127) (bA t383)) (aX t63) (ao (ao (bA t575) (aX t319) ey) (aX t191) (bA t447))) (aX t31) (ao (ao (ao (pK t543 t542) (aX t287) ey) (jF t159 t158) (bA t415)) (aX t95) (ao (bA t351) (aX t223) (pK t479 t478)))) (aX t15) (ao (ao (ao (ao (bA t527) (aX t271) ey) (aX t143) (bA t399)) (aX t79) (ao (bA t335) (aX t207) (pK t463 t462))) (jF t47 t46) (ao (ao (ao (bA t559) (aX t303) ey) (aX t175) (bA t431)) (aX t111) (ao (bA t367) (aX t239) (bA t495))))) (aX t7) (ao (ao (ao (ao (ao (bA t519) (aX t263) ey) (aX t135) (bA t391)) (jF t71 t70) (ao (bA t327) (aX t199) (bA t455))) (aX t39) (ao (ao (ao (bA t551) (aX t295) ey) (jF t167 t166) (bA t423)) (aX t103) (ao (bA t359) (aX t231) (bA t487)))) (aX t23) (ao (ao (ao (ao (bA t535) (aX t279) ey) (aX t151) (bA t407)) (aX t87) (ao (bA t343) (aX t215) (bA t471))) (aX t55) (ao (ao (ao (bA t567) (aX t311) ey) (aX t183) (bA t439)) (aX t119) (ao (bA t375) (aX t247) (bA t503))))))
noncomputable def abB:T FV:=(ao (ao (ao (ao (ao (ao (bA t515) (aX t259) ey) (aX t131) (bA t387)) (aX t67) (ao (bA t323) (aX t195) (bA t451))) (aX t35) (ao (ao (ao (bA t547) (aX t291) ey) (aX t163) (bA t419)) (aX t99) (ao (bA t355) (aX t227) (bA t483)))) (jF t19 t18) (ao (ao (ao (ao (bA t531) (aX t275) ey) (aX t147) (bA t403)) (aX t83) (ao (bA t339) (aX t211) (bA t467))) (jF t51 t50) (ao (ao (ao (bA t563) (aX t307) ey) (aX t179) (bA t435)) (aX t115) (ao (bA t371) (aX t243) (pK t499 t498))))) (jF t11 t9) (ao (ao (ao (ao (ao (bA t523) (jF t267 t9) ey) (jF t139 t138) (bA t395)) (aX t75) (ao (bA t331) (aX t203) (bA t459))) (jF t43 t42) (ao (ao (ao (pK t555 t5) (aX t299) ey) (aX t171) (bA t427)) (aX t107) (ao (pK t363 t362) (aX t235) (bA t491)))) (aX t27) (ao (ao (ao (ao (bA t539) (aX t283) ey) (aX t155) (bA t411)) (jF t91 t90) (ao (bA t347) (aX t219) (bA t475))) (aX t59) (ao (ao (ao (bA t571) (aX t315) ey) (aX t187) (bA t443)) (aX t123) (ao (pK t379 t12) (aX t251) (bA t507))))))
noncomputable def ahY:T FV:=(ao abA (aX t3) abB)
noncomputable def abC:T FV:=(ao (ao (ao (ao (ao (ao (bA t513) (aX t257) ey) (aX t129) (bA t385)) (aX t65) (ao (bA t321) (aX t193) (bA t449))) (aX t33) (ao (ao (ao (bA t545) (aX t289) ey) (aX t161) (bA t417)) (aX t97) (ao (bA t353) (aX t225) (bA t481)))) (aX t17) (ao (ao (ao (ao (bA t529) (aX t273) ey) (aX t145) (bA t401)) (aX t81) (ao (bA t337) (aX t209) (pK t465 t464))) (aX t49) (ao (ao (ao (bA t561) (jF t305 t304) ey) (aX t177) (bA t433)) (aX t113) (ao (bA t369) (aX t241) (bA t497))))) (aX t9) (ao (ao (ao (ao (ao (bA t521) (aX t265) ey) (aX t137) (bA t393)) (jF t73 t72) (ao (bA t329) (aX t201) (bA t457))) (aX t41) (ao (ao (ao (pK t553 t552) (aX t297) ey) (aX t169) (bA t425)) (aX t105) (ao (bA t361) (aX t233) (bA t489)))) (jF t25 t24) (ao (ao (ao (ao (bA t537) (aX t281) ey) (aX t153) (bA t409)) (aX t89) (ao (bA t345) (aX t217) (bA t473))) (aX t57) (ao (ao (ao (bA t569) (aX t313) ey) (aX t185) (bA t441)) (aX t121) (ao (bA t377) (jF t249 t248) (bA t505))))))
noncomputable def abD:T FV:=(ao (ao (ao (ao (ao (ao (bA t517) (aX t261) ey) (aX t133) (bA t389)) (jF t69 t68) (ao (pK t325 t3) (aX t197) (bA t453))) (aX t37) (ao (ao (ao (bA t549) (jF t293 t292) ey) (aX t165) (bA t421)) (jF t101 t100) (ao (bA t357) (aX t229) (bA t485)))) (aX t21) (ao (ao (ao (ao (bA t533) (aX t277) ey) (aX t149) (bA t405)) (aX t85) (ao (bA t341) (aX t213) (bA t469))) (aX t53) (ao (ao (ao (pK t565 t564) (aX t309) ey) (aX t181) (bA t437)) (aX t117) (ao (bA t373) (aX t245) (bA t501))))) (aX t13) (ao (ao (ao (ao (ao (bA t525) (jF t269 t268) ey) (aX t141) (bA t397)) (aX t77) (ao (bA t333) (aX t205) (bA t461))) (aX t45) (ao (ao (ao (pK t557 t21) (aX t301) ey) (aX t173) (bA t429)) (jF t109 t108) (ao (bA t365) (aX t237) (bA t493)))) (jF t29 t28) (ao (ao (ao (ao (bA t541) (aX t285) ey) (aX t157) (bA t413)) (jF t93 t92) (ao (bA t349) (aX t221) (bA t477))) (aX t61) (ao (ao (ao (bA t573) (aX t317) ey) (aX t189) (bA t445)) (aX t125) (ao (pK t381 t380) (aX t253) (pK t509 t508))))))
noncomputable def ahZ:T FV:=(ao abC (aX t5) abD)
noncomputable def abE:T FV:=(ao (ao (ao (ao (ao (ao (bA t512) (jF t256 t255) ey) (jF t128 t127) (pK t384 t383)) (aX t64) (ao (bA t320) (aX t192) (bA t448))) (jF t32 t3) (ao (ao (ao (bA t544) (aX t288) ey) (aX t160) (bA t416)) (jF t96 t95) (ao (pK t352 t351) (aX t224) (bA t480)))) (aX t16) (ao (ao (ao (ao (bA t528) (aX t272) ey) (aX t144) (bA t400)) (aX t80) (ao (bA t336) (aX t208) (bA t464))) (aX t48) (ao (ao (ao (pK t560 t559) (aX t304) ey) (aX t176) (bA t432)) (jF t112 t111) (ao (pK t368 t367) (aX t240) (bA t496))))) (jF t8 t7) (ao (ao (ao (ao (ao (bA t520) (jF t264 t263) ey) (aX t136) (bA t392)) (aX t72) (ao (bA t328) (aX t200) (bA t456))) (aX t40) (ao (ao (ao (bA t552) (aX t296) ey) (aX t168) (bA t424)) (aX t104) (ao (bA t360) (aX t232) (bA t488)))) (aX t24) (ao (ao (ao (ao (bA t536) (jF t280 t279) ey) (aX t152) (bA t408)) (aX t88) (ao (bA t344) (aX t216) (bA t472))) (jF t56 t55) (ao (ao (ao (bA t568) (aX t312) ey) (aX t184) (bA t440)) (aX t120) (ao (bA t376) (aX t248) (bA t504))))))
noncomputable def abF:T FV:=(ao (ao (ao (ao (ao (ao (bA t516) (aX t260) ey) (aX t132) (bA t388)) (aX t68) (ao (bA t324) (aX t196) (bA t452))) (aX t36) (ao (ao (ao (pK t548 t547) (aX t292) ey) (aX t164) (bA t420)) (aX t100) (ao (bA t356) (jF t228 t227) (bA t484)))) (aX t20) (ao (ao (ao (ao (pK t532 t3) (aX t276) ey) (aX t148) (bA t404)) (jF t84 t83) (ao (bA t340) (aX t212) (pK t468 t467))) (aX t52) (ao (ao (ao (bA t564) (aX t308) ey) (jF t180 t179) (bA t436)) (aX t116) (ao (bA t372) (aX t244) (bA t500))))) (aX t12) (ao (ao (ao (ao (ao (bA t524) (aX t268) ey) (aX t140) (bA t396)) (aX t76) (ao (bA t332) (aX t204) (pK t460 t459))) (aX t44) (ao (ao (ao (bA t556) (aX t300) ey) (aX t172) (pK t428 t427)) (aX t108) (ao (bA t364) (aX t236) (bA t492)))) (aX t28) (ao (ao (ao (ao (bA t540) (jF t284 t283) ey) (aX t156) (bA t412)) (aX t92) (ao (bA t348) (aX t220) (bA t476))) (jF t60 t59) (ao (ao (ao (pK t572 t21) (aX t316) ey) (aX t188) (bA t444)) (aX t124) (ao (bA t380) (aX t252) (bA t508))))))
noncomputable def ah0:T FV:=(ao abE (aX t4) abF)
noncomputable def abG:T FV:=(ao (ao (ao (ao (ao (ao (bA t514) (aX t258) ey) (aX t130) (pK t386 t5)) (aX t66) (ao (bA t322) (aX t194) (bA t450))) (aX t34) (ao (ao (ao (bA t546) (aX t290) ey) (aX t162) (bA t418)) (jF t98 t97) (ao (bA t354) (jF t226 t225) (bA t482)))) (aX t18) (ao (ao (ao (ao (bA t530) (jF t274 t273) ey) (jF t146 t145) (pK t402 t221)) (jF t82 t81) (ao (bA t338) (aX t210) (bA t466))) (aX t50) (ao (ao (ao (bA t562) (aX t306) ey) (aX t178) (bA t434)) (aX t114) (ao (bA t370) (aX t242) (bA t498))))) (jF t10 t9) (ao (ao (ao (ao (ao (bA t522) (jF t266 t265) ey) (aX t138) (bA t394)) (aX t74) (ao (bA t330) (aX t202) (bA t458))) (aX t42) (ao (ao (ao (bA t554) (aX t298) ey) (aX t170) (bA t426)) (aX t106) (ao (bA t362) (aX t234) (pK t490 t3)))) (aX t26) (ao (ao (ao (ao (bA t538) (aX t282) ey) (aX t154) (bA t410)) (aX t90) (ao (bA t346) (aX t218) (pK t474 t473))) (jF t58 t57) (ao (ao (ao (pK t570 t569) (aX t314) ey) (aX t186) (bA t442)) (aX t122) (ao (bA t378) (aX t250) (bA t506))))))
noncomputable def abH:T FV:=(ao (ao (ao (ao (ao (ao (bA t518) (aX t262) ey) (aX t134) (bA t390)) (aX t70) (ao (bA t326) (aX t198) (bA t454))) (aX t38) (ao (ao (ao (pK t550 t549) (aX t294) ey) (aX t166) (bA t422)) (aX t102) (ao (bA t358) (aX t230) (bA t486)))) (aX t22) (ao (ao (ao (ao (bA t534) (aX t278) ey) (aX t150) (bA t406)) (aX t86) (ao (bA t342) (aX t214) (bA t470))) (jF t54 t53) (ao (ao (ao (bA t566) (aX t310) ey) (aX t182) (bA t438)) (aX t118) (ao (bA t374) (aX t246) (bA t502))))) (jF t14 t13) (ao (ao (ao (ao (ao (bA t526) (aX t270) ey) (aX t142) (pK t398 t397)) (aX t78) (ao (bA t334) (aX t206) (bA t462))) (aX t46) (ao (ao (ao (pK t558 t21) (jF t302 t301) ey) (aX t174) (bA t430)) (aX t110) (ao (bA t366) (aX t238) (pK t494 t493)))) (aX t30) (ao (ao (ao (ao (bA t542) (jF t286 t285) ey) (aX t158) (bA t414)) (aX t94) (ao (pK t350 t349) (aX t222) (bA t478))) (aX t62) (ao (ao (ao (pK t574 t573) (jF t318 t317) ey) (aX t190) (bA t446)) (aX t126) (ao (bA t382) (aX t254) (bA t510))))))
noncomputable def ah1:T FV:=(ao abG (jF t6 t5) abH)
noncomputable def tyT:T FV:=(ao (ao ahY (aX t1) ahZ) (aX t0) (ao ah0 (aX t2) ah1))
noncomputable def ah2:T (Option Func):=(ao (ao (ao (ao (ao (ao (bw f255) (some f127) (bw f383)) (some f63) (ao (bw f319) (some f191) (bw f447))) (some f31) (ao (ao (bw f287) (some f159) (bw f415)) (some f95) (ao (bw f351) (some f223) (bw f479)))) (some f15) (ao (ao (ao (bw f271) (some f143) (bw f399)) (some f79) (ao (bw f335) (some f207) (bw f463))) (some f47) (ao (ao (bw f303) (some f175) (bw f431)) (some f111) (ao (bw f367) (some f239) ey)))) (some f7) (ao (ao (ao (ao (bw f263) (some f135) (bw f391)) (some f71) (ao (bw f327) (some f199) (bw f455))) (some f39) (ao (ao (bw f295) (some f167) (bw f423)) (some f103) (ao (bw f359) (some f231) ey))) (some f23) (ao (ao (ao (bw f279) (some f151) (bw f407)) (some f87) (ao (bw f343) (some f215) (bw f471))) (some f55) (ao (ao (bw f311) (some f183) (bw f439)) (some f119) (ao (bw f375) (some f247) ey))))) (some f3) (ao (ao (ao (ao (ao (bw f259) (some f131) (bw f387)) (some f67) (ao (bw f323) (some f195) (bw f451))) (some f35) (ao (ao (bw f291) (some f163) (bw f419)) (some f99) (ao (bw f355) (some f227) (bw f483)))) (some f19) (ao (ao (ao (bw f275) (some f147) (bw f403)) (some f83) (ao (bw f339) (some f211) (bw f467))) (some f51) (ao (ao (bw f307) (some f179) (bw f435)) (some f115) (ao (bw f371) (some f243) ey)))) (some f11) (ao (ao (ao (ao (bw f267) (some f139) (bw f395)) (some f75) (ao (bw f331) (some f203) (bw f459))) (some f43) (ao (ao (bw f299) (some f171) (bw f427)) (some f107) (ao (bw f363) (some f235) ey))) (some f27) (ao (ao (ao (bw f283) (some f155) (bw f411)) (some f91) (ao (bw f347) (some f219) (bw f475))) (some f59) (ao (ao (bw f315) (some f187) (bw f443)) (some f123) (ao (bw f379) (some f251) ey))))))
noncomputable def ah3:T (Option Func):=(ao (ao (ao (ao (ao (ao (bw f257) (some f129) (bw f385)) (some f65) (ao (bw f321) (some f193) (bw f449))) (some f33) (ao (ao (bw f289) (some f161) (bw f417)) (some f97) (ao (bw f353) (some f225) (bw f481)))) (some f17) (ao (ao (ao (bw f273) (some f145) (bw f401)) (some f81) (ao (bw f337) (some f209) (bw f465))) (some f49) (ao (ao (bw f305) (some f177) (bw f433)) (some f113) (ao (bw f369) (some f241) ey)))) (some f9) (ao (ao (ao (ao (bw f265) (some f137) (bw f393)) (some f73) (ao (bw f329) (some f201) (bw f457))) (some f41) (ao (ao (bw f297) (some f169) (bw f425)) (some f105) (ao (bw f361) (some f233) ey))) (some f25) (ao (ao (ao (bw f281) (some f153) (bw f409)) (some f89) (ao (bw f345) (some f217) (bw f473))) (some f57) (ao (ao (bw f313) (some f185) (bw f441)) (some f121) (ao (bw f377) (some f249) ey))))) (some f5) (ao (ao (ao (ao (ao (bw f261) (some f133) (bw f389)) (some f69) (ao (bw f325) (some f197) (bw f453))) (some f37) (ao (ao (bw f293) (some f165) (bw f421)) (some f101) (ao (bw f357) (some f229) ey))) (some f21) (ao (ao (ao (bw f277) (some f149) (bw f405)) (some f85) (ao (bw f341) (some f213) (bw f469))) (some f53) (ao (ao (bw f309) (some f181) (bw f437)) (some f117) (ao (bw f373) (some f245) ey)))) (some f13) (ao (ao (ao (ao (bw f269) (some f141) (bw f397)) (some f77) (ao (bw f333) (some f205) (bw f461))) (some f45) (ao (ao (bw f301) (some f173) (bw f429)) (some f109) (ao (bw f365) (some f237) ey))) (some f29) (ao (ao (ao (bw f285) (some f157) (bw f413)) (some f93) (ao (bw f349) (some f221) (bw f477))) (some f61) (ao (ao (bw f317) (some f189) (bw f445)) (some f125) (ao (bw f381) (some f253) ey))))))
noncomputable def ah4:T (Option Func):=(ao (ao (ao (ao (ao (ao (bw f256) (some f128) (bw f384)) (some f64) (ao (bw f320) (some f192) (bw f448))) (some f32) (ao (ao (bw f288) (some f160) (bw f416)) (some f96) (ao (bw f352) (some f224) (bw f480)))) (some f16) (ao (ao (ao (bw f272) (some f144) (bw f400)) (some f80) (ao (bw f336) (some f208) (bw f464))) (some f48) (ao (ao (bw f304) (some f176) (bw f432)) (some f112) (ao (bw f368) (some f240) ey)))) (some f8) (ao (ao (ao (ao (bw f264) (some f136) (bw f392)) (some f72) (ao (bw f328) (some f200) (bw f456))) (some f40) (ao (ao (bw f296) (some f168) (bw f424)) (some f104) (ao (bw f360) (some f232) ey))) (some f24) (ao (ao (ao (bw f280) (some f152) (bw f408)) (some f88) (ao (bw f344) (some f216) (bw f472))) (some f56) (ao (ao (bw f312) (some f184) (bw f440)) (some f120) (ao (bw f376) (some f248) ey))))) (some f4) (ao (ao (ao (ao (ao (bw f260) (some f132) (bw f388)) (some f68) (ao (bw f324) (some f196) (bw f452))) (some f36) (ao (ao (bw f292) (some f164) (bw f420)) (some f100) (ao (bw f356) (some f228) (bw f484)))) (some f20) (ao (ao (ao (bw f276) (some f148) (bw f404)) (some f84) (ao (bw f340) (some f212) (bw f468))) (some f52) (ao (ao (bw f308) (some f180) (bw f436)) (some f116) (ao (bw f372) (some f244) ey)))) (some f12) (ao (ao (ao (ao (bw f268) (some f140) (bw f396)) (some f76) (ao (bw f332) (some f204) (bw f460))) (some f44) (ao (ao (bw f300) (some f172) (bw f428)) (some f108) (ao (bw f364) (some f236) ey))) (some f28) (ao (ao (ao (bw f284) (some f156) (bw f412)) (some f92) (ao (bw f348) (some f220) (bw f476))) (some f60) (ao (ao (bw f316) (some f188) (bw f444)) (some f124) (ao (bw f380) (some f252) ey))))))
noncomputable def ah5:T (Option Func):=(ao (ao (ao (ao (ao (ao (bw f258) (some f130) (bw f386)) (some f66) (ao (bw f322) (some f194) (bw f450))) (some f34) (ao (ao (bw f290) (some f162) (bw f418)) (some f98) (ao (bw f354) (some f226) (bw f482)))) (some f18) (ao (ao (ao (bw f274) (some f146) (bw f402)) (some f82) (ao (bw f338) (some f210) (bw f466))) (some f50) (ao (ao (bw f306) (some f178) (bw f434)) (some f114) (ao (bw f370) (some f242) ey)))) (some f10) (ao (ao (ao (ao (bw f266) (some f138) (bw f394)) (some f74) (ao (bw f330) (some f202) (bw f458))) (some f42) (ao (ao (bw f298) (some f170) (bw f426)) (some f106) (ao (bw f362) (some f234) ey))) (some f26) (ao (ao (ao (bw f282) (some f154) (bw f410)) (some f90) (ao (bw f346) (some f218) (bw f474))) (some f58) (ao (ao (bw f314) (some f186) (bw f442)) (some f122) (ao (bw f378) (some f250) ey))))) (some f6) (ao (ao (ao (ao (ao (bw f262) (some f134) (bw f390)) (some f70) (ao (bw f326) (some f198) (bw f454))) (some f38) (ao (ao (bw f294) (some f166) (bw f422)) (some f102) (ao (bw f358) (some f230) ey))) (some f22) (ao (ao (ao (bw f278) (some f150) (bw f406)) (some f86) (ao (bw f342) (some f214) (bw f470))) (some f54) (ao (ao (bw f310) (some f182) (bw f438)) (some f118) (ao (bw f374) (some f246) ey)))) (some f14) (ao (ao (ao (ao (bw f270) (some f142) (bw f398)) (some f78) (ao (bw f334) (some f206) (bw f462))) (some f46) (ao (ao (bw f302) (some f174) (bw f430)) (some f110) (ao (bw f366) (some f238) ey))) (some f30) (ao (ao (ao (bw f286) (some f158) (bw f414)) (some f94) (ao (bw f350) (some f222) (bw f478))) (some f62) (ao (ao (bw f318) (some f190) (bw f446)) (some f126) (ao (bw f382) (some f254) ey))))))
noncomputable def fnT:T (Option Func):=(ao (ao ah2 (some f1) ah3) (some f0) (ao ah4 (some f2) ah5))
end Tb
open Tb
set_option maxRecDepth 100000
theorem abI:(asa 576).map (T.get none tyT)=Tryz.prog.types.toList.map fun i=>(Qp Tryz.prog i).map fun d=>(i,d):=by kernel_rfl
theorem abJ:(asa 485).map (T.get none fnT)=Tryz.prog.funcs.toList.map some:=by kernel_rfl
theorem Qs:(Tryz.prog.funcs.toList.all fun fn=> !(fn.name== "runtime.NumGoroutine"))=true:=by kernel_rfl
def abK:TypeId->Bool
 |305=>true
 |58=>true
 |93=>true
 |56=>true
 |_=>false
theorem Wa(t:TypeId)(h:abK t=true):Tryz.prog.stoodInHeld t=false/\Tryz.prog.eqGuardType Tryz.prog.depth t=false/\∀fs,Tryz.prog.underlying t=some (.struct fs)->∀f∈fs.toList,f.name≠ "_" :=by
 unfold abK at h;split at h
 ·refine⟨Tryz.stoodInHeld305,Tryz.eqGuardType305,fun fs hf=> ?_⟩
  rw[Tryz.underlying305]at hf;cases hf;simp
 ·refine⟨Tryz.stoodInHeld58,Tryz.eqGuardType58,fun fs hf=> ?_⟩
  rw[Tryz.underlying58]at hf;cases hf;simp
 ·refine⟨Tryz.stoodInHeld93,Tryz.eqGuardType93,fun fs hf=> ?_⟩
  rw[Tryz.underlying93]at hf;cases hf;simp
 ·refine⟨Tryz.stoodInHeld56,Tryz.eqGuardType56,fun fs hf=> ?_⟩
  rw[Tryz.underlying56]at hf;cases hf;simp
 ·cases h
noncomputable def E0:Env:={P:=Tryz.prog,tt:=fun t=>cond (arF t 576) (T.get none tyT t) none,ft:=fun f=>cond (arF f 485) (T.get none fnT f) none,ng:=0,bd:=fun _=>none,hl:=abK}
theorem FW{α:Type}{n t:Nat}{x:Option α}{y:α}(h:cond (arF t n) x none=some y):t<n/\x=some y:=by
 cases e:arF t n with
 |true=>rw[e]at h;exact⟨Eq.mp Nat.blt_eq e,h⟩
 |false=>rw[e]at h;cases h
theorem ah6(t:TypeId)(i:TypeInfo)(d:TypeDesc)(h:E0.tt t=some (i,d)):Tryz.prog.info? t=some i/\Tryz.prog.underlying t=some d:=by
 obtain⟨ht,h⟩:=FW h;obtain⟨a,h1,h2⟩:=Qo abI ht;rw[h]at h2;obtain⟨b,h3,h4⟩:=arI.1 h2;cases h4;rw[arX]at h1;exact⟨DG h1,Qr h1 h3⟩
theorem ah7(f:FuncId)(fn:Func)(h:E0.ft f=some fn):Tryz.prog.funcs[f]? =some fn/\(fn.name== "runtime.NumGoroutine")=false:=by
 obtain⟨ht,h⟩:=FW h;obtain⟨a,h1,h2⟩:=Qo abJ ht;rw[h]at h2;cases h2;have:=List.all_eq_true.1 Qs _ (List.mem_of_getElem? h1);rw[arX]at h1;exact⟨h1,by simpa using this⟩
theorem Qt:Tryz.prog.follows .mixedOrders=true:=rfl
theorem aB:E0.OK:=⟨ah6,ah7,Qt,Wa,fun _ _ _ _ _ h=>(by cases h),fun _ _ _ _ _ h=>(by cases h),fun _ _ _ _ _ _ h=>(by cases h)⟩
end Go.Ev
