/- A part of what LimitFits rests on. -/
import Derived.Test.YtnpajahfimaakaaGreatDoorA15
import Derived.Test.YtnpajahfimaakaaGreatDoorA16
import Derived.Test.YtnpajahfimaakaaGreatDoorA17
import Derived.Test.YtnpajahfimaakaaGreatDoorA18
import Derived.Test.YtnpajahfimaakaaGreatDoorA19
import Derived.Test.YtnpajahfimaakaaGreatDoorA08
import Derived.Test.YtnpajahfimaakaaGreatDoorA07
import Derived.Test.YtnpajahfimaakaaGreatDoorA01
set_option linter.all false
namespace Go.Ev
open List renaming all_eq_true->aop,range->AAA,getElem?_eq_some_iff->arC,not_mem_nil->arD,mem_cons->arF,mem_range->arG,getD_eq_getElem?_getD->arH,length_cons->arK,range'->arO,flatMap_cons->arP,getElem?_eq_getElem->arQ,length_nil->arS,length_append->arU,mem_iff_getElem?->arZ,mem_of_getElem?->asb,length_pos_iff->asd,getElem?_take->ase
open Nat renaming zero_add->arE,blt->arM,beq->arY,eq_of_beq_eq_true->asa
open Int renaming tmod_eq_emod_of_nonneg->arI,neg_tmod->arV,lt_trichotomy->arW,emod_lt_of_pos->asf
open _root_.Array renaming toList_inj->arJ
open IntKind renaming i64->arL
open _root_.ByteArray renaming empty->arR
open CallsIn renaming mono->arT
open Bool renaming and_eq_true->arX
open Go.Proofs
variable{K:Nat->Option Obj}{nm:ByteArray}{fs:Value}
theorem afj{bs:List Bool}(h:bs.length<=6):Pe bs=true:=by
 have hm:=dV bs
 match bs,h,hm with
 |[],_,hm=>exact aop.1 akX _ hm
 |[_],_,hm=>exact aop.1 akY _ hm
 |[_,_],_,hm=>exact aop.1 akZ _ hm
 |[_,_,_],_,hm=>exact aop.1 ak0 _ hm
 |[_,_,_,_],_,hm=>exact aop.1 ak1 _ hm
 |[false,b,c,d,e],_,_=>exact aop.1 ae7 _ (dV [b,c,d,e])
 |[true,b,c,d,e],_,_=>exact aop.1 ae8 _ (dV [b,c,d,e])
 |[false,false,c,d,e,f],_,_=>exact aop.1 ae9 _ (dV [c,d,e,f])
 |[false,true,c,d,e,f],_,_=>exact aop.1 afa _ (dV [c,d,e,f])
 |[true,false,c,d,e,f],_,_=>exact aop.1 afb _ (dV [c,d,e,f])
 |[true,true,c,d,e,f],_,_=>exact aop.1 afc _ (dV [c,d,e,f])
 |_::_::_::_::_::_::_::_,h,_=>exact absurd h (by simp)
theorem afk{bs:List Bool}(h:bs.length<=6):Pf bs=true:=by
 have hm:=dV bs
 match bs,h,hm with
 |[],_,hm=>exact aop.1 ak2 _ hm
 |[_],_,hm=>exact aop.1 ak3 _ hm
 |[_,_],_,hm=>exact aop.1 ak4 _ hm
 |[_,_,_],_,hm=>exact aop.1 ak5 _ hm
 |[_,_,_,_],_,hm=>exact aop.1 ak6 _ hm
 |[false,b,c,d,e],_,_=>exact aop.1 afd _ (dV [b,c,d,e])
 |[true,b,c,d,e],_,_=>exact aop.1 afe _ (dV [b,c,d,e])
 |[false,false,c,d,e,f],_,_=>exact aop.1 aff _ (dV [c,d,e,f])
 |[false,true,c,d,e,f],_,_=>exact aop.1 afg _ (dV [c,d,e,f])
 |[true,false,c,d,e,f],_,_=>exact aop.1 afh _ (dV [c,d,e,f])
 |[true,true,c,d,e,f],_,_=>exact aop.1 afi _ (dV [c,d,e,f])
 |_::_::_::_::_::_::_::_,h,_=>exact absurd h (by simp)
theorem Ms{p:FuncId×List V×V->Prop}:∀(bs:List Bool) (i:Nat),(∀j b,bs[j]? =some b->cI p (clQ (i+j) b))->cI p (ae4 i bs)
 |[],_,_=>trivial
 |b::l,i,h=>aO (h 0 b rfl) (Ms l (i+1) fun j c hj=>by have:=h (j+1) c hj;rwa[show i+(j+1)=i+1+j by omega]at this)
theorem Tw{p:Nat×Int×Int->Prop}:∀(bs:List Bool) (i:Nat),(∀j b,bs[j]? =some b->p (10+(i+j),1,cond b 3 5))->cI p (clD i bs)
 |[],_,_=>trivial
 |b::l,i,h=>⟨h 0 b rfl,Tw l (i+1) fun j c hj=>by have:=h (j+1) c hj;rwa[show i+(j+1)=i+1+j by omega]at this⟩
theorem Mt:∀(bs:List Bool) (i:Nat) {q:Nat},q∈Z9 i bs->∃j b,bs[j]? =some b/\(q=30+(i+j)\/q=40+(i+j)\/q=60+(i+j)\/q=cond b 1 0)
 |[],_,_,h=>by cases h
 |b::l,i,q,h=>by
  simp only[Z9,List.mem_append,arF,arD,or_false]at h;rcases h with h|h
  ·exact⟨0,b,rfl,h⟩
  ·obtain⟨j,c,h1,h2⟩:=Mt l (i+1) h
   refine⟨j+1,c,h1,?_⟩;rwa[show i+1+j=i+(j+1)by omega]at h2
theorem Mu:∀(bs:List Bool) (i:Nat),(Z9 i bs).length=4*bs.length
 |[],_=>rfl
 |b::l,i=>by rw[Z9,arU,Mu l,arK];simp only[arK,arS];omega
theorem Mv{φ:Ren}:∀(fl:List eO) (i:Nat),(∀j f,fl[j]? =some f->J φ (ae3 (i+j) f.b) f.cells)->J φ (Ou i (fl.map (·.b))) (fl.flatMap eO.cells)
 |[],_,_=>J.nil
 |f::l,i,h=>by
  rw[List.map_cons,Ou,arP];exact J.append (h 0 f rfl) (Mv l (i+1) fun j c hj=>by have:=h (j+1) c hj;rwa[show i+(j+1)=i+1+j by omega]at this)
def eP(K:Nat->Option Obj)(fl:List eO)(fs:Value):Prop:=(fl=[]/\fs=aF)\/(fl≠[]/\RowK K 93 4 fs (fl.flatMap eO.cells))
theorem eP.mono{K K':Nat->Option Obj}(h:∀r o,K r=some o->K' r=some o){fl:List eO}{fs:Value}(hv:eP K fl fs):eP K' fl fs:=hv.imp id fun⟨a,b⟩=>⟨a,b.mono h⟩
structure dW(fl:List eO):Prop where
 len:fl.length<=6
 ok:∀f∈fl,f.OK
 once:∀(i j:Nat) (f g:eO),fl[i]? =some f->fl[j]? =some g->f.t=g.t->i=j
theorem qm:∀fl:List eO,(fl.flatMap eO.cells).length=4*fl.length
 |[]=>rfl
 |f::l=>by rw[arP,arU,qm l,arK];simp only[eO.cells,arK,arS];omega
theorem uU{enc:ByteArray}(hn:fP nm enc){fl:List eO}(hf:dW fl)(jM:eP K fl fs):
  (∃s:ByteArray,1<=s.size/\s.size<=260/\Quiet Tryz.prog K 115 [.agg #[.string nm,fs]] (· =.tuple #[.string s,.int .i64 0]))/\Quiet Tryz.prog K 109 [.agg #[.string nm,fs]] (· =.bool true):=by
 obtain⟨bs,hbs⟩:∃bs,bs=fl.map (·.b):=⟨_,rfl⟩
 have Fv:bs.length=fl.length:=by rw[hbs,List.length_map]
 have h6:=hf.len;have hb6:bs.length<=6:=by omega
 let d:eO:=⟨arR,arR,0,0,false⟩;let F:Nat->eO:=fun i=>fl.getD i d
 have hF:∀i f,fl[i]? =some f->F i=f:=fun i f h=>by show fl.getD i d=f;rw[arH,h];rfl
 have zR:∀j b,bs[j]? =some b->∃f,fl[j]? =some f/\f.b=b/\f.OK/\j<6:=fun j b h=>by
  rw[hbs,List.getElem?_map]at h;cases hj:fl[j]?with
  |none=>rw[hj]at h;cases h
  |some f=>
   rw[hj]at h;have bf:j<fl.length:=(arC.1 hj).1;exact⟨f,rfl,Option.some.inj h,hf.ok f (asb hj),by omega⟩
 let ns:Nat->Int:=fun x=>if x<16 then(F (x-10)).nk else(F (x-16)).no
 let pq:=[36,bs.length]++Z9 0 bs;let Ii:Nat->ByteArray:=fun x=>
  if x<10 then bu x else if x<26 then(F (x-20)).t else if x=26 then nm else if x<36 then(F (x-30)).enc else if x=36 then enc else if x<50 then bu (F (x-40)).nk else bu (F (x-60)).no
 let ss:Nat->ByteArray:=fun x=>if x=50 then cS Ii pq else Ii x
 have s_t:∀i,i<6->ss (20+i)=(F i).t:=fun i hi=>by
  show(if 20+i=50 then _ else if 20+i<10 then _ else if 20+i<26 then(F (20+i-20)).t else _)=_;rw[if_neg (by omega),if_neg (by omega),if_pos (by omega),show 20+i-20=i by omega]
 have s_e:∀i,i<6->ss (30+i)=(F i).enc:=fun i hi=>by
  show(if 30+i=50 then _ else if 30+i<10 then _ else if 30+i<26 then _ else if 30+i=26 then _ else if 30+i<36 then(F (30+i-30)).enc else _)=_;rw[if_neg (by omega),if_neg (by omega),if_neg (by omega),if_neg (by omega),if_pos (by omega),show 30+i-30=i by omega]
 have s_k:∀i,i<6->ss (40+i)=bu (F i).nk:=fun i hi=>by
  show(if 40+i=50 then _ else if 40+i<10 then _ else if 40+i<26 then _ else if 40+i=26 then _ else if 40+i<36 then _ else if 40+i=36 then _ else if 40+i<50 then bu (F (40+i-40)).nk else _)=_;rw[if_neg (by omega),if_neg (by omega),if_neg (by omega),if_neg (by omega),if_neg (by omega),if_neg (by omega),if_pos (by omega),show 40+i-40=i by omega]
 have s_o:∀i,i<6->ss (60+i)=bu (F i).no:=fun i hi=>by
  show(if 60+i=50 then _ else if 60+i<10 then _ else if 60+i<26 then _ else if 60+i=26 then _ else if 60+i<36 then _ else if 60+i=36 then _ else if 60+i<50 then _ else bu (F (60+i-60)).no)=_;rw[if_neg (by omega),if_neg (by omega),if_neg (by omega),if_neg (by omega),if_neg (by omega),if_neg (by omega),if_neg (by omega),show 60+i-60=i by omega]
 have s_n:∀i,i<10->ss i=bu i:=fun i hi=>by
  show(if i=50 then _ else if i<10 then bu i else _)=_;rw[if_neg (by omega),if_pos hi]
 have kn:∀n:Int,-30<=n/\n<610->1<=(bu n).size/\(bu n).size<=10:=fun n hn=>by have:=dY hn;omega
 have Hd:∀q∈pq,q<100/\q≠50/\1<=(ss q).size/\(ss q).size<=10:=fun q hq=>by
  simp only[pq,List.mem_append,arF,arD,or_false]at hq;rcases hq with(rfl|rfl)|hq
  ·exact⟨by decide,by decide,hn.lo,hn.hi⟩
  ·rw[s_n _ (by omega)];have:=kn bs.length (by omega);exact⟨by omega,by omega,this⟩
  ·obtain⟨j,b,h1,h2⟩:=Mt bs 0 hq
   rw[arE]at h2;obtain⟨f,g1,g2,g3,g4⟩:=zR j b h1;have ht:=uT g3.typ;rcases h2 with rfl|rfl|rfl|rfl
   ·rw[s_e j g4,hF j f g1];exact⟨by omega,by omega,g3.name.lo,g3.name.hi⟩
   ·rw[s_k j g4,hF j f g1];have:=kn f.nk (by simp only at ht;omega);exact⟨by omega,by omega,this⟩
   ·rw[s_o j g4,hF j f g1];have:=kn f.no (by simp only at ht;omega);exact⟨by omega,by omega,this⟩
   ·cases b with
    |true=>exact⟨by decide,by decide,kn 1 (by decide)⟩
    |false=>exact⟨by decide,by decide,kn 0 (by decide)⟩
 have hlen:pq.length<=26:=by
  show([36,bs.length]++Z9 0 bs).length<=26;rw[arU,Mu];simp only[arK,arS];omega
 have bU:pq≠[]:=by simp[pq]
 have He:cS ss pq=cS Ii pq:=lC fun q hq=>if_neg (Hd q hq).2.1
 have hz:ss 50=cS ss pq:=by rw[He];rfl
 have hle:(cS ss pq).size<=260:=by
  have:=yU (ss:=ss) (m:=10) fun q hq=>(Hd q hq).2.2.2
  omega
 have Xl:1<=(cS ss pq).size:=EC bU fun q hq=>(Hd q hq).2.2.1
 let y:=B0 ns ss (fun _=>.bool false) pq ca;have n_k:∀{φ:Ren},Std φ ns ss (fun _=>.bool false) pq ca->∀i,i<6->φ.s (10+i)=(F i).nk:=fun{φ} hS i hi=>by
  rw[hS.n (by omega)];show(if 10+i<16 then(F (10+i-10)).nk else _)=_;rw[if_pos (by omega),show 10+i-10=i by omega]
 have n_o:∀{φ:Ren},Std φ ns ss (fun _=>.bool false) pq ca->∀i,i<6->φ.s (16+i)=(F i).no:=fun{φ} hS i hi=>by
  rw[hS.n (by omega)];show(if 16+i<16 then _ else(F (16+i-16)).no)=_;rw[if_neg (by omega),show 16+i-16=i by omega]
 have hN:∀{φ:Ren} {n:Int} {v:V} {q:Nat},-30<=n/\n<610->iY v=true->VR φ v (.int .i64 n)->φ.q q=.string (bu n)->∀af,Le φ af->∀args',J af [v] args'->Quiet Tryz.prog φ.y.k 40 args' fun u=>VR af (.q q) u:=fun{φ n v q} hn hd hv hq=>
  dy (by simp only[List.all_cons,List.all_nil,Bool.and_true];cases v<;>first|exact hd|cases hd) ((dY hn).2.2 _) (J.cons hv J.nil) (vQ hq rfl)
 have hFa:∀φ:Ren,φ.s=y.s->φ.q=y.q->φ.w=y.w->φ.g=y.g->(∀r o,K r=some o->φ.y.k r=some o)->aA Tryz.prog (clF bs) φ:=fun φ f1 f2 f3 f4 hK=>by
  have hS:Std φ ns ss (fun _=>.bool false) pq ca:=⟨f1,f2,f3,f4⟩;have tx:∀x,x<100->φ.q x=.string (ss x):=fun x hx=>hS.t hx
  refine⟨Tw bs 0 fun j b hj=> ?_,cF fun i hi=>cH fun j hj=> ?_,agm,agm,agm,agm,agm,agm,?_⟩
  ·obtain⟨f,g1,g2,g3,g4⟩:=zR j b hj
   have ht:=uT g3.typ;show(1:Int)<=φ.s (10+(0+j))/\φ.s (10+(0+j))<=cond b 3 5;rw[arE,n_k hS j g4,hF j f g1];refine⟨ht.1,?_⟩;cases b with
   |true=>exact g3.idx g2
   |false=>exact ht.2.1
  ·have hi:=arG.1 hi
   have hj:=arG.1 hj;have hi6:i<6:=by omega
   have hj6:j<6:=by omega
   refine .I0 (x:=(F i).t.toList) (y:=(F j).t.toList) ?_ ?_ ?_
   ·simp only[gu];rw[show φ.y.q (20+i)=_ from tx (20+i) (by omega),s_t i hi6]
   ·simp only[gu];rw[show φ.y.q (20+j)=_ from tx (20+j) (by omega),s_t j hj6]
   ·have fi:fl[i]? =some fl[i]:=arQ (by omega)
    have fj:fl[j]? =some fl[j]:=arQ (by omega);cases mf:arY i j with
    |true=>rw[asa mf];simp
    |false=>
     rw[beq_eq_false_iff_ne];intro e;have:i=j:=hf.once i j _ _ fi fj (by
      rw[<-hF i _ fi,<-hF j _ fj];rw[ByteArray.toList_eq,ByteArray.toList_eq]at e;exact ByteArray.ext (arJ.1 e))
     rw[this]at mf;simp at mf
  ·have vt:∀x,x<100->∀{t:ByteArray},ss x=t->VR φ (.q x) (.string t):=fun x hx t e=>vQ (by rw[tx x hx,e]) rfl
   have vn:∀{n:fP nm enc},True:=agm
   refine aO ⟨hN (by decide) rfl vI (tx 0 (by decide)),hN (by decide) rfl vI (tx 1 (by decide)),hN (by decide) rfl vI (tx 2 (by decide)),hN (by decide) rfl vI (tx 3 (by decide)),hN (by decide) rfl vI (tx 4 (by decide)),hN (by decide) rfl vI (tx 5 (by decide)),hN (by decide) rfl vI (tx 6 (by decide)),
    dy rfl (hn.text _) (J.cons (vt 26 (by decide) rfl) J.nil) (Oq (tx 36 (by decide))),dy rfl (hn.right _) (J.cons (vt 26 (by decide) rfl) J.nil) vB,dy rfl (hn.name _) (J.cons (vt 26 (by decide) rfl) J.nil) vB,agm⟩ (Ms bs 0 fun j b hj=> ?_)
   obtain⟨f,g1,g2,g3,g4⟩:=zR j b hj;have ht:=uT g3.typ;rw[arE];have e1:=hF j f g1;have vk:VR φ (.y .i64 (10+j)) (.int .i64 f.nk):=vY (by rw[n_k hS j g4,e1]);have vo:VR φ (.y .i64 (16+j)) (.int .i64 f.no):=vY (by rw[n_o hS j g4,e1]);have vf:VR φ (.q (20+j)) (.string f.t):=vt (20+j) (by omega) (by rw[s_t j g4,e1]);refine⟨hN (by simp only at ht;omega) rfl vk (by rw[tx (40+j) (by omega),s_k j g4,e1]),hN (by simp only at ht;omega) rfl vo (by rw[tx (60+j) (by omega),s_o j g4,e1]),
    dy rfl (g3.name.text _) (J.cons vf J.nil) (Oq (by rw[tx (30+j) (by omega),s_e j g4,e1])),dy rfl (g3.right _) (J.cons (vA (J.cons vf (J.cons vk (J.cons vo (J.cons (by rw[g2];exact vBb) J.nil))))) J.nil) vB,
    dy rfl (g3.name.name _) (J.cons vf J.nil) vB,dy rfl ((EF g3.typ).1 _) (J.cons (vA (J.cons vk (J.cons vo J.nil))) J.nil) vB,agm⟩
 have hXa:∀φ:Ren,φ.s=y.s->φ.q=y.q->φ.w=y.w->φ.g=y.g->(∀r o,K r=some o->φ.y.k r=some o)->iZ Tryz.prog (clX bs) φ:=fun φ f1 f2 f3 f4 hK=>
  xm (ns:=ns) (ss:=ss) (vs:=fun _=>.bool false) (g:=ca) ⟨f1,f2,f3,f4⟩ bU (fun q hq=>⟨(Hd q hq).1,(Hd q hq).2.2.1⟩) (Nat.le_trans hle (by decide)) hz (by decide) (by simp) (Nat.lt_of_le_of_lt hlen (by decide))
 have oh:∀w:World,(∀r o,K r=some o->w.heap[r]? =some o)->∃φ:Ren,HR φ (ak (clN bs) (clB bs)) w/\φ.y={y with k:=fun r=>w.heap[r]?}/\J φ [.a [.q 26,clS bs]] [.agg #[.string nm,fs]]:=fun w hw=>by
  have h0:=bc y w;have hS0:Std (φ0 y w) ns ss (fun _=>.bool false) pq ca:=⟨rfl,rfl,rfl,rfl⟩;have vn:∀{φ:Ren},φ.q=y.q->VR φ (.q 26) (.string nm):=fun{φ} e=>vQ (by rw[e];rfl) rfl
  rcases jM with⟨e1,e2⟩|⟨e1,bQ⟩
  ·have hb0:bs=[]:=by rw[hbs,e1];rfl
   rw[e2];clear hFa hXa zR;subst hb0;exact⟨φ0 y w,h0,rfl,J.cons (vA (J.cons (vn rfl) (J.cons bY J.nil))) J.nil⟩
  ·have jD:J (φ0 y w) (Ou 0 bs) (fl.flatMap eO.cells):=by
    rw[hbs];refine Mv fl 0 fun j f hj=> ?_
    have bf:j<fl.length:=(arC.1 hj).1;rw[arE];exact J.cons (vQ (by rw[hS0.t (by omega),s_t j (by omega),hF j f hj]) rfl) (J.cons (vY (by rw[n_k hS0 j (by omega),hF j f hj])) (J.cons (vY (by rw[n_o hS0 j (by omega),hF j f hj])) (J.cons vBb J.nil)))
   obtain⟨aV,j1,j2,j3,j4⟩:=bQ.enter h0 hw rfl jD (n:=bs.length) (by rw[qm,Fv];omega);have ph:clB bs=[(0,.rc (Ou 0 bs) 93)]/\clN bs=1/\clS bs=.sl (some (0,0)) bs.length (.un 4):=by
    have gn:0<fl.length:=asd.2 e1;cases bs with
    |nil=>simp only[arS]at Fv;omega
    |cons b l=>exact⟨rfl,rfl,rfl⟩
   rw[ph.1,ph.2.1,ph.2.2];have kq:aV.q=y.q:=by funext x;simp only[Ren.q,j2];rfl
   exact⟨aV,j1,j2,J.cons (vA (J.cons (vn kq) (J.cons j4 J.nil))) J.nil⟩
 exact⟨⟨ss 50,by rw[hz];exact Xl,by rw[hz];exact hle,cC ah rfl (afj hb6) y hFa hXa oh (fun φ f1 f2 x hx=>vT2 (x:=50) (s:=ss 50) (by rw[f2];rfl) hx) ⟨_,_,Tryz.func115,rfl,rfl⟩⟩,
  cC ah rfl (afk hb6) y hFa hXa oh (fun φ _ _ x hx=>Ih hx) ⟨_,_,Tryz.func109,rfl,rfl⟩⟩
def kcV:List V:=[.i .i64 3,zI,zI,zI,eD,.y .i64 10,zI,.s [],.q 26,.q 100,zI,.s [],.s [],.s [],zI,zI,.s [],.s []]
def kcF:aU:=
 {bd:=[(10,0,7)],bin:=[(.add,.q 54,.q 50,.q 55),(.add,.q 53,.q 55,.q 56)],mg:=kMG 0,
  qc:=[(40,[.i .i64 3],.q 3),(40,[.y .i64 10],.q 40),(115,[.a [.q 26,.q 100]],.t [.q 50,zI])]}
def kcX:XF:=Vv [3] 53 [3,40,26] [(40,54)]
theorem afl:dN (aI E3 kcF kcX) 600 37 [.m (some 0),.a kcV] 1 kHB (.t [.q 56,zI]) []=true:=by decide+kernel
def clW(id:Int)(nm:ByteArray)(fs:Value):Value:=.agg (Mn 3 0 0 0 aF id 0 cj nm fs 0 cj cj cj 0 0 cj cj)
theorem Hg{K:Nat->Option Obj}{id:Int}(lG:0<=id/\id<=7){enc:ByteArray}(hn:fP nm enc){fl:List eO}(hf:dW fl)(jM:eP K fl fs)(h1:fs.oneCell'=true):∃s:ByteArray,1<=s.size/\s.size<=800/\jq K (clW id nm fs) s:=by
 obtain⟨⟨s,s1,s2,hs⟩,_⟩:=uU hn hf jM;have k3:=dY (n:=3) (by decide);have ki:=dY (n:=id) (by omega);let ss:Nat->ByteArray:=fun|3=>bu 3|40=>bu id|26=>nm|50=>s|53=>bu 3|54=>bu id|55=>bu id++s|56=>bu 3++(bu id++s)|_=>arR
 refine⟨ss 56,by show 1<=(_++(_++_):ByteArray).size;rw[oR,oR];omega,by show(_++(_++_):ByteArray).size<=_;rw[oR,oR];omega,fun K' m Tu hm=> ?_⟩;let y:=B0 (fun|10=>id|_=>0) ss (fun _=>fs) [3] ca
 have hN:∀{φ:Ren} {n:Int} {v:V} {q:Nat},-30<=n/\n<610->iY v=true->VR φ v (.int .i64 n)->φ.q q=.string (bu n)->∀af,Le φ af->∀args',J af [v] args'->Quiet Tryz.prog φ.y.k 40 args' fun u=>VR af (.q q) u:=fun{φ n v q} hn hd hv hq=>
  dy (by simp only[List.all_cons,List.all_nil,Bool.and_true];cases v<;>first|exact hd|cases hd) ((dY hn).2.2 _) (J.cons hv J.nil) (vQ hq rfl)
 refine cC ah rfl afl y (fun φ f1 f2 f3 f4 hK=> ?_) (fun φ f1 f2 f3 f4 hK=> ?_) (fun w hw=> ?_) (fun φ f1 f2 x hx=>vT2 (x:=56) (s:=ss 56) (by rw[f2];rfl) hx) ⟨_,_,Tryz.func37,rfl,rfl⟩
 ·have hS:Std φ _ ss _ [3] ca:=⟨f1,f2,f3,f4⟩
  have m0:φ.s 10=id:=hS.n;refine⟨⟨by show(0:Int)<=φ.s 10/\φ.s 10<=7;rw[m0];exact lG,agm⟩,⟨?_,?_,agm⟩,agm,agm,agm,agm,A6 (agB f4 0),agm,hN (by decide) rfl vI (hS.t (x:=3)),hN (by omega) rfl (vY m0) (hS.t (x:=40)),?_,agm⟩
  ·exact .I1 (s:=ss 54) (t:=ss 50) (hS.t (x:=54)) (hS.t (x:=50)) (by show(bu id).size+s.size<=_;omega) (hS.t (x:=55))
  ·exact .I1 (s:=ss 53) (t:=ss 55) (hS.t (x:=53)) (hS.t (x:=55)) (by show(bu 3).size+(bu id++s).size<=_;rw[oR];omega) (hS.t (x:=56))
  ·have so:VR φ (.q 100) fs:=vQ (hS.v (x:=0)) h1
   exact dy rfl (hs.mono fun r o h=>hK r o (Tu r o h)) (J.cons (vA (J.cons (vQ (hS.t (x:=26)) rfl) (J.cons so J.nil))) J.nil) (Oq (hS.t (x:=50)))
 ·have hS:Std φ _ ss _ [3] ca:=⟨f1,f2,f3,f4⟩
  have cn:cS ss [3]=bu 3:=by show bu 3++arR=_;simp
  refine xm hS (by simp) (fun q hq=> ?_) (by rw[cn];omega) cn.symm (by decide) (by decide) (by decide) (fun e he=> ?_)
  ·obtain rfl:q=3:=by simpa using hq
   exact⟨by decide,k3.1⟩
  ·obtain rfl:e=(40,54):=by simpa using he
   exact⟨by decide,by decide,ki.1,by show(bu id).size<=_;omega,rfl⟩
 ·obtain⟨φ,g1,g2,g3⟩:=jA (y:=y) rfl (hw m _ hm)
  have n0:φ.s 10=id:=by simp only[Ren.s,g2];rfl
  have q26:VR φ (.q 26) (.string nm):=vQ (by simp only[Ren.q,g2];rfl) rfl;have afm:VR φ (.q 100) fs:=vQ (by simp only[Ren.q,g2];rfl) h1;exact⟨φ,g1,g2,J.cons g3 (J.cons (vA (J.cons vI (J.cons aL (J.cons aL (J.cons aL (J.cons bY (J.cons (vY n0) (J.cons aL (J.cons aD (J.cons q26 (J.cons afm (J.cons aL (J.cons aD (J.cons aD (J.cons aD (J.cons aL (J.cons aL (J.cons aD (J.cons aD J.nil))))))))))))))))))) J.nil)⟩
variable{a:List Value}{ms ns:Nat->Int}{qs rs:Nat->Value}{φ:Ren}
inductive eI:List Value->Prop
 |put {oid ocl ove:Int} {ov:Value} (h:ov.oneCell'=true):eI (Mn 1 oid ocl ove ov 0 0 cj cj aF 0 cj cj cj 0 0 cj cj).toList
 |root {id:Int} {nm:ByteArray}:eI (Mn 2 0 0 0 aF id 0 nm cj aF 0 cj cj cj 0 0 cj cj).toList
 |cls {id:Int} {nm:ByteArray} {fs:Value} (h:fs.oneCell'=true):eI (Mn 3 0 0 0 aF id 0 cj nm fs 0 cj cj cj 0 0 cj cj).toList
 |chg {id ver ck t1 t2:Int} {cf cn cm ex ot:ByteArray}:eI (Mn 4 0 0 0 aF id ver cj cj aF ck cf cn cm t1 t2 ex ot).toList
 |snap {id:Int} {nm:ByteArray}:eI (Mn 5 0 0 0 aF id 0 nm cj aF 0 cj cj cj 0 0 cj cj).toList
def Tx(k:Nat)(s:Nat):List V:=match k with
 |1=>[.i .i64 1,.y .i64 s,.q s,.q (s+1),.q (s+2),zI,zI,.s [],.s [],eD,zI,.s [],.s [],.s [],zI,zI,.s [],.s []]
 |3=>[.i .i64 3,zI,zI,zI,eD,.y .i64 s,zI,.s [],.q s,.q (s+1),zI,.s [],.s [],.s [],zI,zI,.s [],.s []]
 |4=>[.i .i64 4,zI,zI,zI,eD,.y .i64 s,.y .i64 (s+1),.s [],.s [],eD,.q s,.q (s+1),.q (s+2),.q (s+3),.q (s+4),.q (s+5),.q (s+6),.q (s+7)]
 |k=>[.i .i64 k,zI,zI,zI,eD,.q s,zI,.q (s+1),.s [],eD,zI,.s [],.s [],.s [],zI,zI,.s [],.s []]
structure apk(a:List Value)(k:Nat)(ns:Nat->Int)(qs:Nat->Value)(nm:ByteArray):Prop where
 hk:k∈[1,2,3,4,5]
 vr:∀(φ:Ren) (s:Nat),(∀i,i<2->φ.s (s+i)=ns i)->(∀i,i<8->φ.q (s+i)=qs i)->J φ (Tx k s) a
 oV:k=2\/k=5->qs 1=.string nm
theorem eI.dec(h:eI a):∃k ns qs nm,apk a k ns qs nm:=by
 cases h with
 | @put oid ocl ove ov h=>
  refine⟨1,fun _=>oid,fun i=>match i with|0=>.int .i64 ocl|1=>.int .i64 ove|_=>ov,cj,by decide,fun φ s h1 h2=> ?_,fun e=>by rcases e with e|e<;>cases e⟩;have t0:φ.s s=oid:=h1 0 (by decide)
  exact J.cons vI (J.cons (vY t0) (J.cons (vQ (h2 0 (by decide)) rfl) (J.cons (vQ (h2 1 (by decide)) rfl) (J.cons (vQ (h2 2 (by decide)) h) (J.cons aL (J.cons aL (J.cons aD (J.cons aD (J.cons bY (J.cons aL (J.cons aD (J.cons aD (J.cons aD (J.cons aL (J.cons aL (J.cons aD (J.cons aD J.nil)))))))))))))))))
 | @root id nm=>
  refine⟨2,fun _=>0,fun i=>match i with|0=>.int .i64 id|_=>.string nm,nm,by decide,fun φ s h1 h2=> ?_,fun _=>rfl⟩;exact J.cons vI (J.cons aL (J.cons aL (J.cons aL (J.cons bY (J.cons (vQ (h2 0 (by decide)) rfl) (J.cons aL (J.cons (vQ (h2 1 (by decide)) rfl) (J.cons aD (J.cons bY (J.cons aL (J.cons aD (J.cons aD (J.cons aD (J.cons aL (J.cons aL (J.cons aD (J.cons aD J.nil)))))))))))))))))
 | @snap id nm=>
  refine⟨5,fun _=>0,fun i=>match i with|0=>.int .i64 id|_=>.string nm,nm,by decide,fun φ s h1 h2=> ?_,fun _=>rfl⟩;exact J.cons vI (J.cons aL (J.cons aL (J.cons aL (J.cons bY (J.cons (vQ (h2 0 (by decide)) rfl) (J.cons aL (J.cons (vQ (h2 1 (by decide)) rfl) (J.cons aD (J.cons bY (J.cons aL (J.cons aD (J.cons aD (J.cons aD (J.cons aL (J.cons aL (J.cons aD (J.cons aD J.nil)))))))))))))))))
 | @cls id nm fs h=>
  refine⟨3,fun _=>id,fun i=>match i with|0=>.string nm|_=>fs,cj,by decide,fun φ s h1 h2=> ?_,fun e=>by rcases e with e|e<;>cases e⟩;have t0:φ.s s=id:=h1 0 (by decide)
  exact J.cons vI (J.cons aL (J.cons aL (J.cons aL (J.cons bY (J.cons (vY t0) (J.cons aL (J.cons aD (J.cons (vQ (h2 0 (by decide)) rfl) (J.cons (vQ (h2 1 (by decide)) h) (J.cons aL (J.cons aD (J.cons aD (J.cons aD (J.cons aL (J.cons aL (J.cons aD (J.cons aD J.nil)))))))))))))))))
 | @chg id ver ck t1 t2 cf cn cm ex ot=>
  refine⟨4,fun i=>match i with|0=>id|_=>ver,fun i=>match i with|0=>.int .i64 ck|1=>.string cf|2=>.string cn|3=>.string cm|4=>.int .i64 t1|5=>.int .i64 t2|6=>.string ex|_=>.string ot,cj,by decide,fun φ s h1 h2=> ?_,fun e=>by rcases e with e|e<;>cases e⟩;have t0:φ.s s=id:=h1 0 (by decide)
  exact J.cons vI (J.cons aL (J.cons aL (J.cons aL (J.cons bY (J.cons (vY t0) (J.cons (vY (h1 1 (by decide))) (J.cons aD (J.cons aD (J.cons bY (J.cons (vQ (h2 0 (by decide)) rfl) (J.cons (vQ (h2 1 (by decide)) rfl) (J.cons (vQ (h2 2 (by decide)) rfl) (J.cons (vQ (h2 3 (by decide)) rfl) (J.cons (vQ (h2 4 (by decide)) rfl) (J.cons (vQ (h2 5 (by decide)) rfl) (J.cons (vQ (h2 6 (by decide)) rfl) (J.cons (vQ (h2 7 (by decide)) rfl) J.nil)))))))))))))))))
def qn(x y:Int):Int:=if x<y then-1 else if y<x then 1 else 0
def Hh(a b:ByteArray):Int:=if Op.bytesLess a.toList b.toList=true then-1 else if(!(Op.bytesLess a.toList b.toList||a.toList==b.toList))=true then 1 else 0
def Ba(l g:Bool):Int:=cond l (-1) (cond g 1 0)
def apl(a b:V)(l g:Bool):List (BinOp×V×V×V):=[(.lss,a,b,.b l),(.gtr,a,b,.b g),(.neq,a,a,.b false),(.neq,b,b,.b false)]
noncomputable def cmR(f:FuncId)(a b:V)(l g:Bool):Bool:=dN (aI E3 {bin:=apl a b l g} {}) 100 f [a,b] 0 [] (.i .i64 (Ba l g)) []
def lgs:List (Bool×Bool):=[(true,false),(false,true),(false,false)]
theorem ak8:(lgs.all fun p=>cmR 83 (.y .i64 0) (.y .i64 20) p.1 p.2)=true:=by decide+kernel
theorem ak9:(lgs.all fun p=>cmR 84 (.q 0) (.q 20) p.1 p.2)=true:=by decide+kernel
def Kh(ns ms:Nat->Int)(qs rs:Nat->Value)(g:Array MapEntry×Nat):Sym:=
 {s:=fun x=>if x<20 then ns x else ms (x-20),q:=fun x=>if x<20 then qs x else rs (x-20),w:=fun _=>[],g:=fun _=>g,k:=fun _=>none}
theorem yV{g:Array MapEntry×Nat}(h:φ.s=(Kh ns ms qs rs g).s){i:Nat}(hi:i<20):φ.s i=ns i:=by rw[h];exact if_pos hi
theorem yW{g:Array MapEntry×Nat}(h:φ.s=(Kh ns ms qs rs g).s)(i:Nat):φ.s (20+i)=ms i:=by
 rw[h];show(if 20+i<20 then _ else ms (20+i-20))=_;rw[if_neg (by omega),show 20+i-20=i by omega]
theorem oE{g:Array MapEntry×Nat}(h:φ.q=(Kh ns ms qs rs g).q){i:Nat}(hi:i<20):φ.q i=qs i:=by rw[h];exact if_pos hi
theorem yX{g:Array MapEntry×Nat}(h:φ.q=(Kh ns ms qs rs g).q)(i:Nat):φ.q (20+i)=rs i:=by
 rw[h];show(if 20+i<20 then _ else rs (20+i-20))=_;rw[if_neg (by omega),show 20+i-20=i by omega]
theorem Ki{k:IntKind}{n:Int}{x:Value}(h:VR φ (.i k n) x):x=.int k n:=by simpa only[VR]using h
theorem i3(x y:Int):(decide (x<y),decide (y<x))∈lgs/\qn x y=Ba (decide (x<y)) (decide (y<x)):=by
 rcases arW x y with h|h|h
 ·have:¬y<x:=by omega
  simp[h,this,lgs,qn,Ba]
 ·subst h;simp[lgs,qn,Ba]
 ·have:¬x<y:=by omega
  simp[h,this,lgs,qn,Ba]
theorem aae(K:Nat->Option Obj)(x y:Int):Quiet Tryz.prog K 83 [.int .i64 x,.int .i64 y] (· =.int .i64 (qn x y)):=by
 obtain⟨h1,h2⟩:=i3 x y;have hr:=aop.1 ak8 _ h1;rw[h2];refine cC ah rfl hr (Kh (fun _=>x) (fun _=>y) (fun _=>b0) (fun _=>b0) ca) (fun φ e1 e2 e3 e4 hK=> ?_) (fun φ _ _ _ _ _=>eX) (fun w hw=>⟨φ0 _ w,bc _ w,rfl,J.cons (vY rfl) (J.cons (vY rfl) J.nil)⟩) (fun φ _ _ v hv=>Ki hv) ⟨_,_,Tryz.func83,rfl,rfl⟩;have a0:aR φ.y (.y .i64 0)=some (.i64,x):=congrArg (fun z=>some (arL,z)) (agB e1 0);have XD:aR φ.y (.y .i64 20)=some (.i64,y):=congrArg (fun z=>some (arL,z)) (agB e1 20);exact⟨agm,⟨.lss a0 XD rfl,.gtr a0 XD rfl,.neq a0 a0 (by simp),.neq XD XD (by simp),agm⟩,agm,agm,agm,agm,agm,agm,agm⟩
theorem s3(a b:ByteArray):(Op.bytesLess a.toList b.toList,!(Op.bytesLess a.toList b.toList||a.toList==b.toList))∈lgs/\Hh a b=Ba (Op.bytesLess a.toList b.toList) (!(Op.bytesLess a.toList b.toList||a.toList==b.toList)):=by
 unfold Hh;cases h1:Op.bytesLess a.toList b.toList<;>cases h2:(a.toList==b.toList)<;>simp[lgs,Ba]
theorem ala(K:Nat->Option Obj)(x y:ByteArray):Quiet Tryz.prog K 84 [.string x,.string y] (· =.int .i64 (Hh x y)):=by
 obtain⟨h1,h2⟩:=s3 x y;have hr:=aop.1 ak9 _ h1;rw[h2];refine cC ah rfl hr (Kh (fun _=>0) (fun _=>0) (fun _=>.string x) (fun _=>.string y) ca) (fun φ e1 e2 e3 e4 hK=> ?_) (fun φ _ _ _ _ _=>eX) (fun w hw=>⟨φ0 _ w,bc _ w,rfl,J.cons (vQ rfl rfl) (J.cons (vQ rfl rfl) J.nil)⟩) (fun φ _ _ v hv=>Ki hv) ⟨_,_,Tryz.func84,rfl,rfl⟩;have a0:gu φ.y (.q 0)=some x.toList:=by simp only[gu];rw[show φ.y.q 0=.string x from agB e2 0]
 have XD:gu φ.y (.q 20)=some y.toList:=by simp only[gu];rw[show φ.y.q 20=.string y from agB e2 20]
 exact⟨agm,⟨.Wj a0 XD rfl,.aib a0 XD rfl,.Wk a0 a0 (by simp),.Wk XD XD (by simp),agm⟩,agm,agm,agm,agm,agm,agm,agm⟩
def Ov(k:Nat):Nat:=match k with|1=>3|2=>4|3=>1|4=>2|k=>k
def nuV(k s:Nat):V:=match k with|1=>.y .i64 s|3=>.y .i64 s|4=>.y .i64 s|_=>zI
def veV(k s:Nat):V:=match k with|4=>.y .i64 (s+1)|_=>zI
def naV(k s:Nat):V:=match k with|2=>.q (s+1)|5=>.q (s+1)|_=>.s []
def afn(a b:V)(l e:Bool):List (BinOp×V×V×V):=[(.lss,a,b,.b l),(.eql,a,b,.b e)]
def ahF(k:Nat)(l1 e1 l2:Bool):List (BinOp×V×V×V):=match k with
 |1=>afn (.y .i64 0) (.y .i64 20) l1 e1
 |3=>afn (.y .i64 0) (.y .i64 20) l1 e1
 |4=>afn (.y .i64 0) (.y .i64 20) l1 e1++[(.lss,.y .i64 1,.y .i64 21,.b l2)]
 |_=>[(.lss,.q 1,.q 21,.b l1)]
def ahT(k:Nat)(l1 e1 l2:Bool):Bool:=match k with|4=>l1||(e1&&l2)|_=>l1
noncomputable def ahR(k:Nat)(l1 e1 l2:Bool):Bool:=dN (aI E3 {bin:=ahF k l1 e1 l2} {}) 300 58 [.a (Tx k 0),.a (Tx k 20)] 0 [] (.b (ahT k l1 e1 l2)) []
noncomputable def ahU(k j:Nat):Bool:=cond (arY k j) true (dN (aI E3 {} {}) 300 58 [.a (Tx k 0),.a (Tx j 20)] 0 [] (.b (arM (Ov k) (Ov j))) [])
theorem apm:([1,2,3,4,5].all fun k=>[(true,false),(false,true),(false,false)].all fun p=>[true,false].all fun l2=>ahR k p.1 p.2 l2)=true:=by decide+kernel
theorem apn:([1,2,3,4,5].all fun k=>[1,2,3,4,5].all fun j=>ahU k j)=true:=by decide+kernel
def cpF(k j:Nat)(c1 c2 c3:V):aU:={mg:=kMG 0,qc:=[(83,[nuV k 0,nuV j 20],c1),(83,[veV k 0,veV j 20],c2),(84,[naV k 0,naV j 20],c3)]}
noncomputable def cpR(k j:Nat)(c1 c2 c3:V):Bool:=dN (aI E3 (cpF k j c1 c2 c3) {}) 300 38 [.m (some 0),.a (Tx k 0),.a (Tx j 20)] 1 kHB (.i .i64 (-1)) []
theorem apo:([1,2,3,4,5].all fun k=>[1,2,3,4,5].all fun j=>cond (arM (Ov k) (Ov j)) (cpR k j (.q 10) (.q 11) (.q 12)) true)=true:=by decide+kernel
theorem afo:([1,3,4].all fun k=>cpR k k (.i .i64 (-1)) (.q 11) (.q 12))=true:=by decide+kernel
theorem apq:cpR 4 4 zI (.i .i64 (-1)) (.q 12)=true:=by decide+kernel
theorem alb:([2,5].all fun k=>cpR k k zI zI (.i .i64 (-1)))=true:=by decide+kernel
def Ty(k:Nat)(x:Int):Int:=match k with|1=>x|3=>x|4=>x|_=>0
def veI(k:Nat)(x:Int):Int:=match k with|4=>x|_=>0
theorem Tz{k:Nat}(hk:k∈[1,2,3,4,5]){s:Nat}(h:∀i,i<2->φ.s (s+i)=ns i):VR φ (nuV k s) (.int .i64 (Ty k (ns 0))):=by
 have t0:φ.s s=ns 0:=h 0 (by decide);simp only[arF,arD,or_false]at hk;rcases hk with rfl|rfl|rfl|rfl|rfl
 ·exact vY t0
 ·exact aL
 ·exact vY t0
 ·exact vY t0
 ·exact aL
theorem TA{k:Nat}(hk:k∈[1,2,3,4,5]){s:Nat}(h:∀i,i<2->φ.s (s+i)=ns i):VR φ (veV k s) (.int .i64 (veI k (ns 1))):=by
 simp only[arF,arD,or_false]at hk;rcases hk with rfl|rfl|rfl|rfl|rfl
 ·exact aL
 ·exact aL
 ·exact aL
 ·exact vY (h 1 (by decide))
 ·exact aL
def XE(k:Nat)(nm:ByteArray):ByteArray:=match k with|2=>nm|5=>nm|_=>cj
theorem TB{k:Nat}(hk:k∈[1,2,3,4,5]){s:Nat}(h:∀i,i<8->φ.q (s+i)=qs i)(hn:k=2\/k=5->qs 1=.string nm):VR φ (naV k s) (.string (XE k nm)):=by
 simp only[arF,arD,or_false]at hk;rcases hk with rfl|rfl|rfl|rfl|rfl
 ·exact aD
 ·exact vQ ((h 1 (by decide)).trans (hn (.inl rfl))) rfl
 ·exact aD
 ·exact aD
 ·exact vQ ((h 1 (by decide)).trans (hn (.inr rfl))) rfl
theorem XG{b:List Value}(ha:eI a)(hb:eI b):∃t:Bool,(∀K,Quiet Tryz.prog K 58 [.agg a.toArray,.agg b.toArray] (· =.bool t))/\
  (t=true->∀K m,lW K m->Quiet Tryz.prog K 38 [.map (some m),.agg a.toArray,.agg b.toArray] (· =.int .i64 (-1))):=by
 obtain⟨k,ns,qs,nm,hk,hva,hna⟩:=ha.dec;obtain⟨j,ms,rs,mm,hj,hvb,Za⟩:=hb.dec;let qs':Nat->Value:=fun i=>if i<8 then qs i else if i=10 then .int .i64 (qn (Ty k (ns 0)) (Ty j (ms 0)))else if i=11 then .int .i64 (qn (veI k (ns 1)) (veI j (ms 1)))else .int .i64 (Hh (XE k nm) (XE j mm))
 let y:=Kh ns ms qs' rs ca;have oh:∀φ:Ren,φ.s=y.s->φ.q=y.q->J φ (Tx k 0) a/\J φ (Tx j 20) b:=fun φ e1 e2=>
  ⟨hva φ 0 (fun i hi=>by rw[arE];exact yV e1 (by omega)) fun i hi=>by rw[arE,oE e2 (by omega)];exact if_pos hi,hvb φ 20 (fun i _=>yW e1 i) fun i _=>yX e2 i⟩
 have hA:∀{t:Bool} {F:aU},dN (aI E3 F {}) 300 58 [.a (Tx k 0),.a (Tx j 20)] 0 [] (.b t) []=true->(∀φ:Ren,φ.s=y.s->φ.q=y.q->aA Tryz.prog F φ)->∀K,Quiet Tryz.prog K 58 [.agg a.toArray,.agg b.toArray] (· =.bool t):=fun{t F} hr hF K=>
  cC ah rfl hr y (fun φ e1 e2 _ _ _=>hF φ e1 e2) (fun φ _ _ _ _ _=>eX) (fun w hw=>⟨φ0 y w,bc _ w,rfl,J.cons (vA (oh _ rfl rfl).1) (J.cons (vA (oh _ rfl rfl).2) J.nil)⟩) (fun φ _ _ x hx=>Ih hx) ⟨_,_,Tryz.func58,rfl,rfl⟩
 have hC:∀{c1 c2 c3:V},cpR k j c1 c2 c3=true->(∀φ:Ren,φ.q=y.q->VR φ c1 (.int .i64 (qn (Ty k (ns 0)) (Ty j (ms 0)))))->
   (∀φ:Ren,φ.q=y.q->VR φ c2 (.int .i64 (qn (veI k (ns 1)) (veI j (ms 1)))))->(∀φ:Ren,φ.q=y.q->VR φ c3 (.int .i64 (Hh (XE k nm) (XE j mm))))->
   ∀K m,lW K m->Quiet Tryz.prog K 38 [.map (some m),.agg a.toArray,.agg b.toArray] (· =.int .i64 (-1)):=fun{c1 c2 c3} hr h1 h2 h3 K m hm=>by
  refine cC ah rfl hr y (fun φ e1 e2 e3 e4 hK=> ?_) (fun φ _ _ _ _ _=>eX) (fun w hw=> ?_) (fun φ _ _ x hx=>Ki hx) ⟨_,_,Tryz.func38,rfl,rfl⟩
  ·have s0:∀i,i<2->φ.s (0+i)=ns i:=fun i hi=>by rw[arE];exact yV e1 (by omega)
   have s1:∀i,i<2->φ.s (20+i)=ms i:=fun i _=>yW e1 i
   have q0:∀i,i<8->φ.q (0+i)=qs i:=fun i hi=>by rw[arE,oE e2 (by omega)];exact if_pos hi
   have q1:∀i,i<8->φ.q (20+i)=rs i:=fun i _=>yX e2 i
   have dn:∀k s,oY (nuV k s)=true:=fun k s=>by unfold nuV;split<;>rfl
   have dv:∀k s,oY (veV k s)=true:=fun k s=>by unfold veV;split<;>rfl
   have da:∀k s,oY (naV k s)=true:=fun k s=>by unfold naV;split<;>rfl
   refine⟨agm,agm,agm,agm,agm,agm,A6 (agB e4 0),agm,?_,?_,?_,agm⟩
   ·exact dy (by simp[dn]) (aae _ _ _) (J.cons (Tz hk s0) (J.cons (Tz hj s1) J.nil)) (h1 φ e2)
   ·exact dy (by simp[dv]) (aae _ _ _) (J.cons (TA hk s0) (J.cons (TA hj s1) J.nil)) (h2 φ e2)
   ·exact dy (by simp[da]) (ala _ _ _) (J.cons (TB hk q0 hna) (J.cons (TB hj q1 Za) J.nil)) (h3 φ e2)
  ·obtain⟨φ,g1,g2,g3⟩:=jA (y:=y) rfl (hw m _ hm)
   have he:=oh φ (by funext x;simp only[Ren.s,g2]) (by funext x;simp only[Ren.q,g2]);exact⟨φ,g1,g2,J.cons g3 (J.cons (vA he.1) (J.cons (vA he.2) J.nil))⟩
 have o1:∀φ:Ren,φ.q=y.q->VR φ (.q 10) (.int .i64 (qn (Ty k (ns 0)) (Ty j (ms 0)))):=fun φ e=>vQ (by rw[oE e (by decide)];rfl) rfl
 have o2:∀φ:Ren,φ.q=y.q->VR φ (.q 11) (.int .i64 (qn (veI k (ns 1)) (veI j (ms 1)))):=fun φ e=>vQ (by rw[oE e (by decide)];rfl) rfl
 have o3:∀φ:Ren,φ.q=y.q->VR φ (.q 12) (.int .i64 (Hh (XE k nm) (XE j mm))):=fun φ e=>vQ (by rw[oE e (by decide)];rfl) rfl
 by_cases hkj:k=j
 ·subst hkj
  have hi3:∀(x z:Int),(decide (x<z),decide (x=z))∈[(true,false),(false,true),(false,false)]:=fun x z=>by
   rcases arW x z with h|h|h
   ·have:¬x=z:=by omega
    simp[h,this]
   ·subst h;simp
   ·have h1:¬x<z:=by omega
    have h2:¬x=z:=by omega
    simp[h1,h2]
  have fr:∀(l1 e1 l2:Bool),(l1,e1)∈[(true,false),(false,true),(false,false)]->ahR k l1 e1 l2=true:=fun l1 e1 l2 h=>by
   have:=aop.1 (aop.1 (aop.1 apm k hk) _ h) l2 (by cases l2<;>decide);exact this
  simp only[arF,arD,or_false]at hk;have num:∀(hr:ahR k (decide (ns 0<ms 0)) (decide (ns 0=ms 0)) (decide (ns 1<ms 1))=true) (φ:Ren),φ.s=y.s->aR φ.y (.y .i64 0)=some (.i64,ns 0)/\aR φ.y (.y .i64 20)=some (.i64,ms 0)/\aR φ.y (.y .i64 1)=some (.i64,ns 1)/\aR φ.y (.y .i64 21)=some (.i64,ms 1):=fun _ φ e=>
   ⟨congrArg (fun z=>some (arL,z)) (yV e (i:=0) (by decide)),congrArg (fun z=>some (arL,z)) (yW e 0),congrArg (fun z=>some (arL,z)) (yV e (i:=1) (by decide)),congrArg (fun z=>some (arL,z)) (yW e 1)⟩
  have r0:=fr _ _ (decide (ns 1<ms 1)) (hi3 (ns 0) (ms 0));rcases hk with rfl|rfl|rfl|rfl|rfl
  ·refine⟨decide (ns 0<ms 0),hA r0 fun φ e1 e2=> ?_,fun ht=> ?_⟩
   ·obtain⟨i0,i1,i2,i3'⟩:=num r0 φ e1
    exact⟨agm,⟨.lss i0 i1 rfl,.eql i0 i1 rfl,agm⟩,agm,agm,agm,agm,agm,agm,agm⟩
   ·have:qn (ns 0) (ms 0)= -1:=if_pos (of_decide_eq_true ht)
    exact hC (aop.1 afo 1 (by decide)) (fun φ _=>by simp only[Ty,this];exact vI) o2 o3
  ·have hs:=fr (Op.bytesLess nm.toList mm.toList) false false
   have hs:ahR 2 (Op.bytesLess nm.toList mm.toList) false false=true:=by cases hb:Op.bytesLess nm.toList mm.toList with|true=>exact fr true false false (by decide)|false=>exact fr false false false (by decide)
   refine⟨Op.bytesLess nm.toList mm.toList,hA hs fun φ e1 e2=> ?_,fun ht=> ?_⟩
   ·refine⟨agm,⟨.Wj (x:=nm.toList) (y:=mm.toList) ?_ ?_ rfl,agm⟩,agm,agm,agm,agm,agm,agm,agm⟩
    ·simp only[gu];rw[show φ.y.q 1=.string nm from(oE e2 (i:=1) (by decide)).trans (hna (.inl rfl))]
    ·simp only[gu];rw[show φ.y.q 21=.string mm from(yX e2 1).trans (Za (.inl rfl))]
   ·have:Hh nm mm= -1:=if_pos ht
    exact hC (aop.1 alb 2 (by decide)) (fun φ _=>aL) (fun φ _=>aL) (fun φ _=>by simp only[XE,this];exact vI)
  ·refine⟨decide (ns 0<ms 0),hA r0 fun φ e1 e2=> ?_,fun ht=> ?_⟩
   ·obtain⟨i0,i1,i2,i3'⟩:=num r0 φ e1
    exact⟨agm,⟨.lss i0 i1 rfl,.eql i0 i1 rfl,agm⟩,agm,agm,agm,agm,agm,agm,agm⟩
   ·have:qn (ns 0) (ms 0)= -1:=if_pos (of_decide_eq_true ht)
    exact hC (aop.1 afo 3 (by decide)) (fun φ _=>by simp only[Ty,this];exact vI) o2 o3
  ·refine⟨decide (ns 0<ms 0)||(decide (ns 0=ms 0)&&decide (ns 1<ms 1)),hA r0 fun φ e1 e2=> ?_,fun ht=> ?_⟩
   ·obtain⟨i0,i1,i2,i3'⟩:=num r0 φ e1
    exact⟨agm,⟨.lss i0 i1 rfl,.eql i0 i1 rfl,.lss i2 i3' rfl,agm⟩,agm,agm,agm,agm,agm,agm,agm⟩
   ·simp only[Bool.or_eq_true,arX,decide_eq_true_eq]at ht
    by_cases h:ns 0<ms 0
    ·have:qn (ns 0) (ms 0)= -1:=if_pos h
     exact hC (aop.1 afo 4 (by decide)) (fun φ _=>by simp only[Ty,this];exact vI) o2 o3
    ·obtain⟨h1,h2⟩:=ht.resolve_left h
     have e0:qn (ns 0) (ms 0)=0:=by rw[h1];simp[qn]
     have e1:qn (ns 1) (ms 1)= -1:=if_pos h2;exact hC apq (fun φ _=>by simp only[Ty,e0];exact aL) (fun φ _=>by simp only[veI,e1];exact vI) o3
  ·have hs:ahR 5 (Op.bytesLess nm.toList mm.toList) false false=true:=by cases hb:Op.bytesLess nm.toList mm.toList with|true=>exact fr true false false (by decide)|false=>exact fr false false false (by decide)
   refine⟨Op.bytesLess nm.toList mm.toList,hA hs fun φ e1 e2=> ?_,fun ht=> ?_⟩
   ·refine⟨agm,⟨.Wj (x:=nm.toList) (y:=mm.toList) ?_ ?_ rfl,agm⟩,agm,agm,agm,agm,agm,agm,agm⟩
    ·simp only[gu];rw[show φ.y.q 1=.string nm from(oE e2 (i:=1) (by decide)).trans (hna (.inr rfl))]
    ·simp only[gu];rw[show φ.y.q 21=.string mm from(yX e2 1).trans (Za (.inr rfl))]
   ·have:Hh nm mm= -1:=if_pos ht
    exact hC (aop.1 alb 5 (by decide)) (fun φ _=>aL) (fun φ _=>aL) (fun φ _=>by simp only[XE,this];exact vI)
 ·have hu:=aop.1 (aop.1 apn k hk) j hj
  unfold ahU at hu;have hb:arY k j=false:=YZ hkj;rw[hb]at hu;refine⟨arM (Ov k) (Ov j),hA hu fun φ _ _=>aS,fun ht=> ?_⟩;have hc:=aop.1 (aop.1 apo k hk) j hj;rw[ht]at hc;exact hC hc o1 o2 o3
def uV(s:Nat):List V:=(AAA 18).map fun i=>.q (s+i)
theorem xo{s:Nat}(h18:a.length=18)(h1:∀u∈a,u.oneCell'=true)(hq:∀i v,a[i]? =some v->φ.q (s+i)=v):J φ (uV s) a:=fy h18.symm fun x u hx=>vQ (hq x u hx) (h1 u (asb hx))
theorem eI.len(h:eI a):a.length=18:=by cases h<;>rfl
theorem eI.one(h:eI a):∀u∈a,u.oneCell'=true:=by
 intro u hu;cases h<;>simp only[Mn,arF,arD,or_false]at hu
 all_goals(rcases hu with rfl|rfl|rfl|rfl|rfl|rfl|rfl|rfl|rfl|rfl|rfl|rfl|rfl|rfl|rfl|rfl|rfl|rfl<;>first|rfl|assumption)
def a4F(l e t:Bool):aU:={bin:=[(.lss,.y .i64 0,.y .i64 1,.b l),(.eql,.y .i64 0,.y .i64 1,.b e)],qc:=[(58,[.a (uV 100),.a (uV 200)],.b t)]}
noncomputable def a4R(l e t:Bool):Bool:=dN (aI E3 (a4F l e t) {}) 200 34 [.a (uV 100),.y .i64 0,.a (uV 200),.y .i64 1] 0 [] (.b (l||(e&&t))) []
theorem apr:([(true,false),(false,true),(false,false)].all fun p=>[true,false].all fun t=>a4R p.1 p.2 t)=true:=by decide+kernel
theorem Mw{b:List Value}(ha:eI a)(hb:eI b)(n m:Int):∃t:Bool,(∀K,Quiet Tryz.prog K 34 [.agg a.toArray,.int .i64 n,.agg b.toArray,.int .i64 m] (· =.bool t))/\
  (t=true->n<m\/(n=m/\∀K x,lW K x->Quiet Tryz.prog K 38 [.map (some x),.agg a.toArray,.agg b.toArray] (· =.int .i64 (-1)))):=by
 obtain⟨t,h1,h2⟩:=XG ha hb;have hm:(decide (n<m),decide (n=m))∈[(true,false),(false,true),(false,false)]:=by
  rcases arW n m with h|h|h
  ·have:¬n=m:=by omega
   simp[h,this]
  ·subst h;simp
  ·have e1:¬n<m:=by omega
   have e2:¬n=m:=by omega
   simp[e1,e2]
 have hr:a4R (decide (n<m)) (decide (n=m)) t=true:=aop.1 (aop.1 apr _ hm) t (by cases t<;>decide);refine⟨decide (n<m)||(decide (n=m)&&t),fun K=> ?_,fun h=> ?_⟩
 ·let y:Sym:={s:=fun x=>if x=0 then n else m,q:=fun x=>if x<200 then a.getD (x-100) b0 else b.getD (x-200) b0,w:=fun _=>[],g:=fun _=>(#[],0),k:=fun _=>none}
  have qa:∀φ:Ren,φ.q=y.q->J φ (uV 100) a:=fun φ e=>xo ha.len ha.one fun i v hv=>by
   have hl:i<18:=by rw[<-ha.len];exact(arC.1 hv).1
   rw[e];show(if 100+i<200 then a.getD (100+i-100) b0 else _)=v;rw[if_pos (by omega),show 100+i-100=i by omega,arH,hv];rfl
  have qb:∀φ:Ren,φ.q=y.q->J φ (uV 200) b:=fun φ e=>xo hb.len hb.one fun i v hv=>by
   rw[e];show(if 200+i<200 then _ else b.getD (200+i-200) b0)=v;rw[if_neg (by omega),show 200+i-200=i by omega,arH,hv];rfl
  refine cC ah rfl hr y (fun φ e1 e2 _ _ _=> ?_) (fun φ _ _ _ _ _=>eX) (fun w hw=>⟨φ0 y w,bc _ w,rfl,J.cons (vA (qa _ rfl)) (J.cons (vY rfl) (J.cons (vA (qb _ rfl)) (J.cons (vY rfl) J.nil)))⟩) (fun φ _ _ x hx=>Ih hx) ⟨_,_,Tryz.func34,rfl,rfl⟩;have i0:aR φ.y (.y .i64 0)=some (.i64,n):=congrArg (fun z=>some (arL,z)) (agB e1 0);have i1:aR φ.y (.y .i64 1)=some (.i64,m):=congrArg (fun z=>some (arL,z)) (agB e1 1);exact⟨agm,⟨.lss i0 i1 rfl,.eql i0 i1 rfl,agm⟩,agm,agm,agm,agm,agm,agm,dy rfl (h1 _) (J.cons (vA (qa φ e2)) (J.cons (vA (qb φ e2)) J.nil)) vB,agm⟩
 ·simp only[Bool.or_eq_true,arX,decide_eq_true_eq]at h
  exact h.imp id fun⟨e,ht⟩=>⟨e,h2 ht⟩
noncomputable def rK:List Code:=ct ((Tryz.f16.body).getD .skip)
noncomputable def o13:Array Oper:=uj (rK.drop 11)
def x9(j:Nat):List V:=uV (100+18*j)
def yr:List V:=uV 40
def rS(a n:Nat):List V:=(arO a n).flatMap x9
def jV(cp:Bool)(j:Nat):V:=cond cp (.y .i64 (10+j)) zI
def Hi(cp:Bool):V:=cond cp (.y .i64 5) zI
def nD(b sz:Nat):Nat->V
 |0=>eD
 |m=>.sl (some (b,0)) m (.un sz)
def B3(cp:Bool)(m:Nat):List V:=[.i .i64 (cond cp 2 1),.y .i64 1,.y .i64 2,nD 0 18 m,cond cp (nD 1 1 m) eD]
def afp(cp:Bool)(m:Nat):List V:=[.a (B3 cp m),.a yr,.y .i64 5]
def alc:Nat->List (Nat×aQ)
 |0=>[]
 |m=>[(0,.rc (rS 0 m) 60)]
def Kj(cp:Bool):Nat->List (Nat×aQ)
 |0=>[]
 |m=>cond cp [(1,.rc ((AAA m).map (jV true)) 3),(0,.rc (rS 0 m) 60)] [(0,.rc (rS 0 m) 60)]
def ald(cp:Bool):Nat->Nat
 |0=>0
 |_=>cond cp 2 1
def afq(cp:Bool)(m k:Nat)(t:Bool):aU:=
 {qc:=(AAA k).map (fun j=>(34,[.a (x9 j),jV cp j,.a yr,Hi cp],.b true))++cond (arM k m) [(34,[.a (x9 k),jV cp k,.a yr,Hi cp],.b false),(34,[.a yr,Hi cp,.a (x9 k),jV cp k],.b t)] []}
def XH:List V:=[zI,zI,zI,eD,eD]
def aps(m:Nat):List (Nat×V):=(AAA 18).map (fun i=>(40+i,.q (40+i)))++(AAA (18*m)).map fun x=>(100+x,.q (100+x))
def Bb(cp:Bool)(m:Nat):bP:={s:=[(1,.y 1),(2,.y 2),(5,.y 5)]++cond cp ((AAA m).map fun j=>(10+j,.y (10+j))) [],q:=aps m}
noncomputable def o3:Array Oper:=uj (rK.drop 3)
def TC(cp:Bool):List (Nat×V):=[(3,.p (some (3,0))),(4,.p (some (4,0))),(6,.p (some (6,0))),(2,Hi cp)]
def ale:List (Nat×aQ):=[(4,.cells yr 60 false),(6,.cells XH 29 false)]
def TD(cp:Bool)(m:Nat):List (Nat×aQ):=[(3,.cells (B3 cp m) 29 false)]++ale++Kj cp m
def Bc(cp:Bool):Nat->List Nat
 |0=>[]
 |_=>cond cp [0,1] [0]
noncomputable def XI(cp:Bool)(m:Nat):Bool:=DS (Bc cp m) (aI E3 {} {}) 100 (rK.take 3) ⟨101,load (afp cp m) 0 .leaf⟩ (ak (ald cp m) (Kj cp m)) .n (Bb cp m) 101 (TC cp) 8 (TD cp m)
def afr:V:=.sl (some (8,0)) 0 (.kn 0)
def afs:Nat->V
 |0=>afr
 |m=>.sl (some (7,0)) m (.un 1)
def aft:Nat->List (Nat×aQ)
 |0=>[(8,.cells [] 3 false)]
 |m=>[(7,.cells ((AAA m).map (jV true)) 3 true)]
def TE(cp:Bool)(m:Nat):List (Nat×V):=TC cp++[(7,cond cp (afs m) afr)]
def TF(cp:Bool)(m:Nat):List (Nat×aQ):=TD cp m++cond cp (aft m) (aft 0)
noncomputable def XJ(cp:Bool)(m:Nat):Bool:=Jd (Bc cp m) (aI E3 {} {}) 100 o3 ((o3.toList.drop 1).take 10) (U 101 ((14,afr)::TC cp)) (ak 9 ((8,.cells [] 3 false)::TD cp m)) (Bb cp m) 101 (TE cp m) 9 (TF cp m)
noncomputable def XK(cp:Bool)(m k:Nat):Bool:=DS (Bc cp m) (aI E3 (afq cp m k false) {}) 1000 ((rK.drop 4).take 20) (U 101 (TE cp m)) (ak 9 (TF cp m)) .r (Bb cp m) 101 [(6,.p (some (6,0)))] 9 ((6,.cells (B3 cp m) 29 false)::Kj cp m)
def alf(cp:Bool)(m k:Nat):List (Nat×V):=[(3,.p (some (3,0))),(4,.p (some (4,0))),(6,.p (some (6,0))),(8,.i .i64 k),(9,eD),(10,eD)]++cond cp [(2,.y .i64 5),(7,afs m)] []
def aaf(cp:Bool)(m:Nat)(x:V):List (Nat×aQ):=[(3,.cells [.i .i64 (cond cp 2 1),.y .i64 1,.y .i64 2,x,cond cp .top eD] 29 false),(6,.cells XH 29 false)]++cond cp (aft m) []
def aag(cp:Bool)(m:Nat):List (Nat×aQ):=aaf cp m (nD 0 18 m)++(4,.cells yr 60 false)::alc m
noncomputable def XL(cp:Bool)(m k:Nat):Bool:=av (aI E3 (afq cp m k true) {}) 1000 ((rK.drop 4).take 7) (U 101 (TE cp m)) (ak 9 (TF cp m)) .n (Bb cp m) 101 (alf cp m k) 9 (aag cp m)
def oEp(x n:Nat):List Nat:=[x-1,x]++AAA (x-1)++arO (x+1) (n-x-1)
def oEd(ops:Array Oper)(x y:Nat):Array Oper:=cond (arM x y) (cJ ops x y) (dX (cJ ops x y) (oEp x ops.size))
def rU(m k:Nat):List V:=rS 0 k++yr++rS k (m-k)
def CN(cp:Bool)(m k:Nat):List (Nat×V):=[(3,.p (some (3,0))),(6,.p (some (6,0)))]++cond cp [(2,.y .i64 5),(7,afs m),(8,.i .i64 k),(10,eD)] []
def CO(cp:Bool)(m k:Nat):List (Nat×aQ):=aaf cp m (.sl (some (5,0)) (m+1) (.un 18))++[(5,.cells (rU m k) 60 true)]
noncomputable def Kk(cp:Bool)(m k x y:Nat):Bool:=Lz (aI E3 {} {}) 300 (oEd o13 x y) (U 101 (alf cp m k)) (ak 9 (aag cp m)) (Bb cp m) 101 (CN cp m k) 9 (CO cp m k)
def Kl(cp:Bool)(m k:Nat):List V:=[.i .i64 (cond cp 2 1),.y .i64 1,.y .i64 2,.sl (some (5,0)) (m+1) (.un 18),cond cp (.sl (some (7,0)) (m+1) (.un 1)) eD]
def uW(m k:Nat):List V:=(AAA k).map (jV true)++[.y .i64 5]++(arO k (m-k)).map (jV true)
def CP(cp:Bool)(m k:Nat):List (Nat×aQ):=[(6,.cells (Kl cp m k) 29 false),(5,.cells (rU m k) 60 true)]++cond cp [(7,.cells (uW m k) 3 true)] []
noncomputable def alg(m k:Nat):Bool:=av (aI E3 {} {}) 300 ((rK.drop 12).take 10) (U 101 (CN false m k)) (ak 9 (CO false m k)) .r (Bb false m) 101 [(6,.p (some (6,0)))] 9 (CP false m k)
noncomputable def alh(m k:Nat):Bool:=av (aI E3 {} {}) 300 ((rK.drop 12).take 1) (U 101 (CN true m k)) (ak 9 (CO true m k)) .n (Bb true m) 101 ((86,.b true)::CN true m k) 9 (CO true m k)
noncomputable def cP:List Code:=match rK.drop 13 with|.cond _ x _::_=>ct x|_=>[]
noncomputable def o15:Array Oper:=uj cP
def TG(m k:Nat):List (Nat×aQ):=[(3,.cells (Kl true m k) 29 false),(6,.cells XH 29 false),(5,.cells (rU m k) 60 true),(7,.cells (uW m k) 3 true)]
noncomputable def afu(m k x y:Nat):Bool:=Lz (aI E3 {} {}) 300 (oEd o15 x y) (U 101 (CN true m k)) (ak 9 (CO true m k)) (Bb true m) 101 [(3,.p (some (3,0))),(6,.p (some (6,0)))] 9 (TG m k)
noncomputable def ali(m k:Nat):Bool:=av (aI E3 {} {}) 300 ((rK.drop 14).take 10) (U 101 [(3,.p (some (3,0))),(6,.p (some (6,0)))]) (ak 9 (TG m k)) .r (Bb true m) 101 [(6,.p (some (6,0)))] 9 (CP true m k)
noncomputable def oF(m:Nat):Bool:=(AAA (m+1)).all fun k=>XL false m k&&XL true m k&&Kk false m k 5 7&&Kk false m k 7 5&&Kk true m k 5 7&&Kk true m k 7 5&&alg m k&&alh m k&&afu m k 4 6&&afu m k 6 4&&ali m k
noncomputable def rV(m:Nat):Bool:=XI false m&&XI true m&&XJ false m&&XJ true m
noncomputable def uX(m:Nat):Bool:=(AAA m).all fun k=>XK false m k&&XK true m k
variable{i:Nat}
def bE:Value->Nat->Value
 |.slice (some a) _ _,off=>.pointer (some ⟨a.1,a.2+off,none⟩)
 |_,_=>.bool false
theorem RowK.idx{T sz:Nat}{v:Value}{row:List Value}(hr:RowK K T sz v row){t e:TypeId}{ie:TypeInfo}(hu:Tryz.prog.underlying t=some (.slice e))(hi:Tryz.prog.info? e=some ie)(hz:ie.size=sz)(bf:(i+1)*sz<=row.length):
  (bE v (i*sz)).oneCell'=true/\∀w,(Instr.indexAt t v (.int .i64 i)).run Tryz.prog w=.ok (bE v (i*sz)) w:=by
 obtain⟨r,n,cap,c,rfl,h2,h3,h4,h5,h6,h7⟩:=hr;refine⟨rfl,fun w=> ?_⟩;have hn:i<n:=by
  rw[<-h3]at bf;have:=Nat.le_of_mul_le_mul_right bf h2;omega
 have hc:(0:Int)<=(i:Int)/\(i:Int)<(n:Int):=⟨by omega,by omega⟩;simp only[Instr.indexAt,asIntOf,Sem.run_bind,Sem.run_pure,Result.andThen_ok,run_underlying hu];rw[if_pos hc];simp[run_sizeOf hi,Addr.add_lit,bE,hz]
theorem RowK.load{K:Nat->Option Obj}{T sz:Nat}{v:Value}{row:List Value}(hr:RowK K T sz v row){t:TypeId}{ie:TypeInfo}{d:TypeDesc}(hi:Tryz.prog.info? t=some ie)(hd:Tryz.prog.underlying t=some d){φ:Ren}{cs:List V}{us:List Value}(hv:J φ cs us){o:Nat}
  (Cl:(row.drop o).take us.length=us){x:V}(hx:ir ie d cs 0=some x){w:World}(hw:∀r o,K r=some o->w.heap[r]? =some o):∃u,(Instr.loadAt t (bE v o)).run Tryz.prog w=.ok u w/\VR φ x u:=by
 obtain⟨r,n,cap,c,rfl,h2,h3,h4,h5,h6,h7⟩:=hr;have:=eE (P:=Tryz.prog) (w:=w) hi hd hv (r:=r) (o:=o) (fun j u hj=> ?_) hx
 ·simpa[bE]using this
 ·have h8:=hw _ _ h6
  have bQ:row[o+j]? =some u:=by
   rw[<-Cl]at hj;rw[ase]at hj;split at hj
   ·rw[List.getElem?_drop]at hj;exact hj
   ·cases hj
  have hc:c[o+j]? =some u:=by
   rw[<-Array.getElem?_toList];rw[<-h7,ase]at bQ;split at bQ
   ·exact bQ
   ·cases bQ
  simp[World.cell?,h8,hc]
def Fc(k:Nat):List V:=(AAA k).flatMap fun i=>[.q (20+i),.y .i64 (10+i),.y .i64 (16+i),.q (130+i)]
def XM:Nat->V
 |0=>eD
 |k=>.sl (some (0,0)) k (.un 4)
def fxB:Nat->List (Nat×aQ)
 |0=>[]
 |k=>[(0,.rc (Fc k) 93)]
def fxN:Nat->Nat
 |0=>0
 |_=>1
def fdF(k i:Nat):aU:={bin:=(AAA (min (i+1) k)).map fun j=>(.eql,.q (20+j),.q 27,.b (arY j i))}
noncomputable def fdR(k i:Nat):Bool:=dN (aI E3 (fdF k i) {}) 400 53 [.a [.q 26,XM k],.q 27] (fxN k) (fxB k) (cond (arM i k) (.t [.i .i64 i,.b true]) (.t [zI,.b false])) []
noncomputable def lfR(k i:Nat):Bool:=cond (arM i k) (dN (aI E3 (fdF k i) {}) 400 232 [.a [.i .i64 3,zI,.q 27,eD],.a [.q 26,XM k]] (fxN k) (fxB k) (.t [.a [.y .i64 (10+i),.y .i64 (16+i)],.b true]) []) true
theorem XN:((AAA 7).all fun k=>(AAA (k+1)).all fun i=>fdR k i)=true:=by decide+kernel
theorem XO:((AAA 7).all fun k=>(AAA (k+1)).all fun i=>lfR k i)=true:=by decide+kernel
def Pg(nm t:ByteArray)(fl:List eO):Sym:=
 {s:=fun x=>if x<16 then(fl.getD (x-10) ⟨cj,cj,0,0,false⟩).nk else(fl.getD (x-16) ⟨cj,cj,0,0,false⟩).no,
  q:=fun x=>if x<26 then .string (fl.getD (x-20) ⟨cj,cj,0,0,false⟩).t else if x=26 then .string nm else if x=27 then .string t else .bool (fl.getD (x-130) ⟨cj,cj,0,0,false⟩).b,
  w:=fun _=>[],g:=fun _=>(#[],0),k:=fun _=>none}
section
variable {nm t:ByteArray} {fl:List eO} {φ:Ren}
theorem lZ{f:eO}(h:fl[i]? =some f):fl.getD i ⟨cj,cj,0,0,false⟩=f:=by rw[arH,h];rfl
theorem aah(e:φ.s=(Pg nm t fl).s)(hi:i<6){f:eO}(h:fl[i]? =some f):φ.s (10+i)=f.nk:=by
 rw[e];show(if 10+i<16 then(fl.getD (10+i-10) _).nk else _)=_;rw[if_pos (by omega),show 10+i-10=i by omega,lZ h]
theorem aai(e:φ.s=(Pg nm t fl).s)(hi:i<6){f:eO}(h:fl[i]? =some f):φ.s (16+i)=f.no:=by
 rw[e];show(if 16+i<16 then _ else(fl.getD (16+i-16) _).no)=_;rw[if_neg (by omega),show 16+i-16=i by omega,lZ h]
theorem aaj(e:φ.q=(Pg nm t fl).q)(hi:i<6){f:eO}(h:fl[i]? =some f):φ.q (20+i)=.string f.t:=by
 rw[e];show(if 20+i<26 then Value.string (fl.getD (20+i-20) _).t else _)=_;rw[if_pos (by omega),show 20+i-20=i by omega,lZ h]
theorem alj(e:φ.q=(Pg nm t fl).q)(hi:i<6){f:eO}(h:fl[i]? =some f):φ.q (130+i)=.bool f.b:=by
 rw[e];show(if 130+i<26 then _ else if 130+i=26 then _ else if 130+i=27 then _ else Value.bool (fl.getD (130+i-130) _).b)=_;rw[if_neg (by omega),if_neg (by omega),if_neg (by omega),show 130+i-130=i by omega,lZ h]
end
theorem ia{φ:Ren}{α:Type}{f:Nat->List V}{g:α->List Value}:∀(l:List α) (s:Nat),(∀j a,l[j]? =some a->J φ (f (s+j)) (g a))->J φ ((arO s l.length).flatMap f) (l.flatMap g)
 |[],_,_=>J.nil
 |a::l,s,h=>by
  rw[arK,List.range'_succ,arP,arP];exact J.append (h 0 a rfl) (ia l (s+1) fun j c hj=>by have:=h (j+1) c hj;rwa[show s+(j+1)=s+1+j by omega]at this)
theorem Hj{nm t:ByteArray}{fl:List eO}(hf:dW fl)(jM:eP K fl fs){w:World}(hw:∀r o,K r=some o->w.heap[r]? =some o):
  ∃φ:Ren,HR φ (ak (fxN fl.length) (fxB fl.length)) w/\φ.y={Pg nm t fl with k:=fun r=>w.heap[r]?}/\VR φ (XM fl.length) fs:=by
 have h6:=hf.len;rcases jM with⟨rfl,rfl⟩|⟨e1,bQ⟩
 ·exact⟨φ0 (Pg nm t []) w,bc _ w,rfl,bY⟩
 ·have jD:J (φ0 (Pg nm t fl) w) (Fc fl.length) (fl.flatMap eO.cells):=by
   rw[Fc,List.range_eq_range'];refine ia fl 0 fun j f hj=> ?_
   have bf:j<fl.length:=(arC.1 hj).1;rw[arE];exact J.cons (vQ (aaj (nm:=nm) (t:=t) rfl (by omega) hj) rfl) (J.cons (vY (aah (nm:=nm) (t:=t) rfl (by omega) hj)) (J.cons (vY (aai (nm:=nm) (t:=t) rfl (by omega) hj)) (J.cons (vQ (alj (nm:=nm) (t:=t) rfl (by omega) hj) rfl) J.nil)))
  obtain⟨aV,j1,j2,j3,j4⟩:=bQ.enter (bc (Pg nm t fl) w) hw rfl jD (n:=fl.length) (by rw[qm];omega);have gn:0<fl.length:=asd.2 e1;obtain⟨k,hk⟩:∃k,fl.length=k+1:=⟨fl.length-1,by omega⟩
  rw[hk]at j1 j4⊢;exact⟨aV,j1,j2,j4⟩
theorem Hk{nm t:ByteArray}{fl:List eO}(hf:dW fl)(hi:∀j f,fl[j]? =some f->(f.t=t↔j=i)){φ:Ren}(e1:φ.s=(Pg nm t fl).s)(e2:φ.q=(Pg nm t fl).q):aA Tryz.prog (fdF fl.length i) φ:=by
 have h6:=hf.len;refine⟨agm,cH fun j hj=> ?_,agm,agm,agm,agm,agm,agm,agm⟩;have hj:=arG.1 hj;have Ll:j<fl.length:=by omega
 have fj:fl[j]? =some fl[j]:=arQ Ll;refine .I0 (x:=fl[j].t.toList) (y:=t.toList) ?_ ?_ ?_
 ·simp only[gu];rw[show φ.y.q (20+j)=_ from aaj e2 (by omega) fj]
 ·simp only[gu];rw[show φ.y.q 27=_ from agB e2 27];rfl
 ·have:=hi j _ fj
  cases mf:arY j i with
  |true=>rw[this.2 (asa mf)];simp
  |false=>
   rw[beq_eq_false_iff_ne];intro e;rw[ByteArray.toList_eq,ByteArray.toList_eq]at e;rw[this.1 (ByteArray.ext (arJ.1 e))]at mf;simp at mf
theorem EG{nm:ByteArray}{fl:List eO}(hf:dW fl)(jM:eP K fl fs)(t:ByteArray):
  ∃(i:Nat) (b:Bool),Quiet Tryz.prog K 53 [.agg #[.string nm,fs],.string t] (· =.tuple #[.int .i64 i,.bool b])/\(b=true->∃f,fl[i]? =some f/\f.t=t)/\(b=false->∀f∈fl,f.t≠t):=by
 have h6:=hf.len;have main:∀i,i<=fl.length->(∀j f,fl[j]? =some f->(f.t=t↔j=i))->Quiet Tryz.prog K 53 [.agg #[.string nm,fs],.string t] (· =cond (arM i fl.length) (.tuple #[.int .i64 i,.bool true]) (.tuple #[.int .i64 0,.bool false])):=fun i hi hj=>by
  have hr:fdR fl.length i=true:=aop.1 (aop.1 XN fl.length (arG.2 (by omega))) i (arG.2 (by omega));refine cC ah rfl hr (Pg nm t fl) (fun φ f1 f2 f3 f4 hK=>Hk hf hj f1 f2) (fun φ _ _ _ _ _=>eX) (fun w hw=> ?_) (fun φ f1 f2 x hx=> ?_) ⟨_,_,Tryz.func53,rfl,rfl⟩
  ·obtain⟨φ,g1,g2,g3⟩:=Hj (nm:=nm) (t:=t) hf jM hw
   exact⟨φ,g1,g2,J.cons (vA (J.cons (vQ (by simp only[Ren.q,g2];rfl) rfl) (J.cons g3 J.nil))) (J.cons (vQ (by simp only[Ren.q,g2];rfl) rfl) J.nil)⟩
  ·cases hb:arM i fl.length with
   |true=>
    rw[hb]at hx;simp only[cond,VR,J]at hx⊢;obtain⟨vs,rfl,a,l,e,rfl,b,l',rfl,rfl,rfl⟩:=hx;exact congrArg _ (arJ.1 (e.trans rfl))
   |false=>
    rw[hb]at hx;simp only[cond,VR,J,zI]at hx⊢;obtain⟨vs,rfl,a,l,e,rfl,b,l',rfl,rfl,rfl⟩:=hx;exact congrArg _ (arJ.1 (e.trans rfl))
 by_cases hex:∃(i:Nat) (f:eO),fl[i]? =some f/\f.t=t
 ·obtain⟨i,f,hi,ht⟩:=hex
  have bf:i<fl.length:=(arC.1 hi).1;refine⟨i,true,(main i (by omega) fun j g hg=>⟨fun e=>hf.once j i g f hg hi (e.trans ht.symm),fun e=> ?_⟩).imp fun v hv=> ?_,fun _=>⟨f,hi,ht⟩,(fun e=>by cases e)⟩
  ·subst e;rw[hi]at hg;cases hg;exact ht
  ·rw[hv,bh.2 bf];rfl
 ·refine⟨0,false,(main fl.length (Nat.le_refl _) fun j g hg=>⟨fun e=>absurd ⟨j,g,hg,e⟩ hex,fun e=> ?_⟩).imp fun v hv=> ?_,(fun e=>by cases e),fun _ f hm e=> ?_⟩
  ·subst e;rw[List.getElem?_eq_none (Nat.le_refl _)]at hg;cases hg
  ·rw[hv]
   cases hb:arM fl.length fl.length with
   |true=>have:=bh.1 hb;omega
   |false=>rfl
  ·obtain⟨i,hi⟩:=arZ.1 hm
   exact hex ⟨i,f,hi,e⟩
theorem afv{K:Nat->Option Obj}{nm:ByteArray}{fl:List eO}(hf:dW fl)(jM:eP K fl fs){f:eO}(hm:f∈fl):
  Quiet Tryz.prog K 232 [.agg #[.int .i64 3,.int .i64 0,.string f.t,aF],.agg #[.string nm,fs]] (· =.tuple #[.agg #[.int .i64 f.nk,.int .i64 f.no],.bool true]):=by
 have h6:=hf.len;obtain⟨i,hi⟩:=arZ.1 hm;have bf:i<fl.length:=(arC.1 hi).1;have hr:lfR fl.length i=true:=aop.1 (aop.1 XO fl.length (arG.2 (by omega))) i (arG.2 (by omega));unfold lfR at hr;rw[bh.2 bf]at hr;have hj:∀j g,fl[j]? =some g->(g.t=f.t↔j=i):=fun j g hg=>⟨fun e=>hf.once j i g f hg hi e,fun e=>by subst e;rw[hi]at hg;cases hg;rfl⟩
 refine cC ah rfl hr (Pg nm f.t fl) (fun φ f1 f2 f3 f4 hK=>Hk hf hj f1 f2) (fun φ _ _ _ _ _=>eX) (fun w hw=> ?_) (fun φ f1 f2 x hx=> ?_) ⟨_,_,Tryz.func232,rfl,rfl⟩
 ·obtain⟨φ,g1,g2,g3⟩:=Hj (nm:=nm) (t:=f.t) hf jM hw
  exact⟨φ,g1,g2,J.cons (vA (J.cons vI (J.cons aL (J.cons (vQ (by simp only[Ren.q,g2];rfl) rfl) (J.cons bY J.nil))))) (J.cons (vA (J.cons (vQ (by simp only[Ren.q,g2];rfl) rfl) (J.cons g3 J.nil))) J.nil)⟩
 ·simp only[VR,J]at hx
  obtain⟨vs,rfl,a,l,e,⟨vs2,rfl,c1,l1,e1,rfl,c2,l2,rfl,rfl,rfl⟩,b,l',rfl,rfl,rfl⟩:=hx;rw[aah f1 (by omega) hi,aai f1 (by omega) hi]at e1;rw[arJ.1 (e.trans rfl:vs.toList=(#[Value.agg vs2,.bool true]:Array Value).toList),arJ.1 (e1.trans rfl:vs2.toList=(#[Value.int .i64 f.nk,.int .i64 f.no]:Array Value).toList)]
end Go.Ev
namespace Go.Proofs
open List renaming all_eq_true->aop,range->AAA,getElem?_eq_some_iff->arC,not_mem_nil->arD,mem_cons->arF,mem_range->arG,getD_eq_getElem?_getD->arH,length_cons->arK,range'->arO,flatMap_cons->arP,getElem?_eq_getElem->arQ,length_nil->arS,length_append->arU,mem_iff_getElem?->arZ,mem_of_getElem?->asb,length_pos_iff->asd,getElem?_take->ase
open Nat renaming zero_add->arE,blt->arM,beq->arY,eq_of_beq_eq_true->asa
open Int renaming tmod_eq_emod_of_nonneg->arI,neg_tmod->arV,lt_trichotomy->arW,emod_lt_of_pos->asf
open _root_.Array renaming toList_inj->arJ
open IntKind renaming i64->arL
open _root_.ByteArray renaming empty->arR
open CallsIn renaming mono->arT
open Bool renaming and_eq_true->arX
open Go.Shelf Go.RowKit Go.Ev
def ax(c N:Int):Int:=if c<0 then(-(c+1))%N else c%N
def eR(c:Int):Prop:= -9223372036854775808<=c/\c<=9223372036854775807
theorem bI(c:Int){N:Int}(hN:1<=N):0<=ax c N/\ax c N<N:=by
 unfold ax;have hN0:N≠0:=by omega
 split
 ·exact⟨Int.emod_nonneg _ hN0,asf _ (by omega)⟩
 ·exact⟨Int.emod_nonneg _ hN0,asf _ (by omega)⟩
set_option maxHeartbeats 1000000 in
theorem Tryz.afw(c:Int)(N:Nat)(hN:1<=N/\N<=100000)(hc: -9223372036854775808<=c/\c<=9223372036854775807)(w:World):
  Calls Tryz.prog 14 #[.int .i64 c,.int .i64 N] w fun e w'=>e=.returned (.int .i64 (ax c N))/\w'=w:=by
 have hN0:(N:Int)≠0:=by omega
 go_enter Tryz.func14,Tryz.ntmps14
 go_wp2
 ·rename_i bf
  go_ret
  have h1:0<= -(c+1):=by omega
  have e: -(c+1).tmod (N:Int)=(-(c+1))%(N:Int):=by
   rw[<-arV,arI h1]
  have hp:ax c N=(-(c+1))%(N:Int):=if_pos (by omega);refine⟨?_,rfl⟩;rw[e,hp];rfl
 ·rename_i bf
  go_ret
  have hp:ax c N=c%(N:Int):=if_neg (by omega);refine⟨?_,rfl⟩;rw[hp];rfl
theorem eJ(K:Nat->Option Obj){c:Int}(hc:eR c){N:Nat}(hN:1<=N/\N<=100000):Quiet Tryz.prog K 14 [.int .i64 c,.int .i64 N] (· =.int .i64 (ax c N)):=by
 refine⟨⟨_,_,Tryz.func14,rfl,rfl⟩,fun n w _=> ?_⟩;refine arT (callsIn_wide.2 (Tryz.afw c N hN hc w):CallsIn (Go.Ev.W none) n _ _ _ _ _) ?_;rintro e w' ⟨rfl,rfl⟩;exact⟨_,rfl,rfl,Go.Ev.Grown.refl _⟩
set_option maxHeartbeats 1000000 in
theorem Tryz.afx(c:Int)(N:Nat)(hN:1<=N/\N<=100000)(hc: -9223372036854775808<=c/\c<=9223372036854775807)(w:World):
  Calls Tryz.prog 52 #[.int .i64 c,.int .i64 N] w fun e w'=>e=.returned (.int .i64 (ax c N))/\w'=w:=by
 have hN0:(N:Int)≠0:=by omega
 go_enter Tryz.func52,Tryz.ntmps52
 go_wp2
 ·rename_i bf
  go_ret
  have h1:0<= -(c+1):=by omega
  have e: -(c+1).tmod (N:Int)=(-(c+1))%(N:Int):=by
   rw[<-arV,arI h1]
  have hp:ax c N=(-(c+1))%(N:Int):=if_pos (by omega);refine⟨?_,rfl⟩;rw[e,hp];rfl
 ·rename_i bf
  go_ret
  have hp:ax c N=c%(N:Int):=if_neg (by omega);refine⟨?_,rfl⟩;rw[hp];rfl
theorem nE(K:Nat->Option Obj){c:Int}(hc:eR c){N:Nat}(hN:1<=N/\N<=100000):Quiet Tryz.prog K 52 [.int .i64 c,.int .i64 N] (· =.int .i64 (ax c N)):=by
 refine⟨⟨_,_,Tryz.func52,rfl,rfl⟩,fun n w _=> ?_⟩;refine arT (callsIn_wide.2 (Tryz.afx c N hN hc w):CallsIn (Go.Ev.W none) n _ _ _ _ _) ?_;rintro e w' ⟨rfl,rfl⟩;exact⟨_,rfl,rfl,Go.Ev.Grown.refl _⟩
set_option maxHeartbeats 1000000 in
theorem Tryz.afy(c:Int)(N:Nat)(hN:1<=N/\N<=100000)(hc: -9223372036854775808<=c/\c<=9223372036854775807)(w:World):
  Calls Tryz.prog 54 #[.int .i64 c,.int .i64 N] w fun e w'=>e=.returned (.int .i64 (ax c N))/\w'=w:=by
 have hN0:(N:Int)≠0:=by omega
 go_enter Tryz.func54,Tryz.ntmps54
 go_wp2
 ·rename_i bf
  go_ret
  have h1:0<= -(c+1):=by omega
  have e: -(c+1).tmod (N:Int)=(-(c+1))%(N:Int):=by
   rw[<-arV,arI h1]
  have hp:ax c N=(-(c+1))%(N:Int):=if_pos (by omega);refine⟨?_,rfl⟩;rw[e,hp];rfl
 ·rename_i bf
  go_ret
  have hp:ax c N=c%(N:Int):=if_neg (by omega);refine⟨?_,rfl⟩;rw[hp];rfl
theorem qo(K:Nat->Option Obj){c:Int}(hc:eR c){N:Nat}(hN:1<=N/\N<=100000):Quiet Tryz.prog K 54 [.int .i64 c,.int .i64 N] (· =.int .i64 (ax c N)):=by
 refine⟨⟨_,_,Tryz.func54,rfl,rfl⟩,fun n w _=> ?_⟩;refine arT (callsIn_wide.2 (Tryz.afy c N hN hc w):CallsIn (Go.Ev.W none) n _ _ _ _ _) ?_;rintro e w' ⟨rfl,rfl⟩;exact⟨_,rfl,rfl,Go.Ev.Grown.refl _⟩
set_option maxHeartbeats 1000000 in
theorem Tryz.afz(c:Int)(N:Nat)(hN:1<=N/\N<=100000)(hc: -9223372036854775808<=c/\c<=9223372036854775807)(w:World):
  Calls Tryz.prog 57 #[.int .i64 c,.int .i64 N] w fun e w'=>e=.returned (.int .i64 (ax c N))/\w'=w:=by
 have hN0:(N:Int)≠0:=by omega
 go_enter Tryz.func57,Tryz.ntmps57
 go_wp2
 ·rename_i bf
  go_ret
  have h1:0<= -(c+1):=by omega
  have e: -(c+1).tmod (N:Int)=(-(c+1))%(N:Int):=by
   rw[<-arV,arI h1]
  have hp:ax c N=(-(c+1))%(N:Int):=if_pos (by omega);refine⟨?_,rfl⟩;rw[e,hp];rfl
 ·rename_i bf
  go_ret
  have hp:ax c N=c%(N:Int):=if_neg (by omega);refine⟨?_,rfl⟩;rw[hp];rfl
theorem Hl(K:Nat->Option Obj){c:Int}(hc:eR c){N:Nat}(hN:1<=N/\N<=100000):Quiet Tryz.prog K 57 [.int .i64 c,.int .i64 N] (· =.int .i64 (ax c N)):=by
 refine⟨⟨_,_,Tryz.func57,rfl,rfl⟩,fun n w _=> ?_⟩;refine arT (callsIn_wide.2 (Tryz.afz c N hN hc w):CallsIn (Go.Ev.W none) n _ _ _ _ _) ?_;rintro e w' ⟨rfl,rfl⟩;exact⟨_,rfl,rfl,Go.Ev.Grown.refl _⟩
end Go.Proofs
namespace Go.Ev
open List renaming all_eq_true->aop,range->AAA,getElem?_eq_some_iff->arC,not_mem_nil->arD,mem_cons->arF,mem_range->arG,getD_eq_getElem?_getD->arH,length_cons->arK,range'->arO,flatMap_cons->arP,getElem?_eq_getElem->arQ,length_nil->arS,length_append->arU,mem_iff_getElem?->arZ,mem_of_getElem?->asb,length_pos_iff->asd,getElem?_take->ase
open Nat renaming zero_add->arE,blt->arM,beq->arY,eq_of_beq_eq_true->asa
open Int renaming tmod_eq_emod_of_nonneg->arI,neg_tmod->arV,lt_trichotomy->arW,emod_lt_of_pos->asf
open _root_.Array renaming toList_inj->arJ
open IntKind renaming i64->arL
open _root_.ByteArray renaming empty->arR
open CallsIn renaming mono->arT
open Bool renaming and_eq_true->arX
open Go.Proofs
noncomputable def nmC(r:Nat):Bool:=dN (aI E3 {qc:=[(14,[.y .i64 0,.i .i64 4],.i .i64 r)]} {}) 200 29 [.y .i64 0] 0 [] (.s (lB.getD r [])) []
theorem alk:([0,1,2,3].all nmC)=true:=by decide+kernel
theorem afA(K:Nat->Option Obj){c:Int}(hc:eR c):∃nm∈lB,Quiet Tryz.prog K 29 [.int .i64 c] (· =.string (bytes nm)):=by
 obtain⟨h1,h2⟩:=bI c (N:=4) (by decide);obtain⟨r,hr⟩:∃r:Nat,ax c 4=r:=⟨_,(Int.toNat_of_nonneg h1).symm⟩
 have pJ:r∈[0,1,2,3]:=by rw[hr]at h2;rcases(show r=0\/r=1\/r=2\/r=3 by omega)with rfl|rfl|rfl|rfl<;>decide
 have hm:lB.getD r []∈lB:=by revert pJ;simp only[arF,arD,or_false];rintro(rfl|rfl|rfl|rfl)<;>decide
 refine⟨_,hm,?_⟩;refine cC ah rfl (aop.1 alk r pJ) {s:=fun _=>c,q:=fun _=>b0,w:=fun _=>[],g:=fun _=>(#[],0),k:=fun _=>none} (fun φ e1 _ _ _ _=> ?_) (fun φ _ _ _ _ _=>eX) (fun w hw=>⟨φ0 _ w,bc _ w,rfl,J.cons (vY rfl) J.nil⟩) (fun φ _ _ x hx=>by simp only[VR]at hx;exact hx.1) ⟨_,_,Tryz.func29,rfl,rfl⟩;refine⟨agm,agm,agm,agm,agm,agm,agm,agm,?_,agm⟩;have:=eJ φ.y.k hc (N:=4) (by decide);rw[show((4:Nat):Int)=4 from rfl,hr]at this;exact dy rfl this (J.cons (vY (agB e1 0)) (J.cons vI J.nil)) vI
end Go.Ev
namespace Go.Ev
open List renaming all_eq_true->aop,range->AAA,getElem?_eq_some_iff->arC,not_mem_nil->arD,mem_cons->arF,mem_range->arG,getD_eq_getElem?_getD->arH,length_cons->arK,range'->arO,flatMap_cons->arP,getElem?_eq_getElem->arQ,length_nil->arS,length_append->arU,mem_iff_getElem?->arZ,mem_of_getElem?->asb,length_pos_iff->asd,getElem?_take->ase
open Nat renaming zero_add->arE,blt->arM,beq->arY,eq_of_beq_eq_true->asa
open Int renaming tmod_eq_emod_of_nonneg->arI,neg_tmod->arV,lt_trichotomy->arW,emod_lt_of_pos->asf
open _root_.Array renaming toList_inj->arJ
open IntKind renaming i64->arL
open _root_.ByteArray renaming empty->arR
open CallsIn renaming mono->arT
open Bool renaming and_eq_true->arX
open Go.Proofs
noncomputable def Vx:List Code:=ct ((Tryz.f30.body).getD .skip)
noncomputable def Be(c:List Code):List Code:=match c with|.block _ (.loop b)::_=>ct b|_=>[]
noncomputable def Km:List Code:=Be (Vx.drop 4)
def alm:List V:=[.a [.y .i64 0,.q 1]]
def Hm:List V:=aT.map .s
def aak:List (Nat×V):=[(1,.p (some (0,0))),(2,.p (some (1,0))),(3,.sl (some (4,0)) 6 (.kn 6)),(4,.p (some (2,0))),(5,.i .i64 0)]
def aal:List (Nat×aQ):=[(0,.cells [.y .i64 0,.q 1] 69 false),(1,.cells [.s [],eD] 54 false),(2,.cells [.q 2,eD] 54 false),(4,.cells Hm 9 false)]
noncomputable def aam(r:Nat):Bool:=av (aI E3 {qc:=[(52,[.y .i64 0,.i .i64 6],.i .i64 r)]} {}) 100 (Vx.take 4) ⟨81,load alm 0 .leaf⟩ (ak 0 []) .n {s:=[(0,.y 0)],q:=[(1,.q 1),(2,.s (nC.getD r []))]} 81 aak 5 aal
theorem apt:((AAA 6).all aam)=true:=by decide+kernel
def Hn:List (Nat×V):=[(1,.p (some (0,0))),(2,.p (some (1,0))),(3,.q 4),(4,.p (some (2,0))),(5,.y .i64 5)]
def TH:Nat->V
 |0=>eD
 |k=>.sl (some (3,0)) k (.un 4)
def B4(k:Nat):List (Nat×aQ):=[(0,.cells [.y .i64 0,.q 1] 69 false),(1,.cells [.s [],eD] 54 false),(2,.cells [.q 2,TH k] 54 false)]++(match k with|0=>[]|k=>[(3,.cells (Fc k) 93 true)])
def afB(k:Nat):bP:={s:=[(0,.y 0),(5,.y 7)]++(AAA k).flatMap (fun j=>[(10+j,.y (10+j)),(16+j,.y (16+j))]),q:=[(1,.q 1),(2,.q 2),(4,.q 4)]++(AAA k).flatMap (fun j=>[(20+j,.q (20+j)),(130+j,.q (130+j))])}
def aln(k:Nat)(ls ix:Bool):bP:={s:=(afB k).s++[(10+k,.y 61),(16+k,cond ls (.y 62) (.i 0))],q:=(afB k).q++[(20+k,.q 6),(130+k,.b ix)]}
def aan(k j0:Nat)(ls le:Bool):aU:=
 {bin:=[(.lss,.y .i64 5,.y .i64 6,.b true),(.lss,.y .i64 5,.i .i64 6,.b true),(.add,.y .i64 5,.i .i64 1,.y .i64 7),(.add,.i .i64 1,.y .i64 64,.y .i64 61),(.eql,.y .i64 61,.i .i64 5,.b ls),(.add,.i .i64 1,.y .i64 63,.y .i64 62),(.leq,.y .i64 61,.i .i64 3,.b le)]++
   (AAA (min (j0+1) k)).map fun j=>(.eql,.q (20+j),.q 6,.b (arY j j0)),
  qc:=[(52,[.y .i64 50,.i .i64 6],.y .i64 60),(52,[.y .i64 51,.i .i64 5],.y .i64 64),(52,[.y .i64 52,.i .i64 4],.y .i64 63)]}
def alo(ix:Bool):XF:={on:=[(1,6)],oi:=[(67,1,.y .i64 5,3),(76,4,.y .i64 60,5)],ol:=[(146,3,.a [.y .i64 50,.y .i64 51,.y .i64 52,.b ix]),(9,5,.q 6)]}
def aao:List (Bool×Bool×Bool):=[(false,false,true),(false,false,false),(false,true,true),(false,true,false),(true,false,false),(true,true,false)]
noncomputable def TI(k j0:Nat)(c:Bool×Bool×Bool):Bool:=
 av (aI E3 (aan k j0 c.1 c.2.2) (alo c.2.1)) 300 (Km.take 20) (U 81 Hn) (ak 4 (B4 k)) .n (cond (arM j0 k) (afB k) (aln k c.1 (c.2.1&&c.2.2))) 81 Hn 4 (B4 (cond (arM j0 k) k (k+1)))
theorem alp:((AAA 6).all fun k=>(AAA (k+1)).all fun j=>aao.all (TI k j))=true:=by decide+kernel
def aap(b1 b2:Bool):aU:={bin:=[(.lss,.y .i64 5,.y .i64 6,.b b1),(.lss,.y .i64 5,.i .i64 6,.b b2)]}
noncomputable def c5:List Code:=ct ((Tryz.f5.body).getD .skip)
noncomputable def Ow:List Code:=Be (c5.drop 5)
noncomputable def Vy:List Code:=abX (Ow.drop 2)
noncomputable def Vz:Array Oper:=uj Vy
noncomputable def B5:Array Oper:=uj (Vy.drop 4)
noncomputable def cE5:List Code:=ifB true (c5.drop 7)
noncomputable def B6:Array Oper:=uj cE5
def alq(cp:Bool):List V:=[.a [.b cp,.y .i64 1,.y .i64 2,.q 20,.q 21]]
def lL(cp:Bool)(x y:Nat):List V:=[.i .i64 (cond cp 2 1),.y .i64 13,.y .i64 14,.q x,.q y]
def nF:List (Nat×V):=[(1,.p (some (1,0))),(2,.p (some (2,0))),(3,.p (some (3,0)))]
def tp(i:Nat):List (Nat×V):=nF++[(4,.i .i64 i)]
def iI(cp:Bool):List (Nat×aQ):=[(1,.cells [.b cp,.top,.top,.q 20,.q 21] 25 false),(2,.cells XH 29 false),(3,.cells (lL cp 50 51) 29 false)]
def apu:List (Nat×SV):=[(13,.y 13),(14,.y 14)]
def B7(r v:V)(s:List (Nat×SV))(q:List Nat):bP:={s:=s++apu,q:=[(20,.q 20),(21,.q 21),(50,r),(51,v)]++q.map fun x=>(x,.q x)}
def lD:bP:=B7 (.q 50) (.q 51) [] []
def aaq:aU:={bin:=[(.add,.i .i64 1,.y .i64 11,.y .i64 13),(.add,.i .i64 13,.y .i64 12,.y .i64 14)],qc:=[(14,[.y .i64 1,.i .i64 300],.y .i64 11),(14,[.y .i64 2,.i .i64 500],.y .i64 12)]}
noncomputable def alr(cp:Bool):Bool:=av (aI E3 aaq {}) 100 (c5.take 5) ⟨72,load (alq cp) 0 .leaf⟩ (ak 0 []) .n (B7 eD eD [] []) 72 (tp 0) 8 (iI cp)
theorem als:([true,false].all alr)=true:=by decide+kernel
noncomputable def alu(cp:Bool)(i:Nat):Bool:=av (aI E3 {bin:=[(.lss,.i .i64 i,.y .i64 6,.b true)]} {on:=[(20,6)]}) 100 (Ow.take 2) (U 72 (tp i)) (ak 8 (iI cp)) .n lD 72 (tp i) 8 (iI cp)
noncomputable def XP(cp:Bool)(i:Nat)(b:Bool):Bool:=av (aI E3 {bin:=[(.lss,.i .i64 i,.y .i64 6,.b b)]} {on:=[(20,6)]}) 100 (Ow.take 20) (U 72 (tp i)) (ak 8 (iI cp)) (.e 0) lD 72 nF 8 (iI cp)
def uY(p:Bool->Bool):Bool:=p true&&p false
theorem dp{p:Bool->Bool}(h:uY p=true)(b:Bool):p b=true:=by
 simp only[uY,arX]at h;cases b;exact h.2;exact h.1
theorem alv:((AAA 12).all fun i=>uY fun cp=>alu cp i)=true:=by decide+kernel
theorem alw:(((AAA 13).all fun i=>uY fun cp=>XP cp i false)&&uY fun cp=>XP cp 12 true)=true:=by decide+kernel
def xp:List V:=(AAA 15).map fun j=>.q (200+j)
def alx:List Nat:=(AAA 15).map fun j=>200+j
def aly:List Nat:=(AAA 18).map fun j=>60+j
def Mx(i:Nat):List (Nat×V):=tp i++[(34,.a xp)]
def TJ:bP:=B7 (.q 50) (.q 51) [] alx
noncomputable def alz(cp:Bool)(i:Nat):Bool:=bH (aI E3 {} {oi:=[(22,20,.i .i64 i,40)],ol:=[(73,40,.a xp)]}) 100 Vz (Vz.toList.take 5) (U 72 (tp i)) (ak 8 (iI cp)) TJ 72 (Mx i) 8 (iI cp)
theorem alA:((AAA 12).all fun i=>uY fun cp=>alz cp i)=true:=by decide+kernel
theorem alB:((AAA 12).all fun i=>uY fun cp=>aW TJ 72 (Mx i) 8 (iI cp))=true:=by decide+kernel
def TK(i:Nat):List (Nat×V):=tp i++[(5,.p (some (4,0)))]
def My(cp:Bool):List (Nat×aQ):=iI cp++[(4,.cells (uV 60) 60 false)]
def Mz(s:List (Nat×SV)):bP:=B7 (.q 50) (.q 51) s aly
noncomputable def alC(cp:Bool)(i:Nat):Bool:=bH (aI E3 {} {}) 100 Vz ((Vz.toList.drop 6).take 5) (U 72 ((35,.a (uV 60))::Mx i)) (ak 8 (iI cp)) (Mz []) 72 (TK i) 8 (My cp)
theorem alD:((AAA 12).all fun i=>uY fun cp=>alC cp i)=true:=by decide+kernel
def apv(v:Nat):V:=match v with|2=>.i .i64 4|_=>.y .i64 13
def aar(v i:Nat):aU:=match v with
 |0=>{}
 |1=>{bin:=[(.gtr,.y .i64 7,.i .i64 0,.b false)]}
 |v=>{bin:=[(.gtr,.y .i64 7,.i .i64 0,.b true),(.rem,.i .i64 i,.y .i64 7,.y .i64 31),(.add,.i .i64 1,.y .i64 34,.y .i64 5)],mx:=[(.y .i64 13,.i .i64 4,match v with|2=>.y .i64 13|_=>.i .i64 4)],qc:=[(14,[.y .i64 32,apv v],.y .i64 34)]}
def aas(v:Nat):XF:=match v with
 |0=>{}
 |1=>{on:=[(21,7)]}
 |_=>{on:=[(21,7)],oi:=[(23,21,.y .i64 31,41)],ol:=[(3,41,.y .i64 32)]}
def alE(v:Nat):List (Nat×SV):=match v with|0=>[(5,.i 0)]|1=>[(5,.i 1)]|_=>[(5,.y 5)]
def afC:Nat->Bool
 |0=>false
 |_=>true
def aat(i:Nat):List (Nat×V):=TK i++[(6,.y .i64 5)]
noncomputable def alF(v i:Nat):Bool:=av (aI E3 (aar v i) (aas v)) 200 ((Vy.drop 1).take 3) (U 72 (TK i)) (ak 8 (My (afC v))) .n (Mz (alE v)) 72 (aat i) 8 (My (afC v))
theorem alG:((AAA 12).all fun i=>(AAA 4).all fun v=>alF v i)=true:=by decide+kernel
def CQ(cp:Bool)(i:Nat):List (Nat×V):=tp i++[(60,.a (lL cp 50 51)),(61,.a (uV 60)),(62,.y .i64 5)]
def aau:bP:=Mz [(5,.y 5)]
noncomputable def alH(cp:Bool)(i:Nat):Bool:=bH (aI E3 {} {}) 100 B5 (B5.toList.take 3) (U 72 (aat i)) (ak 8 (My cp)) aau 72 (CQ cp i) 8 (iI cp)
theorem alI:((AAA 12).all fun i=>uY fun cp=>alH cp i)=true:=by decide+kernel
theorem alJ:((AAA 12).all fun i=>uY fun cp=>aW aau 72 (CQ cp i) 8 (iI cp))=true:=by decide+kernel
noncomputable def alK(cp:Bool)(i:Nat):Bool:=bH (aI E3 {} {}) 100 B5 ((B5.toList.drop 4).take 2) (U 72 ((63,.a (lL cp 52 53))::CQ cp i)) (ak 8 (iI cp)) (B7 (.q 52) (.q 53) [] []) 72 (tp i) 8 (iI cp)
theorem alL:((AAA 12).all fun i=>uY fun cp=>alK cp i)=true:=by decide+kernel
noncomputable def alM(cp:Bool)(i:Nat):Bool:=av (aI E3 {} {}) 100 ((Ow.drop 3).take 5) (U 72 (tp i)) (ak 8 (iI cp)) .n lD 72 (tp (i+1)) 8 (iI cp)
theorem alN:((AAA 12).all fun i=>uY fun cp=>alM cp i)=true:=by decide+kernel
noncomputable def alO(cp:Bool):Bool:=av (aI E3 {bin:=[(.eql,.y .i64 8,.i .i64 0,.b false)]} {on:=[(50,8)]}) 100 ((c5.drop 6).take 10) (U 72 nF) (ak 8 (iI cp)) .r lD 72 [(2,.p (some (2,0)))] 4 [(2,.cells (lL cp 50 51) 29 false)]
noncomputable def alP(cp:Bool):Bool:=av (aI E3 {bin:=[(.eql,.y .i64 8,.i .i64 0,.b true)]} {on:=[(50,8)]}) 100 ((c5.drop 6).take 1) (U 72 nF) (ak 8 (iI cp)) .n lD 72 ((67,.b true)::nF) 8 (iI cp)
def aav:List V:=[.i .i64 2,zI,zI,zI,eD,.i .i64 1,zI,.s [104,111,109,101],.s [],eD,zI,.s [],.s [],.s [],zI,zI,.s [],.s []]
def Ho(cp:Bool):List (Nat×V):=nF++[(68,.a (lL cp 50 51)),(69,.a aav)]
noncomputable def alQ(cp:Bool):Bool:=bH (aI E3 {} {}) 100 B6 (B6.toList.take 2) (U 72 nF) (ak 8 (iI cp)) lD 72 (Ho cp) 8 (iI cp)
noncomputable def alR(cp:Bool):Bool:=bH (aI E3 {} {}) 100 B6 ((B6.toList.drop 3).take 2) (U 72 ((70,.a (lL cp 52 53))::Ho cp)) (ak 8 (iI cp)) (B7 (.q 52) (.q 53) [] []) 72 nF 8 (iI cp)
noncomputable def alS(cp:Bool):Bool:=av (aI E3 {} {}) 100 ((c5.drop 8).take 5) (U 72 nF) (ak 8 (iI cp)) .r lD 72 [(2,.p (some (2,0)))] 4 [(2,.cells (lL cp 50 51) 29 false)]
theorem alT:([true,false].all fun cp=>alO cp&&alP cp&&alQ cp&&alR cp&&alS cp&&aW lD 72 (Ho cp) 8 (iI cp))=true:=by decide+kernel
noncomputable def c3:List Code:=ct ((Tryz.f3.body).getD .skip)
noncomputable def o1f:Array Oper:=uj (c3.drop 1)
noncomputable def VA:Array Oper:=uj (c3.drop 2)
noncomputable def VB:Array Oper:=uj (c3.drop 7)
def xq:List V:=(AAA 5).map fun j=>.q (200+j)
def tq(s:List Nat)(q:List Nat):bP:={s:=s.map fun x=>(x,.y x),q:=q.map fun x=>(x,.q x)}
def CR:List Nat:=[200,201,202,203,204]
def MA:List (Nat×V):=[(1,.y .i64 1),(2,.p (some (1,0)))]
def ya:List (Nat×aQ):=[(1,.cells xq 25 false)]
theorem apw:av (aI E3 {} {}) 100 (c3.take 1) ⟨118,load [.a xq,.y .i64 1] 0 .leaf⟩ (ak 0 []) .n (tq [1] CR) 118 MA 8 ya=true:=by decide+kernel
theorem alU:aW (tq [1] CR) 118 MA 8 ya=true:=by decide+kernel
def TL:List (Nat×V):=(5,.b true)::MA
theorem apx:bH (aI E3 {} {}) 100 o1f ((o1f.toList.drop 1).take 5) (U 118 ((19,.b true)::MA)) (ak 8 ya) (tq [1] CR) 118 TL 8 ya=true:=by decide+kernel
def MB:List (Nat×V):=(20,.a xq)::TL
theorem apy:bH (aI E3 {} {}) 100 VA (VA.toList.take 1) (U 118 TL) (ak 8 ya) (tq [1] CR) 118 MB 8 ya=true:=by decide+kernel
theorem alV:aW (tq [1] CR) 118 MB 8 ya=true:=by decide+kernel
def Hp(cp:Bool):List V:=lL cp 50 51
def aaw:List (Nat×V):=[(1,.y .i64 1),(5,.b true),(6,.p (some (2,0)))]
def uZ(cp:Bool):List (Nat×aQ):=[(2,.cells (Hp cp) 29 false)]
noncomputable def alW(cp:Bool):Bool:=bH (aI E3 {} {}) 100 VA ((VA.toList.drop 2).take 5) (U 118 ((21,.a (Hp cp))::MB)) (ak 8 ya) (tq [1,13,14] [50,51]) 118 aaw 8 (uZ cp)
def aax(cp is more:Bool):aU:={bin:=[(.add,.i .i64 4,.y .i64 2,.y .i64 3),(.add,.y .i64 3,.i .i64 1,.y .i64 4)],qc:=[(6,[.y .i64 1,.i .i64 60],.y .i64 2),(7,[.a (Hp cp),.y .i64 3],.t [.b is,.i .i64 0]),(7,[.a (Hp cp),.y .i64 4],.t [.b more,.i .i64 0]),(8,[.a (Hp cp)],.t [.q 60,.i .i64 0])]}
def MC(is more:Bool):List (Nat×V):=[(5,.b true),(6,.p (some (2,0))),(7,.y .i64 3),(8,.b is),(9,.i .i64 0),(10,.b more),(11,.i .i64 0),(12,.q 60),(13,.i .i64 0)]
def Kn:List Nat:=[13,14,3]
def Hq:List Nat:=[50,51,60]
noncomputable def alX(cp is more:Bool):Bool:=av (aI E3 (aax cp is more) {}) 200 ((c3.drop 3).take 4) (U 118 aaw) (ak 8 (uZ cp)) .n (tq Kn Hq) 118 (MC is more) 8 (uZ cp)
def MD(is more:Bool):List (Nat×V):=(44,.q 60)::MC is more
noncomputable def alY(cp is more:Bool):Bool:=bH (aI E3 {} {}) 100 VB (VB.toList.take 1) (U 118 (MC is more)) (ak 8 (uZ cp)) (tq Kn Hq) 118 (MD is more) 8 (uZ cp)
noncomputable def aay(cp is more:Bool):Bool:=aW (tq Kn Hq) 118 (MD is more) 8 (uZ cp)
def aaz(is more:Bool):List (Nat×V):=[(14,.q 70),(15,.y .i64 71)]++MC is more
noncomputable def alZ(cp is more:Bool):Bool:=bH (aI E3 {} {}) 100 VB ((VB.toList.drop 2).take 10) (U 118 ((45,.t [.q 70,.y .i64 71])::MD is more)) (ak 8 (uZ cp)) (tq (71::Kn) (70::Hq)) 118 (aaz is more) 8 (uZ cp)
def aaA(cp g too h t:Bool):aU:=
 {bin:=[(.gtr,.y .i64 8,.i .i64 1,.b g),(.eql,.y .i64 71,.i .i64 0,.b h),(.add,.y .i64 72,.i .i64 2,.y .i64 73),(.leq,.y .i64 73,.y .i64 3,.b t)]++cond g [(.sub,.y .i64 8,.i .i64 1,.y .i64 11)] [],
  mx:=cond g [(.y .i64 9,.y .i64 10,cond cp (.y .i64 9) (.y .i64 10))] [],
  qc:=cond g [(7,[.a (lL cp 52 53),.y .i64 3],.t [.b too,.i .i64 0])] []}
def aaB(cp g:Bool):XF:={on:=[(50,8),(70,72)]++cond g [(51,9),(52,10)] [],os:=cond g [(27,50,.y .i64 11,52),(23,51,cond cp (.y .i64 10) (.y .i64 9),53)] []}
noncomputable def TM(cp g too h t is more:Bool):Bool:=av (aI E3 (aaA cp g too h t) (aaB cp g)) 300 ((c3.drop 8).take 20) (U 118 (aaz is more)) (ak 8 (uZ cp)) .r (tq [] []) 118 [(4,.b true)] 0 []
theorem apz:(uY fun cp=>alW cp&&uY fun is=>uY fun more=>alX cp is more&&alY cp is more&&aay cp is more&&alZ cp is more)=true:=by decide+kernel
theorem apA:(uY fun cp=>uY fun g=>TM cp g true true true true true&&uY fun too=>uY fun more=>TM cp g too true false false more)=true:=by decide+kernel
theorem apB:(uY fun cp=>uY fun g=>uY fun too=>uY fun t=>uY fun more=>TM cp g too false t false more)=true:=by decide+kernel
noncomputable def c8:List Code:=ct ((Tryz.f8.body).getD .skip)
noncomputable def VC:Array Oper:=uj (c8.drop 1)
def EH(cp:Bool):List V:=[.i .i64 (cond cp 2 1),.y .i64 1,.y .i64 2,.q 150,.q 151]
def Ox(q:List Nat):bP:={s:=[(1,.y 1),(2,.y 2)],q:=[(150,.q 150),(151,.q 151)]++q.map fun x=>(x,.q x)}
def Hr:List (Nat×V):=[(1,.p (some (1,0)))]
def Ko(cp:Bool):List (Nat×aQ):=[(1,.cells (EH cp) 29 false)]
noncomputable def al0(cp:Bool):Bool:=av (aI E3 {} {}) 100 (c8.take 1) ⟨52,load [.a (EH cp)] 0 .leaf⟩ (ak 0 []) .n (Ox []) 52 Hr 8 (Ko cp)
def ME(cp:Bool):List (Nat×V):=Hr++[(10,.a (EH cp))]
noncomputable def al1(cp:Bool):Bool:=bH (aI E3 {} {}) 100 VC (VC.toList.take 1) (U 52 Hr) (ak 8 (Ko cp)) (Ox []) 52 (ME cp) 8 (Ko cp)
noncomputable def al2(cp:Bool):Bool:=bH (aI E3 {} {}) 100 VC ((VC.toList.drop 2).take 10) (U 52 ((11,.t [.q 160,.b true])::ME cp)) (ak 8 (Ko cp)) (Ox [160]) 52 (Hr++[(4,.q 160),(5,.b true)]) 8 (Ko cp)
theorem apC:(uY fun cp=>al0 cp&&al1 cp&&al2 cp&&aW (Ox []) 52 (ME cp) 8 (Ko cp))=true:=by decide+kernel
def apD(m:Nat):V:=.sl (some (8,0)) m (.un 1)
def aaC(m:Nat):List V:=(AAA m).map fun j=>.q (30+j)
def u4(cp:Bool)(m:Nat):List Nat:=7::(AAA m).flatMap fun j=>cond cp [10+j,30+j] [30+j]
def jW(cp:Bool)(m:Nat):Nat:=1+m*cond cp 2 1
def al3(cp:Bool)(m:Nat):aU:=
 {bin:=[(.gtr,.y .i64 290,.i .i64 10000,.b false)],rz:=[(jW cp m,1)],rl:=[(jW cp m,0,290)],
  qc:=[(40,[.i .i64 (cond cp 2 1)],.q 0),(40,[.y .i64 1],.q 1),(40,[.y .i64 2],.q 2),(40,[.y .i64 8],.q 3)]++cond cp ((AAA m).map fun j=>(40,[.y .i64 (20+j)],.q (10+j))) []}
def Hs(m:Nat):List Nat:=[0,1,2,3,7]++(AAA m).flatMap fun j=>[10+j,30+j]
def Ht(cp:Bool)(m:Nat):List (Nat×Nat):=cond cp ((AAA m).map fun j=>(10+j,10+j)) []
def al4(cp:Bool)(m:Nat):XF:=
 {an:=(Vv (u4 cp m) 90 (Hs m) (Ht cp m)).an++[(0,50)],
  ap:=(Vv (u4 cp m) 90 (Hs m) (Ht cp m)).ap++[(50,1,55),(55,2,56),(56,3,57)],
  bs:=(Vv (u4 cp m) 90 (Hs m) (Ht cp m)).bs++[(57,7)],
  ql:=(Vv (u4 cp m) 90 (Hs m) (Ht cp m)).ql,
  oi:=cond cp ((AAA m).map fun(j:Nat)=>((23,151,V.i .i64 (j:Int),170+j):TypeId×Nat×V×Nat)) [],
  ol:=cond cp ((AAA m).map fun(j:Nat)=>((3,170+j,V.y .i64 (20+j)):TypeId×Nat×V)) [],
  on:=[(150,8)]}
noncomputable def TN(cp:Bool)(m:Nat):Bool:=av (aI E3 (al3 cp m) (al4 cp m)) 2000 ((c8.drop 2).take 20) (U 52 (Hr++[(4,apD m),(5,.b true)])) (ak 9 ((8,.rc (aaC m) 9)::Ko cp)) .r {q:=[(90,.q 90)]} 52 [(2,.q 90),(3,zI)] 0 []
theorem al5:((arO 1 12).all fun m=>TN false m)=true:=by decide+kernel
theorem al6:((arO 1 8).all fun m=>TN true m)=true:=by decide+kernel
theorem al7:((arO 9 4).all fun m=>TN true m)=true:=by decide+kernel
noncomputable def al8(n:Int):Bool:=match uQ 100 40 [.i .i64 n]with|some (.s [x])=>arM x 256|_=>false
theorem afD:(AAA 13).all (fun i=>al8 (i:Nat))=true:=by decide+kernel
end Go.Ev
