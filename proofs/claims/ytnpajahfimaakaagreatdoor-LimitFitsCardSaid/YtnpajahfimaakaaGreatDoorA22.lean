/- A part of what LimitFits rests on. -/
import Derived.Test.YtnpajahfimaakaaGreatDoorA21
import Derived.Test.YtnpajahfimaakaaGreatDoorA01
set_option linter.all false
namespace Go.Ev
open List renaming all_eq_true->aop,mem_range->AAA,getElem?_eq_some_iff->arC,getElem?_eq_getElem->arD,mem_cons->arH,not_mem_nil->arI,mem_append->arN,range->arO,getD_eq_getElem?_getD->arP,take_of_length_le->arR,getElem?_eq_none->arT,range_eq_range'->arU,mem_singleton->arV
open IntKind renaming i64->arE
open Nat renaming le_refl->arF,eq_of_beq_eq_true->arJ,blt->arK,lt_or_ge->arS,eq_zero_or_pos->arW
open Int renaming toNat_of_nonneg->arG,tdiv_eq_ediv_of_nonneg->arQ
open _root_.Array renaming toList_inj->arL
open Bool renaming and_eq_true->arM
open Go.Proofs
variable{φ:Ren}{d:xu}
theorem TW{E:Env}{k:Nat}{f:FuncId}{Vs:List V}{nb:Nat}{HB:List (Nat×aQ)}(h:(XT E k f Vs nb HB).isSome=true):∃b,dN E k f Vs nb HB (.b b) []=true:=by
 unfold XT at h;unfold dN;cases e:tX E (exec E k) f Vs (ak nb HB)with
 |none=>rw[e]at h;cases h
 |some x=>
  obtain⟨v,h'⟩:=x;rw[e]at h;cases v with
  |b t=>exact⟨t,by cases t<;>rfl⟩
  |_=>cases h
theorem amn:tlE 0 0=true:=by decide+kernel
theorem amo:psT []=true:=by decide+kernel
theorem OD{K:Nat->Option Obj}{fl:List eO}(hf:dW fl){fs:Value}(jM:eP K fl fs){w:World}(hw:∀r o,K r=some o->w.heap[r]? =some o)(y:Sym)
  (hy:∀j f,fl[j]? =some f->y.s (10+j)=f.nk/\y.s (16+j)=f.no/\y.q (20+j)=.string f.t/\y.q (130+j)=.bool f.b):
  ∃φ:Ren,HR φ (ak (fxN fl.length) (fxB fl.length)) w/\φ.y={y with k:=fun r=>w.heap[r]?}/\VR φ (XM fl.length) fs:=by
 rcases jM with⟨rfl,rfl⟩|⟨e1,bQ⟩
 ·exact⟨φ0 y w,bc _ w,rfl,bY⟩
 ·have jD:J (φ0 y w) (Fc fl.length) (fl.flatMap eO.cells):=by
   rw[Fc,arU];refine ia fl 0 fun j f hj=> ?_
   obtain⟨a1,a2,a3,a4⟩:=hy j f hj;rw[Nat.zero_add];exact J.cons (vQ a3 rfl) (J.cons (vY a1) (J.cons (vY a2) (J.cons (vQ a4 rfl) J.nil)))
  obtain⟨aV,j1,j2,j3,j4⟩:=bQ.enter (bc y w) hw rfl jD (n:=fl.length) (by rw[qm];omega);have gn:0<fl.length:=List.length_pos_iff.2 e1;obtain⟨k,hk⟩:∃k,fl.length=k+1:=⟨fl.length-1,by omega⟩
  rw[hk]at j1 j4⊢;exact⟨aV,j1,j2,j4⟩
theorem X5{k:Nat}{a b:Value}(ha:VR φ (XM k) a)(hb:VR φ (XM k) b):a=b:=by
 cases k with
 |zero=>simp only[XM,eD,VR]at ha hb;rw[ha.2,hb.2]
 |succ k=>
  simp only[XM,VR]at ha hb;obtain⟨r,c,h1,h2,h3,rfl⟩:=ha;obtain⟨r',c',g1,g2,g3,rfl⟩:=hb;rw[h1]at g1;cases g1;rw[show c=c' by omega]
theorem ML{P:Program}{f:FuncId}{l:List V}{r:V}{args:List Value}{u:Value}(hd:∀af a b,J af l a->J af l b->a=b)(h:Quiet P φ.y.k f args (· =u))(ha:J φ l args)(hr:VR φ r u):
  ∀af,Le φ af->∀args',J af l args'->Quiet P φ.y.k f args' fun u=>VR af r u:=fun af hle args' Zk=>by
 rw[hd af _ _ Zk (J.mono hle _ _ ha)];exact h.imp fun v hv=>by rw[hv];exact VR.mono hle _ _ hr
def Ks(cl:V):Prop:=∀φ a b,VR φ cl a->VR φ cl b->a=b
theorem X6:Ks cl2:=fun φ a b ha hb=>eQ rfl ha hb
theorem TX(n:Nat):Ks (cl6 n):=fun φ a b ha hb=>by
 obtain⟨v1,rfl,h1⟩:=Ff ha;obtain⟨v2,rfl,h2⟩:=Ff hb;simp only[J]at h1 h2;obtain⟨x,_,e1,hx,y,_,rfl,hy,rfl⟩:=h1;obtain⟨x',_,e2,iT,y',_,rfl,hy',rfl⟩:=h2;have:=eQ (x:=.q 26) rfl hx iT;subst this;have:=X5 hy hy';subst this;rw[arL.1 (e1.trans e2.symm)]
theorem dL{x:V}{l:List V}(h:Ks x)(hl:∀af a b,J af l a->J af l b->a=b):∀af a b,J af (x::l) a->J af (x::l) b->a=b:=fun af a b ha hb=>by
 simp only[J]at ha hb;obtain⟨y,ys,rfl,h1,h2⟩:=ha;obtain⟨z,zs,rfl,h3,h4⟩:=hb;rw[h _ _ _ h1 h3,hl _ _ _ h2 h4]
theorem tw:∀(af:Ren) a b,J af [] a->J af [] b->a=b:=fun af a b ha hb=>by simp only[J]at ha hb;rw[ha,hb]
theorem dA{x:V}(h:oY x=true):Ks x:=fun _ _ _=>eQ h
structure RgC(K:Nat->Option Obj)(cls:Value)(d:xu):Prop where
 right:Quiet Tryz.prog K 109 [cls] (· =.bool true)
 ex:Quiet Tryz.prog K 111 [.string d.ex,cls,.agg #[.int .i64 d.t1,.int .i64 d.t2]] (· =.bool true)
 ot:Quiet Tryz.prog K 111 [.string d.ot,cls,.agg #[.int .i64 d.t1,.int .i64 d.t2]] (· =.bool true)
 none:Quiet Tryz.prog K 111 [.string cj,cls,.agg #[.int .i64 0,.int .i64 0]] (· =.bool true)
theorem RgC.mono{K K':Nat->Option Obj}(h:∀r o,K r=some o->K' r=some o){cls:Value}{d:xu}(c:RgC K cls d):RgC K' cls d:=⟨c.right.mono h,c.ex.mono h,c.ot.mono h,c.none.mono h⟩
theorem TY{cl:V}{cls:Value}(Vm:Ks cl)(lN:VR φ cl cls)(hd:d.OK)(hc:RgC φ.y.k cls d)(q30:φ.q 30=.string d.u9)(OE:φ.q 31=.string d.nm)(OG:φ.q 32=.string d.mo)(hT:yY d.k=true->φ.q 33=.string d.ex/\φ.q 34=.string d.ot/\φ.s 20=d.t1/\φ.s 21=d.t2):
  cI (fun e:FuncId×List V×V=>∀af,Le φ af->∀args',J af e.2.1 args'->Quiet Tryz.prog φ.y.k e.1 args' fun u=>VR af e.2.2 u) (rgQ d.k cl):=by
 obtain⟨_,hf⟩:=hd.u9;obtain⟨_,hn⟩:=hd.nm;obtain⟨_,hm⟩:=hd.mo;obtain⟨_,he⟩:=hd.ex;obtain⟨_,ho⟩:=hd.ot;have ps0:Quiet Tryz.prog φ.y.k 159 [.string cj] (· =.bool true):=xx (Vs:=[.s []]) amo (fun φ=>J.cons aD J.nil) ⟨_,_,Tryz.func159,rfl,rfl⟩ _;refine aO ⟨ML (dL Vm tw) hc.right (J.cons lN J.nil) vB,dy rfl (hf.name _) (J.cons (vQ q30 rfl) J.nil) vB,dy rfl (hn.name _) (J.cons (vQ OE rfl) J.nil) vB,dy rfl (hm.name _) (J.cons (vQ OG rfl) J.nil) vB,
  dy rfl ps0 (J.cons aD J.nil) vB,ML (dL (dA rfl) (dL Vm (dL (dA rfl) tw))) hc.none (J.cons aD (J.cons lN (J.cons (vA (J.cons aL (J.cons aL J.nil))) J.nil))) vB,agm⟩ ?_
 cases ht:yY d.k with
 |false=>exact agm
 |true=>
  obtain⟨Pp,Pq,s20,s21⟩:=hT ht;have ty:=vA (J.cons (vY (k:=.i64) s20) (J.cons (vY (k:=.i64) s21) J.nil));exact⟨dy rfl ((EF hd.ty).1 _) (J.cons ty J.nil) vB,dy rfl (he.TP _) (J.cons (vQ Pp rfl) J.nil) vB,dy rfl (ho.TP _) (J.cons (vQ Pq rfl) J.nil) vB,
   ML (dL (dA rfl) (dL Vm (dL (dA rfl) tw))) hc.ex (J.cons (vQ Pp rfl) (J.cons lN (J.cons ty J.nil))) vB,ML (dL (dA rfl) (dL Vm (dL (dA rfl) tw))) hc.ot (J.cons (vQ Pq rfl) (J.cons lN (J.cons ty J.nil))) vB,agm⟩
theorem Bi{nmI:Int}{xf nV:Value}{cn:ByteArray}{i:Nat}{fl:List eO}(h6:fl.length<=6)(h1:xf.oneCell'=true)(h2:nV.oneCell'=true){y:Sym}(e1:y.s 0=nmI)(e2:y.s 5=i)(e3:y.q 1=xf)(e4:y.q 2=.string cn)(e5:y.q 4=nV)
  (e6:∀j,j<fl.length->y.s (10+j)=(fl.getD j dF).nk/\y.s (16+j)=(fl.getD j dF).no/\y.q (20+j)=.string (fl.getD j dF).t/\y.q (130+j)=.bool (fl.getD j dF).b):Ag (CU fl.length) (HA nmI xf nV cn i fl) y:=by
 refine⟨aO ⟨e1,e2,agm⟩ (cF fun j hj=> ?_),aO ⟨⟨e3,by rw[e3];exact h1⟩,⟨e4,by rw[e4];rfl⟩,⟨e5,by rw[e5];exact h2⟩,agm⟩ (cF fun j hj=> ?_),agm,agm⟩
 ·have hj:=AAA.1 hj
  obtain⟨a1,a2,_,_⟩:=e6 j hj;exact⟨a1.trans (rW (by omega)).symm,a2.trans (rX (by omega)).symm,agm⟩
 ·have hj:=AAA.1 hj
  obtain⟨_,_,a3,a4⟩:=e6 j hj;exact⟨⟨a3.trans (lE (by omega)).symm,by rw[a3];rfl⟩,⟨a4.trans (nH (by omega)).symm,by rw[a4];rfl⟩,agm⟩
theorem HH{r:Nat}(h:r<6):∃nm∈aT,aT[r]? =some nm:=by
 have:aT[r]? =some (aT[r]'h):=arD (l:=aT) h;exact⟨_,List.getElem_mem _,this⟩
theorem X7{K1:Nat->Option Obj}{w0:World}{nmI:Int}{xf nV:Value}{cn:ByteArray}{n:Nat}{fr:Nat->ji}(qX:xw K1 67 146 xf n fun i=>(fr i).cells)(jQ:∀i,i<n->(fr i).OK)(Pr:RowK K1 9 1 nV (aT.map fun x=>.string (bytes x)))
  {i:Nat}(hi:i<n)(hi6:i<6){m:Nat}{a:Act}{w':World}(h:HC K1 w0 nmI xf nV cn i a w'):aC none m Tryz.prog (fun e a' w''=>e=.normal/\HC K1 w0 nmI xf nV cn (i+1) a' w'') Km a w':=by
 obtain⟨φ,fl,hs,hK,hd,hg,⟨n1,n2,n3,n4⟩,nY,hli,bU,lF⟩:=h.ex;obtain⟨p,p1,p2,p3⟩:=qX.at_ i hi;obtain⟨o1,o2,o3⟩:=jQ i hi;obtain⟨sa,rp,uO⟩:=qX.sl;obtain⟨q1,q2⟩:=bI (fr i).nm (N:=6) (by decide);obtain⟨k1,k2⟩:=bI (fr i).kd (N:=5) (by decide);obtain⟨t1,t2⟩:=bI (fr i).of (N:=4) (by decide);obtain⟨r,hr⟩:∃r:Nat,ax (fr i).nm 6=r:=⟨_,(arG q1).symm⟩
 have JD:r<6:=by omega
 obtain⟨nw,hnw,aqc⟩:=HH JD;have oV:(aT.map fun x=>Value.string (bytes x))[r]? =some (.string (bytes nw)):=by rw[List.getElem?_map,aqc];rfl
 obtain⟨np,hnp⟩:∃np,np=bE nV (r*1):=⟨_,rfl⟩
 have DA:=Pr.idx (t:=76) (e:=9) (ah.ty 76 _ _ rfl).2 (ah.ty 9 _ _ rfl).1 rfl (i:=r) (by simp[aT];omega);rw[<-hnp]at DA;have h6:=nY.len;have LN:fl.length<6:=by omega
 let y0:=HA nmI xf nV cn i fl;let y1:=afM y0 n i (fr i) p np (bytes nw);obtain⟨ay,b9,OH,m1,m2,m3,m4⟩:=hs.sG hK (tb:=CU fl.length) (aop.1 aaF fl.length (AAA.2 (by omega))) (y:=y1) (by
  have:=Bi (nmI:=nmI) (xf:=xf) (nV:=nV) (cn:=cn) (i:=i) (y:=y1) h6 qX.one Pr.one (qu (by omega)) (qu (by omega)) (mC (by omega)) (mC (by omega)) (mC (by omega)) fun j hj=>
   ⟨(qu (by omega)).trans (rW (by omega)),(qu (by omega)).trans (rX (by omega)),(mC (by omega)).trans (lE (by omega)),(mC (by omega)).trans (nH (by omega))⟩
  have e1:φ.y.s=y0.s:=n1;have e2:φ.y.q=y0.q:=n2;have e3:φ.y.w=y0.w:=n3;have e4:φ.y.g=y0.g:=n4;refine⟨?_,?_,agm,agm⟩
  ·have h:=this.s;rw[<-e1]at h;exact h
  ·have h:=this.q
   have hq:pe φ.y=pe y0:=by
    funext v x
    cases v<;>simp only[pe,e1,e2]
   rw[hq];exact h)
 have s5:ay.s 5=(i:Int):=by rw[m1];rfl
 have s6:ay.s 6=(n:Int):=by rw[m1];rfl
 have q1':ay.q 1=xf:=by rw[m2];rfl
 have q3':ay.q 3=p:=by rw[m2];rfl
 have q4':ay.q 4=nV:=by rw[m2];rfl
 have q5':ay.q 5=np:=by rw[m2];rfl
 have q6':ay.q 6=.string (bytes nw):=by rw[m2];rfl
 have qt:∀j,j<fl.length->ay.q (20+j)=.string (fl.getD j dF).t:=fun j hj=>by rw[m2];exact(mC (by omega)).trans (lE (by omega))
 have iv:∀{x:Nat} {z:Int},ay.s x=z->aR ay.y (.y .i64 x)=some (.i64,z):=fun e=>congrArg (fun z=>some (arE,z)) e
 have s50:ay.s 50=(fr i).nm:=by rw[m1];rfl
 have s51:ay.s 51=(fr i).kd:=by rw[m1];rfl
 have s52:ay.s 52=(fr i).of:=by rw[m1];rfl
 have s60:ay.s 60=ax (fr i).nm 6:=by rw[m1];rfl
 have s61:ay.s 61=1+ax (fr i).kd 5:=by rw[m1];rfl
 have s62:ay.s 62=1+ax (fr i).of 4:=by rw[m1];rfl
 have s63:ay.s 63=ax (fr i).of 4:=by rw[m1];rfl
 have s64:ay.s 64=ax (fr i).kd 5:=by rw[m1];rfl
 have s7:ay.s 7=(i:Int)+1:=by rw[m1];rfl
 obtain⟨ls,hls⟩:∃ls,ls=decide (1+ax (fr i).kd 5=5):=⟨_,rfl⟩
 obtain⟨le,hle⟩:∃le,le=decide (1+ax (fr i).kd 5<=3):=⟨_,rfl⟩
 have ib:(ls,(fr i).ix,le)∈aao:=by
  cases hx:(fr i).ix<;>cases ls<;>cases le<;>first|decide|(exfalso;simp at hls hle;omega)
 have facts:∀j0,j0<=fl.length->(∀j f,fl[j]? =some f->(f.t=bytes nw↔j=j0))->aA Tryz.prog (aan fl.length j0 ls le) ay:=fun j0 hj0 hj=>by
  refine⟨agm,aO ⟨.lss (iv s5) (iv s6) (by simp;omega),.lss (iv s5) rfl (by simp;omega),.add (iv s5) rfl (iv s7) (i64_in (by omega)),.add rfl (iv s64) (iv s61) (i64_in (by omega)),.eql (iv s61) rfl hls.symm,.add rfl (iv s63) (iv s62) (i64_in (by omega)),.leq (iv s61) rfl hle.symm,agm⟩ (cH fun j oK=> ?_),agm,agm,agm,agm,agm,agm,?_,?_,?_,agm⟩
  ·have oK:=AAA.1 oK
   have Ll:j<fl.length:=by omega
   have fj:fl[j]? =some fl[j]:=arD Ll;refine .I0 (x:=fl[j].t.toList) (y:=(bytes nw).toList) ?_ ?_ ?_
   ·simp only[gu];rw[show ay.y.q (20+j)=_ from qt j Ll,EK Ll]
   ·simp only[gu];rw[show ay.y.q 6=_ from q6']
   ·have:=hj j _ fj
    cases mf:Nat.beq j j0 with
    |true=>rw[this.2 (arJ mf)];simp
    |false=>
     rw[beq_eq_false_iff_ne];intro e;rw[ByteArray.toList_eq,ByteArray.toList_eq]at e;rw[this.1 (ByteArray.ext (arL.1 e))]at mf;simp at mf
  ·exact dy rfl (nE _ o1 (N:=6) (by decide)) (J.cons (vY s50) (J.cons vI J.nil)) (vY s60)
  ·exact dy rfl (nE _ o2 (N:=5) (by decide)) (J.cons (vY s51) (J.cons vI J.nil)) (vY s64)
  ·exact dy rfl (nE _ o3 (N:=4) (by decide)) (J.cons (vY s52) (J.cons vI J.nil)) (vY s63)
 have hX:iZ Tryz.prog (alo (fr i).ix) ay:=by
  refine{on:=⟨⟨sa,n,rp,by rw[q1'];exact uO,s6⟩,agm⟩,oi:=⟨fun af hl vi hv=> ?_,fun af hl vi hv=> ?_,agm⟩,ol:=⟨fun w hw=> ?_,fun w hw=> ?_,agm⟩}
  ·simp only[VR]at hv
   rw[hl.sy,s5]at hv;subst hv;exact⟨by rw[q3'];exact p1,fun w=>by rw[q1',q3'];exact p2 w⟩
  ·simp only[VR]at hv
   rw[hl.sy,s60,hr]at hv;subst hv;exact⟨by rw[q5'];exact DA.1,fun w=>by rw[q4',q5'];exact DA.2 w⟩
  ·refine⟨_,by rw[q3'];exact p3 w fun r o e=>hw r o (OH r o e),?_⟩
   exact vA (J.cons (vY s50) (J.cons (vY s51) (J.cons (vY s52) (J.cons vBb J.nil))))
  ·have:=Pr.load (t:=9) (ah.ty 9 _ _ rfl).1 (ah.ty 9 _ _ rfl).2 (φ:=ay) (cs:=[.q 6]) (us:=[.string (bytes nw)]) (J.cons (vQ q6' rfl) J.nil) (o:=r*1) (by
    rw[Nat.mul_one,List.drop_eq_getElem_cons (by simp[aT];omega)];have:(aT.map fun x=>Value.string (bytes x))[r]'(by simp[aT];omega)=.string (bytes nw):=Option.some.inj ((arD _).symm.trans oV);simp[this]) (x:=.q 6) rfl (w:=w) fun r o e=>hw r o (OH r o e)
   rw[<-hnp]at this;obtain⟨u,g1,g2⟩:=this;exact⟨u,by rw[q5'];exact g1,g2⟩
 have e1:∀x,ay.y.s x=y1.s x:=fun x=>agB m1 x
 by_cases hex:∃(j:Nat) (f:eO),fl[j]? =some f/\f.t=bytes nw
 ·obtain⟨j0,f0,hj0,ht0⟩:=hex
  have bf:j0<fl.length:=(arC.1 hj0).1;have hF:=facts j0 (by omega) fun j g hg=>⟨fun e=>nY.once j j0 g f0 hg hj0 (e.trans ht0.symm),fun e=>by subst e;rw[hj0]at hg;cases hg;exact ht0⟩
  have ba:=aop.1 (aop.1 (aop.1 alp fl.length (AAA.2 LN)) j0 (AAA.2 (by omega))) _ ib;unfold TI at ba;rw[bh.2 bf]at ba;simp only[cond_true]at ba;refine ad.runK (aw ah _ _) rfl 20 (cs:=Km) ba b9 OH (eZ hF hX) hd (HA nmI xf nV cn (i+1) fl) (Ag.au (o:=y1) ?_ m1 m2 m3 m4) fun af a' w'' cu hK' cy dh e1 e2 e3 e4=>⟨rfl,⟨af,fl,cu,hK',cy,hg.trans dh,⟨e1,e2,e3,e4⟩,nY,by omega,fun _=>bU (by omega),lF⟩⟩
  refine⟨aO ⟨rfl,rfl,agm⟩ (cF fun j hj=> ?_),aO ⟨⟨rfl,qX.one⟩,⟨rfl,rfl⟩,⟨rfl,Pr.one⟩,agm⟩ (cF fun j hj=> ?_),agm,agm⟩
  ·have hj:=AAA.1 hj
   exact⟨(rW (by omega)).trans ((qu (by omega)).trans (rW (by omega))).symm,(rX (by omega)).trans ((qu (by omega)).trans (rX (by omega))).symm,agm⟩
  ·have hj:=AAA.1 hj
   exact⟨⟨(lE (by omega)).trans ((mC (by omega)).trans (lE (by omega))).symm,by rw[lE (by omega)];rfl⟩,⟨(nH (by omega)).trans ((mC (by omega)).trans (nH (by omega))).symm,by rw[nH (by omega)];rfl⟩,agm⟩
 ·have hF:=facts fl.length (arF _) fun j g hg=>⟨fun e=>absurd ⟨j,g,hg,e⟩ hex,fun e=>by subst e;rw[arT (arF _)]at hg;cases hg⟩
  have ba:=aop.1 (aop.1 (aop.1 alp fl.length (AAA.2 LN)) fl.length (AAA.2 (by omega))) _ ib;unfold TI at ba;have Za:arK fl.length fl.length=false:=by cases hb:arK fl.length fl.length with|true=>have:=bh.1 hb;omega|false=>rfl
  rw[Za]at ba;simp only[cond_false]at ba;obtain⟨kk,I2⟩:∃kk,kk=1+ax (fr i).kd 5:=⟨_,rfl⟩
  obtain⟨oo,hoo⟩:∃oo:Int,oo=cond ls (1+ax (fr i).of 4) 0:=⟨_,rfl⟩
  have XX:(kk,oo)∈fF:=by
   cases ls with
   |true=>
    have h5:kk=5:=by rw[I2];simpa using hls
    rw[h5,hoo,cond_true];rcases(show ax (fr i).of 4=0\/ax (fr i).of 4=1\/ax (fr i).of 4=2\/ax (fr i).of 4=3 by omega)with e|e|e|e<;>rw[e]<;>decide
   |false=>
    have h5:kk≠5:=by rw[I2];simpa using hls
    rw[hoo,cond_false,I2];rcases(show ax (fr i).kd 5=0\/ax (fr i).kd 5=1\/ax (fr i).kd 5=2\/ax (fr i).kd 5=3 by omega)with e|e|e|e<;>rw[e]<;>decide
  obtain⟨enc,hnf⟩:=ae6 hnw XX (b:=(fr i).ix&&le) (fun e=>by simp only[arM]at e;have:=e.2;rw[hle]at this;simpa[I2]using this);let nf:eO:=⟨bytes nw,enc,kk,oo,(fr i).ix&&le⟩;have amp:dW (fl++[nf]):=by
   refine⟨by simp;omega,fun f hf=> ?_,fun a b f g ha hb e=> ?_⟩
   ·rcases arN.1 hf with hf|hf
    ·exact nY.ok f hf
    ·simp only[arV]at hf;subst hf;exact hnf
   ·have cs:∀{x:Nat} {h:eO},(fl++[nf])[x]? =some h->(x<fl.length/\fl[x]? =some h)\/(x=fl.length/\h=nf):=fun{x h} hx=>by
     rcases arS x fl.length with hl|hl
     ·rw[List.getElem?_append_left hl]at hx;exact .inl ⟨hl,hx⟩
     ·rw[List.getElem?_append_right hl]at hx
      have:x-fl.length=0:=by
       rcases arW (x-fl.length)with h0|h0
       ·exact h0
       ·rw[arT (by simp;omega)]at hx;cases hx
      rw[this]at hx;exact .inr ⟨by omega,(Option.some.inj hx).symm⟩
    rcases cs ha with⟨_,ha⟩|⟨ha,rfl⟩<;>rcases cs hb with⟨_,hb⟩|⟨hb,rfl⟩
    ·exact nY.once a b f g ha hb e
    ·exact absurd ⟨a,f,ha,e⟩ hex
    ·exact absurd ⟨b,g,hb,e.symm⟩ hex
    ·omega
  have hlen:(fl++[nf]).length=fl.length+1:=by simp
  refine ad.runK (aw ah _ _) rfl 20 (cs:=Km) ba b9 OH (eZ hF hX) hd (HA nmI xf nV cn (i+1) (fl++[nf])) (Ag.au (o:=y1) ?_ m1 m2 m3 m4) fun af a' w'' cu hK' cy dh e1 e2 e3 e4=>⟨rfl,⟨af,fl++[nf],by rw[hlen];exact cu,hK',cy,hg.trans dh,⟨e1,e2,e3,e4⟩,amp,by rw[hlen];omega,(fun _=>by simp),fun f hf=>(arN.1 hf).elim (lF f) fun hf=>⟨nw,hnw,by rw[arV.1 hf]⟩⟩⟩
  refine⟨aO (aO ⟨rfl,rfl,agm⟩ (cF fun j hj=> ?_)) ⟨?_,?_,agm⟩,aO (aO ⟨⟨rfl,qX.one⟩,⟨rfl,rfl⟩,⟨rfl,Pr.one⟩,agm⟩ (cF fun j hj=> ?_)) ⟨⟨?_,?_⟩,?_,agm⟩,agm,agm⟩
  ·have hj:=AAA.1 hj
   exact⟨(rW (by omega)).trans (by rw[vg hj];exact((qu (by omega)).trans (rW (by omega))).symm),(rX (by omega)).trans (by rw[vg hj];exact((qu (by omega)).trans (rX (by omega))).symm),agm⟩
  ·show(HA nmI xf nV cn (i+1) (fl++[nf])).s (10+fl.length)=y1.s 61
   rw[rW (by omega),vh];exact I2
  ·show(HA nmI xf nV cn (i+1) (fl++[nf])).s (16+fl.length)=match cond ls (SV.y 62) (SV.i 0)with|.y z=>y1.s z|.i n=>n
   rw[rX (by omega),vh];show oo=_;rw[hoo];cases ls<;>rfl
  ·have hj:=AAA.1 hj
   exact⟨⟨(lE (by omega)).trans (by rw[vg hj];exact((mC (by omega)).trans (lE (by omega))).symm),by rw[lE (by omega)];rfl⟩,⟨(nH (by omega)).trans (by rw[vg hj];exact((mC (by omega)).trans (nH (by omega))).symm),by rw[nH (by omega)];rfl⟩,agm⟩
  ·show(HA nmI xf nV cn (i+1) (fl++[nf])).q (20+fl.length)=y1.q 6
   rw[lE (by omega),vh];rfl
  ·rw[lE (by omega)];rfl
  ·show(HA nmI xf nV cn (i+1) (fl++[nf])).q (130+fl.length)=.bool ((fr i).ix&&le)
   rw[nH (by omega),vh]
theorem X8{K1:Nat->Option Obj}{w0:World}{nmI:Int}{xf nV:Value}{cn:ByteArray}{n:Nat}{fr:Nat->ji}(qX:xw K1 67 146 xf n fun i=>(fr i).cells)(Pr:nV.oneCell'=true){i:Nat}(hi:i=min n 6)
  {m:Nat}{Q:Act->World->Prop}{a:Act}{w':World}(h:HC K1 w0 nmI xf nV cn i a w')(hQ:∀a w',HC K1 w0 nmI xf nV cn i a w'->Q a w'):aC none m Tryz.prog (fun e a' w''=>e=.exit 0/\Q a' w'') Km a w':=by
 obtain⟨φ,fl,hs,hK,hd,hg,⟨n1,n2,n3,n4⟩,nY,hli,bU⟩:=h.ex;obtain⟨sa,rp,uO⟩:=qX.sl;have h6:=nY.len;let y0:=HA nmI xf nV cn i fl;let y1:Sym:={y0 with s:=fun x=>if x=6 then(n:Int)else y0.s x};have c6:∀x,x≠6->y1.s x=y0.s x:=fun x hx=>if_neg hx
 obtain⟨ay,b9,OH,m1,m2,m3,m4⟩:=hs.sG hK (tb:=CU fl.length) (aop.1 aaF fl.length (AAA.2 (by omega))) (y:=y1) (by
  have:=Bi (nmI:=nmI) (xf:=xf) (nV:=nV) (cn:=cn) (i:=i) (y:=y1) h6 qX.one Pr rfl rfl rfl rfl rfl fun j hj=>
   ⟨(c6 _ (by omega)).trans (rW (by omega)),(c6 _ (by omega)).trans (rX (by omega)),lE (nmI:=nmI) (i:=i) (by omega),nH (nmI:=nmI) (i:=i) (by omega)⟩
  have e1:φ.y.s=y0.s:=n1;have e2:φ.y.q=y0.q:=n2;refine⟨?_,?_,agm,agm⟩
  ·have h:=this.s;rw[<-e1]at h;exact h
  ·have h:=this.q
   have hq:pe φ.y=pe y0:=by
    funext v x
    cases v<;>simp only[pe,e1,e2]
   rw[hq];exact h)
 have s5:ay.s 5=(i:Int):=by rw[m1];rfl
 have s6:ay.s 6=(n:Int):=by rw[m1];rfl
 have iv:∀{x:Nat} {z:Int},ay.s x=z->aR ay.y (.y .i64 x)=some (.i64,z):=fun e=>congrArg (fun z=>some (arE,z)) e
 have hb:(decide (i<n),decide (i<6))∈bbs:=by
  rcases arS n 6 with h|h
  ·have e1:¬i<n:=by omega
   have e2:i<6:=by omega
   simp[e1,e2,bbs]
  ·have e2:¬i<6:=by omega
   by_cases e1:i<n<;>simp[e1,e2,bbs]
 have ba:=aop.1 (aop.1 ap4 fl.length (AAA.2 (by omega))) _ hb;unfold aaG at ba;have hF:aA Tryz.prog (aap (decide (i<n)) (decide (i<6))) ay:=by
  refine⟨agm,⟨.lss (iv s5) (iv s6) ?_,.lss (iv s5) rfl ?_,agm⟩,agm,agm,agm,agm,agm,agm,agm⟩
  ·exact decide_eq_decide.2 (by omega)
  ·exact decide_eq_decide.2 (by omega)
 have hX:iZ Tryz.prog {on:=[(1,6)]} ay:={on:=⟨⟨sa,n,rp,by rw[m2];exact uO,s6⟩,agm⟩};refine ad.runK (aw ah _ _) rfl 20 (cs:=Km) ba b9 OH (eZ hF hX) hd y0 (Ag.au (o:=y1) ?_ m1 m2 m3 m4) fun af a' w'' cu hK' cy dh e1 e2 e3 e4=>⟨rfl,hQ _ _ ⟨af,fl,cu,hK',cy,hg.trans dh,⟨e1,e2,e3,e4⟩,nY,hli,bU⟩⟩
 refine⟨aO ⟨rfl,rfl,agm⟩ (cF fun j hj=> ?_),aO ⟨⟨rfl,qX.one⟩,⟨rfl,rfl⟩,⟨rfl,Pr⟩,agm⟩ (cF fun j hj=> ?_),agm,agm⟩
 ·have hj:=AAA.1 hj
  exact⟨(c6 _ (by omega)).symm,(c6 _ (by omega)).symm,agm⟩
 ·have hj:=AAA.1 hj
  exact⟨⟨rfl,by rw[lE (by omega)];rfl⟩,⟨rfl,by rw[nH (by omega)];rfl⟩,agm⟩
theorem tz{K:Nat->Option Obj}{nmI:Int}(oV:eR nmI){xf:Value}{n:Nat}{fr:Nat->ji}(qX:xw K 67 146 xf n fun i=>(fr i).cells)(jQ:∀i,i<n->(fr i).OK)(m:Nat){w:World}(hw:∀r o,K r=some o->w.heap[r]? =some o):
  CallsIn (W none) m Tryz.prog 30 #[.agg #[.int .i64 nmI,xf]] w fun e w'=>∃nm enc fl fs K1,e=.returned (.agg #[.string nm,fs])/\Grown w w'/\rJ K w w' K1/\fP nm enc/\dW fl/\eP K1 fl fs/\fs.oneCell'=true/\(0<n->fl≠[])/\FNm fl/\fl.length<=n:=by
 obtain⟨q1,q2⟩:=bI nmI (N:=6) (by decide);obtain⟨r,hr⟩:∃r:Nat,ax nmI 6=r:=⟨_,(arG q1).symm⟩
 have JD:r<6:=by omega
 have R4:nC.getD r []∈nC:=by
  rw[arP,arD (show r<nC.length from JD)];exact List.getElem_mem _
 obtain⟨cl,lN⟩:∃cl,cl=nC.getD r []:=⟨_,rfl⟩
 rw[<-lN]at R4;obtain⟨enc,jN⟩:=qO (aop.1 aaa cl R4);have h8:∀x∈cl,x<256:=fun x hx=>by
  have:=aop.1 aaa cl R4;simp only[xZ,arM,aop]at this;exact bh.1 (this.2 x hx)
 let y0:Sym:=Hx (fun _=>nmI) (fun|1=>xf|_=>.string (bytes cl));have bB:=ad.enter (nt:=81) (bc y0 w) rfl rfl (vs:=alm) (args:=[.agg #[.int .i64 nmI,xf]]) (J.cons (vA (J.cons (vY rfl) (J.cons (vQ rfl qX.one) J.nil))) J.nil) (by decide)
 refine dz (fn:=Tryz.f30) (c:=(Tryz.f30.body).getD .skip) (args:=[.agg #[.int .i64 nmI,xf]]) Tryz.func30 rfl (bp _ ?_);show aC none m Tryz.prog _ Vx _ _;have ba:=aop.1 apt r (AAA.2 JD);unfold aam at ba;rw[<-lN]at ba;refine ad.runK (aw ah _ _) rfl 4 (cs:=Vx) ba bB (fU.all rfl hw) (eZ ?_ eX) rfl y0 (Ag.au (o:=y0) ⟨⟨rfl,agm⟩,⟨⟨rfl,qX.one⟩,⟨rfl,h8⟩,agm⟩,agm,agm⟩ rfl rfl rfl rfl) fun φ a w1 hs hK hd hg n1 n2 n3 n4=> ?_
 ·have:=nE (φ0 y0 w).y.k oV (N:=6) (by decide)
  rw[show((6:Nat):Int)=6 from rfl,hr]at this;exact⟨agm,agm,agm,agm,agm,agm,agm,agm,dy rfl this (J.cons (vY rfl) (J.cons vI J.nil)) vI,agm⟩
 show aC none m Tryz.prog _ (Vx.drop 4) a w1;have v3:=hs.tv (t:=3) (x:=.sl (some (4,0)) 6 (.kn 6)) rfl;have v3':=v3;simp only[VR]at v3';obtain⟨r4,h4,_,e3⟩:=v3';obtain⟨c4,g4,v4,l4,z4,_⟩:=hs.hr.cx h4 (l:=Hm) (e:=9) (g:=false) rfl;have z4:=z4 rfl;have WH:c4.toList=aT.map fun x=>.string (bytes x):=by
  rw[arR (by rw[Array.length_toList,z4];exact arF _)]at v4;exact Bh v4
 obtain⟨nV,Pr⟩:∃nV,nV=a.tmps.getD 3 undef:=⟨_,rfl⟩
 rw[<-Pr]at v3 e3;have n2':φ.q 1=xf:=agB n2 1;obtain⟨ay,b9,OH,m1,m2,m3,m4⟩:=hs.xU hK amk (HA nmI xf nV (bytes cl) 0 []) (bC ⟨(agB n1 0).symm,rfl,agm⟩ ⟨vQ n2' qX.one,vQ (agB n2 2) rfl,v3,agm⟩ trivial trivial);have amq:∀b,ay b=some r4->¬((ak 4 (B4 0)).get b).mut:=fun b hb hm=>by
  obtain⟨o,h1,h2⟩:=b9.hr.ew b r4 hb hm.live;rw[g4]at h1;cases h1;rw[aH]at h2 hm;exact sD (HB:=lI (B4 0)) (e:=9) rfl b _ (pM (ke hm.live) hm) hm.live h2
 have pJ:w.heap.size<=r4:=by
  rcases arS r4 w.heap.size with h|h
  ·exact absurd (hs.loc 4 r4 h4 (by rw[aH];trivial)) (by omega)
  ·exact h
 let K1:=ve K r4 (.cells c4 9 (0,0));have Tu:∀r o,K r=some o->K1 r=some o:=Hz hw pJ
 have afR:fU K1 ay:=OH.add b9 g4 amq;have bQ:RowK K1 9 1 nV (aT.map fun x=>.string (bytes x)):=by
  refine⟨r4,6,6,c4,e3,by decide,rfl,arF _,by rw[z4];rfl,fH,?_⟩;rw[<-WH];exact arR (by rw[WH];exact arF _)
 have amr:=qX.mono Tu;refine dd (id:=0) (b:=(match Vx.drop 4 with|.block _ (.loop b)::_=>b|_=>.skip)) (rest:=Vx.drop 5) (min n 6) (HC K1 w nmI xf nV (bytes cl)) (fun j a w' hj h=>X7 amr jQ bQ (by omega) (by omega) h) ?_
  ⟨ay,[],b9,afR,hd,hg,⟨m1,m2,m3,m4⟩,⟨by simp,fun f hf=>(by cases hf),fun i j f g hf=>(by simp at hf)⟩,arF _,(fun h=>by omega),fun f hf=>by cases hf⟩
 intro a w' h;refine X8 (Q:=fun a' w'=>aC none m Tryz.prog _ (Vx.drop 5) a' w') amr bQ.one rfl h ?_;rintro a2 w2 ⟨aV,fl,dx,Ca,mF,iK,⟨n1,n2,n3,n4⟩,nY,hli,bU,lF⟩;have h6:=nY.len;have VK:=aop.1 ap5 fl.length (AAA.2 (by omega));unfold aaH at VK;refine ad.runK (aw ah _ _) rfl 5 (cs:=Vx.drop 5) VK dx Ca (eZ aS eX) mF (HA nmI xf nV (bytes cl) (min n 6) fl) (Ag.au (o:=HA nmI xf nV (bytes cl) (min n 6) fl) (Bi h6 qX.one bQ.one rfl rfl rfl rfl rfl fun j hj=>⟨rW (by omega),rX (by omega),lE (nmI:=nmI) (i:=min n 6) (by omega),nH (nmI:=nmI) (i:=min n 6) (by omega)⟩) n1 n2 n3 n4) fun eH a3 w3 ez X3 gJ ig n1 n2 n3 n4=>⟨.inl rfl,gJ,?_⟩
 obtain⟨v,gE,ff⟩:=ez.leave ah (fn:=Tryz.f30) (l:=[.a [.q 2,TH fl.length]]) (by
  match fl.length,h6 with
  |0,_=>rfl
  |1,_=>rfl
  |2,_=>rfl
  |3,_=>rfl
  |4,_=>rfl
  |5,_=>rfl
  |6,_=>rfl)
 obtain⟨vs,rfl,iz⟩:=Ff (show VR eH (.a [.q 2,TH fl.length]) v from ff);simp only[J]at iz;obtain⟨nmv,_,e,X9,fs,_,rfl,jM,rfl⟩:=iz;have X9:nmv=.string (bytes cl):=by
  simp only[VR]at X9;rw[X9.1,n2];rfl
 subst X9;have iz:vs=#[.string (bytes cl),fs]:=arL.1 (e.trans rfl);subst iz;have gG:Grown w w3:=(iK.trans ig).grown;have TZ:∀r o,K1 r=some o->w3.heap[r]? =some o:=ez.lJ X3
 have ams:rJ K w w3 K1:=⟨Tu,TZ,fun r o h=>(fR h).elim (fun h=>.inr (by omega)) .inl⟩;rcases arW fl.length with h0|gn
 ·have aqd:fl=[]:=List.length_eq_zero_iff.1 h0
  subst aqd;have jM:fs=aF:=by
   have rj:VR eH eD fs:=jM;simp only[eD,VR]at rj;exact rj.2
  subst jM;exact⟨_,gE,_,enc,[],aF,K1,rfl,gG,ams,jN,nY,.inl ⟨rfl,rfl⟩,rfl,fun hn=>bU (by omega),lF,Nat.zero_le _⟩
 ·obtain⟨k,hk⟩:∃k,fl.length=k+1:=⟨fl.length-1,by omega⟩
  rw[hk]at jM ez;simp only[TH,VR]at jM;obtain⟨r3,cap,h3,ic,ed,rfl⟩:=jM;obtain⟨c3,g3,v3,l3,_,z3⟩:=ez.hr.cx h3 (l:=Fc (k+1)) (e:=93) (g:=true) rfl;have zP:w.heap.size<=r3:=by
   have:=ez.loc 3 r3 h3 (by rw[aH];trivial);omega
  have hlen:(Fc (k+1)).length=4*(k+1):=by
   have:∀n,(Fc n).length=4*n:=fun n=>by
    induction n with
    |zero=>rfl
    |succ n ih=>simp only[Fc]at ih⊢;rw[List.range_succ,List.flatMap_append,List.length_append,ih];simp;omega
   exact this _
  have qp:c3.toList.take (4*(k+1))=fl.flatMap eO.cells:=by
   have hv:J eH (Fc (k+1)) (fl.flatMap eO.cells):=by
    rw[Fc,<-hk,arU];refine ia fl 0 fun j f hj=> ?_
    have bf:j<fl.length:=(arC.1 hj).1;have hd:fl.getD j dF=f:=by rw[arP,hj];rfl
    rw[Nat.zero_add];have a1:eH.q (20+j)=.string f.t:=by rw[n2,lE (by omega),hd]
    have a2:eH.s (10+j)=f.nk:=by rw[n1,rW (by omega),hd]
    have a3:eH.s (16+j)=f.no:=by rw[n1,rX (by omega),hd]
    have a4:eH.q (130+j)=.bool f.b:=by rw[n2,nH (by omega),hd]
    exact J.cons (vQ a1 rfl) (J.cons (vY a2) (J.cons (vY a3) (J.cons (vQ a4 rfl) J.nil)))
   rw[hlen]at v3;refine ug (φ:=eH) (l:=Fc (k+1)) ?_ v3 hv;simp only[Fc,List.all_flatMap];simp[iY]
  let K2:=ve K1 r3 (.cells c3 93 (0,0));have Ca:∀r o,K1 r=some o->K2 r=some o:=fun s o h=>by
   by_cases e:s=r3
   ·subst e
    have:=TZ s o h;rw[g3]at this;cases this;exact fH
   ·show(if s=r3 then _ else K1 s)=_
    rw[if_neg e];exact h
  refine⟨_,gE,_,enc,fl,_,K2,rfl,gG,⟨fun r o h=>Ca r o (Tu r o h),fun r o h=> ?_,fun r o h=> ?_⟩,jN,nY,.inr ⟨fun e=>by rw[e]at gn;simp at gn,⟨r3,k+1,cap,c3,rfl,by decide,by rw[qm,hk];omega,ic,by omega,fH,?_⟩⟩,rfl,(fun _ e=>by rw[e]at gn;simp at gn),lF,by omega⟩
  ·rcases fR h with⟨rfl,rfl⟩|h
   ·exact g3
   ·exact TZ r o h
  ·rcases fR h with⟨rfl,rfl⟩|h
   ·exact .inr zP
   ·exact ams.new r o h
  ·rw[qm,hk];exact qp
noncomputable def OI:List Code:=ct ((Tryz.f31.body).getD .skip)
noncomputable def o31:Array Oper:=match OI.drop 2 with|.region _ o _::_=>o|_=>#[]
def oG:List V:=[.y .i64 1,.y .i64 2,.y .i64 3,.y .i64 4,.y .i64 5,.y .i64 6,.y .i64 7,.y .i64 8]
def Ya:List V:=[.a oG,.a [.q 26,.q 100]]
def Yb:List V:=[zI,.s [],.s [],.s [],zI,zI,.s [],.s []]
def aaI:List V:=dt.map .s
def aaJ:List (Nat×V):=[(2,.p (some (1,0))),(3,.p (some (2,0))),(4,.p (some (3,0))),(5,.b false),(6,.sl (some (4,0)) 6 (.kn 6))]
def aaK:List (Nat×aQ):=[(1,.cells oG 71 false),(2,.cells [.q 26,.q 100] 54 false),(3,.cells Yb 58 false),(4,.cells aaI 9 false)]
def T0:bP:={s:=[(1,.y 1),(2,.y 2),(3,.y 3),(4,.y 4),(5,.y 5),(6,.y 6),(7,.y 7),(8,.y 8)],q:=[(26,.q 26),(100,.q 100)]}
theorem aqe:av (aI E3 {} {}) 100 (OI.take 2) ⟨110,load Ya 0 .leaf⟩ (ak 0 []) .n T0 110 aaJ 5 aaK=true:=by decide+kernel
def MM:List (Nat×V):=[(2,.p (some (1,0))),(3,.p (some (2,0))),(4,.p (some (3,0))),(5,.b false),(6,.q 4)]
def CW:List (Nat×aQ):=[(1,.cells oG 71 false),(2,.cells [.q 26,.q 100] 54 false),(3,.cells Yb 58 false)]
theorem amt:(bG {T0 with q:=[(26,.q 26),(100,.q 100),(4,.sl (some (4,0)) 6 (.kn 6))]} (U 110 aaJ) (ak 5 aaK) 110 MM 4 CW).isSome=true:=by decide+kernel
def aaL:List (Nat×V):=MM++[(17,.sl (some (4,0)) 1 (.kn 1)),(18,.a [zI,.sl (some (4,0)) 1 (.kn 1)])]
def aaM:List (Nat×aQ):=CW++[(4,.cells [zI,.y .i64 5,.y .i64 6,.b false] 146 false)]
def CX:bP:={T0 with q:=[(26,.q 26),(100,.q 100),(4,.q 4)]}
theorem aqf:bH (aI E3 {} {}) 100 o31 (o31.toList.take 9) (U 110 MM) (ak 4 CW) CX 110 aaL 5 aaM=true:=by decide+kernel
def T4:List (Nat×V):=MM++[(18,.a [zI,.q 7])]
theorem amu:(bG {CX with q:=[(26,.q 26),(100,.q 100),(4,.q 4),(7,.sl (some (4,0)) 1 (.kn 1))]} (U 110 aaL) (ak 5 aaM) 110 T4 4 CW).isSome=true:=by decide+kernel
theorem aqg:aW {CX with q:=[(26,.q 26),(100,.q 100),(4,.q 4),(7,.q 7)]} 110 T4 4 CW=true:=by decide+kernel
def T5:List V:=[.q 50,.y .i64 30,.y .i64 31,.q 51]
def T6:List (Nat×V):=[(2,.p (some (1,0))),(3,.p (some (2,0))),(4,.p (some (3,0))),(5,.b false),(6,.q 4),(7,.p (some (5,0)))]
def T7:List (Nat×aQ):=[(1,.cells oG 71 false),(2,.cells [.q 26,.q 100] 54 false),(3,.cells Yb 58 false),(5,.cells [.y .i64 30,.y .i64 31] 56 false)]
def T8:bP:={CX with s:=T0.s++[(30,.y 30),(31,.y 31)]}
def Yc:Nat->V
 |0=>.q 100
 |n=>.sl (some (6,0)) n (.un 4)
def afS(n:Nat):List (Nat×aQ):=match n with|0=>T7|n=>(6,.rc (Fc n) 93)::iO 100 (Yc n) T7
def cgL(n:Nat):List (Nat×V):=match n with|0=>T6|n=>jG 100 (Yc n) T6
def afT:Nat->Nat
 |0=>6
 |_=>7
def Bj(n j:Nat):V:=match n with|0=>.s []|_=>.q (20+j)
def cgW(n j k:Nat):List V:=[.i .i64 k,cond (CS k) (Bj n j) (.s []),cond (XS k) (.q 31) (.s []),cond (Ij k) (.q 32) (.s []),cond (yY k) (.y .i64 30) zI,cond (yY k) (.y .i64 31) zI,cond (yY k) (.q 33) (.s []),cond (Ij k) (.q 34) (.s [])]
def cgF(n j k:Nat):aU:=
 {bin:=(match n with|0=>[(.gtr,.y .i64 60,.i .i64 0,.b false)]|_=>[]),
  qc:=[(54,[.y .i64 1,.i .i64 6],.i .i64 (k-1:Nat)),(54,[.y .i64 3,.i .i64 6],.y .i64 61),(54,[.y .i64 4,.i .i64 6],.y .i64 62),(55,[.y .i64 7,.a [.y .i64 30,.y .i64 31],.a [.q 26,Yc n]],.q 33),(55,[.y .i64 8,.a [.y .i64 30,.y .i64 31],.a [.q 26,Yc n]],.q 34),(56,[.a [.q 26,Yc n],.a (cgW n j k)],.q 40)]++(match n with|0=>[]|n+1=>[(54,[.y .i64 2,.i .i64 (n+1:Nat)],.i .i64 j)])}
def cgX:XF:={on:=[(100,60)],oi:=[(76,4,.y .i64 61,5),(76,4,.y .i64 62,6)],ol:=[(9,5,.q 31),(9,6,.q 32)]}
def cgT(n j:Nat):bP:={s:=[(30,.y 30),(31,.y 31)],q:=[(31,.q 31),(32,.q 32),(33,.q 33),(34,.q 34),(40,.q 40)]++(match n with|0=>[]|_=>[(20+j,.q (20+j))])}
noncomputable def cgR(n j k:Nat):Bool:=av (aI E3 (cgF n j k) cgX) 400 ((OI.drop 3).take 20) (U 110 (cgL n)) (ak (afT n) (afS n)) .r (cgT n j) 110 [(4,.p (some (3,0))),(5,.q 40)] 4 [(3,.cells (cgW n j k) 58 false)]
theorem amv:([1,2,3,4,5,6].all fun k=>cgR 0 0 k)=true:=by decide+kernel
theorem amw:((arO 7).all fun n=>(arO n).all fun j=>[1,2,3,4,5,6].all fun k=>cgR n j k)=true:=by decide+kernel
section
variable {K:Nat->Option Obj} {nm enc:ByteArray} {fl:List eO} {fs:Value}
def rgY(nm:ByteArray)(fs:Value)(fl:List eO)(d:xu)(i1 i2 i3:Int):Sym:=
 {s:=fun x=>match x with|20=>d.t1|21=>d.t2|51=>i1|52=>i2|53=>i3|60=>fl.length|_=>0,
  q:=fun x=>match x with|26=>.string nm|100=>fs|30=>.string d.u9|31=>.string d.nm|32=>.string d.mo|33=>.string d.ex|_=>.string d.ot,
  w:=fun _=>[],g:=fun _=>(#[],0),k:=fun _=>none}
def Kt(nm:ByteArray)(fl:List eO)(d:xu)(i1 i2 i3:Int):Sym:=
 {s:=fun x=>if x<16 then(fl.getD (x-10) ⟨cj,cj,0,0,false⟩).nk else if x<22 then(fl.getD (x-16) ⟨cj,cj,0,0,false⟩).no else match x with|51=>i1|52=>i2|53=>i3|_=>fl.length,
  q:=fun x=>if x<26 then .string (fl.getD (x-20) ⟨cj,cj,0,0,false⟩).t else if 130<=x then .bool (fl.getD (x-130) ⟨cj,cj,0,0,false⟩).b else match x with|26=>.string nm|30=>.string d.u9|31=>.string d.nm|32=>.string d.mo|33=>.string d.ex|_=>.string d.ot,
  w:=fun _=>[],g:=fun _=>(#[],0),k:=fun _=>none}
theorem eqs(φ:Ren)(x:Nat){s:ByteArray}(h:φ.q x=.string s):fT φ.y .eql (.q x) (.q x) (.b true):=.I0 (x:=s.toList) (y:=s.toList) (by simp only[gu];rw[show φ.y.q x=_ from h]) (by simp only[gu];rw[show φ.y.q x=_ from h]) (by simp)
theorem Ku{k:Nat}{c1 c2 c3:Bool}(q30:φ.q 30=.string d.u9)(OE:φ.q 31=.string d.nm)(OG:φ.q 32=.string d.mo)(Pp:φ.q 33=.string d.ex)(Pq:φ.q 34=.string d.ot)(h5:k=5->c1=(d.nm.toList !=d.mo.toList)/\c2=(d.nm.toList==d.u9.toList)/\c3=(d.mo.toList==d.u9.toList)):
  cI (fun e:BinOp×V×V×V=>fT φ.y e.1 e.2.1 e.2.2.1 e.2.2.2) (rgB k c1 c2 c3):=by
 have sv:∀{x:Nat} {s:ByteArray},φ.q x=.string s->gu φ.y (.q x)=some s.toList:=fun{x s} h=>by simp only[gu];rw[show φ.y.q x=_ from h]
 refine aO ?_ ⟨eqs φ _ q30,eqs φ _ OE,eqs φ _ OG,eqs φ _ Pp,eqs φ _ Pq,.eql (k:=.i64) rfl rfl (by simp),.eql (k:=.i64) rfl rfl (by simp),agm⟩;cases hk:Nat.beq k 5 with
 |false=>exact agm
 |true=>
  obtain⟨e1,e2,e3⟩:=h5 (arJ hk);exact⟨.Wk (sv OE) (sv OG) e1.symm,.I0 (sv OE) (sv q30) e2.symm,.I0 (sv OG) (sv q30) e3.symm,agm⟩
theorem jK{b:Bool}:b∈BF:=by cases b<;>decide
theorem afU{E:Env}(hE:E.OK)(qQ:E.ng=0){F:aU}{X:XF}{k:Nat}{f:FuncId}{Vs:List V}{nb:Nat}{HB:List (Nat×aQ)}{v:V}(hc:dN (aI E F X) k f Vs nb HB v []=true){K:Nat->Option Obj}
  {args:List Value}(oh:∀w:World,(∀r o,K r=some o->w.heap[r]? =some o)->∃φ:Ren,HR φ (ak nb HB) w/\φ.y.k=(fun r=>w.heap[r]?)/\J φ Vs args/\aA E.P F φ/\iZ E.P X φ){u:Value}(hu:∀φ:Ren,∀x,VR φ v x->x=u)
  (XA:∃fn c,E.P.funcs[f]? =some fn/\fn.body=some c/\(fn.name== "runtime.NumGoroutine")=false):Quiet E.P K f args (· =u):=by
 refine⟨XA,fun n w hw=> ?_⟩;obtain⟨φ,hr,hy,ha,hF,hX⟩:=oh w hw;refine((DN (aw hE F X) qQ hc (φ:=φ) (eZ hF hX) hr hy ha).2 n).mono ?_;rintro e w' ⟨x,rfl,hg,af,h',hle,hv,_⟩;exact⟨x,rfl,hu af x hv,hg⟩
theorem Yd(hf:dW fl)(jM:eP K fl fs)(h1:fs.oneCell'=true)(hd:d.OK)(hc:RgC K (.agg #[.string nm,fs]) d):
  ∃b,Quiet Tryz.prog K 56 [.agg #[.string nm,fs],.agg d.cells.toArray] (· =.bool b):=by
 obtain⟨i1,b1,p1,p1',_⟩:=EG (nm:=nm) hf jM (cond (CS d.k) d.u9 cj);obtain⟨i2,b2,p2,_⟩:=EG (nm:=nm) hf jM (cond (XS d.k) d.nm cj);obtain⟨i3,b3,p3,_⟩:=EG (nm:=nm) hf jM (cond (Ij d.k) d.mo cj);have h6:=hf.len;have hk:=hd.k;have cs:∀{φ:Ren} (b:Bool) {x:Nat} {t:ByteArray},φ.q x=.string t->VR φ (cond b (.q x) (.s [])) (.string (cond b t cj)):=fun{φ} b {x t} h=>by
  cases b
  ·exact aD
  ·exact vQ h rfl
 have dcs:∀(b:Bool) (x:Nat),Ks (cond b (.q x) (.s [])):=fun b x=>by cases b<;>exact dA rfl
 have vt:∀{φ:Ren} {v:V} {n:Nat} {b:Bool},VR φ v (.int .i64 n)->VR φ (.t [v,.b b]) (.tuple #[.int .i64 n,.bool b]):=fun h=>by simp only[VR];exact⟨_,rfl,J.cons h (J.cons vB J.nil)⟩
 by_cases k6:d.k=6
 ·
  obtain⟨n,hn⟩:∃n,n=fl.length:=⟨_,rfl⟩
  obtain⟨j,hj,hjb,hji⟩:∃j,j<=n/\arK j n=b1/\(b1=true->j=i1):=by
   cases b1 with
   |true=>
    obtain⟨f,hi,_⟩:=p1' rfl;have bf:i1<fl.length:=(arC.1 hi).1;exact⟨i1,by omega,bh.2 (by omega),fun _=>rfl⟩
   |false=>
    refine⟨n,arF _,?_,fun e=>by cases e⟩;cases hb:arK n n with
    |true=>have:=bh.1 hb;omega
    |false=>rfl
  obtain⟨le,hle⟩:∃le,le=decide ((Kt nm fl d i1 i2 i3).s (10+j)<=3):=⟨_,rfl⟩
  have ba:rg6 n j b2 b3 le=true:=by
   have go:∀{l:List Nat},n∈l->(l.all fun n=>(arO (n+1)).all fun i=>BF.all fun b2=>BF.all fun b3=>BF.all fun le=>rg6 n i b2 b3 le)=true->rg6 n j b2 b3 le=true:=fun hm h=>
    aop.1 (aop.1 (aop.1 (aop.1 (aop.1 h n hm) j (AAA.2 (by omega))) _ jK) _ jK) _ jK
   rcases(show n=0\/n=1\/n=2\/n=3\/n=4\/n=5\/n=6 by omega)with e|e|e|e|e|e|e
   ·exact go (by rw[e];decide) MF
   ·exact go (by rw[e];decide) MF
   ·exact go (by rw[e];decide) MF
   ·exact go (by rw[e];decide) MF
   ·exact go (by rw[e];decide) aaD
   ·exact go (by rw[e];decide) aaD
   ·exact go (by rw[e];decide) amg
  unfold rg6 at ba;rw[hjb]at ba;obtain⟨b,hb⟩:=TW ba;subst hn;have hy:∀i f,fl[i]? =some f->(Kt nm fl d i1 i2 i3).s (10+i)=f.nk/\(Kt nm fl d i1 i2 i3).s (16+i)=f.no/\(Kt nm fl d i1 i2 i3).q (20+i)=.string f.t/\(Kt nm fl d i1 i2 i3).q (130+i)=.bool f.b:=fun i f hi=>by
   have bf:i<fl.length:=(arC.1 hi).1;refine⟨?_,?_,?_,?_⟩
   ·show(if 10+i<16 then(fl.getD (10+i-10) _).nk else _)=_
    rw[if_pos (by omega),show 10+i-10=i by omega,lZ hi]
   ·show(if 16+i<16 then _ else if 16+i<22 then(fl.getD (16+i-16) _).no else _)=_
    rw[if_neg (by omega),if_pos (by omega),show 16+i-16=i by omega,lZ hi]
   ·show(if 20+i<26 then Value.string (fl.getD (20+i-20) _).t else _)=_
    rw[if_pos (by omega),show 20+i-20=i by omega,lZ hi]
   ·show(if 130+i<26 then _ else if 130<=130+i then Value.bool (fl.getD (130+i-130) _).b else _)=_
    rw[if_neg (by omega),if_pos (by omega),show 130+i-130=i by omega,lZ hi]
  refine⟨b,afU ah rfl hb (fun w hw=> ?_) (fun φ x hx=>Ih hx) ⟨_,_,Tryz.func56,rfl,rfl⟩⟩;rw[k6]at p1 p2 p3;obtain⟨φ,g1,g2,g3⟩:=OD hf jM hw _ hy;have q:∀x,φ.q x=(Kt nm fl d i1 i2 i3).q x:=fun x=>by simp only[Ren.q,g2]
  have sy:∀x,φ.s x=(Kt nm fl d i1 i2 i3).s x:=fun x=>by simp only[Ren.s,g2]
  have jS:∀r o,K r=some o->φ.y.k r=some o:=fun r o h=>by rw[g2];exact hw r o h
  have lN:VR φ (cl6 fl.length) (.agg #[.string nm,fs]):=vA (J.cons (vQ (q 26) rfl) (J.cons g3 J.nil));refine⟨φ,g1,by rw[g2],J.cons lN (J.cons (vA ?_) J.nil),?_,eX⟩
  ·simp only[xu.cells,k6]
   exact J.cons vI (J.cons (vQ (q 30) rfl) (J.cons aD (J.cons aD (J.cons aL (J.cons aL (J.cons aD (J.cons aD J.nil)))))))
  ·have hQ:=TY (TX fl.length) lN hd (hc.mono jS) (q 30) (q 31) (q 32) fun e=>by rw[k6]at e;cases e
   rw[k6]at hQ;refine⟨⟨by show(0:Int)<=φ.s 60/\φ.s 60<=6;rw[sy];show(0:Int)<=(fl.length:Int)/\(fl.length:Int)<=6;omega,agm⟩,⟨.leq (k:=.i64) (y:=3) (congrArg (fun z=>some (arE,z)) (sy (10+j))) rfl hle.symm,Ku (q 30) (q 31) (q 32) (q 33) (q 34) fun e=>by cases e⟩,agm,agm,agm,⟨⟨_,q 30⟩,⟨_,q 31⟩,⟨_,q 32⟩,⟨_,q 33⟩,⟨_,q 34⟩,agm⟩,agm,agm,
    aO hQ ⟨?_,?_,?_,agm⟩⟩
   ·refine ML (dL (TX _) (dL (dcs _ _) tw)) (p1.mono jS) (J.cons lN (J.cons (cs _ (q 30)) J.nil)) (vt ?_)
    cases b1 with
    |true=>rw[hji rfl];exact vI
    |false=>exact vY (sy 51)
   ·exact ML (dL (TX _) (dL (dcs _ _) tw)) (p2.mono jS) (J.cons lN (J.cons (cs _ (q 31)) J.nil)) (vt (vY (sy 52)))
   ·exact ML (dL (TX _) (dL (dcs _ _) tw)) (p3.mono jS) (J.cons lN (J.cons (cs _ (q 32)) J.nil)) (vt (vY (sy 53)))
 ·
  let Y:=rgY nm fs fl d i1 i2 i3;have main:∀(c1 c2 c3:Bool),(d.k=5->c1=(d.nm.toList !=d.mo.toList)/\c2=(d.nm.toList==d.u9.toList)/\c3=(d.mo.toList==d.u9.toList))->rgR d.k b1 b2 b3 c1 c2 c3=true->∃b,Quiet Tryz.prog K 56 [.agg #[.string nm,fs],.agg d.cells.toArray] (· =.bool b):=fun c1 c2 c3 VU ba=>by
   unfold rgR at ba;obtain⟨b,hb⟩:=TW ba;refine⟨b,cC ah rfl hb Y (fun φ f1 f2 f3 f4 hK=> ?_) (fun φ f1 f2 _ _ _=> ?_) (fun w hw=>⟨φ0 Y w,bc Y w,rfl,?_⟩) (fun φ _ _ x hx=>Ih hx) ⟨_,_,Tryz.func56,rfl,rfl⟩⟩
   ·have q:∀x,φ.q x=Y.q x:=fun x=>agB f2 x
    have lN:VR φ cl2 (.agg #[.string nm,fs]):=vA (J.cons (vQ (q 26) rfl) (J.cons (vQ (q 100) h1) J.nil));have sj:Nat.beq d.k 6=false:=by
     cases hh:Nat.beq d.k 6 with
     |true=>exact absurd (arJ hh) k6
     |false=>rfl
    refine⟨⟨by rw[f1];show(0:Int)<=(fl.length:Int)/\(fl.length:Int)<=6;omega,agm⟩,⟨.leq (k:=.i64) (x:=0) (y:=3) (congrArg (fun z=>some (arE,z)) (agB f1 10)) rfl rfl,Ku (q 30) (q 31) (q 32) (q 33) (q 34) VU⟩,agm,agm,agm,⟨⟨_,q 30⟩,⟨_,q 31⟩,⟨_,q 32⟩,⟨_,q 33⟩,⟨_,q 34⟩,agm⟩,agm,agm,
     aO (TY X6 lN hd (hc.mono hK) (q 30) (q 31) (q 32) fun _=>⟨q 33,q 34,agB f1 20,agB f1 21⟩) ⟨?_,?_,?_,agm⟩⟩
    ·refine ML (dL X6 (dL (dcs _ _) tw)) (p1.mono hK) (J.cons lN (J.cons (cs _ (q 30)) J.nil)) (vt ?_)
     rw[sj,Bool.and_false];exact vY (agB f1 51)
    ·exact ML (dL X6 (dL (dcs _ _) tw)) (p2.mono hK) (J.cons lN (J.cons (cs _ (q 31)) J.nil)) (vt (vY (agB f1 52)))
    ·exact ML (dL X6 (dL (dcs _ _) tw)) (p3.mono hK) (J.cons lN (J.cons (cs _ (q 32)) J.nil)) (vt (vY (agB f1 53)))
   ·refine{on:=⟨?_,agm⟩}
    rw[f1,f2];rcases jM with⟨e,e'⟩|⟨_,hr⟩
    ·exact⟨none,0,0,e',by show(fl.length:Int)=_;rw[e];rfl⟩
    ·obtain⟨r,n,cap,c,e,_,h3,_⟩:=hr
     refine⟨_,n,cap,e,?_⟩;rw[qm]at h3;show(fl.length:Int)=n;omega
   ·exact J.cons (vA (J.cons (vQ rfl rfl) (J.cons (vQ rfl h1) J.nil))) (J.cons (vA (aaE hk rfl rfl rfl rfl rfl rfl rfl)) J.nil)
  by_cases k5:d.k=5
  ·refine main _ _ _ (fun _=>⟨rfl,rfl,rfl⟩) ?_
   rw[k5];exact aop.1 (aop.1 (aop.1 (aop.1 (aop.1 (aop.1 apM _ jK) _ jK) _ jK) _ jK) _ jK) _ jK
  ·refine main true true true (fun h=>absurd h k5) ?_
   refine aop.1 (aop.1 (aop.1 (aop.1 apL d.k ?_) _ jK) _ jK) _ jK;simp only[arH,arI,or_false]at hk⊢;omega
theorem T9(hk:d.k∈[1,2,3,4,5,6])(k1:d.k≠1)(hf0:d.u9=cj)(hc:Quiet Tryz.prog K 109 [.agg #[.string nm,aF]] (· =.bool true)):
  Quiet Tryz.prog K 56 [.agg #[.string nm,aF],.agg d.cells.toArray] (· =.bool false):=by
 have ba:=aop.1 apK d.k (by simp only[arH,arI,or_false]at hk⊢;omega);let Y:=rgY nm aF [] d 0 0 0;have cs:∀{φ:Ren} (b:Bool) {x:Nat} {t:ByteArray},φ.q x=.string t->VR φ (cond b (.q x) (.s [])) (.string (cond b t cj)):=fun{φ} b {x t} h=>by
  cases b
  ·exact aD
  ·exact vQ h rfl
 have ci:∀{φ:Ren} (b:Bool) {x:Nat} {n:Int},φ.s x=n->VR φ (cond b (.y .i64 x) zI) (.int .i64 (cond b n 0)):=fun{φ} b {x n} h=>by
  cases b
  ·exact aL
  ·exact vY h
 refine cC ah rfl ba Y (fun φ f1 f2 f3 f4 hK=> ?_) (fun φ _ _ _ _ _=>eX) (fun w hw=>⟨φ0 Y w,bc Y w,rfl,?_⟩) (fun φ _ _ x hx=>Ih hx) ⟨_,_,Tryz.func56,rfl,rfl⟩
 ·have q:∀x,φ.q x=Y.q x:=fun x=>agB f2 x
  exact⟨agm,Ku (q 30) (q 31) (q 32) (q 33) (q 34) (fun e=>by cases e),agm,agm,agm,⟨⟨_,q 30⟩,⟨_,q 31⟩,⟨_,q 32⟩,⟨_,q 33⟩,⟨_,q 34⟩,agm⟩,agm,agm,
   ML (dL (TX 0) tw) (hc.mono hK) (J.cons (vA (J.cons (vQ (q 26) rfl) (J.cons bY J.nil))) J.nil) vB,agm⟩
 ·refine J.cons (vA (J.cons (vQ rfl rfl) (J.cons bY J.nil))) (J.cons (vA ?_) J.nil)
  have:cond (CS d.k) d.u9 cj=cj:=by rw[hf0];cases CS d.k<;>rfl
  rw[xu.cells,this];exact J.cons vI (J.cons aD (J.cons (cs _ rfl) (J.cons (cs _ rfl) (J.cons (ci _ rfl) (J.cons (ci _ rfl) (J.cons (cs _ rfl) (J.cons (cs _ rfl) J.nil)))))))
end
variable{p:Int}
theorem afV{k r:Nat}(hk:k∈MI)(hr:r<8){N T:Option (List Nat)}(hN:N∈MH)(hT:T∈MH):VD k r N T=true:=by
 have go:∀{M:Option (List Nat)},(MI.all fun k=>(arO 8).all fun r=>MH.all fun T=>VD k r M T)=true->VD k r M T=true:=fun h=>
  aop.1 (aop.1 (aop.1 h k hk) r (AAA.2 hr)) T hT
 simp only[MH,aT,List.map_cons,List.map_nil,arH,arI,or_false]at hN;rcases hN with rfl|rfl|rfl|rfl|rfl|rfl|rfl
 ·exact go apO
 ·exact go apP
 ·exact go apQ
 ·exact go apR
 ·exact go apS
 ·exact go apT
 ·exact go apU
theorem HI(h:eR p):eR (p.tdiv 2):=by
 unfold eR at*;rcases Int.le_total 0 p with h0|h0
 ·rw[arQ h0];omega
 ·have:p.tdiv 2= -((-p)/2):=by
   rw[<-arQ (by omega),Int.neg_tdiv,Int.neg_neg]
  rw[this];omega
theorem Ua{n:Int}(h:eR n):cZ .i64 n=true:=by
 simp only[cZ,arM,ma];unfold eR at h;omega
def Kv:Option (List Nat)->Value
 |none=>.tuple #[.string cj,.bool false]
 |some n=>.tuple #[.string (bytes n),.bool true]
section
variable {K:Nat->Option Obj} {nm:ByteArray} {fl:List eO} {fs:Value}
theorem qw(hf:dW fl)(lF:FNm fl)(a:Nat)(t1 t2:Int):∃o∈MH,(∀n,o=some n->n∈aT/\Po fl n t1 t2)/\afO (TR fl a t1 t2 fl.length 0)=(Kv o):=by
 cases h:TR fl a t1 t2 fl.length 0 with
 |none=>exact⟨none,by simp[MH],fun n e=>(by cases e),rfl⟩
 |some f=>
  have bU:fl≠[]:=fun e=>by subst e;cases h
  obtain⟨h1,h2,h3⟩:=TS bU h;obtain⟨n,hn,Mf⟩:=lF f h1;exact⟨some n,by simp only[MH,arH,List.mem_map];exact .inr ⟨n,hn,rfl⟩,fun m e=>(by cases e;exact⟨hn,f,h1,Mf,h2,h3⟩),by rw[show afO (some f)=.tuple #[.string f.t,.bool true]from rfl,Mf];rfl⟩
theorem Ub{o:Option (List Nat)}(h:∀n,o=some n->n∈aT):VR φ (fRV o) (Kv o):=by
 cases o with
 |none=>simp only[fRV,VR,Kv];exact⟨_,rfl,J.cons aD (J.cons vB J.nil)⟩
 |some n=>simp only[fRV,VR,Kv];exact⟨_,rfl,J.cons (vS (TT (h n rfl))) (J.cons vB J.nil)⟩
theorem Uc(hf:dW fl)(lF:FNm fl)(jM:eP K fl fs)(h1:fs.oneCell'=true)(hp:eR p){k:Nat}(hk:k∈MI):∃r N T,r<8/\(N=d7\/N∈aT/\Po fl N 1 0)/\(T=vP\/T∈aT/\Po fl T 2 0)/\
  Quiet Tryz.prog K 55 [.int .i64 p,.agg #[.int .i64 k,.int .i64 0],.agg #[.string nm,fs]] (· =.string (bytes (Pj k r N T))):=by
 obtain⟨q1,q2⟩:=bI p (N:=8) (by decide);obtain⟨r,hr⟩:∃r:Nat,ax p 8=r:=⟨_,(arG q1).symm⟩
 have xR:=HI hp;obtain⟨N,N1,N2,N3⟩:=qw hf lF (ax p 100).toNat 1 0;obtain⟨T,T1,T2,T3⟩:=qw hf lF (ax (p.tdiv 2) 100).toNat 2 0;have nT:∀{M:Option (List Nat)} {d:List Nat} {t:Int},(∀n,M=some n->n∈aT/\Po fl n t 0)->M.getD d=d\/M.getD d∈aT/\Po fl (M.getD d) t 0:=fun{M d t} h=>by
  cases M with
  |none=>exact .inl rfl
  |some n=>exact .inr (h n rfl)
 have h8:∀x∈Pj k r (N.getD d7) (T.getD vP),x<256:=by
  have g:∀{M:Option (List Nat)} {d:List Nat} {t:Int},(∀n,M=some n->n∈aT/\Po fl n t 0)->(∀x∈d,x<256)->∀x∈M.getD d,x<256:=fun{M d t} h hd x hx=>by
   cases M with
   |none=>exact hd x hx
   |some n=>exact TT (h n rfl).1 x hx
  have gN:=g N2 (d:=d7) (by decide);have gT:=g T2 (d:=vP) (by decide);have c:∀{l m:List Nat},(∀x∈l,x<256)->(∀x∈m,x<256)->∀x∈l++m,x<256:=fun h h' x hx=>(arN.1 hx).elim (h x) (h' x)
  simp only[MI,arH,arI,or_false]at hk;rcases hk with rfl|rfl
  ·show∀x∈afF r (N.getD d7) (T.getD vP),x<256
   unfold afF;split
   ·simp
   ·decide
   ·exact gN
   ·exact c gN (by decide)
   ·exact c (c (by decide) gT) (by decide)
   ·exact c (c (c (c (c (c (by decide) gN) (by decide)) gN) (by decide)) gN) (by decide)
   ·exact c (c (by decide) gT) (by decide)
   ·exact c (c gN (by decide)) gN
  ·show∀x∈afG r (N.getD d7) (T.getD vP),x<256
   unfold afG;split
   ·simp
   ·decide
   ·exact gT
   ·exact c (c gT (by decide)) gT
   ·exact c (c (by decide) gN) (by decide)
   ·exact c (c (by decide) gT) (by decide)
   ·exact c (c (by decide) gT) (by decide)
   ·exact c (c (c (c (by decide) gN) (by decide)) gT) (by decide)
 refine⟨r,N.getD d7,T.getD vP,show r<8 by omega,nT N2,nT T2,?_⟩;refine cC ah rfl (afV (r:=r) hk (by omega) N1 T1) (clY nm fs p fun _=>b0) (fun φ f1 f2 f3 f4 hK=> ?_) (fun φ _ _ _ _ _=>eX) (fun w hw=>⟨φ0 _ w,bc _ w,rfl,?_⟩) (fun φ _ _ x hx=>by simp only[VR]at hx;exact hx.1) ⟨_,_,Tryz.func55,rfl,rfl⟩
 ·have rj:eP φ.y.k fl fs:=jM.mono hK
  have lN:=vm (nm:=nm) h1 f2;have s0:φ.s 0=p:=by rw[f1];rfl
  have s1:φ.s 1=p.tdiv 2:=by rw[f1];rfl
  have b54:=qo φ.y.k hp (N:=8) (by decide);rw[show((8:Nat):Int)=8 from rfl,hr]at b54;have bN:=qv (nm:=nm) hf rj h1 hp 1 0;have bT:=qv (nm:=nm) hf rj h1 xR 2 0;rw[N3]at bN;rw[T3]at bT;refine⟨agm,⟨.quo (k:=.i64) (x:=p) (y:=2) (congrArg (fun z=>some (arE,z)) s0) rfl (by decide) (congrArg (fun z=>some (arE,z)) s1) (Ua xR),agm⟩,agm,agm,agm,agm,agm,agm,?_,?_,?_,agm⟩
  ·exact dy rfl b54 (J.cons (vY s0) (J.cons vI J.nil)) vI
  ·exact dy rfl bN (J.cons lN (J.cons (vY s0) (J.cons (vA (J.cons vI (J.cons aL J.nil))) J.nil))) (Ub fun n e=>(N2 n e).1)
  ·exact dy rfl bT (J.cons lN (J.cons (vY s1) (J.cons (vA (J.cons vI (J.cons aL J.nil))) J.nil))) (Ub fun n e=>(T2 n e).1)
 ·exact J.cons (vY rfl) (J.cons (vA (J.cons vI (J.cons aL J.nil))) (J.cons (vm (p:=p) h1 rfl) J.nil))
theorem Ye(hf:dW fl)(lF:FNm fl)(jM:eP K fl fs)(h1:fs.oneCell'=true)(hp:eR p){t:Nat×Nat}(ht:t∈Bf):∃e,(e=[]\/e∈aT/\Po fl e t.1 t.2)/\
  Quiet Tryz.prog K 55 [.int .i64 p,.agg #[.int .i64 t.1,.int .i64 t.2],.agg #[.string nm,fs]] (· =.string (bytes e)):=by
 obtain⟨q1,q2⟩:=bI p (N:=3) (by decide);obtain⟨r,hr⟩:∃r:Nat,ax p 3=r:=⟨_,(arG q1).symm⟩
 have xR:=HI hp;obtain⟨N,N1,N2,N3⟩:=qw hf lF (ax p 100).toNat 1 0;obtain⟨T,T1,T2,T3⟩:=qw hf lF (ax (p.tdiv 2) 100).toNat 2 0;obtain⟨M,M1,M2,M3⟩:=qw hf lF (ax p 100).toNat t.1 t.2;have bb:∀{b:Bool},b∈tf1:=fun{b}=>by cases b<;>decide
 have ba:eoO t r N.isSome T.isSome M.isSome=true:=aop.1 (aop.1 (aop.1 (aop.1 (aop.1 apV t ht) r (AAA.2 (by omega))) _ bb) _ bb) _ bb;unfold eoO at ba;have vq:∀{φ:Ren} {o:Option (List Nat)} {x:Nat},φ.q x=.string (bytes (o.getD []))->VR φ (fRq x o.isSome) (Kv o):=fun{φ o x} e=>by
  cases o with
  |none=>simp only[fRq,Option.isSome,cond_false,VR,Kv];exact⟨_,rfl,J.cons aD (J.cons vB J.nil)⟩
  |some n=>simp only[fRq,Option.isSome,cond_true,VR,Kv];exact⟨_,rfl,J.cons (vQ e rfl) (J.cons vB J.nil)⟩
 obtain⟨e,he⟩:∃e,e=cond (M.isSome&&arK 0 r) (M.getD []) []:=⟨_,rfl⟩
 refine⟨e,?_,?_⟩
 ·rw[he]
  cases M with
  |none=>exact .inl rfl
  |some n=>cases h0:arK 0 r with
   |true=>exact .inr (M2 n rfl)
   |false=>exact .inl rfl
 refine cC ah rfl ba (clY nm fs p fun x=>match x with|40=>.string (bytes (N.getD []))|41=>.string (bytes (T.getD []))|_=>.string (bytes (M.getD []))) (fun φ f1 f2 f3 f4 hK=> ?_) (fun φ _ _ _ _ _=>eX) (fun w hw=>⟨φ0 _ w,bc _ w,rfl,?_⟩) (fun φ f1 f2 x hx=> ?_) ⟨_,_,Tryz.func55,rfl,rfl⟩
 ·have rj:eP φ.y.k fl fs:=jM.mono hK
  have lN:=vm (nm:=nm) h1 f2;have s0:φ.s 0=p:=by rw[f1];rfl
  have s1:φ.s 1=p.tdiv 2:=by rw[f1];rfl
  have b54:=qo φ.y.k hp (N:=3) (by decide);rw[show((3:Nat):Int)=3 from rfl,hr]at b54;have bN:=qv (nm:=nm) hf rj h1 hp 1 0;have bT:=qv (nm:=nm) hf rj h1 xR 2 0;have bM:=qv (nm:=nm) hf rj h1 hp t.1 t.2;rw[N3]at bN;rw[T3]at bT;rw[M3]at bM;refine⟨agm,⟨.quo (k:=.i64) (x:=p) (y:=2) (congrArg (fun z=>some (arE,z)) s0) rfl (by decide) (congrArg (fun z=>some (arE,z)) s1) (Ua xR),agm⟩,agm,agm,agm,agm,agm,agm,?_,?_,?_,?_,agm⟩
  ·exact dy rfl b54 (J.cons (vY s0) (J.cons vI J.nil)) vI
  ·exact dy rfl bN (J.cons lN (J.cons (vY s0) (J.cons (vA (J.cons vI (J.cons aL J.nil))) J.nil))) (vq (by rw[f2];rfl))
  ·exact dy rfl bT (J.cons lN (J.cons (vY s1) (J.cons (vA (J.cons vI (J.cons aL J.nil))) J.nil))) (vq (by rw[f2];rfl))
  ·exact dy rfl bM (J.cons lN (J.cons (vY s0) (J.cons (vA (J.cons vI (J.cons vI J.nil))) J.nil))) (vq (by rw[f2];rfl))
 ·exact J.cons (vY rfl) (J.cons (vA (J.cons vI (J.cons vI J.nil))) (J.cons (vm (p:=p) h1 rfl) J.nil))
 ·rw[he]
  cases hb:M.isSome&&arK 0 r with
  |true=>rw[hb]at hx;simp only[cond_true,VR]at hx⊢;rw[hx.1,f2];rfl
  |false=>rw[hb]at hx;simp only[cond_false,VR]at hx⊢;exact hx.1
end
end Go.Ev
