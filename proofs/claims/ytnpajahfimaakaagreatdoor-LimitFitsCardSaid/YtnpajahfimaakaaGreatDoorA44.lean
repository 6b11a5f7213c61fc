/- A part of what LimitFits rests on. -/
import Derived.Test.YtnpajahfimaakaaGreatDoorA40
import Derived.Test.YtnpajahfimaakaaGreatDoorA41
import Derived.Test.YtnpajahfimaakaaGreatDoorA42
import Derived.Test.YtnpajahfimaakaaGreatDoorA43
import Derived.Test.YtnpajahfimaakaaGreatDoorA20
import Derived.Test.YtnpajahfimaakaaGreatDoorA14
import Derived.ChangeReads
import Derived.ChangeOld
import Derived.Deep.Slices
import Derived.OpenShut
import Derived.Test.YtnpajahfimaakaaGreatDoorA39
import Derived.Test.YtnpajahfimaakaaGreatDoorA01
set_option linter.all false
namespace Go.Ev
open DataW renaming trod->aop,trodStep->arO
open Instr renaming sliceAt->arD
open List renaming getD_eq_getElem?_getD->arE,not_mem_nil->arF,length_take->arG,mem_cons->arH,getElem?_take->arK,mem_of_mem_take->arL,all_eq_true->AAB,length_map->arN,all_cons->arQ,getElem?_cons_zero->arT,all_nil->arU,getElem?_range->arW,range->arX
open IntKind renaming i64->arI
open Bool renaming and_eq_true->arJ,and_true->arR,and_eq_true_iff->AAC
open Option renaming bind_eq_some_iff->AAA,map_eq_some_iff->arC
open _root_.Array renaming toList_inj->arM,getElem?_eq_some_iff->arP
open World renaming cells?->arS,cell?->arV
open Go.Proofs
variable{ie:TypeInfo}
theorem ahx{k:Nat}(h1:1<=k)(h:k<=63):UL k=true:=by
 have key:∀{a n:Nat},((List.range' a n).all UL)=true->a<=k->k<a+n->UL k=true:=fun{a n} t h1 h2=>AAB.1 t k (by rw[List.mem_range'];exact⟨k-a,by omega,by omega⟩)
 rcases(show k<21\/(21<=k/\k<31)\/(31<=k/\k<39)\/(39<=k/\k<46)\/(46<=k/\k<52)\/(52<=k/\k<58)\/58<=k by omega)with h|h|h|h|h|h|h
 ·exact key aqU h1 h
 ·exact key aqW h.1 h.2
 ·exact key aqX h.1 h.2
 ·exact key aqY h.1 h.2
 ·exact key aqZ h.1 h.2
 ·exact key aq0 h.1 h.2
 ·exact key aq1 h (by omega)
def tA(s:ByteArray):Nat->ByteArray
 |0=>s
 |j+1=>(tA s j).extract 53 (tA s j).size
theorem C8(s:ByteArray):∀j,(tA s j).size=s.size-53*j
 |0=>by simp[tA]
 |j+1=>by rw[tA,ByteArray.size_extract,C8 s j];omega
theorem ahy{s:ByteArray}(h1:1<=s.size)(h2:s.size<=10000)(m:Nat)(w:World):CallsIn (W none) m Tryz.prog 9 #[.int .i64 1,.int .i64 1,.string s] w fun e w'=>
  ∃(l:Value) (len:Nat) (code:Int),e=.returned (.tuple #[l,.int .i64 code])/\Grown w w'/\(∃a cap,l=.slice a len cap)/\((dH s.size<=63/\code=0/\len=dH s.size)\/(64<=dH s.size/\code=2/\len=0)):=by
 have Gz:dH s.size=max 1 ((s.size+52)/53):=rfl;let y:Sym:=Hx (fun x=>match x with|0=>(s.size:Int)|1=>(dH s.size:Int)|_=>64-(dH s.size:Int)) (fun x=>if x<100 then .string (tA s x)else .string ((tA s (x-100)).extract 0 53))
 have Zh:∀φ:Ren,φ.s=y.s->φ.q=y.q->cI (fun e:Nat×Nat=>∃s:ByteArray,φ.q e.1=.string s/\φ.s e.2=(s.size:Int)) [(0,0)]:=fun φ e1 e2=>⟨⟨s,by rw[e2];rfl,by rw[e1];rfl⟩,agm⟩
 have hE:=aw ah;rcases Nat.lt_or_ge (dH s.size) 64 with hk|hk
 ·have ba:=ahx (k:=dH s.size) (by omega) (by omega)
  unfold UL at ba;split at ba
  ·rename_i bo n c e h' eF
   simp only[arJ,decide_eq_true_eq]at ba;have en:=Nat.eq_of_beq_eq_true ba.1;have ee:=ba.2;subst ee;have hF:aA Tryz.prog (ahv (dH s.size)) (φ0 y w):=⟨agm,agm,agm,agm,agm,agm,agm,agm,dy rfl (KJ _ (by omega)) (J.cons (vY rfl) J.nil) vI,agm⟩;have hX:iZ Tryz.prog (ahw (dH s.size)) (φ0 y w):=by
    refine{ql:=Zh _ rfl rfl,ss:=cF fun j hj=> ?_};have hj:=List.mem_range.1 hj;have ed:=C8 s j;have q1:(φ0 y w).q j=.string (tA s j):=if_pos (by omega);have q2:(φ0 y w).q (j+1)=.string (tA s (j+1)):=if_pos (by omega);have q3:(φ0 y w).q (100+j)=.string ((tA s j).extract 0 53):=by
     show(if 100+j<100 then _ else Value.string ((tA s (100+j-100)).extract 0 53))=_;rw[if_neg (by omega),show 100+j-100=j by omega]
    exact⟨⟨tA s j,q1,by show 0<=53;decide,by show 53<=_;omega,q3⟩,⟨tA s j,q1,by show 53<=(tA s j).size;omega,by show(tA s j).size<=_;omega,q2⟩,agm⟩
   refine((pI (hE _ _) (cV (hE _ _) 3000).1 _ _ _ _ _ eF (φ0 y w) [.int .i64 1,.int .i64 1,.string s] w m (fun g hg=>by have:g<0:=hg;omega) (eZ hF hX) (J.cons vI (J.cons vI (J.cons (vQ (x:=0) (v:=.string s) rfl rfl) J.nil))) (bc y w)).2).mono ?_;rintro e w' ⟨af,u,rfl,hx,V5,cM⟩;simp only[VR,J]at V5;obtain⟨vs,rfl,x0,_,e0,g0,x1,_,rfl,rfl,rfl⟩:=V5;obtain rfl:vs=#[x0,.int .i64 0]:=arM.1 e0;refine⟨x0,n,0,rfl,⟨hx.size,fun r bf=> ?_,hx.os,hx.tape,hx.output⟩,?_,.inl ⟨by omega,rfl,en⟩⟩
   ·have ho:w.heap[r]? =some w.heap[r]:=Array.getElem?_eq_getElem bf
    rw[ho];exact(cM.kp r w.heap[r] (by rw[hx.le.yy];exact ho)).1
   ·obtain⟨b,o⟩:=bo
    obtain⟨r,_,_,e⟩:=g0;exact⟨_,_,e⟩
  ·cases ba
 ·have ba:=aqV
  unfold ctB at ba;have hF:aA Tryz.prog {qc:=[(17,[.y .i64 0],.y .i64 1)],bin:=[(.sub,.i .i64 64,.y .i64 1,.y .i64 2),(.gtr,.i .i64 1,.y .i64 2,.b true)]} (φ0 y w):=by
   refine⟨agm,⟨.sub (k:=.i64) (x:=64) (y:=(dH s.size:Int)) rfl rfl rfl (fQ (by unfold eR;omega)),.gtr (k:=.i64) (x:=1) (y:=64-(dH s.size:Int)) rfl rfl (decide_eq_true (by omega)),agm⟩,agm,agm,agm,agm,agm,agm,dy rfl (KJ _ (by omega)) (J.cons (vY rfl) J.nil) (vY rfl),agm⟩
  refine((DN (hE _ _) rfl ba (φ:=φ0 y w) (eZ hF {ql:=Zh _ rfl rfl}) (bc y w) rfl (args':=[.int .i64 1,.int .i64 1,.string s]) (J.cons vI (J.cons vI (J.cons (vQ (x:=0) (v:=.string s) rfl rfl) J.nil)))).2 m).mono ?_;rintro e w' ⟨u,rfl,hg,af,h',hle,hv,_⟩;simp only[VR,J,eD]at hv;obtain⟨vs,rfl,x0,_,e0,⟨_,rfl⟩,x1,_,rfl,rfl,rfl⟩:=hv;obtain rfl:vs=#[.slice none 0 0,.int .i64 2]:=arM.1 e0;exact⟨_,0,2,rfl,hg,⟨none,0,rfl⟩,.inr ⟨hk,rfl,rfl⟩⟩
def aq2(cp t:Bool):aU:={bin:=[(.lss,.y .i64 3,.i .i64 4,.b false),(.gtr,.y .i64 3,.i .i64 64,.b false),(.sub,.y .i64 3,.i .i64 2,.y .i64 4),(.leq,.y .i64 5,.y .i64 4,.b t)],qc:=[(8,[.a (EH cp)],.t [.q 0,.i .i64 0]),(17,[.y .i64 0],.y .i64 5)]}
noncomputable def fsR(cp t:Bool):Bool:=dN (aI E3 (aq2 cp t) {ql:=[(0,0)]}) 100 7 [.a (EH cp),.y .i64 3] 0 [] (.t [.b t,.i .i64 0]) []
theorem aq3:(uY fun cp=>uY fun t=>fsR cp t)=true:=by decide+kernel
section
variable {K:Nat->Option Obj} {cp:Bool} {N X:Int} {rs:List (List Value×ByteArray)} {vs:List Int} {aM aK:Value}
theorem KK(hb:dS K cp N rs vs aM aK)(bU:rs≠[])(Ig:rs.length<=12)(hN:1<=N/\N<=300)(hX:13<=X/\X<=512){per:Int}(hp:4<=per/\per<=64):
  Quiet Tryz.prog K 7 [bW cp N X aM aK,.int .i64 per] (· =.tuple #[.bool (decide ((dH (vD cp N X rs vs):Int)+2<=per)),.int .i64 0]):=by
 have o1:=hb.o9;have o2:=hb.pU;obtain⟨s,s1,s2,s3,sq⟩:=HY hb bU Ig hN hX;let t:=decide ((dH (vD cp N X rs vs):Int)+2<=per);have Gz:dH s.size=max 1 ((s.size+52)/53):=rfl;have ba:=dp (dp aq3 cp) t;unfold fsR at ba;let y:Sym:=Hx (fun x=>match x with|0=>(s.size:Int)|1=>N|2=>X|3=>per|4=>per-2|_=>(dH s.size:Int)) (fun x=>match x with|0=>.string s|150=>aM|_=>aK)
 have YB:∀{φ:Ren},φ.s=y.s->φ.q=y.q->VR φ (.a (EH cp)) (bW cp N X aM aK):=fun{φ} n1 n2=>by
  have hi:VR φ (.i .i64 (cond cp 2 1)) (.int .i64 (cond cp 2 1)):=by cases cp<;>exact vI
  exact vA (J.cons hi (J.cons (vY (by rw[n1];rfl)) (J.cons (vY (by rw[n1];rfl)) (J.cons (vQ (by rw[n2];rfl) o1) (J.cons (vQ (by rw[n2];rfl) o2) J.nil)))))
 refine cC ah rfl ba y (fun φ e1 e2 _ _ hK=> ?_) (fun φ e1 e2 _ _ hK=>{ql:=⟨⟨s,by rw[e2];rfl,by rw[e1];rfl⟩,agm⟩}) (fun w hw=>⟨φ0 y w,bc y w,rfl,J.cons (YB rfl rfl) (J.cons (vY rfl) J.nil)⟩) (fun φ _ _ x hx=> ?_) ⟨_,_,Tryz.func7,rfl,rfl⟩
 ·have iv:∀x,aR φ.y (.y .i64 x)=some (.i64,y.s x):=fun x=>congrArg (fun z=>some (arI,z)) (agB e1 x)
  refine⟨agm,⟨.lss (iv 3) rfl (decide_eq_false (by show ¬per<4;omega)),.gtr (iv 3) rfl (decide_eq_false (by show ¬(64:Int)<per;omega)),.sub (iv 3) rfl (iv 4) (fQ (by show eR (per-2);unfold eR;omega)),.leq (iv 5) (iv 4) (by show decide ((dH s.size:Int)<=per-2)=t;rw[s1];exact decide_eq_decide.2 (by omega)),agm⟩,agm,agm,agm,agm,agm,agm,?_,?_,agm⟩
  ·refine dy (by simp only[arQ,arU,arR];cases cp<;>rfl) (sq.mono hK) (J.cons (YB e1 e2) J.nil) ?_
   simp only[VR];exact⟨_,rfl,J.cons (vQ (by rw[e2];rfl) rfl) (J.cons vI J.nil)⟩
  ·exact dy rfl (KJ _ (n:=s.size) (by omega)) (J.cons (vY (by rw[e1];rfl)) J.nil) (vY (by rw[e1];rfl))
 ·simp only[VR,J]at hx
  obtain⟨vs,rfl,x0,_,e0,rfl,x1,_,rfl,rfl,rfl⟩:=hx;rw[arM.1 (e0.trans (by rfl:_=(#[.bool t,.int .i64 0]:Array Value).toList))]
theorem xA{t e:TypeId}(hu:Tryz.prog.underlying t=some (.slice e))(E5:Tryz.prog.info? e=some ie){a:Option Addr}{n j cap:Nat}(h:j<=cap)(w:World):(arD t (.slice a n cap) none (some (.int .i64 (j:Nat))) none).run Tryz.prog w=.ok (.slice a j cap) w:=by
 have E7:=eS (P:=Tryz.prog) (w:=w) (φ:=φ0 (dg [] [] [] []) w) true n cap cap (Nat.le_refl _) (lo:=none) (lo':=none) (hi:=some (.i .i64 (j:Nat))) (hi':=some (.int .i64 (j:Nat))) rfl ⟨_,rfl,vI⟩ (h:=j) (l:=0)
  (by show cond (Nat.blt j (cap+1)) (some j) none=some j;rw[bh.2 (by omega)];rfl) rfl
 have ha:∀z,(if cap=0 then a else a.map (fun x=>x.add (0*z)))=a:=fun z=>by
  split
  ·rfl
  ·cases a with
   |none=>rfl
   |some x=>simp[Addr.add]
 have:=ha ie.size;simp only[Nat.zero_mul]at this;simp[arD,Instr.slice,run_underlying hu,E7,run_sizeOf E5,this]
theorem dS.less(hb:dS K cp N rs vs aM aK){j:Nat}(hj:rs.length=j+1)(h1:1<=j):∃fI ga:Value,dS K cp N (rs.take j) (vs.take j) fI ga/\(∃a cap,fI=.slice a j cap)/\(∀w,(arD 27 aM none (some (.int .i64 (j:Nat))) none).run Tryz.prog w=.ok fI w)/\
  (∃a cap,aK=.slice a (cond cp (j+1) 0) cap)/\∀w,(arD 23 aK none (some (.int .i64 ((cond cp j 0:Nat):Int))) none).run Tryz.prog w=.ok ga w:=by
 have bf:(rs.take j).length=j:=by rw[arG];omega
 have bU:rs.take j≠[]:=fun e=>by rw[e]at bf;simp at bf;omega
 have bQ:RowK K 60 18 aM (rs.flatMap (·.1)):=by
  rcases hb.aM with⟨h,_⟩|⟨_,h⟩
  ·rw[h]at hj;simp at hj
  ·exact h
 have nY:=hb.Ys;have amp:((rs.take j).flatMap (·.1)).length=18*j:=by rw[ET (z:=18) fun p hp=>(hb.form p (arL hp)).len,bf]
 obtain⟨r,n,cap,c,rfl,z1,z2,z3,z4,z5,z6⟩:=bQ;have hn:n=j+1:=by omega
 have aa5:RowK K 60 18 (.slice (some ⟨r,0,none⟩) j cap) ((rs.take j).flatMap (·.1)):=⟨r,j,cap,c,rfl,z1,by omega,by omega,z4,z5,by
  have:rs.flatMap (·.1)=(rs.take j).flatMap (·.1)++(rs.drop j).flatMap (·.1):=by rw[<-List.flatMap_append,List.take_append_drop]
  have h2:(c.toList.take (rs.flatMap (·.1)).length).take ((rs.take j).flatMap (·.1)).length=(rs.take j).flatMap (·.1):=by rw[z6,this,List.take_left]
  rw[List.take_take,Nat.min_eq_left (by omega)]at h2;exact h2⟩
 have anL:∀i x y,(rs.take j)[i]? =some x->(rs.take j)[i+1]? =some y->AH x.1 (jY cp (vs.take j) i) y.1 (jY cp (vs.take j) (i+1)):=fun i x y hx hy=>by
  rw[arK]at hx hy;split at hy
  ·rename_i h
   rw[if_pos (by omega)]at hx;have:=hb.ord i x y hx hy;have e:∀k,k<j->jY cp (vs.take j) k=jY cp vs k:=fun k hk=>by
    cases cp with
    |false=>rfl
    |true=>simp only[jY,cond_true,arE,arK,if_pos hk]
   rw[e i (by omega),e (i+1) h];exact this
  ·cases hy
 have anM:∀p∈rs.take j,qx K p.1 p.2:=fun p hp=>hb.rok p (arL hp)
 have anN:cp=true->∀v∈vs.take j,1<=v/\v<=N:=fun e v hv=>hb.ON e v (arL hv)
 have aa6:cp=true->(vs.take j).length=(rs.take j).length:=fun e=>by rw[arG,arG,hb.rq e]
 have b9:∀w,(arD 27 (.slice (some ⟨r,0,none⟩) n cap) none (some (.int .i64 (j:Nat))) none).run Tryz.prog w=.ok (.slice (some ⟨r,0,none⟩) j cap) w:=fun w=>xA (ah.ty 27 _ _ rfl).2 (ah.ty 60 _ _ rfl).1 (by omega) w
 rcases hb.aK with⟨rfl,rfl⟩|⟨h,h2,_⟩|⟨rfl,h2,hv⟩
 ·exact⟨_,aF,⟨anM,.inr ⟨bU,aa5⟩,.inl ⟨rfl,rfl⟩,aa6,anN,anL⟩,⟨_,_,rfl⟩,b9,⟨none,0,rfl⟩,fun w=>xA (ah.ty 23 _ _ rfl).2 (ah.ty 3 _ _ rfl).1 (Nat.le_refl _) w⟩
 ·have:=hb.rq h
  rw[h2]at this;have:rs.length=0:=this.symm;omega
 ·have MV:=hb.rq rfl
  obtain⟨r',n',IV,c',rfl,y1,y2,y3,y4,y5,y6⟩:=hv;rw[arN]at y2 y6;have kZ:n'=j+1:=by omega
  have xG:(vs.take j).length=j:=by rw[arG];omega
  have gh:RowK K 3 1 (.slice (some ⟨r',0,none⟩) j IV) ((vs.take j).map (.int .i64)):=⟨r',j,IV,c',rfl,y1,by rw[arN];omega,by omega,y4,y5,by
   rw[arN,xG];have h2:(c'.toList.take vs.length).take j=(vs.take j).map (.int .i64):=by rw[y6,List.map_take]
   rw[List.take_take,Nat.min_eq_left (by omega)]at h2;exact h2⟩
  exact⟨_,_,⟨anM,.inr ⟨bU,aa5⟩,.inr (.inr ⟨rfl,fun e=>by rw[e]at xG;simp at xG;omega,gh⟩),aa6,anN,anL⟩,⟨_,_,rfl⟩,b9,⟨_,_,by rw[kZ];rfl⟩,fun w=>xA (ah.ty 23 _ _ rfl).2 (ah.ty 3 _ _ rfl).1 (by show j<=IV;omega) w⟩
theorem OT{j:Nat}(hj:rs.length=j+1):vD cp N X (rs.take j) (vs.take j)<=vD cp N X rs vs:=by
 have bf:(rs.take j).length=j:=by rw[arG];omega
 have e:((arX j).map (vC cp (rs.take j) (vs.take j))).sum=((arX j).map (vC cp rs vs)).sum:=by
  congr 1
  refine List.map_congr_left fun i hi=> ?_
  have hi:=List.mem_range.1 hi;have e1:jY cp (vs.take j) i=jY cp vs i:=by
   cases cp with
   |false=>rfl
   |true=>simp only[jY,cond_true,arE,arK,if_pos hi]
  have e2:vu (rs.take j) i=vu rs i:=by simp only[vu,arE,arK,if_pos hi]
  rw[vC,vC,e1,e2]
 unfold vD;rw[bf,hj,e,List.range_succ,List.map_append,List.sum_append];omega
theorem KL{a b:Nat}(h:a<=b):dH a<=dH b:=by unfold dH;omega
end
end Go.Ev
namespace Go.Proofs
open DataW renaming trod->aop,trodStep->arO
open Instr renaming sliceAt->arD
open List renaming getD_eq_getElem?_getD->arE,not_mem_nil->arF,length_take->arG,mem_cons->arH,getElem?_take->arK,mem_of_mem_take->arL,all_eq_true->AAB,length_map->arN,all_cons->arQ,getElem?_cons_zero->arT,all_nil->arU,getElem?_range->arW,range->arX
open IntKind renaming i64->arI
open Bool renaming and_eq_true->arJ,and_true->arR,and_eq_true_iff->AAC
open Option renaming bind_eq_some_iff->AAA,map_eq_some_iff->arC
open _root_.Array renaming toList_inj->arM,getElem?_eq_some_iff->arP
open World renaming cells?->arS,cell?->arV
open Go.Shelf Go.RowKit Go.Ev
set_option maxHeartbeats 1000000 in
theorem Tryz.anO(c:Int)(N:Nat)(hN:1<=N/\N<=100000)(hc: -9223372036854775808<=c/\c<=9223372036854775807)(w:World):
  Calls Tryz.prog 6 #[.int .i64 c,.int .i64 N] w fun e w'=>e=.returned (.int .i64 (ax c N))/\w'=w:=by
 have hN0:(N:Int)≠0:=by omega
 go_enter Tryz.func6,Tryz.ntmps6
 go_wp2
 ·rename_i bf
  go_ret
  have h1:0<= -(c+1):=by omega
  have e: -(c+1).tmod (N:Int)=(-(c+1))%(N:Int):=by
   rw[<-Int.neg_tmod,Int.tmod_eq_emod_of_nonneg h1]
  have hp:ax c N=(-(c+1))%(N:Int):=if_pos (by omega);refine⟨?_,rfl⟩;rw[e,hp];rfl
 ·rename_i bf
  go_ret
  have hp:ax c N=c%(N:Int):=if_neg (by omega);refine⟨?_,rfl⟩;rw[hp];rfl
theorem YK(K:Nat->Option Obj){c:Int}(hc:eR c){N:Nat}(hN:1<=N/\N<=100000):Quiet Tryz.prog K 6 [.int .i64 c,.int .i64 N] (· =.int .i64 (ax c N)):=by
 refine⟨⟨_,_,Tryz.func6,rfl,rfl⟩,fun n w _=> ?_⟩;refine CallsIn.mono (callsIn_wide.2 (Tryz.anO c N hN hc w):CallsIn (Go.Ev.W none) n _ _ _ _ _) ?_;rintro e w' ⟨rfl,rfl⟩;exact⟨_,rfl,rfl,Go.Ev.Grown.refl _⟩
end Go.Proofs
namespace Go.Ev
open DataW renaming trod->aop,trodStep->arO
open Instr renaming sliceAt->arD
open List renaming getD_eq_getElem?_getD->arE,not_mem_nil->arF,length_take->arG,mem_cons->arH,getElem?_take->arK,mem_of_mem_take->arL,all_eq_true->AAB,length_map->arN,all_cons->arQ,getElem?_cons_zero->arT,all_nil->arU,getElem?_range->arW,range->arX
open IntKind renaming i64->arI
open Bool renaming and_eq_true->arJ,and_true->arR,and_eq_true_iff->AAC
open Option renaming bind_eq_some_iff->AAA,map_eq_some_iff->arC
open _root_.Array renaming toList_inj->arM,getElem?_eq_some_iff->arP
open World renaming cells?->arS,cell?->arV
open Go.Proofs
def lfE(b:gC)(e:Nat->Int):Nat->Int:=fun x=>match x with|13=>b.N|14=>b.X|x=>e x
theorem ahz{b:gC}{e e':Nat->Int}{x:Nat}(h:e' x=e x):lfE b e' x=lfE b e x:=by
 unfold lfE;split
 ·rfl
 ·rfl
 ·exact h
def OU(b:gC)(e:Nat->Int)(p:Nat->Value):Sym:=Hx (lfE b e) (fun x=>if x<200 then p x else[.bool b.cp,.int .i64 b.cN,.int .i64 b.cX,b.rr,b.vv].getD (x-200) b0)
section
variable {K:Nat->Option Obj} {b:gC}
theorem M4(o1:b.rr.oneCell'=true)(o2:b.vv.oneCell'=true){φ:Ren}{e:Nat->Int}{p:Nat->Value}(n2:φ.q=(OU b e p).q):VR φ (.a xq) b.W:=by
 have g:∀x,φ.q x=(OU b e p).q x:=fun x=>agB n2 x
 exact vA (J.cons (vQ (g 200) rfl) (J.cons (vQ (g 201) rfl) (J.cons (vQ (g 202) rfl) (J.cons (vQ (g 203) o1) (J.cons (vQ (g 204) o2) J.nil)))))
theorem HZ(o1:b.rr.oneCell'=true)(o2:b.vv.oneCell'=true){e e':Nat->Int}{p p':Nat->Value}(h:e' 1=e 1):Ag (tq [1] CR) (OU b e p) (OU b e' p'):=⟨⟨h,agm⟩,⟨⟨rfl,rfl⟩,⟨rfl,rfl⟩,⟨rfl,rfl⟩,⟨rfl,o1⟩,⟨rfl,o2⟩,agm⟩,agm,agm⟩
theorem UM{s q:List Nat}{e e':Nat->Int}{p p':Nat->Value}(hs:∀x∈s,x=13\/x=14\/e' x=e x)(hq:∀x∈q,x<200/\p' x=p x/\(p' x).oneCell'=true):Ag (tq s q) (OU b e p) (OU b e' p'):=⟨cH fun x hx=>by
  rcases hs x hx with rfl|rfl|h
  ·rfl
  ·rfl
  ·exact ahz h,cH fun x hx=>by
  obtain⟨h1,h2,h3⟩:=hq x hx;have ep:(OU b e p).q x=p x:=if_pos h1;have ep':(OU b e' p').q x=p' x:=if_pos h1;exact⟨by rw[ep',ep,h2],by rw[ep'];exact h3⟩,agm,agm⟩
theorem EX(ht:tu K)(h:OS K b){per:Int}(hp:eR per)(m:Nat){w:World}(hw:∀r o,K r=some o->w.heap[r]? =some o):
  CallsIn (W none) m Tryz.prog 3 #[b.W,.int .i64 per] w fun e w'=>e=.returned (.bool true)/\Grown w w':=by
 have o1:=h.rin.one;have o2:=h.ON.one;obtain⟨g1,g2⟩:=bI b.cN (N:=300) (by decide);obtain⟨g3,g4⟩:=bI b.cX (N:=500) (by decide);have hN:1<=b.N/\b.N<=300:=by have:b.N=1+ax b.cN 300:=rfl;omega
 have hX:13<=b.X/\b.X<=512:=by have:b.X=13+ax b.cX 500:=rfl;omega
 obtain⟨p1,p2⟩:=bI per (N:=60) (by decide);let n:Int:=4+ax per 60;have hn:4<=n/\n<=63:=by show 4<=4+ax per 60/\4+ax per 60<=63;omega
 let e0:Nat->Int:=fun x=>match x with|1=>per|2=>ax per 60|3=>n|_=>n+1
 let p0:Nat->Value:=fun _=>aF
 let y0:=OU b e0 p0;have bB:=ad.enter (nt:=118) (bc y0 w) rfl rfl (vs:=[.a xq,.y .i64 1]) (args:=[b.W,.int .i64 per]) (J.cons (M4 o1 o2 (e:=e0) (p:=p0) rfl) (J.cons (vY rfl) J.nil)) (by decide);refine dz (fn:=Tryz.f3) (c:=(Tryz.f3.body).getD .skip) (args:=[b.W,.int .i64 per]) Tryz.func3 rfl (bp _ ?_);show aC none m Tryz.prog _ c3 _ _;refine ad.runK (aw ah {} {}) rfl 1 (cs:=c3) apw bB (fU.all rfl hw) (eZ aS eX) rfl y0 ((HZ o1 o2 rfl).au rfl rfl rfl rfl) fun φ a w1 hs hK hd hg n1 n2 n3 n4=> ?_
 show aC none m Tryz.prog _ (c3.drop 1) a w1;obtain⟨id,iJ⟩:∃id,c3.drop 1=.region id o1f false::c3.drop 2:=⟨_,rfl⟩
 rw[iJ];refine gB ?_;refine hs.eV (l:=o1f.toList) (o:=o1f.toList.headD default) (rest:=o1f.toList.drop 1) rfl rfl rfl rfl rfl Tryz.func4 rfl rfl (Vs:=[]) rfl ?_;intro args' ha;have:args'=[]:=by simpa only[J]using ha
 subst this;refine(Tq (m-1) w1).mono ?_;rintro e w2 ⟨v,rfl,rfl,gG⟩;refine⟨_,rfl,?_⟩;have fb:rJ K w1 w2 K:=rJ.refl gG (hs.lJ hK);obtain⟨φ,hs,hK,n1,n2,n3,n4⟩:=hs.mS hK gG fb alU (y:=y0) (OQ (HZ (e:=e0) (p:=p0) o1 o2 rfl) n1 n2 n3 n4);have hs:=hs.put (d:=19) (by decide) (x:=.b true) (v:=.bool true) vB;refine ad.jR (aw ah {} {}) rfl 5 (l:=o1f.toList.drop 1) apx hs hK (eZ aS eX) y0 ((HZ o1 o2 rfl).au n1 n2 n3 n4) fun φ a w3 hs hK gJ ig n1 n2 n3 n4=> ?_
 have G3:=(hg.trans (gG.gb (by have:=hg.size;omega))).trans ig;show aC none m Tryz.prog _ (c3.drop 2) a w3;obtain⟨id,iJ⟩:∃id,c3.drop 2=.region id VA false::c3.drop 3:=⟨_,rfl⟩
 rw[iJ];refine gB ?_;refine ad.jR (aw ah {} {}) rfl 1 (l:=VA.toList) apy hs hK (eZ aS eX) y0 ((HZ o1 o2 rfl).au n1 n2 n3 n4) fun φ a w4 hs hK sS pV n1 n2 n3 n4=> ?_
 refine hs.eV (l:=VA.toList.drop 1) (o:=(VA.toList.drop 1).headD default) (rest:=VA.toList.drop 2) rfl rfl rfl rfl rfl Tryz.func5 rfl rfl (Vs:=[.a xq]) (by show[(U 118 MB).get 20]=_;rw[cA];rfl) ?_;intro args' ha;have:args'=[b.W]:=mQ (φ:=φ) rfl ha (J.cons (M4 o1 o2 n2) J.nil);subst this;refine(KH ht h (m-1) (hs.lJ hK)).mono ?_;rintro e w5 ⟨rs,vs,aM,aK,K1,rfl,anP,aq4,hb,bU,Ig⟩;refine⟨_,rfl,?_⟩;have b1:=hb.o9;have b2:=hb.pU;have gn:0<rs.length:=List.length_pos_iff.2 bU;obtain⟨s,s1,s2,s3,sq⟩:=HY hb bU Ig hN hX;let p5:Nat->Value:=fun x=>match x with|50=>aM|51=>aK|60=>.string s|_=>aF
 let y5:=OU b e0 p5;obtain⟨φ,hs,hK,n1,n2,n3,n4⟩:=hs.mS hK anP aq4 alV (y:=y5) (OQ (HZ (e:=e0) (p:=p0) o1 o2 rfl) n1 n2 n3 n4);have YB:∀{φ:Ren} {x y:Nat} {r v:Value} {e:Nat->Int} {p:Nat->Value},φ.s=(OU b e p).s->φ.q=(OU b e p).q->x<200->y<200->p x=r->r.oneCell'=true->p y=v->v.oneCell'=true->VR φ (.a (lL b.cp x y)) (bW b.cp b.N b.X r v):=fun{φ x y r v e p} f1 f2 hx hy f3 f4 f5 f6=>
  C7 (by rw[f1];rfl) (by rw[f1];rfl) (by rw[f2];exact(if_pos hx).trans f3) f4 (by rw[f2];exact(if_pos hy).trans f5) f6
 have hs:=hs.put (d:=21) (by decide) (x:=.a (Hp b.cp)) (v:=bW b.cp b.N b.X aM aK) (YB n1 n2 (by decide) (by decide) rfl b1 rfl b2);have tt:=dp apz b.cp;simp only[arJ]at tt;obtain⟨t3,tt⟩:=tt;unfold alW at t3;refine ad.jR (aw ah {} {}) rfl 5 (l:=VA.toList.drop 2) t3 hs hK (eZ aS eX) y5 ((UM (fun x hx=>.inr (.inr rfl)) (fun x hx=>by simp only[arH,arF,or_false]at hx;rcases hx with rfl|rfl;exact⟨by decide,rfl,b1⟩;exact⟨by decide,rfl,b2⟩)).au n1 n2 n3 n4) fun φ a w6 hs hK Ao Ap n1 n2 n3 n4=> ?_
 show aC none m Tryz.prog _ (c3.drop 3) a w6;have G4:=G3.trans pV;have G6:=(G4.trans (anP.gb (by have:=G4.size;omega))).trans Ap;let S:=vD b.cp b.N b.X rs vs;let is:=decide ((dH S:Int)+2<=n);let more:=decide ((dH S:Int)+2<=n+1);have tt:=dp (dp tt is) more;simp only[arJ]at tt;obtain⟨⟨⟨t4,t5⟩,ts5⟩,t6⟩:=tt;unfold alX at t4;unfold alY at t5;unfold aay at ts5;unfold alZ at t6;have bK:([.a (Hp b.cp)]:List V).all oY=true:=by simp only[arQ,arU,arR];exact nJ _ _ _
 have dA2:∀{x y z:Nat},([.a (lL b.cp x y),.y .i64 z]:List V).all oY=true:=fun{x y z}=>by
  simp only[arQ,arU,arR,arJ];exact⟨nJ _ _ _,rfl⟩
 have vT:∀{φ:Ren} {t:Bool},VR φ (.t [.b t,.i .i64 0]) (.tuple #[.bool t,.int .i64 0]):=fun{φ t}=>by simp only[VR];exact⟨_,rfl,J.cons vB (J.cons vI J.nil)⟩
 have hF4:aA Tryz.prog (aax b.cp is more) φ:=by
  have iv:∀x,aR φ.y (.y .i64 x)=some (.i64,y5.s x):=fun x=>congrArg (fun z=>some (arI,z)) (agB n1 x)
  have bv:VR φ (.a (Hp b.cp)) (bW b.cp b.N b.X aM aK):=YB n1 n2 (by decide) (by decide) rfl b1 rfl b2;have f1:=KK hb bU Ig hN hX (per:=n) (by omega);have f2:=KK hb bU Ig hN hX (per:=n+1) (by omega);refine⟨agm,⟨.add (x:=4) (y:=ax per 60) rfl (iv 2) (iv 3) (fQ (by show eR n;unfold eR;omega)),.add (x:=n) (y:=1) (iv 3) rfl (iv 4) (fQ (by unfold eR;omega)),agm⟩,agm,agm,agm,agm,agm,agm,
   dy rfl (YK _ hp (N:=60) (by decide)) (J.cons (vY (agB n1 1)) (J.cons vI J.nil)) (vY (agB n1 2)),dy dA2 (f1.mono hK) (J.cons bv (J.cons (vY (agB n1 3)) J.nil)) vT,dy dA2 (f2.mono hK) (J.cons bv (J.cons (vY (agB n1 4)) J.nil)) vT,dy bK (sq.mono hK) (J.cons bv J.nil) ?_,agm⟩
  simp only[VR];exact⟨_,rfl,J.cons (vQ (by rw[n2];rfl) rfl) (J.cons vI J.nil)⟩
 have hQ3:∀{p:Nat->Value},p 50=aM->p 51=aK->p 60=.string s->∀x∈Hq,x<200/\p x=p5 x/\(p x).oneCell'=true:=fun{p} h1 h2 h3 x hx=>by
  simp only[Hq,arH,arF,or_false]at hx;rcases hx with rfl|rfl|rfl
  ·exact⟨by decide,h1,by rw[h1];exact b1⟩
  ·exact⟨by decide,h2,by rw[h2];exact b2⟩
  ·exact⟨by decide,h3,by rw[h3];rfl⟩
 have ag4:Ag (tq Kn Hq) y5 y5:=UM (fun x hx=>.inr (.inr rfl)) (hQ3 rfl rfl rfl);refine ad.runK (aw ah _ _) rfl 4 (cs:=c3.drop 3) t4 hs hK (eZ hF4 eX) (Ao.trans (sS.trans (gJ.trans hd))) y5 (ag4.au n1 n2 n3 n4) fun φ a w7 hs hK hd BE n1 n2 n3 n4=> ?_
 show aC none m Tryz.prog _ (c3.drop 7) a w7;obtain⟨id,iJ⟩:∃id,c3.drop 7=.region id VB false::c3.drop 8:=⟨_,rfl⟩
 rw[iJ];refine gB ?_;refine ad.jR (aw ah {} {}) rfl 1 (l:=VB.toList) t5 hs hK (eZ aS eX) y5 (ag4.au n1 n2 n3 n4) fun φ a w8 hs hK Pd Xn n1 n2 n3 n4=> ?_
 refine hs.eV (l:=VB.toList.drop 1) (o:=(VB.toList.drop 1).headD default) (rest:=VB.toList.drop 2) rfl rfl rfl rfl rfl Tryz.func9 rfl rfl (Vs:=[.i .i64 1,.i .i64 1,.q 60]) (by show[_,_,(U 118 (MD is more)).get 44]=_;rw[cA];rfl) ?_;intro args' ha;have:args'=[.int .i64 1,.int .i64 1,.string s]:=mQ (φ:=φ) rfl ha (J.cons vI (J.cons vI (J.cons (vQ (by rw[n2];rfl) rfl) J.nil)));subst this;refine(ahy s2 s3 (m-1) w8).mono ?_;rintro e w9 ⟨l,len,code,rfl,BZ,⟨la,YL,rfl⟩,YM⟩;refine⟨_,rfl,?_⟩;rw[s1]at YM;have aq5:rJ K1 w8 w9 K1:=rJ.refl BZ (hs.lJ hK);obtain⟨j,hj⟩:∃j,rs.length=j+1:=⟨rs.length-1,by omega⟩
 let g:=decide (1<rs.length);obtain⟨fI,ga,too,kx⟩:∃(fI ga:Value) (too:Bool),fI.oneCell'=true/\ga.oneCell'=true/\(is=true->too=true)/\(g=true->(∃a cap,fI=.slice a j cap)/\(∀w,(arD 27 aM none (some (.int .i64 (j:Nat))) none).run Tryz.prog w=.ok fI w)/\
   (∃a cap,aK=.slice a (cond b.cp (j+1) 0) cap)/\(∀w,(arD 23 aK none (some (.int .i64 ((cond b.cp j 0:Nat):Int))) none).run Tryz.prog w=.ok ga w)/\Quiet Tryz.prog K1 7 [bW b.cp b.N b.X fI ga,.int .i64 n] (· =.tuple #[.bool too,.int .i64 0])):=by
  by_cases h1:1<rs.length
  ·obtain⟨fI,ga,l1,l2,l3,l4,l5⟩:=hb.less hj (by omega)
   have bf:(rs.take j).length=j:=by rw[arG];omega
   have yn:rs.take j≠[]:=fun e=>by rw[e]at bf;simp at bf;omega
   have wo:=KK l1 yn (by omega) hN hX (per:=n) (by omega);have arl:=KL (OT (cp:=b.cp) (N:=b.N) (X:=b.X) (vs:=vs) hj);refine⟨fI,ga,_,l1.o9,l1.pU,fun hi=> ?_,fun _=>⟨l2,l3,l4,l5,wo⟩⟩;have hi:=of_decide_eq_true hi;exact decide_eq_true (by show((dH _:Nat):Int)+2<=n;have:dH S=dH (vD b.cp b.N b.X rs vs):=rfl;omega)
  ·exact⟨aF,aF,true,rfl,rfl,fun _=>rfl,fun hg=>absurd (of_decide_eq_true hg) h1⟩
 obtain⟨r1,r2,aq6,UN⟩:=kx;let e9:Nat->Int:=fun x=>match x with|3=>n|8=>rs.length|9=>cond b.cp (rs.length:Int) 0|10=>j|11=>j|71=>code|72=>len|73=>(len:Int)+2|_=>0
 let p9:Nat->Value:=fun x=>match x with|50=>aM|51=>aK|60=>.string s|52=>fI|53=>ga|_=>.slice la len YL
 let y9:=OU b e9 p9;obtain⟨φ,hs,hK,n1,n2,n3,n4⟩:=hs.mS hK BZ aq5 ts5 (y:=y9) (OQ (UM (e:=e0) (p:=p5) (fun x hx=>by
  simp only[Kn,arH,arF,or_false]at hx;rcases hx with rfl|rfl|rfl
  ·exact .inl rfl
  ·exact .inr (.inl rfl)
  ·exact .inr (.inr rfl)) (hQ3 rfl rfl rfl)) n1 n2 n3 n4)
 have hs:=hs.put (d:=45) (by decide) (x:=.t [.q 70,.y .i64 71]) (v:=.tuple #[.slice la len YL,.int .i64 code]) (by simp only[VR];exact⟨_,rfl,J.cons (vQ (by rw[n2];rfl) rfl) (J.cons (vY (by rw[n1];rfl)) J.nil)⟩);have ag6:Ag (tq (71::Kn) (70::Hq)) y9 y9:=UM (fun x hx=>.inr (.inr rfl)) (fun x hx=>by
  rcases arH.1 hx with rfl|hx
  ·exact⟨by decide,rfl,rfl⟩
  ·have:=hQ3 (p:=p9) rfl rfl rfl x hx
   exact⟨this.1,rfl,this.2.2⟩)
 refine ad.jR (aw ah {} {}) rfl 10 (l:=VB.toList.drop 2) t6 hs hK (eZ aS eX) y9 (ag6.au n1 n2 n3 n4) fun φ a w10 hs hK aq7 aq8 n1 n2 n3 n4=> ?_
 show aC none m Tryz.prog _ (c3.drop 8) a w10;let hh:=decide (code=0);let t2:=decide ((len:Int)+2<=n);have his:is=(hh&&t2):=by
  rcases YM with⟨c1,c2,c3⟩|⟨c1,c2,c3⟩
  ·have:hh=true:=decide_eq_true c2
   rw[this,Bool.true_and];exact decide_eq_decide.2 (by rw[c3])
  ·have:hh=false:=decide_eq_false (by omega)
   rw[this,Bool.false_and];exact decide_eq_false (by show ¬((dH S:Int)+2<=n);have:64<=dH S:=c1;omega)
 have anQ:is=true->more=true:=fun h=>decide_eq_true (by have:=of_decide_eq_true h;omega)
 have ba:TM b.cp g too hh t2 is more=true:=by
  have hu:=dp (dp apA b.cp) g;simp only[arJ]at hu;cases hi:is with
  |true=>
   rw[hi]at his;have hh1:hh=true:=by cases e:hh with|true=>rfl|false=>rw[e]at his;cases his
   have ht1:t2=true:=by cases e:t2 with|true=>rfl|false=>rw[e,hh1]at his;cases his
   rw[hh1,ht1,anQ hi,aq6 hi];exact hu.1
  |false=>
   cases e:hh with
   |true=>
    have ht1:t2=false:=by cases e2:t2 with|false=>rfl|true=>rw[e,e2,hi]at his;cases his
    rw[ht1];exact dp (dp hu.2 too) more
   |false=>exact dp (dp (dp (dp (dp apB b.cp) g) too) t2) more
 unfold TM at ba;obtain⟨ra,EW,jD⟩:=hb.UD;have iv:∀x,aR φ.y (.y .i64 x)=some (.i64,y9.s x):=fun x=>congrArg (fun z=>some (arI,z)) (agB n1 x)
 have aq9:len<=64\/code≠0:=by
  rcases YM with⟨c1,c2,c3⟩|⟨c1,c2,c3⟩
  ·exact .inl (by omega)
  ·exact .inr (by omega)
 have hF7:aA Tryz.prog (aaA b.cp g too hh t2) φ:=by
  have hl:eR ((len:Int)+2):=by
   rcases YM with⟨c1,c2,c3⟩|⟨c1,c2,c3⟩
   ·unfold eR;omega
   ·unfold eR;omega
  refine⟨agm,aO ⟨.gtr (iv 8) rfl (decide_eq_decide.2 (by show(1:Int)<(rs.length:Int)↔_;omega)),.eql (iv 71) rfl (decide_eq_decide.2 Iff.rfl),.add (x:=(len:Int)) (y:=2) (iv 72) rfl (iv 73) (fQ hl),.leq (iv 73) (iv 3) rfl,agm⟩ ?_,?_,agm,agm,agm,agm,agm,?_⟩
  ·cases O8:g with
   |false=>exact agm
   |true=>exact⟨.sub (x:=(rs.length:Int)) (y:=1) (iv 8) rfl ((iv 11).trans (by show some (arI,(j:Int))=_;rw[hj];congr 2;omega)) (fQ (by unfold eR;omega)),agm⟩
  ·cases O8:g with
   |false=>exact agm
   |true=>
    refine⟨⟨.i64,_,_,iv 9,iv 10,?_⟩,agm⟩;cases hc:b.cp with
    |true=>
     rw[cond_true,iv 9];show some (arI,cond b.cp (rs.length:Int) 0)=some (arI,if(j:Int)>cond b.cp (rs.length:Int) 0 then(j:Int)else cond b.cp (rs.length:Int) 0);rw[hc,cond_true,if_neg (by omega)]
    |false=>
     rw[cond_false,iv 10];show some (arI,(j:Int))=some (arI,if(j:Int)>cond b.cp (rs.length:Int) 0 then(j:Int)else cond b.cp (rs.length:Int) 0);have:=of_decide_eq_true O8;rw[hc,cond_false,if_pos (by omega)]
  ·cases O8:g with
   |false=>exact agm
   |true=>
    obtain⟨_,_,_,_,wo⟩:=UN O8;exact⟨dy dA2 (wo.mono hK) (J.cons (YB n1 n2 (by decide) (by decide) rfl r1 rfl r2) (J.cons (vY (agB n1 3)) J.nil)) vT,agm⟩
 have hX7:iZ Tryz.prog (aaB b.cp g) φ:=by
  have q50:φ.q 50=aM:=agB n2 50;have q51:φ.q 51=aK:=agB n2 51;have q52:φ.q 52=fI:=agB n2 52;have q53:φ.q 53=ga:=agB n2 53;have q70:φ.q 70=.slice la len YL:=agB n2 70;refine{on:=aO ⟨⟨ra,rs.length,EW,q50.trans jD,agB n1 8⟩,⟨la,len,YL,q70,agB n1 72⟩,agm⟩ ?_,os:= ?_}
  ·cases O8:g with
   |false=>exact agm
   |true=>
    obtain⟨⟨a1,c1,l2⟩,_,⟨a2,c2,l4⟩,_⟩:=UN O8;refine⟨⟨a2,_,c2,q51.trans l4,(agB n1 9).trans ?_⟩,⟨a1,j,c1,q52.trans l2,agB n1 10⟩,agm⟩;show cond b.cp (rs.length:Int) 0=((cond b.cp (j+1) 0:Nat):Int);rw[hj];cases b.cp<;>rfl
  ·cases O8:g with
   |false=>exact agm
   |true=>
    obtain⟨_,l3,_,l5,_⟩:=UN O8;refine⟨fun af hl vi hv=> ?_,fun af hl vi hv=> ?_,agm⟩
    ·simp only[VR]at hv
     rw[hl.sy,show φ.s 11=(j:Int)from agB n1 11]at hv;subst hv;show(φ.q 52).oneCell'=true/\∀w,(arD 27 (φ.q 50) none (some _) none).run Tryz.prog w=.ok (φ.q 52) w
     rw[q52,q50];exact⟨r1,l3⟩
    ·have yk:vi=.int .i64 ((cond b.cp j 0:Nat):Int):=by
      cases hc:b.cp with
      |true=>
       rw[hc]at hv;simp only[cond_true,VR]at hv;rw[hv,hl.sy];exact congrArg _ (agB n1 10)
      |false=>
       rw[hc]at hv;simp only[cond_false,VR]at hv;rw[hv,hl.sy];refine congrArg _ ((agB n1 9).trans ?_);show cond b.cp (rs.length:Int) 0=_;rw[hc];rfl
     subst yk;show(φ.q 53).oneCell'=true/\∀w,(arD 23 (φ.q 51) none (some _) none).run Tryz.prog w=.ok (φ.q 53) w
     rw[q53,q51];exact⟨r2,l5⟩
 have G10:=((((G6.trans BE).trans Xn).trans (BZ.gb (by have:=G6.size;have:=BE.size;have:=Xn.size;omega))).trans aq8);refine ad.runK (aw ah _ _) rfl 20 (cs:=c3.drop 8) ba hs hK (eZ hF7 hX7) (aq7.trans (Pd.trans hd)) y9 ((UM (s:=[]) (q:=[]) (fun x hx=>by cases hx) (fun x hx=>by cases hx)).au n1 n2 n3 n4) fun φ a w11 hs hK hd ara n1 n2 n3 n4=>⟨.inl rfl,hd,?_⟩
 obtain⟨v,gE,ff⟩:=hs.leave ah (fn:=Tryz.f3) (l:=[.b true]) rfl;have hv:v=.bool true:=Ih (show VR φ (.b true) v from ff);subst hv;exact⟨_,gE,rfl,(G10.trans ara).grown⟩
end
end Go.Ev
namespace Go.Ev
open DataW renaming trod->aop,trodStep->arO
open Instr renaming sliceAt->arD
open List renaming getD_eq_getElem?_getD->arE,not_mem_nil->arF,length_take->arG,mem_cons->arH,getElem?_take->arK,mem_of_mem_take->arL,all_eq_true->AAB,length_map->arN,all_cons->arQ,getElem?_cons_zero->arT,all_nil->arU,getElem?_range->arW,range->arX
open IntKind renaming i64->arI
open Bool renaming and_eq_true->arJ,and_true->arR,and_eq_true_iff->AAC
open Option renaming bind_eq_some_iff->AAA,map_eq_some_iff->arC
open _root_.Array renaming toList_inj->arM,getElem?_eq_some_iff->arP
open World renaming cells?->arS,cell?->arV
section
open Go.ChangeShapes Go.WideShapes Go.Deep
section
variable {H:Type} {enc:TypeId×Value->H} {P:Program} {w w':World} {base:Nat} {sp:Nat->Bool} {held:Bool}
theorem Bu{n:Nat}{a:Addr}{cs:List Value}(h:w.cells? base a (n+1)=some cs):a.spot=none/\a.block<w.heap.size:=by
 unfold arS at h;split at h
 ·rw[List.range_succ_eq_map,List.mapM_cons]at h
  cases h0:w.cell? (a.add 0)with
  |none=>simp[h0]at h
  |some v=>
   have ha:a.add 0=a:=by simp[Addr.add]
   rw[ha]at h0;simp only[arV]at h0;split at h0
   ·rename_i xs t fz hb
    refine⟨?_,(arP.1 hb).1⟩;cases hs:a.spot with
    |none=>rfl
    |some s=>simp[hs]at h0
   ·cases h0
 ·cases h
def ar1(P:Program)(S:TypeId->Bool):TypeDesc->Bool
 |.bool=>true
 |.int _=>true
 |.slice e=>Nat.blt 0 (P.cellsOf e)&&S e
 |.struct fs=>fs.toList.all fun f=>S f.type
 |.array _ e=>S e
 |_=>false
theorem H3{S:TypeId->Bool}{r r':TypeId->List Value->Option (DataW H×List MemPlace)}(hz:∀t d,S t=true->P.underlying t=some d->ar1 P S d=true)(hsp:∀b,b<w.heap.size->sp b=true)(hr:∀t cs x,S t=true->r t cs=some x->r' t cs=some x){t:TypeId}(hS:S t=true){cs:List Value}{x:DataW H×List MemPlace}
  (h:arO enc P w base (fun _=>true) held r t cs=some x):arO enc P w base sp held r' t cs=some x:=by
 unfold arO at h⊢;split at h
 case h_6 e a hu=>cases(show false=true from hz t _ hS hu)
 case h_8 e a len cap hu=>
  have hp:(Nat.blt 0 (P.cellsOf e)&&S e)=true:=hz t _ hS hu;have he0:0<P.cellsOf e:=Nat.le_of_ble_eq_true (AAC.1 hp).1;have hSe:=(AAC.1 hp).2;simp only at h⊢;split at h
  ·rename_i hc
   rw[if_pos hc];simp only[if_true,arC,AAA]at h⊢;obtain⟨elems,he,rest,M5,rfl⟩:=h;have one:∀(i:Nat) (y:DataW H×List MemPlace),(w.cells? base (a.add (i*P.cellsOf e)) (P.cellsOf e)).bind (r e)=some y->(w.cells? base (a.add (i*P.cellsOf e)) (P.cellsOf e)).bind (r' e)=some y:=by
    intro i y hv;simp only[AAA]at hv⊢;obtain⟨Db,nK,hy'⟩:=hv;exact⟨Db,nK,hr _ _ _ hSe hy'⟩
   refine⟨elems,mapM_carry he (fun i y _ _ hv=>one i y hv),rest,?_,rfl⟩;cases hb:sp a.block with
   |true=>rw[if_pos rfl];exact mapM_carry M5 (fun j y _ _ hv=>one (len+j) y hv)
   |false=>
    rw[if_neg (by decide)];cases jD:rest with
    |nil=>rfl
    |cons y ys=>
     exfalso;rw[jD]at M5;have hlen:(y::ys).length=cap-len:=by simpa using mapM_some_length M5
     have h0:=mapM_some_get M5 0 0 (by rw[List.length_cons]at hlen;exact arW (by omega));simp only[arT,AAA]at h0;obtain⟨Db,nK,_⟩:=h0;obtain⟨k,hk⟩:∃k,P.cellsOf e=k+1:=⟨P.cellsOf e-1,by omega⟩
     rw[hk]at nK;have bf:=(Bu nK).2;have:(a.add ((len+0)*(k+1))).block=a.block:=by unfold Addr.add;split<;>rfl
     rw[this]at bf;rw[hsp _ bf]at hb;cases hb
  ·cases h
 case h_9 cs fs hu=>
  have hp:(fs.toList.all fun f=>S f.type)=true:=hz t _ hS hu;split at h
  ·rename_i hc
   rw[if_pos hc];simp only[arC]at h⊢;obtain⟨xs,hx,rfl⟩:=h;exact⟨xs,mapM_carry hx (fun f y hm _ hv=>hr _ _ _ (AAB.1 hp f hm) hv),rfl⟩
  ·cases h
 case h_10 cs n e hu=>
  have hp:S e=true:=hz t _ hS hu;split at h
  ·rename_i hc
   rw[if_pos hc];simp only[arC]at h⊢;obtain⟨xs,hx,rfl⟩:=h;exact⟨xs,mapM_carry hx (fun f y _ _ hv=>hr _ _ _ hp hv),rfl⟩
  ·cases h
 case h_12 hu=>cases(show false=true from hz t _ hS hu)
 case h_14 hu=>cases(show false=true from hz t _ hS hu)
 all_goals first|exact h|(cases h;done)
theorem M6{S:TypeId->Bool}(hz:∀t d,S t=true->P.underlying t=some d->ar1 P S d=true)(hsp:∀b,b<w.heap.size->sp b=true):∀(n:Nat) (t:TypeId) (cs:List Value) (x:DataW H×List MemPlace),S t=true->aop enc P w base (fun _=>true) held n t cs=some x->aop enc P w base sp held n t cs=some x
 |0,t,cs,x,_,h=>by simp[aop]at h
 |n+1,t,cs,x,hS,h=>by
  rw[DataW.trod_step]at h⊢;exact H3 hz hsp (M6 hz hsp n) hS h
theorem KO{S:TypeId->Bool}(hz:∀t d,S t=true->P.underlying t=some d->ar1 P S d=true)(hsp:∀b,b<w.heap.size->sp b=true)(hs:∀r,r<w.heap.size->w'.heap[r]? =w.heap[r]?){t:TypeId}(hS:S t=true){v:Value}{d:DataW H}{ps:List MemPlace}(h:DataW.Trod enc P w base (fun _=>true) held t v d ps):DataW.Trod enc P w' base sp held t v d ps:=by
 obtain⟨n,hn⟩:=h;refine⟨n,DataW.trod_carry n t _ _ (M6 hz hsp n t _ _ hS hn) fun p hp=> ?_⟩;have hb:=DataW.trod_lt n t _ _ hn p hp;cases p with
 |cell b off=>
  show w'.cell? ⟨b,off,none⟩=w.cell? ⟨b,off,none⟩;simp only[arV,hs b hb]
 |map b=>exact hs b hb
end
end
variable{ie:TypeInfo}{m:Nat}
section
open Go.Proofs Go.ChangeShapes Go.WideShapes Go.Deep
set_option maxRecDepth 100000
theorem UO{e:TypeId}{ie:TypeInfo}{de:TypeDesc}(hi:Tryz.prog.info? e=some ie)(hd:Tryz.prog.underlying e=some de)(ha:BG de=true){us:List Value}(hl:us.length=ie.size)(h1:∀u∈us,u.oneCell'=true){w:World}{r o:Nat}
  (hc:∀j u,us[j]? =some u->w.cell? ⟨r,o+j,none⟩=some u):(Instr.loadAt e (.pointer (some ⟨r,o,none⟩))).run Tryz.prog w=.ok (.agg us.toArray) w:=by
 let y:=Hx (fun _=>0) (fun x=>us.getD x b0);let cs:List V:=(arX us.length).map .q;have hv:J (φ0 y w) cs us:=fy rfl fun x u hx=>vQ (by show us.getD x b0=u;rw[arE,hx];rfl) (h1 u (List.mem_of_getElem? hx))
 have lN:cs.length=ie.size:=by simp[cs,hl]
 obtain⟨v,e1,e2⟩:=eE (P:=Tryz.prog) (w:=w) hi hd hv hc (off:=0) (x:=.a cs) (by
  unfold ir;rw[ha,Nat.zero_add,lN];have hb:Nat.ble ie.size ie.size=true:=Nat.ble_eq_true_of_le (Nat.le_refl _);rw[hb];show some (V.a ((cs.drop 0).take ie.size))=_;rw[List.drop_zero,<-lN,List.take_length])
 obtain⟨vs,rfl,iz⟩:=Ff e2;have:vs.toList=us:=ug (φ:=φ0 y w) (AAB.2 fun x hx=>by obtain⟨i,_,rfl⟩:=List.mem_map.1 hx;rfl) iz hv;rw[Nat.add_zero]at e1;rw[e1,<-this]
theorem UP{e:TypeId}{de:TypeDesc}(hi:Tryz.prog.info? e=some ie)(hd:Tryz.prog.underlying e=some de)(ha:BG de=false){u:Value}(h1:u.oneCell'=true){w:World}{r o:Nat}(hc:w.cell? ⟨r,o,none⟩=some u):(Instr.loadAt e (.pointer (some ⟨r,o,none⟩))).run Tryz.prog w=.ok u w:=by
 let y:=Hx (fun _=>0) (fun _=>u);obtain⟨v,e1,e2⟩:=eE (P:=Tryz.prog) (w:=w) (φ:=φ0 y w) hi hd (cs:=[.q 0]) (us:=[u]) (J.cons (vQ rfl h1) J.nil) (r:=r) (o:=o) (fun j v hj=>by
  match j,hj with
  |0,hj=>simp only[arT,Option.some.injEq]at hj;subst hj;exact hc) (off:=0) (x:=.q 0) (by unfold ir;rw[ha];rfl)
 rw[Nat.add_zero]at e1;have e3:v=u:=eQ (x:=.q 0) (φ:=φ0 y w) rfl e2 (vQ rfl h1);rw[e1,e3]
section
variable {H:Type} {enc:TypeId×Value->H} {W:World} {held:Bool}
theorem M7{t e:TypeId}{k:Nat}(ht:Tryz.prog.underlying t=some (.slice e))(hi:Tryz.prog.info? e=some ie)(hc:Tryz.prog.cellsOf e=k+1)(hz:ie.size=k+1){fuel:Nat}{v:Value}{x:DataW H×List MemPlace}(h:aop enc Tryz.prog W 0 (fun _=>true) held fuel t [v]=some x):
  ∃(n m:Nat) (cells:Nat->List Value),(∃a cap,v=.slice a n cap)/\∀i,i<n->(∃y,aop enc Tryz.prog W 0 (fun _=>true) held m e (cells i)=some y)/\∃r o,(∀w,(Instr.indexAt t v (.int .i64 i)).run Tryz.prog w=.ok (.pointer (some ⟨r,o,none⟩)) w)/\
   ∀w:World,(∀(r:Nat) (o:Obj),W.heap[r]? =some o->w.heap[r]? =some o)->∀(j:Nat) (u:Value),(cells i)[j]? =some u->w.cell? ⟨r,o+j,none⟩=some u:=by
 rcases open_slice ht h with⟨e1,_⟩|⟨a,len,cap,m,n,D,Pl,e1,_,Ia,_,hm,_,hel⟩
 ·exact⟨0,0,fun _=>[],⟨none,0,(List.cons.inj e1).1⟩,fun i hi=>by omega⟩
 ·have hv:v=.slice (some a) len cap:=(List.cons.inj e1).1
  subst hv;have hmc:m=cap:=by rw[hm];rfl
  have hch:∀i,i<len->∃Db,W.cells? 0 (a.add (i*Tryz.prog.cellsOf e)) (Tryz.prog.cellsOf e)=some Db/\aop enc Tryz.prog W 0 (fun _=>true) held n e Db=some (D i,Pl i):=fun i hi=>hel i (by omega)
  obtain⟨cells,qp⟩:=choose_lt hch;refine⟨len,n,cells,⟨some a,cap,rfl⟩,fun i hil=> ?_⟩;obtain⟨g1,g2⟩:=qp i hil;rw[hc]at g1;obtain⟨sp,hb⟩:=Bu g1;have ha:∃r o,a.add (i*(k+1))=⟨r,o,none⟩:=by
   cases hx:a.add (i*(k+1))with
   |mk r o q=>
    rw[hx]at sp;exact⟨r,o,by rw[show q=none from sp]⟩
  obtain⟨r,o,vG⟩:=ha;refine⟨⟨_,g2⟩,r,o,fun w=> ?_,fun w hw j u hu=> ?_⟩
  ·have VU:(0:Int)<=(i:Int)/\(i:Int)<(len:Int):=⟨by omega,by omega⟩
   simp only[Instr.indexAt,asIntOf,Sem.run_bind,Sem.run_pure,Result.andThen_ok,run_underlying ht];rw[if_pos VU];simp[run_sizeOf hi,hz,vG]
  ·rw[vG]at g1
   have hj:j<k+1:=by
    have hl:(cells i).length=k+1:=by
     unfold arS at g1;rw[if_pos (Nat.zero_le _)]at g1;simpa using mapM_some_length g1
    have:=(List.getElem?_eq_some_iff.1 hu).1;omega
   unfold arS at g1;rw[if_pos (Nat.zero_le _)]at g1;have:=mapM_some_get g1 j j (arW hj);rw[hu]at this;have e2:(⟨r,o,none⟩:Addr).add j=⟨r,o+j,none⟩:=by unfold Addr.add;split<;>simp_all
   rw[e2]at this;simp only[arV]at this⊢;cases hh:W.heap[r]?with
   |none=>rw[hh]at this;cases this
   |some ob=>rw[hh]at this;rw[hw r ob hh];exact this
theorem gg{n:Nat}{cs:List Value}{x:DataW H×List MemPlace}(h:aop enc Tryz.prog W 0 (fun _=>true) held n 3 cs=some x):∃z,cs=[.int .i64 z]/\eR z:=by
 obtain⟨z,e,_,hw⟩:=DataW.trod_int (ah.ty 3 _ _ rfl).2 h;exact⟨z,e,by simpa[Lit.wf,IntKind.min,IntKind.max,IntKind.signed,IntKind.bits,eR]using hw⟩
theorem C9{t:TypeId}{fs:Array Field}(ht:Tryz.prog.underlying t=some (.struct fs)){n:Nat}{cs:List Value}{x:DataW H×List MemPlace}(h:aop enc Tryz.prog W 0 (fun _=>true) held n t cs=some x):
  cs.length=Tryz.prog.cellsOf t/\∃m,∀(i:Nat) (f:Field),fs[i]? =some f->∃y,aop enc Tryz.prog W 0 (fun _=>true) held m f.type ((cs.drop f.offset).take (Tryz.prog.cellsOf f.type))=some y:=by
 obtain⟨xs,m,_,_,hl,hlen,hf⟩:=DataW.trod_struct ht h;refine⟨hl,m,fun i f hi=> ?_⟩;have:=hf i f hi;have bf:i<xs.length:=by rw[hlen];exact(arP.1 hi).1
 rw[List.getElem?_eq_getElem bf]at this;exact⟨_,this⟩
abbrev WK(W:World):Nat->Option Obj:=fun r=>W.heap[r]?
theorem EY{t e:TypeId}{ie:TypeInfo}{de:TypeDesc}{k:Nat}(ht:Tryz.prog.underlying t=some (.slice e))(hi:Tryz.prog.info? e=some ie)(hd:Tryz.prog.underlying e=some de)(ha:BG de=true)(hc:Tryz.prog.cellsOf e=k+1)(hz:ie.size=k+1){α:Type}[Inhabited α](f:α->List Value)(p:α->Prop)
  (hel:∀m cs y,aop enc Tryz.prog W 0 (fun _=>true) held m e cs=some y->∃a,cs=f a/\cs.length=k+1/\(∀u∈cs,u.oneCell'=true)/\p a){fuel:Nat}{v:Value}{x:DataW H×List MemPlace}(h:aop enc Tryz.prog W 0 (fun _=>true) held fuel t [v]=some x):
  ∃(n:Nat) (g:Nat->α),xw (WK W) t e v n (fun i=>f (g i))/\∀i,i<n->p (g i):=by
 obtain⟨n,m,cells,uO,zR⟩:=M7 ht hi hc hz h;obtain⟨g,hg⟩:=choose_lt (p:=fun i a=>cells i=f a/\(cells i).length=k+1/\(∀u∈cells i,u.oneCell'=true)/\p a) fun i hi=>by
  obtain⟨⟨y,hy⟩,_⟩:=zR i hi;exact hel m _ y hy
 refine⟨n,g,⟨uO,fun i qX=> ?_⟩,fun i qX=>(hg i qX).2.2.2⟩;obtain⟨g1,g2,g3,_⟩:=hg i qX;obtain⟨_,r,o,h1,h2⟩:=zR i qX;refine⟨_,rfl,h1,fun w hw=> ?_⟩;rw[<-g1];exact UO hi hd ha (by rw[g2,hz]) g3 (h2 w hw)
theorem YN{t e:TypeId}{ie:TypeInfo}{de:TypeDesc}(ht:Tryz.prog.underlying t=some (.slice e))(hi:Tryz.prog.info? e=some ie)(hd:Tryz.prog.underlying e=some de)(ha:BG de=false)(hc:Tryz.prog.cellsOf e=0+1)(hz:ie.size=0+1){α:Type}[Inhabited α](f:α->Value)(p:α->Prop)
  (hel:∀m cs y,aop enc Tryz.prog W 0 (fun _=>true) held m e cs=some y->∃a,cs=[f a]/\(f a).oneCell'=true/\p a){fuel:Nat}{v:Value}{x:DataW H×List MemPlace}(h:aop enc Tryz.prog W 0 (fun _=>true) held fuel t [v]=some x):
  ∃(n:Nat) (g:Nat->α),Yv (WK W) t e v n (fun i=>f (g i))/\∀i,i<n->p (g i):=by
 obtain⟨n,m,cells,uO,zR⟩:=M7 ht hi hc hz h;obtain⟨g,hg⟩:=choose_lt (p:=fun i a=>cells i=[f a]/\(f a).oneCell'=true/\p a) fun i hi=>by
  obtain⟨⟨y,hy⟩,_⟩:=zR i hi;exact hel m _ y hy
 refine⟨n,g,⟨uO,fun i qX=> ?_⟩,fun i qX=>(hg i qX).2.2⟩;obtain⟨g1,g2,_⟩:=hg i qX;obtain⟨_,r,o,h1,h2⟩:=zR i qX;exact⟨_,rfl,h1,fun w hw=>UP hi hd ha g2 (by have:=h2 w hw 0 (f (g i)) (by rw[g1];rfl);exact this)⟩
instance:Inhabited ji:=⟨⟨0,0,0,false⟩⟩
theorem OV{cs:List Value}{y:DataW H×List MemPlace}(h:aop enc Tryz.prog W 0 (fun _=>true) held m 146 cs=some y):∃r:ji,cs=r.cells/\cs.length=3+1/\(∀u∈cs,u.oneCell'=true)/\r.OK:=by
 obtain⟨hl,n,hf⟩:=C9 (ah.ty 146 _ _ rfl).2 h;have hl:cs.length=4:=hl
 match cs,hl with
 |[c0,c1,c2,c3],_=>
  obtain⟨_,h0⟩:=hf 0 _ rfl;obtain⟨_,h1⟩:=hf 1 _ rfl;obtain⟨_,h2⟩:=hf 2 _ rfl;obtain⟨_,h3⟩:=hf 3 _ rfl;obtain⟨z0,e0,i0⟩:=gg (cs:=[c0]) h0;obtain⟨z1,e1,i1⟩:=gg (cs:=[c1]) h1;obtain⟨z2,e2,i2⟩:=gg (cs:=[c2]) h2;obtain⟨b,e3,_⟩:=DataW.trod_bool (cs:=[c3]) (ah.ty 4 _ _ rfl).2 h3;cases e0;cases e1;cases e2;cases e3;exact⟨⟨z0,z1,z2,b⟩,rfl,rfl,fun u hu=>by simp only[arH,arF,or_false]at hu;rcases hu with rfl|rfl|rfl|rfl<;>rfl,i0,i1,i2⟩
theorem UQ{cs:List Value}{y:DataW H×List MemPlace}(h:aop enc Tryz.prog W 0 (fun _=>true) held m 116 cs=some y):∃a:Int×Int×Int,cs=[.int .i64 a.1,.int .i64 a.2.1,.int .i64 a.2.2]/\cs.length=2+1/\(∀u∈cs,u.oneCell'=true)/\eR a.1/\eR a.2.1/\eR a.2.2:=by
 obtain⟨xs,n,_,_,hl,hlen,hf⟩:=DataW.trod_array (ah.ty 116 _ _ rfl).2 h;have hl:cs.length=3:=hl
 match cs,hl,xs,hlen with
 |[c0,c1,c2],_,[y0,y1,y2],_=>
  obtain⟨z0,e0,i0⟩:=gg (cs:=[c0]) (hf 0 (by decide));obtain⟨z1,e1,i1⟩:=gg (cs:=[c1]) (hf 1 (by decide));obtain⟨z2,e2,i2⟩:=gg (cs:=[c2]) (hf 2 (by decide));cases e0;cases e1;cases e2;exact⟨⟨z0,z1,z2⟩,rfl,rfl,fun u hu=>by simp only[arH,arF,or_false]at hu;rcases hu with rfl|rfl|rfl<;>rfl,i0,i1,i2⟩
structure RR where
 c:Nat->Int
 aP:Value
 fs:Value
 nv:Nat
 vc:Nat->Nat->Int
 nf:Nat
 fr:Nat->ji
instance:Inhabited RR:=⟨⟨fun _=>0,aF,aF,0,fun _ _=>0,0,fun _=>default⟩⟩
theorem UR{cs:List Value}{y:DataW H×List MemPlace}(h:aop enc Tryz.prog W 0 (fun _=>true) held m 73 cs=some y):∃r:RR,cs=RT r.c r.aP r.fs/\cs.length=14+1/\(∀u∈cs,u.oneCell'=true)/\yx (WK W) r.c r.aP r.nv r.vc r.fs r.nf r.fr:=by
 obtain⟨hl,n,hf⟩:=C9 (ah.ty 73 _ _ rfl).2 h;have hl:cs.length=15:=hl
 match cs,hl with
 |[c0,c1,c2,c3,c4,c5,c6,c7,c8,c9,jC,qL,c12,c13,c14],_=>
  obtain⟨_,h0⟩:=hf 0 _ rfl;obtain⟨_,h1⟩:=hf 1 _ rfl;obtain⟨_,h2⟩:=hf 2 _ rfl;obtain⟨_,h3⟩:=hf 3 _ rfl;obtain⟨_,h4⟩:=hf 4 _ rfl;obtain⟨_,h5⟩:=hf 5 _ rfl;obtain⟨_,h6⟩:=hf 6 _ rfl;obtain⟨z0,e0,i0⟩:=gg (cs:=[c0]) h0;obtain⟨z1,e1,i1⟩:=gg (cs:=[c1]) h1;obtain⟨z2,e2,i2⟩:=gg (cs:=[c2]) h2;obtain⟨z3,e3,i3⟩:=gg (cs:=[c3]) h3;obtain⟨nv,gv,hv,hvi⟩:=EY (v:=c4) (t:=66) (e:=116) (k:=2) (ah.ty 66 _ _ rfl).2 (ah.ty 116 _ _ rfl).1 (ah.ty 116 _ _ rfl).2 rfl rfl rfl (fun a:Int×Int×Int=>[.int .i64 a.1,.int .i64 a.2.1,.int .i64 a.2.2]) (fun a=>eR a.1/\eR a.2.1/\eR a.2.2) (fun m cs y h=>UQ h) h4;obtain⟨_,nc,hfc⟩:=C9 (cs:=[c5,c6]) (ah.ty 69 _ _ rfl).2 h5;obtain⟨_,g0⟩:=hfc 0 _ rfl;obtain⟨_,g1⟩:=hfc 1 _ rfl;obtain⟨z5,e5,i5⟩:=gg (cs:=[c5]) g0;obtain⟨nf,gf,nY,hfi⟩:=EY (v:=c6) (t:=67) (e:=146) (k:=3) (ah.ty 67 _ _ rfl).2 (ah.ty 146 _ _ rfl).1 (ah.ty 146 _ _ rfl).2 rfl rfl rfl ji.cells ji.OK (fun m cs y h=>OV h) g1;obtain⟨_,ng,hfg⟩:=C9 (cs:=[c7,c8,c9,jC,qL,c12,c13,c14]) (ah.ty 71 _ _ rfl).2 h6;obtain⟨_,k0⟩:=hfg 0 _ rfl;obtain⟨_,k1⟩:=hfg 1 _ rfl;obtain⟨_,k2⟩:=hfg 2 _ rfl;obtain⟨_,k3⟩:=hfg 3 _ rfl;obtain⟨_,k4⟩:=hfg 4 _ rfl;obtain⟨_,k5⟩:=hfg 5 _ rfl;obtain⟨_,k6⟩:=hfg 6 _ rfl;obtain⟨x1,f1,j1⟩:=gg (cs:=[c7]) k0;obtain⟨x2,f2,j2⟩:=gg (cs:=[c8]) k1;obtain⟨x3,f3,j3⟩:=gg (cs:=[c9]) k2;obtain⟨x4,f4,j4⟩:=gg (cs:=[jC]) k3;obtain⟨_,nt,hft⟩:=C9 (cs:=[qL,c12]) (ah.ty 56 _ _ rfl).2 k4;obtain⟨_,l0⟩:=hft 0 _ rfl;obtain⟨_,l1⟩:=hft 1 _ rfl;obtain⟨x5,f5,j5⟩:=gg (cs:=[qL]) l0;obtain⟨x6,f6,j6⟩:=gg (cs:=[c12]) l1;obtain⟨x7,f7,j7⟩:=gg (cs:=[c13]) k5;obtain⟨x8,f8,j8⟩:=gg (cs:=[c14]) k6;cases e0;cases e1;cases e2;cases e3;cases e5;cases f1;cases f2;cases f3;cases f4;cases f5;cases f6;cases f7;cases f8;let c:Nat->Int:=fun x=>match x with|20=>z0|21=>z1|22=>z2|23=>z3|25=>z5|1=>x1|2=>x2|3=>x3|4=>x4|5=>x5|6=>x6|7=>x7|8=>x8|_=>0
  have hc:∀i,eR (c i):=fun i=>by
   show eR (match i with|20=>z0|21=>z1|22=>z2|23=>z3|25=>z5|1=>x1|2=>x2|3=>x3|4=>x4|5=>x5|6=>x6|7=>x7|8=>x8|_=>0);split<;>first|assumption|(unfold eR;omega)
  refine⟨⟨c,c4,c6,nv,fun i j=>match j with|0=>(gv i).1|1=>(gv i).2.1|_=>(gv i).2.2,nf,gf⟩,rfl,rfl,fun u hu=> ?_,⟨hc,hv,fun i j hi=> ?_,nY,hfi⟩⟩
  ·have o1:=hv.one
   have o2:=nY.one;simp only[arH,arF,or_false]at hu;rcases hu with rfl|rfl|rfl|rfl|rfl|rfl|rfl|rfl|rfl|rfl|rfl|rfl|rfl|rfl|rfl<;>first|rfl|assumption
  ·obtain⟨a1,a2,a3⟩:=hvi i hi
   show eR (match j with|0=>(gv i).1|1=>(gv i).2.1|_=>(gv i).2.2);split<;>assumption
theorem US{cs:List Value}{y:DataW H×List MemPlace}(h:aop enc Tryz.prog W 0 (fun _=>true) held m 25 cs=some y):∃b:gC,cs=[.bool b.cp,.int .i64 b.cN,.int .i64 b.cX,b.rr,b.vv]/\OS (WK W) b:=by
 obtain⟨hl,n,hf⟩:=C9 (ah.ty 25 _ _ rfl).2 h;have hl:cs.length=5:=hl
 match cs,hl with
 |[c0,c1,c2,c3,c4],_=>
  obtain⟨_,h0⟩:=hf 0 _ rfl;obtain⟨_,h1⟩:=hf 1 _ rfl;obtain⟨_,h2⟩:=hf 2 _ rfl;obtain⟨_,h3⟩:=hf 3 _ rfl;obtain⟨_,h4⟩:=hf 4 _ rfl;obtain⟨b,e0,_⟩:=DataW.trod_bool (cs:=[c0]) (ah.ty 4 _ _ rfl).2 h0;obtain⟨z1,e1,i1⟩:=gg (cs:=[c1]) h1;obtain⟨z2,e2,i2⟩:=gg (cs:=[c2]) h2;obtain⟨nr,g,hr,qP⟩:=EY (v:=c3) (t:=22) (e:=73) (k:=14) (ah.ty 22 _ _ rfl).2 (ah.ty 73 _ _ rfl).1 (ah.ty 73 _ _ rfl).2 rfl rfl rfl (fun r:RR=>RT r.c r.aP r.fs) (fun r=>yx (WK W) r.c r.aP r.nv r.vc r.fs r.nf r.fr) (fun m cs y h=>UR h) h3;obtain⟨nv,gv,hv,hvi⟩:=YN (v:=c4) (t:=23) (e:=3) (ah.ty 23 _ _ rfl).2 (ah.ty 3 _ _ rfl).1 (ah.ty 3 _ _ rfl).2 rfl rfl rfl (fun z:Int=>.int .i64 z) eR (fun m cs y h=>by
   obtain⟨z,e,hz⟩:=gg h;exact⟨z,e,rfl,hz⟩) h4
  cases e0;cases e1;cases e2;exact⟨⟨b,z1,z2,c3,nr,fun i=>(g i).c,fun i=>(g i).aP,fun i=>(g i).fs,fun i=>(g i).nv,fun i=>(g i).vc,fun i=>(g i).nf,fun i=>(g i).fr,c4,nv,gv⟩,rfl,⟨i1,i2,hr,qP,hv,hvi⟩⟩
end
end
end Go.Ev
