/- A part of what LimitFits rests on. -/
import Derived.Test.YtnpajahfimaakaaGreatDoorA22
import Derived.Test.YtnpajahfimaakaaGreatDoorA23
import Derived.Test.YtnpajahfimaakaaGreatDoorA24
import Derived.Test.YtnpajahfimaakaaGreatDoorA25
import Derived.Test.YtnpajahfimaakaaGreatDoorA26
import Derived.Test.YtnpajahfimaakaaGreatDoorA27
import Derived.Test.YtnpajahfimaakaaGreatDoorA28
import Derived.Test.YtnpajahfimaakaaGreatDoorA29
import Derived.Test.YtnpajahfimaakaaGreatDoorA30
import Derived.Test.YtnpajahfimaakaaGreatDoorA08
import Derived.Test.YtnpajahfimaakaaGreatDoorA01
set_option linter.all false
namespace Go.Ev
open List renaming all_eq_true->aop,range->AAA,getD_eq_getElem?_getD->arC,not_mem_nil->arD,replicate->arF,mem_cons->arG,getElem?_eq_getElem->arI,take_of_length_le->arJ,mem_range->arL,mem_cons_of_mem->arM,mem_iff_getElem?->arQ,mem_cons_self->arS
open Bool renaming and_eq_true->arE,not_true->arO,false_or->arP
open Int renaming toNat_of_nonneg->arH
open Nat renaming eq_of_beq_eq_true->arK,le_refl->arN,eq_zero_or_pos->arT
open _root_.Array renaming length_toList->arR,toList_inj->arU
open Go.Proofs
theorem fA{α:Type}{p:α->Bool}{l:List α}(n:Nat)(h1:(l.take n).all p=true)(h2:(l.drop n).all p=true):l.all p=true:=by
 rw[<-List.take_append_drop n l,List.all_append,h1,h2];rfl
theorem aqi{N T:List Nat}(hN:N∈qZ)(hT:T∈oS)(bU:kU N T=false):Ik 2 7 N T=true:=by
 have go:∀{M:List Nat},yZ M (oS.take 2)=true->yZ M ((oS.drop 2).take 2)=true->yZ M (oS.drop 4)=true->kU M T=false->Ik 2 7 M T=true:=fun{M} h1 h2 h3 h=>by
  have:=aop.1 (fA 2 h1 (fA 2 h2 h3)) T hT;rw[h]at this;exact this
 simp only[qZ,aT,arG,arD,or_false]at hN;rcases hN with rfl|rfl|rfl|rfl|rfl|rfl|rfl
 ·exact go agb agc agd bU
 ·exact go age agf agh bU
 ·exact go agi agj agl bU
 ·exact go ago agp agq bU
 ·exact go ags agt agu bU
 ·exact go agv agw agx bU
 ·exact go agy agz agC bU
theorem amH{k r:Nat}{N T:List Nat}(hk:k∈MI)(hr:r<8)(hN:N∈qZ)(hT:T∈oS)(bU:kU N T=false):∃N' T',(N'=N\/N'=d7)/\(T'=T\/T'=vP)/\Pj k r N T=Pj k r N' T'/\Ik k r N' T'=true:=by
 have gN:∀{k r:Nat},XV k r qZ=true->Ik k r N vP=true:=fun h=>aop.1 h N hN
 have gM:∀{k r:Nat},Pk k r oS=true->Ik k r d7 T=true:=fun h=>aop.1 h T hT
 have hc:=amx;simp only[arE]at hc;obtain⟨⟨⟨c1,c2⟩,c3⟩,c4⟩:=hc;simp only[MI,arG,arD,or_false]at hk;have ZO:r=0\/r=1\/r=2\/r=3\/r=4\/r=5\/r=6\/r=7:=by omega
 rcases hk with rfl|rfl
 ·rcases ZO with rfl|rfl|rfl|rfl|rfl|rfl|rfl|rfl
  ·exact⟨d7,vP,.inr rfl,.inr rfl,rfl,c1⟩
  ·exact⟨d7,vP,.inr rfl,.inr rfl,rfl,c2⟩
  ·exact⟨N,vP,.inl rfl,.inr rfl,rfl,gN aaN⟩
  ·exact⟨N,vP,.inl rfl,.inr rfl,rfl,gN amy⟩
  ·exact⟨d7,T,.inr rfl,.inl rfl,rfl,gM (fA 4 afZ af0)⟩
  ·exact⟨N,vP,.inl rfl,.inr rfl,rfl,gN (fA 3 afW (fA 2 afX afY))⟩
  ·exact⟨d7,T,.inr rfl,.inl rfl,rfl,gM (fA 4 af1 af2)⟩
  ·exact⟨N,vP,.inl rfl,.inr rfl,rfl,gN amz⟩
 ·rcases ZO with rfl|rfl|rfl|rfl|rfl|rfl|rfl|rfl
  ·exact⟨d7,vP,.inr rfl,.inr rfl,rfl,c3⟩
  ·exact⟨d7,vP,.inr rfl,.inr rfl,rfl,c4⟩
  ·exact⟨d7,T,.inr rfl,.inl rfl,rfl,gM amA⟩
  ·exact⟨d7,T,.inr rfl,.inl rfl,rfl,gM (fA 4 af5 af6)⟩
  ·exact⟨N,vP,.inl rfl,.inr rfl,rfl,gN (fA 4 af3 af4)⟩
  ·exact⟨d7,T,.inr rfl,.inl rfl,rfl,gM (fA 4 af7 af8)⟩
  ·exact⟨d7,T,.inr rfl,.inl rfl,rfl,gM (fA 4 af9 aga)⟩
  ·exact⟨N,T,.inl rfl,.inl rfl,rfl,aqi hN hT bU⟩
theorem aqj{t:Nat×Nat}(ht:t∈Bf){N:List Nat}(hN:N∈aT):tlO t.1 t.2 N=true:=by
 have go:∀{M:List Nat},exO M=true->tlO t.1 t.2 M=true:=fun h=>aop.1 h t ht
 simp only[aT,arG,arD,or_false]at hN;rcases hN with rfl|rfl|rfl|rfl|rfl|rfl
 ·exact go amB
 ·exact go amC
 ·exact go amD
 ·exact go amE
 ·exact go amF
 ·exact go amG
theorem Ud{x y:List Nat}(h:x≠y):kU x y=false:=by
 cases hs:kU x y with
 |true=>exact absurd (tT hs) h
 |false=>rfl
theorem Bk{K:Nat->Option Obj}{nm enc:ByteArray}{fl:List eO}{fs:Value}(hn:fP nm enc)(hf:dW fl)(lF:FNm fl)(jM:eP K fl fs)(h1:fs.oneCell'=true){p:Int}(hp:eR p){t:Int×Int}(ht:t∈fF):
  ∃e,(∃enc,tr e enc)/\Quiet Tryz.prog K 55 [.int .i64 p,.agg #[.int .i64 t.1,.int .i64 t.2],.agg #[.string nm,fs]] (· =.string e)/\Quiet Tryz.prog K 111 [.string e,.agg #[.string nm,fs],.agg #[.int .i64 t.1,.int .i64 t.2]] (· =.bool true):=by
 have c12:∀{k:Nat},k∈MI->∃e,(∃enc,tr e enc)/\Quiet Tryz.prog K 55 [.int .i64 p,.agg #[.int .i64 k,.int .i64 0],.agg #[.string nm,fs]] (· =.string e)/\Quiet Tryz.prog K 111 [.string e,.agg #[.string nm,fs],.agg #[.int .i64 k,.int .i64 0]] (· =.bool true):=fun{k} hk=>by
  obtain⟨r,N,T,hr,hN,hT,hq⟩:=Uc (nm:=nm) hf lF jM h1 hp hk;have bU:N≠T:=fun e=>by
   rcases hN with rfl|⟨hN,f,f1,f2,f3,_⟩
   ·rcases hT with rfl|⟨hT,_⟩
    ·cases e
    ·subst e;revert hT;decide
   ·rcases hT with rfl|⟨hT,g,g1,g2,g3,_⟩
    ·subst e;revert hN;decide
    ·obtain⟨i,hi⟩:=arQ.1 f1
     obtain⟨j,hj⟩:=arQ.1 g1;have:=hf.once i j f g hi hj (by rw[f2,g2,e]);subst this;rw[hi]at hj;cases hj;rw[f3]at g3;cases g3
  obtain⟨N',T',e1,e2,e3,e4⟩:=amH hk hr (N:=N) (T:=T) (by rcases hN with rfl|⟨hN,_⟩;exact arS;exact arM _ hN) (by rcases hT with rfl|⟨hT,_⟩;exact arS;exact arM _ hT) (Ud bU)
  rw[e3]at hq;exact⟨_,(y7 e4).2,hq,TU hn hf jM h1 e4 (by rcases e1 with rfl|rfl;exact hN;exact .inl rfl) (by rcases e2 with rfl|rfl;exact hT;exact .inl rfl)⟩
 have cO:∀{s:Nat×Nat},s∈Bf->∃e,(∃enc,tr e enc)/\Quiet Tryz.prog K 55 [.int .i64 p,.agg #[.int .i64 s.1,.int .i64 s.2],.agg #[.string nm,fs]] (· =.string e)/\Quiet Tryz.prog K 111 [.string e,.agg #[.string nm,fs],.agg #[.int .i64 s.1,.int .i64 s.2]] (· =.bool true):=fun{s} hs=>by
  obtain⟨e,he,hq⟩:=Ye (nm:=nm) hf lF jM h1 hp hs;have hc:=amx;simp only[arE]at hc;rcases he with rfl|⟨he,hi⟩
  ·refine⟨_,(y7 hc.1.1.1).2,hq,TV h1 ?_⟩
   have:=aqh;simp only[Bf,arG,arD,or_false]at hs;rcases hs with rfl|rfl|rfl|rfl|rfl|rfl
   ·exact aop.1 this (3,0) (by decide)
   ·exact aop.1 this (4,0) (by decide)
   ·exact aop.1 this (5,1) (by decide)
   ·exact aop.1 this (5,2) (by decide)
   ·exact aop.1 this (5,3) (by decide)
   ·exact aop.1 this (5,4) (by decide)
  ·exact⟨_,(y7 (aop.1 aaN e (arM _ he))).2,hq,afQ hn hf jM h1 (aqj hs he) he hi⟩
 simp only[fF,arG,arD,or_false]at ht;rcases ht with rfl|rfl|rfl|rfl|rfl|rfl|rfl|rfl
 ·exact c12 (k:=1) (by decide)
 ·exact c12 (k:=2) (by decide)
 ·exact cO (s:=(3,0)) (by decide)
 ·exact cO (s:=(4,0)) (by decide)
 ·exact cO (s:=(5,1)) (by decide)
 ·exact cO (s:=(5,2)) (by decide)
 ·exact cO (s:=(5,3)) (by decide)
 ·exact cO (s:=(5,4)) (by decide)
variable{K:Nat->Option Obj}{φ:Ren}{B:Nat}{a:Act}
theorem fU.F0{nb:Nat}{HB:List (Nat×aQ)}{fr:Fr}{w:World}(hK:fU K φ)(hs:ad φ B fr (ak nb HB) a w){r:Nat}{c:Array Value}{e:TypeId}(g:w.heap[r]? =some (.cells c e (0,0)))(hn:rG e (lI HB)=true):fU (ve K r (.cells c e (0,0))) φ:=hK.add hs g fun b hb hm=>by
  obtain⟨o,h1,h2⟩:=hs.hr.ew b r hb hm.live;rw[g]at h1;cases h1;rw[aH]at h2 hm;exact sD (HB:=lI HB) (e:=e) hn b _ (pM (ke hm.live) hm) hm.live h2
theorem ad.EM{nt nb:Nat}{L:List (Nat×V)}{HB:List (Nat×aQ)}{w:World}(hs:ad φ B (U nt L) (ak nb HB) a w)(hK:fU K φ){T sz:Nat}{v:Value}{row:List Value}(bQ:RowK K T sz v row)(hn:rG T HB=true){l:List V}(hl:J φ l row){n:Nat}(hlen:n*sz=row.length)(x:Nat)(hq:φ.q x=v):
  ∃af,ad af B (U nt (jG x (.sl (some (nb,0)) n (.un sz)) L)) (ak (nb+1) ((nb,.rc l T)::iO x (.sl (some (nb,0)) n (.un sz)) HB)) a w/\af.y=φ.y/\fU K af/\VR af (.sl (some (nb,0)) n (.un sz)) v:=by
 obtain⟨r,n',cap,c,rfl,h2,h3,h4,h5,h6,h7⟩:=bQ;have hnn:n'=n:=Nat.eq_of_mul_eq_mul_right h2 (h3.trans hlen.symm);subst hnn;have E8:l.length=row.length:=hl.length.symm;have hle:l.length<=c.size:=by rw[E8,<-h3,<-h5];exact Nat.mul_le_mul_right _ h4
 have hp:VR (up φ nb r c.size) (.sl (some (nb,0)) n' (.un sz)) (.slice (some ⟨r,0,none⟩) n' cap):=by
  simp only[VR];exact⟨r,cap,by simp[up],h4,by simp[up,h5],rfl⟩
 exact⟨_,hs.lb (hs.lJ hK _ _ h6) hn x (.sl (some (nb,0)) n' (.un sz)) (.rc l T) (fun h=>h) ⟨c,rfl,by rw[E8,h7];exact hl,hle,rfl⟩ (by rw[hq];exact hp),rfl,hK,hp⟩
def aaO:V:=.sl (some (4,0)) 1 (.un 4)
theorem amI:bH (aI E3 {} {}) 100 o31 ((o31.toList.drop 10).take 20) (U 110 (jG 8 aaO ((19,.a [.q 52,.q 8])::T4))) (ak 5 ((4,.rc T5 93)::iO 8 aaO CW)) T8 110 T6 6 T7=true:=by decide+kernel
theorem gB{n:Nat}{P:Program}{Q:Exit->Act->World->Prop}{id:Nat}{ops:Array Oper}{rest:List Code}{w:World}(h:wpListIn (W none) n P ops (Exit.then (aC none n P Q rest) Q) ops.toList a w):aC none n P Q (.region id ops false::rest) a w:=wpIn_region_list h
theorem agD:∃id,OI.drop 2=.region id o31 false::OI.drop 3:=⟨_,rfl⟩
def EN(c:Nat->Int)(nm:ByteArray)(fs nV xf:Value)(f:eO)(yw:ByteArray)(xy:Value):Sym:=
 {s:=fun x=>match x with|30=>f.nk|31=>f.no|x=>c x,
  q:=fun x=>match x with|26=>.string nm|100=>fs|4=>nV|7=>xf|8=>xy|50=>.string f.t|51=>.bool f.b|_=>.string yw,
  w:=fun _=>[],g:=fun _=>(#[],0),k:=fun _=>none}
def MN(c:Nat->Int):Value:=.agg #[.int .i64 (c 1),.int .i64 (c 2),.int .i64 (c 3),.int .i64 (c 4),.int .i64 (c 5),.int .i64 (c 6),.int .i64 (c 7),.int .i64 (c 8)]
def yb:eO:=⟨cj,cj,0,0,false⟩
theorem Yf{K:Nat->Option Obj}{nm:ByteArray}{fs:Value}(h1:fs.oneCell'=true){c:Nat->Int}(hc:∀i,eR (c i)){m:Nat}{w:World}(hw:∀r o,K r=some o->w.heap[r]? =some o){a0:Act}{Bl:Ren}(bB:ad Bl w.heap.size ⟨110,load Ya 0 .leaf⟩ (ak 0 []) a0 w)(hk0:fU K Bl)(hd0:a0.defers=[])
  (e00:Bl.s=(EN c nm fs aF aF yb cj aF).s/\Bl.q=(EN c nm fs aF aF yb cj aF).q/\Bl.w=(EN c nm fs aF aF yb cj aF).w/\Bl.g=(EN c nm fs aF aF yb cj aF).g){Q:Exit->Act->World->Prop}
  (hQ:∀φ a' w' K3 nV (f:eO),ad φ w.heap.size (U 110 T6) (ak 6 T7) a' w'->fU K3 φ->(∀r o,K r=some o->K3 r=some o)->a'.defers=[]->GB w.heap.size w w'->RowK K3 9 1 nV (dt.map fun x=>.string (bytes x))->(f.nk,f.no)∈fF->
   (∀x,x<=8->φ.s x=c x)->φ.s 30=f.nk->φ.s 31=f.no->φ.q 26=.string nm->φ.q 100=fs->φ.q 4=nV->aC none m Tryz.prog Q (OI.drop 3) a' w'):aC none m Tryz.prog Q OI a0 w:=by
 obtain⟨g1,g2,g3,g4⟩:=e00;have agT:∀{nV xf:Value} {f f':eO} {yw Ue:ByteArray} {xy Uf:Value} {nV' xf':Value},Ag T0 (EN c nm fs nV xf f yw xy) (EN c nm fs nV' xf' f' Ue Uf):=⟨⟨rfl,rfl,rfl,rfl,rfl,rfl,rfl,rfl,agm⟩,⟨⟨rfl,rfl⟩,⟨rfl,h1⟩,agm⟩,agm,agm⟩
 refine ad.runK (aw ah _ _) rfl 2 (cs:=OI) aqe bB hk0 (eZ aS eX) hd0 (EN c nm fs aF aF yb cj aF) (agT.au g1 g2 g3 g4) fun φ a w1 hs hK hd hg n1 n2 n3 n4=> ?_
 show aC none m Tryz.prog _ (OI.drop 2) a w1;have v3:=hs.tv (t:=6) (x:=.sl (some (4,0)) 6 (.kn 6)) rfl;have v3':=v3;simp only[VR]at v3';obtain⟨r4,h4,_,e3⟩:=v3';obtain⟨c4,k4,v4,l4,z4,_⟩:=hs.hr.cx h4 (l:=aaI) (e:=9) (g:=false) rfl;have z4:=z4 rfl;have WH:c4.toList=dt.map fun x=>.string (bytes x):=by
  rw[arJ (by rw[arR,z4];exact arN _)]at v4;exact Bh v4
 obtain⟨nV,Pr⟩:∃nV,nV=a.tmps.getD 6 undef:=⟨_,rfl⟩
 rw[<-Pr]at v3 e3;have Ug:nV.oneCell'=true:=by rw[e3];rfl
 have pJ:w.heap.size<=r4:=hs.loc 4 r4 h4 (by rw[aH];trivial);obtain⟨ay,b9,OH,m1,m2,m3,m4⟩:=hs.xU hK amt (EN c nm fs nV aF yb cj aF) (bC ⟨(agB n1 1).symm,(agB n1 2).symm,(agB n1 3).symm,(agB n1 4).symm,(agB n1 5).symm,(agB n1 6).symm,(agB n1 7).symm,(agB n1 8).symm,agm⟩ ⟨vQ (agB n2 26) rfl,vQ (agB n2 100) h1,v3,agm⟩ trivial trivial);let K1:=ve K r4 (.cells c4 9 (0,0));have Tu:∀r o,K r=some o->K1 r=some o:=Hz hw pJ
 have afR:fU K1 ay:=OH.F0 b9 k4 rfl;have bQ:RowK K1 9 1 nV (dt.map fun x=>.string (bytes x)):=by
  refine⟨r4,6,6,c4,e3,by decide,rfl,arN _,by rw[z4];rfl,fH,?_⟩;rw[<-WH];exact arJ (by rw[WH];exact arN _)
 obtain⟨id,iJ⟩:=agD;rw[iJ];refine gB ?_;have aqk:∀{xf xf':Value} {f f':eO} {yw Ue:ByteArray} {xy Uf:Value},Ag CX (EN c nm fs nV xf f yw xy) (EN c nm fs nV xf' f' Ue Uf):=⟨⟨rfl,rfl,rfl,rfl,rfl,rfl,rfl,rfl,agm⟩,⟨⟨rfl,rfl⟩,⟨rfl,h1⟩,⟨rfl,Ug⟩,agm⟩,agm,agm⟩
 refine ad.jR (aw ah {} {}) rfl 9 aqf b9 afR (eZ aS eX) (EN c nm fs nV aF yb cj aF) (aqk.au m1 m2 m3 m4) fun aV a2 w2 dx Ca mF iK n1 n2 n3 n4=> ?_
 have v5:=dx.tv (t:=17) (x:=.sl (some (4,0)) 1 (.kn 1)) rfl;have v5':=v5;simp only[VR]at v5';obtain⟨r5,h5,_,e5⟩:=v5';obtain⟨c5,k5,u5,l5,z5,_⟩:=dx.hr.cx h5 (l:=[zI,.y .i64 5,.y .i64 6,.b false]) (e:=146) (g:=false) rfl;have z5:=z5 rfl;have hc5:c5.toList=ji.cells ⟨0,c 5,c 6,false⟩:=by
  rw[arJ (by rw[arR,z5];exact arN _)]at u5;exact ug (φ:=aV) rfl u5 (J.cons aL (J.cons (vY (agB n1 5)) (J.cons (vY (agB n1 6)) (J.cons vB J.nil))))
 obtain⟨xf,hxf⟩:∃xf,xf=a2.tmps.getD 17 undef:=⟨_,rfl⟩
 rw[<-hxf]at v5 e5;have agE:xf.oneCell'=true:=by rw[e5];rfl
 have WY:w.heap.size<=r5:=dx.loc 4 r5 h5 (by rw[aH];trivial);obtain⟨eH,ez,X3,m1,m2,m3,m4⟩:=dx.xU Ca amu (EN c nm fs nV xf yb cj aF) (bC ⟨(agB n1 1).symm,(agB n1 2).symm,(agB n1 3).symm,(agB n1 4).symm,(agB n1 5).symm,(agB n1 6).symm,(agB n1 7).symm,(agB n1 8).symm,agm⟩ ⟨vQ (agB n2 26) rfl,vQ (agB n2 100) h1,vQ (agB n2 4) Ug,v5,agm⟩ trivial trivial);let K2:=ve K1 r5 (.cells c5 146 (0,0));have agF:∀r o,K1 r=some o->w2.heap[r]? =some o:=dx.lJ Ca
 have amJ:∀r o,K1 r=some o->K2 r=some o:=fun s o h=>by
  by_cases e:s=r5
  ·subst e
   have:=agF s o h;rw[k5]at this;cases this;exact fH
  ·show(if s=r5 then _ else K1 s)=_
   rw[if_neg e];exact h
 have amK:fU K2 eH:=X3.F0 ez k5 rfl;have Ma:RowK K2 146 4 xf (ji.cells ⟨0,c 5,c 6,false⟩):=by
  refine⟨r5,1,1,c5,e5,by decide,rfl,arN _,by rw[z5];rfl,fH,?_⟩;rw[hc5];rfl
 have qX:xw K2 67 146 xf 1 fun _=>ji.cells ⟨0,c 5,c 6,false⟩:=by
  refine⟨⟨_,_,e5⟩,fun i hi=> ?_⟩;have hi0:i=0:=by omega
  subst hi0;obtain⟨p1,p2⟩:=Ma.idx (t:=67) (e:=146) (ah.ty 67 _ _ rfl).2 (ah.ty 146 _ _ rfl).1 rfl (i:=0) (by simp[ji.cells]);refine⟨_,p1,p2,fun w' hw'=> ?_⟩;obtain⟨u,u1,u2⟩:=Ma.load (t:=146) (ah.ty 146 _ _ rfl).1 (ah.ty 146 _ _ rfl).2 (φ:=eH) (cs:=[zI,.y .i64 5,.y .i64 6,.b false]) (us:=ji.cells ⟨0,c 5,c 6,false⟩) (J.cons aL (J.cons (vY (agB m1 5)) (J.cons (vY (agB m1 6)) (J.cons vB J.nil)))) (o:=0*4) rfl (x:=.a [zI,.y .i64 5,.y .i64 6,.b false]) rfl hw';rw[u1];obtain⟨vs,rfl,iz⟩:=Ff u2;have:vs.toList=ji.cells ⟨0,c 5,c 6,false⟩:=ug (φ:=eH) rfl iz (J.cons aL (J.cons (vY (agB m1 5)) (J.cons (vY (agB m1 6)) (J.cons vB J.nil))));rw[<-this]
 refine ez.eV (l:=o31.toList.drop 9) (o:=(o31.toList.drop 9).headD default) (rest:=o31.toList.drop 10) rfl rfl rfl rfl rfl Tryz.func30 rfl rfl (Vs:=[.a [zI,.q 7]]) rfl ?_;intro args' ha;have:args'=[.agg #[.int .i64 0,xf]]:=mQ (φ:=eH) rfl ha (J.cons (vA (J.cons aL (J.cons (vQ (agB m2 7) agE) J.nil))) J.nil);subst this;have hw3:=ez.lJ amK;refine(tz (K:=K2) (nmI:=0) (by unfold eR;omega) qX (fun i _=>⟨by show eR 0;unfold eR;omega,hc 5,hc 6⟩) (m-1) hw3).mono ?_;rintro e w3 ⟨yw,aru,fl,xy,K3,rfl,gG,fb,_,nY,so,vH,bU,_,hle⟩;refine⟨_,rfl,?_⟩;have bU:=bU (by decide);obtain⟨f,rfl⟩:∃f,fl=[f]:=by
  match fl,bU,hle with
  |[f],_,_=>exact⟨f,rfl⟩
 have amL:RowK K3 93 4 xy f.cells:=by
  rcases so with⟨e,_⟩|⟨_,h⟩
  ·cases e
  ·exact(by simpa using h)
 have agL:∀{f f':eO} {yw Ue:ByteArray} {xy Uf:Value},Ag {CX with q:=[(26,.q 26),(100,.q 100),(4,.q 4),(7,.q 7)]} (EN c nm fs nV xf f yw xy) (EN c nm fs nV xf f' Ue Uf):=⟨⟨rfl,rfl,rfl,rfl,rfl,rfl,rfl,rfl,agm⟩,⟨⟨rfl,rfl⟩,⟨rfl,h1⟩,⟨rfl,Ug⟩,⟨rfl,agE⟩,agm⟩,agm,agm⟩
 obtain⟨jn,ll,hK4,n1,n2,n3,n4⟩:=ez.mS amK gG fb aqg (y:=EN c nm fs nV xf f yw xy) ⟨⟨(agB m1 1).symm,(agB m1 2).symm,(agB m1 3).symm,(agB m1 4).symm,(agB m1 5).symm,(agB m1 6).symm,(agB m1 7).symm,(agB m1 8).symm,agm⟩,⟨⟨(agB m2 26).symm,rfl⟩,⟨(agB m2 100).symm,h1⟩,⟨(agB m2 4).symm,Ug⟩,⟨(agB m2 7).symm,agE⟩,agm⟩,agm,agm⟩;have wE:=ll.put (d:=19) (by decide) (x:=.a [.q 52,.q 8]) (v:=.agg #[.string yw,xy]) (vA (J.cons (vQ (agB n2 52) rfl) (J.cons (vQ (agB n2 8) vH) J.nil)));obtain⟨NT,qT,ZP,hK6,_⟩:=wE.EM hK4 amL (l:=T5) rfl (J.cons (vQ (agB n2 50) rfl) (J.cons (vY (agB n1 30)) (J.cons (vY (agB n1 31)) (J.cons (vQ (agB n2 51) rfl) J.nil)))) (n:=1) rfl 8 (agB n2 8);have aql:Ag T8 (EN c nm fs nV xf f yw xy) (EN c nm fs nV xf f yw xy):=⟨⟨rfl,rfl,rfl,rfl,rfl,rfl,rfl,rfl,rfl,rfl,agm⟩,⟨⟨rfl,rfl⟩,⟨rfl,h1⟩,⟨rfl,Ug⟩,agm⟩,agm,agm⟩;refine ad.jR (aw ah {} {}) rfl 20 amI qT hK6 (eZ aS eX) (EN c nm fs nV xf f yw xy) (aql.au (by rw[ZP];exact n1) (by rw[ZP];exact n2) (by rw[ZP];exact n3) (by rw[ZP];exact n4)) fun Es a7 w7 hs7 hK7 Et BE m1 m2 m3 m4=> ?_
 show aC none m Tryz.prog Q (OI.drop 3) a7 w7;refine hQ Es a7 w7 K3 nV f hs7 hK7 (fun r o h=>fb.sub r o (amJ r o (Tu r o h))) (Et.trans (mF.trans hd)) ((hg.trans iK).trans ((gG.gb dx.bz).trans BE)) ((bQ.mono amJ).mono fb.sub) (nY.ok f (by simp)).typ (fun x hx=> ?_) (agB m1 30) (agB m1 31) (agB m2 26) (agB m2 100) (agB m2 4);rw[m1];rcases(show x=0\/x=1\/x=2\/x=3\/x=4\/x=5\/x=6\/x=7\/x=8 by omega)with rfl|rfl|rfl|rfl|rfl|rfl|rfl|rfl|rfl<;>rfl
variable{c:Nat->Int}
theorem amM:aW T8 110 T6 6 T7=true:=by decide+kernel
theorem yc{r:Nat}(h:r<6):∃nm∈dt,dt[r]? =some nm:=by
 have:dt[r]? =some (dt[r]'h):=arI (l:=dt) h;exact⟨_,List.getElem_mem _,this⟩
theorem MO(n j k:Nat):oY (.a (cgW n j k))=true:=by
 have hF:iY (cond (CS k) (Bj n j) (.s []))=true:=by cases CS k<;>cases n<;>rfl
 have hq:∀(b:Bool) (x:Nat),iY (cond b (.q x) (.s []))=true:=fun b x=>by cases b<;>rfl
 have hi:∀(b:Bool) (x:Nat),iY (cond b (.y .i64 x) zI)=true:=fun b x=>by cases b<;>rfl
 simp only[cgW,oY,List.all_cons,List.all_nil,hF,hq,hi,Bool.and_true,Bool.and_self];rfl
theorem EO(n:Nat):Ks (.a [.q 26,Yc n]):=fun φ a b ha hb=>by
 obtain⟨v1,rfl,h1⟩:=Ff ha;obtain⟨v2,rfl,h2⟩:=Ff hb;simp only[J]at h1 h2;obtain⟨x,_,e1,hx,y,_,rfl,hy,rfl⟩:=h1;obtain⟨x',_,e2,iT,y',_,rfl,hy',rfl⟩:=h2;have:=eQ (x:=.q 26) rfl hx iT;subst this;have:y=y':=by
  cases n with
  |zero=>exact eQ (x:=.q 100) rfl hy hy'
  |succ k=>
   simp only[Yc,VR]at hy hy';obtain⟨r,c,h1,h2,h3,rfl⟩:=hy;obtain⟨r',c',g1,g2,g3,rfl⟩:=hy';rw[h1]at g1;cases g1;rw[show c=c' by omega]
 subst this;rw[arU.1 (e1.trans e2.symm)]
structure CgT(φ:Ren)(c:Nat->Int)(cls:Value)(nV:Value)(n j:Nat)(d:xu)(ok:Bool):Prop where
 s:∀x,x<=8->φ.s x=c x
 t1:φ.s 30=d.t1
 t2:φ.s 31=d.t2
 s60:n=0->φ.s 60=0
 s61:φ.s 61=ax (c 3) 6
 s62:φ.s 62=ax (c 4) 6
 q4:φ.q 4=nV
 q5:φ.q 5=bE nV ((ax (c 3) 6).toNat*1)
 q6:φ.q 6=bE nV ((ax (c 4) 6).toNat*1)
 OE:φ.q 31=.string d.nm
 OG:φ.q 32=.string d.mo
 Pp:φ.q 33=.string d.ex
 Pq:φ.q 34=.string d.ot
 q40:φ.q 40=.bool ok
 u9:VR φ (cond (CS d.k) (Bj n j) (.s [])) (.string (cond (CS d.k) d.u9 cj))
 fq:n≠0->(φ.q (20+j)).oneCell'=true
 cls:VR φ (.a [.q 26,Yc n]) cls
 on:∃a n cap,φ.q 100=.slice a n cap/\φ.s 60=(n:Int)
theorem Uh{n j:Nat}{d:xu}(t1:φ.s 30=d.t1)(t2:φ.s 31=d.t2)(OE:φ.q 31=.string d.nm)(OG:φ.q 32=.string d.mo)(Pp:φ.q 33=.string d.ex)(Pq:φ.q 34=.string d.ot)(u9:VR φ (cond (CS d.k) (Bj n j) (.s [])) (.string (cond (CS d.k) d.u9 cj))):J φ (cgW n j d.k) d.cells:=by
 have cs:∀(b:Bool) {x:Nat} {t:ByteArray},φ.q x=.string t->VR φ (cond b (.q x) (.s [])) (.string (cond b t cj)):=fun b {x t} h=>by
  cases b
  ·exact aD
  ·exact vQ h rfl
 have ci:∀(b:Bool) {x:Nat} {n:Int},φ.s x=n->VR φ (cond b (.y .i64 x) zI) (.int .i64 (cond b n 0)):=fun b {x n} h=>by
  cases b
  ·exact aL
  ·exact vY h
 exact J.cons vI (J.cons u9 (J.cons (cs _ OE) (J.cons (cs _ OG) (J.cons (ci _ t1) (J.cons (ci _ t2) (J.cons (cs _ Pp) (J.cons (cs _ Pq) J.nil)))))))
theorem amN{cls nV:Value}{n j:Nat}{d:xu}{ok:Bool}(h:CgT φ c cls nV n j d ok):J φ (cgW n j d.k) d.cells:=Uh h.t1 h.t2 h.OE h.OG h.Pp h.Pq h.u9
theorem Yg{K:Nat->Option Obj}{φ:Ren}{c:Nat->Int}{cls nV:Value}{n j:Nat}{d:xu}{ok:Bool}(h:CgT φ c cls nV n j d ok)(hc:∀i,eR (c i))(hK:fU K φ)(bQ:RowK K 9 1 nV (dt.map fun x=>.string (bytes x)))
  (hk:ax (c 1) 6=(d.k-1:Nat))(hj:n≠0->ax (c 2) n=j)(hn6:n<=6)(oV:dt[(ax (c 3) 6).toNat]?.map bytes=some d.nm)(hmo:dt[(ax (c 4) 6).toNat]?.map bytes=some d.mo)
  (he1:Quiet Tryz.prog K 55 [.int .i64 (c 7),.agg #[.int .i64 d.t1,.int .i64 d.t2],cls] (· =.string d.ex))(he2:Quiet Tryz.prog K 55 [.int .i64 (c 8),.agg #[.int .i64 d.t1,.int .i64 d.t2],cls] (· =.string d.ot))
  (hr:Quiet Tryz.prog K 56 [cls,.agg d.cells.toArray] (· =.bool ok))(ba:cgR n j d.k=true)
  {B m:Nat}{a:Act}{w:World}(hs:ad φ B (U 110 (cgL n)) (ak (afT n) (afS n)) a w)(hd:a.defers=[]){Q:Exit->Act->World->Prop}
  (hQ:∀a' w',a'.defers=[]->GB B w w'->(results Tryz.f31 a'.tmps).run Tryz.prog w'=.ok (.tuple #[.agg d.cells.toArray,.bool ok]) w'->Q .ret a' w'):aC none m Tryz.prog Q (OI.drop 3) a w:=by
 obtain⟨a1,a2⟩:=bI (c 3) (N:=6) (by decide);obtain⟨b1,b2⟩:=bI (c 4) (N:=6) (by decide);have e61:φ.s 61=((ax (c 3) 6).toNat:Int):=by rw[h.s61,arH a1]
 have e62:φ.s 62=((ax (c 4) 6).toNat:Int):=by rw[h.s62,arH b1]
 have idx:∀{r:Nat},r<6->(bE nV (r*1)).oneCell'=true/\∀w,(Instr.indexAt 76 nV (.int .i64 r)).run Tryz.prog w=.ok (bE nV (r*1)) w:=fun{r} hr=>
  bQ.idx (t:=76) (e:=9) (ah.ty 76 _ _ rfl).2 (ah.ty 9 _ _ rfl).1 rfl (i:=r) (by simp[dt];omega)
 have ld:∀{r:Nat} {s:ByteArray} {x:Nat},dt[r]?.map bytes=some s->φ.q x=.string s->∀w:World,(∀r o,φ.y.k r=some o->w.heap[r]? =some o)->∃u,(Instr.loadAt 9 (bE nV (r*1))).run Tryz.prog w=.ok u w/\VR φ (.q x) u:=fun{r s x} hr hx w hw=>by
  refine bQ.load (t:=9) (ah.ty 9 _ _ rfl).1 (ah.ty 9 _ _ rfl).2 (φ:=φ) (cs:=[.q x]) (us:=[.string s]) (J.cons (vQ hx rfl) J.nil) (o:=r*1) ?_ (x:=.q x) rfl (w:=w) fun r o e=>hw r o (hK r o e)
  have bf:r<dt.length:=by
   rcases Nat.lt_or_ge r dt.length with h|h
   ·exact h
   ·rw[List.getElem?_eq_none h]at hr;cases hr
  rw[Nat.mul_one,List.drop_eq_getElem_cons (by simpa using bf)];have:bytes dt[r]=s:=by rw[arI bf]at hr;exact Option.some.inj hr
  simp[this]
 have hF:aA Tryz.prog (cgF n j d.k) φ:=by
  have p6:∀{x:Int} (hx:eR x),Quiet Tryz.prog φ.y.k 54 [.int .i64 x,.int .i64 6] (· =.int .i64 (ax x 6)):=fun hx=>qo φ.y.k hx (N:=6) (by decide)
  refine⟨agm,?_,agm,agm,agm,agm,agm,agm,aO ⟨?_,?_,?_,?_,?_,?_,agm⟩ ?_⟩
  ·cases n with
   |zero=>exact⟨.gtr (k:=.i64) (x:=0) (y:=0) (congrArg (fun z=>some (IntKind.i64,z)) (h.s60 rfl)) rfl rfl,agm⟩
   |succ n=>exact agm
  ·have:=p6 (hc 1)
   rw[hk]at this;exact dy rfl this (J.cons (vY (h.s 1 (by decide))) (J.cons vI J.nil)) vI
  ·exact dy rfl (p6 (hc 3)) (J.cons (vY (h.s 3 (by decide))) (J.cons vI J.nil)) (vY h.s61)
  ·exact dy rfl (p6 (hc 4)) (J.cons (vY (h.s 4 (by decide))) (J.cons vI J.nil)) (vY h.s62)
  ·exact ML (dL (dA rfl) (dL (dA rfl) (dL (EO n) tw))) (he1.mono hK) (J.cons (vY (h.s 7 (by decide))) (J.cons (vA (J.cons (vY h.t1) (J.cons (vY h.t2) J.nil))) (J.cons h.cls J.nil))) (vQ h.Pp rfl)
  ·exact ML (dL (dA rfl) (dL (dA rfl) (dL (EO n) tw))) (he2.mono hK) (J.cons (vY (h.s 8 (by decide))) (J.cons (vA (J.cons (vY h.t1) (J.cons (vY h.t2) J.nil))) (J.cons h.cls J.nil))) (vQ h.Pq rfl)
  ·exact ML (dL (EO n) (dL (dA (MO n j d.k)) tw)) (hr.mono hK) (J.cons h.cls (J.cons (vA (amN h)) J.nil)) (vQ h.q40 rfl)
  ·cases n with
   |zero=>exact agm
   |succ n=>
    have:=qo φ.y.k (hc 2) (N:=n+1) (by omega);rw[hj (by omega)]at this;exact⟨dy rfl this (J.cons (vY (h.s 2 (by decide))) (J.cons vI J.nil)) vI,agm⟩
 have hX:iZ Tryz.prog cgX φ:=by
  refine{on:=⟨h.on,agm⟩,oi:=⟨fun af hl vi hv=> ?_,fun af hl vi hv=> ?_,agm⟩,ol:=⟨fun w hw=> ?_,fun w hw=> ?_,agm⟩}
  ·simp only[VR]at hv
   rw[hl.sy,e61]at hv;subst hv;rw[h.q5,h.q4];exact idx (by omega)
  ·simp only[VR]at hv
   rw[hl.sy,e62]at hv;subst hv;rw[h.q6,h.q4];exact idx (by omega)
  ·rw[h.q5];exact ld oV h.OE w hw
  ·rw[h.q6];exact ld hmo h.OG w hw
 unfold cgR at ba;have one:∀{x:Nat} {v:Value},φ.q x=v->v.oneCell'=true->(φ.q x).oneCell'=true:=fun e h=>by rw[e];exact h
 refine ad.runK (aw ah _ _) rfl 20 (cs:=OI.drop 3) ba hs hK (eZ hF hX) hd φ.y (Ag.au (o:=φ.y) ⟨⟨rfl,rfl,agm⟩,aO ⟨⟨rfl,one h.OE rfl⟩,⟨rfl,one h.OG rfl⟩,⟨rfl,one h.Pp rfl⟩,⟨rfl,one h.Pq rfl⟩,⟨rfl,one h.q40 rfl⟩,agm⟩ ?_,agm,agm⟩ rfl rfl rfl rfl) fun af a3 w3 ez X3 gJ ig n1 n2 n3 n4=> ?_
 ·cases n with
  |zero=>exact agm
  |succ n=>exact⟨⟨rfl,h.fq (by omega)⟩,agm⟩
 ·refine hQ a3 w3 gJ ig ?_
  obtain⟨v,gE,ff⟩:=ez.leave ah (fn:=Tryz.f31) (l:=[.a (cgW n j d.k),.q 40]) rfl;have aqm:VR af (cond (CS d.k) (Bj n j) (.s [])) (.string (cond (CS d.k) d.u9 cj)):=by
   have hf:=h.u9;cases hh:CS d.k with
   |false=>exact aD
   |true=>
    rw[hh]at hf;cases n with
    |zero=>simp only[cond_true,Bj,VR]at hf⊢;exact hf
    |succ n=>
     simp only[cond_true,Bj,VR]at hf⊢;rw[n2];exact hf
  have hcg:=Uh (n:=n) (j:=j) ((agB n1 30).trans h.t1) ((agB n1 31).trans h.t2) ((agB n2 31).trans h.OE) ((agB n2 32).trans h.OG) ((agB n2 33).trans h.Pp) ((agB n2 34).trans h.Pq) aqm;have hv:VR af (.t [.a (cgW n j d.k),.q 40]) v:=ff;simp only[VR]at hv;obtain⟨vs,rfl,iz⟩:=hv;have:vs.toList=[.agg d.cells.toArray,.bool ok]:=dL (dA (MO n j d.k)) (dL (dA (x:=.q 40) rfl) tw) af _ _ iz (J.cons (vA hcg) (J.cons (vQ ((agB n2 40).trans h.q40) rfl) J.nil));have e:vs=#[.agg d.cells.toArray,.bool ok]:=arU.1 (this.trans rfl);subst e;exact gE
def cgZ(c:Nat->Int)(nm:ByteArray)(fs nV:Value)(fl:List eO)(d:xu)(ok:Bool)(p1 p2:Value):Sym:=
 {s:=fun x=>if x<9 then c x else if x<16 then(fl.getD (x-10) yb).nk else if x<22 then(fl.getD (x-16) yb).no else match x with|30=>d.t1|31=>d.t2|60=>fl.length|61=>ax (c 3) 6|_=>ax (c 4) 6,
  q:=fun x=>if x<20 then(match x with|4=>nV|5=>p1|_=>p2)else if x<26 then .string (fl.getD (x-20) yb).t else if x<130 then(match x with|26=>.string nm|31=>.string d.nm|32=>.string d.mo|33=>.string d.ex|34=>.string d.ot|40=>.bool ok|_=>fs)else .bool (fl.getD (x-130) yb).b,
  w:=fun _=>[],g:=fun _=>(#[],0),k:=fun _=>none}
section
variable {c:Nat->Int} {nm:ByteArray} {fs nV p1 p2:Value} {fl:List eO} {d:xu} {ok:Bool} {j:Nat}
theorem amO(h:j<6):(cgZ c nm fs nV fl d ok p1 p2).s (10+j)=(fl.getD j yb).nk:=by
 show(if 10+j<9 then _ else if 10+j<16 then(fl.getD (10+j-10) yb).nk else _)=_;rw[if_neg (by omega),if_pos (by omega),show 10+j-10=j by omega]
theorem amP(h:j<6):(cgZ c nm fs nV fl d ok p1 p2).s (16+j)=(fl.getD j yb).no:=by
 show(if 16+j<9 then _ else if 16+j<16 then _ else if 16+j<22 then(fl.getD (16+j-16) yb).no else _)=_;rw[if_neg (by omega),if_neg (by omega),if_pos (by omega),show 16+j-16=j by omega]
theorem Ui(h:j<6):(cgZ c nm fs nV fl d ok p1 p2).q (20+j)=.string (fl.getD j yb).t:=by
 show(if 20+j<20 then _ else if 20+j<26 then Value.string (fl.getD (20+j-20) yb).t else _)=_;rw[if_neg (by omega),if_pos (by omega),show 20+j-20=j by omega]
theorem amQ:(cgZ c nm fs nV fl d ok p1 p2).q (130+j)=.bool (fl.getD j yb).b:=by
 show(if 130+j<20 then _ else if 130+j<26 then _ else if 130+j<130 then _ else Value.bool (fl.getD (130+j-130) yb).b)=_;rw[if_neg (by omega),if_neg (by omega),if_neg (by omega),show 130+j-130=j by omega]
end
theorem eP.len{K:Nat->Option Obj}{fl:List eO}{fs:Value}(h:eP K fl fs):∃a cap,fs=.slice a fl.length cap:=by
 rcases h with⟨rfl,rfl⟩|⟨_,r,n,cap,c,rfl,h2,h3,_⟩
 ·exact⟨_,_,rfl⟩
 ·rw[qm]at h3
  exact⟨_,cap,by rw[show n=fl.length by omega]⟩
theorem HJ{K:Nat->Option Obj}{nm enc:ByteArray}{fl:List eO}{fs:Value}(hn:fP nm enc)(hf:dW fl)(lF:FNm fl)(jM:eP K fl fs)(h1:fs.oneCell'=true){c:Nat->Int}(hc:∀i,eR (c i))(m:Nat){w:World}(hw:∀r o,K r=some o->w.heap[r]? =some o):
  CallsIn (W none) m Tryz.prog 31 #[MN c,.agg #[.string nm,fs]] w fun e w'=>∃(d:xu) (ok:Bool),e=.returned (.tuple #[.agg d.cells.toArray,.bool ok])/\Grown w w'/\(ok=true->d.OK):=by
 let y0:=EN c nm fs aF aF yb cj aF;have cG:J (φ0 y0 w) Ya [MN c,.agg #[.string nm,fs]]:=
  J.cons (vA (J.cons (vY rfl) (J.cons (vY rfl) (J.cons (vY rfl) (J.cons (vY rfl) (J.cons (vY rfl) (J.cons (vY rfl) (J.cons (vY rfl) (J.cons (vY rfl) J.nil))))))))) (J.cons (vA (J.cons (vQ rfl rfl) (J.cons (vQ rfl h1) J.nil))) J.nil)
 have bB:=ad.enter (nt:=110) (bc y0 w) rfl rfl (vs:=Ya) cG (by decide);refine dz (fn:=Tryz.f31) (c:=(Tryz.f31.body).getD .skip) (args:=[MN c,.agg #[.string nm,fs]]) Tryz.func31 rfl (bp _ ?_);show aC none m Tryz.prog _ OI _ _;refine Yf h1 hc hw bB (fU.all rfl hw) rfl ⟨rfl,rfl,rfl,rfl⟩ fun φ a w1 K3 nV f hs hK sK hd hg bQ XX sC s30 s31 q26 afm q4=> ?_
 have Kw:=jM.mono sK;have h6:=hf.len;obtain⟨a1,a2⟩:=bI (c 1) (N:=6) (by decide);obtain⟨r,hr⟩:∃r:Nat,ax (c 1) 6=r:=⟨_,(arH a1).symm⟩
 have JD:r<6:=by omega
 obtain⟨b1,b2⟩:=bI (c 3) (N:=6) (by decide);obtain⟨d1,d2⟩:=bI (c 4) (N:=6) (by decide);obtain⟨x3,h3,e3⟩:=yc (r:=(ax (c 3) 6).toNat) (by omega);obtain⟨x4,h4,e4⟩:=yc (r:=(ax (c 4) 6).toNat) (by omega);have n3:=qO (aop.1 aab x3 h3);have n4:=qO (aop.1 aab x4 h4);obtain⟨ex,hex,e55,aqn⟩:=Bk hn hf lF Kw h1 (hc 7) XX;obtain⟨ot,hot,o55,aqo⟩:=Bk hn hf lF Kw h1 (hc 8) XX;have Kx:=(uU hn hf Kw).2;obtain⟨j,hj,Zy⟩:∃j:Nat,(fl.length≠0->ax (c 2) fl.length=j)/\(fl.length≠0->j<fl.length):=by
  by_cases h0:fl.length=0
  ·exact⟨0,fun h=>absurd h0 h,fun h=>absurd h0 h⟩
  ·obtain⟨g1,g2⟩:=bI (c 2) (N:=fl.length) (by omega)
   exact⟨(ax (c 2) fl.length).toNat,fun _=>(arH g1).symm,fun _=>by omega⟩
 obtain⟨d,xN⟩:∃d:xu,d=⟨r+1,if fl.length=0 then(if r=0 then bytes x3 else cj)else(fl.getD j yb).t,bytes x3,bytes x4,f.nk,f.no,ex,ot⟩:=⟨_,rfl⟩
 have ek:d.k=r+1:=by rw[xN]
 have hdk:d.k∈[1,2,3,4,5,6]:=by
  rw[ek];rcases(show r=0\/r=1\/r=2\/r=3\/r=4\/r=5 by omega)with rfl|rfl|rfl|rfl|rfl|rfl<;>decide
 have dOK:¬(fl.length=0/\r≠0)->d.OK:=fun h=>by
  refine⟨hdk,?_,by rw[xN];exact n3,by rw[xN];exact n4,by rw[xN];exact XX,by rw[xN];exact hex,by rw[xN];exact hot⟩;rw[xN];show∃e,fP (if fl.length=0 then(if r=0 then bytes x3 else cj)else(fl.getD j yb).t) e
  by_cases h0:fl.length=0
  ·rw[if_pos h0,if_pos (by by_cases Fa:r=0;exact Fa;exact absurd ⟨h0,Fa⟩ h)];exact n3
  ·rw[if_neg h0]
   have bf:=Zy h0;rw[arC,arI bf];exact⟨_,(hf.ok _ (List.getElem_mem bf)).name⟩
 obtain⟨ok,hrq,jQ⟩:∃ok:Bool,Quiet Tryz.prog K3 56 [.agg #[.string nm,fs],.agg d.cells.toArray] (· =.bool ok)/\(ok=true->d.OK):=by
  by_cases h0:fl.length=0/\r≠0
  ·have nY:fl=[]:=List.length_eq_zero_iff.1 h0.1
   have aqp:fs=aF:=by
    rcases Kw with⟨_,h⟩|⟨h,_⟩
    ·exact h
    ·exact absurd nY h
   rw[aqp]at Kx⊢;exact⟨false,T9 hdk (by rw[ek];omega) (by rw[xN];show(if fl.length=0 then(if r=0 then bytes x3 else cj)else _)=_;rw[if_pos h0.1,if_neg h0.2]) Kx,fun e=>by cases e⟩
  ·have cy:=dOK h0
   obtain⟨b,hb⟩:=Yd hf Kw h1 cy ⟨Kx,by rw[xN];exact aqn,by rw[xN];exact aqo,TV h1 amn⟩;exact⟨b,hb,fun _=>cy⟩
 let p1:=bE nV ((ax (c 3) 6).toNat*1);let p2:=bE nV ((ax (c 4) 6).toNat*1);let y:=cgZ c nm fs nV fl d ok p1 p2;have dt1:d.t1=f.nk:=by rw[xN]
 have dt2:d.t2=f.no:=by rw[xN]
 obtain⟨ay,b9,OH,m1,m2,m3,m4⟩:=hs.sG hK amM (y:=y) ⟨⟨(sC 1 (by decide)).symm,(sC 2 (by decide)).symm,(sC 3 (by decide)).symm,(sC 4 (by decide)).symm,(sC 5 (by decide)).symm,(sC 6 (by decide)).symm,(sC 7 (by decide)).symm,(sC 8 (by decide)).symm,dt1.trans s30.symm,dt2.trans s31.symm,agm⟩,⟨⟨q26.symm,rfl⟩,⟨afm.symm,h1⟩,⟨q4.symm,bQ.one⟩,agm⟩,agm,agm⟩;obtain⟨aV,dx,Ca,kq,hcv⟩:∃aV,ad aV w.heap.size (U 110 (cgL fl.length)) (ak (afT fl.length) (afS fl.length)) a w1/\fU K3 aV/\aV.y=ay.y/\VR aV (Yc fl.length) fs:=by
  rcases Kw with⟨rfl,rfl⟩|⟨e1,hrw⟩
  ·exact⟨ay,b9,OH,rfl,vQ (agB m2 100) rfl⟩
  ·have gn:0<fl.length:=List.length_pos_iff.2 e1
   obtain⟨k,hk⟩:∃k,fl.length=k+1:=⟨fl.length-1,by omega⟩
   have jD:J ay (Fc fl.length) (fl.flatMap eO.cells):=by
    rw[Fc,List.range_eq_range'];refine ia fl 0 fun i g hi=> ?_
    have bf:i<fl.length:=(List.getElem?_eq_some_iff.1 hi).1;have tQ:fl.getD i yb=g:=by rw[arC,hi];rfl
    rw[Nat.zero_add];have t1:ay.q (20+i)=.string g.t:=by rw[m2];exact(Ui (by omega)).trans (by rw[tQ])
    have t2:ay.s (10+i)=g.nk:=by rw[m1];exact(amO (by omega)).trans (by rw[tQ])
    have t3:ay.s (16+i)=g.no:=by rw[m1];exact(amP (by omega)).trans (by rw[tQ])
    have t4:ay.q (130+i)=.bool g.b:=by rw[m2];exact amQ.trans (by rw[tQ])
    exact J.cons (vQ t1 rfl) (J.cons (vY t2) (J.cons (vY t3) (J.cons (vQ t4 rfl) J.nil)))
   obtain⟨aV,g1,g2,g3,g4⟩:=b9.EM OH hrw rfl jD (n:=fl.length) (by rw[qm];omega) 100 (agB m2 100);rw[hk]at g1 g4⊢;exact⟨aV,g1,g3,g2,g4⟩
 have S:∀x,aV.s x=y.s x:=fun x=>by show aV.y.s x=_;rw[kq];exact agB m1 x
 have Qq:∀x,aV.q x=y.q x:=fun x=>by show aV.y.q x=_;rw[kq];exact agB m2 x
 obtain⟨sa,rp,uO⟩:=Kw.len;have hT:CgT aV c (.agg #[.string nm,fs]) nV fl.length j d ok:=by
  refine{s:=fun x hx=>(S x).trans (if_pos (by omega)),t1:=S 30,t2:=S 31,s60:=fun h=>(S 60).trans ?_,s61:=S 61,s62:=S 62,q4:=Qq 4,q5:=Qq 5,q6:=Qq 6,OE:=Qq 31,OG:=Qq 32,Pp:=Qq 33,Pq:=Qq 34,q40:=Qq 40,u9:= ?_,fq:=fun h=> ?_,cls:=vA (J.cons (vQ (Qq 26) rfl) (J.cons hcv J.nil)),on:=⟨sa,fl.length,rp,(Qq 100).trans uO,S 60⟩}
  ·show((fl.length:Nat):Int)=0
   rw[h];rfl
  ·cases hF:CS d.k with
   |false=>exact aD
   |true=>
    have Fa:r≠0:=fun e=>by rw[ek,e]at hF;cases hF
    simp only[cond_true];rcases arT fl.length with h0|h0
    ·rw[h0]
     have:d.u9=cj:=by rw[xN];show(if fl.length=0 then(if r=0 then bytes x3 else cj)else _)=_;rw[if_pos h0,if_neg Fa]
     rw[this];exact aD
    ·obtain⟨k,hk⟩:∃k,fl.length=k+1:=⟨fl.length-1,by omega⟩
     have bf:=Zy (by omega);have:d.u9=(fl.getD j yb).t:=by rw[xN];show(if fl.length=0 then _ else(fl.getD j yb).t)=_;rw[if_neg (by omega)]
     rw[this,hk];exact vQ ((Qq (20+j)).trans (Ui (by omega))) rfl
  ·rw[Qq,show y.q (20+j)=_ from Ui (by have:=Zy h;omega)];rfl
 have ba:cgR fl.length j d.k=true:=by
  rcases arT fl.length with h0|h0
  ·have:∀j,cgR 0 j d.k=cgR 0 0 d.k:=fun j=>rfl
   rw[h0,this];exact aop.1 amv d.k hdk
  ·exact aop.1 (aop.1 (aop.1 amw fl.length (arL.2 (by omega))) j (arL.2 (Zy (by omega)))) d.k hdk
 refine Yg hT hc Ca bQ (by rw[hr,ek];rfl) hj h6 (by rw[e3,xN];rfl) (by rw[e4,xN];rfl) (by rw[xN];exact e55) (by rw[xN];exact o55) hrq ba dx hd fun a' w' cy dh abv=>⟨.inl rfl,cy,_,abv,d,ok,rfl,(hg.trans dh).grown,jQ⟩
noncomputable def Fg:List Code:=ct ((Tryz.f15.body).getD .skip)
def agG:List V:=[.y .i64 20,.y .i64 21,.y .i64 22,.y .i64 23,.q 24,.y .i64 25,.q 27]++oG
def Cb:List V:=[.a agG]
def nmU(k:Nat):List V:=[.i .i64 k,zI,zI,zI,eD,.y .i64 41,zI,.q 40,.s [],eD,zI,.s [],.s [],.s [],zI,zI,.s [],.s []]
def agH(r h:Nat):aU:={qc:=[(14,[.y .i64 20,.i .i64 7],.i .i64 r),(29,[.y .i64 23],.q 40),(14,[.y .i64 21,.i .i64 h],.y .i64 41)]}
theorem Yh:dN (aI E3 (agH 1 12) {}) 300 15 Cb 0 [] (.a (nmU 2)) []=true:=by decide+kernel
theorem Yi:dN (aI E3 (agH 4 2) {}) 300 15 Cb 0 [] (.a (nmU 5)) []=true:=by decide+kernel
noncomputable def cB0:List Code:=abX (Fg.drop 2)
noncomputable def VE:List Code:=ifB false (cB0.drop 1)
noncomputable def cB2:List Code:=ifB true (VE.drop 1)
noncomputable def cB3:List Code:=ifB false (VE.drop 1)
noncomputable def cB4:List Code:=ifB true (cB3.drop 1)
def agI:List V:=[zI,zI,zI,zI,eD,zI,zI,.s [],.s [],eD,zI,.s [],.s [],.s [],zI,zI,.s [],.s []]
def OJ:List (Nat×SV):=[(21,.y 21),(22,.y 22),(25,.y 25),(1,.y 1),(2,.y 2),(3,.y 3),(4,.y 4),(5,.y 5),(6,.y 6),(7,.y 7),(8,.y 8)]
def agJ:bP:={s:=OJ,q:=[(24,.q 24),(27,.q 27)]}
def aaP:List V:=[.top,.y .i64 21,.y .i64 22,.top,.q 24,.y .i64 25,.q 27]++oG
def HK:List (Nat×V):=[(1,.p (some (1,0))),(2,.p (some (2,0)))]
def Ky:List (Nat×aQ):=[(1,.cells aaP 73 false),(2,.cells agI 60 false)]
noncomputable def amR(r:Nat):Bool:=av (aI E3 {qc:=[(14,[.y .i64 20,.i .i64 7],.i .i64 r)]} {}) 100 (Fg.take 2) ⟨103,load Cb 0 .leaf⟩ (ak 0 []) .n agJ 103 ((10,.i .i64 r)::HK) 5 Ky
noncomputable def Kz(c:List Code)(r t:Nat)(b:Bool):Bool:=av (aI E3 {} {}) 100 (c.take 1) (U 103 ((10,.i .i64 r)::HK)) (ak 5 Ky) .n agJ 103 ((t,.b b)::(10,.i .i64 r)::HK) 5 Ky
theorem amS:([2,3].all amR)=true:=by decide+kernel
theorem amT:(Kz cB0 2 11 false&&Kz VE 2 20 true&&Kz cB0 3 11 false&&Kz VE 3 20 false&&Kz cB3 3 29 true)=true:=by decide+kernel
noncomputable def o5:Array Oper:=uj cB2
def rc5:List V:=[.i .i64 3,zI,zI,zI,eD,.y .i64 41,zI,.s [],.q 50,.q 51,zI,.s [],.s [],.s [],zI,zI,.s [],.s []]
def Bm(m:List Bool):List (Nat×V):=pkL m [22,23,24,25,26,27,28] [.p (some (1,1)),.y .i64 21,.y .i64 41,.p (some (1,5)),.a [.y .i64 25,.q 27],.a [.q 50,.q 51],.a rc5]++HK
def HL(m:List Bool):List (Nat×aQ):=[(1,.cells aaP 73 false),(2,.cells (cond (m.getD 7 false) rc5 agI) 60 false)]
def amU:bP:={s:=(41,.y 41)::OJ,q:=[(24,.q 24),(27,.q 27)]}
def Bn:bP:={s:=(41,.y 41)::OJ,q:=[(24,.q 24),(27,.q 27),(50,.q 50),(51,.q 51)]}
def aaQ:aU:={qc:=[(14,[.y .i64 21,.i .i64 8],.y .i64 41)]}
theorem HM:o5.size=8:=by decide+kernel
noncomputable def ms5:List (List Bool):=allM o5
theorem amV:mU (aI E3 aaQ {}) 200 o5 Bn 103 5 Bm HL ms5 (fun i=>Nat.beq i 5)=true:=by decide+kernel
theorem amW:(ms5.all fun m=> !(mR o5 m 5)||(same (BP (Bm m) 26) (.a [.y .i64 25,.q 27])&&aW amU 103 (Bm m) 5 (HL m)&&fL Bn&&(bG Bn (U 103 ((27,.a [.q 50,.q 51])::Bm m)) (ak 5 (HL m)) 103 (Bm (m.set 5 true)) 5 (HL (m.set 5 true))).isSome))=true:=by decide+kernel
theorem amX:av (aI E3 {} {}) 100 ((cB2.drop 1).take 10) (U 103 (Bm (arF 8 true))) (ak 5 (HL (arF 8 true))) .r Bn 103 [(2,.p (some (2,0)))] 4 [(2,.cells rc5 60 false)]=true:=by decide+kernel
noncomputable def o7:Array Oper:=uj cB4
def Ps:List V:=[.q 60,.q 61,.q 62,.q 63,.q 64,.q 65,.q 66,.q 67]
def l7(m:List Bool):List (Nat×V):=pkL m [32,33,34,35,36,37,31,38,39,3,0,4] [.p (some (1,7)),.a oG,.p (some (1,5)),.a [.y .i64 25,.q 27],.a [.q 50,.q 51],.t [.a Ps,.q 68],.t [.a Ps,.q 68],.a Ps,.q 68,.p (some (3,0)),.top,.q 68]++HK
def yd(m:List Bool):List (Nat×aQ):=Ky++cond (m.getD 9 false) [(3,.cells (cond (m.getD 10 false) Ps Yb) 58 false)] []
def amY:bP:={s:=OJ,q:=[(24,.q 24),(27,.q 27)]}
def EP:bP:={s:=OJ,q:=[(24,.q 24),(27,.q 27),(50,.q 50),(51,.q 51)]}
def ER:bP:={s:=OJ,q:=[(24,.q 24),(27,.q 27),(50,.q 50),(51,.q 51),(60,.q 60),(61,.q 61),(62,.q 62),(63,.q 63),(64,.q 64),(65,.q 65),(66,.q 66),(67,.q 67),(68,.q 68)]}
theorem CY:o7.size=12:=by decide+kernel
noncomputable def ms7:List (List Bool):=allM o7
theorem amZ:mU (aI E3 {} {}) 200 o7 ER 103 5 l7 yd ms7 (fun i=>Nat.beq i 4||Nat.beq i 5)=true:=by decide+kernel
theorem agK:(ms7.all fun m=> !(mR o7 m 4)||(same (BP (l7 m) 35) (.a [.y .i64 25,.q 27])&&aW amY 103 (l7 m) 5 (yd m)&&fL EP&&(!(m.getD 5 false))&&(bG EP (U 103 ((36,.a [.q 50,.q 51])::l7 m)) (ak 5 (yd m)) 103 (l7 (m.set 4 true)) 5 (yd (m.set 4 true))).isSome))=true:=by decide+kernel
theorem agM:(ms7.all fun m=> !(mR o7 m 5)||(same (BP (l7 m) 33) (.a oG)&&same (BP (l7 m) 36) (.a [.q 50,.q 51])&&aW EP 103 (l7 m) 5 (yd m)&&fL ER&&m.getD 4 false&&(bG ER (U 103 ((37,.t [.a Ps,.q 68])::l7 m)) (ak 5 (yd m)) 103 (l7 (m.set 5 true)) 5 (yd (m.set 5 true))).isSome))=true:=by decide+kernel
def Uj:aU:={bin:=[(.add,.i .i64 1,.y .i64 42,.y .i64 43)],qc:=[(14,[.y .i64 21,.i .i64 8],.y .i64 41),(14,[.y .i64 22,.i .i64 12],.y .i64 42)]}
def rc7(b:Bool):List V:=[.i .i64 4,zI,zI,zI,eD,.y .i64 41,.y .i64 43,.s [],.s [],eD]++cond b Ps [.i .i64 2,.s [97],.s [],.s [],zI,zI,.s [],.s []]
def Uk(b:Bool):bP:={s:=[(41,.y 41),(43,.y 43)],q:=cond b [(60,.q 60),(61,.q 61),(62,.q 62),(63,.q 63),(64,.q 64),(65,.q 65),(66,.q 66),(67,.q 67)] []}
noncomputable def am0(b:Bool):Bool:=av (aI E3 Uj {}) 100 ((cB4.drop 1).take 10) (U 103 (jG 68 (.b b) (l7 (arF 12 true)))) (ak 5 (iO 68 (.b b) (yd (arF 12 true)))) .r (Uk b) 103 [(2,.p (some (2,0)))] 4 [(2,.cells (rc7 b) 60 false)]
theorem am1:([true,false].all am0)=true:=by decide+kernel
structure qx(K:Nat->Option Obj)(a:List Value)(s:ByteArray):Prop where
 form:eI a
 byt:jq K (.agg a.toArray) s
 lo:1<=s.size
 hi:s.size<=800
 oid:∃id:Int,a[1]? =some (.int .i64 id)/\0<=id/\id<=12
theorem qx.mono{K K':Nat->Option Obj}(h:∀r o,K r=some o->K' r=some o){a:List Value}{s:ByteArray}(hr:qx K a s):qx K' a s:=⟨hr.form,hr.byt.mono h,hr.lo,hr.hi,hr.oid⟩
structure yx(K:Nat->Option Obj)(c:Nat->Int)(aP:Value)(nv:Nat)(vc:Nat->Nat->Int)(fs:Value)(nf:Nat)(fr:Nat->ji):Prop where
 int:∀i,eR (c i)
 aP:xw K 66 116 aP nv fun i=>[.int .i64 (vc i 0),.int .i64 (vc i 1),.int .i64 (vc i 2)]
 Yj:∀i j,i<nv->eR (vc i j)
 fs:xw K 67 146 fs nf fun i=>(fr i).cells
 agN:∀i,i<nf->(fr i).OK
def nI(c:Nat->Int)(aP fs:Value):Value:=.agg #[.int .i64 (c 20),.int .i64 (c 21),.int .i64 (c 22),.int .i64 (c 23),aP,.int .i64 (c 25),fs,.int .i64 (c 1),.int .i64 (c 2),.int .i64 (c 3),.int .i64 (c 4),.int .i64 (c 5),.int .i64 (c 6),.int .i64 (c 7),.int .i64 (c 8)]
def roY(c:Nat->Int)(aP fs:Value)(e:Nat->Int)(v:Nat->Value):Sym:=
 {s:=fun x=>if x<30 then c x else e x,q:=fun x=>match x with|24=>aP|27=>fs|x=>v x,w:=fun _=>[],g:=fun _=>(#[],0),k:=fun _=>none}
theorem MP{aP fs:Value}(h1:aP.oneCell'=true)(h2:fs.oneCell'=true)(hs:∀x,x<30->φ.s x=c x)(q1:φ.q 24=aP)(q2:φ.q 27=fs):J φ Cb [nI c aP fs]:=by
 have y:∀x,x<30->VR φ (.y .i64 x) (.int .i64 (c x)):=fun x hx=>vY (hs x hx)
 exact J.cons (vA (J.cons (y 20 (by decide)) (J.cons (y 21 (by decide)) (J.cons (y 22 (by decide)) (J.cons (y 23 (by decide)) (J.cons (vQ q1 h1) (J.cons (y 25 (by decide)) (J.cons (vQ q2 h2)
  (J.cons (y 1 (by decide)) (J.cons (y 2 (by decide)) (J.cons (y 3 (by decide)) (J.cons (y 4 (by decide)) (J.cons (y 5 (by decide)) (J.cons (y 6 (by decide)) (J.cons (y 7 (by decide)) (J.cons (y 8 (by decide)) J.nil)))))))))))))))) J.nil
def KA(K0:Nat->Option Obj)(B:Nat)(K:Nat->Option Obj):Prop:=(∀r o,K0 r=some o->K r=some o)/\∀r o,K r=some o->K0 r=some o\/B<=r
theorem KA.refl:KA K B K:=⟨fun _ _ h=>h,fun _ _ h=>.inl h⟩
theorem KA.kD{K0 K1:Nat->Option Obj}{w w':World}(h:KA K0 B K)(hu:rJ K w w' K1)(hb:B<=w.heap.size):KA K0 B K1:=⟨fun r o e=>hu.sub r o (h.1 r o e),fun r o e=>(hu.new r o e).elim (h.2 r o) fun e=>.inr (by omega)⟩
theorem ad.yf{nt:Nat}{L:List (Nat×V)}{h:H}{w:World}{t:Nat}{v:V}(hs:ad φ B (U nt ((t,v)::L)) h a w)(ht:BP L t=.top):ad φ B (U nt L) h a w:=⟨⟨hs.fr.1,fun k=>by
  have:=hs.fr.2 k;rw[cA]at this⊢
  by_cases e:k=t
  ·rw[e,ht];simp only[VR]
  ·simp only[BP]at this
   rw[if_neg e]at this;exact this⟩,hs.hr,hs.loc,hs.kf,hs.bz⟩
theorem Bo{m:List Bool}{i j:Nat}(h:i≠j):(m.set i true).getD j false=m.getD j false:=by
 rw[arC,arC,List.getElem?_set_ne h]
theorem HN{aP fs:Value}{nv nf:Nat}{vc:Nat->Nat->Int}{fr:Nat->ji}(h:yx K c aP nv vc fs nf fr){r k n:Nat}(hr:ax (c 20) 7=r)(hn:1<=n/\n<=12)(ba:dN (aI E3 (agH r n) {}) 300 15 Cb 0 [] (.a (nmU k)) []=true):
  ∃nm∈lB,Quiet Tryz.prog K 15 [nI c aP fs] (· =nmW k (ax (c 21) n) nm):=by
 obtain⟨nm,oV,hq⟩:=afA K (h.int 23);refine⟨nm,oV,?_⟩;refine cC ah rfl ba (roY c aP fs (fun _=>ax (c 21) n) (fun _=>.string (bytes nm))) (fun φ f1 f2 f3 f4 hK=> ?_) (fun φ _ _ _ _ _=>eX) (fun w hw=>⟨φ0 _ w,bc _ w,rfl,MP h.aP.one h.fs.one (fun x hx=>if_pos hx) rfl rfl⟩) (fun φ f1 f2 x hx=> ?_) ⟨_,_,Tryz.func15,rfl,rfl⟩
 ·have:=eJ φ.y.k (h.int 20) (N:=7) (by decide)
  rw[show((7:Nat):Int)=7 from rfl,hr]at this;have h2:=eJ φ.y.k (h.int 21) (N:=n) (by omega);exact⟨agm,agm,agm,agm,agm,agm,agm,agm,dy rfl this (J.cons (vY (agB f1 20)) (J.cons vI J.nil)) vI,dy rfl (hq.mono hK) (J.cons (vY (agB f1 23)) J.nil) (vQ (agB f2 40) rfl),dy rfl h2 (J.cons (vY (agB f1 21)) (J.cons vI J.nil)) (vY (agB f1 41)),agm⟩
 ·exact eQ (x:=.a (nmU k)) rfl hx (vA (J.cons vI (J.cons aL (J.cons aL (J.cons aL (J.cons bY (J.cons (vY (agB f1 41)) (J.cons aL (J.cons (vQ (agB f2 40) rfl) (J.cons aD (J.cons bY (J.cons aL (J.cons aD (J.cons aD (J.cons aD (J.cons aL (J.cons aL (J.cons aD (J.cons aD J.nil)))))))))))))))))))
theorem agO:∃id b,Fg.drop 2=.block id b::Fg.drop 3/\ct b=cB0:=⟨_,_,rfl,rfl⟩
theorem agP:∃x y,cB0.drop 1=.cond (.tmp 11) x y::[]/\ct (if false then x else y)=VE:=⟨_,_,rfl,rfl⟩
theorem Ul:∃x y,VE.drop 1=.cond (.tmp 20) x y::[]/\ct (if true then x else y)=cB2/\ct (if false then x else y)=cB3:=⟨_,_,rfl,rfl,rfl⟩
theorem agQ:∃x y,cB3.drop 1=.cond (.tmp 29) x y::[]/\ct (if true then x else y)=cB4:=⟨_,_,rfl,rfl⟩
theorem agR:∃id,cB2=.region id o5 true::cB2.drop 1:=⟨_,rfl⟩
theorem agU:∃id,cB4=.region id o7 true::cB4.drop 1:=⟨_,rfl⟩
theorem MQ{K:Nat->Option Obj}{c:Nat->Int}{aP fs:Value}(h1:aP.oneCell'=true)(h2:fs.oneCell'=true)(hc:eR (c 20)){r:Nat}(hr:ax (c 20) 7=r)(vJ:r=2\/r=3){m:Nat}{w:World}{a0:Act}{Bl:Ren}
  (bB:ad Bl w.heap.size ⟨103,load Cb 0 .leaf⟩ (ak 0 []) a0 w)(hk0:fU K Bl)(hd0:a0.defers=[]){e:Nat->Int}{v:Nat->Value}(e00:bD Bl (roY c aP fs e v)){Q:Exit->Act->World->Prop}
  (hQ:∀φ a' w',ad φ w.heap.size (U 103 HK) (ak 5 Ky) a' w'->fU K φ->a'.defers=[]->GB w.heap.size w w'->bD φ (roY c aP fs e v)->aC none m Tryz.prog (fun e a w=>e=.ret/\Q .ret a w) (if r=2 then cB2 else cB4) a' w'):aC none m Tryz.prog Q Fg a0 w:=by
 let y:=roY c aP fs e v;obtain⟨g1,g2,g3,g4⟩:=e00;have agT:Ag agJ y y:=⟨⟨rfl,rfl,rfl,rfl,rfl,rfl,rfl,rfl,rfl,rfl,rfl,agm⟩,⟨⟨rfl,h1⟩,⟨rfl,h2⟩,agm⟩,agm,agm⟩;have h0:=aop.1 amS r (by rcases vJ with rfl|rfl<;>decide)
 have ht:=amT;simp only[arE]at ht;obtain⟨⟨⟨⟨t1,t2⟩,t3⟩,t4⟩,t5⟩:=ht;have b11:Kz cB0 r 11 false=true:=by rcases vJ with rfl|rfl;exact t1;exact t3
 unfold amR at h0;unfold Kz at b11 t2 t4 t5;refine ad.runK (aw ah _ _) rfl 2 (cs:=Fg) h0 bB hk0 (eZ ?_ eX) hd0 y (agT.au g1 g2 g3 g4) fun φ a w1 hs hK hd hg n1 n2 n3 n4=> ?_
 ·have:=eJ Bl.y.k hc (N:=7) (by decide)
  rw[show((7:Nat):Int)=7 from rfl,hr]at this;exact⟨agm,agm,agm,agm,agm,agm,agm,agm,dy rfl this (J.cons (vY (agB g1 20)) (J.cons vI J.nil)) vI,agm⟩
 show aC none m Tryz.prog _ (Fg.drop 2) a w1;obtain⟨id,b,sj,tB⟩:=agO;rw[sj];refine Aa ?_;rw[tB];refine ad.runK (aw ah _ _) rfl 1 (cs:=cB0) b11 hs hK (eZ aS eX) hd y (agT.au n1 n2 n3 n4) fun φ a w2 hs hK hd iK n1 n2 n3 n4=> ?_
 show aC none m Tryz.prog _ (cB0.drop 1) a w2;obtain⟨x,z,sj,tB⟩:=agP;rw[sj];refine ky (t:=false) (by have:=hs.tv (t:=11) (x:=.b false) rfl;simp only[VR]at this;exact this) ?_;rw[tB];have hs:=hs.yf rfl;have hg:=hg.trans iK;rcases vJ with rfl|rfl
 ·refine ad.runK (aw ah _ _) rfl 1 (cs:=VE) t2 hs hK (eZ aS eX) hd y (agT.au n1 n2 n3 n4) fun φ a w3 hs hK hd ig n1 n2 n3 n4=> ?_
  show aC none m Tryz.prog _ (VE.drop 1) a w3;obtain⟨x,z,sj,tB,_⟩:=Ul;rw[sj];refine ky (t:=true) (by have:=hs.tv (t:=20) (x:=.b true) rfl;simp only[VR]at this;exact this) ?_;rw[tB];refine qI ?_ _ _ _ (hQ φ a w3 ((hs.yf rfl).yf rfl) hK hd (hg.trans ig) ⟨n1,n2,n3,n4⟩);rintro e a w ⟨rfl,h⟩;exact h
 ·refine ad.runK (aw ah _ _) rfl 1 (cs:=VE) t4 hs hK (eZ aS eX) hd y (agT.au n1 n2 n3 n4) fun φ a w3 hs hK hd ig n1 n2 n3 n4=> ?_
  show aC none m Tryz.prog _ (VE.drop 1) a w3;obtain⟨x,z,sj,_,tB⟩:=Ul;rw[sj];refine ky (t:=false) (by have:=hs.tv (t:=20) (x:=.b false) rfl;simp only[VR]at this;exact this) ?_;rw[tB];refine ad.runK (aw ah _ _) rfl 1 (cs:=cB3) t5 (hs.yf rfl) hK (eZ aS eX) hd y (agT.au n1 n2 n3 n4) fun φ a w4 hs hK hd pV n1 n2 n3 n4=> ?_
  show aC none m Tryz.prog _ (cB3.drop 1) a w4;obtain⟨x,z,sj,tB⟩:=agQ;rw[sj];refine ky (t:=true) (by have:=hs.tv (t:=29) (x:=.b true) rfl;simp only[VR]at this;exact this) ?_;rw[tB];refine qI ?_ _ _ _ (hQ φ a w4 ((hs.yf rfl).yf rfl) hK hd ((hg.trans ig).trans pV) ⟨n1,n2,n3,n4⟩);rintro e a w ⟨rfl,h⟩;exact h
def HO(K:Nat->Option Obj)(w:World)(e:Ending)(w':World):Prop:=∃a s K1,e=.returned (.agg a.toArray)/\Grown w w'/\rJ K w w' K1/\qx K1 a s
section
variable {K:Nat->Option Obj} {c:Nat->Int} {aP fs:Value} {nv nf:Nat} {vc:Nat->Nat->Int} {fr:Nat->ji}
theorem OL(h:yx K c aP nv vc fs nf fr)(hr:ax (c 20) 7=2)(m:Nat){w:World}(hw:∀r o,K r=some o->w.heap[r]? =some o):CallsIn (W none) m Tryz.prog 15 #[nI c aP fs] w (HO K w):=by
 have o1:=h.aP.one;have o2:=h.fs.one;let yv:Value->Value->Sym:=fun v1 v2=>roY c aP fs (fun _=>ax (c 21) 8) (fun x=>match x with|50=>v1|_=>v2)
 have bB:=ad.enter (nt:=103) (bc (yv (.string cj) aF) w) rfl rfl (vs:=Cb) (args:=[nI c aP fs]) (MP o1 o2 (fun x hx=>if_pos hx) rfl rfl) (by decide);refine dz (fn:=Tryz.f15) (c:=(Tryz.f15.body).getD .skip) (args:=[nI c aP fs]) Tryz.func15 rfl (bp _ ?_);show aC none m Tryz.prog _ Fg _ _;refine MQ o1 o2 (h.int 20) (r:=2) hr (.inl rfl) bB (fU.all rfl hw) rfl (e:=fun _=>ax (c 21) 8) (v:=fun x=>match x with|50=>.string cj|_=>aF) ⟨rfl,rfl,rfl,rfl⟩ fun φ a w1 hs hK hd hg hn=> ?_
 rw[if_pos rfl];obtain⟨id,iJ⟩:=agR;rw[iJ];have hYv:∀{v1 v2:Value},v1.oneCell'=true->v2.oneCell'=true->Ag Bn (yv v1 v2) (yv v1 v2):=fun h1 h2=>⟨⟨rfl,rfl,rfl,rfl,rfl,rfl,rfl,rfl,rfl,rfl,rfl,rfl,agm⟩,⟨⟨rfl,o1⟩,⟨rfl,o2⟩,⟨rfl,h1⟩,⟨rfl,h2⟩,agm⟩,agm,agm⟩
 obtain⟨b1,b2⟩:=bI (c 21) (N:=8) (by decide);let X:List Bool->Pn->Prop:=fun mk p=>∃yw xy,p.y=yv (.string yw) xy/\xy.oneCell'=true/\KA K w.heap.size p.K/\(mk.getD 5 false=true->∃enc fl,fP yw enc/\dW fl/\eP p.K fl xy)
 refine ad.z7 (aw ah aaQ {}) rfl ah.mixed X amV (L0:=HK) (HB0:=Ky) (by rw[HM];rfl) (by rw[HM];rfl) hs ⟨yv (.string cj) aF,K⟩ hn hK ⟨cj,aF,rfl,rfl,KA.refl,fun e=>by rw[HM]at e;cases e⟩ ?_ ?_ ?_ ?_ ?_
 ·rintro mk p ⟨yw,xy,e,h1,_⟩
  rw[e];exact hYv rfl h1
 ·rintro mk p ay ⟨yw,xy,e,h1,_⟩ n1 k1
  rw[e]at n1;refine eZ ⟨agm,agm,agm,agm,agm,agm,agm,agm,dy rfl (eJ ay.y.k (h.int 21) (N:=8) (by decide)) (J.cons (vY (agB n1.1 21)) (J.cons vI J.nil)) (vY (agB n1.1 41)),agm⟩ eX
 ·rintro mk i p hi ⟨yw,xy,e,h1,h2,h3⟩
  have h5:i≠5:=by rintro rfl;cases hi
  exact⟨yw,xy,e,h1,h2,fun e=>h3 (by rwa[Bo h5]at e)⟩
 ·rintro mk i ay p a1 w2 C hm cM hh b9 n1 k1 ⟨yw,xy,e,h1,h2,h3⟩ hC
  obtain rfl:i=5:=arK hh;rw[e]at n1;have cc:=aop.1 amW mk hm;simp only[cM,arO,arP,arE]at cc;obtain⟨⟨⟨c1,c2⟩,c3⟩,c4⟩:=cc;have c1:=bJ _ _ c1;refine b9.LC (o:=(o5.toList.drop 5).headD default) rfl rfl rfl rfl rfl Tryz.func30 rfl rfl (Vs:=[.a [.y .i64 25,.q 27]]) (by show[(U 103 (Bm mk)).get 26]=_;rw[cA,c1]) ?_;intro args' ha;have:args'=[.agg #[.int .i64 (c 25),fs]]:=mQ (φ:=ay) rfl ha (J.cons (vA (J.cons (vY (agB n1.1 25)) (J.cons (vQ (agB n1.2.1 27) o2) J.nil))) J.nil);subst this;refine(tz (K:=p.K) (h.int 25) (h.fs.mono h2.1) h.agN (m-1) (b9.lJ k1)).mono ?_;rintro e w3 ⟨VF,enc,fl,Yk,K3,rfl,gG,fb,BQ,nY,so,vH,_,lF,_⟩;refine⟨_,rfl,?_⟩;obtain⟨aV,dx,k2,e1,e2,e3,e4⟩:=b9.mS k1 gG fb c2 (y:=yv (.string VF) Yk) ⟨⟨(agB n1.1 41).symm,(agB n1.1 21).symm,(agB n1.1 22).symm,(agB n1.1 25).symm,(agB n1.1 1).symm,(agB n1.1 2).symm,(agB n1.1 3).symm,(agB n1.1 4).symm,(agB n1.1 5).symm,(agB n1.1 6).symm,(agB n1.1 7).symm,(agB n1.1 8).symm,agm⟩,⟨⟨(agB n1.2.1 24).symm,o1⟩,⟨(agB n1.2.1 27).symm,o2⟩,agm⟩,agm,agm⟩;have ez:=dx.put (d:=27) (by decide) (x:=.a [.q 50,.q 51]) (v:=.agg #[.string VF,Yk]) (vA (J.cons (vQ (agB e2 50) rfl) (J.cons (vQ (agB e2 51) vH) J.nil)));obtain⟨eH,ll,k4,f1,f2,f3,f4⟩:=ez.xU k2 c4 (yv (.string VF) Yk) (((hYv rfl vH).au e1 e2 e3 e4).agree c3 rfl _ _);exact hC eH ⟨yv (.string VF) Yk,K3⟩ _ w3 ll rfl ⟨f1,f2,f3,f4⟩ k4 ⟨VF,Yk,rfl,vH,h2.kD fb b9.bz,fun _=>⟨enc,fl,BQ,nY,so⟩⟩ (gG.gb b9.bz)
 ·rintro aV p a2 w2 dx mF iK n2 k2 ⟨yw,xy,e,h1,h2,h3⟩
  obtain⟨enc,fl,BQ,nY,so⟩:=h3 (by rw[HM];rfl);rw[HM]at dx;rw[e]at n2;show aC none m Tryz.prog _ (cB2.drop 1) a2 w2;refine ad.runK (aw ah {} {}) rfl 10 (cs:=cB2.drop 1) amX dx k2 (eZ aS eX) (mF.trans hd) (yv (.string yw) xy) ((hYv rfl h1).au n2.1 n2.2.1 n2.2.2.1 n2.2.2.2) fun eH a3 w3 ez vO gJ ig n1 n2 n3 n4=>⟨rfl,.inl rfl,gJ,?_⟩
  obtain⟨v,gE,ff⟩:=ez.leave ah (fn:=Tryz.f15) (l:=[.a rc5]) rfl;have hv:v=clW (ax (c 21) 8) yw xy:=eQ (x:=.a rc5) (φ:=eH) rfl ff (vA (J.cons vI (J.cons aL (J.cons aL (J.cons aL (J.cons bY (J.cons (vY (agB n1 41)) (J.cons aL (J.cons aD (J.cons (vQ (agB n2 50) rfl) (J.cons (vQ (agB n2 51) h1) (J.cons aL (J.cons aD (J.cons aD (J.cons aD (J.cons aL (J.cons aL (J.cons aD (J.cons aD J.nil)))))))))))))))))));subst hv;obtain⟨s,s1,s2,s3⟩:=Hg (K:=p.K) (id:=ax (c 21) 8) ⟨b1,by omega⟩ BQ nY so h1;exact⟨_,gE,(Mn 3 0 0 0 aF (ax (c 21) 8) 0 cj yw xy 0 cj cj cj 0 0 cj cj).toList,s,p.K,rfl,((hg.trans iK).trans ig).grown,⟨h2.1,ez.lJ vO,h2.2⟩,⟨.cls h1,s3,s1,s2,0,rfl,by decide,by decide⟩⟩
theorem Um:∃e enc,tr e enc:=by
 obtain⟨enc,hn⟩:=qO (aop.1 Mr [97] (by decide));obtain⟨e,h,_⟩:=Bk (K:=fun _=>none) (fl:=[]) (fs:=aF) hn ⟨by simp,fun f hf=>(by cases hf),fun i j f g hf=>(by simp at hf)⟩ (fun f hf=>by cases hf) (.inl ⟨rfl,rfl⟩) rfl (p:=0) (by unfold eR;omega) (t:=(1,0)) (by decide);exact⟨e,h⟩
theorem OM(h:yx K c aP nv vc fs nf fr)(hr:ax (c 20) 7=3)(m:Nat){w:World}(hw:∀r o,K r=some o->w.heap[r]? =some o):CallsIn (W none) m Tryz.prog 15 #[nI c aP fs] w (HO K w):=by
 have o1:=h.aP.one;have o2:=h.fs.one;let e4:Nat->Int:=fun x=>match x with|41=>ax (c 21) 8|42=>ax (c 22) 12|_=>1+ax (c 22) 12
 let yv:(Nat->Value)->Sym:=fun v=>roY c aP fs e4 v
 have bB:=ad.enter (nt:=103) (bc (yv fun _=>aF) w) rfl rfl (vs:=Cb) (args:=[nI c aP fs]) (MP o1 o2 (fun x hx=>if_pos hx) rfl rfl) (by decide);refine dz (fn:=Tryz.f15) (c:=(Tryz.f15.body).getD .skip) (args:=[nI c aP fs]) Tryz.func15 rfl (bp _ ?_);show aC none m Tryz.prog _ Fg _ _;refine MQ o1 o2 (h.int 20) (r:=3) hr (.inr rfl) bB (fU.all rfl hw) rfl (e:=e4) (v:=fun _=>aF) ⟨rfl,rfl,rfl,rfl⟩ fun φ a w1 hs hK hd hg hn=> ?_
 rw[if_neg (by decide)];obtain⟨id,iJ⟩:=agU;rw[iJ];have hYv:∀{v:Nat->Value},(∀x,(v x).oneCell'=true)->Ag ER (yv v) (yv v):=fun hv=>⟨⟨rfl,rfl,rfl,rfl,rfl,rfl,rfl,rfl,rfl,rfl,rfl,agm⟩,⟨⟨rfl,o1⟩,⟨rfl,o2⟩,⟨rfl,hv 50⟩,⟨rfl,hv 51⟩,⟨rfl,hv 60⟩,⟨rfl,hv 61⟩,⟨rfl,hv 62⟩,⟨rfl,hv 63⟩,⟨rfl,hv 64⟩,⟨rfl,hv 65⟩,⟨rfl,hv 66⟩,⟨rfl,hv 67⟩,⟨rfl,hv 68⟩,agm⟩,agm,agm⟩
 have hYa:∀{v:Nat->Value},(∀x,(v x).oneCell'=true)->Ag EP (yv v) (yv v):=fun hv=>⟨⟨rfl,rfl,rfl,rfl,rfl,rfl,rfl,rfl,rfl,rfl,rfl,agm⟩,⟨⟨rfl,o1⟩,⟨rfl,o2⟩,⟨rfl,hv 50⟩,⟨rfl,hv 51⟩,agm⟩,agm,agm⟩
 obtain⟨b1,b2⟩:=bI (c 21) (N:=8) (by decide);obtain⟨b3,b4⟩:=bI (c 22) (N:=12) (by decide);let X:List Bool->Pn->Prop:=fun mk p=>∃v:Nat->Value,p.y=yv v/\(∀x,(v x).oneCell'=true)/\KA K w.heap.size p.K/\(mk.getD 4 false=true->∃nm enc fl,v 50=.string nm/\fP nm enc/\dW fl/\FNm fl/\eP p.K fl (v 51))/\
  (mk.getD 5 false=true->∃(d:xu) (ok:Bool),J (φ0 (yv v) w) Ps d.cells/\v 68=.bool ok/\(ok=true->d.OK))
 refine ad.z7 (aw ah {} {}) rfl ah.mixed X amZ (L0:=HK) (HB0:=Ky) (by rw[CY];rfl) (by rw[CY];rfl) hs ⟨yv fun _=>aF,K⟩ hn hK ⟨fun _=>aF,rfl,fun _=>rfl,KA.refl,(fun e=>by rw[CY]at e;cases e),fun e=>by rw[CY]at e;cases e⟩ ?_ ?_ ?_ ?_ ?_
 ·rintro mk p ⟨v,e,h1,_⟩
  rw[e];exact hYv h1
 ·rintro mk p ay ⟨v,e,h1,_⟩ n1 k1
  exact eZ aS eX
 ·rintro mk i p hi ⟨v,e,h1,h2,h3,h4⟩
  simp only[Bool.or_eq_false_iff]at hi;have i4:i≠4:=by rintro rfl;cases hi.1
  have i5:i≠5:=by rintro rfl;cases hi.2
  exact⟨v,e,h1,h2,(fun e=>h3 (by rwa[Bo i4]at e)),fun e=>h4 (by rwa[Bo i5]at e)⟩
 ·rintro mk i ay p a1 w2 C hm cM hh b9 n1 k1 ⟨v,e,h1,h2,h3,h4⟩ hC
  rw[e]at n1;have hi:i=4\/i=5:=by
   simp only[Bool.or_eq_true]at hh;exact hh.imp arK arK
  rcases hi with rfl|rfl
  ·have cc:=aop.1 agK mk hm
   simp only[cM,arO,arP,arE,Bool.not_eq_true']at cc;obtain⟨⟨⟨⟨c1,c2⟩,c3⟩,c5⟩,c4⟩:=cc;have c1:=bJ _ _ c1;refine b9.LC (o:=(o7.toList.drop 4).headD default) rfl rfl rfl rfl rfl Tryz.func30 rfl rfl (Vs:=[.a [.y .i64 25,.q 27]]) (by show[(U 103 (l7 mk)).get 35]=_;rw[cA,c1]) ?_;intro args' ha;have:args'=[.agg #[.int .i64 (c 25),fs]]:=mQ (φ:=ay) rfl ha (J.cons (vA (J.cons (vY (agB n1.1 25)) (J.cons (vQ (agB n1.2.1 27) o2) J.nil))) J.nil);subst this;refine(tz (K:=p.K) (h.int 25) (h.fs.mono h2.1) h.agN (m-1) (b9.lJ k1)).mono ?_;rintro e w3 ⟨VF,enc,fl,Yk,K3,rfl,gG,fb,BQ,nY,so,vH,_,lF,_⟩;refine⟨_,rfl,?_⟩;let v':Nat->Value:=fun x=>if x=50 then .string VF else if x=51 then Yk else v x
   have yk:∀x,(v' x).oneCell'=true:=fun x=>by
    show(if x=50 then Value.string VF else if x=51 then Yk else v x).oneCell'=true;split
    ·rfl
    ·split
     ·exact vH
     ·exact h1 x
   obtain⟨aV,dx,k2,e1,e2,e3,e4⟩:=b9.mS k1 gG fb c2 (y:=yv v') ⟨⟨(agB n1.1 21).symm,(agB n1.1 22).symm,(agB n1.1 25).symm,(agB n1.1 1).symm,(agB n1.1 2).symm,(agB n1.1 3).symm,(agB n1.1 4).symm,(agB n1.1 5).symm,(agB n1.1 6).symm,(agB n1.1 7).symm,(agB n1.1 8).symm,agm⟩,⟨⟨(agB n1.2.1 24).symm,o1⟩,⟨(agB n1.2.1 27).symm,o2⟩,agm⟩,agm,agm⟩;have ez:=dx.put (d:=36) (by decide) (x:=.a [.q 50,.q 51]) (v:=.agg #[.string VF,Yk]) (vA (J.cons (vQ (agB e2 50) rfl) (J.cons (vQ (agB e2 51) vH) J.nil)));obtain⟨eH,ll,k4,f1,f2,f3,f4⟩:=ez.xU k2 c4 (yv v') (((hYa yk).au e1 e2 e3 e4).agree c3 rfl _ _);exact hC eH ⟨yv v',K3⟩ _ w3 ll rfl ⟨f1,f2,f3,f4⟩ k4 ⟨v',rfl,yk,h2.kD fb b9.bz,(fun _=>⟨VF,enc,fl,rfl,BQ,nY,lF,so⟩),fun e=>by rw[Bo (by decide),c5]at e;cases e⟩ (gG.gb b9.bz)
  ·have cc:=aop.1 agM mk hm
   simp only[cM,arO,arP,arE]at cc;obtain⟨⟨⟨⟨⟨c0,c1⟩,c2⟩,c3⟩,c5⟩,c4⟩:=cc;have c0:=bJ _ _ c0;have c1:=bJ _ _ c1;obtain⟨nm,enc,fl,am2,BQ,nY,lF,so⟩:=h3 c5;refine b9.LC (o:=(o7.toList.drop 5).headD default) rfl rfl rfl rfl rfl Tryz.func31 rfl rfl (Vs:=[.a oG,.a [.q 50,.q 51]]) (by show[(U 103 (l7 mk)).get 33,(U 103 (l7 mk)).get 36]=_;rw[cA,cA,c0,c1]) ?_;intro args' ha;have:args'=[MN c,.agg #[.string nm,v 51]]:=mQ (φ:=ay) rfl ha (J.cons (vA (J.cons (vY (agB n1.1 1)) (J.cons (vY (agB n1.1 2)) (J.cons (vY (agB n1.1 3)) (J.cons (vY (agB n1.1 4)) (J.cons (vY (agB n1.1 5)) (J.cons (vY (agB n1.1 6)) (J.cons (vY (agB n1.1 7)) (J.cons (vY (agB n1.1 8)) J.nil))))))))) (J.cons (vA (J.cons (vQ ((agB n1.2.1 50).trans am2) rfl) (J.cons (vQ (agB n1.2.1 51) (h1 51)) J.nil))) J.nil));subst this;refine(HJ (K:=p.K) BQ nY lF so (h1 51) h.int (m-1) (b9.lJ k1)).mono ?_;rintro e w3 ⟨d,ok,rfl,gG,jQ⟩;refine⟨_,rfl,?_⟩;let v':Nat->Value:=fun x=>if x<60 then v x else if x<68 then d.cells.getD (x-60) b0 else .bool ok
   have yk:∀x,(v' x).oneCell'=true:=fun x=>by
    show(if x<60 then v x else if x<68 then d.cells.getD (x-60) b0 else .bool ok).oneCell'=true;split
    ·exact h1 x
    ·split
     ·rename_i g1 g2
      rcases(show x=60\/x=61\/x=62\/x=63\/x=64\/x=65\/x=66\/x=67 by omega)with rfl|rfl|rfl|rfl|rfl|rfl|rfl|rfl<;>rfl
     ·rfl
   have fb:rJ p.K w2 w3 p.K:=rJ.refl gG (b9.lJ k1);have hv8:∀{φ:Ren},φ.q=(yv v').q->J φ Ps d.cells:=fun{φ} e2=>
    J.cons (vQ (agB e2 60) rfl) (J.cons (vQ (agB e2 61) rfl) (J.cons (vQ (agB e2 62) rfl) (J.cons (vQ (agB e2 63) rfl) (J.cons (vQ (agB e2 64) rfl) (J.cons (vQ (agB e2 65) rfl) (J.cons (vQ (agB e2 66) rfl) (J.cons (vQ (agB e2 67) rfl) J.nil)))))))
   obtain⟨aV,dx,k2,e1,e2,e3,e4⟩:=b9.mS k1 gG fb c2 (y:=yv v') ⟨⟨(agB n1.1 21).symm,(agB n1.1 22).symm,(agB n1.1 25).symm,(agB n1.1 1).symm,(agB n1.1 2).symm,(agB n1.1 3).symm,(agB n1.1 4).symm,(agB n1.1 5).symm,(agB n1.1 6).symm,(agB n1.1 7).symm,(agB n1.1 8).symm,agm⟩,⟨⟨(agB n1.2.1 24).symm,o1⟩,⟨(agB n1.2.1 27).symm,o2⟩,⟨(agB n1.2.1 50).symm,h1 50⟩,⟨(agB n1.2.1 51).symm,h1 51⟩,agm⟩,agm,agm⟩;have ez:=dx.put (d:=37) (by decide) (x:=.t [.a Ps,.q 68]) (v:=.tuple #[.agg d.cells.toArray,.bool ok]) (by simp only[VR];exact⟨_,rfl,J.cons (vA (hv8 e2)) (J.cons (vQ (agB e2 68) rfl) J.nil)⟩);obtain⟨eH,ll,k4,f1,f2,f3,f4⟩:=ez.xU k2 c4 (yv v') (((hYv yk).au e1 e2 e3 e4).agree c3 rfl _ _);exact hC eH ⟨yv v',p.K⟩ _ w3 ll rfl ⟨f1,f2,f3,f4⟩ k4 ⟨v',rfl,yk,h2,(fun _=>⟨nm,enc,fl,am2,BQ,nY,lF,so⟩),fun _=>⟨d,ok,hv8 rfl,rfl,jQ⟩⟩ (gG.gb b9.bz)
 ·rintro aV p a2 w2 dx mF iK n2 k2 ⟨v,e,h1,h2,_,h3⟩
  obtain⟨d,ok,Pd,e68,jQ⟩:=h3 (by rw[CY];rfl);rw[CY]at dx;rw[e]at n2;have dx:=dx.sub 68 (.b ok) (by simp only[VR];exact(agB n2.2.1 68).trans e68);show aC none m Tryz.prog _ (cB4.drop 1) a2 w2;have ba:=aop.1 am1 ok (by cases ok<;>decide);unfold am0 at ba;have p8:=eJ aV.y.k (h.int 21) (N:=8) (by decide);have p12:=eJ aV.y.k (h.int 22) (N:=12) (by decide);have i42:aR aV.y (.y .i64 42)=some (.i64,ax (c 22) 12):=congrArg (fun z=>some (IntKind.i64,z)) (agB n2.1 42);have i43:aR aV.y (.y .i64 43)=some (.i64,1+ax (c 22) 12):=congrArg (fun z=>some (IntKind.i64,z)) (agB n2.1 43);have hF:aA Tryz.prog Uj aV:=⟨agm,⟨.add (k:=.i64) (x:=1) rfl i42 i43 (fQ (by unfold eR;omega)),agm⟩,agm,agm,agm,agm,agm,agm,dy rfl p8 (J.cons (vY (agB n2.1 21)) (J.cons vI J.nil)) (vY (agB n2.1 41)),dy rfl p12 (J.cons (vY (agB n2.1 22)) (J.cons vI J.nil)) (vY (agB n2.1 42)),agm⟩;have ag7:Ag (Uk ok) (yv v) (yv v):=by
   cases ok
   ·exact⟨⟨rfl,rfl,agm⟩,agm,agm,agm⟩
   ·exact⟨⟨rfl,rfl,agm⟩,⟨⟨rfl,h1 60⟩,⟨rfl,h1 61⟩,⟨rfl,h1 62⟩,⟨rfl,h1 63⟩,⟨rfl,h1 64⟩,⟨rfl,h1 65⟩,⟨rfl,h1 66⟩,⟨rfl,h1 67⟩,agm⟩,agm,agm⟩
  refine ad.runK (aw ah Uj {}) rfl 10 (cs:=cB4.drop 1) ba dx k2 (eZ hF eX) (mF.trans hd) (yv v) (ag7.au n2.1 n2.2.1 n2.2.2.1 n2.2.2.2) fun eH a3 w3 ez vO gJ ig n1 n2 n3 n4=>⟨rfl,.inl rfl,gJ,?_⟩
  obtain⟨v3,gE,ff⟩:=ez.leave ah (fn:=Tryz.f15) (l:=[.a (rc7 ok)]) (by cases ok<;>rfl);obtain⟨d',cy,Io⟩:∃d':xu,d'.OK/\J eH (cond ok Ps [.i .i64 2,.s [97],.s [],.s [],zI,zI,.s [],.s []]) d'.cells:=by
   cases ok with
   |true=>
    refine⟨d,jQ rfl,?_⟩;have:∀{l:List V} {vs:List Value} {ψ:Ren},(∀x∈l,∃z,x=.q z)->ψ.q=eH.q->J ψ l vs->J eH l vs:=fun{l}=>by
     induction l with
     |nil=>intro vs ψ _ _ h;simpa only[J]using h
     |cons x l ih=>
      intro vs ψ hx e h;simp only[J]at h;obtain⟨y,ys,rfl,g1,g2⟩:=h;obtain⟨z,rfl⟩:=hx x (by simp);refine J.cons ?_ (ih (fun x h=>hx x (by simp[h])) e g2);simp only[VR]at g1⊢;rw[<-e];exact g1
    exact this (l:=Ps) (ψ:=φ0 (yv v) w) (by intro x hx;simp only[Ps,arG,arD,or_false]at hx;rcases hx with rfl|rfl|rfl|rfl|rfl|rfl|rfl|rfl<;>exact⟨_,rfl⟩) (show(φ0 (yv v) w).q=eH.q from n2.symm) Pd
   |false=>
    obtain⟨ex,enx,hex⟩:=Um;have hn:=qO (aop.1 Mr [97] (by decide));exact⟨⟨2,bytes [97],bytes [97],bytes [97],1,0,ex,ex⟩,⟨by show(2:Nat)∈[1,2,3,4,5,6];decide,hn,hn,hn,by show((1:Int),(0:Int))∈fF;decide,⟨enx,hex⟩,⟨enx,hex⟩⟩,
     J.cons vI (J.cons (vS (by decide)) (J.cons aD (J.cons aD (J.cons aL (J.cons aL (J.cons aD (J.cons aD J.nil)))))))⟩
  have hv:v3=.agg (afH (ax (c 21) 8) (1+ax (c 22) 12) d').toArray:=eQ (x:=.a (rc7 ok)) (φ:=eH) (by cases ok<;>rfl) ff (vA (J.append (x:=[.i .i64 4,zI,zI,zI,eD,.y .i64 41,.y .i64 43,.s [],.s [],eD]) (J.cons vI (J.cons aL (J.cons aL (J.cons aL (J.cons bY (J.cons (vY (agB n1 41)) (J.cons (vY (agB n1 43)) (J.cons aD (J.cons aD (J.cons bY J.nil)))))))))) Io));subst hv;obtain⟨s,s1,s2,s3⟩:=EJ (K:=p.K) (id:=ax (c 21) 8) (ver:=1+ax (c 22) 12) ⟨b1,by omega⟩ ⟨by omega,by omega⟩ cy;exact⟨_,gE,afH (ax (c 21) 8) (1+ax (c 22) 12) d',s,p.K,rfl,((hg.trans iK).trans ig).grown,⟨h2.1,ez.lJ vO,h2.2⟩,⟨.chg,s3,s1,s2,0,rfl,by decide,by decide⟩⟩
end
def vtK(r s:Nat):Nat×Nat:=match Nat.blt r 4 with|true=>(r+1,0)|false=>(5,s+1)
noncomputable def vtR(r s:Nat):Bool:=dN (aI E3 {qc:=[(57,[.y .i64 0,.i .i64 6],.i .i64 r),(57,[.y .i64 1,.i .i64 4],.i .i64 s)]} {}) 100 33 [.y .i64 0,.y .i64 1] 0 [] (.a [.i .i64 (vtK r s).1,.i .i64 (vtK r s).2]) []
theorem aqq:((AAA 6).all fun r=>(AAA 4).all fun s=>vtR r s)=true:=by decide+kernel
theorem Yl(K:Nat->Option Obj){x z:Int}(hx:eR x)(hz:eR z):∃k o:Nat,((k:Int),(o:Int))∈fF/\Quiet Tryz.prog K 33 [.int .i64 x,.int .i64 z] (· =.agg #[.int .i64 k,.int .i64 o]):=by
 obtain⟨r,hr,r6⟩:=nG (c:=x) (N:=6) (by decide);obtain⟨s,hs,s4⟩:=nG (c:=z) (N:=4) (by decide);have ba:=aop.1 (aop.1 aqq r (arL.2 (by omega))) s (arL.2 (by omega));unfold vtR at ba;refine⟨(vtK r s).1,(vtK r s).2,?_,?_⟩
 ·rw[Hy]
  unfold vtK;cases hb:Nat.blt r 4 with
  |true=>have:=bh.1 hb;exact .inl ⟨by show r+1=1\/r+1=2\/r+1=3\/r+1=4;omega,rfl⟩
  |false=>
   have:¬r<4:=fun h=>by rw[bh.2 h]at hb;cases hb
   exact .inr ⟨rfl,by show s+1=1\/s+1=2\/s+1=3\/s+1=4;omega⟩
 ·refine cC ah rfl ba (Hx (fun|0=>x|_=>z) (fun _=>b0)) (fun φ f1 f2 f3 f4 hK=> ?_) (fun φ _ _ _ _ _=>eX) (fun w hw=>⟨φ0 _ w,bc _ w,rfl,J.cons (vY rfl) (J.cons (vY rfl) J.nil)⟩) (fun φ f1 f2 v hv=>eQ (x:=.a [.i .i64 (vtK r s).1,.i .i64 (vtK r s).2]) rfl hv (vA (J.cons vI (J.cons vI J.nil)))) ⟨_,_,Tryz.func33,rfl,rfl⟩
  have p6:=Hl φ.y.k hx (N:=6) (by decide);have p4:=Hl φ.y.k hz (N:=4) (by decide);rw[show((6:Nat):Int)=6 from rfl,hr]at p6;rw[show((4:Nat):Int)=4 from rfl,hs]at p4;exact⟨agm,agm,agm,agm,agm,agm,agm,agm,dy rfl p6 (J.cons (vY (agB f1 0)) (J.cons vI J.nil)) vI,dy rfl p4 (J.cons (vY (agB f1 1)) (J.cons vI J.nil)) vI,agm⟩
noncomputable def yz:List Code:=Be (Fg.drop 5)
noncomputable def cR:List Code:=abX (yz.drop 2)
noncomputable def o18:Array Oper:=uj (cR.drop 1)
def Pt:Nat->V
 |0=>eD
 |k=>.sl (some (4,0)) k (.un 4)
def am3:List V:=[.top,.top,.top,.top,.q 24,.top,.top,.top,.top,.top,.top,.top,.top,.top,.top]
def Un(x:V):aQ:=.cells [.y .i64 44,.y .i64 42,.y .i64 43,x] 51 false
def Uo:Nat->List (Nat×aQ)
 |0=>[]
 |k=>[(4,.cells (EE k) 98 true)]
def agV:List (Nat×aQ):=[(1,.cells am3 73 false),(2,.cells agI 60 false)]
def Bp(k:Nat):List (Nat×aQ):=agV++[(3,Un (Pt k))]++Uo k
def am4:List (Nat×V):=[(1,.p (some (1,0))),(2,.p (some (2,0))),(5,.p (some (3,0)))]
def Bq(k:Nat):List (Nat×V):=am4++[(6,.i .i64 k)]
def aqr(k:Nat):List (Nat×V):=(AAA (4*k)).map fun x=>(100+x,.q (100+x))
def oH(ss:List Nat)(k:Nat):bP:={s:=ss.map fun x=>(x,.y x),q:=(24,.q 24)::aqr k}
def Pu:List Nat:=[44,42,43]
def s6v:List Nat:=[44,42,43,50,51,52]
def s8v:List Nat:=[44,42,43,50,51,52,53,54]
def aaR(r:Nat):aU:={bin:=[(.add,.i .i64 1,.y .i64 41,.y .i64 44)],qc:=[(14,[.y .i64 20,.i .i64 7],.i .i64 r),(14,[.y .i64 21,.i .i64 12],.y .i64 41),(14,[.y .i64 22,.i .i64 8],.y .i64 42),(14,[.y .i64 23,.i .i64 13],.y .i64 43)]}
noncomputable def am5(r:Nat):Bool:=av (aI E3 (aaR r) {}) 300 (Fg.take 5) ⟨103,load Cb 0 .leaf⟩ (ak 0 []) .n (oH Pu 0) 103 (Bq 0) 8 (Bp 0)
theorem am6:([0,5,6].all am5)=true:=by decide+kernel
noncomputable def am7(k:Nat):Bool:=av (aI E3 {bin:=[(.lss,.i .i64 k,.y .i64 6,.b true)]} {on:=[(24,6)]}) 100 (yz.take 2) (U 103 (Bq k)) (ak 8 (Bp k)) .n (oH Pu k) 103 (Bq k) 8 (Bp k)
theorem am8:((AAA 5).all am7)=true:=by decide+kernel
noncomputable def Ym(k:Nat)(b:Bool):Bool:=av (aI E3 {bin:=[(.lss,.i .i64 k,.y .i64 6,.b b)]} {on:=[(24,6)]}) 100 (yz.take 20) (U 103 (Bq k)) (ak 8 (Bp k)) (.e 1) (oH Pu k) 103 (Bq k) 8 (Bp k)
theorem am9:(((AAA 6).all fun k=>Ym k false)&&Ym 5 true)=true:=by decide+kernel
def MR(k:Nat):List (Nat×V):=Bq k++[(7,.p (some (5,0)))]
def Up(k:Nat):List (Nat×aQ):=Bp k++[(5,.cells [.y .i64 50,.y .i64 51,.y .i64 52] 116 false)]
noncomputable def ana(k:Nat):Bool:=av (aI E3 {} {oi:=[(66,24,.i .i64 k,3)],ol:=[(116,3,.a [.y .i64 50,.y .i64 51,.y .i64 52])]}) 100 (cR.take 1) (U 103 (Bq k)) (ak 8 (Bp k)) .n (oH s6v k) 103 (MR k) 8 (Up k)
theorem anb:((AAA 5).all ana)=true:=by decide+kernel
def q4(k:Nat):List V:=(AAA 4).map fun j=>.q (100+(4*k+j))
def vp(k:Nat)(m:List Bool):List (Nat×V):=pkL m [88,89,90,91,92,93,94,95,96,97,98,99,100] [.p (some (3,3)),cond (m.getD 11 false) .top (Pt k),.p (some (5,0)),.y .i64 50,.p (some (5,1)),.y .i64 51,.a [.y .i64 53,.y .i64 54],.p (some (5,2)),.y .i64 52,.a (q4 k),cond (m.getD 11 false) .top (.sl (some (6,0)) 1 (.kn 1)),Pt (k+1),.p (some (3,3))]++MR k
def HP(k:Nat)(m:List Bool):List (Nat×aQ):=agV++[(3,Un (cond (m.getD 13 false) (Pt (k+1)) (cond (m.getD 11 false) .top (Pt k))))]++cond (m.getD 11 false) (Uo (k+1)) (Uo k++cond (m.getD 10 false) [(6,.cells (q4 k) 98 false)] [])++[(5,.cells [.y .i64 50,.y .i64 51,.y .i64 52] 116 false)]
def aaS:aU:={qc:=[(33,[.y .i64 50,.y .i64 51],.a [.y .i64 53,.y .i64 54])]}
theorem Br:o18.size=14:=by decide+kernel
noncomputable def ane:List (List Bool):=allM o18
noncomputable def aaT(k:Nat):Bool:=mU (aI E3 aaS {}) 200 o18 (oH s8v (k+1)) 103 8 (vp k) (HP k) ane (fun i=>Nat.beq i 9)
theorem agX:((AAA 5).all aaT)=true:=by decide+kernel
noncomputable def aaU(k:Nat):Bool:=ane.all fun m=> !(mR o18 m 9)||(same (BP (vp k m) 94) (.a [.y .i64 53,.y .i64 54])&&same (BP (vp k m) 96) (.y .i64 52)&&aW (oH s8v k) 103 (vp k m) 8 (HP k m)&&fL (oH s8v (k+1))&&
 (bG (oH s8v (k+1)) (U 103 ((97,.a (q4 k))::vp k m)) (ak 8 (HP k m)) 103 (vp k (m.set 9 true)) 8 (HP k (m.set 9 true))).isSome)
theorem agY:((AAA 5).all aaU)=true:=by decide+kernel
noncomputable def anf(k:Nat):Bool:=av (aI E3 {} {}) 100 ((yz.drop 3).take 5) (U 103 (vp k (arF 14 true))) (ak 8 (HP k (arF 14 true))) .n (oH Pu (k+1)) 103 (Bq (k+1)) 8 (Bp (k+1))
theorem ang:((AAA 5).all anf)=true:=by decide+kernel
theorem anh:((AAA 6).all fun k=>aW (oH Pu k) 103 (Bq k) 8 (Bp k))=true:=by decide+kernel
theorem agZ:((AAA 5).all fun k=>aW (oH s6v k) 103 (MR k) 8 (Up k))=true:=by decide+kernel
def HQ(k:Nat):List V:=[.i .i64 1,.y .i64 44,.y .i64 42,.y .i64 43,Pt k,zI,zI,.s [],.s [],eD,zI,.s [],.s [],.s [],zI,zI,.s [],.s []]
noncomputable def ani(k:Nat):Bool:=av (aI E3 {} {}) 100 ((Fg.drop 6).take 5) (U 103 (Bq k)) (ak 8 (Bp k)) .r (oH Pu k) 103 [(2,.p (some (2,0)))] 8 ((2,.cells (HQ k) 60 false)::Uo k)
theorem anj:((AAA 6).all ani)=true:=by decide+kernel
end Go.Ev
