/- A part of what LimitFits rests on. -/
import Derived.Test.YtnpajahfimaakaaGreatDoorA20
import Derived.Test.YtnpajahfimaakaaGreatDoorA15
import Derived.RecoverIn
import Derived.Ground.NamesProg
import Derived.Shelf.Unicode.ValidAny
import Derived.Test.YtnpajahfimaakaaGreatDoorProg
import Derived.Test.YtnpajahfimaakaaGreatDoorA07
import Derived.Test.YtnpajahfimaakaaGreatDoorA01
set_option linter.all false
namespace Go.Ev
open List renaming range->aop,all_eq_true->arC,not_mem_nil->arE,getD_eq_getElem?_getD->arF,mem_cons->arI,getElem?_eq_getElem->arK,flatMap_append->arN,getElem_mem->arQ,range_succ->arR,mem_range->arU,getElem?_append_right->arV,getElem?_append_left->arW,getElem?_eq_none->arZ,length_pos_iff->asb,flatMap_cons->asd
open _root_.Array renaming toList_inj->AAA,getElem?_eq_some_iff->arM,length_toList->asa
open Bool renaming and_eq_true->arD
open Nat renaming beq->arG,eq_of_beq_eq_true->arJ,not_lt_zero->arS,blt->arT
open IntKind renaming i64->arH
open Value renaming string->arL
open Int renaming toNat_of_nonneg->arO,tmod_eq_emod_of_nonneg->arX,tdiv_eq_ediv_of_nonneg->arY
open _root_.ByteArray renaming empty->arP
open Go.Proofs
noncomputable def pg:List Code:=ct ((Tryz.f18.body).getD .skip)
noncomputable def Oy:List Code:=Be (pg.drop 6)
noncomputable def o3l:Array Oper:=uj (pg.drop 3)
def Oz(cp:Bool):List V:=lL cp 50 51
def B8(s:List Nat)(q:List Nat):bP:={s:=[(13,.y 13),(14,.y 14)]++s.map fun x=>(x,.y x),q:=[(50,.q 50),(51,.q 51)]++q.map fun x=>(x,.q x)}
def OA(cp:Bool):List (Nat×aQ):=[(1,.cells (Oz cp) 29 false)]
noncomputable def al9(cp:Bool):Bool:=av (aI E3 {qc:=[(35,[.a (Oz cp)],.b true)]} {}) 100 (pg.take 3) ⟨94,load [.a (Oz cp)] 0 .leaf⟩ (ak 0 []) .n (B8 [] []) 94 [(1,.p (some (1,0)))] 8 (OA cp)
def Hu:List (Nat×V):=[(1,.p (some (1,0)))]
noncomputable def ama(cp:Bool):Bool:=bH (aI E3 {} {}) 100 o3l ((o3l.toList.drop 1).take 3) (U 94 ((13,.q 9)::Hu)) (ak 8 (OA cp)) (B8 [] [9]) 94 (Hu++[(4,.q 9)]) 8 (OA cp)
def OB:Nat->V
 |0=>eD
 |m=>.sl (some (5,0)) m (.un 1)
def XQ:Nat->List (Nat×aQ)
 |0=>[]
 |m=>[(5,.cells ((aop m).map fun j=>.q (100+j)) 9 true)]
def EI(i:Nat):List (Nat×V):=Hu++[(4,.q 9),(5,OB i),(15,.q 50),(16,.y .i64 8),(17,.i .i64 i)]
def u6(cp:Bool)(i:Nat):List (Nat×aQ):=OA cp++XQ i
def Kp(i:Nat):List Nat:=9::(aop i).map (100+ ·)
noncomputable def amb(cp:Bool):Bool:=av (aI E3 {} {on:=[(50,8)]}) 100 ((pg.drop 4).take 2) (U 94 (Hu++[(4,.q 9)])) (ak 8 (OA cp)) .n (B8 [8] [9]) 94 (EI 0) 8 (u6 cp 0)
def u7:List V:=[.q 300,.y .i64 30]++(aop 16).map fun j=>.q (302+j)
def amc(v i:Nat):aU:=
 {bin:=[(.lss,.i .i64 i,.y .i64 8,.b true),(.geq,.y .i64 30,.y .i64 14,.b false)]++(match v with|2=>[(.gtr,.y .i64 21,.y .i64 20,.b true)]|3=>[(.gtr,.y .i64 21,.y .i64 20,.b false),(.lss,.y .i64 21,.y .i64 20,.b false)]|_=>[]),
  qc:=(37,[.q 9,.a u7],.t [.q (100+i),zI])::(match v with|1=>[(38,[.q 9,.a (uV 400),.a u7],.i .i64 (-1))]|3=>[(38,[.q 9,.a (uV 400),.a u7],.i .i64 (-1))]|_=>[])}
def amd(v i:Nat):XF:=
 {oi:=(27,50,.i .i64 i,40)::(match v with|0=>[]|1=>[(27,50,.i .i64 (i-1:Nat),42)]|2=>[(23,51,.i .i64 i,43),(23,51,.i .i64 (i-1:Nat),44)]|_=>[(27,50,.i .i64 (i-1:Nat),42),(23,51,.i .i64 i,43),(23,51,.i .i64 (i-1:Nat),44)]),
  ol:=(60,40,.a u7)::(match v with|0=>[]|1=>[(60,42,.a (uV 400))]|2=>[(3,43,.y .i64 21),(3,44,.y .i64 20)]|_=>[(60,42,.a (uV 400)),(3,43,.y .i64 21),(3,44,.y .i64 20)])}
noncomputable def OC(cp:Bool)(v i:Nat):Bool:=av (aI E3 (amc v i) (amd v i)) 300 (Oy.take 20) (U 94 (EI i)) (ak 8 (u6 cp i)) .n (B8 [8] (Kp (i+1))) 94 (EI (i+1)) 8 (u6 cp (i+1))
noncomputable def XR(cp:Bool)(m:Nat):Bool:=av (aI E3 {bin:=[(.lss,.i .i64 m,.y .i64 8,.b false)]} {}) 100 (Oy.take 20) (U 94 (EI m)) (ak 8 (u6 cp m)) (.e 0) (B8 [] (Kp m)) 94 [(5,OB m)] 8 (XQ m)
noncomputable def ame(m:Nat):Bool:=av (aI E3 {} {}) 100 ((pg.drop 7).take 5) (U 94 [(5,OB m)]) (ak 8 (XQ m)) .r (B8 [] (Kp m)) 94 [(2,OB m),(3,.b true)] 8 (XQ m)
theorem amf:(uY fun cp=>al9 cp&&ama cp&&amb cp&&OC cp 0 0&&aW (B8 [] []) 94 Hu 8 (OA cp))=true:=by decide+kernel
theorem apE:((List.range' 1 11).all fun i=>OC false 1 i&&OC true 2 i&&OC true 3 i)=true:=by decide+kernel
theorem apF:((List.range' 1 12).all fun m=>XR false m&&XR true m&&ame m)=true:=by decide+kernel
theorem apG:((aop 13).all fun i=>uY fun cp=>aW (B8 [8] (Kp i)) 94 (EI i) 8 (u6 cp i))=true:=by decide+kernel
def CS(k:Nat):Bool:= !(arG k 1)
def XS(k:Nat):Bool:=arG k 1||arG k 3||arG k 5
def Ij(k:Nat):Bool:=arG k 5
def yY(k:Nat):Bool:=arG k 1||arG k 4||arG k 5
def chV(k:Nat):List V:=[.i .i64 k,cond (CS k) (.q 30) (.s []),cond (XS k) (.q 31) (.s []),cond (Ij k) (.q 32) (.s []),cond (yY k) (.y .i64 20) zI,cond (yY k) (.y .i64 21) zI,cond (yY k) (.q 33) (.s []),cond (Ij k) (.q 34) (.s [])]
def cbV(k:Nat):List V:=[.i .i64 4,zI,zI,zI,eD,.y .i64 10,.y .i64 11,.s [],.s [],eD]++chV k
def cbP(k:Nat):List (Nat×Nat×Nat):=[(40,cond (CS k) 41 36,50),(50,cond (XS k) 42 36,51),(51,cond (Ij k) 43 36,52),(cond (yY k) 44 46,cond (yY k) 45 46,53),(52,53,54),(54,cond (yY k) 47 36,55),(55,cond (Ij k) 48 36,56),(62,56,63),(64,63,65)]
def cbF(k:Nat):aU:=
 {bd:=[(10,0,7),(11,1,12)],bin:=(cbP k).map fun p=>(.add,.q p.1,.q p.2.1,.q p.2.2),mg:=kMG 0,
  qc:=[(40,[.i .i64 4],.q 4),(40,[.i .i64 k],.q 40),(40,[.i .i64 0],.q 46),(40,[.y .i64 10],.q 60),(40,[.y .i64 11],.q 61),(40,[.y .i64 20],.q 44),(40,[.y .i64 21],.q 45),
   (188,[.q 30],.b true),(188,[.q 31],.b true),(188,[.q 32],.b true),(239,[.a [.y .i64 20,.y .i64 21]],.b true),(240,[.q 33,.b true],.b true),(240,[.q 34,.b true],.b true),
   (177,[.s []],.t [.q 36,zI]),(177,[.q 30],.t [.q 41,zI]),(177,[.q 31],.t [.q 42,zI]),(177,[.q 32],.t [.q 43,zI]),(177,[.q 33],.t [.q 47,zI]),(177,[.q 34],.t [.q 48,zI])]}
def apH(k:Nat):aU:=match k with|4=>{cbF 4 with bin:=(cbP 4).map fun p=>(.add,.q (cond (arG p.1 40) 4 p.1),.q p.2.1,.q p.2.2)}|k=>cbF k
def cbX:XF:=Vv [60,61] 62 [4,60,61] [(4,64)]
noncomputable def cbR(k:Nat):Bool:=dN (aI E3 (apH k) cbX) 900 37 [.m (some 0),.a (cbV k)] 1 kHB (.t [.q 65,zI]) []
theorem apI:([1,2,3,4,5,6].all cbR)=true:=by decide+kernel
def rgB(k:Nat)(c1 c2 c3:Bool):List (BinOp×V×V×V):=cond (arG k 5) [(.neq,.q 31,.q 32,.b c1),(.eql,.q 31,.q 30,.b c2),(.eql,.q 32,.q 30,.b c3)] []++[(.eql,.q 30,.q 30,.b true),(.eql,.q 31,.q 31,.b true),(.eql,.q 32,.q 32,.b true),(.eql,.q 33,.q 33,.b true),(.eql,.q 34,.q 34,.b true),(.eql,.y .i64 20,.y .i64 20,.b true),(.eql,.y .i64 21,.y .i64 21,.b true)]
def rgQ(k:Nat)(cl:V):List (FuncId×List V×V):=[(109,[cl],.b true),(156,[.q 30],.b true),(156,[.q 31],.b true),(156,[.q 32],.b true),(159,[.s []],.b true),(111,[.s [],cl,.a [zI,zI]],.b true)]++
  cond (yY k) [(157,[.a [.y .i64 20,.y .i64 21]],.b true),(159,[.q 33],.b true),(159,[.q 34],.b true),(111,[.q 33,cl,.a [.y .i64 20,.y .i64 21]],.b true),(111,[.q 34,cl,.a [.y .i64 20,.y .i64 21]],.b true)] []
def cl6(n:Nat):V:=.a [.q 26,XM n]
def cl2:V:=.a [.q 26,.q 100]
def rgF(cl:V)(k i1:Nat)(b1 b2 b3 c1 c2 c3 le:Bool):aU:=
 {qs:=[30,31,32,33,34],
  bd:=[(60,0,6)],
  bin:=(.leq,.y .i64 (10+i1),.i .i64 3,.b le)::rgB k c1 c2 c3,
  qc:=rgQ k cl++[(53,[cl,cond (CS k) (.q 30) (.s [])],.t [cond (b1&&arG k 6) (.i .i64 i1) (.y .i64 51),.b b1]),(53,[cl,cond (XS k) (.q 31) (.s [])],.t [.y .i64 52,.b b2]),(53,[cl,cond (Ij k) (.q 32) (.s [])],.t [.y .i64 53,.b b3])]}
noncomputable def XT(E:Env)(k:Nat)(f:FuncId)(Vs:List V)(nb:Nat)(HB:List (Nat×aQ)):Option Bool:=
 match tX E (exec E k) f Vs (ak nb HB)with
 |some (.b t,_)=>some t
 |_=>none
def BF:List Bool:=[true,false]
noncomputable def rgR(k:Nat)(b1 b2 b3 c1 c2 c3:Bool):Bool:=(XT (aI E3 (rgF cl2 k 0 b1 b2 b3 c1 c2 c3 true) {on:=[(100,60)]}) 400 56 [cl2,.a (chV k)] 0 []).isSome
noncomputable def rg6(n i:Nat)(b2 b3 le:Bool):Bool:=(XT (aI E3 (rgF (cl6 n) 6 i (arT i n) b2 b3 true true true le) {}) 400 56 [cl6 n,.a (chV 6)] (fxN n) (fxB n)).isSome
def apJ(k:Nat):List V:=[.i .i64 k,.s [],cond (XS k) (.q 31) (.s []),cond (Ij k) (.q 32) (.s []),cond (yY k) (.y .i64 20) zI,cond (yY k) (.y .i64 21) zI,cond (yY k) (.q 33) (.s []),cond (Ij k) (.q 34) (.s [])]
noncomputable def rg0(k:Nat):Bool:=dN (aI E3 {qs:=[30,31,32,33,34],bin:=(rgB 1 true true true),qc:=[(109,[cl6 0],.b true)]} {}) 400 56 [cl6 0,.a (apJ k)] 0 [] (.b false) []
theorem apK:([2,3,4,5,6].all fun k=>rg0 k)=true:=by decide+kernel
theorem apL:([1,2,3,4].all fun k=>BF.all fun b1=>BF.all fun b2=>BF.all fun b3=>rgR k b1 b2 b3 true true true)=true:=by decide+kernel
theorem apM:(BF.all fun b1=>BF.all fun b2=>BF.all fun b3=>BF.all fun c1=>BF.all fun c2=>BF.all fun c3=>rgR 5 b1 b2 b3 c1 c2 c3)=true:=by decide+kernel
theorem MF:(([0,1,2,3]:List Nat).all fun n=>(aop (n+1)).all fun i=>BF.all fun b2=>BF.all fun b3=>BF.all fun le=>rg6 n i b2 b3 le)=true:=by decide+kernel
theorem aaD:(([4,5]:List Nat).all fun n=>(aop (n+1)).all fun i=>BF.all fun b2=>BF.all fun b3=>BF.all fun le=>rg6 n i b2 b3 le)=true:=by decide+kernel
theorem amg:(([6]:List Nat).all fun n=>(aop (n+1)).all fun i=>BF.all fun b2=>BF.all fun b3=>BF.all fun le=>rg6 n i b2 b3 le)=true:=by decide+kernel
variable{φ:Ren}
theorem Kq(p q r:Value)(n:Nat)(w:World):CallsDIn (W none) n Tryz.prog 359 #[p,q,r] .returning w fun e u' w'=>e=.returned (.tuple #[])/\u'=.returning/\w'=w:=by
 refine callsDIn_of_wpSIn Tryz.func359 rfl trivial fun apN cs hu=> ?_
 apply wpSIn_seq;apply wpSIn_region;simp[wpOpsSIn,go_sem,recoverD,hu,Tryz.ntmps359,Exit.thenS];apply wpSIn_seq;apply wpSIn_region;simp[wpOpsSIn,go_sem,Tryz.ntmps359,Exit.thenS];refine wpSIn_cond (t:=false) (by simp[Act.eval,Array.replicate]) ?_;simp only[Bool.false_eq_true,if_false];refine wpSIn_of_wpIn rfl (wpIn_skip ?_);cases apN;simp_all[bodyPostS,results,Tryz.results359]
noncomputable def Ph:List Code:=ct ((Tryz.f340.body).getD .skip)
noncomputable def whE(fr:Fr)(h:H):Option (V×H):=
 match tV (aI E3 {} {}) fr h Tryz.f340.results.toList with
 |some l=>some (fG l,h)
 |none=>none
noncomputable def whW(k:Nat):List V->H->Option (V×H)
 |[x],h=>
  match rH (aI E3 {} {}) k (Ph.take 1) ⟨27,load [x] 0 .leaf⟩ h with
  |some (.n,tC,h1)=>
   cond (arT 5 tC.n)
    (match rH (aI E3 {} {}) k (Ph.drop 2) (tC.set 5 .top) h1 with
    |some (.n,Cr,h2)=>whE Cr h2
    |some (.r,Cr,h2)=>whE Cr h2
    |_=>none) none
  |_=>none
 |_,_=>none
theorem afE{k:Nat}{h:H}{w:World}(hr:HR φ h w){args:List V}{v:V}{h':H}(e:whW k args h=some (v,h')){args':List Value}(ha:J φ args args')(n:Nat):
  CallsIn (W none) n Tryz.prog 340 args'.toArray w fun e w'=>∃af u,e=.returned u/\Ext φ w af w'/\VR af v u/\HR af h' w':=by
 unfold whW at e;split at e
 ·rename_i x
  split at e
  ·rename_i tC h1 e1
   have hF:=DE ha 27 (by simp);have hE:=aw ah {} {};have bK:∀φ,BD (aI E3 {} {}) φ:=fun φ=>eZ aS eX
   have hg:∀φ,GL (aI E3 {} {}).ng φ:=fun φ g hg=>absurd hg (arS _)
   refine callsIn_of_wp_marks Tryz.func340 rfl trivial (bp _ ?_);show aC none n Tryz.prog _ (Ph.take 1++Ph.drop 1) _ w;refine k9 (D:=[]) hE (Ph.drop 1) (Ph.take 1) _ _ _ _ _ e1 φ _ w (hg φ) (bK φ) hF rfl hr fun ay a1 w1 oX vH iM lH=> ?_
   show aC none n Tryz.prog _ (.region 1 _ false::Ph.drop 2) a1 w1;refine wpIn_region_list ?_;cases hn5:arT 5 tC.n with
   |false=>rw[hn5]at e;cases e
   |true=>
   rw[hn5]at e;simp only[cond]at e;have ed:5<a1.tmps.size:=by rw[vH.1];exact bh.1 hn5
   have hmf:∀(fn:Fn) (first cap:Array Value) (w:World),(Instr.makeFunc fn first cap).run Tryz.prog w=.ok (.func fn first cap) w:=fun _ _ _ _=>rfl
   have hWr:(W none).round=none:=rfl;simp[wpListIn,Region.wanted,go_sem,Oper.wpIn,hWr,Oper.semAt_none,execOp,hmf,Oper.uponIn,ed,iM];let d:Deferred:={target:=.fn (.func 359) #[a1.tmps[2]?.getD undef,a1.tmps[3]?.getD undef,a1.tmps[4]?.getD undef],args:=#[]};let a2:Act:={tmps:=a1.tmps.setIfInBounds 5 (.func (.func 359) #[] #[a1.tmps[2]?.getD undef,a1.tmps[3]?.getD undef,a1.tmps[4]?.getD undef]),defers:=[d]};show aC none n Tryz.prog _ (Ph.drop 2) a2 w1;have hf2:FR ay (tC.set 5 .top) a2.tmps:=vH.put (a:=a1) (bh.1 hn5) (x:=.top) (v:=.func (.func 359) #[] #[a1.tmps[2]?.getD undef,a1.tmps[3]?.getD undef,a1.tmps[4]?.getD undef]) (by simp only[VR]);have fin:∀(x2:X) (Cr:Fr) (h2:H),x2=.n\/x2=.r->rH (aI E3 {} {}) k (Ph.drop 2) (tC.set 5 .top) h1=some (x2,Cr,h2)->whE Cr h2=some (v,h')->aC none n Tryz.prog (bodyPostM (W none) n Tryz.prog Tryz.f340 fun e w'=>∃af u,e=Ending.returned u/\Ext φ w af w'/\VR af v u/\HR af h' w') (Ph.drop 2) a2 w1:=fun x2 Cr h2 hx e2 ee=>by
    rw[<-List.append_nil (Ph.drop 2)];refine k9 (D:=[d]) hE [] (Ph.drop 2) _ _ _ _ _ e2 ay a2 w1 (hg ay) (bK ay) hf2 rfl lH fun eH a3 w3 NI hf3 gJ zP=> ?_
    unfold whE at ee;split at ee
    ·rename_i l hl
     cases ee;obtain⟨u,hu1,hu2⟩:=sB hE hf3 zP Tryz.f340 hl;have key:LeavesInM (W none) n Tryz.prog Tryz.f340 a3.tmps (fun e w'=>∃af u,e=Ending.returned u/\Ext φ w af w'/\VR af (fG l) u/\HR af h' w') a3.defers .returning w3:=by
      rw[gJ];refine⟨by simp,.inr ⟨(fun h=>by cases h),.func 359,_,359,#[a1.tmps[2]?.getD undef,a1.tmps[3]?.getD undef,a1.tmps[4]?.getD undef],rfl,(by simp[d,go_sem]),(fun g hg=>trivial),(Kq _ _ _ (n-1) w3).mono ?_⟩⟩;rintro e u' w4 ⟨rfl,rfl,rfl⟩;exact⟨u,hu1,eH,u,rfl,oX.trans NI,hu2,zP⟩
     rcases hx with rfl|rfl
     ·exact key
     ·exact key
    ·cases ee
   split at e
   ·rename_i Cr h2 e2
    exact fin .n Cr h2 (.inl rfl) e2 e
   ·rename_i Cr h2 e2
    exact fin .r Cr h2 (.inr rfl) e2 e
   ·cases e
  ·cases e
 ·cases e
noncomputable def eh4(f:FuncId)(args:List V)(h:H):Option (V×H):=cond (arG f 340) (whW 2000 args h) (eh2 f args h)
noncomputable def E4:Env:={E3 with eh:=eh4}
theorem Hv:E4.OK:=by
 refine⟨ah.ty,ah.fn,ah.mixed,ah.hl,ah.qh,?_,ah.xh⟩;intro f args h v h' e0 φ w args' ha hr;have e:eh4 f args h=some (v,h'):=e0;clear e0;unfold eh4 at e;cases h1:arG f 340 with
 |true=>
  rw[h1]at e;have:=arJ h1;subst this;simp only[cond]at e;exact⟨⟨_,_,Tryz.func340,rfl,rfl⟩,fun n=>afE hr e ha n⟩
 |false=>
  rw[h1]at e;exact ah.eh _ _ _ _ _ e φ w args' ha hr
noncomputable def XU(k:Nat)(f:FuncId)(Vs:List V):Option V:=
 match jP (aI E4 {} {}) (exec (aI E4 {} {}) k) f Vs (ak 0 [])with
 |some (v,_)=>some v
 |none=>none
noncomputable def TO:Option V->Bool
 |some (.b true)=>true
 |_=>false
def d7:List Nat:=[55]
def vP:List Nat:=[34,97,32,98,34]
def qZ:List (List Nat):=d7::aT
def oS:List (List Nat):=vP::aT
def afF(r:Nat)(N T:List Nat):List Nat:=match r with
 |0=>[]
 |1=>[51]
 |2=>N
 |3=>N++[32,42,32,50,32,45,32,49]
 |4=>[108,101,110,40]++T++[41]
 |5=>[105,102,40]++N++[32,62,32,50,44,32]++N++[44,32,48,32,45,32]++N++[41]
 |6=>[102,105,110,100,40,34,98,34,44,32]++T++[41]
 |_=>N++[32,47,32]++N
def afG(r:Nat)(N T:List Nat):List Nat:=match r with
 |0=>[]
 |1=>[34,120,34]
 |2=>T
 |3=>T++[32,38,32,34,45,34,32,38,32]++T
 |4=>[116,101,120,116,40]++N++[41]
 |5=>[108,101,102,116,40]++T++[44,32,50,41]
 |6=>[102,114,111,109,40]++T++[44,32,51,41]
 |_=>[105,102,40]++N++[32,61,32,49,44,32]++T++[44,32,34,110,111,34,41]
def Pj(k r:Nat)(N T:List Nat):List Nat:=match k with|1=>afF r N T|_=>afG r N T
def Fe:V:=.a [.q 26,.q 100]
def amh(nm:List Nat)(k:Nat):FuncId×List V×V:=(232,[.a [.i .i64 3,zI,.s nm,eD],Fe],.t [.a [.i .i64 k,zI],.b true])
def MG(nm:List Nat)(k:Nat):List (FuncId×List V×V):=cond (kU nm d7||kU nm vP) [] [amh nm k]
def tlF(N T:List Nat):aU:={qc:=(109,[Fe],.b true)::(MG N 1++MG T 2)}
noncomputable def txE(e:List Nat):Bool:=match uQ 400 177 [.s e]with|some (.t [.s l,.i .i64 0])=>okS 1 64 l&&e.all (fun c=>arT c 256)|_=>false
noncomputable def fmT(e:List Nat):Bool:=TO (XU 2000 240 [.s e,.b true])
noncomputable def psT(e:List Nat):Bool:=TO (XU 2000 159 [.s e])
noncomputable def tlT(k:Nat)(e N T:List Nat):Bool:=dN (aI E4 (tlF N T) {}) 2000 111 [.s e,Fe,.a [.i .i64 k,zI]] 0 [] (.b true) []
noncomputable def Ik(k r:Nat)(N T:List Nat):Bool:=txE (Pj k r N T)&&fmT (Pj k r N T)&&psT (Pj k r N T)&&tlT k (Pj k r N T) N T
noncomputable def XV(k r:Nat)(l:List (List Nat)):Bool:=l.all fun N=>Ik k r N vP
noncomputable def Pk(k r:Nat)(l:List (List Nat)):Bool:=l.all fun T=>Ik k r d7 T
noncomputable def yZ(N:List Nat)(l:List (List Nat)):Bool:=l.all fun T=>cond (kU N T) true (Ik 2 7 N T)
noncomputable def tlO(k o:Nat)(nm:List Nat):Bool:=dN (aI E4 {qc:=[(232,[.a [.i .i64 3,zI,.s nm,eD],Fe],.t [.a [.i .i64 k,.i .i64 o],.b true]),(109,[Fe],.b true)]} {}) 2000 111 [.s nm,Fe,.a [.i .i64 k,.i .i64 o]] 0 [] (.b true) []
noncomputable def exO(nm:List Nat):Bool:=[(3,0),(4,0),(5,1),(5,2),(5,3),(5,4)].all fun p:Nat×Nat=>tlO p.1 p.2 nm
noncomputable def tlE(k o:Nat):Bool:=dN (aI E4 {} {}) 400 111 [.s [],Fe,.a [.i .i64 k,.i .i64 o]] 0 [] (.b true) []
def fRV:Option (List Nat)->V
 |none=>.t [.s [],.b false]
 |some n=>.t [.s n,.b true]
def eoF(r:Nat)(N T:Option (List Nat)):aU:=
 {bin:=[(.quo,.y .i64 0,.i .i64 2,.y .i64 1)],
  qc:=[(54,[.y .i64 0,.i .i64 8],.i .i64 r),(108,[Fe,.y .i64 0,.a [.i .i64 1,zI]],fRV N),(108,[Fe,.y .i64 1,.a [.i .i64 2,zI]],fRV T)]}
noncomputable def VD(k r:Nat)(N T:Option (List Nat)):Bool:=dN (aI E3 (eoF r N T) {}) 300 55 [.y .i64 0,.a [.i .i64 k,zI],Fe] 0 [] (.s (Pj k r (N.getD d7) (T.getD vP))) []
def MH:List (Option (List Nat)):=none::aT.map some
def MI:List Nat:=[1,2]
theorem apO:(MI.all fun k=>(aop 8).all fun r=>MH.all fun T=>VD k r none T)=true:=by decide+kernel
theorem apP:(MI.all fun k=>(aop 8).all fun r=>MH.all fun T=>VD k r (some (aT.getD 0 [])) T)=true:=by decide+kernel
theorem apQ:(MI.all fun k=>(aop 8).all fun r=>MH.all fun T=>VD k r (some (aT.getD 1 [])) T)=true:=by decide+kernel
theorem apR:(MI.all fun k=>(aop 8).all fun r=>MH.all fun T=>VD k r (some (aT.getD 2 [])) T)=true:=by decide+kernel
theorem apS:(MI.all fun k=>(aop 8).all fun r=>MH.all fun T=>VD k r (some (aT.getD 3 [])) T)=true:=by decide+kernel
theorem apT:(MI.all fun k=>(aop 8).all fun r=>MH.all fun T=>VD k r (some (aT.getD 4 [])) T)=true:=by decide+kernel
theorem apU:(MI.all fun k=>(aop 8).all fun r=>MH.all fun T=>VD k r (some (aT.getD 5 [])) T)=true:=by decide+kernel
def fRq(x:Nat)(b:Bool):V:=.t [cond b (.q x) (.s []),.b b]
def eoG(k o p:Nat)(bn bt bm:Bool):aU:=
 {bin:=[(.quo,.y .i64 0,.i .i64 2,.y .i64 1)],
  qc:=[(54,[.y .i64 0,.i .i64 3],.i .i64 p),(108,[Fe,.y .i64 0,.a [.i .i64 1,zI]],fRq 40 bn),(108,[Fe,.y .i64 1,.a [.i .i64 2,zI]],fRq 41 bt),(108,[Fe,.y .i64 0,.a [.i .i64 k,.i .i64 o]],fRq 42 bm)]}
noncomputable def eoO(t:Nat×Nat)(p:Nat)(bn bt bm:Bool):Bool:=dN (aI E3 (eoG t.1 t.2 p bn bt bm) {}) 300 55 [.y .i64 0,.a [.i .i64 t.1,.i .i64 t.2],Fe] 0 [] (cond (bm&&arT 0 p) (.q 42) (.s [])) []
def tf1:List Bool:=[true,false]
def Bf:List (Nat×Nat):=[(3,0),(4,0),(5,1),(5,2),(5,3),(5,4)]
theorem apV:(Bf.all fun t=>(aop 3).all fun p=>tf1.all fun bn=>tf1.all fun bt=>tf1.all fun bm=>eoO t p bn bt bm)=true:=by decide+kernel
structure tr(e enc:ByteArray):Prop where
 MJ:∀K,Quiet Tryz.prog K 240 [.string e,.bool true] (· =.bool true)
 TP:∀K,Quiet Tryz.prog K 159 [.string e] (· =.bool true)
 text:∀K,Quiet Tryz.prog K 177 [.string e] (· =.tuple #[.string enc,.int .i64 0])
 lo:1<=enc.size
 hi:enc.size<=64
structure xu where
 k:Nat
 u9:ByteArray
 nm:ByteArray
 mo:ByteArray
 t1:Int
 t2:Int
 ex:ByteArray
 ot:ByteArray
def xu.cells(d:xu):List Value:=[.int .i64 d.k,.string (cond (CS d.k) d.u9 cj),.string (cond (XS d.k) d.nm cj),.string (cond (Ij d.k) d.mo cj),.int .i64 (cond (yY d.k) d.t1 0),.int .i64 (cond (yY d.k) d.t2 0),.string (cond (yY d.k) d.ex cj),.string (cond (Ij d.k) d.ot cj)]
structure xu.OK(d:xu):Prop where
 k:d.k∈[1,2,3,4,5,6]
 u9:∃e,fP d.u9 e
 nm:∃e,fP d.nm e
 mo:∃e,fP d.mo e
 ty:(d.t1,d.t2)∈fF
 ex:∃e,tr d.ex e
 ot:∃e,tr d.ot e
theorem aaE{d:xu}(hk:d.k∈[1,2,3,4,5,6]){φ:Ren}(h30:φ.q 30=.string d.u9)(h31:φ.q 31=.string d.nm)(h32:φ.q 32=.string d.mo)(h20:φ.s 20=d.t1)(h21:φ.s 21=d.t2)(h33:φ.q 33=.string d.ex)(h34:φ.q 34=.string d.ot):J φ (chV d.k) d.cells:=by
 have cs:∀(b:Bool) {x:Nat} {t:ByteArray},φ.q x=.string t->VR φ (cond b (.q x) (.s [])) (.string (cond b t cj)):=fun b {x t} h=>by
  cases b
  ·exact aD
  ·exact vQ h rfl
 have ci:∀(b:Bool) {x:Nat} {n:Int},φ.s x=n->VR φ (cond b (.y .i64 x) zI) (.int .i64 (cond b n 0)):=fun b {x n} h=>by
  cases b
  ·exact aL
  ·exact vY h
 exact J.cons vI (J.cons (cs _ h30) (J.cons (cs _ h31) (J.cons (cs _ h32) (J.cons (ci _ h20) (J.cons (ci _ h21) (J.cons (cs _ h33) (J.cons (cs _ h34) J.nil)))))))
def afH(id ver:Int)(d:xu):List Value:=[.int .i64 4,.int .i64 0,.int .i64 0,.int .i64 0,aF,.int .i64 id,.int .i64 ver,.string cj,.string cj,aF]++d.cells
theorem Kr:∃enc:ByteArray,1<=enc.size/\enc.size<=10/\∀K,Quiet Tryz.prog K 177 [.string cj] (· =.tuple #[.string enc,.int .i64 0]):=aac (nm:=[]) (by decide+kernel) (by simp)
theorem EJ{K:Nat->Option Obj}{id ver:Int}(lG:0<=id/\id<=7)(afI:1<=ver/\ver<=12){d:xu}(hd:d.OK):∃s:ByteArray,1<=s.size/\s.size<=800/\jq K (.agg (afH id ver d).toArray) s:=by
 obtain⟨ef,hf⟩:=hd.u9;obtain⟨en,hn⟩:=hd.nm;obtain⟨em,hm⟩:=hd.mo;obtain⟨ee,he⟩:=hd.ex;obtain⟨eo,ho⟩:=hd.ot;obtain⟨e0,z1,z2,z3⟩:=Kr;have ty:=uT hd.ty;have hk:=hd.k;have LN:1<=d.k/\d.k<=6:=by simp only[arI,arE,or_false]at hk;omega
 have kn:∀n:Int,-30<=n/\n<610->1<=(bu n).size/\(bu n).size<=2:=fun n hn=>by have:=dY hn;omega
 have k4:=kn 4 (by decide);have ki:=kn id (by omega);have kv:=kn ver (by omega);have kk:=kn d.k (by omega);have k0:=kn 0 (by decide);have kt1:=kn d.t1 (by simp only at ty;omega);have kt2:=kn d.t2 (by simp only at ty;omega);let F:=cond (CS d.k) ef e0;let N:=cond (XS d.k) en e0;let M:=cond (Ij d.k) em e0;let T1:=cond (yY d.k) (bu d.t1) (bu 0);let T2:=cond (yY d.k) (bu d.t2) (bu 0);let X:=cond (yY d.k) ee e0;let O:=cond (Ij d.k) eo e0;have cb:∀(b:Bool) {x y:ByteArray},1<=x.size/\x.size<=64->1<=y.size/\y.size<=64->1<=(cond b x y).size/\(cond b x y).size<=64:=fun b {x y} h1 h2=>by cases b;exact h2;exact h1
 have be:1<=e0.size/\e0.size<=64:=⟨z1,by omega⟩;have up:∀{x:ByteArray} {a:ByteArray},fP a x->1<=x.size/\x.size<=64:=fun h=>⟨h.lo,Nat.le_trans h.hi (by decide)⟩
 have bF:1<=F.size/\F.size<=64:=cb _ (up hf) be;have bN:1<=N.size/\N.size<=64:=cb _ (up hn) be;have bM:1<=M.size/\M.size<=64:=cb _ (up hm) be;have bT1:1<=T1.size/\T1.size<=64:=cb _ (by omega) (by omega);have bT2:1<=T2.size/\T2.size<=64:=cb _ (by omega) (by omega);have bX:1<=X.size/\X.size<=64:=cb _ ⟨he.lo,he.hi⟩ be;have bO:1<=O.size/\O.size<=64:=cb _ ⟨ho.lo,ho.hi⟩ be;let c50:=bu d.k++F;let c51:=c50++N;let c52:=c51++M;let c53:=T1++T2;let c54:=c52++c53;let c55:=c54++X;let c56:=c55++O;have s50:c50.size=(bu d.k).size+F.size:=oR _ _;have s51:c51.size=c50.size+N.size:=oR _ _;have s52:c52.size=c51.size+M.size:=oR _ _;have s53:c53.size=T1.size+T2.size:=oR _ _;have s54:c54.size=c52.size+c53.size:=oR _ _;have s55:c55.size=c54.size+X.size:=oR _ _;have s56:c56.size=c55.size+O.size:=oR _ _;let c62:=bu id++(bu ver++arP);have s62:c62.size=(bu id).size+(bu ver).size:=by show(bu id++(bu ver++arP)).size=_;rw[oR,oR];simp
 let c63:=c62++c56;let c65:=bu 4++c63;have s63:c63.size=c62.size+c56.size:=oR _ _;have s65:c65.size=(bu 4).size+c63.size:=oR _ _
 let ss:Nat->ByteArray:=fun
  |4=>bu 4|30=>d.u9|31=>d.nm|32=>d.mo|33=>d.ex|34=>d.ot|36=>e0|40=>bu d.k|41=>ef|42=>en|43=>em|44=>bu d.t1|45=>bu d.t2|46=>bu 0|47=>ee|48=>eo
  |50=>c50|51=>c51|52=>c52|53=>c53|54=>c54|55=>c55|56=>c56|60=>bu id|61=>bu ver|62=>c62|63=>c63|64=>bu 4|65=>c65|_=>arP
 refine⟨c65,by omega,by omega,fun K' m Tu hm'=> ?_⟩;let ns:Nat->Int:=fun|10=>id|11=>ver|20=>d.t1|_=>d.t2
 let y:=B0 ns ss (fun _=>.bool false) [60,61] ca;have hN:∀{φ:Ren} {n:Int} {v:V} {q:Nat},-30<=n/\n<610->iY v=true->VR φ v (.int .i64 n)->φ.q q=.string (bu n)->∀af,Le φ af->∀args',J af [v] args'->Quiet Tryz.prog φ.y.k 40 args' fun u=>VR af (.q q) u:=fun{φ n v q} hn hd hv hq=>
  dy (by simp only[List.all_cons,List.all_nil,Bool.and_true];cases v<;>first|exact hd|cases hd) ((dY hn).2.2 _) (J.cons hv J.nil) (vQ hq rfl)
 refine cC ah rfl (arC.1 apI d.k hk) y (fun φ f1 f2 f3 f4 hK=> ?_) (fun φ f1 f2 f3 f4 hK=> ?_) (fun w hw=> ?_) (fun φ f1 f2 x hx=>vT2 (x:=65) (s:=c65) (by rw[f2];rfl) hx) ⟨_,_,Tryz.func37,rfl,rfl⟩
 ·have hS:Std φ ns ss (fun _=>.bool false) [60,61] ca:=⟨f1,f2,f3,f4⟩
  have m0:φ.s 10=id:=hS.n;have m1:φ.s 11=ver:=hS.n;have m20:φ.s 20=d.t1:=hS.n;have m21:φ.s 21=d.t2:=hS.n;have tx:∀x,x<100->φ.q x=.string (ss x):=fun x hx=>hS.t hx
  have sel:∀(b:Bool) (x z:Nat),x<100->z<100->φ.q (cond b x z)=.string (cond b (ss x) (ss z)):=fun b x z h1 h2=>by cases b;exact tx z h2;exact tx x h1
  have sa:∀{x z r:Nat} {s t:ByteArray},φ.q x=.string s->φ.q z=.string t->s.size+t.size<=1000000->φ.q r=.string (s++t)->fT φ.y .add (.q x) (.q z) (.q r):=fun h1 h2 h3 h4=>.I1 h1 h2 h3 h4
  have yu:∀x0,φ.q x0=.string (bu d.k)->cI (fun e:BinOp×V×V×V=>fT φ.y e.1 e.2.1 e.2.2.1 e.2.2.2)
    [(.add,.q x0,.q (cond (CS d.k) 41 36),.q 50),(.add,.q 50,.q (cond (XS d.k) 42 36),.q 51),(.add,.q 51,.q (cond (Ij d.k) 43 36),.q 52),(.add,.q (cond (yY d.k) 44 46),.q (cond (yY d.k) 45 46),.q 53),(.add,.q 52,.q 53,.q 54),(.add,.q 54,.q (cond (yY d.k) 47 36),.q 55),(.add,.q 55,.q (cond (Ij d.k) 48 36),.q 56),(.add,.q 62,.q 56,.q 63),(.add,.q 64,.q 63,.q 65)]:=fun x0 h0=>
   ⟨sa h0 (sel _ 41 36 (by decide) (by decide)) (by show(bu d.k).size+F.size<=_;omega) (tx 50 (by decide)),sa (tx 50 (by decide)) (sel _ 42 36 (by decide) (by decide)) (by show c50.size+N.size<=_;omega) (tx 51 (by decide)),
   sa (tx 51 (by decide)) (sel _ 43 36 (by decide) (by decide)) (by show c51.size+M.size<=_;omega) (tx 52 (by decide)),sa (sel _ 44 46 (by decide) (by decide)) (sel _ 45 46 (by decide) (by decide)) (by show T1.size+T2.size<=_;omega) (tx 53 (by decide)),
   sa (tx 52 (by decide)) (tx 53 (by decide)) (by show c52.size+c53.size<=_;omega) (tx 54 (by decide)),sa (tx 54 (by decide)) (sel _ 47 36 (by decide) (by decide)) (by show c54.size+X.size<=_;omega) (tx 55 (by decide)),
   sa (tx 55 (by decide)) (sel _ 48 36 (by decide) (by decide)) (by show c55.size+O.size<=_;omega) (tx 56 (by decide)),sa (tx 62 (by decide)) (tx 56 (by decide)) (by show c62.size+c56.size<=_;omega) (tx 63 (by decide)),sa (tx 64 (by decide)) (tx 63 (by decide)) (by show(bu 4).size+c63.size<=_;omega) (tx 65 (by decide)),agm⟩
  have FQ:cI (fun e:FuncId×List V×V=>∀af,Le φ af->∀args',J af e.2.1 args'->Quiet Tryz.prog φ.y.k e.1 args' fun u=>VR af e.2.2 u) (cbF d.k).qc:=by
   have one:∀{x:Nat} {t:ByteArray},φ.q x=.string t->J φ [.q x] [.string t]:=fun h=>J.cons (vQ h rfl) J.nil
   exact⟨hN (by decide) rfl vI (tx 4 (by decide)),hN (by omega) rfl vI (tx 40 (by decide)),hN (by decide) rfl vI (tx 46 (by decide)),hN (by omega) rfl (vY m0) (tx 60 (by decide)),hN (by omega) rfl (vY m1) (tx 61 (by decide)),hN (by simp only at ty;omega) rfl (vY m20) (tx 44 (by decide)),hN (by simp only at ty;omega) rfl (vY m21) (tx 45 (by decide)),
    dy rfl (hf.right _) (one (tx 30 (by decide))) vB,dy rfl (hn.right _) (one (tx 31 (by decide))) vB,dy rfl (hm.right _) (one (tx 32 (by decide))) vB,dy rfl ((EF hd.ty).2 _) (J.cons (vA (J.cons (vY m20) (J.cons (vY m21) J.nil))) J.nil) vB,
    dy rfl (he.MJ _) (J.cons (vQ (tx 33 (by decide)) rfl) (J.cons vB J.nil)) vB,dy rfl (ho.MJ _) (J.cons (vQ (tx 34 (by decide)) rfl) (J.cons vB J.nil)) vB,
    dy rfl (z3 _) (J.cons aD J.nil) (Oq (tx 36 (by decide))),dy rfl (hf.text _) (one (tx 30 (by decide))) (Oq (tx 41 (by decide))),dy rfl (hn.text _) (one (tx 31 (by decide))) (Oq (tx 42 (by decide))),dy rfl (hm.text _) (one (tx 32 (by decide))) (Oq (tx 43 (by decide))),
    dy rfl (he.text _) (one (tx 33 (by decide))) (Oq (tx 47 (by decide))),dy rfl (ho.text _) (one (tx 34 (by decide))) (Oq (tx 48 (by decide))),agm⟩
  have bK:cI (fun e:Nat×Int×Int=>e.2.1<=φ.s e.1/\φ.s e.1<=e.2.2) [(10,0,7),(11,1,12)]:=⟨by show(0:Int)<=φ.s 10/\φ.s 10<=7;rw[m0];exact lG,by show(1:Int)<=φ.s 11/\φ.s 11<=12;rw[m1];exact afI,agm⟩;have Vl:=A6 (φ:=φ) (x:=0) (agB f4 0);simp only[arI,arE,or_false]at hk;rcases hk with e|e|e|e|e|e
  ·rw[e]at yu FQ⊢
   exact⟨bK,yu 40 (by rw[tx 40 (by decide)];show arL (bu d.k)=_;rw[e]),agm,agm,agm,agm,Vl,agm,FQ⟩
  ·rw[e]at yu FQ⊢
   exact⟨bK,yu 40 (by rw[tx 40 (by decide)];show arL (bu d.k)=_;rw[e]),agm,agm,agm,agm,Vl,agm,FQ⟩
  ·rw[e]at yu FQ⊢
   exact⟨bK,yu 40 (by rw[tx 40 (by decide)];show arL (bu d.k)=_;rw[e]),agm,agm,agm,agm,Vl,agm,FQ⟩
  ·rw[e]at yu FQ⊢
   exact⟨bK,yu 4 (tx 4 (by decide)),agm,agm,agm,agm,Vl,agm,FQ⟩
  ·rw[e]at yu FQ⊢
   exact⟨bK,yu 40 (by rw[tx 40 (by decide)];show arL (bu d.k)=_;rw[e]),agm,agm,agm,agm,Vl,agm,FQ⟩
  ·rw[e]at yu FQ⊢
   exact⟨bK,yu 40 (by rw[tx 40 (by decide)];show arL (bu d.k)=_;rw[e]),agm,agm,agm,agm,Vl,agm,FQ⟩
 ·have hS:Std φ ns ss (fun _=>.bool false) [60,61] ca:=⟨f1,f2,f3,f4⟩
  refine xm hS (by simp) (fun q hq=> ?_) ?_ rfl (by decide) (by decide) (by decide) (fun e he=> ?_)
  ·simp only[arI,arE,or_false]at hq
   rcases hq with rfl|rfl
   ·exact⟨by decide,ki.1⟩
   ·exact⟨by decide,kv.1⟩
  ·show c62.size<=_;omega
  ·obtain rfl:e=(4,64):=by simpa using he
   exact⟨by decide,by decide,k4.1,by show(bu 4).size<=_;omega,rfl⟩
 ·obtain⟨φ,g1,g2,g3⟩:=jA (y:=y) rfl (hw m _ hm')
  have hS:Std φ ns ss (fun _=>.bool false) [60,61] ca:=⟨by funext x;simp only[Ren.s,g2];rfl,by funext x;simp only[Ren.q,g2];rfl,by funext x;simp only[Ren.w,g2];rfl,by funext x;simp only[Ren.g,g2];rfl⟩;have hv:=aaE hd.k (φ:=φ) (hS.t (x:=30)) (hS.t (x:=31)) (hS.t (x:=32)) (hS.n (x:=20)) (hS.n (x:=21)) (hS.t (x:=33)) (hS.t (x:=34));exact⟨φ,g1,g2,J.cons g3 (J.cons (vA (J.append (x:=[.i .i64 4,zI,zI,zI,eD,.y .i64 10,.y .i64 11,.s [],.s [],eD]) (J.cons vI (J.cons aL (J.cons aL (J.cons aL (J.cons bY (J.cons (vY hS.n) (J.cons (vY hS.n) (J.cons aD (J.cons aD (J.cons bY J.nil)))))))))) hv)) J.nil)⟩
end Go.Ev
namespace Go.Proofs
open List renaming range->aop,all_eq_true->arC,not_mem_nil->arE,getD_eq_getElem?_getD->arF,mem_cons->arI,getElem?_eq_getElem->arK,flatMap_append->arN,getElem_mem->arQ,range_succ->arR,mem_range->arU,getElem?_append_right->arV,getElem?_append_left->arW,getElem?_eq_none->arZ,length_pos_iff->asb,flatMap_cons->asd
open _root_.Array renaming toList_inj->AAA,getElem?_eq_some_iff->arM,length_toList->asa
open Bool renaming and_eq_true->arD
open Nat renaming beq->arG,eq_of_beq_eq_true->arJ,not_lt_zero->arS,blt->arT
open IntKind renaming i64->arH
open Value renaming string->arL
open Int renaming toNat_of_nonneg->arO,tmod_eq_emod_of_nonneg->arX,tdiv_eq_ediv_of_nonneg->arY
open _root_.ByteArray renaming empty->arP
section
open Go.Shelf
def Tryz.B9:Go.Shelf.Ren:=⟨fun|196=>342|259=>363|n=>n,fun|9=>9|4=>4|3=>3|5=>5|12=>12|119=>497|0=>0|46=>244|139=>500|138=>499|53=>221|n=>n,fun|3=>4|4=>5|n=>n⟩
theorem Tryz.CT:Go.Proofs.Lays.n196 Tryz.prog Tryz.B9:={
 mixed:=by kernel_rfl,
 f196:=Tryz.func342.trans (congrArg some (by kernel_rfl)),
 f259:=Tryz.func363.trans (congrArg some (by kernel_rfl)),
 t0:=Tryz.underlying0,
 a0:=Tryz.isAgg0,
 z0:=Tryz.sizeOf0,
 v0:=Tryz.zeroValue0,
 t3:=Tryz.underlying3,
 a3:=Tryz.isAgg3,
 z3:=Tryz.sizeOf3,
 v3:=Tryz.zeroValue3,
 t4:=Tryz.underlying4,
 a4:=Tryz.isAgg4,
 z4:=Tryz.sizeOf4,
 v4:=Tryz.zeroValue4,
 t5:=Tryz.underlying5,
 a5:=Tryz.isAgg5,
 z5:=Tryz.sizeOf5,
 v5:=Tryz.zeroValue5,
 t9:=Tryz.underlying9,
 a9:=Tryz.isAgg9,
 z9:=Tryz.sizeOf9,
 v9:=Tryz.zeroValue9,
 t12:=Tryz.underlying12,
 a12:=Tryz.isAgg12,
 z12:=Tryz.sizeOf12,
 v12:=Tryz.zeroValue12,
 t46:=Tryz.underlying244,
 a46:=Tryz.isAgg244,
 z46:=Tryz.sizeOf244,
 v46:=Tryz.zeroValue244,
 t53:=Tryz.underlying221,
 a53:=Tryz.isAgg221,
 z53:=Tryz.sizeOf221,
 v53:=Tryz.zeroValue221,
 t119:=Tryz.underlying497,
 a119:=Tryz.isAgg497,
 z119:=Tryz.sizeOf497,
 t138:=Tryz.underlying499,
 a138:=Tryz.isAgg499,
 z138:=Tryz.sizeOf499,
 v138:=Tryz.zeroValue499,
 t139:=Tryz.underlying500,
 a139:=Tryz.isAgg500,
 z139:=Tryz.sizeOf500,
 v139:=Tryz.zeroValue500,
 g3:=by kernel_rfl,
 g4:=by kernel_rfl}
end
end Go.Proofs
namespace Go.Ev
open List renaming range->aop,all_eq_true->arC,not_mem_nil->arE,getD_eq_getElem?_getD->arF,mem_cons->arI,getElem?_eq_getElem->arK,flatMap_append->arN,getElem_mem->arQ,range_succ->arR,mem_range->arU,getElem?_append_right->arV,getElem?_append_left->arW,getElem?_eq_none->arZ,length_pos_iff->asb,flatMap_cons->asd
open _root_.Array renaming toList_inj->AAA,getElem?_eq_some_iff->arM,length_toList->asa
open Bool renaming and_eq_true->arD
open Nat renaming beq->arG,eq_of_beq_eq_true->arJ,not_lt_zero->arS,blt->arT
open IntKind renaming i64->arH
open Value renaming string->arL
open Int renaming toNat_of_nonneg->arO,tmod_eq_emod_of_nonneg->arX,tdiv_eq_ediv_of_nonneg->arY
open _root_.ByteArray renaming empty->arP
open Go.Proofs
variable{K:Nat->Option Obj}
def tu(K:Nat->Option Obj):Prop:=∀w:World,(∀r o,K r=some o->w.heap[r]? =some o)->Lib.Utf8Tabs 4 5 w
theorem tu.mono{K':Nat->Option Obj}(h:∀r o,K r=some o->K' r=some o)(ht:tu K):tu K':=fun w hw=>ht w fun r o hk=>hw r o (h r o hk)
theorem XW(ht:tu K){s:ByteArray}(hs:s.size<=100):Quiet Tryz.prog K 342 [.string s] (· =.bool (Lib.validD s.data.toList)):=by
 refine⟨⟨_,_,Tryz.func342,rfl,rfl⟩,fun n w hw=> ?_⟩;refine CallsIn.mono (callsIn_wide.2 (Any.utf8_ValidString Tryz.CT s w (by omega) (ht w hw)):CallsIn (W none) n _ _ _ _ _) ?_;rintro e w' ⟨rfl,hb⟩;exact⟨_,rfl,rfl,hb.size,hb.block,hb.os,hb.tape,hb.output⟩
def xv:List (List Nat):=[[],[97],[98,99],[195,169,116,195,169],[97,32,98],[122,122,32,116,111,112],[48],[45,55]]
def apW(t:List Nat):aU:={qc:=[(342,[.s t],.b true)]}
noncomputable def ami(t:List Nat):Bool:=dN (aI E3 (apW t) {}) 300 287 [.s t] 0 [] (.b true) []&&(match uQ 200 177 [.s t]with|some (.t [.s l,.i .i64 0])=>okS 1 8 l|_=>false)&&t.all (fun c=>arT c 256)&&Lib.validD (t.map UInt8.ofNat)&&Nat.ble t.length 50
theorem tx8:xv.all ami=true:=by decide+kernel
theorem Hw(ht:tu K){t:List Nat}(hm:t∈xv):∃enc,gk K (bytes t) enc:=by
 have h:=arC.1 tx8 t hm;simp only[ami,arD,arC]at h;obtain⟨⟨⟨⟨h1,h2⟩,h3⟩,h4⟩,h5⟩:=h;have h8:∀x∈t,x<256:=fun x hx=>bh.1 (h3 x hx)
 split at h2
 ·rename_i l e
  obtain⟨g1,g2,g3⟩:=EA h2;refine⟨bytes l,?_,?_,g2,g3⟩
  ·refine cC ah rfl h1 ⟨fun _=>0,fun _=>.bool false,fun _=>[],fun _=>(#[],0),fun _=>none⟩ (fun φ _ _ _ _ hK=> ?_) (fun φ _ _ _ _ _=>eX) (fun w hw=>⟨_,bc _ w,rfl,J.cons (vS h8) J.nil⟩) (fun φ _ _ x hx=>Ih hx) ⟨_,_,Tryz.func287,rfl,rfl⟩
   refine⟨agm,agm,agm,agm,agm,agm,agm,agm,?_,agm⟩;refine dy rfl ((XW (ht.mono hK) (s:=bytes t) (by rw[du];exact Nat.le_trans (Nat.le_of_ble_eq_true h5) (by decide))).imp fun v hv=> ?_) (J.cons (vS h8) J.nil) vB;rw[hv,show(bytes t).data.toList=t.map UInt8.ofNat by simp[bytes],h4]
  ·refine jh e (fun φ=>J.cons (vS h8) J.nil) (fun φ x hx=> ?_) ⟨_,_,Tryz.func177,rfl,rfl⟩ K
   simp only[VR,J]at hx;obtain⟨vs,rfl,a,l',e',⟨rfl,_⟩,b,l2,rfl,rfl,rfl⟩:=hx;exact congrArg _ (AAA.1 (e'.trans rfl))
 ·cases h2
variable{φ:Ren}
noncomputable def vo1:Bool:=dN (aI E3 {bin:=[(.sub,.y .i64 1,.i .i64 20,.y .i64 2)],qc:=[(52,[.y .i64 0,.i .i64 41],.y .i64 1)]} {}) 300 32 [.a [.i .i64 1,.q 0],.y .i64 0,.i .i64 9] 0 [] (.a [.i .i64 1,.y .i64 2,.s [],eD]) []
noncomputable def vo2(r:Nat):Bool:=dN (aI E3 {qc:=[(52,[.y .i64 0,.i .i64 8],.i .i64 r)]} {}) 300 32 [.a [.i .i64 2,.q 0],.y .i64 0,.i .i64 9] 0 [] (.a [.i .i64 2,zI,.s (xv.getD r []),eD]) []
noncomputable def vo3(k r:Nat):Bool:=dN (aI E3 {bin:=[(.add,.i .i64 1,.y .i64 1,.y .i64 2)],qc:=[(52,[.y .i64 0,.i .i64 5],.i .i64 r),(52,[.y .i64 0,.i .i64 9],.y .i64 1)]} {}) 300 32 [.a [.i .i64 k,.q 0],.y .i64 0,.i .i64 9] 0 [] (cond (arG r 4) (.a [zI,zI,.s [],eD]) (.a [.i .i64 k,.y .i64 2,.s [],eD])) []
theorem apX:vo1=true:=by decide+kernel
theorem apY:((aop 8).all vo2)=true:=by decide+kernel
theorem apZ:([3,4].all fun k=>(aop 5).all fun r=>vo3 k r)=true:=by decide+kernel
def Hx(ns:Nat->Int)(qs:Nat->Value):Sym:={s:=ns,q:=qs,w:=fun _=>[],g:=fun _=>(#[],0),k:=fun _=>none}
theorem Ff{l:List V}{v:Value}(h:VR φ (.a l) v):∃vs,v=.agg vs/\J φ l vs.toList:=by simpa only[VR]using h
theorem nG{c N:Int}(hN:1<=N):∃r:Nat,ax c N=r/\(r:Int)<N:=by
 obtain⟨h1,h2⟩:=bI c hN;exact⟨(ax c N).toNat,(arO h1).symm,by rw[arO h1];exact h2⟩
theorem afJ(ht:tu K):∃e,gk K (bytes []) e:=Hw ht (by decide)
theorem vd(ht:tu K){k:Nat}(hk:k∈[1,2,3,4]){n:Int}(hn:eR n){o:Value}(ho:o.oneCell'=true):∃sh x t e,Kf k sh/\(nA sh<=x/\x<=nB sh)/\gk K t e/\
  ∀K',Quiet Tryz.prog K' 32 [.agg #[.int .i64 k,o],.int .i64 n,.int .i64 9] (· =.agg (oC sh x t).toArray):=by
 obtain⟨e0,he0⟩:=afJ ht;have args:∀{k:Nat} {φ:Ren},φ.s 0=n->φ.q 0=o->J φ [.a [.i .i64 k,.q 0],.y .i64 0,.i .i64 9] [.agg #[.int .i64 k,o],.int .i64 n,.int .i64 9]:=fun{k φ} h1 h2=>
  J.cons (vA (J.cons vI (J.cons (vQ h2 ho) J.nil))) (J.cons (vY h1) (J.cons vI J.nil))
 have pk:∀{N:Nat} {φ:Ren} {v:V},1<=N/\N<=100000->φ.s 0=n->VR φ v (.int .i64 (ax n N))->∀af,Le φ af->∀args',J af [.y .i64 0,.i .i64 N] args'->Quiet Tryz.prog φ.y.k 52 args' fun u=>VR af v u:=fun{N φ v} h1 h2 h3=>
  dy rfl (nE _ hn h1) (J.cons (vY h2) (J.cons vI J.nil)) h3
 simp only[arI,arE,or_false]at hk;rcases hk with rfl|rfl|hk
 ·obtain⟨p1,p2⟩:=bI n (N:=41) (by decide)
  refine⟨1,ax n 41-20,bytes [],e0,.inl ⟨rfl,rfl⟩,⟨by show-20<=_;omega,by show _<=(20:Int);omega⟩,he0,fun K'=> ?_⟩;refine cC ah rfl apX (Hx (fun|0=>n|1=>ax n 41|_=>ax n 41-20) (fun _=>o)) (fun φ e1 e2 _ _ _=> ?_) (fun φ _ _ _ _ _=>eX) (fun w hw=>⟨φ0 _ w,bc _ w,rfl,args rfl rfl⟩) (fun φ e1 e2 x hx=> ?_) ⟨_,_,Tryz.func32,rfl,rfl⟩
  ·have s0:φ.s 0=n:=agB e1 0
   have s1:φ.s 1=ax n 41:=agB e1 1;refine⟨agm,⟨.sub (k:=.i64) (x:=ax n 41) (y:=20) (congrArg (fun z=>some (arH,z)) s1) rfl (congrArg (fun z=>some (arH,z)) (agB e1 2)) (i64_in (by omega)),agm⟩,agm,agm,agm,agm,agm,agm,pk (by decide) s0 (vY s1),agm⟩
  ·obtain⟨vs,rfl,h⟩:=Ff hx
   simp only[J,VR]at h;obtain⟨_,_,e,rfl,_,_,rfl,rfl,_,_,rfl,⟨rfl,_⟩,_,_,rfl,h4,rfl⟩:=h;have h4:=(by simpa only[eD,VR]using h4:_/\_).2;rw[h4,show φ.s 2=ax n 41-20 from agB e1 2]at e;exact congrArg _ (AAA.1 (e.trans rfl))
 ·obtain⟨r,hr,ZO⟩:=nG (c:=n) (N:=8) (by decide)
  have ZO:r<8:=by omega
  have hm:xv.getD r []∈xv:=by
   rw[arF,arK (by show r<8;exact ZO)];exact arQ _
  obtain⟨e2,he2⟩:=Hw ht hm;refine⟨2,0,bytes (xv.getD r []),e2,.inr (.inl ⟨rfl,rfl⟩),by decide,he2,fun K'=> ?_⟩;refine cC ah rfl (arC.1 apY r (arU.2 ZO)) (Hx (fun _=>n) (fun _=>o)) (fun φ e1 e2 _ _ _=> ?_) (fun φ _ _ _ _ _=>eX) (fun w hw=>⟨φ0 _ w,bc _ w,rfl,args rfl rfl⟩) (fun φ e1 e2 x hx=> ?_) ⟨_,_,Tryz.func32,rfl,rfl⟩
  ·refine⟨agm,agm,agm,agm,agm,agm,agm,agm,pk (N:=8) (by decide) (agB e1 0) (by rw[show((8:Nat):Int)=8 from rfl,hr];exact vI),agm⟩
  ·obtain⟨vs,rfl,h⟩:=Ff hx
   simp only[J,VR]at h;obtain⟨_,_,e,rfl,_,_,rfl,h2,_,_,rfl,⟨rfl,_⟩,_,_,rfl,h4,rfl⟩:=h;have h2:=(by simpa only[zI,VR]using h2:_=_);have h4:=(by simpa only[eD,VR]using h4:_/\_).2;rw[h4,h2]at e;exact congrArg _ (AAA.1 (e.trans rfl))
 ·obtain⟨r,hr,WY⟩:=nG (c:=n) (N:=5) (by decide)
  have WY:r<5:=by omega
  obtain⟨p1,p2⟩:=bI n (N:=9) (by decide);have ba:=arC.1 (arC.1 apZ k (by rcases hk with rfl|rfl<;>decide)) r (arU.2 WY)
  unfold vo3 at ba;have hF:∀φ:Ren,φ.s=(Hx (fun|0=>n|1=>ax n 9|_=>1+ax n 9) (fun _=>o)).s->aA Tryz.prog {bin:=[(.add,.i .i64 1,.y .i64 1,.y .i64 2)],qc:=[(52,[.y .i64 0,.i .i64 5],.i .i64 r),(52,[.y .i64 0,.i .i64 9],.y .i64 1)]} φ:=fun φ e1=>by
   have s0:φ.s 0=n:=agB e1 0;have s1:φ.s 1=ax n 9:=agB e1 1;exact⟨agm,⟨.add (k:=.i64) (x:=1) (y:=ax n 9) rfl (congrArg (fun z=>some (arH,z)) s1) (congrArg (fun z=>some (arH,z)) (agB e1 2)) (i64_in (by omega)),agm⟩,agm,agm,agm,agm,agm,agm,pk (N:=5) (by decide) s0 (by rw[show((5:Nat):Int)=5 from rfl,hr];exact vI),pk (N:=9) (by decide) s0 (vY s1),agm⟩
  cases hb:arG r 4 with
  |true=>
   rw[hb]at ba;simp only[cond]at ba;refine⟨0,0,bytes [],e0,?_,by decide,he0,fun K'=> ?_⟩
   ·rcases hk with rfl|rfl
    ·exact .inr (.inr (.inl ⟨rfl,.inl rfl⟩))
    ·exact .inr (.inr (.inr ⟨rfl,.inl rfl⟩))
   refine cC ah rfl ba (Hx (fun|0=>n|1=>ax n 9|_=>1+ax n 9) (fun _=>o)) (fun φ e1 e2 _ _ _=>hF φ e1) (fun φ _ _ _ _ _=>eX) (fun w hw=>⟨φ0 _ w,bc _ w,rfl,args rfl rfl⟩) (fun φ e1 e2 x hx=> ?_) ⟨_,_,Tryz.func32,rfl,rfl⟩;obtain⟨vs,rfl,h⟩:=Ff hx
   simp only[J,VR]at h;obtain⟨_,_,e,h1,_,_,rfl,h2,_,_,rfl,⟨rfl,_⟩,_,_,rfl,h4,rfl⟩:=h;have h1:=(by simpa only[zI,VR]using h1:_=_);have h2:=(by simpa only[zI,VR]using h2:_=_);have h4:=(by simpa only[eD,VR]using h4:_/\_).2;rw[h4,h2,h1]at e;exact congrArg _ (AAA.1 (e.trans rfl))
  |false=>
   rw[hb]at ba;simp only[cond]at ba;have hsc:oC k (1+ax n 9) (bytes [])=[.int .i64 k,.int .i64 (1+ax n 9),.string cj,aF]:=by rcases hk with rfl|rfl<;>rfl
   refine⟨k,1+ax n 9,bytes [],e0,?_,?_,he0,fun K'=> ?_⟩
   ·rcases hk with rfl|rfl
    ·exact .inr (.inr (.inl ⟨rfl,.inr rfl⟩))
    ·exact .inr (.inr (.inr ⟨rfl,.inr rfl⟩))
   ·rcases hk with rfl|rfl
    ·exact⟨by show(1:Int)<=_;omega,by show _<=(9:Int);omega⟩
    ·exact⟨by show(1:Int)<=_;omega,by show _<=(9:Int);omega⟩
   rw[hsc];refine cC ah rfl ba (Hx (fun|0=>n|1=>ax n 9|_=>1+ax n 9) (fun _=>o)) (fun φ e1 e2 _ _ _=>hF φ e1) (fun φ _ _ _ _ _=>eX) (fun w hw=>⟨φ0 _ w,bc _ w,rfl,args rfl rfl⟩) (fun φ e1 e2 x hx=> ?_) ⟨_,_,Tryz.func32,rfl,rfl⟩
   obtain⟨vs,rfl,h⟩:=Ff hx;simp only[J,VR]at h;obtain⟨_,_,e,rfl,_,_,rfl,rfl,_,_,rfl,⟨rfl,_⟩,_,_,rfl,h4,rfl⟩:=h;have h4:=(by simpa only[eD,VR]using h4:_/\_).2;rw[h4,show φ.s 2=1+ax n 9 from agB e1 2]at e;exact congrArg _ (AAA.1 (e.trans rfl))
def lrQ(r:Nat):List V:=(aop (4*r)).map fun i=>.q i
def lrF(r:Nat):aU:=
 {bin:=[(.quo,.y .i64 0,.i .i64 4,.y .i64 1),(.add,.y .i64 1,.i .i64 0,.y .i64 10),(.add,.y .i64 1,.i .i64 1,.y .i64 11),(.add,.y .i64 1,.i .i64 2,.y .i64 12)],
  qc:=(52,[.y .i64 0,.i .i64 4],.i .i64 r)::(aop r).map fun j=>(32,[.a [.y .i64 2,zI],.y .i64 (10+j),.i .i64 9],.a [.q (4*j),.q (4*j+1),.q (4*j+2),.q (4*j+3)])}
noncomputable def lrC(r:Nat):Option (V×H):=tX (aI E3 (lrF r) {}) (exec (aI E3 (lrF r) {}) 300) 32 [.a [.i .i64 5,.y .i64 2],.y .i64 0,.i .i64 9] (ak 0 [])
noncomputable def lrR(r:Nat):Bool:=
 match lrC r with
 |some (.a [a,b,c,.sl (some (bb,o)) n (.un z)],h')=>same a (.i .i64 5)&&same b zI&&same c (.s [])&&arG o 0&&arG n r&&arG z 4&&(match h'.get bb with|.cells l e _=>iV l (lrQ r)&&arG e 98|_=>false)
 |_=>false
noncomputable def lr0:Bool:=dN (aI E3 (lrF 0) {}) 300 32 [.a [.i .i64 5,.y .i64 2],.y .i64 0,.i .i64 9] 0 [] (.a [.i .i64 5,zI,.s [],eD]) []
theorem ap0:lr0=true:=by decide+kernel
theorem ap1:([1,2,3].all lrR)=true:=by decide+kernel
theorem fQ{n:Int}(h:eR n):cZ .i64 n=true:=by
 obtain⟨h1,h2⟩:=h;simp only[cZ,arD,ma];omega
theorem afK{n:Int}(hn:eR n): -2305843009213693952<=n.tdiv 4/\n.tdiv 4<=2305843009213693951:=by
 obtain⟨h1,h2⟩:=hn;rcases Int.lt_or_le n 0 with h|h
 ·have e:n.tdiv 4= -((-n)/4):=by
   have:n= -(-n):=by omega
   rw[this,Int.neg_tdiv,arY (by omega)];simp
  omega
 ·rw[arY h];omega
theorem Bg{f:Nat->List Value}(h4:∀j,(f j).length=4):∀r:Nat,((aop r).flatMap f).length=4*r
 |0=>rfl
 |r+1=>by rw[arR,arN,List.length_append,Bg h4 r];simp[h4];omega
theorem flat_get{f:Nat->List Value}(h4:∀j,(f j).length=4):∀(r i:Nat),i<4*r->((aop r).flatMap f)[i]? =(f (i/4))[i%4]?
 |0,i,h=>by omega
 |r+1,i,h=>by
  rw[arR,arN];have hl:=Bg h4 r;rcases Nat.lt_or_ge i (4*r)with h'|h'
  ·rw[arW (by omega)];exact flat_get h4 r i h'
  ·rw[arV (by omega),hl]
   have e1:i/4=r:=by omega
   have e2:i%4=i-4*r:=by omega
   simp[e1,e2]
theorem Hy{k o:Nat}:((k:Int),(o:Int))∈fF↔((k=1\/k=2\/k=3\/k=4)/\o=0)\/(k=5/\(o=1\/o=2\/o=3\/o=4)):=by
 simp only[fF,arI,arE,or_false,Prod.mk.injEq];omega
theorem TQ{K:Nat->Option Obj}(ht:tu K){k o:Nat}(XX:((k:Int),(o:Int))∈fF){n:Int}(hn:eR n)(m:Nat){w:World}(hw:∀r o,K r=some o->w.heap[r]? =some o):
  CallsIn (W none) m Tryz.prog 32 #[.agg #[.int .i64 k,.int .i64 o],.int .i64 n,.int .i64 9] w fun e w'=>∃cells K1 s,e=.returned (.agg cells.toArray)/\Grown w w'/\rJ K w w' K1/\A9 K1 (cells,s):=by
 have MK:∀sh x t,∀u∈oC sh x t,u.oneCell'=true:=fun sh x t u hu=>by
  unfold oC at hu;split at hu<;>simp only[arI,arE,or_false]at hu<;>(rcases hu with rfl|rfl|rfl|rfl<;>rfl)
 rcases Hy.1 XX with⟨hk,rfl⟩|⟨rfl,ho⟩
 ·obtain⟨sh,x,t,e,h1,h2,h3,h4⟩:=vd ht (k:=k) (by simpa using hk) hn (o:=.int .i64 (0:Nat)) rfl
  have hsh:sh∈[0,1,2,3,4]:=by rcases h1 with⟨_,rfl⟩|⟨_,rfl⟩|⟨_,rfl|rfl⟩|⟨_,rfl|rfl⟩<;>decide
  obtain⟨s,hs⟩:=ae1 hsh h2 h3;refine((h4 K).2 m w hw).mono ?_;rintro e w' ⟨v,rfl,rfl,hg⟩;exact⟨_,K,s,rfl,hg,rJ.refl hg hw,oD _ _ _,MK _ _ _,hs⟩
 ·obtain⟨r,hr,pJ⟩:=nG (c:=n) (N:=4) (by decide)
  have pJ:r<4:=by omega
  have hq:=afK hn;have hd:∀j:Nat,j<3->eR (n.tdiv 4+j):=fun j hj=>⟨by omega,by omega⟩
  have jQ:o∈[1,2,3,4]:=by simpa using ho
  obtain⟨sh0,x0,t0,e0,a1,a2,a3,a4⟩:=vd ht jQ (hd 0 (by decide)) (o:=.int .i64 0) rfl;obtain⟨sh1,x1,t1,e1,b1,b2,b3,b4⟩:=vd ht jQ (hd 1 (by decide)) (o:=.int .i64 0) rfl;obtain⟨sh2,x2,t2,e2,c1,c2,c3,c4⟩:=vd ht jQ (hd 2 (by decide)) (o:=.int .i64 0) rfl;let fs:Nat->List Value:=fun j=>match j with|0=>oC sh0 x0 t0|1=>oC sh1 x1 t1|_=>oC sh2 x2 t2
  have f4:∀j,(fs j).length=4:=fun j=>by
   match j with
   |0=>exact oD _ _ _
   |1=>exact oD _ _ _
   |n+2=>exact oD _ _ _
  have ap2:∀j,∀u∈fs j,u.oneCell'=true:=fun j=>by
   match j with
   |0=>exact MK _ _ _
   |1=>exact MK _ _ _
   |n+2=>exact MK _ _ _
  let y:Sym:=Hx (fun|0=>n|1=>n.tdiv 4|2=>o|10=>n.tdiv 4|11=>n.tdiv 4+1|_=>n.tdiv 4+2) (fun i=>((fs (i/4))[i%4]?).getD b0);have cell:∀{φ:Ren},φ.q=y.q->∀j i,i<4->∃u,(fs j)[i]? =some u/\VR φ (.q (4*j+i)) u:=fun{φ} e2 j i hi=>by
   have bf:i<(fs j).length:=by rw[f4];exact hi
   have hg:(fs j)[i]? =some (fs j)[i]:=arK bf;refine⟨_,hg,vQ ?_ (ap2 j _ (arQ bf))⟩;rw[e2];show((fs ((4*j+i)/4))[(4*j+i)%4]?).getD b0=_;rw[show(4*j+i)/4=j by omega,show(4*j+i)%4=i by omega,hg];rfl
  have ap3:∀{φ:Ren},φ.q=y.q->∀j,J φ [.q (4*j),.q (4*j+1),.q (4*j+2),.q (4*j+3)] (fs j):=fun{φ} e2 j=>by
   obtain⟨u0,g0,v0⟩:=cell e2 j 0 (by decide);obtain⟨u1,g1,v1⟩:=cell e2 j 1 (by decide);obtain⟨u2,g2,v2⟩:=cell e2 j 2 (by decide);obtain⟨u3,g3,v3⟩:=cell e2 j 3 (by decide)
   match hf:fs j,f4 j with
   |[p0,p1,p2,p3],_=>
    rw[hf]at g0 g1 g2 g3;cases g0;cases g1;cases g2;cases g3;exact J.cons v0 (J.cons v1 (J.cons v2 (J.cons v3 J.nil)))
  have afL:∀j:Nat,j<3->∀K',Quiet Tryz.prog K' 32 [.agg #[.int .i64 o,.int .i64 0],.int .i64 (n.tdiv 4+j),.int .i64 9] (· =.agg (fs j).toArray):=fun j hj K'=>by
   match j,hj with
   |0,_=>exact a4 K'
   |1,_=>exact b4 K'
   |2,_=>exact c4 K'
  have amj:∀{φ:Ren},φ.s=y.s->∀j:Nat,j<3->φ.s (10+j)=n.tdiv 4+j:=fun{φ} e1 j hj=>by
   match j,hj with
   |0,_=>rw[e1];show n.tdiv 4=_;simp
   |1,_=>rw[e1];rfl
   |2,_=>rw[e1];rfl
  have hF:∀φ:Ren,φ.s=y.s->φ.q=y.q->aA Tryz.prog (lrF r) φ:=fun φ e1 e2=>by
   have s0:φ.s 0=n:=agB e1 0;have i0:aR φ.y (.y .i64 0)=some (.i64,n):=congrArg (fun z=>some (arH,z)) s0;have i1:aR φ.y (.y .i64 1)=some (.i64,n.tdiv 4):=congrArg (fun z=>some (arH,z)) (agB e1 1);have ij:∀j:Nat,j<3->aR φ.y (.y .i64 (10+j))=some (.i64,n.tdiv 4+j):=fun j hj=>congrArg (fun z=>some (arH,z)) (amj e1 j hj)
   refine⟨agm,⟨.quo (k:=.i64) i0 rfl (by decide) i1 (fQ ⟨by omega,by omega⟩),.add (k:=.i64) i1 rfl (ij 0 (by decide)) (fQ (hd 0 (by decide))),.add (k:=.i64) i1 rfl (ij 1 (by decide)) (fQ (hd 1 (by decide))),.add (k:=.i64) i1 rfl (ij 2 (by decide)) (fQ (hd 2 (by decide))),agm⟩,agm,agm,agm,agm,agm,agm,?_,cH fun j hj=> ?_⟩
   ·have:=nE φ.y.k hn (N:=4) (by decide)
    rw[show((4:Nat):Int)=4 from rfl,hr]at this;exact dy rfl this (J.cons (vY s0) (J.cons vI J.nil)) vI
   ·have hj3:j<3:=by have:=arU.1 hj;omega
    exact dy rfl (afL j hj3 _) (J.cons (vA (J.cons (vY (agB e1 2)) (J.cons aL J.nil))) (J.cons (vY (amj e1 j hj3)) (J.cons vI J.nil))) (vA (ap3 e2 j))
  let ay:=φ0 y w;have bK:BD (aI E3 (lrF r) {}) ay:=eZ (hF ay rfl rfl) eX;have cG:J ay [.a [.i .i64 5,.y .i64 2],.y .i64 0,.i .i64 9] [.agg #[.int .i64 (5:Nat),.int .i64 o],.int .i64 n,.int .i64 9]:=J.cons (vA (J.cons vI (J.cons (vY rfl) J.nil))) (J.cons (vY rfl) (J.cons vI J.nil));have h3:Kf o sh0/\Kf o sh1/\Kf o sh2:=⟨a1,b1,c1⟩;rcases Nat.eq_zero_or_pos r with rfl|gn
  ·obtain⟨s,hs⟩:=Hf (K:=K) (m:=0) (of:=o) (by decide) a1 b1 c1 a2 b2 c2 a3 b3 c3 (v:=aF) (.inl ⟨rfl,rfl⟩)
   have hq0:Quiet Tryz.prog K 32 [.agg #[.int .i64 (5:Nat),.int .i64 o],.int .i64 n,.int .i64 9] (· =.agg (Z8 aF).toArray):=
    cC ah rfl ap0 y (fun φ e1 e2 _ _ _=>hF φ e1 e2) (fun φ _ _ _ _ _=>eX) (fun w hw=>⟨φ0 y w,bc _ w,rfl,J.cons (vA (J.cons vI (J.cons (vY rfl) J.nil))) (J.cons (vY rfl) (J.cons vI J.nil))⟩) (fun φ e1 e2 x hx=>by
     obtain⟨vs,rfl,h⟩:=Ff hx;simp only[J,VR]at h;obtain⟨_,_,e,rfl,_,_,rfl,h2,_,_,rfl,⟨rfl,_⟩,_,_,rfl,h4,rfl⟩:=h;have h2:=(by simpa only[zI,VR]using h2:_=_);have h4:=(by simpa only[eD,VR]using h4:_/\_).2;rw[h4,h2]at e;exact congrArg _ (AAA.1 (e.trans rfl))) ⟨_,_,Tryz.func32,rfl,rfl⟩
   refine(hq0.2 m w hw).mono ?_;rintro e w' ⟨v,rfl,rfl,hg⟩;exact⟨_,K,s,rfl,hg,rJ.refl hg hw,rfl,fun u hu=>by simp only[Z8,arI,arE,or_false]at hu;rcases hu with rfl|rfl|rfl|rfl<;>rfl,hs⟩
  ·have ba:=arC.1 ap1 r (by rcases(show r=1\/r=2\/r=3 by omega)with rfl|rfl|rfl<;>decide)
   unfold lrR at ba;split at ba
   ·rename_i xa xb xc bb of' nn zz h' eF
    simp only[arD]at ba;obtain⟨⟨⟨⟨⟨⟨r1,r2⟩,r3⟩,r4⟩,r5⟩,r6⟩,r7⟩:=ba;have r1:=bJ _ _ r1;have r2:=bJ _ _ r2;have r3:=bJ _ _ r3;have r4:=arJ r4;have r5:=arJ r5;have r6:=arJ r6;subst r1;subst r2;subst r3;subst r4;subst r5;subst r6;split at r7
    ·rename_i l te g hblk
     simp only[arD]at r7;have q1:=fS _ _ r7.1;have q2:=arJ r7.2;subst q1;subst q2;have key:=pI (aw ah (lrF nn) {}) (cV (aw ah (lrF nn) {}) 300).1 _ _ _ _ _ eF ay _ w m (fun g hg=>absurd hg (arS _)) bK cG (bc y w);refine(key.2).mono ?_;rintro e w' ⟨af,u,rfl,hx,hv,cM⟩;have gG:Grown w w':=⟨hx.size,fun r bf=>hx.frame r bf fun b e=>(by cases e),hx.os,hx.tape,hx.output⟩;have q':af.q=y.q:=hx.le.qy;obtain⟨vs,rfl,h⟩:=Ff hv;simp only[J,VR]at h;obtain⟨_,_,e,rfl,_,_,rfl,h2,_,_,rfl,⟨rfl,_⟩,_,_,rfl,⟨r0,cap,hb0,ic,ed,rfl⟩,rfl⟩:=h;have h2:=(by simpa only[zI,VR]using h2:_=_);subst h2;have iz:vs=(Z8 (.slice (some ⟨r0,0,none⟩) nn cap)).toArray:=AAA.1 (e.trans rfl);subst iz;obtain⟨ob,o1,o2⟩:=cM.ew bb r0 hb0 (by rw[hblk];trivial);rw[hblk]at o2;obtain⟨c,rfl,v1,l1,_,z1⟩:=o2;have art:w.heap.size<=r0:=by
      rcases hx.new bb r0 hb0 with⟨b',e⟩|h
      ·cases e
      ·exact h
     let K1:Nat->Option Obj:=fun r=>if r=r0 then some (.cells c 98 (0,0))else K r
     have fb:rJ K w w' K1:=by
      refine⟨fun r o hk=> ?_,fun r o hk=> ?_,fun r o hk=> ?_⟩
      ·have:r≠r0:=fun e=>by have:=(arM.1 (hw r o hk)).1;omega
       show(if r=r0 then _ else K r)=_;rw[if_neg this];exact hk
      ·have hk:(if r=r0 then some (Obj.cells c 98 (0,0))else K r)=some o:=hk
       by_cases h:r=r0
       ·rw[if_pos h]at hk;cases hk;rw[h];exact o1
       ·rw[if_neg h]at hk
        have:=hw r o hk;rw[gG.same r (arM.1 this).1];exact this
      ·have hk:(if r=r0 then some (Obj.cells c 98 (0,0))else K r)=some o:=hk
       by_cases h:r=r0
       ·exact .inr (by omega)
       ·rw[if_neg h]at hk;exact .inl hk
     have hl:(lrQ nn).length=4*nn:=by simp[lrQ]
     have qp:c.toList.take (4*nn)=(aop nn).flatMap fs:=by
      rw[hl]at v1;refine List.ext_getElem? fun i=> ?_
      have hlen:=v1.length;rw[hl]at hlen;rcases Nat.lt_or_ge i (4*nn)with hi|hi
      ·obtain⟨z,hz1,hz2⟩:=v1.get (n:=i) (y:=.q i) (by simp[lrQ,hi])
       simp only[VR]at hz2;rw[hz1,flat_get f4 nn i hi,hz2.1,q'];have bf:i%4<(fs (i/4)).length:=by rw[f4];omega
       show some (((fs (i/4))[i%4]?).getD b0)=_;rw[arK bf];rfl
      ·rw[arZ (by omega),arZ]
       have:=Bg f4 nn;omega
     have hit:Vw nn (oC sh0 x0 t0) (oC sh1 x1 t1) (oC sh2 x2 t2)=(aop nn).flatMap fs:=by
      rcases(show nn=1\/nn=2\/nn=3 by omega)with rfl|rfl|rfl<;>simp[Vw,fs,arR,arN]
     have bQ:RowK K1 98 4 (.slice (some ⟨r0,0,none⟩) nn cap) (Vw nn (oC sh0 x0 t0) (oC sh1 x1 t1) (oC sh2 x2 t2)):=by
      refine⟨r0,nn,cap,c,rfl,by decide,?_,ic,by omega,if_pos rfl,?_⟩
      ·rw[hit,<-qp,List.length_take,asa];omega
      ·rw[hit,<-qp]
       congr 1
       rw[List.length_take,asa];omega
     have sK:∀r o,K r=some o->K1 r=some o:=fb.sub
     obtain⟨s,hs⟩:=Hf (K:=K1) (m:=nn) (of:=o) (by omega) a1 b1 c1 a2 b2 c2 (a3.mono sK) (b3.mono sK) (c3.mono sK) (.inr ⟨gn,bQ⟩);exact⟨_,K1,s,rfl,gG,fb,rfl,fun u hu=>by simp only[Z8,arI,arE,or_false]at hu;rcases hu with rfl|rfl|rfl|rfl<;>rfl,hs⟩
    ·cases r7
   ·cases ba
structure xw(K:Nat->Option Obj)(t e:TypeId)(v:Value)(n:Nat)(cells:Nat->List Value):Prop where
 sl:∃a cap,v=.slice a n cap
 at_:∀i,i<n->∃p:Value,p.oneCell'=true/\(∀w,(Instr.indexAt t v (.int .i64 i)).run Tryz.prog w=.ok p w)/\∀w:World,(∀r o,K r=some o->w.heap[r]? =some o)->(Instr.loadAt e p).run Tryz.prog w=.ok (.agg (cells i).toArray) w
theorem xw.mono{K':Nat->Option Obj}(h:∀r o,K r=some o->K' r=some o){t e:TypeId}{v:Value}{n:Nat}{cells:Nat->List Value}(hi:xw K t e v n cells):xw K' t e v n cells:=⟨hi.sl,fun i hl=>by obtain⟨p,h1,h2,h3⟩:=hi.at_ i hl;exact⟨p,h1,h2,fun w hw=>h3 w fun r o e=>hw r o (h r o e)⟩⟩
theorem xw.one{t e:TypeId}{v:Value}{n:Nat}{cells:Nat->List Value}(hi:xw K t e v n cells):v.oneCell'=true:=by obtain⟨a,cap,rfl⟩:=hi.sl;rfl
structure ji where
 nm:Int
 kd:Int
 of:Int
 ix:Bool
def ji.cells(r:ji):List Value:=[.int .i64 r.nm,.int .i64 r.kd,.int .i64 r.of,.bool r.ix]
def ji.OK(r:ji):Prop:=eR r.nm/\eR r.kd/\eR r.of
theorem ad.tv{B nt:Nat}{L:List (Nat×V)}{h:H}{a:Act}{w:World}(hs:ad φ B (U nt L) h a w){t:Nat}{x:V}(e:BP L t=x):VR φ x (a.tmps.getD t undef):=by
 have:=hs.fr.2 t;rw[cA,e]at this;exact this
def ve(K:Nat->Option Obj)(r:Nat)(o:Obj):Nat->Option Obj:=fun s=>if s=r then some o else K s
theorem fH{r:Nat}{o:Obj}:ve K r o r=some o:=if_pos rfl
theorem Hz{w:World}{r:Nat}{o:Obj}(hw:∀r o,K r=some o->w.heap[r]? =some o)(hr:w.heap.size<=r):∀s p,K s=some p->ve K r o s=some p:=fun s p h=>by
 have:s≠r:=fun e=>by have:=(arM.1 (hw s p h)).1;omega
 show(if s=r then some o else K s)=_;rw[if_neg this];exact h
theorem fR{r:Nat}{o:Obj}{s:Nat}{p:Obj}(h:ve K r o s=some p):(s=r/\p=o)\/K s=some p:=by
 have h:(if s=r then some o else K s)=some p:=h
 by_cases e:s=r
 ·rw[if_pos e]at h;exact .inl ⟨e,(Option.some.inj h).symm⟩
 ·rw[if_neg e]at h;exact .inr h
theorem fU.add{K:Nat->Option Obj}{φ:Ren}{B:Nat}{fr:Fr}{h:H}{a:Act}{w:World}(hK:fU K φ)(hs:ad φ B fr h a w){r:Nat}{o:Obj}(ho:w.heap[r]? =some o)(hn:∀b,φ b=some r->¬(h.get b).mut):fU (ve K r o) φ:=fun s p e=>by
 rcases fR e with⟨rfl,rfl⟩|e
 ·rw[hs.kf s hn];exact ho
 ·exact hK s p e
theorem Bh{φ:Ren}:∀{l:List (List Nat)} {vs:List Value},J φ (l.map V.s) vs->vs=l.map fun x=>.string (bytes x)
 |[],vs,h=>by simp only[List.map_nil,J]at h;rw[h];rfl
 |x::l,vs,h=>by
  simp only[List.map_cons,J,VR]at h;obtain⟨_,_,rfl,⟨rfl,_⟩,h⟩:=h;rw[Bh h];rfl
def dF:eO:=⟨cj,cj,0,0,false⟩
def HA(nmI:Int)(xf nV:Value)(cn:ByteArray)(i:Nat)(fl:List eO):Sym:=
 {s:=fun x=>if x=0 then nmI else if x=5 then(i:Int)else if x<16 then(fl.getD (x-10) dF).nk else(fl.getD (x-16) dF).no,
  q:=fun x=>if x=1 then xf else if x=2 then .string cn else if x=4 then nV else if x<26 then .string (fl.getD (x-20) dF).t else .bool (fl.getD (x-130) dF).b,
  w:=fun _=>[],g:=fun _=>(#[],0),k:=fun _=>none}
section
variable {nmI:Int} {xf nV:Value} {cn:ByteArray} {i j:Nat} {fl:List eO}
theorem rW(h:j<6):(HA nmI xf nV cn i fl).s (10+j)=(fl.getD j dF).nk:=by
 show(if 10+j=0 then _ else if 10+j=5 then _ else if 10+j<16 then(fl.getD (10+j-10) dF).nk else _)=_;rw[if_neg (by omega),if_neg (by omega),if_pos (by omega),show 10+j-10=j by omega]
theorem rX(h:j<6):(HA nmI xf nV cn i fl).s (16+j)=(fl.getD j dF).no:=by
 show(if 16+j=0 then _ else if 16+j=5 then _ else if 16+j<16 then _ else(fl.getD (16+j-16) dF).no)=_;rw[if_neg (by omega),if_neg (by omega),if_neg (by omega),show 16+j-16=j by omega]
theorem lE(h:j<6):(HA nmI xf nV cn i fl).q (20+j)=.string (fl.getD j dF).t:=by
 show(if 20+j=1 then _ else if 20+j=2 then _ else if 20+j=4 then _ else if 20+j<26 then arL (fl.getD (20+j-20) dF).t else _)=_;rw[if_neg (by omega),if_neg (by omega),if_neg (by omega),if_pos (by omega),show 20+j-20=j by omega]
theorem nH(h:j<6):(HA nmI xf nV cn i fl).q (130+j)=.bool (fl.getD j dF).b:=by
 show(if 130+j=1 then _ else if 130+j=2 then _ else if 130+j=4 then _ else if 130+j<26 then _ else Value.bool (fl.getD (130+j-130) dF).b)=_;rw[if_neg (by omega),if_neg (by omega),if_neg (by omega),if_neg (by omega),show 130+j-130=j by omega]
end
def CU(k:Nat):bP:={s:=[(0,.y 0),(5,.y 5)]++(aop k).flatMap (fun j=>[(10+j,.y (10+j)),(16+j,.y (16+j))]),q:=[(1,.q 1),(2,.q 2),(4,.q 4)]++(aop k).flatMap (fun j=>[(20+j,.q (20+j)),(130+j,.q (130+j))])}
theorem aaF:((aop 7).all fun k=>aW (CU k) 81 Hn 4 (B4 k))=true:=by decide+kernel
theorem amk:(bG {s:=[(0,.y 0),(5,.i 0)],q:=[(1,.q 1),(2,.q 2),(4,.sl (some (4,0)) 6 (.kn 6))]} (U 81 aak) (ak 5 aal) 81 Hn 4 (B4 0)).isSome=true:=by decide+kernel
def bbs:List (Bool×Bool):=[(false,true),(false,false),(true,false)]
noncomputable def aaG(k:Nat)(b:Bool×Bool):Bool:=av (aI E3 (aap b.1 b.2) {on:=[(1,6)]}) 100 (Km.take 20) (U 81 Hn) (ak 4 (B4 k)) (.e 0) (CU k) 81 Hn 4 (B4 k)
theorem ap4:((aop 7).all fun k=>bbs.all (aaG k))=true:=by decide+kernel
def aml(k:Nat):List (Nat×aQ):=[(1,.cells [.q 2,TH k] 54 false)]++(match k with|0=>[]|k=>[(3,.cells (Fc k) 93 true)])
noncomputable def aaH(k:Nat):Bool:=av (aI E3 {} {}) 100 ((Vx.drop 5).take 5) (U 81 Hn) (ak 4 (B4 k)) .r (CU k) 81 [(2,.p (some (1,0)))] 4 (aml k)
theorem ap5:((aop 7).all aaH)=true:=by decide+kernel
def FNm(fl:List eO):Prop:=∀f∈fl,∃n∈aT,f.t=bytes n
structure HC(K1:Nat->Option Obj)(w0:World)(nmI:Int)(xf nV:Value)(cn:ByteArray)(i:Nat)(a:Act)(w':World):Prop where
 ex:∃φ fl,ad φ w0.heap.size (U 81 Hn) (ak 4 (B4 fl.length)) a w'/\fU K1 φ/\a.defers=[]/\GB w0.heap.size w0 w'/\bD φ (HA nmI xf nV cn i fl)/\dW fl/\fl.length<=i/\(1<=i->fl≠[])/\FNm fl
def afM(y:Sym)(n i:Nat)(r:ji)(p np:Value)(nw:ByteArray):Sym:=
 {y with
  s:=fun x=>if x=6 then(n:Int)else if x=7 then(i:Int)+1 else if x=50 then r.nm else if x=51 then r.kd else if x=52 then r.of else if x=60 then ax r.nm 6 else if x=61 then 1+ax r.kd 5 else if x=62 then 1+ax r.of 4 else if x=63 then ax r.of 4 else if x=64 then ax r.kd 5 else y.s x,
  q:=fun x=>if x=3 then p else if x=5 then np else if x=6 then .string nw else y.q x}
theorem qu{y:Sym}{n i:Nat}{r:ji}{p np:Value}{nw:ByteArray}{x:Nat}(h:x<6\/(10<=x/\x<50)):(afM y n i r p np nw).s x=y.s x:=by
 show(if x=6 then _ else if x=7 then _ else if x=50 then _ else if x=51 then _ else if x=52 then _ else if x=60 then _ else if x=61 then _ else if x=62 then _ else if x=63 then _ else if x=64 then _ else y.s x)=_
 repeat rw[if_neg (by omega)]
theorem mC{y:Sym}{n i:Nat}{r:ji}{p np:Value}{nw:ByteArray}{x:Nat}(h:x≠3/\x≠5/\x≠6):(afM y n i r p np nw).q x=y.q x:=by
 show(if x=3 then _ else if x=5 then _ else if x=6 then _ else y.q x)=_;rw[if_neg h.1,if_neg h.2.1,if_neg h.2.2]
theorem EK{fl:List eO}{j:Nat}(h:j<fl.length)(d:eO):fl.getD j d=fl[j]:=by rw[arF,arK h];rfl
theorem vg{fl:List eO}{f:eO}{j:Nat}(h:j<fl.length)(d:eO):(fl++[f]).getD j d=fl.getD j d:=by rw[arF,arW h,arF]
theorem vh{fl:List eO}{f:eO}(d:eO):(fl++[f]).getD fl.length d=f:=by rw[arF,arV (Nat.le_refl _)];simp
theorem XY{ro:Option Nat}{n:Nat}{P:Program}{id:Nat}{b:Code}{rest:List Code}{Q:Exit->Act->World->Prop}(N:Nat)(Inv:Nat->Act->World->Prop)
  (step:∀i a w,i<N->Inv i a w->aC ro n P (fun e a' w'=>(e=.normal/\Inv (i+1) a' w')\/(e=.ret/\Q .ret a' w')) (ct b) a w)
  (last:∀a w,Inv N a w->aC ro n P (fun e a' w'=>e=.exit id/\aC ro n P Q rest a' w') (ct b) a w){a:Act}{w:World}(h0:Inv 0 a w):aC ro n P Q (.block id (.loop b)::rest) a w:=by
 have key:∀d i a w,i+d=N->Inv i a w->Code.roundsIn (W ro) n P b (Exit.inBlock id (Exit.then (aC ro n P Q rest) Q)) (d+1) a w:=by
  intro d
  induction d with
  |zero=>
   intro i a w hi hv;have:i=N:=by omega
   subst this;refine wpIn_mono (bp b (last a w hv)) ?_;rintro e a' w' ⟨rfl,hq⟩;show(if id=id then _ else _);rw[if_pos rfl];exact hq
  |succ d ih=>
   intro i a w hi hv;refine wpIn_mono (bp b (step i a w (by omega) hv)) ?_;rintro e a' w' (⟨rfl,hq⟩|⟨rfl,hq⟩)
   ·exact ih (i+1) a' w' (by omega) hq
   ·exact hq
 exact wpIn_block (wpIn_loop_rounds (N+1) (key N 0 a w (by omega) h0))
noncomputable def EL:List Code:=ct ((Tryz.f108.body).getD .skip)
noncomputable def vj:List Code:=Be (EL.drop 2)
def amm:List V:=[.a [.q 26,.q 100],.y .i64 1,.a [.y .i64 40,.y .i64 41]]
def HD:List (Nat×V):=[(1,.y .i64 1),(3,.p (some (0,0))),(5,.p (some (1,0))),(6,.s []),(7,.b false),(8,.y .i64 8)]
def HE:List (Nat×aQ):=[(0,.cells [.q 26,.q 100] 54 false),(1,.cells [.y .i64 40,.y .i64 41] 56 false)]
def XZ(i:SV):bP:={s:=[(1,.y 1),(8,i),(40,.y 40),(41,.y 41)],q:=[(26,.q 26),(100,.q 100)]}
theorem ap6:av (aI E3 {} {}) 100 (EL.take 2) ⟨35,load amm 0 .leaf⟩ (ak 0 []) .n (XZ (.i 0)) 35 HD 2 HE=true:=by decide+kernel
def X0(l e1 e2:Bool):aU:=
 {bin:=[(.lss,.y .i64 8,.y .i64 60,.b l),(.add,.y .i64 61,.y .i64 8,.y .i64 62),(.rem,.y .i64 62,.y .i64 60,.y .i64 63),(.eql,.y .i64 42,.y .i64 40,.b e1),(.eql,.y .i64 43,.y .i64 41,.b e2),(.add,.y .i64 8,.i .i64 1,.y .i64 64)],
  qc:=[(54,[.y .i64 1,.i .i64 100],.y .i64 61)]}
def X1:XF:={on:=[(100,60)],oi:=[(52,100,.y .i64 63,102)],ol:=[(93,102,.a [.q 70,.y .i64 42,.y .i64 43,.q 71])]}
noncomputable def afN(e1 e2:Bool):Bool:=av (aI E3 (X0 true e1 e2) X1) 200 (vj.take 20) (U 35 HD) (ak 2 HE) .n (XZ (.y 64)) 35 HD 2 HE
theorem ap7:(afN false true&&afN false false&&afN true false)=true:=by decide+kernel
theorem ap8:av (aI E3 (X0 true true true) X1) 200 (vj.take 20) (U 35 HD) (ak 2 HE) .r {q:=[(70,.q 70)]} 35 [(6,.q 70),(7,.b true)] 0 []=true:=by decide+kernel
theorem ap9:av (aI E3 {bin:=[(.lss,.y .i64 8,.y .i64 60,.b false)]} {on:=[(100,60)]}) 200 (vj.take 20) (U 35 HD) (ak 2 HE) (.e 0) {} 35 [] 0 []=true:=by decide+kernel
theorem aqa:av (aI E3 {} {}) 200 ((EL.drop 3).take 5) (U 35 []) (ak 0 []) .r {} 35 [(6,.s []),(7,.b false)] 0 []=true:=by decide+kernel
def TR(fl:List eO)(a:Nat)(t1 t2:Int):Nat->Nat->Option eO
 |0,_=>none
 |d+1,i=>if(fl.getD ((a+i)%fl.length) dF).nk=t1/\(fl.getD ((a+i)%fl.length) dF).no=t2 then some (fl.getD ((a+i)%fl.length) dF)else TR fl a t1 t2 d (i+1)
theorem TS{fl:List eO}{a:Nat}{t1 t2:Int}{f:eO}:∀{d i:Nat},fl≠[]->TR fl a t1 t2 d i=some f->f∈fl/\f.nk=t1/\f.no=t2
 |0,_,_,h=>by cases h
 |d+1,i,bU,h=>by
  simp only[TR]at h;split at h
  ·rename_i hc
   cases h;have hl:(a+i)%fl.length<fl.length:=Nat.mod_lt _ (asb.2 bU);rw[EK hl]at hc⊢;exact⟨arQ _,hc⟩
  ·exact TS bU h
def afO:Option eO->Value
 |none=>.tuple #[.string cj,.bool false]
 |some f=>.tuple #[.string f.t,.bool true]
theorem CV:∀(fl:List eO) (i:Nat) (h:i<fl.length),((fl.flatMap eO.cells).drop (i*4)).take 4=(fl[i]).cells
 |f::fl,0,_=>by rw[asd,Nat.zero_mul,List.drop_zero,List.take_append_of_le_length (by simp[eO.cells])];rfl
 |f::fl,i+1,h=>by
  rw[asd,show(i+1)*4=f.cells.length+i*4 by simp[eO.cells];omega,List.drop_length_add_append];exact CV fl i (by simpa using h)
def fiY(nm:ByteArray)(fs:Value)(fl:List eO)(p t1 t2:Int)(a i:Nat):Sym:=
 {s:=fun x=>match x with|1=>p|8=>i|40=>t1|41=>t2|60=>fl.length|61=>a|62=>(a+i:Nat)|63=>((a+i)%fl.length:Nat)|64=>(i+1:Nat)|42=>(fl.getD ((a+i)%fl.length) dF).nk|_=>(fl.getD ((a+i)%fl.length) dF).no,
  q:=fun x=>match x with|26=>.string nm|100=>fs|102=>bE fs ((a+i)%fl.length*4)|70=>.string (fl.getD ((a+i)%fl.length) dF).t|_=>.bool (fl.getD ((a+i)%fl.length) dF).b,
  w:=fun _=>[],g:=fun _=>(#[],0),k:=fun _=>none}
theorem qv{nm:ByteArray}{fl:List eO}(hf:dW fl){fs:Value}(jM:eP K fl fs)(h1:fs.oneCell'=true){p:Int}(hp:eR p)(t1 t2:Int):
  Quiet Tryz.prog K 108 [.agg #[.string nm,fs],.int .i64 p,.agg #[.int .i64 t1,.int .i64 t2]] (· =afO (TR fl (ax p 100).toNat t1 t2 fl.length 0)):=by
 refine⟨⟨_,_,Tryz.func108,rfl,rfl⟩,fun m w hw=> ?_⟩;obtain⟨q1,q2⟩:=bI p (N:=100) (by decide);obtain⟨a,ha⟩:∃a,a=(ax p 100).toNat:=⟨_,rfl⟩
 rw[<-ha];have haI:ax p 100=(a:Int):=by rw[ha,arO q1]
 have h6:=hf.len;let Y:Nat->Sym:=fiY nm fs fl p t1 t2 a;have agr:∀(i j:Nat) (v:SV),(match v with|.y z=>(Y i).s z|.i n=>n)=(j:Int)->Ag (XZ v) (Y i) (Y j):=fun i j v hv=>⟨⟨rfl,hv.symm,rfl,rfl,agm⟩,⟨⟨rfl,rfl⟩,⟨rfl,h1⟩,agm⟩,agm,agm⟩
 have bB:=ad.enter (nt:=35) (bc (Y 0) w) rfl rfl (vs:=amm) (args:=[.agg #[.string nm,fs],.int .i64 p,.agg #[.int .i64 t1,.int .i64 t2]])
  (J.cons (vA (J.cons (vQ rfl rfl) (J.cons (vQ rfl h1) J.nil))) (J.cons (vY rfl) (J.cons (vA (J.cons (vY rfl) (J.cons (vY rfl) J.nil))) J.nil))) (by decide)
 refine dz (fn:=Tryz.f108) (c:=(Tryz.f108.body).getD .skip) (args:=[.agg #[.string nm,fs],.int .i64 p,.agg #[.int .i64 t1,.int .i64 t2]]) Tryz.func108 rfl (bp _ ?_);show aC none m Tryz.prog _ EL _ _;refine ad.runK (aw ah _ _) rfl 2 (cs:=EL) ap6 bB (fU.all rfl hw) (eZ aS eX) rfl (Y 0) (Ag.au (agr 0 0 (.i 0) rfl) rfl rfl rfl rfl) fun φ a1 w1 hs hK hd hg n1 n2 n3 n4=> ?_
 show aC none m Tryz.prog _ (EL.drop 2) a1 w1;have iv:∀{φ:Ren} {i:Nat},φ.s=(Y i).s->∀x,aR φ.y (.y .i64 x)=some (.i64,(Y i).s x):=fun e x=>congrArg (fun z=>some (arH,z)) (agB e x)
 have hon:∀{φ:Ren} {i:Nat},φ.s=(Y i).s->φ.q=(Y i).q->∃a n cap,φ.q 100=.slice a n cap/\φ.s 60=(n:Int):=fun{φ i} e1 e2=>by
  rw[e1,e2];rcases jM with⟨e,e'⟩|⟨_,hr⟩
  ·exact⟨none,0,0,e',by show(fl.length:Int)=_;rw[e];rfl⟩
  ·obtain⟨r,n,cap,c,e,_,h3,_⟩:=hr
   refine⟨_,n,cap,e,?_⟩;rw[qm]at h3;show(fl.length:Int)=n;omega
 refine XY (id:=0) (b:=(match EL.drop 2 with|.block _ (.loop b)::_=>b|_=>.skip)) (rest:=EL.drop 3) fl.length
  (fun i a' w'=>∃φ,ad φ w.heap.size (U 35 HD) (ak 2 HE) a' w'/\fU K φ/\a'.defers=[]/\GB w.heap.size w w'/\bD φ (Y i)/\TR fl a t1 t2 (fl.length-i) i=TR fl a t1 t2 fl.length 0) ?_ ?_ ⟨φ,hs,hK,hd,hg,⟨n1,n2,n3,n4⟩,rfl⟩
 ·rintro i a' w' hi ⟨φ,hs,hK,hd,hg,⟨n1,n2,n3,n4⟩,hgo⟩
  show aC none m Tryz.prog _ vj a' w';have bU:fl≠[]:=fun e=>by rw[e]at hi;simp at hi
  have bQ:RowK K 93 4 fs (fl.flatMap eO.cells):=by rcases jM with⟨e,_⟩|⟨_,h⟩;exact absurd e bU;exact h
  have gn:0<fl.length:=asb.2 bU;obtain⟨ix,Pm⟩:∃ix,ix=(a+i)%fl.length:=⟨_,rfl⟩
  have bf:ix<fl.length:=by rw[Pm];exact Nat.mod_lt _ gn
  obtain⟨f,X2⟩:∃f,f=fl.getD ix dF:=⟨_,rfl⟩
  have nY:fl[ix]=f:=by rw[X2,EK bf]
  have DA:=bQ.idx (t:=52) (e:=93) (ah.ty 52 _ _ rfl).2 (ah.ty 93 _ _ rfl).1 rfl (i:=ix) (by rw[qm];omega);obtain⟨e1,he1⟩:∃e,e=decide (f.nk=t1):=⟨_,rfl⟩
  obtain⟨e2,he2⟩:∃e,e=decide (f.no=t2):=⟨_,rfl⟩
  have hF:aA Tryz.prog (X0 true e1 e2) φ:=by
   refine⟨agm,⟨.lss (iv n1 8) (iv n1 60) (by show decide ((i:Int)<(fl.length:Int))=true;simp;omega),.add (iv n1 61) (iv n1 8) (by rw[iv n1 62];rfl) (i64_in (by show-1000000000<=(a:Int)+(i:Int)/\(a:Int)+(i:Int)<=_;omega)),.rem (iv n1 62) (iv n1 60) (by show(fl.length:Int)≠0;omega) ?_ ?_,.eql (iv n1 42) (iv n1 40) ?_,.eql (iv n1 43) (iv n1 41) ?_,.add (iv n1 8) rfl (by rw[iv n1 64];rfl) (i64_in (by show-1000000000<=(i:Int)+1/\(i:Int)+1<=_;omega)),agm⟩,agm,agm,agm,agm,agm,agm,?_,agm⟩
   ·rw[iv n1 63]
    show some (arH,(((a+i)%fl.length:Nat):Int))=some (arH,((a+i:Nat):Int).tmod (fl.length:Int));rw[arX (by omega)];rfl
   ·refine i64_in ?_
    show-1000000000<=((a+i:Nat):Int).tmod (fl.length:Int)/\((a+i:Nat):Int).tmod (fl.length:Int)<=_;rw[arX (by omega)];have:=Int.emod_nonneg ((a+i:Nat):Int) (show(fl.length:Int)≠0 by omega);have:=Int.emod_lt_of_pos ((a+i:Nat):Int) (show(0:Int)<(fl.length:Int)by omega);omega
   ·show decide ((fl.getD ((a+i)%fl.length) dF).nk=t1)=e1;rw[<-Pm,<-X2,he1]
   ·show decide ((fl.getD ((a+i)%fl.length) dF).no=t2)=e2;rw[<-Pm,<-X2,he2]
   ·have:=qo φ.y.k hp (N:=100) (by decide)
    rw[show((100:Nat):Int)=100 from rfl,haI]at this;exact dy rfl this (J.cons (vY (agB n1 1)) (J.cons vI J.nil)) (vY (agB n1 61))
  have hX:iZ Tryz.prog X1 φ:=by
   refine{on:=⟨hon n1 n2,agm⟩,oi:=⟨fun af hl vi hv=> ?_,agm⟩,ol:=⟨fun w hw=> ?_,agm⟩}
   ·simp only[VR]at hv
    rw[hl.sy,n1]at hv;have hv:vi=.int .i64 ((ix:Nat):Int):=by rw[hv,Pm];rfl
    subst hv;rw[show φ.q 100=fs from agB n2 100,show φ.q 102=bE fs (ix*4)by rw[n2,Pm];rfl];exact DA
   ·have aqb:φ.q 102=bE fs (ix*4):=by rw[n2,Pm];rfl
    rw[aqb];have c70:φ.q 70=.string f.t:=by rw[n2,X2,Pm];rfl
    have c71:φ.q 71=.bool f.b:=by rw[n2,X2,Pm];rfl
    have c42:φ.s 42=f.nk:=by rw[n1,X2,Pm];rfl
    have c43:φ.s 43=f.no:=by rw[n1,X2,Pm];rfl
    exact bQ.load (t:=93) (ah.ty 93 _ _ rfl).1 (ah.ty 93 _ _ rfl).2 (us:=f.cells) (cs:=[.q 70,.y .i64 42,.y .i64 43,.q 71]) (J.cons (vQ c70 rfl) (J.cons (vY c42) (J.cons (vY c43) (J.cons (vQ c71 rfl) J.nil)))) (o:=ix*4) (by
     show((fl.flatMap eO.cells).drop (ix*4)).take 4=f.cells;rw[CV fl ix bf,nY]) rfl fun r o e=>hw r o (hK r o e)
  have kS:TR fl a t1 t2 (fl.length-i) i=if f.nk=t1/\f.no=t2 then some f else TR fl a t1 t2 (fl.length-(i+1)) (i+1):=by
   rw[show fl.length-i=(fl.length-(i+1))+1 by omega];simp only[TR];rw[<-Pm,<-X2]
  by_cases hm:f.nk=t1/\f.no=t2
  ·have t1':e1=true:=by rw[he1];simpa using hm.1
   have t2':e2=true:=by rw[he2];simpa using hm.2
   subst t1';subst t2';rw[if_pos hm]at kS;refine ad.runK (aw ah _ _) rfl 20 (cs:=vj) ap8 hs hK (eZ hF hX) hd (Y i) (Ag.au (o:=Y i) ⟨agm,⟨⟨rfl,rfl⟩,agm⟩,agm,agm⟩ n1 n2 n3 n4) fun af a2 w2 dx Ca mF iK m1 m2 m3 m4=>.inr ⟨rfl,.inl rfl,mF,?_⟩
   obtain⟨v,gE,ff⟩:=dx.leave ah (fn:=Tryz.f108) (l:=[.q 70,.b true]) rfl;refine⟨v,gE,v,rfl,?_,(hg.trans iK).grown⟩;rw[<-hgo,kS];simp only[fG,VR,J]at ff;obtain⟨vs,rfl,x,l,e,⟨rfl,_⟩,y,l',rfl,rfl,rfl⟩:=ff;have:af.q 70=.string f.t:=by rw[m2,X2,Pm];rfl
   rw[this]at e;exact congrArg _ (AAA.1 (e.trans rfl))
  ·rw[if_neg hm]at kS
   have ba:av (aI E3 (X0 true e1 e2) X1) 200 (vj.take 20) (U 35 HD) (ak 2 HE) .n (XZ (.y 64)) 35 HD 2 HE=true:=by
    have:=ap7;simp only[arD]at this;cases b1:e1<;>cases b2:e2
    ·exact this.1.2
    ·exact this.1.1
    ·exact this.2
    ·exact absurd ⟨by rw[b1]at he1;simpa using he1.symm,by rw[b2]at he2;simpa using he2.symm⟩ hm
   exact ad.runK (aw ah _ _) rfl 20 (cs:=vj) ba hs hK (eZ hF hX) hd (Y (i+1)) (Ag.au (agr i (i+1) (.y 64) rfl) n1 n2 n3 n4) fun af a2 w2 dx Ca mF iK m1 m2 m3 m4=>.inl ⟨rfl,af,dx,Ca,mF,hg.trans iK,⟨m1,m2,m3,m4⟩,kS.symm.trans hgo⟩
 ·rintro a' w' ⟨φ,hs,hK,hd,hg,⟨n1,n2,n3,n4⟩,hgo⟩
  show aC none m Tryz.prog _ vj a' w';refine ad.runK (aw ah _ _) rfl 20 (cs:=vj) ap9 hs hK (eZ ⟨agm,⟨.lss (iv n1 8) (iv n1 60) (by show decide ((fl.length:Int)<(fl.length:Int))=false;simp),agm⟩,agm,agm,agm,agm,agm,agm,agm⟩ {on:=⟨hon n1 n2,agm⟩}) hd (Y fl.length) (Ag.au (o:=Y fl.length) ⟨agm,agm,agm,agm⟩ n1 n2 n3 n4) fun af a2 w2 dx Ca mF iK m1 m2 m3 m4=>⟨rfl,?_⟩
  refine ad.runK (aw ah _ _) rfl 5 (cs:=EL.drop 3) aqa dx Ca (eZ aS eX) mF (Y fl.length) (Ag.au (o:=Y fl.length) ⟨agm,agm,agm,agm⟩ m1 m2 m3 m4) fun af a3 w3 ez X3 gJ ig m1 m2 m3 m4=>⟨.inl rfl,gJ,?_⟩
  obtain⟨v,gE,ff⟩:=ez.leave ah (fn:=Tryz.f108) (l:=[.s [],.b false]) rfl;refine⟨v,gE,v,rfl,?_,((hg.trans iK).trans ig).grown⟩;rw[<-hgo,Nat.sub_self];simp only[fG,VR,J]at ff;obtain⟨vs,rfl,x,l,e,⟨rfl,_⟩,y,l',rfl,rfl,rfl⟩:=ff;exact congrArg _ (AAA.1 (e.trans rfl))
theorem X4{x:Option V}(h:TO x=true):x=some (.b true):=by
 unfold TO at h;split at h
 ·rfl
 ·cases h
theorem xx{k:Nat}{f:FuncId}{Vs:List V}(h:TO (XU k f Vs)=true){args:List Value}(ha:∀φ:Ren,J φ Vs args)(XA:∃fn c,Tryz.prog.funcs[f]? =some fn/\fn.body=some c/\(fn.name== "runtime.NumGoroutine")=false)(K:Nat->Option Obj):Quiet Tryz.prog K f args (· =.bool true):=by
 have h:=X4 h;unfold XU at h;split at h
 ·rename_i v' h' e
  cases h;have key:=fun n w=>gq (aw Hv {} {}) (cV (aw Hv {} {}) k).1 _ _ _ _ _ e (φ0 ⟨fun _=>0,fun _=>.bool false,fun _=>[],fun _=>(#[],0),fun _=>none⟩ w) args w n (fun g hg=>absurd hg (arS _)) (eZ aS eX) (ha _) (bc _ w)
  refine⟨XA,fun n w _=>((key n w).2).mono ?_⟩;rintro e w' ⟨af,x,rfl,hx,hv,cM⟩;refine⟨x,rfl,Ih hv,hx.size,fun r bf=> ?_,hx.os,hx.tape,hx.output⟩;have ho:w.heap[r]? =some w.heap[r]:=Array.getElem?_eq_getElem bf;rw[ho];exact(cM.kp r w.heap[r] (by rw[hx.le.yy];exact ho)).1
 ·cases h
theorem afP{nm:List Nat}(h:txE nm=true):(∀x∈nm,x<256)/\∃enc:ByteArray,1<=enc.size/\enc.size<=64/\∀K,Quiet Tryz.prog K 177 [.string (bytes nm)] (· =.tuple #[.string enc,.int .i64 0]):=by
 unfold txE at h;split at h
 ·rename_i l e
  simp only[arD,arC]at h;obtain⟨h,h9⟩:=h;have h8:∀x∈nm,x<256:=fun x hx=>bh.1 (h9 x hx)
  obtain⟨h1,h2,h3⟩:=EA h;refine⟨h8,bytes l,h2,h3,jh e (fun φ=>J.cons (vS h8) J.nil) (fun φ x hx=> ?_) ⟨_,_,Tryz.func177,rfl,rfl⟩⟩;simp only[VR,J]at hx;obtain⟨vs,rfl,a,l',e',⟨rfl,_⟩,b,l2,rfl,rfl,rfl⟩:=hx;exact congrArg _ (AAA.1 (e'.trans rfl))
 ·cases h
def Po(fl:List eO)(N:List Nat)(t1 t2:Int):Prop:=∃f∈fl,f.t=bytes N/\f.nk=t1/\f.no=t2
theorem y7{k r:Nat}{N T:List Nat}(h:Ik k r N T=true):(∀x∈Pj k r N T,x<256)/\∃enc,tr (bytes (Pj k r N T)) enc:=by
 simp only[Ik,arD]at h;obtain⟨⟨⟨h1,h2⟩,h3⟩,_⟩:=h;obtain⟨h8,enc,e1,e2,e3⟩:=afP h1;exact⟨h8,enc,xx h2 (fun φ=>J.cons (vS h8) (J.cons vB J.nil)) ⟨_,_,Tryz.func240,rfl,rfl⟩,xx h3 (fun φ=>J.cons (vS h8) J.nil) ⟨_,_,Tryz.func159,rfl,rfl⟩,e3,e1,e2⟩
section
variable {K:Nat->Option Obj} {nm enc:ByteArray} {fl:List eO} {fs:Value}
def clY(nm:ByteArray)(fs:Value)(p:Int)(q:Nat->Value):Sym:={s:=fun x=>match x with|1=>p.tdiv 2|_=>p,q:=fun x=>match x with|26=>.string nm|100=>fs|x=>q x,w:=fun _=>[],g:=fun _=>(#[],0),k:=fun _=>none}
theorem vm{p:Int}{q:Nat->Value}(h1:fs.oneCell'=true)(e:φ.q=(clY nm fs p q).q):VR φ Fe (.agg #[.string nm,fs]):=vA (J.cons (vQ (by rw[e];rfl) rfl) (J.cons (vQ (by rw[e];rfl) h1) J.nil))
theorem HF(hf:dW fl)(jM:eP φ.y.k fl fs)(lN:VR φ Fe (.agg #[.string nm,fs])){N:List Nat}{k o:Nat}(h8:∀x∈N,x<256)(h:Po fl N k o):
  ∀af,Le φ af->∀args',J af [.a [.i .i64 3,zI,.s N,eD],Fe] args'->Quiet Tryz.prog φ.y.k 232 args' fun u=>VR af (.t [.a [.i .i64 k,.i .i64 o],.b true]) u:=by
 obtain⟨f,hm,ht,hk,ho⟩:=h;have:=afv (K:=φ.y.k) (nm:=nm) hf jM hm;rw[ht,hk,ho]at this;exact dy rfl this (J.cons (vA (J.cons vI (J.cons aL (J.cons (vS h8) (J.cons bY J.nil))))) (J.cons lN J.nil)) (by simp only[VR];exact⟨_,rfl,J.cons (vA (J.cons vI (J.cons vI J.nil))) (J.cons vB J.nil)⟩)
theorem TT{N:List Nat}(h:N∈aT):∀x∈N,x<256:=fun x hx=>by
 have:=arC.1 Mr N h;simp only[xZ,arD,arC]at this;exact bh.1 (this.2 x hx)
theorem HG(hf:dW fl)(jM:eP φ.y.k fl fs)(lN:VR φ Fe (.agg #[.string nm,fs])){N:List Nat}{k:Nat}(h:N=d7\/N=vP\/N∈aT/\Po fl N k 0):
  cI (fun e:FuncId×List V×V=>∀af,Le φ af->∀args',J af e.2.1 args'->Quiet Tryz.prog φ.y.k e.1 args' fun u=>VR af e.2.2 u) (MG N k):=by
 unfold MG;rcases h with rfl|rfl|⟨h1,h2⟩
 ·exact agm
 ·exact agm
 ·cases hc:kU N d7||kU N vP with
  |true=>exact agm
  |false=>exact⟨HF hf jM lN (o:=0) (TT h1) h2,agm⟩
theorem TU(hn:fP nm enc)(hf:dW fl)(jM:eP K fl fs)(h1:fs.oneCell'=true){k r:Nat}{N T:List Nat}(h:Ik k r N T=true)(hN:N=d7\/N∈aT/\Po fl N 1 0)(hT:T=vP\/T∈aT/\Po fl T 2 0):
  Quiet Tryz.prog K 111 [.string (bytes (Pj k r N T)),.agg #[.string nm,fs],.agg #[.int .i64 k,.int .i64 0]] (· =.bool true):=by
 have h8:=(y7 h).1;simp only[Ik,arD]at h;refine cC Hv rfl h.2 (clY nm fs 0 fun _=>b0) (fun φ f1 f2 f3 f4 hK=> ?_) (fun φ _ _ _ _ _=>eX) (fun w hw=>⟨φ0 _ w,bc _ w,rfl,?_⟩) (fun φ _ _ x hx=>Ih hx) ⟨_,_,Tryz.func111,rfl,rfl⟩
 ·have rj:eP φ.y.k fl fs:=jM.mono hK
  have lN:=vm (nm:=nm) h1 f2;refine⟨agm,agm,agm,agm,agm,agm,agm,agm,⟨dy rfl (uU hn hf rj).2 (J.cons lN J.nil) vB,aO (HG hf rj lN (hN.elim .inl fun h=>.inr (.inr h))) (HG hf rj lN (.inr hT))⟩⟩
 ·exact J.cons (vS h8) (J.cons (vm (p:=0) h1 rfl) (J.cons (vA (J.cons vI (J.cons aL J.nil))) J.nil))
theorem afQ(hn:fP nm enc)(hf:dW fl)(jM:eP K fl fs)(h1:fs.oneCell'=true){k o:Nat}{N:List Nat}(h:tlO k o N=true)(hN:N∈aT)(hi:Po fl N k o):
  Quiet Tryz.prog K 111 [.string (bytes N),.agg #[.string nm,fs],.agg #[.int .i64 k,.int .i64 o]] (· =.bool true):=by
 refine cC Hv rfl h (clY nm fs 0 fun _=>b0) (fun φ f1 f2 f3 f4 hK=> ?_) (fun φ _ _ _ _ _=>eX) (fun w hw=>⟨φ0 _ w,bc _ w,rfl,?_⟩) (fun φ _ _ x hx=>Ih hx) ⟨_,_,Tryz.func111,rfl,rfl⟩
 ·have rj:eP φ.y.k fl fs:=jM.mono hK
  have lN:=vm (nm:=nm) h1 f2;exact⟨agm,agm,agm,agm,agm,agm,agm,agm,HF hf rj lN (TT hN) hi,dy rfl (uU hn hf rj).2 (J.cons lN J.nil) vB,agm⟩
 ·exact J.cons (vS (TT hN)) (J.cons (vm (p:=0) h1 rfl) (J.cons (vA (J.cons vI (J.cons vI J.nil))) J.nil))
theorem TV(h1:fs.oneCell'=true){k o:Nat}(h:tlE k o=true):Quiet Tryz.prog K 111 [.string cj,.agg #[.string nm,fs],.agg #[.int .i64 k,.int .i64 o]] (· =.bool true):=cC Hv rfl h (clY nm fs 0 fun _=>b0) (fun φ f1 f2 f3 f4 hK=>aS) (fun φ _ _ _ _ _=>eX) (fun w hw=>⟨φ0 _ w,bc _ w,rfl,J.cons aD (J.cons (vm (p:=0) h1 rfl) (J.cons (vA (J.cons vI (J.cons vI J.nil))) J.nil))⟩) (fun φ _ _ x hx=>Ih hx) ⟨_,_,Tryz.func111,rfl,rfl⟩
end
end Go.Ev
