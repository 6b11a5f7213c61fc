/- A part of what LimitFits rests on. -/
import Derived.Test.YtnpajahfimaakaaGreatDoorA07
import Derived.Maps.RangeRun
import Derived.Lib.Walk
import Derived.Lib.Builder
import Derived.Lib.UnsafeStr
import Derived.WalkKit
import Derived.Laws.Externs
import Derived.Shelf.Strings.Builder1
import Derived.Test.YtnpajahfimaakaaGreatDoorA05
import Derived.Test.YtnpajahfimaakaaGreatDoorA01
set_option linter.all false
namespace Go.Ev
open Nat renaming eq_of_beq_eq_true->aop,beq->arD,le_refl->arJ,le_trans->arP,add_zero->arZ,le_of_ble_eq_true->asr
open Bool renaming and_eq_true->AAA,not_eq_true'->arT,or_eq_true->asg
open _root_.Array renaming getD_eq_getD_getElem?->arC,getElem?_eq_some_iff->arF,length_toList->arG,toList_inj->arL,getElem?_eq_getElem->arO,getElem?_setIfInBounds_ne->arY,getElem?_modify->asm,size_modify->asv
open List renaming replicate->arE,take_of_length_le->arH,all_eq_true->arN,getElem?_eq_some_iff->arS,take_append_drop->arV,length->arW,nodup_cons->asd,mem_append->ase,length_nil->asf,mem_range->ash,mem_cons->asj,mem_map->asl,getElem?_toArray->asn,getElem?_eq_none->aso,contains_toArray->asp,contains_iff_mem->asq,mem_cons_of_mem->ass,range->ast,mem_cons_self->asu,getElem?_map->asw
open World renaming freeze->arI
open Region renaming wanted->arK,ready->arM
open ChangeMaps renaming setBlock->arQ
open UInt8 renaming ofNat->arR
open Lib renaming byteCells->arU
open CallsIn renaming mono->arX
open Result renaming andThen->asa
open Oper renaming upon_value->asb,semAt_eq->asi
variable{P:Program}{Q:Exit->Act->World->Prop}{a:Act}{rest:List Code}
noncomputable section
def QS(E:Env)(k:Nat)(ops:Array Oper)(tb:bP)(nt nb:Nat)(L:List Bool->List (Nat×V))(HB:List Bool->List (Nat×aQ))(ms:List (List Bool))(stop:List Bool)(hand:Nat->Bool)(m:List Bool):Bool:=oO m stop||(((ast ops.size).any (mR ops m))&&(ast ops.size).all fun i=> !(mR ops m i)||(ms.any (oO (m.set i true))&&(hand i||zT E k ops tb nt nb L HB m i)))
def mU(E:Env)(k:Nat)(ops:Array Oper)(tb:bP)(nt nb:Nat)(L:List Bool->List (Nat×V))(HB:List Bool->List (Nat×aQ))(ms:List (List Bool))(hand:Nat->Bool):Bool:=fL tb&&ms.any (oO (arE ops.size false))&&ms.all fun m=>QS E k ops tb nt nb L HB ms (arE ops.size true) hand m
def allM(ops:Array Oper):List (List Bool):=grow ops (arE ops.size true) 40 [arE ops.size false] [arE ops.size false]
structure Pn where
 y:Sym
 K:Nat->Option Obj
theorem zZ{ops:Array Oper}{listed:Array Bool}(ed:listed.size=ops.size)(h:listed.toList=arE ops.size true):arM .any ops listed=[]:=by
 cases e:arM .any ops listed with
 |nil=>rfl
 |cons i is=>
  obtain⟨o,ho,hn,_⟩:=mem_ready (ops:=ops) (listed:=listed) (i:=i) (by rw[e];simp);have bf:i<listed.size:=by
   rw[ed];exact(arF.1 ho).1
  have:listed.toList[i]? =some true:=by rw[h,List.getElem?_replicate,if_pos (by omega)]
  rw[Array.getElem?_toList]at this;rw[arC,this]at hn;cases hn
theorem Gq{ro:Option Nat}{n:Nat}{ops:Array Oper}{fuel:Nat}{listed:Array Bool}{w:World}(hr:arM .any ops listed=[])(hq:Q .normal a w):wpAnyIn (W ro) n P .any ops Q fuel listed a w:=by
 cases fuel with
 |zero=>exact⟨hr,hq⟩
 |succ fuel=>exact⟨fun _=>hq,fun i hi=>by rw[hr]at hi;cases hi⟩
theorem ad.z7{E:Env}(hE:E.OK)(qQ:E.ng=0)(hm:E.P.follows .mixedOrders=true){k:Nat}{ops:Array Oper}{tb:bP}{nt nb:Nat}{L:List Bool->List (Nat×V)}{HB:List Bool->List (Nat×aQ)}{ms:List (List Bool)}{hand:Nat->Bool}
  (X:List Bool->Pn->Prop)(hc:mU E k ops tb nt nb L HB ms hand=true){φ:Ren}{B:Nat}{a:Act}{w:World}{n id:Nat}{Q:Exit->Act->World->Prop}{L0:List (Nat×V)}{HB0:List (Nat×aQ)}(hL:L (arE ops.size false)=L0)(hH:HB (arE ops.size false)=HB0)
  (hs:ad φ B (U nt L0) (ak nb HB0) a w)(p0:Pn)(hn:bD φ p0.y)(hK:fU p0.K φ)(hx0:X (arE ops.size false) p0)(hY:∀m p,X m p->Ag tb p.y p.y)
  (hF:∀m p ay,X m p->bD ay p.y->fU p.K ay->BD E ay)(hX:∀m i p,hand i=false->X m p->X (m.set i true) p)
  (hHd:∀m i φ p a w C,m∈ms->mR ops m i=true->hand i=true->ad φ B (U nt (L m)) (ak nb (HB m)) a w->bD φ p.y->fU p.K φ->X m p->
   (∀af p' a' w',ad af B (U nt (L (m.set i true))) (ak nb (HB (m.set i true))) a' w'->a'.defers=a.defers->bD af p'.y->fU p'.K af->X (m.set i true) p'->GB B w w'->C a' w')->wpOpIn (W none) n E.P ops Q i C a w)
  (hQ:∀af p a' w',ad af B (U nt (L (arE ops.size true))) (ak nb (HB (arE ops.size true))) a' w'->a'.defers=a.defers->GB B w w'->bD af p.y->fU p.K af->X (arE ops.size true) p->Q .normal a' w'):
  (Code.region id ops true).wpIn (W none) n E.P Q a w:=by
 subst hL;subst hH;simp only[mU,AAA]at hc;obtain⟨⟨hp,h0⟩,pG⟩:=hc;refine wpIn_region_any hm ?_;have key:∀(fuel:Nat) (listed:Array Bool) (ay:Ren) (p1:Pn) (a1:Act) (w1:World),left listed=fuel->listed.size=ops.size->listed.toList∈ms->ad ay B (U nt (L listed.toList)) (ak nb (HB listed.toList)) a1 w1->
   a1.defers=a.defers->GB B w w1->bD ay p1.y->fU p1.K ay->X listed.toList p1->wpAnyIn (W none) n E.P .any ops Q fuel listed a1 w1:=by
  intro fuel
  induction fuel with
  |zero=>
   intro listed ay p1 a1 w1 hl ed kg b9 iM kx BT z8 oX;have jQ:=arN.1 pG _ kg;simp only[QS,asg,AAA]at jQ;rcases jQ with bB|⟨zV,_⟩
   ·have:=jx bB
    exact Gq (zZ ed this) (hQ ay p1 a1 w1 (by rw[<-this];exact b9) iM kx BT z8 (by rw[<-this];exact oX))
   ·obtain⟨i,hi,hr⟩:=List.any_eq_true.1 zV
    obtain⟨o,ho,hn,_⟩:=mem_ready ((fx ed).1 hr);have bf:i<listed.size:=by rw[ed];exact ash.1 hi
    exact absurd (mM hl i bf) (kr hn)
  |succ fuel ih=>
   intro listed ay p1 a1 w1 hl ed kg b9 iM kx BT z8 oX;have jQ:=arN.1 pG _ kg;simp only[QS,asg,AAA]at jQ;rcases jQ with bB|⟨zV,kS⟩
   ·have:=jx bB
    exact Gq (zZ ed this) (hQ ay p1 a1 w1 (by rw[<-this];exact b9) iM kx BT z8 (by rw[<-this];exact oX))
   ·refine⟨fun hr=> ?_,fun i hi=> ?_⟩
    ·obtain⟨i,hi,cM⟩:=List.any_eq_true.1 zV
     have:=(fx ed).1 cM;rw[hr]at this;cases this
    ·obtain⟨o,ho,VV,_⟩:=mem_ready hi
     have bf:i<ops.size:=(arF.1 ho).1;have h1:=arN.1 kS i (ash.2 bf);simp only[asg,arT,(fx ed).2 hi,AAA,Bool.true_eq_false,false_or]at h1;obtain⟨lg,bB⟩:=h1;have lg:=ku lg;have fa:(listed.setIfInBounds i true).toList=listed.toList.set i true:=by simp
     have uh:left (listed.setIfInBounds i true)=fuel:=by have:=pF VV;omega
     cases hh:hand i with
     |true=>
      refine hHd _ i ay p1 a1 w1 _ kg ((fx ed).2 hi) hh b9 BT z8 oX fun af p' a' w' cu cy kZ jS iT dh=> ?_
      exact ih _ af p' a' w' uh (by simpa using ed) (by rw[fa];exact lg) (by rw[fa];exact cu) (cy.trans iM) (kx.trans dh) kZ jS (by rw[fa];exact iT)
     |false=>
      rw[hh]at bB;simp only[Bool.false_eq_true,false_or]at bB;unfold zT at bB;rw[ho]at bB;simp only at bB;split at bB
      ·rename_i tQ
       have mK:=gV b9.fr tQ;split at bB
       ·rename_i x h1 zX
        unfold wpOpIn;rw[ho];simp only[mK,if_true];refine kR hE (gq hE (cV hE k).1) (gX (cV hE k).1) (by rw[qQ];exact fun g hg=>by omega) (hF _ p1 ay oX BT z8) b9.fr b9.hr none n o zX fun aV v w2 hx hv vJ=> ?_
        obtain⟨vK,ju⟩:=b9.after hx vJ;have E9:=hX _ i p1 hh oX;have hyp:=hY _ _ oX;have Gm:∀h,Agree tb aV h w2 p1.y:=fun h=>(hyp.au (o':=aV.y) (by rw[hx.le.yy];exact BT.1) (by rw[hx.le.yy];exact BT.2.1) (by rw[hx.le.yy];exact BT.2.2.1) (by rw[hx.le.yy];exact BT.2.2.2)).agree hp rfl h w2
        have Ic:∀r o,p1.K r=some o->aV.y.k r=some o:=fun r o hk=>by rw[hx.le.yy];exact z8 r o hk
        split at bB
        ·rename_i me
         cases e:bG tb (U nt (L listed.toList)) h1 nt (L (listed.toList.set i true)) nb (HB (listed.toList.set i true))with
         |none=>rw[e]at bB;cases bB
         |some σ=>
          have nS:=dM (a:=a1.put o.dst v) e (by rw[me];exact b9.fr.mono hx.le) vJ ju (arP b9.bz hx.size) p1.y (Gm _);exact ih _ _ p1 _ _ uh (by simpa using ed) (by rw[fa];exact lg) (by rw[fa];exact nS) (by rw[me];exact iM) (kx.trans vK) ⟨rfl,rfl,rfl,rfl⟩ (fun r o hk=>fV e vJ p1.y r o (Ic r o hk)) (by rw[fa];exact E9)
        ·rename_i d me
         simp only[AAA]at bB;cases e:bG tb ((U nt (L listed.toList)).set d x) h1 nt (L (listed.toList.set i true)) nb (HB (listed.toList.set i true))with
         |none=>rw[e]at bB;cases bB.2
         |some σ=>
          have nS:=dM (a:=a1.put o.dst v) e (by rw[me];exact(b9.fr.mono hx.le).put (bh.1 bB.1) hv) vJ ju (arP b9.bz hx.size) p1.y (Gm _);exact ih _ _ p1 _ _ uh (by simpa using ed) (by rw[fa];exact lg) (by rw[fa];exact nS) (by rw[me];exact iM) (kx.trans vK) ⟨rfl,rfl,rfl,rfl⟩ (fun r o hk=>fV e vJ p1.y r o (Ic r o hk)) (by rw[fa];exact E9)
       ·cases bB
      ·cases bB
 refine key ops.size _ φ p0 a _ ?_ (by simp) (by simpa using ku h0) ?_ rfl ?_ hn hK ?_
 ·unfold left
  simp[List.countP_replicate]
 ·have:(Array.replicate ops.size false).toList=arE ops.size false:=by simp
  rw[this];exact⟨hs.fr,hs.hr.drew _,hs.loc,hs.kf,hs.bz⟩
 ·exact⟨arJ _,fun _ _=>rfl,rfl,rfl,rfl⟩
 ·have:(Array.replicate ops.size false).toList=arE ops.size false:=by simp
  rw[this];exact hx0
theorem ad.LC{φ:Ren}{B:Nat}{fr:Fr}{h:H}{a:Act}{w:World}(hs:ad φ B fr h a w){P:Program}{n:Nat}{ops:Array Oper}{Q:Exit->Act->World->Prop}{i:Nat}{C:Act->World->Prop}{o:Oper}(ho:ops[i]? =some o){c:Call}{f:Operand}{g:FuncId}{fn:Func}{cd:Code}(gm:o.op=.call c)(BN:c.callee=.value f)
  (tQ:o.guard=none)(Wn:ev 0 fr f=.f g [] [])(lF:P.funcs[g]? =some fn)(pE:fn.body=some cd)(jN:(fn.name== "runtime.NumGoroutine")=false){Vs:List V}(hVs:c.args.toList.map (ev 0 fr)=Vs)
  (eF:∀args',J φ Vs args'->CallsIn (W none) (n-1) P g args'.toArray w fun e w'=>∃v,e=.returned v/\C (a.put o.dst v) w'):wpOpIn (W none) n P ops Q i C a w:=by
 have hg:GL 0 φ:=fun g hg=>by omega
 have so:=ry hg hs.fr f;rw[Wn]at so;simp only[VR]at so;obtain⟨eu,fY,hv,h1,h2⟩:=so;simp only[J]at h1 h2;have e1:eu=#[]:=arL.1 h1;have e2:fY=#[]:=arL.1 h2;subst e1;subst e2;have cG:=vU hg hs.fr c.args.toList;rw[hVs]at cG;have eF:=eF _ cG;have mJ:(c.args.toList.map a.eval).toArray=#[]++c.args.map a.eval++#[]:=by
  apply Array.ext';simp
 rw[mJ]at eF;unfold wpOpIn;rw[ho];have hw:arK o (yielded ops a.tmps)=true:=by simp[arK,tQ]
 simp only[hw,if_true];refine⟨fun _ _=>trivial,?_⟩;rw[asi _ _ _ (fun c' e=>by rw[gm]at e;cases e)];have nP:¬fn.name= "runtime.NumGoroutine" :=by simpa using jN
 have e:(execOp a.eval o).run P w=.ok (.enter g (#[]++c.args.map a.eval++#[])) w:=by
  simp[execOp,gm,resolve,BN,hv,Deferred.ofValue,invoke,callFunc,lF,pE,nP]
 rw[e];refine⟨(fun hd=>(by cases hd)),?_⟩;refine eF.mono ?_;rintro e w' ⟨v',rfl,h3⟩;exact h3
theorem ad.sub{φ:Ren}{B nt nb:Nat}{L:List (Nat×V)}{HB:List (Nat×aQ)}{a:Act}{w:World}(hs:ad φ B (U nt L) (ak nb HB) a w)(x:Nat)(p:V)(hp:VR φ p (φ.q x)):ad φ B (U nt (jG x p L)) (ak nb (iO x p HB)) a w:=by
 have dZ:∀b,(ak nb (iO x p HB)).get b=Gk x p ((ak nb HB).get b):=fun b=>by rw[aH,aH,yP]
 refine⟨⟨hs.fr.1,fun k=> ?_⟩,⟨hs.hr.iL,hs.hr.lM,fun b s es hl=> ?_,fun b b' s es oU hl ru=> ?_,fun s o hk=> ?_⟩,fun b s es hm=> ?_,fun s cu=> ?_,hs.bz⟩
 ·have:=hs.fr.2 k
  rw[cA]at this⊢;rw[yO];exact nR (Le.refl φ) hp _ _ this
 ·rw[dZ]at hl⊢
  obtain⟨o,h1,h2⟩:=hs.hr.ew b s es ((cU x p _).1.1 hl);exact⟨o,h1,DK (Le.refl φ) hp _ h2⟩
 ·rw[dZ]at hl ru
  exact hs.hr.inj b b' s es oU ((cU x p _).1.1 hl) ((cU x p _).1.1 ru)
 ·have:=hs.hr.kp s o hk
  refine⟨this.1,fun b es=> ?_⟩;rw[dZ];exact fun h=>this.2 b es ((cU x p _).2.1 h)
 ·rw[dZ]at hm
  exact hs.loc b s es ((cU x p _).2.1 hm)
 ·exact hs.kf s fun b es hm=>cu b es (by rw[dZ];exact(cU x p _).2.2 hm)
theorem ky{n:Nat}{c:Operand}{x y:Code}{w:World}{t:Bool}(hc:a.eval c=.bool t)(h:aC none n P (Exit.then (aC none n P Q rest) Q) (ct (if t then x else y)) a w):aC none n P Q (.cond c x y::rest) a w:=by
 refine wpIn_cond hc ?_;cases t
 ·exact bp _ h
 ·exact bp _ h
theorem Aa{n:Nat}{id:Nat}{c:Code}{w:World}(h:aC none n P (Exit.inBlock id (Exit.then (aC none n P Q rest) Q)) (ct c) a w):aC none n P Q (.block id c::rest) a w:=wpIn_block (bp c h)
def pkL:List Bool->List Nat->List V->List (Nat×V)
 |true::m,t::ts,v::vs=>(t,v)::pkL m ts vs
 |false::m,_::ts,_::vs=>pkL m ts vs
 |_,_,_=>[]
def uj:List Code->Array Oper
 |.region _ ops _::_=>ops
 |_=>#[]
end
noncomputable section
theorem ad.abU{K:Nat->Option Obj}{φ:Ren}{B nt nb:Nat}{L:List (Nat×V)}{HB:List (Nat×aQ)}{a:Act}{w:World}(hs:ad φ B (U nt L) (ak nb HB) a w)(hK:fU K φ){P:Program}{n:Nat}{ops:Array Oper}{Q:Exit->Act->World->Prop}{l:List Oper}{o:Oper}{rest:List Oper}(hl:l=o::rest)
  {t e:TypeId}{ie:TypeInfo}(gm:o.op=.buildSlice t 0 #[])(tQ:o.guard=none){d:Nat}(me:o.dst=some d)(hd:d<nt)(hu:P.underlying t=some (.slice e))(hi:P.info? e=some ie)
  (hQ:∀af v w',ad af B (U nt ((d,.sl (some (nb,0)) 0 (.kn 0))::L)) (ak (nb+1) ((nb,.cells [] e false)::HB)) (a.put (some d) v) w'->fU K af->af.y=φ.y->Le φ af->GB B w w'->wpListIn (W none) n P ops Q rest (a.put (some d) v) w'):wpListIn (W none) n P ops Q l a w:=by
 subst hl;have hw:arK o (yielded ops a.tmps)=true:=by simp[arK,tQ]
 simp only[wpListIn,hw,if_true];refine⟨fun _ _=>trivial,?_⟩;rw[asi _ _ _ (fun c' e=>by rw[gm]at e;cases e)];have er:(execOp a.eval o).run P w=.ok (.value (.slice (some ⟨w.heap.size,0,none⟩) 0 0)) {w with heap:=w.heap.push (.cells #[] e)}:=by
  simp[execOp,gm,Instr.buildSlice,run_underlying hu,run_sizeOf hi,Instr.fill,newRow,newObj];rw[Array.eq_empty_of_size_eq_zero (xs:=Array.map (fun x=>(default:Value)) (Array.range 0)) (by simp)];rfl
 rw[er];obtain⟨g1,g2,g3⟩:=zd hs.hr e (cs:=[]) (vs:=#[]) J.nil;have hle:Le φ (up φ (ak nb HB).n w.heap.size 0):=g2.le;obtain⟨vK,ju⟩:=hs.after g2 g1;show wpListIn (W none) n P ops Q rest (a.put o.dst _) _;rw[me];refine hQ (up φ nb w.heap.size 0) _ _ ⟨FR.put (hs.fr.mono hle) hd ?_,g1,ju,fun r hr=> ?_,?_⟩ (fun r o h=>hK r o h) rfl hle vK
 ·simp only[VR];exact⟨_,g3,arJ _,rfl⟩
 ·have bU:r≠w.heap.size:=fun e=>hr nb (by rw[e];exact g3) (by rw[aH];simp[mO,aQ.mut])
  have hh:({w with heap:=w.heap.push (.cells #[] e)}:World).heap[r]? =w.heap[r]? :=by
   show(w.heap.push _)[r]? =_;rw[Array.getElem?_push,if_neg bU]
  rw[hh];refine hs.kf r fun b hb hm=>hr b (hle b r hb).1 ?_
  have yE:b≠nb:=fun e=>by have:=(hs.hr.lM _ _ hb).1;rw[e]at this;exact absurd this (Nat.lt_irrefl _)
  rw[aH]at hm⊢;simp only[mO];rw[if_neg yE];exact hm
 ·exact arP hs.bz (by simp)
def dX(ops:Array Oper)(p:List Nat):Array Oper:=(p.map fun i=>let o:=ops.getD i default;{o with after:=o.after.map fun e=>{e with on:=p.idxOf e.on}}).toArray
def sH(ops:Array Oper)(p:List Nat):Bool:=arD p.length ops.size&&(ast ops.size).all (fun i=>p.contains i)&&p.all (fun i=>Nat.blt i ops.size)&&decide p.Nodup&&ops.toList.all fun o=>o.guard.isNone
section
variable {ops:Array Oper} {p:List Nat} (hp:sH ops p=true)
include hp
theorem um:p.length=ops.size:=by
 simp only[sH,AAA]at hp;exact aop hp.1.1.1.1
theorem Ab{i:Nat}:i∈p↔i<ops.size:=by
 simp only[sH,AAA,arN,ash]at hp;exact⟨fun h=>bh.1 (hp.1.1.2 i h),fun h=>by have:=hp.1.1.1.2 i h;simpa using this⟩
theorem Ja:p.Nodup:=by
 simp only[sH,AAA,decide_eq_true_eq]at hp;exact hp.1.2
theorem Jb{i:Nat}{o:Oper}(h:ops[i]? =some o):o.guard=none:=by
 simp only[sH,AAA,arN]at hp;have:=hp.2 o (by have:=Array.mem_of_getElem? h;simpa using this);simpa using this
theorem Ac{i:Nat}(h:i<ops.size):p.idxOf i<ops.size/\p[p.idxOf i]? =some i:=by
 have hm:=(Ab hp).2 h;have hl:p.idxOf i<p.length:=List.idxOf_lt_length_iff.2 hm;refine⟨by rw[<-um hp];exact hl,?_⟩;rw[List.getElem?_eq_getElem hl,List.getElem_idxOf hl]
theorem Gr{i:Nat}{o:Oper}(h:ops[i]? =some o):(dX ops p)[p.idxOf i]? =some {o with after:=o.after.map fun e=>{e with on:=p.idxOf e.on}}:=by
 have hi:i<ops.size:=(arF.1 h).1;unfold dX;rw[asn,asw,(Ac hp hi).2];simp only[Option.map_some];rw[arC,h];rfl
theorem NO{j:Nat}{o':Oper}(h:(dX ops p)[j]? =some o'):∃i o,i<ops.size/\p.idxOf i=j/\ops[i]? =some o/\o'={o with after:=o.after.map fun e=>{e with on:=p.idxOf e.on}}:=by
 unfold dX at h;rw[asn,asw]at h;cases hj:p[j]?with
 |none=>rw[hj]at h;cases h
 |some i=>
  rw[hj]at h;have bf:j<p.length:=(arS.1 hj).1;have hi:=(Ab hp).1 (List.mem_of_getElem? hj);have hji:p.idxOf i=j:=by
   obtain⟨h1,rfl⟩:=arS.1 hj;exact(Ja hp).idxOf_getElem j h1
  have ho:ops[i]? =some ops[i]:=arO hi;refine⟨i,_,hi,hji,ho,?_⟩;simp only[Option.map_some,Option.some.injEq]at h;rw[<-h,arC,ho];rfl
def Ad(ops:Array Oper)(p:List Nat)(l l':Array Bool):Prop:=l'.size=ops.size/\l.size=ops.size/\∀i d,i<ops.size->l'.getD (p.idxOf i) d=l.getD i d
omit hp in
theorem Gs{l:Array Bool}{i:Nat}(h:l.size<=i)(d:Bool):l.getD i d=d:=by rw[arC,Array.getElem?_eq_none h];rfl
theorem Wp{l l':Array Bool}(hl:Ad ops p l l')(i:Nat):l'.getD (p.idxOf i) false=l.getD i false:=by
 by_cases h:i<ops.size
 ·exact hl.2.2 i false h
 ·have:p.idxOf i=p.length:=List.idxOf_eq_length fun hm=>h ((Ab hp).1 hm)
  rw[Gs (l:=l) (by rw[hl.2.1];omega),this,um hp,Gs (by rw[hl.1];exact arJ _)]
theorem Gt{l l':Array Bool}(hl:Ad ops p l l')(o:Oper):((o.after.map fun e=>{e with on:=p.idxOf e.on}).all fun e=> !Region.binds .any e||l'.getD e.on false)=o.after.all fun e=> !Region.binds .any e||l.getD e.on false:=by
 rw[Array.all_map]
 congr 1
 funext e
 simp only[Function.comp,Wp hp hl];rfl
theorem Jc{l l':Array Bool}(hl:Ad ops p l l'){i:Nat}(h:i∈arM .any ops l):p.idxOf i∈arM .any (dX ops p) l':=by
 obtain⟨o,ho,h1,h2⟩:=dR.1 h;have hi:i<ops.size:=(arF.1 ho).1;exact dR.2 ⟨_,Gr hp ho,by rw[hl.2.2 i true hi];exact h1,by rw[Gt hp hl];exact h2⟩
theorem NP{l l':Array Bool}(hl:Ad ops p l l')(h:arM .any ops l=[]):arM .any (dX ops p) l'=[]:=by
 cases e:arM .any (dX ops p) l' with
 |nil=>rfl
 |cons j js=>
  obtain⟨o',ho,h1,h2⟩:=(dR (ops:=dX ops p) (listed:=l') (i:=j)).1 (by rw[e];simp);obtain⟨i,o,hi,rfl,NC,rfl⟩:=NO hp ho;have:i∈arM .any ops l:=dR.2 ⟨o,NC,by rw[<-hl.2.2 i true hi];exact h1,by rw[<-Gt hp hl];exact h2⟩;rw[h]at this;cases this
theorem QT{l l':Array Bool}(hl:Ad ops p l l'){i:Nat}(hi:i<ops.size):Ad ops p (l.setIfInBounds i true) (l'.setIfInBounds (p.idxOf i) true):=by
 refine⟨by simpa using hl.1,by simpa using hl.2.1,fun j d hj=> ?_⟩
 by_cases h:i=j
 ·subst h
  have h1:=(Ac hp hi).1;simp[arC,hl.1,hl.2.1,hi,h1]
 ·have bU:p.idxOf i≠p.idxOf j:=fun e=>by
   have a:=(Ac hp hi).2;have b:=(Ac hp hj).2;rw[e,b]at a;exact h (Option.some.inj a).symm
  have:=hl.2.2 j d hj;rw[arC,arC]at this⊢;rw[arY bU,arY h];exact this
theorem QU{l:List Nat}{d:Array Bool}(h:I4 ops d l):∀d',Ad ops p d d'->I4 (dX ops p) d' (l.map p.idxOf):=by
 induction h with
 |nil h=>exact fun d' hd=>.nil (NP hp hd h)
 | @cons listed i l h t ih=>
  intro d' hd;have hi:i<ops.size:=by
   obtain⟨o,ho,_⟩:=dR.1 h;exact(arF.1 ho).1
  exact .cons (Jc hp hd h) (ih _ (QT hp hd hi))
theorem Ae{ro:Option Nat}{n:Nat}{P:Program}{Q:Exit->Act->World->Prop}:∀(l:List Nat) (a:Act) (w:World),(∀i∈l,i<ops.size)->wpOpsIn (W ro) n P (dX ops p) Q (l.map p.idxOf) a w->wpOpsIn (W ro) n P ops Q l a w
 |[],a,w,_,h=>h
 |i::l,a,w,hl,h=>by
  rw[List.map_cons]at h;rw[wpOpsIn_cons]at h⊢;have hi:=hl i asu;have ho:ops[i]? =some ops[i]:=arO hi;have hg:=Jb hp ho;have ih:∀a w,wpOpsIn (W ro) n P (dX ops p) Q (l.map p.idxOf) a w->wpOpsIn (W ro) n P ops Q l a w:=fun a w=>Ae l a w fun j hj=>hl j (ass _ hj)
  unfold wpOpIn at h⊢;rw[Gr hp ho]at h;rw[ho];have hw:∀y,arK ops[i] y=true:=fun y=>by simp[arK,hg]
  have hw':∀y,arK {ops[i]with after:=ops[i].after.map fun e=>{e with on:=p.idxOf e.on}} y=true:=fun y=>by simp[arK,hg]
  simp only[hw',if_true]at h;simp only[hw,if_true];have h:Oper.wpIn (W ro) n P ops[i] a w (wpOpsIn (W ro) n P (dX ops p) Q (l.map p.idxOf)) Q:=h;exact Oper.wpIn_mono (fun a w=>ih a w) h
omit hp in
theorem abV{l:List Nat}{d:Array Bool}(h:I4 ops d l):∀i∈l,i<ops.size:=by
 induction h with
 |nil=>intro i hi;cases hi
 | @cons listed i l h t ih=>
  intro j hj;rcases asj.1 hj with rfl|hj
  ·obtain⟨o,ho,_⟩:=dR.1 h
   exact(arF.1 ho).1
  ·exact ih j hj
theorem fc.perm{ro:Option Nat}{n:Nat}{w:World}(h:fc ro n P (dX ops p) Q a w):fc ro n P ops Q a w:=fun l hl=>by
 refine Ae hp l a w (abV hl) (h _ (QU hp hl _ ⟨?_,by simp,fun i d hi=> ?_⟩))
 ·have:(dX ops p).size=ops.size:=by unfold dX;simp[um hp]
  simp[this]
 ·have hs:(dX ops p).size=ops.size:=by unfold dX;simp[um hp]
  have h1:=(Ac hp hi).1;simp[arC,hs,hi,h1]
end
end
variable{bs:List Nat}{b nb:Nat}{φ:Ren}{h:H}
noncomputable section
def LD(bs:List Nat)(σ:Bd):Bool:=bs.all fun b=>match lk σ b with|some c=>arD c b|none=>false
theorem QV{σ:Bd}(h:LD bs σ=true)(hb:b∈bs):lk σ b=some b:=by
 have:=arN.1 h b hb;cases e:lk σ b with
 |none=>rw[e]at this;cases this
 |some c=>rw[e]at this;rw[aop this]
def sJ(bs:List Nat)(φ af:Ren):Prop:=∀b,b∈bs->∀r,φ b=some r->af b=some r/\af.n b=φ.n b
theorem sJ.trans{bs:List Nat}{φ af jZ:Ren}(h:sJ bs φ af)(h':sJ bs af jZ):sJ bs φ jZ:=fun b hb r e=>
 have⟨e1,n1⟩:=h b hb r e;have⟨e2,n2⟩:=h' b hb r e1
 ⟨e2,n2.trans n1⟩
theorem sJ.le{af:Ren}(h:Le φ af):sJ bs φ af:=fun b _ r e=>h.at_ b r e
theorem sJ.sl{bs:List Nat}{φ af:Ren}(h:sJ bs φ af){b n sz:Nat}(hb:b∈bs){v:Value}(hv:VR φ (.sl (some (b,0)) n (.un sz)) v):VR af (.sl (some (b,0)) n (.un sz)) v:=by
 simp only[VR]at hv⊢;obtain⟨r,c,h1,h2,h3,rfl⟩:=hv;obtain⟨e1,n1⟩:=h b hb r h1;exact⟨r,c,e1,h2,by rw[n1];exact h3,rfl⟩
theorem Gu{σ:Bd}{y:Sym}{w:World}(hσ:LD bs σ=true):sJ bs φ (ren φ σ y nb h w):=fun b hb r e=>by
 have:=QV hσ hb
 constructor
 ·show(lk σ b).bind φ.f=some r
  rw[this];exact e
 ·show(match lk σ b with|some c=>φ.n c|none=>0)=φ.n b
  rw[this]
def DS(bs:List Nat)(E:Env)(k:Nat)(cs:List Code)(fr:Fr)(h:H)(x:X)(tb:bP)(nt:Nat)(L:List (Nat×V))(nb:Nat)(HB:List (Nat×aQ)):Bool:=fL tb&&
 match rH E k cs fr h with
 |some (x',cQ,h')=>FY x x'&&(match bG tb cQ h' nt L nb HB with|some σ=>LD bs σ|none=>false)
 |none=>false
def Jd(bs:List Nat)(E:Env)(k:Nat)(ops:Array Oper)(l:List Oper)(fr:Fr)(h:H)(tb:bP)(nt:Nat)(L:List (Nat×V))(nb:Nat)(HB:List (Nat×aQ)):Bool:=fL tb&&
 match wu E (jP E (exec E k)) (mh (exec E k)) ops l fr h with
 |some (cQ,h')=>(match bG tb cQ h' nt L nb HB with|some σ=>LD bs σ|none=>false)
 |none=>false
theorem ad.Zq{E:Env}(hE:E.OK)(qQ:E.ng=0)(m:Nat){bs:List Nat}{k:Nat}{cs:List Code}{fr:Fr}{tF:Nat}{HB0:List (Nat×aQ)}{x:X}{tb:bP}{nt:Nat}{L:List (Nat×V)}{nb:Nat}{HB:List (Nat×aQ)}(hc:DS bs E k (cs.take m) fr (ak tF HB0) x tb nt L nb HB=true)
  {K:Nat->Option Obj}{φ:Ren}{B:Nat}{a:Act}{w:World}{n:Nat}(hs:ad φ B fr (ak tF HB0) a w)(hK:fU K φ)(bK:BD E φ)(hd:a.defers=[])(y:Sym)(hy:iC tb φ.y y){Q:Exit->Act->World->Prop}
  (hQ:∀af a' w',ad af B (U nt L) (ak nb HB) a' w'->fU K af->sJ bs φ af->a'.defers=[]->GB B w w'->af.s=y.s->af.q=y.q->af.w=y.w->af.g=y.g->Exit.then (aC none n E.P Q (cs.drop m)) Q x.exit a' w'):aC none n E.P Q cs a w:=by
 simp only[DS,AAA]at hc;obtain⟨hp,hc⟩:=hc;split at hc
 ·rename_i x' cQ h' hex
  simp only[AAA]at hc;have hx:=pL hc.1;subst hx;cases e:bG tb cQ h' nt L nb HB with
  |none=>rw[e]at hc;cases hc.2
  |some σ=>
   rw[e]at hc;have:=k9 hE (n:=n) (Q:=Q) (cs.drop m) (cs.take m) fr (ak tF HB0) x cQ h' hex φ a w (by rw[qQ];exact fun g hg=>by omega) bK hs.fr hd hs.hr fun af a' w' iD wz cy cM=>by
    obtain⟨vK,ju⟩:=hs.after iD cM;have bB:=dM e wz cM ju (arP hs.bz iD.size) y (hy.agree hp iD.le.yy h' w');exact hQ _ a' w' bB (fun r o hk=>fV e cM y r o (by rw[iD.le.yy];exact hK r o hk)) ((sJ.le iD.le).trans (Gu hc.2)) cy vK rfl rfl rfl rfl
   rwa[arV]at this
 ·cases hc
theorem ad.abW{E:Env}(hE:E.OK)(qQ:E.ng=0)(m:Nat){bs:List Nat}{k:Nat}{ops:Array Oper}{l:List Oper}{fr:Fr}{tF:Nat}{HB0:List (Nat×aQ)}{tb:bP}{nt:Nat}{L:List (Nat×V)}{nb:Nat}{HB:List (Nat×aQ)}(hc:Jd bs E k ops (l.take m) fr (ak tF HB0) tb nt L nb HB=true)
  {K:Nat->Option Obj}{φ:Ren}{B:Nat}{a:Act}{w:World}{n:Nat}(hs:ad φ B fr (ak tF HB0) a w)(hK:fU K φ)(bK:BD E φ)(y:Sym)(hy:iC tb φ.y y){Q:Exit->Act->World->Prop}
  (hQ:∀af a' w',ad af B (U nt L) (ak nb HB) a' w'->fU K af->sJ bs φ af->a'.defers=a.defers->GB B w w'->af.s=y.s->af.q=y.q->af.w=y.w->af.g=y.g->wpListIn (W none) n E.P ops Q (l.drop m) a' w'):wpListIn (W none) n E.P ops Q l a w:=by
 simp only[Jd,AAA]at hc;obtain⟨hp,hc⟩:=hc;split at hc
 ·rename_i cQ h' hex
  cases e:bG tb cQ h' nt L nb HB with
  |none=>rw[e]at hc;cases hc
  |some σ=>
   rw[e]at hc;have:=lf hE (gq hE (cV hE k).1) (gX (cV hE k).1) ops none n (Q:=Q) (l.drop m) (l.take m) fr (ak tF HB0) cQ h' hex φ a w (by rw[qQ];exact fun g hg=>by omega) bK hs.fr hs.hr fun af a' w' iD wz cy cM=>by
    obtain⟨vK,ju⟩:=hs.after iD cM;have bB:=dM e wz cM ju (arP hs.bz iD.size) y (hy.agree hp iD.le.yy h' w');exact hQ _ a' w' bB (fun r o hk=>fV e cM y r o (by rw[iD.le.yy];exact hK r o hk)) ((sJ.le iD.le).trans (Gu hc)) cy vK rfl rfl rfl rfl
   rwa[arV]at this
 ·cases hc
def abX:List Code->List Code
 |.block _ b::_=>ct b
 |_=>[]
def ifB(t:Bool):List Code->List Code
 |.cond _ x y::_=>ct (if t then x else y)
 |_=>[]
end
variable{B:Nat}{es:Array MapEntry}{de:List MapEntry}
noncomputable section
theorem DT{P:Program}{n:Nat}{ops:Array Oper}{Q:Exit->Act->World->Prop}{o:Oper}{rest:List Oper}{a:Act}{w w':World}{v:Value}(tQ:o.guard=none)(gm:∀c,o.op≠ .defer c)
  (e:(execOp a.eval o).run P w=.ok (.value v) w')(h:wpListIn (W none) n P ops Q rest (a.put o.dst v) w'):wpListIn (W none) n P ops Q (o::rest) a w:=by
 have hw:arK o (yielded ops a.tmps)=true:=by simp[arK,tQ]
 simp only[wpListIn,hw,if_true];refine⟨fun _ _=>trivial,?_⟩;rw[asi _ _ _ gm,e];exact h
theorem ad.evq{fr:Fr}{w:World}(hs:ad φ B fr h a w){x:Operand}{z:Nat}(e:ev 0 fr x=.q z):a.eval x=φ.q z:=by
 have:=ry (ng:=0) (fun g hg=>by omega) hs.fr x;rw[e]at this;simp only[VR]at this;exact this.1
theorem ad.QW{φ:Ren}{B:Nat}{fr:Fr}{h:H}{a:Act}{w:World}(hs:ad φ B fr h a w){P:Program}{n:Nat}{ops:Array Oper}{Q:Exit->Act->World->Prop}{l:List Oper}{o:Oper}{rest:List Oper}(hl:l=o::rest){t k e:TypeId}{x:Operand}(gm:o.op=.range t x)(tQ:o.guard=none)
  {z:Nat}(Wn:ev 0 fr x=.q z){bm:Nat}(hz:φ.q z=.map (some bm)){es:Array MapEntry}{clock:Nat}(ht:P.underlying t=some (.map k e))(hb:w.heap[bm]? =some (.map es clock))
  (hq:Grown w (w.alloc (.mapIter (some bm) clock #[] clock))->(w.alloc (.mapIter (some bm) clock #[] clock)).heap[w.heap.size]? =some (.mapIter (some bm) clock #[] clock)->wpListIn (W none) n P ops Q rest (a.put o.dst (.pointer (some ⟨w.heap.size,0,none⟩))) (w.alloc (.mapIter (some bm) clock #[] clock))):wpListIn (W none) n P ops Q l a w:=by
 subst hl;have hx:=(hs.evq Wn).trans hz;refine DT tQ (fun c e=>by rw[gm]at e;cases e) (v:=.pointer (some ⟨w.heap.size,0,none⟩)) (w':=w.alloc (.mapIter (some bm) clock #[] clock)) ?_
  (hq ⟨by simp,fun r hr=>(MapKept.heap_alloc w _).2 r hr,rfl,rfl,rfl⟩ (MapKept.heap_alloc w _).1)
 simp[execOp,gm,hx,run_range_map w t k e bm es clock ht hb]
theorem ad.Zr{φ:Ren}{B:Nat}{fr:Fr}{h:H}{a:Act}{w:World}(hs:ad φ B fr h a w){P:Program}{n:Nat}{ops:Array Oper}{Q:Exit->Act->World->Prop}{l:List Oper}{o:Oper}{rest:List Oper}(hl:l=o::rest){x:Operand}(gm:o.op=.next x false)(tQ:o.guard=none)
  {z:Nat}(Wn:ev 0 fr x=.q z){ri bm since c0:Nat}{seen:Array Nat}(hz:φ.q z=.pointer (some ⟨ri,0,none⟩)){es:Array MapEntry}{clock:Nat}(hi:w.heap[ri]? =some (.mapIter (some bm) since seen c0))(hb:w.heap[bm]? =some (.map es clock))(hold:∀x∈es.toList,x.born<since)(hsc:since<=c0)(hB:B<=ri)
  (hE:(leftOf es seen).size=0->wpListIn (W none) n P ops Q rest (a.put o.dst (.tuple #[.bool false])) w)
  (hN:∀e∈(leftOf es seen).toList,∀af w',ad af B fr h a w'->af.s=φ.s->af.q=φ.q->af.w=φ.w->af.g=φ.g->GB B w w'->(∀i,i≠ri->w'.heap[i]? =w.heap[i]?)->w'.heap[ri]? =some (.mapIter (some bm) since (seen.push e.born) clock)->wpListIn (W none) n P ops Q rest (a.put o.dst (.tuple #[.bool true,e.key,e.val])) w'):wpListIn (W none) n P ops Q l a w:=by
 subst hl;have hx:=(hs.evq Wn).trans hz;rcases run_next_at (P:=P) w o.type ri bm since c0 seen es clock hi hb hold hsc with⟨h0,ba⟩|⟨e,he,w1,E6,ba⟩
 ·refine DT tQ (fun c e=>by rw[gm]at e;cases e) ?_ (hE h0)
  simp[execOp,gm,hx,ba]
 ·have hi1:w1.heap[ri]? =some (.mapIter (some bm) since seen c0):=by rcases E6 with rfl|rfl<;>exact hi
  have hw1:w1.heap=w.heap/\w1.os=w.os/\w1.tape=w.tape/\w1.output=w.output:=by rcases E6 with rfl|rfl<;>exact⟨rfl,rfl,rfl,rfl⟩
  have fa:=MapKept.heap_set (o':=.mapIter (some bm) since (seen.push e.born) clock) hi1;have pN:∀i,i≠ri->(arQ w1 ri (.mapIter (some bm) since (seen.push e.born) clock)).heap[i]? =w.heap[i]? :=fun i bU=>by rw[<-hw1.1];exact fa.2 i bU
  have ed:(arQ w1 ri (.mapIter (some bm) since (seen.push e.born) clock)).heap.size=w.heap.size:=by simp[arQ,hw1.1]
  obtain⟨af,cu,e1,e2,e3,e4,_,_⟩:=hs.other (w':=arQ w1 ri (.mapIter (some bm) since (seen.push e.born) clock)) (r:=ri) (fun b eb hl=>by
   obtain⟨ob,g1,g2⟩:=hs.hr.ew b ri eb hl;rw[hi]at g1;cases g1;exact Ls hl g2) ed pN
  refine DT tQ (fun c e=>by rw[gm]at e;cases e) ?_ (hN e he af _ cu e1 e2 e3 e4 ⟨by rw[ed];exact arJ _,fun r hr=>pN r (by omega),hw1.2.1,hw1.2.2.1,hw1.2.2.2⟩ pN fa.1);simp[execOp,gm,hx,ba]
theorem ad.abY{φ:Ren}{B:Nat}{fr:Fr}{h:H}{a:Act}{w:World}(hs:ad φ B fr h a w){P:Program}{n:Nat}{ops:Array Oper}{Q:Exit->Act->World->Prop}{l:List Oper}{o:Oper}{rest:List Oper}(hl:l=o::rest){x:Operand}(gm:o.op=.entry x)(tQ:o.guard=none)
  {z:Nat}(Wn:ev 0 fr x=.q z){ri bm since:Nat}{seen:Array Nat}(hz:φ.q z=.pointer (some ⟨ri,0,none⟩)){es:Array MapEntry}{clock:Nat}{e:MapEntry}(hi:w.heap[ri]? =some (.mapIter (some bm) since (seen.push e.born) clock))(hb:w.heap[bm]? =some (.map es clock))(he:e∈es.toList)(hn:(es.toList.map (·.born)).Nodup)
  (hN:wpListIn (W none) n P ops Q rest (a.put o.dst (.tuple #[e.key,e.val])) w):wpListIn (W none) n P ops Q l a w:=by
 subst hl;have hx:=(hs.evq Wn).trans hz;refine DT tQ (fun c e=>by rw[gm]at e;cases e) ?_ hN;simp[execOp,gm,hx,run_entry_at w ri bm since seen es clock e hi hb he hn]
theorem Je{n:Nat}{id:Nat}{c:Code}{w:World}(h:aC none n P (fun e a' w'=>e=.normal/\aC none n P Q rest a' w') (ct c) a w):aC none n P Q (.block id c::rest) a w:=by
 refine wpIn_block (wpIn_mono (bp c h) ?_);rintro e a' w' ⟨rfl,hq⟩;exact hq
theorem Af{α:Type}:∀(l m:List α),l.Nodup->(∀x∈l,x∈m)->∃r,(l++r).Perm m
 |[],m,_,_=>⟨m,List.Perm.refl _⟩
 |x::xs,m,hn,hs=>by
  obtain⟨s,t,rfl⟩:=List.append_of_mem (hs x asu);obtain⟨hx,kZ⟩:=asd.1 hn;obtain⟨r,hr⟩:=Af xs (s++t) kZ fun y hy=>by
   have:=hs y (ass _ hy);rcases ase.1 this with h|h
   ·exact List.mem_append_left _ h
   ·rcases asj.1 h with rfl|h
    ·exact absurd hy hx
    ·exact List.mem_append_right _ h
  exact⟨r,(List.Perm.cons x hr).trans List.perm_middle.symm⟩
theorem Ah{α:Type}{l m:List α}(hn:l.Nodup)(hs:∀x∈l,x∈m):l.length<=m.length:=by
 obtain⟨r,hr⟩:=Af l m hn hs;have:=hr.length_eq;simp at this;omega
theorem Gv{α:Type}{l m:List α}(hn:l.Nodup)(hs:∀x∈l,x∈m)(hl:m.length<=l.length):l.Perm m:=by
 obtain⟨r,hr⟩:=Af l m hn hs;have:=hr.length_eq;simp at this;have:r=[]:=List.eq_nil_of_length_eq_zero (by omega);subst this;simpa using hr
theorem uo{α β:Type}(f:α->β):∀{l:List α},(l.map f).Nodup->l.Nodup
 |[],_=>List.nodup_nil
 |x::xs,h=>by
  rw[List.map_cons,asd]at h;exact asd.2 ⟨fun hx=>h.1 (asl.2 ⟨x,hx,rfl⟩),uo f h.2⟩
structure uq(es:Array MapEntry)(de:List MapEntry):Prop where
 nd:de.Nodup
 sub:∀e∈de,e∈es.toList
theorem uq.nil(es:Array MapEntry):uq es []:=⟨List.nodup_nil,fun _ h=>by cases h⟩
theorem Wq(hn:(es.toList.map (·.born)).Nodup){e e':MapEntry}(h:e∈es.toList)(h':e'∈es.toList)(hb:e.born=e'.born):e=e':=by
 have h1:=find_born e es.toList hn h;have h2:=find_born e' es.toList hn h';rw[hb]at h1;exact Option.some.inj (h1.symm.trans h2)
theorem uq.snoc(h:uq es de){e:MapEntry}(he:e∈(leftOf es (de.map (·.born)).toArray).toList):uq es (de++[e])/\e∈es.toList:=by
 obtain⟨h1,h2⟩:=mem_left he;refine⟨⟨?_,fun x hx=> ?_⟩,h1⟩
 ·rw[List.nodup_append]
  refine⟨h.nd,by simp,fun x hx y hy Zb=> ?_⟩;simp at hy;subst hy;subst Zb;have:(de.map (·.born)).toArray.contains x.born=true:=by
   simp only[asp,asq];exact asl.2 ⟨x,hx,rfl⟩
  rw[this]at h2;cases h2
 ·rcases ase.1 hx with hx|hx
  ·exact h.sub x hx
  ·simp at hx;subst hx;exact h1
theorem uq.length_le(h:uq es de):de.length<=es.size:=by
 simpa using Ah h.nd h.sub
theorem uq.perm(h:uq es de)(hl:es.size<=de.length):de.Perm es.toList:=Gv h.nd h.sub (by simpa using hl)
theorem uq.none(hn:(es.toList.map (·.born)).Nodup)(h:uq es de)(h0:(leftOf es (de.map (·.born)).toArray).size=0):es.size<=de.length:=by
 have pG:=all_seen es _ h0;have sK:∀x∈es.toList,x∈de:=fun x hx=>by
  have:=pG x hx;simp only[asp,asq,asl]at this;obtain⟨y,hy,e⟩:=this;rw[<-Wq hn (h.sub y hy) hx e];exact hy
 simpa using Ah (uo _ hn) sK
end
variable{w':World}
noncomputable section
def LF(σ:Bd):List (Nat×Nat)->Bool
 |[]=>true
 |(b,c)::l=>(match lk σ b with|some c'=>arD c' c|none=>false)&&LF σ l
theorem Gw{σ:Bd}:∀{l:List (Nat×Nat)},LF σ l=true->∀p∈l,lk σ p.1=some p.2
 |(b,c)::l,h,p,hp=>by
  simp only[LF,AAA]at h;rcases asj.1 hp with rfl|hp
  ·have h1:=h.1
   split at h1
   ·rename_i c' hc
    rw[aop h1]at hc;exact hc
   ·cases h1
  ·exact Gw h.2 p hp
def sO(E:Env)(k:Nat)(cs:List Code)(fr:Fr)(h:H)(x:X)(tb:bP)(nt:Nat)(L:List (Nat×V))(nb:Nat)(HB:List (Nat×aQ))(ids:List (Nat×Nat)):Bool:=fL tb&&
 match rH E k cs fr h with
 |some (x',cQ,h')=>FY x x'&&
  match bG tb cQ h' nt L nb HB with
  |some σ=>LF σ ids
  |none=>false
 |none=>false
theorem ad.ain{E:Env}(hE:E.OK)(qQ:E.ng=0)(m:Nat){k:Nat}{cs:List Code}{fr:Fr}{tF:Nat}{HB0:List (Nat×aQ)}{x:X}{tb:bP}{nt:Nat}{L:List (Nat×V)}{nb:Nat}{HB:List (Nat×aQ)}{ids:List (Nat×Nat)}(hc:sO E k (cs.take m) fr (ak tF HB0) x tb nt L nb HB ids=true)
  {φ:Ren}{B:Nat}{a:Act}{w:World}{n:Nat}(hs:ad φ B fr (ak tF HB0) a w)(bK:BD E φ)(hd:a.defers=[])(y:Sym)(hy:iC tb φ.y y){Q:Exit->Act->World->Prop}
  (hQ:∀af a' w',ad af B (U nt L) (ak nb HB) a' w'->a'.defers=[]->GB B w w'->zS HB0 w w'->af.s=y.s->af.q=y.q->af.w=y.w->af.g=y.g->(∀p∈ids,∀r,φ p.2=some r->af p.1=some r)->Exit.then (aC none n E.P Q (cs.drop m)) Q x.exit a' w'):aC none n E.P Q cs a w:=by
 simp only[sO,AAA]at hc;obtain⟨hp,hc⟩:=hc;split at hc
 ·rename_i x' cQ h' hex
  simp only[AAA]at hc;have hx:=pL hc.1;subst hx;have PO:=hc.2;split at PO
  ·rename_i σ e
   have:=k9 hE (n:=n) (Q:=Q) (cs.drop m) (cs.take m) fr (ak tF HB0) x cQ h' hex φ a w (by rw[qQ];exact fun g hg=>by omega) bK hs.fr hd hs.hr fun af a' w' iD wz cy cM=>by
    obtain⟨vK,ju⟩:=hs.after iD cM;have bB:=dM e wz cM ju (arP hs.bz iD.size) y (hy.agree hp iD.le.yy h' w');refine hQ _ a' w' bB cy vK (hs.Lt iD cM) rfl rfl rfl rfl fun p hp r hr=> ?_
    show(lk σ p.1).bind af.f=some r;rw[Gw PO p hp];exact(iD.le.at_ _ _ hr).1
   rwa[arV]at this
  ·cases PO
 ·cases hc
theorem ad.aio{fr:Fr}{w:World}(hs:ad φ B fr h a w)(hg:Grown w w'):
  ∃af,ad af B fr h a w'/\af.s=φ.s/\af.q=φ.q/\af.w=φ.w/\af.g=φ.g/\(∀b,af b=φ b)/\af.n=φ.n:=by
 let af:Ren:={φ with y:={φ.y with k:=fun x=>if x<w.heap.size then φ.y.k x else w'.heap[x]?}};have hq:I3 φ af:=⟨rfl,rfl,rfl,rfl,rfl,rfl⟩;refine⟨af,⟨hq.frr hs.fr,⟨hs.hr.iL,fun b s es=> ?_,fun b s es hl=> ?_,hs.hr.inj,fun s o hk=> ?_⟩,hs.loc,fun s cu=> ?_,arP hs.bz hg.size⟩,rfl,rfl,rfl,rfl,fun _=>rfl,rfl⟩
 ·have:=hs.hr.lM b s es
  exact⟨this.1,Nat.lt_of_lt_of_le this.2 hg.size⟩
 ·obtain⟨o,h1,h2⟩:=hs.hr.ew b s es hl
  refine⟨o,?_,hq.br h2⟩;rw[hg.same s (hs.hr.lM b s es).2];exact h1
 ·have hk:(if s<w.heap.size then φ.y.k s else w'.heap[s]?)=some o:=hk
  by_cases bf:s<w.heap.size
  ·rw[if_pos bf]at hk
   have:=hs.hr.kp s o hk;exact⟨by rw[hg.same s bf];exact this.1,this.2⟩
  ·rw[if_neg bf]at hk
   refine⟨hk,fun b es hm=> ?_⟩;exact bf (hs.hr.lM b s es).2
 ·show(if s<w.heap.size then φ.y.k s else w'.heap[s]?)=_
  by_cases bf:s<w.heap.size
  ·rw[if_pos bf,hg.same s bf];exact hs.kf s cu
  ·rw[if_neg bf]
end
end Go.Ev
namespace Go.Proofs
open Nat renaming eq_of_beq_eq_true->aop,beq->arD,le_refl->arJ,le_trans->arP,add_zero->arZ,le_of_ble_eq_true->asr
open Bool renaming and_eq_true->AAA,not_eq_true'->arT,or_eq_true->asg
open _root_.Array renaming getD_eq_getD_getElem?->arC,getElem?_eq_some_iff->arF,length_toList->arG,toList_inj->arL,getElem?_eq_getElem->arO,getElem?_setIfInBounds_ne->arY,getElem?_modify->asm,size_modify->asv
open List renaming replicate->arE,take_of_length_le->arH,all_eq_true->arN,getElem?_eq_some_iff->arS,take_append_drop->arV,length->arW,nodup_cons->asd,mem_append->ase,length_nil->asf,mem_range->ash,mem_cons->asj,mem_map->asl,getElem?_toArray->asn,getElem?_eq_none->aso,contains_toArray->asp,contains_iff_mem->asq,mem_cons_of_mem->ass,range->ast,mem_cons_self->asu,getElem?_map->asw
open World renaming freeze->arI
open Region renaming wanted->arK,ready->arM
open ChangeMaps renaming setBlock->arQ
open UInt8 renaming ofNat->arR
open Lib renaming byteCells->arU
open CallsIn renaming mono->arX
open Result renaming andThen->asa
open Oper renaming upon_value->asb,semAt_eq->asi
section
open Go.Shelf Go.RowKit
theorem LG:∃j,Tryz.prog.info? 82=some j/\j.size=2:=⟨_,(Go.Ev.aB.ty 82 _ _ rfl).1,rfl⟩
set_option maxHeartbeats 1000000 in
set_option maxRecDepth 100000 in
theorem Tryz.NQ(b:Nat)(w:World)(h0:w.cell? ⟨b,0,none⟩=some (.pointer (some ⟨b,0,none⟩))):
  Calls Tryz.prog 39 #[.pointer (some ⟨b,0,none⟩)] w fun e w'=>e=.returned (.tuple #[])/\w'=w:=by
 obtain⟨j,hj,_⟩:=LG
 go_enter Tryz.func39,Tryz.ntmps39
 go_wp2
 rw[Lib.run_neq_ptr_same w _ Tryz.underlying79 hj]
 go_wp2
 go_end0
 exact⟨rfl,rfl⟩
theorem Wr:liesAt Tryz.prog Tryz.prog.depth 82 (2/Tryz.prog.cellsOf 82) 0 82 1=true:=by decide+kernel
set_option maxHeartbeats 1000000 in
set_option maxRecDepth 100000 in
theorem Tryz.Jf(b:Nat)(w:World)(h0:w.cell? ⟨b,0,none⟩=some (.pointer none))(hsh:w.shape? b=some (82,2))(Y6:w.frozen? ⟨b,0,none⟩=false):
  Calls Tryz.prog 39 #[.pointer (some ⟨b,0,none⟩)] w fun e w'=>e=.returned (.tuple #[])/\w'=w.setCell ⟨b,0,none⟩ (.pointer (some ⟨b,0,none⟩)):=by
 obtain⟨j,hj,hjs⟩:=LG
 go_enter Tryz.func39,Tryz.ntmps39
 go_wp2
 rw[Lib.run_to_unsafe w ⟨b,0,none⟩ Tryz.underlying79 Tryz.underlying164 hj (by rw[hjs];decide) hsh (Nat.zero_lt_succ 1)];simp only[asa];rw[asb]
 go_wp2
 rw[run_callFunc_extern Tryz.func85 (by kernel_rfl) (by kernel_rfl) (by kernel_rfl) (e:=Extern.AbiNoEscape.same) (by kernel_rfl)];rw[Lib.run_noEscape];simp only[asa];rw[asb]
 go_wp2
 rw[Lib.run_from_unsafe w ⟨b,0,none⟩ Tryz.underlying164 Tryz.underlying79 hj hsh Wr];simp only[asa];rw[asb]
 go_wp2
 go_end0
 exact⟨rfl,rfl⟩
set_option maxHeartbeats 1000000 in
set_option maxRecDepth 100000 in
theorem Tryz.aip{b g cap:Nat}{p:Value}{cur:Array Value}{l:List UInt8}(w:World)(hbk:w.heap[b]? =some (.cells #[p,.slice (some ⟨g,0,none⟩) l.length cap] 82 (0,0)))(hg:w.heap[g]? =some (.cells cur 5 (0,0)))(QX:cur.toList.take l.length=arU l)(h0:l≠[])(hn:l.length<=cur.size)(ic:l.length<=cap)(h63:l.length<=1000000):
  Calls Tryz.prog 22 #[.pointer (some ⟨b,0,none⟩)] w fun e w'=>e=.returned (.string ⟨l.toArray⟩)/\w'=w.drew.freeze ⟨g,0,none⟩ l.length:=by
 have hl0:l.length≠0:=by simpa using h0
 have c1:w.drew.cell? ⟨b,1,none⟩=some (.slice (some ⟨g,0,none⟩) l.length cap):=by
  have:w.drew.heap[b]? =some (.cells #[p,.slice (some ⟨g,0,none⟩) l.length cap] 82 (0,0)):=hbk;rw[Lib.cell_of_heap this];rfl
 have hSD:(Builtin.unsafeSliceData_ #[80] 125 #[.slice (some ⟨g,0,none⟩) l.length cap]).run Tryz.prog w.drew=.ok (.pointer (some ⟨g,0,none⟩)) w.drew:=
  Lib.run_unsafeSliceData_row _ _ _ _ _ _ (by omega)
 have hUS:(Builtin.unsafeString_ #[125,3] 9 #[.pointer (some ⟨g,0,none⟩),.int .i64 l.length]).run Tryz.prog w.drew=.ok (.string ⟨l.toArray⟩) (w.drew.freeze ⟨g,0,none⟩ l.length):=by
  refine Lib.run_unsafeString_row w.drew 125 3 9 5 Tryz.underlying125 (by decide+kernel) g cur.size (by have dh:w.drew.heap[g]? =some (.cells cur 5 (0,0)):=hg;simp[World.shape?,dh]) l h0 hn (by omega) ?_;intro j x hx;have hj:j<l.length:=(arS.1 hx).1;have ea:Addr.add ⟨g,0,none⟩ j=⟨g,j,none⟩:=by
   unfold Addr.add
   by_cases h0:j=0
   ·subst h0;simp
   ·simp[h0]
  rw[ea];have dh:w.drew.heap[g]? =some (.cells cur 5 (0,0)):=hg;rw[Lib.cell_of_heap dh];have:(cur.toList.take l.length)[j]? =(arU l)[j]? :=by rw[QX]
  rw[List.getElem?_take_of_lt hj]at this;simpa[arU,hx]using this
 have mixed:Tryz.prog.follows .mixedOrders=true:=Go.Ev.aB.mixed
 go_enter Tryz.func22,Tryz.ntmps22
 go_wp2
 go_region_o
 all_goals(go_wp2;go_ret;exact⟨rfl,rfl⟩)
end
end Go.Proofs
namespace Go.Ev
open Nat renaming eq_of_beq_eq_true->aop,beq->arD,le_refl->arJ,le_trans->arP,add_zero->arZ,le_of_ble_eq_true->asr
open Bool renaming and_eq_true->AAA,not_eq_true'->arT,or_eq_true->asg
open _root_.Array renaming getD_eq_getD_getElem?->arC,getElem?_eq_some_iff->arF,length_toList->arG,toList_inj->arL,getElem?_eq_getElem->arO,getElem?_setIfInBounds_ne->arY,getElem?_modify->asm,size_modify->asv
open List renaming replicate->arE,take_of_length_le->arH,all_eq_true->arN,getElem?_eq_some_iff->arS,take_append_drop->arV,length->arW,nodup_cons->asd,mem_append->ase,length_nil->asf,mem_range->ash,mem_cons->asj,mem_map->asl,getElem?_toArray->asn,getElem?_eq_none->aso,contains_toArray->asp,contains_iff_mem->asq,mem_cons_of_mem->ass,range->ast,mem_cons_self->asu,getElem?_map->asw
open World renaming freeze->arI
open Region renaming wanted->arK,ready->arM
open ChangeMaps renaming setBlock->arQ
open UInt8 renaming ofNat->arR
open Lib renaming byteCells->arU
open CallsIn renaming mono->arX
open Result renaming andThen->asa
open Oper renaming upon_value->asb,semAt_eq->asi
open Go.Proofs
variable{φ:Ren}{h h':H}{args:List V}{args':List Value}
noncomputable def abZ(h:H):List V->Option (V×H)
 |[.p (some (b,o))]=>
  match h.get b with
  |.cells [x,y] e g=>
   cond (arD o 0&&arD e 82&& !g)
    (match x with
    |.p none=>some (.t [],h.set b (.cells [.p (some (b,0)),y] 82 false))
    |.p (some (b',o'))=>cond (arD b' b&&arD o' 0) (some (.t [],h)) none
    |_=>none) none
  |_=>none
 |_=>none
noncomputable def ab0(h:H):List V->Option (V×H)
 |[.p (some (b,o))]=>
  match h.get b with
  |.cells [_,.sl (some (b2,o2)) n _] e g=>
   match h.get b2 with
   |.cells l e2 _=>
    cond (arD o 0&&arD e 82&& !g&&arD o2 0&&arD e2 5&&Nat.ble n l.length&&Nat.blt 0 n&&Nat.ble n 1000000)
     (match Ck (l.take n)with
     |some ns=>some (.s ns,h.set b2 .gone)
     |none=>none) none
   |_=>none
  |_=>none
 |_=>none
noncomputable def eh2(f:FuncId)(args:List V)(h:H):Option (V×H):=
 cond (arD f 39) (abZ h args) (cond (arD f 22) (ab0 h args) none)
theorem LH{w:World}(hr:HR φ h w){v:V}(e:abZ h args=some (v,h'))(ha:J φ args args')(n:Nat):
  CallsIn (W none) n Tryz.prog 39 args'.toArray w fun e w'=>∃af u,e=.returned u/\Ext φ w af w'/\VR af v u/\HR af h' w':=by
 unfold abZ at e;split at e
 ·rename_i b o
  split at e
  ·rename_i x y te g hl
   cases hq:arD o 0&&arD te 82&& !g with
   |false=>rw[hq]at e;cases e
   |true=>
    rw[hq]at e;simp only[cond]at e;simp only[AAA,arT]at hq;obtain⟨⟨q1,q2⟩,q3⟩:=hq;have q1:=aop q1;have q2:=aop q2;subst q1;subst q2;subst q3;simp only[J,VR]at ha;obtain⟨_,_,rfl,⟨r,hb,rfl⟩,rfl⟩:=ha;obtain⟨ob,o1,o2⟩:=hr.ew b r hb (by rw[hl];trivial);rw[hl]at o2;obtain⟨c,rfl,v1,l1,z1,_⟩:=o2
    replace z1:=z1 rfl
    rw[arH (by rw[arG,z1];exact arJ _)]at v1;clear z1 l1;simp only[J]at v1;obtain⟨ux,_,ec,hux,uy,_,rfl,Zs,rfl⟩:=v1;have hc:c=#[ux,uy]:=arL.1 ec;subst hc;have iu:w.cell? ⟨r,0,none⟩=some ux:=by simp[World.cell?,o1]
    cases x with
    |p a=>
     cases a with
     |none=>
      cases e;simp only[VR]at hux;subst hux;refine arX (callsIn_wide.2 (Tryz.Jf r w iu (by simp[World.shape?,o1]) (by simp[World.frozen?,o1])):CallsIn (W none) n _ _ _ _ _) ?_;rintro e w' ⟨rfl,rfl⟩;obtain⟨g1,g2⟩:=hr.setCell hb hl (o:=0) (x:=.p (some (b,0))) (v:=.pointer (some ⟨r,0,none⟩)) (by simp only[VR];exact⟨r,hb,rfl⟩);exact⟨φ,_,rfl,g2,by simp only[VR];exact⟨#[],rfl,by simp[J]⟩,g1⟩
     |some bo=>
      obtain⟨b',o'⟩:=bo;simp only at e;cases hq2:arD b' b&&arD o' 0 with
      |false=>rw[hq2]at e;cases e
      |true=>
       rw[hq2]at e;cases e;simp only[AAA]at hq2;have e1:=aop hq2.1;have e2:=aop hq2.2;subst e1;subst e2;simp only[VR]at hux;obtain⟨r',cM,rfl⟩:=hux;rw[hb]at cM;cases cM;refine arX (callsIn_wide.2 (Tryz.NQ r w iu):CallsIn (W none) n _ _ _ _ _) ?_;rintro e w' ⟨rfl,rfl⟩;exact⟨φ,_,rfl,Ext.refl φ _,by simp only[VR];exact⟨#[],rfl,by simp[J]⟩,hr⟩
    |_=>cases e
  ·cases e
 ·cases e
theorem LI{w:World}(hr:HR φ h w){v:V}(e:ab0 h args=some (v,h'))(ha:J φ args args')(n:Nat):
  CallsIn (W none) n Tryz.prog 22 args'.toArray w fun e w'=>∃af u,e=.returned u/\Ext φ w af w'/\VR af v u/\HR af h' w':=by
 unfold ab0 at e;split at e
 ·rename_i b o
  split at e
  ·rename_i x b2 o2 m c te g hl
   split at e
   ·rename_i l e2 g2 Gx
    cases hq:arD o 0&&arD te 82&& !g&&arD o2 0&&arD e2 5&&Nat.ble m l.length&&Nat.blt 0 m&&Nat.ble m 1000000 with
    |false=>rw[hq]at e;cases e
    |true=>
     rw[hq]at e;simp only[cond]at e;simp only[AAA,arT]at hq;obtain⟨⟨⟨⟨⟨⟨⟨q1,q2⟩,q3⟩,q4⟩,q5⟩,q6⟩,q7⟩,q8⟩:=hq;have q1:=aop q1;have q2:=aop q2;have q4:=aop q4;have q5:=aop q5;have q6:=asr q6;have q8:=asr q8;have q7:1<=m:=by simpa[Nat.blt]using q7
     subst q1;subst q2;subst q3;subst q4;subst q5;split at e
     ·rename_i ns hns
      cases e;simp only[J,VR]at ha;obtain⟨_,_,rfl,⟨r,hb,rfl⟩,rfl⟩:=ha;obtain⟨ob,o1,o2⟩:=hr.ew b r hb (by rw[hl];trivial);rw[hl]at o2;obtain⟨c1,rfl,v1,l1,z1,_⟩:=o2;have z1:=z1 rfl;rw[arH (by rw[arG,z1];exact arJ _)]at v1;simp only[J]at v1;obtain⟨ux,_,ec,_,uy,_,rfl,Zs,rfl⟩:=v1;have hc:c1=#[ux,uy]:=arL.1 ec;subst hc;obtain⟨r2,cap,tB,ic,rfl⟩:∃r2 cap,φ b2=some r2/\m<=cap/\uy=.slice (some ⟨r2,0,none⟩) m cap:=by
       cases c with
       |kn c=>simp only[VR]at Zs;obtain⟨r2,h4,h5,rfl⟩:=Zs;exact⟨r2,_,h4,h5,rfl⟩
       |un sz=>simp only[VR]at Zs;obtain⟨r2,cap,h4,h5,_,rfl⟩:=Zs;exact⟨r2,_,h4,h5,rfl⟩
      obtain⟨ob2,p1,p2⟩:=hr.ew b2 r2 tB (by rw[Gx];trivial);rw[Gx]at p2;obtain⟨cur,rfl,v2,l2,_,_⟩:=p2;have v3:=v2.take m;rw[List.take_take,Nat.min_eq_left q6]at v3;obtain⟨j1,j2⟩:=zx hns v3;have hlen:(ns.map arR).length=m:=by
       have:=congrArg arW j1;simp at this;rw[List.length_map];omega
      have hby:arU (ns.map arR)=ns.map (fun m:Nat=>Value.int .u8 m):=by
       unfold arU;rw[List.map_map];apply List.map_congr_left;intro x hx;have:=j2 x hx;simp[UInt8.toNat_ofNat',Nat.mod_eq_of_lt this]
      have eF:=Tryz.aip (b:=r) (g:=r2) (cap:=cap) (p:=ux) (cur:=cur) (l:=ns.map arR) w (by rw[hlen];exact o1) p1 (by rw[hlen,hby,j1]) (by intro h0;rw[h0]at hlen;simp at hlen;omega) (by rw[hlen];omega) (by rw[hlen];exact ic) (by rw[hlen];exact q8);refine arX (callsIn_wide.2 eF:CallsIn (W none) n _ _ _ _ _) ?_;rintro e w' ⟨rfl,rfl⟩;have bU:(ns.map arR).length≠0:=by rw[hlen];omega
      have QY:r2<w.heap.size:=(hr.lM b2 r2 tB).2;obtain⟨ob3,ab6⟩:∃ob3,(w.drew.freeze ⟨r2,0,none⟩ (ns.map arR).length).heap[r2]? =some ob3:=by
       refine⟨_,arO ?_⟩;unfold arI;split
       ·exact QY
       ·simpa using QY
      obtain⟨g1,g2'⟩:=hr.turn (b:=b2) (r:=r2) (w':=w.drew.freeze ⟨r2,0,none⟩ (ns.map arR).length) .gone ob3 tB (by rw[Gx];trivial) trivial
       (by
         unfold arI;split
         ·rfl
         ·show(w.heap.modify _ _).size=_
          rw[asv]) ab6
       (fun s hs=>by
        unfold arI;split
        ·rfl
        ·simp only[asm]
         rw[if_neg (fun e=>hs e.symm)];rfl)
       (by unfold arI;split<;>rfl) (by unfold arI;split<;>rfl) (by unfold arI;split<;>rfl)
      exact⟨φ,_,rfl,g2',by simp only[VR];exact⟨rfl,j2⟩,g1⟩
     ·cases e
   ·cases e
  ·cases e
 ·cases e
noncomputable def xhS(X:Xt)(h:H):List V->Option (V×H)
 |[.p (some (b,o))]=>
  match h.get b with
  |.cells [_,.sr b2 x 0 1] e g=>
   match h.get b2,X.bs x with
   |.row x2 [] e2,some z=>cond (arD o 0&&arD e 82&& !g&&arD x2 x&&arD e2 5) (some (.q z,h.set b2 .gone)) none
   |_,_=>none
  |_=>none
 |_=>none
noncomputable def xh3(X:Xt)(f:FuncId)(args:List V)(h:H):Option (V×H):=cond (arD f 22) (xhS X h args) none
theorem ab7{X:Xt}(hX:zb Tryz.prog X φ){w:World}(hr:HR φ h w){v:V}(e:xhS X h args=some (v,h'))(ha:J φ args args')(n:Nat):
  CallsIn (W none) n Tryz.prog 22 args'.toArray w fun e w'=>∃af u,e=.returned u/\Ext φ w af w'/\VR af v u/\HR af h' w':=by
 unfold xhS at e;split at e
 ·rename_i b o
  split at e
  ·rename_i x0 b2 x te g hl
   split at e
   ·rename_i x2 e2 z Gx hz
    cases hq:arD o 0&&arD te 82&& !g&&arD x2 x&&arD e2 5 with
    |false=>rw[hq]at e;cases e
    |true=>
     rw[hq]at e;cases e;simp only[AAA,arT]at hq;obtain⟨⟨⟨⟨q1,q2⟩,q3⟩,q4⟩,q5⟩:=hq;have q1:=aop q1;have q2:=aop q2;have q4:=aop q4;have q5:=aop q5;subst q1;subst q2;subst q3;subst q4;subst q5;simp only[J,VR]at ha;obtain⟨_,_,rfl,⟨r,hb,rfl⟩,rfl⟩:=ha;obtain⟨ob,o1,o2⟩:=hr.ew b r hb (by rw[hl];trivial);rw[hl]at o2;obtain⟨c1,rfl,v1,l1,z1,_⟩:=o2;have z1:=z1 rfl;rw[arH (by rw[arG,z1];exact arJ _)]at v1;simp only[J]at v1;obtain⟨ux,_,ec,_,uy,_,rfl,Zs,rfl⟩:=v1;have hc:c1=#[ux,uy]:=arL.1 ec;subst hc;simp only[VR]at Zs;obtain⟨r2,m,cap,tB,_,hm,ic,_,rfl⟩:=Zs;rw[Nat.mul_one]at hm;rw[arZ]at ic o1;obtain⟨s,s1,s2,s3,s4⟩:=hX.bs _ _ hz;obtain⟨cur,vs,p1,p2,p3,p4,_⟩:=hr.rowAt tB Gx;simp only[J]at p2;subst p2;rw[List.append_nil,asf,arZ]at p3;rw[asf,arZ]at p4;have hlen:s.data.toList.length=m:=by rw[hm,s2];simp[cz]
     have eF:=Tryz.aip (b:=r) (g:=r2) (cap:=cap) (p:=ux) (cur:=cur) (l:=s.data.toList) w (by rw[hlen];exact o1) p1 (by rw[hlen,hm,p3,s2];rfl)
      (by intro h0;have:=congrArg arW h0;rw[arG]at this;exact absurd this (by show s.size≠0;omega)) (by rw[hlen,hm];exact p4) (by rw[hlen];exact ic) (by rw[arG];exact s4)
     refine arX (callsIn_wide.2 eF:CallsIn (W none) n _ _ _ _ _) ?_;rintro e w' ⟨rfl,rfl⟩;have QY:r2<w.heap.size:=(hr.lM b2 r2 tB).2;obtain⟨ob3,ab6⟩:∃ob3,(w.drew.freeze ⟨r2,0,none⟩ s.data.toList.length).heap[r2]? =some ob3:=by
      refine⟨_,arO ?_⟩;unfold arI;split
      ·exact QY
      ·simpa using QY
     obtain⟨g1,g2'⟩:=hr.turn (b:=b2) (r:=r2) (w':=w.drew.freeze ⟨r2,0,none⟩ s.data.toList.length) .gone ob3 tB (by rw[Gx];trivial) trivial
      (by
        unfold arI;split
        ·rfl
        ·show(w.heap.modify _ _).size=_
         rw[asv]) ab6
      (fun s hs=>by
       unfold arI;split
       ·rfl
       ·simp only[asm]
        rw[if_neg (fun e=>hs e.symm)];rfl)
      (by unfold arI;split<;>rfl) (by unfold arI;split<;>rfl) (by unfold arI;split<;>rfl)
     have cu:φ.q z=.string s:=s1;exact⟨φ,_,rfl,g2',by simp only[VR,cu];exact⟨by simp,rfl⟩,g1⟩
   ·cases e
  ·cases e
 ·cases e
noncomputable def E3:Env:={E0 with eh:=eh2,xh:=xh3}
theorem ah:E3.OK:=by
 refine⟨aB.ty,aB.fn,aB.mixed,aB.hl,aB.qh,?_,?_⟩
 ·intro f args h v h' e0 φ w args' ha hr
  have e:eh2 f args h=some (v,h'):=e0;clear e0;unfold eh2 at e;cases h1:arD f 39 with
  |true=>
   rw[h1]at e;have:=aop h1;subst this;exact⟨⟨_,_,Tryz.func39,rfl,rfl⟩,fun n=>LH hr e ha n⟩
  |false=>
   rw[h1]at e;cases h2:arD f 22 with
   |true=>
    rw[h2]at e;have:=aop h2;subst this;exact⟨⟨_,_,Tryz.func22,rfl,rfl⟩,fun n=>LI hr e ha n⟩
   |false=>rw[h2]at e;cases e
 ·intro X f args h v h' e0 φ w args' hX ha hr
  have e:xh3 X f args h=some (v,h'):=e0;clear e0;unfold xh3 at e;cases h2:arD f 22 with
  |true=>
   rw[h2]at e;have:=aop h2;subst this;exact⟨⟨_,_,Tryz.func22,rfl,rfl⟩,fun n=>ab7 hX hr e ha n⟩
  |false=>rw[h2]at e;cases e
noncomputable def BU:List Code:=ct ((Tryz.f41.body).getD .skip)
def lU:List Nat:=[99]
def fN:List Nat:=[110,101,120,116]
def mW:aQ:=.rc [.s fN,.i .i64 3,.i .i64 0,.b false] 93
def mX:aQ:=.rc [.s lU,.sl (some (0,0)) 1 (.kn 1),.sl none 0 (.kn 0)] 96
def QZ:List (Nat×aQ):=[(1,mX),(0,mW)]
def mY:List V:=[.a [.sl (some (1,0)) 1 (.kn 1),.q 1,.q 2,.y .i64 3]]
def Q1:List (Nat×V):=[(1,.p (some (2,0))),(2,.p (some (3,0))),(3,.i .i64 0),(6,.p (some (4,0))),(7,.p (some (5,0)))]
def Q2:List (Nat×aQ):=[(2,.cells [.sl (some (1,0)) 1 (.kn 1),.q 1,.q 2,.y .i64 3] 47 false),(3,.cells [.sl none 0 (.kn 0),.m none] 128 false),
 (4,.cells [.sl (some (1,0)) 1 (.kn 1),.m (some 6)] 226 false),(5,.cells [.sl none 0 (.kn 0),.m (some 7)] 128 false),(6,.mp [] 0),(7,.mp [] 0),(1,mX),(0,mW)]
def Q3:aU:={qc:=[(88,mY,.b true)]}
def Q4:bP:={s:=[(3,.y 3)],q:=[(1,.q 1),(2,.q 2)]}
theorem aiq:av (ar E0 Q3) 300 (BU.take 8) ⟨67,load mY 0 .leaf⟩ (ak 2 QZ) .n Q4 67 Q1 8 Q2=true:=by decide+kernel
def ab8:List (Nat×aQ):=(8,.rw 0 51)::iO 1 (.sr 8 0 0 4) Q2
def cD:List (Nat×V):=[(1,.p (some (2,0))),(2,.p (some (3,0))),(3,.i .i64 0),(6,.p (some (4,0))),(7,.p (some (5,0))),(32,.sr 8 0 0 4),(33,.y .i64 1),(34,.y .i64 0)]
def Ai:aQ:=.cells [.sl (some (1,0)) 1 (.kn 1),.sr 8 0 0 4,.q 2,.y .i64 3] 47 false
def wC:aQ:=.cells [.sl none 0 (.kn 0),.m none] 128 false
def Aj:aQ:=.cells [.sl (some (1,0)) 1 (.kn 1),.m (some 6)] 226 false
def Jg:List (Nat×aQ):=[(2,Ai),(3,wC),(4,Aj),(5,.cells [.sl none 0 (.kn 0),.m (some 7)] 128 false),(6,.mp [] 0),(7,.mp [] 0),(1,mX),(0,mW),(8,.rw 0 51)]
def DU:aU:={rz:=[(0,4)],rl:=[(0,0,1)]}
def Q5:bP:={s:=[(0,.i 0),(1,.y 1),(3,.y 3)],q:=[(2,.q 2)],w:=[(0,.same 0)]}
theorem air:av (ar E0 DU) 300 ((BU.drop 8).take 1) (U 67 (jG 1 (.sr 8 0 0 4) Q1)) (ak 9 ab8) .n Q5 67 cD 9 Jg=true:=by decide+kernel
def qK:List (Nat×aQ):=[(2,Ai),(3,wC),(4,Aj),(5,.cells [.sl none 0 (.kn 0),.m (some 7)] 128 false),(6,.mp [] 0),(7,.gS 1 (.int .i64) []),(1,mX),(0,mW),(8,.rw 0 51)]
def LJ:bP:={s:=[(0,.y 0),(1,.y 1),(3,.y 3)],q:=[(2,.q 2)],w:=[(0,.same 0)],g:=[(1,.fold 7)]}
theorem ab9:(bG LJ (U 67 cD) (ak 9 Jg) 67 cD 9 qK).isSome=true:=by decide+kernel
def Ws:bP:={s:=[(0,.y 0),(1,.y 1),(3,.y 3)],q:=[(2,.q 2)],w:=[(0,.same 0)],g:=[(1,.same 1)]}
theorem aca:aW Ws 67 cD 9 qK=true:=by decide+kernel
def Wt:aQ:=.rc [.i .i64 3,.y .i64 6,.s [],.sl none 0 (.kn 0)] 98
def Jh:aQ:=.rc [.i .i64 0,.i .i64 0,.s [],.sl none 0 (.kn 0)] 98
def LK:aQ:=.cells [.i .i64 3,.y .i64 6,.s [],.sl none 0 (.kn 0)] 98 false
def LL:aQ:=.cells [.i .i64 0,.i .i64 0,.s [],.sl none 0 (.kn 0)] 98 false
def Ak:aQ:=.mp [(.a [.i .i64 0,.i .i64 0],.a [.b true,.sl (some (10,0)) 1 (.kn 1),.sl (some (11,0)) 1 (.kn 1)],0)] 1
def Ji:List (Nat×aQ):=[(10,.cells [.s lU,.sl (some (12,0)) 1 (.kn 1),.sl none 0 (.kn 0)] 96 false),(11,.cells [.s lU,.sl (some (12,0)) 1 (.kn 1),.sl none 0 (.kn 0)] 96 false),(12,.cells [.s fN,.i .i64 3,.i .i64 0,.b false] 93 false)]
def sP(v:aQ):List (Nat×aQ):=[(2,Ai),(3,wC),(4,Aj),(5,.cells [.sl (some (9,0)) 1 (.un 4),.m (some 7)] 128 false),(9,.cells [.y .i64 4,.i .i64 0,.i .i64 0,.sl (some (13,0)) 1 (.kn 1)] 51 true),(13,v),
 (6,Ak),(7,.gS 1 (.int .i64) [(.y .i64 4,some (.y .i64 7))]),(1,mX),(0,mW),(8,.rw 0 51)]++Ji
def DV:aU:={bd:=[(4,1,100000),(6,1,100000)],bin:=[(.lss,.y .i64 0,.y .i64 1,.b true),(.add,.y .i64 0,.i .i64 1,.y .i64 5)],rz:=[(0,4)],re:=[(0,0,[.y .i64 4,.i .i64 0,.i .i64 0,.sl (some (9,0)) 1 (.kn 1)])]}
def Jj:bP:={s:=[(0,.y 5),(1,.y 1),(3,.y 3),(4,.y 4),(6,.y 6),(7,.y 0)],q:=[(2,.q 2)],w:=[(0,.same 0)],g:=[(1,.same 1)]}
theorem acb:av (ar E0 DV) 400 ((roundOf (BU.drop 9)).take 100) (U 67 cD) (ak 10 ((9,Wt)::qK)) .n Jj 67 cD 14 (sP LK)=true:=by decide+kernel
theorem acd:av (ar E0 DV) 400 ((roundOf (BU.drop 9)).take 100) (U 67 cD) (ak 10 ((9,Jh)::qK)) .n Jj 67 cD 14 (sP LL)=true:=by decide+kernel
def gP:List (Nat×aQ):=[(2,Ai),(3,wC),(4,Aj),(5,.cells [.sr 9 2 0 4,.m (some 7)] 128 false),(9,.row 2 [] 51),(6,Ak),(7,.gS 1 (.int .i64) []),(1,mX),(0,mW),(8,.rw 0 51)]++Ji
def pQ:bP:={s:=[(0,.y 0),(1,.y 1),(3,.y 3)],q:=[(2,.q 2)],w:=[(0,.same 0),(2,.fold 9)],g:=[(1,.fold 7)]}
theorem ace:(bG pQ (U 67 cD) (ak 14 (sP LK)) 67 cD 13 gP).isSome=true:=by decide+kernel
theorem acf:(bG pQ (U 67 cD) (ak 14 (sP LL)) 67 cD 13 gP).isSome=true:=by decide+kernel
def LM:bP:={s:=[(0,.y 0),(1,.y 1),(3,.y 3)],q:=[(2,.q 2)],w:=[(0,.same 0),(2,.same 2)],g:=[(1,.same 1)]}
theorem Q6:aW LM 67 cD 13 gP=true:=by decide+kernel
def DW:aU:={bd:=[(4,1,100000),(6,1,100000),(8,0,100000)],bin:=[(.lss,.y .i64 0,.y .i64 1,.b true),(.add,.y .i64 0,.i .i64 1,.y .i64 5)],rz:=[(0,4),(2,4)],rl:=[(2,0,8)],re:=[(0,0,[.y .i64 4,.i .i64 0,.i .i64 0,.sl (some (13,0)) 1 (.kn 1)])]}
def sQ(v:aQ):List (Nat×aQ):=[(2,Ai),(3,wC),(4,Aj),(5,.cells [.sr 9 2 1 4,.m (some 7)] 128 false),(9,.row 2 [.y .i64 4,.i .i64 0,.i .i64 0,.sl (some (13,0)) 1 (.kn 1)] 51),(13,v),
 (6,Ak),(7,.gS 1 (.int .i64) [(.y .i64 4,some (.y .i64 7))]),(1,mX),(0,mW),(8,.rw 0 51)]++Ji
def Jk:bP:={s:=[(0,.y 5),(1,.y 1),(3,.y 3),(4,.y 4),(6,.y 6),(7,.y 0)],q:=[(2,.q 2)],w:=[(0,.same 0),(2,.same 2)],g:=[(1,.same 1)]}
theorem acg:av (ar E0 DW) 400 ((roundOf (BU.drop 9)).take 100) (U 67 cD) (ak 14 ((13,Wt)::gP)) .n Jk 67 cD 14 (sQ LK)=true:=by decide+kernel
theorem ach:av (ar E0 DW) 400 ((roundOf (BU.drop 9)).take 100) (U 67 cD) (ak 14 ((13,Jh)::gP)) .n Jk 67 cD 14 (sQ LL)=true:=by decide+kernel
theorem aci:(bG pQ (U 67 cD) (ak 14 (sQ LK)) 67 cD 13 gP).isSome=true:=by decide+kernel
theorem acj:(bG pQ (U 67 cD) (ak 14 (sQ LL)) 67 cD 13 gP).isSome=true:=by decide+kernel
def wD:aU:={bin:=[(.lss,.y .i64 0,.y .i64 1,.b false)]}
theorem ais:av (ar E0 wD) 400 ((roundOf (BU.drop 9)).take 100) (U 67 cD) (ak 13 gP) (.e 0) LM 67 cD 13 gP=true:=by decide+kernel
def Jl:List (Nat×V):=[(1,.p (some (2,0))),(2,.p (some (3,0))),(3,.i .i64 0),(7,.p (some (5,0)))]
def Jm:List (Nat×aQ):=[(2,.cells [.top,.top,.q 2,.y .i64 3] 47 false),(3,wC),(5,.cells [.q 5,.q 6] 128 false)]
def Q7:bP:={s:=[(3,.y 3)],q:=[(2,.q 2),(5,.sr 9 2 0 4),(6,.m (some 7))]}
theorem ait:(bG Q7 (U 67 cD) (ak 13 gP) 67 Jl 6 Jm).isSome=true:=by decide+kernel
def Q8:aU:={qc:=[(91,[.a [.q 5,.q 6],.q 2],.b true)]}
def ack:List (Nat×V):=[(2,.p (some (3,0))),(3,.i .i64 0)]
def acm:List (Nat×aQ):=[(3,.cells [.q 5,.q 6] 128 false)]
def acn:bP:={q:=[(5,.q 5),(6,.q 6)]}
theorem aiu:av (ar E0 Q8) 400 ((BU.drop 10).take 10) (U 67 Jl) (ak 6 Jm) .r acn 67 ack 4 acm=true:=by decide+kernel
def Wu:bP:={s:=[(3,.y 3)],q:=[(2,.q 2),(5,.q 5),(6,.q 6)]}
theorem aco:aW Wu 67 Jl 6 Jm=true:=by decide+kernel
variable{B b nb:Nat}{a:Act}{HB:List (Nat×aQ)}{w':World}
theorem ad.ptr{nt:Nat}{L:List (Nat×V)}{w:World}(hs:ad φ B (U nt L) h a w)(k:Nat){o:Nat}(e:BP L k=.p (some (b,o))):∃r,φ b=some r:=by
 have:=hs.fr.2 k;rw[cA,e]at this;simp only[VR]at this;obtain⟨r,h,_⟩:=this;exact⟨r,h⟩
theorem HR.cx{w:World}(hr:HR φ (ak nb HB) w){r:Nat}(hb:φ b=some r){l:List V}{e:TypeId}{g:Bool}(hl:mO HB b=.cells l e g):
  ∃c,w.heap[r]? =some (.cells c e (0,0))/\J φ l (c.toList.take l.length)/\l.length<=c.size/\(g=false->c.size=l.length)/\c.size=φ.n b:=by
 obtain⟨o,h1,h2⟩:=hr.ew b r hb (by rw[aH,hl];trivial);rw[aH,hl]at h2;obtain⟨c,rfl,h⟩:=h2;exact⟨c,h1,h⟩
theorem HR.Q9{w:World}(hr:HR φ (ak nb HB) w){r:Nat}(hb:φ b=some r){x:Nat}{l:List V}{e:TypeId}(hl:mO HB b=.row x l e):
  ∃c vs,w.heap[r]? =some (.cells c e (0,0))/\J φ l vs/\c.toList.take ((φ.w x).length+l.length)=φ.w x++vs/\(φ.w x).length+l.length<=c.size/\c.size=φ.n b:=by
 obtain⟨o,h1,h2⟩:=hr.ew b r hb (by rw[aH,hl];trivial);rw[aH,hl]at h2;obtain⟨c,vs,rfl,h⟩:=h2;exact⟨c,vs,h1,h⟩
theorem HR.qR{w:World}(hr:HR φ (ak nb HB) w){r:Nat}(hb:φ b=some r){x:Nat}{d:TypeDesc}{us:List (V×Option V)}(hl:mO HB b=.gS x d us):
  ∃es c,w.heap[r]? =some (.map es c)/\MU φ d (φ.g x) us (es,c)/\∀e∈es.toList,MapKept.IsKey d e.key:=by
 obtain⟨o,h1,h2⟩:=hr.ew b r hb (by rw[aH,hl];trivial);rw[aH,hl]at h2;obtain⟨es,c,rfl,h⟩:=h2;exact⟨es,c,h1,h⟩
theorem HR.isRow{w:World}(hr:HR φ (ak nb HB) w){b x sz:Nat}{e:TypeId}(hl:mO HB b=.row x [] e){v:Value}(hv:VR φ (.sr b x 0 sz) v):cr w e sz v (φ.w x):=by
 simp only[VR]at hv;obtain⟨r,n,cap,h1,h2,h3,h4,h5,rfl⟩:=hv;obtain⟨c,vs,g1,g2,g3,g4,g5⟩:=hr.Q9 h1 hl;simp only[J]at g2;subst g2;simp only[asf,arZ,List.append_nil]at g3 g4;exact⟨r,n,cap,c,rfl,h2,h3,h4,by rw[h5,g5],g1,g3⟩
def dB(o:O):Array Value:=if o.ref=0 then#[.int .i64 0,.int .i64 0,.string (bytes []),.slice none 0 0]else#[.int .i64 3,.int .i64 o.ref,.string (bytes []),.slice none 0 0]
def cB(w:World)(p:O×Value):Prop:=∃r,p.2=.slice (some ⟨r,0,none⟩) 1 1/\w.heap[r]? =some (.cells (dB p.1) 98 (0,0))
theorem cB.kept{w:World}{p:O×Value}(h:cB w p)(hk:∀(r:Nat) (c:Array Value),w.heap[r]? =some (.cells c 98 (0,0))->w'.heap[r]? =some (.cells c 98 (0,0))):cB w' p:=by
 obtain⟨r,h1,h2⟩:=h;exact⟨r,h1,hk r _ h2⟩
theorem cB.one{w:World}{p:O×Value}(h:cB w p):p.2.oneCell'=true:=by
 obtain⟨r,h1,_⟩:=h;rw[h1];rfl
theorem GB.at_{w:World}(h:GB B w w')(hb:B=w.heap.size){r:Nat}{o:Obj}(ho:w.heap[r]? =some o):w'.heap[r]? =some o:=by
 rw[h.same r (by rw[hb];exact(arF.1 ho).1)];exact ho
def dG(w:World)(lines:Value):Prop:=∃rl rf cl cf,lines=.slice (some ⟨rl,0,none⟩) 1 1/\w.heap[rf]? =some (.cells cf 93 (0,0))/\w.heap[rl]? =some (.cells cl 96 (0,0))/\
 cf.toList.take 4=[.string (bytes fN),.int .i64 3,.int .i64 0,.bool false]/\cl.toList.take 3=[.string (bytes lU),.slice (some ⟨rf,0,none⟩) 1 1,.slice none 0 0]
theorem dG.kept{w:World}(h:∀(r:Nat) (o:Obj),w.heap[r]? =some o->w'.heap[r]? =some o){v:Value}(hi:dG w v):dG w' v:=by
 obtain⟨rl,rf,cl,cf,h1,h2,h3,h4⟩:=hi;exact⟨rl,rf,cl,cf,h1,h _ _ h2,h _ _ h3,h4⟩
theorem vS{l:List Nat}(h:∀x∈l,x<256):VR φ (.s l) (.string (bytes l)):=by simp only[VR];exact⟨agm,h⟩
theorem vI{k:IntKind}{n:Int}:VR φ (.i k n) (.int k n):=by simp only[VR]
theorem vB{b:Bool}:VR φ (.b b) (.bool b):=by simp only[VR]
theorem vN{c:Cap}:VR φ (.sl none 0 c) (.slice none 0 0):=by simp only[VR];exact⟨agm,agm⟩
theorem NR{r n c:Nat}(h:φ b=some r)(hn:n<=c):VR φ (.sl (some (b,0)) n (.kn c)) (.slice (some ⟨r,0,none⟩) n c):=by simp only[VR];exact⟨r,h,hn,rfl⟩
theorem dG.add{w:World}{lines:Value}(h:dG w lines)(y:Sym):∃φ,HR φ (ak 2 QZ) w/\φ.y=(φ0 y w).y/\VR φ (.sl (some (1,0)) 1 (.kn 1)) lines:=by
 obtain⟨rl,rf,cl,cf,rfl,h2,h3,h4,h5⟩:=h;have l4:4<=cf.size:=by have:=congrArg arW h4;simp at this;omega
 have l5:3<=cl.size:=by have:=congrArg arW h5;simp at this;omega
 have a1:=(bc y w).add h2 rfl mW (fun h=>h) ⟨_,rfl,by
  show J _ _ (cf.toList.take 4);rw[h4];exact J.cons (vS (by decide)) (J.cons vI (J.cons vI (J.cons vB J.nil))),l4,rfl⟩
 have a2:=a1.add h3 rfl mX (fun h=>h) ⟨_,rfl,by
  show J _ _ (cl.toList.take 3);rw[h5];exact J.cons (vS (by decide)) (J.cons (NR rfl (by decide)) (J.cons vN J.nil)),l5,rfl⟩
 exact⟨_,a2,rfl,NR rfl (by decide)⟩
def pm(l:List (O×Value)):Nat->Array MapEntry×Nat
 |0=>(#[],0)
 |i+1=>iq (.int .i64) (pm l i) (.int .i64 (bZ l (i+1))) (.int .i64 i)
def Wv(w:World)(mv:Value)(m:Array MapEntry×Nat):Prop:=∃r,mv=.map (some r)/\w.heap[r]? =some (.map m.1 m.2)
theorem bC{tb:bP}{φ:Ren}{h:H}{w:World}{y:Sym}(s:cI (fun e:Nat×SV=>y.s e.1=match e.2 with|.y z=>φ.s z|.i n=>n) tb.s)(q:cI (fun e:Nat×V=>VR φ e.2 (y.q e.1)) tb.q)
  (wl:cI (fun e:Nat×WV=>match e.2 with|.same z=>y.w e.1=φ.w z|.fold c=>∀r cs e',φ c=some r->w.heap[r]? =some (.cells cs e' (0,0))->
   (∀z l e'',h.get c=.row z l e''->y.w e.1=cs.toList.take ((φ.w z).length+l.length))/\(∀l e'' g,h.get c=.cells l e'' g->y.w e.1=cs.toList.take l.length)) tb.w)
  (g:cI (fun e:Nat×WV=>match e.2 with|.same z=>y.g e.1=φ.g z|.fold c=>∀r es n,φ c=some r->w.heap[r]? =some (.map es n)->y.g e.1=(es,n)) tb.g):Agree tb φ h w y:=
 ⟨fun _ _ e=>s.mem _ (eU e),fun _ _ e=>q.mem _ (eU e),fun _ _ e=>wl.mem _ (eU e),fun _ _ e=>wl.mem _ (eU e),fun _ _ e=>g.mem _ (eU e),fun _ _ e=>g.mem _ (eU e)⟩
theorem ad.jb{nt:Nat}{L:List (Nat×V)}{w:World}(hs:ad φ B (U nt L) (ak nb HB) a w){T sz:Nat}{v:Value}{row:List Value}(hi:cr w T sz v row)(hn:rG T HB=true)(x z:Nat)(hq:φ.q x=v)(hw:φ.w z=row):
  ∃af,ad af B (U nt (jG x (.sr nb z 0 sz) L)) (ak (nb+1) ((nb,.rw z T)::iO x (.sr nb z 0 sz) HB)) a w/\af.y=φ.y:=by
 obtain⟨r,n,cap,c,rfl,h2,h3,h4,h5,h6,h7⟩:=hi;have hle:(row.length:Nat)<=c.size:=by
  rw[<-h5,<-h3];exact Nat.mul_le_mul_right _ h4
 refine⟨_,hs.lb h6 hn x (.sr nb z 0 sz) (.rw z T) (fun h=>h) ⟨c,rfl,by rw[hw];exact h7,by rw[hw];exact hle,rfl⟩ ?_,rfl⟩;rw[hq];simp only[VR];refine⟨r,n,cap,by simp[up],h2,?_,by omega,by simp[up,h5],by simp⟩;show n*sz=(φ.w z).length;rw[hw];exact h3
def rf(o:O):Nat:=if o.ref=0 then 1 else o.ref
def KN(k v:V)(o:O):Prop:=∀φ:Ren,φ.s 6=((rf o:Nat):Int)->J φ [k,v,.s [],.sl none 0 (.kn 0)] (dB o).toList/\∀vs,J φ [k,v,.s [],.sl none 0 (.kn 0)] vs->vs=(dB o).toList
theorem DX{o:O}(h:o.ref≠0):KN (.i .i64 3) (.y .i64 6) o:=fun φ h6=>by
 have e:(dB o).toList=[.int .i64 3,.int .i64 (φ.s 6),.string (bytes []),.slice none 0 0]:=by simp[dB,h,h6,rf]
 rw[e];refine⟨J.cons vI (J.cons (by simp only[VR]) (J.cons (vS (by simp)) (J.cons vN J.nil))),fun vs hv=> ?_⟩;simp only[J,VR]at hv;obtain⟨_,_,rfl,rfl,_,_,rfl,rfl,_,_,rfl,⟨rfl,_⟩,_,_,rfl,⟨_,rfl⟩,rfl⟩:=hv;rfl
theorem DY{o:O}(h:o.ref=0):KN (.i .i64 0) (.i .i64 0) o:=fun φ h6=>by
 have e:(dB o).toList=[.int .i64 0,.int .i64 0,.string (bytes []),.slice none 0 0]:=by simp[dB,h]
 rw[e];refine⟨J.cons vI (J.cons vI (J.cons (vS (by simp)) (J.cons vN J.nil))),fun vs hv=> ?_⟩;simp only[J,VR]at hv;obtain⟨_,_,rfl,rfl,_,_,rfl,rfl,_,_,rfl,⟨rfl,_⟩,_,_,rfl,⟨_,rfl⟩,rfl⟩:=hv;rfl
theorem dj(o:O):(dB o).size=4:=by unfold dB;split<;>rfl
def Al(w:World)(l:List (O×Value))(rv:Value)(next:Nat):Nat->Act->World->Prop
 |0,a,w'=>∃φ,ad φ w.heap.size (U 67 cD) (ak 9 qK) a w'/\a.defers=[]/\GB w.heap.size w w'/\bD φ (dg [0,l.length,0,next] [.bool false,.bool false,rv] [aZ l] [(#[],0),(#[],0)])
 |i+1,a,w'=>∃φ late,ad φ w.heap.size (U 67 cD) (ak 13 gP) a w'/\a.defers=[]/\GB w.heap.size w w'/\bD φ (dg [(i+1:Nat),l.length,0,next] [.bool false,.bool false,rv] [aZ l,[],aZ late] [(#[],0),pm l (i+1)])/\
  late.map (·.1)=(l.take (i+1)).map (·.1)/\∀p∈late,cB w' p
theorem Am{w:World}{l:List (O×Value)}{rv:Value}{next:Nat}(gh:rv.oneCell'=true){p:O×Value}(hp:l[0]? =some p)(mZ:cB w p)(lG:1<=p.1.id/\p.1.id<=100000)(qS:p.1.ref<=100000)(ym:l.length<=100000){k v:V}(BV:KN k v p.1)
  (ba:av (ar E0 DV) 400 ((roundOf (BU.drop 9)).take 100) (U 67 cD) (ak 10 ((9,.rc [k,v,.s [],.sl none 0 (.kn 0)] 98)::qK)) .n Jj 67 cD 14 (sP (.cells [k,v,.s [],.sl none 0 (.kn 0)] 98 false))=true)
  (pR:(bG pQ (U 67 cD) (ak 14 (sP (.cells [k,v,.s [],.sl none 0 (.kn 0)] 98 false))) 67 cD 13 gP).isSome=true)
  {a:Act}{w':World}{n:Nat}(hi:Al w l rv next 0 a w'):aC none n E0.P (fun e a' w''=>e=.normal/\Al w l rv next 1 a' w'') (roundOf (BU.drop 9)) a w':=by
 obtain⟨φ,hs,hd,hg,n1,n2,n3,n4⟩:=hi;obtain⟨ay,b9,m1,m2,m3,m4⟩:=hs.gY aca (y:=dg [0,l.length,0,next,p.1.id,1,rf p.1] [.bool false,.bool false,rv] [aZ l] [(#[],0),(#[],0)])
  ⟨⟨(agB n1 0).symm,(agB n1 1).symm,(agB n1 3).symm,agm⟩,⟨⟨(agB n2 2).symm,gh⟩,agm⟩,⟨(agB n3 0).symm,agm⟩,⟨(agB n4 1).symm,agm⟩⟩
 have E8:0<l.length:=by
  rcases Nat.lt_or_ge 0 l.length with h|h
  ·exact h
  ·rw[aso h]at hp;cases hp
 have Vn:1<=rf p.1/\rf p.1<=100000:=by unfold rf;split<;>omega
 obtain⟨r,xR,hr⟩:=mZ;have cM:=hg.at_ rfl hr;have s6:ay.s 6=((rf p.1:Nat):Int):=agB m1 6;have bB:=b9.lb cM rfl 99 .top (.rc [k,v,.s [],.sl none 0 (.kn 0)] 98) (fun h=>h) ⟨_,rfl,by
  rw[arH (by rw[arG,dj];exact arJ 4)];exact(BV ay s6).1,by rw[dj];exact arJ 4,rfl⟩ (by simp only[VR])
 refine ad.dc (aq aB DV) rfl 100 (cs:=roundOf (BU.drop 9)) ba bB (aA.dU ?_) hd (dg [1,l.length,0,next,p.1.id,0,rf p.1,0] [.bool false,.bool false,rv] [aZ l] [(#[],0),(#[],0)]) ?_ fun af a' w'' cu cy dh hk e1 e2 e3 e4=> ?_
 ·have t0:(up ay 9 r (dB p.1).size).y.s 0=0:=agB m1 0
  have t1:(up ay 9 r (dB p.1).size).y.s 1=l.length:=agB m1 1;have t4:(up ay 9 r (dB p.1).size).y.s 4=p.1.id:=agB m1 4;have t5:(up ay 9 r (dB p.1).size).y.s 5=1:=agB m1 5;have t6:(up ay 9 r (dB p.1).size).y.s 6=rf p.1:=agB m1 6;have Ra:(up ay 9 r (dB p.1).size).w 0=aZ l:=agB m3 0;refine⟨⟨⟨?_,?_⟩,⟨?_,?_⟩,agm⟩,⟨?_,?_,agm⟩,agm,agm,⟨⟨by decide,rfl,0,t0,?_,?_⟩,agm⟩,agm,agm,agm,agm⟩
  ·show(1:Int)<=_;simp only[Ren.s,t4];omega
  ·show _<=(100000:Int);simp only[Ren.s,t4];omega
  ·show(1:Int)<=_;simp only[Ren.s,t6];omega
  ·show _<=(100000:Int);simp only[Ren.s,t6];omega
  ·exact .lss (k:=.i64) (x:=0) (y:=l.length) (by simp only[aR,t0]) (by simp only[aR,t1]) (by simp;omega)
  ·exact .add (k:=.i64) (x:=0) (y:=1) (by simp only[aR,t0]) rfl (by simp only[aR,t5];rfl) (i64_in (by omega))
  ·show(0+1)*4<=_
   rw[Ra,fh];omega
  ·show J _ [.y .i64 4,.i .i64 0,.i .i64 0,.sl (some (9,0)) 1 (.kn 1)] ((((up ay 9 r (dB p.1).size).w 0).drop (0*4)).take 4)
   rw[Ra,qJ hp];refine J.cons (by simp only[VR,Ren.s,t4]) (J.cons vI (J.cons vI (J.cons ?_ J.nil)));show VR _ _ p.2;rw[xR];exact NR rfl (by decide)
 ·exact Ag.au (o:=dg [0,l.length,0,next,p.1.id,1,rf p.1] [.bool false,.bool false,rv] [aZ l] [(#[],0),(#[],0)]) ⟨⟨rfl,rfl,rfl,rfl,rfl,rfl,agm⟩,⟨⟨rfl,gh⟩,agm⟩,⟨rfl,agm⟩,⟨rfl,agm⟩⟩ m1 m2 m3 m4
 ·obtain⟨r5,h5⟩:=cu.ptr 7 rfl
  obtain⟨c5,_,v5,_⟩:=cu.hr.cx h5 (l:=[.sl (some (9,0)) 1 (.un 4),.m (some 7)]) rfl;simp only[J,VR]at v5;obtain⟨_,_,_,⟨r9,cap,h9,_⟩,_⟩:=v5;obtain⟨c9,g9,v9,_,_,_⟩:=cu.hr.cx h9 (l:=[.y .i64 4,.i .i64 0,.i .i64 0,.sl (some (13,0)) 1 (.kn 1)]) rfl;simp only[J,VR]at v9;obtain⟨_,_,v9,rfl,_,_,rfl,rfl,_,_,rfl,rfl,_,_,rfl,⟨Vo,Vp,_,rfl⟩,rfl⟩:=v9;obtain⟨c13,g13,v13,_,z13,_⟩:=cu.hr.cx Vp (l:=[k,v,.s [],.sl none 0 (.kn 0)]) rfl;have z13:=z13 rfl;have acp:c13=dB p.1:=by
   have:=(BV af (agB e1 6)).2 _ v13;rw[arH (by rw[arG,z13];exact arJ _)]at this;exact arL.1 this
  subst acp;have e4':af.s 4=p.1.id:=agB e1 4;have oZ:Agree pQ af (ak 14 (sP (.cells [k,v,.s [],.sl none 0 (.kn 0)] 98 false))) w'' (dg [(0+1:Nat),l.length,0,next] [.bool false,.bool false,rv] [aZ l,[],aZ [(p.1,.slice (some ⟨Vo,0,none⟩) 1 1)]] [(#[],0),pm l 1]):=by
   refine bC ⟨(agB e1 0).symm,(agB e1 1).symm,(agB e1 3).symm,agm⟩ ⟨?_,agm⟩ ⟨(agB e3 0).symm,?_,agm⟩ ⟨?_,agm⟩
   ·simp only[VR];exact⟨(agB e2 2).symm,gh⟩
   ·intro r cs e hr ib
    rw[h9]at hr;cases hr;rw[g9]at ib;cases ib;refine⟨fun z l e h=> ?_,fun l' e g h=> ?_⟩
    ·rw[aH]at h;cases h
    ·rw[aH]at h;cases h
     show aZ [(p.1,.slice (some ⟨Vo,0,none⟩) 1 1)]=c9.toList.take 4;have v9':c9.toList.take 4=_:=v9;rw[v9',e4'];rfl
   ·intro r es m hr jE
    obtain⟨oU,c',g7,mu,_⟩:=cu.hr.qR hr (x:=1) (d:=.int .i64) (us:=[(.y .i64 4,some (.y .i64 7))]) rfl;rw[jE]at g7;cases g7;simp only[MU,VR]at mu;obtain⟨_,_,rfl,rfl,_,mu⟩:=mu;rw[mu];have g1:af.g 1=(#[],0):=agB e4 1;have e7:af.s 7=0:=agB e1 7;rw[g1,e7,e4'];show pm l 1=_;simp[pm,bZ,hp]
  obtain⟨aV,dx,k1,k2,k3,k4⟩:=cu.conv pR _ oZ
  ·refine⟨rfl,aV,[(p.1,.slice (some ⟨Vo,0,none⟩) 1 1)],dx,cy,hg.trans dh,⟨k1,k2,k3,k4⟩,?_,?_⟩
   ·cases l with
    |nil=>cases hp
    |cons x xs=>cases hp;rfl
   ·intro q hq
    simp at hq;subst hq;exact⟨Vo,rfl,g13⟩
theorem An{w:World}{l:List (O×Value)}{rv:Value}{next:Nat}(gh:rv.oneCell'=true){i:Nat}{p:O×Value}(hp:l[i+1]? =some p)(mZ:cB w p)(lG:1<=p.1.id/\p.1.id<=100000)(qS:p.1.ref<=100000)(ym:l.length<=100000){k v:V}(BV:KN k v p.1)
  (ba:av (ar E0 DW) 400 ((roundOf (BU.drop 9)).take 100) (U 67 cD) (ak 14 ((13,.rc [k,v,.s [],.sl none 0 (.kn 0)] 98)::gP)) .n Jk 67 cD 14 (sQ (.cells [k,v,.s [],.sl none 0 (.kn 0)] 98 false))=true)
  (pR:(bG pQ (U 67 cD) (ak 14 (sQ (.cells [k,v,.s [],.sl none 0 (.kn 0)] 98 false))) 67 cD 13 gP).isSome=true)
  {a:Act}{w':World}{n:Nat}(hi:Al w l rv next (i+1) a w'):aC none n E0.P (fun e a' w''=>e=.normal/\Al w l rv next (i+2) a' w'') (roundOf (BU.drop 9)) a w':=by
 obtain⟨φ,late,hs,hd,hg,⟨n1,n2,n3,n4⟩,xV,xG⟩:=hi;obtain⟨ay,b9,m1,m2,m3,m4⟩:=hs.gY Q6 (y:=dg [(i+1:Nat),l.length,0,next,p.1.id,i+2,rf p.1,0,late.length] [.bool false,.bool false,rv] [aZ l,[],aZ late] [(#[],0),pm l (i+1)])
  ⟨⟨(agB n1 0).symm,(agB n1 1).symm,(agB n1 3).symm,agm⟩,⟨⟨(agB n2 2).symm,gh⟩,agm⟩,⟨(agB n3 0).symm,(agB n3 2).symm,agm⟩,⟨(agB n4 1).symm,agm⟩⟩
 have E8:i+1<l.length:=by
  rcases Nat.lt_or_ge (i+1) l.length with h|h
  ·exact h
  ·rw[aso h]at hp;cases hp
 have hlen:late.length=i+1:=by
  have:=congrArg arW xV;simp only[List.length_map,List.length_take]at this;omega
 have Vn:1<=rf p.1/\rf p.1<=100000:=by unfold rf;split<;>omega
 obtain⟨r,xR,hr⟩:=mZ;have cM:=hg.at_ rfl hr;have s6:ay.s 6=((rf p.1:Nat):Int):=agB m1 6;have bB:=b9.lb cM rfl 99 .top (.rc [k,v,.s [],.sl none 0 (.kn 0)] 98) (fun h=>h) ⟨_,rfl,by
  rw[arH (by rw[arG,dj];exact arJ 4)];exact(BV ay s6).1,by rw[dj];exact arJ 4,rfl⟩ (by simp only[VR])
 refine ad.dc (aq aB DW) rfl 100 (cs:=roundOf (BU.drop 9)) ba bB (aA.dU ?_) hd (dg [i+2,l.length,0,next,p.1.id,0,rf p.1,(i+1:Nat)] [.bool false,.bool false,rv] [aZ l,[],aZ late] [(#[],0),pm l (i+1)]) ?_ fun af a' w'' cu cy dh hk e1 e2 e3 e4=> ?_
 ·have t0:(up ay 13 r (dB p.1).size).y.s 0=(i+1:Nat):=agB m1 0
  have t1:(up ay 13 r (dB p.1).size).y.s 1=l.length:=agB m1 1;have t4:(up ay 13 r (dB p.1).size).y.s 4=p.1.id:=agB m1 4;have t5:(up ay 13 r (dB p.1).size).y.s 5=i+2:=agB m1 5;have t6:(up ay 13 r (dB p.1).size).y.s 6=rf p.1:=agB m1 6;have t8:(up ay 13 r (dB p.1).size).y.s 8=late.length:=agB m1 8;have Ra:(up ay 13 r (dB p.1).size).w 0=aZ l:=agB m3 0;have Ww:(up ay 13 r (dB p.1).size).w 2=aZ late:=agB m3 2;refine⟨⟨⟨?_,?_⟩,⟨?_,?_⟩,⟨?_,?_⟩,agm⟩,⟨?_,?_,agm⟩,agm,⟨⟨late.length,by decide,?_,t8⟩,agm⟩,⟨⟨by decide,rfl,i+1,t0,?_,?_⟩,agm⟩,agm,agm,agm,agm⟩
  ·show(1:Int)<=_;simp only[Ren.s,t4];omega
  ·show _<=(100000:Int);simp only[Ren.s,t4];omega
  ·show(1:Int)<=_;simp only[Ren.s,t6];omega
  ·show _<=(100000:Int);simp only[Ren.s,t6];omega
  ·show(0:Int)<=_;simp only[Ren.s,t8];omega
  ·show _<=(100000:Int);simp only[Ren.s,t8];omega
  ·exact .lss (k:=.i64) (x:=(i+1:Nat)) (y:=l.length) (by simp only[aR,t0]) (by simp only[aR,t1]) (by simp;omega)
  ·exact .add (k:=.i64) (x:=(i+1:Nat)) (y:=1) (by simp only[aR,t0]) rfl (by simp only[aR,t5];congr 2<;>omega) (i64_in (by omega))
  ·show late.length*4=_
   rw[Ww,fh]
  ·show(i+1+1)*4<=_
   rw[Ra,fh];omega
  ·show J _ [.y .i64 4,.i .i64 0,.i .i64 0,.sl (some (13,0)) 1 (.kn 1)] ((((up ay 13 r (dB p.1).size).w 0).drop ((i+1)*4)).take 4)
   rw[Ra,qJ hp];refine J.cons (by simp only[VR,Ren.s,t4]) (J.cons vI (J.cons vI (J.cons ?_ J.nil)));show VR _ _ p.2;rw[xR];exact NR rfl (by decide)
 ·exact Ag.au (o:=dg [(i+1:Nat),l.length,0,next,p.1.id,i+2,rf p.1,0,late.length] [.bool false,.bool false,rv] [aZ l,[],aZ late] [(#[],0),pm l (i+1)]) ⟨⟨rfl,rfl,rfl,rfl,rfl,rfl,agm⟩,⟨⟨rfl,gh⟩,agm⟩,⟨rfl,rfl,agm⟩,⟨rfl,agm⟩⟩ m1 m2 m3 m4
 ·obtain⟨r5,h5⟩:=cu.ptr 7 rfl
  obtain⟨c5,_,v5,_⟩:=cu.hr.cx h5 (l:=[.sr 9 2 1 4,.m (some 7)]) rfl;simp only[J,VR]at v5;obtain⟨_,_,_,⟨r9,_,_,h9,_⟩,_⟩:=v5;obtain⟨c9,vs9,g9,v9,w9,_,_⟩:=cu.hr.Q9 h9 (x:=2) (l:=[.y .i64 4,.i .i64 0,.i .i64 0,.sl (some (13,0)) 1 (.kn 1)]) rfl;simp only[J,VR]at v9;obtain⟨_,_,rfl,rfl,_,_,rfl,rfl,_,_,rfl,rfl,_,_,rfl,⟨Vo,Vp,_,rfl⟩,rfl⟩:=v9;obtain⟨c13,g13,v13,_,z13,_⟩:=cu.hr.cx Vp (l:=[k,v,.s [],.sl none 0 (.kn 0)]) rfl;have z13:=z13 rfl;have acp:c13=dB p.1:=by
   have:=(BV af (agB e1 6)).2 _ v13;rw[arH (by rw[arG,z13];exact arJ _)]at this;exact arL.1 this
  subst acp;have e4':af.s 4=p.1.id:=agB e1 4;have oZ:Agree pQ af (ak 14 (sQ (.cells [k,v,.s [],.sl none 0 (.kn 0)] 98 false))) w'' (dg [(i+2:Nat),l.length,0,next] [.bool false,.bool false,rv] [aZ l,[],aZ (late++[(p.1,.slice (some ⟨Vo,0,none⟩) 1 1)])] [(#[],0),pm l (i+2)]):=by
   refine bC ⟨?_,(agB e1 1).symm,(agB e1 3).symm,agm⟩ ⟨?_,agm⟩ ⟨(agB e3 0).symm,?_,agm⟩ ⟨?_,agm⟩
   ·show((i+2:Nat):Int)=af.s 0
    have:af.s 0=(i:Int)+2:=agB e1 0;rw[this];omega
   ·simp only[VR];exact⟨(agB e2 2).symm,gh⟩
   ·intro r cs e hr ib
    rw[h9]at hr;cases hr;rw[g9]at ib;cases ib;refine⟨fun z l e h=> ?_,fun l' e g h=> ?_⟩
    ·rw[aH]at h;cases h
     show aZ (late++[(p.1,.slice (some ⟨Vo,0,none⟩) 1 1)])=_;have Ww:af.w 2=aZ late:=agB e3 2;rw[w9,Ww,e4'];simp[aZ,gK]
    ·rw[aH]at h;cases h
   ·intro r es m hr jE
    obtain⟨oU,c',g7,mu,_⟩:=cu.hr.qR hr (x:=1) (d:=.int .i64) (us:=[(.y .i64 4,some (.y .i64 7))]) rfl;rw[jE]at g7;cases g7;simp only[MU,VR]at mu;obtain⟨_,_,rfl,rfl,_,mu⟩:=mu;rw[mu];have g1:af.g 1=pm l (i+1):=agB e4 1;have e7:af.s 7=(i+1:Nat):=agB e1 7;rw[g1,e7,e4'];show pm l (i+2)=_;rw[pm];simp[bZ,hp]
  obtain⟨aV,dx,k1,k2,k3,k4⟩:=cu.conv pR _ oZ;refine⟨rfl,aV,late++[(p.1,.slice (some ⟨Vo,0,none⟩) 1 1)],dx,cy,hg.trans dh,⟨k1,k2,k3,k4⟩,?_,?_⟩
  ·rw[List.map_append,xV,List.take_add_one (i:=i+1),hp];simp
  ·intro q hq
   rcases ase.1 hq with h|h
   ·exact(xG q h).kept fun r c h=>hk.c r c 98 rfl h
   ·simp at h;subst h
    exact⟨Vo,rfl,g13⟩
end Go.Ev
