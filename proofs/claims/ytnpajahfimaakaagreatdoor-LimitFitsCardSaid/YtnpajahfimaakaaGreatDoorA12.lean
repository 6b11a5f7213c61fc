/- A part of what LimitFits rests on. -/
import Derived.Shelf.Lay
import Derived.Laws.Cover1
import Derived.Shelf.GgSortFunc.InsertionK
import Derived.Test.YtnpajahfimaakaaGreatDoorA11
import Derived.Test.YtnpajahfimaakaaGreatDoorA08
import Derived.Test.YtnpajahfimaakaaGreatDoorA01
set_option linter.all false
namespace Go.Proofs
open List renaming replicate->aop,mem_of_getElem?->arE,mem_map->arG,getElem?_map->arH,getElem?_eq_some_iff->arK,ext_getElem?->arL,getElem?_eq_none->arR,nodup_append->arV,mem_append->arX,map_append->arY,getElem?_take_of_lt->asb,getElem?_eq_getElem->asd,take_of_length_le->ase,mem_cons_of_mem->asg,length->ash,getElem?_of_mem->asi,getElem?_mapIdx->asj,map_congr_left->asm,filter_eq_self->asn,mem_cons_self->aso
open _root_.Array renaming getElem?_eq_some_iff->AAA,toList_inj->arC,getElem?_toList->arP,getElem?_modify->arQ,toList_push->arU,getElem?_setIfInBounds_ne->arW,extract_eq_self_of_le->arZ,length_toList->asl
open Nat renaming eq_of_beq_eq_true->arD,beq->arJ,le_refl->arT,zero_add->asf
open Bool renaming and_eq_true->arF
open Lib renaming compareInt->arI
open Option renaming map_some->arM
open MapKept renaming findNow_spec->arN,IsKey->asa
open IntKind renaming i64->arO
open Option.some renaming injEq->arS
section
open Go.Shelf Go.RowKit Go.Lib Go.Sort Go.Ev
def uE(a b:ByteArray):Int:=if Op.bytesLess a.toList b.toList=true then-1 else if(!(Op.bytesLess a.toList b.toList||a.toList==b.toList))=true then 1 else 0
theorem Tryz.ajI(s:ByteArray)(w:World):Calls Tryz.prog 133 #[.string s] w fun e w'=>e=.returned (.bool false)/\w'=w:=by
 go_enter Tryz.func133,Tryz.ntmps133
 go_wp2
 go_ret
 exact⟨by simp,rfl⟩
set_option maxHeartbeats 1000000 in
theorem Tryz.ajJ(a b:ByteArray)(w:World):Calls Tryz.prog 84 #[.string a,.string b] w fun e w'=>e=.returned (.int .i64 (uE a b))/\w'=w:=by
 go_enter Tryz.func84,Tryz.ntmps84
 go_wp2_with (go_at_call 133;refine(Tryz.ajI _ _).mono ?_;rintro e w' ⟨rfl,hw⟩;rw[hw])
 all_goals(go_ret;refine⟨?_,rfl⟩;unfold uE;simp_all)
set_option maxHeartbeats 1000000 in
theorem Tryz.N8(x y:ByteArray×Nat)(W:World):Calls Tryz.prog 102 #[.agg (ja x).toArray,.agg (ja y).toArray] W fun e w'=>e=.returned (.int .i64 (uE x.1 y.1))/\∃q os',w'=grow (W.drewN q) os':=by
 have N7:=fun W'=>Tryz.ajJ x.1 y.1 W'
 generalize uE x.1 y.1=r at N7⊢
 simp only[ja]
 go_enter Tryz.func102,Tryz.ntmps102
 go_wp2_with (go_at_call 84;refine(N7 _).mono ?_;rintro e w' ⟨rfl,rfl⟩)
 go_ret
 exact⟨rfl,0,_,by rw[alloc_eq_grow,alloc_eq_grow,grow_grow];rfl⟩
end
end Go.Proofs
namespace Go.Ev
open List renaming replicate->aop,mem_of_getElem?->arE,mem_map->arG,getElem?_map->arH,getElem?_eq_some_iff->arK,ext_getElem?->arL,getElem?_eq_none->arR,nodup_append->arV,mem_append->arX,map_append->arY,getElem?_take_of_lt->asb,getElem?_eq_getElem->asd,take_of_length_le->ase,mem_cons_of_mem->asg,length->ash,getElem?_of_mem->asi,getElem?_mapIdx->asj,map_congr_left->asm,filter_eq_self->asn,mem_cons_self->aso
open _root_.Array renaming getElem?_eq_some_iff->AAA,toList_inj->arC,getElem?_toList->arP,getElem?_modify->arQ,toList_push->arU,getElem?_setIfInBounds_ne->arW,extract_eq_self_of_le->arZ,length_toList->asl
open Nat renaming eq_of_beq_eq_true->arD,beq->arJ,le_refl->arT,zero_add->asf
open Bool renaming and_eq_true->arF
open Lib renaming compareInt->arI
open Option renaming map_some->arM
open MapKept renaming findNow_spec->arN,IsKey->asa
open IntKind renaming i64->arO
open Option.some renaming injEq->arS
variable{α:Type}{c:Array Value}{l:List (ByteArray×Nat)}
section
open Go.Proofs Go.Sort
structure lu(w w':World)(r:Nat):Prop where
 size:w.heap.size<=w'.heap.size
 same:∀i,i<w.heap.size->i≠r->w'.heap[i]? =w.heap[i]?
 os:w'.os=w.os
 tape:w'.tape=w.tape
 output:w'.output=w.output
theorem AA[Inhabited α]{enc:α->List Value}{k:Nat}(hk:∀x,(enc x).length=k)(d:Array α):(flatK enc k d).toList=d.toList.flatMap enc:=by
 apply arL;intro t;rcases Nat.lt_or_ge t (d.size*k)with h|h
 ·have k0:0<k:=by
   rcases Nat.eq_zero_or_pos k with h0|h0
   ·subst h0;simp at h
   ·exact h0
  have hd:t/k<d.size:=(Nat.div_lt_iff_lt_mul k0).2 h;have hx:d.toList[t/k]? =some d[t/k]! :=by
   rw[getElem!_pos d _ hd];simp[hd]
  have h2:=lj hk d.toList (t/k) _ hx;have h3:t=t/k*k+t%k:=by have:=Nat.div_add_mod t k;rw[Nat.mul_comm]at this;omega
  have h4:(d.toList.flatMap enc)[t]? =(enc d[t/k]!)[t%k]? :=by
   rw[<-h2,asb (Nat.mod_lt t k0),List.getElem?_drop,<-h3]
  rw[h4];have hm:t%k<(enc d[t/k]!).length:=by rw[hk];exact Nat.mod_lt t k0
  have h5:(flatK enc k d)[t]? =some (flatK enc k d)[t]! :=by
   rw[getElem!_pos _ t (by simpa using h)];simp[h]
  rw[arP,h5,get_flatK _ _ _ _ h,getElem!_pos (enc d[t/k]!) (t%k) hm,asd hm]
 ·rw[arR (by simpa using h),arR (by rw[fM hk];simpa using h)]
theorem Sb(F c:Array Value)(h:F.size<=c.size):(putCells id 0 F c).toList.take F.size=F.toList:=by
 apply arL;intro i;rw[List.getElem?_take];split
 ·rename_i hi
  have hc:i<c.size:=by omega
  simp[putCells,Array.getElem?_mapIdx,hi,hc]
 ·rename_i hi
  rw[arR (by simpa using hi)]
theorem Sc[Inhabited α](enc:α->List Value)(k:Nat)(w:World)(r m:Nat)(d:Array α)(os:Array Obj){T:TypeId}(hw:w.heap[r]? =some (.cells c T (0,0))):
  (sortWorldK enc k w r 0 m d os).heap[r]? =some (.cells (putCells id 0 (flatK enc k d) c) T (0,0))/\lu w (sortWorldK enc k w r 0 m d os) r:=by
 have bf:r<w.heap.size:=(AAA.1 hw).1;have hg:∀i,i<w.heap.size->(sortWorldK enc k w r 0 m d os).heap[i]? =(w.heap.modify r (onCells (putCells id 0 (flatK enc k d))))[i]? :=fun i hi=>by
  show(_++os)[i]? =_;rw[Array.getElem?_append_left (by simpa[putRowK,putRow,mapBlock,Go.Sort.ahead]using hi)];rfl
 refine⟨?_,⟨?_,fun i hi bU=> ?_,rfl,rfl,rfl⟩⟩
 ·rw[hg r bf,arQ,if_pos rfl,hw];rfl
 ·show _<=(_++os).size
  rw[Array.size_append];have:(putRowK enc k (Go.Sort.ahead w m) r 0 d).heap.size=w.heap.size:=by simp[putRowK,putRow,mapBlock,Go.Sort.ahead]
  omega
 ·rw[hg i hi,arQ,if_neg (fun e=>bU e.symm)]
theorem L8{α:Type}[Inhabited α]{ρ:Go.Shelf.Ren}(L:SlLaysF0.n6 Tryz.prog ρ){k T g:Nat}(aE:∀w,(isAgg (ρ.t 24)).run Tryz.prog w=.ok true w)(zE:∀w,(Go.sizeOf (ρ.t 24)).run Tryz.prog w=.ok k w){enc:α->List Value}(hk:∀x,(enc x).length=k)(h1:∀x,∀v∈enc x,v.oneCell'=true)
  {cf:α->α->Int}(hO:SWO (ltOf cf))(eg:∀args w,(callFunc g args).run Tryz.prog w=.ok (.enter g args) w)
  (lN:∀x y W,Calls Tryz.prog g #[.agg (enc x).toArray,.agg (enc y).toArray] W fun e w'=>e=.returned (.int .i64 (cf x y))/\∃q os',w'=Go.Sort.grow (W.drewN q) os')
  {n:Nat}{w:World}{v:Value}{l:List α}(hl:l.length<4611686018427387904)(hr:cr w T k v (l.flatMap enc)):
  CallsIn (W none) n Tryz.prog (ρ.f 6) #[v,.func (.func g) #[] #[]] w fun e w'=>e=.returned (.tuple #[])/\
   ∃(l':List α) (r:Nat),l'.Perm l/\l'.Pairwise (fun a b=>ltOf cf b a=false)/\cr w' T k v (l'.flatMap enc)/\(∃n cap,v=.slice (some ⟨r,0,none⟩) n cap)/\(∃c,w.heap[r]? =some (.cells c T (0,0)))/\lu w w' r:=by
 obtain⟨r,m,cap,c,rfl,h2,h3,h4,h5,h6,h7⟩:=hr;have hlen:(l.flatMap enc).length=l.length*k:=fM hk l;have hm:m=l.length:=Nat.eq_of_mul_eq_mul_right h2 (h3.trans hlen);subst hm;have ib:l.length*k<=c.size:=by rw[<-h5];exact Nat.mul_le_mul_right k h4
 have bf:r<w.heap.size:=(AAA.1 h6).1;have hH:HoldsK enc k w r 0 l.toArray:=by
  intro j hj;rw[size_flatK]at hj;have oK:j<l.length*k:=by simpa using hj
  have e1:(flatK enc k l.toArray).toList=c.toList.take (l.length*k):=by
   rw[AA hk,<-hlen,h7]
  have e2:c[j]? =some (flatK enc k l.toArray)[j]! :=by
   have e3:(flatK enc k l.toArray)[j]? =some (flatK enc k l.toArray)[j]! :=by
    rw[getElem!_pos _ j (by simpa using oK)];simp[oK]
   rw[<-e3,<-arP,<-arP,e1,asb oK]
  refine⟨?_,?_⟩
  ·simp[World.cell?,h6,e2]
  ·simp[World.frozen?,h6]
 have aoE:CmpLays Tryz.prog g #[] enc k cf r 0 l.toArray.size w:=fun m os dk _ x y=>lN x y _
 have h:=AnyQ.slices_SortFunc L k aE zE enc hk h1 cf hO g #[] r 0 cap l.toArray w eg aoE hH bf (by simpa using hl);refine CallsIn.mono (callsIn_wide.2 h:CallsIn (W none) n _ _ _ _ _) ?_;rintro e w' ⟨rfl,d',m,os,hp,hs,rfl⟩;obtain⟨g1,g2⟩:=Sc enc k w r m d' os h6;have ed:d'.size=l.length:=by simpa using hp.1
 refine⟨rfl,d'.toList,r,?_,?_,?_,⟨_,_,rfl⟩,⟨_,h6⟩,g2⟩
 ·have:=hp.2.2
  rw[arZ (by simp[ed]),arZ (by simp)]at this;simpa using this
 ·rw[List.pairwise_iff_getElem]
  intro i j hi hj mf;have hi':i<d'.size:=by simpa using hi
  have oK:j<d'.size:=by simpa using hj
  have:=hs i j (Nat.zero_le _) mf (by simpa[ed]using oK);rw[getElem!_pos d' i hi',getElem!_pos d' j oK]at this;simpa using this
 ·have nY:(d'.toList.flatMap enc).length=l.length*k:=by rw[fM hk];simp[ed]
  have hps:(putCells id 0 (flatK enc k d') c).size=c.size:=by simp[putCells]
  refine⟨r,l.length,cap,_,rfl,h2,nY.symm,h4,by rw[hps];exact h5,g1,?_⟩;have hf:(flatK enc k d').size=l.length*k:=by rw[size_flatK,ed]
  have:=Sb (flatK enc k d') c (by rw[hf];exact ib);rw[hf]at this;rw[nY,this,AA hk]
def oc(p:O×Value):List Value:=[.int .i64 p.1.id,.int .i64 0,.int .i64 0,cond p.2.oneCell' p.2 (.bool false)]
theorem JP:∀{l:List (O×Value)},(∀p∈l,p.2.oneCell'=true)->l.flatMap oc=aZ l
 |[],_=>rfl
 |p::l,h=>by
  have:=h p aso;simp only[aZ,List.flatMap_cons,oc,this,cond,gK];have ih:=JP (l:=l) fun q hq=>h q (asg _ hq)
  rw[ih];rfl
instance:Inhabited O:=⟨⟨0,0⟩⟩
instance:Inhabited (O×Value):=⟨(default,.bool false)⟩
theorem W2[Inhabited α](f:α->Int):SWO (ltOf fun x y=>arI (f x) (f y)):=by
 have h:∀x y,ltOf (fun x y=>arI (f x) (f y)) x y=decide (f x<f y):=fun x y=>by
  simp only[ltOf,arI]
  by_cases h1:f x<f y
  ·simp[h1]
  ·by_cases h2:f x>f y<;>simp[h1,h2]
 refine⟨fun x=> ?_,fun x y z=> ?_,fun x y z=> ?_⟩
 ·rw[h];simp
 ·rw[h,h,h];simp;omega
 ·rw[h,h,h];simp;omega
theorem ady(f:α->Int)(x y:α):ltOf (fun x y=>arI (f x) (f y)) x y=decide (f x<f y):=by
 simp only[ltOf,arI]
 by_cases h1:f x<f y
 ·simp[h1]
 ·by_cases h2:f x>f y<;>simp[h1,h2]
theorem Sd(a b:ByteArray):(uE a b<0)↔Op.bytesLess a.toList b.toList=true:=by
 by_cases h1:Op.bytesLess a.toList b.toList=true
 ·have:uE a b= -1:=by unfold uE;rw[if_pos h1]
  rw[this];exact⟨fun _=>h1,fun _=>by decide⟩
 ·have:uE a b=1\/uE a b=0:=by
   unfold uE;rw[if_neg h1];split
   ·exact .inl rfl
   ·exact .inr rfl
  constructor
  ·intro h;rcases this with h2|h2<;>omega
  ·exact fun h=>absurd h h1
theorem pZ(f:α->ByteArray)(x y:α):ltOf (fun x y=>uE (f x) (f y)) x y=Op.bytesLess (f x).toList (f y).toList:=by
 show decide (uE (f x) (f y)<0)=_;rw[Bool.eq_iff_iff,decide_eq_true_iff];exact Sd _ _
theorem W3[Inhabited α](f:α->ByteArray):SWO (ltOf fun x y=>uE (f x) (f y)):=by
 refine⟨fun x=> ?_,fun x y z=> ?_,fun x y z=> ?_⟩
 ·rw[pZ,bytesLess_eq];simp[List.lt_irrefl]
 ·rw[pZ,pZ,pZ,bytesLess_eq,bytesLess_eq,bytesLess_eq]
  simp only[decide_eq_true_eq];exact List.lt_trans
 ·rw[pZ,pZ,pZ,bytesLess_eq,bytesLess_eq,bytesLess_eq]
  simp only[decide_eq_false_iff_not,List.not_lt];exact fun h1 h2=>List.le_trans h2 h1
set_option maxHeartbeats 1000000 in
theorem JQ(x y:O×Value)(W:World):Calls Tryz.prog 100 #[.agg (oc x).toArray,.agg (oc y).toArray] W fun e w'=>e=.returned (.int .i64 (arI x.1.id y.1.id))/\∃q os',w'=Go.Sort.grow (W.drewN q) os':=by
 have:=Tryz.N6 (x.1,cond x.2.oneCell' x.2 (.bool false)) (y.1,cond y.2.oneCell' y.2 (.bool false)) W;exact this
theorem Se{n:Nat}{w:World}{v:Value}{l:List (O×Value)}(hl:l.length<=100000)(h1:∀p∈l,p.2.oneCell'=true)(hr:cr w 51 4 v (aZ l)):
  CallsIn (W none) n Tryz.prog 99 #[v,.func (.func 100) #[] #[]] w fun e w'=>e=.returned (.tuple #[])/\
   ∃(l':List (O×Value)) (r:Nat),l'.Perm l/\l'.Pairwise (fun a b=>¬b.1.id<a.1.id)/\cr w' 51 4 v (aZ l')/\(∃n cap,v=.slice (some ⟨r,0,none⟩) n cap)/\(∃c,w.heap[r]? =some (.cells c 51 (0,0)))/\lu w w' r:=by
 rw[<-JP h1]at hr;have:=L8 (α:=O×Value) (T:=51) (g:=100) Tryz.acL (k:=4) (fun w=>kl Tryz.underlying51 w) (fun w=>run_sizeOf (aB.ty 51 _ _ rfl).1 w) (enc:=oc) (fun _=>rfl) (fun x v hv=>by
  simp only[oc,List.mem_cons,List.not_mem_nil,or_false]at hv;rcases hv with rfl|rfl|rfl|rfl
  ·rfl
  ·rfl
  ·rfl
  ·cases hc:x.2.oneCell' with
   |true=>simpa[cond]using hc
   |false=>rfl) (cf:=fun x y=>arI x.1.id y.1.id) (W2 fun x:O×Value=>(x.1.id:Int)) (fun args w=>by simp[callFunc,Tryz.func100];rfl) JQ (n:=n) (w:=w) (v:=v) (l:=l) (by omega) hr
 refine CallsIn.mono this ?_;rintro e w' ⟨rfl,l',r,hp,hs,bQ,hv,hc,ht⟩;refine⟨rfl,l',r,hp,hs.imp fun{a b} h=> ?_,?_,hv,hc,ht⟩
 ·rw[ady (fun x:O×Value=>(x.1.id:Int))]at h
  have:¬((b.1.id:Int)<a.1.id):=by simpa using h
  omega
 ·rwa[JP fun p tD=>h1 p (hp.mem_iff.1 tD)]at bQ
instance:Inhabited (ByteArray×Nat):=⟨(ByteArray.empty,0)⟩
theorem Sf{n:Nat}{w:World}{v:Value}(hl:l.length<=100000)(hr:cr w 101 2 v (cg l)):
  CallsIn (W none) n Tryz.prog 101 #[v,.func (.func 102) #[] #[]] w fun e w'=>e=.returned (.tuple #[])/\
   ∃(l':List (ByteArray×Nat)) (r:Nat),l'.Perm l/\l'.Pairwise (fun a b=>Op.bytesLess b.1.toList a.1.toList=false)/\cr w' 101 2 v (cg l')/\(∃n cap,v=.slice (some ⟨r,0,none⟩) n cap)/\(∃c,w.heap[r]? =some (.cells c 101 (0,0)))/\lu w w' r:=by
 have:=L8 (α:=ByteArray×Nat) (T:=101) (g:=102) Tryz.acM (k:=2) (fun w=>kl Tryz.underlying101 w) (fun w=>run_sizeOf (aB.ty 101 _ _ rfl).1 w) (enc:=ja) (fun _=>rfl) (fun x v hv=>by
  simp only[ja,List.mem_cons,List.not_mem_nil,or_false]at hv;rcases hv with rfl|rfl<;>rfl) (cf:=fun x y=>uE x.1 y.1) (W3 fun x:ByteArray×Nat=>x.1) (fun args w=>by simp[callFunc,Tryz.func102];rfl) Tryz.N8 (n:=n) (w:=w) (v:=v) (l:=l) (by omega) hr
 refine CallsIn.mono this ?_;rintro e w' ⟨rfl,l',r,hp,hs,bQ,hv,hc,ht⟩;refine⟨rfl,l',r,hp,hs.imp fun{a b} h=> ?_,bQ,hv,hc,ht⟩;rwa[pZ (fun x:ByteArray×Nat=>x.1)]at h
end
open Go.Proofs
variable{φ:Ren}{B nb nt:Nat}{L:List (Nat×V)}{HB:List (Nat×aQ)}{a:Act}{w':World}
theorem ad.Sg{w:World}(hs:ad φ B (U nt L) (ak nb HB) a w){r:Nat}(ht:lu w w' r)(bf:r<w.heap.size)(hn:∀b,φ b=some r->¬((ak nb HB).get b).live){tb:bP}(hc:aW tb nt L nb HB=true){y:Sym}(hy:Ag tb φ.y y):
  ∃af,ad af B (U nt L) (ak nb HB) a w'/\af.s=y.s/\af.q=y.q/\af.w=y.w/\af.g=y.g:=by
 have aoF:r<w'.heap.size:=Nat.lt_of_lt_of_le bf ht.size;let w1:World:={w' with heap:=w.heap.setIfInBounds r w'.heap[r]};have h1:w1.heap.size=w.heap.size:=by simp[w1]
 obtain⟨ay,b9,e1,e2,e3,e4,_,_⟩:=hs.other (w':=w1) (r:=r) hn h1 (fun i hi=>by
  show(w.heap.setIfInBounds r _)[i]? =_;rw[arW (Ne.symm hi)])
 refine b9.grow (w':=w') ⟨by rw[h1];exact ht.size,fun i hi=> ?_,rfl,rfl,rfl⟩ hc (hy.pY e1 e2 e3 e4);rw[h1]at hi;show _=(w.heap.setIfInBounds r _)[i]?
 by_cases hir:i=r
 ·subst hir
  rw[Array.getElem?_setIfInBounds_self_of_lt bf,Array.getElem?_eq_getElem aoF]
 ·rw[arW (Ne.symm hir),ht.same i hi hir]
theorem lu.isRow{w:World}{r:Nat}(ht:lu w w' r){T T':TypeId}(hr:w.heap[r]? =some (.cells c T (0,0)))(hT:T≠T'){sz:Nat}{v:Value}{row:List Value}(h:cr w T' sz v row):cr w' T' sz v row:=by
 obtain⟨r1,n,cap,c1,h1,h2,h3,h4,h5,h6,h7⟩:=h;refine⟨r1,n,cap,c1,h1,h2,h3,h4,h5,?_,h7⟩;rw[ht.same r1 (AAA.1 h6).1 (by rintro rfl;rw[hr]at h6;cases h6;exact hT rfl)];exact h6
theorem lu.aJ{w:World}{r:Nat}(ht:lu w w' r){T:TypeId}(hr:w.heap[r]? =some (.cells c T (0,0))){Ts:List Nat}(hT:T∉Ts):cT w w' Ts:=fun r1 c1 T1 hm ho=>by
 rw[ht.same r1 (AAA.1 ho).1 (by rintro rfl;rw[hr]at ho;cases ho;exact hT hm)];exact ho
theorem lu.gb{w:World}{r:Nat}(ht:lu w w' r)(hB:B<=r)(hBw:B<=w.heap.size):GB B w w':=⟨ht.size,fun i hi=>ht.same i (by omega) (by omega),ht.os,ht.tape,ht.output⟩
theorem L9{w:World}(hr:HR φ (ak nb HB) w){r:Nat}{T:TypeId}(ho:w.heap[r]? =some (.cells c T (0,0)))(hT:rG T HB=true):∀b,φ b=some r->¬((ak nb HB).get b).live:=fun b e hl=>by
 obtain⟨o,h1,h2⟩:=hr.ew b r e hl;rw[ho]at h1;cases h1;rw[aH]at h2 hl;exact sD hT b _ (ke hl) hl h2
theorem Sh{n:Nat}{w:World}{ln kv:Value}{next rb ro rr:Nat}{ps:List (O×Value)}{mr:Array MapEntry×Nat}{rs:List (ByteArray×Nat)}(H:Az w ln kv next (kh ps) mr rb ro rr)(pa:dG w ln)(bU:ps≠[])(wS:rs≠[])(M:RM mr rs)
  (Ar:∀p∈ps,cB w p)(I9:∀p∈ps,1<=p.1.id/\p.1.id<=100000)(hrefs:∀p∈ps,p.1.ref<=100000)(ym:ps.length<=100000)(jD:rs.length<=100000):
  CallsIn (W none) n Tryz.prog 48 #[.pointer (some ⟨rb,0,none⟩)] w fun e w'=>∃v,e=.returned v/\(∃iP ov rv l' na,v=wV iP ov rv next/\dG w' iP/\cr w' 51 4 ov (aZ l')/\cr w' 101 2 rv (cg na)/\(∀p∈l',cB w' p)/\
   (l'.map (·.1)).Perm (ps.map (·.1))/\l'.Pairwise (fun a b=>¬b.1.id<a.1.id)/\na.Perm rs/\na.Pairwise (fun a b=>Op.bytesLess b.1.toList a.1.toList=false))/\Grown w w':=by
 refine dz (fn:=Tryz.f48) (c:=(Tryz.f48.body).getD .skip) (args:=[.pointer (some ⟨rb,0,none⟩)]) Tryz.func48 rfl (bp _ ?_);show aC none n E0.P _ jy _ _;refine N5 H pa bU wS M Ar I9 hrefs ym jD ?_;intro φ a w1 iP ov rv lc rc hs hd hn g01 ZJ ajK hB1 ajL hB2 ajM rL hpr;have lS:=ZJ.one;have Qk:=ajK.one;have lH:=ajL.one;have aoG:lc.length<=100000:=by have:=rL.length_eq;simp at this;omega
 have aoH:rc.length<=100000:=by have:=hpr.length_eq;omega
 have W4:Ag GI (eY next iP ov rv) (eY next iP ov rv):=⟨⟨rfl,agm⟩,⟨⟨rfl,lS⟩,⟨rfl,Qk⟩,⟨rfl,lH⟩,agm⟩,agm,agm⟩;obtain⟨id6,JD⟩:=ajt;rw[JD];refine b8 ?_;refine ad.gz (aq aB {}) rfl 2 ajv hs bx.dU _ (W4.cL hn) fun φ a2 w2 hs mF iK Ic n1 n2 n3 n4=> ?_
 have adz:=Ic.aJ (Ts:=[51,101,93,96,98]) rfl;refine hs.eV (l:=(aN (jy.drop 6)).toList.drop 2) (o:=((aN (jy.drop 6)).toList.drop 2).headD default) (rest:=[]) rfl rfl rfl rfl rfl Tryz.func99 rfl rfl (Vs:=[.q 7,.f 100 [] []]) rfl ?_;intro args' ha;have:args'=[ov,.func (.func 100) #[] #[]]:=by
  simp only[J,VR]at ha;obtain⟨_,_,rfl,⟨rfl,_⟩,_,_,rfl,⟨f',c',rfl,e1,e2⟩,rfl⟩:=ha;rw[arC.1 e1,arC.1 e2,n2];rfl
 subst this;refine(Se (n:=n-1) aoG (fun p hp=>(ajM p hp).one) (ajK.aJ adz (by decide))).mono ?_;rintro e w3 ⟨rfl,l',r,hp3,ez,ajN,⟨m,cap,BB⟩,⟨c3,hc3⟩,ht3⟩;refine⟨_,rfl,?_⟩;have aoI:=(AAA.1 hc3).1;have hB3:w.heap.size<=r:=by
  obtain⟨r',m',IV,e,h⟩:=hB1;rw[BB]at e;cases e;exact h
 obtain⟨φ,hs,n1,n2,n3,n4⟩:=hs.Sg ht3 aoI (L9 hs.hr hc3 rfl) ajx (W4.pY n1 n2 n3 n4);have hs:=hs.put (d:=54) (by decide) (x:=.top) (v:=.tuple #[]) (by simp only[VR]);obtain⟨φ,hs,n1,n2,n3,n4⟩:=hs.conv ajz (eY next iP ov rv) (by
  refine bC ⟨(agB n1 3).symm,agm⟩ ⟨?_,?_,?_,agm⟩ trivial trivial
  ·simp only[VR];exact⟨(agB n2 6).symm,lS⟩
  ·simp only[VR];exact⟨(agB n2 7).symm,Qk⟩
  ·simp only[VR];exact⟨(agB n2 11).symm,lH⟩)
 have NY:GB w.heap.size w w3:=(g01.trans iK).trans (ht3.gb hB3 (Nat.le_trans g01.size iK.size));have vO:cT w2 w3 [101,93,96,98]:=ht3.aJ hc3 (by decide);have adA:cT w1 w3 [101,93,96,98]:=(Ic.aJ (Ts:=[101,93,96,98]) rfl).trans vO;have aoJ:=ajL.aJ adA (by decide);show aC none n E0.P _ (jy.drop 7) _ w3;obtain⟨id7,Vr⟩:=aju;rw[Vr];refine b8 ?_;refine ad.gz (aq aB {}) rfl 2 ajw hs bx.dU _ (W4.cL ⟨n1,n2,n3,n4⟩) fun φ a4 w4 hs sS pV D8 n1 n2 n3 n4=> ?_
 have aoK:=D8.aJ (Ts:=[51,101,93,96,98]) rfl;refine hs.eV (l:=(aN (jy.drop 7)).toList.drop 2) (o:=((aN (jy.drop 7)).toList.drop 2).headD default) (rest:=[]) rfl rfl rfl rfl rfl Tryz.func101 rfl rfl (Vs:=[.q 11,.f 102 [] []]) rfl ?_;intro args' ha;have:args'=[rv,.func (.func 102) #[] #[]]:=by
  simp only[J,VR]at ha;obtain⟨_,_,rfl,⟨rfl,_⟩,_,_,rfl,⟨f',c',rfl,e1,e2⟩,rfl⟩:=ha;rw[arC.1 e1,arC.1 e2,n2];rfl
 subst this;refine(Sf (n:=n-1) aoH (aoJ.aJ aoK (by decide))).mono ?_;rintro e w5 ⟨rfl,na,r5,hp5,wE,Ma,⟨m5,arq,gh⟩,⟨c5,hc5⟩,ht5⟩;refine⟨_,rfl,?_⟩;have aoL:=(AAA.1 hc5).1;have hB5:w.heap.size<=r5:=by
  obtain⟨r',m',IV,e,h⟩:=hB2;rw[gh]at e;cases e;exact h
 obtain⟨φ,hs,n1,n2,n3,n4⟩:=hs.Sg ht5 aoL (L9 hs.hr hc5 rfl) ajy (W4.pY n1 n2 n3 n4);have hs:=hs.put (d:=57) (by decide) (x:=.top) (v:=.tuple #[]) (by simp only[VR]);obtain⟨φ,hs,n1,n2,n3,n4⟩:=hs.conv ajA (eY next iP ov rv) (by
  refine bC ⟨(agB n1 3).symm,agm⟩ ⟨?_,?_,?_,agm⟩ trivial trivial
  ·simp only[VR];exact⟨(agB n2 6).symm,lS⟩
  ·simp only[VR];exact⟨(agB n2 7).symm,Qk⟩
  ·simp only[VR];exact⟨(agB n2 11).symm,lH⟩)
 have Vt:GB w.heap.size w w5:=(NY.trans pV).trans (ht5.gb hB5 (Nat.le_trans NY.size pV.size));have GA:cT w4 w5 [51,93,96,98]:=ht5.aJ hc5 (by decide);have adB:cT w3 w5 [51,93,96,98]:=(D8.aJ (Ts:=[51,93,96,98]) rfl).trans GA;show aC none n E0.P _ (jy.drop 8) _ w5;have hda:a4.defers=[]:=by rw[sS];show a2.defers=[];rw[mF,hd]
 refine ad.dc (aq aB {}) rfl 2 (cs:=jy.drop 8) aoz hs bx.dU hda _ (W4.cL ⟨n1,n2,n3,n4⟩) fun φ a6 w6 hs Ao Ap LN n1 n2 n3 n4=> ?_
 refine⟨.inl rfl,Ao,?_⟩;obtain⟨v,gE,ff⟩:=hs.leave aB (fn:=Tryz.f48) (l:=[.a [.q 6,.q 7,.q 11,.y .i64 3]]) rfl;have W5:=LN.aJ (Ts:=[51,101,93,96,98]) rfl;refine⟨v,gE,v,rfl,⟨iP,ov,rv,l',na,?_,?_,?_,?_,?_,?_,ez,hp5.trans hpr,wE⟩,(Vt.trans Ap).grown⟩
 ·simp only[fG,VR,J]at ff
  obtain⟨cs,rfl,_,_,e1,⟨rfl,_⟩,_,_,rfl,⟨rfl,_⟩,_,_,rfl,⟨rfl,_⟩,_,_,rfl,rfl,rfl⟩:=ff;rw[n1,n2]at e1;unfold wV
  congr 1
  exact arC.1 e1
 ·exact((ZJ.aJ adA (by decide) (by decide)).aJ adB (by decide) (by decide)).aJ W5 (by decide) (by decide)
 ·exact(ajN.aJ adB (by decide)).aJ W5 (by decide)
 ·exact Ma.aJ W5 (by decide)
 ·exact fun p hp=>(((ajM p (hp3.mem_iff.1 hp)).aJ adA (by decide)).aJ adB (by decide)).aJ W5 (by decide)
 ·exact(hp3.map (·.1)).trans rL
noncomputable def jC:List Code:=ct ((Tryz.f25.body).getD .skip)
def GN:List V:=[.a [.q 0,.q 1,.q 2,.y .i64 3],.q 4]
def Mb:aU:={qc:=[(24,fD,.i .i64 0)]}
def ajO:List (Nat×V):=[(1,.q 4),(4,.p (some (1,0))),(5,.i .i64 0),(6,.i .i64 0)]
def JR:List (Nat×V):=(2,.p (some (0,0)))::ajO
def Ej:List (Nat×aQ):=[(0,lq),(1,zW)]
def Si:bP:={s:=[(3,.y 3)],q:=[(0,.q 0),(1,.q 1),(2,.q 2),(4,.q 4)]}
theorem ajP:av (ar E0 Mb) 100 (jC.take 4) ⟨77,load GN 0 .leaf⟩ (ak 0 []) .n Si 77 JR 2 Ej=true:=by decide+kernel
theorem adC:∃id,jC.drop 4=.region id (aN (jC.drop 4)) false::jC.drop 5:=⟨_,rfl⟩
def Sj:List (Nat×V):=(23,.a [.q 0,.q 1,.q 2,.y .i64 3])::JR
theorem ajQ:bH (ar E0 {}) 100 (aN (jC.drop 4)) ((aN (jC.drop 4)).toList.take 1) (U 77 JR) (ak 2 Ej) Si 77 Sj 2 Ej=true:=by decide+kernel
def JS:List (Nat×V):=[(1,.q 4),(4,.p (some (0,0))),(5,.i .i64 0),(6,.i .i64 0)]
def adD:bP:={s:=[(3,.y 3)],q:=[(4,.q 4)]}
theorem ajR:(bG adD (U 77 Sj) (ak 2 Ej) 77 JS 1 [(0,zW)]).isSome=true:=by decide+kernel
def qM:aQ:=.cells [.sl (some (2,0)) 1 (.kn 1),.p (some (6,0)),.m (some 4),.m (some 5),.y .i64 3] 180 false
def AB:aQ:=.cells [.sl (some (2,0)) 1 (.kn 1),.m (some 3)] 226 false
def CE:aQ:=.rc [.s fN,.i .i64 3,.i .i64 0,.b false] 93
def GO:aQ:=.rc [.s lU,.sl (some (1,0)) 1 (.kn 1),.sl none 0 (.kn 0)] 96
def rO:List (Nat×aQ):=[(7,qM),(6,AB),(5,.gS 2 .string []),(4,.gS 1 (.int .i64) []),(3,.mp [] 0),(2,GO),(1,CE),(0,zW)]
def Ek:bP:={s:=[(3,.y 3)],q:=[(4,.q 4)],g:=[(1,.same 1),(2,.same 2)]}
def JT:List (Nat×V):=(8,.p (some (7,0)))::JS
theorem ajS:bH (ar E0 {}) 100 (aN (jC.drop 4)) (((aN (jC.drop 4)).toList.drop 2).take 100) (U 77 ((24,.p (some (7,0)))::JS)) (ak 8 rO) Ek 77 JT 8 rO=true:=by decide+kernel
def qd:aQ:=.mp [(.i .i64 1,.f 43 [.p (some (7,0))] [],0),(.i .i64 2,.f 44 [.p (some (7,0))] [],1),(.i .i64 3,.f 45 [.p (some (7,0))] [],2),(.i .i64 4,.f 46 [.p (some (7,0))] [],3),(.i .i64 5,.f 47 [.p (some (7,0))] [],4)] 5
def JU:List (Nat×V):=(9,.m (some 8))::JT
theorem ajT:av (ar E0 {}) 100 ((jC.drop 5).take 1) (U 77 JT) (ak 8 rO) .n Ek 77 JU 9 ((8,qd)::rO)=true:=by decide+kernel
def bq:List (Nat×V):=[(1,.sr 9 3 0 18),(4,.p (some (0,0))),(8,.p (some (7,0))),(9,.m (some 8)),(37,.sr 9 3 0 18),(38,.y .i64 1),(39,.y .i64 0)]
def Sk:List (Nat×aQ):=(9,.rw 3 60)::(8,qd)::rO
def Sl:aU:={rz:=[(3,18)],rl:=[(3,0,1)]}
def adE:bP:={s:=[(0,.i 0),(1,.y 1),(3,.y 3)],w:=[(3,.same 3)],g:=[(1,.same 1),(2,.same 2)]}
theorem ajU:av (ar E0 Sl) 100 ((jC.drop 6).take 1) (U 77 (jG 4 (.sr 9 3 0 18) JU)) (ak 10 ((9,.rw 3 60)::iO 4 (.sr 9 3 0 18) ((8,qd)::rO))) .n adE 77 bq 10 Sk=true:=by decide+kernel
def sW:bP:={s:=[(0,.y 0),(1,.y 1),(3,.y 3)],w:=[(3,.same 3)],g:=[(1,.same 1),(2,.same 2)]}
theorem AD:aW sW 77 bq 10 Sk=true:=by decide+kernel
noncomputable def eB:List Code:=roundOf (jC.drop 7)
def nZ(k oid aP id nm:V):List V:=[k,oid,.i .i64 0,.i .i64 0,aP,id,.i .i64 0,nm,.s [],.sl none 0 (.kn 0),.i .i64 0,.s [],.s [],.s [],.i .i64 0,.i .i64 0,.s [],.s []]
def wU(rv:List V)(bd:List (Nat×Int×Int))(bn:List (BinOp×V×V×V))(mx:List (V×V×V))(qs:List Nat)(qc:List (FuncId×List V×V)):aU:=
 {bd:=bd,bin:=(.lss,.y .i64 0,.y .i64 1,.b true)::(.add,.y .i64 0,.i .i64 1,.y .i64 9)::bn,mx:=mx,rz:=[(3,18)],re:=[(3,0,rv)],qs:=qs,qc:=qc}
def wW(b:Nat):aU:=wU (nZ (.i .i64 1) (.y .i64 4) (.sl (some (b,0)) 1 (.kn 1)) (.i .i64 0) (.s [])) [(4,1,100000),(6,1,100000)] [(.add,.y .i64 4,.i .i64 1,.y .i64 5)] [(.y .i64 3,.y .i64 5,.y .i64 7)] [] []
variable{p:O×Value}
noncomputable def GP:List Code:=ct ((Tryz.f140.body).getD .skip)
def uF:List V:=[.a [.sl (some (1,0)) 1 (.kn 1)],.a (lr 2)]
def Mc(k v:V):List (Nat×aQ):=[(2,pb k v),(1,mX),(0,mW)]
def nh:aU:={bd:=[(4,1,100000),(6,1,100000)]}
def AE:List (Nat×V):=[(2,.p (some (3,0))),(3,.p (some (4,0)))]
def AF(k v:V):List (Nat×aQ):=[(3,.cells [.sl (some (1,0)) 1 (.kn 1)] 43 false),(4,.cells (lr 2) 51 false)]++Mc k v
def AG:bP:={s:=[(4,.y 4),(6,.y 6)]}
theorem adF:av (ar E0 nh) 400 (GP.take 6) ⟨48,load uF 0 .leaf⟩ (ak 3 (Mc kY vYh)) .n AG 48 AE 7 (AF kY vYh)=true:=by decide+kernel
theorem adG:av (ar E0 nh) 400 (GP.take 6) ⟨48,load uF 0 .leaf⟩ (ak 3 (Mc kN kN)) .n AG 48 AE 7 (AF kN kN)=true:=by decide+kernel
def ajV:List Nat:=[28,29,30,31,32,33,34,27,35,36,7,47,8]
def ZK:V:=.a [.sl (some (1,0)) 1 (.kn 1)]
def Sm:V:=.a [.s lU,.sl (some (5,0)) 1 (.kn 1)]
def ajW:List V:=[ZK,.p (some (4,1)),.i .i64 0,ZK,.p (some (4,2)),.i .i64 0,.t [Sm,.i .i64 0],.t [Sm,.i .i64 0],Sm,.i .i64 0,.p (some (6,0)),.top,.i .i64 0]
def CF(m:List Bool):List (Nat×V):=AE++GF m ajV ajW
def CG(k v:V)(m:List Bool):List (Nat×aQ):=AF k v++opt m 6 [(5,.cells [.s fN,.i .i64 3,.i .i64 0,.b false] 93 false)]++opt m 10 [(6,.cells (cond (m.getD 11 false) [.s lU,.sl (some (5,0)) 1 (.kn 1)] [.s [],.sl none 0 (.kn 0)]) 54 false)]
noncomputable def JV:List (List Bool):=grow (aN (GP.drop 6)) (aop 13 true) 20 [aop 13 false] [aop 13 false]
theorem adH:∃id,GP.drop 6=.region id (aN (GP.drop 6)) true::GP.drop 7:=⟨_,rfl⟩
theorem adI:iE (ar E0 nh) 400 (aN (GP.drop 6)) AG 48 7 CF (CG kY vYh) JV (aop 13 true)=true:=by decide+kernel
theorem adJ:iE (ar E0 nh) 400 (aN (GP.drop 6)) AG 48 7 CF (CG kN kN) JV (aop 13 true)=true:=by decide+kernel
theorem adK:av (ar E0 nh) 400 ((GP.drop 7).take 10) (U 48 (CF (aop 13 true))) (ak 7 (CG kY vYh (aop 13 true))) .r {} 48 [(4,.b true)] 0 []=true:=by decide+kernel
theorem adL:av (ar E0 nh) 400 ((GP.drop 7).take 10) (U 48 (CF (aop 13 true))) (ak 7 (CG kN kN (aop 13 true))) .r {} 48 [(4,.b true)] 0 []=true:=by decide+kernel
def El(w:World)(p:O×Value):Prop:=∃r c,p.2=.slice (some ⟨r,0,none⟩) 1 1/\w.heap[r]? =some (.cells c 98 (0,0))/\c.toList.take 4=(dB p.1).toList
theorem cB.t{w:World}(h:cB w p):El w p:=by
 obtain⟨r,h1,h2⟩:=h;exact⟨r,_,h1,h2,ase (by rw[asl,dj];exact arT _)⟩
theorem GQ{n:Nat}{w:World}{ln:Value}{p:O×Value}{k v:V}(BV:KN k v p.1)
  (hA:av (ar E0 nh) 400 (GP.take 6) ⟨48,load uF 0 .leaf⟩ (ak 3 (Mc k v)) .n AG 48 AE 7 (AF k v)=true)
  (hE:iE (ar E0 nh) 400 (aN (GP.drop 6)) AG 48 7 CF (CG k v) JV (aop 13 true)=true)
  (hX:av (ar E0 nh) 400 ((GP.drop 7).take 10) (U 48 (CF (aop 13 true))) (ak 7 (CG k v (aop 13 true))) .r {} 48 [(4,.b true)] 0 []=true)
  (pa:dG w ln)(mZ:El w p)(lG:1<=p.1.id/\p.1.id<=100000)(qS:p.1.ref<=100000):
  CallsIn (W none) n Tryz.prog 140 #[.agg #[ln],yp p] w fun e w'=>∃u,e=.returned u/\u=.bool true/\Grown w w':=by
 have Vn:1<=rf p.1/\rf p.1<=100000:=by unfold rf;split<;>omega
 let y0:Sym:=dg [0,0,0,0,p.1.id,0,rf p.1] [] [] [];obtain⟨ay,h1,lR,v1⟩:=pa.add y0;obtain⟨r,c,xR,hr,hc⟩:=mZ;have WH:4<=c.size:=by have:=congrArg ash hc;simp[dj]at this;omega
 have s6:ay.s 6=((rf p.1:Nat):Int):=by simp only[Ren.s,lR];rfl
 have h2:=h1.add hr rfl (pb k v) (fun h=>h) ⟨_,rfl,by
  show J ay _ (c.toList.take 4);rw[hc];exact(BV ay s6).1,WH,rfl⟩
 have s4:(up ay 2 r c.size).s 4=p.1.id:=by show ay.y.s 4=_;rw[lR];rfl
 have cG:J (up ay 2 r c.size) uF [.agg #[ln],yp p]:=by
  refine J.cons ?_ (J.cons ?_ J.nil)
  ·simp only[VR]
   exact⟨_,rfl,J.cons (VR.mono (jr (fun s es=>by have:=(h1.lM _ _ es).1;exact absurd this (Nat.lt_irrefl _))) _ _ v1) J.nil⟩
  ·simp only[VR]
   refine⟨_,rfl,J.cons (by simp only[VR,s4]) (J.cons vI (J.cons vI (J.cons ?_ J.nil)))⟩;show VR _ _ p.2;rw[xR];exact NR rfl (by decide)
 have bB:=ad.enter (nt:=48) h2 rfl (by show ay.y.k=_;rw[lR];rfl) cG (by decide);have O9:Ag AG y0 y0:=⟨⟨rfl,rfl,agm⟩,agm,agm,agm⟩;have hF:∀φ:Ren,φ.s=y0.s->BD (ar E0 nh) φ:=fun φ hs=>aA.dU (by
  have t4:φ.s 4=p.1.id:=agB hs 4;have t6:φ.s 6=rf p.1:=agB hs 6;refine⟨⟨⟨?_,?_⟩,⟨?_,?_⟩,agm⟩,agm,agm,agm,agm,agm,agm,agm,agm⟩
  ·show(1:Int)<=_;rw[t4];omega
  ·show _<=(100000:Int);rw[t4];omega
  ·show(1:Int)<=_;rw[t6];omega
  ·show _<=(100000:Int);rw[t6];omega)
 have e0:ay.y.s=y0.s:=by rw[lR];rfl
 refine dz (fn:=Tryz.f140) (c:=(Tryz.f140.body).getD .skip) Tryz.func140 rfl (bp _ ?_);show aC none n E0.P _ GP _ _;refine ad.dc (aq aB nh) rfl 6 hA bB (hF _ e0) rfl y0 (O9.au e0 (by show ay.y.q=_;rw[lR];rfl) (by show ay.y.w=_;rw[lR];rfl) (by show ay.y.g=_;rw[lR];rfl)) fun φ a w1 hs hd hg _ n1 n2 n3 n4=> ?_
 show aC none n E0.P _ (GP.drop 6) a w1;obtain⟨id6,JD⟩:=adH;rw[JD];refine ad.explore (aq aB nh) rfl aB.mixed hE (L0:=AE) (HB0:=AF k v) rfl rfl hs y0 O9 n1 n2 n3 n4 (fun ay e _ _ _=>hF ay e) fun φ a2 w2 hs mF iK n1 n2 n3 n4=>⟨rfl,?_⟩
 show aC none n E0.P _ (GP.drop 7) a2 w2;refine ad.dc (aq aB nh) rfl 10 (cs:=GP.drop 7) hX hs (hF _ n1) (by rw[mF];exact hd) y0 (Ag.au (o:=y0) ⟨agm,agm,agm,agm⟩ n1 n2 n3 n4) fun φ a3 w3 hs gJ ig _ n1 n2 n3 n4=> ?_
 refine⟨.inl rfl,gJ,?_⟩;obtain⟨v,gE,ff⟩:=hs.leave aB (fn:=Tryz.f140) (l:=[.b true]) rfl;exact⟨v,gE,v,rfl,by simpa only[fG,VR]using ff,((hg.trans iK).trans ig).grown⟩
theorem Sn{n:Nat}{w:World}{ln:Value}{p:O×Value}(pa:dG w ln)(mZ:El w p)(lG:1<=p.1.id/\p.1.id<=100000)(qS:p.1.ref<=100000):
  CallsIn (W none) n Tryz.prog 140 #[.agg #[ln],yp p] w fun e w'=>∃u,e=.returned u/\u=.bool true/\Grown w w':=by
 by_cases h:p.1.ref=0
 ·exact GQ (DY h) adG adJ adL pa mZ lG qS
 ·exact GQ (DX h) adF adI adK pa mZ lG qS
variable{h:H}{u:Value}
def Em(T:TypeId):aQ->Option (List V)
 |.cells l e _=>cond (arJ e T) (some l) none
 |.rc l e=>cond (arJ e T) (some l) none
 |_=>none
theorem N9{w:World}(hr:HR φ h w){b r:Nat}(hb:φ b=some r){T:TypeId}{l:List V}(e:Em T (h.get b)=some l):∃c,w.heap[r]? =some (.cells c T (0,0))/\J φ l (c.toList.take l.length):=by
 cases hg:h.get b with
 |cells l' e' g=>
  rw[hg]at e;simp only[Em]at e;cases hq:arJ e' T with
  |false=>rw[hq]at e;cases e
  |true=>
   rw[hq]at e;simp only[cond,arS]at e;subst e;have:=arD hq;subst this;obtain⟨o,h1,h2⟩:=hr.ew b r hb (by rw[hg];trivial);rw[hg]at h2;obtain⟨c,rfl,h3,_⟩:=h2;exact⟨c,h1,h3⟩
 |rc l' e'=>
  rw[hg]at e;simp only[Em]at e;cases hq:arJ e' T with
  |false=>rw[hq]at e;cases e
  |true=>
   rw[hq]at e;simp only[cond,arS]at e;subst e;have:=arD hq;subst this;obtain⟨o,h1,h2⟩:=hr.ew b r hb (by rw[hg];trivial);rw[hg]at h2;obtain⟨c,rfl,h3,_⟩:=h2;exact⟨c,h1,h3⟩
 |_=>rw[hg]at e;cases e
noncomputable def Sp(T:TypeId)(h:H):V->Option (List V)
 |.sl (some (b,o)) n (.kn c)=>cond (arJ o 0&&arJ n 1&&arJ c 1) (Em T (h.get b)) none
 |_=>none
theorem En{w:World}(hr:HR φ h w){T:TypeId}{x:V}{l:List V}(e:Sp T h x=some l)(hu:VR φ x u):∃r c,u=.slice (some ⟨r,0,none⟩) 1 1/\w.heap[r]? =some (.cells c T (0,0))/\J φ l (c.toList.take l.length):=by
 unfold Sp at e;split at e
 ·rename_i b o n c
  cases hq:arJ o 0&&arJ n 1&&arJ c 1 with
  |false=>rw[hq]at e;cases e
  |true=>
   rw[hq]at e;simp only[arF]at hq;have h1:=arD hq.1.1;have h2:=arD hq.1.2;have h3:=arD hq.2;subst h1;subst h2;subst h3;simp only[VR]at hu;obtain⟨r,hb,_,rfl⟩:=hu;obtain⟨c,g1,g2⟩:=N9 hr hb e;exact⟨r,c,rfl,g1,g2⟩
 ·cases e
def ar2:V:=.sl none 0 (.kn 0)
noncomputable def ZL(h:H)(x:V):Bool:=
 match Sp 93 h x with
 |some [a,b,c,d]=>same a (.s fN)&&same b (.i .i64 3)&&same c (.i .i64 0)&&same d (.b false)
 |_=>false
noncomputable def Eo(h:H)(x:V):Bool:=
 match Sp 96 h x with
 |some [a,b,c]=>same a (.s lU)&&ZL h b&&same c ar2
 |_=>false
theorem Oa{w:World}(hr:HR φ h w){x:V}(e:Eo h x=true)(hu:VR φ x u):dG w u:=by
 unfold Eo at e;split at e
 ·rename_i a b c e1
  simp only[arF]at e;obtain⟨r1,c1,rfl,g1,v1⟩:=En hr e1 hu;have ea:=bJ _ _ e.1.1;have ec:=bJ _ _ e.2;subst ea;subst ec;simp only[ar2,J,VR]at v1;obtain⟨_,_,q1,⟨rfl,_⟩,ub,_,rfl,hb,_,_,rfl,⟨_,rfl⟩,rfl⟩:=v1;have e2:=e.1.2;unfold ZL at e2;split at e2
  ·rename_i a2 b2 c2 d2 e3
   obtain⟨r0,c0,rfl,g0,v0⟩:=En hr e3 hb;simp only[arF]at e2;have f1:=bJ _ _ e2.1.1.1;have f2:=bJ _ _ e2.1.1.2;have f3:=bJ _ _ e2.1.2;have f4:=bJ _ _ e2.2;subst f1;subst f2;subst f3;subst f4;simp only[J,VR]at v0;obtain⟨_,_,q0,⟨rfl,_⟩,_,_,rfl,rfl,_,_,rfl,rfl,_,_,rfl,rfl,rfl⟩:=v0;exact⟨r1,r0,c1,c0,rfl,g0,g1,q0,q1⟩
  ·cases e2
 ·cases e
def bdY(bd:Nat->Option (Int×Int)):V->Bool
 |.y k x=>same (.y k x) (.y .i64 x)&&
  match bd x with
  |some (lo,hi)=>Cp lo 1&&Cp hi 100000
  |none=>false
 |_=>false
theorem Sq{bd:Nat->Option (Int×Int)}(bK:∀x lo hi,bd x=some (lo,hi)->lo<=φ.s x/\φ.s x<=hi){x:V}(e:bdY bd x=true)(hu:VR φ x u):∃n:Nat,u=.int .i64 n/\1<=n/\n<=100000:=by
 unfold bdY at e;split at e
 ·rename_i k x
  simp only[arF]at e;have ek:=bJ _ _ e.1;cases ek;simp only[VR]at hu;have e2:=e.2;split at e2
  ·rename_i lo hi hb
   simp only[arF]at e2;have:=bK _ _ _ hb;rw[pH e2.1,pH e2.2]at this;refine⟨(φ.s x).toNat,?_,by omega,by omega⟩;rw[hu];congr 1;omega
  ·cases e2
 ·cases e
noncomputable def Ep(bd:Nat->Option (Int×Int))(h:H)(x:V):Bool:=
 match Sp 98 h x with
 |some [k,v,s,z]=>same s (.s [])&&same z ar2&&((same k (.i .i64 0)&&same v (.i .i64 0))||(same k (.i .i64 3)&&bdY bd v))
 |_=>false
theorem Ob{bd:Nat->Option (Int×Int)}(bK:∀x lo hi,bd x=some (lo,hi)->lo<=φ.s x/\φ.s x<=hi){w:World}(hr:HR φ h w){x:V}(e:Ep bd h x=true)(hu:VR φ x u)(id:Nat):∃ref,ref<=100000/\El w (⟨id,ref⟩,u):=by
 unfold Ep at e;split at e
 ·rename_i k v s z e1
  obtain⟨r,c,rfl,g,vs⟩:=En hr e1 hu;simp only[arF,Bool.or_eq_true]at e;have f1:=bJ _ _ e.1.1;have f2:=bJ _ _ e.1.2;subst f1;subst f2;simp only[ar2,J]at vs;obtain⟨uk,_,q,hk,uv,_,rfl,hv,us,_,rfl,hs,uz,_,rfl,hz,rfl⟩:=vs;simp only[VR]at hs hz;obtain⟨rfl,_⟩:=hs;obtain⟨_,rfl⟩:=hz;rcases e.2 with h2|h2
  ·have f3:=bJ _ _ h2.1
   have f4:=bJ _ _ h2.2;subst f3;subst f4;simp only[VR]at hk hv;subst hk;subst hv;exact⟨0,Nat.zero_le _,r,c,rfl,g,by simpa[dB]using q⟩
  ·have f3:=bJ _ _ h2.1
   subst f3;simp only[VR]at hk;subst hk;obtain⟨m,rfl,hm1,yh⟩:=Sq bK h2.2 hv;refine⟨m,yh,r,c,rfl,g,?_⟩;have:m≠0:=by omega
   simpa[dB,this]using q
 ·cases e
noncomputable def qh1(bd:Nat->Option (Int×Int))(f:FuncId)(args:List V)(h:H):Option V:=
 cond (arJ f 140)
  (match args with
  |[.a [s],.a [x,c,v,aP]]=>cond (Eo h s&&bdY bd x&&same c (.i .i64 0)&&same v (.i .i64 0)&&Ep bd h aP) (some (.b true)) none
  |_=>none) none
noncomputable def E1:Env:={E0 with qh:=qh1}
theorem rP:E1.OK:=by
 refine⟨aB.ty,aB.fn,aB.mixed,aB.hl,?_,aB.eh,aB.xh⟩;intro bd f args h v e0 φ w args' bK ha hr;have e:qh1 bd f args h=some v:=e0;clear e0;unfold qh1 at e;cases hf:arJ f 140 with
 |false=>rw[hf]at e;cases e
 |true=>
  rw[hf]at e;have:=arD hf;subst this;refine⟨⟨_,_,Tryz.func140,rfl,rfl⟩,fun n=> ?_⟩;simp only[cond]at e;split at e
  ·rename_i s x c v' aP
   cases hq:Eo h s&&bdY bd x&&same c (.i .i64 0)&&same v' (.i .i64 0)&&Ep bd h aP with
   |false=>rw[hq]at e;cases e
   |true=>
    rw[hq]at e;cases e;simp only[arF]at hq;obtain⟨⟨⟨⟨q1,q2⟩,q3⟩,q4⟩,q5⟩:=hq;have f3:=bJ _ _ q3;have f4:=bJ _ _ q4;subst f3;subst f4;simp only[J,VR]at ha;obtain⟨_,_,rfl,⟨cs,rfl,us,_,e1,Cl,rfl⟩,_,_,rfl,⟨cs2,rfl,ux,_,e2,hux,_,_,rfl,rfl,_,_,rfl,rfl,uv,_,rfl,huv,rfl⟩,rfl⟩:=ha;obtain⟨m,rfl,hm1,yh⟩:=Sq bK q2 hux;obtain⟨ref,lH,vJ⟩:=Ob bK hr q5 huv m;have ib:cs=#[us]:=arC.1 e1;have aoM:cs2=(gK (⟨m,ref⟩,uv)).toArray:=arC.1 e2;subst ib;subst aoM;refine(Sn (n:=n) (p:=(⟨m,ref⟩,uv)) (Oa hr q1 Cl) vJ ⟨hm1,yh⟩ lH).mono ?_;rintro e w' ⟨u,rfl,rfl,hg⟩;exact⟨_,rfl,by simp only[VR],hg⟩
  ·cases e
def Sr(vw ob rt:aQ):List (Nat×aQ):=[(9,.rw 3 60),(8,qd),(7,qM),(6,AB),(5,rt),(4,ob),(3,vw),(2,GO),(1,CE),(0,zW)]
def mw:aQ:=.gS 1 (.int .i64) []
def pf:aQ:=.gS 2 .string []
def adM:List (Nat×aQ):=[(10,.cells [.s lU,.sl (some (12,0)) 1 (.kn 1),.sl none 0 (.kn 0)] 96 false),(11,.cells [.s lU,.sl (some (12,0)) 1 (.kn 1),.sl none 0 (.kn 0)] 96 false),(12,.cells [.s fN,.i .i64 3,.i .i64 0,.b false] 93 false)]
def Ss:aQ:=.mp [(.a [.i .i64 0,.i .i64 0],.a [.b true,.sl (some (10,0)) 1 (.kn 1),.sl (some (11,0)) 1 (.kn 1)],0)] 1
def fE(ob rt:aQ):List (Nat×aQ):=Sr (.mp [] 0) ob rt
def dI(ob rt:aQ):List (Nat×aQ):=Sr Ss ob rt++adM
theorem AJ:aW sW 77 bq 13 (dI mw pf)=true:=by decide+kernel
def ar4(b:Nat):aQ:=.gS 1 (.int .i64) [(.y .i64 4,some (.a (lr b)))]
def oa(k v:V):List (Nat×aQ):=dI (ar4 13) pf++[(13,pb k v)]
def AK:bP:={s:=[(0,.y 9),(1,.y 1),(3,.y 7),(4,.y 4),(6,.y 6)],w:=[(3,.same 3)],g:=[(1,.same 1),(2,.same 2)]}
theorem W6:sO (ar E1 (wW 10)) 400 (eB.take 100) (U 77 bq) (ak 11 ((10,pb kY vYh)::fE mw pf)) .n AK 77 bq 14 (oa kY vYh) [(13,10)]=true:=by decide+kernel
theorem W7:sO (ar E1 (wW 10)) 400 (eB.take 100) (U 77 bq) (ak 11 ((10,pb kN kN)::fE mw pf)) .n AK 77 bq 14 (oa kN kN) [(13,10)]=true:=by decide+kernel
theorem W8:sO (ar E1 (wW 13)) 400 (eB.take 100) (U 77 bq) (ak 14 ((13,pb kY vYh)::dI mw pf)) .n AK 77 bq 14 (oa kY vYh) [(13,13)]=true:=by decide+kernel
theorem W9:sO (ar E1 (wW 13)) 400 (eB.take 100) (U 77 bq) (ak 14 ((13,pb kN kN)::dI mw pf)) .n AK 77 bq 14 (oa kN kN) [(13,13)]=true:=by decide+kernel
def yQ:bP:={s:=[(0,.y 0),(1,.y 1),(3,.y 3)],w:=[(3,.same 3)],g:=[(1,.fold 4),(2,.same 2)]}
theorem Md:(bG yQ (U 77 bq) (ak 14 (oa kY vYh)) 77 bq 13 (dI mw pf)).isSome=true:=by decide+kernel
theorem Me:(bG yQ (U 77 bq) (ak 14 (oa kN kN)) 77 bq 13 (dI mw pf)).isSome=true:=by decide+kernel
def St:aU:=wU (nZ (.i .i64 2) (.i .i64 0) nl (.y .i64 4) (.q 8)) [(4,1,100000)] [] [] [8] [(93,[.q 8],.b true)]
def Su:aU:=wU (nZ (.i .i64 2) (.i .i64 0) nl (.i .i64 0) (.q 8)) [] [] [] [8] [(93,[.q 8],.b true)]
def Sv:aU:=wU (nZ (.i .i64 5) (.i .i64 0) nl (.y .i64 4) (.q 8)) [(4,0,1)] [] [] [8] [(93,[.q 8],.b true)]
def rtS:aQ:=.gS 2 .string [(.q 8,some (.y .i64 4))]
def rtD:aQ:=.gS 2 .string [(.q 8,none)]
def sX:bP:={s:=[(0,.y 9),(1,.y 1),(3,.y 3),(4,.y 4)],q:=[(8,.q 8)],w:=[(3,.same 3)],g:=[(1,.same 1),(2,.same 2)]}
theorem adN:av (ar E1 St) 400 (eB.take 100) (U 77 bq) (ak 10 (fE mw pf)) .n sX 77 bq 10 (fE mw rtS)=true:=by decide+kernel
theorem adO:av (ar E1 St) 400 (eB.take 100) (U 77 bq) (ak 13 (dI mw pf)) .n sX 77 bq 13 (dI mw rtS)=true:=by decide+kernel
theorem adP:av (ar E1 Su) 400 (eB.take 100) (U 77 bq) (ak 10 (fE mw pf)) .n sX 77 bq 10 (fE mw rtD)=true:=by decide+kernel
theorem adQ:av (ar E1 Su) 400 (eB.take 100) (U 77 bq) (ak 13 (dI mw pf)) .n sX 77 bq 13 (dI mw rtD)=true:=by decide+kernel
theorem adR:av (ar E1 Sv) 400 (eB.take 100) (U 77 bq) (ak 10 (fE mw pf)) .n sX 77 bq 10 (fE mw pf)=true:=by decide+kernel
theorem adS:av (ar E1 Sv) 400 (eB.take 100) (U 77 bq) (ak 13 (dI mw pf)) .n sX 77 bq 13 (dI mw pf)=true:=by decide+kernel
def qN:bP:={s:=[(0,.y 0),(1,.y 1),(3,.y 3)],w:=[(3,.same 3)],g:=[(1,.same 1),(2,.fold 5)]}
theorem Xa:(bG qN (U 77 bq) (ak 10 (fE mw rtS)) 77 bq 10 (fE mw pf)).isSome=true:=by decide+kernel
theorem Xb:(bG qN (U 77 bq) (ak 13 (dI mw rtS)) 77 bq 13 (dI mw pf)).isSome=true:=by decide+kernel
theorem Xc:(bG qN (U 77 bq) (ak 10 (fE mw rtD)) 77 bq 10 (fE mw pf)).isSome=true:=by decide+kernel
theorem Xd:(bG qN (U 77 bq) (ak 13 (dI mw rtD)) 77 bq 13 (dI mw pf)).isSome=true:=by decide+kernel
def AL:aU:={bin:=[(.lss,.y .i64 0,.y .i64 1,.b false)]}
theorem adT:av (ar E1 AL) 100 (eB.take 100) (U 77 bq) (ak 10 (fE mw pf)) (.e 0) sW 77 bq 10 (fE mw pf)=true:=by decide+kernel
theorem adU:av (ar E1 AL) 100 (eB.take 100) (U 77 bq) (ak 13 (dI mw pf)) (.e 0) sW 77 bq 13 (dI mw pf)=true:=by decide+kernel
variable{i j:Nat}{nm:ByteArray}{m:Array MapEntry×Nat}{rs:List (ByteArray×Nat)}
inductive R where
 |put (o:O)
 |root (nm:ByteArray) (id:Nat)
 |snap (nm:ByteArray) (id:Nat)
def em:Value:=.string (bytes [])
def ze:Value:=.int .i64 0
def uG:Value:=.slice none 0 0
def recC(k:Int)(oid:Nat)(aP:Value)(id:Nat)(nm:Value):List Value:=[.int .i64 k,.int .i64 oid,ze,ze,aP,.int .i64 id,ze,nm,em,uG,ze,em,em,em,ze,ze,em,em]
def fO:R×Value->List Value
 |(.put o,v)=>recC 1 o.id v 0 em
 |(.root nm id,_)=>recC 2 0 uG id (.string nm)
 |(.snap nm id,_)=>recC 5 0 uG id (.string nm)
def bL(l:List (R×Value)):List Value:=l.flatMap fO
theorem uH(r:R×Value):(fO r).length=18:=by
 obtain⟨r,v⟩:=r;cases r<;>rfl
theorem fe(l:List (R×Value)):(bL l).length=l.length*18:=fM uH l
theorem CH{l:List (R×Value)}{p:R×Value}(h:l[i]? =some p):((bL l).drop (i*18)).take 18=fO p:=lj uH l i p h
def Sw(w:World):R×Value->Prop
 |(.put o,v)=>cB w (o,v)/\(1<=o.id/\o.id<=100000)/\o.ref<=100000
 |(.root nm id,_)=>RN nm/\id<=100000
 |(.snap nm id,_)=>RN nm/\id<=1
def my(l:List (O×Value))(p:O×Value):List (O×Value):=if p.1.id∈l.map (·.1.id)then l.map (fun q=>if q.1.id=p.1.id then p else q)else l++[p]
def Oc(l:List (ByteArray×Nat))(nm:ByteArray):Bool:=l.any fun q=>decide (q.1=nm)
theorem AM:Oc l nm=true↔nm∈l.map (·.1):=by
 simp[Oc,List.any_eq_true]
def qW(l:List (ByteArray×Nat))(nm:ByteArray)(id:Nat):List (ByteArray×Nat):=if Oc l nm=true then l.map (fun q=>if q.1=nm then(nm,id)else q)else l++[(nm,id)]
def Er(l:List (ByteArray×Nat))(nm:ByteArray):List (ByteArray×Nat):=l.filter (fun q=>decide (q.1≠nm))
structure od where
 bS:List (O×Value)
 roots:List (ByteArray×Nat)
 next:Nat
def od.step(s:od):R×Value->od
 |(.put o,v)=>⟨my s.bS (o,v),s.roots,max s.next (o.id+1)⟩
 |(.root nm id,_)=>⟨s.bS,if id=0 then Er s.roots nm else qW s.roots nm id,s.next⟩
 |(.snap _ _,_)=>s
def od.run(s:od)(l:List (R×Value)):od:=l.foldl od.step s
structure nj(w:World)(s:od):Prop where
 aP:∀p∈s.bS,cB w p
 ids:∀p∈s.bS,1<=p.1.id/\p.1.id<=100000
 refs:∀p∈s.bS,p.1.ref<=100000
 nd:(s.bS.map (·.1.id)).Nodup
 Pa:(s.roots.map (·.1)).Nodup
 Xe:∀q∈s.roots,1<=q.2/\q.2<=100000
 rn:∀q∈s.roots,RN q.1
 nx:1<=s.next/\s.next<=100001
 lt:∀p∈s.bS,p.1.id<s.next
theorem uI{l:List (O×Value)}{q:O×Value}(h:q∈my l p):q=p\/q∈l:=by
 unfold my at h;split at h
 ·obtain⟨x,hx,rfl⟩:=arG.1 h
  split
  ·exact .inl rfl
  ·exact .inr hx
 ·rcases arX.1 h with h|h
  ·exact .inr h
  ·simp at h;exact .inl h
theorem Sx{l:List (O×Value)}:(my l p).map (·.1.id)=if p.1.id∈l.map (·.1.id)then l.map (·.1.id)else l.map (·.1.id)++[p.1.id]:=by
 unfold my;split
 ·rw[List.map_map]
  apply asm;intro x _;simp only[Function.comp];split
  ·rename_i h;exact h.symm
  ·rfl
 ·simp
theorem AN{id:Nat}{q:ByteArray×Nat}(h:q∈qW l nm id):q=(nm,id)\/q∈l:=by
 unfold qW at h;split at h
 ·obtain⟨x,hx,rfl⟩:=arG.1 h
  split
  ·exact .inl rfl
  ·exact .inr hx
 ·rcases arX.1 h with h|h
  ·exact .inr h
  ·simp at h;exact .inl h
theorem JW{id:Nat}:(qW l nm id).map (·.1)=if Oc l nm=true then l.map (·.1)else l.map (·.1)++[nm]:=by
 unfold qW;split
 ·rw[List.map_map]
  apply asm;intro x _;simp only[Function.comp];split
  ·rename_i h;exact h.symm
  ·rfl
 ·simp
theorem Od[DecidableEq α]{l:List α}(h:l.Nodup)(x:α):(if x∈l then l else l++[x]).Nodup:=by
 split
 ·exact h
 ·rename_i hx
  rw[arV];refine⟨h,by simp,fun a ha b hb e=> ?_⟩;simp at hb;subst hb;subst e;exact hx ha
theorem nj.step{w:World}{s:od}(h:nj w s){r:R×Value}(hr:Sw w r):nj w (s.step r):=by
 obtain⟨r,v⟩:=r;cases r with
 |put o=>
  obtain⟨h1,h2,h3⟩:=hr;refine⟨fun p hp=> ?_,fun p hp=> ?_,fun p hp=> ?_,?_,h.Pa,h.Xe,h.rn,?_,fun p hp=> ?_⟩
  ·rcases uI hp with rfl|hp
   ·exact h1
   ·exact h.aP p hp
  ·rcases uI hp with rfl|hp
   ·exact h2
   ·exact h.ids p hp
  ·rcases uI hp with rfl|hp
   ·exact h3
   ·exact h.refs p hp
  ·show((my s.bS (o,v)).map (·.1.id)).Nodup
   rw[Sx];exact Od h.nd _
  ·have:=h.nx
   show 1<=max s.next (o.id+1)/\max s.next (o.id+1)<=100001;omega
  ·show p.1.id<max s.next (o.id+1)
   rcases uI hp with rfl|hp
   ·show o.id<_;omega
   ·have:=h.lt p hp;omega
 |root nm id=>
  obtain⟨h1,h2⟩:=hr
  by_cases h0:id=0
  ·have e:s.step (.root nm id,v)=⟨s.bS,Er s.roots nm,s.next⟩:=by simp[od.step,h0]
   rw[e];refine⟨h.aP,h.ids,h.refs,h.nd,?_,fun q hq=>h.Xe q (List.mem_filter.1 hq).1,fun q hq=>h.rn q (List.mem_filter.1 hq).1,h.nx,h.lt⟩;exact h.Pa.sublist ((List.filter_sublist (l:=s.roots)).map _)
  ·have e:s.step (.root nm id,v)=⟨s.bS,qW s.roots nm id,s.next⟩:=by simp[od.step,h0]
   rw[e];refine⟨h.aP,h.ids,h.refs,h.nd,?_,fun q hq=> ?_,fun q hq=> ?_,h.nx,h.lt⟩
   ·show((qW s.roots nm id).map (·.1)).Nodup
    rw[JW];split
    ·exact h.Pa
    ·rename_i hx
     rw[arV];refine⟨h.Pa,by simp,fun a ha b hb Ni=> ?_⟩;simp at hb;subst hb;subst Ni;exact hx (AM.2 ha)
   ·rcases AN hq with rfl|hq
    ·exact⟨by show 1<=id;omega,h2⟩
    ·exact h.Xe q hq
   ·rcases AN hq with rfl|hq
    ·exact h1
    ·exact h.rn q hq
 |snap nm id=>exact h
theorem nj.run{w:World}:∀{l:List (R×Value)} {s:od},nj w s->(∀r∈l,Sw w r)->nj w (s.run l)
 |[],_,h,_=>h
 |r::l,s,h,hl=>nj.run (l:=l) (h.step (hl r aso)) fun r' h'=>hl r' (asg _ h')
theorem Sy(s:od)(l:List (R×Value))(r:R×Value):s.run (l++[r])=(s.run l).step r:=by simp[od.run]
theorem nq{β:Type}{f:α->β}{l:List α}(h:(l.map f).Nodup){x y:α}(hi:l[i]? =some x)(hj:l[j]? =some y)(e:f x=f y):i=j:=by
 have hi':i<l.length:=(arK.1 hi).1;exact(List.getElem?_inj (l:=l.map f) (i:=i) (j:=j) (by simpa using hi') h).1 (by simp[hi,hj,e])
theorem Sz{l:List (O×Value)}(h:(l.map (·.1.id)).Nodup)(p:O×Value):iq (.int .i64) (kh l) (.int .i64 p.1.id) (yp p)=kh (my l p):=by
 unfold iq;rcases arN (d:=.int .i64) (k:=.int .i64 p.1.id) rfl (kh l).1.toList 0 (fun x hx=>by rw[(Ay hx).1];exact rfl)with⟨h1,h2⟩|⟨j,e,h1,h2,h3⟩
 ·rw[h1]
  have hn:p.1.id∉l.map (·.1.id):=fun hm=>by
   obtain⟨q,hq,e⟩:=arG.1 hm;obtain⟨i,hi,rfl⟩:=List.getElem_of_mem hq;exact h2 (sT i l[i]) (by simp only[kh,List.mem_mapIdx];exact⟨i,hi,rfl⟩) (by simp[sT,e])
  simp[my,hn,kh,List.mapIdx_append,sT]
 ·rw[h1]
  have FX:(l.mapIdx sT)[j]? =some e:=h2;rw[asj]at FX;cases hj:l[j]?with
  |none=>rw[hj]at FX;cases FX
  |some q=>
   rw[hj]at FX;cases FX;simp only[sT,Value.int.injEq,true_and,Int.natCast_inj]at h3;have hm:p.1.id∈l.map (·.1.id):=arG.2 ⟨q,arE hj,h3⟩;simp only[my,hm,if_true,asf];unfold kh;refine Prod.ext ?_ (by simp);apply Array.ext_getElem?;intro i;simp only[arQ,List.getElem?_toArray,asj,arH];cases hi:l[i]?with
   |none=>simp
   |some x=>
    by_cases mf:j=i
    ·subst mf
     rw[hj]at hi;cases hi;simp[h3,sT]
    ·have:x.1.id≠p.1.id:=fun e=>mf (nq h hj hi (by rw[h3,e]))
     simp[mf,this]
theorem RM.key{m:Array MapEntry×Nat}{rs:List (ByteArray×Nat)}(M:RM m rs):∀x∈m.1.toList,asa .string x.key:=fun x hx=>by rw[(M.at_ hx).1];trivial
theorem RM.get(M:RM m rs){e:MapEntry}(h:m.1.toList[j]? =some e):rs[j]? =some (Eh e):=by
 have:=congrArg (·[j]?) M.map;simp only[arH,h,arM]at this;exact this.symm
theorem RM.set(M:RM m rs)(hn:(rs.map (·.1)).Nodup)(nm:ByteArray)(id:Nat):RM (iq .string m (.string nm) (.int .i64 id)) (qW rs nm id):=by
 unfold iq;rcases arN (d:=.string) (k:=.string nm) trivial m.1.toList 0 M.key with⟨h1,h2⟩|⟨j,e,h1,h2,h3⟩
 ·rw[h1]
  have BQ:Oc rs nm≠true:=fun hm=>by
   obtain⟨q,hq,e⟩:=arG.1 (AM.1 hm);rw[<-M.map]at hq;obtain⟨x,hx,rfl⟩:=arG.1 hq;exact h2 x hx (by rw[(M.at_ hx).1,e])
  refine⟨?_,fun x hx=> ?_,?_⟩
  ·rw[arU,arY,M.BW,qW,if_neg BQ,arY]
   rfl
  ·simp only[arU,arX,List.mem_singleton]at hx
   show x.born<m.2+1;rcases hx with hx|rfl
   ·have:=M.ND x hx;omega
   ·exact Nat.lt_succ_self _
  ·simp only[arU,arY,arV]
   refine⟨M.nd,by simp,fun a ha b hb e=> ?_⟩;obtain⟨x,hx,rfl⟩:=arG.1 ha;simp at hb;have:=M.ND x hx;omega
 ·rw[h1]
  simp only[asf];have hj:=M.get h2;have hr:(Eh e).1=nm:=by
   have:=(M.at_ (arE h2)).1;rw[h3]at this;exact(Value.string.inj this).symm
  have adV:Oc rs nm=true:=AM.2 (arG.2 ⟨_,arE hj,hr⟩);have hl:(m.1.modify j fun e=>{e with key:=.string nm,val:=.int .i64 id}).toList=m.1.toList.modify j (fun e=>{e with key:=.string nm,val:=.int .i64 id}):=by simp
  have zR:∀i,(m.1.toList.modify j (fun e=>{e with key:=.string nm,val:=.int .i64 (id:Int)}))[i]? =(m.1.toList[i]?).map fun e=>if j=i then{e with key:=.string nm,val:=.int .i64 id}else e:=fun i=>by
   rw[List.getElem?_modify]
   by_cases mf:j=i
   ·simp[mf]
   ·simp only[mf,if_false];cases m.1.toList[i]? <;>rfl
  refine⟨?_,fun x hx=> ?_,?_⟩
  ·rw[hl]
   apply arL;intro i;simp only[qW,adV,if_true,arH,zR];have oh:=congrArg (·[i]?) M.BW;simp only[arH]at oh;cases hi:m.1.toList[i]?with
   |none=>
    rw[hi]at oh;cases qP:rs[i]?with
    |none=>rfl
    |some q=>rw[qP]at oh;cases oh
   |some x=>
    have hxi:=M.get hi;rw[hxi];simp only[arM]
    by_cases mf:j=i
    ·subst mf
     rw[h2]at hi;cases hi;simp[hr,CD]
    ·have bU:(Eh x).1≠nm:=fun e=>mf (nq hn hj hxi (by rw[hr,e]))
     simp only[mf,if_false,bU];rw[hi,hxi]at oh;exact oh
  ·rw[hl]at hx
   obtain⟨i,hi⟩:=asi hx;rw[zR]at hi;cases hmi:m.1.toList[i]?with
   |none=>rw[hmi]at hi;cases hi
   |some z=>
    rw[hmi]at hi;have:=M.ND z (arE hmi);simp only[arM,arS]at hi;subst hi;split<;>exact this
  ·rw[hl]
   have:(m.1.toList.modify j (fun e=>{e with key:=.string nm,val:=.int .i64 (id:Int)})).map (·.born)=m.1.toList.map (·.born):=by
    apply arL;intro i;rw[arH,arH,zR];cases m.1.toList[i]?with
    |none=>rfl
    |some z=>
     simp only[arM];split<;>rfl
   rw[this];exact M.nd
theorem uJ{l:List α}{p:α->Bool}(hj:∀i x,l[i]? =some x->(p x=true↔i≠j)):l.filter p=l.eraseIdx j:=by
 induction l generalizing j with
 |nil=>rfl
 |cons a l ih=>
  cases j with
  |zero=>
   have h0:p a=false:=by
    have:=hj 0 a rfl;cases hp:p a with
    |false=>rfl
    |true=>exact absurd rfl (this.1 hp)
   rw[List.filter_cons_of_neg (by simp[h0])];simp only[List.eraseIdx_cons_zero];rw[asn];intro x hx;obtain⟨i,hi⟩:=asi hx;exact(hj (i+1) x (by simpa using hi)).2 (by omega)
  |succ j=>
   have h0:p a=true:=(hj 0 a rfl).2 (by omega);rw[List.filter_cons_of_pos h0,List.eraseIdx_cons_succ,ih];intro i x hi;have:=hj (i+1) x (by simpa using hi);rw[this];omega
theorem nu{α β:Type}(f:α->β):∀(l:List α) (j:Nat),(l.eraseIdx j).map f=(l.map f).eraseIdx j
 |[],_=>rfl
 |_::_,0=>rfl
 |a::l,j+1=>by simp[nu f l j]
theorem RM.del(M:RM m rs)(hn:(rs.map (·.1)).Nodup)(nm:ByteArray):RM (oT .string m (.string nm)) (Er rs nm):=by
 unfold oT;rcases arN (d:=.string) (k:=.string nm) trivial m.1.toList 0 M.key with⟨h1,h2⟩|⟨j,e,h1,h2,h3⟩
 ·rw[h1]
  have:Er rs nm=rs:=by
   unfold Er;rw[asn];intro q hq;simp only[decide_eq_true_eq];intro hqe;rw[<-M.map]at hq;obtain⟨x,hx,rfl⟩:=arG.1 hq;exact h2 x hx (by rw[(M.at_ hx).1,hqe])
  rw[this];exact M
 ·rw[h1]
  simp only[asf];have hj:=M.get h2;have hr:(Eh e).1=nm:=by
   have:=(M.at_ (arE h2)).1;rw[h3]at this;exact(Value.string.inj this).symm
  have hd:Er rs nm=rs.eraseIdx j:=uJ fun i x hi=>by
   simp only[decide_eq_true_eq]
   constructor
   ·rintro h rfl
    rw[hj]at hi;cases hi;exact h hr
   ·intro h e'
    exact h (nq hn hi hj (by rw[e',hr]))
  have hl:(m.1.eraseIdxIfInBounds j).toList=m.1.toList.eraseIdx j:=by
   have bf:j<m.1.size:=by simpa using(arK.1 h2).1
   rw[Array.eraseIdxIfInBounds,dif_pos bf];simp
  have sK:List.Sublist (m.1.toList.eraseIdx j) m.1.toList:=List.eraseIdx_sublist _ _;refine⟨?_,fun x hx=> ?_,?_⟩
  ·rw[hl,hd,nu,nu,M.BW]
  ·rw[hl]at hx
   exact M.ND x (sK.subset hx)
  ·rw[hl]
   exact M.nd.sublist (sK.map _)
def aY(i n next:Nat)(row:List Value)(mo mr:Array MapEntry×Nat):Sym:=dg [i,n,0,next] [] [[],[],[],row] [(#[],0),mo,mr]
def aYx(i n next id ref:Nat)(nm:Value)(row:List Value)(mo mr:Array MapEntry×Nat):Sym:=dg [i,n,0,next,id,(id+1:Nat),ref,(max next (id+1):Nat),0,(i+1:Nat)] [.bool false,.bool false,.bool false,.bool false,.bool false,.bool false,.bool false,.bool false,nm] [[],[],[],row] [(#[],0),mo,mr]
theorem CI{φ:Ren}{rl:List (R×Value)}{i:Nat}{r:R×Value}(qP:rl[i]? =some r)(hn:rl.length<=100000)(s0:φ.y.s 0=i)(s1:φ.y.s 1=rl.length)(s9:φ.y.s 9=(i+1:Nat))(hw:φ.w 3=bL rl){rv:List V}(gh:J φ rv (fO r))(hlen:rv.length=18)
  {bd:List (Nat×Int×Int)}{bn:List (BinOp×V×V×V)}{mx:List (V×V×V)}{qs:List Nat}{qc:List (FuncId×List V×V)}
  (h1:cI (fun e:Nat×Int×Int=>e.2.1<=φ.s e.1/\φ.s e.1<=e.2.2) bd)(h2:cI (fun e:BinOp×V×V×V=>fT φ.y e.1 e.2.1 e.2.2.1 e.2.2.2) bn)
  (h3:cI (fun e:V×V×V=>∃k x y,aR φ.y e.1=some (k,x)/\aR φ.y e.2.1=some (k,y)/\aR φ.y e.2.2=some (k,if y>x then y else x)) mx)(h4:cI (fun x=>∃s,φ.q x=.string s) qs)
  (h5:cI (fun e:FuncId×List V×V=>∀af,Le φ af->∀args',J af e.2.1 args'->Quiet Tryz.prog φ.y.k e.1 args' fun u=>VR af e.2.2 u) qc):aA Tryz.prog (wU rv bd bn mx qs qc) φ:=by
 have hi:i<rl.length:=(arK.1 qP).1;refine⟨h1,⟨?_,?_,h2⟩,h3,agm,⟨⟨(by show 0<18;decide),hlen,i,s0,?_,?_⟩,agm⟩,h4,agm,agm,h5⟩
 ·exact .lss (k:=.i64) (x:=i) (y:=rl.length) (by simp only[aR,s0]) (by simp only[aR,s1]) (by simp;omega)
 ·exact .add (k:=.i64) (x:=i) (y:=1) (by simp only[aR,s0]) rfl (by simp only[aR,s9];rfl) (i64_in (by omega))
 ·show(i+1)*18<=(φ.w 3).length
  rw[hw,fe];omega
 ·show J φ rv (((φ.w 3).drop (i*18)).take 18)
  rw[hw,CH qP];exact gh
theorem GR{k oid aP id nm:V}{k':Int}{oid':Nat}{ZM:Value}{id':Nat}{nm':Value}(h1:VR φ k (.int .i64 k'))(h2:VR φ oid (.int .i64 oid'))(h3:VR φ aP ZM)(h4:VR φ id (.int .i64 id'))(h5:VR φ nm nm'):J φ (nZ k oid aP id nm) (recC k' oid' ZM id' nm'):=J.cons h1 (J.cons h2 (J.cons vI (J.cons vI (J.cons h3 (J.cons h4 (J.cons vI (J.cons h5 (J.cons (vS (by simp)) (J.cons vN (J.cons vI (J.cons (vS (by simp)) (J.cons (vS (by simp)) (J.cons (vS (by simp)) (J.cons vI (J.cons vI (J.cons (vS (by simp)) (J.cons (vS (by simp)) J.nil)))))))))))))))))
theorem yR{n:Nat}{w:World}{rl:List (R×Value)}{s:od}{i:Nat}{o:O}{v:Value}{k vV:V}{nb:Nat}{HB:List (Nat×aQ)}(GS:aW sW 77 bq nb HB=true)(sK:iO 99 .top HB=HB)(BQ:rG 98 HB=true)(BV:KN k vV o)
  (ba:sO (ar E1 (wW nb)) 400 (eB.take 100) (U 77 bq) (ak (nb+1) ((nb,pb k vV)::HB)) .n AK 77 bq 14 (oa k vV) [(13,nb)]=true)
  (pR:(bG yQ (U 77 bq) (ak 14 (oa k vV)) 77 bq 13 (dI mw pf)).isSome=true)(qP:rl[i]? =some (.put o,v))(hn:rl.length<=100000)(mZ:cB w (o,v))(lG:1<=o.id/\o.id<=100000)(qS:o.ref<=100000)(LB:s.next<=100001)(Gz:(s.bS.map (·.1.id)).Nodup)
  {φ:Ren}{mr:Array MapEntry×Nat}{a:Act}{w':World}(hs:ad φ w.heap.size (U 77 bq) (ak nb HB) a w')(hd:a.defers=[])(hg:GB w.heap.size w w')(oV:bD φ (aY i rl.length s.next (bL rl) (kh s.bS) mr)){Q:Act->World->Prop}
  (hQ:∀af a' w'',ad af w.heap.size (U 77 bq) (ak 13 (dI mw pf)) a' w''->a'.defers=[]->GB w.heap.size w w''->bD af (aY (i+1) rl.length (max s.next (o.id+1)) (bL rl) (kh (my s.bS (o,v))) mr)->Q a' w''):
  aC none n E0.P (fun e a' w''=>e=.normal/\Q a' w'') eB a w':=by
 obtain⟨n1,n2,n3,n4⟩:=oV;have Vn:1<=rf o/\rf o<=100000:=by unfold rf;split<;>omega
 obtain⟨ay,b9,m1,m2,m3,m4⟩:=hs.gY GS (y:=aYx i rl.length s.next o.id (rf o) (.bool false) (bL rl) (kh s.bS) mr)
  ⟨⟨(agB n1 0).symm,(agB n1 1).symm,(agB n1 3).symm,agm⟩,agm,⟨(agB n3 3).symm,agm⟩,⟨(agB n4 1).symm,(agB n4 2).symm,agm⟩⟩
 obtain⟨r,xR,hr⟩:=mZ;have cM:=hg.at_ rfl hr;have s6:ay.s 6=((rf o:Nat):Int):=agB m1 6;have bB:=b9.lb cM BQ 99 .top (pb k vV) (fun h=>h) ⟨_,rfl,by
  rw[ase (by rw[asl,dj];exact arT 4)];exact(BV ay s6).1,by rw[dj];exact arT 4,rfl⟩ (by simp only[VR])
 rw[sK]at bB;have fb:(up ay nb r (dB o).size) nb=some r:=by simp[up]
 refine ad.ain (aq rP (wW nb)) rfl 100 (cs:=eB) ba bB (aA.dU ?_) hd (dg [(i+1:Nat),rl.length,0,(max s.next (o.id+1):Nat),o.id,0,rf o] [] [[],[],[],bL rl] [(#[],0),kh s.bS,mr]) ?_ fun af a' w'' cu cy dh jS e1 e2 e3 e4 I9=>⟨rfl,?_⟩
 ·have t3:ay.y.s 3=s.next:=agB m1 3
  have t4:ay.y.s 4=o.id:=agB m1 4;have t5:ay.y.s 5=((o.id+1:Nat):Int):=agB m1 5;have t7:ay.y.s 7=((max s.next (o.id+1):Nat):Int):=agB m1 7;refine CI (φ:=up ay nb r (dB o).size) qP hn (agB m1 0) (agB m1 1) (agB m1 9) (agB m3 3) (GR vI (by simp only[VR];exact congrArg _ t4.symm) ?_ vI (vS (by simp))) rfl ⟨⟨?_,?_⟩,⟨?_,?_⟩,agm⟩ ⟨?_,agm⟩ ⟨⟨.i64,s.next,(o.id+1:Nat),?_,?_,?_⟩,agm⟩ trivial trivial
  ·show VR _ _ v
   have adW:v=.slice (some ⟨r,0,none⟩) 1 1:=xR;rw[adW];exact NR fb (by decide)
  ·show(1:Int)<=ay.y.s 4;rw[t4];omega
  ·show ay.y.s 4<=(100000:Int);rw[t4];omega
  ·show(1:Int)<=ay.y.s 6;have:ay.y.s 6=((rf o:Nat):Int):=s6
   rw[this];omega
  ·show ay.y.s 6<=(100000:Int);have:ay.y.s 6=((rf o:Nat):Int):=s6
   rw[this];omega
  ·exact .add (k:=.i64) (x:=o.id) (y:=1) (by show some (arO,ay.y.s 4)=_;rw[t4]) rfl (by show some (arO,ay.y.s 5)=_;rw[t5];rfl) (i64_in (by omega))
  ·show some (arO,ay.y.s 3)=_;rw[t3]
  ·show some (arO,ay.y.s 5)=_;rw[t5]
  ·show some (arO,ay.y.s 7)=_
   rw[t7]
   congr 2
   split<;>omega
 ·exact Ag.au (o:=aYx i rl.length s.next o.id (rf o) (.bool false) (bL rl) (kh s.bS) mr) ⟨⟨rfl,rfl,rfl,rfl,rfl,agm⟩,agm,⟨rfl,agm⟩,⟨rfl,rfl,agm⟩⟩ m1 m2 m3 m4
 ·have Vp:af 13=some r:=I9 (13,nb) (by simp) r fb
  have oZ:Agree yQ af (ak 14 (oa k vV)) w'' (aY (i+1) rl.length (max s.next (o.id+1)) (bL rl) (kh (my s.bS (o,v))) mr):=by
   refine bC ⟨(agB e1 0).symm,(agB e1 1).symm,(agB e1 3).symm,agm⟩ trivial ⟨(agB e3 3).symm,agm⟩ ⟨?_,(agB e4 2).symm,agm⟩;intro r4 es m pJ jE;obtain⟨oU,c',g7,mu,_⟩:=cu.hr.qR pJ (x:=1) (d:=.int .i64) (us:=[(.y .i64 4,some (.a (lr 13)))]) rfl;rw[jE]at g7;cases g7;simp only[MU,lr,VR,J]at mu;obtain⟨_,_,rfl,⟨cs,rfl,_,_,q1,rfl,_,_,rfl,rfl,_,_,rfl,rfl,_,_,rfl,⟨Vo,ajX,_,rfl⟩,rfl⟩,_,mu⟩:=mu;rw[Vp]at ajX;cases ajX;rw[mu];have g1:af.g 1=kh s.bS:=agB e4 1;have t4:af.s 4=o.id:=agB e1 4;rw[t4]at q1;rw[g1,t4];show kh (my s.bS (o,v))=_;rw[<-Sz Gz];have adW:v=.slice (some ⟨r,0,none⟩) 1 1:=xR;have:cs=(gK (o,v)).toArray:=arC.1 (by rw[q1,adW];rfl);rw[this];rfl
  obtain⟨aV,dx,j1,j2,j3,j4⟩:=cu.conv pR _ oZ;exact hQ aV a' w'' dx cy (hg.trans dh) ⟨j1,j2,j3,j4⟩
theorem adX(h:RN nm)(hq:φ.q 8=.string nm):cI (fun e:FuncId×List V×V=>∀af,Le φ af->∀args',J af e.2.1 args'->Quiet Tryz.prog φ.y.k e.1 args' fun u=>VR af e.2.2 u) [(93,[.q 8],.b true)]:=by
 refine⟨fun af hle args' ha=> ?_,agm⟩;simp only[J,VR]at ha;obtain⟨_,_,rfl,⟨rfl,_⟩,rfl⟩:=ha;rw[hle.qy,hq];exact acq (h _) fun v hv=>by simp only[VR];exact hv
theorem wX{n:Nat}{w:World}{rl:List (R×Value)}{s:od}{i:Nat}{r:R×Value}{nb:Nat}{HB BS:List (Nat×aQ)}{id:Nat}{nm:ByteArray}{rv:List V}{bd:List (Nat×Int×Int)}(GS:aW sW 77 bq nb HB=true)
  (ba:av (ar E1 (wU rv bd [] [] [8] [(93,[.q 8],.b true)])) 400 (eB.take 100) (U 77 bq) (ak nb HB) .n sX 77 bq nb BS=true)(qP:rl[i]? =some r)(hn:rl.length<=100000)(Zo:RN nm)
  (gh:∀φ:Ren,φ.s 4=id->φ.q 8=.string nm->J φ rv (fO r))(hlen:rv.length=18)(bK:∀φ:Ren,φ.s 4=id->cI (fun e:Nat×Int×Int=>e.2.1<=φ.s e.1/\φ.s e.1<=e.2.2) bd)
  {φ:Ren}{mr:Array MapEntry×Nat}{a:Act}{w':World}(hs:ad φ w.heap.size (U 77 bq) (ak nb HB) a w')(hd:a.defers=[])(hg:GB w.heap.size w w')(oV:bD φ (aY i rl.length s.next (bL rl) (kh s.bS) mr)){Q:Act->World->Prop}
  (hQ:∀af a' w'',ad af w.heap.size (U 77 bq) (ak nb BS) a' w''->a'.defers=[]->GB w.heap.size w w''->bD af (dg [(i+1:Nat),rl.length,0,s.next,id] [.bool false,.bool false,.bool false,.bool false,.bool false,.bool false,.bool false,.bool false,.string nm] [[],[],[],bL rl] [(#[],0),kh s.bS,mr])->Q a' w''):
  aC none n E0.P (fun e a' w''=>e=.normal/\Q a' w'') eB a w':=by
 obtain⟨n1,n2,n3,n4⟩:=oV;obtain⟨ay,b9,m1,m2,m3,m4⟩:=hs.gY GS (y:=aYx i rl.length s.next id 0 (.string nm) (bL rl) (kh s.bS) mr)
  ⟨⟨(agB n1 0).symm,(agB n1 1).symm,(agB n1 3).symm,agm⟩,agm,⟨(agB n3 3).symm,agm⟩,⟨(agB n4 1).symm,(agB n4 2).symm,agm⟩⟩
 have q8:ay.q 8=.string nm:=agB m2 8;have s4:ay.s 4=id:=agB m1 4;refine ad.dc (aq rP _) rfl 100 (cs:=eB) ba b9 (aA.dU (CI qP hn (agB m1 0) (agB m1 1) (agB m1 9) (agB m3 3) (gh ay s4 q8) hlen (bK ay s4) trivial trivial ⟨⟨nm,q8⟩,agm⟩ (adX Zo q8))) hd _ ?_ fun af a' w'' cu cy dh jS e1 e2 e3 e4=>⟨rfl,hQ af a' w'' cu cy (hg.trans dh) ⟨e1,e2,e3,e4⟩⟩
 exact Ag.au (o:=aYx i rl.length s.next id 0 (.string nm) (bL rl) (kh s.bS) mr) ⟨⟨rfl,rfl,rfl,rfl,agm⟩,⟨⟨rfl,rfl⟩,agm⟩,⟨rfl,agm⟩,⟨rfl,rfl,agm⟩⟩ m1 m2 m3 m4
theorem ny{B:Nat}{nb:Nat}{HB BS:List (Nat×aQ)}{us:List (V×Option V)}(h5:mO BS 5=.gS 2 .string us)(pR:(bG qN (U 77 bq) (ak nb BS) 77 bq nb HB).isSome=true){φ:Ren}{a:Act}{w:World}(hs:ad φ B (U 77 bq) (ak nb BS) a w){i n next:Nat}{id:Int}{nm:Value}{row:List Value}{mo mr mr':Array MapEntry×Nat}
  (hn:bD φ (dg [i,n,0,next,id] [.bool false,.bool false,.bool false,.bool false,.bool false,.bool false,.bool false,.bool false,nm] [[],[],[],row] [(#[],0),mo,mr]))(Pb:∀m,MU φ .string mr us m->m=mr'):
  ∃af,ad af B (U 77 bq) (ak nb HB) a w/\bD af (aY i n next row mo mr'):=by
 obtain⟨n1,n2,n3,n4⟩:=hn;have oZ:Agree qN φ (ak nb BS) w (aY i n next row mo mr'):=by
  refine bC ⟨(agB n1 0).symm,(agB n1 1).symm,(agB n1 3).symm,agm⟩ trivial ⟨(agB n3 3).symm,agm⟩ ⟨(agB n4 1).symm,?_,agm⟩;intro r es m hr jE;obtain⟨oU,c',g7,mu,_⟩:=hs.hr.qR hr (x:=2) (d:=.string) (us:=us) h5;rw[jE]at g7;cases g7;have g2:φ.g 2=mr:=agB n4 2;rw[g2]at mu;exact(Pb _ mu).symm
 obtain⟨aV,dx,j1,j2,j3,j4⟩:=hs.conv pR _ oZ;exact⟨aV,dx,j1,j2,j3,j4⟩
def Xf(w:World)(rl:List (R×Value))(s0:od)(i:Nat)(a:Act)(w':World):Prop:=∃φ mr,(ad φ w.heap.size (U 77 bq) (ak 10 (fE mw pf)) a w'\/ad φ w.heap.size (U 77 bq) (ak 13 (dI mw pf)) a w')/\a.defers=[]/\GB w.heap.size w w'/\
  bD φ (aY i rl.length (s0.run (rl.take i)).next (bL rl) (kh (s0.run (rl.take i)).bS) mr)/\RM mr (s0.run (rl.take i)).roots
theorem SA{n:Nat}{w:World}{rl:List (R×Value)}{s0:od}(jQ:nj w s0)(jD:∀r∈rl,Sw w r)(hn:rl.length<=100000)(hi:i<rl.length)(h:Xf w rl s0 i a w'):
  aC none n E0.P (fun e a' w''=>e=.normal/\Xf w rl s0 (i+1) a' w'') eB a w':=by
 obtain⟨φ,mr,bB,hd,hg,oV,M⟩:=h;obtain⟨r,qP⟩:∃r,rl[i]? =some r:=⟨rl[i],asd hi⟩
 have hB:nj w (s0.run (rl.take i)):=jQ.run fun r hr=>jD r (List.mem_of_mem_take hr)
 have b9:s0.run (rl.take (i+1))=(s0.run (rl.take i)).step r:=by
  rw[List.take_add_one,qP];exact Sy _ _ _
 have hr:=jD r (arE qP);unfold Xf;rw[b9]
 generalize s0.run (rl.take i)=s at*
 obtain⟨r,v⟩:=r;cases r with
 |put o=>
  obtain⟨h1,h2,h3⟩:=hr;have fin:∀af a' w'',ad af w.heap.size (U 77 bq) (ak 13 (dI mw pf)) a' w''->a'.defers=[]->GB w.heap.size w w''->bD af (aY (i+1) rl.length (max s.next (o.id+1)) (bL rl) (kh (my s.bS (o,v))) mr)->∃φ mr,(ad φ w.heap.size (U 77 bq) (ak 10 (fE mw pf)) a' w''\/ad φ w.heap.size (U 77 bq) (ak 13 (dI mw pf)) a' w'')/\a'.defers=[]/\GB w.heap.size w w''/\
    bD φ (aY (i+1) rl.length (s.step (.put o,v)).next (bL rl) (kh (s.step (.put o,v)).bS) mr)/\RM mr (s.step (.put o,v)).roots:=fun af a' w'' cu cy dh kZ=>⟨af,mr,.inr cu,cy,dh,kZ,M⟩
  by_cases h0:o.ref=0
  ·rcases bB with hs|hs
   ·exact yR AD rfl rfl (DY h0) W7 Me qP hn h1 h2 h3 hB.nx.2 hB.nd hs hd hg oV fin
   ·exact yR AJ rfl rfl (DY h0) W9 Me qP hn h1 h2 h3 hB.nx.2 hB.nd hs hd hg oV fin
  ·rcases bB with hs|hs
   ·exact yR AD rfl rfl (DX h0) W6 Md qP hn h1 h2 h3 hB.nx.2 hB.nd hs hd hg oV fin
   ·exact yR AJ rfl rfl (DX h0) W8 Md qP hn h1 h2 h3 hB.nx.2 hB.nd hs hd hg oV fin
 |root nm id=>
  obtain⟨h1,h2⟩:=hr
  by_cases h0:id=0
  ·have est:s.step (.root nm id,v)=⟨s.bS,Er s.roots nm,s.next⟩:=by simp[od.step,h0]
   rw[est];have gh:∀φ:Ren,φ.s 4=((id:Nat):Int)->φ.q 8=.string nm->J φ (nZ (.i .i64 2) (.i .i64 0) nl (.i .i64 0) (.q 8)) (fO (.root nm id,v)):=fun φ _ hq=>GR vI vI vN (by rw[h0];exact vI) (by simp only[VR];exact⟨hq.symm,rfl⟩)
   have Pb:∀(φ:Ren),φ.q 8=.string nm->∀m,MU φ .string mr [(.q 8,none)] m->m=oT .string mr (.string nm):=fun φ hq m mu=>by
    simp only[MU,VR]at mu;obtain⟨_,⟨rfl,_⟩,_,rfl⟩:=mu;rw[hq]
   rcases bB with hs|hs
   ·refine wX AD adP qP hn h1 gh rfl (fun _ _=>trivial) hs hd hg oV fun af a' w'' cu cy dh kZ=> ?_
    obtain⟨aV,dx,Mf⟩:=ny rfl Xc cu kZ (Pb af (agB kZ.2.1 8));exact⟨aV,_,.inl dx,cy,dh,Mf,M.del hB.Pa nm⟩
   ·refine wX AJ adQ qP hn h1 gh rfl (fun _ _=>trivial) hs hd hg oV fun af a' w'' cu cy dh kZ=> ?_
    obtain⟨aV,dx,Mf⟩:=ny rfl Xd cu kZ (Pb af (agB kZ.2.1 8));exact⟨aV,_,.inr dx,cy,dh,Mf,M.del hB.Pa nm⟩
  ·have est:s.step (.root nm id,v)=⟨s.bS,qW s.roots nm id,s.next⟩:=by simp[od.step,h0]
   rw[est];have gh:∀φ:Ren,φ.s 4=((id:Nat):Int)->φ.q 8=.string nm->J φ (nZ (.i .i64 2) (.i .i64 0) nl (.y .i64 4) (.q 8)) (fO (.root nm id,v)):=fun φ ll hq=>GR vI vI vN (by simp only[VR,ll]) (by simp only[VR];exact⟨hq.symm,rfl⟩)
   have bK:∀φ:Ren,φ.s 4=((id:Nat):Int)->cI (fun e:Nat×Int×Int=>e.2.1<=φ.s e.1/\φ.s e.1<=e.2.2) [(4,1,100000)]:=fun φ ll=>⟨⟨by show(1:Int)<=_;rw[ll];omega,by show _<=(100000:Int);rw[ll];omega⟩,agm⟩
   have Pb:∀(φ:Ren),φ.q 8=.string nm->φ.s 4=((id:Nat):Int)->∀m,MU φ .string mr [(.q 8,some (.y .i64 4))] m->m=iq .string mr (.string nm) (.int .i64 id):=fun φ hq ll m mu=>by
    simp only[MU,VR]at mu;obtain⟨_,_,⟨rfl,_⟩,rfl,_,rfl⟩:=mu;rw[hq,ll]
   rcases bB with hs|hs
   ·refine wX AD adN qP hn h1 gh rfl bK hs hd hg oV fun af a' w'' cu cy dh kZ=> ?_
    obtain⟨aV,dx,Mf⟩:=ny rfl Xa cu kZ (Pb af (agB kZ.2.1 8) (agB kZ.1 4));exact⟨aV,_,.inl dx,cy,dh,Mf,M.set hB.Pa nm id⟩
   ·refine wX AJ adO qP hn h1 gh rfl bK hs hd hg oV fun af a' w'' cu cy dh kZ=> ?_
    obtain⟨aV,dx,Mf⟩:=ny rfl Xb cu kZ (Pb af (agB kZ.2.1 8) (agB kZ.1 4));exact⟨aV,_,.inr dx,cy,dh,Mf,M.set hB.Pa nm id⟩
 |snap nm id=>
  obtain⟨h1,h2⟩:=hr;have gh:∀φ:Ren,φ.s 4=((id:Nat):Int)->φ.q 8=.string nm->J φ (nZ (.i .i64 5) (.i .i64 0) nl (.y .i64 4) (.q 8)) (fO (.snap nm id,v)):=fun φ ll hq=>GR vI vI vN (by simp only[VR,ll]) (by simp only[VR];exact⟨hq.symm,rfl⟩)
  have bK:∀φ:Ren,φ.s 4=((id:Nat):Int)->cI (fun e:Nat×Int×Int=>e.2.1<=φ.s e.1/\φ.s e.1<=e.2.2) [(4,0,1)]:=fun φ ll=>⟨⟨by show(0:Int)<=_;rw[ll];omega,by show _<=(1:Int);rw[ll];omega⟩,agm⟩
  have Pb:∀(φ:Ren) m,MU φ .string mr [] m->m=mr:=fun φ m mu=>mu
  rcases bB with hs|hs
  ·refine wX AD adR qP hn h1 gh rfl bK hs hd hg oV fun af a' w'' cu cy dh kZ=> ?_
   obtain⟨aV,dx,Mf⟩:=ny (HB:=fE mw pf) rfl (by decide+kernel) cu kZ (Pb af);exact⟨aV,_,.inl dx,cy,dh,Mf,M⟩
  ·refine wX AJ adS qP hn h1 gh rfl bK hs hd hg oV fun af a' w'' cu cy dh kZ=> ?_
   obtain⟨aV,dx,Mf⟩:=ny (HB:=dI mw pf) rfl (by decide+kernel) cu kZ (Pb af);exact⟨aV,_,.inr dx,cy,dh,Mf,M⟩
def SB:List (Nat×V):=[(1,nl),(4,.p (some (0,0))),(8,.p (some (7,0)))]
theorem adY:av (ar E0 {}) 100 ((jC.drop 6).take 2) (U 77 (jG 4 nl JU)) (ak 9 (iO 4 nl ((8,qd)::rO))) .n {s:=[(3,.y 3)],g:=[(1,.same 1),(2,.same 2)]} 77 SB 8 rO=true:=by decide+kernel
def sY(x:V):List (Nat×V):=[(1,x),(4,.p (some (0,0))),(8,.q 5)]
def qe:List (Nat×aQ):=[(0,zW),(1,.rw 3 60)]
def SC:bP:={s:=[(1,.y 1)],q:=[(5,.p (some (7,0)))],w:=[(3,.same 3)]}
def Xg:bP:={q:=[(5,.p (some (7,0)))]}
theorem adZ:(bG SC (U 77 bq) (ak 10 (fE mw pf)) 77 (sY (.sr 1 3 0 18)) 2 qe).isSome=true:=by decide+kernel
theorem ad0:(bG SC (U 77 bq) (ak 13 (dI mw pf)) 77 (sY (.sr 1 3 0 18)) 2 qe).isSome=true:=by decide+kernel
theorem ad1:(bG Xg (U 77 SB) (ak 8 rO) 77 (sY nl) 1 [(0,zW)]).isSome=true:=by decide+kernel
theorem ad2:∃id,jC.drop 8=.region id (aN (jC.drop 8)) false::jC.drop 9:=⟨_,rfl⟩
def sZ(x:V):List (Nat×V):=[(1,x),(4,.p (some (0,0))),(64,.q 5)]
def s8:bP:={s:=[(1,.y 1)],q:=[(5,.q 5)],w:=[(3,.same 3)]}
theorem SD:bH (ar E0 {}) 100 (aN (jC.drop 8)) ((aN (jC.drop 8)).toList.take 1) (U 77 (sY (.sr 1 3 0 18))) (ak 2 qe) s8 77 (sZ (.sr 1 3 0 18)) 2 qe=true:=by decide+kernel
theorem ad3:bH (ar E0 {}) 100 (aN (jC.drop 8)) ((aN (jC.drop 8)).toList.take 1) (U 77 (sY nl)) (ak 1 [(0,zW)]) s8 77 (sZ nl) 1 [(0,zW)]=true:=by decide+kernel
theorem Mg:aW s8 77 (sZ (.sr 1 3 0 18)) 2 qe=true:=by decide+kernel
theorem Xh:aW s8 77 (sZ nl) 1 [(0,zW)]=true:=by decide+kernel
def JX(x:V):List (Nat×V):=(65,.a [.q 0,.q 1,.q 2,.y .i64 3])::sZ x
def wZ(x:V):List (Nat×V):=[(1,x),(4,.p (some (0,0))),(15,.p (some (2,0)))]
def tc:bP:={s:=[(1,.y 1),(3,.y 3)],q:=[(0,.q 0),(1,.q 1),(2,.q 2)],w:=[(3,.same 3)]}
theorem SE:bH (ar E0 {}) 100 (aN (jC.drop 8)) (((aN (jC.drop 8)).toList.drop 2).take 100) (U 77 (JX (.sr 1 3 0 18))) (ak 2 qe) tc 77 (wZ (.sr 1 3 0 18)) 3 ((2,lq)::qe)=true:=by decide+kernel
theorem ad4:bH (ar E0 {}) 100 (aN (jC.drop 8)) (((aN (jC.drop 8)).toList.drop 2).take 100) (U 77 (JX nl)) (ak 1 [(0,zW)]) tc 77 (wZ nl) 3 [(2,lq),(0,zW)]=true:=by decide+kernel
def ad5:aU:={qc:=[(24,fD,.i .i64 0)],rz:=[(3,18)],rl:=[(3,0,1)]}
def Xi:aU:={qc:=[(24,fD,.i .i64 0)]}
def JY(x:V):List (Nat×V):=[(4,.p (some (0,0))),(5,x),(6,.i .i64 0)]
theorem SF:av (ar E0 ad5) 100 ((jC.drop 9).take 10) (U 77 (wZ (.sr 1 3 0 18))) (ak 3 ((2,lq)::qe)) .r tc 77 (JY (.y .i64 1)) 1 [(0,lq)]=true:=by decide+kernel
theorem ad6:av (ar E0 Xi) 100 ((jC.drop 9).take 10) (U 77 (wZ nl)) (ak 3 [(2,lq),(0,zW)]) .r tc 77 (JY (.i .i64 0)) 1 [(0,lq)]=true:=by decide+kernel
theorem ad.subst{w:World}(hs:ad φ B (U nt L) (ak nb HB) a w)(x:Nat)(p:V)(hp:VR φ p (φ.q x)):ad φ B (U nt (jG x p L)) (ak nb (iO x p HB)) a w:=by
 have hle:=Le.refl φ;have dZ:∀b,(ak nb (iO x p HB)).get b=Gk x p ((ak nb HB).get b):=fun b=>by rw[aH,aH,yP]
 refine⟨⟨hs.fr.1,fun k=> ?_⟩,⟨hs.hr.iL,hs.hr.lM,fun b r e hl=> ?_,fun b b' r e e' hl ru=> ?_,fun r o hk=>⟨(hs.hr.kp r o hk).1,fun b e=> ?_⟩⟩,fun b r e hm=> ?_,fun r h=> ?_,hs.bz⟩
 ·rw[cA,yO]
  have:=hs.fr.2 k;rw[cA]at this;exact nR hle hp _ _ this
 ·rw[dZ]at hl⊢
  obtain⟨o,h1,h2⟩:=hs.hr.ew b r e ((cU x p _).1.1 hl);exact⟨o,h1,DK hle hp _ h2⟩
 ·rw[dZ]at hl ru
  exact hs.hr.inj b b' r e e' ((cU x p _).1.1 hl) ((cU x p _).1.1 ru)
 ·rw[dZ]
  exact fun hm=>(hs.hr.kp r o hk).2 b e ((cU x p _).2.1 hm)
 ·rw[dZ]at hm
  exact hs.loc b r e ((cU x p _).2.1 hm)
 ·exact hs.kf r fun b e hm=>h b e (by rw[dZ];exact(cU x p _).2.2 hm)
variable{e:TypeId}
theorem mz{N:Nat}{l:List V}{g:Bool}{es:Array MapEntry}{c:Nat}:¬BR φ N (.cells l e g) (.map es c):=fun⟨_,h,_⟩=>by cases h
theorem jf{N:Nat}{l:List V}{es:Array MapEntry}{c:Nat}:¬BR φ N (.rc l e) (.map es c):=fun⟨_,h,_⟩=>by cases h
theorem qf{N:Nat}{l:List V}{T:TypeId}{g:Bool}(h:e≠T):¬BR φ N (.cells l e g) (.cells c T (0,0)):=fun⟨_,h',_⟩=>by cases h';exact h rfl
theorem uK{N:Nat}{l:List V}{T:TypeId}(h:e≠T):¬BR φ N (.rc l e) (.cells c T (0,0)):=fun⟨_,h',_⟩=>by cases h';exact h rfl
theorem uL{N:Nat}{es:List (V×V×Nat)}{k:Nat}{T:TypeId}:¬BR φ N (.mp es k) (.cells c T (0,0)):=fun⟨_,h,_⟩=>by cases h
theorem jo{N:Nat}{x:Nat}{d:TypeDesc}{us:List (V×Option V)}{T:TypeId}:¬BR φ N (.gS x d us) (.cells c T (0,0)):=fun⟨_,_,h,_⟩=>by cases h
theorem ad.uM{w:World}(hs:ad φ B (U nt L) (ak nb HB) a w){r:Nat}{ob:Obj}(ho:w.heap[r]? =some ob)(h:∀b,b<nb->φ b=some r->¬(∀N,N=φ.n b->BR φ N (mO HB b) ob)/\(mO HB b).live):∀b,φ b≠some r:=fun b e=>by
 have hb:=(hs.hr.lM b r e).1;obtain⟨h1,h2⟩:=h b hb e;obtain⟨o,g1,g2⟩:=hs.hr.ew b r e (by rw[aH];exact h2);rw[ho]at g1;cases g1;rw[aH]at g2;exact h1 fun N hN=>by rw[hN];exact g2
theorem ad.Aw{φ:Ren}{B:Nat}{L:List (Nat×V)}{a:Act}{w w':World}(hs:ad φ B (U 77 L) (ak 1 [(0,zW)]) a w)(sK:∀p,jG 99 p L=L)(hg:Grown w w'){ln:Value}{next rb rk rv ro rr:Nat}{mo mr:Array MapEntry×Nat}(hb:LZ w' w.heap.size ln next mo mr rb rk rv ro rr)(pa:dG w' ln)
  (ez:φ.s 3=next)(kx:φ.g 1=mo)(iK:φ.g 2=mr)(z8:∀e∈mo.1.toList,asa (.int .i64) e.key)(Ic:∀e∈mr.1.toList,asa .string e.key):
  ∃af,ad af B (U 77 L) (ak 8 rO) a w'/\af.s=φ.s/\af.q=φ.q/\af.w=φ.w/\af.g=φ.g/\af 7=some rb:=by
 have hBw:=hs.bz;obtain⟨ay,b9,e1,e2,e3,e4,e5,_⟩:=hs.aio hg;have aoN:∀b r,ay b=some r->r<w.heap.size:=fun b r e=>by rw[e5]at e;exact(hs.hr.lM b r e).2
 obtain⟨rl,rf,cl,cf,rfl,h2,h3,h4,h5⟩:=pa;have l4:4<=cf.size:=by have:=congrArg ash h4;simp at this;omega
 have l5:3<=cl.size:=by have:=congrArg ash h5;simp at this;omega
 have dx:=b9.lb h2 rfl 99 .top CE (fun h=>h) ⟨_,rfl,by
  show J _ _ (cf.toList.take 4);rw[h4];exact J.cons (vS (by decide)) (J.cons vI (J.cons vI (J.cons vB J.nil))),l4,rfl⟩ (by simp only[VR])
 rw[sK]at dx;have u1:(up ay 1 rf cf.size) 1=some rf:=by simp[up]
 have Xj:=ad.lb (HB:=[(1,CE),(0,zW)]) dx h3 rfl 99 .top GO (fun h=>h) ⟨_,rfl,by
  show J _ _ (cl.toList.take 3);rw[h5];exact J.cons (vS (by decide)) (J.cons (NR u1 (by decide)) (J.cons vN J.nil)),l5,rfl⟩ (by simp only[VR])
 rw[sK]at Xj;have u2:(up (up ay 1 rf cf.size) 2 rl cl.size) 2=some rl:=by simp[up]
 have u0:∀r,(up (up ay 1 rf cf.size) 2 rl cl.size) 0=some r->r<w.heap.size:=fun r e=>aoN 0 r (by simpa[up]using e)
 have n1:(up (up ay 1 rf cf.size) 2 rl cl.size).s=φ.s:=e1;have n2:(up (up ay 1 rf cf.size) 2 rl cl.size).q=φ.q:=e2;have n3:(up (up ay 1 rf cf.size) 2 rl cl.size).w=φ.w:=e3;have n4:(up (up ay 1 rf cf.size) 2 rl cl.size).g=φ.g:=e4
 generalize up (up ay 1 rf cf.size) 2 rl cl.size=aV at Xj u2 u0 n1 n2 n3 n4
 have ZN:ad aV B (U 77 L) (ak 3 [(2,GO),(1,CE),(0,zW)]) a w':=Xj;clear Xj;obtain⟨ab1,ab2,ab3,ab4,ab5⟩:=hb.ai0;have ap:=hb.apart;obtain⟨eH,t3,a3,_,o3,s3,q3,w3,g3⟩:=ZN.Gl (N:=0) hb.views (by omega) (ZN.uM hb.views fun b Pc e=>by
  have:b=0\/b=1\/b=2:=by omega
  rcases this with rfl|rfl|rfl
  ·exact⟨fun h=>mz (h _ rfl),agm⟩
  ·exact⟨fun h=>jf (h _ rfl),agm⟩
  ·exact⟨fun h=>jf (h _ rfl),agm⟩) (.mp [] 0) trivial ⟨#[],rfl,by simp[fB]⟩
 obtain⟨jn,t4,a4,_,o4,s4,q4,w4,g4⟩:=t3.Gl (N:=0) hb.bS (by omega) (t3.uM hb.bS fun b Pc e=>by
  have:b=0\/b=1\/b=2\/b=3:=by omega
  rcases this with rfl|rfl|rfl|rfl
  ·exact⟨fun h=>mz (h _ rfl),agm⟩
  ·exact⟨fun h=>jf (h _ rfl),agm⟩
  ·exact⟨fun h=>jf (h _ rfl),agm⟩
  ·rw[a3]at e;cases e;exact absurd rfl ap.1) (.gS 1 (.int .i64) []) trivial ⟨_,_,rfl,by
   show(mo.1,mo.2)=eH.g 1;rw[g3,n4,kx],z8⟩
 obtain⟨jH,t5,a5,_,o5,s5,q5,w5,g5⟩:=t4.Gl (N:=0) hb.roots (by omega) (t4.uM hb.roots fun b Pc e=>by
  have:b=0\/b=1\/b=2\/b=3\/b=4:=by omega
  rcases this with rfl|rfl|rfl|rfl|rfl
  ·exact⟨fun h=>mz (h _ rfl),agm⟩
  ·exact⟨fun h=>jf (h _ rfl),agm⟩
  ·exact⟨fun h=>jf (h _ rfl),agm⟩
  ·rw[o4 3 (by decide),a3]at e;cases e;exact absurd rfl ap.2.1
  ·rw[a4]at e;cases e;exact absurd rfl ap.2.2) (.gS 2 .string []) trivial ⟨_,_,rfl,by
   show(mr.1,mr.2)=jn.g 2;rw[g4,g3,n4,iK],Ic⟩
 have b2:jH 2=some rl:=by rw[o5 2 (by decide),o4 2 (by decide),o3 2 (by decide),u2]
 have b3:jH 3=some rv:=by rw[o5 3 (by decide),o4 3 (by decide),a3]
 have b4:jH 4=some ro:=by rw[o5 4 (by decide),a4]
 obtain⟨NT,t6,a6,_,o6,s6,q6,w6,g6⟩:=t5.Gl (N:=2) hb.book (by omega) (t5.uM hb.book fun b Pc e=>by
  have:b=0\/b=1\/b=2\/b=3\/b=4\/b=5:=by omega
  rcases this with rfl|rfl|rfl|rfl|rfl|rfl
  ·exact⟨fun h=>qf (by decide) (h _ rfl),agm⟩
  ·exact⟨fun h=>uK (by decide) (h _ rfl),agm⟩
  ·exact⟨fun h=>uK (by decide) (h _ rfl),agm⟩
  ·exact⟨fun h=>uL (h _ rfl),agm⟩
  ·exact⟨fun h=>jo (h _ rfl),agm⟩
  ·exact⟨fun h=>jo (h _ rfl),agm⟩) AB trivial ⟨_,rfl,by
   refine J.cons (NR b2 (by decide)) (J.cons ?_ J.nil);simp only[VR];exact⟨rv,b3,rfl⟩,arT _,fun _=>rfl,rfl⟩
 obtain⟨Es,t7,a7,_,o7,s7,q7,w7,g7⟩:=t6.Gl (N:=5) hb.Aw (by omega) (t6.uM hb.Aw fun b Pc e=>by
  have:b=0\/b=1\/b=2\/b=3\/b=4\/b=5\/b=6:=by omega
  rcases this with rfl|rfl|rfl|rfl|rfl|rfl|rfl
  ·exact⟨fun h=>qf (by decide) (h _ rfl),agm⟩
  ·exact⟨fun h=>uK (by decide) (h _ rfl),agm⟩
  ·exact⟨fun h=>uK (by decide) (h _ rfl),agm⟩
  ·exact⟨fun h=>uL (h _ rfl),agm⟩
  ·exact⟨fun h=>jo (h _ rfl),agm⟩
  ·exact⟨fun h=>jo (h _ rfl),agm⟩
  ·exact⟨fun h=>qf (by decide) (h _ rfl),agm⟩) qM trivial ⟨_,rfl,by
   refine J.cons (NR (by rw[o6 2 (by decide),b2]) (by decide)) (J.cons ?_ (J.cons ?_ (J.cons ?_ (J.cons ?_ J.nil))))
   ·simp only[VR];exact⟨rk,a6,rfl⟩
   ·simp only[VR];exact⟨ro,by rw[o6 4 (by decide),b4],rfl⟩
   ·simp only[VR];exact⟨rr,by rw[o6 5 (by decide),a5],rfl⟩
   ·simp only[VR]
    rw[s6,s5,s4,s3,n1,ez],arT _,fun _=>rfl,rfl⟩
 exact⟨Es,t7,by rw[s7,s6,s5,s4,s3,n1],by rw[q7,q6,q5,q4,q3,n2],by rw[w7,w6,w5,w4,w3,n3],by rw[g7,g6,g5,g4,g3,n4],a7⟩
end Go.Ev
