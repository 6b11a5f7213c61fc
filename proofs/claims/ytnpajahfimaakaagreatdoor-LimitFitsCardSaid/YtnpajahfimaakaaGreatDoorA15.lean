/- A part of what LimitFits rests on. -/
import Derived.Test.YtnpajahfimaakaaGreatDoorA08
import Derived.Test.YtnpajahfimaakaaGreatDoorA07
import Derived.Test.YtnpajahfimaakaaGreatDoorA01
set_option linter.all false
namespace Go.Ev
open List renaming all_eq_true->aop,mem_cons_self->arC,mem_cons_of_mem->arE,range->arF,mem_range->arG,length_cons->arI,mem_cons->arJ,mem_of_getElem?->arL,flatMap_cons->arN,not_mem_nil->arP,drop_eq_getElem_cons->arR,getElem?_eq_getElem->arS,length_append->arT
open Bool renaming and_eq_true->AAA
open _root_.ByteArray renaming empty->arD
open Nat renaming le_of_ble_eq_true->arH,lt_or_ge->arO
open MapKept renaming IsKey->arK
open Instr renaming findNow->arM
open Prod renaming snd->arQ
open Go.Proofs
variable{φ:Ren}
noncomputable def uQ(k:Nat)(f:FuncId)(Vs:List V):Option V:=
 match jP (aI E3 {} {}) (exec (aI E3 {} {}) k) f Vs (ak 0 [])with
 |some (v,_)=>some v
 |none=>none
theorem eX{P:Program}:iZ P {} φ:={}
theorem aS{P:Program}:aA P {} φ:=⟨agm,agm,agm,agm,agm,agm,agm,agm,agm⟩
theorem jh{k:Nat}{f:FuncId}{Vs:List V}{v:V}(h:uQ k f Vs=some v){args:List Value}(ha:∀φ:Ren,J φ Vs args){u:Value}(hu:∀φ:Ren,∀x,VR φ v x->x=u)(XA:∃fn c,Tryz.prog.funcs[f]? =some fn/\fn.body=some c/\(fn.name== "runtime.NumGoroutine")=false)(K:Nat->Option Obj):Quiet Tryz.prog K f args (· =u):=by
 unfold uQ at h;split at h
 ·rename_i v' h' e
  cases h;have key:=fun n w=>gq (aw ah {} {}) (cV (aw ah {} {}) k).1 _ _ _ _ _ e (φ0 ⟨fun _=>0,fun _=>.bool false,fun _=>[],fun _=>(#[],0),fun _=>none⟩ w) args w n (fun g hg=>absurd hg (Nat.not_lt_zero _)) (eZ aS eX) (ha _) (bc _ w)
  refine⟨XA,fun n w _=>((key n w).2).mono ?_⟩;rintro e w' ⟨af,x,rfl,hx,hv,cM⟩;refine⟨x,rfl,hu _ _ hv,hx.size,fun r bf=> ?_,hx.os,hx.tape,hx.output⟩;have ho:w.heap[r]? =some w.heap[r]:=Array.getElem?_eq_getElem bf;rw[ho];exact(cM.kp r w.heap[r] (by rw[hx.le.yy];exact ho)).1
 ·cases h
def okS(lo hi:Nat)(l:List Nat):Bool:=l.all (fun x=>Nat.blt x 256)&&Nat.ble lo l.length&&Nat.ble l.length hi
noncomputable def Om(n:Int):Bool:=match uQ 100 40 [.i .i64 n]with|some (.s l)=>okS 1 2 l|_=>false
theorem akN:(arF 160).all (fun i=>Om ((i:Nat) -30:Int))=true:=by decide+kernel
theorem num_1:(arF 160).all (fun i=>Om ((i+160:Nat) -30:Int))=true:=by decide+kernel
theorem akO:(arF 160).all (fun i=>Om ((i+320:Nat) -30:Int))=true:=by decide+kernel
theorem akP:(arF 160).all (fun i=>Om ((i+480:Nat) -30:Int))=true:=by decide+kernel
theorem EA{lo hi:Nat}{l:List Nat}(h:okS lo hi l=true):(∀x∈l,x<256)/\lo<=(bytes l).size/\(bytes l).size<=hi:=by
 simp only[okS,AAA,aop]at h;rw[du];exact⟨fun x hx=>bh.1 (h.1.1 x hx),arH h.1.2,arH h.2⟩
theorem EB{n:Int}(h:Om n=true):∃s:ByteArray,1<=s.size/\s.size<=2/\∀K,Quiet Tryz.prog K 40 [.int .i64 n] (· =.string s):=by
 unfold Om at h;split at h
 ·rename_i l e
  obtain⟨h1,h2,h3⟩:=EA h;exact⟨bytes l,h2,h3,jh e (fun φ=>J.cons vI J.nil) (fun φ x hx=>by simp only[VR]at hx;exact hx.1) ⟨_,_,Tryz.func40,rfl,rfl⟩⟩
 ·cases h
theorem Kc{n:Int}(h: -30<=n/\n<610):∃s:ByteArray,1<=s.size/\s.size<=2/\∀K,Quiet Tryz.prog K 40 [.int .i64 n] (· =.string s):=by
 obtain⟨i,rfl⟩:∃i:Nat,n=(i:Int) -30:=⟨(n+30).toNat,by omega⟩
 rcases arO i 160 with hi|hi
 ·exact EB (aop.1 akN i (arG.2 hi))
 rcases arO i 320 with hi'|hi'
 ·have:=aop.1 num_1 (i-160) (arG.2 (by omega))
  rw[show i-160+160=i by omega]at this;exact EB this
 rcases arO i 480 with hj|hj
 ·have:=aop.1 akO (i-320) (arG.2 (by omega))
  rw[show i-320+320=i by omega]at this;exact EB this
 ·have:=aop.1 akP (i-480) (arG.2 (by omega))
  rw[show i-480+480=i by omega]at this;exact EB this
theorem cC{E:Env}(hE:E.OK)(qQ:E.ng=0){F:aU}{X:XF}{k:Nat}{f:FuncId}{Vs:List V}{nb:Nat}{HB:List (Nat×aQ)}{v:V}(hc:dN (aI E F X) k f Vs nb HB v []=true)(y:Sym){K:Nat->Option Obj}
  (hF:∀φ:Ren,φ.s=y.s->φ.q=y.q->φ.w=y.w->φ.g=y.g->(∀r o,K r=some o->φ.y.k r=some o)->aA E.P F φ)(hX:∀φ:Ren,φ.s=y.s->φ.q=y.q->φ.w=y.w->φ.g=y.g->(∀r o,K r=some o->φ.y.k r=some o)->iZ E.P X φ)
  {args:List Value}(oh:∀w:World,(∀r o,K r=some o->w.heap[r]? =some o)->∃φ:Ren,HR φ (ak nb HB) w/\φ.y={y with k:=fun r=>w.heap[r]?}/\J φ Vs args){u:Value}(hu:∀φ:Ren,φ.s=y.s->φ.q=y.q->∀x,VR φ v x->x=u)
  (XA:∃fn c,E.P.funcs[f]? =some fn/\fn.body=some c/\(fn.name== "runtime.NumGoroutine")=false):Quiet E.P K f args (· =u):=by
 refine⟨XA,fun n w hw=> ?_⟩;obtain⟨φ,hr,hy,ha⟩:=oh w hw;have e1:φ.s=y.s:=by funext x;simp only[Ren.s,hy]
 have e2:φ.q=y.q:=by funext x;simp only[Ren.q,hy]
 have e3:φ.w=y.w:=by funext x;simp only[Ren.w,hy]
 have e4:φ.g=y.g:=by funext x;simp only[Ren.g,hy]
 have e5:φ.y.k=fun r=>w.heap[r]? :=by rw[hy]
 have hk:∀r o,K r=some o->φ.y.k r=some o:=fun r o h=>by rw[e5];exact hw r o h
 refine((DN (aw hE F X) qQ hc (φ:=φ) (eZ (hF φ e1 e2 e3 e4 hk) (hX φ e1 e2 e3 e4 hk)) hr e5 ha).2 n).mono ?_;rintro e w' ⟨x,rfl,hg,af,h',hle,hv,_⟩;exact⟨x,rfl,hu af (hle.sy.trans e1) (hle.qy.trans e2) x hv,hg⟩
def kV(qY b k l r:Nat):V:=.a [.i .i64 qY,.f b [] [],.f k [] [],.f l [] [],.f r [] []]
def kW(qY b k l r:Nat):Value:=.agg #[.int .i64 qY,.func (.func b) #[] #[],.func (.func k) #[] #[],.func (.func l) #[] #[],.func (.func r) #[] #[]]
theorem Hb{qY b k l r:Nat}:VR φ (kV qY b k l r) (kW qY b k l r):=by
 simp only[kV,VR];exact⟨_,rfl,J.cons vI (J.cons (by simp only[VR];exact⟨_,_,rfl,J.nil,J.nil⟩) (J.cons (by simp only[VR];exact⟨_,_,rfl,J.nil,J.nil⟩) (J.cons (by simp only[VR];exact⟨_,_,rfl,J.nil,J.nil⟩) (J.cons (by simp only[VR];exact⟨_,_,rfl,J.nil,J.nil⟩) J.nil))))⟩
def kE(n qY b k l r born:Nat):MapEntry:={key:=.int .i64 n,val:=kW qY b k l r,born:=born}
def ca:Array MapEntry×Nat:=(#[kE 3 1 61 62 63 64 0,kE 4 2 65 66 67 68 1,kE 1 3 69 70 71 72 2,kE 2 4 73 74 75 76 3,kE 5 5 73 77 78 79 4],5)
def kMG(x:Nat):List (Nat×V×Option V):=[(x,.i .i64 3,some (kV 1 61 62 63 64)),(x,.i .i64 4,some (kV 2 65 66 67 68)),(x,.i .i64 1,some (kV 3 69 70 71 72)),(x,.i .i64 2,some (kV 4 73 74 75 76)),(x,.i .i64 5,some (kV 5 73 77 78 79))]
def akQ(φ:Ren)(e:Nat×V×Option V):Prop:=(∃kv,VR φ e.2.1 kv/\iY e.2.1=true/\∀d,arK d kv->(∀x∈(φ.g e.1).1.toList,arK d x.key)->
  match e.2.2 with
  |none=>arM d kv (φ.g e.1).1.toList 0=some none
  |some v=>∃j u,arM d kv (φ.g e.1).1.toList 0=some (some (j,u))/\VR φ v u)
theorem uR{x:Nat}(h:φ.g x=ca){n:Int}{j:Nat}{v:V}{u:Value}(hv:VR φ v u)(hf:arM (.int .i64) (.int .i64 n) ca.1.toList 0=some (some (j,u))):akQ φ (x,.i .i64 n,some v):=by
 refine⟨.int .i64 n,vI,rfl,fun d hd _=>⟨j,u,?_,hv⟩⟩;show arM d (.int .i64 n) (φ.g x).1.toList 0=_;rw[h];cases d<;>simp only[arK]at hd<;>try exact hd.elim
 subst hd;exact hf
theorem A6{φ:Ren}{x:Nat}(h:φ.g x=ca):cI (akQ φ) (kMG x):=⟨uR h Hb rfl,uR h Hb rfl,uR h Hb rfl,uR h Hb rfl,uR h Hb rfl,agm⟩
theorem On:∀e∈ca.1.toList,arK (.int .i64) e.key:=by
 intro e he;simp only[ca,arJ,List.mem_nil_iff,or_false]at he;rcases he with rfl|rfl|rfl|rfl|rfl<;>rfl
def lW(K:Nat->Option Obj)(m:Nat):Prop:=K m=some (.map ca.1 ca.2)
def kHB:List (Nat×aQ):=[(0,.rm 0 (.int .i64))]
theorem jA{y:Sym}(hg:y.g 0=ca){w:World}{m:Nat}(hm:w.heap[m]? =some (.map ca.1 ca.2)):∃φ:Ren,HR φ (ak 1 kHB) w/\φ.y={y with k:=fun r=>w.heap[r]?}/\VR φ (.m (some 0)) (.map (some m)):=⟨_,(bc y w).abO hm rfl 0 (.int .i64) hg On,rfl,by simp only[VR];exact⟨m,by simp[up],rfl⟩⟩
def b0:Value:=.bool false
def Mn(k oid ocl ove:Int)(ovs:Value)(id ver:Int)(nm cnm:ByteArray)(cfs:Value)(ck:Int)(cf cn cm:ByteArray)(t1 t2:Int)(ex ot:ByteArray):Array Value:=#[.int .i64 k,.int .i64 oid,.int .i64 ocl,.int .i64 ove,ovs,.int .i64 id,.int .i64 ver,.string nm,.string cnm,cfs,.int .i64 ck,.string cf,.string cn,.string cm,.int .i64 t1,.int .i64 t2,.string ex,.string ot]
def aF:Value:=.slice none 0 0
def cj:ByteArray:=bytes []
def nmW(k id:Int)(nm:List Nat):Value:=.agg (Mn k 0 0 0 aF id 0 (bytes nm) cj aF 0 cj cj cj 0 0 cj cj)
def eD:V:=.sl none 0 (.kn 0)
def zI:V:=.i .i64 0
def nmV(k:Int)(id:V)(nm:List Nat):List V:=[.i .i64 k,zI,zI,zI,eD,id,zI,.s nm,.s [],eD,zI,.s [],.s [],.s [],zI,zI,.s [],.s []]
def nmF(k hi:Nat)(nm:List Nat):aU:={bd:=[(4,0,hi)],bin:=[(.add,.s ((2*nm.length)::nm),.q 2,.q 3),(.add,.s [2*k],.q 3,.q 4)],mg:=kMG 0,qc:=[(40,[.y .i64 4],.q 1)]}
def nmX:XF:={an:=[(1,1)],bs:=[(1,2)],ql:=[(1,5)]}
noncomputable def nmR(k hi:Nat)(nm:List Nat):Bool:=dN (aI E3 (nmF k hi nm) nmX) 400 37 [.m (some 0),.a (nmV k (.y .i64 4) nm)] 1 kHB (.t [.q 4,.i .i64 0]) []
def lB:List (List Nat):=[[104,111,109,101],[97],[108,105,115,116,95,49],[122,57]]
theorem apg:(lB.all fun nm=>nmR 2 11 nm)=true:=by decide+kernel
theorem aph:(lB.all fun nm=>nmR 5 1 nm)=true:=by decide+kernel
variable{K:Nat->Option Obj}{nm:List Nat}
def jq(K:Nat->Option Obj)(r:Value)(s:ByteArray):Prop:=∀K' m,(∀x o,K x=some o->K' x=some o)->lW K' m->Quiet Tryz.prog K' 37 [.map (some m),r] (· =.tuple #[.string s,.int .i64 0])
theorem jq.mono{K':Nat->Option Obj}(h:∀x o,K x=some o->K' x=some o){r:Value}{s:ByteArray}(hb:jq K r s):jq K' r s:=fun K2 m h2=>hb K2 m fun x o e=>h2 x o (h x o e)
theorem oR(a b:ByteArray):(a++b).size=a.size+b.size:=by simp
theorem vQ{x:Nat}{v:Value}(h:φ.q x=v)(h1:v.oneCell'=true):VR φ (.q x) v:=by simp only[VR];exact⟨h.symm,h1⟩
theorem vY{k:IntKind}{x:Nat}{n:Int}(h:φ.s x=n):VR φ (.y k x) (.int k n):=by simp only[VR];rw[h]
theorem vT2{x:Nat}{s:ByteArray}{n:Int}(h:φ.q x=.string s){v:Value}(hv:VR φ (.t [.q x,.i .i64 n]) v):v=.tuple #[.string s,.int .i64 n]:=by
 simp only[VR,J]at hv;obtain⟨vs,rfl,a,l,e,⟨rfl,_⟩,b,l',rfl,rfl,rfl⟩:=hv;rw[h]at e;exact congrArg _ (Array.toList_inj.1 (e.trans rfl))
theorem bY:VR φ eD aF:=vN
theorem aL:VR φ zI (.int .i64 0):=vI
theorem aD:VR φ (.s []) (.string cj):=vS (by simp)
theorem Hc{k hi:Nat}(hr:nmR k hi nm=true)(hb:∀x∈nm,x<128)(hl:nm.length<=20)(hk:k<=5)(hhi:hi<=100){id:Int}(lG:0<=id/\id<=hi)(K:Nat->Option Obj):
  ∃s:ByteArray,1<=s.size/\s.size<=30/\jq K (nmW k id nm) s:=by
 obtain⟨sn,n1,n2,hN⟩:=Kc (n:=id) ⟨by omega,by omega⟩;have oV:∀x∈nm,x<256:=fun x hx=>by have:=hb x hx;omega
 have htx:∀x∈(2*nm.length)::nm,x<256:=fun x hx=>by
  rcases arJ.1 hx with rfl|hx
  ·omega
  ·exact oV x hx
 let tx:ByteArray:=bytes ((2*nm.length)::nm);have aeX:tx.size=nm.length+1:=by show(bytes _).size=_;rw[du];rfl
 have hks:(bytes [2*k]).size=1:=by rw[du];rfl
 refine⟨bytes [2*k]++(tx++sn),by rw[oR,hks];omega,by rw[oR,oR,hks,aeX];omega,fun K' m _ hm=> ?_⟩;let y:Sym:=dg [0,0,0,0,id,(sn.size:Int)] [b0,.string sn,.string sn,.string (tx++sn),.string (bytes [2*k]++(tx++sn))] [[],cz sn] [ca];refine cC ah rfl hr y (fun φ e1 e2 e3 e4 hK=> ?_) (fun φ e1 e2 e3 e4 hK=> ?_) (fun w hw=> ?_) (fun φ e1 e2 x hx=>vT2 (s:=bytes [2*k]++(tx++sn)) (agB e2 4) hx) ⟨_,_,Tryz.func37,rfl,rfl⟩
 ·have t4:φ.s 4=id:=agB e1 4
  refine⟨⟨⟨by show 0<=φ.s 4;rw[t4];exact lG.1,by show φ.s 4<=(hi:Int);rw[t4];exact lG.2⟩,agm⟩,⟨?_,?_,agm⟩,agm,agm,agm,agm,A6 (agB e4 0),agm,⟨?_,agm⟩⟩
  ·exact .I1 (s:=tx) (t:=sn) rfl (agB e2 2) (by rw[aeX];omega) (agB e2 3)
  ·exact .I1 (s:=bytes [2*k]) (t:=tx++sn) rfl (agB e2 3) (by rw[hks,oR,aeX];omega) (agB e2 4)
  ·exact dy rfl (hN _) (J.cons (vY t4) J.nil) (vQ (agB e2 1) rfl)
 ·exact{an:=⟨⟨sn,agB e2 1,by omega,agB e3 1,by omega⟩,agm⟩,bs:=⟨⟨sn,agB e2 2,agB e3 1,by omega,by omega⟩,agm⟩,ql:=⟨⟨sn,agB e2 1,agB e1 5⟩,agm⟩}
 ·obtain⟨φ,h1,h2,h3⟩:=jA (y:=y) rfl (hw m _ hm)
  refine⟨φ,h1,h2,J.cons h3 (J.cons ?_ J.nil)⟩;have t4:φ.s 4=id:=by simp only[Ren.s,h2];rfl
  simp only[VR];exact⟨_,rfl,J.cons vI (J.cons aL (J.cons aL (J.cons aL (J.cons bY (J.cons (vY t4) (J.cons aL (J.cons (vS oV) (J.cons aD (J.cons bY (J.cons aL (J.cons aD (J.cons aD (J.cons aD (J.cons aL (J.cons aL (J.cons aD (J.cons aD J.nil)))))))))))))))))⟩
theorem A7{nm:List Nat}(hn:nm∈lB){id:Int}(lG:0<=id/\id<=11)(K:Nat->Option Obj):∃s:ByteArray,1<=s.size/\s.size<=30/\jq K (nmW 2 id nm) s:=by
 have h1:lB.all (fun l=>l.all (fun x=>decide (x<128))&&decide (l.length<=20))=true:=rfl;have h2:=aop.1 h1 nm hn;simp only[AAA,aop,decide_eq_true_eq]at h2;exact Hc (aop.1 apg nm hn) h2.1 h2.2 (by decide) (by decide) lG K
theorem Ke(hn:nm∈lB){id:Int}(lG:0<=id/\id<=1)(K:Nat->Option Obj):∃s:ByteArray,1<=s.size/\s.size<=30/\jq K (nmW 5 id nm) s:=by
 have h1:lB.all (fun l=>l.all (fun x=>decide (x<128))&&decide (l.length<=20))=true:=rfl;have h2:=aop.1 h1 nm hn;simp only[AAA,aop,decide_eq_true_eq]at h2;exact Hc (aop.1 aph nm hn) h2.1 h2.2 (by decide) (by decide) lG K
variable{ns:Nat->Int}{ss:Nat->ByteArray}{vs:Nat->Value}{pq:List Nat}
def cS(ss:Nat->ByteArray):List Nat->ByteArray
 |[]=>arD
 |q::l=>ss q++cS ss l
theorem lX(ss:Nat->ByteArray):∀(a b:List Nat),cS ss (a++b)=cS ss a++cS ss b
 |[],b=>by simp[cS]
 |q::a,b=>by rw[List.cons_append,cS,cS,lX ss a b,ByteArray.append_assoc]
theorem rR(a b:ByteArray):cz (a++b)=cz a++cz b:=by simp[cz,ByteArray.data_append]
def B0(ns:Nat->Int)(ss:Nat->ByteArray)(vs:Nat->Value)(pq:List Nat)(g:Array MapEntry×Nat):Sym:=
 {s:=fun x=>if x<200 then ns x else((ss (x-200)).size:Int),q:=fun x=>if x<100 then .string (ss x)else vs (x-100),w:=fun i=>if i<50 then cz (cS ss (pq.take i))else cz (ss (i-50)),g:=fun _=>g,k:=fun _=>none}
structure Std(φ:Ren)(ns:Nat->Int)(ss:Nat->ByteArray)(vs:Nat->Value)(pq:List Nat)(g:Array MapEntry×Nat):Prop where
 s:φ.s=(B0 ns ss vs pq g).s
 q:φ.q=(B0 ns ss vs pq g).q
 w:φ.w=(B0 ns ss vs pq g).w
 g:φ.g=(B0 ns ss vs pq g).g
theorem Std.n{g:Array MapEntry×Nat}(h:Std φ ns ss vs pq g){x:Nat}(hx:x<200:=by decide):φ.s x=ns x:=by rw[h.s];exact if_pos hx
theorem Std.t{vs:Nat->Value}{g:Array MapEntry×Nat}(h:Std φ ns ss vs pq g){x:Nat}(hx:x<100:=by decide):φ.q x=.string (ss x):=by rw[h.q];exact if_pos hx
theorem Std.v{g:Array MapEntry×Nat}(h:Std φ ns ss vs pq g){x:Nat}:φ.q (x+100)=vs x:=by
 rw[h.q];show(if x+100<100 then Value.string (ss (x+100))else vs (x+100-100))=_;rw[if_neg (by omega),show x+100-100=x by omega]
theorem Std.z{g:Array MapEntry×Nat}(h:Std φ ns ss vs pq g){x:Nat}:φ.s (x+200)=((ss x).size:Int):=by
 rw[h.s];show(if x+200<200 then ns (x+200)else((ss (x+200-200)).size:Int))=_;rw[if_neg (by omega),show x+200-200=x by omega]
theorem Std.r{g:Array MapEntry×Nat}(h:Std φ ns ss vs pq g)(i:Nat)(hi:i<50):φ.w i=cz (cS ss (pq.take i)):=by rw[h.w];exact if_pos hi
theorem Std.o{g:Array MapEntry×Nat}(h:Std φ ns ss vs pq g)(x:Nat):φ.w (50+x)=cz (ss x):=by
 rw[h.w];show(if 50+x<50 then cz (cS ss (pq.take (50+x)))else cz (ss (50+x-50)))=_;rw[if_neg (by omega),show 50+x-50=x by omega]
def aeY:Nat->List Nat->List (Nat×Nat×Nat)
 |_,[]=>[]
 |i,q::l=>(i,q,i+1)::aeY (i+1) l
def Vv(pq:List Nat)(z:Nat)(ql:List Nat)(sg:List (Nat×Nat):=[]):XF:=
 {an:=(match pq with|q::_=>[(q,1)]|[]=>[])++sg.map (fun e=>(e.1,50+e.1)),ap:=aeY 1 (pq.drop 1),bs:=(pq.length,z)::sg.map (fun e=>(50+e.1,e.2)),ql:=ql.map fun q=>(q,q+200)}
theorem cH{α β:Type}{p:β->Prop}{f:α->β}:∀{l:List α},(∀x∈l,p (f x))->cI p (l.map f)
 |[],_=>trivial
 |x::l,h=>⟨h x arC,cH fun y hy=>h y (arE _ hy)⟩
theorem aO{α:Type}{p:α->Prop}:∀{l m:List α},cI p l->cI p m->cI p (l++m)
 |[],_,_,h=>h
 |_::_,_,h,h'=>⟨h.1,aO h.2 h'⟩
theorem uS(ss:Nat->ByteArray)(pq:List Nat)(i:Nat):(cS ss (pq.take i)).size<=(cS ss pq).size:=by
 conv=>rhs;rw[<-List.take_append_drop i pq,lX,oR]
 omega
theorem Z7{φ:Ren}{ns:Nat->Int}{ss:Nat->ByteArray}{vs:Nat->Value}{pq:List Nat}{g:Array MapEntry×Nat}(h:Std φ ns ss vs pq g)(hq:∀q∈pq,q<100/\0<(ss q).size)(ht:(cS ss pq).size<=1000000)(h50:pq.length<50):∀(l:List Nat) (i:Nat),pq.drop i=l->
  cI (fun e:Nat×Nat×Nat=>∃s:ByteArray,φ.q e.2.1=.string s/\0<s.size/\φ.w e.2.2=φ.w e.1++cz s/\(φ.w e.2.2).length<=1000000) (aeY i l)
 |[],_,_=>trivial
 |q::l,i,hd=>by
  have kg:q∈pq:=List.mem_of_mem_drop (i:=i) (by rw[hd];exact arC);obtain⟨h1,h2⟩:=hq q kg;have bf:i<pq.length:=by
   rcases arO i pq.length with h|h
   ·exact h
   ·rw[List.drop_eq_nil_of_le h]at hd;cases hd
  have dZ:pq[i]=q:=by
   rw[arR bf]at hd;exact(List.cons.inj hd).1
  have Y4:pq.take (i+1)=pq.take i++[q]:=by rw[List.take_succ_eq_append_getElem bf,dZ]
  refine⟨⟨ss q,h.t h1,h2,?_,?_⟩,Z7 h hq ht h50 l (i+1) ?_⟩
  ·show φ.w (i+1)=φ.w i++cz (ss q)
   rw[h.r _ (by omega),h.r _ (by omega),Y4,lX,rR];simp[cS]
  ·show(φ.w (i+1)).length<=_
   rw[h.r _ (by omega),show(cz (cS ss (pq.take (i+1)))).length=(cS ss (pq.take (i+1))).size from eK _];exact Nat.le_trans (uS ss pq _) ht
  ·rw[arR bf]at hd
   exact(List.cons.inj hd).2
theorem xm{P:Program}{φ:Ren}{ns:Nat->Int}{ss:Nat->ByteArray}{vs:Nat->Value}{pq:List Nat}{g:Array MapEntry×Nat}{z:Nat}{ql:List Nat}{sg:List (Nat×Nat)}(h:Std φ ns ss vs pq g)(bU:pq≠[])(hq:∀q∈pq,q<100/\0<(ss q).size)(ht:(cS ss pq).size<=1000000)
  (hz:ss z=cS ss pq)(hz1:z<100:=by decide)(Zh:∀q∈ql,q<100:=by decide)(h50:pq.length<50:=by decide)(hsg:∀e∈sg,e.1<100/\e.2<100/\0<(ss e.1).size/\(ss e.1).size<=1000000/\ss e.2=ss e.1:=by simp):iZ P (Vv pq z ql sg) φ:=by
 have gn:0<(cS ss pq).size:=by
  cases pq with
  |nil=>exact absurd rfl bU
  |cons q l=>rw[cS,oR];have:=(hq q arC).2;omega
 refine{an:=aO ?_ (cH fun e he=> ?_),ap:=Z7 h hq ht h50 _ 1 rfl,bs:=⟨⟨ss z,h.t hz1,?_,by rw[hz];exact gn,by rw[hz];exact ht⟩,cH fun e he=> ?_⟩,ql:=cH fun q hq'=>⟨ss q,h.t (Zh q hq'),h.z⟩}
 ·cases pq with
  |nil=>exact absurd rfl bU
  |cons q l=>
   obtain⟨h1,h2⟩:=hq q arC;refine⟨⟨ss q,h.t h1,h2,?_,?_⟩,agm⟩
   ·rw[h.r _ (show 1<50 by decide)];simp[cS]
   ·have:=uS ss (q::l) 1
    simp only[List.take_succ_cons,List.take_zero,cS,oR]at this;rw[cS,oR]at ht;omega
 ·obtain⟨e1,_,e2,e3,_⟩:=hsg e he
  exact⟨ss e.1,h.t e1,e2,h.o e.1,e3⟩
 ·show φ.w pq.length=_
  rw[h.r _ h50,List.take_length,hz]
 ·obtain⟨_,e1,e2,e3,e4⟩:=hsg e he
  exact⟨ss e.2,h.t e1,by rw[e4];exact h.o e.1,by rw[e4];exact e2,by rw[e4];exact e3⟩
structure gk(K:Nat->Option Obj)(t enc:ByteArray):Prop where
 right:Quiet Tryz.prog K 287 [.string t] (· =.bool true)
 text:Quiet Tryz.prog K 177 [.string t] (· =.tuple #[.string enc,.int .i64 0])
 lo:1<=enc.size
 hi:enc.size<=8
def Mo(sh j:Nat):List V:=match sh with
 |0=>[zI,zI,.s [],eD]
 |2=>[.i .i64 2,zI,.q (20+j),eD]
 |k=>[.i .i64 k,.y .i64 (10+j),.s [],eD]
def oC(sh:Nat)(n:Int)(t:ByteArray):List Value:=match sh with
 |0=>[.int .i64 0,.int .i64 0,.string cj,aF]
 |2=>[.int .i64 2,.int .i64 0,.string t,aF]
 |k=>[.int .i64 k,.int .i64 n,.string cj,aF]
def Oo(sh j:Nat):List Nat:=match sh with
 |0=>[0]
 |2=>[2,30+j]
 |k=>[k,10+j]
def nA(sh:Nat):Int:=match sh with|3=>1|4=>1|_=> -20
def nB(sh:Nat):Int:=match sh with|3=>9|4=>9|_=>20
def B1(a b c:Nat):aU:=
 {bd:=[(10,nA a,nB a),(11,nA b,nB b),(12,nA c,nB c)],
  qc:=[(40,[.i .i64 0],.q 0),(40,[.i .i64 1],.q 1),(40,[.i .i64 2],.q 2),(40,[.i .i64 3],.q 3),(40,[.i .i64 4],.q 4),(40,[.i .i64 5],.q 5),
   (40,[.y .i64 10],.q 10),(40,[.y .i64 11],.q 11),(40,[.y .i64 12],.q 12),(287,[.q 20],.b true),(287,[.q 21],.b true),(287,[.q 22],.b true),
   (177,[.q 20],.t [.q 30,zI]),(177,[.q 21],.t [.q 31,zI]),(177,[.q 22],.t [.q 32,zI])]}
def itV:Nat->Nat->Nat->Nat->List V
 |0,_,_,_=>[]
 |1,a,_,_=>Mo a 0
 |2,a,b,_=>Mo a 0++Mo b 1
 |_,a,b,c=>Mo a 0++Mo b 1++Mo c 2
def itP:Nat->Nat->Nat->Nat->List Nat
 |0,_,_,_=>[5,0]
 |1,a,_,_=>[5,1]++Oo a 0
 |2,a,b,_=>[5,2]++Oo a 0++Oo b 1
 |_,a,b,c=>[5,3]++Oo a 0++Oo b 1++Oo c 2
def B2(pq:List Nat):XF:=Vv pq 50 []
def lsV(m:Nat):List V:=[.i .i64 5,zI,.s [],match m with|0=>eD|m=>.sl (some (0,0)) m (.un 4)]
def lsB(m a b c:Nat):List (Nat×aQ):=match m with|0=>[]|m=>[(0,.rc (itV m a b c) 98)]
def lsN(m:Nat):Nat:=match m with|0=>0|_=>1
noncomputable def scR(a:Nat):Bool:=
 dN (aI E3 (B1 a 1 1) (B2 (Oo a 0))) 300 241 [.a (Mo a 0)] 0 [] (.b true) []&&dN (aI E3 (B1 a 1 1) (B2 (Oo a 0))) 300 242 [.a (Mo a 0)] 0 [] (.b false) []&&
 dN (aI E3 (B1 a 1 1) (B2 (Oo a 0))) 300 174 [.a (Mo a 0)] 0 [] (.t [.q 50,zI]) []
noncomputable def Mp(m a b c:Nat):Bool:=
 dN (aI E3 (B1 a b c) (B2 (itP m a b c))) 300 241 [.a (lsV m)] (lsN m) (lsB m a b c) (.b true) []&&dN (aI E3 (B1 a b c) (B2 (itP m a b c))) 300 242 [.a (lsV m)] (lsN m) (lsB m a b c) (.b false) []&&
 dN (aI E3 (B1 a b c) (B2 (itP m a b c))) 300 174 [.a (lsV m)] (lsN m) (lsB m a b c) (.t [.q 50,zI]) []
theorem XB:([0,1,2,3,4].all scR)=true:=by decide+kernel
theorem api:(Mp 0 1 1 1)=true:=by decide+kernel
theorem apj:([0,1,2,3,4].all fun a=>Mp 1 a 1 1)=true:=by decide+kernel
theorem akR:(Mp 2 1 1 1&&Mp 2 2 2 1)=true:=by decide+kernel
theorem akS:([0,3].all fun a=>[0,3].all fun b=>Mp 2 a b 1)=true:=by decide+kernel
theorem akT:([0,4].all fun a=>[0,4].all fun b=>Mp 2 a b 1)=true:=by decide+kernel
theorem akU:(Mp 3 1 1 1&&Mp 3 2 2 2)=true:=by decide+kernel
theorem akV:([0,3].all fun a=>[0,3].all fun b=>[0,3].all fun c=>Mp 3 a b c)=true:=by decide+kernel
theorem akW:([0,4].all fun a=>[0,4].all fun b=>[0,4].all fun c=>Mp 3 a b c)=true:=by decide+kernel
noncomputable def bu(n:Int):ByteArray:=if h: -30<=n/\n<610 then Classical.choose (Kc h)else arD
theorem dY{n:Int}(h: -30<=n/\n<610):1<=(bu n).size/\(bu n).size<=2/\∀K,Quiet Tryz.prog K 40 [.int .i64 n] (· =.string (bu n)):=by
 unfold bu;rw[dif_pos h];exact Classical.choose_spec (Kc h)
theorem lC{ss ss':Nat->ByteArray}:∀{l:List Nat},(∀q∈l,ss q=ss' q)->cS ss l=cS ss' l
 |[],_=>rfl
 |q::l,h=>by rw[cS,cS,h q arC,lC fun x hx=>h x (arE _ hx)]
theorem yU{ss:Nat->ByteArray}{m:Nat}:∀{l:List Nat},(∀q∈l,(ss q).size<=m)->(cS ss l).size<=l.length*m
 |[],_=>by simp[cS]
 |q::l,h=>by
  have h1:=h q arC;have h2:=yU fun x hx=>h x (arE q hx)
  rw[cS,oR,arI,Nat.add_mul];omega
theorem EC{l:List Nat}(bU:l≠[])(h:∀q∈l,1<=(ss q).size):1<=(cS ss l).size:=by
 cases l with
 |nil=>exact absurd rfl bU
 |cons q l=>rw[cS,oR];have:=h q arC;omega
structure qk(K:Nat->Option Obj)(v:List Value)(s:ByteArray):Prop where
 right:Quiet Tryz.prog K 241 [.agg v.toArray] (· =.bool true)
 below:Quiet Tryz.prog K 242 [.agg v.toArray] (· =.bool false)
 enc:Quiet Tryz.prog K 174 [.agg v.toArray] (· =.tuple #[.string s,.int .i64 0])
 lo:1<=s.size
 hi:s.size<=64
theorem qk.mono{K K':Nat->Option Obj}(h:∀r o,K r=some o->K' r=some o){v:List Value}{s:ByteArray}(hv:qk K v s):qk K' v s:=⟨hv.right.mono h,hv.below.mono h,hv.enc.mono h,hv.lo,hv.hi⟩
theorem gk.mono{K K':Nat->Option Obj}(h:∀r o,K r=some o->K' r=some o){v s:ByteArray}(hv:gk K v s):gk K' v s:=⟨hv.right.mono h,hv.text.mono h,hv.lo,hv.hi⟩
theorem Ih{b:Bool}{x:Value}(h:VR φ (.b b) x):x=.bool b:=by simpa only[VR]using h
theorem Oq{x:Nat}{s:ByteArray}(h:φ.q x=.string s):VR φ (.t [.q x,zI]) (.tuple #[.string s,.int .i64 0]):=by
 simp only[VR];exact⟨_,rfl,J.cons (vQ h rfl) (J.cons aL J.nil)⟩
theorem Mq{K:Nat->Option Obj}{a b c:Nat}{n0 n1 n2:Int}{t0 t1 t2 e0 e1 e2:ByteArray}(h0:nA a<=n0/\n0<=nB a)(h1:nA b<=n1/\n1<=nB b)(h2:nA c<=n2/\n2<=nB c)(x0:gk K t0 e0)(x1:gk K t1 e1)(x2:gk K t2 e2)
  {pq:List Nat}(hp:∀q∈pq,q∈[0,1,2,3,4,5,10,11,12,30,31,32])(bU:pq≠[])(hl:pq.length<=8){Vs:List V}{nb:Nat}{HB:List (Nat×aQ)}{cells:List Value}
  (r1:dN (aI E3 (B1 a b c) (B2 pq)) 300 241 [.a Vs] nb HB (.b true) []=true)(r2:dN (aI E3 (B1 a b c) (B2 pq)) 300 242 [.a Vs] nb HB (.b false) []=true)(r3:dN (aI E3 (B1 a b c) (B2 pq)) 300 174 [.a Vs] nb HB (.t [.q 50,zI]) []=true)
  (oh:∀y:Sym,y.s 10=n0->y.s 11=n1->y.s 12=n2->y.q 20=.string t0->y.q 21=.string t1->y.q 22=.string t2->∀w:World,(∀r o,K r=some o->w.heap[r]? =some o)->∃φ:Ren,HR φ (ak nb HB) w/\φ.y={y with k:=fun r=>w.heap[r]?}/\J φ [.a Vs] [.agg cells.toArray]):
  ∃s,qk K cells s:=by
 have aeZ:∀x,-20<=nA x:=fun x=>by unfold nA;split<;>decide
 have ae0:∀x,nB x<=20:=fun x=>by unfold nB;split<;>decide
 have b0:=aeZ a;have b1:=aeZ b;have b2:=aeZ c;have d0:=ae0 a;have d1:=ae0 b;have d2:=ae0 c;let ns:Nat->Int:=fun|10=>n0|11=>n1|12=>n2|_=>0
 let Ii:Nat->ByteArray:=fun|10=>bu n0|11=>bu n1|12=>bu n2|20=>t0|21=>t1|22=>t2|30=>e0|31=>e1|32=>e2|x=>bu x
 let ss:Nat->ByteArray:=fun x=>if x=50 then cS Ii pq else Ii x
 have hs:∀x,x≠50->ss x=Ii x:=fun x hx=>if_neg hx
 have Hd:∀q∈pq,q<100/\1<=(ss q).size/\(ss q).size<=8/\ss q=Ii q:=fun q hq=>by
  have:=hp q hq;simp only[arJ,arP,or_false]at this;have k:∀n:Int,-30<=n/\n<610->1<=(bu n).size/\(bu n).size<=8:=fun n hn=>by have:=dY hn;omega
  rcases this with rfl|rfl|rfl|rfl|rfl|rfl|rfl|rfl|rfl|rfl|rfl|rfl
  ·exact⟨by decide,(k 0 (by decide)).1,(k 0 (by decide)).2,rfl⟩
  ·exact⟨by decide,(k 1 (by decide)).1,(k 1 (by decide)).2,rfl⟩
  ·exact⟨by decide,(k 2 (by decide)).1,(k 2 (by decide)).2,rfl⟩
  ·exact⟨by decide,(k 3 (by decide)).1,(k 3 (by decide)).2,rfl⟩
  ·exact⟨by decide,(k 4 (by decide)).1,(k 4 (by decide)).2,rfl⟩
  ·exact⟨by decide,(k 5 (by decide)).1,(k 5 (by decide)).2,rfl⟩
  ·exact⟨by decide,(k n0 (by omega)).1,(k n0 (by omega)).2,rfl⟩
  ·exact⟨by decide,(k n1 (by omega)).1,(k n1 (by omega)).2,rfl⟩
  ·exact⟨by decide,(k n2 (by omega)).1,(k n2 (by omega)).2,rfl⟩
  ·exact⟨by decide,x0.lo,x0.hi,rfl⟩
  ·exact⟨by decide,x1.lo,x1.hi,rfl⟩
  ·exact⟨by decide,x2.lo,x2.hi,rfl⟩
 have He:cS ss pq=cS Ii pq:=lC fun q hq=>(Hd q hq).2.2.2
 have hz:ss 50=cS ss pq:=by rw[He];exact if_pos rfl
 have hle:(cS ss pq).size<=64:=by
  have:=yU (ss:=ss) (m:=8) fun q hq=>(Hd q hq).2.2.1
  omega
 have Xl:1<=(cS ss pq).size:=EC bU fun q hq=>(Hd q hq).2.1
 let y:=B0 ns ss (fun _=>.bool false) pq ca;have hN:∀{φ:Ren} {n:Int} {v:V} {q:Nat},-30<=n/\n<610->iY v=true->VR φ v (.int .i64 n)->φ.q q=.string (bu n)->∀af,Le φ af->∀args',J af [v] args'->Quiet Tryz.prog φ.y.k 40 args' fun u=>VR af (.q q) u:=fun{φ n v q} hn hd hv hq=>
  dy (by simp only[List.all_cons,List.all_nil,Bool.and_true];cases v<;>first|exact hd|cases hd) ((dY hn).2.2 _) (J.cons hv J.nil) (vQ hq rfl)
 have hF:∀φ:Ren,φ.s=y.s->φ.q=y.q->φ.w=y.w->φ.g=y.g->(∀r o,K r=some o->φ.y.k r=some o)->aA Tryz.prog (B1 a b c) φ:=fun φ f1 f2 f3 f4 hK=>by
  have hS:Std φ ns ss (fun _=>.bool false) pq ca:=⟨f1,f2,f3,f4⟩;have m0:φ.s 10=n0:=hS.n;have m1:φ.s 11=n1:=hS.n;have m2:φ.s 12=n2:=hS.n;refine⟨⟨by show nA a<=φ.s 10/\φ.s 10<=nB a;rw[m0];exact h0,by show nA b<=φ.s 11/\φ.s 11<=nB b;rw[m1];exact h1,by show nA c<=φ.s 12/\φ.s 12<=nB c;rw[m2];exact h2,agm⟩,agm,agm,agm,agm,agm,agm,agm,?_⟩;refine⟨hN (by decide) rfl vI (hS.t (x:=0)),hN (by decide) rfl vI (hS.t (x:=1)),hN (by decide) rfl vI (hS.t (x:=2)),hN (by decide) rfl vI (hS.t (x:=3)),hN (by decide) rfl vI (hS.t (x:=4)),hN (by decide) rfl vI (hS.t (x:=5)),
   hN (by omega) rfl (vY m0) (hS.t (x:=10)),hN (by omega) rfl (vY m1) (hS.t (x:=11)),hN (by omega) rfl (vY m2) (hS.t (x:=12)),?_,?_,?_,?_,?_,?_,agm⟩
  ·exact dy rfl (x0.right.mono hK) (J.cons (vQ (hS.t (x:=20)) rfl) J.nil) vB
  ·exact dy rfl (x1.right.mono hK) (J.cons (vQ (hS.t (x:=21)) rfl) J.nil) vB
  ·exact dy rfl (x2.right.mono hK) (J.cons (vQ (hS.t (x:=22)) rfl) J.nil) vB
  ·exact dy rfl (x0.text.mono hK) (J.cons (vQ (hS.t (x:=20)) rfl) J.nil) (Oq (hS.t (x:=30)))
  ·exact dy rfl (x1.text.mono hK) (J.cons (vQ (hS.t (x:=21)) rfl) J.nil) (Oq (hS.t (x:=31)))
  ·exact dy rfl (x2.text.mono hK) (J.cons (vQ (hS.t (x:=22)) rfl) J.nil) (Oq (hS.t (x:=32)))
 have hX:∀φ:Ren,φ.s=y.s->φ.q=y.q->φ.w=y.w->φ.g=y.g->(∀r o,K r=some o->φ.y.k r=some o)->iZ Tryz.prog (B2 pq) φ:=fun φ f1 f2 f3 f4 hK=>
  xm (ns:=ns) (ss:=ss) (vs:=fun _=>.bool false) (g:=ca) ⟨f1,f2,f3,f4⟩ bU (fun q hq=>⟨(Hd q hq).1,(Hd q hq).2.1⟩) (by omega) hz (by decide) (by simp) (by omega)
 have hE:=oh y rfl rfl rfl rfl rfl rfl;refine⟨ss 50,⟨cC ah rfl r1 y hF hX hE (fun φ _ _ x hx=>Ih hx) ⟨_,_,Tryz.func241,rfl,rfl⟩,cC ah rfl r2 y hF hX hE (fun φ _ _ x hx=>Ih hx) ⟨_,_,Tryz.func242,rfl,rfl⟩,
  cC ah rfl r3 y hF hX hE (fun φ f1 f2 x hx=>vT2 (x:=50) (s:=ss 50) (by rw[f2];rfl) hx) ⟨_,_,Tryz.func174,rfl,rfl⟩,by rw[hz];exact Xl,by rw[hz];exact hle⟩⟩
variable{sz:Nat}{row:List Value}
def RowK(K:Nat->Option Obj)(T sz:Nat)(v:Value)(row:List Value):Prop:=∃r n cap c,v=.slice (some ⟨r,0,none⟩) n cap/\0<sz/\n*sz=row.length/\n<=cap/\cap*sz=c.size/\K r=some (.cells c T (0,0))/\c.toList.take row.length=row
theorem RowK.mono{K':Nat->Option Obj}(h:∀r o,K r=some o->K' r=some o){T:Nat}{v:Value}(hr:RowK K T sz v row):RowK K' T sz v row:=by
 obtain⟨r,n,cap,c,h1,h2,h3,h4,h5,h6,h7⟩:=hr;exact⟨r,n,cap,c,h1,h2,h3,h4,h5,h _ _ h6,h7⟩
theorem RowK.one{T:Nat}{v:Value}(hr:RowK K T sz v row):v.oneCell'=true:=by
 obtain⟨r,n,cap,c,rfl,_⟩:=hr;rfl
theorem RowK.enter{T:Nat}{v:Value}(hr:RowK K T sz v row){nb:Nat}{HB:List (Nat×aQ)}{w:World}(h:HR φ (ak nb HB) w)(hw:∀r o,K r=some o->w.heap[r]? =some o)(hn:rG T HB=true){l:List V}(hl:J φ l row){n:Nat}(hlen:n*sz=row.length):
  ∃af:Ren,HR af (ak (nb+1) ((nb,.rc l T)::HB)) w/\af.y=φ.y/\Le φ af/\VR af (.sl (some (nb,0)) n (.un sz)) v:=by
 obtain⟨r,n',cap,c,rfl,h2,h3,h4,h5,h6,h7⟩:=hr;have hnn:n'=n:=Nat.eq_of_mul_eq_mul_right h2 (h3.trans hlen.symm);subst hnn;have E8:l.length=row.length:=hl.length.symm;have hle:l.length<=c.size:=by rw[E8,<-h3,<-h5];exact Nat.mul_le_mul_right _ h4
 have F8:∀s,φ nb≠some s:=fun s es=>by have:=(h.lM _ _ es).1;exact absurd this (Nat.lt_irrefl _)
 refine⟨up φ nb r c.size,h.add (hw _ _ h6) hn (.rc l T) (fun h=>h) ⟨c,rfl,by rw[E8,h7];exact hl,hle,rfl⟩,rfl,jr F8,?_⟩;simp only[VR];exact⟨r,cap,by simp[up],h4,by simp[up,h5],rfl⟩
theorem ED{sh j:Nat}{n:Int}{t:ByteArray}(hn:φ.s (10+j)=n)(ht:φ.q (20+j)=.string t):J φ (Mo sh j) (oC sh n t):=by
 unfold Mo oC;split
 ·exact J.cons aL (J.cons aL (J.cons aD (J.cons bY J.nil)))
 ·exact J.cons vI (J.cons aL (J.cons (vQ ht rfl) (J.cons bY J.nil)))
 ·exact J.cons vI (J.cons (vY hn) (J.cons aD (J.cons bY J.nil)))
theorem vA{l:List V}{vs:List Value}(h:J φ l vs):VR φ (.a l) (.agg vs.toArray):=by simp only[VR];exact⟨_,rfl,by simpa using h⟩
theorem ae1{sh:Nat}(hs:sh∈[0,1,2,3,4]){n:Int}{t e:ByteArray}(hn:nA sh<=n/\n<=nB sh)(ht:gk K t e):∃s,qk K (oC sh n t) s:=by
 have hr:=aop.1 XB sh hs;simp only[scR,AAA]at hr;have hp:([0,1,2,3,4].all fun sh=>(Oo sh 0).all (fun q=>[0,1,2,3,4,5,10,11,12,30,31,32].contains q)&& !(Oo sh 0).isEmpty&&Nat.ble (Oo sh 0).length 8)=true:=by decide
 have hq:=aop.1 hp sh hs;simp only[AAA,aop]at hq;refine Mq (a:=sh) (b:=1) (c:=1) (n0:=n) (n1:=0) (n2:=0) hn (by decide) (by decide) ht ht ht (pq:=Oo sh 0) (fun q h=>by simpa using hq.1.1 q h) (by have:=hq.1.2;intro h;rw[h]at this;cases this) (arH hq.2) hr.1.1 hr.1.2 hr.2 ?_;intro y y0 _ _ y3 _ _ w _;exact⟨φ0 y w,bc y w,rfl,J.cons (vA (ED (j:=0) y0 y3)) J.nil⟩
def Vw:Nat->List Value->List Value->List Value->List Value
 |0,_,_,_=>[]
 |1,a,_,_=>a
 |2,a,b,_=>a++b
 |_,a,b,c=>a++b++c
def itC(m a b c:Nat):Bool:=(itP m a b c).all (fun q=>[0,1,2,3,4,5,10,11,12,30,31,32].contains q)&& !(itP m a b c).isEmpty&&Nat.ble (itP m a b c).length 8
def Z8(v:Value):List Value:=[.int .i64 5,.int .i64 0,.string cj,v]
theorem oD(sh:Nat)(n:Int)(t:ByteArray):(oC sh n t).length=4:=by unfold oC;split<;>rfl
theorem A8{K:Nat->Option Obj}{m a b c:Nat}(hr:Mp m a b c=true)(hm:m<=3)(hc:itC m a b c=true){n0 n1 n2:Int}{t0 t1 t2 e0 e1 e2:ByteArray}(h0:nA a<=n0/\n0<=nB a)(h1:nA b<=n1/\n1<=nB b)(h2:nA c<=n2/\n2<=nB c)
  (x0:gk K t0 e0)(x1:gk K t1 e1)(x2:gk K t2 e2){v:Value}(hv:(m=0/\v=aF)\/(1<=m/\RowK K 98 4 v (Vw m (oC a n0 t0) (oC b n1 t1) (oC c n2 t2)))):∃s,qk K (Z8 v) s:=by
 simp only[Mp,AAA]at hr;simp only[itC,AAA,aop]at hc;refine Mq h0 h1 h2 x0 x1 x2 (pq:=itP m a b c) (fun q h=>by simpa using hc.1.1 q h) (by have:=hc.1.2;intro h;rw[h]at this;cases this) (arH hc.2) hr.1.1 hr.1.2 hr.2 ?_;intro y y0 y1 y2 y3 y4 y5 w hw;have hl:J (φ0 y w) (itV m a b c) (Vw m (oC a n0 t0) (oC b n1 t1) (oC c n2 t2)):=by
  have i0:J (φ0 y w) (Mo a 0) (oC a n0 t0):=ED (j:=0) y0 y3;have i1:J (φ0 y w) (Mo b 1) (oC b n1 t1):=ED (j:=1) y1 y4;have i2:J (φ0 y w) (Mo c 2) (oC c n2 t2):=ED (j:=2) y2 y5
  match m,hm with
  |0,_=>exact J.nil
  |1,_=>exact i0
  |2,_=>exact i0.append i1
  |3,_=>exact(i0.append i1).append i2
 rcases hv with⟨rfl,rfl⟩|⟨hm1,bQ⟩
 ·exact⟨φ0 y w,bc y w,rfl,J.cons (vA (J.cons vI (J.cons aL (J.cons aD (J.cons bY J.nil))))) J.nil⟩
 ·have hlen:m*4=(Vw m (oC a n0 t0) (oC b n1 t1) (oC c n2 t2)).length:=by
   match m,hm,hm1 with
   |1,_,_=>simp[Vw,oD]
   |2,_,_=>simp[Vw,oD]
   |3,_,_=>simp[Vw,oD]
  obtain⟨φ,g1,g2,g3,g4⟩:=bQ.enter (bc y w) hw rfl hl hlen
  match m,hm1 with
  |m+1,_=>exact⟨φ,g1,g2,J.cons (vA (J.cons vI (J.cons aL (J.cons aD (J.cons g4 J.nil))))) J.nil⟩
def Kf(of sh:Nat):Prop:=(of=1/\sh=1)\/(of=2/\sh=2)\/(of=3/\(sh=0\/sh=3))\/(of=4/\(sh=0\/sh=4))
theorem Hf{K:Nat->Option Obj}{m of a b c:Nat}(hm:m<=3)(ha:Kf of a)(hb:Kf of b)(hc:Kf of c){n0 n1 n2:Int}{t0 t1 t2 e0 e1 e2:ByteArray}(h0:nA a<=n0/\n0<=nB a)(h1:nA b<=n1/\n1<=nB b)(h2:nA c<=n2/\n2<=nB c)
  (x0:gk K t0 e0)(x1:gk K t1 e1)(x2:gk K t2 e2){v:Value}(hv:(m=0/\v=aF)\/(1<=m/\RowK K 98 4 v (Vw m (oC a n0 t0) (oC b n1 t1) (oC c n2 t2)))):∃s,qk K (Z8 v) s:=by
 have i1:nA 1<=(0:Int)/\(0:Int)<=nB 1:=by decide
 match m,hm with
 |0,_=>
  have hv:v=aF:=by rcases hv with⟨_,h⟩|⟨h,_⟩;exact h;exact absurd h (by decide)
  exact A8 (m:=0) (a:=1) (b:=1) (c:=1) api (by decide) (by decide) i1 i1 i1 x0 x1 x2 (.inl ⟨rfl,hv⟩)
 |1,_=>
  have h4:a∈[0,1,2,3,4]:=by rcases ha with⟨_,rfl⟩|⟨_,rfl⟩|⟨_,rfl|rfl⟩|⟨_,rfl|rfl⟩<;>decide
  have h5:([0,1,2,3,4].all fun a=>itC 1 a 1 1)=true:=by decide
  have h6:RowK K 98 4 v (oC a n0 t0):=by rcases hv with⟨h,_⟩|⟨_,h⟩;exact absurd h (by decide);exact h
  exact A8 (m:=1) (a:=a) (b:=1) (c:=1) (n1:=0) (n2:=0) (aop.1 apj a h4) (by decide) (aop.1 h5 a h4) h0 i1 i1 x0 x1 x2 (.inr ⟨by decide,h6⟩)
 |2,_=>
  have h6:RowK K 98 4 v (oC a n0 t0++oC b n1 t1):=by rcases hv with⟨h,_⟩|⟨_,h⟩;exact absurd h (by decide);exact h
  have k1:=akR;simp only[AAA]at k1;have fin:Mp 2 a b 1=true->itC 2 a b 1=true->∃s,qk K (Z8 v) s:=fun q1 q2=>A8 (m:=2) (a:=a) (b:=b) (c:=1) (n2:=0) q1 (by decide) q2 h0 h1 i1 x0 x1 x2 (.inr ⟨by decide,h6⟩)
  rcases ha with⟨rfl,rfl⟩|⟨rfl,rfl⟩|⟨rfl,ha⟩|⟨rfl,ha⟩<;>rcases hb with⟨hb,rfl⟩|⟨hb,rfl⟩|⟨hb,l8⟩|⟨hb,l8⟩<;>try(cases hb;done)
  ·exact fin k1.1 (by decide)
  ·exact A8 (m:=2) (a:=2) (b:=2) (c:=1) (n2:=0) (by have:=k1.2;exact this) (by decide) (by decide) h0 h1 i1 x0 x1 x2 (.inr ⟨by decide,h6⟩)
  ·have k:=aop.1 akS a (by rcases ha with rfl|rfl<;>decide)
   exact fin (aop.1 k b (by rcases l8 with rfl|rfl<;>decide)) (by rcases ha with rfl|rfl<;>rcases l8 with rfl|rfl<;>decide)
  ·have k:=aop.1 akT a (by rcases ha with rfl|rfl<;>decide)
   exact fin (aop.1 k b (by rcases l8 with rfl|rfl<;>decide)) (by rcases ha with rfl|rfl<;>rcases l8 with rfl|rfl<;>decide)
 |3,_=>
  have h6:RowK K 98 4 v (oC a n0 t0++oC b n1 t1++oC c n2 t2):=by rcases hv with⟨h,_⟩|⟨_,h⟩;exact absurd h (by decide);exact h
  have k1:=akU;simp only[AAA]at k1;have fin:Mp 3 a b c=true->itC 3 a b c=true->∃s,qk K (Z8 v) s:=fun q1 q2=>A8 (m:=3) (a:=a) (b:=b) (c:=c) q1 (by decide) q2 h0 h1 h2 x0 x1 x2 (.inr ⟨by decide,h6⟩)
  rcases ha with⟨rfl,rfl⟩|⟨rfl,rfl⟩|⟨rfl,ha⟩|⟨rfl,ha⟩<;>rcases hb with⟨hb,rfl⟩|⟨hb,rfl⟩|⟨hb,l8⟩|⟨hb,l8⟩<;>try(cases hb;done)
  all_goals rcases hc with⟨hc,rfl⟩|⟨hc,rfl⟩|⟨hc,nK⟩|⟨hc,nK⟩<;>try(cases hc;done)
  ·exact fin k1.1 (by decide)
  ·exact fin k1.2 (by decide)
  ·have k:=aop.1 akV a (by rcases ha with rfl|rfl<;>decide)
   have k:=aop.1 k b (by rcases l8 with rfl|rfl<;>decide);exact fin (aop.1 k c (by rcases nK with rfl|rfl<;>decide)) (by rcases ha with rfl|rfl<;>rcases l8 with rfl|rfl<;>rcases nK with rfl|rfl<;>decide)
  ·have k:=aop.1 akW a (by rcases ha with rfl|rfl<;>decide)
   have k:=aop.1 k b (by rcases l8 with rfl|rfl<;>decide);exact fin (aop.1 k c (by rcases nK with rfl|rfl<;>decide)) (by rcases ha with rfl|rfl<;>rcases l8 with rfl|rfl<;>rcases nK with rfl|rfl<;>decide)
def vcs(i:Nat):List V:=[.q (100+4*i),.q (101+4*i),.q (102+4*i),.q (103+4*i)]
def EE(k:Nat):List V:=(arF (4*k)).map fun x=>.q (100+x)
def obV(k:Nat):List V:=[.i .i64 1,.y .i64 10,.y .i64 11,.y .i64 12,match k with|0=>eD|k=>.sl (some (1,0)) k (.un 4),zI,zI,.s [],.s [],eD,zI,.s [],.s [],.s [],zI,zI,.s [],.s []]
def obF(k:Nat):aU:=
 {bd:=[(10,1,12),(11,0,7),(12,0,12)],bin:=[(.add,.q 51,.q 50,.q 52)],mg:=kMG 0,
  qc:=[(40,[.i .i64 0],.q 0),(40,[.i .i64 1],.q 1),(40,[.i .i64 2],.q 2),(40,[.i .i64 3],.q 3),(40,[.i .i64 4],.q 4),(40,[.i .i64 5],.q 5),(40,[.y .i64 10],.q 10),(40,[.y .i64 11],.q 11),(40,[.y .i64 12],.q 12)]++
   (arF k).flatMap fun i=>[(241,[.a (vcs i)],.b true),(242,[.a (vcs i)],.b false),(174,[.a (vcs i)],.t [.q (20+i),zI])]}
def obP(k:Nat):List Nat:=[10,11,12,k]++(arF k).map (20+ ·)
def obX(k:Nat):XF:=Vv (obP k) 50 [0,1,2,3,4,5,10,11,12,20,21,22,23,24] [(1,51)]
def obB(k:Nat):List (Nat×aQ):=match k with|0=>kHB|k=>(1,.rc (EE k) 98)::kHB
def obN(k:Nat):Nat:=match k with|0=>1|_=>2
noncomputable def obR(k:Nat):Bool:=dN (aI E3 (obF k) (obX k)) 1000 37 [.m (some 0),.a (obV k)] (obN k) (obB k) (.t [.q 52,zI]) []
theorem XC:([0,1,2,3,4,5].all obR)=true:=by decide+kernel
theorem cF{α β:Type}{p:β->Prop}{f:α->List β}:∀{l:List α},(∀x∈l,cI p (f x))->cI p (l.flatMap f)
 |[],_=>trivial
 |x::l,h=>by
  rw[arN];exact aO (h x arC) (cF fun y hy=>h y (arE _ hy))
theorem tn{φ:Ren}{f:Nat->V}:∀{vs:List Value} {s:Nat},(∀x u,vs[x]? =some u->VR φ (f (s+x)) u)->J φ ((List.range' s vs.length).map f) vs
 |[],_,_=>J.nil
 |u::vs,s,h=>by
  rw[arI,List.range'_succ,List.map_cons];refine J.cons (h 0 u rfl) (tn fun x w hx=> ?_);have:=h (x+1) w hx;rwa[show s+(x+1)=s+1+x by omega]at this
theorem fy{f:Nat->V}{vs:List Value}{n:Nat}(hn:n=vs.length)(h:∀x u,vs[x]? =some u->VR φ (f x) u):J φ ((arF n).map f) vs:=by
 rw[hn,List.range_eq_range'];exact tn fun x u hx=>by rw[Nat.zero_add];exact h x u hx
theorem Kg{aP:List (List Value×ByteArray)}(h4:∀p∈aP,p.1.length=4):(aP.flatMap (·.1)).length=aP.length*4:=by
 induction aP with
 |nil=>rfl
 |cons p l ih=>
  rw[arN,arT,h4 p arC,ih fun q hq=>h4 q (arE _ hq),arI];omega
theorem ae2{aP:List (List Value×ByteArray)}(h4:∀p∈aP,p.1.length=4):∀{i:Nat} {p:List Value×ByteArray},aP[i]? =some p->∀{j:Nat},j<4->(aP.flatMap (·.1))[4*i+j]? =p.1[j]? :=by
 induction aP with
 |nil=>intro i p h;simp at h
 |cons q l ih=>
  intro i p h j hj;have hq:=h4 q arC;rw[arN];cases i with
  |zero=>
   simp only[List.getElem?_cons_zero,Option.some.injEq]at h;subst h;rw[Nat.mul_zero,Nat.zero_add,List.getElem?_append_left (by omega)]
  |succ i=>
   rw[List.getElem?_cons_succ]at h;rw[List.getElem?_append_right (by omega),<-ih (fun q hq=>h4 q (arE _ hq)) h hj]
   congr 1;omega
structure A9(K:Nat->Option Obj)(p:List Value×ByteArray):Prop where
 len:p.1.length=4
 one:∀u∈p.1,u.oneCell'=true
 ok:qk K p.1 p.2
theorem A9.mono{K K':Nat->Option Obj}(h:∀r o,K r=some o->K' r=some o){p:List Value×ByteArray}(hv:A9 K p):A9 K' p:=⟨hv.len,hv.one,hv.ok.mono h⟩
def obW(oid ocl ove:Int)(ov:Value):Value:=.agg (Mn 1 oid ocl ove ov 0 0 cj cj aF 0 cj cj cj 0 0 cj cj)
theorem Ot{K:Nat->Option Obj}{oid ocl ove:Int}(h1:1<=oid/\oid<=12)(h2:0<=ocl/\ocl<=7)(h3:0<=ove/\ove<=12){aP:List (List Value×ByteArray)}(hk:aP.length<=5)(hv:∀p∈aP,A9 K p){ov:Value}
  (ho:(aP=[]/\ov=aF)\/(aP≠[]/\RowK K 98 4 ov (aP.flatMap (·.1)))):∃s:ByteArray,1<=s.size/\s.size<=800/\jq K (obW oid ocl ove ov) s:=by
 have h4:∀p∈aP,p.1.length=4:=fun p hp=>(hv p hp).len
 obtain⟨k,I2⟩:∃k,k=aP.length:=⟨_,rfl⟩
 have GA:k<=5:=by omega
 let ns:Nat->Int:=fun|10=>oid|11=>ocl|12=>ove|_=>0
 let Ii:Nat->ByteArray:=fun|10=>bu oid|11=>bu ocl|12=>bu ove|20=>(aP.getD 0 ([],arD)).2|21=>(aP.getD 1 ([],arD)).2|22=>(aP.getD 2 ([],arD)).2|23=>(aP.getD 3 ([],arD)).2|24=>(aP.getD 4 ([],arD)).2|x=>bu x
 let pq:=obP k;let ss:Nat->ByteArray:=fun x=>if x<50 then Ii x else if x=50 then cS Ii pq else if x=51 then bu 1 else bu 1++cS Ii pq
 let vs:Nat->Value:=fun x=>((aP.flatMap (·.1))[x]?).getD (.bool false)
 have kn:∀n:Int,-30<=n/\n<610->1<=(bu n).size/\(bu n).size<=64:=fun n hn=>by have:=dY hn;omega
 have sv:∀i (hi:i<k),∃p,aP[i]? =some p/\ss (20+i)=p.2:=fun i hi=>by
  have bf:i<aP.length:=by omega
  refine⟨aP[i],arS bf,?_⟩;have hd:(aP.getD i ([],arD))=aP[i]:=by rw[List.getD_eq_getElem?_getD,arS bf];rfl
  match i,hi with
  |0,_=>exact congrArg arQ hd
  |1,_=>exact congrArg arQ hd
  |2,_=>exact congrArg arQ hd
  |3,_=>exact congrArg arQ hd
  |4,_=>exact congrArg arQ hd
  |n+5,h=>omega
 have Hd:∀q∈pq,q<50/\1<=(ss q).size/\(ss q).size<=64:=fun q hq=>by
  simp only[pq,obP,List.mem_append,arJ,arP,or_false,List.mem_map,arG]at hq;rcases hq with(rfl|rfl|rfl|rfl)|⟨i,hi,rfl⟩
  ·exact⟨by decide,kn oid (by omega)⟩
  ·exact⟨by decide,kn ocl (by omega)⟩
  ·exact⟨by decide,kn ove (by omega)⟩
  ·refine⟨by omega,?_⟩
   have:ss q=bu q:=by
    rcases(show q=0\/q=1\/q=2\/q=3\/q=4\/q=5 by omega)with rfl|rfl|rfl|rfl|rfl|rfl<;>rfl
   rw[this];exact kn _ (by omega)
  ·obtain⟨p,hp,e⟩:=sv i hi
   rw[e];have:=(hv p (arL hp)).ok;exact⟨by omega,this.lo,this.hi⟩
 have hlen:pq.length<=9:=by simp only[pq,obP,arT,List.length_map,List.length_range,arI,List.length_nil];omega
 have bU:pq≠[]:=by simp[pq,obP]
 have He:cS ss pq=cS Ii pq:=lC fun q hq=>if_pos (Hd q hq).1
 have hz:ss 50=cS ss pq:=by rw[He];rfl
 have hle:(cS ss pq).size<=576:=by
  have:=yU (ss:=ss) (m:=64) fun q hq=>(Hd q hq).2.2
  omega
 have Xl:1<=(cS ss pq).size:=EC bU fun q hq=>(Hd q hq).2.1
 have k1:=kn 1 (by decide);have e52:ss 52=bu 1++cS ss pq:=by rw[He];rfl
 refine⟨ss 52,by rw[e52,oR];omega,by rw[e52,oR];omega,fun K' m Tu hm=> ?_⟩;have hr:obR k=true:=aop.1 XC k (by rcases(show k=0\/k=1\/k=2\/k=3\/k=4\/k=5 by omega)with rfl|rfl|rfl|rfl|rfl|rfl<;>decide)
 let y:=B0 ns ss vs pq ca;have hN:∀{φ:Ren} {n:Int} {v:V} {q:Nat},-30<=n/\n<610->iY v=true->VR φ v (.int .i64 n)->φ.q q=.string (bu n)->∀af,Le φ af->∀args',J af [v] args'->Quiet Tryz.prog φ.y.k 40 args' fun u=>VR af (.q q) u:=fun{φ n v q} hn hd hv hq=>
  dy (by simp only[List.all_cons,List.all_nil,Bool.and_true];cases v<;>first|exact hd|cases hd) ((dY hn).2.2 _) (J.cons hv J.nil) (vQ hq rfl)
 have iu:∀{φ:Ren},Std φ ns ss vs pq ca->∀x u,(aP.flatMap (·.1))[x]? =some u->VR φ (.q (100+x)) u:=fun{φ} hS x u hx=>by
  refine vQ ?_ ?_
  ·rw[Nat.add_comm,hS.v]
   show((aP.flatMap (·.1))[x]?).getD (.bool false)=u;rw[hx];rfl
  ·obtain⟨p,hp,hu⟩:=List.mem_flatMap.1 (arL hx)
   exact(hv p hp).one u hu
 refine cC ah rfl hr y (fun φ f1 f2 f3 f4 hK=> ?_) (fun φ f1 f2 f3 f4 hK=> ?_) (fun w hw=> ?_) (fun φ f1 f2 x hx=>vT2 (x:=52) (s:=ss 52) (by rw[f2];rfl) hx) ⟨_,_,Tryz.func37,rfl,rfl⟩
 ·have hS:Std φ ns ss vs pq ca:=⟨f1,f2,f3,f4⟩
  have m0:φ.s 10=oid:=hS.n;have m1:φ.s 11=ocl:=hS.n;have m2:φ.s 12=ove:=hS.n;refine⟨⟨by show(1:Int)<=φ.s 10/\φ.s 10<=12;rw[m0];exact h1,by show(0:Int)<=φ.s 11/\φ.s 11<=7;rw[m1];exact h2,by show(0:Int)<=φ.s 12/\φ.s 12<=12;rw[m2];exact h3,agm⟩,⟨?_,agm⟩,agm,agm,agm,agm,A6 (agB f4 0),agm,?_⟩
  ·exact .I1 (s:=ss 51) (t:=ss 50) (hS.t (x:=51)) (hS.t (x:=50)) (by rw[hz];show(bu 1).size+_<=_;omega) (hS.t (x:=52))
  ·refine aO ⟨hN (by decide) rfl vI (hS.t (x:=0)),hN (by decide) rfl vI (hS.t (x:=1)),hN (by decide) rfl vI (hS.t (x:=2)),hN (by decide) rfl vI (hS.t (x:=3)),hN (by decide) rfl vI (hS.t (x:=4)),hN (by decide) rfl vI (hS.t (x:=5)),
    hN (by omega) rfl (vY m0) (hS.t (x:=10)),hN (by omega) rfl (vY m1) (hS.t (x:=11)),hN (by omega) rfl (vY m2) (hS.t (x:=12)),agm⟩ (cF fun i hi=> ?_)
   obtain⟨p,hp,e⟩:=sv i (arG.1 hi);have Fb:=hv p (arL hp);have jQ:qk φ.y.k p.1 p.2:=Fb.ok.mono fun r o h=>hK r o (Tu r o h)
   have Io:J φ (vcs i) p.1:=by
    obtain⟨c0,c1,c2,c3,hc⟩:∃c0 c1 c2 c3,p.1=[c0,c1,c2,c3]:=by
     match hp1:p.1,Fb.len with
     |[c0,c1,c2,c3],_=>exact⟨c0,c1,c2,c3,rfl⟩
    have g:∀j (hj:j<4),(aP.flatMap (·.1))[4*i+j]? =p.1[j]? :=fun j hj=>ae2 h4 hp hj
    have q0:=iu hS _ c0 (by rw[g 0 (by decide),hc];rfl);have q1:=iu hS _ c1 (by rw[g 1 (by decide),hc];rfl);have q2:=iu hS _ c2 (by rw[g 2 (by decide),hc];rfl);have q3:=iu hS _ c3 (by rw[g 3 (by decide),hc];rfl);rw[hc];refine J.cons q0 (J.cons ?_ (J.cons ?_ (J.cons ?_ J.nil)))
    ·rwa[show 100+(4*i+1)=101+4*i by omega]at q1
    ·rwa[show 100+(4*i+2)=102+4*i by omega]at q2
    ·rwa[show 100+(4*i+3)=103+4*i by omega]at q3
   have hi5:i<5:=by have:=arG.1 hi;omega
   exact⟨dy rfl jQ.right (J.cons (vA Io) J.nil) vB,dy rfl jQ.below (J.cons (vA Io) J.nil) vB,dy rfl jQ.enc (J.cons (vA Io) J.nil) (Oq (by rw[hS.t (x:=20+i) (by omega),e])),agm⟩
 ·have hS:Std φ ns ss vs pq ca:=⟨f1,f2,f3,f4⟩
  exact xm hS bU (fun q hq=>⟨Nat.lt_trans (Hd q hq).1 (by decide),(Hd q hq).2.1⟩) (Nat.le_trans hle (by decide)) hz (by decide) (by decide) (Nat.lt_of_le_of_lt hlen (by decide)) (by
   intro e he;simp only[arJ,arP,or_false]at he;subst he;exact⟨by decide,by decide,k1.1,by show(bu 1).size<=_;omega,rfl⟩)
 ·obtain⟨φ,g1,g2,g3⟩:=jA (y:=y) rfl (hw m _ hm)
  have hS:Std φ ns ss vs pq ca:=⟨by funext x;simp only[Ren.s,g2];rfl,by funext x;simp only[Ren.q,g2];rfl,by funext x;simp only[Ren.w,g2];rfl,by funext x;simp only[Ren.g,g2];rfl⟩;have tail:∀{aV:Ren} {v:V},aV.y=φ.y->VR aV (.m (some 0)) (.map (some m))->VR aV v ov->J aV [.m (some 0),.a [.i .i64 1,.y .i64 10,.y .i64 11,.y .i64 12,v,zI,zI,.s [],.s [],eD,zI,.s [],.s [],.s [],zI,zI,.s [],.s []]] [.map (some m),obW oid ocl ove ov]:=fun{aV v} hy hm hv=>by
   have n0:aV.s 10=oid:=by simp only[Ren.s,hy,g2];rfl
   have n1:aV.s 11=ocl:=by simp only[Ren.s,hy,g2];rfl
   have n2:aV.s 12=ove:=by simp only[Ren.s,hy,g2];rfl
   exact J.cons hm (J.cons (vA (J.cons vI (J.cons (vY n0) (J.cons (vY n1) (J.cons (vY n2) (J.cons hv (J.cons aL (J.cons aL (J.cons aD (J.cons aD (J.cons bY (J.cons aL (J.cons aD (J.cons aD (J.cons aD (J.cons aL (J.cons aL (J.cons aD (J.cons aD J.nil))))))))))))))))))) J.nil)
  rcases ho with⟨rfl,rfl⟩|⟨yn,bQ⟩
  ·have:k=0:=I2
   subst this;exact⟨φ,g1,g2,tail rfl g3 bY⟩
  ·have arj:1<=k:=by rw[I2];exact List.length_pos_iff.2 yn
   obtain⟨k',rfl⟩:∃k',k=k'+1:=⟨k-1,by omega⟩
   have jD:J φ (EE (k'+1)) (aP.flatMap (·.1)):=fy (by rw[Kg h4];omega) fun x u hx=>iu hS x u hx
   obtain⟨aV,j1,j2,j3,j4⟩:=(bQ.mono Tu).enter g1 hw rfl jD (n:=k'+1) (by rw[Kg h4,I2]);exact⟨aV,j1,j2.trans g2,tail j2 (VR.mono j3 _ _ g3) j4⟩
def ae3(i:Nat)(b:Bool):List V:=[.q (20+i),.y .i64 (10+i),.y .i64 (16+i),.b b]
def Ou:Nat->List Bool->List V
 |_,[]=>[]
 |i,b::l=>ae3 i b++Ou (i+1) l
def clB(bs:List Bool):List (Nat×aQ):=match bs with|[]=>[]|_=>[(0,.rc (Ou 0 bs) 93)]
def clN(bs:List Bool):Nat:=match bs with|[]=>0|_=>1
def clS(bs:List Bool):V:=match bs with|[]=>eD|_=>.sl (some (0,0)) bs.length (.un 4)
def clQ(i:Nat)(b:Bool):List (FuncId×List V×V):=[(40,[.y .i64 (10+i)],.q (40+i)),(40,[.y .i64 (16+i)],.q (60+i)),(177,[.q (20+i)],.t [.q (30+i),zI]),(189,[.a (ae3 i b)],.b true),(156,[.q (20+i)],.b true),(157,[.a [.y .i64 (10+i),.y .i64 (16+i)]],.b true)]
def ae4:Nat->List Bool->List (FuncId×List V×V)
 |_,[]=>[]
 |i,b::l=>clQ i b++ae4 (i+1) l
def clD:Nat->List Bool->List (Nat×Int×Int)
 |_,[]=>[]
 |i,b::l=>(10+i,1,cond b 3 5)::clD (i+1) l
def Z9:Nat->List Bool->List Nat
 |_,[]=>[]
 |i,b::l=>[30+i,40+i,60+i,cond b 1 0]++Z9 (i+1) l
def clF(bs:List Bool):aU:=
 {bd:=clD 0 bs,
  bin:=(arF bs.length).flatMap fun i=>(arF bs.length).map fun j=>(.eql,.q (20+i),.q (20+j),.b (Nat.beq i j)),
  qc:=[(40,[.i .i64 0],.q 0),(40,[.i .i64 1],.q 1),(40,[.i .i64 2],.q 2),(40,[.i .i64 3],.q 3),(40,[.i .i64 4],.q 4),(40,[.i .i64 5],.q 5),(40,[.i .i64 6],.q 6),(177,[.q 26],.t [.q 36,zI]),(188,[.q 26],.b true),(156,[.q 26],.b true)]++ae4 0 bs}
def clX(bs:List Bool):XF:=Vv ([36,bs.length]++Z9 0 bs) 50 []
noncomputable def Pe(bs:List Bool):Bool:=
 dN (aI E3 (clF bs) (clX bs)) 1500 115 [.a [.q 26,clS bs]] (clN bs) (clB bs) (.t [.q 50,zI]) []
noncomputable def Pf(bs:List Bool):Bool:=
 dN (aI E3 (clF bs) (clX bs)) 1500 109 [.a [.q 26,clS bs]] (clN bs) (clB bs) (.b true) []
def jB:Nat->List (List Bool)
 |0=>[[]]
 |k+1=>(jB k).flatMap fun l=>[false::l,true::l]
theorem dV:∀bs:List Bool,bs∈jB bs.length
 |[]=>by simp[jB]
 |b::l=>by
  rw[arI,jB,List.mem_flatMap];exact⟨l,dV l,by cases b<;>simp⟩
theorem akX:(jB 0).all Pe=true:=by decide+kernel
theorem akY:(jB 1).all Pe=true:=by decide+kernel
theorem akZ:(jB 2).all Pe=true:=by decide+kernel
theorem ak0:(jB 3).all Pe=true:=by decide+kernel
theorem ak1:(jB 4).all Pe=true:=by decide+kernel
theorem ak2:(jB 0).all Pf=true:=by decide+kernel
theorem ak3:(jB 1).all Pf=true:=by decide+kernel
theorem ak4:(jB 2).all Pf=true:=by decide+kernel
theorem ak5:(jB 3).all Pf=true:=by decide+kernel
theorem ak6:(jB 4).all Pf=true:=by decide+kernel
def isT:Option V->Bool
 |some (.b true)=>true
 |_=>false
theorem xn{x:Option V}(h:isT x=true):x=some (.b true):=by
 unfold isT at h;split at h
 ·rfl
 ·cases h
noncomputable def txT(nm:List Nat):Bool:=match uQ 200 177 [.s nm]with|some (.t [.s l,.i .i64 0])=>okS 1 10 l|_=>false
def aT:List (List Nat):=[[97],[98,50],[110,97,109,101],[110,101,120,116,95,111,110,101],[107,105,100,115],[120]]
def nC:List (List Nat):=[[110,111,100,101],[105,116,101,109],[117,115,101,114],[112,97,103,101,95,49],[108,101,97,102],[113]]
def dt:List (List Nat):=[[110,101,119,95,49],[109,111,114,101],[122,57],[97],[110,97,109,101],[107,105,100,115]]
noncomputable def xZ(nm:List Nat):Bool:=isT (uQ 300 188 [.s nm])&&isT (uQ 300 156 [.s nm])&&txT nm&&nm.all fun c=>Nat.blt c 256
theorem Mr:aT.all xZ=true:=by decide+kernel
theorem aaa:nC.all xZ=true:=by decide+kernel
theorem aab:dt.all xZ=true:=by decide+kernel
structure fP(t enc:ByteArray):Prop where
 right:∀K,Quiet Tryz.prog K 188 [.string t] (· =.bool true)
 name:∀K,Quiet Tryz.prog K 156 [.string t] (· =.bool true)
 text:∀K,Quiet Tryz.prog K 177 [.string t] (· =.tuple #[.string enc,.int .i64 0])
 lo:1<=enc.size
 hi:enc.size<=10
theorem kA{k:Nat}{f:FuncId}{Vs:List V}(h:uQ k f Vs=some (.b true)){args:List Value}(ha:∀φ:Ren,J φ Vs args)(XA:∃fn c,Tryz.prog.funcs[f]? =some fn/\fn.body=some c/\(fn.name== "runtime.NumGoroutine")=false)(K:Nat->Option Obj):Quiet Tryz.prog K f args (· =.bool true):=jh h ha (fun φ x hx=>Ih hx) XA K
theorem aac{nm:List Nat}(h:txT nm=true)(h8:∀x∈nm,x<256):∃enc:ByteArray,1<=enc.size/\enc.size<=10/\∀K,Quiet Tryz.prog K 177 [.string (bytes nm)] (· =.tuple #[.string enc,.int .i64 0]):=by
 unfold txT at h;split at h
 ·rename_i l e
  obtain⟨h1,h2,h3⟩:=EA h;refine⟨bytes l,h2,h3,jh e (fun φ=>J.cons (vS h8) J.nil) (fun φ x hx=> ?_) ⟨_,_,Tryz.func177,rfl,rfl⟩⟩;simp only[VR,J]at hx;obtain⟨vs,rfl,a,l',e',⟨rfl,_⟩,b,l2,rfl,rfl,rfl⟩:=hx;exact congrArg _ (Array.toList_inj.1 (e'.trans rfl))
 ·cases h
theorem qO(h:xZ nm=true):∃enc,fP (bytes nm) enc:=by
 simp only[xZ,AAA,aop]at h;obtain⟨⟨⟨h1,h2⟩,h3⟩,h4⟩:=h;have h8:∀x∈nm,x<256:=fun x hx=>bh.1 (h4 x hx)
 obtain⟨enc,e1,e2,e3⟩:=aac h3 h8;exact⟨enc,kA (xn h1) (fun φ=>J.cons (vS h8) J.nil) ⟨_,_,Tryz.func188,rfl,rfl⟩,kA (xn h2) (fun φ=>J.cons (vS h8) J.nil) ⟨_,_,Tryz.func156,rfl,rfl⟩,e3,e1,e2⟩
def fF:List (Int×Int):=[(1,0),(2,0),(3,0),(4,0),(5,1),(5,2),(5,3),(5,4)]
noncomputable def aad(t:Int×Int):Bool:=isT (uQ 300 157 [.a [.i .i64 t.1,.i .i64 t.2]])&&isT (uQ 300 239 [.a [.i .i64 t.1,.i .i64 t.2]])
theorem ae5:fF.all aad=true:=by decide+kernel
noncomputable def ak7(nm:List Nat):Bool:=fF.all fun t=>isT (uQ 400 189 [.a [.s nm,.i .i64 t.1,.i .i64 t.2,.b false]])&&(decide (3<t.1)||isT (uQ 400 189 [.a [.s nm,.i .i64 t.1,.i .i64 t.2,.b true]]))
theorem Tv:aT.all ak7=true:=by decide+kernel
structure eO where
 t:ByteArray
 enc:ByteArray
 nk:Int
 no:Int
 b:Bool
def eO.cells(f:eO):List Value:=[.string f.t,.int .i64 f.nk,.int .i64 f.no,.bool f.b]
structure eO.OK(f:eO):Prop where
 name:fP f.t f.enc
 typ:(f.nk,f.no)∈fF
 idx:f.b=true->f.nk<=3
 right:∀K,Quiet Tryz.prog K 189 [.agg f.cells.toArray] (· =.bool true)
theorem EF{t:Int×Int}(h:t∈fF):(∀K,Quiet Tryz.prog K 157 [.agg #[.int .i64 t.1,.int .i64 t.2]] (· =.bool true))/\∀K,Quiet Tryz.prog K 239 [.agg #[.int .i64 t.1,.int .i64 t.2]] (· =.bool true):=by
 have:=aop.1 ae5 t h;simp only[aad,AAA]at this;exact⟨kA (xn this.1) (fun φ=>J.cons (vA (J.cons vI (J.cons vI J.nil))) J.nil) ⟨_,_,Tryz.func157,rfl,rfl⟩,kA (xn this.2) (fun φ=>J.cons (vA (J.cons vI (J.cons vI J.nil))) J.nil) ⟨_,_,Tryz.func239,rfl,rfl⟩⟩
theorem uT{t:Int×Int}(h:t∈fF):1<=t.1/\t.1<=5/\0<=t.2/\t.2<=4:=by
 have h1:fF.all (fun t=>decide (1<=t.1/\t.1<=5/\0<=t.2/\t.2<=4))=true:=rfl;exact of_decide_eq_true (aop.1 h1 t h)
theorem vBb{b:Bool}:VR φ (.b b) (.bool b):=by simp only[VR]
theorem ae6(hn:nm∈aT){t:Int×Int}(ht:t∈fF){b:Bool}(hb:b=true->t.1<=3):∃enc,(eO.mk (bytes nm) enc t.1 t.2 b).OK:=by
 have h0:=aop.1 Mr nm hn;obtain⟨enc,he⟩:=qO h0;have h8:∀x∈nm,x<256:=fun x hx=>by
  simp only[xZ,AAA,aop]at h0;exact bh.1 (h0.2 x hx)
 have h1:=aop.1 Tv nm hn;simp only[ak7]at h1;have h2:=aop.1 h1 t ht;simp only[AAA,Bool.or_eq_true,decide_eq_true_eq]at h2;refine⟨enc,he,ht,hb,?_⟩;have hv:∀φ:Ren,J φ [.a [.s nm,.i .i64 t.1,.i .i64 t.2,.b b]] [.agg (eO.mk (bytes nm) enc t.1 t.2 b).cells.toArray]:=fun φ=>J.cons (vA (J.cons (vS h8) (J.cons vI (J.cons vI (J.cons vBb J.nil))))) J.nil
 cases b with
 |false=>exact kA (xn h2.1) hv ⟨_,_,Tryz.func189,rfl,rfl⟩
 |true=>
  have:=hb rfl;rcases h2.2 with h3|h3
  ·omega
  ·exact kA (xn h3) hv ⟨_,_,Tryz.func189,rfl,rfl⟩
end Go.Ev
