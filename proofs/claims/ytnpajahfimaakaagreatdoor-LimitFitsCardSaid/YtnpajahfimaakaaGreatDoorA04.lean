/- A part of what LimitFits rests on. -/
import Derived.Test.YtnpajahfimaakaaGreatDoorA03
import Derived.LoopNIn
import Derived.RangeFuncLeaves
import Derived.OrdersIn
import Derived.Test.YtnpajahfimaakaaGreatDoorA01
set_option linter.all false
namespace Go.Ev
open Nat renaming eq_of_beq_eq_true->aop,beq->arD,lt_or_ge->arG,blt->arN,lt_trichotomy->arQ,testBit_or->arT,le_refl->arZ,testBit_two_pow->asf
open Option.some renaming injEq->AAA,inj->arO
open Bool renaming and_eq_true->arC,not_eq_true'->arM,or_eq_true->arS,false_eq_true->ash
open Prod.mk renaming injEq->arE
open _root_.Array renaming getD_eq_getD_getElem?->arF,getElem?_eq_none->arI,getElem?_eq_getElem->arJ,ext'->arL,getElem?_setIfInBounds_ne->arP,getD->asa,all_eq_true'->asb
open Builtin renaming len_->arH,min_->arU,min2->arV
open Region renaming ready->arK,binds->arW
open Option renaming rec->arR,getD_some->asd,bind_some->ase,map_some->asi
open Oper renaming semAt_eq->arX
open List renaming mem_cons->arY,mem_filterMap->asg
variable{φ:Ren}{ops:Array Oper}{E:Env}{h:H}{a:V}{args:List V}
noncomputable section
inductive X where
 |n
 |e (id:Nat)
 |r
def X.exit:X->Exit
 |.n=>.normal
 |.e id=>.exit id
 |.r=>.ret
def DR(D:List Deferred)(φ:Ren):List Nat->List Deferred->Prop
 |[],l=>l=D
 |b::bs,l=>∃r ds,l={target:=.collected r,args:=#[]}::ds/\φ b=some r/\DR D φ bs ds
theorem DR.mono{D:List Deferred}{φ af:Ren}(h:Le φ af):∀{bs:List Nat} {l:List Deferred},DR D φ bs l->DR D af bs l
 |[],_,e=>by simpa[DR]using e
 |b::bs,l,e=>by
  simp only[DR]at e⊢;obtain⟨r,ds,rfl,h1,h2⟩:=e;exact⟨r,ds,rfl,(h b r h1).1,DR.mono h h2⟩
def RO(φ:Ren):Option Nat->Option Nat->Prop
 |none,y=>y=none
 |some l,y=>∃r,y=some r/\φ l=some r
theorem RO.mono{af:Ren}(h:Le φ af){x y:Option Nat}(hr:RO φ x y):RO af x y:=by
 cases x with
 |none=>exact hr
 |some l=>obtain⟨r,h1,h2⟩:=hr;exact⟨r,h1,(h _ _ h2).1⟩
def agS(ops:Array Oper)(fr:Fr)(p:Nat×Bool):Option Bool:=match(ops[p.1]?).bind (·.dst)with
 |some t=>
  match fr.get t with
  |.b x=>some (x==p.2)
  |.t _=>some false
  |_=>none
 |none=>none
def mc(ops:Array Oper)(fr:Fr)(o:Oper):Option Bool:= @arR _ (fun _=>Option Bool) (some true) (agS ops fr) o.guard
theorem Nw(ops:Array Oper)(fr:Fr)(o:Oper):mc ops fr o=
  match o.guard with
  |none=>some true
  |some (j,want)=>
   match(ops[j]?).bind (·.dst)with
   |some t=>
    match fr.get t with
    |.b x=>some (x==want)
    |.t _=>some false
    |_=>none
   |none=>none:=by
 unfold mc;cases o.guard with
 |none=>rfl
 |some p=>obtain⟨j,w⟩:=p;rfl
theorem gV{fr:Fr}{tmps:Array Value}(hf:FR φ fr tmps){o:Oper}{b:Bool}(h:mc ops fr o=some b):Region.wanted o (yielded ops tmps)=b:=by
 rw[Nw]at h;unfold Region.wanted;split at h
 ·rename_i e
  simp only[AAA]at h;simp[e,h]
 ·rename_i j want e
  simp only[e];split at h
  ·rename_i t ht
   have hv:=hf.2 t;have dZ:∀v,tmps.getD t undef=v->v≠undef->tmps[t]? =some v:=fun v hv bU=>by
    rw[arF]at hv;cases hg:tmps[t]?with
    |none=>rw[hg]at hv;simp at hv;exact absurd hv.symm bU
    |some u=>rw[hg]at hv;simp at hv;rw[hv]
   split at h
   ·rename_i x hx
    rw[hx]at hv;simp only[VR]at hv;simp only[AAA]at h;have:=dZ _ hv (by simp[undef]);simp only[yielded,ht,ase,this];rw[<-h];cases x<;>cases want<;>rfl
   ·rename_i vs hx
    rw[hx]at hv;simp only[VR]at hv;obtain⟨xD,hv,_⟩:=hv;simp only[AAA]at h;have hy:yielded ops tmps j=none:=by
     simp only[yielded,ht,ase];rw[arF]at hv;cases hg:tmps[t]?with
     |none=>rfl
     |some u=>
      rw[hg]at hv;simp at hv;subst hv;rfl
    rw[hy,<-h];rfl
   ·cases h
  ·cases h
abbrev dJ:=Nat->List V->H->Option (V×H)
def eT(E:Env)(b:Builtin)(ts:List TypeId)(args:List V)(h:H):Option (V×H):=match b,ts,args with
 |.append,[t,tx],[s,x]=>Dm E t tx s x h
 |.delete,[t,_],[x,k]=>Dy E t x k h
 |.len,[t],[x]=>
  match E.tt t,x with
  |some (_,.string),.s l=>some (.i .i64 (.ofNat l.length),h)
  |some (_,.slice _),.sl none 0 _=>some (.i .i64 0,h)
  |some (_,.slice _),.sl (some _) n _=>some (.i .i64 (.ofNat n),h)
  |some (_,.slice _),.es=>some (.i .i64 0,h)
  |some (_,.array n _),_=>some (.i .i64 (.ofNat n),h)
  |some (_,.map _ _),.m none=>some (.i .i64 0,h)
  |some (_,.map _ _),.m (some b)=>
   match h.get b with
   |.mp es _=>some (.i .i64 (.ofNat es.length),h)
   |_=>none
  |_,_=>none
 |.max,_,[.i k x,.i k' y]=>cond (decide (k=k')) (some (.i k (cond (pc x y) y x),h)) none
 |.min,_,[.i k x,.i k' y]=>cond (decide (k=k')) (some (.i k (cond (pc y x) y x),h)) none
 |_,_,_=>none
def Lg(E:Env)(t:TypeId)(z:Nat)(h:H):Option (V×H):=match E.tt t with
 |some (_,.string)=>
  match E.xt.ql z with
  |some y=>some (.y .i64 y,h)
  |none=>none
 |some (_,.slice _)=>
  match E.xt.on z with
  |some y=>some (.y .i64 y,h)
  |none=>none
 |_=>none
theorem P2(hE:E.OK)(bK:BD E φ){w:World}(hr:HR φ h w)(t:TypeId)(ty:TypeId)(cs:Array Bool){z:Nat}{v:Value}(hx:VR φ (.q z) v):
  Yields E.P φ w (builtin .len #[t] ty cs #[v]) (Lg E t z h):=by
 unfold Lg;simp only[VR]at hx;obtain⟨rfl,_⟩:=hx;split
 ·rename_i i ht
  obtain⟨_,hu⟩:=hE.ty _ _ _ ht;split
  ·rename_i y hy
   obtain⟨s,s1,s2⟩:=bK.here.xt.ql _ _ hy;rw[show φ.q z=.string s from s1];exact Yields.pure hr (v:=.int .i64 (s.size:Int)) (by simp[builtin,arH,run_underlying hu,goInt]) (by simp only[VR,s2])
  ·exact Yields.none
 ·rename_i i e ht
  obtain⟨_,hu⟩:=hE.ty _ _ _ ht;split
  ·rename_i y hy
   obtain⟨a,n,cap,s1,s2⟩:=bK.here.xt.on _ _ hy;rw[show φ.q z=.slice a n cap from s1];exact Yields.pure hr (v:=.int .i64 (n:Int)) (by simp[builtin,arH,run_underlying hu,goInt]) (by simp only[VR,s2])
  ·exact Yields.none
 ·exact Yields.none
def Nx:V->V->Bool
 |.y k x,.y k' x'=>decide (k=k')&&arD x x'
 |.i k n,.i k' n'=>decide (k=k')&&decide (n=n')
 |_,_=>false
theorem FB{r:V}(h:Nx r a=true){k:IntKind}{p q:Int}(h1:VR φ a (.int k p))(h2:VR φ r (.int k q)):p=q:=by
 cases r<;>cases a<;>simp only[Nx,arC,decide_eq_true_eq]at h<;>first|(cases h;done)|skip
 ·obtain⟨h3,h4⟩:=h
  subst h3;subst h4;simp only[VR,Value.int.injEq]at h1 h2;omega
 ·obtain⟨h3,h4⟩:=h
  subst h3;have:=aop h4;subst this;simp only[VR,Value.int.injEq]at h1 h2;omega
def iA(E:Env)(b:Builtin)(ts:List TypeId)(args:List V)(h:H):Option (V×H):=match b,ts,args with
 |.len,[t],[.q z]=>Lg E t z h
 |.len,[t],[.sr _ x k sz]=>
  match E.tt t,E.rl x k with
  |some (_,.slice _),some y=>cond (arD sz (E.rz x)) (some (.y .i64 y,h)) none
  |_,_=>none
 |.len,[t],[.m (some b)]=>
  match h.get b with
  |.gS x _ kD=>
   match E.tt t,kD,E.ml x with
   |some (_,.map _ _),[],some v=>some (v,h)
   |_,_,_=>none
  |_=>eT E .len [t] [.m (some b)] h
 |.max,ts,[a,b]=>
  match E.mx a b with
  |some r=>some (r,h)
  |none=>eT E .max ts [a,b] h
 |.min,ts,[a,b]=>
  match E.mx a b with
  |some r=>cond (Nx r a) (some (b,h)) (cond (Nx r b) (some (a,h)) none)
  |none=>eT E .min ts [a,b] h
 |b,ts,args=>eT E b ts args h
def dP(E:Env)(call yld:dJ)(fr:Fr)(o:Op)(h:H):Option (V×H):=match o with
 |.call c=>
  match c.callee with
  |.builtin b=>iA E b c.argTypes.toList (c.args.toList.map (ev E.ng fr)) h
  |.value f=>
   match ev E.ng fr f with
   |.f g first im=>call g (first++c.args.toList.map (ev E.ng fr)++im) h
   |.yl l=>yld l (c.args.toList.map (ev E.ng fr)) h
   |_=>none
  |.invoke _ _=>none
 |.defer _=>none
 |o=>kb E fr o h
section
variable (E:Env) (fr:Fr) (h:H)
def Zd(x:Operand):Option (V×H):=some (ev E.ng fr x,h)
def ahH(c a b:Operand):Option (V×H):=match ev E.ng fr c with|.b true=>some (ev E.ng fr a,h)|.b false=>some (ev E.ng fr b,h)|_=>none
def abg(t:TypeId):Option (V×H):=Dd E t h
def anX(t:TypeId)(x:Operand):Option (V×H):=VI t (ev E.ng fr x) h
def abh(t:TypeId)(ps:Array (Nat×Operand)):Option (V×H):=zi E t (nL E.ng fr ps.toList) h
def VX(t:TypeId)(n:Nat)(ps:Array (Nat×Operand)):Option (V×H):=lO E t n (nL E.ng fr ps.toList) h
def ahI(t:TypeId)(a:Operand):Option (V×H):=rA E t (ev E.ng fr a) h
def abj(t:TypeId)(a x:Operand):Option (V×H):=Df E t (ev E.ng fr a) (ev E.ng fr x) h
def anY(x:Operand):Option (V×H):=match ID (ev E.ng fr x)with|some y=>some (y,h)|none=>none
def anZ(op:BinOp)(t:TypeId)(x y:Operand)(_:TypeId):Option (V×H):=match K7 E op t (ev E.ng fr x) (ev E.ng fr y)with|some r=>some (r,h)|none=>none
def sUn(op:UnOp)(_:TypeId)(x:Operand):Option (V×H):=match aUn op (ev E.ng fr x)with|some r=>some (r,h)|none=>none
def ahJ(s d:TypeId)(x:Operand):Option (V×H):=match K5 E s d (ev E.ng fr x)with
 |some r=>some (r,h)
 |none=>
  match Dp E s d (ev E.ng fr x) h with
  |some r=>some (r,h)
  |none=>none
def an0(t:TypeId)(x:Operand):Option (V×H):=match E.tt t with
 |some (_,d)=>cond (mI d) (some (.EZ t (ev E.ng fr x),h)) none
 |none=>none
def an1(fn:Fn)(first im:Array Operand):Option (V×H):=match fn with|.func f=>some (.f f (first.toList.map (ev E.ng fr)) (im.toList.map (ev E.ng fr)),h)|_=>none
def abk(t:TypeId)(x:Operand)(lo hi mx:Option Operand):Option (V×H):=match mx with|none=>zy E t (ev E.ng fr x) (lo.map (ev E.ng fr)) (hi.map (ev E.ng fr)) h|some _=>none
def sFA(t:TypeId)(x:Operand)(f:Nat):Option (V×H):=kG E t (ev E.ng fr x) f h
def sF(t:TypeId)(x:Operand)(f:Nat):Option (V×H):=zk E t (ev E.ng fr x) f h
def sIA(t:TypeId)(x i:Operand):Option (V×H):=kH E t (ev E.ng fr x) (ev E.ng fr i) h
def sI(t:TypeId)(x i:Operand):Option (V×H):=zp E t (ev E.ng fr x) (ev E.ng fr i) h
def an2(t:TypeId)(r:Option Operand):Option (V×H):=tM E t (r.map (ev E.ng fr)) h
def an3(t:TypeId)(l c:Operand):Option (V×H):=nO E t (ev E.ng fr l) (ev E.ng fr c) h
def sLk(t:TypeId)(x k:Operand)(ok:Bool):Option (V×H):=qB E t (ev E.ng fr x) (ev E.ng fr k) ok h
def sMU(t:TypeId)(m k x:Operand):Option (V×H):=kQ E t (ev E.ng fr m) (ev E.ng fr k) (ev E.ng fr x) h
def an4(x:Operand)(i:Nat):Option (V×H):=match ev E.ng fr x with
 |.t vs=>
  match vs[i]?with
  |some y=>some (y,h)
  |none=>none
 |_=>none
def an5(t:TypeId)(x:Operand):Option (V×H):=Ld E t (ev E.ng fr x) h
def an6(it:Operand)(b:Bool):Option (V×H):=match b with|true=>Lf (ev E.ng fr it) h|false=>none
def ahK(call yld:dJ)(c:Call):Option (V×H):=match c.callee with
 |.builtin b=>iA E b c.argTypes.toList (c.args.toList.map (ev E.ng fr)) h
 |.value f=>
  match ev E.ng fr f with
  |.f g first im=>call g (first++c.args.toList.map (ev E.ng fr)++im) h
  |.yl l=>yld l (c.args.toList.map (ev E.ng fr)) h
  |_=>none
 |.invoke _ _=>none
def zD(call yld:dJ)(o:Op):Option (V×H):=@Op.rec (fun _=>Option (V×H)) (Zd E fr h) (Zd E fr h) (ahH E fr h) (abg E h) (anX E fr h) (abh E fr h) (VX E fr h) (sMU E fr h) (ahI E fr h) (abj E fr h) (fun _=>none) (fun _=>none) (anY E fr h) (anZ E fr h) (sUn E fr h) (ahJ E fr h) (fun _ _=>none) (an0 E fr h) (an1 E fr h) (an2 E fr h) (fun _ _=>none) (an3 E fr h) (abk E fr h) (sFA E fr h) (sF E fr h) (sIA E fr h) (sI E fr h) (sLk E fr h) (sMU E fr h) (fun _ _ _=>none) (fun _ _ _ _=>none) (an5 E fr h) (an6 E fr h) (fun _=>none) (fun _ _ _ _=>none) (an4 E fr h) (ahK E fr h call yld) (fun _=>none) (fun _=>none) (fun _=>none) (fun _ _=>none) (fun _ _ _=>none) (fun _ _=>none) o
end
theorem iU(E:Env)(call yld:dJ)(fr:Fr)(o:Op)(h:H):zD E fr h call yld o=dP E call yld fr o h:=by
 cases o<;>first|rfl|skip
 ·rename_i fn first im;cases fn<;>rfl
 ·rename_i t x lo hi mx;cases mx<;>rfl
 ·rename_i it b;cases b<;>rfl
abbrev IF:=Fr->H->Option (Fr×H)
def Ny(k:IF)(fr:Fr)(h:H)(v:V)(d:Option Nat):Option (Fr×H):=@arR _ (fun _=>Option (Fr×H)) (k fr h) (fun d=>cond (arN d fr.n) (k (fr.set d v) h) none) d
def an7(k:IF)(fr:Fr)(d:Option Nat)(p:V×H):Option (Fr×H):= @Prod.rec _ _ (fun _=>Option (Fr×H)) (fun v h=>Ny k fr h v d) p
def pDo(k:IF)(fr:Fr)(d:Option Nat)(r:Option (V×H)):Option (Fr×H):= @arR _ (fun _=>Option (Fr×H)) none (an7 k fr d) r
def pGd(E:Env)(call yld:dJ)(k:IF)(fr:Fr)(h:H)(o:Oper)(b:Bool):Option (Fr×H):=@Bool.rec (fun _=>Option (Fr×H)) (Ny k fr h (.t []) o.dst) (pDo k fr o.dst (zD E fr h call yld o.op)) b
def P3(E:Env)(call yld:dJ)(ops:Array Oper)(o:Oper)(_:List Oper)(k:IF)(fr:Fr)(h:H):Option (Fr×H):=@arR _ (fun _=>Option (Fr×H)) none (pGd E call yld k fr h o) (mc ops fr o)
def wu(E:Env)(call yld:dJ)(ops:Array Oper)(l:List Oper):IF:= @List.rec _ (fun _=>IF) (fun fr h=>some (fr,h)) (P3 E call yld ops) l
theorem FC(E:Env)(call yld:dJ)(ops:Array Oper)(fr:Fr)(h:H):wu E call yld ops [] fr h=some (fr,h):=rfl
theorem Co(E:Env)(call yld:dJ)(ops:Array Oper)(o:Oper)(rest:List Oper)(fr:Fr)(h:H):wu E call yld ops (o::rest) fr h=
  match mc ops fr o with
  |some true=>
   match dP E call yld fr o.op h with
   |some (v,h')=>
    match o.dst with
    |none=>wu E call yld ops rest fr h'
    |some d=>cond (arN d fr.n) (wu E call yld ops rest (fr.set d v) h') none
   |none=>none
  |some false=>
   match o.dst with
   |none=>wu E call yld ops rest fr h
   |some d=>cond (arN d fr.n) (wu E call yld ops rest (fr.set d (.t [])) h) none
  |none=>none:=by
 show P3 E call yld ops o rest (wu E call yld ops rest) fr h=_;unfold P3;cases mc ops fr o with
 |none=>rfl
 |some b=>
  cases b with
  |false=>show Ny _ _ _ _ _=_;unfold Ny;cases o.dst<;>rfl
  |true=>
   show pDo _ _ _ (zD E fr h call yld o.op)=_;rw[iU];cases dP E call yld fr o.op h with
   |none=>rfl
   |some p=>obtain⟨v,h'⟩:=p;show Ny _ _ _ _ _=_;unfold Ny;cases o.dst<;>rfl
def Res(φ:Ren)(w:World)(v:V)(h':H)(e:Ending)(w':World):Prop:=∃af v',e=.returned v'/\Ext φ w af w'/\VR af v v'/\HR af h' w'
def pD(E:Env)(call:dJ):Prop:=∀f args h v h',call f args h=some (v,h')->∀φ args' w n,GL E.ng φ->BD E φ->J φ args args'->HR φ h w->
 (∃fn c,E.P.funcs[f]? =some fn/\fn.body=some c/\(fn.name== "runtime.NumGoroutine")=false)/\CallsIn (W none) n E.P f args'.toArray w (Res φ w v h')
def qC(E:Env)(yld:dJ):Prop:=∀l args h v h',yld l args h=some (v,h')->∀φ args' w n ro r,GL E.ng φ->BD E φ->J φ args args'->HR φ h w->φ l=some r->
 ∃fn tmps assign body,(Instr.yield r args'.toArray).run E.P w=.ok (.round r fn tmps assign body) w/\RoundIn (W ro) n E.P r fn tmps assign body w (Res φ w v h')
theorem IG{E:Env}{ro:Option Nat}{n:Nat}{f:FuncId}{args:Array Value}{w:World}{R:Ending->World->Prop}(h:CallsIn (W none) n E.P f args w R):CallsIn (W ro) n E.P f args w R:=h
theorem FR.put{φ:Ren}{fr:Fr}{a:Act}(hf:FR φ fr a.tmps){d:Nat}(hd:d<fr.n){x:V}{v:Value}(hv:VR φ x v):FR φ (fr.set d x) (a.put (some d) v).tmps:=by
 rcases hf.set d hv with h|h
 ·exact h
 ·omega
theorem fB.length{φ:Ren}:∀{x:List (V×V×Nat)} {l:List MapEntry},fB φ x l->l.length=x.length
 |[],l,e=>by simp only[fB]at e;subst e;rfl
 |(k,v,n)::xs,l,e=>by
  simp only[fB]at e;obtain⟨e1,es,rfl,_,_,_,h⟩:=e;simp[fB.length h]
theorem kc{E:Env}(hE:E.OK)(bK:BD E φ){h:H}{w:World}(hr:HR φ h w)(b:Builtin)(ts:Array TypeId)(ty:TypeId)(cs:Array Bool){args':List Value}(ha:J φ args args'):
  Yields E.P φ w (builtin b ts ty cs args'.toArray) (eT E b ts.toList args h):=by
 unfold eT;split
 ·rename_i t tx s x e
  have e':ts=#[t,tx]:=arL e;simp only[J]at ha;obtain⟨vs,_,rfl,hs,vx,_,rfl,hx,rfl⟩:=ha;have:=(Iu hE bK hr t tx ty hs hx).v8;rw[e'];simpa only[builtin]using this
 ·rename_i t t2 x k e
  have e':ts=#[t,t2]:=arL e;subst e';simp only[J]at ha;obtain⟨vx,_,rfl,hx,vk,_,rfl,hk,rfl⟩:=ha;have:=(IC hE bK hr t t2 ty hx hk).v8;simpa only[builtin]using this
 ·rename_i t x e
  have e':ts=#[t]:=arL e;subst e';simp only[J]at ha;obtain⟨vx,_,rfl,hx,rfl⟩:=ha;split
  ·rename_i i l ht
   obtain⟨_,hu⟩:=hE.ty _ _ _ ht;simp only[VR]at hx;obtain⟨rfl,_⟩:=hx;exact Yields.pure hr (v:=.int .i64 l.length) (by simp[builtin,arH,run_underlying hu,goInt,du]) (by simp only[VR];rfl)
  ·rename_i i e c ht
   obtain⟨_,hu⟩:=hE.ty _ _ _ ht;simp only[VR]at hx;obtain⟨_,rfl⟩:=hx;exact Yields.pure hr (v:=.int .i64 0) (by simp[builtin,arH,run_underlying hu,goInt]) (by simp only[VR])
  ·rename_i i e bo n c ht
   obtain⟨_,hu⟩:=hE.ty _ _ _ ht;obtain⟨b,o⟩:=bo;obtain⟨r,cap,_,rfl⟩:=VR.VM hx;exact Yields.pure hr (v:=.int .i64 n) (by simp[builtin,arH,run_underlying hu,goInt]) (by simp only[VR];rfl)
  ·rename_i i e ht
   obtain⟨_,hu⟩:=hE.ty _ _ _ ht;simp only[VR]at hx;obtain⟨_,_,rfl⟩:=hx;exact Yields.pure hr (v:=.int .i64 0) (by simp[builtin,arH,run_underlying hu,goInt]) (by simp only[VR])
  ·rename_i i n e ht
   obtain⟨_,hu⟩:=hE.ty _ _ _ ht;exact Yields.pure hr (v:=.int .i64 n) (by simp[builtin,arH,run_underlying hu,goInt]) (by simp only[VR];rfl)
  ·rename_i i k e ht
   obtain⟨_,hu⟩:=hE.ty _ _ _ ht;simp only[VR]at hx;subst hx;exact Yields.pure hr (v:=.int .i64 0) (by simp[builtin,arH,run_underlying hu,goInt]) (by simp only[VR])
  ·rename_i i k e b ht
   obtain⟨_,hu⟩:=hE.ty _ _ _ ht;simp only[VR]at hx;obtain⟨r,hb,rfl⟩:=hx;split
   ·rename_i es clock jE
    obtain⟨o,h1,h2⟩:=hr.ew b r hb (by rw[jE];trivial);rw[jE]at h2;obtain⟨oU,rfl,h3⟩:=h2;have hl:oU.size=es.length:=by simpa using h3.length
    refine Yields.pure hr (v:=.int .i64 es.length) ?_ (by simp only[VR];rfl);have hg:(getObj r).run E.P w=.ok (.map oU clock) w:=by simp[getObj,Sem.run,h1]
    simp[builtin,arH,run_underlying hu,goInt,hg,hl]
   ·exact Yields.none
  ·exact Yields.none
 ·rename_i k x k' y
  simp only[J]at ha;obtain⟨v1,_,rfl,h1,v2,_,rfl,h2,rfl⟩:=ha;simp only[VR]at h1 h2;subst h1;subst h2
  by_cases hk:k=k'
  ·subst hk
   simp only[decide_true,cond];refine Yields.pure hr (v:=.int k (if y>x then y else x)) (by simp[builtin,Builtin.max_,Builtin.max2]) ?_;simp only[VR];cases e:pc x y with
   |true=>rw[if_pos ((ma _ _).1 e)]
   |false=>rw[if_neg (by have:=(zm _ _).1 e;omega)]
  ·rw[decide_eq_false hk];exact Yields.none
 ·rename_i k x k' y
  simp only[J]at ha;obtain⟨v1,_,rfl,h1,v2,_,rfl,h2,rfl⟩:=ha;simp only[VR]at h1 h2;subst h1;subst h2
  by_cases hk:k=k'
  ·subst hk
   simp only[decide_true,cond];refine Yields.pure hr (v:=.int k (if y<x then y else x)) (by simp[builtin,arU,arV]) ?_;simp only[VR];cases e:pc y x with
   |true=>rw[if_pos ((ma _ _).1 e)]
   |false=>rw[if_neg (by have:=(zm _ _).1 e;omega)]
  ·rw[decide_eq_false hk];exact Yields.none
 ·exact Yields.none
theorem FD{E:Env}(hE:E.OK)(bK:BD E φ){h:H}{w:World}(hr:HR φ h w)(b:Builtin)(ts:Array TypeId)(ty:TypeId)(cs:Array Bool){args':List Value}(ha:J φ args args'):
  Yields E.P φ w (builtin b ts ty cs args'.toArray) (iA E b ts.toList args h):=by
 unfold iA;split
 ·rename_i t z e
  have e':ts=#[t]:=arL e;subst e';simp only[J]at ha;obtain⟨vx,_,rfl,hx,rfl⟩:=ha;exact P2 hE bK hr t ty cs hx
 ·rename_i t bb x k sz e
  have e':ts=#[t]:=arL e;subst e';simp only[J]at ha;obtain⟨vx,_,rfl,hx,rfl⟩:=ha;split
  ·rename_i i el y ht jD
   obtain⟨_,hu⟩:=hE.ty _ _ _ ht;cases hc:arD sz (E.rz x)with
   |false=>exact Yields.none
   |true=>
    have ed:sz=E.rz x:=aop hc;simp only[VR]at hx;obtain⟨r,n,cap,hb,hz,hn,hk,ic,rfl⟩:=hx;obtain⟨m,_,hm,hs⟩:=bK.here.rl _ _ _ jD;have Fi:m=n:=Nat.eq_of_mul_eq_mul_right hz (by rw[hn,<-hm,ed]);subst Fi;exact Yields.pure hr (v:=.int .i64 ((m+k:Nat):Int)) (by simp[builtin,arH,run_underlying hu,goInt]) (by simp only[VR];rw[hs])
  ·exact Yields.none
 ·rename_i t bb e
  split
  ·rename_i x d kD hg
   have e':ts=#[t]:=arL e;subst e';simp only[J]at ha;obtain⟨vx,_,rfl,hx,rfl⟩:=ha;split
   ·rename_i i kt et v ht hml
    obtain⟨_,hu⟩:=hE.ty _ _ _ ht;simp only[VR]at hx;obtain⟨r,hb,rfl⟩:=hx;obtain⟨o,h1,h2⟩:=hr.ew bb r hb (by rw[hg];trivial);rw[hg]at h2;obtain⟨es,c,rfl,h3,h4⟩:=h2;simp only[MU]at h3;have jE:es=(φ.g x).1:=congrArg Prod.fst h3;refine Yields.pure hr (v:=.int .i64 ((φ.g x).1.size:Nat)) ?_ (bK.here.ml _ _ hml);have dh:(getObj r).run E.P w=.ok (.map es c) w:=by simp[getObj,Sem.run,h1]
    simp[builtin,arH,run_underlying hu,goInt,dh,jE]
   ·exact Yields.none
  ·have:=kc hE bK hr .len ts ty cs ha
   rw[e]at this;exact this
 ·rename_i a b
  split
  ·rename_i r hmx
   simp only[J]at ha;obtain⟨v1,_,rfl,h1,v2,_,rfl,h2,rfl⟩:=ha;obtain⟨k,p,q,rfl,rfl,h3⟩:=bK.here.mx _ _ _ hmx _ _ h1 h2;exact Yields.pure hr (v:=.int k (if q>p then q else p)) (by simp[builtin,Builtin.max_,Builtin.max2]) h3
  ·exact kc hE bK hr .max ts ty cs ha
 ·rename_i a b
  split
  ·rename_i r hmx
   simp only[J]at ha;obtain⟨v1,_,rfl,h1,v2,_,rfl,h2,rfl⟩:=ha;obtain⟨k,p,q,rfl,rfl,h3⟩:=bK.here.mx _ _ _ hmx _ _ h1 h2;cases ea:Nx r a with
   |true=>
    have:=FB ea h1 h3;exact Yields.pure hr (v:=.int k (if q<p then q else p)) (by simp[builtin,arU,arV]) (by
     have:(if q<p then q else p)=q:=by split at this<;>split<;>omega
     rw[this];exact h2)
   |false=>
    cases eb:Nx r b with
    |true=>
     have:=FB eb h2 h3;exact Yields.pure hr (v:=.int k (if q<p then q else p)) (by simp[builtin,arU,arV]) (by
      have:(if q<p then q else p)=p:=by split at this<;>split<;>omega
      rw[this];exact h1)
    |false=>exact Yields.none
  ·exact kc hE bK hr .min ts ty cs ha
 ·exact kc hE bK hr _ ts ty cs ha
end
noncomputable section
theorem xO{E:Env}{ro:Option Nat}{n:Nat}{φ:Ren}{w:World}{a:Act}{o:Oper}{r:Option (V×H)}(hd:∀c,o.op≠ .defer c)(hy:Yields E.P φ w (execOp a.eval o) r){x:V}{h':H}(hr:r=some (x,h'))
  {K:Act->World->Prop}{Q:Exit->Act->World->Prop}(hK:∀af v w',Ext φ w af w'->VR af x v->HR af h' w'->K (a.put o.dst v) w'):o.wpIn (W ro) n E.P a w K Q:=by
 refine⟨fun _ _=>trivial,?_⟩;rw[arX _ _ _ hd];obtain⟨af,v,w',h1,h2,h3,h4⟩:=hy x h' hr;rcases h1 with h1|⟨h1,rfl⟩
 ·rw[h1];exact hK af v w' h2 h3 h4
 ·rw[h1];exact hK af undef w' h2 h3 h4
theorem kR{E:Env}(hE:E.OK){call yld:dJ}(hC:pD E call)(hY:qC E yld){φ:Ren}(hg:GL E.ng φ)(bK:BD E φ){fr:Fr}{a:Act}(hf:FR φ fr a.tmps){h:H}{w:World}(hr:HR φ h w)
  (ro:Option Nat)(n:Nat)(o:Oper){x:V}{h':H}(hs:dP E call yld fr o.op h=some (x,h'))
  {K:Act->World->Prop}{Q:Exit->Act->World->Prop}(hK:∀af v w',Ext φ w af w'->VR af x v->HR af h' w'->K (a.put o.dst v) w'):o.wpIn (W ro) n E.P a w K Q:=by
 cases gm:o.op with
 |call c=>
  rw[gm]at hs;simp only[dP]at hs;have cG:=vU hg hf c.args.toList;have aro:c.args.toList.map a.eval=(c.args.map a.eval).toList:=by simp
  split at hs
  ·rename_i b BN
   obtain⟨cs,e⟩:∃cs,execOp a.eval o=builtin b c.argTypes o.type cs (c.args.map a.eval):=⟨_,by simp only[execOp,gm,resolve,BN,pure_bind,invoke];rfl⟩
   have hb:=FD hE bK hr b c.argTypes o.type cs cG;refine xO (fun c' e=>by rw[gm]at e;cases e) (r:=iA E b c.argTypes.toList (c.args.toList.map (ev E.ng fr)) h) ?_ hs hK;rw[e];have mJ:(c.args.toList.map a.eval).toArray=c.args.map a.eval:=by
    apply arL;simp
   rw[mJ]at hb;exact hb
  ·rename_i f BN
   have so:=ry hg hf f;split at hs
   ·rename_i g first im dh
    rw[dh]at so;simp only[VR]at so;obtain⟨eu,fY,hv,h1,h2⟩:=so;obtain⟨⟨fn,cd,lF,pE,jN⟩,eF⟩:=hC _ _ _ _ _ hs φ (eu.toList++c.args.toList.map a.eval++fY.toList) w (n-1) hg bK ((h1.append cG).append h2) hr;refine⟨fun _ _=>trivial,?_⟩;rw[arX _ _ _ (fun c' e=>by rw[gm]at e;cases e)];have mJ:(eu.toList++c.args.toList.map a.eval++fY.toList).toArray=eu++c.args.map a.eval++fY:=by
     apply arL;simp
    have nP:¬fn.name= "runtime.NumGoroutine" :=by simpa using jN
    have e:(execOp a.eval o).run E.P w=.ok (.enter g (eu++c.args.map a.eval++fY)) w:=by
     simp[execOp,gm,resolve,BN,hv,Deferred.ofValue,invoke,callFunc,lF,pE,nP]
    rw[e];refine⟨(fun hd=>(by cases hd)),?_⟩;rw[mJ]at eF;refine(IG (ro:=ro) eF).mono ?_;rintro e w' ⟨af,v',rfl,h3,h4,h5⟩;exact hK af v' w' h3 h4 h5
   ·rename_i l hl
    rw[hl]at so;simp only[VR]at so;obtain⟨r,hlr,hv⟩:=so;obtain⟨fn,tmps,assign,body,lR,kq⟩:=hY _ _ _ _ _ hs φ _ w (n-1) ro r hg bK cG hr hlr;refine⟨fun _ _=>trivial,?_⟩;rw[arX _ _ _ (fun c' e=>by rw[gm]at e;cases e)];have mJ:(c.args.toList.map a.eval).toArray=c.args.map a.eval:=by
     apply arL;simp
    rw[mJ]at lR;have e:(execOp a.eval o).run E.P w=.ok (.round r fn tmps assign body) w:=by
     simp[execOp,gm,resolve,BN,hv,Deferred.ofValue,invoke,lR]
    rw[e];refine⟨(fun hd=>(by cases hd)),?_⟩;refine kq.mono ?_;rintro e w' ⟨af,v',rfl,h3,h4,h5⟩;exact hK af v' w' h3 h4 h5
   ·cases hs
  ·cases hs
 |defer c=>rw[gm]at hs;simp only[dP]at hs;cases hs
 |_=>
  rw[gm]at hs;simp only[dP]at hs;refine xO (fun c' e=>by rw[gm]at e;cases e) (abf hE hg bK hf hr o) (by rw[gm];exact hs) hK
theorem tP{E:Env}(hE:E.OK){call yld:dJ}(hC:pD E call)(hY:qC E yld)(ops:Array Oper)(ro:Option Nat)(n:Nat){Q:Exit->Act->World->Prop}:∀(l:List Oper) (fr:Fr) (h:H) (cQ:Fr) (h':H),wu E call yld ops l fr h=some (cQ,h')->
  ∀(φ:Ren) (a:Act) (w:World),GL E.ng φ->BD E φ->FR φ fr a.tmps->HR φ h w->
  (∀af a' w',Ext φ w af w'->FR af cQ a'.tmps->a'.defers=a.defers->HR af h' w'->Q .normal a' w')->wpListIn (W ro) n E.P ops Q l a w
 |[],fr,h,cQ,h',e,φ,a,w,_,_,hf,hr,hQ=>by
  simp only[FC,AAA,arE]at e;obtain⟨rfl,rfl⟩:=e;exact hQ φ a w (Ext.refl φ w) hf rfl hr
 |o::rest,fr,h,cQ,h',e,φ,a,w,hg,bK,hf,hr,hQ=>by
  simp only[Co]at e;split at e
  ·rename_i hw
   have mK:=gV hf hw;simp only[wpListIn,mK,if_true];split at e
   ·rename_i v h1 hs
    refine kR hE hC hY hg bK hf hr ro n o hs fun af u w' hx hv cM=> ?_
    split at e
    ·rename_i hd
     refine tP hE hC hY ops ro n rest fr h1 cQ h' e af (a.put o.dst u) w' (hg.mono hx.le) (bK.mono hx.le) ?_ cM fun jZ IH w'' iT su sw mL=> ?_
     ·rw[hd];exact hf.mono hx.le
     ·exact hQ jZ IH w'' (hx.trans iT) su (by rw[sw];rw[hd];rfl) mL
    ·rename_i d hd
     cases bf:arN d fr.n with
     |false=>rw[bf]at e;cases e
     |true=>
      rw[bf]at e;simp only[cond]at e;refine tP hE hC hY ops ro n rest (fr.set d v) h1 cQ h' e af (a.put o.dst u) w' (hg.mono hx.le) (bK.mono hx.le) ?_ cM fun jZ IH w'' iT su sw mL=> ?_
      ·rw[hd];exact(hf.mono hx.le).put (bh.1 bf) hv
      ·exact hQ jZ IH w'' (hx.trans iT) su (by rw[sw];rw[hd];rfl) mL
   ·cases e
  ·rename_i hw
   have mK:=gV hf hw;simp only[wpListIn,mK,ash,if_false];refine⟨fun _ _=>trivial,?_⟩;split at e
   ·rename_i hd
    refine tP hE hC hY ops ro n rest fr h cQ h' e φ (a.put o.dst undef) w hg bK ?_ hr fun jZ IH w'' iT su sw mL=> ?_
    ·rw[hd];exact hf
    ·exact hQ jZ IH w'' iT su (by rw[sw];rw[hd];rfl) mL
   ·rename_i d hd
    cases bf:arN d fr.n with
    |false=>rw[bf]at e;cases e
    |true=>
     rw[bf]at e;simp only[cond]at e;refine tP hE hC hY ops ro n rest (fr.set d (.t [])) h cQ h' e φ (a.put o.dst undef) w hg bK ?_ hr fun jZ IH w'' iT su sw mL=> ?_
     ·rw[hd];exact hf.put (bh.1 bf) (by simp only[VR];exact⟨#[],rfl,by simp[J]⟩)
     ·exact hQ jZ IH w'' iT su (by rw[sw];rw[hd];rfl) mL
  ·cases e
end
variable{i j:Nat}
noncomputable section
def gI(o:Oper):List Nat:=o.after.toList.filterMap fun e=>cond (arW .any e) (some e.on) none
def Down(ops:Array Oper)(L:Nat->Prop):Prop:=∀i o,ops[i]? =some o->L i->∀j∈gI o,L j
def rC(ops:Array Oper)(j i:Nat):Prop:=∀L,Down ops L->L i->L j
theorem rC.refl(i:Nat):rC ops i i:=fun _ _ h=>h
theorem rC.trans{k:Nat}(h:rC ops i j)(h':rC ops j k):rC ops i k:=fun L hd hk=>h L hd (h' L hd hk)
theorem rC.dep{o:Oper}(ho:ops[i]? =some o)(hj:j∈gI o):rC ops j i:=fun _ hd h=>hd i o ho h j hj
def reads(ops:Array Oper)(o:Oper):List Nat:=(match o.guard with
 |none=>[]
 |some (j,_)=>
  match(ops[j]?).bind (·.dst)with
  |some t=>[t]
  |none=>[])++o.op.operands.toList.filterMap fun x=>match x with|.tmp t=>some t|_=>none
structure FE(E:Env)(call yld:dJ)(ops:Array Oper)(Dz:Fr)(h0:H)where
 x:Nat->V
 g:Nat->Bool
 rf:Nat->Fr
 Lh:Nat->Fr
 st:Nat->H
 yI:Nat->Bool
 idx:Nat->Nat
 lo:Nat->Nat
 hi:Nat->Nat
 k:Nat
 top:∀i o,ops[i]? =some o->∀j∈gI o,j<i
 Nz:∀i j oi oj t,i<j->ops[i]? =some oi->ops[j]? =some oj->oi.dst=some t->(oj.dst=some t\/t∈reads ops oj)->rC ops i j
 P4:∀i j oi oj t,i<j->ops[i]? =some oi->ops[j]? =some oj->t∈reads ops oi->oj.dst=some t->rC ops i j
 inj:∀i j oi oj,ops[i]? =some oi->ops[j]? =some oj->yI i=true->yI j=true->idx i=idx j->i=j
 lt:∀i oi,ops[i]? =some oi->yI i=true->idx i<k
 FF:∀p,p<k->∃i oi,ops[i]? =some oi/\yI i=true/\idx i=p
 chain:∀i j oi oj,ops[i]? =some oi->ops[j]? =some oj->yI i=true->yI j=true->idx i<idx j->rC ops i j
 low:∀e i oe oi,ops[e]? =some oe->ops[i]? =some oi->yI e=true->idx e<lo i->yI i=false->rC ops e i
 ahL:∀i oi,ops[i]? =some oi->yI i=false->lo i<=k
 high:∀e i oe oi,ops[e]? =some oe->ops[i]? =some oi->yI e=true->hi i<=idx e->yI i=false->rC ops i e
 guard:∀i o,ops[i]? =some o->mc ops (rf i) o=some (g i)
 skip:∀i o,ops[i]? =some o->g i=false->x i=.t []/\(yI i=true->st (idx i+1)=st (idx i))
 eff:∀i o,ops[i]? =some o->g i=true->yI i=true->dP E call yld (rf i) o.op (st (idx i))=some (x i,st (idx i+1))
 quiet:∀i o,ops[i]? =some o->g i=true->yI i=false->∀q,lo i<=q->q<=hi i->q<=k->dP E call yld (rf i) o.op (st q)=some (x i,st q)
 dst:∀(i:Nat) (o:Oper) (d:Nat),ops[i]? =some o->o.dst=some d->d<Dz.n
 rfn:∀i,(rf i).n=Dz.n
 rfv:∀i o t,ops[i]? =some o->(rf i).get t=.top\/(t∈reads ops o/\(rf i).get t=(Lh i).get t)
 f0:Lh 0=Dz
 fs:∀i o,ops[i]? =some o->Lh (i+1)=match o.dst with|none=>Lh i|some d=>(Lh i).set d (x i)
 s0:st 0=h0
variable {E:Env} {call yld:dJ} {ops:Array Oper} {Dz:Fr} {h0:H}
theorem FE.cur(p:FE E call yld ops Dz h0)(t:Nat):∀i,i<=ops.size->
  (∃j oj,j<i/\ops[j]? =some oj/\oj.dst=some t/\(p.Lh i).get t=p.x j/\∀l ol,l<i->ops[l]? =some ol->ol.dst=some t->l<=j)\/
  ((∀l ol,l<i->ops[l]? =some ol->ol.dst≠some t)/\(p.Lh i).get t=Dz.get t):=by
 intro i
 induction i with
 |zero=>intro _;exact .inr ⟨fun l _ h=>by omega,by rw[p.f0]⟩
 |succ i ih=>
  intro hi;have bf:i<ops.size:=by omega
  have ho:ops[i]? =some ops[i]:=arJ bf;have hs:=p.fs i _ ho
  by_cases hd:ops[i].dst=some t
  ·refine .inl ⟨i,_,Nat.lt_succ_self i,ho,hd,?_,fun l ol hl _ _=>by omega⟩
   rw[hs,hd];simp only[Fr.bg,if_true]
  ·have hg:(p.Lh (i+1)).get t=(p.Lh i).get t:=by
    rw[hs];cases e:ops[i].dst with
    |none=>rfl
    |some d=>
     simp only[Fr.bg];rw[if_neg (fun h=>hd (by rw[e,h]))]
   rcases ih (by omega)with⟨j,oj,h1,h2,h3,h4,h5⟩|⟨h1,h2⟩
   ·refine .inl ⟨j,oj,by omega,h2,h3,hg.trans h4,fun l ol hl km oW=> ?_⟩
    rcases arG l i with h|h
    ·exact h5 l ol h km oW
    ·have:l=i:=by omega
     subst this;rw[ho]at km;cases km;exact absurd oW hd
   ·refine .inr ⟨fun l ol hl km oW=> ?_,hg.trans h2⟩
    rcases arG l i with h|h
    ·exact h1 l ol h km oW
    ·have:l=i:=by omega
     subst this;rw[ho]at km;cases km;exact hd oW
def mE(listed:Array Bool)(i:Nat):Prop:=listed.getD i false=true
structure Inv(p:FE E call yld ops Dz h0)(φ0:Ren)(a0:Act)(w0:World)(listed:Array Bool)(a:Act)(w:World):Prop where
 size:listed.size=ops.size
 down:Down ops (mE listed)
 st:∃φ q,Ext φ0 w0 φ w/\HR φ (p.st q) w/\q<=p.k/\(∀i oi,ops[i]? =some oi->p.yI i=true->(mE listed i↔p.idx i<q))/\
  (∀t,(∀i oi,ops[i]? =some oi->oi.dst=some t->¬mE listed i)->VR φ (Dz.get t) (a.tmps.getD t undef))/\
  (∀t i oi,ops[i]? =some oi->oi.dst=some t->mE listed i->(∀j oj,i<j->ops[j]? =some oj->oj.dst=some t->¬mE listed j)->VR φ (p.x i) (a.tmps.getD t undef))
 ts:a.tmps.size=Dz.n
 df:a.defers=a0.defers
theorem mem_ready{ops:Array Oper}{listed:Array Bool}{i:Nat}(hi:i∈arK .any ops listed):∃o,ops[i]? =some o/\listed.getD i true=false/\∀j∈gI o,mE listed j:=by
 simp only[arK,List.mem_filter,List.mem_range,arC,arM]at hi;obtain⟨h1,h2,h3⟩:=hi;have ho:ops[i]? =some ops[i]:=arJ h1;refine⟨_,ho,h2,fun j hj=> ?_⟩;rw[ho]at h3;simp only[asi,asd,asb,arS,arM]at h3;simp only[gI,asg]at hj;obtain⟨e,he,hb⟩:=hj;cases hbe:arW .any e with
 |false=>rw[hbe]at hb;cases hb
 |true=>
  rw[hbe]at hb;simp only[cond,AAA]at hb;subst hb;rcases h3 e (by simpa using he)with h|h
  ·rw[hbe]at h;cases h
  ·exact h
theorem mE.set{listed:Array Bool}(hi:i<listed.size):mE (listed.setIfInBounds i true) j↔(j=i\/mE listed j):=by
 unfold mE
 by_cases h:j=i
 ·subst h;simp[asa,hi]
 ·simp only[arF,arP (Ne.symm h),h,false_or]
section
variable {p:FE E call yld ops Dz h0} {φ0:Ren} {a0:Act} {w0:World} {listed:Array Bool} {a:Act} {w:World}
theorem Inv.anc(I:Inv p φ0 a0 w0 listed a w){o:Oper}(ho:ops[i]? =some o)(hd:∀j∈gI o,mE listed j)(hj:rC ops j i)(bU:j≠i):mE listed j:=by
 have:j=i\/mE listed j:=hj (fun l=>l=i\/mE listed l) (fun l ol km hl m hm=>by
  rcases hl with rfl|hl
  ·rw[ho]at km;cases km
   exact .inr (hd m hm)
  ·exact .inr (I.down l ol km hl m hm)) (.inl rfl)
 rcases this with h|h
 ·exact absurd h bU
 ·exact h
theorem Inv.frame(I:Inv p φ0 a0 w0 listed a w){i:Nat}{o:Oper}(ho:ops[i]? =some o)(hd:∀j∈gI o,mE listed j)(hn:¬mE listed i){φ:Ren}
  (h1:∀t,(∀i oi,ops[i]? =some oi->oi.dst=some t->¬mE listed i)->VR φ (Dz.get t) (a.tmps.getD t undef))
  (h2:∀t i oi,ops[i]? =some oi->oi.dst=some t->mE listed i->(∀j oj,i<j->ops[j]? =some oj->oj.dst=some t->¬mE listed j)->VR φ (p.x i) (a.tmps.getD t undef)):
  FR φ (p.rf i) a.tmps:=by
 refine⟨by rw[I.ts,p.rfn],fun t=> ?_⟩;rcases p.rfv i o t ho with h|⟨ht,h⟩
 ·rw[h];simp[VR]
 ·rw[h]
  have bf:i<ops.size:=by
   rcases arG i ops.size with h|h
   ·exact h
   ·rw[arI h]at ho;cases ho
  have later:∀j oj,i<=j->ops[j]? =some oj->oj.dst=some t->¬mE listed j:=fun j oj hj iQ yJ hl=>by
   rcases arG i j with h|h
   ·exact hn (p.P4 i j o oj t h ho iQ ht yJ _ I.down hl)
   ·have:j=i:=by omega
    subst this;exact hn hl
  rcases p.cur t i (by omega)with⟨j,oj,g1,g2,g3,g4,g5⟩|⟨g1,g2⟩
  ·rw[g4]
   refine h2 t j oj g2 g3 (I.anc ho hd (p.Nz j i oj o t g1 g2 ho g3 (.inr ht)) (by omega)) fun l ol hl km oW=> ?_
   rcases arG l i with h|h
   ·have:=g5 l ol h km oW;omega
   ·exact later l ol h km oW
  ·rw[g2]
   refine h1 t fun l ol km oW=> ?_
   rcases arG l i with h|h
   ·exact absurd oW (g1 l ol h km)
   ·exact later l ol h km oW
theorem Inv.step(I:Inv p φ0 a0 w0 listed a w){i:Nat}{o:Oper}(ho:ops[i]? =some o)(hd:∀j∈gI o,mE listed j)(hn:¬mE listed i){φ af:Ren}{q q':Nat}{w':World}{v:Value}
  (h1:∀t,(∀i oi,ops[i]? =some oi->oi.dst=some t->¬mE listed i)->VR φ (Dz.get t) (a.tmps.getD t undef))
  (h2:∀t i oi,ops[i]? =some oi->oi.dst=some t->mE listed i->(∀j oj,i<j->ops[j]? =some oj->oj.dst=some t->¬mE listed j)->VR φ (p.x i) (a.tmps.getD t undef))
  (hle:Le φ af)(hx:Ext φ0 w0 af w')(hr:HR af (p.st q') w')(hq:q'<=p.k)
  (hs:∀j oj,ops[j]? =some oj->p.yI j=true->((j=i\/mE listed j)↔p.idx j<q'))(hv:VR af (p.x i) v):
  Inv p φ0 a0 w0 (listed.setIfInBounds i true) (a.put o.dst v) w':=by
 have bf:i<listed.size:=by
  rw[I.size];rcases arG i ops.size with h|h
  ·exact h
  ·rw[arI h]at ho;cases ho
 have fa:∀j,mE (listed.setIfInBounds i true) j↔(j=i\/mE listed j):=fun j=>mE.set bf
 have NA:∀t,(a.put o.dst v).tmps.getD t undef=if o.dst=some t then v else a.tmps.getD t undef:=fun t=>by
  cases me:o.dst with
  |none=>simp[Act.put]
  |some d=>
   have hdn:=p.dst i o d ho me
   by_cases h:d=t
   ·subst h
    have:d<a.tmps.size:=by rw[I.ts];exact hdn
    simp[Act.put,asa,this]
   ·rw[if_neg (fun e=>h (arO e))]
    simp only[Act.put,arF,arP h]
 refine⟨by simp[I.size],fun j oj iQ hj m hm=> ?_,⟨af,q',hx,hr,hq,fun j oj iQ he=>(fa j).trans (hs j oj iQ he),fun t ht=> ?_,fun t j oj iQ yJ hj jO=> ?_⟩,?_,?_⟩
 ·rw[fa]at hj⊢
  rcases hj with rfl|hj
  ·rw[ho]at iQ;cases iQ
   exact .inr (hd m hm)
  ·exact .inr (I.down j oj iQ hj m hm)
 ·rw[NA]
  have bU:o.dst≠some t:=fun e=>ht i o ho e ((fa i).2 (.inl rfl))
  rw[if_neg bU];exact VR.mono hle _ _ (h1 t fun j oj iQ yJ hl=>ht j oj iQ yJ ((fa j).2 (.inr hl)))
 ·rw[NA]
  by_cases Vm:o.dst=some t
  ·rw[if_pos Vm]
   have:j=i:=by
    rcases(fa j).1 hj with h|h
    ·exact h
    ·rcases arQ i j with mf|mf|mf
     ·exact absurd (p.Nz i j o oj t mf ho iQ Vm (.inl yJ) _ I.down h) hn
     ·exact mf.symm
     ·exact absurd ((fa i).2 (.inl rfl)) (jO i o mf ho Vm)
   subst this;exact hv
  ·rw[if_neg Vm]
   have hji:j≠i:=by rintro rfl;rw[ho]at iQ;cases iQ;exact Vm yJ
   have oK:mE listed j:=by
    rcases(fa j).1 hj with h|h
    ·exact absurd h hji
    ·exact h
   exact VR.mono hle _ _ (h2 t j oj iQ yJ oK fun l ol hl km oW E8=>jO l ol hl km oW ((fa l).2 (.inr E8)))
 ·cases o.dst<;>simp[Act.put,I.ts]
 ·rw[<-I.df];cases o.dst<;>rfl
end
theorem kr{listed:Array Bool}(h:listed.getD i true=false):¬mE listed i:=by
 unfold mE;rw[arF]at h⊢;cases e:listed[i]?with
 |none=>rw[e]at h;cases h
 |some b=>rw[e]at h;simp at h;subst h;simp
def left(listed:Array Bool):Nat:=listed.toList.countP (fun b=> !b)
theorem countP_set(l:List Bool)(i:Nat)(h:l[i]? =some false):(l.set i true).countP (fun b=> !b)+1=l.countP (fun b=> !b):=by
 induction l generalizing i with
 |nil=>simp at h
 |cons b l ih=>
  cases i with
  |zero=>simp at h;subst h;simp
  |succ i=>
   simp at h;have:=ih i h;cases b<;>simp at this⊢ <;>omega
theorem pF{listed:Array Bool}(hn:listed.getD i true=false):left (listed.setIfInBounds i true)+1=left listed:=by
 unfold left;have:(listed.setIfInBounds i true).toList=listed.toList.set i true:=by simp
 rw[this];refine countP_set _ i ?_;rw[arF]at hn;cases e:listed[i]?with
 |none=>rw[e]at hn;cases hn
 |some b=>rw[e]at hn;simp at hn;subst hn;simpa using e
theorem NB{p:FE E call yld ops Dz h0}{listed:Array Bool}(ed:listed.size=ops.size)(hr:arK .any ops listed=[]):∀i,i<ops.size->mE listed i:=by
 intro i
 induction i using Nat.strongRecOn with
 |ind i ih=>
  intro hi;refine Classical.byContradiction fun hn=> ?_
  have ho:ops[i]? =some ops[i]:=arJ hi;have:i∈arK .any ops listed:=by
   simp only[arK,List.mem_filter,List.mem_range,arC,arM];refine⟨hi,?_,?_⟩
   ·unfold mE at hn
    rw[arF]at hn⊢;have h':i<listed.size:=by omega
    rw[arJ h']at hn⊢;simpa using hn
   ·rw[ho]
    simp only[asi,asd,asb,arS,arM];intro e he;cases hb:arW .any e with
    |false=>exact .inl rfl
    |true=>
     refine .inr ?_;have hm:e.on∈gI ops[i]:=by
      simp only[gI,asg];exact⟨e,by simpa using he,by rw[hb];rfl⟩
     have bf:=p.top i _ ho _ hm;exact ih e.on bf (by omega)
  rw[hr]at this;cases this
theorem mM{listed:Array Bool}(h:left listed=0)(i:Nat)(hi:i<listed.size):mE listed i:=by
 unfold left at h;rw[List.countP_eq_zero]at h;have:=h listed[i] (by simp);unfold mE;simp[asa,hi];simpa using this
theorem P5(hE:E.OK)(hC:pD E call)(hY:qC E yld)(p:FE E call yld ops Dz h0)(ro:Option Nat)(n:Nat){φ0:Ren}{a0:Act}{w0:World}(hg:GL E.ng φ0)(bK:BD E φ0)
  {Q:Exit->Act->World->Prop}(hQ:∀af a' w',Ext φ0 w0 af w'->FR af (p.Lh ops.size) a'.tmps->a'.defers=a0.defers->HR af (p.st p.k) w'->Q .normal a' w'):
  ∀(fuel:Nat) (listed:Array Bool) (a:Act) (w:World),left listed<=fuel->Inv p φ0 a0 w0 listed a w->wpAnyIn (W ro) n E.P .any ops Q fuel listed a w:=by
 have done:∀(listed:Array Bool) (a:Act) (w:World),arK .any ops listed=[]->Inv p φ0 a0 w0 listed a w->Q .normal a w:=by
  intro listed a w hr I;have pG:=NB (p:=p) I.size hr;obtain⟨φ,q,hx,hh,hq,hs,h1,h2⟩:=I.st;have hqk:q=p.k:=by
   rcases arG q p.k with h|h
   ·obtain⟨i,oi,NC,hei,DA⟩:=p.FF q h
    have bf:i<ops.size:=by
     rcases arG i ops.size with h|h
     ·exact h
     ·rw[arI h]at NC;cases NC
    have:=(hs i oi NC hei).1 (pG i bf);omega
   ·omega
  subst hqk;refine hQ φ a w hx ⟨?_,fun t=> ?_⟩ I.df hh
  ·rw[I.ts]
   have:∀i,i<=ops.size->(p.Lh i).n=Dz.n:=by
    intro i
    induction i with
    |zero=>intro _;rw[p.f0]
    |succ i ih=>
     intro hi;have bf:i<ops.size:=by omega
     rw[p.fs i _ (arJ bf)];split
     ·exact ih (by omega)
     ·simpa[Fr.xF]using ih (by omega)
   rw[this _ (arZ _)]
  ·rcases p.cur t ops.size (arZ _)with⟨j,oj,g1,g2,g3,g4,g5⟩|⟨g1,g2⟩
   ·rw[g4]
    refine h2 t j oj g2 g3 (pG j g1) fun l ol hl km oW _=> ?_
    have bf:l<ops.size:=by
     rcases arG l ops.size with h|h
     ·exact h
     ·rw[arI h]at km;cases km
    have:=g5 l ol bf km oW;omega
   ·rw[g2]
    refine h1 t fun l ol km oW _=> ?_
    have bf:l<ops.size:=by
     rcases arG l ops.size with h|h
     ·exact h
     ·rw[arI h]at km;cases km
    exact g1 l ol bf km oW
 intro fuel
 induction fuel with
 |zero=>
  intro listed a w hl I;have hr:arK .any ops listed=[]:=by
   cases e:arK .any ops listed with
   |nil=>rfl
   |cons i is=>
    obtain⟨o,ho,hn,_⟩:=mem_ready (ops:=ops) (listed:=listed) (i:=i) (by rw[e];simp);have bf:i<listed.size:=by
     rw[I.size];rcases arG i ops.size with h|h
     ·exact h
     ·rw[arI h]at ho;cases ho
    exact absurd (mM (by omega) i bf) (kr hn)
  exact⟨hr,done listed a w hr I⟩
 |succ fuel ih=>
  intro listed a w hl I;refine⟨fun hr=>done listed a w hr I,fun i hi=> ?_⟩;obtain⟨o,ho,hnt,hd⟩:=mem_ready hi;have hn:=kr hnt;obtain⟨φ,q,hx,hh,hq,hs,h1,h2⟩:=I.st;have hf:=I.frame ho hd hn h1 h2;have tQ:=gV hf (p.guard i o ho);have P6:left (listed.setIfInBounds i true)<=fuel:=by have:=pF hnt;omega
  have heq:p.yI i=true->q=p.idx i:=fun he=>by
   rcases arQ q (p.idx i)with h|h|h
   ·have hk:=p.lt i o ho he
    obtain⟨e,oe,yK,tL,DA⟩:=p.FF q (by omega);have bU:e≠i:=by rintro rfl;omega
    have:=(hs e oe yK tL).1 (I.anc ho hd (p.chain e i oe o yK ho tL he (by omega)) bU);omega
   ·exact h
   ·exact absurd ((hs i o ho he).2 h) hn
  have hsE:p.yI i=true->∀j oj,ops[j]? =some oj->p.yI j=true->((j=i\/mE listed j)↔p.idx j<q+1):=fun he j oj iQ VY=>by
   have hqi:=heq he;rw[hs j oj iQ VY]
   constructor
   ·rintro(rfl|h)<;>omega
   ·intro h
    rcases arG (p.idx j) q with h'|h'
    ·exact .inr h'
    ·exact .inl (p.inj j i oj o iQ ho VY he (by omega))
  have hsQ:p.yI i=false->∀j oj,ops[j]? =some oj->p.yI j=true->((j=i\/mE listed j)↔p.idx j<q):=fun he j oj iQ VY=>by
   rw[hs j oj iQ VY]
   constructor
   ·rintro(rfl|h)
    ·rw[he]at VY;cases VY
    ·exact h
   ·exact .inr
  unfold wpOpIn;rw[ho];simp only[tQ];cases hgi:p.g i with
  |false=>
   simp only[ash,if_false];refine⟨fun _ _=>trivial,?_⟩;obtain⟨hxi,bB⟩:=p.skip i o ho hgi;refine ih _ _ _ P6 ?_;have hv:VR φ (p.x i) undef:=by rw[hxi];simp only[VR];exact⟨#[],rfl,by simp[J]⟩
   cases he:p.yI i with
   |true=>
    refine I.step ho hd hn h1 h2 (Le.refl φ) hx (q:=q) (q':=q+1) ?_ ?_ (hsE he) hv
    ·have:=bB he
     rw[<-heq he]at this;rw[this];exact hh
    ·have:=p.lt i o ho he
     have:=heq he;omega
   |false=>exact I.step ho hd hn h1 h2 (Le.refl φ) hx (q:=q) hh hq (hsQ he) hv
  |true=>
   simp only[if_true];cases he:p.yI i with
   |true=>
    have kS:=p.eff i o ho hgi he;have hqi:=heq he;rw[<-hqi]at kS;refine kR hE hC hY (hg.mono hx.le) (bK.mono hx.le) hf hh ro n o kS fun af v w' iT yk cM=> ?_
    refine ih _ _ _ P6 (I.step ho hd hn h1 h2 iT.le (hx.trans iT) (q:=q) cM ?_ (hsE he) yk);have:=p.lt i o ho he;omega
   |false=>
    have VT:p.lo i<=q:=by
     rcases arG q (p.lo i)with h|h
     ·have:=p.ahL i o ho he
      obtain⟨e,oe,yK,tL,DA⟩:=p.FF q (by omega);have bU:e≠i:=by rintro rfl;rw[he]at tL;cases tL
      have:=(hs e oe yK tL).1 (I.anc ho hd (p.low e i oe o yK ho tL (by omega) he) bU);omega
     ·exact h
    have hhi:q<=p.hi i:=by
     rcases arG (p.hi i) q with h|h
     ·obtain⟨e,oe,yK,tL,DA⟩:=p.FF (p.hi i) (by omega)
      exact absurd (p.high e i oe o yK ho tL (by omega) he _ I.down ((hs e oe yK tL).2 (by omega))) hn
     ·exact h
    have kS:=p.quiet i o ho hgi he q VT hhi hq;refine kR hE hC hY (hg.mono hx.le) (bK.mono hx.le) hf hh ro n o kS fun af v w' iT yk cM=> ?_
    exact ih _ _ _ P6 (I.step ho hd hn h1 h2 iT.le (hx.trans iT) (q:=q) cM hq (hsQ he) yk)
theorem VZ(hE:E.OK)(hm:E.P.follows .mixedOrders=true)(hC:pD E call)(hY:qC E yld)(p:FE E call yld ops Dz h0)(ro:Option Nat)(n id:Nat){φ:Ren}{a:Act}{w:World}(hg:GL E.ng φ)(bK:BD E φ)(hf:FR φ Dz a.tmps)(hr:HR φ h0 w)
  {Q:Exit->Act->World->Prop}(hQ:∀af a' w',Ext φ w af w'->FR af (p.Lh ops.size) a'.tmps->a'.defers=a.defers->HR af (p.st p.k) w'->Q .normal a' w'):(Code.region id ops true).wpIn (W ro) n E.P Q a w:=by
 refine wpIn_region_any hm ?_;have II:∀i,¬mE (Array.replicate ops.size false) i:=fun i h=>by
  unfold mE at h;rw[arF,Array.getElem?_replicate]at h;split at h<;>simp at h
 refine P5 hE hC hY p ro n (φ0:=φ) (a0:=a) (w0:=w) hg bK hQ ops.size _ a _ ?_ ?_
 ·unfold left
  refine Nat.le_trans List.countP_le_length ?_;simp
 ·refine⟨by simp,fun i o _ h=>absurd h (II i),⟨φ,0,Ext.drew φ w _,by rw[p.s0];exact hr.drew _,Nat.zero_le _,fun i oi _ _=>⟨fun h=>absurd h (II i),fun h=>by omega⟩,fun t _=>hf.2 t,fun t i oi _ _ h=>absurd h (II i)⟩,hf.1,rfl⟩
end
variable{h':H}
noncomputable section
inductive Kd where
 |pure
 |rd
 |ef
def kdB:Builtin->Kd
 |.len=>.rd
 |.max=>.pure
 |.min=>.pure
 |_=>.ef
def qoF(f:FuncId):Bool:=arD f 14||arD f 29||arD f 33||arD f 52||arD f 54||arD f 55||arD f 57
def V0:Callee->Kd
 |.builtin b=>kdB b
 |.value (.func f)=>cond (qoF f) .rd .ef
 |_=>.ef
def QO(call:dJ):Prop:=∀f args h x h',qoF f=true->call f args h=some (x,h')->h'=h
def kd:Op->Kd
 |.move _|.assign _|.pick .. |.build .. |.nilCheck _|.binOp .. |.unOp .. |.makeInterface .. |.makeFunc .. |.slice .. |.fieldAddr .. |.field .. |.indexAddr .. |.index .. |.extract .. =>.pure
 |.load .. =>.rd
 |.convert .. =>.rd
 |.lookup .. =>.rd
 |.call c=>V0 c.callee
 |_=>.ef
def dT(o:Oper):Bool:=match kd o.op with
 |.ef=>true
 |_=>false
theorem wv(c:Bool)(v:V):∃r:Option V,∀h:H,(cond c (some (v,h)) none:Option (V×H))=r.map fun v=>(v,h):=by
 cases c
 ·exact⟨none,fun h=>rfl⟩
 ·exact⟨some v,fun h=>rfl⟩
theorem IJ(c d:Bool)(v u:V):∃r:Option V,∀h:H,(cond c (some (v,h)) (cond d (some (u,h)) none):Option (V×H))=r.map fun v=>(v,h):=by
 cases c
 ·cases d
  ·exact⟨none,fun h=>rfl⟩
  ·exact⟨some u,fun h=>rfl⟩
 ·exact⟨some v,fun h=>rfl⟩
theorem yL{b:Builtin}(hk:kdB b=.pure)(ts:List TypeId)(args:List V):∃r:Option V,∀h,eT E b ts args h=r.map fun v=>(v,h):=by
 cases b<;>try(simp only[kdB]at hk;cases hk;done)
 ·simp only[eT]
  split<;>first|contradiction|skip
  ·exact wv _ _
  ·exact⟨none,fun h=>rfl⟩
 ·simp only[eT]
  split<;>first|contradiction|skip
  ·exact wv _ _
  ·exact⟨none,fun h=>rfl⟩
theorem IK{t:TypeId}{x:V}(hs:rA E t a h=some (x,h')):h'=h:=by
 unfold rA at hs;split at hs
 ·split at hs
  ·simp only[AAA,arE]at hs;exact hs.2.symm
  ·cases hs
 unfold vZ at hs;have key:∀{c:Bool} {m:Option (V×H)},(cond c m none)=some (x,h')->m=some (x,h'):=fun{c m} e=>by
  cases c with
  |true=>exact e
  |false=>cases e
 split at hs
 ·split at hs
  ·split at hs
   ·simp only[AAA,arE]at hs;exact hs.2.symm
   ·cases hs
  ·split at hs
   ·simp only[AAA,arE]at hs;exact hs.2.symm
   ·cases hs
  ·cases hs
 ·split at hs
  ·have hs:=key hs
   split at hs
   ·split at hs
    ·simp only[AAA,arE]at hs;exact hs.2.symm
    ·cases hs
   ·cases hs
  ·have hs:=key hs
   split at hs
   ·split at hs
    ·simp only[AAA,arE]at hs;exact hs.2.symm
    ·cases hs
   ·cases hs
  ·cases hs
 ·cases hs
theorem an8{α:Type}{c:Bool}{m:Option α}{x:α}(e:(cond c m none)=some x):m=some x:=by
 cases c with
 |true=>exact e
 |false=>cases e
theorem DB{t:TypeId}{k x:V}{ok:Bool}(hs:qB E t a k ok h=some (x,h')):h'=h:=by
 have ND:mH E t a k ok h=some (x,h')->h'=h:=fun hs=>by
  simp only[mH]at hs;split at hs
  ·split at hs
   ·rename_i d es _ _
    cases hk:sk d k with
    |false=>rw[hk]at hs;cases hs
    |true=>
     rw[hk]at hs;simp only[cond_true]at hs;split at hs
     ·simp only[AAA,arE]at hs;exact hs.2.symm
     ·split at hs
      ·split at hs
       ·simp only[AAA,arE]at hs;exact hs.2.symm
       ·cases hs
      ·cases hs
     ·cases hs
   ·cases hs
  ·cases hs
 unfold qB at hs;split at hs
 ·split at hs
  ·split at hs
   ·simp only[AAA,arE]at hs;exact hs.2.symm
   ·cases hs
  ·split at hs
   ·simp only[AAA,arE]at hs;exact hs.2.symm
   ·cases hs
  ·split at hs
   ·rename_i r hr
    simp only[AAA]at hs;subst hs;exact ND hr
   ·unfold Dv at hs
    split at hs
    ·have hs:=(an8 hs)
     split at hs
     ·simp only[AAA,arE]at hs;exact hs.2.symm
     ·split at hs
      ·split at hs
       ·simp only[AAA,arE]at hs;exact hs.2.symm
       ·cases hs
      ·cases hs
     ·cases hs
    ·cases hs
 ·exact ND hs
theorem P7{ts:List TypeId}{x:V}(hs:iA E .len ts args h=some (x,h')):h'=h:=by
 have ND:∀args,eT E .len ts args h=some (x,h')->h'=h:=fun args hs=>by
  simp only[eT]at hs;split at hs<;>first|contradiction|skip
  ·split at hs<;>first|(cases hs;done)|(simp only[AAA,arE]at hs;exact hs.2.symm)|skip
   split at hs<;>first|(cases hs;done)|(simp only[AAA,arE]at hs;exact hs.2.symm)
 unfold iA at hs;split at hs<;>first|contradiction|skip
 ·unfold Lg at hs
  split at hs
  ·split at hs
   ·simp only[AAA,arE]at hs;exact hs.2.symm
   ·cases hs
  ·split at hs
   ·simp only[AAA,arE]at hs;exact hs.2.symm
   ·cases hs
  ·cases hs
 ·split at hs
  ·simp only[cond_eq_ite]at hs
   split at hs
   ·simp only[AAA,arE]at hs;exact hs.2.symm
   ·cases hs
  ·cases hs
 ·split at hs
  ·split at hs
   ·simp only[AAA,arE]at hs;exact hs.2.symm
   ·cases hs
  ·exact ND _ hs
 ·exact ND _ hs
theorem Li{E:Env}{call yld:dJ}{fr:Fr}{o:Op}(hk:kd o=.pure):∃r:Option V,∀h,dP E call yld fr o h=r.map fun v=>(v,h):=by
 cases o<;>try(simp only[kd]at hk;cases hk;done)
 case move x=>exact⟨some _,fun h=>rfl⟩
 case assign x=>exact⟨some _,fun h=>rfl⟩
 case pick c a b=>
  simp only[dP,kb];split
  ·exact⟨some _,fun h=>rfl⟩
  ·exact⟨some _,fun h=>rfl⟩
  ·exact⟨none,fun h=>rfl⟩
 case build t ps=>
  simp only[dP,kb,zi];split
  ·split
   ·split
    ·exact⟨some _,fun h=>rfl⟩
    ·exact⟨none,fun h=>rfl⟩
   ·exact⟨none,fun h=>rfl⟩
  ·split
   ·split
    ·exact⟨some _,fun h=>rfl⟩
    ·exact⟨none,fun h=>rfl⟩
   ·exact⟨none,fun h=>rfl⟩
  ·exact⟨none,fun h=>rfl⟩
 case nilCheck x=>
  simp only[dP,kb];split
  ·exact⟨some _,fun h=>rfl⟩
  ·exact⟨none,fun h=>rfl⟩
 case binOp op t x y z=>
  simp only[dP,kb];split
  ·exact⟨some _,fun h=>rfl⟩
  ·exact⟨none,fun h=>rfl⟩
 case unOp op t x=>
  simp only[dP,kb];split
  ·exact⟨some _,fun h=>rfl⟩
  ·exact⟨none,fun h=>rfl⟩
 case makeInterface t x=>
  simp only[dP,kb];split
  ·rename_i i d _
   cases mI d
   ·exact⟨none,fun h=>rfl⟩
   ·exact⟨some _,fun h=>rfl⟩
  ·exact⟨none,fun h=>rfl⟩
 case makeFunc f a b=>
  cases f
  case func=>exact⟨some _,fun h=>rfl⟩
  all_goals exact⟨none,fun h=>rfl⟩
 case slice t x lo hi mx=>
  cases mx with
  |some _=>exact⟨none,fun h=>rfl⟩
  |none=>
   simp only[dP,kb,zy];split
   ·split
    ·exact⟨some _,fun h=>rfl⟩
    ·split
     ·split
      ·exact⟨some _,fun h=>rfl⟩
      ·exact⟨none,fun h=>rfl⟩
     ·exact⟨none,fun h=>rfl⟩
   ·split
    ·exact⟨some _,fun h=>rfl⟩
    ·exact⟨none,fun h=>rfl⟩
   simp only[yF];split
   ·split
    ·split
     ·exact⟨some _,fun h=>rfl⟩
     ·exact⟨none,fun h=>rfl⟩
    ·exact⟨none,fun h=>rfl⟩
   ·split
    ·split
     ·exact⟨some _,fun h=>rfl⟩
     ·exact⟨none,fun h=>rfl⟩
    ·exact⟨none,fun h=>rfl⟩
   ·split
    ·split
     ·rename_i len sz _ _ _ _ ie _ _ _ _ _ a _
      cases arD sz ie.size
      ·exact⟨none,fun h=>rfl⟩
      ·cases arD a 0
       ·cases arN a len
        ·exact⟨some _,fun h=>rfl⟩
        ·exact⟨some _,fun h=>rfl⟩
       ·exact⟨some _,fun h=>rfl⟩
     ·exact⟨none,fun h=>rfl⟩
    ·exact⟨none,fun h=>rfl⟩
   ·split
    ·split
     ·exact⟨some _,fun h=>rfl⟩
     ·exact⟨none,fun h=>rfl⟩
    ·exact⟨none,fun h=>rfl⟩
   ·split
    ·split
     ·exact⟨some _,fun h=>rfl⟩
     ·exact⟨none,fun h=>rfl⟩
    ·exact⟨none,fun h=>rfl⟩
   ·exact⟨none,fun h=>rfl⟩
 case fieldAddr s x f=>
  simp only[dP,kb,kG];split
  ·split
   ·split
    ·rename_i i _ _
     cases arD i.size 0
     ·exact⟨some _,fun h=>rfl⟩
     ·exact⟨none,fun h=>rfl⟩
    ·exact⟨none,fun h=>rfl⟩
   ·exact⟨none,fun h=>rfl⟩
  ·split
   ·split
    ·rename_i i _ _
     cases arD i.size 0
     ·exact⟨some _,fun h=>rfl⟩
     ·exact⟨none,fun h=>rfl⟩
    ·exact⟨none,fun h=>rfl⟩
   ·exact⟨none,fun h=>rfl⟩
  ·exact⟨none,fun h=>rfl⟩
 case field t x f=>
  simp only[dP,kb,zk];split
  ·split
   ·split
    ·exact⟨some _,fun h=>rfl⟩
    ·exact⟨none,fun h=>rfl⟩
   ·exact⟨none,fun h=>rfl⟩
  ·exact⟨none,fun h=>rfl⟩
 case indexAddr t x i=>
  simp only[dP,kb,kH];split
  ·split
   ·exact⟨some _,fun h=>rfl⟩
   ·exact⟨none,fun h=>rfl⟩
  simp only[lP];split
  ·split
   ·exact⟨some _,fun h=>rfl⟩
   ·exact⟨none,fun h=>rfl⟩
  ·split
   ·exact⟨some _,fun h=>rfl⟩
   ·exact⟨none,fun h=>rfl⟩
  ·split
   ·exact wv _ _
   ·exact⟨none,fun h=>rfl⟩
  ·exact⟨none,fun h=>rfl⟩
 case index t x i=>
  simp only[dP,kb,zp];split
  ·split
   ·split
    ·exact⟨some _,fun h=>rfl⟩
    ·exact⟨none,fun h=>rfl⟩
   ·exact⟨none,fun h=>rfl⟩
  ·split
   ·split
    ·exact⟨some _,fun h=>rfl⟩
    ·exact⟨none,fun h=>rfl⟩
   ·exact⟨none,fun h=>rfl⟩
  ·exact⟨none,fun h=>rfl⟩
 case extract x i=>
  simp only[dP,kb];split
  ·split
   ·exact⟨some _,fun h=>rfl⟩
   ·exact⟨none,fun h=>rfl⟩
  ·exact⟨none,fun h=>rfl⟩
 case call c=>
  obtain⟨callee,args,argTypes⟩:=c;cases callee with
  |builtin b=>
   simp only[dP];cases b<;>try(simp only[kd,V0,kdB]at hk;cases hk;done)
   ·simp only[iA]
    split<;>first|contradiction|skip
    ·split
     ·exact⟨some _,fun h=>rfl⟩
     ·exact yL rfl _ _
    ·exact yL rfl _ _
   ·simp only[iA]
    split<;>first|contradiction|skip
    ·split
     ·exact IJ _ _ _ _
     ·exact yL rfl _ _
    ·exact yL rfl _ _
  |value x=>
   exfalso;cases x with
   |func f=>simp only[kd,V0]at hk;cases hq:qoF f<;>rw[hq]at hk<;>cases hk
   |_=>simp only[kd,V0]at hk;cases hk
  |_=>simp only[kd,V0]at hk;cases hk
theorem Ze{call yld:dJ}(hq:QO call){fr:Fr}{o:Op}(hk:kd o=.rd){x:V}(hs:dP E call yld fr o h=some (x,h')):h'=h:=by
 cases o<;>try(simp only[kd]at hk;cases hk;done)
 case load t a=>exact IK (by simpa only[dP,kb]using hs)
 case convert s d x=>
  simp only[dP,kb]at hs;split at hs
  ·cases hs;rfl
  ·split at hs
   ·cases hs;rfl
   ·cases hs
 case lookup t x k ok=>exact DB (by simpa only[dP,kb]using hs)
 case call c=>
  obtain⟨callee,args,argTypes⟩:=c;cases callee with
  |builtin b=>
   simp only[dP]at hs;cases b<;>try(simp only[kd,V0,kdB]at hk;cases hk;done)
   exact P7 hs
  |value x=>
   cases x with
   |func f=>
    have hs:call f ([]++args.toList.map (ev E.ng fr)++[]) h=some (x,h'):=hs;simp only[List.nil_append,List.append_nil]at hs;refine hq f _ _ _ _ ?_ hs;simp only[kd,V0]at hk;cases he:qoF f with
    |true=>rfl
    |false=>rw[he]at hk;cases hk
   |_=>simp only[kd,V0]at hk;cases hk
  |_=>simp only[kd,V0]at hk;cases hk
end
noncomputable section
def Lj:Option (Nat×Nat)->Option (Nat×Nat)->Bool
 |none,none=>true
 |some (a,b),some (c,d)=>arD a c&&arD b d
 |_,_=>false
theorem FG{x y:Option (Nat×Nat)}(h:Lj x y=true):x=y:=by
 cases x<;>cases y<;>try(cases h;done)
 ·rfl
 ·rename_i a b
  obtain⟨a,b⟩:=a;rename_i c;obtain⟨c,d⟩:=c;simp only[Lj,arC]at h;rw[aop h.1,aop h.2]
def P8:Cap->Cap->Bool
 |.kn a,.kn b=>arD a b
 |.un a,.un b=>arD a b
 |_,_=>false
theorem FH{x y:Cap}(h:P8 x y=true):x=y:=by
 cases x<;>cases y<;>try(cases h;done)
 ·rw[aop h]
 ·rw[aop h]
def kU:List Nat->List Nat->Bool
 |[],[]=>true
 |a::arA,b::bs=>arD a b&&kU arA bs
 |_,_=>false
theorem tT:∀{x y:List Nat},kU x y=true->x=y
 |[],[],_=>rfl
 |a::arA,b::bs,h=>by
  simp only[kU,arC]at h;rw[aop h.1,tT h.2]
 |[],_::_,h=>by cases h
 |_::_,[],h=>by cases h
def Cp:Int->Int->Bool
 |.ofNat a,.ofNat b=>arD a b
 |.negSucc a,.negSucc b=>arD a b
 |_,_=>false
theorem pH{x y:Int}(h:Cp x y=true):x=y:=by
 cases x<;>cases y<;>try(cases h;done)
 ·rw[aop h]
 ·rw[aop h]
mutual
def same:V->V->Bool
 |.top,.top=>true
 |.b x,.b y=>cond x y (!y)
 |.i k n,.i k' n'=>decide (k=k')&&Cp n n'
 |.y k n,.y k' n'=>decide (k=k')&&arD n n'
 |.q n,.q n'=>arD n n'
 |.sr a b c d,.sr a' b' c' d'=>arD a a'&&arD b b'&&arD c c'&&arD d d'
 |.pr a b c d e,.pr a' b' c' d' e'=>arD a a'&&arD b b'&&arD c c'&&arD d d'&&arD e e'
 |.s l,.s l'=>kU l l'
 |.p a,.p b=>Lj a b
 |.sl a n c,.sl a' n' c'=>Lj a a'&&arD n n'&&P8 c c'
 |.es,.es=>true
 |.m none,.m none=>true
 |.m (some a),.m (some b)=>arD a b
 |.f g a b,.f g' a' b'=>arD g g'&&iV a a'&&iV b b'
 |.yl a,.yl b=>arD a b
 |.o,.o=>true
 |.nf,.nf=>true
 |.EZ t x,.EZ t' x'=>arD t t'&&same x x'
 |.ni,.ni=>true
 |.a l,.a l'=>iV l l'
 |.t l,.t l'=>iV l l'
 |_,_=>false
def iV:List V->List V->Bool
 |[],[]=>true
 |x::xs,y::ys=>same x y&&iV xs ys
 |_,_=>false
end
mutual
theorem bJ:∀(x y:V),same x y=true->x=y
 |.top,y,h=>by cases y<;>simp only[same]at h<;>first|rfl|cases h
 |.b x,y,h=>by
  cases y<;>simp only[same]at h<;>try(cases h;done)
  rename_i y;cases x<;>cases y<;>first|rfl|cases h
 |.i k n,y,h=>by
  cases y<;>simp only[same,arC,decide_eq_true_eq]at h<;>try(cases h;done)
  rw[h.1,pH h.2]
 |.y k n,y,h=>by
  cases y<;>simp only[same,arC,decide_eq_true_eq]at h<;>try(cases h;done)
  rw[h.1,aop h.2]
 |.q n,y,h=>by
  cases y<;>simp only[same]at h<;>try(cases h;done)
  rw[aop h]
 |.sr a b c d,y,h=>by
  cases y<;>simp only[same,arC]at h<;>try(cases h;done)
  rw[aop h.1.1.1,aop h.1.1.2,aop h.1.2,aop h.2]
 |.pr a b c d e,y,h=>by
  cases y<;>simp only[same,arC]at h<;>try(cases h;done)
  rw[aop h.1.1.1.1,aop h.1.1.1.2,aop h.1.1.2,aop h.1.2,aop h.2]
 |.s l,y,h=>by
  cases y<;>simp only[same]at h<;>try(cases h;done)
  rw[tT h]
 |.p a,y,h=>by
  cases y<;>simp only[same]at h<;>try(cases h;done)
  rw[FG h]
 |.sl a n c,y,h=>by
  cases y<;>simp only[same,arC]at h<;>try(cases h;done)
  rw[FG h.1.1,aop h.1.2,FH h.2]
 |.es,y,h=>by cases y<;>simp only[same]at h<;>first|rfl|cases h
 |.m a,y,h=>by
  cases y<;>try(cases a<;>simp only[same]at h<;>cases h;done)
  rename_i b;cases a<;>cases b<;>simp only[same]at h<;>first|rfl|(cases h;done)|rw[aop h]
 |.f g a b,y,h=>by
  cases y<;>simp only[same,arC]at h<;>try(cases h;done)
  rw[aop h.1.1,fS _ _ h.1.2,fS _ _ h.2]
 |.yl a,y,h=>by
  cases y<;>simp only[same]at h<;>try(cases h;done)
  rw[aop h]
 |.o,y,h=>by cases y<;>simp only[same]at h<;>first|rfl|cases h
 |.nf,y,h=>by cases y<;>simp only[same]at h<;>first|rfl|cases h
 |.EZ t x,y,h=>by
  cases y<;>simp only[same,arC]at h<;>try(cases h;done)
  rw[aop h.1,bJ _ _ h.2]
 |.ni,y,h=>by cases y<;>simp only[same]at h<;>first|rfl|cases h
 |.a l,y,h=>by
  cases y<;>simp only[same]at h<;>try(cases h;done)
  rw[fS _ _ h]
 |.t l,y,h=>by
  cases y<;>simp only[same]at h<;>try(cases h;done)
  rw[fS _ _ h]
theorem fS:∀(x y:List V),iV x y=true->x=y
 |[],y,h=>by cases y<;>simp only[iV]at h<;>first|rfl|cases h
 |x::xs,y,h=>by
  cases y<;>simp only[iV,arC]at h<;>try(cases h;done)
  rw[bJ _ _ h.1,fS _ _ h.2]
end
def tb(m j:Nat):Bool:=arD (Nat.mod (Nat.shiftRight m j) 2) 1
theorem abl(m j:Nat):tb m j=m.testBit j:=by
 have h2:(m>>>j)%2=m/2^j%2:=by rw[Nat.shiftRight_eq_div_pow]
 rw[Nat.testBit_eq_decide_div_mod_eq,<-h2];show arD ((m>>>j)%2) 1=_;cases hb:arD ((m>>>j)%2) 1 with
 |true=>simp[aop hb]
 |false=>
  have:(m>>>j)%2≠1:=fun e=>by rw[e]at hb;cases hb
  simp[this]
def iW(mk:T Nat):List Nat->Nat
 |[]=>0
 |d::ds=>Nat.lor (Nat.lor (Nat.pow 2 d) (T.get 0 mk d)) (iW mk ds)
def oL(lv:T Nat):List Nat->Nat
 |[]=>0
 |d::ds=>cond (arN (oL lv ds) (T.get 0 lv d)) (T.get 0 lv d) (oL lv ds)
theorem zF(mk:T Nat):∀(ds:List Nat) (a:Nat),(iW mk ds).testBit a=true->∃d∈ds,a=d\/(T.get 0 mk d).testBit a=true
 |[],a,h=>by simp[iW]at h
 |d::ds,a,h=>by
  have e:iW mk (d::ds)=(2^d|||T.get 0 mk d)|||iW mk ds:=rfl
  rw[e,arT,arT,asf]at h;simp only[arS,decide_eq_true_eq]at h;rcases h with(h|h)|h
  ·exact⟨d,by simp,.inl h.symm⟩
  ·exact⟨d,by simp,.inr h⟩
  ·obtain⟨d',h1,h2⟩:=zF mk ds a h
   exact⟨d',by simp[h1],h2⟩
theorem zG(lv:T Nat):∀(ds:List Nat) (n:Nat),n<oL lv ds->∃d∈ds,n<T.get 0 lv d
 |[],n,h=>by simp[oL]at h
 |d::ds,n,h=>by
  simp only[oL]at h;cases hb:arN (oL lv ds) (T.get 0 lv d)with
  |true=>rw[hb]at h;exact⟨d,by simp,h⟩
  |false=>
   rw[hb]at h;obtain⟨d',h1,h2⟩:=zG lv ds n h;exact⟨d',by simp[h1],h2⟩
structure SS where
 ms:T Nat
 lv:T Nat
 lw:T Nat
 rd:T Nat
def okW(lw:T Nat)(m t:Nat):Bool:=match T.get 0 lw t with
 |0=>true
 |c+1=>tb m c
def okD(s:SS)(m:Nat):Option Nat->Bool
 |none=>true
 |some t=>okW s.lw m t&&arD (Nat.land (T.get 0 s.rd t) m) (T.get 0 s.rd t)
def abm(i:Nat):List Nat->T Nat->T Nat
 |[],rd=>rd
 |t::ts,rd=>abm i ts (T.set 0 rd t (Nat.lor (T.get 0 rd t) (Nat.pow 2 i)))
def P9(lw:T Nat)(i:Nat):Option Nat->T Nat
 |none=>lw
 |some t=>T.set 0 lw t (i+1)
def FI(i:Nat):List Nat->Bool
 |[]=>true
 |d::ds=>arN d i&&FI i ds
def Qa(lw:T Nat)(m:Nat):List Nat->Bool
 |[]=>true
 |t::ts=>okW lw m t&&Qa lw m ts
def fwd(ops:Array Oper):List Oper->Nat->Nat->SS->Option SS
 |[],_,_,s=>some s
 |o::os,i,p,s=>
  cond (FI i (gI o)&&Qa s.lw (iW s.ms (gI o)) (reads ops o)&&okD s (iW s.ms (gI o)) o.dst&&(cond (dT o) (arD (oL s.lv (gI o)) p) true))
   (fwd ops os (i+1) (cond (dT o) (p+1) p)
    {ms:=T.set 0 s.ms i (iW s.ms (gI o)),lv:=T.set 0 s.lv i (cond (dT o) (p+1) (oL s.lv (gI o))),lw:=P9 s.lw i o.dst,rd:=abm i (reads ops o) s.rd}) none
def iL:List Oper->Nat
 |[]=>0
 |o::os=>cond (dT o) (iL os+1) (iL os)
theorem sx:∀(a b:List Oper),iL (a++b)=iL a+iL b
 |[],b=>by simp[iL]
 |o::a,b=>by
  simp only[List.cons_append,iL,sx a b];cases dT o<;>simp[cond];omega
def idxOf(ops:Array Oper)(i:Nat):Nat:=iL (ops.toList.take i)
theorem kX{o:Oper}(ho:ops[i]? =some o):idxOf ops (i+1)=cond (dT o) (idxOf ops i+1) (idxOf ops i):=by
 have h:ops.toList[i]? =some o:=by simpa using ho
 unfold idxOf;rw[List.take_add_one,h,sx];simp only[Option.toList_some,iL];cases dT o<;>simp[cond]
theorem IL{ops:Array Oper}{i j:Nat}(h:i<=j):idxOf ops i<=idxOf ops j:=by
 unfold idxOf;obtain⟨d,rfl⟩:=Nat.exists_eq_add_of_le h;rw[List.take_add,sx];omega
theorem mN{o:Oper}(ho:ops[i]? =some o)(he:dT o=true)(h:i<j):idxOf ops i<idxOf ops j:=by
 have:=kX ho;rw[he]at this;have h2:=IL (ops:=ops) (i:=i+1) (j:=j) h;simp only[cond]at this;omega
structure Qb(ops:Array Oper)(i:Nat)(s:SS):Prop where
 ms:∀j a,(T.get 0 s.ms j).testBit a=true->rC ops a j
 lv:∀j e oe,ops[e]? =some oe->dT oe=true->idxOf ops e<T.get 0 s.lv j->rC ops e j
 lve:∀j oj,j<i->ops[j]? =some oj->dT oj=true->T.get 0 s.lv j=idxOf ops j+1
 lvk:∀j,T.get 0 s.lv j<=idxOf ops i
 lw0:∀t,T.get 0 s.lw t=0->∀j oj,j<i->ops[j]? =some oj->oj.dst≠some t
 lw1:∀t c,T.get 0 s.lw t=c+1->∀j oj,j<i->ops[j]? =some oj->oj.dst=some t->rC ops j c
 rd:∀t j oj,j<i->ops[j]? =some oj->t∈reads ops oj->(T.get 0 s.rd t).testBit j=true
 top:∀j oj,j<i->ops[j]? =some oj->∀d∈gI oj,d<j
 Nz:∀j l oj ol t,j<l->l<i->ops[j]? =some oj->ops[l]? =some ol->oj.dst=some t->(ol.dst=some t\/t∈reads ops ol)->rC ops j l
 P4:∀j l oj ol t,j<l->l<i->ops[j]? =some oj->ops[l]? =some ol->t∈reads ops oj->ol.dst=some t->rC ops j l
theorem FJ{i:Nat}:∀{l:List Nat},FI i l=true->∀d∈l,d<i
 |[],_,d,hd=>by cases hd
 |a::l,h,d,hd=>by
  simp only[FI,arC]at h;rcases arY.1 hd with rfl|hd
  ·exact bh.1 h.1
  ·exact FJ h.2 d hd
theorem Lk{lw:T Nat}{m:Nat}:∀{l:List Nat},Qa lw m l=true->∀t∈l,okW lw m t=true
 |[],_,d,hd=>by cases hd
 |a::l,h,d,hd=>by
  simp only[Qa,arC]at h;rcases arY.1 hd with rfl|hd
  ·exact h.1
  ·exact Lk h.2 d hd
theorem FK(i:Nat):∀(l:List Nat) (rd:T Nat) (t j:Nat),((T.get 0 rd t).testBit j=true\/(j=i/\t∈l))->(T.get 0 (abm i l rd) t).testBit j=true
 |[],rd,t,j,h=>by
  rcases h with h|⟨_,h⟩
  ·exact h
  ·cases h
 |a::l,rd,t,j,h=>by
  refine FK i l _ t j ?_;rw[T.bg]
  by_cases ht:t=a
  ·subst ht
   rw[if_pos rfl];refine .inl ?_;have e:Nat.lor (T.get 0 rd t) (Nat.pow 2 i)=T.get 0 rd t|||2^i:=rfl
   rw[e,arT,asf];rcases h with h|⟨rfl,_⟩
   ·simp[h]
   ·simp
  ·rw[if_neg ht]
   rcases h with h|⟨h,hm⟩
   ·exact .inl h
   ·rcases arY.1 hm with hm|hm
    ·exact absurd hm ht
    ·exact .inr ⟨h,hm⟩
theorem Qc{ops:Array Oper}:∀(os:List Oper) (i:Nat) (s s':SS),os=ops.toList.drop i->fwd ops os i (idxOf ops i) s=some s'->Qb ops i s->Qb ops (i+os.length) s'
 |[],i,s,s',_,h,I=>by
  simp only[fwd,AAA]at h;subst h;exact I
 |o::os,i,s,s',hos,h,I=>by
  have ho:ops[i]? =some o:=by
   have:(ops.toList.drop i)[0]? =some o:=by rw[<-hos];rfl
   simpa using this
  have abn:os=ops.toList.drop (i+1):=by
   have:(ops.toList.drop i).drop 1=os:=by rw[<-hos];rfl
   rw[<-this,List.drop_drop]
  simp only[fwd]at h;cases hc:FI i (gI o)&&Qa s.lw (iW s.ms (gI o)) (reads ops o)&&okD s (iW s.ms (gI o)) o.dst&&(cond (dT o) (arD (oL s.lv (gI o)) (idxOf ops i)) true)with
  |false=>rw[hc]at h;cases h
  |true=>
   rw[hc]at h;simp only[cond_true]at h;simp only[arC]at hc;obtain⟨⟨⟨c1,c2⟩,c3⟩,c4⟩:=hc;rw[<-kX ho]at h;have an9:i+(o::os).length=i+1+os.length:=by simp;omega
   rw[an9];refine Qc os (i+1) _ s' abn h ?_;have abo:∀d∈gI o,rC ops d i:=fun d hd=>rC.dep ho hd
   have Qd:∀a,(iW s.ms (gI o)).testBit a=true->rC ops a i:=fun a ha=>by
    obtain⟨d,hd,h⟩:=zF _ _ _ ha;rcases h with rfl|h
    ·exact abo _ hd
    ·exact(I.ms d a h).trans (abo d hd)
   have ahM:∀e oe,ops[e]? =some oe->dT oe=true->idxOf ops e<oL s.lv (gI o)->rC ops e i:=fun e oe yK tL bf=>by
    obtain⟨d,hd,bf⟩:=zG _ _ _ bf;exact(I.lv d e oe yK tL bf).trans (abo d hd)
   have ahN:oL s.lv (gI o)<=idxOf ops i:=by
    rcases arG (idxOf ops i) (oL s.lv (gI o))with h|h
    ·obtain⟨d,_,bf⟩:=zG _ _ _ h
     have:=I.lvk d;omega
    ·exact h
   have hW:∀t,okW s.lw (iW s.ms (gI o)) t=true->∀j oj,j<i->ops[j]? =some oj->oj.dst=some t->rC ops j i:=fun t ht j oj hj iQ hd=>by
    unfold okW at ht;split at ht
    ·rename_i h0
     exact absurd hd (I.lw0 t h0 j oj hj iQ)
    ·rename_i c h1
     rw[abl]at ht;exact(I.lw1 t c h1 j oj hj iQ hd).trans (Qd c ht)
   have hsi:=kX ho;have jO:∀j,j<i+1->j=i\/j<i:=fun j h=>by omega
   refine⟨fun j a h=> ?_,fun j e oe yK tL bf=> ?_,fun j oj hj iQ VY=> ?_,fun j=> ?_,fun t ht j oj hj iQ=> ?_,fun t c ht j oj hj iQ yJ=> ?_,fun t j oj hj iQ ht=> ?_,fun j oj hj iQ d hd=> ?_,fun j l oj ol t Ll hl iQ km yJ oW=> ?_,fun j l oj ol t Ll hl iQ km yJ oW=> ?_⟩
   ·simp only[T.bg]at h
    by_cases hj:j=i
    ·subst hj;rw[if_pos rfl]at h;exact Qd a h
    ·rw[if_neg hj]at h;exact I.ms j a h
   ·simp only[T.bg]at bf
    by_cases hj:j=i
    ·subst hj
     rw[if_pos rfl]at bf;cases abp:dT o with
     |false=>rw[abp]at bf;exact ahM e oe yK tL bf
     |true=>
      rw[abp]at bf c4;simp only[cond]at bf c4;have c4:=aop c4;rcases arG (idxOf ops e) (idxOf ops j)with h|h
      ·exact ahM e oe yK tL (by omega)
      ·have heq:e=j:=by
        rcases arQ e j with h'|h'|h'
        ·have:=mN yK tL h';omega
        ·exact h'
        ·have:=mN ho abp h';omega
       subst heq;exact rC.refl _
    ·rw[if_neg hj]at bf;exact I.lv j e oe yK tL bf
   ·simp only[T.bg]
    rcases jO j hj with rfl|oK
    ·rw[if_pos rfl]
     rw[ho]at iQ;cases iQ;rw[VY];rfl
    ·rw[if_neg (by omega)];exact I.lve j oj oK iQ VY
   ·simp only[T.bg]
    rw[hsi]
    by_cases hj:j=i
    ·rw[if_pos hj]
     cases dT o with
     |true=>exact arZ _
     |false=>exact ahN
    ·rw[if_neg hj]
     have:=I.lvk j;cases dT o<;>simp only[cond]<;>omega
   ·cases hd:o.dst with
    |none=>
     rw[hd]at ht;simp only[P9]at ht;rcases jO j hj with rfl|oK
     ·rw[ho]at iQ;cases iQ;rw[hd];simp
     ·exact I.lw0 t ht j oj oK iQ
    |some u=>
     rw[hd]at ht;simp only[P9,T.bg]at ht
     by_cases Zf:t=u
     ·rw[if_pos Zf]at ht;omega
     ·rw[if_neg Zf]at ht
      rcases jO j hj with rfl|oK
      ·rw[ho]at iQ;cases iQ;rw[hd];exact fun e=>Zf (arO e).symm
      ·exact I.lw0 t ht j oj oK iQ
   ·cases hd:o.dst with
    |none=>
     rw[hd]at ht;simp only[P9]at ht;rcases jO j hj with rfl|oK
     ·rw[ho]at iQ;cases iQ;rw[hd]at yJ;cases yJ
     ·exact I.lw1 t c ht j oj oK iQ yJ
    |some u=>
     rw[hd]at ht c3;simp only[P9,T.bg]at ht
     by_cases Zf:t=u
     ·rw[if_pos Zf]at ht
      have:c=i:=by omega
      subst this;rcases jO j hj with rfl|oK
      ·exact rC.refl _
      ·simp only[okD,arC]at c3
       subst Zf;exact hW t c3.1 j oj oK iQ yJ
     ·rw[if_neg Zf]at ht
      rcases jO j hj with rfl|oK
      ·rw[ho]at iQ;cases iQ;rw[hd]at yJ;exact absurd (arO yJ).symm Zf
      ·exact I.lw1 t c ht j oj oK iQ yJ
   ·refine FK i _ _ t j ?_
    rcases jO j hj with rfl|oK
    ·rw[ho]at iQ;cases iQ;exact .inr ⟨rfl,ht⟩
    ·exact .inl (I.rd t j oj oK iQ ht)
   ·rcases jO j hj with rfl|oK
    ·rw[ho]at iQ;cases iQ;exact FJ c1 d hd
    ·exact I.top j oj oK iQ d hd
   ·rcases jO l hl with rfl|ru
    ·rw[ho]at km;cases km
     rcases oW with oW|oW
     ·rw[oW]at c3
      simp only[okD,arC]at c3;exact hW t c3.1 j oj Ll iQ yJ
     ·exact hW t (Lk c2 t oW) j oj Ll iQ yJ
    ·exact I.Nz j l oj ol t Ll ru iQ km yJ oW
   ·rcases jO l hl with rfl|ru
    ·rw[ho]at km;cases km
     rw[oW]at c3;simp only[okD,arC]at c3;have hb:=I.rd t j oj Ll iQ yJ;have e:=aop c3.2;have e':T.get 0 s.rd t&&&iW s.ms (gI o)=T.get 0 s.rd t:=e;rw[<-e',Nat.testBit_and]at hb;simp only[arC]at hb;exact Qd j hb.2
    ·exact I.P4 j l oj ol t Ll ru iQ km yJ oW
theorem Qb.init(ops:Array Oper):Qb ops 0 ⟨.leaf,.leaf,.leaf,.leaf⟩:=by
 refine⟨fun j a h=> ?_,fun j e oe _ _ h=> ?_,fun j oj hj=>by omega,fun j=>by simp[T.il],fun t _ j oj hj=>by omega,fun t c h=> ?_,fun t j oj hj=>by omega,fun j oj hj=>by omega,fun j l oj ol t _ hl=>by omega,fun j l oj ol t _ hl=>by omega⟩
 ·rw[T.il]at h;simp at h
 ·rw[T.il]at h;omega
 ·rw[T.il]at h;omega
end
end Go.Ev
