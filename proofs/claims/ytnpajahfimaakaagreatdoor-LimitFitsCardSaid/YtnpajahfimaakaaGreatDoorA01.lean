/- A part of what LimitFits rests on. -/
import Derived.TacticsIn
import Derived.RangeFuncIn
import Derived.Laws.Sem
import Derived.Laws.Cells
import Derived.MapKept
import Derived.Laws.Strings
import Derived.Laws.Tables
import Derived.Great.BuildSlice
set_option linter.all false
namespace Go.Ev
theorem agm : True := True.intro
theorem agB.{u,v} {α : Sort u} {β : α → Sort v} {f g : (x : α) → β x} (h : f = g) (a : α) : f a = g a := congrFun h a
end Go.Ev
namespace Go.Ev
open Nat renaming beq->aop,eq_of_beq_eq_true->arC,le_refl->arF,lt_or_ge->arJ,blt->arN,mod->arS,le_of_ble_eq_true->arU,ble->arX,le_trans->asa,sub->asb,div->asd,add_assoc->asg,ble_eq_true_of_le->asj,lt_of_lt_of_le->asl
open Option.some renaming injEq->AAA
open List renaming getElem?_take->arD,getElem?_eq_none->arH,getElem?_drop->arK
open Sem renaming run_bind->arE,run_pure->arZ
open Bool renaming rec->arG,and_eq_true->arI
open Instr renaming sureAddr->arL,indexAt->arP,loadAt->arQ,findNow->arY,fieldAt->asf
open Addr renaming add_lit->arM
open MapKept renaming IsKey->arO
open Result renaming andThen_ok->arR
open World renaming cell?->arT,setCell->ase
open Prod.mk renaming injEq->arV
open _root_.Array renaming getElem?_push->arW,getElem?_eq_none->ash,getElem?_modify->asi
variable{α:Type}
noncomputable section
inductive T(α:Type)where
 |leaf:T α
 |node:T α->α->T α->T α
def T.gN(_:T α)(v:α)(_:T α)(gl gr:Nat->α)(n:Nat):α:=@arG (fun _=>α) (@arG (fun _=>α) (gr (asd (asb n 1) 2)) (gl (asd (asb n 1) 2)) (aop (arS n 2) 1)) v (aop n 0)
def T.gL(d:α)(_:Nat):α:=d
def T.get(d:α)(t:T α):Nat->α:= @T.rec α (fun _=>Nat->α) (T.gL d) T.gN t
def T.oN(d x:α)(_:Nat)(ih:Nat->T α)(n:Nat):T α:=@arG (fun _=>T α) (@arG (fun _=>T α) (.node .leaf d (ih (asd (asb n 1) 2))) (.node (ih (asd (asb n 1) 2)) d .leaf) (aop (arS n 2) 1)) (.node .leaf x .leaf) (aop n 0)
def T.one(d x:α)(f:Nat):Nat->T α:= @Nat.rec (fun _=>Nat->T α) (fun _=>.leaf) (T.oN d x) f
def T.sN(x:α)(l:T α)(v:α)(r:T α)(sl sr:Nat->T α)(n:Nat):T α:=@arG (fun _=>T α) (@arG (fun _=>T α) (.node l v (sr (asd (asb n 1) 2))) (.node (sl (asd (asb n 1) 2)) v r) (aop (arS n 2) 1)) (.node l x r) (aop n 0)
def T.sL(d x:α)(n:Nat):T α:=T.one d x (Nat.succ n) n
def T.set(d:α)(t:T α)(n:Nat)(x:α):T α:= @T.rec α (fun _=>Nat->T α) (T.sL d x) (T.sN x) t n
theorem YZ{n m:Nat}(h:n≠m):aop n m=false:=by
 cases hb:aop n m with
 |false=>rfl
 |true=>exact absurd (arC hb) h
theorem aa7{β:Type}{x y:β}{n:Nat}{a:β}: @arG (fun _=>β) (@arG (fun _=>β) x y (aop (arS n 2) 1)) a (aop n 0)=if n=0 then a else if n%2=1 then y else x:=by
 by_cases h:n=0
 ·subst h;rfl
 ·rw[YZ h,if_neg h]
  by_cases h2:n%2=1
  ·have h3:aop (arS n 2) 1=true:=by show aop (n%2) 1=true;simpa using h2
   rw[if_pos h2,h3]
  ·have h3:aop (arS n 2) 1=false:=YZ h2
   rw[if_neg h2,h3]
theorem T.il(d:α)(n:Nat):T.get d .leaf n=d:=rfl
theorem T.kC(d:α)(l r:T α)(v:α)(n:Nat):
  T.get d (.node l v r) n=if n=0 then v else if n%2=1 then T.get d l ((n-1)/2)else T.get d r ((n-1)/2):=
 (aa7: @arG (fun _=>α) (@arG (fun _=>α) (T.get d r ((n-1)/2)) (T.get d l ((n-1)/2)) (aop (arS n 2) 1)) v (aop n 0)=_)
theorem T.Pw(d x:α)(f n:Nat):T.one d x (f+1) n=if n=0 then .node .leaf x .leaf else if n%2=1 then .node (T.one d x f ((n-1)/2)) d .leaf else .node .leaf d (T.one d x f ((n-1)/2)):=(aa7: @arG (fun _=>T α) (@arG (fun _=>T α) (.node .leaf d (T.one d x f ((n-1)/2))) (.node (T.one d x f ((n-1)/2)) d .leaf) (aop (arS n 2) 1)) (.node .leaf x .leaf) (aop n 0)=_)
theorem T.Px(d x:α)(n:Nat):T.set d .leaf n x=T.one d x (n+1) n:=rfl
theorem T.Py(d x:α)(l r:T α)(v:α)(n:Nat):T.set d (.node l v r) n x=if n=0 then .node l x r else if n%2=1 then .node (T.set d l ((n-1)/2) x) v r else .node l v (T.set d r ((n-1)/2) x):=(aa7: @arG (fun _=>T α) (@arG (fun _=>T α) (.node l v (T.set d r ((n-1)/2) x)) (.node (T.set d l ((n-1)/2) x) v r) (aop (arS n 2) 1)) (.node l x r) (aop n 0)=_)
theorem T.KY{α:Type}(d x:α):∀(f n:Nat),n<f->∀m,T.get d (T.one d x f n) m=if m=n then x else d
 |0,n,h,_=>absurd h (Nat.not_lt_zero _)
 |f+1,n,h,m=>by
  rw[T.Pw]
  by_cases h0:n=0
  ·subst h0
   rw[if_pos rfl,T.kC]
   by_cases hm:m=0<;>simp[hm,T.il]
  ·rw[if_neg h0]
   have ih:=T.KY d x f ((n-1)/2) (by omega)
   by_cases h2:n%2=1
   ·rw[if_pos h2,T.kC]
    by_cases hm:m=0
    ·rw[if_pos hm,if_neg (by omega)]
    ·rw[if_neg hm]
     by_cases yh:m%2=1
     ·rw[if_pos yh,ih]
      by_cases Fi:m=n
      ·subst Fi;simp
      ·rw[if_neg Fi,if_neg (by omega)]
     ·rw[if_neg yh,if_neg (by rintro rfl;exact yh h2)];rfl
   ·rw[if_neg h2,T.kC]
    by_cases hm:m=0
    ·rw[if_pos hm,if_neg (by omega)]
    ·rw[if_neg hm]
     by_cases yh:m%2=1
     ·rw[if_pos yh,if_neg (by rintro rfl;exact h2 yh)];rfl
     ·rw[if_neg yh,ih]
      by_cases Fi:m=n
      ·subst Fi;simp
      ·rw[if_neg Fi,if_neg (by omega)]
theorem T.bg{α:Type}(d x:α):∀(t:T α) (n m:Nat),T.get d (T.set d t n x) m=if m=n then x else T.get d t m
 |.leaf,n,m=>by rw[T.Px,T.KY d x _ _ (Nat.lt_succ_self n)];rfl
 |.node l v r,n,m=>by
  rw[T.Py,T.kC]
  by_cases h0:n=0
  ·subst h0
   rw[if_pos rfl,T.kC]
   by_cases hm:m=0<;>simp[hm]
  ·rw[if_neg h0]
   by_cases h2:n%2=1
   ·rw[if_pos h2,T.kC]
    by_cases hm:m=0
    ·rw[if_pos hm,if_pos hm,if_neg (by omega)]
    ·rw[if_neg hm,if_neg hm]
     by_cases yh:m%2=1
     ·rw[if_pos yh,if_pos yh,T.bg d x l]
      by_cases Fi:m=n
      ·subst Fi;simp
      ·rw[if_neg Fi,if_neg (by omega)]
     ·rw[if_neg yh,if_neg yh,if_neg (by rintro rfl;exact yh h2)]
   ·rw[if_neg h2,T.kC]
    by_cases hm:m=0
    ·rw[if_pos hm,if_pos hm,if_neg (by omega)]
    ·rw[if_neg hm,if_neg hm]
     by_cases yh:m%2=1
     ·rw[if_pos yh,if_pos yh,if_neg (by rintro rfl;exact h2 yh)]
     ·rw[if_neg yh,if_neg yh,T.bg d x r]
      by_cases Fi:m=n
      ·subst Fi;simp
      ·rw[if_neg Fi,if_neg (by omega)]
structure Sym where
 s:Nat->Int
 q:Nat->Value
 w:Nat->List Value
 g:Nat->Array MapEntry×Nat
 k:Nat->Option Obj
structure Ren where
 f:Nat->Option Nat
 n:Nat->Nat
 y:Sym
 m:Nat
instance:CoeFun Ren (fun _=>Nat->Option Nat):=⟨Ren.f⟩
def Ren.s(φ:Ren)(x:Nat):Int:=φ.y.s x
def Ren.q(φ:Ren)(x:Nat):Value:=φ.y.q x
def Ren.w(φ:Ren)(x:Nat):List Value:=φ.y.w x
def Ren.g(φ:Ren)(x:Nat):Array MapEntry×Nat:=φ.y.g x
inductive Cap where
 |kn (c:Nat)
 |un (sz:Nat)
inductive V where
 |top
 |b (x:Bool)
 |i (k:IntKind) (n:Int)
 |y (k:IntKind) (x:Nat)
 |q (x:Nat)
 |sr (b x k sz:Nat)
 |pr (b x y sz off:Nat)
 |s (l:List Nat)
 |p (a:Option (Nat×Nat))
 |sl (a:Option (Nat×Nat)) (len:Nat) (cap:Cap)
 |es
 |m (r:Option Nat)
 |f (fn:FuncId) (first im:List V)
 |yl (r:Nat)
 |o
 |nf
 |EZ (t:TypeId) (v:V)
 |ni
 |a (cs:List V)
 |t (vs:List V)
def bytes(l:List Nat):ByteArray:=⟨(l.map UInt8.ofNat).toArray⟩
mutual
def VR(φ:Ren):V->Value->Prop
 |.top,_=>True
 |.b x,v=>v=.bool x
 |.i k n,v=>v=.int k n
 |.y k x,v=>v=.int k (φ.s x)
 |.q x,v=>v=φ.q x/\v.oneCell'=true
 |.sr b x k sz,v=>∃r n cap,φ b=some r/\0<sz/\n*sz=(φ.w x).length/\n+k<=cap/\cap*sz=φ.n b/\v=.slice (some ⟨r,0,none⟩) (n+k) cap
 |.pr b _ y sz off,v=>∃r n,φ b=some r/\φ.s y=((n:Nat):Int)/\v=.pointer (some ⟨r,n*sz+off,none⟩)
 |.s l,v=>v=.string (bytes l)/\∀x∈l,x<256
 |.p none,v=>v=.pointer none
 |.p (some (b,o)),v=>∃r,φ b=some r/\v=.pointer (some ⟨r,o,none⟩)
 |.sl none n _,v=>n=0/\v=.slice none 0 0
 |.sl (some (b,o)) n (.kn c),v=>∃r,φ b=some r/\n<=c/\v=.slice (some ⟨r,o,none⟩) n c
 |.sl (some (b,o)) n (.un sz),v=>∃r cap,φ b=some r/\n<=cap/\o+cap*sz=φ.n b/\v=.slice (some ⟨r,o,none⟩) n cap
 |.es,v=>∃a c,v=.slice a 0 c
 |.m none,v=>v=.map none
 |.m (some b),v=>∃r,φ b=some r/\v=.map (some r)
 |.f fn first im,v=>∃eu fY,v=.func (.func fn) eu fY/\J φ first eu.toList/\J φ im fY.toList
 |.yl b,v=>∃r,φ b=some r/\v=.func (.yield r) #[] #[]
 |.o,v=>v.oneCell'=true
 |.nf,v=>v=.nilFunc
 |.EZ t x,v=>∃x',v=.iface t x'/\VR φ x x'
 |.ni,v=>v=.nilIface
 |.a cs,v=>∃Db,v=.agg Db/\J φ cs Db.toList
 |.t vs,v=>∃xD,v=.tuple xD/\J φ vs xD.toList
def J(φ:Ren):List V->List Value->Prop
 |[],l=>l=[]
 |x::xs,l=>∃y ys,l=y::ys/\VR φ x y/\J φ xs ys
end
structure Le(φ af:Ren):Prop where
 at_:∀b r,φ b=some r->af b=some r/\af.n b=φ.n b
 yy:af.y=φ.y
theorem Le.sy{φ af:Ren}(h:Le φ af):af.s=φ.s:=by funext x;simp only[Ren.s,h.yy]
theorem Le.qy{φ af:Ren}(h:Le φ af):af.q=φ.q:=by funext x;simp only[Ren.q,h.yy]
theorem Le.wy{φ af:Ren}(h:Le φ af):af.w=φ.w:=by funext x;simp only[Ren.w,h.yy]
theorem Le.gy{φ af:Ren}(h:Le φ af):af.g=φ.g:=by funext x;simp only[Ren.g,h.yy]
instance{φ af:Ren}:CoeFun (Le φ af) (fun _=>∀b r,φ b=some r->af b=some r/\af.n b=φ.n b):=⟨Le.at_⟩
theorem Le.refl(φ:Ren):Le φ φ:=⟨fun _ _ h=>⟨h,rfl⟩,rfl⟩
theorem Le.trans{xE Fj Fk:Ren}(h:Le xE Fj)(h':Le Fj Fk):Le xE Fk:=⟨fun b r e=>
 let⟨e1,n1⟩:=h.at_ b r e;let⟨e2,n2⟩:=h'.at_ b r e1
 ⟨e2,n2.trans n1⟩,h'.yy.trans h.yy⟩
mutual
theorem VR.mono{φ af:Ren}(h:Le φ af):∀(x:V) (v:Value),VR φ x v->VR af x v
 |.top,_,_=>by simp[VR]
 |.b x,v,e=>by simpa[VR]using e
 |.i k n,v,e=>by simpa[VR]using e
 |.y k x,v,e=>by
  simp only[VR]at e⊢;rw[h.sy];exact e
 |.q x,v,e=>by
  simp only[VR]at e⊢;rw[h.qy];exact e
 |.sr b x k sz,v,e=>by
  simp only[VR]at e⊢;obtain⟨r,n,cap,hr,h1,h2,h3,h4,h5⟩:=e;exact⟨r,n,cap,(h b r hr).1,h1,by rw[h.wy];exact h2,h3,by rw[(h b r hr).2];exact h4,h5⟩
 |.pr b x y sz off,v,e=>by
  simp only[VR]at e⊢;obtain⟨r,n,hr,h1,h2⟩:=e;exact⟨r,n,(h b r hr).1,by rw[h.sy];exact h1,h2⟩
 |.s l,v,e=>by simpa[VR]using e
 |.p none,v,e=>by simpa[VR]using e
 |.p (some (b,o)),v,e=>by
  simp only[VR]at e⊢;obtain⟨r,hr,hv⟩:=e;exact⟨r,(h b r hr).1,hv⟩
 |.sl none n c,v,e=>by simpa[VR]using e
 |.sl (some (b,o)) n (.kn c),v,e=>by
  simp only[VR]at e⊢;obtain⟨r,hr,rest⟩:=e;exact⟨r,(h b r hr).1,rest⟩
 |.sl (some (b,o)) n (.un sz),v,e=>by
  simp only[VR]at e⊢;obtain⟨r,cap,hr,h1,h2,h3⟩:=e;exact⟨r,cap,(h b r hr).1,h1,by rw[(h b r hr).2];exact h2,h3⟩
 |.es,v,e=>by simpa[VR]using e
 |.m none,v,e=>by simpa[VR]using e
 |.m (some b),v,e=>by
  simp only[VR]at e⊢;obtain⟨r,hr,hv⟩:=e;exact⟨r,(h b r hr).1,hv⟩
 |.f fn first im,v,e=>by
  simp only[VR]at e⊢;obtain⟨f',c',hv,h1,h2⟩:=e;exact⟨f',c',hv,J.mono h first _ h1,J.mono h im _ h2⟩
 |.yl b,v,e=>by
  simp only[VR]at e⊢;obtain⟨r,hr,hv⟩:=e;exact⟨r,(h b r hr).1,hv⟩
 |.o,v,e=>by simpa[VR]using e
 |.nf,v,e=>by simpa[VR]using e
 |.EZ t x,v,e=>by
  simp only[VR]at e⊢;obtain⟨x',hv,hx⟩:=e;exact⟨x',hv,VR.mono h x x' hx⟩
 |.ni,v,e=>by simpa[VR]using e
 |.a cs,v,e=>by
  simp only[VR]at e⊢;obtain⟨Db,hv,hx⟩:=e;exact⟨Db,hv,J.mono h cs _ hx⟩
 |.t cs,v,e=>by
  simp only[VR]at e⊢;obtain⟨Db,hv,hx⟩:=e;exact⟨Db,hv,J.mono h cs _ hx⟩
theorem J.mono{φ af:Ren}(h:Le φ af):∀(x:List V) (v:List Value),J φ x v->J af x v
 |[],v,e=>by simpa[J]using e
 |x::xs,v,e=>by
  simp only[J]at e⊢;obtain⟨y,ys,hv,hx,hxs⟩:=e;exact⟨y,ys,hv,VR.mono h x y hx,J.mono h xs ys hxs⟩
end
theorem J.length{φ:Ren}:∀{x:List V} {v:List Value},J φ x v->v.length=x.length
 |[],v,e=>by simp only[J]at e;subst e;rfl
 |x::xs,v,e=>by
  simp only[J]at e;obtain⟨y,ys,rfl,_,h⟩:=e;simp[J.length h]
theorem J.nil{φ:Ren}:J φ [] []:=by simp[J]
theorem J.cons{φ:Ren}{x:V}{xs:List V}{y:Value}{ys:List Value}(h:VR φ x y)(h':J φ xs ys):J φ (x::xs) (y::ys):=by
 simp only[J];exact⟨y,ys,rfl,h,h'⟩
theorem J.append{φ:Ren}:∀{x x':List V} {v v':List Value},J φ x v->J φ x' v'->J φ (x++x') (v++v')
 |[],_,v,_,e,e'=>by simp only[J]at e;subst e;simpa using e'
 |x::xs,_,v,_,e,e'=>by
  simp only[J]at e;obtain⟨y,ys,rfl,h1,h2⟩:=e;exact J.cons h1 (J.append h2 e')
theorem J.get{φ:Ren}:∀{x:List V} {v:List Value} {n:Nat} {y:V},J φ x v->x[n]? =some y->∃z,v[n]? =some z/\VR φ y z
 |[],_,_,_,_,h=>by simp at h
 |x::xs,v,0,y,e,h=>by
  simp only[J]at e;obtain⟨z,zs,rfl,h1,h2⟩:=e;simp at h;subst h;exact⟨z,rfl,h1⟩
 |x::xs,v,n+1,y,e,h=>by
  simp only[J]at e;obtain⟨z,zs,rfl,h1,h2⟩:=e;simp at h;simpa using J.get h2 h
theorem J.take{φ:Ren}:∀{x:List V} {v:List Value} (n:Nat),J φ x v->J φ (x.take n) (v.take n)
 |[],_,n,e=>by simp only[J]at e;subst e;simp[J]
 |x::xs,v,0,e=>by simp[J]
 |x::xs,v,n+1,e=>by
  simp only[J]at e;obtain⟨z,zs,rfl,h1,h2⟩:=e;simpa using J.cons h1 (J.take n h2)
theorem J.drop{φ:Ren}:∀{x:List V} {v:List Value} (n:Nat),J φ x v->J φ (x.drop n) (v.drop n)
 |[],_,n,e=>by simp only[J]at e;subst e;simp[J]
 |x::xs,v,0,e=>by simpa using e
 |x::xs,v,n+1,e=>by
  simp only[J]at e;obtain⟨z,zs,rfl,h1,h2⟩:=e;simpa using J.drop n h2
theorem J.set{φ:Ren}:∀{x:List V} {v:List Value} (n:Nat) {y:V} {z:Value},J φ x v->VR φ y z->J φ (x.set n y) (v.set n z)
 |[],_,n,_,_,e,_=>by simp only[J]at e;subst e;simp[J]
 |x::xs,v,0,y,z,e,h=>by
  simp only[J]at e;obtain⟨z,zs,rfl,h1,h2⟩:=e;simpa using J.cons h h2
 |x::xs,v,n+1,y,z,e,h=>by
  simp only[J]at e;obtain⟨z,zs,rfl,h1,h2⟩:=e;simpa using J.cons h1 (J.set n h2 h)
end
variable{φ:Ren}{b:Nat}
noncomputable section
structure Fr where
 n:Nat
 t:T V
def Fr.get(fr:Fr)(k:Nat):V:=T.get .top fr.t k
def Fr.sM(k:Nat)(v:V)(n:Nat)(t:T V):Fr:=⟨n,T.set .top t k v⟩
def Fr.set(fr:Fr)(k:Nat)(v:V):Fr:= @Fr.rec (fun _=>Fr) (Fr.sM k v) fr
theorem Fr.xF(fr:Fr)(k:Nat)(v:V):(fr.set k v).n=fr.n:=rfl
inductive aQ where
 |gone
 |cells (l:List V) (e:TypeId) (grow:Bool)
 |mp (es:List (V×V×Nat)) (clock:Nat)
 |row (x:Nat) (l:List V) (e:TypeId)
 |gS (x:Nat) (d:TypeDesc) (kD:List (V×Option V))
 |rc (l:List V) (e:TypeId)
 |rw(x:Nat) (e:TypeId)
 |rm (x:Nat) (d:TypeDesc)
 |iter (s:List Nat) (pos:Nat)
 |loop (st:LoopState) (kF:Option Code) (fr:Fr) (params:Array Tmp) (assign body:Code) (df:Nat)
 |O0
structure H where
 n:Nat
 t:T aQ
def H.get(h:H)(b:Nat):aQ:=T.get .gone h.t b
def H.set(h:H)(b:Nat)(x:aQ):H:=match h with
 |⟨n,t⟩=>⟨n,T.set .gone t b x⟩
def H.new(h:H)(x:aQ):H:=match h with
 |⟨n,t⟩=>⟨n+1,T.set .gone t n x⟩
theorem Fr.bg(fr:Fr)(k j:Nat)(v:V):(fr.set k v).get j=if j=k then v else fr.get j:=T.bg _ _ _ _ _
theorem H.bg(h:H)(b c:Nat)(x:aQ):(h.set b x).get c=if c=b then x else h.get c:=T.bg _ _ _ _ _
theorem H.gD(h:H)(c:Nat)(x:aQ):(h.new x).get c=if c=h.n then x else h.get c:=T.bg _ _ _ _ _
@[simp] theorem H.xF(h:H)(b:Nat)(x:aQ):(h.set b x).n=h.n:=rfl
@[simp] theorem H.Y3(h:H)(x:aQ):(h.new x).n=h.n+1:=rfl
def FR(φ:Ren)(fr:Fr)(tmps:Array Value):Prop:=tmps.size=fr.n/\∀k,VR φ (fr.get k) (tmps.getD k undef)
def fB(φ:Ren):List (V×V×Nat)->List MapEntry->Prop
 |[],l=>l=[]
 |(k,v,n)::xs,l=>∃e es,l=e::es/\VR φ k e.key/\VR φ v e.val/\e.born=n/\fB φ xs es
def iq(d:TypeDesc)(m:Array MapEntry×Nat)(k v:Value):Array MapEntry×Nat:=match arY d k m.1.toList 0 with
 |some (some (j,_))=>(m.1.modify j fun e=>{e with key:=k,val:=v},m.2)
 |_=>(m.1.push {key:=k,val:=v,born:=m.2},m.2+1)
def oT(d:TypeDesc)(m:Array MapEntry×Nat)(k:Value):Array MapEntry×Nat:=match arY d k m.1.toList 0 with
 |some (some (j,_))=>(m.1.eraseIdxIfInBounds j,m.2)
 |_=>m
def MU(φ:Ren)(d:TypeDesc):Array MapEntry×Nat->List (V×Option V)->Array MapEntry×Nat->Prop
 |m,[],m'=>m'=m
 |m,(k,some v)::us,m'=>∃kv vv,VR φ k kv/\VR φ v vv/\arO d kv/\MU φ d (iq d m kv vv) us m'
 |m,(k,none)::us,m'=>∃kv,VR φ k kv/\arO d kv/\MU φ d (oT d m kv) us m'
theorem MU.mono{φ af:Ren}(h:Le φ af){d:TypeDesc}:∀{us:List (V×Option V)} {m m':Array MapEntry×Nat},MU φ d m us m'->MU af d m us m'
 |[],_,_,e=>by simpa[MU]using e
 |(k,some v)::us,_,_,e=>by
  simp only[MU]at e⊢;obtain⟨kv,vv,h1,h2,h3,h4⟩:=e;exact⟨kv,vv,VR.mono h _ _ h1,VR.mono h _ _ h2,h3,MU.mono h h4⟩
 |(k,none)::us,_,_,e=>by
  simp only[MU]at e⊢;obtain⟨kv,h1,h3,h4⟩:=e;exact⟨kv,VR.mono h _ _ h1,h3,MU.mono h h4⟩
theorem MU.snoc{φ:Ren}{d:TypeDesc}{u:V×Option V}:∀{us:List (V×Option V)} {m m1 m2:Array MapEntry×Nat},MU φ d m us m1->MU φ d m1 [u] m2->MU φ d m (us++[u]) m2
 |[],m,m1,m2,e,e'=>by
  simp only[MU]at e;subst e;exact e'
 |(k,some v)::us,_,_,_,e,e'=>by
  simp only[MU,List.cons_append]at e⊢;obtain⟨kv,vv,h1,h2,h3,h4⟩:=e;exact⟨kv,vv,h1,h2,h3,MU.snoc h4 e'⟩
 |(k,none)::us,_,_,_,e,e'=>by
  simp only[MU,List.cons_append]at e⊢;obtain⟨kv,h1,h3,h4⟩:=e;exact⟨kv,h1,h3,MU.snoc h4 e'⟩
def BR(φ:Ren)(N:Nat):aQ->Obj->Prop
 |.gone,_=>True
 |.cells l e g,o=>∃c,o=.cells c e (0,0)/\J φ l (c.toList.take l.length)/\l.length<=c.size/\(g=false->c.size=l.length)/\c.size=N
 |.mp es clock,o=>∃oU,o=.map oU clock/\fB φ es oU.toList
 |.row x l e,o=>∃c vs,o=.cells c e (0,0)/\J φ l vs/\c.toList.take ((φ.w x).length+l.length)=φ.w x++vs/\(φ.w x).length+l.length<=c.size/\c.size=N
 |.gS x d kD,o=>∃es c,o=.map es c/\MU φ d (φ.g x) kD (es,c)/\∀e∈es.toList,arO d e.key
 |.rc l e,o=>∃c,o=.cells c e (0,0)/\J φ l (c.toList.take l.length)/\l.length<=c.size/\c.size=N
 |.rw x e,o=>∃c,o=.cells c e (0,0)/\c.toList.take (φ.w x).length=φ.w x/\(φ.w x).length<=c.size/\c.size=N
 |.rm x d,o=>∃es c,o=.map es c/\MU φ d (φ.g x) [] (es,c)/\∀e∈es.toList,arO d e.key
 |.iter s pos,o=>o=.stringIter (bytes s) pos/\∀x∈s,x<256
 |.loop st kF fr params assign body df,o=>∃fn tmps d,o=.loop {state:=st,pending:=kF,fn,tmps,params,assign,body,defers:=d}/\FR φ fr tmps/\φ df=some d
 |.O0,o=>o=.deferred (some [])
def aQ.live:aQ->Prop
 |.gone=>False
 |_=>True
def aQ.mut:aQ->Prop
 |.gone=>False
 |.rc .. =>False
 |.rw .. =>False
 |.rm .. =>False
 |_=>True
theorem aQ.mut.live{b:aQ}(h:b.mut):b.live:=by
 cases b<;>first|trivial|exact h
structure HR(φ:Ren)(h:H)(w:World):Prop where
 iL:φ.m=h.n
 lM:∀b r,φ b=some r->b<h.n/\r<w.heap.size
 ew:∀b r,φ b=some r->(h.get b).live->∃o,w.heap[r]? =some o/\BR φ (φ.n b) (h.get b) o
 inj:∀b b' r,φ b=some r->φ b'=some r->(h.get b).live->(h.get b').live->b=b'
 kp:∀r o,φ.y.k r=some o->w.heap[r]? =some o/\∀b,φ b=some r->¬(h.get b).mut
structure Ext(φ:Ren)(w:World)(af:Ren)(w':World):Prop where
 le:Le φ af
 iL:φ.m<=af.m
 only:∀b r,af b=some r->φ b=some r\/φ.m<=b
 new:∀b r,af b=some r->(∃b0,φ b0=some r)\/w.heap.size<=r
 size:w.heap.size<=w'.heap.size
 os:w'.os=w.os
 tape:w'.tape=w.tape
 output:w'.output=w.output
 frame:∀r,r<w.heap.size->(∀b,φ b≠some r)->w'.heap[r]? =w.heap[r]?
theorem Ext.refl(φ:Ren)(w:World):Ext φ w φ w:=⟨Le.refl φ,arF _,fun _ _ h=>.inl h,fun b _ h=>.inl ⟨b,h⟩,arF _,rfl,rfl,rfl,fun _ _ _=>rfl⟩
theorem Ext.trans{xE Fj Fk:Ren}{za ahB ahC:World}(h:Ext xE za Fj ahB)(k:Ext Fj ahB Fk ahC):Ext xE za Fk ahC where
 le:=h.le.trans k.le
 iL:=asa h.iL k.iL
 only:=fun b r e=>by
  rcases k.only b r e with e|hle
  ·exact h.only b r e
  ·exact .inr (asa h.iL hle)
 new:=fun b r e=>by
  rcases k.new b r e with⟨b0,e0⟩|hle
  ·exact h.new b0 r e0
  ·exact .inr (asa h.size hle)
 size:=asa h.size k.size
 os:=k.os.trans h.os
 tape:=k.tape.trans h.tape
 output:=k.output.trans h.output
 frame:=fun r hr hb=>by
  rw[k.frame r (asl hr h.size) (fun b e=> ?_),h.frame r hr hb];rcases h.new b r e with⟨b0,e0⟩|hle
  ·exact hb b0 e0
  ·omega
theorem Ext.drew(φ:Ren)(w:World)(n:Nat):Ext φ w φ {w with drawn:=n}:=⟨Le.refl φ,arF _,fun _ _ h=>.inl h,fun b _ h=>.inl ⟨b,h⟩,arF _,rfl,rfl,rfl,fun _ _ _=>rfl⟩
theorem HR.drew{h:H}{w:World}(hr:HR φ h w)(n:Nat):HR φ h {w with drawn:=n}:=⟨hr.iL,hr.lM,hr.ew,hr.inj,hr.kp⟩
theorem FR.mono{φ af:Ren}{fr:Fr}{t:Array Value}(h:Le φ af)(hf:FR φ fr t):FR af fr t:=⟨hf.1,fun k=>VR.mono h _ _ (hf.2 k)⟩
theorem FR.set{φ:Ren}{fr:Fr}{t:Array Value}{x:V}{v:Value}(hf:FR φ fr t)(k:Nat)(hv:VR φ x v):FR φ (fr.set k x) (t.setIfInBounds k v)\/fr.n<=k:=by
 rcases arJ k fr.n with h|h
 ·refine .inl ⟨by simp[hf.1,Fr.xF],fun j=> ?_⟩
  rw[Fr.bg]
  by_cases hj:j=k
  ·subst hj
   rw[if_pos rfl];have:(t.setIfInBounds j v).getD j undef=v:=by simp[Array.getD,hf.1,h]
   rw[this];exact hv
  ·rw[if_neg hj]
   have:(t.setIfInBounds k v).getD j undef=t.getD j undef:=by
    simp only[Array.getD_eq_getD_getElem?,Array.getElem?_setIfInBounds_ne (Ne.symm hj)]
   rw[this];exact hf.2 j
 ·exact .inr h
theorem fB.mono{φ af:Ren}(h:Le φ af):∀{x:List (V×V×Nat)} {l:List MapEntry},fB φ x l->fB af x l
 |[],_,e=>by simpa[fB]using e
 |(k,v,n)::xs,l,e=>by
  simp only[fB]at e⊢;obtain⟨e1,es,rfl,h1,h2,h3,h4⟩:=e;exact⟨e1,es,rfl,VR.mono h _ _ h1,VR.mono h _ _ h2,h3,fB.mono h h4⟩
theorem BR.mono{φ af:Ren}(h:Le φ af){N:Nat}{x:aQ}{o:Obj}(hb:BR φ N x o):BR af N x o:=by
 cases x with
 |gone=>trivial
 |cells l e g=>obtain⟨c,h1,h2,h3,h4,h5⟩:=hb;exact⟨c,h1,J.mono h _ _ h2,h3,h4,h5⟩
 |mp es k=>obtain⟨c,h1,h2⟩:=hb;exact⟨c,h1,fB.mono h h2⟩
 |row x l e=>obtain⟨c,vs,h1,h2,h3,h4,h5⟩:=hb;exact⟨c,vs,h1,J.mono h _ _ h2,by rw[h.wy];exact h3,by rw[h.wy];exact h4,h5⟩
 |gS x d kD=>obtain⟨es,c,h1,h2,h3⟩:=hb;exact⟨es,c,h1,by rw[h.gy];exact h2.mono h,h3⟩
 |rc l e=>obtain⟨c,h1,h2,h3,h4⟩:=hb;exact⟨c,h1,J.mono h _ _ h2,h3,h4⟩
 |rw x e=>obtain⟨c,h1,h2,h3,h4⟩:=hb;exact⟨c,h1,by rw[h.wy];exact h2,by rw[h.wy];exact h3,h4⟩
 |rm x d=>obtain⟨es,c,h1,h2,h3⟩:=hb;exact⟨es,c,h1,by rw[h.gy];exact h2.mono h,h3⟩
 |iter s k=>exact hb
 |loop st kF fr ps arA bd df=>obtain⟨fn,t,d,h1,h2,h3⟩:=hb;exact⟨fn,t,d,h1,h2.mono h,(h _ _ h3).1⟩
 |O0=>exact hb
def up(φ:Ren)(b r N:Nat):Ren:=⟨fun c=>if c=b then some r else φ c,fun c=>if c=b then N else φ.n c,φ.y,φ.m+1⟩
theorem jr{r N:Nat}(h:∀s,φ b≠some s):Le φ (up φ b r N):=⟨fun c s e=>by
 unfold up
 by_cases hc:c=b
 ·subst hc;exact absurd e (h s)
 ·simp only[if_neg hc];exact⟨e,agm⟩,rfl⟩
theorem HR.fresh{h:H}{w:World}(hr:HR φ h w):∀s,φ h.n≠some s:=fun s e=>by
 have:=(hr.lM _ _ e).1;omega
theorem HR.alloc{h:H}{w:World}(hr:HR φ h w)(N:Nat)(x:aQ)(o:Obj)(hx:BR (up φ h.n w.heap.size N) N x o):
  HR (up φ h.n w.heap.size N) (h.new x) {w with heap:=w.heap.push o}/\Ext φ w (up φ h.n w.heap.size N) {w with heap:=w.heap.push o}:=by
 have hle:Le φ (up φ h.n w.heap.size N):=jr hr.fresh;have fb:∀b r,up φ h.n w.heap.size N b=some r->(b=h.n/\r=w.heap.size)\/(b≠h.n/\φ b=some r):=fun b r e=>by
  simp only[up]at e
  by_cases hb:b=h.n
  ·rw[if_pos hb]at e;cases e;exact .inl ⟨hb,rfl⟩
  ·rw[if_neg hb]at e;exact .inr ⟨hb,e⟩
 refine⟨⟨by simp[up,hr.iL],fun b r e=> ?_,fun b r e hl=> ?_,fun b b' r e e' hl ru=> ?_,fun r o' hk=> ?_⟩,⟨hle,Nat.le_succ _,fun b r e=> ?_,fun b r e=> ?_,by simp,rfl,rfl,rfl,fun r bf _=> ?_⟩⟩
 rotate_left 3
 ·obtain⟨k1,k2⟩:=hr.kp r o' hk
  have bf:r<w.heap.size:=by
   rcases arJ r w.heap.size with h|h
   ·exact h
   ·rw[ash h]at k1;cases k1
  refine⟨?_,fun b e=> ?_⟩
  ·show(w.heap.push o)[r]? =_
   rw[arW,if_neg (by omega)];exact k1
  ·rcases fb b r e with⟨_,rfl⟩|⟨hb,e⟩
   ·omega
   ·rw[H.gD,if_neg hb];exact k2 b e
 ·rcases fb b r e with⟨rfl,_⟩|⟨_,e⟩
  ·exact .inr (by rw[hr.iL];exact arF _)
  ·exact .inl e
 rotate_left 2
 ·rcases fb b r e with⟨rfl,rfl⟩|⟨_,e⟩
  ·simp
  ·have:=hr.lM b r e
   simp only[H.Y3,Array.size_push];omega
 ·rcases fb b r e with⟨rfl,rfl⟩|⟨hb,e⟩
  ·refine⟨o,by simp,?_⟩
   have hN:(up φ h.n w.heap.size N).n h.n=N:=by simp[up]
   rw[H.gD,if_pos rfl,hN];exact hx
  ·rw[H.gD,if_neg hb]at hl⊢
   obtain⟨o',h1,h2⟩:=hr.ew b r e hl;have:=(hr.lM b r e).2;refine⟨o',?_,by rw[(hle b r e).2];exact h2.mono hle⟩;show(w.heap.push o)[r]? =_;rw[arW,if_neg (by omega)];exact h1
 ·rcases fb b r e with⟨rfl,rfl⟩|⟨hb,e⟩
  ·rcases fb b' _ e' with⟨rfl,_⟩|⟨l8,e'⟩
   ·rfl
   ·have:=(hr.lM _ _ e').2;omega
  ·rcases fb b' r e' with⟨rfl,rfl⟩|⟨l8,e'⟩
   ·have:=(hr.lM _ _ e).2;omega
   ·rw[H.gD,if_neg hb]at hl
    rw[H.gD,if_neg l8]at ru;exact hr.inj b b' r e e' hl ru
 ·rcases fb b r e with⟨_,rfl⟩|⟨_,e⟩
  ·exact .inr (arF _)
  ·exact .inl ⟨b,e⟩
 ·show(w.heap.push o)[r]? =_
  rw[arW,if_neg (by omega)]
theorem HR.turn{φ:Ren}{h:H}{w w':World}(hr:HR φ h w){b r:Nat}(x:aQ)(o:Obj)(hb:φ b=some r)(hm:(h.get b).mut)(hx:BR φ (φ.n b) x o)
  (hs:w'.heap.size=w.heap.size)(ho:w'.heap[r]? =some o)(bU:∀s,s≠r->w'.heap[s]? =w.heap[s]?)(h1:w'.os=w.os)(h2:w'.tape=w.tape)(h3:w'.output=w.output):
  HR φ (h.set b x) w'/\Ext φ w φ w':=by
 have hl:=hm.live;refine⟨⟨hr.iL,fun c s e=> ?_,fun c s e hc=> ?_,fun c c' s e e' hc nK=> ?_,fun s o' hk=> ?_⟩,⟨Le.refl φ,arF _,fun _ _ e=>.inl e,fun c s e=>.inl ⟨c,e⟩,by omega,h1,h2,h3,fun s _ hn=>bU s (fun e=>hn b (e▸hb))⟩⟩
 rotate_left 3
 ·obtain⟨k1,k2⟩:=hr.kp s o' hk
  have yi:s≠r:=fun e=>k2 b (e▸hb) hm
  refine⟨by rw[bU s yi];exact k1,fun c e=> ?_⟩;rw[H.bg,if_neg (fun ec=>yi (by rw[ec,hb]at e;exact(Option.some.inj e).symm))];exact k2 c e
 ·have:=hr.lM c s e
  simp only[H.xF];omega
 ·rw[H.bg]at hc⊢
  by_cases ph:c=b
  ·subst ph
   rw[hb]at e;cases e;rw[if_pos rfl];exact⟨o,ho,hx⟩
  ·rw[if_neg ph]at hc⊢
   obtain⟨o',h4,h5⟩:=hr.ew c s e hc;refine⟨o',?_,h5⟩;rw[bU s (fun es=>ph (hr.inj c b s e (es▸hb) hc hl))];exact h4
 ·rw[H.bg]at hc nK
  by_cases ph:c=b
  ·by_cases yj:c'=b
   ·rw[ph,yj]
   ·rw[if_neg yj]at nK
    rw[ph]at e;exact ph.trans (hr.inj b c' s e e' hl nK)
  ·rw[if_neg ph]at hc
   by_cases yj:c'=b
   ·rw[yj]at e'
    exact(hr.inj c b s e e' hc hl).trans yj.symm
   ·rw[if_neg yj]at nK
    exact hr.inj c c' s e e' hc nK
theorem HR.drop{h:H}{w:World}(hr:HR φ h w)(b:Nat):HR φ (h.set b .gone) w:=by
 refine⟨hr.iL,fun c s e=>hr.lM c s e,fun c s e hc=> ?_,fun c c' s e e' hc nK=> ?_,fun s o' hk=>⟨(hr.kp s o' hk).1,fun c e=> ?_⟩⟩
 rotate_left 2
 ·rw[H.bg]
  by_cases ph:c=b
  ·rw[if_pos ph];exact id
  ·rw[if_neg ph];exact(hr.kp s o' hk).2 c e
 ·rw[H.bg]at hc⊢
  by_cases ph:c=b
  ·rw[if_pos ph]at hc;exact hc.elim
  ·rw[if_neg ph]at hc⊢;exact hr.ew c s e hc
 ·rw[H.bg]at hc nK
  by_cases ph:c=b
  ·rw[if_pos ph]at hc;exact hc.elim
  ·rw[if_neg ph]at hc
   by_cases yj:c'=b
   ·rw[if_pos yj]at nK;exact nK.elim
   ·rw[if_neg yj]at nK;exact hr.inj c c' s e e' hc nK
theorem HR.cell{φ:Ren}{h:H}{w:World}(hr:HR φ h w){b r:Nat}(hb:φ b=some r){l:List V}{e:TypeId}{g:Bool}(hl:h.get b=.cells l e g)
  {o:Nat}{x:V}(hx:l[o]? =some x):∃v,w.cell? ⟨r,o,none⟩=some v/\VR φ x v/\w.frozen? ⟨r,o,none⟩=false:=by
 obtain⟨ob,h1,h2⟩:=hr.ew b r hb (by rw[hl];trivial);rw[hl]at h2;obtain⟨c,rfl,h3,h4,_⟩:=h2;obtain⟨v,hv,hxv⟩:=h3.get hx;have bf:o<l.length:=by
  rcases arJ o l.length with h|h
  ·exact h
  ·rw[arH h]at hx;cases hx
 refine⟨v,?_,hxv,?_⟩
 ·have:c[o]? =some v:=by
   rw[arD,if_pos bf]at hv;simpa using hv
  simp[arT,h1,this]
 ·simp only[World.frozen?,h1]
  simp
theorem HR.setCell{φ:Ren}{h:H}{w:World}(hr:HR φ h w){b r:Nat}(hb:φ b=some r){l:List V}{e:TypeId}{g:Bool}(hl:h.get b=.cells l e g)
  {o:Nat}{x:V}{v:Value}(hx:VR φ x v):
  HR φ (h.set b (.cells (l.set o x) e g)) (w.setCell ⟨r,o,none⟩ v)/\Ext φ w φ (w.setCell ⟨r,o,none⟩ v):=by
 obtain⟨ob,h1,h2⟩:=hr.ew b r hb (by rw[hl];trivial);rw[hl]at h2;obtain⟨c,rfl,h3,h4,h5,h6⟩:=h2;have bf:=(hr.lM b r hb).2;refine hr.turn (b:=b) (r:=r) (.cells (l.set o x) e g) (.cells (c.setIfInBounds o v) e (0,0)) hb (by rw[hl];trivial) ⟨_,rfl,?_,by simpa using h4,fun hg=>by simpa using h5 hg,by simpa using h6⟩
  (by simp[ase]) ?_ (fun s hs=> ?_) rfl rfl rfl
 ·have:(c.setIfInBounds o v).toList.take (l.set o x).length=(c.toList.take l.length).set o v:=by
   simp[List.take_set]
  rw[this];exact h3.set o hx
 ·simp[ase,asi,h1]
 ·simp only[ase,asi]
  rw[if_neg (fun e=>hs e.symm)]
end
variable{h:H}{P:Program}{i:TypeInfo}{e:TypeId}
noncomputable section
structure Xt where
 ap:Nat->Nat->Option Nat:=fun _ _=>none
 an:Nat->Option Nat:=fun _=>none
 bs:Nat->Option Nat:=fun _=>none
 ql:Nat->Option Nat:=fun _=>none
 ss:Nat->Nat->Option Nat->Option Nat:=fun _ _ _=>none
 oi:TypeId->Nat->V->Option Nat:=fun _ _ _=>none
 ol:TypeId->Nat->Option V:=fun _ _=>none
 on:Nat->Option Nat:=fun _=>none
 os:TypeId->Nat->V->Option Nat:=fun _ _ _=>none
structure Env where
 P:Program
 tt:TypeId->Option (TypeInfo×TypeDesc)
 ft:FuncId->Option Func
 ng:Nat
 bd:Nat->Option (Int×Int)
 bin:BinOp->V->V->Option V:=fun _ _ _=>none
 mx:V->V->Option V:=fun _ _=>none
 rz:Nat->Nat:=fun _=>0
 rx:Nat->Nat->Option Nat:=fun _ _=>none
 rl:Nat->Nat->Option Nat:=fun _ _=>none
 re:Nat->Nat->Option (List V):=fun _ _=>none
 qs:Nat->Bool:=fun _=>false
 mg:Nat->V->Option (Option V):=fun _ _=>none
 ml:Nat->Option V:=fun _=>none
 qc:FuncId->List V->Option V:=fun _ _=>none
 hl:TypeId->Bool:=fun _=>false
 qh:(Nat->Option (Int×Int))->FuncId->List V->H->Option V:=fun _ _ _ _=>none
 eh:FuncId->List V->H->Option (V×H):=fun _ _ _=>none
 xt:Xt:={}
 xh:Xt->FuncId->List V->H->Option (V×H):=fun _ _ _ _=>none
def GL(ng:Nat)(φ:Ren):Prop:=∀g,g<ng->φ g=some g
theorem GL.mono{ng:Nat}{af:Ren}(h:Le φ af)(hg:GL ng φ):GL ng af:=fun g bf=>(h _ _ (hg g bf)).1
def W(ro:Option Nat):Fence:={Fence.wide with round:=ro}
structure Grown(w w':World):Prop where
 size:w.heap.size<=w'.heap.size
 same:∀r,r<w.heap.size->w'.heap[r]? =w.heap[r]?
 os:w'.os=w.os
 tape:w'.tape=w.tape
 output:w'.output=w.output
theorem Grown.refl(w:World):Grown w w:=⟨arF _,fun _ _=>rfl,rfl,rfl,rfl⟩
theorem Grown.ok{w w':World}(hg:Grown w w')(hr:HR φ h w):HR φ h w'/\Ext φ w φ w':=⟨⟨hr.iL,fun b r e=>⟨(hr.lM b r e).1,asl (hr.lM b r e).2 hg.size⟩,fun b r e hl=>by
   obtain⟨o,h1,h2⟩:=hr.ew b r e hl;exact⟨o,by rw[hg.same r (hr.lM b r e).2];exact h1,h2⟩,hr.inj,fun r o hk=>by
   obtain⟨k1,k2⟩:=hr.kp r o hk;refine⟨?_,k2⟩;rw[hg.same r ?_]
   ·exact k1
   ·rcases arJ r w.heap.size with h|h
    ·exact h
    ·rw[ash h]at k1;cases k1⟩,
 ⟨Le.refl φ,arF _,fun _ _ h=>.inl h,fun b _ h=>.inl ⟨b,h⟩,hg.size,hg.os,hg.tape,hg.output,fun r hr _=>hg.same r hr⟩⟩
def Quiet(P:Program)(K:Nat->Option Obj)(f:FuncId)(args:List Value)(Q:Value->Prop):Prop:=(∃fn c,P.funcs[f]? =some fn/\fn.body=some c/\(fn.name== "runtime.NumGoroutine")=false)/\
 ∀n w,(∀r o,K r=some o->w.heap[r]? =some o)->CallsIn (W none) n P f args.toArray w fun e w'=>∃v,e=.returned v/\Q v/\Grown w w'
def cz(s:ByteArray):List Value:=s.data.toList.map fun b=>Value.int .u8 b.toNat
structure zb(P:Program)(X:Xt)(φ:Ren):Prop where
 ap:∀x q x',X.ap x q=some x'->∃s:ByteArray,φ.q q=.string s/\0<s.size/\φ.w x'=φ.w x++cz s/\(φ.w x').length<=1000000
 an:∀q x',X.an q=some x'->∃s:ByteArray,φ.q q=.string s/\0<s.size/\φ.w x'=cz s/\s.size<=1000000
 bs:∀x q,X.bs x=some q->∃s:ByteArray,φ.q q=.string s/\φ.w x=cz s/\0<s.size/\s.size<=1000000
 ql:∀q y,X.ql q=some y->∃s:ByteArray,φ.q q=.string s/\φ.s y=(s.size:Int)
 ss:∀q lo hi q',X.ss q lo hi=some q'->∃s:ByteArray,φ.q q=.string s/\lo<=hi.getD s.size/\hi.getD s.size<=s.size/\φ.q q'=.string (s.extract lo (hi.getD s.size))
 oi:∀t x i z,X.oi t x i=some z->∀af,Le φ af->∀vi,VR af i vi->(φ.q z).oneCell'=true/\∀w,(arP t (φ.q x) vi).run P w=.ok (φ.q z) w
 ol:∀t x v,X.ol t x=some v->∀w:World,(∀r o,φ.y.k r=some o->w.heap[r]? =some o)->∃u,(arQ t (φ.q x)).run P w=.ok u w/\VR φ v u
 on:∀x y,X.on x=some y->∃a n cap,φ.q x=.slice a n cap/\φ.s y=(n:Int)
 os:∀t x i z,X.os t x i=some z->∀af,Le φ af->∀vi,VR af i vi->(φ.q z).oneCell'=true/\∀w,(Instr.sliceAt t (φ.q x) none (some vi) none).run P w=.ok (φ.q z) w
theorem zb.mono{P:Program}{X:Xt}{φ af:Ren}(h:Le φ af)(hx:zb P X φ):zb P X af:=⟨by rw[h.qy,h.wy];exact hx.ap,by rw[h.qy,h.wy];exact hx.an,by rw[h.qy,h.wy];exact hx.bs,by rw[h.qy,h.sy];exact hx.ql,by rw[h.qy];exact hx.ss,
 fun t x i z e jZ h'=>by rw[h.qy];exact hx.oi t x i z e jZ (h.trans h'),
 fun t x v e w hw=>by
  obtain⟨u,h1,h2⟩:=hx.ol t x v e w (by rw[<-h.yy];exact hw);exact⟨u,by rw[h.qy];exact h1,VR.mono h _ _ h2⟩,
 by rw[h.qy,h.sy];exact hx.on,fun t x i z e jZ h'=>by rw[h.qy];exact hx.os t x i z e jZ (h.trans h')⟩
theorem zb.none(P:Program)(φ:Ren):zb P {} φ:=⟨fun _ _ _ e=>(by cases e),fun _ _ e=>(by cases e),fun _ _ e=>(by cases e),fun _ _ e=>(by cases e),fun _ _ _ _ e=>(by cases e),fun _ _ _ _ e=>(by cases e),fun _ _ _ e=>(by cases e),fun _ _ e=>(by cases e),fun _ _ _ _ e=>(by cases e)⟩
structure Env.OK(E:Env):Prop where
 ty:∀t i d,E.tt t=some (i,d)->E.P.info? t=some i/\E.P.underlying t=some d
 fn:∀f fn,E.ft f=some fn->E.P.funcs[f]? =some fn/\(fn.name== "runtime.NumGoroutine")=false
 mixed:E.P.follows .mixedOrders=true
 hl:∀t,E.hl t=true->E.P.stoodInHeld t=false/\E.P.eqGuardType E.P.depth t=false/\∀fs,E.P.underlying t=some (.struct fs)->∀f∈fs.toList,f.name≠ "_"
 qh:∀bd f args h v,E.qh bd f args h=some v->∀φ w args',(∀x lo hi,bd x=some (lo,hi)->lo<=φ.s x/\φ.s x<=hi)->J φ args args'->HR φ h w->
  (∃fn c,E.P.funcs[f]? =some fn/\fn.body=some c/\(fn.name== "runtime.NumGoroutine")=false)/\
  ∀n,CallsIn (W none) n E.P f args'.toArray w fun e w'=>∃u,e=.returned u/\VR φ v u/\Grown w w'
 eh:∀f args h v h',E.eh f args h=some (v,h')->∀φ w args',J φ args args'->HR φ h w->
  (∃fn c,E.P.funcs[f]? =some fn/\fn.body=some c/\(fn.name== "runtime.NumGoroutine")=false)/\
  ∀n,CallsIn (W none) n E.P f args'.toArray w fun e w'=>∃af u,e=.returned u/\Ext φ w af w'/\VR af v u/\HR af h' w'
 xh:∀X f args h v h',E.xh X f args h=some (v,h')->∀φ w args',zb E.P X φ->J φ args args'->HR φ h w->
  (∃fn c,E.P.funcs[f]? =some fn/\fn.body=some c/\(fn.name== "runtime.NumGoroutine")=false)/\
  ∀n,CallsIn (W none) n E.P f args'.toArray w fun e w'=>∃af u,e=.returned u/\Ext φ w af w'/\VR af v u/\HR af h' w'
structure BD0(E:Env)(φ:Ren):Prop where
 bd:∀x lo hi,E.bd x=some (lo,hi)->lo<=φ.s x/\φ.s x<=hi
 bin:∀op a b r,E.bin op a b=some r->∀t ox oy va vb w,VR φ a va->VR φ b vb->∃v,(do eqGuard op t ox oy va vb;binOp op t va vb:Sem Value).run E.P w=.ok v w/\VR φ r v
 mx:∀a b r,E.mx a b=some r->∀va vb,VR φ a va->VR φ b vb->∃k p q,va=.int k p/\vb=.int k q/\VR φ r (.int k (if q>p then q else p))
 rx:∀x y j,E.rx x y=some j->∃n,0<E.rz x/\n*E.rz x=(φ.w x).length/\φ.s y=((n+j:Nat):Int)
 rl:∀x k y,E.rl x k=some y->∃n,0<E.rz x/\n*E.rz x=(φ.w x).length/\φ.s y=((n+k:Nat):Int)
 re:∀x y vs,E.re x y=some vs->0<E.rz x/\vs.length=E.rz x/\∃n:Nat,φ.s y=(n:Int)/\(n+1)*E.rz x<=(φ.w x).length/\J φ vs (((φ.w x).drop (n*E.rz x)).take (E.rz x))
 qs:∀x,E.qs x=true->∃s,φ.q x=.string s
 mg:∀x k r,E.mg x k=some r->∀d kv,VR φ k kv->arO d kv->(∀e∈(φ.g x).1.toList,arO d e.key)->
  match r with
  |none=>arY d kv (φ.g x).1.toList 0=some none
  |some v=>∃j u,arY d kv (φ.g x).1.toList 0=some (some (j,u))/\VR φ v u
 ml:∀x v,E.ml x=some v->VR φ v (.int .i64 ((φ.g x).1.size:Nat))
 qc:∀f args v,E.qc f args=some v->∀args',J φ args args'->Quiet E.P φ.y.k f args' fun u=>VR φ v u
 xt:zb E.P E.xt φ
def BD(E:Env)(φ:Ren):Prop:=∀af,Le φ af->BD0 E af
theorem BD.mono{E:Env}{af:Ren}(h:Le φ af)(hb:BD E φ):BD E af:=fun jZ h'=>hb jZ (h.trans h')
theorem BD.here{E:Env}(hb:BD E φ):BD0 E φ:=hb φ (Le.refl φ)
def Il:Value->V
 |.bool x=>.b x
 |.int k n=>.i k n
 |.string s=>.s (s.data.toList.map UInt8.toNat)
 |.pointer none=>.p none
 |.slice none 0 0=>.sl none 0 (.kn 0)
 |.map none=>.m none
 |.nilFunc=>.nf
 |.nilIface=>.ni
 |_=>.top
def cv:Value->V
 |.agg cs=>.a (cs.toList.map Il)
 |v=>Il v
theorem Pz(s:ByteArray):bytes (s.data.toList.map UInt8.toNat)=s:=by
 unfold bytes;have:(s.data.toList.map UInt8.toNat).map UInt8.ofNat=s.data.toList:=by
  rw[List.map_map]
  conv=>rhs;rw[<-List.map_id s.data.toList]
  apply List.map_congr_left;intro x _;simp
 rw[this]
theorem Im(φ:Ren)(v:Value):VR φ (Il v) v:=by
 unfold Il;split<;>simp only[VR]<;>try trivial
 ·rw[Pz]
  refine⟨rfl,fun x hx=> ?_⟩;obtain⟨y,_,rfl⟩:=List.mem_map.1 hx;exact UInt8.toNat_lt y
theorem tG(φ:Ren):∀l:List Value,J φ (l.map Il) l
 |[]=>J.nil
 |x::xs=>J.cons (Im φ x) (tG φ xs)
theorem zc(φ:Ren)(v:Value):VR φ (cv v) v:=by
 cases v with
 |agg cs=>simp only[cv,VR];exact⟨cs,rfl,tG φ cs.toList⟩
 |_=>unfold cv;exact Im φ _
def evG(ng g:Nat):V:=cond (arN g ng) (.p (some (g,0))) .top
def evF(f:FuncId):V:=.f f [] []
def ev(ng:Nat)(fr:Fr)(x:Operand):V:= @Operand.rec (fun _=>V) (Fr.get fr) cv (evG ng) evF x
theorem ry{ng:Nat}{fr:Fr}{a:Act}(hg:GL ng φ)(hf:FR φ fr a.tmps)(x:Operand):VR φ (ev ng fr x) (a.eval x):=by
 cases x with
 |tmp t=>exact hf.2 t
 |const v=>exact zc φ v
 |global g=>
  cases hb:arN g ng with
  |false=>
   have e:ev ng fr (.global g)=.top:=by show evG ng g=.top;simp only[evG,hb,cond]
   rw[e];simp only[VR]
  |true=>
   have bf:g<ng:=by
    have:g+1<=ng:=by simpa[arN]using hb
    omega
   have e:ev ng fr (.global g)=.p (some (g,0)):=by show evG ng g=_;simp only[evG,hb,cond]
   rw[e];simp only[VR];exact⟨g,hg g bf,rfl⟩
 |func f=>show VR φ (.f f [] []) _;simp only[VR];exact⟨#[],#[],rfl,by simp[J],by simp[J]⟩
theorem vU{ng:Nat}{φ:Ren}{fr:Fr}{a:Act}(hg:GL ng φ)(hf:FR φ fr a.tmps):∀l:List Operand,J φ (l.map (ev ng fr)) (l.map a.eval)
 |[]=>J.nil
 |x::xs=>J.cons (ry hg hf x) (vU hg hf xs)
def Yields(P:Program)(φ:Ren)(w:World)(s:Sem Next)(r:Option (V×H)):Prop:=∀x h',r=some (x,h')->∃af v w',(s.run P w=.ok (.value v) w'\/(s.run P w=.ok .skip w'/\v=undef))/\Ext φ w af w'/\VR af x v/\HR af h' w'
theorem Yields.pure{w:World}{s:Sem Next}(hr:HR φ h w){x:V}{v:Value}(hs:s.run P w=.ok (.value v) w)(hv:VR φ x v):
  Yields P φ w s (some (x,h)):=fun y h' e=>by
 cases e;exact⟨φ,v,w,.inl hs,Ext.refl φ w,hv,hr⟩
theorem Yields.none{P:Program}{φ:Ren}{w:World}{s:Sem Next}:Yields P φ w s none:=fun _ _ e=>by cases e
def sb:V->Option (List V)
 |.a cs=>some cs
 |.top=>none
 |.t _=>none
 |v=>some [v]
def jL:V->Bool
 |.a _=>false
 |.top=>false
 |.t _=>false
 |_=>true
theorem mG{x:V}{v:Value}(h:VR φ x v)(ha:jL x=true):v.oneCell'=true:=by
 unfold jL at ha;split at ha<;>try(cases ha;done)
 rename_i h1 h2 h3;cases x with
 |top=>exact absurd rfl h2
 |a cs=>exact absurd rfl (h1 cs)
 |t vs=>exact absurd rfl (h3 vs)
 |b x=>simp only[VR]at h;subst h;rfl
 |i k n=>simp only[VR]at h;subst h;rfl
 |y k x=>simp only[VR]at h;subst h;rfl
 |q x=>simp only[VR]at h;exact h.2
 |sr b x k sz=>simp only[VR]at h;obtain⟨_,_,_,_,_,_,_,_,rfl⟩:=h;rfl
 |pr b x y sz off=>simp only[VR]at h;obtain⟨_,_,_,_,rfl⟩:=h;rfl
 |s l=>simp only[VR]at h;rw[h.1];rfl
 |p a=>
  cases a with
  |none=>simp only[VR]at h;subst h;rfl
  |some bo=>obtain⟨b,o⟩:=bo;simp only[VR]at h;obtain⟨r,_,rfl⟩:=h;rfl
 |sl a n c=>
  cases a with
  |none=>simp only[VR]at h;rw[h.2];rfl
  |some bo=>
   obtain⟨b,o⟩:=bo;cases c with
   |kn c=>simp only[VR]at h;obtain⟨r,_,_,rfl⟩:=h;rfl
   |un sz=>simp only[VR]at h;obtain⟨r,cap,_,_,_,rfl⟩:=h;rfl
 |es=>simp only[VR]at h;obtain⟨_,_,rfl⟩:=h;rfl
 |m r=>
  cases r with
  |none=>simp only[VR]at h;subst h;rfl
  |some b=>simp only[VR]at h;obtain⟨r,_,rfl⟩:=h;rfl
 |f fn first im=>simp only[VR]at h;obtain⟨_,_,rfl,_⟩:=h;rfl
 |yl r=>simp only[VR]at h;obtain⟨_,_,rfl⟩:=h;rfl
 |o=>simpa only[VR]using h
 |nf=>simp only[VR]at h;subst h;rfl
 |EZ t y=>simp only[VR]at h;obtain⟨_,rfl,_⟩:=h;rfl
 |ni=>simp only[VR]at h;subst h;rfl
theorem Dc{v:Value}(h:v.oneCell'=true):v.cells=#[v]:=by
 cases v<;>first|rfl|(simp[Value.oneCell']at h;done)
theorem vX{x:V}{v:Value}{cs:List V}(h:VR φ x v)(hc:sb x=some cs):J φ cs v.cells.toList:=by
 by_cases ha:jL x=true
 ·have h1:=mG h ha
  have h2:cs=[x]:=by
   unfold jL at ha;unfold sb at hc;split at ha<;>try(cases ha;done)
   rename_i g1 g2 g3;split at hc
   ·exact absurd rfl (g1 _)
   ·exact absurd rfl g2
   ·exact absurd rfl (g3 _)
   ·cases hc;rfl
  subst h2;rw[Dc h1];exact J.cons h J.nil
 ·cases x with
  |a ds=>
   simp only[sb,AAA]at hc;subst hc;simp only[VR]at h;obtain⟨Db,rfl,h'⟩:=h;exact h'
  |top=>cases hc
  |t vs=>cases hc
  |_=>exact absurd rfl ha
theorem run_typeInfo{t:TypeId}(h:P.info? t=some i)(w:World):(typeInfo t).run P w=.ok i w:=by simp[typeInfo,h]
theorem run_sizeOf{t:TypeId}(h:P.info? t=some i)(w:World):(sizeOf t).run P w=.ok i.size w:=by simp[sizeOf,run_typeInfo h]
theorem jj{t:TypeId}{z:Value}(h:P.info? t=some i)(hz:i.zero=some z)(w:World):(zeroValue t).run P w=.ok z w:=by
 simp[zeroValue,run_typeInfo h,hz]
def BG:TypeDesc->Bool
 |.struct _=>true
 |.array _ _=>true
 |_=>false
theorem kl{t:TypeId}{d:TypeDesc}(h:P.underlying t=some d)(w:World):(isAgg t).run P w=.ok (BG d) w:=by
 cases d<;>simp[isAgg,run_underlying h,BG]
def VH(e:TypeId)(cs:List V)(h:H):V×H:=(.p (some (h.n,0)),h.new (.cells cs e false))
theorem zd{w:World}(hr:HR φ h w)(e:TypeId){cs:List V}{vs:Array Value}(hc:J φ cs vs.toList):
  HR (up φ h.n w.heap.size vs.size) (h.new (.cells cs e false)) {w with heap:=w.heap.push (.cells vs e)}/\Ext φ w (up φ h.n w.heap.size vs.size) {w with heap:=w.heap.push (.cells vs e)}/\
  up φ h.n w.heap.size vs.size h.n=some w.heap.size:=by
 have hle:Le φ (up φ h.n w.heap.size vs.size):=jr hr.fresh;have hlen:vs.size=cs.length:=by simpa using hc.length
 have Y4:vs.toList.take cs.length=vs.toList:=List.take_of_length_le (by simp;omega);have:=hr.alloc vs.size (.cells cs e false) (.cells vs e) ⟨vs,rfl,by rw[Y4];exact J.mono hle _ _ hc,by omega,fun _=>hlen,rfl⟩;exact⟨this.1,this.2,by simp[up]⟩
def Dd(E:Env)(t:TypeId)(h:H):Option (V×H):=match E.tt t with
 |some (i,_)=>
  match i.zero with
  |some z=>some (VH t (z.cells.toList.map Il) h)
  |none=>none
 |none=>none
theorem M9{E:Env}(hE:E.OK){w:World}(hr:HR φ h w)(t:TypeId):
  Yields E.P φ w (do pure (.value (<-Instr.alloc t true (.tuple #[])))) (Dd E t h):=by
 unfold Dd;cases ht:E.tt t with
 |none=>exact Yields.none
 |some td=>
  obtain⟨i,d⟩:=td;obtain⟨hi,_⟩:=hE.ty t i d ht;cases hz:i.zero with
  |none=>simp only[hz];exact Yields.none
  |some z=>
   simp only[hz];intro x h' e;simp only[VH,AAA,arV]at e;obtain⟨rfl,rfl⟩:=e;obtain⟨h1,h2,h3⟩:=zd hr t (vs:=z.cells) (tG φ z.cells.toList);refine⟨_,.pointer (some ⟨w.heap.size,0,none⟩),_,.inl ?_,h2,?_,h1⟩
   ·simp[Instr.alloc,jj hi hz,newVar,newRow]
   ·simp only[VR];exact⟨_,h3,rfl⟩
def VI(t:TypeId)(x:V)(h:H):Option (V×H):=match sb x with
 |some cs=>some (VH t cs h)
 |none=>none
theorem VJ{P:Program}{w:World}(hr:HR φ h w)(t:TypeId){x:V}{v:Value}(hx:VR φ x v):
  Yields P φ w (do pure (.value (<-Instr.box t v))) (VI t x h):=by
 unfold VI;cases hc:sb x with
 |none=>exact Yields.none
 |some cs=>
  intro y h' e;simp only[VH,AAA,arV]at e;obtain⟨rfl,rfl⟩:=e;obtain⟨h1,h2,h3⟩:=zd hr t (vs:=v.cells) (vX hx hc);refine⟨_,.pointer (some ⟨w.heap.size,0,none⟩),_,.inl ?_,h2,?_,h1⟩
  ·simp[Instr.box,newVar,newRow]
  ·simp only[VR];exact⟨_,h3,rfl⟩
theorem HR.qz{φ:Ren}{h:H}{w:World}(hr:HR φ h w){b r:Nat}(hb:φ b=some r){l:List V}{e:TypeId}{g:Bool}(hl:h.get b=.cells l e g)
  (o n:Nat)(hn:o+n<=l.length):∃vs:List Value,vs.length=n/\J φ ((l.drop o).take n) vs/\∀j v,vs[j]? =some v->w.cell? ⟨r,o+j,none⟩=some v:=by
 obtain⟨ob,h1,h2⟩:=hr.ew b r hb (by rw[hl];trivial);rw[hl]at h2;obtain⟨c,rfl,h3,h4,_⟩:=h2;refine⟨((c.toList.take l.length).drop o).take n,?_,(h3.drop o).take n,fun j v hv=> ?_⟩
 ·simp;omega
 ·have hj:j<n:=by
   rcases arJ j n with h|h
   ·exact h
   ·rw[arH (by simp;omega)]at hv;cases hv
  rw[arD,if_pos hj,arK,arD,if_pos (by omega)]at hv;have:c[o+j]? =some v:=by simpa using hv
  simp[arT,h1,this]
theorem HR.zf{φ:Ren}{h:H}{w:World}(hr:HR φ h w){b r:Nat}(hb:φ b=some r){l:List V}{e:TypeId}(hl:h.get b=.rc l e)
  (o n:Nat)(hn:o+n<=l.length):∃vs:List Value,vs.length=n/\J φ ((l.drop o).take n) vs/\∀j v,vs[j]? =some v->w.cell? ⟨r,o+j,none⟩=some v:=by
 obtain⟨ob,h1,h2⟩:=hr.ew b r hb (by rw[hl];trivial);rw[hl]at h2;obtain⟨c,rfl,h3,h4,_⟩:=h2;refine⟨((c.toList.take l.length).drop o).take n,?_,(h3.drop o).take n,fun j v hv=> ?_⟩
 ·simp;omega
 ·have hj:j<n:=by
   rcases arJ j n with h|h
   ·exact h
   ·rw[arH (by simp;omega)]at hv;cases hv
  rw[arD,if_pos hj,arK,arD,if_pos (by omega)]at hv;have:c[o+j]? =some v:=by simpa using hv
  simp[arT,h1,this]
def ir(i:TypeInfo)(d:TypeDesc)(cs:List V)(off:Nat):Option V:=cond (BG d) (cond (arX (off+i.size) cs.length) (some (.a ((cs.drop off).take i.size))) none) (cs[off]?)
theorem eE{P:Program}{w:World}{φ:Ren}{t:TypeId}{i:TypeInfo}{d:TypeDesc}(hi:P.info? t=some i)(hd:P.underlying t=some d){cs:List V}{us:List Value}(hv:J φ cs us){r o:Nat}
  (hc:∀j u,us[j]? =some u->w.cell? ⟨r,o+j,none⟩=some u){off:Nat}{x:V}(h:ir i d cs off=some x):
  ∃v,(arQ t (.pointer (some ⟨r,o+off,none⟩))).run P w=.ok v w/\VR φ x v:=by
 unfold ir at h;cases ha:BG d with
 |true=>
  rw[ha]at h;simp only[cond]at h;cases hle:arX (off+i.size) cs.length with
  |false=>rw[hle]at h;cases h
  |true=>
   rw[hle]at h;simp only[AAA]at h;subst h;have ahD:off+i.size<=cs.length:=arU hle;have hlen:=hv.length;have hl:((us.drop off).take i.size).length=i.size:=by simp;omega
   have lN:(loadCells ⟨r,o+off,none⟩ ((us.drop off).take i.size).length).run P w=.ok ((us.drop off).take i.size).toArray w:=run_loadCells_list w _ _ (fun j u hu=>by
    rw[arM];have hj:j<i.size:=by
     rcases arJ j i.size with h|h
     ·exact h
     ·rw[arH (by omega)]at hu;cases hu
    rw[arD,if_pos hj,arK]at hu;have:=hc (off+j) u hu;rwa[<-asg]at this)
   rw[hl]at lN;refine⟨.agg ((us.drop off).take i.size).toArray,?_,by simp only[VR];exact⟨_,rfl,by simpa using(hv.drop off).take i.size⟩⟩;simp[arQ,arL,loadVar,kl hd,ha,run_sizeOf hi,lN]
 |false=>
  rw[ha]at h;simp only[cond]at h;obtain⟨v,h1,h2⟩:=hv.get h;exact⟨v,by simp[arQ,arL,loadVar,kl hd,ha,hc off v h1],h2⟩
def De(E:Env)(x:Nat)(l:List V)(y:Nat):Option (List V):=match E.re x y with
 |some vs=>some vs
 |none=>
  match E.rx x y with
  |some j=>cond (arX ((j+1)*E.rz x) l.length) (some ((l.drop (j*E.rz x)).take (E.rz x))) none
  |none=>none
theorem HR.rowAt{w:World}(hr:HR φ h w){r:Nat}(hb:φ b=some r){x:Nat}{l:List V}(hl:h.get b=.row x l e):
  ∃c vs,w.heap[r]? =some (.cells c e (0,0))/\J φ l vs/\c.toList.take ((φ.w x).length+l.length)=φ.w x++vs/\(φ.w x).length+l.length<=c.size/\c.size=φ.n b:=by
 obtain⟨o,h1,h2⟩:=hr.ew b r hb (by rw[hl];trivial);rw[hl]at h2;obtain⟨c,vs,rfl,h3,h4,h5,h6⟩:=h2;exact⟨c,vs,h1,h3,h4,h5,h6⟩
theorem Cf{E:Env}{φ:Ren}(bK:BD E φ){w:World}{r:Nat}{x:Nat}{l:List V}{vs:List Value}(h2:J φ l vs)(iu:∀p u,(φ.w x++vs)[p]? =some u->w.cell? ⟨r,p,none⟩=some u){y:Nat}{cs:List V}
  (hg:De E x l y=some cs){n:Nat}(hn:φ.s y=((n:Nat):Int)):∃us:List Value,J φ cs us/\∀j u,us[j]? =some u->w.cell? ⟨r,n*E.rz x+j,none⟩=some u:=by
 unfold De at hg;split at hg
 ·rename_i xD VK
  simp only[AAA]at hg;subst hg;obtain⟨hz,hlen,m,hm,hle,Io⟩:=bK.here.re _ _ _ VK;have Fi:m=n:=by rw[hn]at hm;omega
  subst Fi;refine⟨_,Io,fun j u hu=>iu _ _ ?_⟩;rw[arD]at hu;split at hu
  ·rw[arK]at hu
   rw[List.getElem?_append_left ?_]
   ·exact hu
   ·rcases arJ (m*E.rz x+j) (φ.w x).length with h|h
    ·exact h
    ·rw[arH h]at hu;cases hu
  ·cases hu
 ·split at hg
  ·rename_i j Y5
   cases hc:arX ((j+1)*E.rz x) l.length with
   |false=>rw[hc]at hg;cases hg
   |true=>
    rw[hc]at hg;simp only[cond,AAA]at hg;subst hg;have hle:(j+1)*E.rz x<=l.length:=arU hc;obtain⟨m,hz,hm,hs⟩:=bK.here.rx _ _ _ Y5;have Fi:n=m+j:=by rw[hn]at hs;omega
    subst Fi;refine⟨_,(h2.drop (j*E.rz x)).take (E.rz x),fun i u hu=>iu _ _ ?_⟩;rw[arD]at hu;split at hu
    ·rw[arK]at hu
     rw[List.getElem?_append_right (by rw[<-hm,Nat.add_mul];omega),<-hm,Nat.add_mul];rw[show m*E.rz x+j*E.rz x+i-m*E.rz x=j*E.rz x+i by omega];exact hu
    ·cases hu
  ·cases hg
theorem HR.KZ{w:World}(hr:HR φ h w){r:Nat}(hb:φ b=some r){x:Nat}{l:List V}(hl:h.get b=.row x l e):
  ∃vs,J φ l vs/\∀p u,(φ.w x++vs)[p]? =some u->w.cell? ⟨r,p,none⟩=some u:=by
 obtain⟨c,vs,h1,h2,h3,h4,h5⟩:=hr.rowAt hb hl;refine⟨vs,h2,fun p u hu=> ?_⟩;rw[<-h3,arD]at hu;split at hu
 ·have:c[p]? =some u:=by simpa using hu
  simp[arT,h1,this]
 ·cases hu
theorem HR.PA{w:World}(hr:HR φ h w){r:Nat}(hb:φ b=some r){x:Nat}(hl:h.get b=.rw x e):
  ∀p u,(φ.w x++[])[p]? =some u->w.cell? ⟨r,p,none⟩=some u:=by
 obtain⟨o,h1,h2⟩:=hr.ew b r hb (by rw[hl];trivial);rw[hl]at h2;obtain⟨c,rfl,h3,h4,_⟩:=h2;intro p u hu;rw[List.append_nil,<-h3,arD]at hu;split at hu
 ·have:c[p]? =some u:=by simpa using hu
  simp[arT,h1,this]
 ·cases hu
def vZ(E:Env)(t:TypeId)(a:V)(h:H):Option (V×H):=match E.tt t,a with
 |some (i,d),.p (some (b,o))=>
  match h.get b with
  |.cells l _ _=>
   match ir i d l o with
   |some x=>some (x,h)
   |none=>none
  |.rc l _=>
   match ir i d l o with
   |some x=>some (x,h)
   |none=>none
  |_=>none
 |some (i,d),.pr b x y sz off=>
  match h.get b with
  |.row x' l _=>
   cond (aop x' x&&aop sz (E.rz x))
    (match De E x l y with
    |some cs=>
     match ir i d cs off with
     |some v=>some (v,h)
     |none=>none
    |none=>none) none
  |.rw x' _=>
   cond (aop x' x&&aop sz (E.rz x))
    (match De E x [] y with
    |some cs=>
     match ir i d cs off with
     |some v=>some (v,h)
     |none=>none
    |none=>none) none
  |_=>none
 |_,_=>none
theorem Na{E:Env}(hE:E.OK)(bK:BD E φ){w:World}(hr:HR φ h w)(t:TypeId){x:V}{v:Value}(hx:VR φ x v):
  Yields E.P φ w (do pure (.value (<-arQ t v))) (vZ E t x h):=by
 unfold vZ;split
 ·rename_i i d b o ht
  obtain⟨hi,hd⟩:=hE.ty t i d ht;simp only[VR]at hx;obtain⟨r,hb,rfl⟩:=hx;split
  ·rename_i l e g hl
   split
   ·rename_i x hx
    obtain⟨vs,h1,h2,h3⟩:=hr.qz hb hl 0 l.length (by omega);rw[List.drop_zero,List.take_length]at h2;obtain⟨v,g1,g2⟩:=eE (P:=E.P) (w:=w) (o:=0) hi hd h2 (fun j u hu=>h3 j u hu) hx;rw[Nat.zero_add]at g1;exact Yields.pure hr (v:=v) (by rw[arE,g1];rfl) g2
   ·exact Yields.none
  ·rename_i l e hl
   split
   ·rename_i x hx
    obtain⟨vs,h1,h2,h3⟩:=hr.zf hb hl 0 l.length (by omega);rw[List.drop_zero,List.take_length]at h2;obtain⟨v,g1,g2⟩:=eE (P:=E.P) (w:=w) (o:=0) hi hd h2 (fun j u hu=>h3 j u hu) hx;rw[Nat.zero_add]at g1;exact Yields.pure hr (v:=v) (by rw[arE,g1];rfl) g2
   ·exact Yields.none
  ·exact Yields.none
 ·rename_i i d b x y sz off ht
  obtain⟨hi,hd⟩:=hE.ty t i d ht;simp only[VR]at hx;obtain⟨r,n,hb,hn,rfl⟩:=hx;split
  ·rename_i x' l e hl
   cases hc:aop x' x&&aop sz (E.rz x)with
   |false=>exact Yields.none
   |true=>
    simp only[arI]at hc;have iT:x'=x:=arC hc.1;have ed:sz=E.rz x:=arC hc.2;subst iT;subst ed;simp only[cond];split
    ·rename_i cs ib
     obtain⟨vs,gE,ff⟩:=hr.KZ hb hl;obtain⟨us,h1,h2⟩:=Cf bK gE ff ib hn;split
     ·rename_i u hu
      obtain⟨v,g1,g2⟩:=eE (P:=E.P) (w:=w) hi hd h1 h2 hu;exact Yields.pure hr (v:=v) (by rw[arE,g1];rfl) g2
     ·exact Yields.none
    ·exact Yields.none
  ·rename_i x' e hl
   cases hc:aop x' x&&aop sz (E.rz x)with
   |false=>exact Yields.none
   |true=>
    simp only[arI]at hc;have iT:x'=x:=arC hc.1;have ed:sz=E.rz x:=arC hc.2;subst iT;subst ed;simp only[cond];split
    ·rename_i cs ib
     obtain⟨us,h1,h2⟩:=Cf bK J.nil (hr.PA hb hl) ib hn;split
     ·rename_i u hu
      obtain⟨v,g1,g2⟩:=eE (P:=E.P) (w:=w) hi hd h1 h2 hu;exact Yields.pure hr (v:=v) (by rw[arE,g1];rfl) g2
     ·exact Yields.none
    ·exact Yields.none
  ·exact Yields.none
 ·exact Yields.none
def rA(E:Env)(t:TypeId)(a:V)(h:H):Option (V×H):=match a with
 |.q x=>
  match E.xt.ol t x with
  |some v=>some (v,h)
  |none=>none
 |a=>vZ E t a h
theorem PB{E:Env}(hE:E.OK)(bK:BD E φ){w:World}(hr:HR φ h w)(t:TypeId){x:V}{v:Value}(hx:VR φ x v):
  Yields E.P φ w (do pure (.value (<-arQ t v))) (rA E t x h):=by
 unfold rA;split
 ·split
  ·rename_i x u e
   simp only[VR]at hx;obtain⟨u',g1,g2⟩:=bK.here.xt.ol _ _ _ e w fun r o hk=>(hr.kp r o hk).1
   rw[hx.1];exact Yields.pure hr (v:=u') (by rw[arE,g1];rfl) g2
  ·exact Yields.none
 ·exact Na hE bK hr t hx
theorem HR.congr{h':H}{w:World}(hr:HR φ h w)(hn:h'.n=h.n)(hg:∀b,h'.get b=h.get b):HR φ h' w:=⟨by rw[hn];exact hr.iL,fun b r e=>by rw[hn];exact hr.lM b r e,fun b r e hl=>by rw[hg]at hl⊢;exact hr.ew b r e hl,fun b b' r e e' hl ru=>by rw[hg]at hl ru;exact hr.inj b b' r e e' hl ru,fun r o hk=>⟨(hr.kp r o hk).1,fun b e=>by rw[hg];exact(hr.kp r o hk).2 b e⟩⟩
def sc:List V->Nat->List V->List V
 |l,_,[]=>l
 |l,o,c::cs=>sc (l.set o c) (o+1) cs
theorem l9{P:Program}{φ:Ren}{b r:Nat}(hb:φ b=some r){e:TypeId}{g:Bool}(o:Nat):∀(cs:List V) (vs:List Value) (i:Nat) (l:List V) (h:H) (w:World),
  J φ cs vs->cs.all jL=true->h.get b=.cells l e g->o+i+cs.length<=l.length->HR φ h w->
  ∃w',(storeCells ⟨r,o,none⟩ vs i).run P w=.ok () w'/\Ext φ w φ w'/\HR φ (h.set b (.cells (sc l (o+i) cs) e g)) w'
 |[],vs,i,l,h,w,hv,_,hl,_,hr=>by
  simp only[J]at hv;subst hv;refine⟨w,by simp[storeCells],Ext.refl φ w,hr.congr rfl fun c=> ?_⟩;rw[H.bg]
  by_cases hc:c=b
  ·rw[if_pos hc,hc,hl];rfl
  ·rw[if_neg hc]
 |c::cs,vs,i,l,h,w,hv,ha,hl,hle,hr=>by
  simp only[J]at hv;obtain⟨v,xD,rfl,hc,ib⟩:=hv;simp only[List.all_cons,arI]at ha;simp only[List.length_cons]at hle;have bf:o+i<l.length:=by omega
  obtain⟨u,hu,_,Y6⟩:=hr.cell hb hl (List.getElem?_eq_getElem bf);obtain⟨h1,h2⟩:=hr.setCell hb hl (o:=o+i) hc;obtain⟨w',h3,h4,h5⟩:=l9 (P:=P) hb o cs xD (i+1) (l.set (o+i) c) (h.set b (.cells (l.set (o+i) c) e g)) (w.setCell ⟨r,o+i,none⟩ v) ib ha.2
   (by rw[H.bg,if_pos rfl]) (by simp;omega) h1
  refine⟨w',?_,h2.trans h4,h5.congr rfl fun d=> ?_⟩
  ·simp[storeCells,arM,run_store _ _ _ _ _ (mG hc ha.1),hu,Y6,h3]
  ·rw[H.bg,H.bg]
   by_cases hd:d=b
   ·rw[if_pos hd,if_pos hd];rfl
   ·rw[if_neg hd,if_neg hd,H.bg,if_neg hd]
def Df(E:Env)(t:TypeId)(a x:V)(h:H):Option (V×H):=match E.tt t,a,sb x with
 |some (i,_),.p (some (b,o)),some cs=>
  match h.get b with
  |.cells l e g=>cond (aop cs.length i.size&&cs.all jL&&arX (o+cs.length) l.length) (some (.top,h.set b (.cells (sc l o cs) e g))) none
  |_=>none
 |_,_,_=>none
theorem Nb{E:Env}(hE:E.OK){w:World}(hr:HR φ h w)(t:TypeId){a x:V}{va vx:Value}(ha:VR φ a va)(hx:VR φ x vx):
  Yields E.P φ w (do Instr.storeAt t va vx;pure .skip) (Df E t a x h):=by
 unfold Df;split
 ·rename_i i d b o cs ht ib
  obtain⟨hi,_⟩:=hE.ty t i d ht;simp only[VR]at ha;obtain⟨r,hb,rfl⟩:=ha;split
  ·rename_i l e g hl
   intro y h' he;cases hc:aop cs.length i.size&&cs.all jL&&arX (o+cs.length) l.length with
   |false=>rw[hc]at he;cases he
   |true=>
    rw[hc]at he;simp only[cond,AAA,arV]at he;obtain⟨rfl,rfl⟩:=he;simp only[arI]at hc;obtain⟨⟨h1,h2⟩,h3⟩:=hc;have O1:cs.length=i.size:=arC h1;have h3':o+cs.length<=l.length:=by simpa using h3
    have hv:=vX hx ib;obtain⟨w',h4,h5,h6⟩:=l9 (P:=E.P) hb (e:=e) (g:=g) o cs vx.cells.toList 0 l h w hv h2 hl (by omega) hr;refine⟨φ,undef,w',.inr ⟨?_,rfl⟩,h5,agm,h6⟩;have ed:vx.cells.size=i.size:=by rw[<-O1,<-hv.length];simp
    simp[Instr.storeAt,arL,storeVar,run_sizeOf hi,ed,h4]
  ·exact Yields.none
 ·exact Yields.none
end
variable{E:Env}
noncomputable section
def VL(φ:Ren):List (Nat×V)->List (Nat×Value)->Prop
 |[],l=>l=[]
 |(i,x)::xs,l=>∃y ys,l=(i,y)::ys/\VR φ x y/\VL φ xs ys
def gF:List Value->Nat->List Value->List Value
 |l,_,[]=>l
 |l,o,c::cs=>gF (l.set o c) (o+1) cs
theorem Cg{φ:Ren}:∀{cs:List V} {vs:List Value} {l:List V} {m:List Value} (o:Nat),J φ l m->J φ cs vs->J φ (sc l o cs) (gF m o vs)
 |[],vs,l,m,o,h,h'=>by simp only[J]at h';subst h';exact h
 |c::cs,vs,l,m,o,h,h'=>by
  simp only[J]at h';obtain⟨y,ys,rfl,h1,h2⟩:=h';exact Cg (o+1) (h.set o h1) h2
theorem tH(off:Nat):∀(vs:List Value) (k:Nat) (arr:Array Value),
  ((vs.zipIdx k).foldl (fun(cs:Array Value) (x:Value×Nat)=>cs.setIfInBounds (off+x.2) x.1) arr).toList=gF arr.toList (off+k) vs
 |[],_,_=>rfl
 |v::vs,k,arr=>by
  simp only[List.zipIdx_cons,List.foldl_cons,gF];rw[tH off vs (k+1)];simp[asg]
def zg(place:Nat->Option (Nat×Nat)):List V->List (Nat×V)->Option (List V)
 |cells,[]=>some cells
 |cells,(i,v)::rest=>
  match place i,sb v with
  |some (off,size),some cs=>cond (aop cs.length size&&arX (off+cs.length) cells.length) (zg place (sc cells off cs) rest) none
  |_,_=>none
theorem tI{φ:Ren}(place:Nat->Option (Nat×Nat)):∀(parts:List (Nat×V)) (parts':List (Nat×Value)) (cells out:List V) (rc:Array Value),
  VL φ parts parts'->J φ cells rc.toList->zg place cells parts=some out->∃rc',Instr.fill place rc parts'=some rc'/\J φ out rc'.toList
 |[],parts',cells,out,rc,hp,hc,h=>by
  simp only[VL]at hp;subst hp;simp only[zg,AAA]at h;subst h;exact⟨rc,rfl,hc⟩
 |(i,x)::ps,parts',cells,out,rc,hp,hc,h=>by
  simp only[VL]at hp;obtain⟨y,ys,rfl,h1,h2⟩:=hp;simp only[zg]at h;split at h
  ·rename_i off size cs Vj ib
   cases hb:aop cs.length size&&arX (off+cs.length) cells.length with
   |false=>rw[hb]at h;cases h
   |true=>
    rw[hb]at h;simp only[cond]at h;simp only[arI]at hb;have hs:cs.length=size:=arC hb.1;have hle:off+cs.length<=cells.length:=by simpa using hb.2
    have hv:=vX h1 ib;have xG:y.cells.size=cs.length:=by simpa using hv.length
    have Ia:rc.size=cells.length:=by simpa using hc.length
    have PC:(y.cells.zipIdx.foldl (fun cs (x:Value×Nat)=>cs.setIfInBounds (off+x.2) x.1) rc).toList=gF rc.toList off y.cells.toList:=by
     rw[<-Array.foldl_toList,Array.toList_zipIdx];exact tH off y.cells.toList 0 rc
    obtain⟨rc',h3,h4⟩:=tI place ps ys (sc cells off cs) out (y.cells.zipIdx.foldl (fun cs (x:Value×Nat)=>cs.setIfInBounds (off+x.2) x.1) rc) h2
     (by rw[PC];exact Cg off hc hv) h
    refine⟨rc',?_,h4⟩;simp only[Instr.fill,Vj];rw[if_neg (by simp[xG,hs];omega)];exact h3
  ·cases h
def nL(ng:Nat)(fr:Fr)(ps:List (Nat×Operand)):List (Nat×V):=ps.map fun p=>(p.1,ev ng fr p.2)
theorem v7{ng:Nat}{φ:Ren}{fr:Fr}{a:Act}(hg:GL ng φ)(hf:FR φ fr a.tmps):∀ps:List (Nat×Operand),VL φ (nL ng fr ps) (ps.map fun p=>(p.1,a.eval p.2))
 |[]=>by simp[nL,VL]
 |(i,x)::ps=>by
  simp only[nL,List.map_cons,VL];exact⟨_,_,rfl,ry hg hf x,v7 hg hf ps⟩
def tJ(E:Env):List Field->Option (List (Nat×Nat))
 |[]=>some []
 |f::fs=>
  match E.tt f.type,tJ E fs with
  |some (i,_),some l=>some ((f.offset,i.size)::l)
  |_,_=>none
theorem zh{E:Env}(hE:E.OK):∀(fs:List Field) (l:List (Nat×Nat)),tJ E fs=some l->fs.mapM (fun f=>(E.P.info? f.type).map fun i=>(f.offset,i.size))=some l
 |[],l,h=>by simp only[tJ,AAA]at h;subst h;rfl
 |f::fs,l,h=>by
  simp only[tJ]at h;split at h
  ·rename_i i d l' h1 h2
   simp only[AAA]at h;subst h;have:=zh hE fs l' h2;simp[List.mapM_cons,(hE.ty _ _ _ h1).1,this]
  ·cases h
def zi(E:Env)(t:TypeId)(parts:List (Nat×V))(h:H):Option (V×H):=match E.tt t with
 |some (it,.array _ e)=>
  match it.zero,E.tt e with
  |some z,some (ie,_)=>
   match zg (fun i=>some (i*ie.size,ie.size)) (z.cells.toList.map Il) parts with
   |some cs=>some (.a cs,h)
   |none=>none
  |_,_=>none
 |some (it,.struct fields)=>
  match it.zero,tJ E fields.toList with
  |some z,some places=>
   match zg (fun i=>places[i]?) (z.cells.toList.map Il) parts with
   |some cs=>some (.a cs,h)
   |none=>none
  |_,_=>none
 |_=>none
theorem Nc(hE:E.OK){w:World}(hr:HR φ h w)(t:TypeId){parts:List (Nat×V)}{parts':Array (Nat×Value)}(hp:VL φ parts parts'.toList):
  Yields E.P φ w (do pure (.value (<-Instr.build t parts'))) (zi E t parts h):=by
 unfold zi;split
 ·rename_i it n e ht
  obtain⟨hi,hu⟩:=hE.ty _ _ _ ht;split
  ·rename_i z ie de hz he
   split
   ·rename_i cs ib
    obtain⟨rc,h1,h2⟩:=tI _ parts parts'.toList _ cs z.cells hp (tG φ z.cells.toList) ib;refine Yields.pure hr (v:=.agg rc) ?_ (by simp only[VR];exact⟨_,rfl,h2⟩);have hb:E.P.built t parts'.toList=some rc:=by simp[Program.built,hi,hu,hz,(hE.ty _ _ _ he).1,h1]
    simp[run_build w t parts' rc hb]
   ·exact Yields.none
  ·exact Yields.none
 ·rename_i it fields ht
  obtain⟨hi,hu⟩:=hE.ty _ _ _ ht;split
  ·rename_i z places hz Vj
   split
   ·rename_i cs ib
    obtain⟨rc,h1,h2⟩:=tI _ parts parts'.toList _ cs z.cells hp (tG φ z.cells.toList) ib;refine Yields.pure hr (v:=.agg rc) ?_ (by simp only[VR];exact⟨_,rfl,h2⟩);have hb:E.P.built t parts'.toList=some rc:=by
     have e:(fun(x:Nat)=>places.toArray[x]?)=fun i=>places[i]? :=by funext x;simp
     simp only[Program.built,hi,hu,hz,zh hE _ _ Vj,e,h1]
    simp[run_build w t parts' rc hb]
   ·exact Yields.none
  ·exact Yields.none
 ·exact Yields.none
def Ch(z:List V)(n:Nat):List V:=(List.range n).map fun j=>(z[j%z.length]?).getD .top
theorem Fl(z:Array Value)(n:Nat):J φ (Ch (z.toList.map Il) n) ((Array.range n).map (z[· %z.size]!)).toList:=by
 have key:∀l:List Nat,J φ (l.map fun j=>((z.toList.map Il)[j%(z.toList.map Il).length]?).getD .top) (l.map (z[· %z.size]!)):=by
  intro l
  induction l with
  |nil=>exact J.nil
  |cons j l ih=>
   refine J.cons ?_ ih;simp only[List.length_map,Array.length_toList,List.getElem?_map];cases hg:z.toList[j%z.size]?with
   |none=>simp only[Option.map_none,Option.getD_none,VR]
   |some v=>
    simp only[Option.map_some,Option.getD_some];have:z[j%z.size]! =v:=by
     have h2:z[j%z.size]? =some v:=by simpa using hg
     rw[getElem!_def,h2]
    rw[this];exact Im φ v
 simpa[Ch]using key (List.range n)
def lO(E:Env)(t:TypeId)(len:Nat)(parts:List (Nat×V))(h:H):Option (V×H):=match E.tt t with
 |some (_,.slice e)=>
  match E.tt e with
  |some (ie,_)=>
   match ie.zero with
   |some z=>
    match zg (fun i=>some (i*ie.size,ie.size)) (Ch (z.cells.toList.map Il) (len*ie.size)) parts with
    |some cs=>cond (aop (len*ie.size) 0||arN 16777216 (len*ie.size)) none (some (.sl (some (h.n,0)) len (.kn len),h.new (.cells cs e false)))
    |none=>none
   |none=>none
  |none=>none
 |_=>none
theorem zj(hE:E.OK){w:World}(hr:HR φ h w)(t:TypeId)(len:Nat){parts:List (Nat×V)}{parts':Array (Nat×Value)}(hp:VL φ parts parts'.toList):
  Yields E.P φ w (do pure (.value (<-Instr.buildSlice t len parts'))) (lO E t len parts h):=by
 unfold lO;split
 ·rename_i it e ht
  obtain⟨hi,hu⟩:=hE.ty _ _ _ ht;split
  ·rename_i ie de he
   obtain⟨E5,_⟩:=hE.ty _ _ _ he;split
   ·rename_i z hz
    split
    ·rename_i cs ib
     intro y h' hy;cases hb:aop (len*ie.size) 0||arN 16777216 (len*ie.size)with
     |true=>rw[hb]at hy;cases hy
     |false=>
      rw[hb]at hy;simp only[cond,AAA,arV]at hy;obtain⟨rfl,rfl⟩:=hy;simp only[Bool.or_eq_false_iff]at hb;have gn:¬len*ie.size=0:=fun e=>by rw[e]at hb;cases hb.1
      have hsm:¬len*ie.size>2^24:=fun e=>by
       have:arN 16777216 (len*ie.size)=true:=by simp only[arN];exact asj (by omega)
       rw[this]at hb;cases hb.2
      obtain⟨rc,h1,h2⟩:=tI _ parts parts'.toList _ cs _ hp (Fl z.cells (len*ie.size)) ib;obtain⟨g1,g2,g3⟩:=zd hr e (vs:=rc) h2;refine⟨_,.slice (some ⟨w.heap.size,0,none⟩) len len,_,.inl ?_,g2,?_,g1⟩
      ·have:=run_buildSlice (P:=E.P) w t e len parts' rc ie z hu E5 hz hsm gn h1
       simp only[arE,this,arR,arZ];rfl
      ·simp only[VR];exact⟨_,g3,arF _,rfl⟩
    ·exact Yields.none
   ·exact Yields.none
  ·exact Yields.none
 ·exact Yields.none
def kG(E:Env)(s:TypeId)(x:V)(f:Nat)(h:H):Option (V×H):=match E.tt s,x with
 |some (_,.struct fields),.p (some (b,o))=>
  match fields[f]?with
  |some fd=>
   match E.tt fd.type with
   |some (i,_)=>cond (aop i.size 0) none (some (.p (some (b,o+fd.offset)),h))
   |none=>none
  |none=>none
 |some (_,.struct fields),.pr b x y sz o=>
  match fields[f]?with
  |some fd=>
   match E.tt fd.type with
   |some (i,_)=>cond (aop i.size 0) none (some (.pr b x y sz (o+fd.offset),h))
   |none=>none
  |none=>none
 |_,_=>none
theorem BH(hE:E.OK){w:World}(hr:HR φ h w)(s:TypeId){x:V}{v:Value}(hx:VR φ x v)(f:Nat):
  Yields E.P φ w (do pure (.value (<-asf s v f))) (kG E s x f h):=by
 unfold kG;split
 ·rename_i i fields b o hs
  obtain⟨_,hu⟩:=hE.ty _ _ _ hs;simp only[VR]at hx;obtain⟨r,hb,rfl⟩:=hx;split
  ·rename_i fd hfd
   split
   ·rename_i i' d' hi'
    cases hz:aop i'.size 0 with
    |true=>exact Yields.none
    |false=>
     have hz':¬i'.size=0:=fun e=>by rw[e]at hz;cases hz
     simp only[cond];refine Yields.pure hr (v:=.pointer (some ⟨r,o+fd.offset,none⟩)) ?_ (by simp only[VR];exact⟨r,hb,rfl⟩);simp[asf,run_underlying hu,hfd,arL,fieldPlace,run_sizeOf (hE.ty _ _ _ hi').1,hz',arM]
   ·exact Yields.none
  ·exact Yields.none
 ·rename_i i fields b x y sz o hs
  obtain⟨_,hu⟩:=hE.ty _ _ _ hs;simp only[VR]at hx;obtain⟨r,n,hb,hn,rfl⟩:=hx;split
  ·rename_i fd hfd
   split
   ·rename_i i' d' hi'
    cases hz:aop i'.size 0 with
    |true=>exact Yields.none
    |false=>
     have hz':¬i'.size=0:=fun e=>by rw[e]at hz;cases hz
     simp only[cond];refine Yields.pure hr (v:=.pointer (some ⟨r,n*sz+(o+fd.offset),none⟩)) ?_ (by simp only[VR];exact⟨r,n,hb,hn,rfl⟩);simp[asf,run_underlying hu,hfd,arL,fieldPlace,run_sizeOf (hE.ty _ _ _ hi').1,hz',arM,asg]
   ·exact Yields.none
  ·exact Yields.none
 ·exact Yields.none
def xH(E:Env)(t:TypeId)(cs:List V)(off:Nat):Option V:=match E.tt t with
 |some (i,d)=>cond (BG d) (some (.a ((cs.drop off).take i.size))) (cs[off]?)
 |none=>none
theorem po(hE:E.OK)(w:World)(t:TypeId){cs:List V}{vs:Array Value}(hc:J φ cs vs.toList)(off:Nat){x:V}(hx:xH E t cs off=some x):
  ∃v,(part t vs off).run E.P w=.ok v w/\VR φ x v:=by
 unfold xH at hx;split at hx
 ·rename_i i d ht
  obtain⟨hi,hu⟩:=hE.ty _ _ _ ht;cases ha:BG d with
  |true=>
   rw[ha]at hx;simp only[cond,AAA]at hx;subst hx;refine⟨.agg (vs.extract off (off+i.size)),by simp[part,kl hu,ha,run_sizeOf hi],?_⟩;simp only[VR];refine⟨_,rfl,?_⟩;have e:(vs.extract off (off+i.size)).toList=(vs.toList.drop off).take i.size:=by simp[List.extract_eq_take_drop]
   rw[e];exact(hc.drop off).take i.size
  |false=>
   rw[ha]at hx;simp only[cond]at hx;obtain⟨v,hv,hxv⟩:=hc.get hx;have yk:vs[off]? =some v:=by simpa using hv
   exact⟨v,by simp[part,kl hu,ha,yk],hxv⟩
 ·cases hx
def zk(E:Env)(t:TypeId)(x:V)(f:Nat)(h:H):Option (V×H):=match E.tt t,x with
 |some (_,.struct fields),.a cs=>
  match fields[f]?with
  |some fd=>
   match xH E fd.type cs fd.offset with
   |some y=>some (y,h)
   |none=>none
  |none=>none
 |_,_=>none
theorem Nd(hE:E.OK){w:World}(hr:HR φ h w)(t:TypeId){x:V}{v:Value}(hx:VR φ x v)(f:Nat):
  Yields E.P φ w (do pure (.value (<-Instr.field t v f))) (zk E t x f h):=by
 unfold zk;split
 ·rename_i i fields cs ht
  obtain⟨_,hu⟩:=hE.ty _ _ _ ht;simp only[VR]at hx;obtain⟨vs,rfl,hc⟩:=hx;split
  ·rename_i fd hfd
   split
   ·rename_i y hy
    obtain⟨v,h1,h2⟩:=po hE w fd.type hc fd.offset hy;exact Yields.pure hr (v:=v) (by simp[Instr.field,run_underlying hu,hfd,asAgg,h1]) h2
   ·exact Yields.none
  ·exact Yields.none
 ·exact Yields.none
theorem VR.VM{o n:Nat}{c:Cap}{v:Value}(h:VR φ (.sl (some (b,o)) n c) v):∃r cap,φ b=some r/\v=.slice (some ⟨r,o,none⟩) n cap:=by
 cases c with
 |kn c=>simp only[VR]at h;obtain⟨r,h1,_,rfl⟩:=h;exact⟨r,c,h1,rfl⟩
 |un sz=>simp only[VR]at h;obtain⟨r,cap,h1,_,_,rfl⟩:=h;exact⟨r,cap,h1,rfl⟩
theorem PD{a:Nat}:arN a b=true↔a<b:=by
 rw[arN];constructor
 ·intro h;have:=arU h;omega
 ·intro h;exact asj h
def Y7(i:Int)(n:Nat):Option Nat:=match i with
 |.ofNat k=>cond (arN k n) (some k) none
 |.negSucc _=>none
theorem sf{i:Int}{n k:Nat}(h:Y7 i n=some k):i=(k:Int)/\k<n:=by
 unfold Y7 at h;split at h
 ·rename_i j
  cases hb:arN j n with
  |false=>rw[hb]at h;cases h
  |true=>
   rw[hb]at h;simp only[cond,AAA]at h;subst h;have:j+1<=n:=by simpa[arN]using hb
   exact⟨rfl,by omega⟩
 ·cases h
def Dg(E:Env)(x k y:Nat):Bool:=match E.re x y with
 |some _=>true
 |none=>
  match E.rx x y with
  |some j=>arN j k
  |none=>false
theorem Nf(bK:BD E φ){x k y n:Nat}(hn:n*E.rz x=(φ.w x).length)(hz:0<E.rz x)(h:Dg E x k y=true):∃m:Nat,φ.s y=((m:Nat):Int)/\m<n+k:=by
 unfold Dg at h;split at h
 ·rename_i vs VK
  obtain⟨_,_,m,hm,hle,_⟩:=bK.here.re _ _ _ VK;refine⟨m,hm,?_⟩;rw[<-hn]at hle;have:=Nat.le_of_mul_le_mul_right hle hz;omega
 ·split at h
  ·rename_i j Y5
   obtain⟨m,_,hm,hs⟩:=bK.here.rx _ _ _ Y5;have oV:n=m:=Nat.eq_of_mul_eq_mul_right hz (hn.trans hm.symm);have:=PD.1 h;exact⟨m+j,hs,by omega⟩
  ·cases h
def lP(E:Env)(t:TypeId)(x i:V)(h:H):Option (V×H):=match E.tt t,x,i with
 |some (_,.slice e),.sl (some (b,o)) n _,.i _ k=>
  match E.tt e,Y7 k n with
  |some (ie,_),some j=>some (.p (some (b,o+j*ie.size)),h)
  |_,_=>none
 |some (_,.array n e),.p (some (b,o)),.i _ k=>
  match E.tt e,Y7 k n with
  |some (ie,_),some j=>some (.p (some (b,o+j*ie.size)),h)
  |_,_=>none
 |some (_,.slice e),.sr b x k sz,.y _ y=>
  match E.tt e with
  |some (ie,_)=>cond (aop sz ie.size&&aop sz (E.rz x)&&Dg E x k y) (some (.pr b x y sz 0,h)) none
  |none=>none
 |_,_,_=>none
theorem zl(hE:E.OK)(bK:BD E φ){w:World}(hr:HR φ h w)(t:TypeId){x i:V}{v vi:Value}(hx:VR φ x v)(hi:VR φ i vi):
  Yields E.P φ w (do pure (.value (<-arP t v vi))) (lP E t x i h):=by
 unfold lP;split
 ·rename_i it e b o n c kk k ht
  obtain⟨_,hu⟩:=hE.ty _ _ _ ht;simp only[VR]at hi;subst hi;obtain⟨r,cap,hb,rfl⟩:=VR.VM hx;split
  ·rename_i ie de j he hj
   obtain⟨rfl,bf⟩:=sf hj;refine Yields.pure hr (v:=.pointer (some ⟨r,o+j*ie.size,none⟩)) ?_ (by simp only[VR];exact⟨r,hb,rfl⟩);have hc:(0:Int)<=(j:Int)/\(j:Int)<(n:Int):=⟨by omega,by omega⟩;simp only[arP,asIntOf,arE,arZ,arR,run_underlying hu];rw[if_pos hc];simp[run_sizeOf (hE.ty _ _ _ he).1,arM]
  ·exact Yields.none
 ·rename_i it n e b o kk k ht
  obtain⟨_,hu⟩:=hE.ty _ _ _ ht;simp only[VR]at hx hi;obtain⟨r,hb,rfl⟩:=hx;subst hi;split
  ·rename_i ie de j he hj
   obtain⟨rfl,bf⟩:=sf hj;refine Yields.pure hr (v:=.pointer (some ⟨r,o+j*ie.size,none⟩)) ?_ (by simp only[VR];exact⟨r,hb,rfl⟩);have hc:(0:Int)<=(j:Int)/\(j:Int)<(n:Int):=⟨by omega,by omega⟩;simp only[arP,asIntOf,arE,arZ,arR,run_underlying hu,arL];rw[if_pos hc];simp[run_sizeOf (hE.ty _ _ _ he).1,arM]
  ·exact Yields.none
 ·rename_i it e b x k sz kk y ht
  obtain⟨_,hu⟩:=hE.ty _ _ _ ht;simp only[VR]at hx hi;obtain⟨r,n,cap,hb,hz,hn,hk,ic,rfl⟩:=hx;subst hi;split
  ·rename_i ie de he
   cases hc:aop sz ie.size&&aop sz (E.rz x)&&Dg E x k y with
   |false=>exact Yields.none
   |true=>
    simp only[arI]at hc;have h1:sz=ie.size:=arC hc.1.1;have h2:sz=E.rz x:=arC hc.1.2;obtain⟨m,hm,bf⟩:=Nf bK (h2▸hn) (h2▸hz) hc.2;simp only[cond];refine Yields.pure hr (v:=.pointer (some ⟨r,m*sz+0,none⟩)) ?_ (by simp only[VR];exact⟨r,m,hb,hm,rfl⟩);rw[hm];have PE:(0:Int)<=(m:Int)/\(m:Int)<((n+k:Nat):Int):=⟨by omega,by omega⟩;simp only[arP,asIntOf,arE,arZ,arR,run_underlying hu];rw[if_pos PE];simp[run_sizeOf (hE.ty _ _ _ he).1,arM,h1]
  ·exact Yields.none
 ·exact Yields.none
def kH(E:Env)(t:TypeId)(x i:V)(h:H):Option (V×H):=match x with
 |.q s=>
  match E.xt.oi t s i with
  |some z=>some (.q z,h)
  |none=>none
 |x=>lP E t x i h
theorem BI(hE:E.OK)(bK:BD E φ){w:World}(hr:HR φ h w)(t:TypeId){x i:V}{v vi:Value}(hx:VR φ x v)(hi:VR φ i vi):
  Yields E.P φ w (do pure (.value (<-arP t v vi))) (kH E t x i h):=by
 unfold kH;split
 ·split
  ·rename_i s z e
   simp only[VR]at hx;obtain⟨g1,g2⟩:=bK.here.xt.oi _ _ _ _ e φ (Le.refl φ) vi hi;rw[hx.1];exact Yields.pure hr (v:=φ.q z) (by rw[arE,g2];rfl) (by simp only[VR];exact⟨agm,g1⟩)
  ·exact Yields.none
 ·exact zl hE bK hr t hx hi
end
end Go.Ev
