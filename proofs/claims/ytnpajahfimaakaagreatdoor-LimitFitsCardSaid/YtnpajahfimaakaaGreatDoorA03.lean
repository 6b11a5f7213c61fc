/- A part of what LimitFits rests on. -/
import Derived.Test.YtnpajahfimaakaaGreatDoorA02
import Derived.Laws.IdiomStrings
import Derived.MapKept
import Derived.Laws.MakeOwn
import Derived.Test.YtnpajahfimaakaaGreatDoorA01
set_option linter.all false
namespace Go.Ev
open Option.some renaming injEq->aop,inj->asg
open MapKept renaming run_getObj_map->AAA,run_setObj_map->arM
open Instr renaming sliceAt->arC,sliceBounds->arF,lookup->arG,findAsking->arH,mapUpdate->arI,slice->arN,findNow->arP,sliceBound->arV,checkKey->arX,sameNow->arZ,makeMap->ase,findKey->asf
open Bool renaming and_eq_true->arD
open Prod.mk renaming injEq->arE
open Nat renaming eq_of_beq_eq_true->arJ,beq->arK,le_of_ble_eq_true->arQ,le_refl->arR,ble->arT,blt->asb,zero_le->asj,zero_add->asp,beq_refl->asq
open Sem renaming run_bind->arL,run_pure->asi
open Builtin renaming delete_->arO
open Utf8 renaming decode->arS
open _root_.Array renaming getElem?_setIfInBounds_ne->arU,toList_map->asa,toList_push->ash,eraseIdxIfInBounds->asm,toList_eraseIdx->aso
open Addr renaming add_lit->arW,add->asr
open Result renaming andThen_ok->arY
open UInt8 renaming ofNat->asd
open PUnit renaming unit->asl
open List renaming getElem?_eq_getElem->asn,getElem?_map->ass
variable{E:Env}{φ:Ren}{h:H}
noncomputable section
def Ck:List V->Option (List Nat)
 |[]=>some []
 |.i .u8 (.ofNat m)::l=>
  match Ck l with
  |some r=>cond (asb m 256) (some (m::r)) none
  |none=>none
 |_=>none
theorem zx{φ:Ren}:∀{l:List V} {ns:List Nat},Ck l=some ns->∀{vs:List Value},J φ l vs->vs=ns.map (fun m:Nat=>Value.int .u8 m)/\∀x∈ns,x<256
 |[],ns,e,vs,h=>by
  simp only[Ck,aop]at e;subst e;simp only[J]at h;subst h;exact⟨rfl,fun _ h=>by cases h⟩
 |x::l,ns,e,vs,h=>by
  unfold Ck at e;split at e
  ·rename_i heq;cases heq
  ·rename_i m l' heq
   cases heq;split at e
   ·rename_i r hr
    cases hb:asb m 256 with
    |false=>rw[hb]at e;cases e
    |true=>
     rw[hb]at e;simp only[cond,aop]at e;subst e;simp only[J,VR]at h;obtain⟨_,ys,rfl,rfl,h2⟩:=h;obtain⟨i1,i2⟩:=zx hr h2;have hm:m<256:=by
      have:m+1<=256:=by simpa[asb]using hb
      omega
     refine⟨by rw[i1];rfl,fun x hx=> ?_⟩;rcases List.mem_cons.1 hx with rfl|hx
     ·exact hm
     ·exact i2 x hx
   ·cases e
  ·cases e
def Dn(E:Env)(src dst:TypeId)(x:V)(h:H):Option V:=match E.tt src,E.tt dst with
 |some (_,.slice e),some (_,.string)=>
  match E.tt e with
  |some (_,.int .u8)=>
   match x with
   |.sl (some (b,o)) n _=>
    match h.get b with
    |.cells l _ _=>
     match cond (arT (o+n) l.length) (Ck ((l.drop o).take n)) none with
     |some ns=>some (.s ns)
     |none=>none
    |_=>none
   |_=>none
  |_=>none
 |_,_=>none
theorem Iv(hE:E.OK){w:World}(hr:HR φ h w)(src dst:TypeId){x:V}{v:Value}(hx:VR φ x v){r:V}(e:Dn E src dst x h=some r):∃u,(convert src dst v).run E.P w=.ok u w/\VR φ r u:=by
 unfold Dn at e;split at e
 ·rename_i i1 te i2 h1 h2
  obtain⟨_,u1⟩:=hE.ty _ _ _ h1;obtain⟨_,u2⟩:=hE.ty _ _ _ h2;split at e
  ·rename_i i3 h3
   obtain⟨_,u3⟩:=hE.ty _ _ _ h3;split at e
   ·rename_i b o n c
    split at e
    ·rename_i l te' g hl
     split at e
     ·rename_i ns hns
      cases e;cases hb:arT (o+n) l.length with
      |false=>rw[hb]at hns;cases hns
      |true=>
       rw[hb]at hns;have hle:o+n<=l.length:=arQ hb;obtain⟨rr,cap,PQ,rfl⟩:∃rr cap,φ b=some rr/\v=.slice (some ⟨rr,o,none⟩) n cap:=by
        cases c with
        |kn c=>simp only[VR]at hx;obtain⟨rr,h4,_,rfl⟩:=hx;exact⟨rr,_,h4,rfl⟩
        |un sz=>simp only[VR]at hx;obtain⟨rr,cap,h4,_,_,rfl⟩:=hx;exact⟨rr,_,h4,rfl⟩
       obtain⟨vs,hlen,iz,iu⟩:=hr.qz PQ hl o n hle;obtain⟨j1,j2⟩:=zx hns iz;have hn:(ns.map asd).length=n:=by
        rw[List.length_map,<-hlen,j1,List.length_map]
       have key:=run_convert_bytes_back (P:=E.P) w src dst te ⟨rr,o,none⟩ cap (ns.map asd) u1 u3 u2 (fun j hj=>by
        have oK:j<ns.length:=by simpa using hj
        have ea:asr ⟨rr,o,none⟩ j=⟨rr,o+j,none⟩:=by
         unfold asr
         by_cases h0:j=0
         ·subst h0;simp
         ·simp[h0]
        rw[ea];refine iu j _ ?_;rw[j1,ass,asn oK];have:=j2 ns[j] (List.getElem_mem oK);simp[UInt8.toNat_ofNat',Nat.mod_eq_of_lt this])
       rw[hn]at key;refine⟨_,key,?_⟩;simp only[VR];exact⟨rfl,j2⟩
     ·cases e
    ·cases e
   ·cases e
  ·cases e
 ·cases e
def Dp(E:Env)(src dst:TypeId)(x:V)(h:H):Option V:=match x with
 |.sr b xr 0 1=>
  match E.tt src,E.tt dst with
  |some (_,.slice e),some (_,.string)=>
   match E.tt e,h.get b,E.xt.bs xr with
   |some (_,.int .u8),.row x2 _ _,some z=>cond (arK x2 xr) (some (.q z)) none
   |_,_,_=>none
  |_,_=>none
 |x=>Dn E src dst x h
theorem Nq(hE:E.OK)(bK:BD E φ){w:World}(hr:HR φ h w)(src dst:TypeId){x:V}{v:Value}(hx:VR φ x v){r:V}(e:Dp E src dst x h=some r):∃u,(convert src dst v).run E.P w=.ok u w/\VR φ r u:=by
 unfold Dp at e;split at e
 ·rename_i b xr
  split at e
  ·rename_i i1 te i2 h1 h2
   obtain⟨_,u1⟩:=hE.ty _ _ _ h1;obtain⟨_,u2⟩:=hE.ty _ _ _ h2;split at e
   ·rename_i i3 x2 l e2 z h3 hl hbs
    obtain⟨_,u3⟩:=hE.ty _ _ _ h3;obtain⟨hq,er⟩:arK x2 xr=true/\r=.q z:=by
     cases hq:arK x2 xr with
     |true=>rw[hq]at e;exact⟨rfl,(asg e).symm⟩
     |false=>rw[hq]at e;cases e
    have:=arJ hq;subst this;subst er;obtain⟨s,s1,s2,_,_⟩:=bK.here.xt.bs _ _ hbs;simp only[VR]at hx;obtain⟨rr,n,cap,hb,_,hn,_,_,rfl⟩:=hx;rw[Nat.mul_one]at hn;obtain⟨vs,_,hc⟩:=hr.KZ hb hl;have hlen:s.data.toList.length=n:=by rw[hn,s2];simp[cz]
    have key:=run_convert_bytes_back (P:=E.P) w src dst te ⟨rr,0,none⟩ cap s.data.toList u1 u3 u2 (fun j hj=>by
     have ea:asr ⟨rr,0,none⟩ j=⟨rr,j,none⟩:=by
      unfold asr
      by_cases h0:j=0
      ·subst h0;simp
      ·simp[h0]
     rw[ea];refine hc j _ ?_;rw[List.getElem?_append_left (by rw[s2];simpa[cz]using hj),s2];simp only[cz,ass];rw[asn hj];rfl)
    rw[hlen]at key;rw[Nat.add_zero];refine⟨_,key,?_⟩;simp only[VR,s1];exact⟨by simp,rfl⟩
   ·cases e
  ·cases e
 ·exact Iv hE hr src dst hx e
theorem Dq{k:IntKind}{lo hi n:Int}(h1:cZ k lo=true)(h2:cZ k hi=true)(hn:lo<=n/\n<=hi):k.wrap n=n:=by
 have:cZ k n=true:=by
  cases k<;>simp only[cZ,arD,ma]at h1 h2⊢ <;>omega
 rw[<-kJ];unfold pt;rw[this];rfl
theorem PR(hE:E.OK)(bK:BD E φ)(src dst:TypeId){x:V}{v:Value}(hx:VR φ x v){r:V}(h:K5 E src dst x=some r)(w:World):
  ∃u,(convert src dst v).run E.P w=.ok u w/\VR φ r u:=by
 unfold K5 at h;split at h
 ·rename_i sd id k k' n hs hd
  obtain⟨si,sd⟩:=sd;obtain⟨_,Cl⟩:=hE.ty _ _ _ hs;obtain⟨_,hud⟩:=hE.ty _ _ _ hd;simp only[VR]at hx;subst hx;simp only[aop]at h;subst h;exact⟨.int k (k.wrap n),by simp[convert,run_underlying Cl,run_underlying hud,Conv.intToInt],by simp only[VR,kJ]⟩
 ·rename_i sd i2 k k1 x hs hd
  obtain⟨si,sd⟩:=sd;obtain⟨_,Cl⟩:=hE.ty _ _ _ hs;obtain⟨_,hud⟩:=hE.ty _ _ _ hd;simp only[VR]at hx;subst hx;split at h
  ·rename_i lo hi hb
   cases hc:cZ k lo&&cZ k hi with
   |false=>rw[hc]at h;cases h
   |true=>
    rw[hc]at h;simp only[cond,aop]at h;subst h;simp only[arD]at hc;exact⟨.int k (k.wrap (φ.s x)),by simp[convert,run_underlying Cl,run_underlying hud,Conv.intToInt],by simp only[VR];rw[Dq hc.1 hc.2 (bK.here.bd _ _ _ hb)]⟩
  ·cases h
 ·rename_i sd i2 l hs hd
  obtain⟨si,sd⟩:=sd;obtain⟨_,Cl⟩:=hE.ty _ _ _ hs;obtain⟨_,hud⟩:=hE.ty _ _ _ hd;simp only[aop]at h;subst h;have hv:∃s,v=.string s:=by simp only[VR]at hx;exact⟨_,hx.1⟩
  obtain⟨s,rfl⟩:=hv;exact⟨.string s,by cases sd<;>simp[convert,run_underlying Cl,run_underlying hud],hx⟩
 ·cases h
def fJ(x:Option V)(anT upto:Nat):Option Nat:=match x with
 |none=>some anT
 |some (.i _ k)=>Y7 k (upto+1)
 |_=>none
def OR(φ:Ren):Option V->Option Value->Prop
 |none,y=>y=none
 |some x,y=>∃v,y=some v/\VR φ x v
theorem BJ{P:Program}{w:World}{k:IntKind}{n:Int}{j up:Nat}(code:BoundsCode)(h:Y7 n (up+1)=some j):(arV (.int k n) up code).run P w=.ok j w:=by
 obtain⟨rfl,bf⟩:=sf h;have hc:(0:Int)<=(j:Int)/\(j:Int)<=(up:Int):=⟨by omega,by omega⟩;simp only[arV,asIntOf,arL,asi,arY];rw[if_pos hc];simp
theorem xJ{P:Program}{w:World}{x:Option V}{y:Option Value}(Zb:OR φ x y){d up cap b:Nat}(fb:up<=cap)(h:fJ x d up=some b):
  (y=none/\b=d)\/(∃v,y=some v/\∀code,(arV v cap code).run P w=.ok b w):=by
 cases x with
 |none=>
  simp only[OR]at Zb;simp only[fJ,aop]at h;exact .inl ⟨Zb,h.symm⟩
 |some x=>
  simp only[OR]at Zb;obtain⟨v,rfl,hv⟩:=Zb;cases x<;>simp only[fJ]at h<;>try(cases h;done)
  rename_i k n;simp only[VR]at hv;subst hv;obtain⟨hn,bf⟩:=sf h;refine .inr ⟨_,rfl,fun code=>BJ code (up:=cap) ?_⟩;rw[hn];have hb:asb b (cap+1)=true:=bh.2 (by omega);show cond (asb b (cap+1)) (some b) none=some b;rw[hb];rfl
theorem eS{P:Program}{φ:Ren}{w:World}(isS:Bool)(len cap up:Nat)(fb:up<=cap){lo hi:Option V}{lo' hi':Option Value}(h1:OR φ lo lo')(h2:OR φ hi hi'){l h:Nat}
  (e2:fJ hi len up=some h)(e1:fJ lo 0 h=some l):(arF isS len cap lo' hi' none).run P w=.ok (l,h,cap) w:=by
 rcases xJ (P:=P) (w:=w) h2 fb e2 with⟨rfl,rfl⟩|⟨v,rfl,hv⟩<;>rcases xJ (P:=P) (w:=w) h1 (arR _) e1 with⟨rfl,rfl⟩|⟨u,rfl,hu⟩
 ·simp[arF]
 ·simp[arF,hu]
 ·simp[arF,hv]
 ·simp[arF,hv,hu]
def yF(E:Env)(t:TypeId)(x:V)(lo hi:Option V)(h:H):Option (V×H):=match E.tt t,x with
 |some (_,.string),.s l=>
  match fJ hi l.length l.length with
  |some b=>
   match fJ lo 0 b with
   |some a=>some (.s ((l.drop a).take (b-a)),h)
   |none=>none
  |none=>none
 |some (_,.slice e),.sl (some (bl,o)) len (.kn c)=>
  match E.tt e,fJ hi len c with
  |some (ie,_),some b=>
   match fJ lo 0 b with
   |some a=>some (.sl (some (bl,cond (arK c a) o (o+a*ie.size))) (b-a) (.kn (c-a)),h)
   |none=>none
  |_,_=>none
 |some (_,.slice e),.sl (some (bl,o)) len (.un sz)=>
  match E.tt e,fJ hi len len with
  |some (ie,_),some b=>
   match fJ lo 0 b with
   |some a=>
    cond (arK sz ie.size)
     (cond (arK a 0) (some (.sl (some (bl,o)) b (.un sz),h))
      (cond (asb a len) (some (.sl (some (bl,o+a*ie.size)) (b-a) (.un sz),h)) (some (.es,h)))) none
   |none=>none
  |_,_=>none
 |some (_,.slice e),.sl none 0 _=>
  match E.tt e,fJ hi 0 0 with
  |some _,some b=>
   match fJ lo 0 b with
   |some _=>some (.sl none 0 (.kn 0),h)
   |none=>none
  |_,_=>none
 |some (_,.array n e),.p (some (bl,o))=>
  match E.tt e,fJ hi n n with
  |some (ie,_),some b=>
   match fJ lo 0 b with
   |some a=>some (.sl (some (bl,cond (arK n a) o (o+a*ie.size))) (b-a) (.kn (n-a)),h)
   |none=>none
  |_,_=>none
 |_,_=>none
theorem gU{x:Option V}{d u b:Nat}(hd:d<=u)(h:fJ x d u=some b):b<=u:=by
 unfold fJ at h;split at h
 ·simp only[aop]at h;omega
 ·have:=(sf h).2;omega
 ·cases h
theorem BK(l:List Nat)(a b:Nat):(bytes l).extract a b=bytes ((l.drop a).take (b-a)):=by
 unfold bytes;rw[ByteArray.extract_mk];simp
theorem Iw(hE:E.OK){w:World}(hr:HR φ h w)(t:TypeId){x:V}{v:Value}(hx:VR φ x v){lo hi:Option V}{lo' hi':Option Value}(h1:OR φ lo lo')(h2:OR φ hi hi'):
  aG E.P φ w (arC t v lo' hi' none) (yF E t x lo hi h):=by
 unfold yF;split
 ·rename_i i l ht
  obtain⟨_,hu⟩:=hE.ty _ _ _ ht;simp only[VR]at hx;obtain⟨rfl,hl⟩:=hx;split
  ·rename_i b hb
   split
   ·rename_i a ha
    refine aG.pure hr (v:=.string (bytes ((l.drop a).take (b-a)))) ?_ (by simp only[VR];exact⟨agm,fun x hx=>hl x (List.mem_of_mem_drop (List.mem_of_mem_take hx))⟩);have:=eS (P:=E.P) (w:=w) false l.length l.length l.length (arR _) h1 h2 hb ha;rw[<-du]at this;simp[arC,arN,run_underlying hu,this,BK]
   ·exact aG.none
  ·exact aG.none
 ·rename_i i e bl o len c ht
  obtain⟨_,hu⟩:=hE.ty _ _ _ ht;simp only[VR]at hx;obtain⟨r,Fv,Ia,rfl⟩:=hx;split
  ·rename_i ie de b he hb
   obtain⟨E5,_⟩:=hE.ty _ _ _ he;split
   ·rename_i a ha
    have hbc:=gU Ia hb;have Ni:=gU (asj _) ha;have E7:=eS (P:=E.P) (w:=w) true len c c (arR _) h1 h2 hb ha
    by_cases Vk:c=a
    ·subst Vk
     have sj:arK c c=true:=asq c;refine aG.pure hr (v:=.slice (some ⟨r,o,none⟩) (b-c) (c-c)) ?_ (by rw[sj];simp only[cond,VR];exact⟨r,Fv,by omega,rfl⟩);simp[arC,arN,run_underlying hu,E7,run_sizeOf E5]
    ·have sj:arK c a=false:=YZ Vk
     refine aG.pure hr (v:=.slice (some ⟨r,o+a*ie.size,none⟩) (b-a) (c-a)) ?_ (by rw[sj];simp only[cond,VR];exact⟨r,Fv,by omega,rfl⟩);simp[arC,arN,run_underlying hu,E7,run_sizeOf E5,Vk,arW]
   ·exact aG.none
  ·exact aG.none
 ·rename_i i e bl o len sz ht
  obtain⟨_,hu⟩:=hE.ty _ _ _ ht;simp only[VR]at hx;obtain⟨r,cap,Fv,Ia,hN,rfl⟩:=hx;split
  ·rename_i ie de b he hb
   obtain⟨E5,_⟩:=hE.ty _ _ _ he;split
   ·rename_i a ha
    have hbc:=gU (arR _) hb;have Ni:=gU (asj _) ha;have E7:=eS (P:=E.P) (w:=w) true len cap len Ia h1 h2 hb ha;cases ed:arK sz ie.size with
    |false=>exact aG.none
    |true=>
     have anU:sz=ie.size:=arJ ed;simp only[cond];cases ha0:arK a 0 with
     |true=>
      have anV:a=0:=arJ ha0;subst anV;refine aG.pure hr (v:=.slice (some ⟨r,o,none⟩) b cap) ?_ (by simp only[VR];exact⟨r,cap,Fv,by omega,hN,rfl⟩);simp[arC,arN,run_underlying hu,E7,run_sizeOf E5,arW]
     |false=>
      simp only[];cases E6:asb a len with
      |true=>
       have anW:a<len:=bh.1 E6;refine aG.pure hr (v:=.slice (some ⟨r,o+a*ie.size,none⟩) (b-a) (cap-a)) ?_ ?_
       ·have bU:¬cap=a:=by omega
        simp[arC,arN,run_underlying hu,E7,run_sizeOf E5,bU,arW]
       ·simp only[VR]
        refine⟨r,cap-a,Fv,by omega,?_,rfl⟩;rw[<-hN,anU,Nat.add_assoc,<-Nat.add_mul]
        congr 2;omega
      |false=>
       have anW:¬a<len:=fun e=>by rw[bh.2 e]at E6;cases E6
       have hba:b-a=0:=by omega
       refine aG.pure hr (v:=.slice (if cap=a then some ⟨r,o,none⟩else some ⟨r,o+a*ie.size,none⟩) (b-a) (cap-a)) ?_ (by simp only[VR];rw[hba];exact⟨_,_,rfl⟩)
       by_cases Vk:cap=a
       ·subst Vk;simp[arC,arN,run_underlying hu,E7,run_sizeOf E5]
       ·simp[arC,arN,run_underlying hu,E7,run_sizeOf E5,Vk,arW]
   ·exact aG.none
  ·exact aG.none
 ·rename_i i e c ht
  obtain⟨_,hu⟩:=hE.ty _ _ _ ht;simp only[VR]at hx;obtain⟨_,rfl⟩:=hx;split
  ·rename_i td b he hb
   obtain⟨ie,de⟩:=td;obtain⟨E5,_⟩:=hE.ty _ _ _ he;split
   ·rename_i a ha
    have hbc:=gU (arR _) hb;have Ni:=gU (asj _) ha;have E7:=eS (P:=E.P) (w:=w) true 0 0 0 (arR _) h1 h2 hb ha;refine aG.pure hr (v:=.slice none 0 0) ?_ (by simp only[VR];exact⟨agm,agm⟩);have ha0:a=0:=by omega
    have hb0:b=0:=by omega
    subst ha0;subst hb0;simp[arC,arN,run_underlying hu,E7,run_sizeOf E5]
   ·exact aG.none
  ·exact aG.none
 ·rename_i i n e bl o ht
  obtain⟨_,hu⟩:=hE.ty _ _ _ ht;simp only[VR]at hx;obtain⟨r,Fv,rfl⟩:=hx;split
  ·rename_i ie de b he hb
   obtain⟨E5,_⟩:=hE.ty _ _ _ he;split
   ·rename_i a ha
    have hbc:=gU (arR _) hb;have Ni:=gU (asj _) ha;have E7:=eS (P:=E.P) (w:=w) false n n n (arR _) h1 h2 hb ha
    by_cases Vk:n=a
    ·subst Vk
     have sj:arK n n=true:=asq n;refine aG.pure hr (v:=.slice (some ⟨r,o,none⟩) (b-n) (n-n)) ?_ (by rw[sj];simp only[cond,VR];exact⟨r,Fv,by omega,rfl⟩);simp[arC,Instr.sureAddr,run_underlying hu,E7,run_sizeOf E5]
    ·have sj:arK n a=false:=YZ Vk
     refine aG.pure hr (v:=.slice (some ⟨r,o+a*ie.size,none⟩) (b-a) (n-a)) ?_ (by rw[sj];simp only[cond,VR];exact⟨r,Fv,by omega,rfl⟩);simp[arC,Instr.sureAddr,run_underlying hu,E7,run_sizeOf E5,Vk,arW]
   ·exact aG.none
  ·exact aG.none
 ·exact aG.none
def Dr(E:Env)(t:TypeId)(b x k sz:Nat)(lo hi:Option V):Option V:=match E.tt t,lo,hi with
 |some (_,.slice e),none,some (.y _ y)=>
  match E.tt e,E.rx x y with
  |some (ie,_),some j=>cond (arK sz ie.size&&arK sz (E.rz x)&&arT j k) (some (.sr b x j sz)) none
  |_,_=>none
 |_,_,_=>none
theorem Ix{E:Env}(hE:E.OK){φ:Ren}(bK:BD E φ)(w:World)(t:TypeId){b x k sz:Nat}{v:Value}(hx:VR φ (.sr b x k sz) v){lo hi:Option V}{lo' hi':Option Value}(h1:OR φ lo lo')(h2:OR φ hi hi'){r:V}
  (h:Dr E t b x k sz lo hi=some r):∃u,(arC t v lo' hi' none).run E.P w=.ok u w/\VR φ r u:=by
 unfold Dr at h;split at h
 ·rename_i it e kk y ht
  obtain⟨_,hu⟩:=hE.ty _ _ _ ht;simp only[OR]at h1 h2;subst h1;obtain⟨u,rfl,hy⟩:=h2;simp only[VR]at hy;subst hy;split at h
  ·rename_i ie de j he Y5
   obtain⟨E5,_⟩:=hE.ty _ _ _ he;cases hc:arK sz ie.size&&arK sz (E.rz x)&&arT j k with
   |false=>rw[hc]at h;cases h
   |true=>
    rw[hc]at h;simp only[cond,aop]at h;subst h;simp only[arD]at hc;have e1:sz=ie.size:=arJ hc.1.1;have e2:sz=E.rz x:=arJ hc.1.2;have hjk:j<=k:=arQ hc.2;simp only[VR]at hx;obtain⟨r,m,cap,hb,hz,hm,hkc,hN,rfl⟩:=hx;obtain⟨m',_,hm',hsy⟩:=bK.here.rx _ _ _ Y5;have hmm:m'=m:=Nat.eq_of_mul_eq_mul_right hz (by rw[hm,<-hm',e2]);subst hmm;refine⟨.slice (some ⟨r,0,none⟩) (m'+j) cap,?_,by simp only[VR];exact⟨r,m',cap,hb,hz,hm,by omega,hN,rfl⟩⟩;have PE:(0:Int)<=φ.s y/\φ.s y<=((cap:Nat):Int):=by rw[hsy];exact⟨by omega,by omega⟩
    have E7:(arF true (m'+k) cap none (some (.int kk (φ.s y))) none).run E.P w=.ok (0,m'+j,cap) w:=by
     simp only[arF,arV,asIntOf,arL,asi,arY];rw[if_pos PE,hsy];simp;omega
    simp[arC,arN,run_underlying hu,E7,run_sizeOf E5,arW]
  ·cases h
 ·cases h
def VW:Option V->Option (Option Nat)
 |none=>some none
 |some (.i _ (.ofNat n))=>some (some n)
 |_=>none
theorem K9{x:Option V}{y:Option Value}(h:OR φ x y){r:Option Nat}(e:VW x=some r):(r=none/\y=none)\/∃k n,r=some n/\y=some (.int k (n:Nat)):=by
 unfold VW at e;split at e
 ·simp only[OR]at h;exact .inl ⟨(asg e).symm,h⟩
 ·rename_i k n
  simp only[OR]at h;obtain⟨u,rfl,hu⟩:=h;simp only[VR]at hu;exact .inr ⟨k,n,(asg e).symm,by rw[hu];rfl⟩
 ·cases e
def Ds(E:Env)(t:TypeId)(x:Nat)(lo hi:Option V):Option V:=match E.tt t,VW lo,VW hi with
 |some (_,.string),some a,some b=>
  match E.xt.ss x (a.getD 0) b with
  |some z=>some (.q z)
  |none=>none
 |_,_,_=>none
theorem Iy{E:Env}(hE:E.OK){φ:Ren}(bK:BD E φ)(w:World)(t:TypeId){x:Nat}{v:Value}(hx:VR φ (.q x) v){lo hi:Option V}{lo' hi':Option Value}(h1:OR φ lo lo')(h2:OR φ hi hi'){r:V}
  (h:Ds E t x lo hi=some r):∃u,(arC t v lo' hi' none).run E.P w=.ok u w/\VR φ r u:=by
 unfold Ds at h;split at h
 ·rename_i it a b ht ha hb
  obtain⟨_,hu⟩:=hE.ty _ _ _ ht;split at h
  ·rename_i z hz
   cases h;obtain⟨s,s1,s2,s3,s4⟩:=bK.here.xt.ss _ _ _ _ hz;simp only[VR]at hx;obtain⟨rfl,_⟩:=hx;have b9:φ.q x=.string s:=s1;rw[b9];refine⟨.string (s.extract (a.getD 0) (b.getD s.size)),?_,by simp only[VR];exact⟨s4.symm,rfl⟩⟩;have E7:(arF false s.size s.size lo' hi' none).run E.P w=.ok (a.getD 0,b.getD s.size,s.size) w:=by
    rcases K9 h1 ha with⟨rfl,rfl⟩|⟨k,n,rfl,rfl⟩<;>rcases K9 h2 hb with⟨rfl,rfl⟩|⟨k',n',rfl,rfl⟩<;>
    simp only[Option.getD_none,Option.getD_some]at s2 s3⊢ <;>simp[arF,arV,asIntOf,s2,s3]<;>omega
   simp[arC,arN,run_underlying hu,E7]
  ·cases h
 ·cases h
def zy(E:Env)(t:TypeId)(x:V)(lo hi:Option V)(h:H):Option (V×H):=match x with
 |.q z=>
  match Ds E t z lo hi with
  |some r=>some (r,h)
  |none=>
   match lo,hi with
   |none,some i=>
    match E.xt.os t z i with
    |some y=>some (.q y,h)
    |none=>none
   |_,_=>none
 |.sr b xr k sz=>
  match Dr E t b xr k sz lo hi with
  |some r=>some (r,h)
  |none=>none
 |x=>yF E t x lo hi h
theorem Nr(hE:E.OK)(bK:BD E φ){w:World}(hr:HR φ h w)(t:TypeId){x:V}{v:Value}(hx:VR φ x v){lo hi:Option V}{lo' hi':Option Value}(h1:OR φ lo lo')(h2:OR φ hi hi'):
  aG E.P φ w (arC t v lo' hi' none) (zy E t x lo hi h):=by
 unfold zy;split
 ·split
  ·rename_i r cM
   obtain⟨u,g1,g2⟩:=Iy hE bK w t hx h1 h2 cM;exact aG.pure hr g1 g2
  ·split
   ·split
    ·rename_i y hy
     simp only[OR]at h1 h2;subst h1;obtain⟨vi,rfl,hvi⟩:=h2;obtain⟨g1,g2⟩:=bK.here.xt.os _ _ _ _ hy φ (Le.refl φ) vi hvi;simp only[VR]at hx;rw[hx.1];exact aG.pure hr (g2 w) (by simp only[VR];exact⟨agm,g1⟩)
    ·exact aG.none
   ·exact aG.none
 ·split
  ·rename_i r cM
   obtain⟨u,g1,g2⟩:=Ix hE bK w t hx h1 h2 cM;exact aG.pure hr g1 g2
  ·exact aG.none
 ·exact Iw hE hr t hx h1 h2
end
variable{d:TypeDesc}{vk vv vx:Value}
section
open MapKept
noncomputable section
def Zc:List Nat->List Nat->Bool
 |[],[]=>true
 |a::arA,b::bs=>arK a b&&Zc arA bs
 |_,_=>false
theorem yG:∀(x y:List Nat),Zc x y=true↔x=y
 |[],[]=>by simp[Zc]
 |[],_::_=>by simp[Zc]
 |_::_,[]=>by simp[Zc]
 |a::arA,b::bs=>by
  simp only[Zc,arD,yG arA bs,List.cons.injEq]
  constructor
  ·rintro⟨h1,h2⟩;exact⟨arJ h1,h2⟩
  ·rintro⟨rfl,rfl⟩;exact⟨asq _,rfl⟩
def eqI:Int->Int->Bool
 |.ofNat a,.ofNat b=>arK a b
 |.negSucc a,.negSucc b=>arK a b
 |_,_=>false
theorem Dt(x y:Int):eqI x y=true↔x=y:=by
 cases x<;>cases y<;>simp[eqI]<;>omega
def sk:TypeDesc->V->Bool
 |.int k,.i k' _=>decide (k'=k)
 |.string,.s _=>true
 |.bool,.b _=>true
 |_,_=>false
def PS:V->V->Option Bool
 |.i k a,.i k' b=>cond (decide (k=k')) (some (eqI a b)) none
 |.s a,.s b=>some (Zc a b)
 |.b a,.b b=>some (cond a b (!b))
 |_,_=>none
theorem yH{x:V}{v:Value}(hx:VR φ x v)(h:sk d x=true):IsKey d v:=by
 cases x<;>cases d<;>simp only[sk]at h<;>try(cases h;done)
 ·simp only[VR]at hx;subst hx;trivial
 ·simp only[VR]at hx;subst hx;simpa[IsKey]using h
 ·simp only[VR]at hx;obtain⟨rfl,_⟩:=hx;trivial
theorem bytes_inj{a b:List Nat}(ha:∀x∈a,x<256)(hb:∀x∈b,x<256)(h:bytes a=bytes b):a=b:=by
 have h':a.map asd=b.map asd:=by
  have:=congrArg ByteArray.data h;simpa[bytes]using this
 have back:∀l:List Nat,(∀x∈l,x<256)->(l.map asd).map UInt8.toNat=l:=fun l hl=>by
  rw[List.map_map]
  conv=>rhs;rw[<-List.map_id l]
  refine List.map_congr_left fun x hx=> ?_
  have:=hl x hx;simp[UInt8.toNat_ofNat,Nat.mod_eq_of_lt this]
 rw[<-back a ha,<-back b hb,h']
theorem Fw{x y:V}{v u:Value}(hx:VR φ x v)(hy:VR φ y u)(hk:sk d x=true){b:Bool}(h:PS x y=some b):arZ d v u=some b/\(b=true->v=u):=by
 cases x<;>cases y<;>simp only[PS]at h<;>try(cases h;done)
 ·simp only[VR]at hx hy;subst hx;subst hy
  cases d<;>simp only[sk]at hk<;>try(cases hk;done)
  rename_i a b';cases a<;>cases b'<;>simp_all[arZ,cond]
 ·simp only[VR]at hx hy;subst hx;subst hy
  cases d<;>simp only[sk]at hk<;>try(cases hk;done)
  rename_i k a k' b' kd
  by_cases e:k=k'
  ·subst e
   simp only[decide_true,cond,aop]at h;subst h;refine⟨?_,fun h=>by rw[(Dt a b').1 h]⟩;simp only[arZ,if_true,aop];cases hb:eqI a b' with
   |true=>simp[(Dt a b').1 hb]
   |false=>
    have:a≠b':=fun e=>by rw[(Dt a b').2 e]at hb;cases hb
    simp[this]
  ·rw[decide_eq_false e]at h;cases h
 ·simp only[VR]at hx hy;obtain⟨rfl,hl⟩:=hx;obtain⟨rfl,hm⟩:=hy
  cases d<;>simp only[sk]at hk<;>try(cases hk;done)
  rename_i a b';simp only[aop]at h;subst h;refine⟨?_,fun h=>by rw[(yG a b').1 h]⟩;simp only[arZ,aop];cases hb:Zc a b' with
  |true=>rw[(yG a b').1 hb];exact(bytes_beq _ _).2 rfl
  |false=>
   have:bytes a≠bytes b':=fun e=>by rw[(yG a b').2 (bytes_inj hl hm e)]at hb;cases hb
   cases hc:(bytes a==bytes b')with
   |false=>rfl
   |true=>exact absurd ((bytes_beq _ _).1 hc) this
def xK(k:V):List (V×V×Nat)->Nat->Option (Option (Nat×V))
 |[],_=>some none
 |(k',v,_)::es,i=>
  match PS k k' with
  |some true=>some (some (i,v))
  |some false=>xK k es (i+1)
  |none=>none
theorem kO{φ:Ren}{d:TypeDesc}{k:V}{kv:Value}(hk:VR φ k kv)(hd:sk d k=true):∀(es:List (V×V×Nat)) (l:List MapEntry) (i:Nat),fB φ es l->∀r,xK k es i=some r->
  match r with
  |none=>arP d kv l i=some none
  |some (j,v)=>∃e,arP d kv l i=some (some (j,e.val))/\VR φ v e.val/\i<=j/\l[j-i]? =some e/\e.key=kv
 |[],l,i,hl,r,h=>by
  simp only[fB]at hl;subst hl;simp only[xK,aop]at h;subst h;rfl
 |(k',v,n)::es,l,i,hl,r,h=>by
  simp only[fB]at hl;obtain⟨e,l',rfl,h1,h2,h3,h4⟩:=hl;simp only[xK]at h;split at h
  ·rename_i he
   simp only[aop]at h;subst h;obtain⟨h5,h6⟩:=Fw hk h1 hd he;exact⟨e,by simp[arP,h5],h2,arR _,by simp,(h6 rfl).symm⟩
  ·rename_i he
   obtain⟨h5,_⟩:=Fw hk h1 hd he;have:=kO hk hd es l' (i+1) h4 r h;cases r with
   |none=>simpa[arP,h5]using this
   |some jv=>
    obtain⟨j,v'⟩:=jv;obtain⟨e',g1,g2,g3,g4,g5⟩:=this;refine⟨e',by simpa[arP,h5]using g1,g2,by omega,?_,g5⟩;have:j-i=(j-(i+1))+1:=by omega
    rw[this];simpa using g4
  ·cases h
def tM(E:Env)(t:TypeId)(r:Option V)(h:H):Option (V×H):=match r with
 |none=>some (.m (some h.n),h.new (.mp [] 0))
 |some (.i _ _)=>
  match E.tt t with
  |some (_,.map _ _)=>some (.m (some h.n),h.new (.mp [] 0))
  |_=>none
 |some (.y _ _)=>
  match E.tt t with
  |some (_,.map _ _)=>some (.m (some h.n),h.new (.mp [] 0))
  |_=>none
 |_=>none
theorem Ns{P:Program}{w:World}(hr:HR φ h w):∃af,(newObj (.map #[] 0)).run P w=.ok w.heap.size {w with heap:=w.heap.push (.map #[] 0)}/\Ext φ w af {w with heap:=w.heap.push (.map #[] 0)}/\af h.n=some w.heap.size/\HR af (h.new (.mp [] 0)) {w with heap:=w.heap.push (.map #[] 0)}:=by
 obtain⟨h1,h2⟩:=hr.alloc 0 (.mp [] 0) (.map #[] 0) ⟨#[],rfl,by simp[fB]⟩;exact⟨_,rfl,h2,by simp[up],h1⟩
theorem Fx(hE:E.OK){w:World}(hr:HR φ h w)(t:TypeId){r:Option V}{r':Option Value}(ho:OR φ r r'):
  aG E.P φ w (ase t r') (tM E t r h):=by
 obtain⟨af,n1,n2,n3,n4⟩:=Ns (P:=E.P) hr;unfold tM;split
 ·have ho:r'=none:=ho
  subst ho;intro x h' e;simp only[aop,arE]at e;obtain⟨rfl,rfl⟩:=e;refine⟨af,.map (some w.heap.size),_,?_,n2,by simp only[VR];exact⟨_,n3,rfl⟩,n4⟩;simp[ase,n1]
 ·rename_i k n
  obtain⟨v,rfl,hv⟩:=ho;simp only[VR]at hv;subst hv;split
  ·rename_i i kt et ht
   obtain⟨_,hu⟩:=hE.ty _ _ _ ht;intro x h' e;simp only[aop,arE]at e;obtain⟨rfl,rfl⟩:=e;refine⟨af,.map (some w.heap.size),_,?_,n2,by simp only[VR];exact⟨_,n3,rfl⟩,n4⟩;simp[ase,run_underlying hu,asInt,asIntOf,n1]
  ·exact aG.none
 ·rename_i k n
  obtain⟨v,rfl,hv⟩:=ho;simp only[VR]at hv;subst hv;split
  ·rename_i i kt et ht
   obtain⟨_,hu⟩:=hE.ty _ _ _ ht;intro x h' e;simp only[aop,arE]at e;obtain⟨rfl,rfl⟩:=e;refine⟨af,.map (some w.heap.size),_,?_,n2,by simp only[VR];exact⟨_,n3,rfl⟩,n4⟩;simp[ase,run_underlying hu,asInt,asIntOf,n1]
  ·exact aG.none
 ·exact aG.none
def pA(x:V)(h:H):Option (List (V×V×Nat)):=match x with
 |.m none=>some []
 |.m (some b)=>
  match h.get b with
  |.mp es _=>some es
  |_=>none
 |_=>none
def mH(E:Env)(t:TypeId)(x k:V)(ok:Bool)(h:H):Option (V×H):=match E.tt t with
 |some (_,.map kt et)=>
  match E.tt kt,pA x h with
  |some (_,d),some es=>
   cond (sk d k)
    (match xK k es 0 with
    |some (some (_,v))=>some (cond ok (.t [v,.b true]) v,h)
    |some none=>
     match E.tt et with
     |some (i,_)=>
      match i.zero with
      |some z=>some (cond ok (.t [cv z,.b false]) (cv z),h)
      |none=>none
     |none=>none
    |none=>none) none
  |_,_=>none
 |_=>none
theorem xL(hE:E.OK){w:World}(hr:HR φ h w)(t:TypeId){x k:V}(hx:VR φ x vx)(hk:VR φ k vk)(ok:Bool):
  aG E.P φ w (arG t vx vk ok) (mH E t x k ok h):=by
 unfold mH;split
 ·rename_i it kt et ht
  obtain⟨_,hu⟩:=hE.ty _ _ _ ht;split
  ·rename_i ik d es BL jE
   obtain⟨_,hd⟩:=hE.ty _ _ _ BL;cases Du:sk d k with
   |false=>exact aG.none
   |true=>
    simp only[cond_true];have vE:=yH hk Du;have key:∀(l:List MapEntry),fB φ es l->∀(K:Option (Nat×Value)->Sem Value),
      (∀r,arP d vk l 0=some r->((arG t vx vk ok).run E.P w=(K r).run E.P w))->
      (∀j v,K (some (j,v))=pure (if ok then .tuple #[v,.bool true]else v))->
      (∀z,(zeroValue et).run E.P w=.ok z w->(K none).run E.P w=.ok (if ok then .tuple #[z,.bool false]else z) w)->
      aG E.P φ w (arG t vx vk ok) (match xK k es 0 with
       |some (some (_,v))=>some (cond ok (.t [v,.b true]) v,h)
       |some none=>
        match E.tt et with
        |some (i,_)=>
         match i.zero with
         |some z=>some (cond ok (.t [cv z,.b false]) (cv z),h)
         |none=>none
        |none=>none
       |none=>none):=by
     intro l hl K hK h1 h2;split
     ·rename_i j v hf
      obtain⟨e,g1,g2,_⟩:=kO hk Du es l 0 hl _ hf;refine aG.pure hr (v:=if ok then .tuple #[e.val,.bool true]else e.val) ?_ ?_
      ·rw[hK _ g1,h1];rfl
      ·cases ok with
       |true=>simp only[cond,if_true,VR];exact⟨_,rfl,J.cons g2 (J.cons (by simp[VR]) J.nil)⟩
       |false=>simpa[cond]using g2
     ·rename_i hf
      have g1:=kO hk Du es l 0 hl _ hf;simp only at g1;split
      ·rename_i i de het
       obtain⟨hi,_⟩:=hE.ty _ _ _ het;split
       ·rename_i z hz
        refine aG.pure hr (v:=if ok then .tuple #[z,.bool false]else z) ?_ ?_
        ·rw[hK _ g1,h2 z (jj hi hz w)]
        ·cases ok with
         |true=>simp only[cond,if_true,VR];exact⟨_,rfl,J.cons (zc φ z) (J.cons (by simp[VR]) J.nil)⟩
         |false=>simpa[cond]using zc φ z
       ·exact aG.none
      ·exact aG.none
     ·exact aG.none
    unfold pA at jE;split at jE
    ·simp only[aop]at jE
     subst jE;simp only[VR]at hx;subst hx;refine key [] (by simp[fB]) (fun r=>do
      let(v,ok')<-match r with
       |some (_,v)=>pure (v,true)
       |none=>pure (<-zeroValue et,false)
      pure (if ok then .tuple #[v,.bool ok']else v)) (fun r hf=> ?_) (fun j v=>rfl) (fun z hz=>by simp[hz])
     simp[arG,run_underlying hu,run_checkKey hd vE,run_findKey hd hf];rfl
    ·rename_i b
     simp only[VR]at hx;obtain⟨r,hb,rfl⟩:=hx;split at jE
     ·rename_i oU clock hg
      simp only[aop]at jE;subst jE;obtain⟨o,h1,h2⟩:=hr.ew b r hb (by rw[hg];trivial);rw[hg]at h2;obtain⟨l,rfl,h3⟩:=h2;refine key l.toList h3 (fun r=>do
       let(v,ok')<-match r with
        |some (_,v)=>pure (v,true)
        |none=>pure (<-zeroValue et,false)
       pure (if ok then .tuple #[v,.bool ok']else v)) (fun r hf=> ?_) (fun j v=>rfl) (fun z hz=>by simp[hz])
      simp[arG,run_underlying hu,AAA h1,run_checkKey hd vE,run_findKey hd hf];rfl
     ·cases jE
    ·cases jE
  ·exact aG.none
 ·exact aG.none
theorem fB.push{φ:Ren}:∀{x:List (V×V×Nat)} {l:List MapEntry},fB φ x l->∀{k v:V} {e:MapEntry},VR φ k e.key->VR φ v e.val->fB φ (x++[(k,v,e.born)]) (l++[e])
 |[],l,h,k,v,e,hk,hv=>by
  simp only[fB]at h;subst h;simp only[List.nil_append,fB];exact⟨e,[],rfl,hk,hv,rfl,rfl⟩
 |(k',v',n)::xs,l,h,k,v,e,hk,hv=>by
  simp only[fB]at h;obtain⟨e',l',rfl,h1,h2,h3,h4⟩:=h;simp only[List.cons_append,fB];exact⟨e',_,rfl,h1,h2,h3,fB.push h4 hk hv⟩
def Iz(k v:V):List (V×V×Nat)->Nat->List (V×V×Nat)
 |[],_=>[]
 |(_,_,n)::es,0=>(k,v,n)::es
 |e::es,i+1=>e::Iz k v es i
theorem La{φ:Ren}{k v:V}{kv vv:Value}(hk:VR φ k kv)(hv:VR φ v vv):∀{x:List (V×V×Nat)} {l:List MapEntry} (i:Nat),fB φ x l->fB φ (Iz k v x i) (l.modify i fun e=>{e with key:=kv,val:=vv})
 |[],l,i,h=>by
  simp only[fB]at h;subst h;cases i<;>simp[Iz,fB]
 |(k',v',n)::xs,l,0,h=>by
  simp only[fB]at h;obtain⟨e',l',rfl,h1,h2,h3,h4⟩:=h;simp only[Iz,List.modify_zero_cons,fB];exact⟨_,_,rfl,hk,hv,h3,h4⟩
 |(k',v',n)::xs,l,i+1,h=>by
  simp only[fB]at h;obtain⟨e',l',rfl,h1,h2,h3,h4⟩:=h;simp only[Iz,List.modify_succ_cons,fB];exact⟨e',_,rfl,h1,h2,h3,La hk hv i h4⟩
def IA:List (V×V×Nat)->Nat->List (V×V×Nat)
 |[],_=>[]
 |_::es,0=>es
 |e::es,i+1=>e::IA es i
theorem Lb{φ:Ren}:∀{x:List (V×V×Nat)} {l:List MapEntry} (i:Nat),fB φ x l->fB φ (IA x i) (l.eraseIdx i)
 |[],l,i,h=>by
  simp only[fB]at h;subst h;cases i<;>simp[IA,fB]
 |(k',v',n)::xs,l,0,h=>by
  simp only[fB]at h;obtain⟨e',l',rfl,h1,h2,h3,h4⟩:=h;simpa[IA]using h4
 |(k',v',n)::xs,l,i+1,h=>by
  simp only[fB]at h;obtain⟨e',l',rfl,h1,h2,h3,h4⟩:=h;simp only[IA,List.eraseIdx_cons_succ,fB];exact⟨e',_,rfl,h1,h2,h3,Lb i h4⟩
theorem HR.zA{P:Program}{φ:Ren}{h:H}{w:World}(hr:HR φ h w){b r:Nat}(hb:φ b=some r){es:List (V×V×Nat)}{c:Nat}(hl:h.get b=.mp es c){l0:Array MapEntry}(h0:w.heap[r]? =some (.map l0 c))
  {oU:List (V×V×Nat)}{c':Nat}{l':Array MapEntry}(he:fB φ oU l'.toList):
  (setObj r (.map l' c')).run P w=.ok () {w with heap:=w.heap.setIfInBounds r (.map l' c')}/\
  HR φ (h.set b (.mp oU c')) {w with heap:=w.heap.setIfInBounds r (.map l' c')}/\Ext φ w φ {w with heap:=w.heap.setIfInBounds r (.map l' c')}:=by
 have bf:=(hr.lM b r hb).2;have:=hr.turn (b:=b) (r:=r) (w':={w with heap:=w.heap.setIfInBounds r (.map l' c')}) (.mp oU c') (.map l' c') hb (by rw[hl];trivial) ⟨l',rfl,he⟩ (by simp) (by simp[bf]) (fun s hs=>by simp[arU (Ne.symm hs)]) rfl rfl rfl;exact⟨arM _ h0,this.1,this.2⟩
def lQ(E:Env)(t:TypeId)(x k v:V)(h:H):Option (V×H):=match E.tt t,x with
 |some (_,.map kt _),.m (some b)=>
  match E.tt kt,h.get b with
  |some (_,d),.mp es c=>
   cond (sk d k)
    (match xK k es 0 with
    |some (some (j,_))=>some (.top,h.set b (.mp (Iz k v es j) c))
    |some none=>some (.top,h.set b (.mp (es++[(k,v,c)]) (c+1)))
    |none=>none) none
  |_,_=>none
 |_,_=>none
theorem pB(hE:E.OK){w:World}(hr:HR φ h w)(t:TypeId){x k v:V}(hx:VR φ x vx)(hk:VR φ k vk)(hv:VR φ v vv):
  Yields E.P φ w (do arI t vx vk vv;pure .skip) (lQ E t x k v h):=by
 unfold lQ;split
 ·rename_i it kt et b ht
  obtain⟨_,hu⟩:=hE.ty _ _ _ ht;simp only[VR]at hx;obtain⟨r,hb,rfl⟩:=hx;split
  ·rename_i ik d es c BL hg
   obtain⟨_,hd⟩:=hE.ty _ _ _ BL;obtain⟨o,h1,h2⟩:=hr.ew b r hb (by rw[hg];trivial);rw[hg]at h2;obtain⟨l,rfl,h3⟩:=h2;cases Du:sk d k with
   |false=>exact Yields.none
   |true=>
    simp only[cond_true];have vE:=yH hk Du;split
    ·rename_i j u hf
     obtain⟨e,g1,_,_,g4,g5⟩:=kO hk Du es l.toList 0 h3 _ hf;intro y h' e';simp only[aop,arE]at e';obtain⟨rfl,rfl⟩:=e';have hj:l[j]? =some e:=by simpa using g4
     have he:fB φ (Iz k v es j) (l.modify j fun e=>{e with key:=vk,val:=vv}).toList:=by
      rw[Array.toList_modify];exact La hk hv j h3
     obtain⟨m1,m2,m3⟩:=hr.zA (P:=E.P) hb hg h1 (c':=c) he;refine⟨φ,undef,_,.inr ⟨?_,rfl⟩,m3,by simp[VR],m2⟩;simp[arI,run_underlying hu,AAA h1,run_checkKey hd vE,run_findKey hd g1,hj,g5,run_keyThatStays vE,m1]
    ·rename_i hf
     have g1:=kO hk Du es l.toList 0 h3 _ hf;simp only at g1;intro y h' e';simp only[aop,arE]at e';obtain⟨rfl,rfl⟩:=e';have he:fB φ (es++[(k,v,c)]) (l.push {key:=vk,val:=vv,born:=c}).toList:=by
      rw[ash];exact h3.push (e:={key:=vk,val:=vv,born:=c}) hk hv
     obtain⟨m1,m2,m3⟩:=hr.zA (P:=E.P) hb hg h1 (c':=c+1) he;refine⟨φ,undef,_,.inr ⟨?_,rfl⟩,m3,by simp[VR],m2⟩;simp[arI,run_underlying hu,AAA h1,run_checkKey hd vE,run_findKey hd g1,m1]
    ·exact Yields.none
  ·exact Yields.none
 ·exact Yields.none
def tN(E:Env)(t:TypeId)(x k:V)(h:H):Option (V×H):=match E.tt t,x with
 |some (_,.map kt _),.m (some b)=>
  match E.tt kt,h.get b with
  |some (_,d),.mp es c=>
   cond (sk d k)
    (match xK k es 0 with
    |some (some (j,_))=>some (.t [],h.set b (.mp (IA es j) c))
    |some none=>some (.t [],h)
    |none=>none) none
  |_,_=>none
 |_,_=>none
theorem xM(hE:E.OK){w:World}(hr:HR φ h w)(t t2 ty:TypeId){x k:V}(hx:VR φ x vx)(hk:VR φ k vk):
  aG E.P φ w (arO #[t,t2] ty #[vx,vk]) (tN E t x k h):=by
 unfold tN;split
 ·rename_i it kt et b ht
  obtain⟨_,hu⟩:=hE.ty _ _ _ ht;simp only[VR]at hx;obtain⟨r,hb,rfl⟩:=hx;split
  ·rename_i ik d es c BL hg
   obtain⟨_,hd⟩:=hE.ty _ _ _ BL;obtain⟨o,h1,h2⟩:=hr.ew b r hb (by rw[hg];trivial);rw[hg]at h2;obtain⟨l,rfl,h3⟩:=h2;cases Du:sk d k with
   |false=>exact aG.none
   |true=>
    simp only[cond_true];have vE:=yH hk Du;split
    ·rename_i j u hf
     obtain⟨e,g1,_,_,g4,g5⟩:=kO hk Du es l.toList 0 h3 _ hf;intro y h' e';simp only[aop,arE]at e';obtain⟨rfl,rfl⟩:=e';have hj:l[j]? =some e:=by simpa using g4
     have bf:j<l.size:=by
      rcases Nat.lt_or_ge j l.size with h|h
      ·exact h
      ·rw[Array.getElem?_eq_none h]at hj;cases hj
     have he:fB φ (IA es j) (l.eraseIdxIfInBounds j).toList:=by
      unfold asm;rw[dif_pos bf,aso];exact Lb j h3
     obtain⟨m1,m2,m3⟩:=hr.zA (P:=E.P) hb hg h1 (c':=c) he;refine⟨φ,.tuple #[],_,?_,m3,by simp only[VR];exact⟨#[],rfl,J.nil⟩,m2⟩;simp[arO,run_underlying hu,AAA h1,run_checkKey hd vE,run_findKey hd g1,m1]
    ·rename_i hf
     have g1:=kO hk Du es l.toList 0 h3 _ hf;simp only at g1;intro y h' e';simp only[aop,arE]at e';obtain⟨rfl,rfl⟩:=e';obtain⟨m1,m2,m3⟩:=hr.zA (P:=E.P) hb hg h1 (c':=c) h3;refine⟨φ,.tuple #[],_,?_,m3,by simp only[VR];exact⟨#[],rfl,J.nil⟩,m2.congr rfl fun d'=> ?_⟩
     ·simp[arO,run_underlying hu,AAA h1,run_checkKey hd vE,run_findKey hd g1,m1]
     ·rw[H.bg]
      by_cases hdb:d'=b
      ·rw[if_pos hdb,hdb,hg]
      ·rw[if_neg hdb]
    ·exact aG.none
  ·exact aG.none
 ·exact aG.none
def PT:TypeDesc->Bool
 |.int _=>true
 |.string=>true
 |.bool=>true
 |_=>false
def Lc(E:Env)(cs:List V):List Field->Bool
 |[]=>true
 |f::fs=>
  (match E.tt f.type with
  |some (_,d)=>PT d
  |none=>false)&&(xH E f.type cs f.offset).isSome&&Lc E cs fs
def Fy(E:Env)(kt:TypeId)(k:V):Bool:=match E.tt kt,k with
 |some (_,.struct fs),.a cs=>E.hl kt&&Lc E cs fs.toList
 |_,_=>false
theorem zB{E:Env}(hE:E.OK){φ:Ren}(w:World)(em:Bool)(n:Nat){cs:List V}{vs:Array Value}(hc:J φ cs vs.toList):∀(fs:List Field),Lc E cs fs=true->
  (forIn (m:=Sem) fs asl fun f _=>
   if f.name≠ "_" then(do let a<-part f.type vs f.offset;arX em (n+1) f.type a;pure (ForInStep.yield asl))else pure (ForInStep.yield asl)).run E.P w=.ok asl w
 |[],_=>by simp
 |f::fs,h=>by
  simp only[Lc,arD]at h;obtain⟨⟨h1,h2⟩,h3⟩:=h;have ih:=zB hE w em n hc fs h3;cases ht:E.tt f.type with
  |none=>rw[ht]at h1;cases h1
  |some td=>
   obtain⟨i,d⟩:=td;rw[ht]at h1;obtain⟨_,hu⟩:=hE.ty _ _ _ ht;cases hp:xH E f.type cs f.offset with
   |none=>rw[hp]at h2;cases h2
   |some x=>
    obtain⟨v,p1,_⟩:=po hE w f.type hc f.offset hp;have hck:(arX em (n+1) f.type v).run E.P w=.ok () w:=by
     unfold arX;simp only[arL,run_underlying hu,Result.andThen];cases d<;>simp only[PT]at h1<;>first|(cases h1;done)|rfl
    simp only[List.forIn_cons,arL]
    by_cases hn:f.name= "_"
    ·simp only[hn,ne_eq,not_true_eq_false,if_false,asi,arY]
     exact ih
    ·simp only[hn,ne_eq,not_false_eq_true,if_true,arL,p1,arY,hck,asi]
     exact ih
theorem zC(hE:E.OK)(w:World){kt:TypeId}{k:V}(hk:VR φ k vk)(h:Fy E kt k=true)(em:Bool):(arX em 10000 kt vk).run E.P w=.ok () w:=by
 unfold Fy at h;split at h
 ·rename_i i fs cs ht
  obtain⟨_,hu⟩:=hE.ty _ _ _ ht;simp only[arD]at h;simp only[VR]at hk;obtain⟨vs,rfl,hc⟩:=hk;have:=zB hE w em 9998 hc fs.toList h.2;unfold arX;simp only[arL,run_underlying hu,Result.andThen];rw[<-Array.forIn_toList]
  erw [this]
  rfl
 ·cases h
def Cm(E:Env)(kt:TypeId)(k:V):List (V×V×Nat)->Nat->Option (Option (Nat×V))
 |[],_=>some none
 |(k',v,_)::es,i=>
  match aEq E 5 kt k k' with
  |some true=>some (some (i,v))
  |some false=>Cm E kt k es (i+1)
  |none=>none
theorem tO{E:Env}(hE:E.OK){φ:Ren}(w:World){kt:TypeId}{k:V}{kv:Value}(hk:VR φ k kv):∀(es:List (V×V×Nat)) (l:List MapEntry) (i:Nat),fB φ es l->∀r,Cm E kt k es i=some r->
  match r with
  |none=>(arH kt kv l i).run E.P w=.ok none w
  |some (j,v)=>∃u,(arH kt kv l i).run E.P w=.ok (some (j,u)) w/\VR φ v u
 |[],l,i,hl,r,h=>by
  simp only[fB]at hl;subst hl;simp only[Cm,aop]at h;subst h;simp[arH]
 |(k',v,n)::es,l,i,hl,r,h=>by
  simp only[fB]at hl;obtain⟨e,l',rfl,h1,h2,h3,h4⟩:=hl;simp only[Cm]at h;split at h
  ·rename_i he
   simp only[aop]at h;subst h;have:=Dj hE w 5 kt k k' true he 9995 kv e.key hk h1;exact⟨e.val,by simp[arH,Op.equal,Op.maxDepth,this],h2⟩
  ·rename_i he
   have h5:=Dj hE w 5 kt k k' false he 9995 kv e.key hk h1;have:=tO hE w hk es l' (i+1) h4 r h;cases r with
   |none=>simpa[arH,Op.equal,Op.maxDepth,h5]using this
   |some jv=>
    obtain⟨j,v'⟩:=jv;obtain⟨u,g1,g2⟩:=this;exact⟨u,by simpa[arH,Op.equal,Op.maxDepth,h5]using g1,g2⟩
  ·cases h
theorem pC{P:Program}{w:World}{kt:TypeId}{fs:Array Field}{k:Value}{l:List MapEntry}(hu:P.underlying kt=some (.struct fs)){r:Option (Nat×Value)}(h:(arH kt k l 0).run P w=.ok r w):(asf kt k l).run P w=.ok r w:=by
 cases l with
 |nil=>
  simp[arH]at h;subst h;simp[asf,run_underlying hu,arP]
 |cons e es=>simp[asf,run_underlying hu,arP,arZ,h]
def Dv(E:Env)(t:TypeId)(x k:V)(ok:Bool)(h:H):Option (V×H):=match E.tt t,pA x h with
 |some (_,.map kt et),some es=>
  cond (Fy E kt k)
   (match Cm E kt k es 0 with
   |some (some (_,v))=>some (cond ok (.t [v,.b true]) v,h)
   |some none=>
    match E.tt et with
    |some (i,_)=>
     match i.zero with
     |some z=>some (cond ok (.t [cv z,.b false]) (cv z),h)
     |none=>none
    |none=>none
   |none=>none) none
 |_,_=>none
theorem Fz{P:Program}{w:World}(hr:HR φ h w){x:V}(hx:VR φ x vx){es:List (V×V×Nat)}(he:pA x h=some es):
  ∃l:Array MapEntry,fB φ es l.toList/\(vx=.map none/\l=#[]\/∃r c,vx=.map (some r)/\w.heap[r]? =some (.map l c)):=by
 unfold pA at he;split at he
 ·simp only[aop]at he;subst he
  simp only[VR]at hx;subst hx;exact⟨#[],by simp[fB],.inl ⟨rfl,rfl⟩⟩
 ·rename_i b
  simp only[VR]at hx;obtain⟨r,hb,rfl⟩:=hx;split at he
  ·rename_i oU clock hg
   simp only[aop]at he;subst he;obtain⟨o,h1,h2⟩:=hr.ew b r hb (by rw[hg];trivial);rw[hg]at h2;obtain⟨l,rfl,h3⟩:=h2;exact⟨l,h3,.inr ⟨r,clock,rfl,h1⟩⟩
  ·cases he
 ·cases he
theorem Nt(hE:E.OK){w:World}(hr:HR φ h w)(t:TypeId){x k:V}(hx:VR φ x vx)(hk:VR φ k vk)(ok:Bool):
  aG E.P φ w (arG t vx vk ok) (Dv E t x k ok h):=by
 unfold Dv;split
 ·rename_i it kt et es ht jE
  obtain⟨_,hu⟩:=hE.ty _ _ _ ht;cases BL:Fy E kt k with
  |false=>exact aG.none
  |true=>
   simp only[cond];obtain⟨l,hl,hm⟩:=Fz (P:=E.P) hr hx jE;have hck:=fun em=>zC hE w hk BL em
   have bB:∃fs,E.P.underlying kt=some (.struct fs):=by
    unfold Fy at BL;split at BL
    ·rename_i i fs cs ht'
     exact⟨fs,(hE.ty _ _ _ ht').2⟩
    ·cases BL
   obtain⟨fs,jM⟩:=bB;have key:∀r,(arH kt vk l.toList 0).run E.P w=.ok r w->(arG t vx vk ok).run E.P w=((do
     let(v,ok')<-match r with
      |some (_,v)=>pure (v,true)
      |none=>pure (<-zeroValue et,false)
     pure (if ok then .tuple #[v,.bool ok']else v):Sem Value)).run E.P w:=fun r hf=>by
    have hfk:=pC jM hf;rcases hm with⟨rfl,rfl⟩|⟨rr,c,rfl,hh⟩
    ·have hfk:(asf kt vk (#[]:Array MapEntry).toList).run E.P w=.ok r w:=hfk
     simp[arG,run_underlying hu,hck,hfk];rfl
    ·simp[arG,run_underlying hu,AAA hh,hck,hfk]
     rfl
   split
   ·rename_i j v hf
    obtain⟨u,g1,g2⟩:=tO hE w hk es l.toList 0 hl _ hf;refine aG.pure hr (v:=if ok then .tuple #[u,.bool true]else u) ?_ ?_
    ·rw[key _ g1];rfl
    ·cases ok with
     |true=>simp only[cond,if_true,VR];exact⟨_,rfl,J.cons g2 (J.cons (by simp[VR]) J.nil)⟩
     |false=>simpa[cond]using g2
   ·rename_i hf
    have g1:=tO hE w hk es l.toList 0 hl _ hf;simp only at g1;split
    ·rename_i i de het
     obtain⟨hi,_⟩:=hE.ty _ _ _ het;split
     ·rename_i z hz
      refine aG.pure hr (v:=if ok then .tuple #[z,.bool false]else z) ?_ ?_
      ·rw[key _ g1];simp[jj hi hz w]
      ·cases ok with
       |true=>simp only[cond,if_true,VR];exact⟨_,rfl,J.cons (zc φ z) (J.cons (by simp[VR]) J.nil)⟩
       |false=>simpa[cond]using zc φ z
     ·exact aG.none
    ·exact aG.none
   ·exact aG.none
 ·exact aG.none
def PU(E:Env)(t:TypeId)(x k v:V)(h:H):Option (V×H):=match E.tt t,x with
 |some (_,.map kt _),.m (some b)=>
  match h.get b with
  |.mp es c=>
   cond (Fy E kt k)
    (match Cm E kt k es 0 with
    |some none=>some (.top,h.set b (.mp (es++[(k,v,c)]) (c+1)))
    |_=>none) none
  |_=>none
 |_,_=>none
theorem PV(hE:E.OK){w:World}(hr:HR φ h w)(t:TypeId){x k v:V}(hx:VR φ x vx)(hk:VR φ k vk)(hv:VR φ v vv):
  Yields E.P φ w (do arI t vx vk vv;pure .skip) (PU E t x k v h):=by
 unfold PU;split
 ·rename_i it kt et b ht
  obtain⟨_,hu⟩:=hE.ty _ _ _ ht;simp only[VR]at hx;obtain⟨r,hb,rfl⟩:=hx;split
  ·rename_i es c hg
   obtain⟨o,h1,h2⟩:=hr.ew b r hb (by rw[hg];trivial);rw[hg]at h2;obtain⟨l,rfl,h3⟩:=h2;cases BL:Fy E kt k with
   |false=>exact Yields.none
   |true=>
    simp only[cond];have hck:=fun em=>zC hE w hk BL em
    have bB:∃fs,E.P.underlying kt=some (.struct fs):=by
     unfold Fy at BL;split at BL
     ·rename_i i fs cs ht'
      exact⟨fs,(hE.ty _ _ _ ht').2⟩
     ·cases BL
    obtain⟨fs,jM⟩:=bB;split
    ·rename_i hf
     have g1:=tO hE w hk es l.toList 0 h3 _ hf;simp only at g1;have hfk:=pC jM g1;intro y h' e';simp only[aop,arE]at e';obtain⟨rfl,rfl⟩:=e';have he:fB φ (es++[(k,v,c)]) (l.push {key:=vk,val:=vv,born:=c}).toList:=by
      rw[ash];exact h3.push (e:={key:=vk,val:=vv,born:=c}) hk hv
     obtain⟨m1,m2,m3⟩:=hr.zA (P:=E.P) hb hg h1 (c':=c+1) he;refine⟨φ,undef,_,.inr ⟨?_,rfl⟩,m3,by simp[VR],m2⟩;simp[arI,run_underlying hu,AAA h1,hck,hfk,m1]
    ·exact Yields.none
  ·exact Yields.none
 ·exact Yields.none
def nO(E:Env)(t:TypeId)(l c:V)(h:H):Option (V×H):=match E.tt t,l,c with
 |some (_,.slice e),.i _ (.ofNat a),.i _ (.ofNat b)=>
  match E.tt e with
  |some (i,_)=>
   match i.zero with
   |some z=>cond (arT a b&&arT (i.bytes*b) 281474976710656&&arT b 9223372036854775807) (some (.sl (some (h.n,0)) a (.kn b),h.new (.cells (Ch (z.cells.toList.map Il) (b*i.size)) e false))) none
   |none=>none
  |none=>none
 |_,_,_=>none
theorem BM(hE:E.OK){w:World}(hr:HR φ h w)(t:TypeId){l c:V}{vl vc:Value}(hl:VR φ l vl)(hc:VR φ c vc):
  aG E.P φ w (Instr.makeSlice t vl vc) (nO E t l c h):=by
 unfold nO;split
 ·rename_i it e k1 a k2 b ht
  obtain⟨_,hu⟩:=hE.ty _ _ _ ht;simp only[VR]at hl hc;subst hl;subst hc;split
  ·rename_i i de he
   obtain⟨hi,_⟩:=hE.ty _ _ _ he;split
   ·rename_i z hz
    intro y h' e';obtain⟨e1,e2⟩:(arT a b&&arT (i.bytes*b) 281474976710656&&arT b 9223372036854775807)=true/\some (V.sl (some (h.n,0)) a (.kn b),h.new (.cells (Ch (z.cells.toList.map Il) (b*i.size)) e false))=some (y,h'):=by
     cases VU:(arT a b&&arT (i.bytes*b) 281474976710656&&arT b 9223372036854775807)with
     |true=>rw[VU]at e';exact⟨rfl,e'⟩
     |false=>rw[VU]at e';cases e'
    simp only[arD]at e1;simp only[aop,arE]at e2;obtain⟨rfl,rfl⟩:=e2;have h1:a<=b:=arQ e1.1.1;have h2:i.bytes*b<=281474976710656:=arQ e1.1.2;have h3:b<=9223372036854775807:=arQ e1.2;have ba:=run_make (P:=E.P) w t e i z hu hi hz k1 k2 (a:Int) (b:Int) (by omega) (by omega) (by rw[<-Int.natCast_mul];omega) (by omega);obtain⟨g1,g2,g3⟩:=zd hr e (cs:=Ch (z.cells.toList.map Il) (b*i.size)) (vs:=madeCells z.cells (b*i.size)) (Fl z.cells (b*i.size));exact⟨_,_,_,ba,g2,by simp only[VR];exact⟨_,g3,h1,by simp⟩,g1⟩
   ·exact aG.none
  ·exact aG.none
 ·exact aG.none
def FA(E:Env):TypeDesc->V->Bool
 |.int k,.y k' _=>decide (k'=k)
 |.string,.q x=>E.qs x
 |d,v=>sk d v
theorem Dw(bK:BD E φ){x:V}{v:Value}(hx:VR φ x v)(h:FA E d x=true):IsKey d v:=by
 unfold FA at h;split at h
 ·simp only[VR]at hx;subst hx;simpa[IsKey]using h
 ·rename_i x
  simp only[VR]at hx;obtain⟨s,hs⟩:=bK.here.qs _ h;rw[hx.1,hs];trivial
 ·exact yH hx h
def kP:TypeDesc->TypeDesc->Bool
 |.int k,.int k'=>decide (k=k')
 |.string,.string=>true
 |.bool,.bool=>true
 |_,_=>false
theorem ko{d':TypeDesc}(h:kP d d'=true):d=d':=by
 unfold kP at h;split at h
 ·rw[of_decide_eq_true h]
 ·rfl
 ·rfl
 ·cases h
def Dx(E:Env)(t:TypeId)(x:Nat)(d':TypeDesc)(kD:List (V×Option V))(k:V)(ok:Bool):Option V:=match E.tt t with
 |some (_,.map kt et)=>
  match E.tt kt,kD with
  |some (_,d),[]=>
   cond (FA E d k&&kP d d')
    (match E.mg x k with
    |some (some v)=>some (cond ok (.t [v,.b true]) v)
    |some none=>
     match E.tt et with
     |some (i,_)=>
      match i.zero with
      |some z=>some (cond ok (.t [cv z,.b false]) (cv z))
      |none=>none
     |none=>none
    |none=>none) none
  |_,_=>none
 |_=>none
theorem Cn{E:Env}(hE:E.OK){φ:Ren}(bK:BD E φ){h:H}{w:World}(hr:HR φ h w)(t:TypeId){b r:Nat}(hb:φ b=some r){x:Nat}{d':TypeDesc}{kD:List (V×Option V)}(hg:∃es c,w.heap[r]? =some (.map es c)/\MU φ d' (φ.g x) kD (es,c)/\∀e∈es.toList,IsKey d' e.key)
  {k:V}{vk:Value}(hk:VR φ k vk)(ok:Bool){y:V}(hy:Dx E t x d' kD k ok=some y):∃u,(arG t (.map (some r)) vk ok).run E.P w=.ok u w/\VR φ y u:=by
 unfold Dx at hy;split at hy
 ·rename_i it kt et ht
  obtain⟨_,hu⟩:=hE.ty _ _ _ ht;split at hy
  ·rename_i ik d BL
   obtain⟨_,hd⟩:=hE.ty _ _ _ BL;cases hc:FA E d k&&kP d d' with
   |false=>rw[hc]at hy;cases hy
   |true=>
    rw[hc]at hy;simp only[cond_true]at hy;simp only[arD]at hc;have xN:=ko hc.2;subst xN;have vE:=Dw bK hk hc.1;obtain⟨es,c,h1,h3,h4⟩:=hg;simp only[MU]at h3;have jE:es=(φ.g x).1:=congrArg Prod.fst h3;split at hy
    ·rename_i v Vl
     simp only[aop]at hy;subst hy;obtain⟨j,u,g1,g2⟩:=bK.here.mg _ _ _ Vl d vk hk vE (jE▸h4);rw[<-jE]at g1;refine⟨if ok then .tuple #[u,.bool true]else u,?_,?_⟩
     ·simp[arG,run_underlying hu,AAA h1,run_checkKey hd vE,run_findKey hd g1]
     ·cases ok with
      |true=>simp only[cond,if_true,VR];exact⟨_,rfl,J.cons g2 (J.cons (by simp[VR]) J.nil)⟩
      |false=>simpa[cond]using g2
    ·rename_i Vl
     have g1:=bK.here.mg _ _ _ Vl d vk hk vE (jE▸h4);simp only at g1;rw[<-jE]at g1;split at hy
     ·rename_i i de het
      obtain⟨hi,_⟩:=hE.ty _ _ _ het;split at hy
      ·rename_i z hz
       simp only[aop]at hy;subst hy;refine⟨if ok then .tuple #[z,.bool false]else z,?_,?_⟩
       ·simp[arG,run_underlying hu,AAA h1,run_checkKey hd vE,run_findKey hd g1,jj hi hz w]
       ·cases ok with
        |true=>simp only[cond,if_true,VR];exact⟨_,rfl,J.cons (zc φ z) (J.cons (by simp[VR]) J.nil)⟩
        |false=>simpa[cond]using zc φ z
      ·cases hy
     ·cases hy
    ·cases hy
  ·cases hy
 ·cases hy
def qB(E:Env)(t:TypeId)(x k:V)(ok:Bool)(h:H):Option (V×H):=match x with
 |.m (some b)=>
  match h.get b with
  |.gS x' d' kD=>
   match Dx E t x' d' kD k ok with
   |some v=>some (v,h)
   |none=>none
  |.rm x' d'=>
   match Dx E t x' d' [] k ok with
   |some v=>some (v,h)
   |none=>none
  |_=>
   match mH E t x k ok h with
   |some r=>some r
   |none=>Dv E t x k ok h
 |_=>mH E t x k ok h
theorem IB(hE:E.OK)(bK:BD E φ){w:World}(hr:HR φ h w)(t:TypeId){x k:V}(hx:VR φ x vx)(hk:VR φ k vk)(ok:Bool):
  aG E.P φ w (arG t vx vk ok) (qB E t x k ok h):=by
 unfold qB;split
 ·split
  ·rename_i b x' d' kD hg
   have iT:=hx;simp only[VR]at iT;obtain⟨r,hb,rfl⟩:=iT;split
   ·rename_i v hv
    obtain⟨o,h1,h2⟩:=hr.ew _ r hb (by rw[hg];trivial);rw[hg]at h2;obtain⟨es,c,rfl,h3,h4⟩:=h2;obtain⟨u,g1,g2⟩:=Cn hE bK hr t hb ⟨es,c,h1,h3,h4⟩ hk ok hv;exact aG.pure hr g1 g2
   ·exact aG.none
  ·rename_i b x' d' hg
   have iT:=hx;simp only[VR]at iT;obtain⟨r,hb,rfl⟩:=iT;split
   ·rename_i v hv
    obtain⟨o,h1,h2⟩:=hr.ew _ r hb (by rw[hg];trivial);rw[hg]at h2;obtain⟨es,c,rfl,h3,h4⟩:=h2;obtain⟨u,g1,g2⟩:=Cn hE bK hr t hb ⟨es,c,h1,h3,h4⟩ hk ok hv;exact aG.pure hr g1 g2
   ·exact aG.none
  ·split
   ·rename_i r cM
    have:=xL hE hr t hx hk ok;rw[cM]at this;exact this
   ·exact Nt hE hr t hx hk ok
 ·exact xL hE hr t hx hk ok
theorem Nu{m:Array MapEntry×Nat}{k v:Value}(hk:IsKey d k)(h:∀e∈m.1.toList,IsKey d e.key):∀e∈(iq d m k v).1.toList,IsKey d e.key:=by
 unfold iq;split
 ·rename_i j u hf
  rcases findNow_spec hk m.1.toList 0 h with⟨h1,_⟩|⟨j',e',h1,h2,h3⟩
  ·rw[h1]at hf;cases hf
  ·refine isKey_modify h j _ fun e he=> ?_
   rw[h1]at hf;simp only[aop,arE,asp]at hf;obtain⟨rfl,_⟩:=hf;have:m.1[j']? =some e':=by simpa using h2
   rw[this]at he;cases he;exact h3.symm
 ·intro e he
  simp only[ash,List.mem_append,List.mem_singleton]at he;rcases he with he|rfl
  ·exact h e he
  ·exact hk
theorem Nv{m:Array MapEntry×Nat}{k:Value}(h:∀e∈m.1.toList,IsKey d e.key):∀e∈(oT d m k).1.toList,IsKey d e.key:=by
 unfold oT;split
 ·rename_i j u hf
  intro e he;refine h e ?_;unfold asm at he;split at he
  ·rw[aso]at he
   exact List.mem_of_mem_eraseIdx he
  ·exact he
 ·exact h
def PW(E:Env)(t:TypeId)(b x:Nat)(d':TypeDesc)(kD:List (V×Option V))(k v:V)(h:H):Option (V×H):=match E.tt t with
 |some (_,.map kt _)=>
  match E.tt kt with
  |some (_,d)=>cond (FA E d k&&kP d d') (some (.top,h.set b (.gS x d' (kD++[(k,some v)])))) none
  |_=>none
 |_=>none
theorem PX{E:Env}(hE:E.OK){φ:Ren}(bK:BD E φ){h:H}{w:World}(hr:HR φ h w)(t:TypeId){b r:Nat}(hb:φ b=some r){x:Nat}{d':TypeDesc}{kD:List (V×Option V)}(hg:h.get b=.gS x d' kD)
  {k v:V}{vk vv:Value}(hk:VR φ k vk)(hv:VR φ v vv):Yields E.P φ w (do arI t (.map (some r)) vk vv;pure .skip) (PW E t b x d' kD k v h):=by
 unfold PW;split
 ·rename_i it kt et ht
  obtain⟨_,hu⟩:=hE.ty _ _ _ ht;split
  ·rename_i ik d BL
   obtain⟨_,hd⟩:=hE.ty _ _ _ BL;cases hc:FA E d k&&kP d d' with
   |false=>exact Yields.none
   |true=>
    simp only[arD]at hc;have xN:=ko hc.2;subst xN;have vE:=Dw bK hk hc.1;obtain⟨o,h1,h2⟩:=hr.ew b r hb (by rw[hg];trivial);rw[hg]at h2;obtain⟨es,c,rfl,h3,h4⟩:=h2;have bf:=(hr.lM b r hb).2;intro y h' e';simp only[cond,aop,arE]at e';obtain⟨rfl,rfl⟩:=e';have hMU:MU φ d (φ.g x) (kD++[(k,some v)]) (iq d (es,c) vk vv):=h3.snoc (by simp only[MU];exact⟨vk,vv,hk,hv,vE,rfl⟩);have hT:=hr.turn (b:=b) (r:=r) (w':={w with heap:=w.heap.setIfInBounds r (.map (iq d (es,c) vk vv).1 (iq d (es,c) vk vv).2)}) (.gS x d (kD++[(k,some v)])) (.map (iq d (es,c) vk vv).1 (iq d (es,c) vk vv).2) hb (by rw[hg];trivial)
     ⟨_,_,rfl,hMU,Nu vE h4⟩ (by simp) (by simp[bf]) (fun s hs=>by simp[arU (Ne.symm hs)]) rfl rfl rfl
    refine⟨φ,undef,_,.inr ⟨?_,rfl⟩,hT.2,by simp[VR],hT.1⟩;rcases findNow_spec vE es.toList 0 h4 with⟨f1,_⟩|⟨j,e,f1,f2,f3⟩
    ·have em:iq d (es,c) vk vv=(es.push {key:=vk,val:=vv,born:=c},c+1):=by simp only[iq,f1]
     rw[em];simp[arI,run_underlying hu,AAA h1,run_checkKey hd vE,run_findKey hd f1,arM _ h1]
    ·rw[asp]at f1
     have em:iq d (es,c) vk vv=(es.modify j fun e=>{e with key:=vk,val:=vv},c):=by simp only[iq,f1]
     have hj:es[j]? =some e:=by simpa using f2
     rw[em];simp[arI,run_underlying hu,AAA h1,run_checkKey hd vE,run_findKey hd f1,hj,f3,run_keyThatStays vE,arM _ h1]
  ·exact Yields.none
 ·exact Yields.none
def kQ(E:Env)(t:TypeId)(x k v:V)(h:H):Option (V×H):=match x with
 |.m (some b)=>
  match h.get b with
  |.gS x' d' kD=>PW E t b x' d' kD k v h
  |_=>
   match lQ E t x k v h with
   |some r=>some r
   |none=>PU E t x k v h
 |_=>lQ E t x k v h
theorem rB(hE:E.OK)(bK:BD E φ){w:World}(hr:HR φ h w)(t:TypeId){x k v:V}(hx:VR φ x vx)(hk:VR φ k vk)(hv:VR φ v vv):
  Yields E.P φ w (do arI t vx vk vv;pure .skip) (kQ E t x k v h):=by
 unfold kQ;split
 ·split
  ·rename_i b x' d' kD hg
   have iT:=hx;simp only[VR]at iT;obtain⟨r,hb,rfl⟩:=iT;exact PX hE bK hr t hb hg hk hv
  ·split
   ·rename_i r cM
    have:=pB hE hr t hx hk hv;rw[cM]at this;exact this
   ·exact PV hE hr t hx hk hv
 ·exact pB hE hr t hx hk hv
def PY(E:Env)(t:TypeId)(b x:Nat)(d':TypeDesc)(kD:List (V×Option V))(k:V)(h:H):Option (V×H):=match E.tt t with
 |some (_,.map kt _)=>
  match E.tt kt with
  |some (_,d)=>cond (FA E d k&&kP d d') (some (.t [],h.set b (.gS x d' (kD++[(k,none)])))) none
  |_=>none
 |_=>none
theorem PZ{E:Env}(hE:E.OK){φ:Ren}(bK:BD E φ){h:H}{w:World}(hr:HR φ h w)(t t2 ty:TypeId){b r:Nat}(hb:φ b=some r){x:Nat}{d':TypeDesc}{kD:List (V×Option V)}(hg:h.get b=.gS x d' kD)
  {k:V}{vk:Value}(hk:VR φ k vk):aG E.P φ w (arO #[t,t2] ty #[.map (some r),vk]) (PY E t b x d' kD k h):=by
 unfold PY;split
 ·rename_i it kt et ht
  obtain⟨_,hu⟩:=hE.ty _ _ _ ht;split
  ·rename_i ik d BL
   obtain⟨_,hd⟩:=hE.ty _ _ _ BL;cases hc:FA E d k&&kP d d' with
   |false=>exact aG.none
   |true=>
    simp only[arD]at hc;have xN:=ko hc.2;subst xN;have vE:=Dw bK hk hc.1;obtain⟨o,h1,h2⟩:=hr.ew b r hb (by rw[hg];trivial);rw[hg]at h2;obtain⟨es,c,rfl,h3,h4⟩:=h2;have bf:=(hr.lM b r hb).2;intro y h' e';simp only[cond,aop,arE]at e';obtain⟨rfl,rfl⟩:=e';have hMU:MU φ d (φ.g x) (kD++[(k,none)]) (oT d (es,c) vk):=h3.snoc (by simp only[MU];exact⟨vk,hk,vE,rfl⟩);have hT:=hr.turn (b:=b) (r:=r) (w':={w with heap:=w.heap.setIfInBounds r (.map (oT d (es,c) vk).1 (oT d (es,c) vk).2)}) (.gS x d (kD++[(k,none)])) (.map (oT d (es,c) vk).1 (oT d (es,c) vk).2) hb (by rw[hg];trivial)
     ⟨_,_,rfl,hMU,Nv h4⟩ (by simp) (by simp[bf]) (fun s hs=>by simp[arU (Ne.symm hs)]) rfl rfl rfl
    refine⟨φ,.tuple #[],_,?_,hT.2,by simp only[VR];exact⟨#[],rfl,J.nil⟩,hT.1⟩;rcases findNow_spec vE es.toList 0 h4 with⟨f1,_⟩|⟨j,e,f1,f2,f3⟩
    ·have em:oT d (es,c) vk=(es,c):=by simp only[oT,f1]
     rw[em];simp[arO,run_underlying hu,AAA h1,run_checkKey hd vE,run_findKey hd f1,arM _ h1]
    ·rw[asp]at f1
     have em:oT d (es,c) vk=(es.eraseIdxIfInBounds j,c):=by simp only[oT,f1]
     rw[em];simp[arO,run_underlying hu,AAA h1,run_checkKey hd vE,run_findKey hd f1,arM _ h1]
  ·exact aG.none
 ·exact aG.none
def Dy(E:Env)(t:TypeId)(x k:V)(h:H):Option (V×H):=match x with
 |.m (some b)=>
  match h.get b with
  |.gS x' d' kD=>PY E t b x' d' kD k h
  |_=>tN E t x k h
 |_=>tN E t x k h
theorem IC(hE:E.OK)(bK:BD E φ){w:World}(hr:HR φ h w)(t t2 ty:TypeId){x k:V}(hx:VR φ x vx)(hk:VR φ k vk):
  aG E.P φ w (arO #[t,t2] ty #[vx,vk]) (Dy E t x k h):=by
 unfold Dy;split
 ·split
  ·rename_i b x' d' kD hg
   have iT:=hx;simp only[VR]at iT;obtain⟨r,hb,rfl⟩:=iT;exact PZ hE bK hr t t2 ty hb hg hk
  ·exact xM hE hr t t2 ty hx hk
 ·exact xM hE hr t t2 ty hx hk
end
end
noncomputable section
def ID:V->Option V
 |.p (some a)=>some (.p (some a))
 |.f fn a b=>some (.f fn a b)
 |.EZ t v=>some (.EZ t v)
 |.yl r=>some (.yl r)
 |_=>none
def mI:TypeDesc->Bool
 |.interface _=>false
 |_=>true
def Ld(E:Env)(t:TypeId)(x:V)(h:H):Option (V×H):=match E.tt t,x with
 |some (_,.string),.s l=>some (.p (some (h.n,0)),h.new (.iter l 0))
 |_,_=>none
def Lf(x:V)(h:H):Option (V×H):=match x with
 |.p (some (b,0))=>
  match h.get b with
  |.iter l pos=>
   cond (asb pos l.length)
    (some (.t [.b true,.i .i64 (.ofNat pos),.i .i32 (.ofNat (arS (bytes l) pos).1)],h.set b (.iter l (pos+(arS (bytes l) pos).2))))
    (some (.t [.b false],h))
  |_=>none
 |_=>none
theorem P0(hE:E.OK){w:World}(hr:HR φ h w)(t:TypeId){x:V}{v:Value}(hx:VR φ x v):Yields E.P φ w (do pure (.value (<-Instr.range t v))) (Ld E t x h):=by
 unfold Ld;split
 ·rename_i i l ht
  obtain⟨_,hu⟩:=hE.ty _ _ _ ht;simp only[VR]at hx;obtain⟨rfl,hl⟩:=hx;intro y h' e;cases e;have E6:=hr.alloc 0 (.iter l 0) (.stringIter (bytes l) 0) ⟨rfl,hl⟩;refine⟨_,.pointer (some ⟨w.heap.size,0,none⟩),_,.inl ?_,E6.2,?_,E6.1⟩
  ·simp[Instr.range,run_underlying hu]
  ·simp only[VR];exact⟨w.heap.size,by simp[up],rfl⟩
 ·exact Yields.none
theorem P1{P:Program}{w:World}(hr:HR φ h w)(ty:TypeId){x:V}{v:Value}(hx:VR φ x v):Yields P φ w (do pure (.value (<-Instr.next v true ty))) (Lf x h):=by
 unfold Lf;split
 ·rename_i b
  split
  ·rename_i l pos hg
   simp only[VR]at hx;obtain⟨r,hb,rfl⟩:=hx;obtain⟨o,h1,h2⟩:=hr.ew b r hb (by rw[hg];trivial);rw[hg]at h2;obtain⟨rfl,hl⟩:=h2;have dZ:(getObj r).run P w=.ok (.stringIter (bytes l) pos) w:=by simp[getObj,Sem.run,h1]
   cases hp:asb pos l.length with
   |false=>
    have bf:¬pos<(bytes l).size:=by
     rw[du];intro h;rw[bh.2 h]at hp;cases hp
    refine Yields.pure hr (v:=.tuple #[.bool false]) ?_ (by simp only[VR];exact⟨_,rfl,J.cons (by simp only[VR]) J.nil⟩);simp[Instr.next,dZ,bf]
   |true=>
    have bf:pos<(bytes l).size:=by rw[du];exact bh.1 hp
    simp only[cond];intro y h' e;cases e;have jD:r<w.heap.size:=(Array.getElem?_eq_some_iff.1 h1).1;obtain⟨t1,t2⟩:=hr.turn (w':={w with heap:=w.heap.setIfInBounds r (.stringIter (bytes l) (pos+(arS (bytes l) pos).2))}) (.iter l (pos+(arS (bytes l) pos).2)) (.stringIter (bytes l) (pos+(arS (bytes l) pos).2)) hb (by rw[hg];trivial) ⟨rfl,hl⟩
     (by simp) (by simp[jD]) (fun s hs=>by
      simp only[Array.getElem?_setIfInBounds];rw[if_neg (fun e=>hs e.symm)]) rfl rfl rfl
    have fa:(setObj r (.stringIter (bytes l) (pos+(arS (bytes l) pos).2))).run P w=.ok () {w with heap:=w.heap.setIfInBounds r (.stringIter (bytes l) (pos+(arS (bytes l) pos).2))}:=by simp[setObj,Sem.run,h1]
    refine⟨φ,.tuple #[.bool true,.int .i64 pos,.int .i32 (arS (bytes l) pos).1],_,.inl ?_,t2,?_,t1⟩
    ·simp[Instr.next,dZ,bf,fa,goInt]
    ·simp only[VR]
     exact⟨_,rfl,J.cons (by simp only[VR]) (J.cons (by simp only[VR];rfl) (J.cons (by simp only[VR];rfl) J.nil))⟩
  ·exact Yields.none
 ·exact Yields.none
def kb(E:Env)(fr:Fr)(o:Op)(h:H):Option (V×H):=match o with
 |.move x=>some (ev E.ng fr x,h)
 |.assign x=>some (ev E.ng fr x,h)
 |.pick c a b=>
  match ev E.ng fr c with
  |.b true=>some (ev E.ng fr a,h)
  |.b false=>some (ev E.ng fr b,h)
  |_=>none
 |.alloc t=>Dd E t h
 |.box t x=>VI t (ev E.ng fr x) h
 |.build t ps=>zi E t (nL E.ng fr ps.toList) h
 |.buildSlice t n ps=>lO E t n (nL E.ng fr ps.toList) h
 |.load t a=>rA E t (ev E.ng fr a) h
 |.store t a x=>Df E t (ev E.ng fr a) (ev E.ng fr x) h
 |.nilCheck x=>
  match ID (ev E.ng fr x)with
  |some y=>some (y,h)
  |none=>none
 |.binOp op t x y _=>
  match K7 E op t (ev E.ng fr x) (ev E.ng fr y)with
  |some r=>some (r,h)
  |none=>none
 |.unOp op _ x=>
  match aUn op (ev E.ng fr x)with
  |some r=>some (r,h)
  |none=>none
 |.convert s d x=>
  match K5 E s d (ev E.ng fr x)with
  |some r=>some (r,h)
  |none=>
   match Dp E s d (ev E.ng fr x) h with
   |some r=>some (r,h)
   |none=>none
 |.makeInterface t x=>
  match E.tt t with
  |some (_,d)=>cond (mI d) (some (.EZ t (ev E.ng fr x),h)) none
  |none=>none
 |.makeFunc (.func f) first im=>some (.f f (first.toList.map (ev E.ng fr)) (im.toList.map (ev E.ng fr)),h)
 |.slice t x lo hi none=>zy E t (ev E.ng fr x) (lo.map (ev E.ng fr)) (hi.map (ev E.ng fr)) h
 |.fieldAddr s x f=>kG E s (ev E.ng fr x) f h
 |.field t x f=>zk E t (ev E.ng fr x) f h
 |.indexAddr t x i=>kH E t (ev E.ng fr x) (ev E.ng fr i) h
 |.index t x i=>zp E t (ev E.ng fr x) (ev E.ng fr i) h
 |.makeMap t r=>tM E t (r.map (ev E.ng fr)) h
 |.makeSlice t l c=>nO E t (ev E.ng fr l) (ev E.ng fr c) h
 |.lookup t x k ok=>qB E t (ev E.ng fr x) (ev E.ng fr k) ok h
 |.mapUpdate t m k x=>kQ E t (ev E.ng fr m) (ev E.ng fr k) (ev E.ng fr x) h
 |.insert t m k x=>kQ E t (ev E.ng fr m) (ev E.ng fr k) (ev E.ng fr x) h
 |.extract x i=>
  match ev E.ng fr x with
  |.t vs=>
   match vs[i]?with
   |some y=>some (y,h)
   |none=>none
  |_=>none
 |.range t x=>Ld E t (ev E.ng fr x) h
 |.next it true=>Lf (ev E.ng fr it) h
 |_=>none
theorem OR.map{ng:Nat}{φ:Ren}{fr:Fr}{a:Act}(hg:GL ng φ)(hf:FR φ fr a.tmps)(x:Option Operand):OR φ (x.map (ev ng fr)) (x.map a.eval):=by
 cases x with
 |none=>rfl
 |some x=>exact⟨_,rfl,ry hg hf x⟩
theorem IE{P:Program}{x y:V}{v:Value}(hx:VR φ x v)(h:ID x=some y)(w:World)(ρ:Operand->Value)(o:Oper)(z:Operand)(ho:o.op=.nilCheck z)(hz:ρ z=v):
  (execOp ρ o).run P w=.ok (.value v) w/\y=x:=by
 cases x<;>try(cases h;done)
 ·rename_i a
  cases a with
  |none=>cases h
  |some a=>
   obtain⟨b,off⟩:=a;simp only[ID,aop]at h;simp only[VR]at hx;obtain⟨r,_,rfl⟩:=hx;exact⟨by simp[execOp,ho,hz],h.symm⟩
 ·simp only[ID,aop]at h
  simp only[VR]at hx;obtain⟨_,_,rfl,_⟩:=hx;exact⟨by simp[execOp,ho,hz],h.symm⟩
 ·simp only[ID,aop]at h
  simp only[VR]at hx;obtain⟨_,_,rfl⟩:=hx;exact⟨by simp[execOp,ho,hz],h.symm⟩
 ·simp only[ID,aop]at h
  simp only[VR]at hx;obtain⟨_,rfl,_⟩:=hx;exact⟨by simp[execOp,ho,hz],h.symm⟩
theorem abf(hE:E.OK)(hg:GL E.ng φ)(bK:BD E φ){fr:Fr}{a:Act}(hf:FR φ fr a.tmps){w:World}(hr:HR φ h w)(o:Oper):
  Yields E.P φ w (execOp a.eval o) (kb E fr o.op h):=by
 have he:=fun x=>ry hg hf x
 cases gm:o.op with
 |move x=>simp only[kb];exact Yields.pure hr (by simp only[execOp,gm];rfl) (he x)
 |assign x=>simp only[kb];exact Yields.pure hr (by simp only[execOp,gm];rfl) (he x)
 |pick c x y=>
  simp only[kb];have hc:=he c;split
  ·rename_i e;rw[e]at hc;simp only[VR]at hc
   exact Yields.pure hr (by simp[execOp,gm,hc,asBool]) (he x)
  ·rename_i e;rw[e]at hc;simp only[VR]at hc
   exact Yields.pure hr (by simp[execOp,gm,hc,asBool]) (he y)
  ·exact Yields.none
 |alloc t=>simp only[kb];have:=M9 hE hr t;simpa only[execOp,gm]using this
 |box t x=>simp only[kb];have:=VJ (P:=E.P) hr t (he x);simpa only[execOp,gm]using this
 |build t ps=>
  simp only[kb];have:=Nc hE hr t (parts:=nL E.ng fr ps.toList) (parts':=ps.map fun p=>(p.1,a.eval p.2)) (by rw[asa];exact v7 hg hf ps.toList);simpa only[execOp,gm]using this
 |buildSlice t n ps=>
  simp only[kb];have:=zj hE hr t n (parts:=nL E.ng fr ps.toList) (parts':=ps.map fun p=>(p.1,a.eval p.2)) (by rw[asa];exact v7 hg hf ps.toList);simpa only[execOp,gm]using this
 |load t x=>simp only[kb];have:=PB hE bK hr t (he x);simpa only[execOp,gm]using this
 |store t x y=>simp only[kb];have:=Nb hE hr t (he x) (he y);simpa only[execOp,gm]using this
 |nilCheck x=>
  simp only[kb];split
  ·rename_i y hy
   obtain⟨h1,h2⟩:=IE (P:=E.P) (he x) hy w a.eval o x gm rfl;subst h2;exact Yields.pure hr h1 (he x)
  ·exact Yields.none
 |binOp op t x y yt=>
  simp only[kb];split
  ·rename_i r cM
   obtain⟨v,h1,h2⟩:=PN hE bK op t x y (he x) (he y) cM w;exact Yields.pure hr (v:=v) (by simp only[execOp,gm];rw[arL,h1];rfl) h2
  ·exact Yields.none
 |unOp op t x=>
  simp only[kb];split
  ·rename_i r cM
   obtain⟨v,h1,h2⟩:=aba (P:=E.P) op (he x) cM w;exact Yields.pure hr (v:=v) (by simp only[execOp,gm];rw[arL,h1];rfl) h2
  ·exact Yields.none
 |convert s d x=>
  simp only[kb];split
  ·rename_i r cM
   obtain⟨v,h1,h2⟩:=PR hE bK s d (he x) cM w;exact Yields.pure hr (v:=v) (by simp only[execOp,gm];rw[arL,h1];rfl) h2
  ·split
   ·rename_i r cM
    obtain⟨v,h1,h2⟩:=Nq hE bK hr s d (he x) cM;exact Yields.pure hr (v:=v) (by simp only[execOp,gm];rw[arL,h1];rfl) h2
   ·exact Yields.none
 |makeInterface t x=>
  simp only[kb];split
  ·rename_i i d ht
   obtain⟨_,hu⟩:=hE.ty _ _ _ ht;cases hc:mI d with
   |false=>exact Yields.none
   |true=>
    simp only[cond];refine Yields.pure hr (v:=.iface t (a.eval x)) ?_ (by simp only[VR];exact⟨_,rfl,he x⟩);cases d<;>first|(simp[mI]at hc;done)|simp[execOp,gm,Instr.makeInterface,run_underlying hu]
  ·exact Yields.none
 |makeFunc fn first im=>
  cases fn with
  |func f=>
   simp only[kb];refine Yields.pure hr (v:=.func (.func f) (first.map a.eval) (im.map a.eval)) ?_ ?_
   ·simp only[execOp,gm,Instr.makeFunc];rfl
   ·simp only[VR]
    exact⟨_,_,rfl,by rw[asa];exact vU hg hf _,by rw[asa];exact vU hg hf _⟩
  |_=>simp only[kb];exact Yields.none
 |slice t x lo hi mx=>
  cases mx with
  |some _=>simp only[kb];exact Yields.none
  |none=>
   simp only[kb];have:=(Nr hE bK hr t (he x) (OR.map hg hf lo) (OR.map hg hf hi)).v8;simpa only[execOp,gm,Option.map_none]using this
 |fieldAddr s x f=>simp only[kb];have:=BH hE hr s (he x) f;simpa only[execOp,gm]using this
 |field s x f=>simp only[kb];have:=Nd hE hr s (he x) f;simpa only[execOp,gm]using this
 |indexAddr t x i=>simp only[kb];have:=BI hE bK hr t (he x) (he i);simpa only[execOp,gm]using this
 |index t x i=>simp only[kb];have:=Nk hE hr t (he x) (he i);simpa only[execOp,gm]using this
 |makeMap t r=>
  simp only[kb];have:=(Fx hE hr t (OR.map hg hf r)).v8;simpa only[execOp,gm]using this
 |makeSlice t l c=>
  simp only[kb];have:=(BM hE hr t (he l) (he c)).v8;simpa only[execOp,gm]using this
 |lookup t x k ok=>
  simp only[kb];have:=(IB hE bK hr t (he x) (he k) ok).v8;simpa only[execOp,gm]using this
 |mapUpdate t m k x=>
  simp only[kb];have:=rB hE bK hr t (he m) (he k) (he x);simpa only[execOp,gm]using this
 |insert t m k x=>
  simp only[kb];have:=rB hE bK hr t (he m) (he k) (he x);simpa only[execOp,gm]using this
 |extract x i=>
  simp only[kb];have hx:=he x;split
  ·rename_i vs e
   rw[e]at hx;simp only[VR]at hx;obtain⟨xD,hv,iz⟩:=hx;split
   ·rename_i y hy
    obtain⟨z,hz,hyz⟩:=iz.get hy;have hz':xD[i]? =some z:=by simpa using hz
    exact Yields.pure hr (v:=z) (by simp[execOp,gm,hv,Instr.extract,hz']) hyz
   ·exact Yields.none
  ·exact Yields.none
 |range t x=>simp only[kb];have:=P0 hE hr t (he x);simpa only[execOp,gm]using this
 |next it b=>
  cases b with
  |true=>simp only[kb];have:=P1 (P:=E.P) hr o.type (he it);simpa only[execOp,gm]using this
  |false=>simp only[kb];exact Yields.none
 |_=>simp only[kb];exact Yields.none
end
end Go.Ev
