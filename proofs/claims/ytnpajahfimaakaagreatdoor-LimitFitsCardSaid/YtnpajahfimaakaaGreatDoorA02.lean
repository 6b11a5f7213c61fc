/- A part of what LimitFits rests on. -/
import Derived.Test.YtnpajahfimaakaaGreatDoorA01
import Derived.IntWalk
import Derived.Laws.Strings2
import Derived.Laws.StructEq
import Derived.Deep.AppendSrc
set_option linter.all false
namespace Go.Ev
open Option.some renaming injEq->aop
open Nat renaming eq_of_beq_eq_true->AAA,le_of_ble_eq_true->arC,beq->arE,ble->arI,add_mul->arL,mul_le_mul_right->arO,mod_eq_of_lt->arP,mul_one->arS,le_refl->arT,blt->arU,add_zero->arW,min_eq_left->arX,zero_add->asf,beq_refl->asg
open List renaming length_append->arD,mem_cons_self->arM,mem_cons_of_mem->arN,take_append_of_le_length->arR,take_of_length_le->arV,size_toArray->asb,append_assoc->asd,eq_nil_of_length_eq_zero->ash,append_nil->asi,length->aso,getElem?_take->asq
open Builtin renaming zeroCells->arF,append_->arJ,firstCells->arQ
open Bool renaming and_eq_true->arG
open Prod.mk renaming injEq->arH
open UInt8 renaming ofNat->arK
open World renaming cell?->arY,setCell->asj,frozen?->asl
open Int renaming negSucc_eq->arZ
open _root_.Array renaming size_append->asa,getElem?_modify->asm
open Addr renaming add_lit->ase
open Src renaming ofString->asn,ofSlice->asp
variable{a b:Nat}{E:Env}{φ:Ren}{y:V}{vx vy:Value}{P:Program}
noncomputable section
def pc:Int->Int->Bool
 |.ofNat a,.ofNat b=>arU a b
 |.ofNat _,.negSucc _=>false
 |.negSucc _,.ofNat _=>true
 |.negSucc a,.negSucc b=>arU b a
theorem bh:arU a b=true↔a<b:=by
 unfold arU;rw[Nat.ble_eq];exact Iff.rfl
theorem ma(x y:Int):pc x y=true↔x<y:=by
 cases x with
 |ofNat a=>
  cases y with
  |ofNat b=>show arU a b=true↔_;rw[bh];exact Int.ofNat_lt.symm
  |negSucc b=>show false=true↔_;rw[arZ];constructor<;>intro h<;>first|(cases h;done)|(exfalso;have:(Int.ofNat a:Int)=(a:Int):=rfl;omega)
 |negSucc a=>
  cases y with
  |ofNat b=>show true=true↔_;rw[arZ];have:(Int.ofNat b:Int)=(b:Int):=rfl;constructor<;>intro _<;>first|rfl|omega
  |negSucc b=>show arU b a=true↔_;rw[bh,arZ,arZ];omega
theorem zm(x y:Int):pc x y=false↔y<=x:=by
 rw[<-Bool.not_eq_true,ma];omega
def cZ(k:IntKind)(n:Int):Bool:=match k with
 |.i8=>pc (-129) n&&pc n 128
 |.i16=>pc (-32769) n&&pc n 32768
 |.i32=>pc (-2147483649) n&&pc n 2147483648
 |.i64=>pc (-9223372036854775809) n&&pc n 9223372036854775808
 |.u8=>pc (-1) n&&pc n 256
 |.u16=>pc (-1) n&&pc n 65536
 |.u32=>pc (-1) n&&pc n 4294967296
 |.u64=>pc (-1) n&&pc n 18446744073709551616
def pt(k:IntKind)(n:Int):Int:=cond (cZ k n) n (k.wrap n)
theorem kJ(k:IntKind)(n:Int):pt k n=k.wrap n:=by
 unfold pt;cases h:cZ k n with
 |false=>rfl
 |true=>
  show n=k.wrap n;cases k<;>simp only[cZ,arG,ma]at h
  ·exact(IntWalk.i8_in n (by omega)).symm
  ·exact(IntWalk.i16_in n (by omega)).symm
  ·exact(IntWalk.i32_in n (by omega)).symm
  ·exact(IntWalk.i64_in n (by omega)).symm
  ·exact(IntWalk.u8_in n (by omega)).symm
  ·exact(IntWalk.u16_in n (by omega)).symm
  ·exact(IntWalk.u32_in n (by omega)).symm
  ·exact(IntWalk.u64_in n (by omega)).symm
def rng(E:Env):V->Option (IntKind×Int×Int)
 |.i k n=>some (k,n,n)
 |.y k x=>
  match E.bd x with
  |some (lo,hi)=>some (k,lo,hi)
  |none=>none
 |_=>none
theorem PF(hb:BD E φ){x:V}{v:Value}(hx:VR φ x v){k:IntKind}{lo hi:Int}(h:rng E x=some (k,lo,hi)):∃n,v=.int k n/\lo<=n/\n<=hi:=by
 unfold rng at h;split at h
 ·rename_i k' n
  simp only[aop,arH]at h;obtain⟨rfl,rfl,rfl⟩:=h;simp only[VR]at hx;exact⟨n,hx,Int.le_refl _,Int.le_refl _⟩
 ·rename_i k' y
  split at h
  ·rename_i lo' hi' bK
   simp only[aop,arH]at h;obtain⟨rfl,rfl,rfl⟩:=h;simp only[VR]at hx;exact⟨_,hx,hb.here.bd _ _ _ bK⟩
  ·cases h
 ·cases h
def cLt(l1 h1 l2 h2:Int):Option Bool:=cond (pc h1 l2) (some true) (cond (pc l1 h2) none (some false))
def cEq(l1 h1 l2 h2:Int):Option Bool:=cond (pc h1 l2||pc h2 l1) (some false) (cond (pc l1 h1||pc l2 h2) none (some true))
theorem Dh{l1 h1 l2 h2 a b:Int}(ha:l1<=a/\a<=h1)(hb:l2<=b/\b<=h2){r:Bool}(h:cLt l1 h1 l2 h2=some r):decide (a<b)=r:=by
 unfold cLt at h;cases e1:pc h1 l2 with
 |true=>
  rw[e1]at h;simp only[cond,aop]at h;subst h;rw[ma]at e1;exact decide_eq_true (by omega)
 |false=>
  rw[e1]at h;simp only[cond]at h;cases e2:pc l1 h2 with
  |true=>rw[e2]at h;cases h
  |false=>
   rw[e2]at h;simp only[aop]at h;subst h;rw[zm]at e2;exact decide_eq_false (by omega)
theorem PG{l1 h1 l2 h2 a b:Int}(ha:l1<=a/\a<=h1)(hb:l2<=b/\b<=h2){r:Bool}(h:cEq l1 h1 l2 h2=some r):(a==b)=r:=by
 unfold cEq at h;cases e1:pc h1 l2||pc h2 l1 with
 |true=>
  rw[e1]at h;simp only[cond,aop]at h;subst h;simp only[Bool.or_eq_true,ma]at e1;exact beq_eq_false_iff_ne.2 (by omega)
 |false=>
  rw[e1]at h;simp only[cond]at h;cases e2:pc l1 h1||pc l2 h2 with
  |true=>rw[e2]at h;cases h
  |false=>
   rw[e2]at h;simp only[aop]at h;subst h;simp only[Bool.or_eq_false_iff,zm]at e1 e2;exact beq_iff_eq.2 (by omega)
def aa8(E:Env)(op:BinOp)(x y:V):Option V:=match rng E x,rng E y with
 |some (k,l1,h1),some (k',l2,h2)=>
  cond (decide (k=k'))
   (match op with
   |.lss=>(cLt l1 h1 l2 h2).map .b
   |.gtr=>(cLt l2 h2 l1 h1).map .b
   |.leq=>(cLt l2 h2 l1 h1).map fun r=>.b (!r)
   |.geq=>(cLt l1 h1 l2 h2).map fun r=>.b (!r)
   |.eql=>(cEq l1 h1 l2 h2).map .b
   |.neq=>(cEq l1 h1 l2 h2).map fun r=>.b (!r)
   |_=>none) none
 |_,_=>none
theorem VN(hb:BD E φ)(op:BinOp)(t:TypeId)(ox oy:Operand){x:V}(hx:VR φ x vx)(hy:VR φ y vy){r:V}(h:aa8 E op x y=some r)(w:World):
  ∃v,(do eqGuard op t ox oy vx vy;binOp op t vx vy:Sem Value).run E.P w=.ok v w/\VR φ r v:=by
 unfold aa8 at h;split at h
 ·rename_i k l1 h1 k' l2 h2 e1 e2
  obtain⟨a,rfl,ha⟩:=PF hb hx e1;obtain⟨b,rfl,l8⟩:=PF hb hy e2
  by_cases hk:k=k'
  ·subst hk
   simp only[decide_true,cond]at h;split at h<;>(try simp only[Option.map_eq_some_iff]at h)
   ·obtain⟨q,hq,rfl⟩:=h
    exact⟨.bool q,by simp[eqGuard_at_int,binOp_lss,Dh ha l8 hq],by simp only[VR]⟩
   ·obtain⟨q,hq,rfl⟩:=h
    refine⟨.bool q,?_,by simp only[VR]⟩;have:=Dh l8 ha hq;simp[eqGuard_at_int,binOp_gtr,this]
   ·obtain⟨q,hq,rfl⟩:=h
    refine⟨.bool (!q),?_,by simp only[VR]⟩;have:=Dh l8 ha hq;have e:decide (a<=b)= !q:=by rw[<-this,<-decide_not];exact decide_eq_decide.2 (by omega)
    simp[eqGuard_at_int,binOp_leq,e]
   ·obtain⟨q,hq,rfl⟩:=h
    refine⟨.bool (!q),?_,by simp only[VR]⟩;have:=Dh ha l8 hq;have e:decide (b<=a)= !q:=by rw[<-this,<-decide_not];exact decide_eq_decide.2 (by omega)
    simp[eqGuard_at_int,binOp_geq,e]
   ·obtain⟨q,hq,rfl⟩:=h
    exact⟨.bool q,by simp[eqGuard_at_int,binOp_eql,PG ha l8 hq],by simp only[VR]⟩
   ·obtain⟨q,hq,rfl⟩:=h
    exact⟨.bool (!q),by simp[eqGuard_at_int,binOp_neq,bne,PG ha l8 hq],by simp only[VR]⟩
   ·cases h
  ·rw[decide_eq_false hk]at h;cases h
 ·cases h
def Ip(op:BinOp)(k:IntKind)(a b:Int):Option V:=match op with
 |.add=>some (.i k (pt k (a+b)))
 |.sub=>some (.i k (pt k (a-b)))
 |.mul=>some (.i k (pt k (a*b)))
 |.quo=>cond (decide (b=0)) none (some (.i k (pt k (a.tdiv b))))
 |.rem=>cond (decide (b=0)) none (some (.i k (a.tmod b)))
 |.and=>some (.i k (bits .and k a b))
 |.or=>some (.i k (bits .or k a b))
 |.xor=>some (.i k (bits .xor k a b))
 |.andNot=>some (.i k (bits .andNot k a b))
 |_=>none
theorem Ng(op:BinOp)(t:TypeId)(ox oy:Operand)(k:IntKind)(a b:Int){r:V}(h:Ip op k a b=some r)(w:World):
  ∃v,(do eqGuard op t ox oy (.int k a) (.int k b);binOp op t (.int k a) (.int k b):Sem Value).run P w=.ok v w/\VR φ r v:=by
 unfold Ip at h;split at h
 case h_4=>
  by_cases hb:b=0
  ·rw[decide_eq_true hb]at h;cases h
  ·rw[decide_eq_false hb]at h;simp only[cond,aop]at h;subst h
   exact⟨_,by simp[eqGuard_at_int,binOp_quo,Op.intDiv,hb];rfl,by simp only[VR,kJ]⟩
 case h_5=>
  by_cases hb:b=0
  ·rw[decide_eq_true hb]at h;cases h
  ·rw[decide_eq_false hb]at h;simp only[cond,aop]at h;subst h
   exact⟨_,by simp[eqGuard_at_int,binOp_rem,Op.intDiv,hb];rfl,by simp only[VR]⟩
 case h_10=>cases h
 all_goals
  simp only[aop]at h;subst h;refine⟨_,?_,by simp only[VR,kJ];rfl⟩;simp[eqGuard_at_int,binOp_add,binOp_sub,binOp_mul,binOp_and,binOp_or,binOp_xor,binOp_andNot,Op.intArith,intBits_and,intBits_or,intBits_xor,intBits_andNot]
def Iq(op:BinOp)(k:IntKind)(a b:Int):Option V:=cond (pc b 0) none
  (match op with
  |.shl=>some (.i k (pt k (a*2^(min b.toNat k.bits))))
  |.shr=>some (.i k (a.fdiv (2^(min b.toNat k.bits))))
  |_=>none)
theorem Nh(op:BinOp)(t:TypeId)(ox oy:Operand)(k k':IntKind)(a b:Int){r:V}(h:Iq op k a b=some r)(w:World):
  ∃v,(do eqGuard op t ox oy (.int k a) (.int k' b);binOp op t (.int k a) (.int k' b):Sem Value).run P w=.ok v w/\VR φ r v:=by
 unfold Iq at h;cases hb:pc b 0 with
 |true=>rw[hb]at h;cases h
 |false=>
  rw[hb]at h;rw[zm]at hb;have l8:¬b<0:=by omega
  simp only[cond]at h;split at h
  ·simp only[aop]at h;subst h
   exact⟨_,by simp[eqGuard_at_int,binOp_shl,Op.shift,l8];rfl,by simp only[VR,kJ]⟩
  ·simp only[aop]at h;subst h
   exact⟨_,by simp[eqGuard_at_int,binOp_shr,Op.shift,l8];rfl,by simp only[VR]⟩
  ·cases h
def Y8:List Nat->List Nat->Bool
 |[],[]=>true
 |a::arA,b::bs=>arE a b&&Y8 arA bs
 |_,_=>false
def lLt:List Nat->List Nat->Bool
 |_,[]=>false
 |[],_::_=>true
 |a::arA,b::bs=>arU a b||(arE a b&&lLt arA bs)
theorem ofNat_inj(ha:a<256)(hb:b<256):arK a=arK b↔a=b:=by
 constructor
 ·intro h
  have:(arK a).toNat=(arK b).toNat:=by rw[h]
  simpa[arP ha,arP hb]using this
 ·rintro rfl;rfl
theorem ofNat_lt(ha:a<256)(hb:b<256):arK a<arK b↔a<b:=by
 rw[UInt8.lt_iff_toNat_lt];simp[arP ha,arP hb]
theorem Ir:∀(a b:List Nat),(∀x∈a,x<256)->(∀x∈b,x<256)->((a.map arK)==(b.map arK))=Y8 a b
 |[],[],_,_=>rfl
 |[],b::bs,_,_=>rfl
 |a::arA,[],_,_=>rfl
 |a::arA,b::bs,ha,hb=>by
  have ih:=Ir arA bs (fun x hx=>ha x (arN _ hx)) (fun x hx=>hb x (arN _ hx));have Ni:=ofNat_inj (ha a arM) (hb b arM);simp only[List.map_cons,Y8];rw[List.cons_beq_cons,ih]
  congr 1
  by_cases e:a=b
  ·subst e;simp[asg]
  ·rw[YZ e];exact beq_eq_false_iff_ne.2 (fun h=>e (Ni.1 h))
theorem PH:∀(a b:List Nat),(∀x∈a,x<256)->(∀x∈b,x<256)->Op.bytesLess (a.map arK) (b.map arK)=lLt a b
 |[],[],_,_=>rfl
 |[],b::bs,_,_=>rfl
 |a::arA,[],_,_=>rfl
 |a::arA,b::bs,ha,hb=>by
  have ih:=PH arA bs (fun x hx=>ha x (arN _ hx)) (fun x hx=>hb x (arN _ hx));have Ni:=ofNat_inj (ha a arM) (hb b arM);have bf:=ofNat_lt (ha a arM) (hb b arM);simp only[List.map_cons,Op.bytesLess,lLt,ih]
  congr 1
  ·cases e:arU a b with
   |true=>rw[bh]at e;exact decide_eq_true (bf.2 e)
   |false=>exact decide_eq_false (fun h=>by rw[bh.2 (bf.1 h)]at e;cases e)
  ·congr 1
   by_cases e:a=b
   ·subst e;simp[asg]
   ·rw[YZ e];exact beq_eq_false_iff_ne.2 (fun h=>e (Ni.1 h))
theorem du(l:List Nat):(bytes l).size=l.length:=by simp[bytes,ByteArray.size]
theorem iw(l:List Nat):(bytes l).toList=l.map arK:=by simp[bytes]
theorem Di(a b:List Nat):bytes a++bytes b=bytes (a++b):=by
 apply ByteArray.ext;simp[bytes]
def VO(op:BinOp)(a b:List Nat):Option V:=match op with
 |.add=>cond (arI (a.length+b.length) 4611686018427387904) (some (.s (a++b))) none
 |.eql=>some (.b (Y8 a b))
 |.neq=>some (.b (!Y8 a b))
 |.lss=>some (.b (lLt a b))
 |.leq=>some (.b (lLt a b||Y8 a b))
 |.gtr=>some (.b (!(lLt a b||Y8 a b)))
 |.geq=>some (.b (!lLt a b))
 |_=>none
theorem K4(op:BinOp)(t:TypeId)(ox oy:Operand){a b:List Nat}(ha:∀x∈a,x<256)(hb:∀x∈b,x<256){r:V}(h:VO op a b=some r)(w:World):
  ∃v,(do eqGuard op t ox oy (.string (bytes a)) (.string (bytes b));binOp op t (.string (bytes a)) (.string (bytes b)):Sem Value).run P w=.ok v w/\VR φ r v:=by
 have e1:=Ir a b ha hb;have e2:=PH a b ha hb;unfold VO at h;split at h
 ·cases hl:arI (a.length+b.length) 4611686018427387904 with
  |false=>rw[hl]at h;cases h
  |true=>
   rw[hl]at h;simp only[cond,aop]at h;subst h;have ru:a.length+b.length<=4611686018427387904:=arC hl;refine⟨.string (bytes (a++b)),?_,by simp only[VR];exact⟨agm,fun x hx=>by rcases List.mem_append.1 hx with h|h;exact ha x h;exact hb x h⟩⟩
   have hn:¬((((bytes a).size+(bytes b).size:Nat):Int)>IntKind.i64.max):=by rw[du,du,IntKind.max_i64];omega
   simp only[eqGuard_at_string,binOp,Op.stringOp,pure_bind];rw[if_neg hn,Di];rfl
 case h_8=>cases h
 all_goals
  simp only[aop]at h;subst h;refine⟨_,?_,by simp only[VR];rfl⟩;simp[eqGuard_at_string,binOp,Op.stringOp,iw,e1,e2]
end
variable{h:H}
noncomputable section
def yC(E:Env)(t:TypeId)(x y:V):Option Bool:=match E.tt t,x,y with
 |some (_,.bool),.b a,.b b=>some (a==b)
 |some (_,.pointer _),.p none,.p b=>some b.isNone
 |some (_,.pointer _),.p (some _),.p none=>some false
 |some (_,.slice _),.sl none 0 _,.sl none 0 _=>some true
 |some (_,.slice _),.sl (some _) _ _,.sl none 0 _=>some false
 |some (_,.map _ _),.m none,.m b=>some b.isNone
 |some (_,.map _ _),.m (some _),.m none=>some false
 |some (_,.func _ _ _),.nf,.nf=>some true
 |some (_,.func _ _ _),.f _ _ _,.nf=>some false
 |some (_,.interface _),.EZ _ _,.ni=>some false
 |_,_,_=>none
theorem fg{t:TypeId}{x y:Value}{r:Bool}{w:World}(h:∀d,(Op.equalIn (d+1) t x y).run P w=.ok r w):(Op.equal t x y).run P w=.ok r w:=h 9999
theorem zn(hE:E.OK)(t:TypeId){x:V}(hx:VR φ x vx)(hy:VR φ y vy){r:Bool}(h:yC E t x y=some r)(w:World)(ox oy:Operand):
  (∀op,eqGuard op t ox oy vx vy=pure ())/\(Op.equal t vx vy).run E.P w=.ok r w/\
  binOp .eql t vx vy=(do pure (.bool (<-Op.equal t vx vy)))/\binOp .neq t vx vy=(do pure (.bool (!(<-Op.equal t vx vy)))):=by
 unfold yC at h;split at h
 ·rename_i i a b ht
  obtain⟨_,hu⟩:=hE.ty _ _ _ ht;simp only[VR]at hx hy;subst hx;subst hy;simp only[aop]at h;subst h;exact⟨fun op=>eqGuard_at_bool _ _ _ _ _ _,fg fun d=>by simp[Op.equalIn,run_underlying hu],rfl,rfl⟩
 ·rename_i i e b ht
  obtain⟨_,hu⟩:=hE.ty _ _ _ ht;simp only[VR]at hx;subst hx;simp only[aop]at h;subst h;cases b with
  |none=>
   simp only[VR]at hy;subst hy;exact⟨fun op=>eqGuard_at_pointer _ _ _ _ _ _,fg fun d=>by simp[Op.equalIn,run_underlying hu],rfl,rfl⟩
  |some bo=>
   obtain⟨b,o⟩:=bo;simp only[VR]at hy;obtain⟨s,_,rfl⟩:=hy;exact⟨fun op=>eqGuard_at_pointer _ _ _ _ _ _,fg fun d=>by simp[Op.equalIn,run_underlying hu],rfl,rfl⟩
 ·rename_i i e bo ht
  obtain⟨_,hu⟩:=hE.ty _ _ _ ht;obtain⟨b,o⟩:=bo;simp only[VR]at hx hy;obtain⟨s,_,rfl⟩:=hx;subst hy;simp only[aop]at h;subst h;exact⟨fun op=>eqGuard_at_pointer _ _ _ _ _ _,fg fun d=>by simp[Op.equalIn,run_underlying hu],rfl,rfl⟩
 ·rename_i i e c1 c2 ht
  obtain⟨_,hu⟩:=hE.ty _ _ _ ht;simp only[VR]at hx hy;obtain⟨_,rfl⟩:=hx;obtain⟨_,rfl⟩:=hy;simp only[aop]at h;subst h;exact⟨fun op=>eqGuard_at_slice _ _ _ _ _ _ _ _,fg fun d=>by simp[Op.equalIn,run_underlying hu],rfl,rfl⟩
 ·rename_i i e bo n1 c1 c2 ht
  obtain⟨_,hu⟩:=hE.ty _ _ _ ht;obtain⟨b,o⟩:=bo;obtain⟨s,cap,_,rfl⟩:=VR.VM hx;simp only[VR]at hy;obtain⟨_,rfl⟩:=hy;simp only[aop]at h;subst h;exact⟨fun op=>eqGuard_at_slice _ _ _ _ _ _ _ _,fg fun d=>by simp[Op.equalIn,run_underlying hu],rfl,rfl⟩
 ·rename_i i k e b ht
  obtain⟨_,hu⟩:=hE.ty _ _ _ ht;simp only[VR]at hx;subst hx;simp only[aop]at h;subst h;cases b with
  |none=>
   simp only[VR]at hy;subst hy;exact⟨fun op=>eqGuard_at_map _ _ _ _ _ _,fg fun d=>by simp[Op.equalIn,run_underlying hu],rfl,rfl⟩
  |some b=>
   simp only[VR]at hy;obtain⟨s,_,rfl⟩:=hy;exact⟨fun op=>eqGuard_at_map _ _ _ _ _ _,fg fun d=>by simp[Op.equalIn,run_underlying hu],rfl,rfl⟩
 ·rename_i i k e b ht
  obtain⟨_,hu⟩:=hE.ty _ _ _ ht;simp only[VR]at hx hy;obtain⟨s,_,rfl⟩:=hx;subst hy;simp only[aop]at h;subst h;exact⟨fun op=>eqGuard_at_map _ _ _ _ _ _,fg fun d=>by simp[Op.equalIn,run_underlying hu],rfl,rfl⟩
 ·rename_i i a b c ht
  obtain⟨_,hu⟩:=hE.ty _ _ _ ht;simp only[VR]at hx hy;subst hx;subst hy;simp only[aop]at h;subst h;exact⟨fun op=>eqGuard_at_nilFunc _ _ _ _ _,fg fun d=>by simp[Op.equalIn,run_underlying hu],rfl,rfl⟩
 ·rename_i i a b c fn f1 f2 ht
  obtain⟨_,hu⟩:=hE.ty _ _ _ ht;simp only[VR]at hx hy;obtain⟨_,_,rfl,_⟩:=hx;subst hy;simp only[aop]at h;subst h;exact⟨fun op=>eqGuard_at_func _ _ _ _ _ _ _ _,fg fun d=>by simp[Op.equalIn,run_underlying hu],rfl,rfl⟩
 ·rename_i i a b c ht
  obtain⟨_,hu⟩:=hE.ty _ _ _ ht;simp only[VR]at hx hy;obtain⟨_,rfl,_⟩:=hx;subst hy;simp only[aop]at h;subst h;exact⟨fun op=>eqGuard_at_iface _ _ _ _ _ _ _,fg fun d=>by simp[Op.equalIn,run_underlying hu],rfl,rfl⟩
 ·cases h
def PI(op:BinOp)(x y:V):Option V:=match x,y with
 |.i k a,.i k' b=>cond (decide (k=k')) (Ip op k a b) none
 |.s a,.s b=>VO op a b
 |_,_=>none
theorem PJ(op:BinOp)(t:TypeId)(ox oy:Operand){x:V}(hx:VR φ x vx)(hy:VR φ y vy){r:V}(h:PI op x y=some r)(w:World):
  ∃v,(do eqGuard op t ox oy vx vy;binOp op t vx vy:Sem Value).run P w=.ok v w/\VR φ r v:=by
 unfold PI at h;split at h
 ·rename_i k a k' b
  by_cases hk:k=k'
  ·subst hk
   simp only[decide_true,cond]at h;simp only[VR]at hx hy;subst hx;subst hy;exact Ng _ _ _ _ _ _ _ h w
  ·rw[decide_eq_false hk]at h;cases h
 ·simp only[VR]at hx hy;obtain⟨rfl,ha⟩:=hx;obtain⟨rfl,l8⟩:=hy
  exact K4 _ _ _ _ ha l8 h w
 ·cases h
def yD(op:BinOp)(x y:V):Option V:=match x,y with
 |.i k a,.i _ b=>Iq op k a b
 |_,_=>none
theorem zo(op:BinOp)(t:TypeId)(ox oy:Operand){x:V}(hx:VR φ x vx)(hy:VR φ y vy){r:V}(h:yD op x y=some r)(w:World):
  ∃v,(do eqGuard op t ox oy vx vy;binOp op t vx vy:Sem Value).run P w=.ok v w/\VR φ r v:=by
 unfold yD at h;split at h
 ·simp only[VR]at hx hy;subst hx;subst hy
  exact Nh _ _ _ _ _ _ _ _ h w
 ·cases h
def Fm(E:Env)(op:BinOp)(x y:V):Option V:=match x,y with
 |.s a,.s b=>VO op a b
 |x,y=>aa8 E op x y
theorem qA(hb:BD E φ)(op:BinOp)(t:TypeId)(ox oy:Operand){x:V}(hx:VR φ x vx)(hy:VR φ y vy){r:V}(h:Fm E op x y=some r)(w:World):
  ∃v,(do eqGuard op t ox oy vx vy;binOp op t vx vy:Sem Value).run E.P w=.ok v w/\VR φ r v:=by
 unfold Fm at h;split at h
 ·simp only[VR]at hx hy;obtain⟨rfl,ha⟩:=hx;obtain⟨rfl,l8⟩:=hy
  exact K4 _ _ _ _ ha l8 h w
 ·exact VN hb _ t ox oy hx hy h w
def PK(E:Env)(op:BinOp)(t:TypeId)(x y:V):Option V:=match op with
 |.shl=>yD .shl x y
 |.shr=>yD .shr x y
 |.eql=>
  match Fm E .eql x y with
  |some r=>some r
  |none=>
   match yC E t x y with
   |some r=>some (.b r)
   |none=>none
 |.neq=>
  match Fm E .neq x y with
  |some r=>some r
  |none=>
   match yC E t x y with
   |some r=>some (.b (!r))
   |none=>none
 |.lss=>Fm E .lss x y
 |.leq=>Fm E .leq x y
 |.gtr=>Fm E .gtr x y
 |.geq=>Fm E .geq x y
 |op=>PI op x y
theorem PL(hE:E.OK)(hb:BD E φ)(op:BinOp)(t:TypeId)(ox oy:Operand){x:V}(hx:VR φ x vx)(hy:VR φ y vy){r:V}(h:PK E op t x y=some r)(w:World):
  ∃v,(do eqGuard op t ox oy vx vy;binOp op t vx vy:Sem Value).run E.P w=.ok v w/\VR φ r v:=by
 unfold PK at h;split at h
 ·exact zo _ _ _ _ hx hy h w
 ·exact zo _ _ _ _ hx hy h w
 ·split at h
  ·rename_i q hq
   simp only[aop]at h;subst h;exact qA hb _ t ox oy hx hy hq w
  ·split at h
   ·rename_i q hq
    simp only[aop]at h;subst h;obtain⟨h1,h2,h3,_⟩:=zn hE t hx hy hq w ox oy;exact⟨.bool q,by rw[h1,h3];simp[h2],by simp only[VR]⟩
   ·cases h
 ·split at h
  ·rename_i q hq
   simp only[aop]at h;subst h;exact qA hb _ t ox oy hx hy hq w
  ·split at h
   ·rename_i q hq
    simp only[aop]at h;subst h;obtain⟨h1,h2,_,h3⟩:=zn hE t hx hy hq w ox oy;exact⟨.bool (!q),by rw[h1,h3];simp[h2],by simp only[VR]⟩
   ·cases h
 ·exact qA hb _ t ox oy hx hy h w
 ·exact qA hb _ t ox oy hx hy h w
 ·exact qA hb _ t ox oy hx hy h w
 ·exact qA hb _ t ox oy hx hy h w
 ·exact PJ _ _ _ _ hx hy h w
def aa9(E:Env)(op:BinOp)(t:TypeId)(x y:V):Option V:=match E.bin op x y with
 |some r=>some r
 |none=>PK E op t x y
theorem VP(hE:E.OK)(hb:BD E φ)(op:BinOp)(t:TypeId)(ox oy:Operand){x:V}(hx:VR φ x vx)(hy:VR φ y vy){r:V}(h:aa9 E op t x y=some r)(w:World):
  ∃v,(do eqGuard op t ox oy vx vy;binOp op t vx vy:Sem Value).run E.P w=.ok v w/\VR φ r v:=by
 unfold aa9 at h;split at h
 ·rename_i q hq
  simp only[aop]at h;subst h;exact hb.here.bin _ _ _ _ hq t ox oy vx vy w hx hy
 ·exact PL hE hb op t ox oy hx hy h w
def aUn(op:UnOp)(x:V):Option V:=match op,x with
 |.not,.b a=>some (.b (!a))
 |.neg,.i k n=>some (.i k (pt k (0-n)))
 |.xor,.i k n=>some (.i k (bits .xor k (if k.signed then-1 else k.max) n))
 |_,_=>none
theorem aba{P:Program}(op:UnOp){x:V}{v:Value}(hx:VR φ x v){r:V}(h:aUn op x=some r)(w:World):∃u,(Op.unary op v).run P w=.ok u w/\VR φ r u:=by
 unfold aUn at h;split at h
 ·simp only[VR]at hx;subst hx
  simp only[aop]at h;subst h;exact⟨_,by simp[Op.unary];rfl,by simp only[VR]⟩
 ·simp only[VR]at hx;subst hx
  simp only[aop]at h;subst h;exact⟨_,by simp[Op.unary,Op.intArith];rfl,by simp only[VR,kJ];simp⟩
 ·simp only[VR]at hx;subst hx
  simp only[aop]at h;subst h;exact⟨_,by simp only[Op.unary,intBits_xor];rfl,by simp only[VR]⟩
 ·cases h
def K5(E:Env)(src dst:TypeId)(x:V):Option V:=match E.tt src,E.tt dst,x with
 |some _,some (_,.int k),.i _ n=>some (.i k (pt k n))
 |some _,some (_,.int k),.y _ x=>
  match E.bd x with
  |some (lo,hi)=>cond (cZ k lo&&cZ k hi) (some (.y k x)) none
  |none=>none
 |some _,some (_,.string),.s l=>some (.s l)
 |_,_,_=>none
def zp(E:Env)(t:TypeId)(x i:V)(h:H):Option (V×H):=match E.tt t,x,i with
 |some (_,.string),.s l,.i _ k=>
  match Y7 k l.length with
  |some j=>
   match l[j]?with
   |some c=>some (.i .u8 (.ofNat c),h)
   |none=>none
  |none=>none
 |some (_,.array n e),.a cs,.i _ k=>
  match E.tt e,Y7 k n with
  |some (ie,_),some j=>
   match xH E e cs (j*ie.size)with
   |some y=>some (y,h)
   |none=>none
  |_,_=>none
 |_,_,_=>none
theorem Nj(l:List Nat)(hl:∀x∈l,x<256)(j:Nat)(c:Nat)(hc:l[j]? =some c):∃b:UInt8,(bytes l)[j]? =some b/\b.toNat=c:=by
 refine⟨arK c,?_,?_⟩
 ·have bf:j<l.length:=by
   rcases Nat.lt_or_ge j l.length with h|h
   ·exact h
   ·rw[List.getElem?_eq_none h]at hc;cases hc
  have hg:l[j]=c:=by rw[List.getElem?_eq_getElem bf]at hc;simpa using hc
  have hs:j<(bytes l).size:=by rw[du];exact bf
  rw[getElem?_pos (bytes l) j hs]
  congr 1
  show(bytes l).data[j]'_=_;simp[bytes,hg]
 ·have:c<256:=hl c (List.mem_of_getElem? hc)
  simp[arP this]
theorem Nk(hE:E.OK){w:World}(hr:HR φ h w)(t:TypeId){x i:V}{v vi:Value}(hx:VR φ x v)(hi:VR φ i vi):
  Yields E.P φ w (do pure (.value (<-Instr.index t v vi))) (zp E t x i h):=by
 unfold zp;split
 ·rename_i it l kk k ht
  obtain⟨_,hu⟩:=hE.ty _ _ _ ht;simp only[VR]at hx hi;obtain⟨rfl,hl⟩:=hx;subst hi;split
  ·rename_i j hj
   obtain⟨rfl,bf⟩:=sf hj;split
   ·rename_i c hc
    obtain⟨b,hb,hbc⟩:=Nj l hl j c hc;refine Yields.pure hr (v:=.int .u8 c) ?_ (by simp only[VR];rfl);have h0:(0:Int)<=(j:Int):=by omega
    simp[Instr.index,asIntOf,run_underlying hu,h0,hb,hbc]
   ·exact Yields.none
  ·exact Yields.none
 ·rename_i it n e cs kk k ht
  obtain⟨_,hu⟩:=hE.ty _ _ _ ht;simp only[VR]at hx hi;obtain⟨vs,rfl,hc⟩:=hx;subst hi;split
  ·rename_i ie de j he hj
   obtain⟨rfl,bf⟩:=sf hj;split
   ·rename_i y hy
    obtain⟨u,h1,h2⟩:=po hE w e hc _ hy;refine Yields.pure hr (v:=u) ?_ h2;have PE:(0:Int)<=(j:Int)/\(j:Int)<(n:Int):=⟨by omega,by omega⟩;simp only[Instr.index,asIntOf,Sem.run_bind,Sem.run_pure,Result.andThen_ok,run_underlying hu];rw[if_pos PE];simp[run_sizeOf (hE.ty _ _ _ he).1,h1]
   ·exact Yields.none
  ·exact Yields.none
 ·exact Yields.none
end
noncomputable section
def eqZ:Int->Int->Bool
 |.ofNat a,.ofNat b=>arE a b
 |.negSucc a,.negSucc b=>arE a b
 |_,_=>false
theorem abb(x y:Int):eqZ x y=(x==y):=by
 cases x<;>cases y<;>simp[eqZ]
 ·rename_i a b
  cases h:arE a b with
  |true=>rw[AAA h];simp
  |false=>
   have:a≠b:=fun e=>by rw[e,asg]at h;cases h
   symm;simp;omega
 ·rename_i a b
  cases h:arE a b with
  |true=>rw[AAA h];simp
  |false=>
   have:a≠b:=fun e=>by rw[e,asg]at h;cases h
   symm;simp;omega
def Ci(E:Env)(eq:TypeId->V->V->Option Bool):List Field->List V->List V->Option Bool
 |[],_,_=>some true
 |f::fs,xs,ys=>
  match xH E f.type xs f.offset,xH E f.type ys f.offset with
  |some x,some y=>
   match eq f.type x y with
   |some true=>Ci E eq fs xs ys
   |some false=>some false
   |none=>none
  |_,_=>none
def aEq(E:Env):Nat->TypeId->V->V->Option Bool
 |0,_,_,_=>none
 |d+1,t,x,y=>
  match E.tt t with
  |some (_,.int _)=>
   match x,y with
   |.i k a,.i k' b=>cond (decide (k=k')) (some (eqZ a b)) none
   |_,_=>none
  |some (_,.string)=>
   match x,y with
   |.s a,.s b=>some (Y8 a b)
   |_,_=>none
  |some (_,.bool)=>
   match x,y with
   |.b a,.b b=>some (cond a b (!b))
   |_,_=>none
  |some (_,.struct fs)=>
   match x,y with
   |.a xs,.a ys=>cond (E.hl t) (Ci E (aEq E d) fs.toList xs ys) none
   |_,_=>none
  |_=>none
theorem pw{E:Env}(hE:E.OK){φ:Ren}{eq:TypeId->V->V->Option Bool}{D:Nat}(w:World)(heq:∀t x y r,eq t x y=some r->∀vx vy,VR φ x vx->VR φ y vy->(Op.equalIn D t vx vy).run E.P w=.ok r w)
  {xs ys:List V}{vx vy:Array Value}(hx:J φ xs vx.toList)(hy:J φ ys vy.toList):∀(fs:List Field) (r:Bool),(∀f∈fs,f.name≠ "_")->Ci E eq fs xs ys=some r->(Op.eqFields D vx vy fs).run E.P w=.ok r w
 |[],r,_,h=>by
  simp only[Ci,aop]at h;subst h;simp[Op.eqFields]
 |f::fs,r,hn,h=>by
  simp only[Ci]at h;have hf:=hn f (by simp);split at h
  ·rename_i x y h1 h2
   obtain⟨u,p1,p2⟩:=po hE w f.type hx f.offset h1;obtain⟨v,q1,q2⟩:=po hE w f.type hy f.offset h2;split at h
   ·rename_i he
    have e:=heq _ _ _ _ he u v p2 q2;have ih:=pw hE w heq hx hy fs r (fun g hg=>hn g (by simp[hg])) h;simp[Op.eqFields,hf,p1,q1,e,ih]
   ·rename_i he
    simp only[aop]at h;subst h;have e:=heq _ _ _ _ he u v p2 q2;simp[Op.eqFields,hf,p1,q1,e]
   ·cases h
  ·cases h
theorem Dj{E:Env}(hE:E.OK){φ:Ren}(w:World):∀(d:Nat) (t:TypeId) (x y:V) (r:Bool),aEq E d t x y=some r->∀D vx vy,VR φ x vx->VR φ y vy->(Op.equalIn (D+d) t vx vy).run E.P w=.ok r w
 |0,t,x,y,r,h=>by simp[aEq]at h
 |d+1,t,x,y,r,h=>by
  intro D vx vy hx hy;simp only[aEq]at h;split at h
  ·rename_i i k ht
   obtain⟨_,hu⟩:=hE.ty _ _ _ ht;split at h
   ·rename_i k1 a k2 b
    by_cases hk:k1=k2
    ·subst hk
     simp only[decide_true,cond,aop]at h;subst h;simp only[VR]at hx hy;subst hx;subst hy;rw[abb];exact run_equalIn_int w (D+d) t k1 k a b hu
    ·rw[decide_eq_false hk]at h;cases h
   ·cases h
  ·rename_i i ht
   obtain⟨_,hu⟩:=hE.ty _ _ _ ht;split at h
   ·rename_i a b
    simp only[aop]at h;subst h;simp only[VR]at hx hy;obtain⟨rfl,ha⟩:=hx;obtain⟨rfl,hb⟩:=hy;have:=run_equalIn_string w (P:=E.P) (D+d) t (bytes a) (bytes b) hu;rw[iw,iw,Ir a b ha hb]at this;exact this
   ·cases h
  ·rename_i i ht
   obtain⟨_,hu⟩:=hE.ty _ _ _ ht;split at h
   ·rename_i a b
    simp only[aop]at h;subst h;simp only[VR]at hx hy;subst hx;subst hy;have:=run_equalIn_bool' w (P:=E.P) (D+d) t a b hu;refine this.trans ?_;cases a<;>cases b<;>rfl
   ·cases h
  ·rename_i i fs ht
   obtain⟨_,hu⟩:=hE.ty _ _ _ ht;split at h
   ·rename_i xs ys
    cases hl:E.hl t with
    |false=>rw[hl]at h;cases h
    |true=>
     rw[hl]at h;simp only[cond]at h;obtain⟨l1,l2,l3⟩:=hE.hl t hl;simp only[VR]at hx hy;obtain⟨vx,rfl,gx⟩:=hx;obtain⟨vy,rfl,gy⟩:=hy;have hfo:E.P.fieldsOf t=fs:=by simp[Program.fieldsOf,hu]
     have:=run_equalIn_struct w (D+d) t vx vy (by rw[hfo];exact hu) l1;rw[hfo]at this;rw[show D+(d+1)=D+d+1 from rfl,this];exact pw hE w (fun t' x' y' r' h' vx' vy' a b=>Dj hE w d t' x' y' r' h' D vx' vy' a b) gx gy fs.toList r (fun f hf=>l3 fs hu f hf) h
   ·cases h
  ·cases h
def ikV:V->Option IntKind
 |.i k _=>some k
 |.y k _=>some k
 |_=>none
def Nl(E:Env):V->Bool
 |.s _=>true
 |.q x=>E.qs x
 |_=>false
def abc(E:Env)(t:TypeId)(x y:V):Option Bool:=match E.bin .eql x y with
 |some (.b r)=>
  match E.tt t with
  |some (_,.int _)=>
   match ikV x,ikV y with
   |some k,some k'=>cond (decide (k=k')) (some r) none
   |_,_=>none
  |some (_,.string)=>cond (Nl E x&&Nl E y) (some r) none
  |_=>none
 |_=>none
theorem PM{x:V}{k:IntKind}(h:ikV x=some k){v:Value}(hv:VR φ x v):∃n,v=.int k n:=by
 cases x<;>simp only[ikV]at h<;>first|(cases h;done)|skip
 ·cases h;simp only[VR]at hv;exact⟨_,hv⟩
 ·cases h;simp only[VR]at hv;exact⟨_,hv⟩
theorem K6(hb:BD E φ){x:V}(h:Nl E x=true){v:Value}(hv:VR φ x v):∃s,v=.string s:=by
 cases x<;>simp only[Nl]at h<;>first|(cases h;done)|skip
 ·obtain⟨s,hs⟩:=hb.here.qs _ h
  simp only[VR]at hv;exact⟨s,by rw[hv.1];exact hs⟩
 ·simp only[VR]at hv;exact⟨_,hv.1⟩
theorem VQ(hE:E.OK)(hb:BD E φ)(w:World){t:TypeId}{x:V}{r:Bool}(h:abc E t x y=some r)(D:Nat)(hx:VR φ x vx)(hy:VR φ y vy):(Op.equalIn (D+1) t vx vy).run E.P w=.ok r w:=by
 unfold abc at h;split at h
 ·rename_i r' hf
  obtain⟨v,hv,Io⟩:=hb.here.bin _ _ _ _ hf t (.const .nilIface) (.const .nilIface) vx vy w hx hy;simp only[VR]at Io;subst Io;split at h
  ·rename_i i k ht
   obtain⟨_,hu⟩:=hE.ty _ _ _ ht;split at h
   ·rename_i k1 k2 e1 e2
    by_cases hk:k1=k2
    ·subst hk
     simp only[decide_true,cond,aop]at h;subst h;obtain⟨p,rfl⟩:=PM e1 hx;obtain⟨q,rfl⟩:=PM e2 hy;simp[eqGuard_at_int,binOp_eql]at hv;rw[<-hv];exact run_equalIn_int w D t k1 k p q hu
    ·rw[decide_eq_false hk]at h;cases h
   ·cases h
  ·rename_i i ht
   obtain⟨_,hu⟩:=hE.ty _ _ _ ht;cases hq:Nl E x&&Nl E y with
   |false=>rw[hq]at h;cases h
   |true=>
    rw[hq]at h;simp only[cond,aop]at h;subst h;simp only[arG]at hq;obtain⟨p,rfl⟩:=K6 hb hq.1 hx;obtain⟨q,rfl⟩:=K6 hb hq.2 hy;simp[eqGuard_at_string,binOp,Op.stringOp]at hv;rw[<-hv];exact run_equalIn_string w D t p q hu
  ·cases h
 ·cases h
def Nn(E:Env):Nat->TypeId->V->V->Option Bool
 |0,_,_,_=>none
 |d+1,t,x,y=>
  match aEq E 5 t x y with
  |some r=>some r
  |none=>
   match abc E t x y with
   |some r=>some r
   |none=>
    match E.tt t with
    |some (_,.struct fs)=>
     match x,y with
     |.a xs,.a ys=>cond (E.hl t) (Ci E (Nn E d) fs.toList xs ys) none
     |_,_=>none
    |_=>none
theorem Dk{E:Env}(hE:E.OK){φ:Ren}(hb:BD E φ)(w:World):∀(d:Nat) (t:TypeId) (x y:V) (r:Bool),Nn E d t x y=some r->∀D vx vy,VR φ x vx->VR φ y vy->(Op.equalIn (D+5+d) t vx vy).run E.P w=.ok r w
 |0,t,x,y,r,h=>by simp[Nn]at h
 |d+1,t,x,y,r,h=>by
  intro D vx vy hx hy;simp only[Nn]at h;split at h
  ·rename_i q hq
   simp only[aop]at h;subst h;have:=Dj hE w 5 t x y q hq (D+d+1) vx vy hx hy;rwa[show D+d+1+5=D+5+(d+1)by omega]at this
  split at h
  ·rename_i q hq
   simp only[aop]at h;subst h;exact VQ hE hb w hq (D+5+d) hx hy
  split at h
  ·rename_i i fs ht
   obtain⟨_,hu⟩:=hE.ty _ _ _ ht;split at h
   ·rename_i xs ys
    cases hl:E.hl t with
    |false=>rw[hl]at h;cases h
    |true=>
     rw[hl]at h;simp only[cond]at h;obtain⟨l1,l2,l3⟩:=hE.hl t hl;simp only[VR]at hx hy;obtain⟨vx,rfl,gx⟩:=hx;obtain⟨vy,rfl,gy⟩:=hy;have hfo:E.P.fieldsOf t=fs:=by simp[Program.fieldsOf,hu]
     have:=run_equalIn_struct w (D+5+d) t vx vy (by rw[hfo];exact hu) l1;rw[hfo]at this;rw[show D+5+(d+1)=D+5+d+1 from rfl,this];exact pw hE w (fun t' x' y' r' h' vx' vy' a b=>Dk hE hb w d t' x' y' r' h' D vx' vy' a b) gx gy fs.toList r (fun f hf=>l3 fs hu f hf) h
   ·cases h
  ·cases h
def Is(E:Env)(op:BinOp)(t:TypeId)(x y:V):Option V:=match op,x,y with
 |.eql,.a xs,.a ys=>
  cond (E.hl t)
   (match Nn E 4 t (.a xs) (.a ys)with
   |some r=>some (.b r)
   |none=>none) none
 |.neq,.a xs,.a ys=>
  cond (E.hl t)
   (match Nn E 4 t (.a xs) (.a ys)with
   |some r=>some (.b (!r))
   |none=>none) none
 |_,_,_=>none
theorem Np(hE:E.OK)(hb:BD E φ)(op:BinOp)(t:TypeId)(ox oy:Operand){x:V}(hx:VR φ x vx)(hy:VR φ y vy){r:V}(h:Is E op t x y=some r)(w:World):
  ∃v,(do eqGuard op t ox oy vx vy;binOp op t vx vy:Sem Value).run E.P w=.ok v w/\VR φ r v:=by
 unfold Is at h;split at h
 ·rename_i xs ys
  cases hl:E.hl t with
  |false=>rw[hl]at h;cases h
  |true=>
   rw[hl]at h;simp only[cond]at h;obtain⟨l1,l2,l3⟩:=hE.hl t hl;split at h
   ·rename_i q hq
    simp only[aop]at h;subst h;have e:=Dk hE hb w 4 t _ _ q hq 9991 vx vy hx hy;simp only[VR]at hx hy;obtain⟨vx,rfl,gx⟩:=hx;obtain⟨vy,rfl,gy⟩:=hy;exact⟨.bool q,by simp[run_eqGuard_agg w _ t ox oy vx vy l2,run_eql_struct,e],by simp only[VR]⟩
   ·cases h
 ·rename_i xs ys
  cases hl:E.hl t with
  |false=>rw[hl]at h;cases h
  |true=>
   rw[hl]at h;simp only[cond]at h;obtain⟨l1,l2,l3⟩:=hE.hl t hl;split at h
   ·rename_i q hq
    simp only[aop]at h;subst h;have e:=Dk hE hb w 4 t _ _ q hq 9991 vx vy hx hy;simp only[VR]at hx hy;obtain⟨vx,rfl,gx⟩:=hx;obtain⟨vy,rfl,gy⟩:=hy;exact⟨.bool (!q),by simp[run_eqGuard_agg w _ t ox oy vx vy l2,run_neq_struct,e],by simp only[VR]⟩
   ·cases h
 ·cases h
def K7(E:Env)(op:BinOp)(t:TypeId)(x y:V):Option V:=match aa9 E op t x y with
 |some r=>some r
 |none=>Is E op t x y
theorem PN(hE:E.OK)(hb:BD E φ)(op:BinOp)(t:TypeId)(ox oy:Operand){x:V}(hx:VR φ x vx)(hy:VR φ y vy){r:V}(h:K7 E op t x y=some r)(w:World):
  ∃v,(do eqGuard op t ox oy vx vy;binOp op t vx vy:Sem Value).run E.P w=.ok v w/\VR φ r v:=by
 unfold K7 at h;split at h
 ·rename_i q hq
  simp only[aop]at h;subst h;exact VP hE hb op t ox oy hx hy hq w
 ·exact Np hE hb op t ox oy hx hy h w
end
noncomputable section
theorem HR.rename{w:World}(hr:HR φ h w){r:Nat}(hb:φ b=some r)(hl:(h.get b).live):
  HR (up φ h.n r (φ.n b)) ((h.set b .gone).new (h.get b)) w/\Ext φ w (up φ h.n r (φ.n b)) w:=by
 have hle:Le φ (up φ h.n r (φ.n b)):=jr hr.fresh;have yE:b≠h.n:=fun e=>hr.fresh r (e▸hb)
 have fb:∀c s,up φ h.n r (φ.n b) c=some s->(c=h.n/\s=r)\/(c≠h.n/\φ c=some s):=fun c s e=>by
  simp only[up]at e
  by_cases hc:c=h.n
  ·rw[if_pos hc]at e;cases e;exact .inl ⟨hc,rfl⟩
  ·rw[if_neg hc]at e;exact .inr ⟨hc,e⟩
 have dZ:∀c,((h.set b .gone).new (h.get b)).get c=if c=h.n then h.get b else if c=b then .gone else h.get c:=fun c=>by
  rw[H.gD]
  by_cases hc:c=h.n
  ·rw[if_pos (show c=(h.set b .gone).n from hc),if_pos hc]
  ·rw[if_neg (show ¬c=(h.set b .gone).n from hc),if_neg hc,H.bg]
 refine⟨⟨by simp[up,hr.iL],fun c s e=> ?_,fun c s e hc=> ?_,fun c c' s e e' hc nK=> ?_,fun s o' hk=>⟨(hr.kp s o' hk).1,fun c e=> ?_⟩⟩,⟨hle,Nat.le_succ _,fun c s e=> ?_,fun c s e=> ?_,arT _,rfl,rfl,rfl,fun _ _ _=>rfl⟩⟩
 rotate_left 3
 ·rw[dZ]
  rcases fb c s e with⟨h1,h2⟩|⟨hcn,e1⟩
  ·rw[if_pos h1];exact(hr.kp s o' hk).2 b (h2▸hb)
  ·rw[if_neg hcn]
   by_cases ph:c=b
   ·rw[if_pos ph];exact id
   ·rw[if_neg ph];exact(hr.kp s o' hk).2 c e1
 ·rcases fb c s e with⟨rfl,_⟩|⟨_,e⟩
  ·exact .inr (by rw[hr.iL];exact arT _)
  ·exact .inl e
 rotate_left 1
 ·rcases fb c s e with⟨rfl,rfl⟩|⟨_,e⟩
  ·exact⟨by simp,(hr.lM _ _ hb).2⟩
  ·have:=hr.lM c s e
   exact⟨by simp only[H.Y3,H.xF];omega,this.2⟩
 ·rw[dZ]at hc⊢
  rcases fb c s e with⟨rfl,rfl⟩|⟨hcn,e⟩
  ·rw[if_pos rfl]at hc⊢
   obtain⟨o,h1,h2⟩:=hr.ew b _ hb hl;have hN:(up φ h.n s (φ.n b)).n h.n=φ.n b:=by simp[up]
   exact⟨o,h1,by rw[hN];exact h2.mono hle⟩
  ·rw[if_neg hcn]at hc⊢
   by_cases ph:c=b
   ·rw[if_pos ph]at hc;exact hc.elim
   ·rw[if_neg ph]at hc⊢
    obtain⟨o,h1,h2⟩:=hr.ew c s e hc;exact⟨o,h1,by rw[(hle c s e).2];exact h2.mono hle⟩
 ·rw[dZ]at hc nK
  rcases fb c s e with⟨h1,h2⟩|⟨hcn,e1⟩
  ·rcases fb c' s e' with⟨h3,_⟩|⟨abd,e2⟩
   ·rw[h1,h3]
   ·rw[if_neg abd]at nK
    by_cases ph:c'=b
    ·rw[if_pos ph]at nK;exact nK.elim
    ·rw[if_neg ph]at nK
     exact absurd (hr.inj c' b s e2 (h2▸hb) nK hl) ph
  ·rw[if_neg hcn]at hc
   by_cases ph:c=b
   ·rw[if_pos ph]at hc;exact hc.elim
   ·rw[if_neg ph]at hc
    rcases fb c' s e' with⟨_,h2⟩|⟨abd,e2⟩
    ·exact absurd (hr.inj c b s e1 (h2▸hb) hc hl) ph
    ·rw[if_neg abd]at nK
     by_cases yj:c'=b
     ·rw[if_pos yj]at nK;exact nK.elim
     ·rw[if_neg yj]at nK
      exact hr.inj c c' s e1 e2 hc nK
 ·rcases fb c s e with⟨_,rfl⟩|⟨_,e⟩
  ·exact .inl ⟨b,hb⟩
  ·exact .inl ⟨c,e⟩
theorem iy:∀(vs l:List Value) (o:Nat),(gF l o vs).length=l.length
 |[],_,_=>rfl
 |v::vs,l,o=>by simp[gF,iy vs]
theorem ka:∀(vs l:List Value) (o:Nat),o+vs.length<=l.length->(gF l o vs).take (o+vs.length)=l.take o++vs
 |[],l,o,_=>by simp[gF]
 |v::vs,l,o,hle=>by
  simp only[List.length_cons]at hle;have ih:=ka vs (l.set o v) (o+1) (by simp;omega);rw[gF,List.length_cons,show o+(vs.length+1)=o+1+vs.length by omega,ih];have:(l.set o v).take (o+1)=l.take o++[v]:=by
   rw[List.take_succ_eq_append_getElem (by simp;omega),List.take_set,List.set_eq_of_length_le (by simp;omega)];simp
  rw[this,asd];rfl
theorem jk(g:Nat)(t:TypeId)(fr:Nat×Nat):∀(vs:List Value) (o:Nat) (w:World) (cur:Array Value),w.heap[g]? =some (.cells cur t fr)->
  (∃nM,(w.setCells g o vs).heap[g]? =some (.cells nM t fr)/\nM.toList=gF cur.toList o vs)/\(∀s,s≠g->(w.setCells g o vs).heap[s]? =w.heap[s]?)/\
  (w.setCells g o vs).heap.size=w.heap.size/\(w.setCells g o vs).os=w.os/\(w.setCells g o vs).tape=w.tape/\(w.setCells g o vs).output=w.output
 |[],o,w,cur,h=>⟨⟨cur,h,rfl⟩,fun _ _=>rfl,rfl,rfl,rfl,rfl⟩
 |v::vs,o,w,cur,h=>by
  have h1:(w.setCell ⟨g,o,none⟩ v).heap[g]? =some (.cells (cur.setIfInBounds o v) t fr):=by simp[asj,asm,h]
  obtain⟨⟨nM,h2,h3⟩,h4,h5,h6,h7,h8⟩:=jk g t fr vs (o+1) (w.setCell ⟨g,o,none⟩ v) (cur.setIfInBounds o v) h1;refine⟨⟨nM,h2,by rw[h3];simp[gF]⟩,fun s hs=> ?_,?_,h6,h7,h8⟩
  ·show((w.setCell ⟨g,o,none⟩ v).setCells g (o+1) vs).heap[s]? =_
   rw[h4 s hs];simp only[asj,asm];rw[if_neg (fun e=>hs e.symm)]
  ·show((w.setCell ⟨g,o,none⟩ v).setCells g (o+1) vs).heap.size=_
   rw[h5];simp[asj]
def VS(E:Env)(sz:Nat)(xt:TypeId)(x:V)(h:H):Option (Nat×List V):=match E.tt xt,x with
 |some (_,.slice _),.sl (some (b,o)) n _=>
  match h.get b with
  |.cells l _ _=>cond (arI (o+n*sz) l.length&&((l.drop o).take (n*sz)).all jL) (some (n,(l.drop o).take (n*sz))) none
  |.rc l _=>cond (arI (o+n*sz) l.length&&((l.drop o).take (n*sz)).all jL) (some (n,(l.drop o).take (n*sz))) none
  |_=>none
 |some (_,.slice _),.sl none 0 _=>some (0,[])
 |some (_,.slice _),.es=>some (0,[])
 |some (_,.string),.s l=>cond (arE sz 1) (some (l.length,l.map fun c=>.i .u8 (.ofNat c))) none
 |_,_=>none
theorem zq{φ:Ren}:∀{cs:List V} {vs:List Value},J φ cs vs->cs.all jL=true->∀u∈vs,u.oneCell'=true
 |[],vs,h,_,u,hu=>by simp only[J]at h;subst h;cases hu
 |c::cs,vs,h,ha,u,hu=>by
  simp only[J]at h;obtain⟨y,ys,rfl,h1,h2⟩:=h;simp only[List.all_cons,arG]at ha;rcases List.mem_cons.1 hu with rfl|hu
  ·exact mG h1 ha.1
  ·exact zq h2 ha.2 u hu
theorem tK{φ:Ren}:∀(l:List Nat),(∀x∈l,x<256)->J φ (l.map fun c=>V.i .u8 (.ofNat c)) ((l.map arK).map fun b=>Value.int .u8 b.toNat)
 |[],_=>J.nil
 |c::l,h=>by
  refine J.cons ?_ (tK l fun x hx=>h x (arN _ hx));simp only[VR];have:c<256:=h c arM;simp[arP this]
theorem K8(hE:E.OK){w:World}(hr:HR φ h w)(sz:Nat)(xt:TypeId){x:V}{v:Value}(hx:VR φ x v){n:Nat}{cs:List V}(hs:VS E sz xt x h=some (n,cs)):
  ∃news,Src E.P sz xt v n news w/\J φ cs news:=by
 unfold VS at hs;split at hs
 ·rename_i i e b o m c ht
  obtain⟨_,hu⟩:=hE.ty _ _ _ ht;obtain⟨r,cap,hb,rfl⟩:=VR.VM hx;split at hs
  ·rename_i l e' g hl
   cases hc:arI (o+m*sz) l.length&&((l.drop o).take (m*sz)).all jL with
   |false=>rw[hc]at hs;cases hs
   |true=>
    rw[hc]at hs;simp only[cond,aop,arH]at hs;obtain⟨rfl,rfl⟩:=hs;simp only[arG]at hc;have hle:o+m*sz<=l.length:=arC hc.1;obtain⟨vs,h1,h2,h3⟩:=hr.qz hb hl o (m*sz) hle;exact⟨vs,asp w hu ⟨r,o,none⟩ m cap vs h1 (fun j u hu=>by rw[ase];exact h3 j u hu) (zq h2 hc.2),h2⟩
  ·rename_i l e' hl
   cases hc:arI (o+m*sz) l.length&&((l.drop o).take (m*sz)).all jL with
   |false=>rw[hc]at hs;cases hs
   |true=>
    rw[hc]at hs;simp only[cond,aop,arH]at hs;obtain⟨rfl,rfl⟩:=hs;simp only[arG]at hc;have hle:o+m*sz<=l.length:=arC hc.1;obtain⟨vs,h1,h2,h3⟩:=hr.zf hb hl o (m*sz) hle;exact⟨vs,asp w hu ⟨r,o,none⟩ m cap vs h1 (fun j u hu=>by rw[ase];exact h3 j u hu) (zq h2 hc.2),h2⟩
  ·cases hs
 ·rename_i i e c ht
  obtain⟨_,hu⟩:=hE.ty _ _ _ ht;simp only[VR]at hx;obtain⟨_,rfl⟩:=hx;simp only[aop,arH]at hs;obtain⟨rfl,rfl⟩:=hs;exact⟨[],Src.ofNil w hu 0,J.nil⟩
 ·rename_i i e ht
  obtain⟨_,hu⟩:=hE.ty _ _ _ ht;simp only[VR]at hx;obtain⟨a,c,rfl⟩:=hx;simp only[aop,arH]at hs;obtain⟨rfl,rfl⟩:=hs;refine⟨[],?_,J.nil⟩;cases a with
  |none=>exact Src.ofNil w hu c
  |some a=>exact asp w hu a 0 c [] (by simp) (fun j u hu=>by simp at hu) (fun _ h=>by cases h)
 ·rename_i i l ht
  obtain⟨_,hu⟩:=hE.ty _ _ _ ht;simp only[VR]at hx;obtain⟨rfl,hl⟩:=hx;cases hc:arE sz 1 with
  |false=>rw[hc]at hs;cases hs
  |true=>
   rw[hc]at hs;simp only[cond,aop,arH]at hs;obtain⟨rfl,rfl⟩:=hs;have:sz=1:=AAA hc;subst this;refine⟨byteCells (bytes l),?_,?_⟩
   ·have:=asn w hu (bytes l)
    rwa[du]at this
   ·have:=tK (φ:=φ) l hl
    simpa[byteCells,bytes]using this
 ·cases hs
def Cj(i:TypeInfo)(e:TypeId)(len n:Nat)(px news:List V)(h:H):Option (V×H):=cond (arI ((len+n)*i.bytes) 140737488355328&&arI (len+n) 4611686018427387904) (some (.sl (some (h.n,0)) (len+n) (.un i.size),h.new (.cells (px++news) e true))) none
theorem kK(z:Array Value)(n:Nat):(arF z n).size=n*z.size:=by simp[arF]
theorem Dl{E:Env}{φ:Ren}{h:H}{w:World}(hr:HR φ h w)(t tx ty e:TypeId)(i:TypeInfo)(z:Value)(ht:E.P.underlying t=some (.slice e))(hi:E.P.info? e=some i)(hz:i.zero=some z)
  (O2:z.cells.size=i.size)(base:Option Addr)(len cap:Nat)(px:List V)(xI:List Value)(ho:J φ px xI)(km:px.length=len*i.size)
  (hold:(arQ i.size len (.slice base len cap)).run E.P w.drew=.ok xI.toArray w.drew)(x:Value)(n:Nat)(news:List V)(cW:List Value)(hs:Src E.P i.size tx x n cW w)(hn:J φ news cW)
  (hg:cap<len+n){y:V}{h':H}(hy:Cj i e len n px news h=some (y,h')):
  ∃af v w',(arJ #[t,tx] ty #[.slice base len cap,x]).run E.P w=.ok v w'/\Ext φ w af w'/\VR af y v/\HR af h' w':=by
 unfold Cj at hy;cases hc:arI ((len+n)*i.bytes) 140737488355328&&arI (len+n) 4611686018427387904 with
 |false=>rw[hc]at hy;cases hy
 |true=>
  rw[hc]at hy;simp only[cond,aop,arH]at hy;obtain⟨rfl,rfl⟩:=hy;simp only[arG]at hc;have h1:(len+n)*i.bytes<=140737488355328:=arC hc.1;have h2:len+n<=4611686018427387904:=arC hc.2;have ba:=run_append_grow_src (P:=E.P) w t tx ty e i z ht hi hz base len cap xI hold x n cW hs hg (by omega) (growslice_fits hg h1);have ic:len+n<=grownCap w (len+n) cap e:=by unfold grownCap;simp only[Question.cut];omega
  generalize hG:grownCap w (len+n) cap e=G at ba ic
  have VT:xI.length=len*i.size:=by rw[ho.length,km]
  have ym:cW.length=n*i.size:=hs.newsLen;let c:Array Value:=(xI++cW).toArray++arF z.cells (G-(len+n));have ib:c.size=G*i.size:=by
   show((xI++cW).toArray++arF z.cells (G-(len+n))).size=_;rw[asa,kK,O2];simp only[asb,arD,VT,ym];rw[<-arL,<-arL]
   congr 1;omega
  have Y9:(px++news).length=(len+n)*i.size:=by rw[arD,km,<-hn.length,ym,arL]
  have hle:Le φ (up φ h.n w.heap.size c.size):=jr hr.fresh;have E6:=(hr.drew (w.drawn+1)).alloc c.size (.cells (px++news) e true) (.cells c e) ⟨c,rfl,?_,?_,fun hf=>(by cases hf),rfl⟩
  ·refine⟨_,_,_,ba,(Ext.drew φ w (w.drawn+1)).trans E6.2,?_,E6.1⟩
   simp only[VR];refine⟨w.heap.size,G,by simp[up],ic,?_,rfl⟩;have:(up φ h.n w.heap.size c.size).n h.n=c.size:=by simp[up]
   rw[asf];exact ib.symm.trans this.symm
  ·have e1:c.toList.take (px++news).length=xI++cW:=by
    have:c.toList=(xI++cW)++(arF z.cells (G-(len+n))).toList:=by simp[c]
    rw[this,Y9,arR (by simp[VT,ym,arL]),arV (by simp[VT,ym,arL])]
   rw[e1];exact J.mono hle _ _ (ho.append hn)
  ·rw[Y9,ib];exact arO _ ic
end
variable{vs:Value}
noncomputable section
def aG(P:Program)(φ:Ren)(w:World)(s:Sem Value)(r:Option (V×H)):Prop:=∀x h',r=some (x,h')->∃af v w',s.run P w=.ok v w'/\Ext φ w af w'/\VR af x v/\HR af h' w'
theorem aG.none{P:Program}{φ:Ren}{w:World}{s:Sem Value}:aG P φ w s none:=fun _ _ e=>by cases e
theorem aG.pure{w:World}{s:Sem Value}(hr:HR φ h w){x:V}{v:Value}(hs:s.run P w=.ok v w)(hv:VR φ x v):aG P φ w s (some (x,h)):=fun y h' e=>by
 cases e;exact⟨φ,v,w,hs,Ext.refl φ w,hv,hr⟩
theorem aG.v8{w:World}{s:Sem Value}{r:Option (V×H)}(h:aG P φ w s r):Yields P φ w (s>>=fun v=>Pure.pure (Next.value v)) r:=fun x h' e=>by
 obtain⟨af,v,w',h1,h2,h3,h4⟩:=h x h' e;exact⟨af,v,w',.inl (by simp[h1]),h2,h3,h4⟩
theorem jl{w:World}{r o len cap sz:Nat}{vs:List Value}(hl:vs.length=len*sz)(hc:∀j v,vs[j]? =some v->w.cell? ⟨r,o+j,none⟩=some v):
  (arQ sz len (.slice (some ⟨r,o,none⟩) len cap)).run P w.drew=.ok vs.toArray w.drew:=
 run_firstCells_some w.drew sz len ⟨r,o,none⟩ len cap vs hl (fun j u hu=>by rw[ase];exact hc j u hu)
def zr(E:Env)(t tx:TypeId)(s x:V)(h:H):Option (V×H):=match E.tt t with
 |some (_,.slice e)=>
  match E.tt e with
  |some (i,_)=>
   match i.zero,VS E i.size tx x h with
   |some z,some (n,news)=>
    cond (arE z.cells.size i.size)
     (match s with
     |.sl none 0 _=>cond (arE n 0) (some (.sl none 0 (.kn 0),h)) (Cj i e 0 n [] news h)
     |.sl (some (b,o)) len (.kn c)=>
      match h.get b with
      |.cells l e' g=>
       cond (arI (len+n) c)
        (cond (arI (o+(len*i.size)+news.length) l.length&&news.all jL) (some (.sl (some (b,o)) (len+n) (.kn c),h.set b (.cells (sc l (o+len*i.size) news) e' g))) none)
        (cond (arI (o+len*i.size) l.length) (Cj i e len n ((l.drop o).take (len*i.size)) news h) none)
      |_=>none
     |.sl (some (b,o)) len (.un sz)=>
      match h.get b with
      |.cells l e' _=>
       cond (arE n 0) (some (.sl (some (b,o)) len (.un sz),h))
        (cond (arE sz i.size&&arE o 0&&arE e' e&&arI (len*i.size) l.length) (Cj i e len n (l.take (len*i.size)) news (h.set b .gone)) none)
      |_=>none
     |_=>none) none
   |_,_=>none
  |none=>none
 |_=>none
theorem Fo(hE:E.OK){w:World}(hr:HR φ h w)(t tx ty:TypeId){s x:V}(hs:VR φ s vs)(hx:VR φ x vx):
  aG E.P φ w (arJ #[t,tx] ty #[vs,vx]) (zr E t tx s x h):=by
 intro y h' hy;unfold zr at hy;split at hy
 ·rename_i it e ht
  obtain⟨_,hu⟩:=hE.ty _ _ _ ht;split at hy
  ·rename_i i de he
   obtain⟨hi,_⟩:=hE.ty _ _ _ he;split at hy
   ·rename_i z n news hz abe
    obtain⟨cW,hS,py⟩:=K8 hE hr i.size tx hx abe;cases hzb:arE z.cells.size i.size with
    |false=>rw[hzb]at hy;cases hy
    |true=>
     rw[hzb]at hy;have O2:z.cells.size=i.size:=AAA hzb;simp only[cond]at hy;split at hy
     ·simp only[VR]at hs;obtain⟨_,rfl⟩:=hs
      cases hn:arE n 0 with
      |true=>
       rw[hn]at hy;simp only[aop,arH]at hy;obtain⟨rfl,rfl⟩:=hy;have hn0:n=0:=AAA hn;subst hn0;have hl0:cW=[]:=ash (by have:=hS.newsLen;simpa using this);subst hl0;refine⟨φ,.slice none 0 0,w,?_,Ext.refl φ w,by simp only[VR];exact⟨agm,agm⟩,hr⟩;rcases hS.kind with⟨e',hk⟩|hk<;>simp[arJ,run_underlying hu,run_underlying hk,sizeOf,typeInfo,hi,hS.len,hS.cells]
      |false=>
       rw[hn]at hy;have hn0:0<n:=by
        rcases Nat.eq_zero_or_pos n with e|e
        ·rw[e]at hn;cases hn
        ·exact e
       exact Dl hr t tx ty e i z hu hi hz O2 none 0 0 [] [] J.nil (by simp) (run_firstCells_none w.drew i.size 0 0 0) vx n news cW hS py (by omega) hy
     ·rename_i b o len c
      simp only[VR]at hs;obtain⟨r,hb,Ia,rfl⟩:=hs;split at hy
      ·rename_i l e' g hl
       cases kL:arI (len+n) c with
       |true=>
        rw[kL]at hy;simp only[]at hy;have It:len+n<=c:=arC kL;cases hc:arI (o+len*i.size+news.length) l.length&&news.all jL with
        |false=>rw[hc]at hy;cases hy
        |true=>
         rw[hc]at hy;simp only[aop,arH]at hy;obtain⟨rfl,rfl⟩:=hy;simp only[arG]at hc;have hle:o+len*i.size+news.length<=l.length:=arC hc.1;have hlen:=py.length;obtain⟨w',g1,g2,g3⟩:=l9 (P:=E.P) hb (e:=e') (g:=g) (o+len*i.size) news cW 0 l h w py hc.2 hl (by omega) hr;refine⟨φ,.slice (some ⟨r,o,none⟩) (len+n) c,w',?_,g2,by simp only[VR];exact⟨r,hb,It,rfl⟩,g3⟩;rcases hS.kind with⟨e'',hk⟩|hk<;>simp[arJ,run_underlying hu,run_underlying hk,sizeOf,typeInfo,hi,hS.len,It,hS.cells,ase,g1]
       |false=>
        rw[kL]at hy;simp only[]at hy;have It:¬len+n<=c:=fun e=>by
         have:=Nat.ble_eq_true_of_le e;rw[this]at kL;cases kL
        cases hc:arI (o+len*i.size) l.length with
        |false=>rw[hc]at hy;cases hy
        |true=>
         rw[hc]at hy;simp only[]at hy;have hle:o+len*i.size<=l.length:=arC hc;obtain⟨us,h1,h2,h3⟩:=hr.qz hb hl o (len*i.size) hle;exact Dl hr t tx ty e i z hu hi hz O2 (some ⟨r,o,none⟩) len c _ us h2 (by simp;omega) (jl h1 h3) vx n news cW hS py (by omega) hy
      ·cases hy
     ·rename_i b o len sz
      simp only[VR]at hs;obtain⟨r,cap,hb,Ia,hN,rfl⟩:=hs;split at hy
      ·rename_i l e' g hl
       cases hn:arE n 0 with
       |true=>
        rw[hn]at hy;simp only[aop,arH]at hy;obtain⟨rfl,rfl⟩:=hy;have hn0:n=0:=AAA hn;subst hn0;have hl0:cW=[]:=ash (by have:=hS.newsLen;simpa using this);subst hl0;refine⟨φ,.slice (some ⟨r,o,none⟩) len cap,w,?_,Ext.refl φ w,by simp only[VR];exact⟨r,cap,hb,Ia,hN,rfl⟩,hr⟩;rcases hS.kind with⟨e',hk⟩|hk<;>simp[arJ,run_underlying hu,run_underlying hk,sizeOf,typeInfo,hi,hS.len,hS.cells,Ia,storeCells]
       |false=>
        rw[hn]at hy;simp only[]at hy;cases hc:arE sz i.size&&arE o 0&&arE e' e&&arI (len*i.size) l.length with
        |false=>rw[hc]at hy;cases hy
        |true=>
         rw[hc]at hy;simp only[]at hy;simp only[arG]at hc;obtain⟨⟨⟨c1,c2⟩,c3⟩,c4⟩:=hc;have ed:sz=i.size:=AAA c1;have ho:o=0:=AAA c2;have tL:e'=e:=AAA c3;have hle:len*i.size<=l.length:=arC c4;subst ho;subst ed;subst tL
         by_cases kL:len+n<=cap
         ·
          unfold Cj at hy;cases VU:arI ((len+n)*i.bytes) 140737488355328&&arI (len+n) 4611686018427387904 with
          |false=>rw[VU]at hy;cases hy
          |true=>
           rw[VU]at hy;simp only[cond,aop,arH]at hy;obtain⟨rfl,rfl⟩:=hy;obtain⟨ob,hob,hBR⟩:=hr.ew b r hb (by rw[hl];trivial);rw[hl]at hBR;obtain⟨cur,rfl,k1,k2,_,k4⟩:=hBR;have hlen:=py.length;have VV:=hS.newsLen;have hmul:(len+n)*i.size=len*i.size+n*i.size:=arL _ _ _;have ahE:(len+n)*i.size<=cap*i.size:=arO _ kL;have wo:len*i.size+cW.length<=cur.size:=by rw[k4,<-hN,VV];omega
           obtain⟨⟨nM,m1,m2⟩,m3,m4,m5,m6,m7⟩:=jk r e' (0,0) cW (0+len*i.size) w cur hob;have iu:∀j,j<cW.length->(w.cell? ⟨r,0+len*i.size+j,none⟩).isSome=true:=fun j hj=>by
            have bf:len*i.size+j<cur.size:=by omega
            simp[arY,hob,bf]
           have Y6:∀j,j<cW.length->w.frozen? ⟨r,0+len*i.size+j,none⟩=false:=fun j _=>by simp only[asl,hob];simp
           have ba:=run_append_room_src (P:=E.P) w t tx ty e' i hu hi r 0 len cap vx n cW hS kL iu Y6;have pz:nM.size=cur.size:=by
            have:=congrArg aso m2;rw[iy]at this;simpa using this
           have ahG:(l.take (len*i.size)++news).length=len*i.size+cW.length:=by simp[hlen];omega
           have hT:=hr.turn (w':=w.setCells r (0+len*i.size) cW) (.cells (l.take (len*i.size)++news) e' true) (.cells nM e' (0,0)) hb (by rw[hl];trivial) ⟨nM,rfl,?_,?_,fun hf=>(by cases hf),by rw[pz];exact k4⟩ m4 m1 m3 m5 m6 m7
           ·have hR:=hT.1.rename hb (by rw[H.bg,if_pos rfl];trivial)
            refine⟨_,.slice (some ⟨r,0,none⟩) (len+n) cap,_,ba,hT.2.trans hR.2,?_,hR.1.congr rfl fun d=> ?_⟩
            ·simp only[VR]
             refine⟨r,cap,by simp[up],kL,?_,rfl⟩;simp only[up,H.xF,if_true];exact hN
            ·rw[H.gD,H.gD]
             by_cases hd:d=h.n
             ·rw[if_pos (show d=(h.set b .gone).n from hd),if_pos (show d=((h.set b (.cells (l.take (len*i.size)++news) e' true)).set b .gone).n from hd),H.bg,if_pos rfl]
             ·rw[if_neg (show ¬d=(h.set b .gone).n from hd),if_neg (show ¬d=((h.set b (.cells (l.take (len*i.size)++news) e' true)).set b .gone).n from hd),H.bg,H.bg]
              by_cases cy:d=b
              ·rw[if_pos cy,if_pos cy]
              ·rw[if_neg cy,if_neg cy,H.bg,if_neg cy]
           ·have e1:nM.toList.take (l.take (len*i.size)++news).length=cur.toList.take (len*i.size)++cW:=by
             rw[ahG,m2,asf];exact ka cW cur.toList (len*i.size) (by simpa using wo)
            rw[e1];refine J.append ?_ py;have:=k1.take (len*i.size);rwa[List.take_take,arX hle]at this
           ·rw[ahG,pz];exact wo
         ·obtain⟨us,h1,h2,h3⟩:=hr.qz hb hl 0 (len*i.size) (by omega)
          exact Dl (hr.drop b) t tx ty e' i z hu hi hz O2 (some ⟨r,0,none⟩) len cap _ us (by simpa using h2) (by simp;omega) (jl h1 h3) vx n news cW hS py (by omega) hy
      ·cases hy
     ·cases hy
   ·cases hy
  ·cases hy
 ·cases hy
def zt(E:Env)(t tx:TypeId)(b xr k sz:Nat)(x:V)(h:H):Option (V×H):=match E.tt t with
 |some (_,.slice e)=>
  match E.tt e with
  |some (i,_)=>
   match i.zero,VS E i.size tx x h,h.get b,E.rl xr k with
   |some z,some (n,news),.row zu l e',some y=>
    match E.bd y with
    |some (_,.ofNat hi)=>
     cond (arE z.cells.size i.size&&arE zu xr&&arE sz i.size&&arE sz (E.rz xr)&&arE e' e&&arI (k*sz) l.length&&arI ((hi+n)*i.bytes) 140737488355328&&arI (hi+n) 4611686018427387904&&arU 0 n)
      (some (.sr h.n xr (k+n) sz,(h.set b .gone).new (.row xr (l.take (k*sz)++news) e))) none
    |_=>none
   |_,_,_,_=>none
  |none=>none
 |_=>none
theorem Fp(hE:E.OK)(bK:BD E φ){w:World}(hr:HR φ h w)(t tx ty:TypeId){xr k sz:Nat}{x:V}(hs:VR φ (.sr b xr k sz) vs)(hx:VR φ x vx):
  aG E.P φ w (arJ #[t,tx] ty #[vs,vx]) (zt E t tx b xr k sz x h):=by
 intro y h' hy;unfold zt at hy;split at hy
 ·rename_i it e ht
  obtain⟨_,hu⟩:=hE.ty _ _ _ ht;split at hy
  ·rename_i i de he
   obtain⟨hi,_⟩:=hE.ty _ _ _ he;split at hy
   ·rename_i z n news zu l e' yl hz abe hl jD
    obtain⟨cW,hS,py⟩:=K8 hE hr i.size tx hx abe;split at hy
    ·rename_i lo hi' anS
     cases hc:arE z.cells.size i.size&&arE zu xr&&arE sz i.size&&arE sz (E.rz xr)&&arE e' e&&arI (k*sz) l.length&&arI ((hi'+n)*i.bytes) 140737488355328&&arI (hi'+n) 4611686018427387904&&arU 0 n with
     |false=>rw[hc]at hy;cases hy
     |true=>
      rw[hc]at hy;simp only[cond,aop,arH]at hy;obtain⟨rfl,rfl⟩:=hy;simp only[arG]at hc;obtain⟨⟨⟨⟨⟨⟨⟨⟨c1,c2⟩,c3⟩,c4⟩,c5⟩,c6⟩,c7⟩,c8⟩,c9⟩:=hc;have O2:z.cells.size=i.size:=AAA c1;have hxr:zu=xr:=AAA c2;have ed:sz=i.size:=AAA c3;have hrz:sz=E.rz xr:=AAA c4;have tL:e'=e:=AAA c5;have hkl:k*sz<=l.length:=arC c6;have sj:(hi'+n)*i.bytes<=140737488355328:=arC c7;have tB:hi'+n<=4611686018427387904:=arC c8;have hn0:0<n:=bh.1 c9;subst hxr;subst ed;subst tL;simp only[VR]at hs;obtain⟨r,m,cap,hb,hz0,hm,hkc,hN,rfl⟩:=hs;obtain⟨m',_,hm',hsy⟩:=bK.here.rl _ _ _ jD;have hmm:m'=m:=Nat.eq_of_mul_eq_mul_right hz0 (by rw[hm,<-hm',hrz]);subst hmm;have fb:=(bK.here.bd _ _ _ anS).2;rw[hsy]at fb;have hmk:m'+k<=hi':=by
       have:((m'+k:Nat):Int)<=(hi':Int):=fb;omega
      obtain⟨c,vs,k1,k2,k3,k4,k5⟩:=hr.rowAt hb hl;have hlen:=py.length;have VV:=hS.newsLen;have hmul:(m'+k)*i.size=(φ.w zu).length+k*i.size:=by rw[arL,hm]
      have Y4:(c.toList.take ((m'+k)*i.size))=φ.w zu++vs.take (k*i.size):=by
       have:(c.toList.take ((φ.w zu).length+l.length)).take ((m'+k)*i.size)=φ.w zu++vs.take (k*i.size):=by
        rw[k3,hmul,List.take_length_add_append]
       rwa[List.take_take,arX (by omega)]at this
      have hvk:J φ (l.take (k*i.size)) (vs.take (k*i.size)):=k2.take _;have hlk:(vs.take (k*i.size)).length=k*i.size:=by
       have:=k2.length;simp;omega
      by_cases kL:m'+k+n<=cap
      ·
       obtain⟨⟨nM,m1,m2⟩,m3,m4,m5,m6,m7⟩:=jk r e' (0,0) cW (0+(m'+k)*i.size) w c k1;have ahE:(m'+k+n)*i.size<=cap*i.size:=arO _ kL;have arb:(m'+k+n)*i.size=(m'+k)*i.size+n*i.size:=arL _ _ _;have wo:(m'+k)*i.size+cW.length<=c.size:=by rw[k5,<-hN,VV];omega
       have iu:∀j,j<cW.length->(w.cell? ⟨r,0+(m'+k)*i.size+j,none⟩).isSome=true:=fun j hj=>by
        have bf:(m'+k)*i.size+j<c.size:=by omega
        simp[arY,k1,bf]
       have Y6:∀j,j<cW.length->w.frozen? ⟨r,0+(m'+k)*i.size+j,none⟩=false:=fun j _=>by simp only[asl,k1];simp
       have ba:=run_append_room_src (P:=E.P) w t tx ty e' i hu hi r 0 (m'+k) cap vx n cW hS kL iu Y6;have pz:nM.size=c.size:=by
        have:=congrArg aso m2;rw[iy]at this;simpa using this
       have Fq:(φ.w zu).length+(l.take (k*i.size)++news).length=(m'+k)*i.size+cW.length:=by
        rw[arD,List.length_take,arX hkl,hmul,hlen];omega
       have hT:=hr.turn (w':=w.setCells r (0+(m'+k)*i.size) cW) (.row zu (l.take (k*i.size)++news) e') (.cells nM e' (0,0)) hb (by rw[hl];trivial)
        ⟨nM,vs.take (k*i.size)++cW,rfl,hvk.append py,?_,?_,by rw[pz];exact k5⟩ m4 m1 m3 m5 m6 m7
       ·have hR:=hT.1.rename hb (by rw[H.bg,if_pos rfl];trivial)
        refine⟨_,.slice (some ⟨r,0,none⟩) (m'+k+n) cap,_,ba,hT.2.trans hR.2,?_,hR.1.congr rfl fun d=> ?_⟩
        ·simp only[VR]
         refine⟨r,m',cap,by simp[up],hz0,hm,by omega,?_,by rw[Nat.add_assoc]⟩;simp only[up,H.xF,if_true];exact hN
        ·rw[H.gD,H.gD]
         by_cases hd:d=h.n
         ·rw[if_pos (show d=(h.set b .gone).n from hd),if_pos (show d=((h.set b (.row zu (l.take (k*i.size)++news) e')).set b .gone).n from hd),H.bg,if_pos rfl]
         ·rw[if_neg (show ¬d=(h.set b .gone).n from hd),if_neg (show ¬d=((h.set b (.row zu (l.take (k*i.size)++news) e')).set b .gone).n from hd),H.bg,H.bg]
          by_cases cy:d=b
          ·rw[if_pos cy,if_pos cy]
          ·rw[if_neg cy,if_neg cy,H.bg,if_neg cy]
       ·rw[Fq,m2,asf,ka cW c.toList ((m'+k)*i.size) (by simpa using wo),Y4,asd]
       ·rw[Fq,pz];exact wo
      ·
       have hold:(arQ i.size (m'+k) (.slice (some ⟨r,0,none⟩) (m'+k) cap)).run E.P w.drew=.ok (φ.w zu++vs.take (k*i.size)).toArray w.drew:=by
        refine jl (by rw[arD,hlk,hmul]) fun j v hv=> ?_
        rw[<-Y4,asq]at hv;split at hv
        ·have:c[j]? =some v:=by simpa using hv
         simp[arY,k1,this]
        ·cases hv
       have hg:cap<m'+k+n:=by omega
       have h1:(m'+k+n)*i.bytes<=140737488355328:=Nat.le_trans (arO _ (by omega)) sj;have h2:m'+k+n<=4611686018427387904:=by omega
       have ba:=run_append_grow_src (P:=E.P) w t tx ty e' i z hu hi hz (some ⟨r,0,none⟩) (m'+k) cap (φ.w zu++vs.take (k*i.size)) hold vx n cW hS hg (by omega) (growslice_fits hg h1);have ic:m'+k+n<=grownCap w (m'+k+n) cap e':=by unfold grownCap;simp only[Question.cut];omega
       generalize hG:grownCap w (m'+k+n) cap e'=G at ba ic
       let cc:Array Value:=((φ.w zu++vs.take (k*i.size))++cW).toArray++arF z.cells (G-(m'+k+n));have VT:(φ.w zu++vs.take (k*i.size)).length=(m'+k)*i.size:=by rw[arD,hlk,hmul]
       have ib:cc.size=G*i.size:=by
        show(((φ.w zu++vs.take (k*i.size))++cW).toArray++arF z.cells (G-(m'+k+n))).size=_;rw[asa,kK,O2];simp only[asb];rw[arD,VT,VV,<-arL,<-arL]
        congr 1;omega
       have Fq:(φ.w zu).length+(l.take (k*i.size)++news).length=(m'+k+n)*i.size:=by
        rw[arD,List.length_take,arX hkl,arL,hmul,<-hlen,VV];omega
       have lH:=(hr.drop b).drew (w.drawn+1);have hle:Le φ (up φ h.n w.heap.size cc.size):=jr hr.fresh;have E6:=lH.alloc cc.size (.row zu (l.take (k*i.size)++news) e') (.cells cc e') ⟨cc,vs.take (k*i.size)++cW,rfl,J.mono hle _ _ (hvk.append py),?_,?_,rfl⟩
       ·refine⟨_,_,_,ba,(Ext.drew φ w (w.drawn+1)).trans E6.2,?_,E6.1⟩
        simp only[VR];refine⟨w.heap.size,m',G,by simp[up],hz0,hm,by omega,?_,by rw[Nat.add_assoc]⟩;have:(up φ h.n w.heap.size cc.size).n h.n=cc.size:=by simp[up]
        exact ib.symm.trans this.symm
       ·show cc.toList.take ((φ.w zu).length+(l.take (k*i.size)++news).length)=φ.w zu++(vs.take (k*i.size)++cW)
        have:cc.toList=((φ.w zu++vs.take (k*i.size))++cW)++(arF z.cells (G-(m'+k+n))).toList:=by simp[cc]
        rw[this,Fq,<-asd,arR (by rw[arD,VT,VV,<-arL];exact arT _),arV (by rw[arD,VT,VV,<-arL];exact arT _)]
       ·show(φ.w zu).length+(l.take (k*i.size)++news).length<=cc.size
        rw[Fq,ib];exact arO _ ic
    ·cases hy
   ·cases hy
  ·cases hy
 ·cases hy
def zw(E:Env)(t tx:TypeId)(s:V)(q:Nat)(h:H):Option (V×H):=match E.tt t,E.tt tx with
 |some (_,.slice e),some (_,.string)=>
  match E.tt e with
  |some (i,_)=>
   match i.zero with
   |some z=>
    cond (arE z.cells.size 1&&arE i.size 1&&arI i.bytes 1000000)
     (match s with
     |.sl none 0 _=>
      match E.xt.an q with
      |some x'=>some (.sr h.n x' 0 1,h.new (.row x' [] e))
      |none=>none
     |.sr b x 0 1=>
      match h.get b,E.xt.ap x q with
      |.row x2 [] e2,some x'=>cond (arE x2 x&&arE e2 e) (some (.sr h.n x' 0 1,(h.set b .gone).new (.row x' [] e))) none
      |_,_=>none
     |_=>none) none
   |none=>none
  |none=>none
 |_,_=>none
theorem wq(s:ByteArray):cz s=byteCells s:=rfl
theorem eK(s:ByteArray):(cz s).length=s.size:=byteCells_length s
theorem Fs{E:Env}{φ:Ren}{h:H}{w:World}(hr:HR φ h w)(t tx ty e:TypeId)(i:TypeInfo)(z:Value)(ht:E.P.underlying t=some (.slice e))(hk:E.P.underlying tx=some .string)(hi:E.P.info? e=some i)(hz:i.zero=some z)
  (O2:z.cells.size=1)(h1:i.size=1)(hb:i.bytes<=1000000)(base:Option Addr)(m cap x':Nat)(px:List Value)(s:ByteArray)(hw:φ.w x'=px++cz s)(hl:(φ.w x').length<=1000000)(km:px.length=m)
  (hold:(arQ 1 m (.slice base m cap)).run E.P w.drew=.ok px.toArray w.drew)(hg:cap<m+s.size):
  ∃af v w',(arJ #[t,tx] ty #[.slice base m cap,.string s]).run E.P w=.ok v w'/\Ext φ w af w'/\VR af (.sr h.n x' 0 1) v/\HR af (h.new (.row x' [] e)) w':=by
 have arn:px.length+s.size<=1000000:=by rw[hw,arD,eK]at hl;exact hl
 have Za:(m+s.size)*i.bytes<=1000000*1000000:=Nat.mul_le_mul (by omega) hb;have hS:=asn (P:=E.P) w hk s;have ba:=run_append_grow_src (P:=E.P) w t tx ty e i z ht hi hz base m cap px (by rw[h1];exact hold) (.string s) s.size (byteCells s) (by rw[h1];exact hS) hg (by omega) (growslice_fits hg (by omega));have ic:m+s.size<=grownCap w (m+s.size) cap e:=by unfold grownCap;simp only[Question.cut];omega
 generalize hG:grownCap w (m+s.size) cap e=G at ba ic
 let c:Array Value:=(px++byteCells s).toArray++arF z.cells (G-(m+s.size));have hwl:(φ.w x').length=m+s.size:=by rw[hw,arD,eK,km]
 have ib:c.size=G:=by
  show((px++byteCells s).toArray++arF z.cells (G-(m+s.size))).size=_;rw[asa,kK,O2];simp only[asb,arD,byteCells_length,km];omega
 have hle:Le φ (up φ h.n w.heap.size c.size):=jr hr.fresh;have E6:=(hr.drew (w.drawn+1)).alloc c.size (.row x' [] e) (.cells c e) ⟨c,[],rfl,J.nil,?_,?_,rfl⟩
 ·refine⟨_,_,_,ba,(Ext.drew φ w (w.drawn+1)).trans E6.2,?_,E6.1⟩
  simp only[VR];refine⟨w.heap.size,m+s.size,G,by simp[up],Nat.zero_lt_one,?_,by omega,?_,rfl⟩
  ·rw[arS];exact hwl.symm
  ·have:(up φ h.n w.heap.size c.size).n h.n=c.size:=by simp[up]
   rw[arS];exact ib.symm.trans this.symm
 ·show c.toList.take ((φ.w x').length+0)=φ.w x'++[]
  have:c.toList=(px++byteCells s)++(arF z.cells (G-(m+s.size))).toList:=by simp[c]
  rw[this,asi,arW,hwl,hw,wq,arR (by rw[arD,byteCells_length,km];exact arT _),arV (by rw[arD,byteCells_length,km];exact arT _)]
 ·show(φ.w x').length+0<=c.size
  rw[hwl,ib];exact ic
theorem Fu(hE:E.OK)(bK:BD E φ){w:World}(hr:HR φ h w)(t tx ty:TypeId){s:V}{q:Nat}(hs:VR φ s vs)(hx:VR φ (.q q) vx):
  aG E.P φ w (arJ #[t,tx] ty #[vs,vx]) (zw E t tx s q h):=by
 intro y h' hy;unfold zw at hy;simp only[VR]at hx;obtain⟨rfl,_⟩:=hx;split at hy
 ·rename_i it e ix ht htx
  obtain⟨_,hu⟩:=hE.ty _ _ _ ht;obtain⟨_,hk⟩:=hE.ty _ _ _ htx;split at hy
  ·rename_i i de he
   obtain⟨hi,_⟩:=hE.ty _ _ _ he;split at hy
   ·rename_i z hz
    cases hc:arE z.cells.size 1&&arE i.size 1&&arI i.bytes 1000000 with
    |false=>rw[hc]at hy;cases hy
    |true=>
     rw[hc]at hy;simp only[arG]at hc;have O2:z.cells.size=1:=AAA hc.1.1;have ed:i.size=1:=AAA hc.1.2;have hby:i.bytes<=1000000:=arC hc.2;simp only[cond]at hy;split at hy
     ·simp only[VR]at hs
      obtain⟨_,rfl⟩:=hs;split at hy
      ·rename_i x' iT
       obtain⟨st,e1,e2,e3,e4⟩:=bK.here.xt.an _ _ iT;cases hy;show∃af v w',(arJ #[t,tx] ty #[.slice none 0 0,φ.q q]).run E.P w=_/\_
       rw[e1];exact Fs hr t tx ty e i z hu hk hi hz O2 ed hby none 0 0 x' [] st (by simpa using e3) (by rw[e3,eK];exact e4) rfl (run_firstCells_none w.drew 1 0 0 0) (by omega)
      ·cases hy
     ·rename_i b x
      split at hy
      ·rename_i x2 O3 x' hl hap
       cases PO:arE x2 x&&arE O3 e with
       |false=>rw[PO]at hy;cases hy
       |true=>
        rw[PO]at hy;cases hy;simp only[arG]at PO;have q1:=AAA PO.1;have q2:=AAA PO.2;subst q1;subst q2;obtain⟨st,e1,e2,e3,e4⟩:=bK.here.xt.ap _ _ _ hap;simp only[VR]at hs;obtain⟨r,m,cap,hb,_,hm,hkc,hN,rfl⟩:=hs;rw[arS]at hm hN;rw[arW]at hkc⊢;obtain⟨c,vs,k1,k2,k3,k4,k5⟩:=hr.rowAt hb hl;simp only[J]at k2;subst k2;rw[asi,List.length_nil,arW]at k3;rw[List.length_nil,arW]at k4;show∃af v w',(arJ #[t,tx] ty #[.slice (some ⟨r,0,none⟩) m cap,φ.q q]).run E.P w=_/\_
        rw[e1];have hwl:(φ.w x').length=m+st.size:=by rw[e3,arD,eK,hm]
        by_cases kL:m+st.size<=cap
        ·
         have hS:Src E.P i.size tx (.string st) st.size (cz st) w:=by rw[ed];exact asn w hk st
         obtain⟨⟨nM,m1,m2⟩,m3,m4,m5,m6,m7⟩:=jk r O3 (0,0) (cz st) (0+m*i.size) w c k1;have wo:m+(cz st).length<=c.size:=by rw[k5,<-hN,eK];exact kL
         have iu:∀j,j<(cz st).length->(w.cell? ⟨r,0+m*i.size+j,none⟩).isSome=true:=fun j hj=>by
          have bf:m*i.size+j<c.size:=by rw[ed];omega
          simp[arY,k1,bf]
         have Y6:∀j,j<(cz st).length->w.frozen? ⟨r,0+m*i.size+j,none⟩=false:=fun j _=>by simp only[asl,k1];simp
         have ba:=run_append_room_src (P:=E.P) w t tx ty O3 i hu hi r 0 m cap (.string st) st.size (cz st) hS kL iu Y6;have pz:nM.size=c.size:=by
          have:=congrArg aso m2;rw[iy]at this;simpa using this
         have hT:=hr.turn (w':=w.setCells r (0+m*i.size) (cz st)) (.row x' [] O3) (.cells nM O3 (0,0)) hb (by rw[hl];trivial)
          ⟨nM,[],rfl,J.nil,?_,?_,by rw[pz];exact k5⟩ m4 m1 m3 m5 m6 m7
         ·have hR:=hT.1.rename hb (by rw[H.bg,if_pos rfl];trivial)
          refine⟨_,.slice (some ⟨r,0,none⟩) (m+st.size) cap,_,ba,hT.2.trans hR.2,?_,hR.1.congr rfl fun d=> ?_⟩
          ·simp only[VR]
           refine⟨r,m+st.size,cap,by simp[up],Nat.zero_lt_one,?_,by omega,?_,rfl⟩
           ·rw[arS];exact hwl.symm
           ·simp only[up,H.xF,if_true,arS]
            exact hN
          ·rw[H.gD,H.gD]
           by_cases hd:d=h.n
           ·rw[if_pos (show d=(h.set b .gone).n from hd),if_pos (show d=((h.set b (.row x' [] O3)).set b .gone).n from hd),H.bg,if_pos rfl]
           ·rw[if_neg (show ¬d=(h.set b .gone).n from hd),if_neg (show ¬d=((h.set b (.row x' [] O3)).set b .gone).n from hd),H.bg,H.bg]
            by_cases cy:d=b
            ·rw[if_pos cy,if_pos cy]
            ·rw[if_neg cy,if_neg cy,H.bg,if_neg cy]
         ·show nM.toList.take ((φ.w x').length+0)=φ.w x'++[]
          rw[asi,arW,hwl,m2,ed,arS,asf];have:=ka (cz st) c.toList m (by simpa using wo);rw[eK]at this;rw[this,e3,<-k3,<-hm]
         ·show(φ.w x').length+0<=nM.size
          rw[hwl,pz];rw[eK]at wo;exact wo
        ·have hold:(arQ 1 m (.slice (some ⟨r,0,none⟩) m cap)).run E.P w.drew=.ok (φ.w x2).toArray w.drew:=by
          refine jl (by rw[arS];exact hm.symm) fun j v hv=> ?_
          rw[<-k3,asq]at hv;split at hv
          ·have:c[j]? =some v:=by simpa using hv
           simp[arY,k1,this]
          ·cases hv
         exact Fs (hr.drop b) t tx ty O3 i z hu hk hi hz O2 ed hby (some ⟨r,0,none⟩) m cap x' (φ.w x2) st e3 e4 hm.symm hold (by omega)
      ·cases hy
     ·cases hy
   ·cases hy
  ·cases hy
 ·cases hy
def Dm(E:Env)(t tx:TypeId)(s x:V)(h:H):Option (V×H):=match x with
 |.q q=>zw E t tx s q h
 |x=>
  match s with
  |.sr b xr k sz=>zt E t tx b xr k sz x h
  |s=>zr E t tx s x h
theorem Iu(hE:E.OK)(bK:BD E φ){w:World}(hr:HR φ h w)(t tx ty:TypeId){s x:V}(hs:VR φ s vs)(hx:VR φ x vx):
  aG E.P φ w (arJ #[t,tx] ty #[vs,vx]) (Dm E t tx s x h):=by
 unfold Dm;split
 ·exact Fu hE bK hr t tx ty hs hx
 ·split
  ·exact Fp hE bK hr t tx ty hs hx
  ·exact Fo hE hr t tx ty hs hx
end
end Go.Ev
