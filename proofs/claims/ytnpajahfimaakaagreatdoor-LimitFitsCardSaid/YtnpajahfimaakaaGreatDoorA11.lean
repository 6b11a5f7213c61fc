/- A part of what LimitFits rests on. -/
import Derived.Test.YtnpajahfimaakaaGreatDoorA10
import Derived.Test.YtnpajahfimaakaaGreatDoorA07
import Derived.Maps.RangeRun
import Derived.Test.YtnpajahfimaakaaGreatDoorA08
import Derived.Shelf.SlSortCmp.WholeK
import Derived.Shelf.SlicesG.Cmp
import Derived.Ground.SlsfProg
import Derived.Ground.SlgcProg
import Derived.Test.YtnpajahfimaakaaGreatDoorA01
set_option linter.all false
namespace Go.Ev
open List renaming getElem?_eq_getElem->aop,take_of_length_le->arC,getElem?_eq_none->arD,replicate->arG,getElem?_mapIdx->arH,eq_nil_of_length_eq_zero->arL,mem_mapIdx->arM,getElem?_take_of_lt->arN,mem_of_getElem?->arO,length_pos_iff->arP,mem_singleton->arQ,mapIdx_append->arR,take_add_one->arS,getElem?_map->arT,ext_getElem?->arU
open Nat renaming le_refl->AAA,lt_or_ge->arK
open _root_.Array renaming toList_inj->arE,length_toList->arF,getElem?_eq_some_iff->arI
open Exit renaming normal->arJ
open Go.Proofs
def yp(p:O×Value):Value:=.agg (gK p).toArray
def om(l:List (O×Value)):Nat->Array MapEntry×Nat
 |0=>(#[],0)
 |i+1=>iq (.int .i64) (om l i) (.int .i64 (bZ l (i+1))) (((l[i]?).map yp).getD (.bool false))
def sT(i:Nat)(p:O×Value):MapEntry:={key:=.int .i64 p.1.id,val:=yp p,born:=i}
theorem Zx{l:List (O×Value)}(h:Asc l):∀n,n<=l.length->om l n=(((l.take n).mapIdx sT).toArray,n)
 |0,_=>rfl
 |n+1,hn=>by
  obtain⟨p,hp⟩:∃p,l[n]? =some p:=⟨l[n],aop (by omega)⟩
  have lG:bZ l (n+1)=p.1.id:=by simp[bZ,hp]
  have hlen:(l.take n).length=n:=by simp;omega
  rw[om,Zx h n (by omega),iq,hp,lG];have:Instr.findNow (.int .i64) (.int .i64 p.1.id) ((l.take n).mapIdx sT).toArray.toList 0=some none:=by
   rcases MapKept.findNow_spec (d:=.int .i64) (k:=.int .i64 p.1.id) rfl ((l.take n).mapIdx sT) 0 (fun x hx=>by
    simp only[arM]at hx;obtain⟨i,_,rfl⟩:=hx;exact rfl)with⟨h1,_⟩|⟨j,e,_,h2,h3⟩
   ·exact h1
   ·rw[arH]at h2
    cases hj:(l.take n)[j]?with
    |none=>rw[hj]at h2;cases h2
    |some z=>
     rw[hj]at h2;cases h2;have Zy:j<n:=by
      rcases arK j n with h|h
      ·exact h
      ·rw[arD (by omega)]at hj;cases hj
     rw[arN Zy]at hj;simp only[sT,Value.int.injEq,true_and,Int.natCast_inj]at h3;have e1:bZ l (j+1)=z.1.id:=by simp[bZ,hj]
     have:=h.inj (i:=j+1) (j:=n+1) (by omega) (by omega) (by rw[e1,lG,h3]);omega
  rw[this,arS,hp];simp[arR,sT,hlen]
def JH(i:Nat)(p:ByteArray×Nat):MapEntry:={key:=.string p.1,val:=.int .i64 p.2,born:=i}
def Ea(l:List (ByteArray×Nat)):Nat->Array MapEntry×Nat
 |0=>(#[],0)
 |i+1=>match l[i]?with
  |some p=>iq .string (Ea l i) (.string p.1) (.int .i64 p.2)
  |none=>Ea l i
theorem RS{l:List (ByteArray×Nat)}(h:(l.map (·.1)).Nodup):∀n,n<=l.length->Ea l n=(((l.take n).mapIdx JH).toArray,n)
 |0,_=>rfl
 |n+1,hn=>by
  obtain⟨p,hp⟩:∃p,l[n]? =some p:=⟨l[n],aop (by omega)⟩
  have hlen:(l.take n).length=n:=by simp;omega
  rw[Ea,hp];simp only;rw[RS h n (by omega),iq];have:Instr.findNow .string (.string p.1) ((l.take n).mapIdx JH).toArray.toList 0=some none:=by
   rcases MapKept.findNow_spec (d:=.string) (k:=.string p.1) trivial ((l.take n).mapIdx JH) 0 (fun x hx=>by
    simp only[arM]at hx;obtain⟨i,_,rfl⟩:=hx;trivial)with⟨h1,_⟩|⟨j,e,_,h2,h3⟩
   ·exact h1
   ·rw[arH]at h2
    cases hj:(l.take n)[j]?with
    |none=>rw[hj]at h2;cases h2
    |some z=>
     rw[hj]at h2;cases h2;have Zy:j<n:=by
      rcases arK j n with h|h
      ·exact h
      ·rw[arD (by omega)]at hj;cases hj
     rw[arN Zy]at hj;simp only[JH,Value.string.injEq]at h3;have:=(List.getElem?_inj (l:=l.map (·.1)) (i:=j) (j:=n) (by simp;omega) h).1 (by simp[hj,hp,h3]);omega
  rw[this,arS,hp];simp[arR,JH,hlen]
structure LZ(w:World)(B:Nat)(lines:Value)(next:Nat)(mo mr:Array MapEntry×Nat)(rb rk rv ro rr:Nat):Prop where
 Aw:w.heap[rb]? =some (.cells #[lines,.pointer (some ⟨rk,0,none⟩),.map (some ro),.map (some rr),.int .i64 next] 180 (0,0))
 book:w.heap[rk]? =some (.cells #[lines,.map (some rv)] 226 (0,0))
 views:w.heap[rv]? =some (.map #[] 0)
 bS:w.heap[ro]? =some (.map mo.1 mo.2)
 roots:w.heap[rr]? =some (.map mr.1 mr.2)
 ai0:B<=rb/\B<=rk/\B<=rv/\B<=ro/\B<=rr
 apart:rv≠ro/\rv≠rr/\ro≠rr
variable{φ:Ren}{nb:Nat}{HB:List (Nat×aQ)}
theorem HR.RT{w:World}(hr:HR φ (ak nb HB) w){b r:Nat}(hb:φ b=some r){l:List V}{e:TypeId}(hl:mO HB b=.rc l e):
  ∃c,w.heap[r]? =some (.cells c e (0,0))/\J φ l (c.toList.take l.length)/\c.size=φ.n b/\l.length<=c.size:=by
 obtain⟨o,h1,h2⟩:=hr.ew b r hb (by rw[aH,hl];trivial);rw[aH,hl]at h2;obtain⟨c,rfl,h2,h3,h4⟩:=h2;exact⟨c,h1,h2,h4,h3⟩
theorem HR.ai1{w:World}(hr:HR φ (ak nb HB) w)(h1:mO HB 1=mX)(h0:mO HB 0=mW){v:Value}(hv:VR φ (.sl (some (1,0)) 1 (.kn 1)) v):dG w v:=by
 simp only[VR]at hv;obtain⟨r1,lH,_,rfl⟩:=hv;obtain⟨c1,g1,v1,z1,_⟩:=hr.RT lH h1;simp only[J,VR]at v1;obtain⟨_,_,e1,⟨rfl,_⟩,_,_,rfl,⟨r0,Fa,_,rfl⟩,_,_,rfl,⟨_,rfl⟩,rfl⟩:=v1;obtain⟨c0,g0,v0,z0,_⟩:=hr.RT Fa h0;simp only[J,VR]at v0;obtain⟨_,_,e0,⟨rfl,_⟩,_,_,rfl,rfl,_,_,rfl,rfl,_,_,rfl,rfl,rfl⟩:=v0;exact⟨r1,r0,c1,c0,rfl,g0,g1,e0,e1⟩
theorem ade{n:Nat}{w:World}{lines ov rv:Value}{next:Nat}{l:List (O×Value)}{rs:List (ByteArray×Nat)}(H:GW w lines ov rv next l rs)(hrp:∀q∈rs,1<=q.2/\q.2<=100000):
  CallsIn (W none) n Tryz.prog 42 #[wV lines ov rv next] w fun e w'=>∃v,e=.returned v/\(∃ln rb rk qV ro rr,v=.pointer (some ⟨rb,0,none⟩)/\dG w' ln/\LZ w' w.heap.size ln next (om l l.length) (Ea rs rs.length) rb rk qV ro rr)/\Grown w w':=by
 have BB:=H.bS.one;have gh:=H.roots.one;let y0:Sym:=dg [0,l.length,0,next] [.bool false,ov,rv] [aZ l] [];obtain⟨ay,h1,lR,v1⟩:=H.BA.add y0;have cG:J ay mY [wV lines ov rv next]:=by
  refine J.cons ?_ J.nil;simp only[VR];refine⟨_,rfl,J.cons v1 (J.cons ?_ (J.cons ?_ (J.cons ?_ J.nil)))⟩
  ·simp only[VR,Ren.q,lR];exact⟨rfl,BB⟩
  ·simp only[VR,Ren.q,lR];exact⟨rfl,gh⟩
  ·simp only[VR,Ren.s,lR];rfl
 have bB:=ad.enter (nt:=57) h1 rfl (by rw[lR];rfl) cG (by decide);refine dz (fn:=Tryz.f42) (c:=(Tryz.f42.body).getD .skip) Tryz.func42 rfl (bp _ ?_);show aC none n E0.P _ BC _ _;refine ad.dc (aq aB {}) rfl 3 aiU bB (aA.dU ⟨agm,agm,agm,agm,agm,agm,agm,agm,agm⟩) rfl y0 ?_ fun φ a w1 hs hd hg _ n1 n2 n3 n4=> ?_
 ·refine Ag.au (o:=y0) ⟨⟨rfl,agm⟩,⟨⟨rfl,BB⟩,⟨rfl,gh⟩,agm⟩,agm,agm⟩ ?_ ?_ ?_ ?_<;>rw[lR]<;>rfl
 show aC none n E0.P _ (BC.drop 3) a w1;obtain⟨aV,dx,kq⟩:=hs.jb (H.bS.kept fun r o h=>hg.at_ rfl h) rfl 1 0 (agB n2 1) (agB n3 0);refine ad.dc (aq aB DU) rfl 1 aiV dx (aA.dU ?_) hd y0 ?_ fun eH a3 w3 ez gJ ig _ m1 m2 m3 m4=> ?_
 ·refine⟨agm,agm,agm,⟨⟨l.length,by decide,?_,?_⟩,agm⟩,agm,agm,agm,agm,agm⟩
  ·show l.length*4=(aV.y.w 0).length
   rw[kq,show φ.y.w 0=aZ l from agB n3 0,fh]
  ·show aV.y.s 1=_
   rw[kq];exact agB n1 1
 ·refine Ag.au (o:=y0) ⟨⟨rfl,rfl,rfl,agm⟩,⟨⟨rfl,gh⟩,agm⟩,⟨rfl,agm⟩,agm⟩ ?_ ?_ ?_ ?_<;>rw[kq]
  ·exact n1
  ·exact n2
  ·exact n3
  ·exact n4
 show aC none n E0.P _ (BC.drop 4) a3 w3;let Y1:Nat->Sym:=fun i=>dg [i,l.length,0,next] [.bool false,.bool false,rv] [aZ l] [(#[],0),om l i,(#[],0)]
 have empty:∀(b:Nat),mO D9 b=.mp [] 0->∀r es c,eH b=some r->w3.heap[r]? =some (.map es c)->((#[],0):Array MapEntry×Nat)=(es,c):=by
  intro b hb r es c hr jE;obtain⟨o,h1,h2⟩:=ez.hr.ew b r hr (by rw[aH,hb];trivial);rw[aH,hb]at h2;rw[jE]at h1;cases h1;obtain⟨el,h1,h2⟩:=h2;cases h1;simp only[fB]at h2;have:es=#[]:=arE.1 h2;rw[this]
 have oZ:Agree LV eH (ak 9 D9) w3 (Y1 0):=by
  refine bC ⟨(agB m1 0).symm,(agB m1 1).symm,(agB m1 3).symm,agm⟩ ⟨?_,agm⟩ ⟨(agB m3 0).symm,agm⟩ ⟨?_,?_,agm⟩
  ·simp only[VR];exact⟨(agB m2 2).symm,gh⟩
  ·exact empty 6 rfl
  ·exact empty 7 rfl
 obtain⟨jn,ll,k1,k2,k3,k4⟩:=ez.conv acZ _ oZ;let Inv1:Nat->Act->World->Prop:=fun i a w'=>∃φ,ad φ w.heap.size (U 57 mq) (ak 9 wL) a w'/\a.defers=[]/\GB w.heap.size w w'/\bD φ (Y1 i)
 refine dd (id:=0) (b:=(match BC.drop 4 with|.block _ (.loop b)::_=>b|_=>.skip)) (rest:=BC.drop 5) l.length Inv1 ?_ ?_ ⟨jn,ll,gJ,hg.trans ig,k1,k2,k3,k4⟩
 ·rintro i a w' hi ⟨φ,hs,hd,hg,n1,n2,n3,n4⟩
  obtain⟨p,hp⟩:∃p,l[i]? =some p:=⟨l[i],aop hi⟩
  have lG:1<=p.1.id/\p.1.id<=100000:=by have:=H.ids i p hp;have:=H.nx;omega
  have hp1:=(H.aP p (arO hp)).one;refine ad.go aB rfl RG 100 (cs:=roundOf (BC.drop 4)) RF ac2 hs hd (dg [i,l.length,0,next,p.1.id,i+1] [.bool false,.bool false,rv,.bool false,.bool false,.bool false,.bool false,p.2] [aZ l] [(#[],0),om l i,(#[],0)]) ?_ (fun ay b9 m1 m2 m3 m4=> ?_)
   (dg [i+1,l.length,0,next,p.1.id] [.bool false,.bool false,rv,.bool false,.bool false,.bool false,.bool false,p.2] [aZ l] [(#[],0),om l i,(#[],0)]) ?_ fun af a' w'' cu cy dh _ k1 k2 k3 k4=> ?_
  ·exact⟨⟨(agB n1 0).symm,(agB n1 1).symm,(agB n1 3).symm,agm⟩,⟨⟨(agB n2 2).symm,gh⟩,agm⟩,⟨(agB n3 0).symm,agm⟩,⟨(agB n4 1).symm,(agB n4 2).symm,agm⟩⟩
  ·have s0:ay.y.s 0=i:=agB m1 0
   have s1:ay.y.s 1=l.length:=agB m1 1;have s4:ay.y.s 4=p.1.id:=agB m1 4;have s5:ay.y.s 5=i+1:=agB m1 5;have ym:=H.ln;refine⟨⟨⟨?_,?_⟩,agm⟩,⟨?_,?_,agm⟩,agm,agm,⟨⟨by decide,rfl,i,s0,?_,?_⟩,agm⟩,agm,agm,agm,agm⟩
   ·show(1:Int)<=_;simp only[Ren.s,s4];omega
   ·show _<=(100000:Int);simp only[Ren.s,s4];omega
   ·exact .lss (k:=.i64) (x:=i) (y:=l.length) (by simp only[aR,s0]) (by simp only[aR,s1]) (by simp;omega)
   ·exact .add (k:=.i64) (x:=i) (y:=1) (by simp only[aR,s0]) rfl (by simp only[aR,s5]) (i64_in (by omega))
   ·show(i+1)*4<=(ay.w 0).length
    rw[show ay.w 0=aZ l from agB m3 0,fh];omega
   ·show J ay [.y .i64 4,.i .i64 0,.i .i64 0,.q 7] (((ay.w 0).drop (i*4)).take 4)
    rw[show ay.w 0=aZ l from agB m3 0,qJ hp];refine J.cons ?_ (J.cons vI (J.cons vI (J.cons ?_ J.nil)))
    ·simp only[VR,Ren.s,s4]
    ·simp only[VR];exact⟨(agB m2 7).symm,hp1⟩
  ·exact⟨⟨rfl,rfl,rfl,rfl,agm⟩,⟨⟨rfl,gh⟩,⟨rfl,hp1⟩,agm⟩,⟨rfl,agm⟩,⟨rfl,rfl,agm⟩⟩
  ·have oZ:Agree RH af (ak 9 JF) w'' (Y1 (i+1)):=by
    refine bC ⟨?_,(agB k1 1).symm,(agB k1 3).symm,agm⟩ ⟨?_,agm⟩ ⟨(agB k3 0).symm,agm⟩ ⟨?_,(agB k4 2).symm,agm⟩
    ·show((i+1:Nat):Int)=af.s 0
     have:af.s 0=(i:Int)+1:=agB k1 0;rw[this];omega
    ·simp only[VR];exact⟨(agB k2 2).symm,gh⟩
    ·intro r es m hr jE
     obtain⟨oU,c',g7,mu,_⟩:=cu.hr.qR hr (x:=1) (d:=.int .i64) (us:=[(.y .i64 4,some (.a [.y .i64 4,.i .i64 0,.i .i64 0,.q 7]))]) rfl;rw[jE]at g7;cases g7;simp only[MU,VR,J]at mu;obtain⟨_,_,rfl,⟨cs,rfl,_,_,e1,rfl,_,_,rfl,rfl,_,_,rfl,rfl,_,_,rfl,⟨rfl,_⟩,rfl⟩,_,mu⟩:=mu;rw[mu];have g1:af.g 1=om l i:=agB k4 1;have e4:af.s 4=p.1.id:=agB k1 4;have e7:af.q 7=p.2:=agB k2 7;rw[e4,e7]at e1;rw[g1,e4];show om l (i+1)=_;rw[om];have:cs=(gK p).toArray:=arE.1 (by rw[e1];rfl);rw[this];simp[bZ,hp,yp]
   obtain⟨aV,dx,j1,j2,j3,j4⟩:=cu.conv aiW _ oZ;exact⟨rfl,aV,dx,cy,hg.trans dh,j1,j2,j3,j4⟩
 ·rintro a w' ⟨φ,hs,hd,hg,n1,n2,n3,n4⟩
  let Z:Sym:=dg [0,rs.length,0,next] [.bool false,.bool false,rv] [[],[],[],cg rs] [(#[],0),om l l.length,(#[],0)];refine ad.go aB rfl wD 100 (cs:=roundOf (BC.drop 4)) RF aiX hs hd (Y1 l.length) ?_ (fun ay b9 m1 m2 m3 m4=> ?_) Z ?_ fun af a' w'' cu cy dh hk k1 k2 k3 k4=>⟨rfl,?_⟩
  ·exact⟨⟨(agB n1 0).symm,(agB n1 1).symm,(agB n1 3).symm,agm⟩,⟨⟨(agB n2 2).symm,gh⟩,agm⟩,⟨(agB n3 0).symm,agm⟩,⟨(agB n4 1).symm,(agB n4 2).symm,agm⟩⟩
  ·have s0:ay.y.s 0=l.length:=agB m1 0
   have s1:ay.y.s 1=l.length:=agB m1 1;exact⟨agm,⟨.lss (k:=.i64) (x:=l.length) (y:=l.length) (by simp only[aR,s0]) (by simp only[aR,s1]) (by simp),agm⟩,agm,agm,agm,agm,agm,agm,agm⟩
  ·exact⟨⟨rfl,agm⟩,⟨⟨rfl,gh⟩,agm⟩,agm,⟨rfl,rfl,agm⟩⟩
  have dh:=hg.trans dh;obtain⟨aV,dx,kq⟩:=cu.jb (H.roots.kept fun r o h=>dh.at_ rfl h) rfl 2 3 (agB k2 2) (agB k3 3);let Y2:Nat->Sym:=fun i=>dg [i,rs.length,0,next] [] [[],[],[],cg rs] [(#[],0),om l l.length,Ea rs i]
  refine ad.dc (aq aB RL) rfl 1 (cs:=BC.drop 5) aiY dx (aA.dU ?_) cy (Y2 0) ?_ fun eH a3 w3 ez gJ ig _ m1 m2 m3 m4=> ?_
  ·refine⟨agm,agm,agm,⟨⟨rs.length,by decide,?_,?_⟩,agm⟩,agm,agm,agm,agm,agm⟩
   ·show rs.length*2=(aV.y.w 3).length
    rw[kq,show af.y.w 3=cg rs from agB k3 3,fk]
   ·show aV.y.s 1=_
    rw[kq];exact agB k1 1
  ·refine Ag.au (o:=Z) ⟨⟨rfl,rfl,rfl,agm⟩,agm,⟨rfl,agm⟩,⟨rfl,rfl,agm⟩⟩ ?_ ?_ ?_ ?_<;>rw[kq]
   ·exact k1
   ·exact k2
   ·exact k3
   ·exact k4
  show aC none n E0.P _ (BC.drop 6) a3 w3;have aox:=dh.trans ig;let Inv2:Nat->Act->World->Prop:=fun i a w'=>∃φ,ad φ w.heap.size (U 57 pW) (ak 9 wM) a w'/\a.defers=[]/\GB w.heap.size w w'/\bD φ (Y2 i)
  refine dd (id:=2) (b:=(match BC.drop 6 with|.block _ (.loop b)::_=>b|_=>.skip)) (rest:=BC.drop 7) rs.length Inv2 ?_ ?_ ⟨eH,ez,gJ,aox,m1,m2,m3,m4⟩
  ·rintro i a w' hi ⟨φ,hs,hd,hg,n1,n2,n3,n4⟩
   obtain⟨p,hp⟩:∃p,rs[i]? =some p:=⟨rs[i],aop hi⟩
   have lG:=hrp p (arO hp);refine ad.go aB rfl RQ 100 (cs:=roundOf (BC.drop 6)) RP ac7 hs hd (dg [i,rs.length,0,next,0,i+1,p.2] [.bool false,.bool false,.bool false,.bool false,.string p.1] [[],[],[],cg rs] [(#[],0),om l l.length,Ea rs i]) ?_ (fun ay b9 m1 m2 m3 m4=> ?_)
    (dg [i+1,rs.length,0,next,0,0,p.2] [.bool false,.bool false,.bool false,.bool false,.string p.1] [[],[],[],cg rs] [(#[],0),om l l.length,Ea rs i]) ?_ fun af a' w'' cu cy dh _ k1 k2 k3 k4=> ?_
   ·exact⟨⟨(agB n1 0).symm,(agB n1 1).symm,(agB n1 3).symm,agm⟩,agm,⟨(agB n3 3).symm,agm⟩,⟨(agB n4 1).symm,(agB n4 2).symm,agm⟩⟩
   ·have s0:ay.y.s 0=i:=agB m1 0
    have s1:ay.y.s 1=rs.length:=agB m1 1;have s5:ay.y.s 5=i+1:=agB m1 5;have s6:ay.y.s 6=p.2:=agB m1 6;have jD:=H.rl;refine⟨⟨⟨?_,?_⟩,agm⟩,⟨?_,?_,agm⟩,agm,agm,⟨⟨by decide,rfl,i,s0,?_,?_⟩,agm⟩,⟨⟨p.1,agB m2 4⟩,agm⟩,agm,agm,agm⟩
    ·show(1:Int)<=_;simp only[Ren.s,s6];omega
    ·show _<=(100000:Int);simp only[Ren.s,s6];omega
    ·exact .lss (k:=.i64) (x:=i) (y:=rs.length) (by simp only[aR,s0]) (by simp only[aR,s1]) (by simp;omega)
    ·exact .add (k:=.i64) (x:=i) (y:=1) (by simp only[aR,s0]) rfl (by simp only[aR,s5]) (i64_in (by omega))
    ·show(i+1)*2<=(ay.w 3).length
     rw[show ay.w 3=cg rs from agB m3 3,fk];omega
    ·show J ay [.q 4,.y .i64 6] (((ay.w 3).drop (i*2)).take 2)
     rw[show ay.w 3=cg rs from agB m3 3,ui hp];refine J.cons ?_ (J.cons ?_ J.nil)
     ·simp only[VR];exact⟨(agB m2 4).symm,rfl⟩
     ·simp only[VR,Ren.s,s6]
   ·exact⟨⟨rfl,rfl,rfl,rfl,agm⟩,⟨⟨rfl,rfl⟩,agm⟩,⟨rfl,agm⟩,⟨rfl,rfl,agm⟩⟩
   ·have oZ:Agree LW af (ak 9 JG) w'' (Y2 (i+1)):=by
     refine bC ⟨?_,(agB k1 1).symm,(agB k1 3).symm,agm⟩ trivial ⟨(agB k3 3).symm,agm⟩ ⟨(agB k4 1).symm,?_,agm⟩
     ·show((i+1:Nat):Int)=af.s 0
      have:af.s 0=(i:Int)+1:=agB k1 0;rw[this];omega
     ·intro r es m hr jE
      obtain⟨oU,c',g7,mu,_⟩:=cu.hr.qR hr (x:=2) (d:=.string) (us:=[(.q 4,some (.y .i64 6))]) rfl;rw[jE]at g7;cases g7;simp only[MU,VR]at mu;obtain⟨_,_,⟨rfl,_⟩,rfl,_,mu⟩:=mu;rw[mu];have g2:af.g 2=Ea rs i:=agB k4 2;have e6:af.s 6=p.2:=agB k1 6;have e4:af.q 4=.string p.1:=agB k2 4;rw[g2,e6,e4];show Ea rs (i+1)=_;rw[Ea,hp]
    obtain⟨aV,dx,j1,j2,j3,j4⟩:=cu.conv ac8 _ oZ;exact⟨rfl,aV,dx,cy,hg.trans dh,j1,j2,j3,j4⟩
  ·rintro a w' ⟨φ,hs,hd,hg,n1,n2,n3,n4⟩
   refine ad.go aB rfl wD 100 (cs:=roundOf (BC.drop 6)) RP ac9 hs hd (Y2 rs.length) ?_ (fun ay b9 m1 m2 m3 m4=> ?_) (Y2 rs.length) ?_ fun af a' w'' cu cy dh hk k1 k2 k3 k4=>⟨rfl,?_⟩
   ·exact⟨⟨(agB n1 0).symm,(agB n1 1).symm,(agB n1 3).symm,agm⟩,agm,⟨(agB n3 3).symm,agm⟩,⟨(agB n4 1).symm,(agB n4 2).symm,agm⟩⟩
   ·have s0:ay.y.s 0=rs.length:=agB m1 0
    have s1:ay.y.s 1=rs.length:=agB m1 1;exact⟨agm,⟨.lss (k:=.i64) (x:=rs.length) (y:=rs.length) (by simp only[aR,s0]) (by simp only[aR,s1]) (by simp),agm⟩,agm,agm,agm,agm,agm,agm,agm⟩
   ·exact⟨⟨rfl,agm⟩,agm,agm,⟨rfl,rfl,agm⟩⟩
   refine ad.dc (aq aB {}) rfl 2 (cs:=BC.drop 7) aiZ cu (aA.dU ⟨agm,agm,agm,agm,agm,agm,agm,agm,agm⟩) cy (Y2 rs.length) ?_ fun NT a6 w6 qT Ao Ap LN i1 i2 i3 i4=> ?_
   ·exact Ag.au (o:=Y2 rs.length) ⟨⟨rfl,agm⟩,agm,agm,⟨rfl,rfl,agm⟩⟩ k1 k2 k3 k4
   refine⟨.inl rfl,Ao,?_⟩;obtain⟨v,gE,ff⟩:=qT.leave aB (fn:=Tryz.f42) (l:=[.p (some (3,0))]) rfl;have O8:=(hg.trans dh).trans Ap;refine⟨v,gE,v,rfl,?_,O8.grown⟩;simp only[fG,VR]at ff;obtain⟨rb,hb,rfl⟩:=ff;obtain⟨c3,g3,v3,_,z3,_⟩:=qT.hr.cx hb (l:=[.sl (some (1,0)) 1 (.kn 1),.p (some (4,0)),.m (some 6),.m (some 7),.y .i64 3]) rfl;have z3:=z3 rfl;rw[arC (by rw[arF,z3];exact AAA _)]at v3;simp only[J]at v3;obtain⟨lv,_,e3,xG,kv,_,rfl,Du,uB,_,rfl,RU,qV,_,rfl,ai2,nv,_,rfl,Vq,rfl⟩:=v3;simp only[VR]at Du RU ai2 Vq;obtain⟨rk,D8,rfl⟩:=Du;obtain⟨ro,ho6,rfl⟩:=RU;obtain⟨rr,Vr,rfl⟩:=ai2;obtain⟨c4,g4,v4,_,z4,_⟩:=qT.hr.cx D8 (l:=[.sl (some (1,0)) 1 (.kn 1),.m (some 5)]) rfl;have z4:=z4 rfl;rw[arC (by rw[arF,z4];exact AAA _)]at v4;simp only[J]at v4;obtain⟨lv',_,e4,abM,vv,_,rfl,hvv,rfl⟩:=v4;simp only[VR]at hvv;obtain⟨rw',Zz,rfl⟩:=hvv;have adf:lv'=lv:=uc rfl abM xG;subst adf;have pa:dG w6 lv':=qT.hr.ai1 rfl rfl xG;have ez:NT.s 3=next:=agB i1 3;rw[ez]at Vq;subst Vq;have hc3:c3=_:=arE.1 (e3.trans (by rfl:_=(#[lv',.pointer (some ⟨rk,0,none⟩),.map (some ro),.map (some rr),.int .i64 next]:Array Value).toList));have WH:c4=_:=arE.1 (e4.trans (by rfl:_=(#[lv',.map (some rw')]:Array Value).toList));subst hc3;subst WH;obtain⟨es6,n6,g6,mu6,_⟩:=qT.hr.qR ho6 (x:=1) (d:=.int .i64) (us:=[]) rfl;obtain⟨es7,n7,g7,mu7,_⟩:=qT.hr.qR Vr (x:=2) (d:=.string) (us:=[]) rfl;simp only[MU]at mu6 mu7;have q6:NT.g 1=om l l.length:=agB i4 1;have q7:NT.g 2=Ea rs rs.length:=agB i4 2;obtain⟨o5,g5,b5⟩:=qT.hr.ew 5 rw' Zz (by rw[aH];trivial);rw[aH]at b5;obtain⟨es5,rfl,er5⟩:=b5;simp only[fB]at er5;have e5:es5=#[]:=arE.1 er5;subst e5;have loc:=fun b r e h=>qT.loc b r e h
   refine⟨_,rb,rk,rw',ro,rr,rfl,pa,⟨g3,g4,g5,?_,?_,⟨qT.loc 3 _ hb (by rw[aH];trivial),qT.loc 4 _ D8 (by rw[aH];trivial),qT.loc 5 _ Zz (by rw[aH];trivial),qT.loc 6 _ ho6 (by rw[aH];trivial),qT.loc 7 _ Vr (by rw[aH];trivial)⟩,⟨?_,?_,?_⟩⟩⟩
   ·rw[g6,<-q6,<-mu6]
   ·rw[g7,<-q7,<-mu7]
   ·rintro rfl
    have:=qT.hr.inj 5 6 _ Zz ho6 (by rw[aH];trivial) (by rw[aH];trivial);omega
   ·rintro rfl
    have:=qT.hr.inj 5 7 _ Zz Vr (by rw[aH];trivial) (by rw[aH];trivial);omega
   ·rintro rfl
    have:=qT.hr.inj 6 7 _ ho6 Vr (by rw[aH];trivial) (by rw[aH];trivial);omega
noncomputable def jy:List Code:=ct ((Tryz.f48.body).getD .skip)
def ZA:aQ:=.rc [.sl (some (1,0)) 1 (.kn 1),.q 5,.q 3,.q 4,.y .i64 3] 180
def ZB:List (Nat×aQ):=[(2,ZA),(1,mX),(0,mW)]
def GD:List V:=[.p (some (2,0))]
def aN:List Code->Array Oper
 |.region _ ops _::_=>ops
 |_=>#[]
def zW:aQ:=.cells [.sl none 0 (.kn 0),.sl none 0 (.kn 0),.sl none 0 (.kn 0),.i .i64 0] 47 false
def JI:List (Nat×V):=[(0,.p (some (2,0))),(2,.p (some (3,0)))]
def JJ:List (Nat×aQ):=(3,zW)::ZB
def JK:bP:={s:=[(3,.y 3)],q:=[(5,.q 5),(3,.q 3),(4,.q 4)]}
theorem ai3:av (ar E0 {}) 100 (jy.take 1) ⟨59,load GD 0 .leaf⟩ (ak 3 ZB) .n JK 59 JI 7 JJ=true:=by decide+kernel
def opt{α:Type}(m:List Bool)(i:Nat)(l:List α):List α:=cond (m.getD i false) l []
def ai4:List Nat:=[8,9,10,11,12,13,14,15,16,17,3]
def ai5:List V:=[.p (some (2,0)),.p (some (2,0)),.p (some (2,0)),.a [.sl (some (1,0)) 1 (.kn 1)],.a [.sl (some (4,0)) 1 (.kn 1)],.p (some (2,0)),.p (some (2,0)),.p (some (2,4)),.y .i64 3,
 .a [.sl (some (4,0)) 1 (.kn 1),.sl none 0 (.kn 0),.sl none 0 (.kn 0),.y .i64 3],.p (some (6,0))]
def GF:List Bool->List Nat->List V->List (Nat×V)
 |true::m,t::ts,v::vs=>(t,v)::GF m ts vs
 |false::m,_::ts,_::vs=>GF m ts vs
 |_,_,_=>[]
def ZC(m:List Bool):List (Nat×V):=JI++GF m ai4 ai5
def ai6:aQ:=.cells [.sl (some (4,0)) 1 (.kn 1),.sl none 0 (.kn 0),.sl none 0 (.kn 0),.y .i64 3] 47 false
def ai7:List (Nat×aQ):=[(4,.cells [.s lU,.sl (some (5,0)) 1 (.kn 1),.sl none 0 (.kn 0)] 96 false),(5,.cells [.s fN,.i .i64 3,.i .i64 0,.b false] 93 false)]
def ZD(m:List Bool):List (Nat×aQ):=JJ++opt m 4 ai7++opt m 10 [(6,cond (m.getD 11 false) ai6 zW)]
noncomputable def adg:List (List Bool):=grow (aN (jy.drop 1)) (arG 12 true) 20 [arG 12 false] [arG 12 false]
theorem ai8:iE (ar E0 {}) 300 (aN (jy.drop 1)) JK 59 7 ZC ZD adg (arG 12 true)=true:=by decide+kernel
theorem adh:∃id,jy.drop 1=.region id (aN (jy.drop 1)) true::jy.drop 2:=⟨_,rfl⟩
def nl:V:=.sl none 0 (.kn 0)
def hJ:aQ:=.rc [.top,.top,.q 3,.q 4,.top] 180
def rM(x r:V):aQ:=.cells [.q 6,x,r,.y .i64 3] 47 false
def Eb:List (Nat×V):=[(0,.p (some (0,0))),(2,.p (some (1,0))),(3,.p (some (2,0)))]
def eA:List (Nat×aQ):=[(0,hJ),(1,zW),(2,rM nl nl)]
def adi:bP:={s:=[(3,.y 3)],q:=[(3,.q 3),(4,.q 4),(6,.sl (some (4,0)) 1 (.kn 1))]}
theorem adj:(bG adi (U 59 (ZC (arG 12 true))) (ak 7 (ZD (arG 12 true))) 59 Eb 3 eA).isSome=true:=by decide+kernel
def JL:bP:={s:=[(3,.y 3)],q:=[(3,.q 3),(4,.q 4),(6,.q 6)]}
def JM:List (Nat×V):=(21,.q 3)::Eb
theorem adk:∃id,jy.drop 2=.region id (aN (jy.drop 2)) false::jy.drop 3:=⟨_,rfl⟩
theorem adl:bH (ar E0 {}) 100 (aN (jy.drop 2)) ((aN (jy.drop 2)).toList.take 4) (U 59 Eb) (ak 3 eA) JL 59 JM 3 eA=true:=by decide+kernel
theorem adm:aW JL 59 JM 3 eA=true:=by decide+kernel
def bV:List (Nat×V):=(22,.q 8)::Eb
def Ec:bP:={s:=[(3,.y 3)],q:=[(3,.q 3),(4,.q 4),(6,.q 6),(8,.q 8)]}
theorem adn:(bG Ec (U 59 ((22,.q 8)::JM)) (ak 3 eA) 59 bV 3 eA).isSome=true:=by decide+kernel
theorem ado:aW Ec 59 bV 3 eA=true:=by decide+kernel
def cK:List (Nat×aQ):=[(0,hJ),(1,zW),(2,rM (.sr 3 2 0 4) nl),(3,.row 2 [] 51)]
def Ax:bP:={s:=[(3,.y 3)],q:=[(3,.q 3),(4,.q 4),(6,.q 6),(8,.q 8)],w:=[(2,.same 2)]}
theorem adp:aW Ax 59 bV 4 cK=true:=by decide+kernel
noncomputable def gi:List Code:=roundOf (jy.drop 3)
theorem JN:∃id,gi=.region id (aN gi) false::gi.drop 1:=⟨_,rfl⟩
def JO(l:List V):List (Nat×V):=(23,.t l)::bV
def wN(b:Bool):List (Nat×V):=(24,.b b)::bV
theorem adq:bH (ar E0 {}) 100 (aN gi) (((aN gi).toList.drop 1).take 100) (U 59 (JO [.b true,.top,.top])) (ak 3 eA) Ec 59 (wN true) 3 eA=true:=by decide+kernel
theorem adr:bH (ar E0 {}) 100 (aN gi) (((aN gi).toList.drop 1).take 100) (U 59 (JO [.b true,.top,.top])) (ak 4 cK) Ax 59 (wN true) 4 cK=true:=by decide+kernel
theorem ads:bH (ar E0 {}) 100 (aN gi) (((aN gi).toList.drop 1).take 100) (U 59 (JO [.b false])) (ak 4 cK) Ax 59 (wN false) 4 cK=true:=by decide+kernel
theorem adt:av (ar E0 {}) 100 ((gi.drop 1).take 1) (U 59 (wN true)) (ak 3 eA) .n Ec 59 bV 3 eA=true:=by decide+kernel
theorem adu:av (ar E0 {}) 100 ((gi.drop 1).take 1) (U 59 (wN true)) (ak 4 cK) .n Ax 59 bV 4 cK=true:=by decide+kernel
theorem adv:av (ar E0 {}) 100 ((gi.drop 1).take 1) (U 59 (wN false)) (ak 4 cK) (.e 0) Ax 59 bV 4 cK=true:=by decide+kernel
def ZE:List Code->List Code
 |.block _ c::_=>ct c
 |_=>[]
noncomputable def cE:List Code:=ZE (gi.drop 2)
theorem RV:∃id c,gi.drop 2=[.block id c]/\ct c=cE:=⟨_,_,rfl,rfl⟩
theorem RW:∃id,cE=.region id (aN cE) false::cE.drop 1:=⟨_,rfl⟩
def lr(b:Nat):List V:=[.y .i64 4,.i .i64 0,.i .i64 0,.sl (some (b,0)) 1 (.kn 1)]
def wO(b:Nat):List (Nat×V):=(25,.t [.top,.a (lr b)])::bV
def jI(b:Nat):List (Nat×V):=(5,.p (some (b,0)))::bV
def pb(k v:V):aQ:=.rc [k,v,.s [],.sl none 0 (.kn 0)] 98
def rN(k v:V):aQ:=.cells [k,v,.s [],.sl none 0 (.kn 0)] 98 false
def kY:V:=.i .i64 3
def vYh:V:=.y .i64 6
def kN:V:=.i .i64 0
def je(w:List (Nat×WV)):bP:={s:=[(3,.y 3),(4,.y 4),(6,.y 6),(7,.y 7)],q:=[(3,.q 3),(4,.q 4),(6,.q 6),(8,.q 8)],w:=w}
def jJ(b:Nat)(k v:V)(H:List (Nat×aQ)):List (Nat×aQ):=(b+1,.cells (lr b) 51 false)::(b,pb k v)::H
theorem WI:bH (ar E0 {}) 100 (aN cE) (((aN cE).toList.drop 1).take 100) (U 59 (wO 3)) (ak 4 ((3,pb kY vYh)::eA)) (je []) 59 (jI 4) 5 (jJ 3 kY vYh eA)=true:=by decide+kernel
theorem WJ:bH (ar E0 {}) 100 (aN cE) (((aN cE).toList.drop 1).take 100) (U 59 (wO 3)) (ak 4 ((3,pb kN kN)::eA)) (je []) 59 (jI 4) 5 (jJ 3 kN kN eA)=true:=by decide+kernel
theorem WL:bH (ar E0 {}) 100 (aN cE) (((aN cE).toList.drop 1).take 100) (U 59 (wO 4)) (ak 5 ((4,pb kY vYh)::cK)) (je [(2,.same 2)]) 59 (jI 5) 6 (jJ 4 kY vYh cK)=true:=by decide+kernel
theorem WM:bH (ar E0 {}) 100 (aN cE) (((aN cE).toList.drop 1).take 100) (U 59 (wO 4)) (ak 5 ((4,pb kN kN)::cK)) (je [(2,.same 2)]) 59 (jI 5) 6 (jJ 4 kN kN cK)=true:=by decide+kernel
def Ed:aU:={bd:=[(4,1,100000),(6,1,100000)]}
def Ee:aU:={bd:=[(4,1,100000),(6,1,100000),(7,0,100000)],rz:=[(2,4)],rl:=[(2,0,7)]}
def sU(k v:V):List (Nat×aQ):=[(0,hJ),(1,zW),(2,rM (.sl (some (4,0)) 1 (.un 4)) nl),(4,.cells (lr 5) 51 true),(5,rN k v)]
def sV(k v:V):List (Nat×aQ):=[(0,hJ),(1,zW),(2,rM (.sr 4 2 1 4) nl),(4,.row 2 (lr 5) 51),(5,rN k v)]
theorem WN:av (ar E0 Ed) 400 ((cE.drop 1).take 1) (U 59 (jI 4)) (ak 5 (jJ 3 kY vYh eA)) .n (je []) 59 bV 6 (sU kY vYh)=true:=by decide+kernel
theorem WO:av (ar E0 Ed) 400 ((cE.drop 1).take 1) (U 59 (jI 4)) (ak 5 (jJ 3 kN kN eA)) .n (je []) 59 bV 6 (sU kN kN)=true:=by decide+kernel
theorem WQ:av (ar E0 Ee) 400 ((cE.drop 1).take 1) (U 59 (jI 5)) (ak 6 (jJ 4 kY vYh cK)) .n (je [(2,.same 2)]) 59 bV 6 (sV kY vYh)=true:=by decide+kernel
theorem WR:av (ar E0 Ee) 400 ((cE.drop 1).take 1) (U 59 (jI 5)) (ak 6 (jJ 4 kN kN cK)) .n (je [(2,.same 2)]) 59 bV 6 (sV kN kN)=true:=by decide+kernel
def pX:bP:={s:=[(3,.y 3)],q:=[(3,.q 3),(4,.q 4),(6,.q 6),(8,.q 8)],w:=[(2,.fold 4)]}
theorem WS:(bG pX (U 59 bV) (ak 6 (sU kY vYh)) 59 bV 4 cK).isSome=true:=by decide+kernel
theorem WT:(bG pX (U 59 bV) (ak 6 (sU kN kN)) 59 bV 4 cK).isSome=true:=by decide+kernel
theorem WU:(bG pX (U 59 bV) (ak 6 (sV kY vYh)) 59 bV 4 cK).isSome=true:=by decide+kernel
theorem WW:(bG pX (U 59 bV) (ak 6 (sV kN kN)) 59 bV 4 cK).isSome=true:=by decide+kernel
def L1:List (Nat×V):=[(0,.p (some (0,0))),(2,.p (some (1,0))),(3,.p (some (2,0)))]
def jT:List (Nat×aQ):=[(0,hJ),(1,zW),(2,rM (.q 7) nl)]
def ai9:bP:={s:=[(3,.y 3)],q:=[(3,.q 3),(4,.q 4),(6,.q 6),(7,.sr 3 2 0 4)]}
theorem aja:(bG ai9 (U 59 bV) (ak 4 cK) 59 L1 3 jT).isSome=true:=by decide+kernel
def RX:bP:={s:=[(3,.y 3)],q:=[(3,.q 3),(4,.q 4),(6,.q 6),(7,.q 7)]}
def RY:List (Nat×V):=(37,.q 4)::L1
theorem ajb:∃id,jy.drop 4=.region id (aN (jy.drop 4)) false::jy.drop 5:=⟨_,rfl⟩
theorem ajc:bH (ar E0 {}) 100 (aN (jy.drop 4)) ((aN (jy.drop 4)).toList.take 4) (U 59 L1) (ak 3 jT) RX 59 RY 3 jT=true:=by decide+kernel
theorem ajd:aW RX 59 RY 3 jT=true:=by decide+kernel
def eW:List (Nat×V):=(38,.q 9)::L1
def L2:bP:={s:=[(3,.y 3)],q:=[(3,.q 3),(4,.q 4),(6,.q 6),(7,.q 7),(9,.q 9)]}
theorem aje:(bG L2 (U 59 ((38,.q 9)::RY)) (ak 3 jT) 59 eW 3 jT).isSome=true:=by decide+kernel
theorem ajf:aW L2 59 eW 3 jT=true:=by decide+kernel
def hU:List (Nat×aQ):=[(0,hJ),(1,zW),(2,rM (.q 7) (.sr 3 2 0 2)),(3,.row 2 [] 101)]
def GG:bP:={s:=[(3,.y 3)],q:=[(3,.q 3),(4,.q 4),(6,.q 6),(7,.q 7),(9,.q 9)],w:=[(2,.same 2)]}
theorem ajg:aW GG 59 eW 4 hU=true:=by decide+kernel
noncomputable def jU:List Code:=roundOf (jy.drop 5)
theorem RZ:∃id,jU=.region id (aN jU) false::jU.drop 1:=⟨_,rfl⟩
def R0(l:List V):List (Nat×V):=(39,.t l)::eW
def Cy(b:Bool):List (Nat×V):=(40,.b b)::eW
theorem ajh:bH (ar E0 {}) 100 (aN jU) (((aN jU).toList.drop 1).take 100) (U 59 (R0 [.b true,.top,.top])) (ak 3 jT) L2 59 (Cy true) 3 jT=true:=by decide+kernel
theorem aji:bH (ar E0 {}) 100 (aN jU) (((aN jU).toList.drop 1).take 100) (U 59 (R0 [.b true,.top,.top])) (ak 4 hU) GG 59 (Cy true) 4 hU=true:=by decide+kernel
theorem ajj:bH (ar E0 {}) 100 (aN jU) (((aN jU).toList.drop 1).take 100) (U 59 (R0 [.b false])) (ak 4 hU) GG 59 (Cy false) 4 hU=true:=by decide+kernel
theorem ajk:av (ar E0 {}) 100 ((jU.drop 1).take 1) (U 59 (Cy true)) (ak 3 jT) .n L2 59 eW 3 jT=true:=by decide+kernel
theorem ajl:av (ar E0 {}) 100 ((jU.drop 1).take 1) (U 59 (Cy true)) (ak 4 hU) .n GG 59 eW 4 hU=true:=by decide+kernel
theorem ajm:av (ar E0 {}) 100 ((jU.drop 1).take 1) (U 59 (Cy false)) (ak 4 hU) (.e 2) GG 59 eW 4 hU=true:=by decide+kernel
noncomputable def fZ:List Code:=ZE (jU.drop 2)
theorem ZF:∃id c,jU.drop 2=[.block id c]/\ct c=fZ:=⟨_,_,rfl,rfl⟩
theorem ZG:∃id,fZ=.region id (aN fZ) false::fZ.drop 1:=⟨_,rfl⟩
def ZH:List (Nat×V):=(41,.t [.q 10,.y .i64 4])::eW
def L3:List (Nat×V):=(6,.q 10)::(7,.y .i64 4)::eW
def GH(w:List (Nat×WV)):bP:={s:=[(3,.y 3),(4,.y 4),(7,.y 7)],q:=[(3,.q 3),(4,.q 4),(6,.q 6),(7,.q 7),(9,.q 9),(10,.q 10)],w:=w}
theorem ajn:bH (ar E0 {}) 100 (aN fZ) (((aN fZ).toList.drop 1).take 100) (U 59 ZH) (ak 3 jT) (GH []) 59 L3 3 jT=true:=by decide+kernel
theorem ajo:bH (ar E0 {}) 100 (aN fZ) (((aN fZ).toList.drop 1).take 100) (U 59 ZH) (ak 4 hU) (GH [(2,.same 2)]) 59 L3 4 hU=true:=by decide+kernel
def ZI:aU:={bd:=[(7,0,100000)],rz:=[(2,2)],rl:=[(2,0,7)]}
def R1:List (Nat×aQ):=[(0,hJ),(1,zW),(2,rM (.q 7) (.sl (some (3,0)) 1 (.un 2))),(3,.cells [.q 10,.y .i64 4] 101 true)]
def R2:List (Nat×aQ):=[(0,hJ),(1,zW),(2,rM (.q 7) (.sr 3 2 1 2)),(3,.row 2 [.q 10,.y .i64 4] 101)]
theorem ajp:av (ar E0 {}) 400 ((fZ.drop 1).take 1) (U 59 L3) (ak 3 jT) .n (GH []) 59 eW 4 R1=true:=by decide+kernel
theorem ajq:av (ar E0 ZI) 400 ((fZ.drop 1).take 1) (U 59 L3) (ak 4 hU) .n (GH [(2,.same 2)]) 59 eW 4 R2=true:=by decide+kernel
def L4:bP:={s:=[(3,.y 3)],q:=[(3,.q 3),(4,.q 4),(6,.q 6),(7,.q 7),(9,.q 9)],w:=[(2,.fold 3)]}
theorem adw:(bG L4 (U 59 eW) (ak 4 R1) 59 eW 4 hU).isSome=true:=by decide+kernel
theorem ajr:(bG L4 (U 59 eW) (ak 4 R2) 59 eW 4 hU).isSome=true:=by decide+kernel
def wP:List (Nat×V):=[(2,.p (some (0,0))),(3,.p (some (1,0)))]
def wQ:List (Nat×aQ):=[(0,zW),(1,rM (.q 7) (.q 11))]
def ajs:bP:={s:=[(3,.y 3)],q:=[(6,.q 6),(7,.q 7),(11,.sr 3 2 0 2)]}
theorem aoy:(bG ajs (U 59 eW) (ak 4 hU) 59 wP 2 wQ).isSome=true:=by decide+kernel
def GI:bP:={s:=[(3,.y 3)],q:=[(6,.q 6),(7,.q 7),(11,.q 11)]}
theorem ajt:∃id,jy.drop 6=.region id (aN (jy.drop 6)) false::jy.drop 7:=⟨_,rfl⟩
theorem aju:∃id,jy.drop 7=.region id (aN (jy.drop 7)) false::jy.drop 8:=⟨_,rfl⟩
theorem ajv:bH (ar E0 {}) 100 (aN (jy.drop 6)) ((aN (jy.drop 6)).toList.take 2) (U 59 wP) (ak 2 wQ) GI 59 ((53,.q 7)::wP) 2 wQ=true:=by decide+kernel
theorem ajw:bH (ar E0 {}) 100 (aN (jy.drop 7)) ((aN (jy.drop 7)).toList.take 2) (U 59 wP) (ak 2 wQ) GI 59 ((56,.q 11)::wP) 2 wQ=true:=by decide+kernel
theorem ajx:aW GI 59 ((53,.q 7)::wP) 2 wQ=true:=by decide+kernel
theorem ajy:aW GI 59 ((56,.q 11)::wP) 2 wQ=true:=by decide+kernel
theorem ajz:(bG GI (U 59 ((54,.top)::(53,.q 7)::wP)) (ak 2 wQ) 59 wP 2 wQ).isSome=true:=by decide+kernel
theorem ajA:(bG GI (U 59 ((57,.top)::(56,.q 11)::wP)) (ak 2 wQ) 59 wP 2 wQ).isSome=true:=by decide+kernel
def ajB:List (Nat×aQ):=[(0,rM (.q 7) (.q 11))]
theorem aoz:av (ar E0 {}) 100 ((jy.drop 8).take 2) (U 59 wP) (ak 2 wQ) .r GI 59 [(2,.p (some (0,0)))] 1 ajB=true:=by decide+kernel
variable{w':World}{p:O×Value}{e:MapEntry}
theorem bx{P:Program}:aA P {} φ:=⟨agm,agm,agm,agm,agm,agm,agm,agm,agm⟩
def mT:List Nat:=[93,96,98]
theorem cT.refl(w:World)(Ts:List Nat):cT w w Ts:=fun _ _ _ _ h=>h
theorem cT.trans{w w' w'':World}{Ts:List Nat}(h:cT w w' Ts)(h':cT w' w'' Ts):cT w w'' Ts:=fun r c T hm ho=>h' r c T hm (h r c T hm ho)
theorem zS.aJ{w:World}(h:zS HB w w'){Ts:List Nat}(hT:Ts.all (fun T=>rG T (lI HB))=true):cT w w' Ts:=fun r c T hm ho=>h.c r c T (List.all_eq_true.1 hT T hm) ho
theorem cT.other{w w':World}{ri:Nat}{mb:Option Nat}{s l:Nat}{se:Array Nat}(hi:w.heap[ri]? =some (.mapIter mb s se l))(pN:∀i,i≠ri->w'.heap[i]? =w.heap[i]?)(Ts:List Nat):cT w w' Ts:=fun r c T _ ho=>by rw[pN r (by rintro rfl;rw[hi]at ho;cases ho)];exact ho
theorem cB.aJ{w:World}(h:cB w p){Ts:List Nat}(hk:cT w w' Ts)(hm:98∈Ts):cB w' p:=h.kept fun r c ho=>hk r c 98 hm ho
theorem dG.aJ{w:World}{v:Value}(h:dG w v){Ts:List Nat}(hk:cT w w' Ts)(h1:93∈Ts)(h2:96∈Ts):dG w' v:=by
 obtain⟨rl,rf,cl,cf,g1,g2,g3,g4⟩:=h;exact⟨rl,rf,cl,cf,g1,hk _ _ _ h1 g2,hk _ _ _ h2 g3,g4⟩
def kh(ps:List (O×Value)):Array MapEntry×Nat:=((ps.mapIdx sT).toArray,ps.length)
def Ef(ps:List (O×Value))(e:MapEntry):O×Value:=(ps[e.born]?).getD (⟨0,0⟩,.bool false)
theorem Ay{ps:List (O×Value)}(h:e∈(kh ps).1.toList):e.key=.int .i64 (Ef ps e).1.id/\e.val=yp (Ef ps e)/\Ef ps e∈ps/\e.born<ps.length:=by
 simp only[kh,arM]at h;obtain⟨i,hi,rfl⟩:=h;have:Ef ps (sT i ps[i])=ps[i]:=by simp[Ef,sT,hi]
 rw[this];exact⟨rfl,rfl,List.getElem_mem hi,hi⟩
theorem WX(ps:List (O×Value)):(kh ps).1.toList.map (Ef ps)=ps:=by
 apply arU;intro i;simp only[kh,arT,arH];rcases arK i ps.length with h|h
 ·simp[Ef,sT,h]
 ·simp[arD h]
theorem uC(ps:List (O×Value)):((kh ps).1.toList.map (·.born)).Nodup:=by
 have:((kh ps).1.toList.map (·.born))=List.range ps.length:=by
  apply arU;intro i;simp only[kh,arT,arH];rcases arK i ps.length with h|h
  ·rw[aop h,List.getElem?_range h];rfl
  ·rw[arD h,arD (by simpa using h)];rfl
 rw[this];exact List.nodup_range
theorem uD(ps:List (O×Value)):(kh ps).1.size=ps.length:=by simp[kh]
theorem Ag.cL{tb:bP}{y:Sym}(hy:Ag tb y y)(hn:bD φ y):iC tb φ.y y:=hy.au hn.1 hn.2.1 hn.2.2.1 hn.2.2.2
theorem Ag.pY{tb:bP}{o o' y:Sym}(hy:Ag tb o y)(hs:o'.s=o.s)(hq:o'.q=o.q)(hw:o'.w=o.w)(hg:o'.g=o.g):Ag tb o' y:=by
 refine⟨?_,?_,?_,?_⟩
 ·rw[hs];exact hy.s
 ·have:pe o'=pe o:=by
   funext a v
   cases a<;>simp only[pe,hs,hq]
  rw[this];exact hy.q
 ·rw[hw];exact hy.w
 ·rw[hg];exact hy.g
theorem lV{n:Nat}{rd bk:List Code}{L0:List (Nat×V)}{d1 d2 di nt z:Nat}{x1 x2:Operand}{o1 o2:Oper}{l1 l2:List Oper}{tb:bP}{nb:Nat}{HB:List (Nat×aQ)}
  (hr:∃id,rd=.region id (aN rd) false::rd.drop 1)(hb:∃id c,rd.drop 2=[.block id c]/\ct c=bk)(hbk:∃id,bk=.region id (aN bk) false::bk.drop 1)
  (lS:(aN rd).toList=o1::l1)(p1:o1.op=.next x1 false)(g1:o1.guard=none)(t1:o1.dst=some d1)(iM:d1<nt)(e1:ev 0 (U nt L0) x1=.q z)
  (Gx:(aN bk).toList=o2::l2)(p2:o2.op=.entry x2)(g2:o2.guard=none)(t2:o2.dst=some d2)(e2:ev 0 (U nt L0) x2=.q z)
  (hN:bH (ar E0 {}) 100 (aN rd) (l1.take 100) (U nt ((d1,.t [.b true,.top,.top])::L0)) (ak nb HB) tb nt ((di,.b true)::L0) nb HB=true)(hN1:l1.drop 100=[])
  (hI:av (ar E0 {}) 100 ((rd.drop 1).take 1) (U nt ((di,.b true)::L0)) (ak nb HB) .n tb nt L0 nb HB=true){Ts:List Nat}(hT:Ts.all (fun T=>rG T (lI HB))=true)
  {φ:Ren}{B:Nat}{a:Act}{w':World}(hs:ad φ B (U nt L0) (ak nb HB) a w')(hd:a.defers=[]){y:Sym}(hy:Ag tb y y)(hn:bD φ y){ri bm:Nat}(hz:y.q z=.pointer (some ⟨ri,0,none⟩)){es:Array MapEntry}{clock:Nat}{seen:Array Nat}
  (hit:w'.heap[ri]? =some (.mapIter (some bm) clock seen clock))(hm:w'.heap[bm]? =some (.map es clock))(hmb:bm<B)(hold:∀x∈es.toList,x.born<clock)(Gz:(es.toList.map (·.born)).Nodup)(hB:B<=ri)(bU:(leftOf es seen).size≠0){Q:Exit->Act->World->Prop}
  (hQ:∀e∈(leftOf es seen).toList,∀af a' w'',ad af B (U nt L0) (ak nb HB) a' w''->a'.defers=[]->bD af y->GB B w' w''->cT w' w'' Ts->w''.heap[ri]? =some (.mapIter (some bm) clock (seen.push e.born) clock)->
   wpListIn (W none) n E0.P (aN bk) (Exit.then (aC none n E0.P (fun ex a3 w3=>ex=.normal/\Q .normal a3 w3) (bk.drop 1)) (fun ex a3 w3=>ex=.normal/\Q .normal a3 w3)) l2 (a'.put (some d2) (.tuple #[e.key,e.val])) w''):aC none n E0.P Q rd a w':=by
 obtain⟨id1,hr⟩:=hr;rw[hr];refine b8 ?_;refine hs.Zr lS p1 g1 e1 (ri:=ri) (by rw[hn.2.1];exact hz) hit hm hold (AAA _) hB (fun h0=>absurd h0 bU) ?_;intro e he ay w1 b9 n1 n2 n3 n4 kx pN Eg;have BT:bD ay y:=⟨n1.trans hn.1,n2.trans hn.2.1,n3.trans hn.2.2.1,n4.trans hn.2.2.2⟩;rw[t1];have dx:=b9.put (d:=d1) iM (x:=.t [.b true,.top,.top]) (v:=.tuple #[.bool true,e.key,e.val]) (by
  simp only[VR];exact⟨_,rfl,J.cons vB (J.cons (by simp only[VR]) (J.cons (by simp only[VR]) J.nil))⟩)
 refine ad.gz (aq aB {}) rfl 100 hN dx bx.dU y (hy.cL BT) fun eH a3 w3 ez gJ ig vO m1 m2 m3 m4=> ?_
 rw[hN1];show aC none n E0.P _ (rd.drop 1) a3 w3;have wR:a3.defers=[]:=by rw[gJ];exact hd
 refine ad.dc (aq aB {}) rfl 1 hI ez bx.dU wR y (hy.cL ⟨m1,m2,m3,m4⟩) fun jn a4 w4 ll sS pV D8 m1 m2 m3 m4=> ?_
 show aC none n E0.P Q ((rd.drop 1).drop 1) a4 w4;rw[List.drop_drop];obtain⟨idb,c,sj,tB⟩:=hb;rw[sj];refine Je ?_;rw[tB];obtain⟨id2,hbk⟩:=hbk;rw[hbk];refine b8 ?_;have ajC:=D8.i ri _ _ _ _ (vO.i ri _ _ _ _ Eg);have hbB:∀{u u':World},GB B u u'->u'.heap[bm]? =u.heap[bm]? :=fun h=>h.same bm hmb
 have hm4:w4.heap[bm]? =some (.map es clock):=by rw[hbB pV,hbB ig,hbB kx,hm]
 refine ll.abY Gx p2 g2 e2 (ri:=ri) (by rw[m2];exact hz) ajC hm4 (mem_left he).1 Gz ?_;rw[t2];exact hQ e he jn a4 w4 ll sS ⟨m1,m2,m3,m4⟩ ((kx.trans ig).trans pV) (((cT.other hit pN Ts).trans (vO.aJ hT)).trans (D8.aJ hT)) ajC
theorem Cz{n:Nat}{rd:List Code}{L0:List (Nat×V)}{d1 di nt z id:Nat}{x1:Operand}{o1:Oper}{l1:List Oper}{tb:bP}{nb:Nat}{HB:List (Nat×aQ)}
  (hr:∃id,rd=.region id (aN rd) false::rd.drop 1)
  (lS:(aN rd).toList=o1::l1)(p1:o1.op=.next x1 false)(g1:o1.guard=none)(t1:o1.dst=some d1)(iM:d1<nt)(e1:ev 0 (U nt L0) x1=.q z)
  (hN:bH (ar E0 {}) 100 (aN rd) (l1.take 100) (U nt ((d1,.t [.b false])::L0)) (ak nb HB) tb nt ((di,.b false)::L0) nb HB=true)(hN1:l1.drop 100=[])
  (hI:av (ar E0 {}) 100 ((rd.drop 1).take 1) (U nt ((di,.b false)::L0)) (ak nb HB) (.e id) tb nt L0 nb HB=true){Ts:List Nat}(hT:Ts.all (fun T=>rG T (lI HB))=true)
  {φ:Ren}{B:Nat}{a:Act}{w':World}(hs:ad φ B (U nt L0) (ak nb HB) a w')(hd:a.defers=[]){y:Sym}(hy:Ag tb y y)(hn:bD φ y){ri bm:Nat}(hz:y.q z=.pointer (some ⟨ri,0,none⟩)){es:Array MapEntry}{clock:Nat}{seen:Array Nat}
  (hit:w'.heap[ri]? =some (.mapIter (some bm) clock seen clock))(hm:w'.heap[bm]? =some (.map es clock))(hold:∀x∈es.toList,x.born<clock)(hB:B<=ri)(bU:∀e,e∉(leftOf es seen).toList){Q:Act->World->Prop}
  (hQ:∀af a' w'',ad af B (U nt L0) (ak nb HB) a' w''->a'.defers=[]->bD af y->GB B w' w''->cT w' w'' Ts->Q a' w''):aC none n E0.P (fun e a' w''=>e=.exit id/\Q a' w'') rd a w':=by
 obtain⟨id1,hr⟩:=hr;rw[hr];refine b8 ?_;refine hs.Zr lS p1 g1 e1 (ri:=ri) (by rw[hn.2.1];exact hz) hit hm hold (AAA _) hB (fun h0=> ?_) (fun e he=>absurd he (bU e));rw[t1];have dx:=hs.put (d:=d1) iM (x:=.t [.b false]) (v:=.tuple #[.bool false]) (by
  simp only[VR];exact⟨_,rfl,J.cons vB J.nil⟩)
 refine ad.gz (aq aB {}) rfl 100 hN dx bx.dU y (hy.cL hn) fun eH a3 w3 ez gJ ig vO m1 m2 m3 m4=> ?_
 rw[hN1];show aC none n E0.P _ (rd.drop 1) a3 w3;have wR:a3.defers=[]:=by rw[gJ];exact hd
 refine ad.dc (aq aB {}) rfl 1 hI ez bx.dU wR y (hy.cL ⟨m1,m2,m3,m4⟩) fun jn a4 w4 ll sS pV D8 m1 m2 m3 m4=> ?_
 exact⟨rfl,hQ jn a4 w4 ll sS ⟨m1,m2,m3,m4⟩ (ig.trans pV) ((vO.aJ hT).trans (D8.aJ hT))⟩
def wY(ro rr next ri:Nat)(ln:Value)(i id ref:Nat)(row:List Value):Sym:=dg [0,0,0,next,id,0,ref,i] [.bool false,.bool false,.bool false,.map (some ro),.map (some rr),.bool false,ln,.bool false,.pointer (some ⟨ri,0,none⟩)] [[],[],row] []
theorem CA{ro rr next ri:Nat}{ln:Value}(h1:ln.oneCell'=true){i id ref:Nat}{row:List Value}{wt:List (Nat×WV)}(hw:wt=[]\/wt=[(2,.same 2)]):Ag (je wt) (wY ro rr next ri ln i id ref row) (wY ro rr next ri ln i id ref row):=by
 refine⟨⟨rfl,rfl,rfl,rfl,agm⟩,⟨⟨rfl,rfl⟩,⟨rfl,rfl⟩,⟨rfl,h1⟩,⟨rfl,rfl⟩,agm⟩,?_,agm⟩;rcases hw with rfl|rfl
 ·exact agm
 ·exact⟨rfl,agm⟩
theorem L5{w:World}(hr:HR φ (ak nb HB) w){k v:V}(BV:KN k v p.1)(s6:φ.s 6=((rf p.1:Nat):Int))(s4:φ.s 4=p.1.id)(h5:mO HB 5=rN k v){vs:List Value}(hv:J φ (lr 5) vs):
  ∃r,vs=gK (p.1,.slice (some ⟨r,0,none⟩) 1 1)/\cB w (p.1,.slice (some ⟨r,0,none⟩) 1 1):=by
 simp only[lr,J,VR]at hv;obtain⟨_,_,rfl,rfl,_,_,rfl,rfl,_,_,rfl,rfl,_,_,rfl,⟨r,WY,_,rfl⟩,rfl⟩:=hv;obtain⟨c,g,vc,_,z,_⟩:=hr.cx WY (l:=[k,v,.s [],.sl none 0 (.kn 0)]) h5;have z:=z rfl;have hc:c=dB p.1:=by
  have:=(BV φ s6).2 _ vc;rw[arC (by rw[arF,z];exact AAA _)]at this;exact arE.1 this
 subst hc;exact⟨r,by rw[s4];rfl,r,rfl,g⟩
theorem CB{n:Nat}{k v:V}{p:O×Value}(BV:KN k v p.1)
  (hE:bH (ar E0 {}) 100 (aN cE) (((aN cE).toList.drop 1).take 100) (U 59 (wO 4)) (ak 5 ((4,pb k v)::cK)) (je [(2,.same 2)]) 59 (jI 5) 6 (jJ 4 k v cK)=true)
  (hO:av (ar E0 Ee) 400 ((cE.drop 1).take 1) (U 59 (jI 5)) (ak 6 (jJ 4 k v cK)) .n (je [(2,.same 2)]) 59 bV 6 (sV k v)=true)
  (hC:(bG pX (U 59 bV) (ak 6 (sV k v)) 59 bV 4 cK).isSome=true)
  {φ:Ren}{B:Nat}{a:Act}{w':World}(hs:ad φ B (U 59 bV) (ak 4 cK) a w')(hd:a.defers=[]){ro rr next ri:Nat}{ln:Value}{lc:List (O×Value)}(hn:bD φ (wY ro rr next ri ln 0 0 0 (aZ lc)))(h1:ln.oneCell'=true)
  (mZ:cB w' p)(lG:1<=p.1.id/\p.1.id<=100000)(qS:p.1.ref<=100000)(Ia:lc.length<=100000)(key:Value){Q:Act->World->Prop}
  (hQ:∀af a' w'' r,ad af B (U 59 bV) (ak 4 cK) a' w''->a'.defers=[]->bD af (wY ro rr next ri ln 0 0 0 (aZ (lc++[(p.1,.slice (some ⟨r,0,none⟩) 1 1)])))->GB B w' w''->cT w' w'' mT->(∀(x:Nat) mb s se l,w'.heap[x]? =some (.mapIter mb s se l)->w''.heap[x]? =some (.mapIter mb s se l))->
   cB w'' (p.1,.slice (some ⟨r,0,none⟩) 1 1)->Q a' w''):
  wpListIn (W none) n E0.P (aN cE) (Exit.then (aC none n E0.P (fun ex a3 w3=>ex=.normal/\Q a3 w3) (cE.drop 1)) (fun ex a3 w3=>ex=.normal/\Q a3 w3)) ((aN cE).toList.drop 1) (a.put (some 25) (.tuple #[key,yp p])) w':=by
 obtain⟨n1,n2,n3,n4⟩:=hn;have Vn:1<=rf p.1/\rf p.1<=100000:=by unfold rf;split<;>omega
 obtain⟨ay,b9,m1,m2,m3,m4⟩:=hs.gY adp (y:=wY ro rr next ri ln lc.length p.1.id (rf p.1) (aZ lc))
  ⟨⟨(agB n1 3).symm,agm⟩,⟨⟨(agB n2 3).symm,rfl⟩,⟨(agB n2 4).symm,rfl⟩,⟨(agB n2 6).symm,h1⟩,⟨(agB n2 8).symm,rfl⟩,agm⟩,⟨(agB n3 2).symm,agm⟩,agm⟩
 obtain⟨r,xR,hr⟩:=mZ;have s6:ay.s 6=((rf p.1:Nat):Int):=agB m1 6;have bB:=b9.lb hr rfl 99 .top (pb k v) (fun h=>h) ⟨_,rfl,by
  rw[arC (by rw[arF,dj];exact AAA 4)];exact(BV ay s6).1,by rw[dj];exact AAA 4,rfl⟩ (by simp only[VR])
 have s4:(up ay 4 r (dB p.1).size).s 4=p.1.id:=agB m1 4;have nS:=ad.put (L:=bV) bB (d:=25) (by decide) (x:=.t [.top,.a (lr 4)]) (v:=.tuple #[key,yp p]) (by
  simp only[VR];refine⟨_,rfl,J.cons (by simp only[VR]) (J.cons ?_ J.nil)⟩;simp only[VR];refine⟨_,rfl,J.cons (by simp only[VR,s4]) (J.cons vI (J.cons vI (J.cons ?_ J.nil)))⟩;show VR _ _ p.2;rw[xR];exact NR rfl (by decide))
 have R3:=CA (ro:=ro) (rr:=rr) (next:=next) (ri:=ri) (i:=lc.length) (id:=p.1.id) (ref:=rf p.1) (row:=aZ lc) h1 (wt:=[(2,.same 2)]) (.inr rfl);refine ad.gz (aq aB {}) rfl 100 hE nS bx.dU _ (R3.cL ⟨m1,m2,m3,m4⟩) fun eH a3 w3 ez gJ ig vO m1 m2 m3 m4=> ?_
 show aC none n E0.P _ (cE.drop 1) a3 w3;have wR:a3.defers=[]:=by rw[gJ];exact hd
 refine ad.dc (aq aB Ee) rfl 1 hO ez (aA.dU ?_) wR _ (R3.cL ⟨m1,m2,m3,m4⟩) fun af a' w'' cu cy dh jS e1 e2 e3 e4=>⟨rfl,?_⟩
 ·have t4:eH.y.s 4=p.1.id:=agB m1 4
  have t6:eH.y.s 6=rf p.1:=agB m1 6;have t7:eH.y.s 7=lc.length:=agB m1 7;have hw:eH.y.w 2=aZ lc:=agB m3 2;refine⟨⟨⟨?_,?_⟩,⟨?_,?_⟩,⟨?_,?_⟩,agm⟩,agm,agm,⟨⟨lc.length,by decide,?_,t7⟩,agm⟩,agm,agm,agm,agm,agm⟩
  ·show(1:Int)<=_;simp only[Ren.s,t4];omega
  ·show _<=(100000:Int);simp only[Ren.s,t4];omega
  ·show(1:Int)<=_;simp only[Ren.s,t6];omega
  ·show _<=(100000:Int);simp only[Ren.s,t6];omega
  ·show(0:Int)<=_;simp only[Ren.s,t7];omega
  ·show _<=(100000:Int);simp only[Ren.s,t7];omega
  ·show lc.length*4=(eH.y.w 2).length
   rw[hw,fh]
 ·obtain⟨r2,h2⟩:=cu.ptr 3 rfl
  obtain⟨c2,_,v2,_⟩:=cu.hr.cx h2 (l:=[.q 6,.sr 4 2 1 4,nl,.y .i64 3]) rfl;simp only[J,VR]at v2;obtain⟨_,_,_,_,_,_,_,⟨r4,nn,cap,h4,_⟩,_⟩:=v2;obtain⟨c4,vs,g4,v4,t4,z4,_⟩:=cu.hr.Q9 h4 (x:=2) (l:=lr 5) rfl;obtain⟨r5,rfl,Zz⟩:=L5 cu.hr BV (agB e1 6) (agB e1 4) rfl v4;have hw:af.w 2=aZ lc:=agB e3 2;have oZ:Agree pX af (ak 6 (sV k v)) w'' (wY ro rr next ri ln 0 0 0 (aZ (lc++[(p.1,.slice (some ⟨r5,0,none⟩) 1 1)]))):=by
   refine bC ⟨(agB e1 3).symm,agm⟩ ⟨?_,?_,?_,?_,agm⟩ ⟨?_,agm⟩ trivial
   ·simp only[VR];exact⟨(agB e2 3).symm,rfl⟩
   ·simp only[VR];exact⟨(agB e2 4).symm,rfl⟩
   ·simp only[VR];exact⟨(agB e2 6).symm,h1⟩
   ·simp only[VR];exact⟨(agB e2 8).symm,rfl⟩
   ·intro r cs e hr ib
    rw[h4]at hr;cases hr;rw[g4]at ib;cases ib;refine⟨fun z l e h=> ?_,fun l' e g h=> ?_⟩
    ·rw[aH]at h;cases h
     rw[t4,hw];show aZ (lc++[_])=_;simp[aZ]
    ·rw[aH]at h;cases h
  obtain⟨aV,dx,j1,j2,j3,j4⟩:=cu.conv hC _ oZ;exact hQ aV a' w'' r5 dx cy ⟨j1,j2,j3,j4⟩ (ig.trans dh) ((vO.aJ rfl).trans (jS.aJ rfl)) (fun x mb s se l h=>jS.i x mb s se l (vO.i x mb s se l h)) Zz
theorem CC{n:Nat}{k v:V}{p:O×Value}(BV:KN k v p.1)
  (hE:bH (ar E0 {}) 100 (aN cE) (((aN cE).toList.drop 1).take 100) (U 59 (wO 3)) (ak 4 ((3,pb k v)::eA)) (je []) 59 (jI 4) 5 (jJ 3 k v eA)=true)
  (hO:av (ar E0 Ed) 400 ((cE.drop 1).take 1) (U 59 (jI 4)) (ak 5 (jJ 3 k v eA)) .n (je []) 59 bV 6 (sU k v)=true)
  (hC:(bG pX (U 59 bV) (ak 6 (sU k v)) 59 bV 4 cK).isSome=true)
  {φ:Ren}{B:Nat}{a:Act}{w':World}(hs:ad φ B (U 59 bV) (ak 3 eA) a w')(hd:a.defers=[]){ro rr next ri:Nat}{ln:Value}(hn:bD φ (wY ro rr next ri ln 0 0 0 []))(h1:ln.oneCell'=true)
  (mZ:cB w' p)(lG:1<=p.1.id/\p.1.id<=100000)(qS:p.1.ref<=100000)(key:Value){Q:Act->World->Prop}
  (hQ:∀af a' w'' r,ad af B (U 59 bV) (ak 4 cK) a' w''->a'.defers=[]->bD af (wY ro rr next ri ln 0 0 0 (aZ [(p.1,.slice (some ⟨r,0,none⟩) 1 1)]))->GB B w' w''->cT w' w'' mT->(∀(x:Nat) mb s se l,w'.heap[x]? =some (.mapIter mb s se l)->w''.heap[x]? =some (.mapIter mb s se l))->
   cB w'' (p.1,.slice (some ⟨r,0,none⟩) 1 1)->Q a' w''):
  wpListIn (W none) n E0.P (aN cE) (Exit.then (aC none n E0.P (fun ex a3 w3=>ex=.normal/\Q a3 w3) (cE.drop 1)) (fun ex a3 w3=>ex=.normal/\Q a3 w3)) ((aN cE).toList.drop 1) (a.put (some 25) (.tuple #[key,yp p])) w':=by
 obtain⟨n1,n2,n3,n4⟩:=hn;have Vn:1<=rf p.1/\rf p.1<=100000:=by unfold rf;split<;>omega
 obtain⟨ay,b9,m1,m2,m3,m4⟩:=hs.gY ado (y:=wY ro rr next ri ln 0 p.1.id (rf p.1) [])
  ⟨⟨(agB n1 3).symm,agm⟩,⟨⟨(agB n2 3).symm,rfl⟩,⟨(agB n2 4).symm,rfl⟩,⟨(agB n2 6).symm,h1⟩,⟨(agB n2 8).symm,rfl⟩,agm⟩,agm,agm⟩
 obtain⟨r,xR,hr⟩:=mZ;have s6:ay.s 6=((rf p.1:Nat):Int):=agB m1 6;have bB:=b9.lb hr rfl 99 .top (pb k v) (fun h=>h) ⟨_,rfl,by
  rw[arC (by rw[arF,dj];exact AAA 4)];exact(BV ay s6).1,by rw[dj];exact AAA 4,rfl⟩ (by simp only[VR])
 have s4:(up ay 3 r (dB p.1).size).s 4=p.1.id:=agB m1 4;have nS:=ad.put (L:=bV) bB (d:=25) (by decide) (x:=.t [.top,.a (lr 3)]) (v:=.tuple #[key,yp p]) (by
  simp only[VR];refine⟨_,rfl,J.cons (by simp only[VR]) (J.cons ?_ J.nil)⟩;simp only[VR];refine⟨_,rfl,J.cons (by simp only[VR,s4]) (J.cons vI (J.cons vI (J.cons ?_ J.nil)))⟩;show VR _ _ p.2;rw[xR];exact NR rfl (by decide))
 have R3:=CA (ro:=ro) (rr:=rr) (next:=next) (ri:=ri) (i:=0) (id:=p.1.id) (ref:=rf p.1) (row:=[]) h1 (wt:=[]) (.inl rfl);refine ad.gz (aq aB {}) rfl 100 hE nS bx.dU _ (R3.cL ⟨m1,m2,m3,m4⟩) fun eH a3 w3 ez gJ ig vO m1 m2 m3 m4=> ?_
 show aC none n E0.P _ (cE.drop 1) a3 w3;have wR:a3.defers=[]:=by rw[gJ];exact hd
 refine ad.dc (aq aB Ed) rfl 1 hO ez (aA.dU ?_) wR _ (R3.cL ⟨m1,m2,m3,m4⟩) fun af a' w'' cu cy dh jS e1 e2 e3 e4=>⟨rfl,?_⟩
 ·have t4:eH.y.s 4=p.1.id:=agB m1 4
  have t6:eH.y.s 6=rf p.1:=agB m1 6;refine⟨⟨⟨?_,?_⟩,⟨?_,?_⟩,agm⟩,agm,agm,agm,agm,agm,agm,agm,agm⟩
  ·show(1:Int)<=_;simp only[Ren.s,t4];omega
  ·show _<=(100000:Int);simp only[Ren.s,t4];omega
  ·show(1:Int)<=_;simp only[Ren.s,t6];omega
  ·show _<=(100000:Int);simp only[Ren.s,t6];omega
 ·obtain⟨r2,h2⟩:=cu.ptr 3 rfl
  obtain⟨c2,_,v2,_⟩:=cu.hr.cx h2 (l:=[.q 6,.sl (some (4,0)) 1 (.un 4),nl,.y .i64 3]) rfl;simp only[J,VR]at v2;obtain⟨_,_,_,_,_,_,_,⟨r4,cap,h4,_⟩,_⟩:=v2;obtain⟨c4,g4,v4,z4,_,_⟩:=cu.hr.cx h4 (l:=lr 5) rfl;obtain⟨r5,Fb,Zz⟩:=L5 cu.hr BV (agB e1 6) (agB e1 4) rfl v4;have oZ:Agree pX af (ak 6 (sU k v)) w'' (wY ro rr next ri ln 0 0 0 (aZ [(p.1,.slice (some ⟨r5,0,none⟩) 1 1)])):=by
   refine bC ⟨(agB e1 3).symm,agm⟩ ⟨?_,?_,?_,?_,agm⟩ ⟨?_,agm⟩ trivial
   ·simp only[VR];exact⟨(agB e2 3).symm,rfl⟩
   ·simp only[VR];exact⟨(agB e2 4).symm,rfl⟩
   ·simp only[VR];exact⟨(agB e2 6).symm,h1⟩
   ·simp only[VR];exact⟨(agB e2 8).symm,rfl⟩
   ·intro r cs e hr ib
    rw[h4]at hr;cases hr;rw[g4]at ib;cases ib;refine⟨fun z l e h=> ?_,fun l' e g h=> ?_⟩
    ·rw[aH]at h;cases h
    ·rw[aH]at h;cases h
     rw[Fb];show aZ [_]=_;simp[aZ]
  obtain⟨aV,dx,j1,j2,j3,j4⟩:=cu.conv hC _ oZ;exact hQ aV a' w'' r5 dx cy ⟨j1,j2,j3,j4⟩ (ig.trans dh) ((vO.aJ rfl).trans (jS.aJ rfl)) (fun x mb s se l h=>jS.i x mb s se l (vO.i x mb s se l h)) Zz
structure WZ(w w':World)(bm ri:Nat)(m:Array MapEntry×Nat)(ln:Value)(de:List MapEntry):Prop where
 gb:GB w.heap.size w w'
 it:w'.heap[ri]? =some (.mapIter (some bm) m.2 (de.map (·.born)).toArray m.2)
 BA:dG w' ln
 came:uq m.1 de
def xW(w:World)(ps:List (O×Value))(ro rr ri next:Nat)(ln:Value):Nat->Act->World->Prop
 |0,a,w'=>∃φ,ad φ w.heap.size (U 59 bV) (ak 3 eA) a w'/\a.defers=[]/\bD φ (wY ro rr next ri ln 0 0 0 [])/\WZ w w' ro ri (kh ps) ln []
 |i+1,a,w'=>∃φ de lc,ad φ w.heap.size (U 59 bV) (ak 4 cK) a w'/\a.defers=[]/\bD φ (wY ro rr next ri ln 0 0 0 (aZ lc))/\WZ w w' ro ri (kh ps) ln de/\de.length=i+1/\lc.map (·.1)=de.map (fun e=>(Ef ps e).1)/\∀p∈lc,cB w' p
structure aoA(w:World)(ps:List (O×Value))(ro ri:Nat):Prop where
 map:w.heap[ro]? =some (.map (kh ps).1 (kh ps).2)
 ri:w.heap.size<=ri
 aP:∀p∈ps,cB w p
 ids:∀p∈ps,1<=p.1.id/\p.1.id<=100000
 refs:∀p∈ps,p.1.ref<=100000
 ln:ps.length<=100000
theorem GJ(de:List MapEntry)(e:MapEntry):((de.map (·.born)).toArray).push e.born=((de++[e]).map (·.born)).toArray:=by simp
theorem GB.isVal{B:Nat}{w:World}(h:GB B w w')(hb:B=w.heap.size)(hv:cB w p):cB w' p:=hv.kept fun _ _ ho=>h.at_ hb ho
theorem N4{n:Nat}{w:World}{ps:List (O×Value)}{ro rr ri next:Nat}{ln:Value}(C:aoA w ps ro ri)(h1:ln.oneCell'=true)(bU:ps≠[]){Q:Exit->Act->World->Prop}{a:Act}{w':World}(h0:xW w ps ro rr ri next ln 0 a w')
  (hQ:∀af a' w'' lc,ad af w.heap.size (U 59 bV) (ak 4 cK) a' w''->a'.defers=[]->bD af (wY ro rr next ri ln 0 0 0 (aZ lc))->GB w.heap.size w w''->dG w'' ln->(lc.map (·.1)).Perm (ps.map (·.1))->(∀p∈lc,cB w'' p)->aC none n E0.P Q (jy.drop 4) a' w''):aC none n E0.P Q (jy.drop 3) a w':=by
 have vG:ro<w.heap.size:=(arI.1 C.map).1;have hold:∀x∈(kh ps).1.toList,x.born<(kh ps).2:=fun x hx=>(Ay hx).2.2.2
 refine dd (id:=0) (b:=(match jy.drop 3 with|.block _ (.loop b)::_=>b|_=>.skip)) (rest:=jy.drop 4) ps.length (xW w ps ro rr ri next ln) ?_ ?_ h0
 ·intro i a w' hi hinv
  show aC none n E0.P _ gi a w';cases i with
  |zero=>
   obtain⟨φ,hs,hd,hn,hc⟩:=hinv;refine lV (d1:=23) (di:=24) (d2:=25) (nt:=59) (z:=8) (L0:=bV) (bk:=cE) (l2:=(aN cE).toList.drop 1) JN RV RW rfl rfl rfl rfl (by decide) rfl rfl rfl rfl rfl rfl adq rfl adt (Ts:=mT) rfl hs hd (y:=wY ro rr next ri ln 0 0 0 [])
    ⟨⟨rfl,agm⟩,⟨⟨rfl,rfl⟩,⟨rfl,rfl⟩,⟨rfl,h1⟩,⟨rfl,rfl⟩,agm⟩,agm,agm⟩ hn rfl hc.it (hc.gb.at_ rfl C.map) vG hold (uC ps) C.ri (fun h0=> ?_) ?_
   ·have:=hc.came.none (uC ps) h0
    rw[uD]at this;exact bU (arL (Nat.le_zero.1 this))
   ·intro e he ay a1 w1 b9 iM BT kx z8 Eg
    obtain⟨R4,hem⟩:=hc.came.snoc he;obtain⟨ek,ev',ep,eb⟩:=Ay hem;have GK:cB w1 (Ef ps e):=(hc.gb.trans kx).isVal rfl (C.aP _ ep);have fin:∀a' w'' r af,ad af w.heap.size (U 59 bV) (ak 4 cK) a' w''->a'.defers=[]->bD af (wY ro rr next ri ln 0 0 0 (aZ [((Ef ps e).1,.slice (some ⟨r,0,none⟩) 1 1)]))->GB w.heap.size w1 w''->cT w1 w'' mT->(∀(x:Nat) mb s se l,w1.heap[x]? =some (.mapIter mb s se l)->w''.heap[x]? =some (.mapIter mb s se l))->
      cB w'' ((Ef ps e).1,.slice (some ⟨r,0,none⟩) 1 1)->xW w ps ro rr ri next ln 1 a' w'':=fun a' w'' r af cu cy kZ dh jS hi' yk=>
     ⟨af,[e],[((Ef ps e).1,.slice (some ⟨r,0,none⟩) 1 1)],cu,cy,kZ,⟨(hc.gb.trans kx).trans dh,hi' _ _ _ _ _ Eg,(hc.BA.aJ z8 (by decide) (by decide)).aJ jS (by decide) (by decide),R4⟩,rfl,rfl,fun p hp=>by
      simp only[arQ]at hp;subst hp;exact yk⟩
    rw[ev']
    by_cases qS:(Ef ps e).1.ref=0
    ·exact CC (DY qS) WJ WO WT b9 iM BT h1 GK (C.ids _ ep) (C.refs _ ep) e.key (Q:=fun a3 w3=>arJ=.normal/\xW w ps ro rr ri next ln (0+1) a3 w3) fun af a' w'' r cu cy kZ dh jS hi' yk=>⟨rfl,fin a' w'' r af cu cy kZ dh jS hi' yk⟩
    ·exact CC (DX qS) WI WN WS b9 iM BT h1 GK (C.ids _ ep) (C.refs _ ep) e.key (Q:=fun a3 w3=>arJ=.normal/\xW w ps ro rr ri next ln (0+1) a3 w3) fun af a' w'' r cu cy kZ dh jS hi' yk=>⟨rfl,fin a' w'' r af cu cy kZ dh jS hi' yk⟩
  |succ i=>
   obtain⟨φ,de,lc,hs,hd,hn,hc,oW,Ia,iz⟩:=hinv;have hlen:lc.length=i+1:=by have:=congrArg List.length Ia;simpa[oW]using this
   refine lV (d1:=23) (di:=24) (d2:=25) (nt:=59) (z:=8) (L0:=bV) (bk:=cE) (l2:=(aN cE).toList.drop 1) JN RV RW rfl rfl rfl rfl (by decide) rfl rfl rfl rfl rfl rfl adr rfl adu (Ts:=mT) rfl hs hd (y:=wY ro rr next ri ln 0 0 0 (aZ lc))
    ⟨⟨rfl,agm⟩,⟨⟨rfl,rfl⟩,⟨rfl,rfl⟩,⟨rfl,h1⟩,⟨rfl,rfl⟩,agm⟩,⟨rfl,agm⟩,agm⟩ hn rfl hc.it (hc.gb.at_ rfl C.map) vG hold (uC ps) C.ri (fun h0=> ?_) ?_
   ·have:=hc.came.none (uC ps) h0
    rw[uD]at this;omega
   ·intro e he ay a1 w1 b9 iM BT kx z8 Eg
    obtain⟨R4,hem⟩:=hc.came.snoc he;obtain⟨ek,ev',ep,eb⟩:=Ay hem;have GK:cB w1 (Ef ps e):=(hc.gb.trans kx).isVal rfl (C.aP _ ep);have ajD:lc.length<=100000:=by have:=C.ln;omega
    have fin:∀a' w'' r af,ad af w.heap.size (U 59 bV) (ak 4 cK) a' w''->a'.defers=[]->bD af (wY ro rr next ri ln 0 0 0 (aZ (lc++[((Ef ps e).1,.slice (some ⟨r,0,none⟩) 1 1)])))->GB w.heap.size w1 w''->cT w1 w'' mT->(∀(x:Nat) mb s se l,w1.heap[x]? =some (.mapIter mb s se l)->w''.heap[x]? =some (.mapIter mb s se l))->
      cB w'' ((Ef ps e).1,.slice (some ⟨r,0,none⟩) 1 1)->xW w ps ro rr ri next ln (i+1+1) a' w'':=fun a' w'' r af cu cy kZ dh jS hi' yk=>
     ⟨af,de++[e],lc++[((Ef ps e).1,.slice (some ⟨r,0,none⟩) 1 1)],cu,cy,kZ,⟨(hc.gb.trans kx).trans dh,by rw[<-GJ];exact hi' _ _ _ _ _ Eg,(hc.BA.aJ z8 (by decide) (by decide)).aJ jS (by decide) (by decide),R4⟩,by simp[oW],by simp[Ia],fun p hp=>by
      rcases List.mem_append.1 hp with hp|hp
      ·exact((iz p hp).aJ z8 (by decide)).aJ jS (by decide)
      ·simp only[arQ]at hp;subst hp;exact yk⟩
    rw[ev']
    by_cases qS:(Ef ps e).1.ref=0
    ·exact CB (DY qS) WM WR WW b9 iM BT h1 GK (C.ids _ ep) (C.refs _ ep) ajD e.key (Q:=fun a3 w3=>arJ=.normal/\xW w ps ro rr ri next ln (i+1+1) a3 w3) fun af a' w'' r cu cy kZ dh jS hi' yk=>⟨rfl,fin a' w'' r af cu cy kZ dh jS hi' yk⟩
    ·exact CB (DX qS) WL WQ WU b9 iM BT h1 GK (C.ids _ ep) (C.refs _ ep) ajD e.key (Q:=fun a3 w3=>arJ=.normal/\xW w ps ro rr ri next ln (i+1+1) a3 w3) fun af a' w'' r cu cy kZ dh jS hi' yk=>⟨rfl,fin a' w'' r af cu cy kZ dh jS hi' yk⟩
 ·intro a w' hinv
  show aC none n E0.P _ gi a w';obtain⟨m,hm⟩:∃m,ps.length=m+1:=⟨ps.length-1,by have:=arP.2 bU;omega⟩
  rw[hm]at hinv;obtain⟨φ,de,lc,hs,hd,hn,hc,oW,Ia,iz⟩:=hinv;refine Cz (d1:=23) (di:=24) (nt:=59) (z:=8) (id:=0) (L0:=bV) JN rfl rfl rfl rfl (by decide) rfl ads rfl adv (Ts:=mT) rfl hs hd (y:=wY ro rr next ri ln 0 0 0 (aZ lc))
    ⟨⟨rfl,agm⟩,⟨⟨rfl,rfl⟩,⟨rfl,rfl⟩,⟨rfl,h1⟩,⟨rfl,rfl⟩,agm⟩,⟨rfl,agm⟩,agm⟩ hn rfl hc.it (hc.gb.at_ rfl C.map) hold C.ri (fun e he=> ?_) ?_
  ·have h1:=(hc.came.snoc he).1.length_le
   rw[uD]at h1;simp at h1;omega
  ·intro af a' w'' cu cy kZ dh jS
   refine hQ af a' w'' lc cu cy kZ (hc.gb.trans dh) (hc.BA.aJ jS (by decide) (by decide)) ?_ fun p hp=>(iz p hp).aJ jS (by decide)
   have rL:=hc.came.perm (by rw[uD];omega);rw[Ia];have:=(rL.map (Ef ps)).map (·.1);rw[WX,List.map_map]at this;exact this
def Eh(e:MapEntry):ByteArray×Nat:=((match e.key with|.string s=>s|_=>ByteArray.empty),(match e.val with|.int _ n=>n.toNat|_=>0))
def CD(p:ByteArray×Nat):Value×Value:=(.string p.1,.int .i64 p.2)
structure RM(m:Array MapEntry×Nat)(rs:List (ByteArray×Nat)):Prop where
 BW:m.1.toList.map (fun e=>(e.key,e.val))=rs.map CD
 ND:∀e∈m.1.toList,e.born<m.2
 nd:(m.1.toList.map (·.born)).Nodup
theorem R5{p:ByteArray×Nat}(h:(e.key,e.val)=CD p):Eh e=p:=by
 simp only[CD,Prod.mk.injEq]at h;simp[Eh,h.1,h.2]
theorem Ei:∀{l:List MapEntry} {rs:List (ByteArray×Nat)},l.map (fun e=>(e.key,e.val))=rs.map CD->l.map Eh=rs/\∀e∈l,e.key=.string (Eh e).1/\e.val=.int .i64 (Eh e).2
 |[],[],_=>⟨rfl,fun _ h=>by cases h⟩
 |[],_::_,h=>by cases h
 |_::_,[],h=>by cases h
 |e::l,p::rs,h=>by
  simp only[List.map_cons,List.cons.injEq]at h;obtain⟨i1,i2⟩:=Ei h.2;have hp:=R5 h.1;refine⟨by rw[List.map_cons,hp,i1],fun x hx=> ?_⟩;rcases List.mem_cons.1 hx with rfl|hx
  ·rw[hp]
   simp only[CD,Prod.mk.injEq]at h;exact h.1
  ·exact i2 x hx
theorem RM.map{m:Array MapEntry×Nat}{rs:List (ByteArray×Nat)}(h:RM m rs):m.1.toList.map Eh=rs:=(Ei h.BW).1
theorem RM.at_{m:Array MapEntry×Nat}{rs:List (ByteArray×Nat)}(h:RM m rs)(he:e∈m.1.toList):e.key=.string (Eh e).1/\e.val=.int .i64 (Eh e).2:=(Ei h.BW).2 e he
theorem RM.size{m:Array MapEntry×Nat}{rs:List (ByteArray×Nat)}(h:RM m rs):m.1.size=rs.length:=by
 have:=congrArg List.length h.map;simpa using this
def rY(ro rr next ri:Nat)(ln ov:Value)(i id:Nat)(nm:Value)(row:List Value):Sym:=dg [0,0,0,next,id,0,0,i] [.bool false,.bool false,.bool false,.map (some ro),.map (some rr),.bool false,ln,ov,.bool false,.pointer (some ⟨ri,0,none⟩),nm] [[],[],row] []
def rT:List Nat:=[51,93,96,98]
theorem GM{ro rr next ri:Nat}{ln ov:Value}(h1:ln.oneCell'=true)(h2:ov.oneCell'=true){i id:Nat}{nm:ByteArray}{row:List Value}{wt:List (Nat×WV)}(hw:wt=[]\/wt=[(2,.same 2)]):Ag (GH wt) (rY ro rr next ri ln ov i id (.string nm) row) (rY ro rr next ri ln ov i id (.string nm) row):=by
 refine⟨⟨rfl,rfl,rfl,agm⟩,⟨⟨rfl,rfl⟩,⟨rfl,rfl⟩,⟨rfl,h1⟩,⟨rfl,h2⟩,⟨rfl,rfl⟩,⟨rfl,rfl⟩,agm⟩,?_,agm⟩;rcases hw with rfl|rfl
 ·exact agm
 ·exact⟨rfl,agm⟩
theorem R6{n:Nat}{p:ByteArray×Nat}{φ:Ren}{B:Nat}{a:Act}{w':World}(hs:ad φ B (U 59 eW) (ak 4 hU) a w')(hd:a.defers=[]){ro rr next ri:Nat}{ln ov:Value}{rc:List (ByteArray×Nat)}(hn:bD φ (rY ro rr next ri ln ov 0 0 (.bool false) (cg rc)))(h1:ln.oneCell'=true)(h2:ov.oneCell'=true)(hrc:rc.length<=100000){Q:Act->World->Prop}
  (hQ:∀af a' w'',ad af B (U 59 eW) (ak 4 hU) a' w''->a'.defers=[]->bD af (rY ro rr next ri ln ov 0 0 (.bool false) (cg (rc++[p])))->GB B w' w''->cT w' w'' rT->(∀(x:Nat) mb s se l,w'.heap[x]? =some (.mapIter mb s se l)->w''.heap[x]? =some (.mapIter mb s se l))->Q a' w''):
  wpListIn (W none) n E0.P (aN fZ) (Exit.then (aC none n E0.P (fun ex a3 w3=>ex=.normal/\Q a3 w3) (fZ.drop 1)) (fun ex a3 w3=>ex=.normal/\Q a3 w3)) ((aN fZ).toList.drop 1) (a.put (some 41) (.tuple #[.string p.1,.int .i64 p.2])) w':=by
 obtain⟨n1,n2,n3,n4⟩:=hn;obtain⟨ay,b9,m1,m2,m3,m4⟩:=hs.gY ajg (y:=rY ro rr next ri ln ov rc.length p.2 (.string p.1) (cg rc))
  ⟨⟨(agB n1 3).symm,agm⟩,⟨⟨(agB n2 3).symm,rfl⟩,⟨(agB n2 4).symm,rfl⟩,⟨(agB n2 6).symm,h1⟩,⟨(agB n2 7).symm,h2⟩,⟨(agB n2 9).symm,rfl⟩,agm⟩,⟨(agB n3 2).symm,agm⟩,agm⟩
 have s4:ay.s 4=p.2:=agB m1 4;have nS:=b9.put (d:=41) (by decide) (x:=.t [.q 10,.y .i64 4]) (v:=.tuple #[.string p.1,.int .i64 p.2]) (by
  simp only[VR];refine⟨_,rfl,J.cons ?_ (J.cons ?_ J.nil)⟩
  ·simp only[VR];exact⟨(agB m2 10).symm,rfl⟩
  ·simp only[VR,s4])
 have R3:=GM (ro:=ro) (rr:=rr) (next:=next) (ri:=ri) (i:=rc.length) (id:=p.2) (nm:=p.1) (row:=cg rc) h1 h2 (wt:=[(2,.same 2)]) (.inr rfl);refine ad.gz (aq aB {}) rfl 100 ajo nS bx.dU _ (R3.cL ⟨m1,m2,m3,m4⟩) fun eH a3 w3 ez gJ ig vO m1 m2 m3 m4=> ?_
 show aC none n E0.P _ (fZ.drop 1) a3 w3;have wR:a3.defers=[]:=by rw[gJ];exact hd
 refine ad.dc (aq aB ZI) rfl 1 ajq ez (aA.dU ?_) wR _ (R3.cL ⟨m1,m2,m3,m4⟩) fun af a' w'' cu cy dh jS e1 e2 e3 e4=>⟨rfl,?_⟩
 ·have t7:eH.y.s 7=rc.length:=agB m1 7
  have hw:eH.y.w 2=cg rc:=agB m3 2;refine⟨⟨⟨?_,?_⟩,agm⟩,agm,agm,⟨⟨rc.length,by decide,?_,t7⟩,agm⟩,agm,agm,agm,agm,agm⟩
  ·show(0:Int)<=_;simp only[Ren.s,t7];omega
  ·show _<=(100000:Int);simp only[Ren.s,t7];omega
  ·show rc.length*2=(eH.y.w 2).length
   rw[hw,fk]
 ·obtain⟨r2,FX⟩:=cu.ptr 3 rfl
  obtain⟨c2,_,v2,_⟩:=cu.hr.cx FX (l:=[.q 6,.q 7,.sr 3 2 1 2,.y .i64 3]) rfl;simp only[J,VR]at v2;obtain⟨_,_,_,_,_,_,_,_,_,_,_,⟨r4,nn,cap,h4,_⟩,_⟩:=v2;obtain⟨c4,vs,g4,v4,t4,z4,_⟩:=cu.hr.Q9 h4 (x:=2) (l:=[.q 10,.y .i64 4]) rfl;simp only[J,VR]at v4;obtain⟨_,_,rfl,⟨rfl,_⟩,_,_,rfl,rfl,rfl⟩:=v4;have hw:af.w 2=cg rc:=agB e3 2;have q10:af.q 10=.string p.1:=agB e2 10;have s4':af.s 4=p.2:=agB e1 4;have oZ:Agree L4 af (ak 4 R2) w'' (rY ro rr next ri ln ov 0 0 (.bool false) (cg (rc++[p]))):=by
   refine bC ⟨(agB e1 3).symm,agm⟩ ⟨?_,?_,?_,?_,?_,agm⟩ ⟨?_,agm⟩ trivial
   ·simp only[VR];exact⟨(agB e2 3).symm,rfl⟩
   ·simp only[VR];exact⟨(agB e2 4).symm,rfl⟩
   ·simp only[VR];exact⟨(agB e2 6).symm,h1⟩
   ·simp only[VR];exact⟨(agB e2 7).symm,h2⟩
   ·simp only[VR];exact⟨(agB e2 9).symm,rfl⟩
   ·intro r cs e hr ib
    rw[h4]at hr;cases hr;rw[g4]at ib;cases ib;refine⟨fun z l e h=> ?_,fun l' e g h=> ?_⟩
    ·rw[aH]at h;cases h
     rw[t4,hw,q10,s4'];show cg (rc++[_])=_;simp[cg,ja]
    ·rw[aH]at h;cases h
  obtain⟨aV,dx,j1,j2,j3,j4⟩:=cu.conv ajr _ oZ;exact hQ aV a' w'' dx cy ⟨j1,j2,j3,j4⟩ (ig.trans dh) ((vO.aJ rfl).trans (jS.aJ rfl)) (fun x mb s se l h=>jS.i x mb s se l (vO.i x mb s se l h))
theorem R7{n:Nat}{p:ByteArray×Nat}{φ:Ren}{B:Nat}{a:Act}{w':World}(hs:ad φ B (U 59 eW) (ak 3 jT) a w')(hd:a.defers=[]){ro rr next ri:Nat}{ln ov:Value}(hn:bD φ (rY ro rr next ri ln ov 0 0 (.bool false) []))(h1:ln.oneCell'=true)(h2:ov.oneCell'=true){Q:Act->World->Prop}
  (hQ:∀af a' w'',ad af B (U 59 eW) (ak 4 hU) a' w''->a'.defers=[]->bD af (rY ro rr next ri ln ov 0 0 (.bool false) (cg [p]))->GB B w' w''->cT w' w'' rT->(∀(x:Nat) mb s se l,w'.heap[x]? =some (.mapIter mb s se l)->w''.heap[x]? =some (.mapIter mb s se l))->Q a' w''):
  wpListIn (W none) n E0.P (aN fZ) (Exit.then (aC none n E0.P (fun ex a3 w3=>ex=.normal/\Q a3 w3) (fZ.drop 1)) (fun ex a3 w3=>ex=.normal/\Q a3 w3)) ((aN fZ).toList.drop 1) (a.put (some 41) (.tuple #[.string p.1,.int .i64 p.2])) w':=by
 obtain⟨n1,n2,n3,n4⟩:=hn;obtain⟨ay,b9,m1,m2,m3,m4⟩:=hs.gY ajf (y:=rY ro rr next ri ln ov 0 p.2 (.string p.1) [])
  ⟨⟨(agB n1 3).symm,agm⟩,⟨⟨(agB n2 3).symm,rfl⟩,⟨(agB n2 4).symm,rfl⟩,⟨(agB n2 6).symm,h1⟩,⟨(agB n2 7).symm,h2⟩,⟨(agB n2 9).symm,rfl⟩,agm⟩,agm,agm⟩
 have s4:ay.s 4=p.2:=agB m1 4;have nS:=b9.put (d:=41) (by decide) (x:=.t [.q 10,.y .i64 4]) (v:=.tuple #[.string p.1,.int .i64 p.2]) (by
  simp only[VR];refine⟨_,rfl,J.cons ?_ (J.cons ?_ J.nil)⟩
  ·simp only[VR];exact⟨(agB m2 10).symm,rfl⟩
  ·simp only[VR,s4])
 have R3:=GM (ro:=ro) (rr:=rr) (next:=next) (ri:=ri) (i:=0) (id:=p.2) (nm:=p.1) (row:=[]) h1 h2 (wt:=[]) (.inl rfl);refine ad.gz (aq aB {}) rfl 100 ajn nS bx.dU _ (R3.cL ⟨m1,m2,m3,m4⟩) fun eH a3 w3 ez gJ ig vO m1 m2 m3 m4=> ?_
 show aC none n E0.P _ (fZ.drop 1) a3 w3;have wR:a3.defers=[]:=by rw[gJ];exact hd
 refine ad.dc (aq aB {}) rfl 1 ajp ez bx.dU wR _ (R3.cL ⟨m1,m2,m3,m4⟩) fun af a' w'' cu cy dh jS e1 e2 e3 e4=>⟨rfl,?_⟩
 obtain⟨r2,FX⟩:=cu.ptr 3 rfl;obtain⟨c2,_,v2,_⟩:=cu.hr.cx FX (l:=[.q 6,.q 7,.sl (some (3,0)) 1 (.un 2),.y .i64 3]) rfl;simp only[J,VR]at v2;obtain⟨_,_,_,_,_,_,_,_,_,_,_,⟨r4,cap,h4,_⟩,_⟩:=v2;obtain⟨c4,g4,v4,z4,_,_⟩:=cu.hr.cx h4 (l:=[.q 10,.y .i64 4]) rfl;simp only[J,VR]at v4;obtain⟨_,_,t4,⟨rfl,_⟩,_,_,rfl,rfl,rfl⟩:=v4;have q10:af.q 10=.string p.1:=agB e2 10;have s4':af.s 4=p.2:=agB e1 4;have oZ:Agree L4 af (ak 4 R1) w'' (rY ro rr next ri ln ov 0 0 (.bool false) (cg [p])):=by
  refine bC ⟨(agB e1 3).symm,agm⟩ ⟨?_,?_,?_,?_,?_,agm⟩ ⟨?_,agm⟩ trivial
  ·simp only[VR];exact⟨(agB e2 3).symm,rfl⟩
  ·simp only[VR];exact⟨(agB e2 4).symm,rfl⟩
  ·simp only[VR];exact⟨(agB e2 6).symm,h1⟩
  ·simp only[VR];exact⟨(agB e2 7).symm,h2⟩
  ·simp only[VR];exact⟨(agB e2 9).symm,rfl⟩
  ·intro r cs e hr ib
   rw[h4]at hr;cases hr;rw[g4]at ib;cases ib;refine⟨fun z l e h=> ?_,fun l' e g h=> ?_⟩
   ·rw[aH]at h;cases h
   ·rw[aH]at h;cases h
    rw[t4,q10,s4'];show cg [_]=_;simp[cg,ja]
 obtain⟨aV,dx,j1,j2,j3,j4⟩:=cu.conv adw _ oZ;exact hQ aV a' w'' dx cy ⟨j1,j2,j3,j4⟩ (ig.trans dh) ((vO.aJ rfl).trans (jS.aJ rfl)) (fun x mb s se l h=>jS.i x mb s se l (vO.i x mb s se l h))
def L6(w:World)(mr:Array MapEntry×Nat)(ro rr ri next:Nat)(ln ov:Value)(lc:List (O×Value)):Nat->Act->World->Prop
 |0,a,w'=>∃φ,ad φ w.heap.size (U 59 eW) (ak 3 jT) a w'/\a.defers=[]/\bD φ (rY ro rr next ri ln ov 0 0 (.bool false) [])/\WZ w w' rr ri mr ln []/\cr w' 51 4 ov (aZ lc)/\∀p∈lc,cB w' p
 |i+1,a,w'=>∃φ de,ad φ w.heap.size (U 59 eW) (ak 4 hU) a w'/\a.defers=[]/\bD φ (rY ro rr next ri ln ov 0 0 (.bool false) (cg (de.map Eh)))/\WZ w w' rr ri mr ln de/\de.length=i+1/\cr w' 51 4 ov (aZ lc)/\∀p∈lc,cB w' p
theorem R8{n:Nat}{w:World}{mr:Array MapEntry×Nat}{rs:List (ByteArray×Nat)}{ro rr ri next:Nat}{ln ov:Value}{lc:List (O×Value)}(hm:w.heap[rr]? =some (.map mr.1 mr.2))(qP:w.heap.size<=ri)(M:RM mr rs)(jD:rs.length<=100000)(h1:ln.oneCell'=true)(h2:ov.oneCell'=true)(bU:rs≠[]){Q:Exit->Act->World->Prop}{a:Act}{w':World}(h0:L6 w mr ro rr ri next ln ov lc 0 a w')
  (hQ:∀af a' w'' rc,ad af w.heap.size (U 59 eW) (ak 4 hU) a' w''->a'.defers=[]->bD af (rY ro rr next ri ln ov 0 0 (.bool false) (cg rc))->GB w.heap.size w w''->dG w'' ln->rc.Perm rs->cr w'' 51 4 ov (aZ lc)->(∀p∈lc,cB w'' p)->aC none n E0.P Q (jy.drop 6) a' w''):aC none n E0.P Q (jy.drop 5) a w':=by
 have PQ:rr<w.heap.size:=(arI.1 hm).1;refine dd (id:=2) (b:=(match jy.drop 5 with|.block _ (.loop b)::_=>b|_=>.skip)) (rest:=jy.drop 6) rs.length (L6 w mr ro rr ri next ln ov lc) ?_ ?_ h0
 ·intro i a w' hi hinv
  show aC none n E0.P _ jU a w';cases i with
  |zero=>
   obtain⟨φ,hs,hd,hn,hc,bQ,iz⟩:=hinv;refine lV (d1:=39) (di:=40) (d2:=41) (nt:=59) (z:=9) (L0:=eW) (bk:=fZ) (l2:=(aN fZ).toList.drop 1) RZ ZF ZG rfl rfl rfl rfl (by decide) rfl rfl rfl rfl rfl rfl ajh rfl ajk (Ts:=rT) rfl hs hd (y:=rY ro rr next ri ln ov 0 0 (.bool false) [])
    ⟨⟨rfl,agm⟩,⟨⟨rfl,rfl⟩,⟨rfl,rfl⟩,⟨rfl,h1⟩,⟨rfl,h2⟩,⟨rfl,rfl⟩,agm⟩,agm,agm⟩ hn rfl hc.it (hc.gb.at_ rfl hm) PQ M.ND M.nd qP (fun h0=> ?_) ?_
   ·have:=hc.came.none M.nd h0
    rw[M.size]at this;exact bU (arL (Nat.le_zero.1 this))
   ·intro e he ay a1 w1 b9 iM BT kx z8 Eg
    obtain⟨R4,hem⟩:=hc.came.snoc he;obtain⟨ek,ev'⟩:=M.at_ hem;rw[ek,ev'];refine R7 (p:=Eh e) b9 iM BT h1 h2 (Q:=fun a3 w3=>arJ=.normal/\L6 w mr ro rr ri next ln ov lc (0+1) a3 w3) fun af a' w'' cu cy kZ dh jS hi'=>⟨rfl,af,[e],cu,cy,kZ,⟨(hc.gb.trans kx).trans dh,hi' _ _ _ _ _ Eg,(hc.BA.aJ z8 (by decide) (by decide)).aJ jS (by decide) (by decide),R4⟩,rfl,(bQ.aJ z8 (by decide)).aJ jS (by decide),fun p hp=>((iz p hp).aJ z8 (by decide)).aJ jS (by decide)⟩
  |succ i=>
   obtain⟨φ,de,hs,hd,hn,hc,oW,bQ,iz⟩:=hinv;refine lV (d1:=39) (di:=40) (d2:=41) (nt:=59) (z:=9) (L0:=eW) (bk:=fZ) (l2:=(aN fZ).toList.drop 1) RZ ZF ZG rfl rfl rfl rfl (by decide) rfl rfl rfl rfl rfl rfl aji rfl ajl (Ts:=rT) rfl hs hd (y:=rY ro rr next ri ln ov 0 0 (.bool false) (cg (de.map Eh)))
    ⟨⟨rfl,agm⟩,⟨⟨rfl,rfl⟩,⟨rfl,rfl⟩,⟨rfl,h1⟩,⟨rfl,h2⟩,⟨rfl,rfl⟩,agm⟩,⟨rfl,agm⟩,agm⟩ hn rfl hc.it (hc.gb.at_ rfl hm) PQ M.ND M.nd qP (fun h0=> ?_) ?_
   ·have:=hc.came.none M.nd h0
    rw[M.size]at this;omega
   ·intro e he ay a1 w1 b9 iM BT kx z8 Eg
    obtain⟨R4,hem⟩:=hc.came.snoc he;obtain⟨ek,ev'⟩:=M.at_ hem;rw[ek,ev'];refine R6 (p:=Eh e) b9 iM BT h1 h2 (by simp[oW];omega) (Q:=fun a3 w3=>arJ=.normal/\L6 w mr ro rr ri next ln ov lc (i+1+1) a3 w3) fun af a' w'' cu cy kZ dh jS hi'=>⟨rfl,af,de++[e],cu,cy,by simpa using kZ,⟨(hc.gb.trans kx).trans dh,by rw[<-GJ];exact hi' _ _ _ _ _ Eg,(hc.BA.aJ z8 (by decide) (by decide)).aJ jS (by decide) (by decide),R4⟩,by simp[oW],(bQ.aJ z8 (by decide)).aJ jS (by decide),fun p hp=>((iz p hp).aJ z8 (by decide)).aJ jS (by decide)⟩
 ·intro a w' hinv
  show aC none n E0.P _ jU a w';obtain⟨m,hm'⟩:∃m,rs.length=m+1:=⟨rs.length-1,by have:=arP.2 bU;omega⟩
  rw[hm']at hinv;obtain⟨φ,de,hs,hd,hn,hc,oW,bQ,iz⟩:=hinv;refine Cz (d1:=39) (di:=40) (nt:=59) (z:=9) (id:=2) (L0:=eW) RZ rfl rfl rfl rfl (by decide) rfl ajj rfl ajm (Ts:=rT) rfl hs hd (y:=rY ro rr next ri ln ov 0 0 (.bool false) (cg (de.map Eh)))
    ⟨⟨rfl,agm⟩,⟨⟨rfl,rfl⟩,⟨rfl,rfl⟩,⟨rfl,h1⟩,⟨rfl,h2⟩,⟨rfl,rfl⟩,agm⟩,⟨rfl,agm⟩,agm⟩ hn rfl hc.it (hc.gb.at_ rfl hm) M.ND qP (fun e he=> ?_) ?_
  ·have h1:=(hc.came.snoc he).1.length_le
   rw[M.size]at h1;simp at h1;omega
  ·intro af a' w'' cu cy kZ dh jS
   refine hQ af a' w'' (de.map Eh) cu cy kZ (hc.gb.trans dh) (hc.BA.aJ jS (by decide) (by decide)) ?_ (bQ.aJ jS (by decide)) fun p hp=>(iz p hp).aJ jS (by decide)
   have rL:=(hc.came.perm (by rw[M.size];omega)).map Eh;rwa[M.map]at rL
theorem HR.R9{w:World}(hr:HR φ (ak nb HB) w){b1 b0:Nat}(h1:mO HB b1=.cells [.s lU,.sl (some (b0,0)) 1 (.kn 1),.sl none 0 (.kn 0)] 96 false)(h0:mO HB b0=.cells [.s fN,.i .i64 3,.i .i64 0,.b false] 93 false){v:Value}(hv:VR φ (.sl (some (b1,0)) 1 (.kn 1)) v):dG w v:=by
 simp only[VR]at hv;obtain⟨r1,lH,_,rfl⟩:=hv;obtain⟨c1,g1,v1,z1,_⟩:=hr.cx lH h1;simp only[J,VR]at v1;obtain⟨_,_,e1,⟨rfl,_⟩,_,_,rfl,⟨r0,Fa,_,rfl⟩,_,_,rfl,⟨_,rfl⟩,rfl⟩:=v1;obtain⟨c0,g0,v0,z0,_⟩:=hr.cx Fa h0;simp only[J,VR]at v0;obtain⟨_,_,e0,⟨rfl,_⟩,_,_,rfl,rfl,_,_,rfl,rfl,_,_,rfl,rfl,rfl⟩:=v0;exact⟨r1,r0,c1,c0,rfl,g0,g1,e0,e1⟩
def W1(B:Nat)(v:Value):Prop:=∃r n cap,v=.slice (some ⟨r,0,none⟩) n cap/\B<=r
def eY(next:Nat)(ln ov rv:Value):Sym:=dg [0,0,0,next] [.bool false,.bool false,.bool false,.bool false,.bool false,.bool false,ln,ov,.bool false,.bool false,.bool false,rv] [] []
structure Az(w:World)(ln kv:Value)(next:Nat)(mo mr:Array MapEntry×Nat)(rb ro rr:Nat):Prop where
 Aw:w.heap[rb]? =some (.cells #[ln,kv,.map (some ro),.map (some rr),.int .i64 next] 180 (0,0))
 kv:kv.oneCell'=true
 bS:w.heap[ro]? =some (.map mo.1 mo.2)
 roots:w.heap[rr]? =some (.map mr.1 mr.2)
theorem N5{n:Nat}{w:World}{ln kv:Value}{next rb ro rr:Nat}{ps:List (O×Value)}{mr:Array MapEntry×Nat}{rs:List (ByteArray×Nat)}(H:Az w ln kv next (kh ps) mr rb ro rr)(pa:dG w ln)(bU:ps≠[])(wS:rs≠[])(M:RM mr rs)
  (Ar:∀p∈ps,cB w p)(I9:∀p∈ps,1<=p.1.id/\p.1.id<=100000)(hrefs:∀p∈ps,p.1.ref<=100000)(ym:ps.length<=100000)(jD:rs.length<=100000){Q:Exit->Act->World->Prop}
  (hQ:∀φ a w' iP ov rv lc rc,ad φ w.heap.size (U 59 wP) (ak 2 wQ) a w'->a.defers=[]->bD φ (eY next iP ov rv)->GB w.heap.size w w'->dG w' iP->cr w' 51 4 ov (aZ lc)->W1 w.heap.size ov->cr w' 101 2 rv (cg rc)->W1 w.heap.size rv->(∀p∈lc,cB w' p)->(lc.map (·.1)).Perm (ps.map (·.1))->rc.Perm rs->aC none n E0.P Q (jy.drop 6) a w'):
  aC none n E0.P Q jy {tmps:=[Value.pointer (some ⟨rb,0,none⟩)].toArray++Array.replicate (59-[Value.pointer (some ⟨rb,0,none⟩)].toArray.size) undef,defers:=[]} w:=by
 let y0:Sym:=dg [0,0,0,next] [.bool false,.bool false,.bool false,.map (some ro),.map (some rr),kv] [] [];obtain⟨ay,h1,lR,v1⟩:=pa.add y0;have h2:=h1.add H.Aw rfl ZA (fun h=>h) ⟨_,rfl,by
  refine J.cons v1 (J.cons ?_ (J.cons ?_ (J.cons ?_ (J.cons ?_ J.nil))))
  ·simp only[VR,Ren.q,lR];exact⟨rfl,H.kv⟩
  ·simp only[VR,Ren.q,lR];exact⟨rfl,rfl⟩
  ·simp only[VR,Ren.q,lR];exact⟨rfl,rfl⟩
  ·simp only[VR,Ren.s,lR];rfl,AAA _,rfl⟩
 have cG:J (up ay 2 rb 5) GD [.pointer (some ⟨rb,0,none⟩)]:=J.cons (by simp only[VR];exact⟨rb,by simp[up],rfl⟩) J.nil;have bB:=ad.enter (nt:=59) h2 rfl (by show ay.y.k=_;rw[lR];rfl) cG (by decide);have O9:Ag JK y0 y0:=⟨⟨rfl,agm⟩,⟨⟨rfl,H.kv⟩,⟨rfl,rfl⟩,⟨rfl,rfl⟩,agm⟩,agm,agm⟩;refine ad.dc (aq aB {}) rfl 1 ai3 bB bx.dU rfl y0 (O9.au (by show ay.y.s=_;rw[lR];rfl) (by show ay.y.q=_;rw[lR];rfl) (by show ay.y.w=_;rw[lR];rfl) (by show ay.y.g=_;rw[lR];rfl)) fun φ a w1 hs hd hg _ n1 n2 n3 n4=> ?_
 show aC none n E0.P Q (jy.drop 1) a w1;obtain⟨id1,lH⟩:=adh;rw[lH];refine ad.explore (aq aB {}) rfl aB.mixed ai8 (L0:=JI) (HB0:=JJ) rfl rfl hs y0 O9 n1 n2 n3 n4 (fun ay _ _ _ _=>bx.dU) fun φ a2 w2 hs mF iK n1 n2 n3 n4=>⟨rfl,?_⟩
 show aC none n E0.P Q (jy.drop 2) a2 w2;have aoB:a2.defers=[]:=by rw[mF];exact hd
 have D7:GB w.heap.size w w2:=hg.trans iK;obtain⟨r6,JD⟩:=hs.ptr 3 rfl;obtain⟨c6,_,v6,_⟩:=hs.hr.cx JD (l:=[.sl (some (4,0)) 1 (.kn 1),.sl none 0 (.kn 0),.sl none 0 (.kn 0),.y .i64 3]) rfl;simp only[J]at v6;obtain⟨iP,_,_,ajE,_⟩:=v6;have L7:dG w2 iP:=hs.hr.R9 (b1:=4) (b0:=5) rfl rfl ajE;have lS:=L7.one;obtain⟨φ,hs,n1,n2,n3,n4⟩:=hs.conv adj (wY ro rr next 0 iP 0 0 0 []) (by
  refine bC ⟨(agB n1 3).symm,agm⟩ ⟨?_,?_,ajE,agm⟩ trivial trivial
  ·simp only[VR];exact⟨(agB n2 3).symm,rfl⟩
  ·simp only[VR];exact⟨(agB n2 4).symm,rfl⟩)
 obtain⟨id2,vJ⟩:=adk;rw[vJ];refine b8 ?_;have kq:Ag JL (wY ro rr next 0 iP 0 0 0 []) (wY ro rr next 0 iP 0 0 0 []):=⟨⟨rfl,agm⟩,⟨⟨rfl,rfl⟩,⟨rfl,rfl⟩,⟨rfl,lS⟩,agm⟩,agm,agm⟩;refine ad.gz (aq aB {}) rfl 4 adl hs bx.dU _ (kq.cL ⟨n1,n2,n3,n4⟩) fun φ a3 w3 hs gJ ig vO n1 n2 n3 n4=> ?_
 have NY:GB w.heap.size w w3:=D7.trans ig;have ajF:dG w3 iP:=L7.aJ (vO.aJ (Ts:=mT) rfl) (by decide) (by decide);refine hs.QW (l:=(aN (jy.drop 2)).toList.drop 4) (o:=((aN (jy.drop 2)).toList.drop 4).headD default) (rest:=[]) rfl rfl rfl (z:=3) rfl (bm:=ro) (agB n2 3) Tryz.underlying177 (NY.at_ rfl H.bS) fun gG hit=> ?_
 obtain⟨φ,hs,n1,n2,n3,n4⟩:=hs.grow gG adm (y:=wY ro rr next w3.heap.size iP 0 0 0 []) ⟨⟨(agB n1 3).symm,agm⟩,⟨⟨(agB n2 3).symm,rfl⟩,⟨(agB n2 4).symm,rfl⟩,⟨(agB n2 6).symm,lS⟩,agm⟩,agm,agm⟩;have hs:=hs.put (d:=22) (by decide) (x:=.q 8) (v:=.pointer (some ⟨w3.heap.size,0,none⟩)) (by simp only[VR];exact⟨(agB n2 8).symm,rfl⟩);obtain⟨φ,hs,n1,n2,n3,n4⟩:=hs.conv adn (wY ro rr next w3.heap.size iP 0 0 0 []) (by
  refine bC ⟨(agB n1 3).symm,agm⟩ ⟨?_,?_,?_,?_,agm⟩ trivial trivial
  ·simp only[VR];exact⟨(agB n2 3).symm,rfl⟩
  ·simp only[VR];exact⟨(agB n2 4).symm,rfl⟩
  ·simp only[VR];exact⟨(agB n2 6).symm,lS⟩
  ·simp only[VR];exact⟨(agB n2 8).symm,rfl⟩)
 refine N4 (ro:=ro) (rr:=rr) (ri:=w3.heap.size) (next:=next) (ln:=iP) ⟨H.bS,NY.size,Ar,I9,hrefs,ym⟩ lS bU ⟨φ,hs,by show a3.defers=[];rw[gJ];exact aoB,⟨n1,n2,n3,n4⟩,⟨NY.trans (gG.gb NY.size),hit,ajF.kept (fun r o ho=>by rw[gG.same r (arI.1 ho).1];exact ho),uq.nil _⟩⟩ ?_;intro φ a4 w4 lc hs sS hn4 g04 ajG rL iz;obtain⟨n1,n2,n3,n4⟩:=hn4;obtain⟨r2,vJ⟩:=hs.ptr 3 rfl;obtain⟨c2,_,v2,_⟩:=hs.hr.cx vJ (l:=[.q 6,.sr 3 2 0 4,nl,.y .i64 3]) rfl;simp only[J]at v2;obtain⟨_,_,_,_,ov,_,_,BB,_⟩:=v2;have Ww:φ.w 2=aZ lc:=agB n3 2;have bQ:cr w4 51 4 ov (aZ lc):=by have:=hs.hr.isRow (b:=3) (x:=2) (e:=51) rfl BB;rwa[Ww]at this
 have hrB:W1 w.heap.size ov:=by
  simp only[VR]at BB;obtain⟨r,m,cap,h1,_,_,_,_,rfl⟩:=BB;exact⟨r,_,_,rfl,hs.loc 3 r h1 (by rw[aH];trivial)⟩
 have Qk:=bQ.one;obtain⟨φ,hs,n1,n2,n3,n4⟩:=hs.conv aja (rY ro rr next 0 iP ov 0 0 (.bool false) []) (by
  refine bC ⟨(agB n1 3).symm,agm⟩ ⟨?_,?_,?_,BB,agm⟩ trivial trivial
  ·simp only[VR];exact⟨(agB n2 3).symm,rfl⟩
  ·simp only[VR];exact⟨(agB n2 4).symm,rfl⟩
  ·simp only[VR];exact⟨(agB n2 6).symm,lS⟩)
 obtain⟨id4,pJ⟩:=ajb;rw[pJ];refine b8 ?_;have hy4:Ag RX (rY ro rr next 0 iP ov 0 0 (.bool false) []) (rY ro rr next 0 iP ov 0 0 (.bool false) []):=⟨⟨rfl,agm⟩,⟨⟨rfl,rfl⟩,⟨rfl,rfl⟩,⟨rfl,lS⟩,⟨rfl,Qk⟩,agm⟩,agm,agm⟩;refine ad.gz (aq aB {}) rfl 4 ajc hs bx.dU _ (hy4.cL ⟨n1,n2,n3,n4⟩) fun φ a5 w5 hs vL vM GA n1 n2 n3 n4=> ?_
 have Vt:GB w.heap.size w w5:=g04.trans vM;have adx:=GA.aJ (Ts:=rT) rfl;refine hs.QW (l:=(aN (jy.drop 4)).toList.drop 4) (o:=((aN (jy.drop 4)).toList.drop 4).headD default) (rest:=[]) rfl rfl rfl (z:=4) rfl (bm:=rr) (agB n2 4) Tryz.underlying178 (Vt.at_ rfl H.roots) fun gG hit=> ?_
 obtain⟨φ,hs,n1,n2,n3,n4⟩:=hs.grow gG ajd (y:=rY ro rr next w5.heap.size iP ov 0 0 (.bool false) []) ⟨⟨(agB n1 3).symm,agm⟩,⟨⟨(agB n2 3).symm,rfl⟩,⟨(agB n2 4).symm,rfl⟩,⟨(agB n2 6).symm,lS⟩,⟨(agB n2 7).symm,Qk⟩,agm⟩,agm,agm⟩;have hs:=hs.put (d:=38) (by decide) (x:=.q 9) (v:=.pointer (some ⟨w5.heap.size,0,none⟩)) (by simp only[VR];exact⟨(agB n2 9).symm,rfl⟩);obtain⟨φ,hs,n1,n2,n3,n4⟩:=hs.conv aje (rY ro rr next w5.heap.size iP ov 0 0 (.bool false) []) (by
  refine bC ⟨(agB n1 3).symm,agm⟩ ⟨?_,?_,?_,?_,?_,agm⟩ trivial trivial
  ·simp only[VR];exact⟨(agB n2 3).symm,rfl⟩
  ·simp only[VR];exact⟨(agB n2 4).symm,rfl⟩
  ·simp only[VR];exact⟨(agB n2 6).symm,lS⟩
  ·simp only[VR];exact⟨(agB n2 7).symm,Qk⟩
  ·simp only[VR];exact⟨(agB n2 9).symm,rfl⟩)
 have hgk:cT w5 (w5.alloc (.mapIter (some rr) mr.2 #[] mr.2)) rT:=cT.grown gG rT;refine R8 (ro:=ro) (rr:=rr) (ri:=w5.heap.size) (next:=next) (ln:=iP) (ov:=ov) (lc:=lc) H.roots Vt.size M jD lS Qk wS ⟨φ,hs,by show a5.defers=[];rw[vL];exact sS,⟨n1,n2,n3,n4⟩,⟨Vt.trans (gG.gb Vt.size),hit,(ajG.aJ adx (by decide) (by decide)).aJ hgk (by decide) (by decide),uq.nil _⟩,(bQ.aJ adx (by decide)).aJ hgk (by decide),fun p hp=>((iz p hp).aJ adx (by decide)).aJ hgk (by decide)⟩ ?_;intro φ a6 w6 rc hs Ao hn6 O7 Sa hpr ajH aoC;obtain⟨n1,n2,n3,n4⟩:=hn6;obtain⟨r2,vJ⟩:=hs.ptr 3 rfl;obtain⟨c2,_,v2,_⟩:=hs.hr.cx vJ (l:=[.q 6,.q 7,.sr 3 2 0 2,.y .i64 3]) rfl;simp only[J]at v2;obtain⟨_,_,_,_,_,_,_,_,rv,_,_,gh,_⟩:=v2;have Ww:φ.w 2=cg rc:=agB n3 2;have PQ:cr w6 101 2 rv (cg rc):=by have:=hs.hr.isRow (b:=3) (x:=2) (e:=101) rfl gh;rwa[Ww]at this
 have aoD:W1 w.heap.size rv:=by
  simp only[VR]at gh;obtain⟨r,m,cap,h1,_,_,_,_,rfl⟩:=gh;exact⟨r,_,_,rfl,hs.loc 3 r h1 (by rw[aH];trivial)⟩
 obtain⟨φ,hs,n1,n2,n3,n4⟩:=hs.conv aoy (eY next iP ov rv) (by
  refine bC ⟨(agB n1 3).symm,agm⟩ ⟨?_,?_,gh,agm⟩ trivial trivial
  ·simp only[VR];exact⟨(agB n2 6).symm,lS⟩
  ·simp only[VR];exact⟨(agB n2 7).symm,Qk⟩)
 exact hQ φ a6 w6 iP ov rv lc rc hs Ao ⟨n1,n2,n3,n4⟩ O7 Sa ajH hrB PQ aoD aoC rL hpr
end Go.Ev
namespace Go.Proofs
open List renaming getElem?_eq_getElem->aop,take_of_length_le->arC,getElem?_eq_none->arD,replicate->arG,getElem?_mapIdx->arH,eq_nil_of_length_eq_zero->arL,mem_mapIdx->arM,getElem?_take_of_lt->arN,mem_of_getElem?->arO,length_pos_iff->arP,mem_singleton->arQ,mapIdx_append->arR,take_add_one->arS,getElem?_map->arT,ext_getElem?->arU
open Nat renaming le_refl->AAA,lt_or_ge->arK
open _root_.Array renaming toList_inj->arE,length_toList->arF,getElem?_eq_some_iff->arI
open Exit renaming normal->arJ
section
open Go.Shelf Go.RowKit Go.Lib Go.Sort Go.Ev
set_option maxHeartbeats 1000000 in
theorem Tryz.N6(x y:O×Value)(W:World):Calls Tryz.prog 100 #[.agg (gK x).toArray,.agg (gK y).toArray] W fun e w'=>e=.returned (.int .i64 (Lib.compareInt x.1.id y.1.id))/\∃q os',w'=grow (W.drewN q) os':=by
 have N7:=fun W'=>AnyG.cmp_Compare_int Tryz.aiM x.1.id y.1.id W'
 change ∀W',Calls Tryz.prog 83 _ _ _ at N7
 generalize Lib.compareInt x.1.id y.1.id=r at N7⊢
 simp only[gK]
 go_enter Tryz.func100,Tryz.ntmps100
 go_wp2_with (go_at_call 83;refine(N7 _).mono ?_;rintro e w' ⟨rfl,rfl⟩)
 go_ret
 exact⟨rfl,0,_,by rw[alloc_eq_grow,alloc_eq_grow,grow_grow];rfl⟩
end
end Go.Proofs
