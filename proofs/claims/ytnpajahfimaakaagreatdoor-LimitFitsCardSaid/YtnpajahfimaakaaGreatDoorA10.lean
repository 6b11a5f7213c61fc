/- A part of what LimitFits rests on. -/
import Derived.Test.YtnpajahfimaakaaGreatDoorA09
import Derived.Shelf.SlGeneric
import Derived.Shelf.SlIterI.Nil
import Derived.Shelf.SortM.Plain
import Derived.Shelf.SortM.SortNone
import Derived.Ground.GgzProg
import Derived.Ground.SlgmProg
import Derived.Shelf.SlSortCmp.WholeK
import Derived.Shelf.SlicesG.Cmp
import Derived.Ground.SlsfProg
import Derived.Ground.SlgcProg
import Derived.Test.YtnpajahfimaakaaGreatDoorProg
import Derived.Maps.OwnSet
import Derived.Test.YtnpajahfimaakaaGreatDoorA07
import Derived.Test.YtnpajahfimaakaaGreatDoorA01
set_option linter.all false
namespace Go.Ev
open List renaming getElem?_eq_getElem->aop,mem_of_getElem?->AAA,getElem?_eq_none->arD,getElem?_mapIdx->arI,take_of_length_le->arM,mem_map->arN,getElem?_range->arQ,mem_mapIdx->arS,getElem?_of_mem->arT,getElem?_map->arV,getElem?_inj->arW
open MapKept renaming IsKey->arC,findNow_spec->arH
open Instr renaming findNow->arE
open Nat renaming le_refl->arF,lt_or_ge->arG,le_trans->arO
open Fence renaming wide->arJ
open Value.int renaming injEq->arK
open _root_.Array renaming toList_inj->arL,length_toList->arU
open Int renaming natCast_inj->arP
open Maps renaming size->arR
open Go.Proofs
variable{l:List (O×Value)}{d:TypeDesc}{lines ov rv:Value}{next:Nat}{rs:List (ByteArray×Nat)}
def Asc(l:List (O×Value)):Prop:=∀i p,l[i]? =some p->bZ l i<p.1.id
theorem Asc.lt{l:List (O×Value)}(h:Asc l):∀{i j:Nat},i<j->j<=l.length->bZ l i<bZ l j
 |i,j+1,mf,hj=>by
  obtain⟨p,hp⟩:∃p,l[j]? =some p:=⟨l[j],aop (by omega)⟩
  have h1:=h j p hp;have e:bZ l (j+1)=p.1.id:=by simp[bZ,hp]
  rw[e];rcases arG i j with h2|h2
  ·exact Nat.lt_trans (h.lt h2 (by omega)) h1
  ·rw[show i=j by omega];exact h1
theorem Asc.inj(h:Asc l){i j:Nat}(hi:i<=l.length)(hj:j<=l.length)(e:bZ l i=bZ l j):i=j:=by
 rcases Nat.lt_trichotomy i j with h1|h1|h1
 ·have:=h.lt h1 hj;omega
 ·exact h1
 ·have:=h.lt h1 hi;omega
def BW(l:List (O×Value))(i:Nat):MapEntry:={key:=.int .i64 (bZ l (i+1)),val:=.int .i64 i,born:=i}
def yo(l:List (O×Value))(n:Nat):List MapEntry:=(List.range n).map (BW l)
theorem LO{n j:Nat}{e:MapEntry}(h:(yo l n)[j]? =some e):j<n/\e=BW l j:=by
 simp only[yo,arV,arQ]at h
 by_cases hj:j<n
 ·simp[arQ hj]at h
  exact⟨hj,h.symm⟩
 ·rw[arD (by simpa using hj)]at h;cases h
theorem Aq(l:List (O×Value))(n:Nat):∀x∈yo l n,arC (.int .i64) x.key:=by
 intro x hx;simp only[yo,arN]at hx;obtain⟨i,_,rfl⟩:=hx;exact rfl
theorem LP{l:List (O×Value)}(h:Asc l):∀n,n<=l.length->pm l n=((yo l n).toArray,n)
 |0,_=>rfl
 |n+1,hn=>by
  rw[pm,LP h n (by omega),iq];have:arE (.int .i64) (.int .i64 (bZ l (n+1))) (yo l n).toArray.toList 0=some none:=by
   rcases arH (d:=.int .i64) (k:=.int .i64 (bZ l (n+1))) rfl (yo l n) 0 (Aq l n)with⟨h1,_⟩|⟨j,e,_,h2,h3⟩
   ·exact h1
   ·obtain⟨h4,rfl⟩:=LO h2
    simp only[BW,arK,true_and,arP]at h3;have:=h.inj (i:=j+1) (j:=n+1) (by omega) (by omega) h3;omega
  rw[this];simp[yo,List.range_succ,BW]
theorem LQ(h:Asc l){j:Nat}(hj:j<l.length)(hk:arC d (.int .i64 (bZ l (j+1)))):arE d (.int .i64 (bZ l (j+1))) (pm l l.length).1.toList 0=some (some (j,.int .i64 j)):=by
 rw[LP h _ (arF _)];show arE d _ (yo l l.length) 0=_;have Lr:∀x∈yo l l.length,arC d x.key:=by
  intro x hx;simp only[yo,arN]at hx;obtain⟨i,_,rfl⟩:=hx;cases d<;>first|exact hk|exact hk.elim
 rcases arH hk (yo l l.length) 0 Lr with⟨_,h1⟩|⟨j',e,h1,h2,h3⟩
 ·exact absurd rfl (h1 (BW l j) (arN.2 ⟨j,by simpa using hj,rfl⟩))
 ·obtain⟨h4,rfl⟩:=LO h2
  simp only[BW,arK,true_and,arP]at h3;have:=h.inj (i:=j'+1) (j:=j+1) (by omega) (by omega) h3;have:j'=j:=by omega
  subst this;rw[h1];simp[BW]
theorem GW.asc{w:World}(h:GW w lines ov rv next l rs):Asc l:=fun i p hp=>(h.ids i p hp).1
def Has(l:List (O×Value))(x:Nat):Prop:=∃j,j<l.length/\bZ l (j+1)=x
structure Whole(l:List (O×Value))(rs:List (ByteArray×Nat)):Prop where
 root:∀p∈rs,Has l p.2
 ref:∀p∈l,p.1.ref=0\/Has l p.1.ref
theorem Zu(ha:Asc l){x:Nat}(hx:Has l x){φ:Ren}{z s:Nat}(hz:φ.g z=pm l l.length)(hs:φ.s s=x):
  ∃kv,VR φ (.y .i64 s) kv/\iY (.y .i64 s)=true/\∀d,arC d kv->(∀x∈(φ.g z).1.toList,arC d x.key)->∃j u,arE d kv (φ.g z).1.toList 0=some (some (j,u))/\VR φ .top u:=by
 obtain⟨j,hj,rfl⟩:=hx;refine⟨.int .i64 (bZ l (j+1)),by simp only[VR,hs],rfl,fun d hk _=>⟨j,.int .i64 j,?_,by simp only[VR]⟩⟩;rw[hz];exact LQ ha hj hk
theorem Rk{n:Nat}{w:World}{l:List (O×Value)}{lv mv rv:Value}{rs:List (ByteArray×Nat)}(hF:Found w l lv mv)(hr:cr w 101 2 rv (cg rs))(ha:Asc l)(hW:Whole l rs)(ym:l.length<=100000)(jD:rs.length<=100000)
  (lG:∀x,Has l x->1<=x/\x<=100000):
  CallsIn (W none) n Tryz.prog 91 #[.agg #[lv,mv],rv] w fun e w'=>∃v,e=.returned v/\v=.bool true/\Grown w w':=by
 obtain⟨⟨late,xV,qU,Ar⟩,rm,rfl,hm⟩:=hF;have E8:late.length=l.length:=by have:=congrArg List.length qU;simpa using this
 let y0:Sym:=dg [0,rs.length] [] [cg rs,aZ late] [pm l l.length];obtain⟨ay,h1,e1,le1,v1⟩:=hr.add (bc y0 w) rfl 0 rfl;obtain⟨aV,h2,e2,le2,v2⟩:=xV.add h1 rfl 1 (by show ay.y.w 1=_;rw[e1];rfl);have kq:aV.y=(φ0 y0 w).y:=e2.trans e1;have h3:=h2.abO hm rfl 0 (.int .i64) (by show aV.y.g 0=_;rw[kq];rfl) (by rw[LP ha _ (arF _)];exact Aq l _);have F8:∀s,aV 2≠some s:=fun s es=>by have:=(h2.lM _ _ es).1;exact absurd this (Nat.lt_irrefl _)
 have le3:Le aV (up aV 2 rm 0):=jr F8;have Rl:(up aV 2 rm 0).y=(φ0 y0 w).y:=kq;have v3:VR (up aV 2 rm 0) (.m (some 2)) (.map (some rm)):=by simp only[VR];exact⟨rm,by simp[up],rfl⟩
 generalize up aV 2 rm 0=eH at h3 le3 Rl v3
 have cG:J eH uu [.agg #[lv,.map (some rm)],rv]:=by
  refine J.cons ?_ (J.cons (VR.mono (le2.trans le3) _ _ v1) J.nil);simp only[VR];exact⟨_,rfl,J.cons (VR.mono le3 _ _ v2) (J.cons (by simpa only[VR]using v3) J.nil)⟩
 have bB:=ad.enter (nt:=34) h3 rfl (by rw[Rl];rfl) cG (by decide);refine dz (fn:=Tryz.f91) (c:=(Tryz.f91.body).getD .skip) Tryz.func91 rfl (bp _ ?_);show aC none n E0.P _ c49 _ _;refine ad.dc (aq aB DZ) rfl 3 aix bB (aA.dU ?_) rfl y0 ?_ fun φ a w1 hs hd hg _ n1 n2 n3 n4=> ?_
 ·refine⟨agm,agm,agm,⟨⟨rs.length,by decide,?_,?_⟩,agm⟩,agm,agm,agm,agm,agm⟩
  ·simp only[Ren.w,Rl];exact(fk rs).symm
  ·simp only[Ren.s,Rl];rfl
 ·refine Ag.au (o:=y0) ⟨⟨rfl,rfl,agm⟩,agm,⟨rfl,rfl,agm⟩,⟨rfl,agm⟩⟩ ?_ ?_ ?_ ?_<;>rw[Rl]<;>rfl
 show aC none n E0.P _ (c49.drop 3) a w1;let Y1:Nat->Sym:=fun i=>dg [i,rs.length] [] [cg rs,aZ late] [pm l l.length]
 refine dd (id:=0) (b:=(match c49.drop 3 with|.block _ (.loop b)::_=>b|_=>.skip)) (rest:=c49.drop 4) rs.length (fun i a w'=>∃φ,ad φ w.heap.size (U 34 pS) (ak 4 pT) a w'/\a.defers=[]/\GB w.heap.size w w'/\bD φ (Y1 i)) ?_ ?_ ⟨φ,hs,hd,hg,n1,n2,n3,n4⟩
 ·rintro i a w' hi ⟨φ,hs,hd,hg,n1,n2,n3,n4⟩
  obtain⟨p,hp⟩:∃p,rs[i]? =some p:=⟨rs[i],aop hi⟩
  have Rm:=hW.root p (AAA hp);have hb:=lG _ Rm;refine ad.go aB rfl Rf 100 (cs:=roundOf (c49.drop 3)) Re aiy hs hd (dg [i,rs.length,i+1,0,0,p.2] [.bool false,.bool false,.bool false,.bool false,.string p.1] [cg rs,aZ late] [pm l l.length]) ?_ (fun ay b9 m1 m2 m3 m4=> ?_) (Y1 (i+1)) ?_ fun af a' w'' cu cy dh _ k1 k2 k3 k4=>⟨rfl,af,cu,cy,hg.trans dh,k1,k2,k3,k4⟩
  ·exact⟨⟨(agB n1 0).symm,(agB n1 1).symm,agm⟩,agm,⟨(agB n3 0).symm,(agB n3 1).symm,agm⟩,⟨(agB n4 0).symm,agm⟩⟩
  ·have s0:ay.y.s 0=i:=agB m1 0
   have s1:ay.y.s 1=rs.length:=agB m1 1;have s2:ay.y.s 2=i+1:=agB m1 2;have s5:ay.s 5=p.2:=agB m1 5;have Ra:ay.w 0=cg rs:=agB m3 0;refine⟨⟨⟨?_,?_⟩,agm⟩,⟨?_,?_,agm⟩,agm,agm,⟨⟨by decide,rfl,i,s0,?_,?_⟩,agm⟩,agm,⟨Zu ha Rm (agB m4 0) s5,agm⟩,agm,agm⟩
   ·show(1:Int)<=ay.s 5;rw[s5];omega
   ·show ay.s 5<=(100000:Int);rw[s5];omega
   ·exact .lss (k:=.i64) (x:=i) (y:=rs.length) (by simp only[aR,s0]) (by simp only[aR,s1]) (by simp;omega)
   ·exact .add (k:=.i64) (x:=i) (y:=1) (by simp only[aR,s0]) rfl (by simp only[aR,s2]) (i64_in (by omega))
   ·show(i+1)*2<=_
    rw[Ra,fk];omega
   ·show J ay [.q 4,.y .i64 5] (((ay.w 0).drop (i*2)).take 2)
    rw[Ra,ui hp];exact J.cons (by simp only[VR];exact⟨(agB m2 4).symm,rfl⟩) (J.cons (by simp only[VR,s5]) J.nil)
  ·exact⟨⟨by show((i+1:Nat):Int)=(i:Int)+1;omega,rfl,agm⟩,agm,⟨rfl,rfl,agm⟩,⟨rfl,agm⟩⟩
 ·rintro a w' ⟨φ,hs,hd,hg,n1,n2,n3,n4⟩
  refine ad.go aB rfl wF 100 (cs:=roundOf (c49.drop 3)) Re aiz hs hd (Y1 rs.length) ?_ (fun ay b9 m1 m2 m3 m4=> ?_) (dg [rs.length,rs.length,0,late.length] [] [cg rs,aZ late] [pm l l.length]) ?_ fun af a' w'' cu cy dh _ k1 k2 k3 k4=>⟨rfl,?_⟩
  ·exact⟨⟨(agB n1 0).symm,(agB n1 1).symm,agm⟩,agm,⟨(agB n3 0).symm,(agB n3 1).symm,agm⟩,⟨(agB n4 0).symm,agm⟩⟩
  ·have s0:ay.y.s 0=rs.length:=agB m1 0
   have s1:ay.y.s 1=rs.length:=agB m1 1;exact⟨agm,⟨.lss (k:=.i64) (x:=rs.length) (y:=rs.length) (by simp only[aR,s0]) (by simp only[aR,s1]) (by simp),agm⟩,agm,agm,agm,agm,agm,agm,agm⟩
  ·exact⟨⟨rfl,rfl,agm⟩,agm,⟨rfl,rfl,agm⟩,⟨rfl,agm⟩⟩
  refine ad.dc (aq aB Rg) rfl 1 (cs:=c49.drop 4) aiA cu (aA.dU ?_) cy (dg [0,late.length] [] [[],aZ late] [pm l l.length]) ?_ fun φ a w1 hs hd iK _ n1 n2 n3 n4=> ?_
  ·refine⟨agm,agm,agm,⟨⟨late.length,by decide,?_,agB k1 3⟩,agm⟩,agm,agm,agm,agm,agm⟩
   show late.length*4=_;rw[show af.w 1=aZ late from agB k3 1,fh]
  ·exact Ag.au (o:=dg [rs.length,rs.length,0,late.length] [] [cg rs,aZ late] [pm l l.length]) ⟨⟨rfl,rfl,agm⟩,agm,⟨rfl,agm⟩,⟨rfl,agm⟩⟩ k1 k2 k3 k4
  show aC none n E0.P _ (c49.drop 5) a w1;let Y2:Nat->Sym:=fun i=>dg [i,late.length] [] [[],aZ late] [pm l l.length]
  refine dd (id:=2) (b:=(match c49.drop 5 with|.block _ (.loop b)::_=>b|_=>.skip)) (rest:=c49.drop 6) late.length (fun i a w'=>∃φ,ad φ w.heap.size (U 34 jc) (ak 4 jd) a w'/\a.defers=[]/\GB w.heap.size w w'/\bD φ (Y2 i)) ?_ ?_ ⟨φ,hs,hd,(hg.trans dh).trans iK,n1,n2,n3,n4⟩
  ·rintro i a w' hi ⟨φ,hs,hd,hg,n1,n2,n3,n4⟩
   obtain⟨p,hp⟩:∃p,late[i]? =some p:=⟨late[i],aop hi⟩
   have hpm:=AAA hp;have km:p.1∈l.map (·.1):=by rw[<-qU];exact arN.2 ⟨p,hpm,rfl⟩
   obtain⟨p',tD,hpp⟩:=arN.1 km;have qS:p.1.ref=0\/Has l p.1.ref:=by rw[<-hpp];exact hW.ref p' tD
   obtain⟨ay,b9,m1,m2,m3,m4⟩:=hs.gY Jo (y:=dg [i,late.length,i+1,0,p.1.id,0,rf p.1] [] [[],aZ late] [pm l l.length])
    ⟨⟨(agB n1 0).symm,(agB n1 1).symm,agm⟩,agm,⟨(agB n3 1).symm,agm⟩,⟨(agB n4 0).symm,agm⟩⟩
   obtain⟨r,xR,hr⟩:=Ar p hpm;have cM:=hg.at_ rfl hr;have s6:ay.s 6=((rf p.1:Nat):Int):=agB m1 6;have common:∀(jn:Ren),jn.y=ay.y->jn 4=some r->fT jn.y .lss (.y .i64 0) (.y .i64 1) (.b true)/\fT jn.y .add (.y .i64 0) (.i .i64 1) (.y .i64 2)/\jn.s 0=((i:Nat):Int)/\(i+1)*4<=(jn.w 1).length/\J jn [.y .i64 4,.i .i64 0,.i .i64 0,.sl (some (4,0)) 1 (.kn 1)] (((jn.w 1).drop (i*4)).take 4):=fun jn hy h4=>by
    have s0:jn.y.s 0=i:=by rw[hy];exact agB m1 0
    have s1:jn.y.s 1=late.length:=by rw[hy];exact agB m1 1
    have s2:jn.y.s 2=i+1:=by rw[hy];exact agB m1 2
    have s4:jn.y.s 4=p.1.id:=by rw[hy];exact agB m1 4
    have hw:jn.w 1=aZ late:=by show jn.y.w 1=_;rw[hy];exact agB m3 1
    refine⟨.lss (k:=.i64) (x:=i) (y:=late.length) (by simp only[aR,s0]) (by simp only[aR,s1]) (by simp;omega),.add (k:=.i64) (x:=i) (y:=1) (by simp only[aR,s0]) rfl (by simp only[aR,s2]) (i64_in (by omega)),s0,by rw[hw,fh];omega,?_⟩;rw[hw,qJ hp];refine J.cons (by simp only[VR,Ren.s,s4]) (J.cons vI (J.cons vI (J.cons ?_ J.nil)));show VR _ _ p.2;rw[xR];exact NR h4 (by decide)
   have aiD:∀(k v:V) (F:aU),KN k v p.1->av (ar E0 F) 300 ((roundOf (c49.drop 5)).take 100) (U 34 jc) (ak 5 ((4,.rc [k,v,.s [],.sl none 0 (.kn 0)] 98)::jd)) .n Jn 34 jc 4 jd=true->aA E0.P F (up ay 4 r (dB p.1).size)->
     aC none n E0.P (fun e a' w'=>e=.normal/\∃φ,ad φ w.heap.size (U 34 jc) (ak 4 jd) a' w'/\a'.defers=[]/\GB w.heap.size w w'/\bD φ (Y2 (i+1))) (roundOf (c49.drop 5)) a w':=fun k v F BV ba hfa=>by
    have bB:=b9.lb cM rfl 99 .top (.rc [k,v,.s [],.sl none 0 (.kn 0)] 98) (fun h=>h) ⟨_,rfl,by
     rw[arM (by rw[arU,dj];exact arF 4)];exact(BV ay s6).1,by rw[dj];exact arF 4,rfl⟩ (by simp only[VR])
    refine ad.dc (aq aB F) rfl 100 (cs:=roundOf (c49.drop 5)) ba bB hfa.dU hd (Y2 (i+1)) ?_ fun af a' w'' cu cy dh _ e1 e2 e3 e4=>⟨rfl,af,cu,cy,hg.trans dh,e1,e2,e3,e4⟩
    exact Ag.au (o:=dg [i,late.length,i+1,0,p.1.id,0,rf p.1] [] [[],aZ late] [pm l l.length]) ⟨⟨by show((i+1:Nat):Int)=(i:Int)+1;omega,rfl,agm⟩,agm,⟨rfl,agm⟩,⟨rfl,agm⟩⟩ m1 m2 m3 m4
   obtain⟨b1,b2,b3,b4,b5⟩:=common (up ay 4 r (dB p.1).size) rfl (by simp[up])
   by_cases hz:p.1.ref=0
   ·exact aiD _ _ Rj (DY hz) acw ⟨agm,⟨b1,b2,agm⟩,agm,agm,⟨⟨by decide,rfl,i,b3,b4,b5⟩,agm⟩,agm,agm,agm,agm⟩
   ·have Rm:=qS.resolve_left hz
    have hb:=lG _ Rm;have Vn:rf p.1=p.1.ref:=by simp[rf,hz]
    have s6':(up ay 4 r (dB p.1).size).s 6=p.1.ref:=by rw[<-Vn];exact s6
    refine aiD _ _ Ri (DX hz) acv ⟨⟨⟨?_,?_⟩,agm⟩,⟨b1,b2,agm⟩,agm,agm,⟨⟨by decide,rfl,i,b3,b4,b5⟩,agm⟩,agm,⟨Zu ha Rm (agB m4 0) s6',agm⟩,agm,agm⟩
    ·show(1:Int)<=(up ay 4 r (dB p.1).size).s 6;rw[s6'];omega
    ·show(up ay 4 r (dB p.1).size).s 6<=(100000:Int);rw[s6'];omega
  ·rintro a w' ⟨φ,hs,hd,hg,n1,n2,n3,n4⟩
   refine ad.go aB rfl wF 100 (cs:=roundOf (c49.drop 5)) Jo aiB hs hd (Y2 late.length) ?_ (fun ay b9 m1 m2 m3 m4=> ?_) (Y2 late.length) ?_ fun af a' w'' cu cy dh _ k1 k2 k3 k4=>⟨rfl,?_⟩
   ·exact⟨⟨(agB n1 0).symm,(agB n1 1).symm,agm⟩,agm,⟨(agB n3 1).symm,agm⟩,⟨(agB n4 0).symm,agm⟩⟩
   ·have s0:ay.y.s 0=late.length:=agB m1 0
    have s1:ay.y.s 1=late.length:=agB m1 1;exact⟨agm,⟨.lss (k:=.i64) (x:=late.length) (y:=late.length) (by simp only[aR,s0]) (by simp only[aR,s1]) (by simp),agm⟩,agm,agm,agm,agm,agm,agm,agm⟩
   ·exact⟨⟨rfl,rfl,agm⟩,agm,⟨rfl,agm⟩,⟨rfl,agm⟩⟩
   refine ad.go aB rfl {} 2 (cs:=c49.drop 6) Jo aiC cu cy (Y2 late.length) ?_ (fun ay b9 m1 m2 m3 m4=> ?_) (Y2 0) ?_ fun eH a3 w3 ez gJ ig _ j1 j2 j3 j4=> ?_
   ·exact⟨⟨(agB k1 0).symm,(agB k1 1).symm,agm⟩,agm,⟨(agB k3 1).symm,agm⟩,⟨(agB k4 0).symm,agm⟩⟩
   ·exact⟨agm,agm,agm,agm,agm,agm,agm,agm,agm⟩
   ·exact⟨agm,agm,agm,agm⟩
   refine⟨.inl rfl,gJ,?_⟩;obtain⟨v,gE,ff⟩:=ez.leave aB (fn:=Tryz.f91) (l:=[.b true]) rfl;exact⟨v,gE,v,rfl,by simpa only[fG,VR]using ff,((hg.trans dh).trans ig).grown⟩
def wT:List Nat:=[51,98,101,93,96]
def cT(w w':World)(Ts:List Nat):Prop:=∀(r:Nat) (c:Array Value) (T:TypeId),T∈Ts->w.heap[r]? =some (.cells c T (0,0))->w'.heap[r]? =some (.cells c T (0,0))
theorem cT.grown{w w':World}(h:Grown w w')(Ts:List Nat):cT w w' Ts:=fun r c T _ ho=>by rw[h.same r (Array.getElem?_eq_some_iff.1 ho).1];exact ho
theorem cr.aJ{w w':World}{Ts:List Nat}(h:cT w w' Ts){T sz:Nat}{v:Value}{row:List Value}(hi:cr w T sz v row)(hT:T∈Ts):cr w' T sz v row:=by
 obtain⟨r,n,cap,c,h1,h2,h3,h4,h5,h6,h7⟩:=hi;exact⟨r,n,cap,c,h1,h2,h3,h4,h5,h _ _ _ hT h6,h7⟩
theorem GW.aJ{w w':World}{lines ov rv:Value}{next:Nat}{l:List (O×Value)}{rs:List (ByteArray×Nat)}(h:GW w lines ov rv next l rs)(hk:cT w w' wT):GW w' lines ov rv next l rs:=
 {h with
  BA:=by
   obtain⟨rl,rf,cl,cf,h1,h2,h3,h4⟩:=h.BA;exact⟨rl,rf,cl,cf,h1,hk _ _ _ (by decide) h2,hk _ _ _ (by decide) h3,h4⟩,
  bS:=h.bS.aJ hk (by decide),roots:=h.roots.aJ hk (by decide),aP:=fun p hp=>(h.aP p hp).kept fun r c=>hk r _ _ (by decide)}
theorem GW.lG{w:World}(h:GW w lines ov rv next l rs):∀x,Has l x->1<=x/\x<=100000:=by
 rintro x ⟨j,hj,rfl⟩;obtain⟨p,hp⟩:∃p,l[j]? =some p:=⟨l[j],aop hj⟩
 have:=h.ids j p hp;have:=h.nx;simp only[bZ,hp,Option.map_some,Option.getD_some];omega
theorem Found.o9{w:World}{lv mv:Value}(h:Found w l lv mv):lv.oneCell'=true:=by
 obtain⟨⟨_,h,_⟩,_⟩:=h;exact h.one
theorem Found.pU{w:World}{lv mv:Value}(h:Found w l lv mv):mv.oneCell'=true:=by
 obtain⟨_,_,rfl,_⟩:=h;rfl
theorem GW.Rn{n:Nat}{w:World}(h:GW w lines ov rv next l rs)(hW:Whole l rs)(bU:l≠[]):
  CallsIn (W none) n Tryz.prog 41 #[wV lines ov rv next] w fun e w'=>∃v,e=.returned v/\(∃lv mv,v=.tuple #[.agg #[lv,mv],.int .i64 0]/\Found w' l lv mv)/\Grown w w':=
 NS h bU fun n w' lv mv hF hr=>Rk hF hr h.asc hW h.ln h.rl h.lG
noncomputable def ar3:List Code:=ct ((Tryz.f24.body).getD .skip)
def fD:List V:=[.a [.q 0,.q 1,.q 2,.y .i64 3]]
def Zv:aU:={qc:=[(41,fD,.t [.a [.o,.o],.i .i64 0])]}
def aiE:List (Nat×V):=[(2,.i .i64 0)]
theorem aiF:av (ar E0 Zv) 100 (ar3.take 10) ⟨11,load fD 0 .leaf⟩ (ak 0 []) .r {} 11 aiE 0 []=true:=by decide+kernel
theorem kz{φ:Ren}{lines ov rv:Value}{next:Nat}(h0:φ.q 0=lines)(h1:φ.q 1=ov)(h2:φ.q 2=rv)(h3:φ.s 3=next)(o0:lines.oneCell'=true)(o1:ov.oneCell'=true)(o2:rv.oneCell'=true):J φ fD [wV lines ov rv next]:=by
 refine J.cons ?_ J.nil;simp only[VR];refine⟨_,rfl,J.cons ?_ (J.cons ?_ (J.cons ?_ (J.cons ?_ J.nil)))⟩
 ·simp only[VR];exact⟨h0.symm,o0⟩
 ·simp only[VR];exact⟨h1.symm,o1⟩
 ·simp only[VR];exact⟨h2.symm,o2⟩
 ·simp only[VR,h3]
theorem fW{φ:Ren}{lines ov rv:Value}{next:Nat}(h0:φ.q 0=lines)(h1:φ.q 1=ov)(h2:φ.q 2=rv)(h3:φ.s 3=next){args:List Value}(ha:J φ fD args):args=[wV lines ov rv next]:=by
 simp only[fD,J,VR]at ha;obtain⟨_,_,rfl,⟨cs,rfl,_,_,e1,⟨rfl,_⟩,_,_,rfl,⟨rfl,_⟩,_,_,rfl,⟨rfl,_⟩,_,_,rfl,rfl,rfl⟩,rfl⟩:=ha;rw[h0,h1,h2,h3]at e1;unfold wV
 congr 2
 exact arL.1 e1
theorem As{n:Nat}{w:World}(h:GW w lines ov rv next l rs)(hW:Whole l rs)(bU:l≠[]):
  CallsIn (W none) n Tryz.prog 24 #[wV lines ov rv next] w fun e w'=>∃v,e=.returned v/\v=.int .i64 0/\Grown w w':=by
 let y0:Sym:=dg [0,0,0,next] [lines,ov,rv] [] [];have bB:=ad.enter (nt:=11) (bc y0 w) rfl rfl (kz (φ:=φ0 y0 w) rfl rfl rfl rfl h.BA.one h.bS.one h.roots.one) (by decide);refine dz (fn:=Tryz.f24) (c:=(Tryz.f24.body).getD .skip) Tryz.func24 rfl (bp _ ?_);show aC none n E0.P _ ar3 _ _;refine ad.dc (aq aB Zv) rfl 10 aiF bB (aA.dU ?_) rfl y0 ?_ fun φ a w1 hs hd hg _ n1 n2 n3 n4=> ?_
 ·refine⟨agm,agm,agm,agm,agm,agm,agm,agm,⟨?_,agm⟩⟩
  intro af hle args' ha;have:=fW (φ:=af) (lines:=lines) (ov:=ov) (rv:=rv) (next:=next) (by rw[hle.qy];rfl) (by rw[hle.qy];rfl) (by rw[hle.qy];rfl) (by rw[hle.sy];rfl) ha;subst this;refine⟨⟨_,_,Tryz.func41,rfl,rfl⟩,fun n w' hk=> ?_⟩;refine((h.aJ fun r c T _ ho=>hk r _ ho).Rn hW bU (n:=n)).mono ?_;rintro e w'' ⟨v,h1,⟨lv,mv,rfl,hF⟩,h3⟩;refine⟨_,h1,?_,h3⟩;simp only[VR];refine⟨_,rfl,J.cons ?_ (J.cons vI J.nil)⟩;simp only[VR];exact⟨_,rfl,J.cons (by simp only[VR];exact hF.o9) (J.cons (by simp only[VR];exact hF.pU) J.nil)⟩
 ·exact Ag.au (o:=y0) ⟨agm,agm,agm,agm⟩ rfl rfl rfl rfl
 refine⟨.inl rfl,hd,?_⟩;obtain⟨v,gE,ff⟩:=hs.leave aB (fn:=Tryz.f24) (l:=[.i .i64 0]) rfl;exact⟨v,gE,v,rfl,by simpa only[fG,VR]using ff,hg.grown⟩
noncomputable def BX:List Code:=ct ((Tryz.f51.body).getD .skip)
def iF:List (Nat×V):=[(2,.p (some (3,0))),(5,.p (some (5,0))),(6,.p (some (6,0))),(7,.f 106 [] [.p (some (5,0)),.p (some (6,0))]),(13,.sr 0 0 0 2),(14,.y .i64 1),(15,.y .i64 0)]
def wG:aQ:=.cells [.sr 1 1 0 4,.m (some 2)] 128 false
def Jp:List (Nat×aQ):=[(3,wG),(5,.cells [.m (some 4)] 141 false),(6,.cells [.sl none 0 (.kn 0)] 23 false),(4,.mp [] 0),(2,.rm 0 (.int .i64)),(1,.rw 1 51),(0,.rw 0 101)]
def acy:bP:={s:=[(0,.i 0),(1,.y 1)],w:=[(0,.same 0),(1,.same 1)],g:=[(0,.same 0)]}
theorem aiG:av (ar E0 DZ) 100 (BX.take 5) ⟨51,load uu 0 .leaf⟩ (ak 3 Zt) .n acy 51 iF 7 Jp=true:=by decide+kernel
def D1:List (Nat×aQ):=[(3,wG),(5,.cells [.m (some 4)] 141 false),(6,.cells [.sl none 0 (.kn 0)] 23 false),(4,.gS 1 (.int .i64) []),(2,.rm 0 (.int .i64)),(1,.rw 1 51),(0,.rw 0 101)]
def LR:bP:={s:=[(0,.y 0),(1,.y 1)],w:=[(0,.same 0),(1,.same 1)],g:=[(0,.same 0),(1,.fold 4)]}
theorem acz:(bG LR (U 51 iF) (ak 7 Jp) 51 iF 7 D1).isSome=true:=by decide+kernel
def acA:bP:={s:=[(0,.y 0),(1,.y 1)],w:=[(0,.same 0),(1,.same 1)],g:=[(0,.same 0),(1,.same 1)]}
theorem acB:aW acA 51 iF 7 D1=true:=by decide+kernel
def Ro:aU:={bd:=[(5,1,100000)],bin:=[(.lss,.y .i64 0,.y .i64 1,.b true),(.add,.y .i64 0,.i .i64 1,.y .i64 2)],rz:=[(0,2),(1,4)],re:=[(0,0,[.q 4,.y .i64 5])],mg:=[(1,.y .i64 5,none)]}
def Rp:bP:={s:=[(0,.y 2),(1,.y 1),(5,.y 5)],w:=[(0,.same 0),(1,.same 1)],g:=[(0,.same 0),(1,.same 1)]}
def D2:aQ:=.cells [.sl (some (7,0)) 1 (.un 1)] 23 false
def Jq:List (Nat×aQ):=[(3,wG),(5,.cells [.m (some 4)] 141 false),(6,D2),(4,.gS 1 (.int .i64) [(.y .i64 5,some (.b true))]),(7,.cells [.y .i64 5] 3 true),(2,.rm 0 (.int .i64)),(1,.rw 1 51),(0,.rw 0 101)]
theorem acC:av (ar E0 Ro) 300 ((roundOf (BX.drop 5)).take 100) (U 51 iF) (ak 7 D1) .n Rp 51 iF 8 Jq=true:=by decide+kernel
def wH:List (Nat×aQ):=[(3,wG),(5,.cells [.m (some 4)] 141 false),(6,D2),(4,.gS 1 (.int .i64) []),(7,.cells [.y .i64 5] 3 true),(2,.rm 0 (.int .i64)),(1,.rw 1 51),(0,.rw 0 101)]
def Rq:bP:={s:=[(0,.y 0),(1,.y 1),(5,.y 5)],w:=[(0,.same 0),(1,.same 1)],g:=[(0,.same 0),(1,.fold 4)]}
theorem Wy:(bG Rq (U 51 iF) (ak 8 Jq) 51 iF 8 wH).isSome=true:=by decide+kernel
def Wz:bP:={s:=[(0,.y 0),(1,.y 1),(5,.y 5)],w:=[(0,.same 0),(1,.same 1)],g:=[(0,.same 0),(1,.same 1)]}
theorem Rr:aW Wz 51 iF 8 wH=true:=by decide+kernel
def Rs:aU:={bd:=[(5,1,100000)],bin:=[(.lss,.y .i64 0,.y .i64 1,.b true),(.add,.y .i64 0,.i .i64 1,.y .i64 2)],rz:=[(0,2),(1,4)],re:=[(0,0,[.q 4,.y .i64 5])],mg:=[(1,.y .i64 5,some (.b true))]}
theorem acD:av (ar E0 Rs) 300 ((roundOf (BX.drop 5)).take 100) (U 51 iF) (ak 8 wH) .n Rp 51 iF 8 wH=true:=by decide+kernel
def nW:List (Nat×V):=[(2,.p (some (3,0))),(5,.p (some (5,0))),(6,.p (some (6,0))),(7,.f 106 [] [.p (some (5,0)),.p (some (6,0))])]
def sR:List (Nat×aQ):=[(3,wG),(5,.cells [.m (some 4)] 141 false),(6,D2),(4,.gS 1 (.int .i64) []),(7,.cells [.y .i64 5] 3 true),(2,.rm 0 (.int .i64)),(1,.rw 1 51)]
def Rt:bP:={s:=[(5,.y 5)],w:=[(1,.same 1)],g:=[(0,.same 0),(1,.same 1)]}
theorem acE:av (ar E0 wF) 100 ((roundOf (BX.drop 5)).take 100) (U 51 iF) (ak 8 wH) (.e 0) Rt 51 nW 8 sR=true:=by decide+kernel
theorem acF:aW Rt 51 nW 8 sR=true:=by decide+kernel
def Ru:aU:={bd:=[(5,1,100000),(6,1,100000),(9,0,100000)],rz:=[(0,2),(1,4)],re:=[(1,9,[.y .i64 5,.i .i64 0,.i .i64 0,.sl (some (8,0)) 1 (.kn 1)])],mg:=[(0,.y .i64 5,some (.y .i64 9)),(1,.y .i64 6,none)]}
def Jr:List (Nat×aQ):=[(3,wG),(5,.cells [.m (some 4)] 141 false),(6,D2),(4,.gS 1 (.int .i64) [(.y .i64 5,some (.b true))]),(7,.cells [.y .i64 5] 3 true),(2,.rm 0 (.int .i64)),(1,.rw 1 51)]
def acG:bP:={s:=[(5,.y 6)],w:=[(1,.same 1)],g:=[(0,.same 0),(1,.same 1)]}
theorem aiH:av (ar E0 Ru) 400 ((roundOf (BX.drop 6)).take 100) (U 51 nW) (ak 9 ((8,Wt)::sR)) .n acG 51 nW 8 Jr=true:=by decide+kernel
def LS:bP:={s:=[(5,.y 5)],w:=[(1,.same 1)],g:=[(0,.same 0),(1,.fold 4)]}
theorem acH:(bG LS (U 51 nW) (ak 8 Jr) 51 nW 8 sR).isSome=true:=by decide+kernel
def Rv:aU:={bd:=[(5,1,100000),(9,0,100000)],rz:=[(0,2),(1,4)],re:=[(1,9,[.y .i64 5,.i .i64 0,.i .i64 0,.sl (some (8,0)) 1 (.kn 1)])],mg:=[(0,.y .i64 5,some (.y .i64 9))]}
def wI:List (Nat×aQ):=[(5,.cells [.m (some 4)] 141 false),(6,.cells [.sl (some (7,0)) 0 (.un 1)] 23 false),(4,.gS 1 (.int .i64) []),(7,.cells [.y .i64 5] 3 true)]
def wJ:List (Nat×V):=[(5,.p (some (5,0))),(6,.p (some (6,0)))]
def Js:bP:={s:=[(5,.y 5)],g:=[(1,.same 1)]}
theorem aiI:av (ar E0 Rv) 400 ((roundOf (BX.drop 6)).take 100) (U 51 nW) (ak 9 ((8,Jh)::sR)) .n Js 51 wJ 8 wI=true:=by decide+kernel
theorem Rw:aW Js 51 wJ 8 wI=true:=by decide+kernel
theorem aiJ:av (ar E0 {}) 100 ((roundOf (BX.drop 6)).take 100) (U 51 wJ) (ak 8 wI) (.e 2) Js 51 wJ 8 wI=true:=by decide+kernel
def acI:List (Nat×V):=[(4,.m (some 4))]
def acJ:List (Nat×aQ):=[(4,.gS 1 (.int .i64) [])]
def acK:bP:={g:=[(1,.same 1)]}
theorem aiK:av (ar E0 {}) 100 ((BX.drop 7).take 2) (U 51 wJ) (ak 8 wI) .r acK 51 acI 5 acJ=true:=by decide+kernel
def oP(i x:Nat):MapEntry:={key:=.int .i64 x,val:=.bool true,born:=i}
def sm(s:List Nat):Array MapEntry×Nat:=((s.mapIdx oP).toArray,s.length)
theorem NU{x:Nat}(h:arC d (.int .i64 x))(y:Nat):arC d (.int .i64 y):=by
 cases d<;>first|exact h|exact h.elim
theorem Gy{x:Nat}(h:arC d (.int .i64 x))(s:List Nat):∀e∈s.mapIdx oP,arC d e.key:=by
 intro e he;simp only[arS]at he;obtain⟨i,_,rfl⟩:=he;exact NU h _
theorem D3{s:List Nat}{x:Nat}(hx:x∉s){d:TypeDesc}(hk:arC d (.int .i64 x)):arE d (.int .i64 x) (sm s).1.toList 0=some none:=by
 show arE d (.int .i64 x) (s.mapIdx oP) 0=_;rcases arH hk (s.mapIdx oP) 0 (Gy hk s)with⟨h1,_⟩|⟨j,e,_,h2,h3⟩
 ·exact h1
 ·rw[arI]at h2
  cases hj:s[j]?with
  |none=>rw[hj]at h2;cases h2
  |some z=>
   rw[hj]at h2;cases h2;simp only[oP,arK,true_and,arP]at h3;subst h3;exact absurd (AAA hj) hx
theorem WA{s:List Nat}{x:Nat}(hx:x∈s)(hk:arC d (.int .i64 x)):∃j,arE d (.int .i64 x) (sm s).1.toList 0=some (some (j,.bool true)):=by
 show∃j,arE d (.int .i64 x) (s.mapIdx oP) 0=_
 rcases arH hk (s.mapIdx oP) 0 (Gy hk s)with⟨_,h1⟩|⟨j,e,h1,h2,h3⟩
 ·obtain⟨j,hj⟩:=arT hx
  have:(s.mapIdx oP)[j]? =some (oP j x):=by rw[arI,hj];rfl
  exact absurd rfl (h1 _ (AAA this))
 ·rw[arI]at h2
  cases hj:s[j]?with
  |none=>rw[hj]at h2;cases h2
  |some z=>
   rw[hj]at h2;cases h2;exact⟨_,h1⟩
theorem LU{s:List Nat}{x:Nat}(hx:x∉s):iq (.int .i64) (sm s) (.int .i64 x) (.bool true)=sm (s++[x]):=by
 rw[iq,D3 (d:=.int .i64) hx rfl];simp[sm,List.mapIdx_append,oP]
structure Path(l:List (O×Value))(p:List Nat):Prop where
 nd:p.Nodup
 at_:∀i x,p[i]? =some x->∃(j:Nat) (q:O×Value),l[j]? =some q/\q.1.id=x/\q.1.ref=(p[i+1]?).getD 0
 pos:∀x∈p,1<=x/\x<=100000
theorem Rx{n:Nat}{w:World}{l:List (O×Value)}{lv mv rv:Value}{rs:List (ByteArray×Nat)}{p:List Nat}{k:Nat}(hF:Found w l lv mv)(hr:cr w 101 2 rv (cg rs))(ha:Asc l)(hP:Path l p)(hk:p[0]? =some k)(hrs:∀q∈rs,q.2=k)(bU:rs≠[])
  (ym:l.length<=100000)(jD:rs.length<=100000):
  CallsIn (W none) n Tryz.prog 51 #[.agg #[lv,mv],rv] w fun e w'=>∃v,e=.returned v/\(∃r,v=.map (some r)/\w'.heap[r]? =some (.map (sm p).1 (sm p).2))/\Grown w w':=by
 obtain⟨⟨late,xV,qU,Ar⟩,rm,rfl,hm⟩:=hF;have E8:late.length=l.length:=by have:=congrArg List.length qU;simpa using this
 have hkp:=hP.pos k (AAA hk);let y0:Sym:=dg [0,rs.length] [] [cg rs,aZ late] [pm l l.length];obtain⟨ay,h1,e1,le1,v1⟩:=hr.add (bc y0 w) rfl 0 rfl;obtain⟨aV,h2,e2,le2,v2⟩:=xV.add h1 rfl 1 (by show ay.y.w 1=_;rw[e1];rfl);have kq:aV.y=(φ0 y0 w).y:=e2.trans e1;have h3:=h2.abO hm rfl 0 (.int .i64) (by show aV.y.g 0=_;rw[kq];rfl) (by rw[LP ha _ (arF _)];exact Aq l _);have F8:∀s,aV 2≠some s:=fun s es=>by have:=(h2.lM _ _ es).1;exact absurd this (Nat.lt_irrefl _)
 have le3:Le aV (up aV 2 rm 0):=jr F8;have Rl:(up aV 2 rm 0).y=(φ0 y0 w).y:=kq;have v3:VR (up aV 2 rm 0) (.m (some 2)) (.map (some rm)):=by simp only[VR];exact⟨rm,by simp[up],rfl⟩
 generalize up aV 2 rm 0=eH at h3 le3 Rl v3
 have cG:J eH uu [.agg #[lv,.map (some rm)],rv]:=by
  refine J.cons ?_ (J.cons (VR.mono (le2.trans le3) _ _ v1) J.nil);simp only[VR];exact⟨_,rfl,J.cons (VR.mono le3 _ _ v2) (J.cons (by simpa only[VR]using v3) J.nil)⟩
 have bB:=ad.enter (nt:=51) h3 rfl (by rw[Rl];rfl) cG (by decide);refine dz (fn:=Tryz.f51) (c:=(Tryz.f51.body).getD .skip) Tryz.func51 rfl (bp _ ?_);show aC none n E0.P _ BX _ _;refine ad.dc (aq aB DZ) rfl 5 aiG bB (aA.dU ?_) rfl y0 ?_ fun φ a w1 hs hd hg _ n1 n2 n3 n4=> ?_
 ·refine⟨agm,agm,agm,⟨⟨rs.length,by decide,?_,?_⟩,agm⟩,agm,agm,agm,agm,agm⟩
  ·simp only[Ren.w,Rl];exact(fk rs).symm
  ·simp only[Ren.s,Rl];rfl
 ·refine Ag.au (o:=y0) ⟨⟨rfl,rfl,agm⟩,agm,⟨rfl,rfl,agm⟩,⟨rfl,agm⟩⟩ ?_ ?_ ?_ ?_<;>rw[Rl]<;>rfl
 show aC none n E0.P _ (BX.drop 5) a w1;have oZ:Agree LR φ (ak 7 Jp) w1 (dg [(0:Nat),rs.length] [] [cg rs,aZ late] [pm l l.length,sm []]):=by
  refine bC ⟨(agB n1 0).symm,(agB n1 1).symm,agm⟩ trivial ⟨(agB n3 0).symm,(agB n3 1).symm,agm⟩ ⟨(agB n4 0).symm,?_,agm⟩;intro r es c hr jE;obtain⟨o,h1,h2⟩:=hs.hr.ew 4 r hr (by rw[aH];trivial);rw[aH]at h2;rw[jE]at h1;cases h1;obtain⟨el,h1,h2⟩:=h2;cases h1;simp only[fB]at h2;have:es=#[]:=arL.1 h2;rw[this];rfl
 obtain⟨jn,ll,k1,k2,k3,k4⟩:=hs.conv acz _ oZ;obtain⟨N,hN⟩:∃N,rs.length=N+1:=by
  cases rs with
  |nil=>exact(bU rfl).elim
  |cons x xs=>exact⟨xs.length,rfl⟩
 let Y0:Sym:=dg [(0:Nat),rs.length] [] [cg rs,aZ late] [pm l l.length,sm []];let Y1:Nat->Sym:=fun i=>dg [i,rs.length,0,0,0,k] [] [cg rs,aZ late] [pm l l.length,sm [k]]
 let Inv1:Nat->Act->World->Prop:=fun i a w'=>match i with
  |0=>∃φ,ad φ w.heap.size (U 51 iF) (ak 7 D1) a w'/\a.defers=[]/\GB w.heap.size w w'/\bD φ Y0
  |i+1=>∃φ,ad φ w.heap.size (U 51 iF) (ak 8 wH) a w'/\a.defers=[]/\GB w.heap.size w w'/\bD φ (Y1 (i+1))
 have facts:∀(i:Nat) (q:ByteArray×Nat) (ay:Ren),rs[i]? =some q->ay.s 0=i->ay.s 1=rs.length->ay.s 2=i+1->ay.s 5=k->ay.q 4=.string q.1->ay.w 0=cg rs->
   (fT ay.y .lss (.y .i64 0) (.y .i64 1) (.b true)/\fT ay.y .add (.y .i64 0) (.i .i64 1) (.y .i64 2))/\((1:Int)<=ay.s 5/\ay.s 5<=(100000:Int))/\(i+1)*2<=(ay.w 0).length/\J ay [.q 4,.y .i64 5] (((ay.w 0).drop (i*2)).take 2):=fun i q ay hq s0 s1 s2 s5 q4 Ra=>by
  have hi:i<rs.length:=by
   rcases arG i rs.length with h|h
   ·exact h
   ·rw[arD h]at hq;cases hq
  have hqk:=hrs q (AAA hq);refine⟨⟨.lss (k:=.i64) (x:=i) (y:=rs.length) (by simp only[aR];rw[show ay.y.s 0=_ from s0]) (by simp only[aR];rw[show ay.y.s 1=_ from s1]) (by simp;omega),.add (k:=.i64) (x:=i) (y:=1) (by simp only[aR];rw[show ay.y.s 0=_ from s0]) rfl (by simp only[aR];rw[show ay.y.s 2=_ from s2]) (i64_in (by omega))⟩,by rw[s5];omega,?_,?_⟩
  ·rw[Ra,fk];omega
  ·rw[Ra,ui hq]
   exact J.cons (by simp only[VR];exact⟨q4.symm,rfl⟩) (J.cons (by simp only[VR,s5,hqk]) J.nil)
 refine dd (id:=0) (b:=(match BX.drop 5 with|.block _ (.loop b)::_=>b|_=>.skip)) (rest:=BX.drop 6) (N+1) Inv1 ?_ ?_ ⟨jn,ll,hd,hg,k1,k2,k3,k4⟩
 ·intro i a w' hi hinv
  obtain⟨q,hq⟩:∃q,rs[i]? =some q:=⟨rs[i],aop (by omega)⟩
  cases i with
  |zero=>
   obtain⟨φ,hs,hd,hg,n1,n2,n3,n4⟩:=hinv;refine ad.go aB rfl Ro 100 (cs:=roundOf (BX.drop 5)) acB acC hs hd (dg [(0:Nat),rs.length,(0:Nat)+1,0,0,k] [.bool false,.bool false,.bool false,.bool false,.string q.1] [cg rs,aZ late] [pm l l.length,sm []]) ?_ (fun ay b9 m1 m2 m3 m4=> ?_) (dg [(1:Nat),rs.length,0,0,0,k] [] [cg rs,aZ late] [pm l l.length,sm []]) ?_ fun af a' w'' cu cy dh _ k1 k2 k3 k4=>⟨rfl,?_⟩
   ·exact⟨⟨(agB n1 0).symm,(agB n1 1).symm,agm⟩,agm,⟨(agB n3 0).symm,(agB n3 1).symm,agm⟩,⟨(agB n4 0).symm,(agB n4 1).symm,agm⟩⟩
   ·obtain⟨⟨b1,b2⟩,b3,b4,b5⟩:=facts 0 q ay hq (agB m1 0) (agB m1 1) (agB m1 2) (agB m1 5) (agB m2 4) (agB m3 0)
    refine⟨⟨b3,agm⟩,⟨b1,b2,agm⟩,agm,agm,⟨⟨by decide,rfl,0,agB m1 0,b4,b5⟩,agm⟩,agm,⟨⟨.int .i64 k,?_,rfl,fun d hd _=> ?_⟩,agm⟩,agm,agm⟩
    ·simp only[VR];rw[show ay.s 5=k from agB m1 5]
    ·show arE d _ (ay.g 1).1.toList 0=some none
     rw[show ay.g 1=sm []from agB m4 1];exact D3 (by simp) hd
   ·exact⟨⟨rfl,rfl,rfl,agm⟩,agm,⟨rfl,rfl,agm⟩,⟨rfl,rfl,agm⟩⟩
   ·have oZ:Agree Rq af (ak 8 Jq) w'' (Y1 1):=by
     refine bC ⟨(agB k1 0).symm,(agB k1 1).symm,(agB k1 5).symm,agm⟩ trivial ⟨(agB k3 0).symm,(agB k3 1).symm,agm⟩ ⟨(agB k4 0).symm,?_,agm⟩;intro r es c hr jE;obtain⟨oU,c',g7,mu,_⟩:=cu.hr.qR hr (x:=1) (d:=.int .i64) (us:=[(.y .i64 5,some (.b true))]) rfl;rw[jE]at g7;cases g7;simp only[MU,VR]at mu;obtain⟨_,_,rfl,rfl,_,mu⟩:=mu;rw[mu,show af.g 1=sm []from agB k4 1,show af.s 5=k from agB k1 5,LU (by simp)];rfl
    obtain⟨jH,wE,j1,j2,j3,j4⟩:=cu.conv Wy _ oZ;exact⟨jH,wE,cy,hg.trans dh,j1,j2,j3,j4⟩
  |succ i=>
   obtain⟨φ,hs,hd,hg,n1,n2,n3,n4⟩:=hinv;refine ad.go aB rfl Rs 100 (cs:=roundOf (BX.drop 5)) Rr acD hs hd (dg [(i+1:Nat),rs.length,(i+1:Nat)+1,0,0,k] [.bool false,.bool false,.bool false,.bool false,.string q.1] [cg rs,aZ late] [pm l l.length,sm [k]]) ?_ (fun ay b9 m1 m2 m3 m4=> ?_) (Y1 (i+2)) ?_ fun af a' w'' cu cy dh _ k1 k2 k3 k4=>⟨rfl,af,cu,cy,hg.trans dh,k1,k2,k3,k4⟩
   ·exact⟨⟨(agB n1 0).symm,(agB n1 1).symm,(agB n1 5).symm,agm⟩,agm,⟨(agB n3 0).symm,(agB n3 1).symm,agm⟩,⟨(agB n4 0).symm,(agB n4 1).symm,agm⟩⟩
   ·obtain⟨⟨b1,b2⟩,b3,b4,b5⟩:=facts (i+1) q ay hq (agB m1 0) (agB m1 1) (agB m1 2) (agB m1 5) (agB m2 4) (agB m3 0)
    refine⟨⟨b3,agm⟩,⟨b1,b2,agm⟩,agm,agm,⟨⟨by decide,rfl,i+1,agB m1 0,b4,b5⟩,agm⟩,agm,⟨⟨.int .i64 k,?_,rfl,fun d hd _=> ?_⟩,agm⟩,agm,agm⟩
    ·simp only[VR];rw[show ay.s 5=k from agB m1 5]
    ·show∃j u,arE d _ (ay.g 1).1.toList 0=some (some (j,u))/\VR ay (.b true) u
     rw[show ay.g 1=sm [k]from agB m4 1];obtain⟨j,hj⟩:=WA (s:=[k]) (x:=k) (by simp) hd;exact⟨j,_,hj,vB⟩
   ·exact⟨⟨by show((i+2:Nat):Int)=((i+1:Nat):Int)+1;omega,rfl,rfl,agm⟩,agm,⟨rfl,rfl,agm⟩,⟨rfl,rfl,agm⟩⟩
 ·rintro a w' ⟨φ,hs,hd,hg,n1,n2,n3,n4⟩
  refine ad.go aB rfl wF 100 (cs:=roundOf (BX.drop 5)) Rr acE hs hd (Y1 (N+1)) ?_ (fun ay b9 m1 m2 m3 m4=> ?_) (dg [0,0,0,0,0,k] [] [[],aZ late] [pm l l.length,sm [k]]) ?_ fun af a' w'' cu cy dh _ k1 k2 k3 k4=>⟨rfl,?_⟩
  ·exact⟨⟨(agB n1 0).symm,(agB n1 1).symm,(agB n1 5).symm,agm⟩,agm,⟨(agB n3 0).symm,(agB n3 1).symm,agm⟩,⟨(agB n4 0).symm,(agB n4 1).symm,agm⟩⟩
  ·have s0:ay.y.s 0=(N+1:Nat):=agB m1 0
   have s1:ay.y.s 1=rs.length:=agB m1 1;exact⟨agm,⟨.lss (k:=.i64) (x:=(N+1:Nat)) (y:=rs.length) (by simp only[aR,s0]) (by simp only[aR,s1]) (by simp;omega),agm⟩,agm,agm,agm,agm,agm,agm,agm⟩
  ·exact⟨⟨rfl,agm⟩,agm,⟨rfl,agm⟩,⟨rfl,rfl,agm⟩⟩
  let Inv2:Nat->Act->World->Prop:=fun i a w'=>
   (∀x,p[i]? =some x->∃φ,ad φ w.heap.size (U 51 nW) (ak 8 sR) a w'/\a.defers=[]/\GB w.heap.size w w'/\bD φ (dg [0,0,0,0,0,x] [] [[],aZ late] [pm l l.length,sm (p.take (i+1))]))/\
   (p[i]? =none->∃φ x,ad φ w.heap.size (U 51 wJ) (ak 8 wI) a w'/\a.defers=[]/\GB w.heap.size w w'/\bD φ (dg [0,0,0,0,0,x] [] [] [(#[],0),sm p]))
  have Y4:p.take 1=[k]:=by
   cases p with
   |nil=>cases hk
   |cons x xs=>cases hk;rfl
  refine dd (id:=2) (b:=(match BX.drop 6 with|.block _ (.loop b)::_=>b|_=>.skip)) (rest:=BX.drop 7) p.length Inv2 ?_ ?_ ⟨fun x hx=> ?_,fun hx=> ?_⟩
  ·intro i a w' hi ⟨hinv,_⟩
   obtain⟨x,hx⟩:∃x,p[i]? =some x:=⟨p[i],aop hi⟩
   obtain⟨φ,hs,hd,hg,n1,n2,n3,n4⟩:=hinv x hx;obtain⟨j,q,hq,aiL,Zw⟩:=hP.at_ i x hx;have hxp:=hP.pos x (AAA hx);have Ll:j<l.length:=by
    rcases arG j l.length with h|h
    ·exact h
    ·rw[arD h]at hq;cases hq
   have jO:bZ l (j+1)=x:=by simp[bZ,hq,aiL]
   obtain⟨q',hq'⟩:∃q',late[j]? =some q':=⟨late[j]'(by omega),aop (by omega)⟩
   have hqq:q'.1=q.1:=by
    have:=congrArg (·[j]?) qU;simpa[hq,hq']using this
   obtain⟨r,xR,hr⟩:=Ar q' (AAA hq');have cM:=hg.at_ rfl hr;obtain⟨ay,b9,m1,m2,m3,m4⟩:=hs.gY acF (y:=dg [0,0,0,0,0,x,rf q'.1,0,0,j] [] [[],aZ late] [pm l l.length,sm (p.take (i+1))])
    ⟨⟨(agB n1 5).symm,agm⟩,agm,⟨(agB n3 1).symm,agm⟩,⟨(agB n4 0).symm,(agB n4 1).symm,agm⟩⟩
   have s6:ay.s 6=((rf q'.1:Nat):Int):=agB m1 6;have common:∀(jn:Ren),jn.y=ay.y->jn 8=some r->((1:Int)<=jn.s 5/\jn.s 5<=(100000:Int))/\((0:Int)<=jn.s 9/\jn.s 9<=(100000:Int))/\jn.s 9=((j:Nat):Int)/\(j+1)*4<=(jn.w 1).length/\
     J jn [.y .i64 5,.i .i64 0,.i .i64 0,.sl (some (8,0)) 1 (.kn 1)] (((jn.w 1).drop (j*4)).take 4)/\
     (∃kv,VR jn (.y .i64 5) kv/\iY (.y .i64 5)=true/\∀d,arC d kv->(∀x∈(jn.g 0).1.toList,arC d x.key)->∃j' u,arE d kv (jn.g 0).1.toList 0=some (some (j',u))/\VR jn (.y .i64 9) u):=fun jn hy h8=>by
    have s5:jn.s 5=x:=by show jn.y.s 5=_;rw[hy];exact agB m1 5
    have s9:jn.s 9=j:=by show jn.y.s 9=_;rw[hy];exact agB m1 9
    have hw:jn.w 1=aZ late:=by show jn.y.w 1=_;rw[hy];exact agB m3 1
    have hg0:jn.g 0=pm l l.length:=by show jn.y.g 0=_;rw[hy];exact agB m4 0
    refine⟨by rw[s5];omega,by rw[s9];omega,s9,by rw[hw,fh];omega,?_,⟨.int .i64 x,by simp only[VR,s5],rfl,fun d hd _=>⟨j,.int .i64 j,?_,by simp only[VR,s9]⟩⟩⟩
    ·rw[hw,qJ hq']
     refine J.cons (by simp only[VR,s5,hqq,aiL]) (J.cons vI (J.cons vI (J.cons ?_ J.nil)));show VR _ _ q'.2;rw[xR];exact NR h8 (by decide)
    ·rw[hg0,<-jO]
     exact LQ ha Ll (by rw[jO];exact hd)
   have bB:∀(k v:V),KN k v q'.1->ad (up ay 8 r (dB q'.1).size) w.heap.size (U 51 nW) (ak 9 ((8,.rc [k,v,.s [],.sl none 0 (.kn 0)] 98)::sR)) a w':=fun k v BV=>
    b9.lb cM rfl 99 .top (.rc [k,v,.s [],.sl none 0 (.kn 0)] 98) (fun h=>h) ⟨_,rfl,by
     rw[arM (by rw[arU,dj];exact arF 4)];exact(BV ay s6).1,by rw[dj];exact arF 4,rfl⟩ (by simp only[VR])
   obtain⟨b1,b2,b3,b4,b5,b6⟩:=common (up ay 8 r (dB q'.1).size) rfl (by simp[up]);cases LB:p[i+1]?with
   |none=>
    have hz:q'.1.ref=0:=by rw[hqq,Zw,LB];rfl
    refine ad.dc (aq aB Rv) rfl 100 (cs:=roundOf (BX.drop 6)) aiI (bB _ _ (DY hz)) (aA.dU ⟨⟨b1,b2,agm⟩,agm,agm,agm,⟨⟨by decide,rfl,j,b3,b4,b5⟩,agm⟩,agm,⟨b6,agm⟩,agm,agm⟩) hd (dg [0,0,0,0,0,x] [] [] [(#[],0),sm p]) ?_ fun af a' w'' cu cy dh _ e1 e2 e3 e4=>⟨rfl,⟨fun y hy=> ?_,fun _=>⟨af,x,cu,cy,hg.trans dh,e1,e2,e3,e4⟩⟩⟩
    ·have pG:p.take (i+1)=p:=arM (by
      rcases arG (i+1) p.length with h|h
      ·rw[aop h]at LB;cases LB
      ·exact h)
     exact Ag.au (o:=dg [0,0,0,0,0,x,rf q'.1,0,0,j] [] [[],aZ late] [pm l l.length,sm (p.take (i+1))]) ⟨⟨rfl,agm⟩,agm,agm,⟨by show sm p=sm (p.take (i+1));rw[pG],agm⟩⟩ m1 m2 m3 m4
    ·rw[LB]at hy;cases hy
   |some z=>
    have hzp:=hP.pos z (AAA LB);have hz:q'.1.ref=z:=by rw[hqq,Zw,LB];rfl
    have hz0:q'.1.ref≠0:=by omega
    have Vn:rf q'.1=z:=by rw[rf,if_neg hz0,hz]
    have hil:i+1<p.length:=by
     rcases arG (i+1) p.length with h|h
     ·exact h
     ·rw[arD h]at LB;cases LB
    have hni:z∉p.take (i+1):=fun kg=>by
     obtain⟨t,ht⟩:=arT kg;have htl:t<i+1:=by
      rcases arG t (i+1)with h|h
      ·exact h
      ·rw[arD (by simp;omega)]at ht;cases ht
     rw[List.getElem?_take_of_lt htl]at ht;have h1:p[t]? =p[i+1]? :=ht.trans LB.symm;have:=(arW (by omega) hP.nd).1 h1;omega
    have QX:p.take (i+1+1)=p.take (i+1)++[z]:=by rw[List.take_add_one,LB];rfl
    have s6':(up ay 8 r (dB q'.1).size).s 6=z:=by rw[<-Vn];exact s6
    refine ad.dc (aq aB Ru) rfl 100 (cs:=roundOf (BX.drop 6)) aiH (bB _ _ (DX hz0)) (aA.dU ⟨⟨b1,⟨?_,?_⟩,b2,agm⟩,agm,agm,agm,⟨⟨by decide,rfl,j,b3,b4,b5⟩,agm⟩,agm,⟨b6,⟨.int .i64 z,?_,rfl,fun d hd _=> ?_⟩,agm⟩,agm,agm⟩) hd (dg [0,0,0,0,0,z] [] [[],aZ late] [pm l l.length,sm (p.take (i+1))]) ?_ fun af a' w'' cu cy dh _ e1 e2 e3 e4=>⟨rfl,⟨fun y hy=> ?_,fun hy=> ?_⟩⟩
    ·show(1:Int)<=(up ay 8 r (dB q'.1).size).s 6;rw[s6'];omega
    ·show(up ay 8 r (dB q'.1).size).s 6<=(100000:Int);rw[s6'];omega
    ·simp only[VR];rw[s6']
    ·show arE d _ ((up ay 8 r (dB q'.1).size).g 1).1.toList 0=some none
     rw[show(up ay 8 r (dB q'.1).size).g 1=sm (p.take (i+1))from agB m4 1];exact D3 hni hd
    ·exact Ag.au (o:=dg [0,0,0,0,0,x,rf q'.1,0,0,j] [] [[],aZ late] [pm l l.length,sm (p.take (i+1))]) ⟨⟨by show(z:Int)=(rf q'.1:Nat);rw[Vn],agm⟩,agm,⟨rfl,agm⟩,⟨rfl,rfl,agm⟩⟩ m1 m2 m3 m4
    ·rw[LB]at hy;cases hy
     have oZ:Agree LS af (ak 8 Jr) w'' (dg [0,0,0,0,0,z] [] [[],aZ late] [pm l l.length,sm (p.take (i+1+1))]):=by
      refine bC ⟨(agB e1 5).symm,agm⟩ trivial ⟨(agB e3 1).symm,agm⟩ ⟨(agB e4 0).symm,?_,agm⟩;intro r es c hr jE;obtain⟨oU,c',g7,mu,_⟩:=cu.hr.qR hr (x:=1) (d:=.int .i64) (us:=[(.y .i64 5,some (.b true))]) rfl;rw[jE]at g7;cases g7;simp only[MU,VR]at mu;obtain⟨_,_,rfl,rfl,_,mu⟩:=mu;rw[mu,show af.g 1=sm (p.take (i+1))from agB e4 1,show af.s 5=z from agB e1 5,LU hni,<-QX];rfl
     obtain⟨jH,wE,j1,j2,j3,j4⟩:=cu.conv acH _ oZ;exact⟨jH,wE,cy,hg.trans dh,j1,j2,j3,j4⟩
    ·rw[LB]at hy;cases hy
  ·intro a w' ⟨_,hinv⟩
   obtain⟨φ,x,hs,hd,hg,n1,n2,n3,n4⟩:=hinv (arD (arF _));let Z:Sym:=dg [0,0,0,0,0,x] [] [] [(#[],0),sm p];refine ad.go aB rfl {} 100 (cs:=roundOf (BX.drop 6)) Rw aiJ hs hd Z ?_ (fun ay b9 m1 m2 m3 m4=> ?_) Z ?_ fun af a' w'' cu cy dh _ k1 k2 k3 k4=>⟨rfl,?_⟩
   ·exact⟨⟨(agB n1 5).symm,agm⟩,agm,agm,⟨(agB n4 1).symm,agm⟩⟩
   ·exact⟨agm,agm,agm,agm,agm,agm,agm,agm,agm⟩
   ·exact⟨⟨rfl,agm⟩,agm,agm,⟨rfl,agm⟩⟩
   refine ad.go aB rfl {} 2 (cs:=BX.drop 7) Rw aiK cu cy Z ?_ (fun ay b9 m1 m2 m3 m4=> ?_) Z ?_ fun eH a3 w3 ez gJ ig _ j1 j2 j3 j4=> ?_
   ·exact⟨⟨(agB k1 5).symm,agm⟩,agm,agm,⟨(agB k4 1).symm,agm⟩⟩
   ·exact⟨agm,agm,agm,agm,agm,agm,agm,agm,agm⟩
   ·exact⟨agm,agm,agm,⟨rfl,agm⟩⟩
   refine⟨.inl rfl,gJ,?_⟩;obtain⟨v,gE,ff⟩:=ez.leave aB (fn:=Tryz.f51) (l:=[.m (some 4)]) rfl;simp only[fG,VR]at ff;obtain⟨r,h4,rfl⟩:=ff;obtain⟨es,c,g7,mu,_⟩:=ez.hr.qR h4 (x:=1) (d:=.int .i64) (us:=[]) rfl;simp only[MU]at mu;refine⟨_,gE,_,rfl,⟨r,rfl,?_⟩,((hg.trans dh).trans ig).grown⟩;rw[g7,<-show eH.g 1=sm p from agB j4 1,<-mu]
  ·rw[hk]at hx;cases hx
   refine⟨af,cu,cy,hg.trans dh,k1,k2,k3,?_⟩;rw[k4];show _=(dg [0,0,0,0,0,k] [] [[],aZ late] [pm l l.length,sm (p.take 1)]).g;rw[Y4]
  ·rw[hk]at hx;cases hx
end Go.Ev
namespace Go.Proofs
open List renaming getElem?_eq_getElem->aop,mem_of_getElem?->AAA,getElem?_eq_none->arD,getElem?_mapIdx->arI,take_of_length_le->arM,mem_map->arN,getElem?_range->arQ,mem_mapIdx->arS,getElem?_of_mem->arT,getElem?_map->arV,getElem?_inj->arW
open MapKept renaming IsKey->arC,findNow_spec->arH
open Instr renaming findNow->arE
open Nat renaming le_refl->arF,lt_or_ge->arG,le_trans->arO
open Fence renaming wide->arJ
open Value.int renaming injEq->arK
open _root_.Array renaming toList_inj->arL,length_toList->arU
open Int renaming natCast_inj->arP
open Maps renaming size->arR
section
open Go.Shelf
def Tryz.Au:Go.Shelf.Ren:=⟨fun|7=>50|10=>105|n=>n,fun|23=>141|26=>3|3=>4|28=>139|0=>0|27=>138|33=>153|4=>4|n=>n,fun|n=>n⟩
theorem Tryz.Ry:Go.Proofs.SlLaysZI.n7 Tryz.prog Tryz.Au:={
 mixed:=by kernel_rfl,
 f7:=⟨Tryz.f50.name,by decide,Tryz.func50.trans (congrArg some (by kernel_rfl))⟩,
 f10:=⟨Tryz.f105.name,by decide,Tryz.func105.trans (congrArg some (by kernel_rfl))⟩,
 t0:=Tryz.underlying0,
 a0:=Tryz.isAgg0,
 z0:=Tryz.sizeOf0,
 v0:=Tryz.zeroValue0,
 t4:=Tryz.underlying4,
 a4:=Tryz.isAgg4,
 z4:=Tryz.sizeOf4,
 v4:=Tryz.zeroValue4,
 t23:=Tryz.underlying141,
 a23:=Tryz.isAgg141,
 z23:=Tryz.sizeOf141,
 v23:=Tryz.zeroValue141,
 t26:=Tryz.underlying3,
 a26:=Tryz.isAgg3,
 z26:=Tryz.sizeOf3,
 v26:=Tryz.zeroValue3,
 t27:=Tryz.underlying138,
 a27:=Tryz.isAgg138,
 z27:=Tryz.sizeOf138,
 v27:=Tryz.zeroValue138,
 t28:=Tryz.underlying139,
 a28:=Tryz.isAgg139,
 z28:=Tryz.sizeOf139,
 v28:=Tryz.zeroValue139,
 t33:=Tryz.underlying153,
 a33:=Tryz.isAgg153,
 z33:=Tryz.sizeOf153,
 v33:=Tryz.zeroValue153}
def Tryz.uA:Go.Shelf.Ren:=⟨fun|6=>49|8=>103|9=>104|11=>152|13=>150|12=>153|23=>206|24=>207|14=>216|15=>217|16=>218|17=>219|18=>220|19=>221|20=>222|21=>223|22=>224|25=>267|26=>260|27=>261|28=>268|29=>269|30=>132|31=>326|n=>n,fun|26=>3|28=>139|24=>23|0=>0|3=>3|37=>244|48=>332|50=>221|4=>4|40=>326|39=>325|45=>147|5=>5|9=>9|51=>402|55=>375|57=>446|58=>447|33=>153|n=>n,fun|n=>n⟩
theorem Tryz.Rz:Go.Proofs.SlLaysZI.n6 Tryz.prog Tryz.uA:={
 mixed:=by kernel_rfl,
 f6:=⟨Tryz.f49.name,by decide,Tryz.func49.trans (congrArg some (by kernel_rfl))⟩,
 f8:=⟨Tryz.f103.name,by decide,Tryz.func103.trans (congrArg some (by kernel_rfl))⟩,
 f11:=⟨Tryz.f152.name,by decide,Tryz.func152.trans (congrArg some (by kernel_rfl))⟩,
 t0:=Tryz.underlying0,
 a0:=Tryz.isAgg0,
 z0:=Tryz.sizeOf0,
 v0:=Tryz.zeroValue0,
 t24:=Tryz.underlying23,
 a24:=Tryz.isAgg23,
 z24:=Tryz.sizeOf23,
 v24:=Tryz.zeroValue23,
 t26:=Tryz.underlying3,
 a26:=Tryz.isAgg3,
 z26:=Tryz.sizeOf3,
 v26:=Tryz.zeroValue3,
 t28:=Tryz.underlying139,
 a28:=Tryz.isAgg139,
 z28:=Tryz.sizeOf139,
 v28:=Tryz.zeroValue139,
 i26:=by kernel_rfl}
def Tryz.Jt:Go.Shelf.Ren:=⟨fun|5=>104|8=>150|7=>153|19=>206|20=>207|10=>216|11=>217|12=>218|13=>219|14=>220|15=>221|16=>222|17=>223|18=>224|30=>267|31=>260|32=>261|33=>268|34=>269|35=>132|40=>326|n=>n,fun|23=>23|25=>3|3=>3|32=>244|22=>23|0=>0|44=>332|46=>221|4=>4|36=>326|35=>325|41=>147|5=>5|9=>9|53=>402|57=>375|63=>446|64=>447|n=>n,fun|n=>n⟩
theorem Tryz.RA:Go.Proofs.SlLaysM.n5 Tryz.prog Tryz.Jt:={
 mixed:=by kernel_rfl,
 f5:=⟨Tryz.f104.name,by decide,Tryz.func104.trans (congrArg some (by kernel_rfl))⟩,
 f7:=⟨Tryz.f153.name,by decide,Tryz.func153.trans (congrArg some (by kernel_rfl))⟩,
 f8:=Tryz.func150.trans (congrArg some (by kernel_rfl)),
 f10:=⟨Tryz.f216.name,by decide,Tryz.func216.trans (congrArg some (by kernel_rfl))⟩,
 f11:=⟨Tryz.f217.name,by decide,Tryz.func217.trans (congrArg some (by kernel_rfl))⟩,
 f12:=⟨Tryz.f218.name,by decide,Tryz.func218.trans (congrArg some (by kernel_rfl))⟩,
 f13:=⟨Tryz.f219.name,by decide,Tryz.func219.trans (congrArg some (by kernel_rfl))⟩,
 f14:=⟨Tryz.f220.name,by decide,Tryz.func220.trans (congrArg some (by kernel_rfl))⟩,
 f15:=⟨Tryz.f221.name,by decide,Tryz.func221.trans (congrArg some (by kernel_rfl))⟩,
 f16:=⟨Tryz.f222.name,by decide,Tryz.func222.trans (congrArg some (by kernel_rfl))⟩,
 f17:=⟨Tryz.f223.name,by decide,Tryz.func223.trans (congrArg some (by kernel_rfl))⟩,
 f18:=⟨Tryz.f224.name,by decide,Tryz.func224.trans (congrArg some (by kernel_rfl))⟩,
 f19:=Tryz.func206.trans (congrArg some (by kernel_rfl)),
 f20:=Tryz.func207.trans (congrArg some (by kernel_rfl)),
 f30:=⟨Tryz.f267.name,by decide,Tryz.func267.trans (congrArg some (by kernel_rfl))⟩,
 f31:=Tryz.func260.trans (congrArg some (by kernel_rfl)),
 f32:=Tryz.func261.trans (congrArg some (by kernel_rfl)),
 f33:=⟨Tryz.f268.name,by decide,Tryz.func268.trans (congrArg some (by kernel_rfl))⟩,
 f34:=⟨Tryz.f269.name,by decide,Tryz.func269.trans (congrArg some (by kernel_rfl))⟩,
 f35:=⟨Tryz.f132.name,by decide,Tryz.func132.trans (congrArg some (by kernel_rfl))⟩,
 f40:=⟨Tryz.f326.name,by decide,Tryz.func326.trans (congrArg some (by kernel_rfl))⟩,
 t0:=Tryz.underlying0,
 a0:=Tryz.isAgg0,
 z0:=Tryz.sizeOf0,
 v0:=Tryz.zeroValue0,
 t3:=Tryz.underlying3,
 a3:=Tryz.isAgg3,
 z3:=Tryz.sizeOf3,
 v3:=Tryz.zeroValue3,
 t4:=Tryz.underlying4,
 a4:=Tryz.isAgg4,
 z4:=Tryz.sizeOf4,
 v4:=Tryz.zeroValue4,
 t5:=Tryz.underlying5,
 a5:=Tryz.isAgg5,
 z5:=Tryz.sizeOf5,
 v5:=Tryz.zeroValue5,
 t9:=Tryz.underlying9,
 a9:=Tryz.isAgg9,
 z9:=Tryz.sizeOf9,
 v9:=Tryz.zeroValue9,
 t22:=Tryz.underlying23,
 a22:=Tryz.isAgg23,
 z22:=Tryz.sizeOf23,
 v22:=Tryz.zeroValue23,
 t23:=Tryz.underlying23,
 a23:=Tryz.isAgg23,
 z23:=Tryz.sizeOf23,
 v23:=Tryz.zeroValue23,
 t25:=Tryz.underlying3,
 a25:=Tryz.isAgg3,
 z25:=Tryz.sizeOf3,
 v25:=Tryz.zeroValue3,
 t32:=Tryz.underlying244,
 a32:=Tryz.isAgg244,
 z32:=Tryz.sizeOf244,
 v32:=Tryz.zeroValue244,
 t35:=Tryz.underlying325,
 a35:=Tryz.isAgg325,
 z35:=Tryz.sizeOf325,
 v35:=Tryz.zeroValue325,
 t36:=Tryz.underlying326,
 a36:=Tryz.isAgg326,
 z36:=Tryz.sizeOf326,
 v36:=Tryz.zeroValue326,
 t41:=Tryz.underlying147,
 a41:=Tryz.isAgg147,
 z41:=Tryz.sizeOf147,
 v41:=Tryz.zeroValue147,
 t44:=Tryz.underlying332,
 a44:=Tryz.isAgg332,
 z44:=Tryz.sizeOf332,
 v44:=Tryz.zeroValue332,
 t46:=Tryz.underlying221,
 a46:=Tryz.isAgg221,
 z46:=Tryz.sizeOf221,
 v46:=Tryz.zeroValue221,
 t53:=Tryz.underlying402,
 a53:=Tryz.isAgg402,
 z53:=Tryz.sizeOf402,
 v53:=Tryz.zeroValue402,
 t57:=Tryz.underlying375,
 a57:=Tryz.isAgg375,
 z57:=Tryz.sizeOf375,
 v57:=Tryz.zeroValue375,
 t63:=Tryz.underlying446,
 a63:=Tryz.isAgg446,
 z63:=Tryz.sizeOf446,
 v63:=Tryz.zeroValue446,
 t64:=Tryz.underlying447,
 a64:=Tryz.isAgg447,
 z64:=Tryz.sizeOf447,
 v64:=Tryz.zeroValue447}
def Tryz.Ju:Go.Shelf.Ren:=⟨fun|6=>99|15=>150|14=>149|28=>206|29=>207|20=>198|21=>199|22=>200|23=>201|24=>202|25=>203|26=>204|27=>205|46=>259|47=>260|48=>261|49=>262|50=>263|57=>324|n=>n,fun|22=>44|24=>51|25=>190|3=>3|39=>244|0=>0|53=>332|55=>221|4=>4|46=>326|45=>325|50=>147|5=>5|9=>9|66=>402|70=>375|76=>446|77=>447|n=>n,fun|n=>n⟩
theorem Tryz.acL:Go.Proofs.SlLaysF0.n6 Tryz.prog Tryz.Ju:={
 mixed:=by kernel_rfl,
 f6:=⟨Tryz.f99.name,by decide,Tryz.func99.trans (congrArg some (by kernel_rfl))⟩,
 f14:=⟨Tryz.f149.name,by decide,Tryz.func149.trans (congrArg some (by kernel_rfl))⟩,
 f15:=Tryz.func150.trans (congrArg some (by kernel_rfl)),
 f20:=⟨Tryz.f198.name,by decide,Tryz.func198.trans (congrArg some (by kernel_rfl))⟩,
 f21:=⟨Tryz.f199.name,by decide,Tryz.func199.trans (congrArg some (by kernel_rfl))⟩,
 f22:=⟨Tryz.f200.name,by decide,Tryz.func200.trans (congrArg some (by kernel_rfl))⟩,
 f23:=⟨Tryz.f201.name,by decide,Tryz.func201.trans (congrArg some (by kernel_rfl))⟩,
 f24:=⟨Tryz.f202.name,by decide,Tryz.func202.trans (congrArg some (by kernel_rfl))⟩,
 f25:=⟨Tryz.f203.name,by decide,Tryz.func203.trans (congrArg some (by kernel_rfl))⟩,
 f26:=⟨Tryz.f204.name,by decide,Tryz.func204.trans (congrArg some (by kernel_rfl))⟩,
 f27:=⟨Tryz.f205.name,by decide,Tryz.func205.trans (congrArg some (by kernel_rfl))⟩,
 f28:=Tryz.func206.trans (congrArg some (by kernel_rfl)),
 f29:=Tryz.func207.trans (congrArg some (by kernel_rfl)),
 f46:=⟨Tryz.f259.name,by decide,Tryz.func259.trans (congrArg some (by kernel_rfl))⟩,
 f47:=Tryz.func260.trans (congrArg some (by kernel_rfl)),
 f48:=Tryz.func261.trans (congrArg some (by kernel_rfl)),
 f49:=⟨Tryz.f262.name,by decide,Tryz.func262.trans (congrArg some (by kernel_rfl))⟩,
 f50:=⟨Tryz.f263.name,by decide,Tryz.func263.trans (congrArg some (by kernel_rfl))⟩,
 f57:=⟨Tryz.f324.name,by decide,Tryz.func324.trans (congrArg some (by kernel_rfl))⟩,
 t0:=Tryz.underlying0,
 a0:=Tryz.isAgg0,
 z0:=Tryz.sizeOf0,
 v0:=Tryz.zeroValue0,
 t3:=Tryz.underlying3,
 a3:=Tryz.isAgg3,
 z3:=Tryz.sizeOf3,
 v3:=Tryz.zeroValue3,
 t4:=Tryz.underlying4,
 a4:=Tryz.isAgg4,
 z4:=Tryz.sizeOf4,
 v4:=Tryz.zeroValue4,
 t5:=Tryz.underlying5,
 a5:=Tryz.isAgg5,
 z5:=Tryz.sizeOf5,
 v5:=Tryz.zeroValue5,
 t9:=Tryz.underlying9,
 a9:=Tryz.isAgg9,
 z9:=Tryz.sizeOf9,
 v9:=Tryz.zeroValue9,
 t22:=Tryz.underlying44,
 a22:=Tryz.isAgg44,
 z22:=Tryz.sizeOf44,
 v22:=Tryz.zeroValue44,
 t25:=Tryz.underlying190,
 a25:=Tryz.isAgg190,
 z25:=Tryz.sizeOf190,
 v25:=Tryz.zeroValue190,
 t39:=Tryz.underlying244,
 a39:=Tryz.isAgg244,
 z39:=Tryz.sizeOf244,
 v39:=Tryz.zeroValue244,
 t45:=Tryz.underlying325,
 a45:=Tryz.isAgg325,
 z45:=Tryz.sizeOf325,
 v45:=Tryz.zeroValue325,
 t46:=Tryz.underlying326,
 a46:=Tryz.isAgg326,
 z46:=Tryz.sizeOf326,
 v46:=Tryz.zeroValue326,
 t50:=Tryz.underlying147,
 a50:=Tryz.isAgg147,
 z50:=Tryz.sizeOf147,
 v50:=Tryz.zeroValue147,
 t53:=Tryz.underlying332,
 a53:=Tryz.isAgg332,
 z53:=Tryz.sizeOf332,
 v53:=Tryz.zeroValue332,
 t55:=Tryz.underlying221,
 a55:=Tryz.isAgg221,
 z55:=Tryz.sizeOf221,
 v55:=Tryz.zeroValue221,
 t66:=Tryz.underlying402,
 a66:=Tryz.isAgg402,
 z66:=Tryz.sizeOf402,
 v66:=Tryz.zeroValue402,
 t70:=Tryz.underlying375,
 a70:=Tryz.isAgg375,
 z70:=Tryz.sizeOf375,
 v70:=Tryz.zeroValue375,
 t76:=Tryz.underlying446,
 a76:=Tryz.isAgg446,
 z76:=Tryz.sizeOf446,
 v76:=Tryz.zeroValue446,
 t77:=Tryz.underlying447,
 a77:=Tryz.isAgg447,
 z77:=Tryz.sizeOf447,
 v77:=Tryz.zeroValue447}
def Tryz.Jv:Go.Shelf.Ren:=⟨fun|6=>101|15=>150|14=>151|28=>206|29=>207|20=>208|21=>209|22=>210|23=>211|24=>212|25=>213|26=>214|27=>215|46=>264|47=>260|48=>261|49=>265|50=>266|57=>325|n=>n,fun|22=>45|24=>101|25=>192|3=>3|39=>244|0=>0|53=>332|55=>221|4=>4|46=>326|45=>325|50=>147|5=>5|9=>9|66=>402|70=>375|76=>446|77=>447|n=>n,fun|n=>n⟩
theorem Tryz.acM:Go.Proofs.SlLaysF0.n6 Tryz.prog Tryz.Jv:={
 mixed:=by kernel_rfl,
 f6:=⟨Tryz.f101.name,by decide,Tryz.func101.trans (congrArg some (by kernel_rfl))⟩,
 f14:=⟨Tryz.f151.name,by decide,Tryz.func151.trans (congrArg some (by kernel_rfl))⟩,
 f15:=Tryz.func150.trans (congrArg some (by kernel_rfl)),
 f20:=⟨Tryz.f208.name,by decide,Tryz.func208.trans (congrArg some (by kernel_rfl))⟩,
 f21:=⟨Tryz.f209.name,by decide,Tryz.func209.trans (congrArg some (by kernel_rfl))⟩,
 f22:=⟨Tryz.f210.name,by decide,Tryz.func210.trans (congrArg some (by kernel_rfl))⟩,
 f23:=⟨Tryz.f211.name,by decide,Tryz.func211.trans (congrArg some (by kernel_rfl))⟩,
 f24:=⟨Tryz.f212.name,by decide,Tryz.func212.trans (congrArg some (by kernel_rfl))⟩,
 f25:=⟨Tryz.f213.name,by decide,Tryz.func213.trans (congrArg some (by kernel_rfl))⟩,
 f26:=⟨Tryz.f214.name,by decide,Tryz.func214.trans (congrArg some (by kernel_rfl))⟩,
 f27:=⟨Tryz.f215.name,by decide,Tryz.func215.trans (congrArg some (by kernel_rfl))⟩,
 f28:=Tryz.func206.trans (congrArg some (by kernel_rfl)),
 f29:=Tryz.func207.trans (congrArg some (by kernel_rfl)),
 f46:=⟨Tryz.f264.name,by decide,Tryz.func264.trans (congrArg some (by kernel_rfl))⟩,
 f47:=Tryz.func260.trans (congrArg some (by kernel_rfl)),
 f48:=Tryz.func261.trans (congrArg some (by kernel_rfl)),
 f49:=⟨Tryz.f265.name,by decide,Tryz.func265.trans (congrArg some (by kernel_rfl))⟩,
 f50:=⟨Tryz.f266.name,by decide,Tryz.func266.trans (congrArg some (by kernel_rfl))⟩,
 f57:=⟨Tryz.f325.name,by decide,Tryz.func325.trans (congrArg some (by kernel_rfl))⟩,
 t0:=Tryz.underlying0,
 a0:=Tryz.isAgg0,
 z0:=Tryz.sizeOf0,
 v0:=Tryz.zeroValue0,
 t3:=Tryz.underlying3,
 a3:=Tryz.isAgg3,
 z3:=Tryz.sizeOf3,
 v3:=Tryz.zeroValue3,
 t4:=Tryz.underlying4,
 a4:=Tryz.isAgg4,
 z4:=Tryz.sizeOf4,
 v4:=Tryz.zeroValue4,
 t5:=Tryz.underlying5,
 a5:=Tryz.isAgg5,
 z5:=Tryz.sizeOf5,
 v5:=Tryz.zeroValue5,
 t9:=Tryz.underlying9,
 a9:=Tryz.isAgg9,
 z9:=Tryz.sizeOf9,
 v9:=Tryz.zeroValue9,
 t22:=Tryz.underlying45,
 a22:=Tryz.isAgg45,
 z22:=Tryz.sizeOf45,
 v22:=Tryz.zeroValue45,
 t25:=Tryz.underlying192,
 a25:=Tryz.isAgg192,
 z25:=Tryz.sizeOf192,
 v25:=Tryz.zeroValue192,
 t39:=Tryz.underlying244,
 a39:=Tryz.isAgg244,
 z39:=Tryz.sizeOf244,
 v39:=Tryz.zeroValue244,
 t45:=Tryz.underlying325,
 a45:=Tryz.isAgg325,
 z45:=Tryz.sizeOf325,
 v45:=Tryz.zeroValue325,
 t46:=Tryz.underlying326,
 a46:=Tryz.isAgg326,
 z46:=Tryz.sizeOf326,
 v46:=Tryz.zeroValue326,
 t50:=Tryz.underlying147,
 a50:=Tryz.isAgg147,
 z50:=Tryz.sizeOf147,
 v50:=Tryz.zeroValue147,
 t53:=Tryz.underlying332,
 a53:=Tryz.isAgg332,
 z53:=Tryz.sizeOf332,
 v53:=Tryz.zeroValue332,
 t55:=Tryz.underlying221,
 a55:=Tryz.isAgg221,
 z55:=Tryz.sizeOf221,
 v55:=Tryz.zeroValue221,
 t66:=Tryz.underlying402,
 a66:=Tryz.isAgg402,
 z66:=Tryz.sizeOf402,
 v66:=Tryz.zeroValue402,
 t70:=Tryz.underlying375,
 a70:=Tryz.isAgg375,
 z70:=Tryz.sizeOf375,
 v70:=Tryz.zeroValue375,
 t76:=Tryz.underlying446,
 a76:=Tryz.isAgg446,
 z76:=Tryz.sizeOf446,
 v76:=Tryz.zeroValue446,
 t77:=Tryz.underlying447,
 a77:=Tryz.isAgg447,
 z77:=Tryz.sizeOf447,
 v77:=Tryz.zeroValue447}
def Tryz.NV:Go.Shelf.Ren:=⟨fun|5=>83|7=>132|n=>n,fun|22=>3|3=>3|4=>4|n=>n,fun|n=>n⟩
theorem Tryz.aiM:Go.Proofs.SlLaysC2.n5 Tryz.prog Tryz.NV:={
 mixed:=by kernel_rfl,
 f5:=⟨Tryz.f83.name,by decide,Tryz.func83.trans (congrArg some (by kernel_rfl))⟩,
 f7:=⟨Tryz.f132.name,by decide,Tryz.func132.trans (congrArg some (by kernel_rfl))⟩,
 t3:=Tryz.underlying3,
 a3:=Tryz.isAgg3,
 z3:=Tryz.sizeOf3,
 v3:=Tryz.zeroValue3,
 t4:=Tryz.underlying4,
 a4:=Tryz.isAgg4,
 z4:=Tryz.sizeOf4,
 v4:=Tryz.zeroValue4,
 t22:=Tryz.underlying3,
 a22:=Tryz.isAgg3,
 z22:=Tryz.sizeOf3,
 v22:=Tryz.zeroValue3}
end
section
open Go.RowKit Go.Maps Go.Sort Go.Shelf
theorem Tryz.WB(m:Nat):AnyZI.SortsIn Tryz.prog Tryz.uA arJ m:=⟨fun ew off cap ss W hH hblk ed=>callsIn_wide.2 (AnyM.slices_Sort_int Tryz.RA ew off cap ss W hH hblk ed),
 fun p cap W=>callsIn_wide.2 (AnyM.slices_Sort_int_none Tryz.RA p cap W)⟩
theorem Tryz.D4(n:Nat)(mb:Option Nat)(W:World):CallsIn arJ n Tryz.prog 50 #[.map mb] W fun e w'=>e=.returned (.func (.func 105) #[] #[.pointer (some ⟨W.heap.size,0,none⟩)])/\w'=W.alloc (.cells #[.map mb] 141):=AnyZI.keys_in Tryz.Ry arJ n trivial rfl mb W
set_option maxRecDepth 100000 in
set_option maxHeartbeats 1000000 in
theorem Tryz.wK{H:Type}(b nn:Nat)(D0:DataW H)(R:Value->Option (DataW H×List MemPlace))(w:World)(RB:w.ownsMap Tryz.prog 3 R b nn D0)(acN:arR D0<=maxLen)(acO:arR D0*8<=140737488355328):
  CallsIn arJ 5 Tryz.prog 49 #[.func (.func 105) #[] #[.pointer (some ⟨w.heap.size,0,none⟩)]] (w.alloc (.cells #[.map (some b)] 141)) fun e w'=>∃(v:Value) (ss:List Int),e=.returned v/\ss.Perm (intKeys D0)/\
   w'.ownsRow (w.alloc (.cells #[.map (some b)] 141)).heap.size 3 1 v ss.length ((ss.mergeSort (fun x y=>decide (x<=y))).map encZ)/\(v=.slice none 0 0↔ss=[])/\Below (w.alloc (.cells #[.map (some b)] 141)).heap.size (w.alloc (.cells #[.map (some b)] 141)) w':=by
 have Fv:=RB.lt;have aov:SeqGives arJ 2 Tryz.prog 105 #[.pointer (some ⟨w.heap.size,0,none⟩)] encZ (fun ss=>ss.Perm (intKeys D0)) (arR D0) (w.alloc (.cells #[.map (some b)] 141)):=
  AnyZI.keys_gives (ρ:=Tryz.Au) {Tryz.Ry with} arJ _ trivial rfl (by omega) w.heap.size b nn D0 _ (by simp) (by simp) (by
   obtain⟨es,clock,hb,Ft,hs,hD⟩:=RB;exact⟨es,clock,(Below.heap_alloc _ _ b Fv).trans hb,Ft,hs,hD⟩)
 exact AnyZI.sorted_in Tryz.Rz arJ 5 trivial trivial trivial trivial rfl (by omega) (Tryz.WB _) (enters_of Tryz.func104 (by kernel_rfl) rfl) 105 #[.pointer (some ⟨w.heap.size,0,none⟩)] trivial (enters_of Tryz.func105 (by kernel_rfl) rfl) _ _ acN acO _ aov
end
end Go.Proofs
namespace Go.Ev
open List renaming getElem?_eq_getElem->aop,mem_of_getElem?->AAA,getElem?_eq_none->arD,getElem?_mapIdx->arI,take_of_length_le->arM,mem_map->arN,getElem?_range->arQ,mem_mapIdx->arS,getElem?_of_mem->arT,getElem?_map->arV,getElem?_inj->arW
open MapKept renaming IsKey->arC,findNow_spec->arH
open Instr renaming findNow->arE
open Nat renaming le_refl->arF,lt_or_ge->arG,le_trans->arO
open Fence renaming wide->arJ
open Value.int renaming injEq->arK
open _root_.Array renaming toList_inj->arL,length_toList->arU
open Int renaming natCast_inj->arP
open Maps renaming size->arR
open Go.Proofs
variable{p:List Nat}
theorem Jw(Gz:p.Nodup):MapKept.Stamped (sm p).1 (sm p).2:=by
 rw[MapKept.stamped_iff];refine⟨fun x hx=> ?_,?_,?_⟩
 ·simp only[sm,arS]at hx
  obtain⟨i,hi,rfl⟩:=hx;exact hi
 ·have:((sm p).1.toList.map (·.born))=List.range p.length:=by
   apply List.ext_getElem?;intro i;simp only[sm,arV,arI];rcases arG i p.length with h|h
   ·rw[aop h,arQ h];rfl
   ·rw[arD h,arD (by simpa using h)];rfl
  rw[this];exact List.nodup_range
 ·rw[List.pairwise_iff_getElem]
  intro i j hi hj mf e;simp only[sm,List.getElem_mapIdx,oP,arK,true_and,arP]at e;have hi':i<p.length:=by simpa[sm]using hi
  have oK:j<p.length:=by simpa[sm]using hj
  have:=(arW hi' Gz (j:=j)).1 (by rw[aop hi',aop oK,e]);omega
theorem WC{w:World}{r:Nat}(hm:w.heap[r]? =some (.map (sm p).1 (sm p).2))(Gz:p.Nodup)(gn:∀x∈p,1<=x/\x<=100000)(hlen:p.length<=100000):
  ∃D:DataW Unit,w.ownsMap Tryz.prog 3 (plainElem Tryz.prog 4) r p.length D/\arR D=p.length:=by
 have ed:(sm p).1.size=p.length:=by simp[sm]
 refine⟨_,⟨_,_,hm,⟨?_,Jw Gz,fun x hx=> ?_⟩,by rw[ed];exact arF _,rfl⟩,?_⟩
 ·rw[ed];exact arO hlen (by simp[maxLen])
 ·simp only[sm,arS]at hx
  obtain⟨i,hi,rfl⟩:=hx;have hx:=gn p[i] (List.getElem_mem hi);refine⟨(.int .i64 p[i],.lit (.bool true)),?_⟩;simp only[WideElems.rd,oP];rw[Maps.keyOf_int_mk (k:=3) (q:=.i64) Tryz.underlying3,plainElem_bool (e:=4) Tryz.underlying4]
  ·rfl
  ·have:=i64_in (n:=(p[i]:Int)) (by omega)
   have h1:IntKind.i64.min<=(p[i]:Int):=by show(-9223372036854775808:Int)<=_;omega
   have h2:(p[i]:Int)<=IntKind.i64.max:=by show _<=(9223372036854775807:Int);omega
   simp only[Lit.wf,decide_eq_true h1,decide_eq_true h2,Bool.and_self]
 ·show((List.map (WideElems.rg Tryz.prog 3 (plainElem Tryz.prog 4)) (sm p).1.toList).foldr DataW.insert []).length=_
  rw[length_sorted];simp[sm]
theorem WD(n:Nat)(r:Nat)(w:World):CallsIn (W none) n Tryz.prog 50 #[.map (some r)] w fun e w'=>e=.returned (.func (.func 105) #[] #[.pointer (some ⟨w.heap.size,0,none⟩)])/\w'=w.alloc (.cells #[.map (some r)] 141):=Tryz.D4 n (some r) w
theorem NW(n:Nat){w:World}{r:Nat}(hm:w.heap[r]? =some (.map (sm p).1 (sm p).2))(Gz:p.Nodup)(gn:∀x∈p,1<=x/\x<=100000)(hlen:p.length<=100000)(bU:p≠[]):
  CallsIn (W none) n Tryz.prog 49 #[.func (.func 105) #[] #[.pointer (some ⟨w.heap.size,0,none⟩)]] (w.alloc (.cells #[.map (some r)] 141)) fun e w'=>∃v,e=.returned v/\(∃row,row.length=p.length/\cr w' 3 1 v row)/\Grown (w.alloc (.cells #[.map (some r)] 141)) w':=by
 obtain⟨D,RB,ed⟩:=WC hm Gz gn hlen;have h:=Tryz.wK r p.length D _ w RB (by rw[ed];exact arO hlen (by simp[maxLen])) (by omega);refine CallsIn.mono (callsIn_wide.2 (callsIn_wide.1 h):CallsIn (W none) n _ _ _ _ _) ?_;rintro e w' ⟨v,ss,rfl,rL,bQ,aow,hb⟩;have hl:ss.length=p.length:=by
  rw[rL.length_eq,<-ed];obtain⟨es,clock,_,_,_,rfl⟩:=RB;simp[intKeys,arR]
 refine⟨v,rfl,⟨(ss.mergeSort (fun x y=>decide (x<=y))).map encZ,?_,?_⟩,⟨hb.size,hb.block,hb.os,hb.tape,hb.output⟩⟩
 ·simp[hl]
 ·obtain⟨h1,h2|⟨g,cap,cur,rfl,_,h3,h4,_,h5,h6⟩⟩:=bQ
  ·have:ss=[]:=aow.1 h2.1
   rw[this]at hl;cases p with
   |nil=>exact(bU rfl).elim
   |cons _ _=>cases hl
  ·exact⟨g,ss.length,cap,cur,rfl,by decide,by simp,h4,by rw[h5],h3,by rw[show((ss.mergeSort (fun x y=>decide (x<=y))).map encZ).length=ss.length*1 by simp];exact h6⟩
noncomputable def qL:List Code:=ct ((Tryz.f26.body).getD .skip)
def opsOf:List Code->Array Oper
 |.region _ ops _::_=>ops
 |_=>#[]
theorem b8{n:Nat}{P:Program}{Q:Exit->Act->World->Prop}{id:Nat}{ops:Array Oper}{rest:List Code}{a:Act}{w:World}(h:wpListIn (W none) n P ops (Exit.then (aC none n P Q rest) Q) ops.toList a w):aC none n P Q (.region id ops false::rest) a w:=wpIn_region_list h
def Jx:List (Nat×V):=[(1,.p (some (0,0))),(2,.sl none 0 (.kn 0)),(3,.i .i64 0)]
def lq:aQ:=.cells [.q 0,.q 1,.q 2,.y .i64 3] 47 false
def Av:List (Nat×aQ):=[(0,lq)]
def w_T:bP:={s:=[(3,.y 3)],q:=[(0,.q 0),(1,.q 1),(2,.q 2)]}
theorem aiN:av (ar E0 {}) 100 (qL.take 1) ⟨20,load fD 0 .leaf⟩ (ak 0 []) .n w_T 20 Jx 1 Av=true:=by decide+kernel
theorem acP:∃id,qL.drop 1=.region id (opsOf (qL.drop 1)) false::qL.drop 2:=⟨_,rfl⟩
def Jy:List (Nat×V):=(7,.a [.q 0,.q 1,.q 2,.y .i64 3])::Jx
theorem acQ:bH (ar E0 {}) 100 (opsOf (qL.drop 1)) ((opsOf (qL.drop 1)).toList.take 1) (U 20 Jx) (ak 1 Av) w_T 20 Jy 1 Av=true:=by decide+kernel
theorem acR:aW w_T 20 Jy 1 Av=true:=by decide+kernel
def acS:List (Nat×V):=(8,.t [.a [.q 5,.q 6],.i .i64 0])::Jy
def D5:List (Nat×V):=[(1,.p (some (0,0))),(4,.p (some (1,0))),(5,.i .i64 0)]
def D6:List (Nat×aQ):=[(0,lq),(1,.cells [.q 5,.q 6] 128 false)]
def Jz:bP:={s:=[(3,.y 3)],q:=[(0,.q 0),(1,.q 1),(2,.q 2),(5,.q 5),(6,.q 6)]}
theorem aiO:bH (ar E0 {}) 100 (opsOf (qL.drop 1)) (((opsOf (qL.drop 1)).toList.drop 2).take 100) (U 20 acS) (ak 1 Av) Jz 20 D5 2 D6=true:=by decide+kernel
theorem aiP:av (ar E0 {}) 100 ((qL.drop 2).take 2) (U 20 D5) (ak 2 D6) .n Jz 20 D5 2 D6=true:=by decide+kernel
theorem acT:∃id,qL.drop 4=.region id (opsOf (qL.drop 4)) false::qL.drop 5:=⟨_,rfl⟩
def acU:List (Nat×V):=[(14,.a [.q 5,.q 6]),(16,.q 2)]
def acV:bP:={q:=[(2,.q 2),(5,.q 5),(6,.q 6)]}
theorem aiQ:bH (ar E0 {}) 100 (opsOf (qL.drop 4)) ((opsOf (qL.drop 4)).toList.take 3) (U 20 D5) (ak 2 D6) acV 20 acU 0 []=true:=by decide+kernel
def RC:bP:={q:=[(8,.q 8)]}
def JA:List (Nat×V):=[(2,.q 8),(3,.i .i64 0)]
theorem aiR:bH (ar E0 {}) 100 (opsOf (qL.drop 4)) (((opsOf (qL.drop 4)).toList.drop 6).take 100) (U 20 [(19,.q 8)]) (ak 0 []) RC 20 JA 0 []=true:=by decide+kernel
theorem aiS:av (ar E0 {}) 100 ((qL.drop 5).take 1) (U 20 JA) (ak 0 []) .r RC 20 JA 0 []=true:=by decide+kernel
variable{lines ov rv:Value}{next:Nat}{l:List (O×Value)}{rs:List (ByteArray×Nat)}
theorem NX{n:Nat}{w:World}{lines ov rv:Value}{next:Nat}{l:List (O×Value)}{rs:List (ByteArray×Nat)}{p:List Nat}(h:GW w lines ov rv next l rs)(hW:Whole l rs)(bU:l≠[])(Gz:p.Nodup)(gn:∀x∈p,1<=x/\x<=100000)(hpn:p≠[])(Vj:p.length<=100000)
  (JB:∀n w' lv mv,Found w' l lv mv->cr w' 101 2 rv (cg rs)->CallsIn (W none) n Tryz.prog 51 #[.agg #[lv,mv],rv] w' fun e w''=>∃v,e=.returned v/\(∃r,v=.map (some r)/\w''.heap[r]? =some (.map (sm p).1 (sm p).2))/\Grown w' w''):
  CallsIn (W none) n Tryz.prog 26 #[wV lines ov rv next] w fun e w'=>∃v,e=.returned v/\(∃u row,v=.tuple #[u,.int .i64 0]/\row.length=p.length/\cr w' 3 1 u row)/\Grown w w':=by
 let y0:Sym:=dg [0,0,0,next] [lines,ov,rv] [] [];have o0:=h.BA.one;have o1:=h.bS.one;have o2:=h.roots.one;have bB:=ad.enter (nt:=20) (bc y0 w) rfl rfl (kz (φ:=φ0 y0 w) rfl rfl rfl rfl o0 o1 o2) (by decide);refine dz (fn:=Tryz.f26) (c:=(Tryz.f26.body).getD .skip) Tryz.func26 rfl (bp _ ?_);show aC none n E0.P _ qL _ _;refine ad.dc (aq aB {}) rfl 1 aiN bB (aA.dU ⟨agm,agm,agm,agm,agm,agm,agm,agm,agm⟩) rfl y0 ?_ fun φ a w1 hs hd hg _ n1 n2 n3 n4=> ?_
 ·exact Ag.au (o:=y0) ⟨⟨rfl,agm⟩,⟨⟨rfl,o0⟩,⟨rfl,o1⟩,⟨rfl,o2⟩,agm⟩,agm,agm⟩ rfl rfl rfl rfl
 show aC none n E0.P _ (qL.drop 1) a w1;obtain⟨id1,lH⟩:=acP;rw[lH];refine b8 ?_;refine ad.gz (aq aB {}) rfl 1 acQ hs (aA.dU ⟨agm,agm,agm,agm,agm,agm,agm,agm,agm⟩) y0 ?_ fun φ a w2 hs mF iK _ n1 n2 n3 n4=> ?_
 ·exact Ag.au (o:=y0) ⟨⟨rfl,agm⟩,⟨⟨rfl,o0⟩,⟨rfl,o1⟩,⟨rfl,o2⟩,agm⟩,agm,agm⟩ n1 n2 n3 n4
 have D7:GB w.heap.size w w2:=hg.trans iK;have hW2:GW w2 lines ov rv next l rs:=h.kept fun r o ho=>D7.at_ rfl ho
 refine hs.eV (o:=((opsOf (qL.drop 1)).toList.drop 1).headD default) (rest:=(opsOf (qL.drop 1)).toList.drop 2) rfl rfl rfl rfl rfl Tryz.func41 rfl rfl (Vs:=fD) rfl ?_;intro args' ha;have:=fW (φ:=φ) (lines:=lines) (ov:=ov) (rv:=rv) (next:=next) (agB n2 0) (agB n2 1) (agB n2 2) (agB n1 3) ha;subst this;refine(hW2.Rn hW bU (n:=n-1)).mono ?_;rintro e w3 ⟨v,rfl,⟨lv,mv,rfl,hF⟩,gG⟩;refine⟨_,rfl,?_⟩;let y1:Sym:=dg [0,0,0,next] [lines,ov,rv,.bool false,.bool false,lv,mv] [] [];obtain⟨eH,ez,m1,m2,m3,m4⟩:=hs.grow gG acR (y:=y1) ⟨⟨(agB n1 3).symm,agm⟩,⟨⟨(agB n2 0).symm,o0⟩,⟨(agB n2 1).symm,o1⟩,⟨(agB n2 2).symm,o2⟩,agm⟩,agm,agm⟩;have ll:=ez.put (d:=8) (by decide) (x:=.t [.a [.q 5,.q 6],.i .i64 0]) (v:=.tuple #[.agg #[lv,mv],.int .i64 0]) (by
  simp only[VR];refine⟨_,rfl,J.cons ?_ (J.cons vI J.nil)⟩;simp only[VR];refine⟨_,rfl,J.cons ?_ (J.cons ?_ J.nil)⟩
  ·simp only[VR];exact⟨(agB m2 5).symm,hF.o9⟩
  ·simp only[VR];exact⟨(agB m2 6).symm,hF.pU⟩)
 have NY:GB w.heap.size w w3:=D7.trans (gG.gb D7.size);have ok:∀φ:Ren,φ.s=y1.s->φ.q=y1.q->φ.w=y1.w->φ.g=y1.g->iC Jz φ.y y1:=fun φ e1 e2 e3 e4=>
  Ag.au (o:=y1) ⟨⟨rfl,agm⟩,⟨⟨rfl,o0⟩,⟨rfl,o1⟩,⟨rfl,o2⟩,⟨rfl,hF.o9⟩,⟨rfl,hF.pU⟩,agm⟩,agm,agm⟩ e1 e2 e3 e4
 refine ad.gz (aq aB {}) rfl 100 aiO ll (aA.dU ⟨agm,agm,agm,agm,agm,agm,agm,agm,agm⟩) y1 (ok _ m1 m2 m3 m4) fun φ a4 w4 hs sS pV D8 n1 n2 n3 n4=> ?_
 show aC none n E0.P _ (qL.drop 2) a4 w4;have hF4:Found w4 l lv mv:=hF.kept (fun r c T hT ho=>D8.c r c T (by rcases hT with rfl|rfl<;>rfl) ho) fun r es c ho=>D8.m rfl r es c ho
 have JC:a4.defers=[]:=by rw[sS];show a.defers=[];rw[mF,hd]
 refine ad.dc (aq aB {}) rfl 2 aiP hs (aA.dU ⟨agm,agm,agm,agm,agm,agm,agm,agm,agm⟩) JC y1 (ok _ n1 n2 n3 n4) fun φ a5 w5 hs vL vM GA n1 n2 n3 n4=> ?_
 show aC none n E0.P _ (qL.drop 4) a5 w5;have hF5:Found w5 l lv mv:=hF4.kept (fun r c T hT ho=>GA.c r c T (by rcases hT with rfl|rfl<;>rfl) ho) fun r es c ho=>GA.m rfl r es c ho
 obtain⟨id4,pJ⟩:=acT;rw[pJ];refine b8 ?_;refine ad.gz (aq aB {}) rfl 3 aiQ hs (aA.dU ⟨agm,agm,agm,agm,agm,agm,agm,agm,agm⟩) y1 (Ag.au (o:=y1) ⟨agm,⟨⟨rfl,o2⟩,⟨rfl,hF.o9⟩,⟨rfl,hF.pU⟩,agm⟩,agm,agm⟩ n1 n2 n3 n4) fun φ a6 w6 hs Ao Ap LN n1 n2 n3 n4=> ?_
 have hF6:Found w6 l lv mv:=hF5.kept (fun r c T hT ho=>LN.c r c T (by rcases hT with rfl|rfl<;>rfl) ho) fun r es c ho=>LN.m rfl r es c ho
 have O7:GB w.heap.size w w6:=((NY.trans pV).trans vM).trans Ap;have JD:cr w6 101 2 rv (cg rs):=h.roots.kept fun r o ho=>O7.at_ rfl ho
 refine hs.eV (o:=((opsOf (qL.drop 4)).toList.drop 3).headD default) (rest:=(opsOf (qL.drop 4)).toList.drop 4) rfl rfl rfl rfl rfl Tryz.func51 rfl rfl (Vs:=[.a [.q 5,.q 6],.q 2]) rfl ?_;intro args' ha;have:args'=[.agg #[lv,mv],rv]:=by
  simp only[J,VR]at ha;obtain⟨_,_,rfl,⟨cs,rfl,_,_,e1,⟨rfl,_⟩,_,_,rfl,⟨rfl,_⟩,rfl⟩,_,_,rfl,⟨rfl,_⟩,rfl⟩:=ha;rw[n2]at e1⊢
  congr 2
  exact arL.1 e1
 subst this;refine(JB (n-1) w6 lv mv hF6 JD).mono ?_;rintro e w7 ⟨v,rfl,⟨r,rfl,hm⟩,GC⟩;refine⟨_,rfl,?_⟩;let y2:Sym:=dg [] [.bool false,.bool false,.bool false,.bool false,.bool false,.bool false,.bool false,.map (some r)] [] [];obtain⟨φ,hs,n1,n2,n3,n4⟩:=hs.conv (tb:={}) (nt:=20) (L:=[]) (nb:=0) (HB:=[]) (by decide+kernel) y2 (bC trivial trivial trivial trivial);obtain⟨φ,hs,n1,n2,n3,n4⟩:=hs.grow GC (tb:={}) (by decide+kernel) (y:=y2) ⟨agm,agm,agm,agm⟩;have hs:=hs.put (d:=17) (by decide) (x:=.q 7) (v:=.map (some r)) (by simp only[VR];exact⟨(agB n2 7).symm,rfl⟩);refine hs.eV (o:=((opsOf (qL.drop 4)).toList.drop 4).headD default) (rest:=(opsOf (qL.drop 4)).toList.drop 5) rfl rfl rfl rfl rfl Tryz.func50 rfl rfl (Vs:=[.q 7]) rfl ?_;intro args' ha;have:args'=[.map (some r)]:=by
  simp only[J,VR]at ha;obtain⟨_,_,rfl,⟨rfl,_⟩,rfl⟩:=ha;rw[n2];rfl
 subst this;refine(WD (n-1) r w7).mono ?_;rintro e w8 ⟨rfl,rfl⟩;refine⟨_,rfl,?_⟩;let y3:Sym:=dg [] [.func (.func 105) #[] #[.pointer (some ⟨w7.heap.size,0,none⟩)]] [] [];have acW:Grown w7 (w7.alloc (.cells #[.map (some r)] 141)):=⟨by simp,fun r' cM=>(MapKept.heap_alloc w7 _).2 r' cM,rfl,rfl,rfl⟩;obtain⟨φ,hs,n1,n2,n3,n4⟩:=hs.conv (tb:={}) (nt:=20) (L:=[]) (nb:=0) (HB:=[]) (by decide+kernel) y3 (bC trivial trivial trivial trivial);obtain⟨φ,hs,n1,n2,n3,n4⟩:=hs.grow acW (tb:={}) (by decide+kernel) (y:=y3) ⟨agm,agm,agm,agm⟩;have hs:=hs.put (d:=18) (by decide) (x:=.q 0) (v:=.func (.func 105) #[] #[.pointer (some ⟨w7.heap.size,0,none⟩)]) (by simp only[VR];exact⟨(agB n2 0).symm,rfl⟩);refine hs.eV (o:=((opsOf (qL.drop 4)).toList.drop 5).headD default) (rest:=(opsOf (qL.drop 4)).toList.drop 6) rfl rfl rfl rfl rfl Tryz.func49 rfl rfl (Vs:=[.q 0]) rfl ?_;intro args' ha;have:args'=[.func (.func 105) #[] #[.pointer (some ⟨w7.heap.size,0,none⟩)]]:=by
  simp only[J,VR]at ha;obtain⟨_,_,rfl,⟨rfl,_⟩,rfl⟩:=ha;rw[n2];rfl
 subst this;refine(NW (n-1) hm Gz gn Vj hpn).mono ?_;rintro e w9 ⟨u,rfl,⟨row,bQ,hu⟩,BZ⟩;refine⟨_,rfl,?_⟩;have hu1:=hu.one;let y4:Sym:=dg [] [.bool false,.bool false,.bool false,.bool false,.bool false,.bool false,.bool false,.bool false,u] [] [];obtain⟨φ,hs,n1,n2,n3,n4⟩:=hs.conv (tb:={}) (nt:=20) (L:=[]) (nb:=0) (HB:=[]) (by decide+kernel) y4 (bC trivial trivial trivial trivial);obtain⟨φ,hs,n1,n2,n3,n4⟩:=hs.grow BZ (tb:={}) (by decide+kernel) (y:=y4) ⟨agm,agm,agm,agm⟩;have hs:=hs.put (d:=19) (by decide) (x:=.q 8) (v:=u) (by simp only[VR];exact⟨(agB n2 8).symm,hu1⟩);have g09:GB w.heap.size w w9:=((O7.trans (GC.gb O7.size)).trans (acW.gb (arO O7.size GC.size))).trans (BZ.gb (arO (arO O7.size GC.size) acW.size));refine ad.gz (aq aB {}) rfl 100 aiR hs (aA.dU ⟨agm,agm,agm,agm,agm,agm,agm,agm,agm⟩) y4 (Ag.au (o:=y4) ⟨agm,⟨⟨rfl,hu1⟩,agm⟩,agm,agm⟩ n1 n2 n3 n4) fun φ aa wa hs hda hga hka n1 n2 n3 n4=> ?_
 show aC none n E0.P _ (qL.drop 5) aa wa;have acX:aa.defers=[]:=by rw[hda];show a6.defers=[];rw[Ao,vL]
 refine ad.dc (aq aB {}) rfl 1 aiS hs (aA.dU ⟨agm,agm,agm,agm,agm,agm,agm,agm,agm⟩) acX y4 (Ag.au (o:=y4) ⟨agm,⟨⟨rfl,hu1⟩,agm⟩,agm,agm⟩ n1 n2 n3 n4) fun φ ab wb hs hdb vK hkb n1 n2 n3 n4=> ?_
 refine⟨.inl rfl,hdb,?_⟩;obtain⟨v,gE,ff⟩:=hs.leave aB (fn:=Tryz.f26) (l:=[.q 8,.i .i64 0]) rfl;refine⟨v,gE,v,rfl,⟨u,row,?_,bQ,?_⟩,((g09.trans hga).trans vK).grown⟩
 ·simp only[fG,VR,J]at ff
  obtain⟨vs,rfl,_,_,e1,⟨rfl,_⟩,_,_,rfl,rfl,rfl⟩:=ff;rw[n2]at e1
  congr 1
  exact arL.1 e1
 ·exact(hu.aJ (Ts:=[3]) (fun r c T hT ho=>hkb.c r c T rfl (hka.c r c T rfl ho)) (by decide))
theorem NZ{n:Nat}{w:World}{k:Nat}(h:GW w lines ov rv next l rs)(hW:Whole l rs)(bU:l≠[])(hP:Path l p)(hk:p[0]? =some k)(hrs:∀q∈rs,q.2=k)(hnr:rs≠[])(Vj:p.length<=100000):
  CallsIn (W none) n Tryz.prog 26 #[wV lines ov rv next] w fun e w'=>∃v,e=.returned v/\(∃u row,v=.tuple #[u,.int .i64 0]/\row.length=p.length/\cr w' 3 1 u row)/\Grown w w':=
 NX h hW bU hP.nd hP.pos (by rintro rfl;cases hk) Vj fun _ _ _ _ hF hr=>Rx hF hr h.asc hP hk hrs hnr h.ln h.rl
noncomputable def BC:List Code:=ct ((Tryz.f42.body).getD .skip)
def RD:List (Nat×V):=[(1,.p (some (2,0))),(3,.p (some (3,0)))]
def aiT:aQ:=.cells [.sl (some (1,0)) 1 (.kn 1),.q 1,.q 2,.y .i64 3] 47 false
def fX:aQ:=.cells [.sl (some (1,0)) 1 (.kn 1),.p (some (4,0)),.m (some 6),.m (some 7),.y .i64 3] 180 false
def iG:aQ:=.cells [.sl (some (1,0)) 1 (.kn 1),.m (some 5)] 226 false
def RE:List (Nat×aQ):=[(2,aiT),(3,fX),(4,iG),(5,.mp [] 0),(6,.mp [] 0),(7,.mp [] 0),(1,mX),(0,mW)]
theorem aiU:av (ar E0 {}) 300 (BC.take 3) ⟨57,load mY 0 .leaf⟩ (ak 2 QZ) .n Q4 57 RD 8 RE=true:=by decide+kernel
def JE:aQ:=.cells [.sl (some (1,0)) 1 (.kn 1),.sr 8 0 0 4,.q 2,.y .i64 3] 47 false
def acY:List (Nat×aQ):=(8,.rw 0 51)::iO 1 (.sr 8 0 0 4) RE
def mq:List (Nat×V):=[(1,.p (some (2,0))),(3,.p (some (3,0))),(26,.sr 8 0 0 4),(27,.y .i64 1),(28,.y .i64 0)]
def D9:List (Nat×aQ):=[(2,JE),(3,fX),(4,iG),(5,.mp [] 0),(6,.mp [] 0),(7,.mp [] 0),(1,mX),(0,mW),(8,.rw 0 51)]
theorem aiV:av (ar E0 DU) 300 ((BC.drop 3).take 1) (U 57 (jG 1 (.sr 8 0 0 4) RD)) (ak 9 acY) .n Q5 57 mq 9 D9=true:=by decide+kernel
def wL:List (Nat×aQ):=[(2,JE),(3,fX),(4,iG),(5,.mp [] 0),(6,.gS 1 (.int .i64) []),(7,.gS 2 .string []),(1,mX),(0,mW),(8,.rw 0 51)]
def LV:bP:={s:=[(0,.y 0),(1,.y 1),(3,.y 3)],q:=[(2,.q 2)],w:=[(0,.same 0)],g:=[(1,.fold 6),(2,.fold 7)]}
theorem acZ:(bG LV (U 57 mq) (ak 9 D9) 57 mq 9 wL).isSome=true:=by decide+kernel
def ac0:bP:={s:=[(0,.y 0),(1,.y 1),(3,.y 3)],q:=[(2,.q 2)],w:=[(0,.same 0)],g:=[(1,.same 1),(2,.same 2)]}
theorem RF:aW ac0 57 mq 9 wL=true:=by decide+kernel
def RG:aU:={bd:=[(4,1,100000)],bin:=[(.lss,.y .i64 0,.y .i64 1,.b true),(.add,.y .i64 0,.i .i64 1,.y .i64 5)],rz:=[(0,4)],re:=[(0,0,[.y .i64 4,.i .i64 0,.i .i64 0,.q 7])]}
def JF:List (Nat×aQ):=[(2,JE),(3,fX),(4,iG),(5,.mp [] 0),(6,.gS 1 (.int .i64) [(.y .i64 4,some (.a [.y .i64 4,.i .i64 0,.i .i64 0,.q 7]))]),(7,.gS 2 .string []),(1,mX),(0,mW),(8,.rw 0 51)]
def ac1:bP:={s:=[(0,.y 5),(1,.y 1),(3,.y 3),(4,.y 4)],q:=[(2,.q 2),(7,.q 7)],w:=[(0,.same 0)],g:=[(1,.same 1),(2,.same 2)]}
theorem ac2:av (ar E0 RG) 300 ((roundOf (BC.drop 4)).take 100) (U 57 mq) (ak 9 wL) .n ac1 57 mq 9 JF=true:=by decide+kernel
def RH:bP:={s:=[(0,.y 0),(1,.y 1),(3,.y 3)],q:=[(2,.q 2)],w:=[(0,.same 0)],g:=[(1,.fold 6),(2,.same 2)]}
theorem aiW:(bG RH (U 57 mq) (ak 9 JF) 57 mq 9 wL).isSome=true:=by decide+kernel
def RI:List (Nat×V):=[(1,.p (some (2,0))),(3,.p (some (3,0)))]
def ac3:aQ:=.cells [.sl (some (1,0)) 1 (.kn 1),.top,.q 2,.y .i64 3] 47 false
def RJ:List (Nat×aQ):=[(2,ac3),(3,fX),(4,iG),(5,.mp [] 0),(6,.gS 1 (.int .i64) []),(7,.gS 2 .string []),(1,mX),(0,mW)]
def ac4:bP:={s:=[(3,.y 3)],q:=[(2,.q 2)],g:=[(1,.same 1),(2,.same 2)]}
theorem aiX:av (ar E0 wD) 300 ((roundOf (BC.drop 4)).take 100) (U 57 mq) (ak 9 wL) (.e 0) ac4 57 RI 8 RJ=true:=by decide+kernel
def RK:aQ:=.cells [.sl (some (1,0)) 1 (.kn 1),.top,.sr 8 3 0 2,.y .i64 3] 47 false
def WE:List (Nat×aQ):=(8,.rw 3 101)::iO 2 (.sr 8 3 0 2) RJ
def pW:List (Nat×V):=[(1,.p (some (2,0))),(3,.p (some (3,0))),(41,.sr 8 3 0 2),(42,.y .i64 1),(43,.y .i64 0)]
def wM:List (Nat×aQ):=[(2,RK),(3,fX),(4,iG),(5,.mp [] 0),(6,.gS 1 (.int .i64) []),(7,.gS 2 .string []),(1,mX),(0,mW),(8,.rw 3 101)]
def RL:aU:={rz:=[(3,2)],rl:=[(3,0,1)]}
def ac5:bP:={s:=[(0,.i 0),(1,.y 1),(3,.y 3)],w:=[(3,.same 3)],g:=[(1,.same 1),(2,.same 2)]}
theorem aiY:av (ar E0 RL) 300 ((BC.drop 5).take 1) (U 57 (jG 2 (.sr 8 3 0 2) RI)) (ak 9 WE) .n ac5 57 pW 9 wM=true:=by decide+kernel
def WG:bP:={s:=[(0,.y 0),(1,.y 1),(3,.y 3)],w:=[(3,.same 3)],g:=[(1,.same 1),(2,.same 2)]}
theorem RP:aW WG 57 pW 9 wM=true:=by decide+kernel
def RQ:aU:={bd:=[(6,1,100000)],bin:=[(.lss,.y .i64 0,.y .i64 1,.b true),(.add,.y .i64 0,.i .i64 1,.y .i64 5)],rz:=[(3,2)],re:=[(3,0,[.q 4,.y .i64 6])],qs:=[4]}
def JG:List (Nat×aQ):=[(2,RK),(3,fX),(4,iG),(5,.mp [] 0),(6,.gS 1 (.int .i64) []),(7,.gS 2 .string [(.q 4,some (.y .i64 6))]),(1,mX),(0,mW),(8,.rw 3 101)]
def ac6:bP:={s:=[(0,.y 5),(1,.y 1),(3,.y 3),(6,.y 6)],q:=[(4,.q 4)],w:=[(3,.same 3)],g:=[(1,.same 1),(2,.same 2)]}
theorem ac7:av (ar E0 RQ) 300 ((roundOf (BC.drop 6)).take 100) (U 57 pW) (ak 9 wM) .n ac6 57 pW 9 JG=true:=by decide+kernel
def LW:bP:={s:=[(0,.y 0),(1,.y 1),(3,.y 3)],w:=[(3,.same 3)],g:=[(1,.same 1),(2,.fold 7)]}
theorem ac8:(bG LW (U 57 pW) (ak 9 JG) 57 pW 9 wM).isSome=true:=by decide+kernel
def LX:List (Nat×aQ):=[(3,fX),(4,iG),(5,.mp [] 0),(6,.gS 1 (.int .i64) []),(7,.gS 2 .string []),(1,mX),(0,mW)]
def LY:bP:={s:=[(3,.y 3)],g:=[(1,.same 1),(2,.same 2)]}
theorem ac9:av (ar E0 wD) 300 ((roundOf (BC.drop 6)).take 100) (U 57 pW) (ak 9 wM) (.e 2) LY 57 [(3,.p (some (3,0)))] 8 LX=true:=by decide+kernel
def ada:List (Nat×V):=[(2,.p (some (3,0)))]
def adb:List (Nat×aQ):=[(3,fX),(4,iG),(5,.mp [] 0),(6,.gS 1 (.int .i64) []),(7,.gS 2 .string []),(1,mX),(0,mW)]
theorem aiZ:av (ar E0 {}) 300 ((BC.drop 7).take 2) (U 57 [(3,.p (some (3,0)))]) (ak 8 LX) .r LY 57 ada 8 adb=true:=by decide+kernel
end Go.Ev
