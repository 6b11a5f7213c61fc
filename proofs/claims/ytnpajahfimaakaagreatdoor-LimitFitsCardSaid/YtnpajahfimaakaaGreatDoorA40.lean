/- A part of what LimitFits rests on. -/
import Derived.Test.YtnpajahfimaakaaGreatDoorA21
import Derived.Test.YtnpajahfimaakaaGreatDoorA39
import Derived.Test.YtnpajahfimaakaaGreatDoorA20
import Derived.Test.YtnpajahfimaakaaGreatDoorA01
set_option linter.all false
namespace Go.Ev
open List renaming getD_eq_getElem?_getD->aop,mem_range->AAA,all_eq_true->arD,length_cons->arE,mem_cons->arG,getElem?_eq_getElem->arH,length_map->arI,mem_range'->arL,range->arM,getElem?_eq_some_iff->arN,mem_map->arO,length_range->arP,not_mem_nil->arQ,getElem_mem->arR,getElem?_cons_succ->arT,length_pos_iff->arU,getElem?_map->arV,flatMap_cons->arW
open IntKind renaming i64->arC
open Instr renaming indexAt->arF,loadAt->arJ
open Bool renaming and_eq_true->arK
open Nat renaming mul_one->arS
open Go.Proofs
variable{aK aM kv:Value}{rs:List (List Value×ByteArray)}{p:Nat->Value}{a a':List Value}{j:Nat}{φ:Ren}
def vu(rs:List (List Value×ByteArray))(j:Nat):ByteArray:=(rs.getD j ([],cj)).2
def anE(K:Nat->Option Obj)(rs:List (List Value×ByteArray))(w:World)(e:Ending)(w':World):Prop:=∃parts K1,e=.returned (.tuple #[parts,.bool true])/\Grown w w'/\rJ K w w' K1/\RowK K1 9 1 parts (rs.map fun p=>.string p.2)
def YD(N X:Int)(l:Nat)(e:Nat->Int):Nat->Int:=fun x=>match x with|8=>l|13=>N|14=>X|x=>e x
def Fh(aM aK kv:Value)(rs:List (List Value×ByteArray))(p:Nat->Value)(a a':List Value):Nat->Value:=fun x=>if x<100 then(match x with|9=>kv|50=>aM|51=>aK|x=>p x)else if x<300 then .string (vu rs (x-100))else if x<400 then a.getD (x-300) b0 else a'.getD (x-400) b0
def YE(N X:Int)(aM aK kv:Value)(rs:List (List Value×ByteArray))(e:Nat->Int)(p:Nat->Value)(a a':List Value):Sym:=Hx (YD N X rs.length e) (Fh aM aK kv rs p a a')
theorem MX(h:j<200):Fh aM aK kv rs p a a' (100+j)=.string (vu rs j):=by
 show(if 100+j<100 then _ else if 100+j<300 then Value.string (vu rs (100+j-100))else _)=_;rw[if_neg (by omega),if_pos (by omega),show 100+j-100=j by omega]
theorem aa2(h:j<100):Fh aM aK kv rs p a a' (300+j)=a.getD j b0:=by
 show(if 300+j<100 then _ else if 300+j<300 then _ else if 300+j<400 then a.getD (300+j-300) b0 else _)=_;rw[if_neg (by omega),if_neg (by omega),if_pos (by omega),show 300+j-300=j by omega]
theorem anF:Fh aM aK kv rs p a a' (400+j)=a'.getD j b0:=by
 show(if 400+j<100 then _ else if 400+j<300 then _ else if 400+j<400 then _ else a'.getD (400+j-400) b0)=_;rw[if_neg (by omega),if_neg (by omega),if_neg (by omega),show 400+j-400=j by omega]
section
variable {K:Nat->Option Obj} {cp:Bool} {N X:Int} {rs:List (List Value×ByteArray)} {vs:List Int} {aM aK kv:Value}
theorem KI(o1:aM.oneCell'=true)(o2:aK.oneCell'=true)(ok:kv.oneCell'=true){s q:List Nat}(hs:∀x∈s,x=8)(hq:∀x∈q,x=9\/∃j,j<200/\x=100+j){e e':Nat->Int}{p p':Nat->Value}{a a' c c':List Value}:Ag (B8 s q) (YE N X aM aK kv rs e p a a') (YE N X aM aK kv rs e' p' c c'):=⟨aO ⟨rfl,rfl,agm⟩ (cH fun x hx=>by rw[hs x hx];rfl),aO ⟨⟨rfl,o1⟩,⟨rfl,o2⟩,agm⟩ (cH fun x hx=>by
  rcases hq x hx with rfl|⟨j,hj,rfl⟩
  ·exact⟨rfl,ok⟩
  ·show Fh _ _ _ _ _ _ _ _=Fh _ _ _ _ _ _ _ _/\(Fh _ _ _ _ _ _ _ _).oneCell'=true
   rw[MX hj,MX hj];exact⟨rfl,rfl⟩),agm,agm⟩
theorem anG(o1:aM.oneCell'=true)(o2:aK.oneCell'=true){kv kv':Value}{e e':Nat->Int}{p p':Nat->Value}{a a' c c':List Value}:Ag (B8 [] []) (YE N X aM aK kv rs e p a a') (YE N X aM aK kv' rs e' p' c c'):=⟨⟨rfl,rfl,agm⟩,⟨⟨rfl,o1⟩,⟨rfl,o2⟩,agm⟩,agm,agm⟩
theorem aa3(n1:φ.s 13=N)(n2:φ.s 14=X)(q1:φ.q 50=aM)(o1:aM.oneCell'=true)(q2:φ.q 51=aK)(o2:aK.oneCell'=true):J φ [.a (Oz cp)] [bW cp N X aM aK]:=J.cons (C7 n1 n2 q1 o1 q2 o2) J.nil
structure MY(K:Nat->Option Obj)(cp:Bool)(w0:World)(Y:(Nat->Int)->(Nat->Value)->List Value->List Value->Sym)(i:Nat)(L:List (Nat×V))(HB:List (Nat×aQ))(a:Act)(w':World):Prop where
 ex:∃φ e p c c',ad φ w0.heap.size (U 94 L) (ak 8 HB) a w'/\fU K φ/\a.defers=[]/\GB w0.heap.size w0 w'/\bD φ (Y e p c c')
theorem UI{a:List Value}(ha:eI a){id:Int}(lG:a[1]? =some (.int .i64 id))(h30:φ.s 30=id)(h:∀j,j<100->φ.q (300+j)=a.getD j b0):J φ u7 a:=by
 have hl:=ha.len;obtain⟨x0,x1,t,rfl⟩:∃x0 x1 t,a=x0::x1::t:=by
  match a,hl with
  |x0::x1::t,_=>exact⟨x0,x1,t,rfl⟩
 have ht:t.length=16:=by simp only[arE]at hl;omega
 have h1:x1=.int .i64 id:=Option.some.inj lG;subst h1;have one:=ha.one;refine J.cons (vQ (h 0 (by decide)) (one _ (by simp))) (J.cons (vY h30) (fy (by omega) fun x u hx=>vQ ?_ (one u (by simp[List.mem_of_getElem? hx]))));have bf:=(arN.1 hx).1;rw[show 302+x=300+(x+2)by omega,h (x+2) (by omega)];show(x0:: .int .i64 id::t).getD (x+2) b0=u;rw[aop,arT,arT,hx];rfl
theorem ahq{a:List Value}(ha:eI a)(h:∀j,φ.q (400+j)=a.getD j b0):J φ (uV 400) a:=xo ha.len ha.one fun i v hv=>by
 rw[h,aop,hv];rfl
theorem dS.at_(hb:dS K cp N rs vs aM aK){i:Nat}(hi:i<rs.length):∃p,rs[i]? =some p/\qx K p.1 p.2/\(bE aM (i*18)).oneCell'=true/\(∀w,(arF 27 aM (.int .i64 i)).run Tryz.prog w=.ok (bE aM (i*18)) w)/\
  ∀{φ:Ren} {cs:List V} {w:World},cs.length=18->J φ cs p.1->(∀r o,K r=some o->w.heap[r]? =some o)->∃u,(arJ 60 (bE aM (i*18))).run Tryz.prog w=.ok u w/\VR φ (.a cs) u:=by
 have hp:rs[i]? =some rs[i]:=arH hi;have kg:=arR hi;have bQ:RowK K 60 18 aM (rs.flatMap (·.1)):=by
  rcases hb.aM with⟨h,_⟩|⟨_,h⟩
  ·rw[h]at hi;exact absurd hi (by simp)
  ·exact h
 have nY:=hb.Ys;obtain⟨h1,h2⟩:=bQ.idx (t:=27) (e:=60) (ah.ty 27 _ _ rfl).2 (ah.ty 60 _ _ rfl).1 rfl (i:=i) (by omega);refine⟨_,hp,hb.rok _ kg,h1,h2,fun{φ cs w} hl hv hw=> ?_⟩;refine bQ.load (t:=60) (ah.ty 60 _ _ rfl).1 (ah.ty 60 _ _ rfl).2 hv (o:=i*18) ?_ (x:=.a cs) ?_ hw
 ·have hlen:=(hb.form _ kg).len
  apply List.ext_getElem?;intro j;rw[hlen,List.getElem?_take];split
  ·rename_i hj
   rw[List.getElem?_drop,Nat.mul_comm];exact EU (fun q hq=>(hb.form q hq).len) hp hj
  ·rw[List.getElem?_eq_none (by omega)]
 ·show cond true (cond (Nat.ble (0+18) cs.length) (some (V.a ((cs.drop 0).take 18))) none) (cs[0]?)=some (.a cs)
  rw[hl];simp[List.take_of_length_le (show cs.length<=18 by omega)];rfl
theorem dS.vat(hb:dS K true N rs vs aM aK){i:Nat}(hi:i<rs.length):(bE aK (i*1)).oneCell'=true/\(∀w,(arF 23 aK (.int .i64 i)).run Tryz.prog w=.ok (bE aK (i*1)) w)/\
  ∀{φ:Ren} {x:Nat} {w:World},φ.s x=jY true vs i->(∀r o,K r=some o->w.heap[r]? =some o)->∃u,(arJ 3 (bE aK (i*1))).run Tryz.prog w=.ok u w/\VR φ (.y .i64 x) u:=by
 have MV:=hb.rq rfl;have bQ:RowK K 3 1 aK (vs.map (.int .i64)):=by
  rcases hb.aK with⟨h,_⟩|⟨_,h,_⟩|⟨_,_,h⟩
  ·cases h
  ·rw[h]at MV
   have:rs.length=0:=MV.symm;omega
  ·exact h
 obtain⟨h1,h2⟩:=bQ.idx (t:=23) (e:=3) (ah.ty 23 _ _ rfl).2 (ah.ty 3 _ _ rfl).1 rfl (i:=i) (by rw[arI];omega);refine⟨h1,h2,fun{φ x w} hx hw=> ?_⟩;refine bQ.load (t:=3) (ah.ty 3 _ _ rfl).1 (ah.ty 3 _ _ rfl).2 (φ:=φ) (cs:=[.y .i64 x]) (us:=[.int .i64 (jY true vs i)]) (J.cons (vY hx) J.nil) (o:=i*1) ?_ (x:=.y .i64 x) rfl hw;have bf:i<(vs.map (Value.int .i64)).length:=by rw[arI];omega
 rw[arS,List.drop_eq_getElem_cons bf];simp only[arE,List.length_nil,Nat.zero_add,List.take_succ_cons,List.take_zero,List.getElem_map,jY,cond_true,aop];rw[arH (by omega)];rfl
theorem ahr:∃id,pg.drop 3=.region id o3l false::pg.drop 4:=⟨_,rfl⟩
theorem YF(hb:dS K cp N rs vs aM aK)(hX:13<=X){m0:Nat}(hm0:lW K m0){w0:World}{i:Nat}(hi:i<rs.length)(Ig:rs.length<=12){m:Nat}{a:Act}{w':World}(hv:MY K cp w0 (YE N X aM aK (.map (some m0)) rs) i (EI i) (u6 cp i) a w'):
  aC none m Tryz.prog (fun e a' w''=>e=.normal/\MY K cp w0 (YE N X aM aK (.map (some m0)) rs) (i+1) (EI (i+1)) (u6 cp (i+1)) a' w'') Oy a w':=by
 obtain⟨φ,e0,q0,c0,c0',hs,hK,hd,hg,n1,n2,n3,n4⟩:=hv.ex;have o1:=hb.o9;have o2:=hb.pU;obtain⟨p,hp,lz,i1,i2,i3⟩:=hb.at_ hi;obtain⟨id,lG,arx,ark⟩:=lz.oid;have hpT:vu rs i=p.2:=by show(rs.getD i ([],cj)).2=_;rw[aop,hp];rfl
 have hqi:∀x∈Kp (i+1),x=9\/∃j,j<200/\x=100+j:=fun x hx=>by
  rcases arG.1 hx with rfl|hx
  ·exact .inl rfl
  ·obtain⟨j,hj,rfl⟩:=arO.1 hx
   exact .inr ⟨j,by have:=AAA.1 hj;omega,rfl⟩
 have aqN:∀x∈Kp i,x=9\/∃j,j<200/\x=100+j:=fun x hx=>by
  rcases arG.1 hx with rfl|hx
  ·exact .inl rfl
  ·obtain⟨j,hj,rfl⟩:=arO.1 hx
   exact .inr ⟨j,by have:=AAA.1 hj;omega,rfl⟩
 have SI:∀x∈[8],x=8:=fun x hx=>by simpa using hx
 have tS:=dp (arD.1 apG i (AAA.2 (by omega))) cp;have go:∀(v:Nat) (e:Nat->Int) (q:Nat->Value) (a':List Value),OC cp v i=true->e 30=id->q 40=bE aM (i*18)->(∀φ:Ren,φ.s=YD N X rs.length e->φ.q=Fh aM aK (.map (some m0)) rs q p.1 a'->fU K φ->
   cI (fun z:BinOp×V×V×V=>fT φ.y z.1 z.2.1 z.2.2.1 z.2.2.2) (match v with|2=>[(.gtr,.y .i64 21,.y .i64 20,.b true)]|3=>[(.gtr,.y .i64 21,.y .i64 20,.b false),(.lss,.y .i64 21,.y .i64 20,.b false)]|_=>[])/\
   cI (fun z:FuncId×List V×V=>∀af,Le φ af->∀args',J af z.2.1 args'->Quiet Tryz.prog φ.y.k z.1 args' fun u=>VR af z.2.2 u) (match v with|1=>[(38,[.q 9,.a (uV 400),.a u7],.i .i64 (-1))]|3=>[(38,[.q 9,.a (uV 400),.a u7],.i .i64 (-1))]|_=>[])/\
   cI (fun z:TypeId×Nat×V×Nat=>∀af,Le φ af->∀vi,VR af z.2.2.1 vi->(φ.q z.2.2.2).oneCell'=true/\∀w,(arF z.1 (φ.q z.2.1) vi).run Tryz.prog w=.ok (φ.q z.2.2.2) w) (match v with|0=>[]|1=>[(27,50,.i .i64 (i-1:Nat),42)]|2=>[(23,51,.i .i64 i,43),(23,51,.i .i64 (i-1:Nat),44)]|_=>[(27,50,.i .i64 (i-1:Nat),42),(23,51,.i .i64 i,43),(23,51,.i .i64 (i-1:Nat),44)])/\
   cI (fun z:TypeId×Nat×V=>∀w:World,(∀r o,φ.y.k r=some o->w.heap[r]? =some o)->∃u,(arJ z.1 (φ.q z.2.1)).run Tryz.prog w=.ok u w/\VR φ z.2.2 u) (match v with|0=>[]|1=>[(60,42,.a (uV 400))]|2=>[(3,43,.y .i64 21),(3,44,.y .i64 20)]|_=>[(60,42,.a (uV 400)),(3,43,.y .i64 21),(3,44,.y .i64 20)]))->
   aC none m Tryz.prog (fun e a' w''=>e=.normal/\MY K cp w0 (YE N X aM aK (.map (some m0)) rs) (i+1) (EI (i+1)) (u6 cp (i+1)) a' w'') Oy a w':=fun v e q a' ba he hq hf=>by
  unfold OC at ba;let y:=YE N X aM aK (.map (some m0)) rs e q p.1 a';obtain⟨φ,hs,hK,n1,n2,n3,n4⟩:=hs.sG hK tS (y:=y) (OQ (KI (N:=N) (X:=X) (rs:=rs) o1 o2 (kv:=.map (some m0)) rfl SI aqN (e:=e0) (e':=e) (p:=q0) (p':=q) (a:=c0) (a':=c0') (c:=p.1) (c':=a')) n1 n2 n3 n4);have aqO:∀j,j<100->φ.q (300+j)=p.1.getD j b0:=fun j hj=>by rw[n2];exact aa2 hj
  have h30:φ.s 30=id:=(agB n1 30).trans he;have gh:=UI lz.form lG h30 aqO;have q9:φ.q 9=.map (some m0):=agB n2 9;have q40:φ.q 40=bE aM (i*18):=(agB n2 40).trans hq;have q50:φ.q 50=aM:=agB n2 50;have iv:∀x,aR φ.y (.y .i64 x)=some (.i64,YD N X rs.length e x):=fun x=>congrArg (fun z=>some (arC,z)) (agB n1 x)
  obtain⟨f1,f2,f3,f4⟩:=hf φ n1 n2 hK;have hby:Quiet Tryz.prog φ.y.k 37 [.map (some m0),.agg p.1.toArray] (· =.tuple #[.string p.2,.int .i64 0]):=lz.byt φ.y.k m0 hK (hK _ _ hm0);have hF:aA Tryz.prog (amc v i) φ:=by
   refine⟨agm,aO ⟨.lss (k:=.i64) (x:=i) (y:=rs.length) rfl (iv 8) (decide_eq_true (by omega)),.geq (k:=.i64) (x:=id) (y:=X) (congrArg (fun z=>some (arC,z)) h30) (iv 14) (decide_eq_false (by omega)),agm⟩ f1,agm,agm,agm,agm,agm,agm,⟨?_,f2⟩⟩;refine dy rfl hby (J.cons (vQ q9 rfl) (J.cons (vA gh) J.nil)) ?_;simp only[VR];exact⟨_,rfl,J.cons (vQ (by rw[n2];exact(MX (by omega)).trans (by rw[hpT])) rfl) (J.cons aL J.nil)⟩
  have hX':iZ Tryz.prog (amd v i) φ:=by
   refine{oi:=⟨fun af hl vi hv=> ?_,f3⟩,ol:=⟨fun w hw=> ?_,f4⟩}
   ·have hv:=Ki hv
    subst hv;rw[q40,q50];exact⟨i1,i2⟩
   ·rw[q40];exact i3 rfl gh fun r o hk=>hw r o (hK r o hk)
  have ag:=KI (N:=N) (X:=X) (rs:=rs) o1 o2 (kv:=.map (some m0)) rfl SI hqi (e:=e) (e':=e) (p:=q) (p':=q) (a:=p.1) (a':=a') (c:=p.1) (c':=a');exact ad.runK (aw ah _ _) rfl 20 (cs:=Oy) ba hs hK (eZ hF hX') hd y (ag.au n1 n2 n3 n4) fun φ a2 w2 hs hK hd iK n1 n2 n3 n4=>⟨rfl,⟨φ,e,q,p.1,a',hs,hK,hd,hg.trans iK,n1,n2,n3,n4⟩⟩
 have ht:=dp amf cp;simp only[arK]at ht;rcases Nat.eq_zero_or_pos i with rfl|gn
 ·exact go 0 (fun _=>id) (fun _=>bE aM (0*18)) [] ht.1.2 rfl rfl fun φ _ _ _=>⟨agm,agm,agm,agm⟩
 ·obtain⟨j,rfl⟩:∃j,i=j+1:=⟨i-1,by omega⟩
  have hu:=arD.1 apE (j+1) (by rw[arL];exact⟨j,by omega,by omega⟩);simp only[arK]at hu;obtain⟨p',tD,anH,j1,j2,j3⟩:=hb.at_ (show j<rs.length by omega);have hAH:=hb.ord j p' p tD hp;have opv:∀{φ:Ren} {q:Nat->Value},φ.q=Fh aM aK (.map (some m0)) rs q p.1 p'.1->J φ (uV 400) p'.1:=fun{φ q} n2=>ahq anH.form fun x=>by rw[n2];exact anF
  have rcv:∀{φ:Ren} {e:Nat->Int} {q:Nat->Value},φ.s=YD N X rs.length e->e 30=id->φ.q=Fh aM aK (.map (some m0)) rs q p.1 p'.1->J φ u7 p.1:=fun{φ e q} n1 he n2=>UI lz.form lG ((agB n1 30).trans he) fun x hx=>by rw[n2];exact aa2 hx
  have cmp:∀{φ:Ren} {e:Nat->Int} {q:Nat->Value},φ.s=YD N X rs.length e->e 30=id->φ.q=Fh aM aK (.map (some m0)) rs q p.1 p'.1->fU K φ->(∀K x,lW K x->Quiet Tryz.prog K 38 [.map (some x),.agg p'.1.toArray,.agg p.1.toArray] (· =.int .i64 (-1)))->
    ∀af,Le φ af->∀args',J af [.q 9,.a (uV 400),.a u7] args'->Quiet Tryz.prog φ.y.k 38 args' fun u=>VR af (.i .i64 (-1)) u:=fun{φ e q} n1 he n2 hK h=>
   dy rfl (h φ.y.k m0 (hK _ _ hm0)) (J.cons (vQ (agB n2 9) rfl) (J.cons (vA (opv n2)) (J.cons (vA (rcv n1 he n2)) J.nil))) vI
  have anI:∀{φ:Ren} {q:Nat->Value},φ.q=Fh aM aK (.map (some m0)) rs q p.1 p'.1->q 42=bE aM (j*18)->∀af,Le φ af->∀vi,VR af (.i .i64 (j+1-1:Nat)) vi->(φ.q 42).oneCell'=true/\∀w,(arF 27 (φ.q 50) vi).run Tryz.prog w=.ok (φ.q 42) w:=fun{φ q} n2 hq af _ vi hv=>by
   have hv:=Ki hv;subst hv;rw[show φ.q 42=bE aM (j*18)from(agB n2 42).trans hq,show φ.q 50=aM from agB n2 50];exact⟨j1,j2⟩
  have anJ:∀{φ:Ren} {q:Nat->Value},φ.q=Fh aM aK (.map (some m0)) rs q p.1 p'.1->q 42=bE aM (j*18)->fU K φ->∀w:World,(∀r o,φ.y.k r=some o->w.heap[r]? =some o)->∃u,(arJ 60 (φ.q 42)).run Tryz.prog w=.ok u w/\VR φ (.a (uV 400)) u:=fun{φ q} n2 hq hK w hw=>by
   rw[show φ.q 42=bE aM (j*18)from(agB n2 42).trans hq];exact j3 rfl (opv n2) fun r o hk=>hw r o (hK r o hk)
  let qq:Nat->Value:=fun x=>match x with|40=>bE aM ((j+1)*18)|42=>bE aM (j*18)|43=>bE aK ((j+1)*1)|_=>bE aK (j*1)
  let ee:Nat->Int:=fun x=>match x with|30=>id|21=>jY cp vs (j+1)|_=>jY cp vs j
  cases cp with
  |false=>
   have hc:∀K x,lW K x->Quiet Tryz.prog K 38 [.map (some x),.agg p'.1.toArray,.agg p.1.toArray] (· =.int .i64 (-1)):=by
    rcases hAH with h|⟨_,h⟩
    ·simp[jY]at h
    ·exact h
   exact go 1 ee qq p'.1 hu.1.1 rfl rfl fun φ n1 n2 hK=>⟨agm,⟨cmp n1 rfl n2 hK hc,agm⟩,⟨anI n2 rfl,agm⟩,⟨anJ n2 rfl hK,agm⟩⟩
  |true=>
   obtain⟨a1,a2,a3⟩:=hb.vat (show j+1<rs.length from hi);obtain⟨b1,b2,b3⟩:=hb.vat (show j<rs.length by omega);have oiA:∀{φ:Ren},φ.q=Fh aM aK (.map (some m0)) rs qq p.1 p'.1->∀af,Le φ af->∀vi,VR af (.i .i64 (j+1:Nat)) vi->(φ.q 43).oneCell'=true/\∀w,(arF 23 (φ.q 51) vi).run Tryz.prog w=.ok (φ.q 43) w:=fun{φ} n2 af _ vi hv=>by
    have hv:=Ki hv;subst hv;rw[show φ.q 43=bE aK ((j+1)*1)from agB n2 43,show φ.q 51=aK from agB n2 51];exact⟨a1,a2⟩
   have oiB:∀{φ:Ren},φ.q=Fh aM aK (.map (some m0)) rs qq p.1 p'.1->∀af,Le φ af->∀vi,VR af (.i .i64 (j+1-1:Nat)) vi->(φ.q 44).oneCell'=true/\∀w,(arF 23 (φ.q 51) vi).run Tryz.prog w=.ok (φ.q 44) w:=fun{φ} n2 af _ vi hv=>by
    have hv:=Ki hv;subst hv;rw[show φ.q 44=bE aK (j*1)from agB n2 44,show φ.q 51=aK from agB n2 51];exact⟨b1,b2⟩
   have olA:∀{φ:Ren},φ.s=YD N X rs.length ee->φ.q=Fh aM aK (.map (some m0)) rs qq p.1 p'.1->fU K φ->∀w:World,(∀r o,φ.y.k r=some o->w.heap[r]? =some o)->∃u,(arJ 3 (φ.q 43)).run Tryz.prog w=.ok u w/\VR φ (.y .i64 21) u:=fun{φ} n1 n2 hK w hw=>by
    rw[show φ.q 43=bE aK ((j+1)*1)from agB n2 43];exact a3 (agB n1 21) fun r o hk=>hw r o (hK r o hk)
   have olB:∀{φ:Ren},φ.s=YD N X rs.length ee->φ.q=Fh aM aK (.map (some m0)) rs qq p.1 p'.1->fU K φ->∀w:World,(∀r o,φ.y.k r=some o->w.heap[r]? =some o)->∃u,(arJ 3 (φ.q 44)).run Tryz.prog w=.ok u w/\VR φ (.y .i64 20) u:=fun{φ} n1 n2 hK w hw=>by
    rw[show φ.q 44=bE aK (j*1)from agB n2 44];exact b3 (agB n1 20) fun r o hk=>hw r o (hK r o hk)
   have iv:∀{φ:Ren},φ.s=YD N X rs.length ee->∀x,aR φ.y (.y .i64 x)=some (.i64,YD N X rs.length ee x):=fun{φ} n1 x=>congrArg (fun z=>some (arC,z)) (agB n1 x)
   rcases hAH with h|⟨h,hc⟩
   ·exact go 2 ee qq p'.1 hu.1.2 rfl rfl fun φ n1 n2 hK=>⟨⟨.gtr (iv n1 21) (iv n1 20) (decide_eq_true h),agm⟩,agm,⟨oiA n2,oiB n2,agm⟩,⟨olA n1 n2 hK,olB n1 n2 hK,agm⟩⟩
   ·exact go 3 ee qq p'.1 hu.2 rfl rfl fun φ n1 n2 hK=>⟨⟨.gtr (iv n1 21) (iv n1 20) (decide_eq_false (by show ¬jY true vs j<jY true vs (j+1);omega)),.lss (iv n1 21) (iv n1 20) (decide_eq_false (by show ¬jY true vs (j+1)<jY true vs j;omega)),agm⟩,
     ⟨cmp n1 rfl n2 hK hc,agm⟩,⟨anI n2 rfl,oiA n2,oiB n2,agm⟩,⟨anJ n2 rfl hK,olA n1 n2 hK,olB n1 n2 hK,agm⟩⟩
theorem YG(hb:dS K cp N rs vs aM aK)(bU:rs≠[])(Ig:rs.length<=12)(hN:1<=N)(hX:13<=X/\X<=100001)(m:Nat){w:World}(hw:∀r o,K r=some o->w.heap[r]? =some o):CallsIn (W none) m Tryz.prog 18 #[bW cp N X aM aK] w (anE K rs w):=by
 have o1:=hb.o9;have o2:=hb.pU;have gn:0<rs.length:=arU.2 bU;let Y:=fun kv=>YE N X aM aK kv rs
 let y0:=Y aF (fun _=>0) (fun _=>aF) [] [];have bB:=ad.enter (nt:=94) (bc y0 w) rfl rfl (vs:=[.a (Oz cp)]) (args:=[bW cp N X aM aK]) (aa3 rfl rfl rfl o1 rfl o2) (by show 1<=94;decide);refine dz (fn:=Tryz.f18) (c:=(Tryz.f18.body).getD .skip) (args:=[bW cp N X aM aK]) Tryz.func18 rfl (bp _ ?_);show aC none m Tryz.prog _ pg _ _;have ht:=dp amf cp;simp only[arK]at ht;obtain⟨⟨⟨⟨t0,t1⟩,t2⟩,_⟩,tS⟩:=ht;unfold al9 at t0;unfold ama at t1;unfold amb at t2;have F8:=UF hb bU Ig hN ⟨by omega,hX.2⟩;have YH:∀x∈([]:List Nat),x=8:=fun x hx=>by cases hx
 have SI:∀x∈[8],x=8:=fun x hx=>by simpa using hx
 have aqP:∀x∈([]:List Nat),x=9\/∃j,j<200/\x=100+j:=fun x hx=>by cases hx
 have q9:∀x∈[9],x=9\/∃j,j<200/\x=100+j:=fun x hx=>.inl (by simpa using hx)
 have hF0:aA Tryz.prog {qc:=[(35,[.a (Oz cp)],.b true)]} (φ0 y0 w):=by
  refine⟨agm,agm,agm,agm,agm,agm,agm,agm,dy ?_ (F8.mono hw) (aa3 rfl rfl rfl o1 rfl o2) vB,agm⟩;simp only[List.all_cons,List.all_nil,Bool.and_true];exact nJ _ _ _
 refine ad.runK (aw ah _ _) rfl 3 (cs:=pg) t0 bB (fU.all rfl hw) (eZ hF0 eX) rfl y0 ((KI o1 o2 rfl YH aqP).au rfl rfl rfl rfl) fun φ a w1 hs hK hd hg n1 n2 n3 n4=> ?_
 have ary:=hg.size;show aC none m Tryz.prog _ (pg.drop 3) a w1;obtain⟨id,iJ⟩:=ahr;rw[iJ];refine gB ?_;refine hs.eV (l:=o3l.toList) (o:=o3l.toList.headD default) (rest:=o3l.toList.drop 1) rfl rfl rfl rfl rfl Tryz.func36 rfl rfl (Vs:=[]) rfl ?_;intro args' ha;have:args'=[]:=by simpa only[J]using ha
 subst this;refine(UE (m-1) w1).mono ?_;rintro e w2 ⟨r,rfl,gG,hr,hk⟩;refine⟨_,rfl,?_⟩;let K2:=ve K r (.map ca.1 ca.2);have fb:rJ K w1 w2 K2:=(rJ.refl gG (hs.lJ hK)).add hr hk;let kv:Value:=.map (some r);obtain⟨φ,hs,hK,n1,n2,n3,n4⟩:=hs.mS hK gG fb tS (y:=Y kv (fun _=>0) (fun _=>aF) [] []) (OQ (o:=y0) (anG o1 o2) n1 n2 n3 n4);have hs:=hs.put (d:=13) (by decide) (x:=.q 9) (v:=kv) (vQ (agB n2 9) rfl);have tB:=hb.mono fb.sub;refine ad.jR (aw ah {} {}) rfl 3 (l:=o3l.toList.drop 1) t1 hs hK (eZ aS eX) (Y kv (fun _=>0) (fun _=>aF) [] []) ((KI o1 o2 rfl YH q9).au n1 n2 n3 n4) fun φ a w3 hs hK gJ ig n1 n2 n3 n4=> ?_
 show aC none m Tryz.prog _ (pg.drop 4) a w3;obtain⟨ra,EW,jD⟩:=hb.UD;have hX8:iZ Tryz.prog {on:=[(50,8)]} φ:={on:=⟨⟨ra,rs.length,EW,(agB n2 50).trans jD,agB n1 8⟩,agm⟩};refine ad.runK (aw ah _ _) rfl 2 (cs:=pg.drop 4) t2 hs hK (eZ aS hX8) (gJ.trans hd) (Y kv (fun _=>0) (fun _=>aF) [] []) ((KI o1 o2 rfl SI q9).au n1 n2 n3 n4) fun φ a w4 hs hK hd pV n1 n2 n3 n4=> ?_
 show aC none m Tryz.prog _ (pg.drop 6) a w4;have G2:=hg.trans (gG.gb (by have:=hg.size;omega));refine dd (id:=0) (b:=(match pg.drop 6 with|.block _ (.loop b)::_=>b|_=>.skip)) (rest:=pg.drop 7) rs.length (fun i a w'=>MY K2 cp w (Y kv) i (EI i) (u6 cp i) a w') (fun j a w' hj hv=>YF tB hX.1 (m0:=r) fH hj Ig hv) ?_
  ⟨φ,_,_,_,_,hs,hK,hd,(G2.trans ig).trans pV,n1,n2,n3,n4⟩
 rintro a w' ⟨φ,e,p,c,c',hs,hK,hd,hg,n1,n2,n3,n4⟩;have YI:=arD.1 apF rs.length (by rw[arL];exact⟨rs.length-1,by omega,by omega⟩);simp only[arK]at YI;have t4:XR cp rs.length=true:=by cases cp;exact YI.1.1;exact YI.1.2
 have t5:=YI.2;unfold XR at t4;unfold ame at t5;have hqm:∀x∈Kp rs.length,x=9\/∃j,j<200/\x=100+j:=fun x hx=>by
  rcases arG.1 hx with rfl|hx
  ·exact .inl rfl
  ·obtain⟨j,hj,rfl⟩:=arO.1 hx
   exact .inr ⟨j,by have:=AAA.1 hj;omega,rfl⟩
 have hF4:aA Tryz.prog {bin:=[(.lss,.i .i64 rs.length,.y .i64 8,.b false)]} φ:=⟨agm,⟨.lss (k:=.i64) (x:=rs.length) (y:=rs.length) rfl (congrArg (fun z=>some (arC,z)) (agB n1 8)) (decide_eq_false (by omega)),agm⟩,agm,agm,agm,agm,agm,agm,agm⟩;refine ad.runK (aw ah _ _) rfl 20 (cs:=Oy) t4 hs hK (eZ hF4 eX) hd (Y kv e p c c') ((KI o1 o2 rfl YH hqm).au n1 n2 n3 n4) fun φ a w5 hs hK hd vM n1 n2 n3 n4=>⟨rfl,?_⟩
 refine ad.runK (aw ah {} {}) rfl 5 (cs:=pg.drop 7) t5 hs hK (eZ aS eX) hd (Y kv e p c c') ((KI o1 o2 rfl YH hqm).au n1 n2 n3 n4) fun φ a w6 hs hK hd Ap n1 n2 n3 n4=>⟨.inl rfl,hd,?_⟩
 obtain⟨j,hj⟩:∃j,rs.length=j+1:=⟨rs.length-1,by omega⟩
 obtain⟨v,gE,ff⟩:=hs.leave ah (fn:=Tryz.f18) (l:=[OB rs.length,.b true]) rfl;refine⟨v,gE,?_⟩;have ff:VR φ (.t [OB rs.length,.b true]) v:=ff;simp only[VR,J]at ff;obtain⟨vz,rfl,x0,_,e0,g0,x1,_,rfl,g1,rfl⟩:=ff;obtain rfl:vz=#[x0,x1]:=Array.toList_inj.1 e0;subst g1;have bQ:J φ ((arM rs.length).map fun j=>.q (100+j)) (rs.map fun p=>.string p.2):=fy (by rw[arI]) fun x u hx=>by
  rw[arV]at hx;cases hl:rs[x]?with
  |none=>rw[hl]at hx;cases hx
  |some q=>
   rw[hl]at hx;cases hx;have bf:=(arN.1 hl).1;refine vQ ?_ rfl;rw[n2,show(Y kv e p c c').q=Fh aM aK kv rs p c c' from rfl,MX (by omega)];show Value.string (rs.getD x ([],cj)).2=_;rw[aop,hl];rfl
 obtain⟨r5,c5,b5,k5,w5⟩:=hs.KB (b:=5) (l:=(arM rs.length).map fun j=>.q (100+j)) (T:=9) (g:=true) (by rw[hj];rfl) (n:=rs.length) (sz:=1) (by decide) (by rw[hj]at g0⊢;exact g0) bQ (arD.2 fun x hx=>by obtain⟨j,_,rfl⟩:=arO.1 hx;rfl) (by rw[arI,arP,arS]);have G6:=(hg.trans vM).trans Ap;have hu2:rJ K w w6 K2:=⟨fb.sub,hs.lJ hK,fun s o h=>(fb.new s o h).imp (fun h=>h) fun h=>by omega⟩;exact⟨x0,_,rfl,G6.grown,hu2.add b5 k5,w5 _ fH⟩
end
theorem YJ{m:Nat}(h:m<=12):∃s:ByteArray,s.size=1/\∀K,Quiet Tryz.prog K 40 [.int .i64 m] (· =.string s):=by
 have h:=arD.1 afD m (AAA.2 (by omega));unfold al8 at h;split at h
 ·rename_i x e
  have hx:∀y∈[x],y<256:=fun y hy=>by rw[List.mem_singleton.1 hy];exact bh.1 h
  exact⟨bytes [x],by rw[du];rfl,jh e (fun φ=>J.cons vI J.nil) (fun φ y hy=>by simp only[VR]at hy;exact hy.1) ⟨_,_,Tryz.func40,rfl,rfl⟩⟩
 ·cases h
theorem MZ(ss:Nat->ByteArray)(f:Nat->List Nat):∀l:List Nat,(cS ss (l.flatMap f)).size=(l.map fun j=>(cS ss (f j)).size).sum
 |[]=>rfl
 |j::l=>by rw[arW,lX,oR,MZ ss f l];rfl
theorem UJ{c:Nat}{f:Nat->Nat}:∀{l:List Nat},(∀j∈l,f j<=c)->(l.map f).sum<=c*l.length
 |[],_=>by simp
 |j::l,h=>by
  have:=UJ (l:=l) (f:=f) fun i hi=>h i (List.mem_cons_of_mem _ hi)
  have h0:=h j List.mem_cons_self;rw[List.map_cons,List.sum_cons,arE,Nat.mul_succ];omega
noncomputable def vC(cp:Bool)(rs:List (List Value×ByteArray))(vs:List Int)(j:Nat):Nat:=cond cp (bu (jY cp vs j)).size 0+(vu rs j).size
noncomputable def vD(cp:Bool)(N X:Int)(rs:List (List Value×ByteArray))(vs:List Int):Nat:=(bu (cond cp 2 1)).size+(bu N).size+(bu X).size+1+((arM rs.length).map (vC cp rs vs)).sum
theorem ahs(cp:Bool)(m:Nat):(u4 cp m).length=jW cp m:=by
 have:∀l:List Nat,(l.flatMap fun j=>cond cp [10+j,30+j] [30+j]).length=l.length*cond cp 2 1:=fun l=>by
  induction l with
  |nil=>simp
  |cons j l ih=>rw[arW,List.length_append,ih,arE];cases cp<;>simp only[cond_true,cond_false,arE,List.length_nil]<;>omega
 rw[u4,arE,this,arP,jW];omega
section
variable {K:Nat->Option Obj} {cp:Bool} {N X:Int} {rs:List (List Value×ByteArray)} {vs:List Int} {aM aK:Value}
noncomputable def aht(cp:Bool)(N X:Int)(sm:ByteArray)(rs:List (List Value×ByteArray))(vs:List Int):Nat->ByteArray:=fun x=>
 if x<10 then(match x with|0=>bu (cond cp 2 1)|1=>bu N|2=>bu X|3=>sm|5=>bu (cond cp 2 1)++bu N|6=>bu (cond cp 2 1)++bu N++bu X|_=>bu (cond cp 2 1)++bu N++bu X++sm)else if x<30 then bu (jY cp vs (x-10))else vu rs (x-30)
noncomputable def enS(cp:Bool)(N X:Int)(sm:ByteArray)(rs:List (List Value×ByteArray))(vs:List Int):Nat->ByteArray:=fun x=>if x=90 then cS (aht cp N X sm rs vs) (u4 cp rs.length)else aht cp N X sm rs vs x
def enN(cp:Bool)(N X:Int)(m:Nat)(vs:List Int):Nat->Int:=fun x=>if x<20 then(match x with|1=>N|2=>X|_=>(m:Int))else jY cp vs (x-20)
def enV(aM aK parts:Value):Nat->Value:=fun x=>if x<70 then(match x with|50=>aM|51=>aK|_=>parts)else bE aK ((x-70)*1)
theorem HY(hb:dS K cp N rs vs aM aK)(bU:rs≠[])(Ig:rs.length<=12)(hN:1<=N/\N<=300)(hX:13<=X/\X<=512):
  ∃s:ByteArray,s.size=vD cp N X rs vs/\1<=s.size/\s.size<=10000/\Quiet Tryz.prog K 8 [bW cp N X aM aK] (· =.tuple #[.string s,.int .i64 0]):=by
 have o1:=hb.o9;have o2:=hb.pU;have gn:0<rs.length:=arU.2 bU;obtain⟨sm,sm1,smq⟩:=YJ Ig;let pq:=u4 cp rs.length;let Ii:=aht cp N X sm rs vs;let ss:=enS cp N X sm rs vs;let ns:=enN cp N X rs.length vs;have Ic: -30<=(cond cp 2 1:Int)/\(cond cp 2 1:Int)<610:=by cases cp<;>decide
 have nk:=dY Ic;have nN:=dY (n:=N) (by omega);have nX:=dY (n:=X) (by omega);have Io:∀j,j<rs.length-> -30<=jY cp vs j/\jY cp vs j<610:=fun j hj=>by
  cases cp with
  |false=>exact⟨by show(-30:Int)<=0;decide,by show(0:Int)<610;decide⟩
  |true=>
   have MV:=hb.rq rfl;have:=hb.ON rfl (jY true vs j) (by show vs.getD j 0∈vs;rw[aop,arH (by omega)];exact arR _);omega
 have hrt:∀j,j<rs.length->1<=(vu rs j).size/\(vu rs j).size<=800:=fun j hj=>by
  have hr:=hb.rok _ (arR hj);have:vu rs j=rs[j].2:=by show(rs.getD j ([],cj)).2=_;rw[aop,arH hj];rfl
  rw[this];exact⟨hr.lo,hr.hi⟩
 have s7:(ss 7).size=(bu (cond cp 2 1)).size+(bu N).size+(bu X).size+1:=by
  show(bu (cond cp 2 1)++bu N++bu X++sm).size=_;rw[oR,oR,oR,sm1]
 have sv:∀j,j<12->ss (10+j)=bu (jY cp vs j):=fun j hj=>by
  show(if 10+j=90 then _ else(if 10+j<10 then _ else if 10+j<30 then bu (jY cp vs (10+j-10))else _))=_;rw[if_neg (by omega),if_neg (by omega),if_pos (by omega),show 10+j-10=j by omega]
 have sr:∀j,j<12->ss (30+j)=vu rs j:=fun j hj=>by
  show(if 30+j=90 then _ else(if 30+j<10 then _ else if 30+j<30 then _ else vu rs (30+j-30)))=_;rw[if_neg (by omega),if_neg (by omega),if_neg (by omega),show 30+j-30=j by omega]
 have nV:∀j,ns (20+j)=jY cp vs j:=fun j=>by
  show(if 20+j<20 then _ else jY cp vs (20+j-20))=_;rw[if_neg (by omega),show 20+j-20=j by omega]
 have kg:∀q∈pq,q=7\/∃j,j<rs.length/\((cp=true/\q=10+j)\/q=30+j):=fun q hq=>by
  rcases arG.1 hq with rfl|hq
  ·exact .inl rfl
  ·obtain⟨j,hj,hq⟩:=List.mem_flatMap.1 hq
   refine .inr ⟨j,AAA.1 hj,?_⟩;cases cp with
   |false=>exact .inr (by simpa using hq)
   |true=>
    simp only[cond_true,arG,arQ,or_false]at hq;exact hq.imp (fun h=>⟨rfl,h⟩) id
 have hq1:∀q∈pq,q<90/\0<(ss q).size:=fun q hq=>by
  rcases kg q hq with rfl|⟨j,hj,⟨_,rfl⟩|rfl⟩
  ·exact⟨by decide,by rw[s7];omega⟩
  ·refine⟨by omega,?_⟩
   rw[sv j (by omega)];have:=dY (Io j hj);omega
  ·refine⟨by omega,?_⟩
   rw[sr j (by omega)];have:=hrt j hj;omega
 have He:cS ss pq=cS Ii pq:=lC fun q hq=>if_neg (by have:=hq1 q hq;omega)
 have hz:ss 90=cS ss pq:=by rw[He];exact if_pos rfl
 have ed:(cS ss pq).size=vD cp N X rs vs:=by
  show(cS ss (7::(arM rs.length).flatMap fun j=>cond cp [10+j,30+j] [30+j])).size=_;rw[cS,oR,s7,MZ,vD]
  congr 2
  refine List.map_congr_left fun j hj=> ?_
  have hj:=AAA.1 hj;cases cp with
  |false=>
   simp only[cond_false,cS,vC,oR,sr j (by omega)];simp
  |true=>
   simp only[cond_true,cS,vC,oR,sv j (by omega),sr j (by omega)];simp
 have hle:vD cp N X rs vs<=10000:=by
  have:((arM rs.length).map (vC cp rs vs)).sum<=802*(arM rs.length).length:=UJ fun j hj=>by
   have hj:=AAA.1 hj;have h1:=hrt j hj;have h2:=dY (Io j hj);unfold vC;cases cp<;>simp only[cond_true,cond_false]<;>omega
  rw[arP]at this;unfold vD;omega
 have Xl:1<=vD cp N X rs vs:=by unfold vD;omega
 have Vj:pq.length=jW cp rs.length:=ahs cp rs.length;have ym:jW cp rs.length<50:=by unfold jW;cases cp<;>simp only[cond_true,cond_false]<;>omega
 refine⟨ss 90,by rw[hz,ed],by rw[hz,ed];exact Xl,by rw[hz,ed];exact hle,⟨_,_,Tryz.func8,rfl,rfl⟩,fun n w hw=> ?_⟩;let Y:=fun parts=>B0 ns ss (enV aM aK parts) pq (#[],0)
 have arz:∀parts,(Y parts).q 150=aM:=fun _=>rfl
 have aa4:∀{φ:Ren} {parts:Value},φ.s=(Y parts).s->φ.q=(Y parts).q->VR φ (.a (EH cp)) (bW cp N X aM aK):=fun{φ parts} n1 n2=>by
  have hi:VR φ (.i .i64 (cond cp 2 1)) (.int .i64 (cond cp 2 1)):=by cases cp<;>exact vI
  exact vA (J.cons hi (J.cons (vY (by rw[n1];rfl)) (J.cons (vY (by rw[n1];rfl)) (J.cons (vQ (by rw[n2];rfl) o1) (J.cons (vQ (by rw[n2];rfl) o2) J.nil)))))
 have agn:∀{p p':Value},Ag (Ox []) (Y p) (Y p'):=fun{p p'}=>⟨⟨rfl,rfl,agm⟩,⟨⟨rfl,o1⟩,⟨rfl,o2⟩,agm⟩,agm,agm⟩
 have bB:=ad.enter (nt:=52) (bc (Y aF) w) rfl rfl (vs:=[.a (EH cp)]) (args:=[bW cp N X aM aK]) (J.cons (aa4 rfl rfl) J.nil) (by show 1<=52;decide);refine dz (fn:=Tryz.f8) (c:=(Tryz.f8.body).getD .skip) (args:=[bW cp N X aM aK]) Tryz.func8 rfl (bp _ ?_);show aC none n Tryz.prog _ c8 _ _;have ht:=dp apC cp;simp only[arK]at ht;obtain⟨⟨⟨t0,t1⟩,t2⟩,tS⟩:=ht;unfold al0 at t0;unfold al1 at t1;unfold al2 at t2;refine ad.runK (aw ah {} {}) rfl 1 (cs:=c8) t0 bB (fU.all rfl hw) (eZ aS eX) rfl (Y aF) (agn.au rfl rfl rfl rfl) fun φ a w1 hs hK hd hg n1 n2 n3 n4=> ?_
 show aC none n Tryz.prog _ (c8.drop 1) a w1;obtain⟨id,iJ⟩:∃id,c8.drop 1=.region id VC false::c8.drop 2:=⟨_,rfl⟩
 rw[iJ];refine gB ?_;refine ad.jR (aw ah {} {}) rfl 1 (l:=VC.toList) t1 hs hK (eZ aS eX) (Y aF) (agn.au n1 n2 n3 n4) fun φ a w2 hs hK mF iK n1 n2 n3 n4=> ?_
 refine hs.eV (l:=VC.toList.drop 1) (o:=(VC.toList.drop 1).headD default) (rest:=VC.toList.drop 2) rfl rfl rfl rfl rfl Tryz.func18 rfl rfl (Vs:=[.a (EH cp)]) (by show[(U 52 (ME cp)).get 10]=_;rw[cA];rfl) ?_;intro args' ha;have:args'=[bW cp N X aM aK]:=mQ (φ:=φ) (by
  simp only[List.all_cons,List.all_nil,Bool.and_true];cases cp<;>rfl) ha (J.cons (aa4 n1 n2) J.nil)
 subst this;refine(YG hb bU Ig hN.1 ⟨hX.1,by omega⟩ (n-1) (hs.lJ hK)).mono ?_;rintro e w3 ⟨parts,K1,rfl,gG,fb,bQ⟩;refine⟨_,rfl,?_⟩;obtain⟨φ,hs,hK,n1,n2,n3,n4⟩:=hs.mS hK gG fb tS (y:=Y parts) (OQ (agn (p:=aF) (p':=parts)) n1 n2 n3 n4);have hs:=hs.put (d:=11) (by decide) (x:=.t [.q 160,.b true]) (v:=.tuple #[parts,.bool true]) (by simp only[VR];exact⟨_,rfl,J.cons (vQ (by rw[n2];rfl) bQ.one) (J.cons vB J.nil)⟩);have ag1:Ag (Ox [160]) (Y parts) (Y parts):=⟨⟨rfl,rfl,agm⟩,⟨⟨rfl,o1⟩,⟨rfl,o2⟩,⟨rfl,bQ.one⟩,agm⟩,agm,agm⟩;refine ad.jR (aw ah {} {}) rfl 10 (l:=VC.toList.drop 2) t2 hs hK (eZ aS eX) (Y parts) (ag1.au n1 n2 n3 n4) fun φ a w4 hs hK sS pV n1 n2 n3 n4=> ?_
 show aC none n Tryz.prog _ (c8.drop 2) a w4;have hpr:J φ (aaC rs.length) (rs.map fun p=>.string p.2):=fy (by rw[arI]) fun x u hx=>by
  rw[arV]at hx;cases hl:rs[x]?with
  |none=>rw[hl]at hx;cases hx
  |some q=>
   rw[hl]at hx;cases hx;have bf:=(arN.1 hl).1;refine vQ ?_ rfl;have aqQ:(Y parts).q (30+x)=.string (ss (30+x)):=if_pos (by omega);rw[n2,aqQ,sr x (by omega)];show Value.string (rs.getD x ([],cj)).2=_;rw[aop,hl];rfl
 obtain⟨jH,wE,hy5,hK5,_⟩:=hs.EM hK bQ (by cases cp<;>rfl) hpr (n:=rs.length) (by rw[arI,arS]) 160 (by rw[n2];rfl);have hS:Std jH ns ss (enV aM aK parts) pq (#[],0):=⟨by show jH.y.s=_;rw[hy5];exact n1,by show jH.y.q=_;rw[hy5];exact n2,by show jH.y.w=_;rw[hy5];exact n3,by show jH.y.g=_;rw[hy5];exact n4⟩;have ba:TN cp rs.length=true:=by
  cases cp with
  |false=>exact arD.1 al5 _ (by rw[arL];exact⟨rs.length-1,by omega,by omega⟩)
  |true=>
   rcases Nat.lt_or_ge rs.length 9 with h|h
   ·exact arD.1 al6 _ (by rw[arL];exact⟨rs.length-1,by omega,by omega⟩)
   ·exact arD.1 al7 _ (by rw[arL];exact⟨rs.length-9,by omega,by omega⟩)
 unfold TN at ba;have n1':jH.s 1=N:=hS.n (x:=1);have n2':jH.s 2=X:=hS.n (x:=2);have n8':jH.s 8=rs.length:=hS.n (x:=8);have ssz:∀q,q<100->jH.q q=.string (ss q):=fun q hq=>hS.t hq
 have lh:∀q,q=0\/q=1\/q=2\/q=3\/q=5\/q=6\/q=7->0<(ss q).size/\(ss q).size<=8:=fun q hq=>by
  rcases hq with rfl|rfl|rfl|rfl|rfl|rfl|rfl
  ·show 0<(bu (cond cp 2 1)).size/\(bu (cond cp 2 1)).size<=8;omega
  ·show 0<(bu N).size/\(bu N).size<=8;omega
  ·show 0<(bu X).size/\(bu X).size<=8;omega
  ·show 0<sm.size/\sm.size<=8;omega
  ·show 0<(bu (cond cp 2 1)++bu N).size/\(bu (cond cp 2 1)++bu N).size<=8;rw[oR];omega
  ·show 0<(bu (cond cp 2 1)++bu N++bu X).size/\(bu (cond cp 2 1)++bu N++bu X).size<=8;rw[oR,oR];omega
  ·rw[s7];omega
 have hF:aA Tryz.prog (al3 cp rs.length) jH:=by
  refine⟨agm,⟨.gtr (k:=.i64) (x:=((ss 90).size:Int)) (y:=10000) (congrArg (fun z=>some (arC,z)) (hS.z (x:=90))) rfl (decide_eq_false (by rw[hz,ed];omega)),agm⟩,agm,⟨⟨(ss 90).size,?_,?_,hS.z (x:=90)⟩,agm⟩,agm,agm,agm,agm,?_⟩
  ·have:(lk [(jW cp rs.length,1)] (jW cp rs.length)).getD 0=1:=by simp[lk]
   show 0<(lk [(jW cp rs.length,1)] (jW cp rs.length)).getD 0;rw[this];decide
  ·have:(lk [(jW cp rs.length,1)] (jW cp rs.length)).getD 0=1:=by simp[lk]
   show(ss 90).size*(lk [(jW cp rs.length,1)] (jW cp rs.length)).getD 0=(jH.w (jW cp rs.length)).length;rw[this,arS,hS.r _ ym,<-Vj,List.take_length,hz];exact(eK _).symm
  ·refine aO ⟨dy (by cases cp<;>rfl) (nk.2.2 _) (J.cons (by cases cp<;>exact vI) J.nil) (vQ (ssz 0 (by decide)) rfl),dy rfl (nN.2.2 _) (J.cons (vY n1') J.nil) (vQ (ssz 1 (by decide)) rfl),dy rfl (nX.2.2 _) (J.cons (vY n2') J.nil) (vQ (ssz 2 (by decide)) rfl),dy rfl (smq _) (J.cons (vY n8') J.nil) (vQ (ssz 3 (by decide)) rfl),agm⟩ ?_
   cases cp with
   |false=>exact agm
   |true=>
    refine cH fun j hj=> ?_
    have hj:=AAA.1 hj;have hv:jH.s (20+j)=jY true vs j:=(hS.n (x:=20+j) (by omega)).trans (nV j);exact dy rfl ((dY (Io j hj)).2.2 _) (J.cons (vY hv) J.nil) (vQ ((ssz (10+j) (by omega)).trans (by rw[sv j (by omega)])) rfl)
 have Zh:∀q∈Hs rs.length,q<100:=fun q hq=>by
  rcases List.mem_append.1 hq with hq|hq
  ·simp only[arG,arQ,or_false]at hq;omega
  ·obtain⟨j,hj,hq⟩:=List.mem_flatMap.1 hq
   have:=AAA.1 hj;simp only[arG,arQ,or_false]at hq;omega
 have hsg:∀e∈Ht cp rs.length,e.1<100/\e.2<100/\0<(ss e.1).size/\(ss e.1).size<=1000000/\ss e.2=ss e.1:=fun e he=>by
  cases cp with
  |false=>cases he
  |true=>
   obtain⟨j,hj,rfl⟩:=arO.1 he;have hj:=AAA.1 hj;have:=dY (Io j hj);refine⟨by show 10+j<100;omega,by show 10+j<100;omega,?_,?_,rfl⟩
   ·show 0<(ss (10+j)).size
    rw[sv j (by omega)];omega
   ·show(ss (10+j)).size<=_
    rw[sv j (by omega)];omega
 have base:=xm (P:=Tryz.prog) hS (by simp[pq,u4]) (fun q hq=>by have:=hq1 q hq;exact⟨by omega,this.2⟩) (by rw[ed];omega) hz (by decide) Zh (by rw[Vj];exact ym) hsg;have aqR:jH.q 151=aK:=hS.v (x:=51);have anK:∀j,jH.q (170+j)=bE aK (j*1):=fun j=>by
  have:=hS.v (x:=70+j);rw[show 70+j+100=170+j by omega]at this;rw[this];show(if 70+j<70 then _ else bE aK ((70+j-70)*1))=_;rw[if_neg (by omega),show 70+j-70=j by omega]
 obtain⟨ra,EW,jD⟩:=hb.UD;have ahu:∀{a b c:Nat},ss c=ss a++ss b->0<(ss b).size->(ss c).size<=8->b<100->∃s:ByteArray,jH.q b=.string s/\0<s.size/\jH.w (50+c)=jH.w (50+a)++cz s/\(jH.w (50+c)).length<=1000000:=fun{a b c} h1 h2 h3 h4=>
  ⟨ss b,ssz b h4,h2,by rw[hS.o,hS.o,h1,rR],by rw[hS.o,show(cz (ss c)).length=(ss c).size from eK _];omega⟩
 have hXX:iZ Tryz.prog (al4 cp rs.length) jH:=by
  refine{
   an:=aO base.an ⟨⟨ss 0,ssz 0 (by decide),(lh 0 (by simp)).1,hS.o 0,by have:=lh 0 (by simp);omega⟩,agm⟩,
   ap:=aO base.ap ⟨ahu (a:=0) (b:=1) (c:=5) rfl (lh 1 (by simp)).1 (lh 5 (by simp)).2 (by decide),ahu (a:=5) (b:=2) (c:=6) rfl (lh 2 (by simp)).1 (lh 6 (by simp)).2 (by decide),ahu (a:=6) (b:=3) (c:=7) rfl (lh 3 (by simp)).1 (lh 7 (by simp)).2 (by decide),agm⟩,
   bs:=aO base.bs ⟨⟨ss 7,ssz 7 (by decide),hS.o 7,(lh 7 (by simp)).1,by have:=lh 7 (by simp);omega⟩,agm⟩,
   ql:=base.ql,
   oi:= ?_,ol:= ?_,
   on:=⟨⟨ra,rs.length,EW,(hS.v (x:=50)).trans jD,n8'⟩,agm⟩}
  ·cases cp with
   |false=>exact agm
   |true=>
    refine cH fun j hj=>fun af hl vi hv=> ?_
    have hj:=AAA.1 hj;obtain⟨a1,a2,_⟩:=hb.vat hj;have hv:=Ki hv;subst hv;show(jH.q (170+j)).oneCell'=true/\∀w,(arF 23 (jH.q 151) _).run Tryz.prog w=.ok (jH.q (170+j)) w
    rw[anK,aqR];exact⟨a1,a2⟩
  ·cases cp with
   |false=>exact agm
   |true=>
    refine cH fun j hj=>fun w' hw'=> ?_
    have hj:=AAA.1 hj;obtain⟨_,_,a3⟩:=hb.vat hj;show∃u,(arJ 3 (jH.q (170+j))).run Tryz.prog w'=.ok u w'/\VR jH (.y .i64 (20+j)) u
    rw[anK];exact a3 ((hS.n (x:=20+j) (by omega)).trans (nV j)) fun r o hk=>hw' r o (hK5 r o (fb.sub r o hk))
 refine ad.runK (aw ah _ _) rfl 20 (cs:=c8.drop 2) ba wE hK5 (eZ hF hXX) (sS.trans (mF.trans hd)) (Y parts) (Ag.au (o:=Y parts) ⟨agm,⟨⟨rfl,rfl⟩,agm⟩,agm,agm⟩ hS.s hS.q hS.w hS.g) fun NT a6 w6 qT hK6 Ao Ap m1 m2 m3 m4=>⟨.inl rfl,Ao,?_⟩
 obtain⟨v,gE,ff⟩:=qT.leave ah (fn:=Tryz.f8) (l:=[.q 90,zI]) rfl;have hv:v=.tuple #[.string (ss 90),.int .i64 0]:=vT2 (x:=90) (s:=ss 90) (by rw[m2];rfl) (show VR NT (.t [.q 90,.i .i64 0]) v from ff);subst hv;have G2:=hg.trans iK;exact⟨_,gE,_,rfl,rfl,((G2.trans (gG.gb (by have:=G2.size;omega))).trans pV|>.trans Ap).grown⟩
end
def dH(n:Nat):Nat:=max 1 ((n+52)/53)
def aqS(r:Bool):aU:={bin:=[(.lss,.y .i64 0,.i .i64 0,.b false),(.quo,.y .i64 0,.i .i64 53,.y .i64 1),(.rem,.y .i64 0,.i .i64 53,cond r (.y .i64 2) (.i .i64 0)),(.add,.y .i64 1,cond r (.i .i64 1) (.i .i64 0),.y .i64 3)],mx:=(.i .i64 1,.y .i64 3,.y .i64 4)::cond r [(.i .i64 1,.y .i64 2,.y .i64 2)] []}
noncomputable def ndR(r:Bool):Bool:=dN (aI E3 (aqS r) {}) 100 17 [.y .i64 0] 0 [] (.y .i64 4) []
theorem aqT:([true,false].all ndR)=true:=by decide+kernel
theorem UK(n:Nat):dH n=max 1 (n/53+(if n%53=0 then 0 else 1)):=by
 unfold dH;split<;>omega
theorem KJ(K:Nat->Option Obj){n:Nat}(hn:n<=1000000):Quiet Tryz.prog K 17 [.int .i64 n] (· =.int .i64 (dH n)):=by
 have hb:∀r:Bool,ndR r=true:=fun r=>arD.1 aqT r (by cases r<;>decide)
 let y:Sym:=Hx (fun x=>match x with|0=>(n:Int)|1=>((n/53:Nat):Int)|2=>((n%53:Nat):Int)|3=>((n/53+(if n%53=0 then 0 else 1):Nat):Int)|_=>(dH n:Int)) (fun _=>b0);have hq:(n/53:Nat)<=n:=Nat.div_le_self _ _
 have hr:n%53<53:=Nat.mod_lt _ (by decide);have acN:dH n=max 1 (n/53+(if n%53=0 then 0 else 1)):=UK n;have key:∀r:Bool,r=decide (n%53≠0)->Quiet Tryz.prog K 17 [.int .i64 n] (· =.int .i64 (dH n)):=fun r PQ=>by
  have ba:=hb r;unfold ndR at ba;refine cC ah rfl ba y (fun φ e1 e2 _ _ hK=> ?_) (fun φ _ _ _ _ _=>eX) (fun w hw=>⟨φ0 y w,bc y w,rfl,J.cons (vY rfl) J.nil⟩) (fun φ e1 _ x hx=> ?_) ⟨_,_,Tryz.func17,rfl,rfl⟩
  ·have iv:∀x,aR φ.y (.y .i64 x)=some (.i64,y.s x):=fun x=>congrArg (fun z=>some (arC,z)) (agB e1 x)
   have m3:∃k x z,aR φ.y (.i .i64 1)=some (k,x)/\aR φ.y (.y .i64 3)=some (k,z)/\aR φ.y (.y .i64 4)=some (k,if z>x then z else x):=by
    refine⟨.i64,1,y.s 3,rfl,iv 3,?_⟩;rw[iv 4];show some (arC,(dH n:Int))=some (arC,if((n/53+(if n%53=0 then 0 else 1):Nat):Int)>1 then((n/53+(if n%53=0 then 0 else 1):Nat):Int)else 1)
    congr 2
    rw[acN];split<;>split<;>omega
   cases r with
   |true=>
    have bU:n%53≠0:=by simpa using PQ.symm
    refine⟨agm,⟨.lss (iv 0) rfl (decide_eq_false (by show ¬(n:Int)<0;omega)),.quo (iv 0) rfl (by decide) (iv 1) (fQ (by show eR ((n/53:Nat):Int);unfold eR;omega)),.rem (iv 0) rfl (by decide) (iv 2) (fQ (by show eR ((n%53:Nat):Int);unfold eR;omega)),
     .add (x:=((n/53:Nat):Int)) (y:=1) (iv 1) rfl ((iv 3).trans ?_) (fQ (by unfold eR;omega)),agm⟩,⟨m3,⟨.i64,1,((n%53:Nat):Int),rfl,iv 2,(iv 2).trans ?_⟩,agm⟩,agm,agm,agm,agm,agm,agm⟩
    ·show some (arC,((n/53+(if n%53=0 then 0 else 1):Nat):Int))=_
     rw[if_neg bU];rfl
    ·show some (arC,((n%53:Nat):Int))=some (arC,if((n%53:Nat):Int)>1 then((n%53:Nat):Int)else 1)
     split
     ·rfl
     ·congr 2;omega
   |false=>
    have he:n%53=0:=by simpa using PQ.symm
    refine⟨agm,⟨.lss (iv 0) rfl (decide_eq_false (by show ¬(n:Int)<0;omega)),.quo (iv 0) rfl (by decide) (iv 1) (fQ (by show eR ((n/53:Nat):Int);unfold eR;omega)),.rem (x:=(n:Int)) (y:=53) (iv 0) rfl (by decide) ?_ ?_,
     .add (x:=((n/53:Nat):Int)) (y:=0) (iv 1) rfl ((iv 3).trans ?_) (fQ (by unfold eR;omega)),agm⟩,⟨m3,agm⟩,agm,agm,agm,agm,agm,agm⟩
    ·show some (arC,(0:Int))=some (arC,((n%53:Nat):Int))
     rw[he];rfl
    ·show cZ .i64 ((n%53:Nat):Int)=true
     rw[he];rfl
    ·show some (arC,((n/53+(if n%53=0 then 0 else 1):Nat):Int))=_
     rw[if_pos he];rfl
  ·simp only[VR]at hx
   rw[hx,e1];rfl
 exact key _ rfl
def ahv(k:Nat):aU:={qc:=[(17,[.y .i64 0],.i .i64 k)]}
def ahw(k:Nat):XF:={ql:=[(0,0)],ss:=(arM (k-1)).flatMap fun(j:Nat)=>([(j,0,some 53,100+j),(j,53,none,j+1)]:List (Nat×Nat×Option Nat×Nat))}
noncomputable def UL(k:Nat):Bool:=match tX (aI E3 (ahv k) (ahw k)) (exec (aI E3 (ahv k) (ahw k)) 3000) 9 [.i .i64 1,.i .i64 1,.q 0] (ak 0 [])with
 |some (.t [.sl (some _) n (.kn _),.i .i64 e],_)=>Nat.beq n k&&decide (e=0)
 |_=>false
theorem aqU:((List.range' 1 20).all UL)=true:=by decide+kernel
noncomputable def ctB:Bool:=dN (aI E3 {qc:=[(17,[.y .i64 0],.y .i64 1)],bin:=[(.sub,.i .i64 64,.y .i64 1,.y .i64 2),(.gtr,.i .i64 1,.y .i64 2,.b true)]} {ql:=[(0,0)]}) 100 9 [.i .i64 1,.i .i64 1,.q 0] 0 [] (.t [eD,.i .i64 2]) []
theorem aqV:ctB=true:=by decide+kernel
end Go.Ev
