/- A part of what LimitFits rests on. -/
import Derived.Test.YtnpajahfimaakaaGreatDoorA45
import Derived.Test.YtnpajahfimaakaaGreatDoorA44
import Derived.Lib.LaidU8T
import Derived.LaidSub
import Derived.RowKit
import Derived.Test.YtnpajahfimaakaaGreatDoorA01
set_option linter.all false
namespace Go.Proofs.YtnpajahfimaakaaGreatDoor
section
open Go.ChangeShapes Go.WideShapes Go.ChangeAt Go.RowKit Go.Lib
set_option maxRecDepth 100000
theorem OX{W:World}(h:laidMetH Tryz.prog listed W):Lib.Utf8Tabs 4 5 W:=have hL:laidMet Tryz.prog mD W:=(laidMetH_iff.1 h).1
 utf8Tabs_of_readsT (U8Types.of196 Tryz.CT) ⟨by kernel_rfl,by kernel_rfl,by kernel_rfl,by kernel_rfl,by kernel_rfl,by kernel_rfl,by kernel_rfl⟩
  (Lib.laidMet.reads hL (List.mem_of_getElem? (i:=8) (by kernel_rfl))) (Lib.laidMet.reads hL (List.mem_of_getElem? (i:=3) (by kernel_rfl)))
theorem ahA{W:World}(h:laidMetH Tryz.prog listed W):Go.Ev.tu (Go.Ev.WK W):=by
 obtain⟨h1,h2⟩:=OX h;intro w hw;have hc:∀{r o:Nat} {v:Value},W.cell? ⟨r,o,none⟩=some v->w.cell? ⟨r,o,none⟩=some v:=by
  intro r o v hv;simp only[World.cell?]at hv⊢;cases hh:W.heap[r]?with
  |none=>rw[hh]at hv;cases hv
  |some ob=>rw[hh]at hv;rw[hw r ob hh];exact hv
 exact⟨fun c nK=>hc (h1 c nK),fun i hi=>⟨hc (h2 i hi).1,hc (h2 i hi).2⟩⟩
def KR(t:TypeId):Bool:=[25,4,3,22,23,73,66,116,69,67,146,71,56].contains t
theorem H4:([25,4,3,22,23,73,66,116,69,67,146,71,56].all fun t=>match Tryz.prog.underlying t with|some d=>Go.Ev.ar1 Tryz.prog KR d|_=>false)=true:=by kernel_rfl
theorem KS(t:TypeId)(d:TypeDesc)(hS:KR t=true)(h:Tryz.prog.underlying t=some d):Go.Ev.ar1 Tryz.prog KR d=true:=by
 have:=List.all_eq_true.1 H4 t (List.contains_iff_mem.1 hS);simp only[h]at this;exact this
theorem UU{w w':World}(h:Go.Ev.Grown w w'):Below w.heap.size w w':=⟨h.os,h.tape,h.output,h.size,h.same⟩
end
section
open Go.ChangeShapes Go.WideShapes Go.ChangeAt Go.RowKit
def KT:Value:=.agg #[.bool false,.int .i64 0,.int .i64 0,.slice none 0 0,.slice none 0 0]
set_option maxRecDepth 100000
theorem YO(os:Os):Input.okWideB Tryz.prog ((oJ os).forCall (fun _ _=>0) ⟨#[],#[KT,.int .i64 0],[]⟩) 3 ⟨#[],#[KT,.int .i64 0],[]⟩=true:=by kernel_rfl
theorem UW(os:Os)(H:Type)(enc:TypeId×Value->H):Rows.limitFitsSpec.preB enc Tryz.prog Tryz.f3 [] false ((oJ os).forCall (fun _ _=>0) ⟨#[],#[KT,.int .i64 0],[]⟩).memory #[KT,.int .i64 0] 8=true:=by kernel_rfl
theorem KU(os:Os)(H:Type)(enc:TypeId×Value->H):Rows.limitFitsSpec.sizedB enc Tryz.prog Tryz.f3 false ((oJ os).forCall (fun _ _=>0) ⟨#[],#[KT,.int .i64 0],[]⟩).memory #[KT,.int .i64 0] 8=true:=by kernel_rfl
theorem H5:Tryz.prog.inits.idxOf? 3=Option.none:=by kernel_rfl
theorem H7(w w':World)(_:Array Value)(h:w.heap=w'.heap)(k:laidMetH Tryz.prog listed w):laidMetH Tryz.prog listed w':=k.of_heap h
theorem xC(os:Os)(started:os.Started)(H:Type)(enc:TypeId×Value->H):
  ReturnsInHanded {} Tryz.checked os 3 .any (fun w args=>(Rows.limitFitsSpec.pre enc Tryz.prog Tryz.f3 [] false w args/\laidMetH Tryz.prog listed w)/\sizedMet enc Tryz.prog Tryz.f3 (OpenSpec.ofChange Rows.limitFitsSpec) false w args)
   (Rows.limitFitsSpec.post enc Tryz.prog Tryz.f3 false true false false):=by
 refine returnsInHanded_of_change_and (C:=Tryz.checked) (X:=fun w _=>laidMetH Tryz.prog listed w) H7 own started H5 Tryz.func3
  (ChangeSpec.witness_shaped (enc:=enc) (C:=Tryz.checked) (os:=os) (X:=fun w _=>laidMetH Tryz.prog listed w) false (oJ os) #[KT,.int .i64 0] 8 (OW os)
   (Cd os _) (YO os) (UW os H enc) (KU os H enc) (KQ os _)) ?_
 intro W base args ds gs before anR hW _ _ hX _;have mZ:∀(j:Nat) t v,Tryz.f3.params[j]? =some t->args[j]? =some v->Value.okWide Tryz.prog W .any base t v:=anR
 have hW':=hW;obtain⟨p,q,hA0,hV,rfl,_,_⟩:=hW;have hA:DataW.TrodAll enc Tryz.prog W 0 (fun _=>true) true Tryz.f3.params.toList args.toList ds p:=hA0;rw[Tryz.params3]at hA mZ;obtain⟨v0,v1,d0,d1,p0,p1,rfl,rfl,rfl,h0,h1⟩:=trodAll_two hA;obtain⟨rfl,rfl⟩:=trodVars_none hV;obtain⟨y,rfl,rfl,rfl,wy⟩:=open_int Tryz.underlying3 (mZ 1 3 v1 rfl rfl) h1;have hv0:=mZ 0 25 v0 rfl rfl;unfold Value.okWide at hv0;rw[Tryz.underlying25]at hv0;obtain⟨cs,rfl,_,_⟩:=hv0;obtain⟨n,hn⟩:=h0;obtain⟨b,hb,qX⟩:=Go.Ev.US (cs:=cs.toList) hn;have ib:(Value.agg cs)=b.W:=congrArg Value.agg (Array.ext' hb);simp only[List.append_nil]at hW';have hy:eR y:=by simpa[Lit.wf,IntKind.min,IntKind.max,IntKind.signed,IntKind.bits,eR]using wy
 have c:Calls Tryz.prog 3 #[.agg cs,.int .i64 y] W fun e W'=>e=.returned (.bool true)/\Go.Ev.Grown W W':=by
  rw[ib];exact callsIn_wide.1 (Go.Ev.EX (ahA hX) qX hy 0 (fun _ _ h=>h))
 refine c.mono fun e W' ⟨he,hg⟩=> ?_
 subst he;have h0':DataW.Trod enc Tryz.prog W' 0 (fun b=>decide (b<W.heap.size)) true 25 (.agg cs) d0 p0:=
  Go.Ev.KO KS (fun b hb=>decide_eq_true hb) (fun r hr=>hg.same r hr) rfl ⟨n,hn⟩
 exact⟨_,rfl,_,_,_,[],p0++[],[],hW',trodAll_mk1 (shut_bool Tryz.underlying4 _),trodAll_mk2 h0' (shut_int Tryz.underlying3 wy),rfl,(UU hg).frame _,fun h=>by cases h⟩
end
end Go.Proofs.YtnpajahfimaakaaGreatDoor
