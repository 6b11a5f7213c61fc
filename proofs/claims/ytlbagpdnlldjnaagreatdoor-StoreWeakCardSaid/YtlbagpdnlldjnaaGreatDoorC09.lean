/- All runs. -/
import Derived.Test.YtlbagpdnlldjnaaGreatDoorB23
import Derived.Test.YtlbagpdnlldjnaaGreatDoorB24
import Derived.Test.YtlbagpdnlldjnaaGreatDoorB25
import Derived.Test.YtlbagpdnlldjnaaGreatDoorB26
import Derived.Test.YtlbagpdnlldjnaaGreatDoorC01
import Derived.Test.YtlbagpdnlldjnaaGreatDoorA13
import Derived.RowKit
set_option linter.all false
set_option maxRecDepth 1000000
set_option maxHeartbeats 0
namespace Go.Ev
noncomputable section
theorem like_all : Like (envT EB (mkT A11)) := like_of okA11
theorem runs_false : ∀ m, m < 50 → (fun j => rootB (envT EB (mkT A11)) j false) m = true := fun m h => by
 by_cases h0 : m < 1
 ·exact ckR_ok runfalse_0 m (by omega) (by omega)
 by_cases h1 : m < 2
 ·exact ckR_ok runfalse_1 m (by omega) (by omega)
 by_cases h2 : m < 3
 ·exact ckR_ok runfalse_2 m (by omega) (by omega)
 by_cases h3 : m < 4
 ·exact ckR_ok runfalse_3 m (by omega) (by omega)
 by_cases h4 : m < 5
 ·exact ckR_ok runfalse_4 m (by omega) (by omega)
 by_cases h5 : m < 6
 ·exact ckR_ok runfalse_5 m (by omega) (by omega)
 by_cases h6 : m < 7
 ·exact ckR_ok runfalse_6 m (by omega) (by omega)
 by_cases h7 : m < 8
 ·exact ckR_ok runfalse_7 m (by omega) (by omega)
 by_cases h8 : m < 9
 ·exact ckR_ok runfalse_8 m (by omega) (by omega)
 by_cases h9 : m < 10
 ·exact ckR_ok runfalse_9 m (by omega) (by omega)
 by_cases h10 : m < 11
 ·exact ckR_ok runfalse_10 m (by omega) (by omega)
 by_cases h11 : m < 12
 ·exact ckR_ok runfalse_11 m (by omega) (by omega)
 by_cases h12 : m < 13
 ·exact ckR_ok runfalse_12 m (by omega) (by omega)
 by_cases h13 : m < 14
 ·exact ckR_ok runfalse_13 m (by omega) (by omega)
 by_cases h14 : m < 15
 ·exact ckR_ok runfalse_14 m (by omega) (by omega)
 by_cases h15 : m < 16
 ·exact ckR_ok runfalse_15 m (by omega) (by omega)
 by_cases h16 : m < 17
 ·exact ckR_ok runfalse_16 m (by omega) (by omega)
 by_cases h17 : m < 18
 ·exact ckR_ok runfalse_17 m (by omega) (by omega)
 by_cases h18 : m < 19
 ·exact ckR_ok runfalse_18 m (by omega) (by omega)
 by_cases h19 : m < 20
 ·exact ckR_ok runfalse_19 m (by omega) (by omega)
 by_cases h20 : m < 21
 ·exact ckR_ok runfalse_20 m (by omega) (by omega)
 by_cases h21 : m < 22
 ·exact ckR_ok runfalse_21 m (by omega) (by omega)
 by_cases h22 : m < 23
 ·exact ckR_ok runfalse_22 m (by omega) (by omega)
 by_cases h23 : m < 24
 ·exact ckR_ok runfalse_23 m (by omega) (by omega)
 by_cases h24 : m < 25
 ·exact ckR_ok runfalse_24 m (by omega) (by omega)
 by_cases h25 : m < 26
 ·exact ckR_ok runfalse_25 m (by omega) (by omega)
 by_cases h26 : m < 27
 ·exact ckR_ok runfalse_26 m (by omega) (by omega)
 by_cases h27 : m < 28
 ·exact ckR_ok runfalse_27 m (by omega) (by omega)
 by_cases h28 : m < 29
 ·exact ckR_ok runfalse_28 m (by omega) (by omega)
 by_cases h29 : m < 30
 ·exact ckR_ok runfalse_29 m (by omega) (by omega)
 by_cases h30 : m < 31
 ·exact ckR_ok runfalse_30 m (by omega) (by omega)
 by_cases h31 : m < 32
 ·exact ckR_ok runfalse_31 m (by omega) (by omega)
 by_cases h32 : m < 33
 ·exact ckR_ok runfalse_32 m (by omega) (by omega)
 by_cases h33 : m < 34
 ·exact ckR_ok runfalse_33 m (by omega) (by omega)
 by_cases h34 : m < 35
 ·exact ckR_ok runfalse_34 m (by omega) (by omega)
 by_cases h35 : m < 36
 ·exact ckR_ok runfalse_35 m (by omega) (by omega)
 by_cases h36 : m < 37
 ·exact ckR_ok runfalse_36 m (by omega) (by omega)
 by_cases h37 : m < 38
 ·exact ckR_ok runfalse_37 m (by omega) (by omega)
 by_cases h38 : m < 39
 ·exact ckR_ok runfalse_38 m (by omega) (by omega)
 by_cases h39 : m < 40
 ·exact ckR_ok runfalse_39 m (by omega) (by omega)
 by_cases h40 : m < 41
 ·exact ckR_ok runfalse_40 m (by omega) (by omega)
 by_cases h41 : m < 42
 ·exact ckR_ok runfalse_41 m (by omega) (by omega)
 by_cases h42 : m < 43
 ·exact ckR_ok runfalse_42 m (by omega) (by omega)
 by_cases h43 : m < 44
 ·exact ckR_ok runfalse_43 m (by omega) (by omega)
 by_cases h44 : m < 45
 ·exact ckR_ok runfalse_44 m (by omega) (by omega)
 by_cases h45 : m < 46
 ·exact ckR_ok runfalse_45 m (by omega) (by omega)
 by_cases h46 : m < 47
 ·exact ckR_ok runfalse_46 m (by omega) (by omega)
 by_cases h47 : m < 48
 ·exact ckR_ok runfalse_47 m (by omega) (by omega)
 by_cases h48 : m < 49
 ·exact ckR_ok runfalse_48 m (by omega) (by omega)
 exact ckR_ok runfalse_49 m (by omega) (by omega)
theorem runs_true : ∀ m, m < 50 → (fun j => rootB (envT EB (mkT A11)) j true) m = true := fun m h => by
 by_cases h0 : m < 1
 ·exact ckR_ok runtrue_0 m (by omega) (by omega)
 by_cases h1 : m < 2
 ·exact ckR_ok runtrue_1 m (by omega) (by omega)
 by_cases h2 : m < 3
 ·exact ckR_ok runtrue_2 m (by omega) (by omega)
 by_cases h3 : m < 4
 ·exact ckR_ok runtrue_3 m (by omega) (by omega)
 by_cases h4 : m < 5
 ·exact ckR_ok runtrue_4 m (by omega) (by omega)
 by_cases h5 : m < 6
 ·exact ckR_ok runtrue_5 m (by omega) (by omega)
 by_cases h6 : m < 7
 ·exact ckR_ok runtrue_6 m (by omega) (by omega)
 by_cases h7 : m < 8
 ·exact ckR_ok runtrue_7 m (by omega) (by omega)
 by_cases h8 : m < 9
 ·exact ckR_ok runtrue_8 m (by omega) (by omega)
 by_cases h9 : m < 10
 ·exact ckR_ok runtrue_9 m (by omega) (by omega)
 by_cases h10 : m < 11
 ·exact ckR_ok runtrue_10 m (by omega) (by omega)
 by_cases h11 : m < 12
 ·exact ckR_ok runtrue_11 m (by omega) (by omega)
 by_cases h12 : m < 13
 ·exact ckR_ok runtrue_12 m (by omega) (by omega)
 by_cases h13 : m < 14
 ·exact ckR_ok runtrue_13 m (by omega) (by omega)
 by_cases h14 : m < 15
 ·exact ckR_ok runtrue_14 m (by omega) (by omega)
 by_cases h15 : m < 16
 ·exact ckR_ok runtrue_15 m (by omega) (by omega)
 by_cases h16 : m < 17
 ·exact ckR_ok runtrue_16 m (by omega) (by omega)
 by_cases h17 : m < 18
 ·exact ckR_ok runtrue_17 m (by omega) (by omega)
 by_cases h18 : m < 19
 ·exact ckR_ok runtrue_18 m (by omega) (by omega)
 by_cases h19 : m < 20
 ·exact ckR_ok runtrue_19 m (by omega) (by omega)
 by_cases h20 : m < 21
 ·exact ckR_ok runtrue_20 m (by omega) (by omega)
 by_cases h21 : m < 22
 ·exact ckR_ok runtrue_21 m (by omega) (by omega)
 by_cases h22 : m < 23
 ·exact ckR_ok runtrue_22 m (by omega) (by omega)
 by_cases h23 : m < 24
 ·exact ckR_ok runtrue_23 m (by omega) (by omega)
 by_cases h24 : m < 25
 ·exact ckR_ok runtrue_24 m (by omega) (by omega)
 by_cases h25 : m < 26
 ·exact ckR_ok runtrue_25 m (by omega) (by omega)
 by_cases h26 : m < 27
 ·exact ckR_ok runtrue_26 m (by omega) (by omega)
 by_cases h27 : m < 28
 ·exact ckR_ok runtrue_27 m (by omega) (by omega)
 by_cases h28 : m < 29
 ·exact ckR_ok runtrue_28 m (by omega) (by omega)
 by_cases h29 : m < 30
 ·exact ckR_ok runtrue_29 m (by omega) (by omega)
 by_cases h30 : m < 31
 ·exact ckR_ok runtrue_30 m (by omega) (by omega)
 by_cases h31 : m < 32
 ·exact ckR_ok runtrue_31 m (by omega) (by omega)
 by_cases h32 : m < 33
 ·exact ckR_ok runtrue_32 m (by omega) (by omega)
 by_cases h33 : m < 34
 ·exact ckR_ok runtrue_33 m (by omega) (by omega)
 by_cases h34 : m < 35
 ·exact ckR_ok runtrue_34 m (by omega) (by omega)
 by_cases h35 : m < 36
 ·exact ckR_ok runtrue_35 m (by omega) (by omega)
 by_cases h36 : m < 37
 ·exact ckR_ok runtrue_36 m (by omega) (by omega)
 by_cases h37 : m < 38
 ·exact ckR_ok runtrue_37 m (by omega) (by omega)
 by_cases h38 : m < 39
 ·exact ckR_ok runtrue_38 m (by omega) (by omega)
 by_cases h39 : m < 40
 ·exact ckR_ok runtrue_39 m (by omega) (by omega)
 by_cases h40 : m < 41
 ·exact ckR_ok runtrue_40 m (by omega) (by omega)
 by_cases h41 : m < 42
 ·exact ckR_ok runtrue_41 m (by omega) (by omega)
 by_cases h42 : m < 43
 ·exact ckR_ok runtrue_42 m (by omega) (by omega)
 by_cases h43 : m < 44
 ·exact ckR_ok runtrue_43 m (by omega) (by omega)
 by_cases h44 : m < 45
 ·exact ckR_ok runtrue_44 m (by omega) (by omega)
 by_cases h45 : m < 46
 ·exact ckR_ok runtrue_45 m (by omega) (by omega)
 by_cases h46 : m < 47
 ·exact ckR_ok runtrue_46 m (by omega) (by omega)
 by_cases h47 : m < 48
 ·exact ckR_ok runtrue_47 m (by omega) (by omega)
 by_cases h48 : m < 49
 ·exact ckR_ok runtrue_48 m (by omega) (by omega)
 exact ckR_ok runtrue_49 m (by omega) (by omega)
theorem runs : ∀ m, m < 50 → ∀ kept, rootB (envT EB (mkT A11)) m kept = true
 | m, h, false => runs_false m h
 | m, h, true => runs_true m h
end
end Go.Ev
namespace Go.Proofs.YtlbagpdnlldjnaaGreatDoor
open Go.ChangeShapes Go.WideShapes Go.ChangeAt Go.RowKit
set_option maxRecDepth 100000
theorem wk_ok (os : Os) : Input.okWideB Tryz.prog ((world1 os).forCall (fun _ _ => 0) ⟨#[], #[.int .i64 0, .bool false], []⟩) 3 ⟨#[], #[.int .i64 0, .bool false], []⟩ = true := by kernel_rfl
theorem wk_pre (os : Os) (H : Type) (enc : TypeId × Value → H) : Rows.storeWeakSpec.preB enc Tryz.prog Tryz.f3 [] false ((world1 os).forCall (fun _ _ => 0) ⟨#[], #[.int .i64 0, .bool false], []⟩).memory #[.int .i64 0, .bool false] 8 = true := by kernel_rfl
theorem wk_sized (os : Os) (H : Type) (enc : TypeId × Value → H) : Rows.storeWeakSpec.sizedB enc Tryz.prog Tryz.f3 false ((world1 os).forCall (fun _ _ => 0) ⟨#[], #[.int .i64 0, .bool false], []⟩).memory #[.int .i64 0, .bool false] 8 = true := by kernel_rfl
theorem wk_noInit : Tryz.prog.inits.idxOf? 3 = Option.none := by kernel_rfl
noncomputable def vE : String × DataW Unit := (plainL[0]?).getD (Go.Ev.esN, .nil)
noncomputable def vF : String × DataW Unit := (plainL[1]?).getD (Go.Ev.esN, .nil)
def subD : DataW Unit → DataW Unit
 | .iface _ d => d
 | _ => .nil
theorem vE_at : plainL[0]? = some vE := by kernel_rfl
theorem vF_at : plainL[1]? = some vF := by kernel_rfl
theorem vE_d : vE.2 = .iface Go.Ev.esN (subD vE.2) := by kernel_rfl
theorem vF_d : vF.2 = .iface Go.Ev.esN (subD vF.2) := by kernel_rfl
theorem vE_g : Tryz.prog.globalNamed vE.1 = some 1 := by kernel_rfl
theorem vF_g : Tryz.prog.globalNamed vF.1 = some 2 := by kernel_rfl
noncomputable def vH : String × DataW Unit := ((listed.filter fun x => x.2.handleName?.isSome)[0]?).getD (Go.Ev.esN, .nil)
theorem vH_at : (listed.filter fun x => x.2.handleName?.isSome)[0]? = some vH := by kernel_rfl
theorem vH_f : vH.2.funcsIn? = Option.none := by kernel_rfl
theorem vH_n : vH.2.handleName? = some Go.Ev.errB := by kernel_rfl
theorem vH_g : Tryz.prog.globalNamed vH.1 = some 0 := by kernel_rfl
theorem listed_heap (w w' : World) (_ : Array Value) (h : w.heap = w'.heap) (k : laidMetH Tryz.prog listed w) : laidMetH Tryz.prog listed w' := k.of_heap h
theorem storeWeak_lifted (os : Os) (started : os.Started) (H : Type) (enc : TypeId × Value → H) :
  ReturnsInHanded {} Tryz.checked os 3 .any (fun w args => (Rows.storeWeakSpec.pre enc Tryz.prog Tryz.f3 [] false w args ∧ laidMetH Tryz.prog listed w) ∧ sizedMet enc Tryz.prog Tryz.f3 (OpenSpec.ofChange Rows.storeWeakSpec) false w args)
   (Rows.storeWeakSpec.post enc Tryz.prog Tryz.f3 false true false false) := by
 refine Go.Ev.handed_shaped (C := Tryz.checked) (X := fun w _ => laidMetH Tryz.prog listed w) listed_heap own started wk_noInit Tryz.func3
  (ChangeSpec.witness_shaped (enc := enc) (C := Tryz.checked) (os := os) (X := fun w _ => laidMetH Tryz.prog listed w) false (world1 os) #[.int .i64 0, .bool false] 8 (world1_os os)
   (world1_shaped os _) (wk_ok os) (wk_pre os H enc) (wk_sized os H enc) (world1_met os _)) ?_
 intro W base args ds gs before hsh hval0 hW hX
 have hval : ∀ (j : Nat) t v, Tryz.f3.params[j]? = some t → args[j]? = some v → Value.okWide Tryz.prog W .any base t v := hval0
 have hW' := hW
 obtain ⟨p, q, hA0, hV, rfl, _, _⟩ := hW
 have hA : DataW.TrodAll enc Tryz.prog W 0 (fun _ => true) true Tryz.f3.params.toList args.toList ds p := hA0
 rw [Tryz.params3] at hA hval
 obtain ⟨v0, v1, d0, d1, p0, p1, rfl, rfl, rfl, h0, h1⟩ := trodAll_two hA
 obtain ⟨rfl, rfl⟩ := trodVars_none hV
 obtain ⟨x, rfl, rfl, rfl, wx⟩ := open_int Tryz.underlying3 (hval 0 3 v0 rfl rfl) h0
 obtain ⟨y, rfl, rfl, rfl⟩ := open_bool Tryz.underlying4 (hval 1 4 v1 rfl rfl) h1
 simp only [List.append_nil] at hW'
 have hx : Go.Ev.InI x := by simpa [Go.Ev.InI, Lit.wf, IntKind.min, IntKind.max, IntKind.signed, IntKind.bits] using wx
 have hL : laidMet Tryz.prog plainL W := (laidMetH_iff.1 hX).1
 have r1 : Lib.VarReads Tryz.prog W vE.1 vE.2 := Lib.laidMet.reads hL (List.mem_of_getElem? vE_at)
 have r2 : Lib.VarReads Tryz.prog W vF.1 vF.2 := Lib.laidMet.reads hL (List.mem_of_getElem? vF_at)
 rw [vE_d] at r1
 rw [vF_d] at r2
 have c := Go.Ev.storeweak_at Go.Ev.like_all Go.Ev.runs y hx hsh (Go.Ev.handle_cell (laidMetH_iff.1 hX).2 (List.mem_of_getElem? vH_at) vH_f vH_n vH_g) vE_g vF_g r1 r2
 refine c.mono fun e W' ⟨he, hb⟩ => ?_
 subst he
 exact ⟨_, rfl, _, _, _, [], [], [], hW', trodAll_mk1 (shut_bool Tryz.underlying4 _), trodAll_mk2 (shut_int Tryz.underlying3 wx) (shut_bool Tryz.underlying4 _), rfl, hb.frame _, fun h => by cases h⟩
end Go.Proofs.YtlbagpdnlldjnaaGreatDoor
