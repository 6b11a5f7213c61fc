/- All runs. -/
import Derived.Test.YtpamikcnbnkgkaaGreatDoorB30
import Derived.Test.YtpamikcnbnkgkaaGreatDoorB31
import Derived.Test.YtpamikcnbnkgkaaGreatDoorB32
import Derived.Test.YtpamikcnbnkgkaaGreatDoorC01
import Derived.Test.YtpamikcnbnkgkaaGreatDoorA13
import Derived.RowKit
set_option linter.all false
set_option maxRecDepth 1000000
set_option maxHeartbeats 0
namespace Go.Ev
noncomputable section
theorem like_all : Like (envT EB (mkT A11)) := like_of okA11
theorem runs_0 : ∀ m, m < 50 → (fun j => rootB (envT EB (mkT A11)) 0 j) m = true := fun m h => by
 by_cases h0 : m < 1
 ·exact ckR_ok run0_0 m (by omega) (by omega)
 by_cases h1 : m < 2
 ·exact ckR_ok run0_1 m (by omega) (by omega)
 by_cases h2 : m < 3
 ·exact ckR_ok run0_2 m (by omega) (by omega)
 by_cases h3 : m < 4
 ·exact ckR_ok run0_3 m (by omega) (by omega)
 by_cases h4 : m < 5
 ·exact ckR_ok run0_4 m (by omega) (by omega)
 by_cases h5 : m < 6
 ·exact ckR_ok run0_5 m (by omega) (by omega)
 by_cases h6 : m < 7
 ·exact ckR_ok run0_6 m (by omega) (by omega)
 by_cases h7 : m < 8
 ·exact ckR_ok run0_7 m (by omega) (by omega)
 by_cases h8 : m < 9
 ·exact ckR_ok run0_8 m (by omega) (by omega)
 by_cases h9 : m < 10
 ·exact ckR_ok run0_9 m (by omega) (by omega)
 by_cases h10 : m < 11
 ·exact ckR_ok run0_10 m (by omega) (by omega)
 by_cases h11 : m < 12
 ·exact ckR_ok run0_11 m (by omega) (by omega)
 by_cases h12 : m < 13
 ·exact ckR_ok run0_12 m (by omega) (by omega)
 by_cases h13 : m < 14
 ·exact ckR_ok run0_13 m (by omega) (by omega)
 by_cases h14 : m < 15
 ·exact ckR_ok run0_14 m (by omega) (by omega)
 by_cases h15 : m < 16
 ·exact ckR_ok run0_15 m (by omega) (by omega)
 by_cases h16 : m < 17
 ·exact ckR_ok run0_16 m (by omega) (by omega)
 by_cases h17 : m < 18
 ·exact ckR_ok run0_17 m (by omega) (by omega)
 by_cases h18 : m < 19
 ·exact ckR_ok run0_18 m (by omega) (by omega)
 by_cases h19 : m < 20
 ·exact ckR_ok run0_19 m (by omega) (by omega)
 by_cases h20 : m < 21
 ·exact ckR_ok run0_20 m (by omega) (by omega)
 by_cases h21 : m < 22
 ·exact ckR_ok run0_21 m (by omega) (by omega)
 by_cases h22 : m < 23
 ·exact ckR_ok run0_22 m (by omega) (by omega)
 by_cases h23 : m < 24
 ·exact ckR_ok run0_23 m (by omega) (by omega)
 by_cases h24 : m < 25
 ·exact ckR_ok run0_24 m (by omega) (by omega)
 by_cases h25 : m < 26
 ·exact ckR_ok run0_25 m (by omega) (by omega)
 by_cases h26 : m < 27
 ·exact ckR_ok run0_26 m (by omega) (by omega)
 by_cases h27 : m < 28
 ·exact ckR_ok run0_27 m (by omega) (by omega)
 by_cases h28 : m < 29
 ·exact ckR_ok run0_28 m (by omega) (by omega)
 by_cases h29 : m < 30
 ·exact ckR_ok run0_29 m (by omega) (by omega)
 by_cases h30 : m < 31
 ·exact ckR_ok run0_30 m (by omega) (by omega)
 by_cases h31 : m < 32
 ·exact ckR_ok run0_31 m (by omega) (by omega)
 by_cases h32 : m < 33
 ·exact ckR_ok run0_32 m (by omega) (by omega)
 by_cases h33 : m < 34
 ·exact ckR_ok run0_33 m (by omega) (by omega)
 by_cases h34 : m < 35
 ·exact ckR_ok run0_34 m (by omega) (by omega)
 by_cases h35 : m < 36
 ·exact ckR_ok run0_35 m (by omega) (by omega)
 by_cases h36 : m < 37
 ·exact ckR_ok run0_36 m (by omega) (by omega)
 by_cases h37 : m < 38
 ·exact ckR_ok run0_37 m (by omega) (by omega)
 by_cases h38 : m < 39
 ·exact ckR_ok run0_38 m (by omega) (by omega)
 by_cases h39 : m < 40
 ·exact ckR_ok run0_39 m (by omega) (by omega)
 by_cases h40 : m < 41
 ·exact ckR_ok run0_40 m (by omega) (by omega)
 by_cases h41 : m < 42
 ·exact ckR_ok run0_41 m (by omega) (by omega)
 by_cases h42 : m < 43
 ·exact ckR_ok run0_42 m (by omega) (by omega)
 by_cases h43 : m < 44
 ·exact ckR_ok run0_43 m (by omega) (by omega)
 by_cases h44 : m < 45
 ·exact ckR_ok run0_44 m (by omega) (by omega)
 by_cases h45 : m < 46
 ·exact ckR_ok run0_45 m (by omega) (by omega)
 by_cases h46 : m < 47
 ·exact ckR_ok run0_46 m (by omega) (by omega)
 by_cases h47 : m < 48
 ·exact ckR_ok run0_47 m (by omega) (by omega)
 by_cases h48 : m < 49
 ·exact ckR_ok run0_48 m (by omega) (by omega)
 exact ckR_ok run0_49 m (by omega) (by omega)
theorem runs_1 : ∀ m, m < 50 → (fun j => rootB (envT EB (mkT A11)) 1 j) m = true := fun m h => by
 by_cases h0 : m < 1
 ·exact ckR_ok run1_0 m (by omega) (by omega)
 by_cases h1 : m < 2
 ·exact ckR_ok run1_1 m (by omega) (by omega)
 by_cases h2 : m < 3
 ·exact ckR_ok run1_2 m (by omega) (by omega)
 by_cases h3 : m < 4
 ·exact ckR_ok run1_3 m (by omega) (by omega)
 by_cases h4 : m < 5
 ·exact ckR_ok run1_4 m (by omega) (by omega)
 by_cases h5 : m < 6
 ·exact ckR_ok run1_5 m (by omega) (by omega)
 by_cases h6 : m < 7
 ·exact ckR_ok run1_6 m (by omega) (by omega)
 by_cases h7 : m < 8
 ·exact ckR_ok run1_7 m (by omega) (by omega)
 by_cases h8 : m < 9
 ·exact ckR_ok run1_8 m (by omega) (by omega)
 by_cases h9 : m < 10
 ·exact ckR_ok run1_9 m (by omega) (by omega)
 by_cases h10 : m < 11
 ·exact ckR_ok run1_10 m (by omega) (by omega)
 by_cases h11 : m < 12
 ·exact ckR_ok run1_11 m (by omega) (by omega)
 by_cases h12 : m < 13
 ·exact ckR_ok run1_12 m (by omega) (by omega)
 by_cases h13 : m < 14
 ·exact ckR_ok run1_13 m (by omega) (by omega)
 by_cases h14 : m < 15
 ·exact ckR_ok run1_14 m (by omega) (by omega)
 by_cases h15 : m < 16
 ·exact ckR_ok run1_15 m (by omega) (by omega)
 by_cases h16 : m < 17
 ·exact ckR_ok run1_16 m (by omega) (by omega)
 by_cases h17 : m < 18
 ·exact ckR_ok run1_17 m (by omega) (by omega)
 by_cases h18 : m < 19
 ·exact ckR_ok run1_18 m (by omega) (by omega)
 by_cases h19 : m < 20
 ·exact ckR_ok run1_19 m (by omega) (by omega)
 by_cases h20 : m < 21
 ·exact ckR_ok run1_20 m (by omega) (by omega)
 by_cases h21 : m < 22
 ·exact ckR_ok run1_21 m (by omega) (by omega)
 by_cases h22 : m < 23
 ·exact ckR_ok run1_22 m (by omega) (by omega)
 by_cases h23 : m < 24
 ·exact ckR_ok run1_23 m (by omega) (by omega)
 by_cases h24 : m < 25
 ·exact ckR_ok run1_24 m (by omega) (by omega)
 by_cases h25 : m < 26
 ·exact ckR_ok run1_25 m (by omega) (by omega)
 by_cases h26 : m < 27
 ·exact ckR_ok run1_26 m (by omega) (by omega)
 by_cases h27 : m < 28
 ·exact ckR_ok run1_27 m (by omega) (by omega)
 by_cases h28 : m < 29
 ·exact ckR_ok run1_28 m (by omega) (by omega)
 by_cases h29 : m < 30
 ·exact ckR_ok run1_29 m (by omega) (by omega)
 by_cases h30 : m < 31
 ·exact ckR_ok run1_30 m (by omega) (by omega)
 by_cases h31 : m < 32
 ·exact ckR_ok run1_31 m (by omega) (by omega)
 by_cases h32 : m < 33
 ·exact ckR_ok run1_32 m (by omega) (by omega)
 by_cases h33 : m < 34
 ·exact ckR_ok run1_33 m (by omega) (by omega)
 by_cases h34 : m < 35
 ·exact ckR_ok run1_34 m (by omega) (by omega)
 by_cases h35 : m < 36
 ·exact ckR_ok run1_35 m (by omega) (by omega)
 by_cases h36 : m < 37
 ·exact ckR_ok run1_36 m (by omega) (by omega)
 by_cases h37 : m < 38
 ·exact ckR_ok run1_37 m (by omega) (by omega)
 by_cases h38 : m < 39
 ·exact ckR_ok run1_38 m (by omega) (by omega)
 by_cases h39 : m < 40
 ·exact ckR_ok run1_39 m (by omega) (by omega)
 by_cases h40 : m < 41
 ·exact ckR_ok run1_40 m (by omega) (by omega)
 by_cases h41 : m < 42
 ·exact ckR_ok run1_41 m (by omega) (by omega)
 by_cases h42 : m < 43
 ·exact ckR_ok run1_42 m (by omega) (by omega)
 by_cases h43 : m < 44
 ·exact ckR_ok run1_43 m (by omega) (by omega)
 by_cases h44 : m < 45
 ·exact ckR_ok run1_44 m (by omega) (by omega)
 by_cases h45 : m < 46
 ·exact ckR_ok run1_45 m (by omega) (by omega)
 by_cases h46 : m < 47
 ·exact ckR_ok run1_46 m (by omega) (by omega)
 by_cases h47 : m < 48
 ·exact ckR_ok run1_47 m (by omega) (by omega)
 by_cases h48 : m < 49
 ·exact ckR_ok run1_48 m (by omega) (by omega)
 exact ckR_ok run1_49 m (by omega) (by omega)
theorem runs_2 : ∀ m, m < 50 → (fun j => rootB (envT EB (mkT A11)) 2 j) m = true := fun m h => by
 by_cases h0 : m < 1
 ·exact ckR_ok run2_0 m (by omega) (by omega)
 by_cases h1 : m < 2
 ·exact ckR_ok run2_1 m (by omega) (by omega)
 by_cases h2 : m < 3
 ·exact ckR_ok run2_2 m (by omega) (by omega)
 by_cases h3 : m < 4
 ·exact ckR_ok run2_3 m (by omega) (by omega)
 by_cases h4 : m < 5
 ·exact ckR_ok run2_4 m (by omega) (by omega)
 by_cases h5 : m < 6
 ·exact ckR_ok run2_5 m (by omega) (by omega)
 by_cases h6 : m < 7
 ·exact ckR_ok run2_6 m (by omega) (by omega)
 by_cases h7 : m < 8
 ·exact ckR_ok run2_7 m (by omega) (by omega)
 by_cases h8 : m < 9
 ·exact ckR_ok run2_8 m (by omega) (by omega)
 by_cases h9 : m < 10
 ·exact ckR_ok run2_9 m (by omega) (by omega)
 by_cases h10 : m < 11
 ·exact ckR_ok run2_10 m (by omega) (by omega)
 by_cases h11 : m < 12
 ·exact ckR_ok run2_11 m (by omega) (by omega)
 by_cases h12 : m < 13
 ·exact ckR_ok run2_12 m (by omega) (by omega)
 by_cases h13 : m < 14
 ·exact ckR_ok run2_13 m (by omega) (by omega)
 by_cases h14 : m < 15
 ·exact ckR_ok run2_14 m (by omega) (by omega)
 by_cases h15 : m < 16
 ·exact ckR_ok run2_15 m (by omega) (by omega)
 by_cases h16 : m < 17
 ·exact ckR_ok run2_16 m (by omega) (by omega)
 by_cases h17 : m < 18
 ·exact ckR_ok run2_17 m (by omega) (by omega)
 by_cases h18 : m < 19
 ·exact ckR_ok run2_18 m (by omega) (by omega)
 by_cases h19 : m < 20
 ·exact ckR_ok run2_19 m (by omega) (by omega)
 by_cases h20 : m < 21
 ·exact ckR_ok run2_20 m (by omega) (by omega)
 by_cases h21 : m < 22
 ·exact ckR_ok run2_21 m (by omega) (by omega)
 by_cases h22 : m < 23
 ·exact ckR_ok run2_22 m (by omega) (by omega)
 by_cases h23 : m < 24
 ·exact ckR_ok run2_23 m (by omega) (by omega)
 by_cases h24 : m < 25
 ·exact ckR_ok run2_24 m (by omega) (by omega)
 by_cases h25 : m < 26
 ·exact ckR_ok run2_25 m (by omega) (by omega)
 by_cases h26 : m < 27
 ·exact ckR_ok run2_26 m (by omega) (by omega)
 by_cases h27 : m < 28
 ·exact ckR_ok run2_27 m (by omega) (by omega)
 by_cases h28 : m < 29
 ·exact ckR_ok run2_28 m (by omega) (by omega)
 by_cases h29 : m < 30
 ·exact ckR_ok run2_29 m (by omega) (by omega)
 by_cases h30 : m < 31
 ·exact ckR_ok run2_30 m (by omega) (by omega)
 by_cases h31 : m < 32
 ·exact ckR_ok run2_31 m (by omega) (by omega)
 by_cases h32 : m < 33
 ·exact ckR_ok run2_32 m (by omega) (by omega)
 by_cases h33 : m < 34
 ·exact ckR_ok run2_33 m (by omega) (by omega)
 by_cases h34 : m < 35
 ·exact ckR_ok run2_34 m (by omega) (by omega)
 by_cases h35 : m < 36
 ·exact ckR_ok run2_35 m (by omega) (by omega)
 by_cases h36 : m < 37
 ·exact ckR_ok run2_36 m (by omega) (by omega)
 by_cases h37 : m < 38
 ·exact ckR_ok run2_37 m (by omega) (by omega)
 by_cases h38 : m < 39
 ·exact ckR_ok run2_38 m (by omega) (by omega)
 by_cases h39 : m < 40
 ·exact ckR_ok run2_39 m (by omega) (by omega)
 by_cases h40 : m < 41
 ·exact ckR_ok run2_40 m (by omega) (by omega)
 by_cases h41 : m < 42
 ·exact ckR_ok run2_41 m (by omega) (by omega)
 by_cases h42 : m < 43
 ·exact ckR_ok run2_42 m (by omega) (by omega)
 by_cases h43 : m < 44
 ·exact ckR_ok run2_43 m (by omega) (by omega)
 by_cases h44 : m < 45
 ·exact ckR_ok run2_44 m (by omega) (by omega)
 by_cases h45 : m < 46
 ·exact ckR_ok run2_45 m (by omega) (by omega)
 by_cases h46 : m < 47
 ·exact ckR_ok run2_46 m (by omega) (by omega)
 by_cases h47 : m < 48
 ·exact ckR_ok run2_47 m (by omega) (by omega)
 by_cases h48 : m < 49
 ·exact ckR_ok run2_48 m (by omega) (by omega)
 exact ckR_ok run2_49 m (by omega) (by omega)
theorem runs : ∀ m, m < 3 → ∀ m', m' < 50 → rootB (envT EB (mkT A11)) m m' = true
 | 0, _ => runs_0
 | 1, _ => runs_1
 | 2, _ => runs_2
 | n + 3, h => by omega
end
end Go.Ev
namespace Go.Proofs.YtpamikcnbnkgkaaGreatDoor
open Go.ChangeShapes Go.WideShapes Go.ChangeAt Go.RowKit
set_option maxRecDepth 100000
theorem cln_ok (os : Os) : Input.okWideB Tryz.prog ((world1 os).forCall (fun _ _ => 0) ⟨#[], #[.int .i64 0, .int .i64 0], []⟩) 3 ⟨#[], #[.int .i64 0, .int .i64 0], []⟩ = true := by kernel_rfl
theorem cln_pre (os : Os) (H : Type) (enc : TypeId × Value → H) : Rows.storeCleanedSpec.preB enc Tryz.prog Tryz.f3 [] false ((world1 os).forCall (fun _ _ => 0) ⟨#[], #[.int .i64 0, .int .i64 0], []⟩).memory #[.int .i64 0, .int .i64 0] 8 = true := by kernel_rfl
theorem cln_sized (os : Os) (H : Type) (enc : TypeId × Value → H) : Rows.storeCleanedSpec.sizedB enc Tryz.prog Tryz.f3 false ((world1 os).forCall (fun _ _ => 0) ⟨#[], #[.int .i64 0, .int .i64 0], []⟩).memory #[.int .i64 0, .int .i64 0] 8 = true := by kernel_rfl
theorem cln_noInit : Tryz.prog.inits.idxOf? 3 = Option.none := by kernel_rfl
noncomputable def vE : String × DataW Unit := (plainL[0]?).getD (Go.Ev.esN, .nil)
noncomputable def vF : String × DataW Unit := (plainL[1]?).getD (Go.Ev.esN, .nil)
def subD : DataW Unit → DataW Unit
 | .iface _ d => d
 | _ => .nil
theorem vE_at : plainL[0]? = some vE := by kernel_rfl
theorem vF_at : plainL[1]? = some vF := by kernel_rfl
theorem vE_d : vE.2 = .iface Go.Ev.esN (subD vE.2) := by kernel_rfl
theorem vF_d : vF.2 = .iface Go.Ev.esN (subD vF.2) := by kernel_rfl
theorem vE_g : Tryz.prog.globalNamed vE.1 = some 1 := by kernel_rfl
theorem vF_g : Tryz.prog.globalNamed vF.1 = some 2 := by kernel_rfl
noncomputable def vH : String × DataW Unit := ((listed.filter fun x => x.2.handleName?.isSome)[0]?).getD (Go.Ev.esN, .nil)
theorem vH_at : (listed.filter fun x => x.2.handleName?.isSome)[0]? = some vH := by kernel_rfl
theorem vH_f : vH.2.funcsIn? = Option.none := by kernel_rfl
theorem vH_n : vH.2.handleName? = some Go.Ev.errB := by kernel_rfl
theorem vH_g : Tryz.prog.globalNamed vH.1 = some 0 := by kernel_rfl
theorem listed_heap (w w' : World) (_ : Array Value) (h : w.heap = w'.heap) (k : laidMetH Tryz.prog listed w) : laidMetH Tryz.prog listed w' := k.of_heap h
theorem storeCleaned_lifted (os : Os) (started : os.Started) (H : Type) (enc : TypeId × Value → H) :
  ReturnsInHanded {} Tryz.checked os 3 .any (fun w args => (Rows.storeCleanedSpec.pre enc Tryz.prog Tryz.f3 [] false w args ∧ laidMetH Tryz.prog listed w) ∧ sizedMet enc Tryz.prog Tryz.f3 (OpenSpec.ofChange Rows.storeCleanedSpec) false w args)
   (Rows.storeCleanedSpec.post enc Tryz.prog Tryz.f3 false true false false) := by
 refine Go.Ev.handed_shaped (C := Tryz.checked) (X := fun w _ => laidMetH Tryz.prog listed w) listed_heap own started cln_noInit Tryz.func3
  (ChangeSpec.witness_shaped (enc := enc) (C := Tryz.checked) (os := os) (X := fun w _ => laidMetH Tryz.prog listed w) false (world1 os) #[.int .i64 0, .int .i64 0] 8 (world1_os os)
   (world1_shaped os _) (cln_ok os) (cln_pre os H enc) (cln_sized os H enc) (world1_met os _)) ?_
 intro W base args ds gs before hsh hval0 hW hX
 have hval : ∀ (j : Nat) t v, Tryz.f3.params[j]? = some t → args[j]? = some v → Value.okWide Tryz.prog W .any base t v := hval0
 have hW' := hW
 obtain ⟨p, q, hA0, hV, rfl, _, _⟩ := hW
 have hA : DataW.TrodAll enc Tryz.prog W 0 (fun _ => true) true Tryz.f3.params.toList args.toList ds p := hA0
 rw [Tryz.params3] at hA hval
 obtain ⟨v0, v1, d0, d1, p0, p1, rfl, rfl, rfl, h0, h1⟩ := trodAll_two hA
 obtain ⟨rfl, rfl⟩ := trodVars_none hV
 obtain ⟨x, rfl, rfl, rfl, wx⟩ := open_int Tryz.underlying3 (hval 0 3 v0 rfl rfl) h0
 obtain ⟨y, rfl, rfl, rfl, wy⟩ := open_int Tryz.underlying3 (hval 1 3 v1 rfl rfl) h1
 simp only [List.append_nil] at hW'
 have hx : Go.Ev.InI x := by simpa [Go.Ev.InI, Lit.wf, IntKind.min, IntKind.max, IntKind.signed, IntKind.bits] using wx
 have hy : Go.Ev.InI y := by simpa [Go.Ev.InI, Lit.wf, IntKind.min, IntKind.max, IntKind.signed, IntKind.bits] using wy
 have hL : laidMet Tryz.prog plainL W := (laidMetH_iff.1 hX).1
 have r1 : Lib.VarReads Tryz.prog W vE.1 vE.2 := Lib.laidMet.reads hL (List.mem_of_getElem? vE_at)
 have r2 : Lib.VarReads Tryz.prog W vF.1 vF.2 := Lib.laidMet.reads hL (List.mem_of_getElem? vF_at)
 rw [vE_d] at r1
 rw [vF_d] at r2
 have c := Go.Ev.storecleaned_at Go.Ev.like_all Go.Ev.runs hx hy hsh (Go.Ev.handle_cell (laidMetH_iff.1 hX).2 (List.mem_of_getElem? vH_at) vH_f vH_n vH_g) vE_g vF_g r1 r2
 refine c.mono fun e W' ⟨he, hb⟩ => ?_
 subst he
 exact ⟨_, rfl, _, _, _, [], [], [], hW', trodAll_mk1 (shut_bool Tryz.underlying4 _), trodAll_mk2 (shut_int Tryz.underlying3 wx) (shut_int Tryz.underlying3 wy), rfl, hb.frame _, fun h => by cases h⟩
end Go.Proofs.YtpamikcnbnkgkaaGreatDoor
