/- 'LimitSnaps', in the row's form. -/
import Derived.Test.YtcnckmkbidklgaaGreatDoorW01
import Derived.Test.YtcnckmkbidklgaaGreatDoorS02
namespace Go.Proofs.YtcnckmkbidklgaaGreatDoor
open Go.ChangeShapes Go.WideShapes Go.ChangeAt Go.RowKit

theorem below_of {w w' : World} (h : Go.Ev.Grown w w') : Below w.heap.size w w' := ⟨h.os, h.tape, h.output, h.size, h.same⟩

set_option maxRecDepth 100000
theorem snaps_ok (os : Os) : Input.okWideB Tryz.prog ((world1 os).forCall (fun _ _ => 0) ⟨#[], #[.int .i64 0, .int .i64 0, .int .i64 0], []⟩) 5 ⟨#[], #[.int .i64 0, .int .i64 0, .int .i64 0], []⟩ = true := by kernel_rfl
theorem snaps_pre (os : Os) (H : Type) (enc : TypeId × Value → H) : Rows.limitSnapsSpec.preB enc Tryz.prog Tryz.f5 [] false ((world1 os).forCall (fun _ _ => 0) ⟨#[], #[.int .i64 0, .int .i64 0, .int .i64 0], []⟩).memory #[.int .i64 0, .int .i64 0, .int .i64 0] 8 = true := by kernel_rfl
theorem snaps_sized (os : Os) (H : Type) (enc : TypeId × Value → H) : Rows.limitSnapsSpec.sizedB enc Tryz.prog Tryz.f5 false ((world1 os).forCall (fun _ _ => 0) ⟨#[], #[.int .i64 0, .int .i64 0, .int .i64 0], []⟩).memory #[.int .i64 0, .int .i64 0, .int .i64 0] 8 = true := by kernel_rfl
theorem snaps_noInit : Tryz.prog.inits.idxOf? 5 = Option.none := by kernel_rfl
theorem listed_heap (w w' : World) (_ : Array Value) (h : w.heap = w'.heap) (k : laidMetH Tryz.prog listed w) : laidMetH Tryz.prog listed w' := k.of_heap h
theorem limitSnaps_lifted (os : Os) (started : os.Started) (H : Type) (enc : TypeId × Value → H) :
    ReturnsInHanded {} Tryz.checked os 5 .any (fun w args => (Rows.limitSnapsSpec.pre enc Tryz.prog Tryz.f5 [] false w args ∧ laidMetH Tryz.prog listed w) ∧ sizedMet enc Tryz.prog Tryz.f5 (OpenSpec.ofChange Rows.limitSnapsSpec) false w args)
      (Rows.limitSnapsSpec.post enc Tryz.prog Tryz.f5 false true false false) := by
  refine returnsInHanded_of_change_and (C := Tryz.checked) (X := fun w _ => laidMetH Tryz.prog listed w) listed_heap own started snaps_noInit Tryz.func5
    (ChangeSpec.witness_shaped (enc := enc) (C := Tryz.checked) (os := os) (X := fun w _ => laidMetH Tryz.prog listed w) false (world1 os) #[.int .i64 0, .int .i64 0, .int .i64 0] 8 (world1_os os)
      (world1_shaped os _) (snaps_ok os) (snaps_pre os H enc) (snaps_sized os H enc) (world1_met os _)) ?_
  intro W base args ds gs before hval0 hW _ _ _ _
  have hval : ∀ (j : Nat) t v, Tryz.f5.params[j]? = some t → args[j]? = some v → Value.okWide Tryz.prog W .any base t v := hval0
  have hW' := hW
  obtain ⟨p, q, hA0, hV, rfl, _, _⟩ := hW
  have hA : DataW.TrodAll enc Tryz.prog W 0 (fun _ => true) true Tryz.f5.params.toList args.toList ds p := hA0
  rw [Tryz.params5] at hA hval
  obtain ⟨v0, v1, v2, d0, d1, d2, p0, p1, p2, rfl, rfl, rfl, h0, h1, h2⟩ := trodAll_three hA
  obtain ⟨rfl, rfl⟩ := trodVars_none hV
  obtain ⟨x, rfl, rfl, rfl, wx⟩ := open_int Tryz.underlying3 (hval 0 3 v0 rfl rfl) h0
  obtain ⟨y, rfl, rfl, rfl, wy⟩ := open_int Tryz.underlying3 (hval 1 3 v1 rfl rfl) h1
  obtain ⟨z, rfl, rfl, rfl, wz⟩ := open_int Tryz.underlying3 (hval 2 3 v2 rfl rfl) h2
  simp only [List.append_nil] at hW'
  have hx : -9223372036854775808 ≤ x ∧ x ≤ 9223372036854775807 := by simpa [Lit.wf, IntKind.min, IntKind.max, IntKind.signed, IntKind.bits] using wx
  have hy : -9223372036854775808 ≤ y ∧ y ≤ 9223372036854775807 := by simpa [Lit.wf, IntKind.min, IntKind.max, IntKind.signed, IntKind.bits] using wy
  have hz : -9223372036854775808 ≤ z ∧ z ≤ 9223372036854775807 := by simpa [Lit.wf, IntKind.min, IntKind.max, IntKind.signed, IntKind.bits] using wz
  have c : Calls Tryz.prog 5 #[.int .i64 x, .int .i64 y, .int .i64 z] W fun e W' => ∃ v, e = .returned v ∧ v = .bool true ∧ Go.Ev.Grown W W' := callsIn_wide.1 (Go.Ev.limitSnaps_ok 0 x y z hx hy hz W)
  refine c.mono fun e W' ⟨v, he, hv, hg⟩ => ?_
  subst he; subst hv
  exact ⟨_, rfl, _, _, _, [], [], [], hW', trodAll_mk1 (shut_bool Tryz.underlying4 _), trodAll_mk3 (shut_int Tryz.underlying3 wx) (shut_int Tryz.underlying3 wy) (shut_int Tryz.underlying3 wz), rfl, (below_of hg).frame _, fun h => by cases h⟩

end Go.Proofs.YtcnckmkbidklgaaGreatDoor
