/- 'StoreBig', in the row's form. -/
import Derived.Test.YtolinijabfbjpaaGreatDoorC01
import Derived.Test.YtolinijabfbjpaaGreatDoorA13
import Derived.Test.YtolinijabfbjpaaGreatDoorB29
import Derived.RowKit
set_option linter.all false
namespace Go.Proofs.YtolinijabfbjpaaGreatDoor
open Go.ChangeShapes Go.WideShapes Go.ChangeAt Go.RowKit

set_option maxRecDepth 100000
theorem big_ok (os : Os) : Input.okWideB Tryz.prog ((world1 os).forCall (fun _ _ => 0) ⟨#[], #[.int .i64 0], []⟩) 3 ⟨#[], #[.int .i64 0], []⟩ = true := by kernel_rfl
theorem big_pre (os : Os) (H : Type) (enc : TypeId × Value → H) : Rows.storeBigSpec.preB enc Tryz.prog Tryz.f3 [] false ((world1 os).forCall (fun _ _ => 0) ⟨#[], #[.int .i64 0], []⟩).memory #[.int .i64 0] 8 = true := by kernel_rfl
theorem big_sized (os : Os) (H : Type) (enc : TypeId × Value → H) : Rows.storeBigSpec.sizedB enc Tryz.prog Tryz.f3 false ((world1 os).forCall (fun _ _ => 0) ⟨#[], #[.int .i64 0], []⟩).memory #[.int .i64 0] 8 = true := by kernel_rfl
theorem big_noInit : Tryz.prog.inits.idxOf? 3 = Option.none := by kernel_rfl
noncomputable def vE : String × DataW Unit := (plainL[0]?).getD (Go.Ev.esN, .nil)
noncomputable def vF : String × DataW Unit := (plainL[1]?).getD (Go.Ev.esN, .nil)
def subD : DataW Unit → DataW Unit
  | .iface _ d => d
  | _ => .nil
theorem vE_at : plainL[0]? = some vE := by kernel_rfl
theorem vF_at : plainL[1]? = some vF := by kernel_rfl
theorem vE_d : vE.2 = .iface Go.Ev.esN (subD vE.2) := by kernel_rfl
theorem vF_d : vF.2 = .iface Go.Ev.esN (subD vF.2) := by kernel_rfl
theorem vE_g : Tryz.prog.globalNamed vE.1 = some 1 := by kernel_rfl
theorem vF_g : Tryz.prog.globalNamed vF.1 = some 2 := by kernel_rfl
theorem listed_heap (w w' : World) (_ : Array Value) (h : w.heap = w'.heap) (k : laidMetH Tryz.prog listed w) : laidMetH Tryz.prog listed w' := k.of_heap h
theorem storeBig_lifted (os : Os) (started : os.Started) (H : Type) (enc : TypeId × Value → H) :
    ReturnsInHanded {} Tryz.checked os 3 .any (fun w args => (Rows.storeBigSpec.pre enc Tryz.prog Tryz.f3 [] false w args ∧ laidMetH Tryz.prog listed w) ∧ sizedMet enc Tryz.prog Tryz.f3 (OpenSpec.ofChange Rows.storeBigSpec) false w args)
      (Rows.storeBigSpec.post enc Tryz.prog Tryz.f3 false true false false) := by
  refine Go.Ev.handed_shaped (C := Tryz.checked) (X := fun w _ => laidMetH Tryz.prog listed w) listed_heap own started big_noInit Tryz.func3
    (ChangeSpec.witness_shaped (enc := enc) (C := Tryz.checked) (os := os) (X := fun w _ => laidMetH Tryz.prog listed w) false (world1 os) #[.int .i64 0] 8 (world1_os os)
      (world1_shaped os _) (big_ok os) (big_pre os H enc) (big_sized os H enc) (world1_met os _)) ?_
  intro W base args ds gs before hsh hval0 hW hX
  have hval : ∀ (j : Nat) t v, Tryz.f3.params[j]? = some t → args[j]? = some v → Value.okWide Tryz.prog W .any base t v := hval0
  have hW' := hW
  obtain ⟨p, q, hA0, hV, rfl, _, _⟩ := hW
  have hA : DataW.TrodAll enc Tryz.prog W 0 (fun _ => true) true Tryz.f3.params.toList args.toList ds p := hA0
  rw [Tryz.params3] at hA hval
  obtain ⟨v0, d0, rfl, rfl, h0⟩ := trodAll_one hA
  obtain ⟨rfl, rfl⟩ := trodVars_none hV
  obtain ⟨x, rfl, rfl, rfl, wx⟩ := open_int Tryz.underlying3 (hval 0 3 v0 rfl rfl) h0
  simp only [List.append_nil] at hW'
  have hx : -9223372036854775808 ≤ x ∧ x ≤ 9223372036854775807 := by simpa [Lit.wf, IntKind.min, IntKind.max, IntKind.signed, IntKind.bits] using wx
  have hL : laidMet Tryz.prog plainL W := (laidMetH_iff.1 hX).1
  have r1 : Lib.VarReads Tryz.prog W vE.1 vE.2 := Lib.laidMet.reads hL (List.mem_of_getElem? vE_at)
  have r2 : Lib.VarReads Tryz.prog W vF.1 vF.2 := Lib.laidMet.reads hL (List.mem_of_getElem? vF_at)
  rw [vE_d] at r1
  rw [vF_d] at r2
  have c := Go.Ev.storebig_at Go.Ev.like_all Go.Ev.runs hx hsh vE_g vF_g r1 r2
  refine c.mono fun e W' ⟨he, hb⟩ => ?_
  subst he
  exact ⟨_, rfl, _, _, _, [], [], [], hW', trodAll_mk1 (shut_bool Tryz.underlying4 _), trodAll_mk1 (shut_int Tryz.underlying3 wx), rfl, hb.frame _, fun h => by cases h⟩

end Go.Proofs.YtolinijabfbjpaaGreatDoor
