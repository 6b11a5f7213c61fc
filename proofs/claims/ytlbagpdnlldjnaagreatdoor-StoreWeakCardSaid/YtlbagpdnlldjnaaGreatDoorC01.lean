/- The witness of the row: a world in which the listed variables lie as the condition says: its rows typed out of the listed data, the handle and the errors by hand. -/
import Derived.Test.YtlbagpdnlldjnaaGreatDoorRows
import Derived.WalkKit
import Derived.ProofKit
import Derived.Lay
import Derived.LaidMore
import Derived.LaidLaws
import Derived.SevenTiedAt
import Derived.Stop.Joined
import Derived.Handed
set_option linter.all false
namespace Go.Proofs.YtlbagpdnlldjnaaGreatDoor
open Go.ChangeShapes Go.WideShapes Go.ChangeAt
set_option maxRecDepth 1000000
noncomputable def listed : List (String × DataW Unit) := Rows.storeWeakRow.laid
noncomputable def plainL : List (String × DataW Unit) := listed.filter fun x => x.2.handleName?.isNone
theorem waits : waiting Tryz.prog = Array.replicate 11 false := by kernel_rfl
noncomputable def zeroOf (g : Global) : Array Value := (linked Tryz.prog g).getD ((((Tryz.prog.types[g.type]?).bind (·.zero)).map (·.cells)).getD #[])
noncomputable def baseG : List Obj := Tryz.prog.globals.toList.map fun g => .cells (zeroOf g) g.type (0, 0)
noncomputable def baseR : List Obj := [.cells ((Array.range Tryz.prog.types.size).map fun t => .int .u64 (Int.ofNat t)) 0 (0, 0), .map #[] 0, .finalizers #[] none, .cells #[.bool false] 0 (0, 0), .finalizers #[] none]
theorem base_at (tape : Nat → Question → Nat) (os : Os) : (begin Tryz.prog tape os).world.heap.toList = baseG ++ baseR := by
 unfold begin
 rw [waits]
 kernel_rfl
mutual
def flatD : DataW Unit → List Value
 | .lit (.int k z) => [.int k z]
 | .lit (.bool b) => [.bool b]
 | .lit (.string bs) => [.string ⟨bs.toArray⟩]
 | .agg ps => flatDs ps
 | .ptr d => flatD d
 | .iface _ d => flatD d
 | _ => []
def flatDs : List (DataW Unit) → List Value
 | [] => []
 | d :: r => flatD d ++ flatDs r
end
noncomputable def dat (i : Nat) : List Value := ((listed[i]?).map fun x => flatD x.2).getD []
def errAt (b : Nat) : List Value := [.iface 933 (.pointer (some ⟨b, 0, none⟩))]
noncomputable def rowsW : List (Nat × List Value) :=
 [(0, [.iface 442 (.agg #[.pointer (some ⟨11, 113, none⟩)])]), (1, errAt 16), (2, errAt 17), (5, dat 3), (7, dat 4), (8, dat 5), (3, dat 6), (4, dat 7), (9, errAt 18), (10, errAt 19)]
noncomputable def newW : List Obj := [.cells (dat 1).toArray 934 (0, 0), .cells (dat 2).toArray 934 (0, 0), .cells (dat 8).toArray 934 (0, 0), .cells (dat 9).toArray 934 (0, 0)]
noncomputable def gsW : List Obj := Lay.setRows baseG rowsW
noncomputable def world1 (os : Os) : World := { World.settled Tryz.prog os with heap := ⟨gsW ++ baseR ++ newW⟩ }
theorem own : ownKnob Tryz.prog.godebug = none := by kernel_rfl
theorem world1_os (os : Os) : (world1 os).os = os := rfl
theorem nglobals : Tryz.prog.globals.size = 11 := by kernel_rfl
theorem gsW_len : gsW.length = 11 := by kernel_rfl
theorem baseG_len : baseG.length = 11 := by kernel_rfl
theorem begin_size : (begin Tryz.prog (fun _ _ => 0) default).world.heap.size = 16 := by
 rw [← Array.length_toList, base_at, List.length_append, baseG_len]
 rfl
noncomputable def heap1 : Array Obj := ⟨gsW ++ baseR ++ newW⟩
noncomputable def mem1 : World := { heap := heap1, tape := fun _ _ => 0, drawn := 0, os := default, output := #[] }
theorem world1_heap (os : Os) (args : Array Value) : mem1.heap = (((world1 os).forCall (fun _ _ => 0) ⟨#[], args, []⟩).memory).heap := by
 simp [World.memory, World.forCall, Input.heap, mem1, world1, heap1]
end Go.Proofs.YtlbagpdnlldjnaaGreatDoor
namespace Go.Proofs.YtlbagpdnlldjnaaGreatDoor
open Go.ChangeShapes Go.WideShapes Go.ChangeAt
set_option maxRecDepth 1000000
theorem met_a : (DataW.laidRun Tryz.prog mem1 8 (plainL.map (·.1))).map (·.1) = some plainL := by kernel_rfl
theorem met_b : (DataW.laidRun Tryz.prog mem1 8 (plainL.map (·.1))).map (fun x => decide x.2.Nodup && laidRowsB Tryz.prog mem1 x.2) = some true := by kernel_rfl
theorem met_c : (listed.filter fun x => x.2.handleName?.isSome).all (handleAtB Tryz.prog mem1) = true := by kernel_rfl
theorem world1_met (os : Os) (args : Array Value) : laidMetH Tryz.prog listed (((world1 os).forCall (fun _ _ => 0) ⟨#[], args, []⟩).memory) :=
 (laidMetH_of_parts (laidMet_of_run' 8 met_a met_b) met_c).of_heap (world1_heap os args)
end Go.Proofs.YtlbagpdnlldjnaaGreatDoor
namespace Go.Proofs.YtlbagpdnlldjnaaGreatDoor
open Go.ChangeShapes Go.WideShapes Go.ChangeAt
set_option maxRecDepth 1000000
noncomputable def zipB (base h : List Obj) (w : World) : Bool :=
 (List.range Tryz.prog.globals.size).all fun g =>
  match (base[g]?).bind Obj.row? with
  | none => true
  | some (zero, t) =>
   match h[g]? with
   | some (.cells cs t' frozen) => decide (t' = t) && decide (frozen = (0, 0)) && cs.size == zero.size && (!Tryz.prog.buildable t || match Tryz.prog.cellTypes Tryz.prog.depth t with | some ts => Lay.zipOk Tryz.prog w cs.toList ts | none => false)
   | _ => false
theorem zip_of {w : World} (h : zipB (baseG ++ baseR) w.heap.toList w = true) : w.variablesZipB Tryz.prog = true := by
 rw [← base_at (fun _ _ => 0) default] at h
 unfold zipB at h
 simp only [Array.getElem?_toList] at h
 exact h
theorem zip_ok (os : Os) (args : Array Value) : zipB (baseG ++ baseR) heap1.toList ((world1 os).forCall (fun _ _ => 0) ⟨#[], args, []⟩) = true := by kernel_rfl
theorem drop_ok : ((heap1.toList.drop 11).take 5) = (baseG ++ baseR).drop 11 := by
 show (((gsW ++ baseR ++ newW).drop 11).take 5) = _
 have a : (gsW ++ baseR ++ newW).drop 11 = baseR ++ newW := by
  rw [List.append_assoc, List.drop_append_of_le_length (by rw [gsW_len]; exact Nat.le_refl _), List.drop_of_length_le (by rw [gsW_len]; exact Nat.le_refl _), List.nil_append]
 have b : (baseG ++ baseR).drop 11 = baseR := by
  rw [List.drop_append_of_le_length (by rw [baseG_len]; exact Nat.le_refl _), List.drop_of_length_le (by rw [baseG_len]; exact Nat.le_refl _), List.nil_append]
 rw [a, b, List.take_append_of_le_length (by exact Nat.le_refl _)]
 rfl
theorem world1_shaped (os : Os) (args : Array Value) : ((world1 os).forCall (fun _ _ => 0) ⟨#[], args, []⟩).Shaped Tryz.prog := by
 have hh : ((world1 os).forCall (fun _ _ => 0) ⟨#[], args, []⟩).heap = heap1 := by simp [World.forCall, Input.heap, world1, heap1]
 refine World.shaped_of_ZipB (zip_of ?_) ?_
 ·rw [hh]
  exact zip_ok os args
 ·rw [hh, begin_size, nglobals, base_at]
  exact drop_ok
end Go.Proofs.YtlbagpdnlldjnaaGreatDoor
namespace Go.Ev
open Go.ChangeShapes
variable {H : Type} {enc : TypeId × Value → H}
theorem handed_shaped {a : Assume} {C : Checked} {os : Os} {f : FuncId} {fn : Func} {s : ChangeSpec} {conds : List PathCond} {apart fresh handsOn again : Bool} {X : World → Array Value → Prop}
  (hX : ∀ (w w' : World) (args : Array Value), w.heap = w'.heap → X w args → X w' args)
  (own : ownKnob C.prog.godebug = none) (started : os.Started) (noInit : C.prog.inits.idxOf? f = none) (hfn : C.prog.funcs[f]? = some fn)
  (witness : ∃ (w : World) (tape : Tape) (i : Input), w.os = os ∧ (w.forCall tape i).Shaped C.prog ∧ i.vars = [] ∧ Input.okWide C.prog (w.forCall tape i) .any w.heap.size f i ∧
   ((s.pre enc C.prog fn conds apart (w.forCall tape i).memory i.args ∧ X (w.forCall tape i).memory i.args) ∧ sizedMet enc C.prog fn (OpenSpec.ofChange s) apart (w.forCall tape i).memory i.args) ∧ a.holds C.prog (lone (Frame.enter C.prog f i.args .normal) [] (w.forCall tape i)))
  (contract : ∀ (W : World) (base : Nat) (args : Array Value) (ds gs : List (DataW H)) (before : List MemPlace), W.ShapedOpen C.prog →
   (∀ (j : Nat) t v, fn.params[j]? = some t → args[j]? = some v → Value.okWide C.prog W .any base t v) →
   DataW.Whole enc C.prog fn.params.toList s.vars apart W args.toList ds gs before → X W args →
   Calls C.prog f args W fun e W' => ∃ v, e = .returned v ∧ s.post enc C.prog fn apart fresh handsOn again W args v W') :
  ReturnsInHanded a C os f .any (fun w args => (s.pre enc C.prog fn conds apart w args ∧ X w args) ∧ sizedMet enc C.prog fn (OpenSpec.ofChange s) apart w args) (s.post enc C.prog fn apart fresh handsOn again) := by
 refine returnsInHanded_of_calls own started noInit witness fun w tape i _ hs _ hok hpre _ => ?_
 obtain ⟨_, _, _, fn', h1, _, _, _, _, hv⟩ := hok
 cases h1.symm.trans hfn
 obtain ⟨⟨⟨ds, gs, before, hw, _⟩, hx⟩, _⟩ := hpre
 refine (contract (w.forCall tape i) w.heap.size i.args ds gs before hs hv (DataW.Whole.of_heap (w' := w.forCall tape i) (by rfl) hw) (hX _ _ _ (by rfl) hx)).mono fun e W' h => ?_
 obtain ⟨v, rfl, hp⟩ := h
 exact ChangeSpec.post_blind hp
end Go.Ev
