/- The law's function at a world whose variables lie as the row says. -/
import Derived.LaidLaws
import Derived.ChangeReads
import Derived.Lib.LaidU8
import Derived.LaidSub
import Derived.Handed
import Derived.Test.YtolinijabfbjpaaGreatDoorA12
import Derived.Deep.Slices
set_option linter.all false
namespace Go.Ev
open Go.Proofs Go.Shelf Go.RowKit Go.Lib Go.ChangeShapes

set_option maxRecDepth 100000
/-- The sign ahead of a pointer's name; the name of what errors are. -/
def starS : String := String.ofList [Char.ofNat 42]
def esN : String := starS ++ "errors.errorString"
theorem star_inj {x : String} (h : starS ++ x = esN) : x = "errors.errorString" := star_append_inj h
def chkT (one : Nat → TypeInfo → Bool) : Nat → List TypeInfo → Bool
  | _, [] => true
  | k, i :: l => one k i && chkT one (k + 1) l
theorem chkT_at {one : Nat → TypeInfo → Bool} : ∀ {l : List TypeInfo} {k n : Nat} {i : TypeInfo}, chkT one k l = true → l[n]? = some i → one (k + n) i = true
  | [], _, _, _, _, h => by simp at h
  | x :: l, k, n, i, h, hi => by
    simp only [chkT, Bool.and_eq_true] at h
    cases n with
    | zero => simp at hi; subst hi; exact h.1
    | succ n =>
      have := chkT_at (k := k + 1) (n := n) h.2 (by simpa using hi)
      rwa [show k + 1 + n = k + (n + 1) by omega] at this
def oneT (k : Nat) (i : TypeInfo) : Bool :=
  match i.desc with
  | .named n _ => (n != "errors.errorString" || Nat.beq k 861) && n != esN
  | .pointer e => !(Nat.beq e 861) || Nat.beq k 859
  | .bool => i.str != "errors.errorString" && i.str != esN
  | .int _ => i.str != "errors.errorString" && i.str != esN
  | .float _ => i.str != "errors.errorString" && i.str != esN
  | .string => i.str != "errors.errorString" && i.str != esN
  | _ => true
theorem chkT_all : chkT oneT 0 Tryz.prog.types.toList = true := by kernel_rfl
theorem oneT_at {u : Nat} {i : TypeInfo} (hlt : u < Tryz.prog.types.size) (h : Tryz.prog.info? u = some i) : oneT u i = true := by
  unfold Tables.info? at h
  rw [if_pos hlt] at h
  have h : Tryz.prog.types[u]? = some i := h
  have := chkT_at (k := 0) (n := u) chkT_all (by rw [Array.getElem?_toList]; exact h)
  simpa using this
theorem named2 {e : Nat} (h : Tryz.prog.typeName? 2 e = some "errors.errorString") : e = 861 := by
  unfold Program.typeName? at h
  cases hi : Tryz.prog.info? e with
  | none => simp [hi] at h
  | some i =>
    simp only [hi] at h
    by_cases hlt : e < Tryz.prog.types.size
    · have h1 := oneT_at hlt hi
      unfold oneT at h1
      cases hd : i.desc <;> simp only [hd] at h h1 <;> try cases h
      · split at h
        · cases h
        · simp only [Option.some.injEq] at h
          rw [h] at h1
          simp at h1
      · split at h
        · cases h
        · simp only [Option.some.injEq] at h
          rw [h] at h1
          simp at h1
      · split at h
        · cases h
        · simp only [Option.some.injEq] at h
          rw [h] at h1
          simp at h1
      · split at h
        · cases h
        · simp only [Option.some.injEq] at h
          rw [h] at h1
          simp at h1
      · simp only [Option.map_eq_some_iff] at h
        obtain ⟨x, _, hx⟩ := h
        have := congrArg (fun s => s.toList.head?) hx
        simp [String.toList_append] at this
      · split at h
        · simp only [Option.some.injEq] at h
          rw [h] at h1
          simp only [bne_self_eq_false, Bool.false_or, Bool.and_eq_true] at h1
          exact Nat.eq_of_beq_eq_true h1.1
        · cases h
    · have hb := Tables.info?_beyond hlt hi
      cases hd : i.desc <;> simp only [hd, TypeDesc.tableOnly] at h hb <;> try cases hb
      all_goals try cases h
      simp only [Option.map_eq_some_iff] at h
      obtain ⟨x, _, hx⟩ := h
      have := congrArg (fun s => s.toList.head?) hx
      simp [String.toList_append] at this
theorem info861 : ∃ j n t, Tryz.prog.info? 861 = some j ∧ j.desc = .named n t := ⟨_, _, _, info_of Tryz.type861, rfl⟩
theorem row859 (u : TypeId) (h : Tryz.prog.typeName? 3 u = some esN) : u = 859 := by
  unfold Program.typeName? at h
  cases hi : Tryz.prog.info? u with
  | none => simp [hi] at h
  | some i =>
    simp only [hi] at h
    have key : ∀ e, i.desc = .pointer e → (Tryz.prog.typeName? 2 e).map (starS ++ ·) = some esN → u = 859 := fun e hd h => by
      simp only [Option.map_eq_some_iff] at h
      obtain ⟨x, hx, hs⟩ := h
      obtain rfl := star_inj hs
      obtain rfl := named2 hx
      by_cases hlt : u < Tryz.prog.types.size
      · have h1 := oneT_at hlt hi
        unfold oneT at h1
        rw [hd] at h1
        simpa using h1
      · obtain ⟨j, n, t, h2, h3⟩ := info861
        exact absurd h3 (Tables.pointee_beyond hlt hi hd j h2 n t)
    by_cases hlt : u < Tryz.prog.types.size
    · have h1 := oneT_at hlt hi
      unfold oneT at h1
      cases hd : i.desc <;> simp only [hd] at h h1 <;> try cases h
      · split at h
        · cases h
        · simp only [Option.some.injEq] at h
          rw [h] at h1
          simp at h1
      · split at h
        · cases h
        · simp only [Option.some.injEq] at h
          rw [h] at h1
          simp at h1
      · split at h
        · cases h
        · simp only [Option.some.injEq] at h
          rw [h] at h1
          simp at h1
      · split at h
        · cases h
        · simp only [Option.some.injEq] at h
          rw [h] at h1
          simp at h1
      · exact key _ hd h
      · split at h
        · simp only [Option.some.injEq] at h
          rw [h] at h1
          simp at h1
        · cases h
    · have hb := Tables.info?_beyond hlt hi
      cases hd : i.desc <;> simp only [hd, TypeDesc.tableOnly] at h hb <;> try cases hb
      all_goals try cases h
      exact key _ hd h
theorem shape0 : (((begin Tryz.prog (fun _ _ => 0) default).world.heap[0]?).bind Obj.row?).map (fun x => (x.1.size, x.2)) = some (1, 260) := by kernel_rfl
theorem shape1 : (((begin Tryz.prog (fun _ _ => 0) default).world.heap[1]?).bind Obj.row?).map (fun x => (x.1.size, x.2)) = some (1, 110) := by kernel_rfl
theorem shape2 : (((begin Tryz.prog (fun _ _ => 0) default).world.heap[2]?).bind Obj.row?).map (fun x => (x.1.size, x.2)) = some (1, 110) := by kernel_rfl
theorem nglob : Tryz.prog.globals.size = 11 := by kernel_rfl
theorem shape_of {w : World} (h : w.ShapedOpen Tryz.prog) {g n : Nat} {t : TypeId} (hg : g < 11) (hs : (((begin Tryz.prog (fun _ _ => 0) default).world.heap[g]?).bind Obj.row?).map (fun x => (x.1.size, x.2)) = some (n, t)) : ∃ cs, w.heap[g]? = some (.cells cs t (0, 0)) ∧ cs.size = n := by
  obtain ⟨x, h1, h2⟩ := Option.map_eq_some_iff.1 hs
  obtain ⟨z, t'⟩ := x
  cases h2
  obtain ⟨cs, h3, h4, _⟩ := h.1 g z _ (by rw [nglob]; exact hg) h1
  exact ⟨cs, h3, h4⟩
theorem reads_err {w : World} {n : String} {g : Nat} {d : DataW Unit} {cs : Array Value} (h : VarReads Tryz.prog w n (.iface esN d)) (hn : Tryz.prog.globalNamed n = some g) (ht : (Tryz.prog.globals[g]?).map (·.type) = some 110)
    (hh : w.heap[g]? = some (.cells cs 110 (0, 0))) : ∃ v, cs = #[.iface 859 v] := by
  obtain ⟨g', t, cs', fuel, p, h1, h2, h3, h4⟩ := h
  rw [hn] at h1
  cases h1
  rw [ht] at h2
  cases h2
  unfold World.var? at h3
  rw [hn, Option.bind_some, hh] at h3
  cases h3
  cases fuel with
  | zero => cases h4
  | succ k =>
    rw [DataW.trod_step] at h4
    unfold DataW.trodStep at h4
    rw [Tryz.underlying110] at h4
    obtain ⟨l⟩ := cs
    simp only at h4
    split at h4
    all_goals first | (rename_i heq _; cases heq; done) | (rename_i heq; cases heq; done) | skip
    · cases h4
    · rename_i u v _
      split at h4
      · rename_i hc; cases hc
      · rename_i name hc hn'
        simp only [Option.map_eq_some_iff] at h4
        obtain ⟨x, _, hx⟩ := h4
        cases hx
        exact ⟨v, by rw [row859 u hn']⟩
      · cases h4
    · cases h4

end Go.Ev

/- The law's function returns true, at each such world. -/
namespace Go.Ev
open Go.Proofs Go.Shelf Go.RowKit Go.Lib Go.ChangeShapes

set_option maxRecDepth 100000
theorem gt1 : (Tryz.prog.globals[1]?).map (·.type) = some 110 := by kernel_rfl
theorem gt2 : (Tryz.prog.globals[2]?).map (·.type) = some 110 := by kernel_rfl

theorem storebig_at {E : Env} (hE : Like E) (hroot : ∀ m, m < 12 → rootB E m = true) {n : Int} (hn : -9223372036854775808 ≤ n ∧ n ≤ 9223372036854775807) {w : World} (hsh : w.ShapedOpen Tryz.prog) {n1 n2 : String} {d1 d2 : DataW Unit}
    (hn1 : Tryz.prog.globalNamed n1 = some 1) (hn2 : Tryz.prog.globalNamed n2 = some 2) (h1 : VarReads Tryz.prog w n1 (.iface esN d1)) (h2 : VarReads Tryz.prog w n2 (.iface esN d2)) :
    Calls Tryz.prog 3 #[.int .i64 n] w fun e w' => e = .returned (.bool true) ∧ Below w.heap.size w w' := by
  obtain ⟨c0, e0, z0⟩ := shape_of hsh (g := 0) (by decide) shape0
  obtain ⟨c1, e1, z1⟩ := shape_of hsh (g := 1) (by decide) shape1
  obtain ⟨c2, e2, z2⟩ := shape_of hsh (g := 2) (by decide) shape2
  obtain ⟨v1, rfl⟩ := reads_err h1 hn1 gt1 e1
  obtain ⟨v2, rfl⟩ := reads_err h2 hn2 gt2 e2
  let φ : Ren := ⟨fun b => if b < 3 then some b else none, fun _ => 1, ⟨fun _ => n, fun _ => undef, fun _ => [], fun _ => (#[], 0), fun r => w.heap[r]?, false⟩, 3⟩
  have hφ : ∀ b r, φ b = some r → b < 3 ∧ r = b := fun b r e => by
    have e : (if b < 3 then some b else none) = some r := e
    split at e
    · cases e; exact ⟨by assumption, rfl⟩
    · cases e
  have hl2 : 2 < w.heap.size := (Array.getElem?_eq_some_iff.1 e2).1
  have hget : ∀ b, (hOf 3 GB).get b = lkB GB b := fun b => hOf_get _ _ b
  have hr : HR φ (hOf 3 GB) w := by
    refine ⟨rfl, fun b r e => ?_, fun b r e _ => ?_, fun b b' r e e' _ _ => ?_, fun r o hk => ⟨hk, fun b e hm => ?_⟩⟩
    · obtain ⟨h3, rfl⟩ := hφ b r e
      exact ⟨h3, by omega⟩
    · obtain ⟨h3, rfl⟩ := hφ b r e
      rw [hget]
      match r, h3 with
      | 0, _ => exact ⟨_, e0, by show ∃ c, _; exact ⟨c0, rfl, by simp [VRs], by simp, z0⟩⟩
      | 1, _ => exact ⟨_, e1, by show ∃ c, _; exact ⟨_, rfl, by simp [VRs, VR], by simp, rfl⟩⟩
      | 2, _ => exact ⟨_, e2, by show ∃ c, _; exact ⟨_, rfl, by simp [VRs, VR], by simp, rfl⟩⟩
    · rw [← (hφ b r e).2, ← (hφ b' r e').2]
    · obtain ⟨h3, rfl⟩ := hφ b r e
      rw [hget] at hm
      match r, h3 with
      | 0, _ => exact hm
      | 1, _ => exact hm
      | 2, _ => exact hm
  have hg : GL 3 φ := fun g hg => if_pos hg
  have key := rootB_ok hE (hroot _ (pick12_lt n)) (φ := φ) (w := w) rfl hn hg rfl hr
  refine key.mono ?_
  rintro e w' ⟨rfl, φ', h', hx, hr'⟩
  refine ⟨rfl, hx.os, hx.tape, hx.output, hx.size, fun r hlt => ?_⟩
  have hk : φ'.y.k r = some w.heap[r] := by
    rw [hx.le.yy]
    exact Array.getElem?_eq_getElem hlt
  rw [(hr'.kp r _ hk).1, Array.getElem?_eq_getElem hlt]

end Go.Ev
