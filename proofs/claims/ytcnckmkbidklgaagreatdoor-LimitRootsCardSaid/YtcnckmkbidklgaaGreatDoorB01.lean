/- Chains, part Fa: 'reach', its runs where roots name two objects. -/
import Derived.Test.YtcnckmkbidklgaaGreatDoorA13
import Derived.Test.YtcnckmkbidklgaaGreatDoorD01
namespace Go.Ev
open Go.Proofs

def rb_st : Blk := .cells [.sl (some (7, 0)) 2 (.un 1)] 49 false
def rb_G (u : List (V × Option V)) : List (Nat × Blk) := [(3, rea_B3), (5, .cells [.m (some 4)] 93 false), (6, rb_st), (4, .smp 1 (.int .i64) u), (7, .cells [.y .i64 5, .y .i64 7] 3 true), (2, .rm 0 (.int .i64)), (1, .rw 1 36), (0, .rw 0 72)]
/-- A root of the second object. -/
def rb_F2 : Facts := { bd := [(7, 1, 100000)], bin := [(.lss, .y .i64 0, .y .i64 1, .b true), (.add, .y .i64 0, .i .i64 1, .y .i64 2)], rz := [(0, 2), (1, 4)], re := [(0, 0, [.q 4, .y .i64 7])], mg := [(1, .y .i64 7, none)] }
def rb_T0 : Tab := { s := [(0, .y 2), (1, .y 1), (5, .y 5), (7, .y 7)], w := [(0, .same 0), (1, .same 1)], g := [(0, .same 0), (1, .same 1)] }
theorem rb_R2 : runsL (withF E0 rb_F2) 300 ((roundOf (c29.drop 5)).take 100) (frOf 51 rea_L1) (hOf 8 rea_H1) .n rb_T0 51 rea_L1 8 (rb_G [(.y .i64 7, some (.b true))]) = true := by decide +kernel
def rb_TG : Tab := { s := [(0, .y 0), (1, .y 1), (5, .y 5), (7, .y 7)], w := [(0, .same 0), (1, .same 1)], g := [(0, .same 0), (1, .fold 4)] }
theorem rb_Gs : (mAll rb_TG (frOf 51 rea_L1) (hOf 8 (rb_G [(.y .i64 7, some (.b true))])) 51 rea_L1 8 (rb_G [])).isSome = true := by decide +kernel
def rb_TS : Tab := { s := [(0, .y 0), (1, .y 1), (5, .y 5), (7, .y 7)], w := [(0, .same 0), (1, .same 1)], g := [(0, .same 0), (1, .same 1)] }
theorem rb_S : selfOK rb_TS 51 rea_L1 8 (rb_G []) = true := by decide +kernel
/-- A further root. -/
def rb_F3 (x : V) : Facts := { bd := [(5, 1, 100000), (7, 1, 100000)], bin := [(.lss, .y .i64 0, .y .i64 1, .b true), (.add, .y .i64 0, .i .i64 1, .y .i64 2)], rz := [(0, 2), (1, 4)], re := [(0, 0, [.q 4, x])], mg := [(1, x, some (.b true))] }
theorem rb_R3a : runsL (withF E0 (rb_F3 (.y .i64 5))) 300 ((roundOf (c29.drop 5)).take 100) (frOf 51 rea_L1) (hOf 8 (rb_G [])) .n rb_T0 51 rea_L1 8 (rb_G []) = true := by decide +kernel
theorem rb_R3b : runsL (withF E0 (rb_F3 (.y .i64 7))) 300 ((roundOf (c29.drop 5)).take 100) (frOf 51 rea_L1) (hOf 8 (rb_G [])) .n rb_T0 51 rea_L1 8 (rb_G []) = true := by decide +kernel
/-- The roots' end. -/
def rb_H2 : List (Nat × Blk) := [(3, rea_B3), (5, .cells [.m (some 4)] 93 false), (6, rb_st), (4, .smp 1 (.int .i64) []), (7, .cells [.y .i64 5, .y .i64 7] 3 true), (2, .rm 0 (.int .i64)), (1, .rw 1 36)]
def rb_T2 : Tab := { s := [(5, .y 5), (7, .y 7)], w := [(1, .same 1)], g := [(0, .same 0), (1, .same 1)] }
theorem rb_E : runsL (withF E0 who_FC) 100 ((roundOf (c29.drop 5)).take 100) (frOf 51 rea_L1) (hOf 8 (rb_G [])) (.e 0) rb_T2 51 rea_L2 8 rb_H2 = true := by decide +kernel
theorem rb_S2 : selfOK rb_T2 51 rea_L2 8 rb_H2 = true := by decide +kernel
/-- The second one goes. -/
def rb_F4 (m : List (Nat × V × Option V)) : Facts := { bd := [(6, 1, 100000), (7, 1, 100000), (9, 0, 100000)], rz := [(0, 2), (1, 4)], re := [(1, 9, [.y .i64 7, .i .i64 0, .i .i64 0, .sl (some (8, 0)) 1 (.kn 1)])], mg := (0, .y .i64 7, some (.y .i64 9)) :: m }
theorem rb_N2 : runsL (withF E0 (rb_F4 [])) 400 ((roundOf (c29.drop 6)).take 100) (frOf 51 rea_L2) (hOf 9 ((8, valN) :: rb_H2)) .n rea_T2 51 rea_L2 8 rea_H2 = true := by decide +kernel
theorem rb_Y2 : runsL (withF E0 (rb_F4 [(1, .y .i64 6, some (.b true))])) 400 ((roundOf (c29.drop 6)).take 100) (frOf 51 rea_L2) (hOf 9 ((8, valY) :: rb_H2)) .n rea_T2 51 rea_L2 8 rea_H2 = true := by decide +kernel
/-- The first one goes. -/
def rb_F5 (m : List (Nat × V × Option V)) : Facts := { bd := [(5, 1, 100000), (6, 1, 100000), (9, 0, 100000)], rz := [(0, 2), (1, 4)], re := [(1, 9, [.y .i64 5, .i .i64 0, .i .i64 0, .sl (some (8, 0)) 1 (.kn 1)])], mg := (0, .y .i64 5, some (.y .i64 9)) :: m }
theorem rb_N1 : runsL (withF E0 (rb_F5 [])) 400 ((roundOf (c29.drop 6)).take 100) (frOf 51 rea_L2) (hOf 9 ((8, valN) :: rea_H2)) .n rea_T3 51 rea_L3 8 rea_H3 = true := by decide +kernel
theorem rb_Y1 : runsL (withF E0 (rb_F5 [(1, .y .i64 6, some (.b true))])) 400 ((roundOf (c29.drop 6)).take 100) (frOf 51 rea_L2) (hOf 9 ((8, valY) :: rea_H2)) .n rea_T3 51 rea_L3 8 rea_H3 = true := by decide +kernel

end Go.Ev

/- Chains, part Fb: 'reach', where roots name two objects that refer to no others. -/
namespace Go.Ev
open Go.Proofs

/-- Two objects that refer to no others. -/
def Pair (l : List (O × Value)) (a b : Nat) : Prop := ∀ x, x = a ∨ x = b → (1 ≤ x ∧ x ≤ 100000) ∧ ∃ (j : Nat) (q : O × Value), l[j]? = some q ∧ q.1.id = x ∧ (q.1.ref = 0 ∨ q.1.ref = a ∨ q.1.ref = b)

theorem take_snoc {α : Type} {l : List α} {i : Nat} {q : α} (h : l[i]? = some q) : l.take (i + 1) = l.take i ++ [q] := by rw [List.take_add_one, h]; rfl

theorem reachB_ok {n : Nat} {w : World} {l : List (O × Value)} {lv mv rv : Value} {rs : List (ByteArray × Nat)} {ka kb : Nat} (hF : Found w l lv mv) (hr : IsRow w 72 2 rv (rRow rs)) (ha : Asc l) (hab : ka ≠ kb) (hO : Pair l ka kb) (h0 : ∀ q, rs[0]? = some q → q.2 = ka) (hrs : ∀ q ∈ rs, q.2 = ka ∨ q.2 = kb) (hb : ∃ q ∈ rs, q.2 = kb)
    (hln : l.length ≤ 100000) (hrl : rs.length ≤ 100000) :
    CallsIn (W none) n Tryz.prog 29 #[.agg #[lv, mv], rv] w fun e w' => ∃ v, e = .returned v ∧ (∃ r, v = .map (some r) ∧ w'.heap[r]? = some (.map (sm [ka, kb]).1 (sm [ka, kb]).2)) ∧ Grown w w' := by
  obtain ⟨⟨late, hlate, hfst, hvals⟩, rm, rfl, hm⟩ := hF
  have hll : late.length = l.length := by have := congrArg List.length hfst; simpa using this
  have hap := (hO ka (.inl rfl)).1
  have hbp := (hO kb (.inr rfl)).1
  let y0 : Sym := mkY [0, rs.length] [] [rRow rs, oRow late] [pm l l.length]
  obtain ⟨φ1, h1, e1, le1, v1⟩ := hr.add (φ0_hr y0 w) rfl 0 rfl
  obtain ⟨φ2, h2, e2, le2, v2⟩ := hlate.add h1 rfl 1 (by show φ1.y.w 1 = _; rw [e1]; rfl)
  have hy2 : φ2.y = (φ0 y0 w).y := e2.trans e1
  have h3 := h2.addM hm rfl 0 (.int .i64) (by show φ2.y.g 0 = _; rw [hy2]; rfl) (by rw [pm_eq ha _ (Nat.le_refl _)]; exact ents_key l _)
  have hfr : ∀ s, φ2 2 ≠ some s := fun s es => by have := (h2.dom _ _ es).1; exact absurd this (Nat.lt_irrefl _)
  have le3 : Le φ2 (up φ2 2 rm 0) := le_up hfr
  have hy3 : (up φ2 2 rm 0).y = (φ0 y0 w).y := hy2
  have v3 : VR (up φ2 2 rm 0) (.m (some 2)) (.map (some rm)) := by simp only [VR]; exact ⟨rm, by simp [up], rfl⟩
  generalize up φ2 2 rm 0 = φ3 at h3 le3 hy3 v3
  have hargs : VRs φ3 who_args [.agg #[lv, .map (some rm)], rv] := by
    refine VRs.cons ?_ (VRs.cons (VR.mono (le2.trans le3) _ _ v1) VRs.nil)
    simp only [VR]
    exact ⟨_, rfl, VRs.cons (VR.mono le3 _ _ v2) (VRs.cons (by simpa only [VR] using v3) VRs.nil)⟩
  have hst := StAt.enter (nt := 51) h3 rfl (by rw [hy3]; rfl) hargs (by decide)
  refine callIn (fn := Tryz.f29) (c := (Tryz.f29.body).getD .skip) Tryz.func29 rfl (wpIn_flat _ ?_)
  show wpCs none n E0.P _ c29 _ _
  refine StAt.runL (withF_ok E0_ok who_FA) rfl 5 rea_A hst (FactsOK.bd' ?_) rfl y0 ?_ fun φ a w1 hs hd hg _ n1 n2 n3 n4 => ?_
  · refine ⟨trivial, trivial, trivial, ⟨⟨rs.length, by decide, ?_, ?_⟩, trivial⟩, trivial, trivial, trivial, trivial, trivial⟩
    · simp only [Ren.w, hy3]; exact (rRow_len rs).symm
    · simp only [Ren.s, hy3]; rfl
  · refine Ag.agreeS (o := y0) ⟨⟨rfl, rfl, trivial⟩, trivial, ⟨rfl, rfl, trivial⟩, ⟨rfl, trivial⟩⟩ ?_ ?_ ?_ ?_ <;> rw [hy3] <;> rfl
  show wpCs none n E0.P _ (c29.drop 5) a w1
  have hag : Agree rea_TAs φ (hOf 7 rea_HA) w1 (mkY [(0 : Nat), rs.length] [] [rRow rs, oRow late] [pm l l.length, sm []]) := by
    refine mkAgree ⟨(congrFun n1 0).symm, (congrFun n1 1).symm, trivial⟩ trivial ⟨(congrFun n3 0).symm, (congrFun n3 1).symm, trivial⟩ ⟨(congrFun n4 0).symm, ?_, trivial⟩
    intro r es c hr hes
    obtain ⟨o, h1, h2⟩ := hs.hr.blk 4 r hr (by rw [hOf_get]; trivial)
    rw [hOf_get] at h2
    rw [hes] at h1; cases h1
    obtain ⟨el, h1, h2⟩ := h2
    cases h1
    simp only [ERs] at h2
    have : es = #[] := Array.toList_inj.1 h2
    rw [this]; rfl
  obtain ⟨φ4, hs4, k1, k2, k3, k4⟩ := hs.conv rea_As _ hag
  obtain ⟨N, hN⟩ : ∃ N, rs.length = N + 1 := by
    cases rs with
    | nil => obtain ⟨q, hq, _⟩ := hb; cases hq
    | cons x xs => exact ⟨xs.length, rfl⟩
  -- the roots
  let Y0 : Sym := mkY [(0 : Nat), rs.length] [] [rRow rs, oRow late] [pm l l.length, sm []]
  let YA : Nat → Sym := fun i => mkY [i, rs.length, 0, 0, 0, ka] [] [rRow rs, oRow late] [pm l l.length, sm [ka]]
  let YB : Nat → Sym := fun i => mkY [i, rs.length, 0, 0, 0, ka, 0, kb] [] [rRow rs, oRow late] [pm l l.length, sm [ka, kb]]
  let Inv1 : Nat → Act → World → Prop := fun i a w' => match i with
    | 0 => ∃ φ, StAt φ w.heap.size (frOf 51 rea_L1) (hOf 7 rea_H0) a w' ∧ a.defers = [] ∧ GB w.heap.size w w' ∧ Named φ Y0
    | i + 1 => ((∀ q ∈ rs.take (i + 1), q.2 = ka) ∧ ∃ φ, StAt φ w.heap.size (frOf 51 rea_L1) (hOf 8 rea_H1) a w' ∧ a.defers = [] ∧ GB w.heap.size w w' ∧ Named φ (YA (i + 1))) ∨
        ∃ φ, StAt φ w.heap.size (frOf 51 rea_L1) (hOf 8 (rb_G [])) a w' ∧ a.defers = [] ∧ GB w.heap.size w w' ∧ Named φ (YB (i + 1))
  have facts : ∀ (i : Nat) (q : ByteArray × Nat) (φ1 : Ren) (z : Nat), rs[i]? = some q → φ1.s 0 = i → φ1.s 1 = rs.length → φ1.s 2 = i + 1 → φ1.s z = q.2 → φ1.q 4 = .string q.1 → φ1.w 0 = rRow rs →
      (BinF φ1.y .lss (.y .i64 0) (.y .i64 1) (.b true) ∧ BinF φ1.y .add (.y .i64 0) (.i .i64 1) (.y .i64 2)) ∧ ((1 : Int) ≤ φ1.s z ∧ φ1.s z ≤ (100000 : Int)) ∧ (i + 1) * 2 ≤ (φ1.w 0).length ∧ VRs φ1 [.q 4, .y .i64 z] (((φ1.w 0).drop (i * 2)).take 2) := fun i q φ1 z hq s0 s1 s2 s5 q4 hw0 => by
    have hi : i < rs.length := by
      rcases Nat.lt_or_ge i rs.length with h | h
      · exact h
      · rw [List.getElem?_eq_none h] at hq; cases hq
    have hqk := hrs q (List.mem_of_getElem? hq)
    refine ⟨⟨.lss (k := .i64) (x := i) (y := rs.length) (by simp only [ival]; rw [show φ1.y.s 0 = _ from s0]) (by simp only [ival]; rw [show φ1.y.s 1 = _ from s1]) (by simp; omega), .add (k := .i64) (x := i) (y := 1) (by simp only [ival]; rw [show φ1.y.s 0 = _ from s0]) rfl (by simp only [ival]; rw [show φ1.y.s 2 = _ from s2]) (i64_in (by omega))⟩, by rw [s5]; omega, ?_, ?_⟩
    · rw [hw0, rRow_len]; omega
    · rw [hw0, rRow_at hq]
      exact VRs.cons (by simp only [VR]; exact ⟨q4.symm, rfl⟩) (VRs.cons (by simp only [VR, s5]) VRs.nil)
  have mgN : ∀ (φ1 : Ren) (z : Nat) (x : Nat) (s : List Nat), φ1.s z = x → φ1.g 1 = sm s → x ∉ s → ∃ kv, VR φ1 (.y .i64 z) kv ∧ detV (.y .i64 z) = true ∧ ∀ d, MapKept.IsKey d kv → (∀ x ∈ (φ1.g 1).1.toList, MapKept.IsKey d x.key) → Instr.findNow d kv (φ1.g 1).1.toList 0 = some none := fun φ1 z x s hz hg hx =>
    ⟨.int .i64 x, by simp only [VR]; rw [hz], rfl, fun d hd _ => by rw [hg]; exact sm_none hx hd⟩
  have mgS : ∀ (φ1 : Ren) (z : Nat) (x : Nat) (s : List Nat), φ1.s z = x → φ1.g 1 = sm s → x ∈ s → ∃ kv, VR φ1 (.y .i64 z) kv ∧ detV (.y .i64 z) = true ∧ ∀ d, MapKept.IsKey d kv → (∀ x ∈ (φ1.g 1).1.toList, MapKept.IsKey d x.key) → ∃ j u, Instr.findNow d kv (φ1.g 1).1.toList 0 = some (some (j, u)) ∧ VR φ1 (.b true) u := fun φ1 z x s hz hg hx =>
    ⟨.int .i64 x, by simp only [VR]; rw [hz], rfl, fun d hd _ => by
      rw [hg]
      obtain ⟨j, hj⟩ := sm_some hx hd
      exact ⟨j, _, hj, vB⟩⟩
  refine for_loop (id := 0) (b := (match c29.drop 5 with | .block _ (.loop b) :: _ => b | _ => .skip)) (rest := c29.drop 6) (N + 1) Inv1 ?_ ?_ ⟨φ4, hs4, hd, hg, k1, k2, k3, k4⟩
  · intro i a w' hi hinv
    obtain ⟨q, hq⟩ : ∃ q, rs[i]? = some q := ⟨rs[i], List.getElem?_eq_getElem (by omega)⟩
    cases i with
    | zero =>
      obtain ⟨φ, hs, hd, hg, n1, n2, n3, n4⟩ := hinv
      have hqa := h0 q hq
      refine StAt.go E0_ok rfl rea_F0 100 (cs := roundOf (c29.drop 5)) rea_S0 rea_R0 hs hd (mkY [(0 : Nat), rs.length, (0 : Nat) + 1, 0, 0, ka] [.bool false, .bool false, .bool false, .bool false, .string q.1] [rRow rs, oRow late] [pm l l.length, sm []]) ?_ (fun φ1 hs1 m1 m2 m3 m4 => ?_) (mkY [(1 : Nat), rs.length, 0, 0, 0, ka] [] [rRow rs, oRow late] [pm l l.length, sm []]) ?_ fun φ' a' w'' hs' hd' hg' _ k1 k2 k3 k4 => ⟨rfl, .inl ⟨fun p hp => ?_, ?_⟩⟩
      · exact ⟨⟨(congrFun n1 0).symm, (congrFun n1 1).symm, trivial⟩, trivial, ⟨(congrFun n3 0).symm, (congrFun n3 1).symm, trivial⟩, ⟨(congrFun n4 0).symm, (congrFun n4 1).symm, trivial⟩⟩
      · obtain ⟨⟨b1, b2⟩, b3, b4, b5⟩ := facts 0 q φ1 5 hq (congrFun m1 0) (congrFun m1 1) (congrFun m1 2) (by rw [hqa]; exact congrFun m1 5) (congrFun m2 4) (congrFun m3 0)
        exact ⟨⟨b3, trivial⟩, ⟨b1, b2, trivial⟩, trivial, trivial, ⟨⟨by decide, rfl, 0, congrFun m1 0, b4, b5⟩, trivial⟩, trivial, ⟨mgN φ1 5 ka [] (congrFun m1 5) (congrFun m4 1) (by simp), trivial⟩, trivial, trivial⟩
      · exact ⟨⟨rfl, rfl, rfl, trivial⟩, trivial, ⟨rfl, rfl, trivial⟩, ⟨rfl, rfl, trivial⟩⟩
      · rw [take_snoc hq] at hp
        simp only [List.take_zero, List.nil_append, List.mem_singleton] at hp
        rw [hp]; exact hqa
      · have hag : Agree rea_TG φ' (hOf 8 rea_G0) w'' (YA 1) := by
          refine mkAgree ⟨(congrFun k1 0).symm, (congrFun k1 1).symm, (congrFun k1 5).symm, trivial⟩ trivial ⟨(congrFun k3 0).symm, (congrFun k3 1).symm, trivial⟩ ⟨(congrFun k4 0).symm, ?_, trivial⟩
          intro r es c hr hes
          obtain ⟨es', c', g7, mu, _⟩ := hs'.hr.smpL hr (x := 1) (d := .int .i64) (us := [(.y .i64 5, some (.b true))]) rfl
          rw [hes] at g7; cases g7
          simp only [MU, VR] at mu
          obtain ⟨_, _, rfl, rfl, _, mu⟩ := mu
          rw [mu, show φ'.g 1 = sm [] from congrFun k4 1, show φ'.s 5 = ka from congrFun k1 5, sm_push (by simp)]
          rfl
        obtain ⟨φ5, hs5, j1, j2, j3, j4⟩ := hs'.conv rea_G0s _ hag
        exact ⟨φ5, hs5, hd', hg.trans hg', j1, j2, j3, j4⟩
    | succ i =>
      rcases hinv with ⟨hall, φ, hs, hd, hg, n1, n2, n3, n4⟩ | ⟨φ, hs, hd, hg, n1, n2, n3, n4⟩
      · rcases hrs q (List.mem_of_getElem? hq) with hqa | hqb
        · refine StAt.go E0_ok rfl rea_F1 100 (cs := roundOf (c29.drop 5)) rea_S1 rea_R1 hs hd (mkY [(i + 1 : Nat), rs.length, (i + 1 : Nat) + 1, 0, 0, ka] [.bool false, .bool false, .bool false, .bool false, .string q.1] [rRow rs, oRow late] [pm l l.length, sm [ka]]) ?_ (fun φ1 hs1 m1 m2 m3 m4 => ?_) (YA (i + 2)) ?_ fun φ' a' w'' hs' hd' hg' _ k1 k2 k3 k4 => ⟨rfl, .inl ⟨fun p hp => ?_, φ', hs', hd', hg.trans hg', k1, k2, k3, k4⟩⟩
          · exact ⟨⟨(congrFun n1 0).symm, (congrFun n1 1).symm, (congrFun n1 5).symm, trivial⟩, trivial, ⟨(congrFun n3 0).symm, (congrFun n3 1).symm, trivial⟩, ⟨(congrFun n4 0).symm, (congrFun n4 1).symm, trivial⟩⟩
          · obtain ⟨⟨b1, b2⟩, b3, b4, b5⟩ := facts (i + 1) q φ1 5 hq (congrFun m1 0) (congrFun m1 1) (congrFun m1 2) (by rw [hqa]; exact congrFun m1 5) (congrFun m2 4) (congrFun m3 0)
            exact ⟨⟨b3, trivial⟩, ⟨b1, b2, trivial⟩, trivial, trivial, ⟨⟨by decide, rfl, i + 1, congrFun m1 0, b4, b5⟩, trivial⟩, trivial, ⟨mgS φ1 5 ka [ka] (congrFun m1 5) (congrFun m4 1) (by simp), trivial⟩, trivial, trivial⟩
          · exact ⟨⟨by show ((i + 2 : Nat) : Int) = ((i + 1 : Nat) : Int) + 1; omega, rfl, rfl, trivial⟩, trivial, ⟨rfl, rfl, trivial⟩, ⟨rfl, rfl, trivial⟩⟩
          · rw [take_snoc hq] at hp
            rcases List.mem_append.1 hp with hp | hp
            · exact hall p hp
            · simp only [List.mem_singleton] at hp; rw [hp]; exact hqa
        · refine StAt.go E0_ok rfl rb_F2 100 (cs := roundOf (c29.drop 5)) rea_S1 rb_R2 hs hd (mkY [(i + 1 : Nat), rs.length, (i + 1 : Nat) + 1, 0, 0, ka, 0, kb] [.bool false, .bool false, .bool false, .bool false, .string q.1] [rRow rs, oRow late] [pm l l.length, sm [ka]]) ?_ (fun φ1 hs1 m1 m2 m3 m4 => ?_) (mkY [(i + 2 : Nat), rs.length, 0, 0, 0, ka, 0, kb] [] [rRow rs, oRow late] [pm l l.length, sm [ka]]) ?_ fun φ' a' w'' hs' hd' hg' _ k1 k2 k3 k4 => ⟨rfl, .inr ?_⟩
          · exact ⟨⟨(congrFun n1 0).symm, (congrFun n1 1).symm, (congrFun n1 5).symm, trivial⟩, trivial, ⟨(congrFun n3 0).symm, (congrFun n3 1).symm, trivial⟩, ⟨(congrFun n4 0).symm, (congrFun n4 1).symm, trivial⟩⟩
          · obtain ⟨⟨b1, b2⟩, b3, b4, b5⟩ := facts (i + 1) q φ1 7 hq (congrFun m1 0) (congrFun m1 1) (congrFun m1 2) (by rw [hqb]; exact congrFun m1 7) (congrFun m2 4) (congrFun m3 0)
            exact ⟨⟨b3, trivial⟩, ⟨b1, b2, trivial⟩, trivial, trivial, ⟨⟨by decide, rfl, i + 1, congrFun m1 0, b4, b5⟩, trivial⟩, trivial, ⟨mgN φ1 7 kb [ka] (congrFun m1 7) (congrFun m4 1) (by simp; exact fun h => hab h.symm), trivial⟩, trivial, trivial⟩
          · exact ⟨⟨by show ((i + 2 : Nat) : Int) = ((i + 1 : Nat) : Int) + 1; omega, rfl, rfl, rfl, trivial⟩, trivial, ⟨rfl, rfl, trivial⟩, ⟨rfl, rfl, trivial⟩⟩
          · have hag : Agree rb_TG φ' (hOf 8 (rb_G [(.y .i64 7, some (.b true))])) w'' (YB (i + 2)) := by
              refine mkAgree ⟨(congrFun k1 0).symm, (congrFun k1 1).symm, (congrFun k1 5).symm, (congrFun k1 7).symm, trivial⟩ trivial ⟨(congrFun k3 0).symm, (congrFun k3 1).symm, trivial⟩ ⟨(congrFun k4 0).symm, ?_, trivial⟩
              intro r es c hr hes
              obtain ⟨es', c', g7, mu, _⟩ := hs'.hr.smpL hr (x := 1) (d := .int .i64) (us := [(.y .i64 7, some (.b true))]) rfl
              rw [hes] at g7; cases g7
              simp only [MU, VR] at mu
              obtain ⟨_, _, rfl, rfl, _, mu⟩ := mu
              rw [mu, show φ'.g 1 = sm [ka] from congrFun k4 1, show φ'.s 7 = kb from congrFun k1 7, sm_push (by simp; exact fun h => hab h.symm)]
              rfl
            obtain ⟨φ5, hs5, j1, j2, j3, j4⟩ := hs'.conv rb_Gs _ hag
            exact ⟨φ5, hs5, hd', hg.trans hg', j1, j2, j3, j4⟩
      · have hyB : Ag rb_TS φ.y (mkY [(i + 1 : Nat), rs.length, (i + 1 : Nat) + 1, 0, 0, ka, 0, kb] [.bool false, .bool false, .bool false, .bool false, .string q.1] [rRow rs, oRow late] [pm l l.length, sm [ka, kb]]) :=
          ⟨⟨(congrFun n1 0).symm, (congrFun n1 1).symm, (congrFun n1 5).symm, (congrFun n1 7).symm, trivial⟩, trivial, ⟨(congrFun n3 0).symm, (congrFun n3 1).symm, trivial⟩, ⟨(congrFun n4 0).symm, (congrFun n4 1).symm, trivial⟩⟩
        have hyE : Ag rb_T0 (mkY [(i + 1 : Nat), rs.length, (i + 1 : Nat) + 1, 0, 0, ka, 0, kb] [.bool false, .bool false, .bool false, .bool false, .string q.1] [rRow rs, oRow late] [pm l l.length, sm [ka, kb]]) (YB (i + 2)) :=
          ⟨⟨by show ((i + 2 : Nat) : Int) = ((i + 1 : Nat) : Int) + 1; omega, rfl, rfl, rfl, trivial⟩, trivial, ⟨rfl, rfl, trivial⟩, ⟨rfl, rfl, trivial⟩⟩
        rcases hrs q (List.mem_of_getElem? hq) with hqa | hqb
        · refine StAt.go E0_ok rfl (rb_F3 (.y .i64 5)) 100 (cs := roundOf (c29.drop 5)) rb_S rb_R3a hs hd _ hyB (fun φ1 hs1 m1 m2 m3 m4 => ?_) (YB (i + 2)) hyE fun φ' a' w'' hs' hd' hg' _ k1 k2 k3 k4 => ⟨rfl, .inr ⟨φ', hs', hd', hg.trans hg', k1, k2, k3, k4⟩⟩
          obtain ⟨⟨b1, b2⟩, b3, b4, b5⟩ := facts (i + 1) q φ1 5 hq (congrFun m1 0) (congrFun m1 1) (congrFun m1 2) (by rw [hqa]; exact congrFun m1 5) (congrFun m2 4) (congrFun m3 0)
          exact ⟨⟨b3, ⟨by show (1 : Int) ≤ φ1.s 7; rw [show φ1.s 7 = kb from congrFun m1 7]; omega, by show φ1.s 7 ≤ (100000 : Int); rw [show φ1.s 7 = kb from congrFun m1 7]; omega⟩, trivial⟩, ⟨b1, b2, trivial⟩, trivial, trivial, ⟨⟨by decide, rfl, i + 1, congrFun m1 0, b4, b5⟩, trivial⟩, trivial, ⟨mgS φ1 5 ka [ka, kb] (congrFun m1 5) (congrFun m4 1) (by simp), trivial⟩, trivial, trivial⟩
        · refine StAt.go E0_ok rfl (rb_F3 (.y .i64 7)) 100 (cs := roundOf (c29.drop 5)) rb_S rb_R3b hs hd _ hyB (fun φ1 hs1 m1 m2 m3 m4 => ?_) (YB (i + 2)) hyE fun φ' a' w'' hs' hd' hg' _ k1 k2 k3 k4 => ⟨rfl, .inr ⟨φ', hs', hd', hg.trans hg', k1, k2, k3, k4⟩⟩
          obtain ⟨⟨b1, b2⟩, b3, b4, b5⟩ := facts (i + 1) q φ1 7 hq (congrFun m1 0) (congrFun m1 1) (congrFun m1 2) (by rw [hqb]; exact congrFun m1 7) (congrFun m2 4) (congrFun m3 0)
          exact ⟨⟨⟨by show (1 : Int) ≤ φ1.s 5; rw [show φ1.s 5 = ka from congrFun m1 5]; omega, by show φ1.s 5 ≤ (100000 : Int); rw [show φ1.s 5 = ka from congrFun m1 5]; omega⟩, b3, trivial⟩, ⟨b1, b2, trivial⟩, trivial, trivial, ⟨⟨by decide, rfl, i + 1, congrFun m1 0, b4, b5⟩, trivial⟩, trivial, ⟨mgS φ1 7 kb [ka, kb] (congrFun m1 7) (congrFun m4 1) (by simp), trivial⟩, trivial, trivial⟩
  · intro a w' hinv
    rcases hinv with ⟨hall, _⟩ | ⟨φ, hs, hd, hg, n1, n2, n3, n4⟩
    · obtain ⟨q, hq, hqb⟩ := hb
      rw [List.take_of_length_le (by omega)] at hall
      exact absurd ((hall q hq).symm.trans hqb) hab
    refine StAt.go E0_ok rfl who_FC 100 (cs := roundOf (c29.drop 5)) rb_S rb_E hs hd (YB (N + 1)) ?_ (fun φ1 hs1 m1 m2 m3 m4 => ?_) (mkY [0, 0, 0, 0, 0, ka, 0, kb] [] [[], oRow late] [pm l l.length, sm [ka, kb]]) ?_ fun φ' a' w'' hs' hd' hg' _ k1 k2 k3 k4 => ⟨rfl, ?_⟩
    · exact ⟨⟨(congrFun n1 0).symm, (congrFun n1 1).symm, (congrFun n1 5).symm, (congrFun n1 7).symm, trivial⟩, trivial, ⟨(congrFun n3 0).symm, (congrFun n3 1).symm, trivial⟩, ⟨(congrFun n4 0).symm, (congrFun n4 1).symm, trivial⟩⟩
    · have s0 : φ1.y.s 0 = (N + 1 : Nat) := congrFun m1 0
      have s1 : φ1.y.s 1 = rs.length := congrFun m1 1
      exact ⟨trivial, ⟨.lss (k := .i64) (x := (N + 1 : Nat)) (y := rs.length) (by simp only [ival, s0]) (by simp only [ival, s1]) (by simp; omega), trivial⟩, trivial, trivial, trivial, trivial, trivial, trivial, trivial⟩
    · exact ⟨⟨rfl, rfl, trivial⟩, trivial, ⟨rfl, trivial⟩, ⟨rfl, rfl, trivial⟩⟩
    -- what is on the stack
    have obj : ∀ x, x = ka ∨ x = kb → ∃ (j : Nat) (q' : O × Value) (r : Nat), j < l.length ∧ late[j]? = some q' ∧ q'.1.id = x ∧ lastId l (j + 1) = x ∧ (q'.1.ref = 0 ∨ q'.1.ref = ka ∨ q'.1.ref = kb) ∧ q'.2 = .slice (some ⟨r, 0, none⟩) 1 1 ∧ w.heap[r]? = some (.cells (valC q'.1) 70 (0, 0)) := fun x hx => by
      obtain ⟨_, j, q, hq, hqid, hqref⟩ := hO x hx
      have hjl : j < l.length := by
        rcases Nat.lt_or_ge j l.length with h | h
        · exact h
        · rw [List.getElem?_eq_none h] at hq; cases hq
      obtain ⟨q', hq'⟩ : ∃ q', late[j]? = some q' := ⟨late[j]'(by omega), List.getElem?_eq_getElem (by omega)⟩
      have hqq : q'.1 = q.1 := by
        have := congrArg (·[j]?) hfst
        simpa [hq, hq'] using this
      obtain ⟨r, hp2, hr⟩ := hvals q' (List.mem_of_getElem? hq')
      exact ⟨j, q', r, hjl, hq', by rw [hqq, hqid], by simp [lastId, hq, hqid], by rw [hqq]; exact hqref, hp2, hr⟩
    have common : ∀ (x z j r : Nat) (q' : O × Value), (x = ka ∨ x = kb) → j < l.length → late[j]? = some q' → q'.1.id = x → lastId l (j + 1) = x → q'.2 = .slice (some ⟨r, 0, none⟩) 1 1 → ∀ (φ4 : Ren), φ4.s z = x → φ4.s 9 = j → φ4.w 1 = oRow late → φ4.g 0 = pm l l.length → φ4 8 = some r →
        ((1 : Int) ≤ φ4.s z ∧ φ4.s z ≤ (100000 : Int)) ∧ ((0 : Int) ≤ φ4.s 9 ∧ φ4.s 9 ≤ (100000 : Int)) ∧ φ4.s 9 = ((j : Nat) : Int) ∧ (j + 1) * 4 ≤ (φ4.w 1).length ∧
        VRs φ4 [.y .i64 z, .i .i64 0, .i .i64 0, .sl (some (8, 0)) 1 (.kn 1)] (((φ4.w 1).drop (j * 4)).take 4) ∧
        (∃ kv, VR φ4 (.y .i64 z) kv ∧ detV (.y .i64 z) = true ∧ ∀ d, MapKept.IsKey d kv → (∀ x ∈ (φ4.g 0).1.toList, MapKept.IsKey d x.key) → ∃ j' u, Instr.findNow d kv (φ4.g 0).1.toList 0 = some (some (j', u)) ∧ VR φ4 (.y .i64 9) u) := fun x z j r q' hx hjl hq' hid hlast hp2 φ4 s5 s9 hw hg0 h8 => by
      have hxp := (hO x hx).1
      refine ⟨by rw [s5]; omega, by rw [s9]; omega, s9, by rw [hw, oRow_len]; omega, ?_, ⟨.int .i64 x, by simp only [VR, s5], rfl, fun d hd _ => ⟨j, .int .i64 j, ?_, by simp only [VR, s9]⟩⟩⟩
      · rw [hw, oRow_at hq']
        refine VRs.cons (by simp only [VR, s5, hid]) (VRs.cons vI (VRs.cons vI (VRs.cons ?_ VRs.nil)))
        show VR _ _ q'.2
        rw [hp2]; exact vSl h8 (by decide)
      · rw [hg0, ← hlast]
        exact pm_find ha hjl (by rw [hlast]; exact hd)
    have rfp : ∀ q' : O × Value, (q'.1.ref = 0 ∨ q'.1.ref = ka ∨ q'.1.ref = kb) → 1 ≤ rf q'.1 ∧ rf q'.1 ≤ 100000 := fun q' h => by
      unfold rf
      split <;> omega
    have rfm : ∀ q' : O × Value, (q'.1.ref = 0 ∨ q'.1.ref = ka ∨ q'.1.ref = kb) → q'.1.ref ≠ 0 → rf q'.1 ∈ [ka, kb] := fun q' h h0 => by
      unfold rf
      rw [if_neg h0]
      rcases h with h | h | h
      · exact absurd h h0
      · rw [h]; simp
      · rw [h]; simp
    let S0 : Sym := mkY [0, 0, 0, 0, 0, ka, 0, kb] [] [[], oRow late] [pm l l.length, sm [ka, kb]]
    let S1 : Sym := mkY [0, 0, 0, 0, 0, ka] [] [[], oRow late] [pm l l.length, sm [ka, kb]]
    let S2 : Sym := mkY [0, 0, 0, 0, 0, ka] [] [] [(#[], 0), sm [ka, kb]]
    let Inv2 : Nat → Act → World → Prop := fun i a w' => match i with
      | 0 => ∃ φ, StAt φ w.heap.size (frOf 51 rea_L2) (hOf 8 rb_H2) a w' ∧ a.defers = [] ∧ GB w.heap.size w w' ∧ Named φ S0
      | 1 => ∃ φ, StAt φ w.heap.size (frOf 51 rea_L2) (hOf 8 rea_H2) a w' ∧ a.defers = [] ∧ GB w.heap.size w w' ∧ Named φ S1
      | _ => ∃ φ, StAt φ w.heap.size (frOf 51 rea_L3) (hOf 8 rea_H3) a w' ∧ a.defers = [] ∧ GB w.heap.size w w' ∧ Named φ S2
    refine for_loop (id := 2) (b := (match c29.drop 6 with | .block _ (.loop b) :: _ => b | _ => .skip)) (rest := c29.drop 7) 2 Inv2 ?_ ?_ ⟨φ', hs', hd', hg.trans hg', k1, k2, k3, k4⟩
    · intro i a w' hi hinv
      rcases Nat.lt_or_ge i 1 with hi0 | hi1
      · -- the second one
        have : i = 0 := by omega
        subst this
        obtain ⟨φ, hs, hd, hg, n1, n2, n3, n4⟩ := hinv
        obtain ⟨j, q', r, hjl, hq', hid, hlast, href, hp2, hr⟩ := obj kb (.inr rfl)
        have hr' := hg.at_ rfl hr
        obtain ⟨φ1, hs1, m1, m2, m3, m4⟩ := hs.resym rb_S2 (y := mkY [0, 0, 0, 0, 0, ka, rf q'.1, kb, 0, j] [] [[], oRow late] [pm l l.length, sm [ka, kb]])
          ⟨⟨(congrFun n1 5).symm, (congrFun n1 7).symm, trivial⟩, trivial, ⟨(congrFun n3 1).symm, trivial⟩, ⟨(congrFun n4 0).symm, (congrFun n4 1).symm, trivial⟩⟩
        have s6 : φ1.s 6 = ((rf q'.1 : Nat) : Int) := congrFun m1 6
        have hst : ∀ (k v : V), KN k v q'.1 → StAt (up φ1 8 r (valC q'.1).size) w.heap.size (frOf 51 rea_L2) (hOf 9 ((8, .rc [k, v, .s [], .sl none 0 (.kn 0)] 70) :: rb_H2)) a w' := fun k v hkn =>
          hs1.reveal hr' rfl 99 .top (.rc [k, v, .s [], .sl none 0 (.kn 0)] 70) (fun h => h) ⟨_, rfl, by
            rw [List.take_of_length_le (by rw [Array.length_toList, valC_size]; exact Nat.le_refl 4)]
            exact (hkn φ1 s6).1, by rw [valC_size]; exact Nat.le_refl 4, rfl⟩ (by simp only [VR])
        obtain ⟨b1, b2, b3, b4, b5, b6⟩ := common kb 7 j r q' (.inr rfl) hjl hq' hid hlast hp2 (up φ1 8 r (valC q'.1).size) (congrFun m1 7) (congrFun m1 9) (congrFun m3 1) (congrFun m4 0) (by simp [up])
        have hrp := rfp q' href
        have b0 : (1 : Int) ≤ (up φ1 8 r (valC q'.1).size).s 6 ∧ (up φ1 8 r (valC q'.1).size).s 6 ≤ (100000 : Int) := by
          rw [show (up φ1 8 r (valC q'.1).size).s 6 = ((rf q'.1 : Nat) : Int) from s6]; omega
        have hyE : Ag rea_T2 (mkY [0, 0, 0, 0, 0, ka, rf q'.1, kb, 0, j] [] [[], oRow late] [pm l l.length, sm [ka, kb]]) S1 := ⟨⟨rfl, trivial⟩, trivial, ⟨rfl, trivial⟩, ⟨rfl, rfl, trivial⟩⟩
        by_cases hz : q'.1.ref = 0
        · exact StAt.runL (withF_ok E0_ok (rb_F4 [])) rfl 100 (cs := roundOf (c29.drop 6)) rb_N2 (hst _ _ (KN_N hz)) (FactsOK.bd' ⟨⟨b0, b1, b2, trivial⟩, trivial, trivial, trivial, ⟨⟨by decide, rfl, j, b3, b4, b5⟩, trivial⟩, trivial, ⟨b6, trivial⟩, trivial, trivial⟩) hd S1 (hyE.agreeS m1 m2 m3 m4) fun φ' a' w'' hs' hd' hg' _ e1 e2 e3 e4 => ⟨rfl, φ', hs', hd', hg.trans hg', e1, e2, e3, e4⟩
        · exact StAt.runL (withF_ok E0_ok (rb_F4 [(1, .y .i64 6, some (.b true))])) rfl 100 (cs := roundOf (c29.drop 6)) rb_Y2 (hst _ _ (KN_Y hz)) (FactsOK.bd' ⟨⟨b0, b1, b2, trivial⟩, trivial, trivial, trivial, ⟨⟨by decide, rfl, j, b3, b4, b5⟩, trivial⟩, trivial, ⟨b6, mgS _ 6 (rf q'.1) [ka, kb] s6 (congrFun m4 1) (rfm q' href hz), trivial⟩, trivial, trivial⟩) hd S1 (hyE.agreeS m1 m2 m3 m4) fun φ' a' w'' hs' hd' hg' _ e1 e2 e3 e4 => ⟨rfl, φ', hs', hd', hg.trans hg', e1, e2, e3, e4⟩
      · -- the first one
        have : i = 1 := by omega
        subst this
        obtain ⟨φ, hs, hd, hg, n1, n2, n3, n4⟩ := hinv
        obtain ⟨j, q', r, hjl, hq', hid, hlast, href, hp2, hr⟩ := obj ka (.inl rfl)
        have hr' := hg.at_ rfl hr
        obtain ⟨φ1, hs1, m1, m2, m3, m4⟩ := hs.resym rea_S2 (y := mkY [0, 0, 0, 0, 0, ka, rf q'.1, 0, 0, j] [] [[], oRow late] [pm l l.length, sm [ka, kb]])
          ⟨⟨(congrFun n1 5).symm, trivial⟩, trivial, ⟨(congrFun n3 1).symm, trivial⟩, ⟨(congrFun n4 0).symm, (congrFun n4 1).symm, trivial⟩⟩
        have s6 : φ1.s 6 = ((rf q'.1 : Nat) : Int) := congrFun m1 6
        have hst : ∀ (k v : V), KN k v q'.1 → StAt (up φ1 8 r (valC q'.1).size) w.heap.size (frOf 51 rea_L2) (hOf 9 ((8, .rc [k, v, .s [], .sl none 0 (.kn 0)] 70) :: rea_H2)) a w' := fun k v hkn =>
          hs1.reveal hr' rfl 99 .top (.rc [k, v, .s [], .sl none 0 (.kn 0)] 70) (fun h => h) ⟨_, rfl, by
            rw [List.take_of_length_le (by rw [Array.length_toList, valC_size]; exact Nat.le_refl 4)]
            exact (hkn φ1 s6).1, by rw [valC_size]; exact Nat.le_refl 4, rfl⟩ (by simp only [VR])
        obtain ⟨b1, b2, b3, b4, b5, b6⟩ := common ka 5 j r q' (.inl rfl) hjl hq' hid hlast hp2 (up φ1 8 r (valC q'.1).size) (congrFun m1 5) (congrFun m1 9) (congrFun m3 1) (congrFun m4 0) (by simp [up])
        have hrp := rfp q' href
        have b0 : (1 : Int) ≤ (up φ1 8 r (valC q'.1).size).s 6 ∧ (up φ1 8 r (valC q'.1).size).s 6 ≤ (100000 : Int) := by
          rw [show (up φ1 8 r (valC q'.1).size).s 6 = ((rf q'.1 : Nat) : Int) from s6]; omega
        have hyE : Ag rea_T3 (mkY [0, 0, 0, 0, 0, ka, rf q'.1, 0, 0, j] [] [[], oRow late] [pm l l.length, sm [ka, kb]]) S2 := ⟨⟨rfl, trivial⟩, trivial, trivial, ⟨rfl, trivial⟩⟩
        by_cases hz : q'.1.ref = 0
        · exact StAt.runL (withF_ok E0_ok (rb_F5 [])) rfl 100 (cs := roundOf (c29.drop 6)) rb_N1 (hst _ _ (KN_N hz)) (FactsOK.bd' ⟨⟨b1, b0, b2, trivial⟩, trivial, trivial, trivial, ⟨⟨by decide, rfl, j, b3, b4, b5⟩, trivial⟩, trivial, ⟨b6, trivial⟩, trivial, trivial⟩) hd S2 (hyE.agreeS m1 m2 m3 m4) fun φ' a' w'' hs' hd' hg' _ e1 e2 e3 e4 => ⟨rfl, φ', hs', hd', hg.trans hg', e1, e2, e3, e4⟩
        · exact StAt.runL (withF_ok E0_ok (rb_F5 [(1, .y .i64 6, some (.b true))])) rfl 100 (cs := roundOf (c29.drop 6)) rb_Y1 (hst _ _ (KN_Y hz)) (FactsOK.bd' ⟨⟨b1, b0, b2, trivial⟩, trivial, trivial, trivial, ⟨⟨by decide, rfl, j, b3, b4, b5⟩, trivial⟩, trivial, ⟨b6, mgS _ 6 (rf q'.1) [ka, kb] s6 (congrFun m4 1) (rfm q' href hz), trivial⟩, trivial, trivial⟩) hd S2 (hyE.agreeS m1 m2 m3 m4) fun φ' a' w'' hs' hd' hg' _ e1 e2 e3 e4 => ⟨rfl, φ', hs', hd', hg.trans hg', e1, e2, e3, e4⟩
    · rintro a w' ⟨φ, hs, hd, hg, n1, n2, n3, n4⟩
      refine StAt.go E0_ok rfl {} 100 (cs := roundOf (c29.drop 6)) rea_S3 rea_X hs hd S2 ?_ (fun φ1 hs1 m1 m2 m3 m4 => ?_) S2 ?_ fun φ' a' w'' hs' hd' hg' _ k1 k2 k3 k4 => ⟨rfl, ?_⟩
      · exact ⟨⟨(congrFun n1 5).symm, trivial⟩, trivial, trivial, ⟨(congrFun n4 1).symm, trivial⟩⟩
      · exact ⟨trivial, trivial, trivial, trivial, trivial, trivial, trivial, trivial, trivial⟩
      · exact ⟨⟨rfl, trivial⟩, trivial, trivial, ⟨rfl, trivial⟩⟩
      refine StAt.go E0_ok rfl {} 2 (cs := c29.drop 7) rea_S3 rea_Z hs' hd' S2 ?_ (fun φ1 hs1 m1 m2 m3 m4 => ?_) S2 ?_ fun φ3 a3 w3 hs3 hd3 hg3 _ j1 j2 j3 j4 => ?_
      · exact ⟨⟨(congrFun k1 5).symm, trivial⟩, trivial, trivial, ⟨(congrFun k4 1).symm, trivial⟩⟩
      · exact ⟨trivial, trivial, trivial, trivial, trivial, trivial, trivial, trivial, trivial⟩
      · exact ⟨trivial, trivial, trivial, ⟨rfl, trivial⟩⟩
      refine ⟨.inl rfl, hd3, ?_⟩
      obtain ⟨v, hv1, hv2⟩ := hs3.leave E0_ok (fn := Tryz.f29) (l := [.m (some 4)]) rfl
      simp only [aRets, VR] at hv2
      obtain ⟨r, h4, rfl⟩ := hv2
      obtain ⟨es, c, g7, mu, _⟩ := hs3.hr.smpL h4 (x := 1) (d := .int .i64) (us := []) rfl
      simp only [MU] at mu
      refine ⟨_, hv1, _, rfl, ⟨r, rfl, ?_⟩, ((hg.trans hg').trans hg3).grown⟩
      rw [g7, ← show φ3.g 1 = sm [ka, kb] from congrFun j4 1, ← mu]

end Go.Ev

/- Chains, part Fc: 'limit.Check' of two objects, roots of either. -/
namespace Go.Ev
open Go.Proofs

structure Two (s : Bst) : Prop where
  objs : s.objs.map (·.1) = chainL 2
  roots : ∀ q ∈ s.roots, q.2 = 1 ∨ q.2 = 2
  rne : s.roots ≠ []
theorem chain2 : chainL 2 = [⟨1, 2⟩, ⟨2, 0⟩] := rfl
theorem Two.len {s : Bst} (h : Two s) : s.objs.length = 2 := by
  have := congrArg List.length h.objs
  simpa [chain2] using this
theorem Two.one {s : Bst} (h : Two s) : ∃ p ∈ s.objs, p.1 = ⟨1, 2⟩ := by
  have : (⟨1, 2⟩ : O) ∈ s.objs.map (·.1) := by rw [h.objs, chain2]; simp
  obtain ⟨p, hp, e⟩ := List.mem_map.1 this
  exact ⟨p, hp, e⟩
theorem Two.two {s : Bst} (h : Two s) : ∃ p ∈ s.objs, p.1 = ⟨2, 0⟩ := by
  have : (⟨2, 0⟩ : O) ∈ s.objs.map (·.1) := by rw [h.objs, chain2]; simp
  obtain ⟨p, hp, e⟩ := List.mem_map.1 this
  exact ⟨p, hp, e⟩
theorem Two.ne {s : Bst} (h : Two s) : s.objs ≠ [] := by
  obtain ⟨p, hp, _⟩ := h.one
  rintro e
  rw [e] at hp; cases hp
theorem Two.id {s : Bst} (h : Two s) {x : Nat} (hx : x = 1 ∨ x = 2) : ∃ p ∈ s.objs, p.1.id = x := by
  rcases hx with rfl | rfl
  · obtain ⟨p, hp, e⟩ := h.one
    exact ⟨p, hp, by rw [e]⟩
  · obtain ⟨p, hp, e⟩ := h.two
    exact ⟨p, hp, by rw [e]⟩
theorem Two.whole {s : Bst} (h : Two s) : WholeS s.objs s.roots := by
  refine ⟨fun q hq => h.id (h.roots q hq), fun p hp => ?_⟩
  have : p.1 ∈ chainL 2 := by rw [← h.objs]; exact List.mem_map.2 ⟨p, hp, rfl⟩
  rw [chain2] at this
  simp only [List.mem_cons, List.not_mem_nil, or_false] at this
  rcases this with e | e
  · exact .inr (h.id (by rw [e]; simp))
  · exact .inl (by rw [e])
theorem Two.chain {s : Bst} (h : Two s) {k : Nat} (hk : k = 1 ∨ k = 2) (ha : ∀ q ∈ s.roots, q.2 = k) : HasChain s 2 k := by
  refine ⟨fun o ho => by rw [h.objs]; exact ho, fun p hp => ?_, ha, h.rne, by omega, by decide⟩
  have : p.1 ∈ chainL 2 := by rw [← h.objs]; exact List.mem_map.2 ⟨p, hp, rfl⟩
  rw [chain2] at this
  simp only [List.mem_cons, List.not_mem_nil, or_false] at this
  rcases this with e | e <;> rw [e] <;> decide
theorem Two.pair {s : Bst} (h : Two s) {l : List (O × Value)} (hl : (l.map (·.1)).Perm (s.objs.map (·.1))) {a b : Nat} (hab : (a = 1 ∧ b = 2) ∨ (a = 2 ∧ b = 1)) : Pair l a b := by
  intro x hx
  have hx12 : x = 1 ∨ x = 2 := by omega
  refine ⟨by omega, ?_⟩
  have : ∃ o : O, o ∈ s.objs.map (·.1) ∧ o.id = x ∧ (o.ref = 0 ∨ o.ref = a ∨ o.ref = b) := by
    rw [h.objs, chain2]
    rcases hx12 with rfl | rfl
    · exact ⟨⟨1, 2⟩, by simp, rfl, by show 2 = 0 ∨ 2 = a ∨ 2 = b; omega⟩
    · exact ⟨⟨2, 0⟩, by simp, rfl, .inl rfl⟩
  obtain ⟨o, ho, h1, h2⟩ := this
  have ho' := hl.mem_iff.2 ho
  obtain ⟨p, hp, rfl⟩ := List.mem_map.1 ho'
  obtain ⟨j, hj⟩ := List.getElem?_of_mem hp
  exact ⟨j, p, hj, h1, h2⟩
open Classical in
noncomputable def twoN (s : Bst) : Nat := if ∀ q ∈ s.roots, q.2 = 2 then 1 else 2
theorem Two.reach {s : Bst} (h : Two s) {n : Nat} {w : World} {ln ov rv : Value} {l : List (O × Value)} {rs : List (ByteArray × Nat)} (ho : OutW w s ln ov rv l rs) :
    CallsIn (W none) n Tryz.prog 11 #[wV ln ov rv s.next] w fun e w' => ∃ v, e = .returned v ∧ (∃ u row, v = .tuple #[u, .int .i64 0] ∧ row.length = twoN s ∧ IsRow w' 3 1 u row) ∧ Grown w w' := by
  unfold twoN
  by_cases h2 : ∀ q ∈ s.roots, q.2 = 2
  · rw [if_pos h2]
    exact (h.chain (.inr rfl) h2).reach ho
  · rw [if_neg h2]
    by_cases h1 : ∀ q ∈ s.roots, q.2 = 1
    · exact (h.chain (.inl rfl) h1).reach ho
    · have hrne : rs ≠ [] := by
        rintro rfl
        have := ho.roots.length_eq
        simp at this
        exact h.rne (List.eq_nil_of_length_eq_zero this.symm)
      have hlne : l ≠ [] := by
        rintro rfl
        have := ho.objs.length_eq
        simp at this
        exact h.ne (List.eq_nil_of_length_eq_zero this.symm)
      obtain ⟨q0, t, rfl⟩ : ∃ q0 t, rs = q0 :: t := by
        cases rs with
        | nil => exact absurd rfl hrne
        | cons q t => exact ⟨q, t, rfl⟩
      have hin : ∀ q ∈ q0 :: t, q.2 = 1 ∨ q.2 = 2 := fun q hq => h.roots q (ho.roots.mem_iff.1 hq)
      have h0 := hin q0 (by simp)
      obtain ⟨b, hb⟩ : ∃ b, b = 3 - q0.2 := ⟨_, rfl⟩
      have hex : ∃ q ∈ q0 :: t, q.2 = b := by
        by_cases hq : ∃ q ∈ q0 :: t, q.2 = b
        · exact hq
        · exfalso
          have hall : ∀ q ∈ s.roots, q.2 = q0.2 := fun q hq' => by
            have hm := ho.roots.mem_iff.2 hq'
            have := hin q hm
            have hne : q.2 ≠ b := fun e => hq ⟨q, hm, e⟩
            omega
          rcases h0 with e | e
          · exact h1 fun q hq' => (hall q hq').trans e
          · exact h2 fun q hq' => (hall q hq').trans e
      have := reachG_ok (n := n) (p := [q0.2, b]) ho.gw ho.whole hlne (by simp; omega) (fun x hx => by simp only [List.mem_cons, List.not_mem_nil, or_false] at hx; omega) (by simp) (by show 2 ≤ 100000; decide) fun n w' lv mv hF hr =>
        reachB_ok hF hr ho.gw.asc (by omega) (h.pair ho.objs (by omega)) (fun q hq => by simp only [List.getElem?_cons_zero, Option.some.injEq] at hq; rw [hq]) (fun q hq => by have := hin q hq; omega) hex ho.gw.ln ho.gw.rl
      exact this

theorem lim_two {s : Bst} {a b : Nat} : lim (twoN s) a b = lim 2 a b := by
  have : ¬ 200 < twoN s := by unfold twoN; split <;> decide
  unfold lim
  rw [if_neg this, if_neg (by decide : ¬ 200 < 2)]

/-- 'limit.Check' of two objects. -/
theorem limit_two {n : Nat} {w : World} {lines ov rv : Value} {next : Nat} {l : List (O × Value)} {rs : List (ByteArray × Nat)} (G : GW w lines ov rv next l rs) (h0 : Two ⟨l, rs, next⟩) {sv recv : Value} {sl : List (ByteArray × Nat)} {rl : List (R × Value)} (hsn : IsSnaps w sv sl) (hsl : sl.length ≤ 100000) (hrecs : IsRecs w recv rl) (hrl : ∀ r ∈ rl, ROK w r) (hn : rl.length ≤ 1000)
    {s : Bst} (hs : s = (⟨l, rs, next⟩ : Bst).run rl) (h2 : Two s) (hsr : s.roots.length ≤ 100000) {c : Nat} (he : lim 2 s.roots.length (namesOf sl rl).length = c) :
    CallsIn (W none) n Tryz.prog 9 #[wV lines ov rv next, sv, recv] w fun e w' => ∃ v, e = .returned v ∧ v = .int .i64 c ∧ Grown w w' := by
  rw [← he, ← lim_two (s := s)]
  exact limit_ok G (h0.whole.perm (List.Perm.refl _) (List.Perm.refl _)) h0.ne hsn hsl hrecs hrl (by omega) hs h2.whole (by rw [h2.len]; decide) hsr h2.ne h2.rne fun n w' ln ov rv l' rs' ho => h2.reach ho

end Go.Ev

/- Chains, part Ga: 'LimitRoots', its runs. -/
namespace Go.Ev
open Go.Proofs

noncomputable def c4 : List Code := flatL ((Tryz.f4.body).getD .skip)
def lr_L0 : List (Nat × V) := [(0, .y .i64 0), (1, .y .i64 1), (2, .y .i64 2), (7, .b true)]
def lr_Tn : Tab := { s := [(0, .y 0), (1, .y 1), (2, .y 2)] }
theorem lr_0 : runsL (withF E0 lo_F) 100 (c4.take 2) ⟨106, load [.y .i64 0, .y .i64 1, .y .i64 2] 0 .leaf⟩ (hOf 0 []) .n lr_Tn 106 lr_L0 0 [] = true := by decide +kernel
/-- How many roots. -/
theorem lr_r2 : ∃ id, c4.drop 2 = .region id (opsD (c4.drop 2)) false :: c4.drop 3 := ⟨_, rfl⟩
theorem lr_2 : runsO (withF E0 {}) 100 (opsD (c4.drop 2)) ((opsD (c4.drop 2)).toList.take 1) (frOf 106 lr_L0) (hOf 0 []) lr_Tn 106 ((19, .y .i64 0) :: lr_L0) 0 [] = true := by decide +kernel
theorem lr_2s : selfOK lr_Tn 106 ((19, .y .i64 0) :: lr_L0) 0 [] = true := by decide +kernel
def lr_F2 : Facts := { bin := [(.add, .i .i64 14, .y .i64 4, .y .i64 10)] }
def lr_L3 : List (Nat × V) := (8, .y .i64 10) :: [(1, .y .i64 1), (2, .y .i64 2), (7, .b true)]
def lr_T3 : Tab := { s := [(1, .y 1), (2, .y 2), (10, .y 10)] }
theorem lr_2z : runsO (withF E0 lr_F2) 100 (opsD (c4.drop 2)) (((opsD (c4.drop 2)).toList.drop 2).take 100) (frOf 106 ((20, .y .i64 4) :: (19, .y .i64 0) :: lr_L0)) (hOf 0 []) lr_T3 106 lr_L3 0 [] = true := by decide +kernel
/-- The chain. -/
theorem lr_r3 : ∃ id, c4.drop 3 = .region id (opsD (c4.drop 3)) false :: c4.drop 4 := ⟨_, rfl⟩
theorem lr_3 : runsO (withF E0 {}) 100 (opsD (c4.drop 3)) ((opsD (c4.drop 3)).toList.take 1) (frOf 106 lr_L3) (hOf 0 []) lr_T3 106 ((22, .y .i64 10) :: lr_L3) 0 [] = true := by decide +kernel
theorem lr_3s : selfOK lr_T3 106 ((22, .y .i64 10) :: lr_L3) 0 [] = true := by decide +kernel
def lr_T4 : Tab := { s := [(1, .y 1), (2, .y 2), (3, .y 3), (10, .y 10)], q := [(0, .q 0), (1, .q 1), (2, .q 2)] }
def lr_L4 : List (Nat × V) := (9, .p (some (0, 0))) :: lr_L3
def lr_H4 : List (Nat × Blk) := [(0, Rea_B)]
theorem lr_3z : runsO (withF E0 {}) 100 (opsD (c4.drop 3)) (((opsD (c4.drop 3)).toList.drop 2).take 100) (frOf 106 ((23, wA) :: (22, .y .i64 10) :: lr_L3)) (hOf 0 []) lr_T4 106 lr_L4 1 lr_H4 = true := by decide +kernel
/-- How many more. -/
theorem lr_r4 : ∃ id, c4.drop 4 = .region id (opsD (c4.drop 4)) false :: c4.drop 5 := ⟨_, rfl⟩
theorem lr_4 : runsO (withF E0 {}) 100 (opsD (c4.drop 4)) ((opsD (c4.drop 4)).toList.take 1) (frOf 106 lr_L4) (hOf 1 lr_H4) lr_T4 106 ((24, .y .i64 2) :: lr_L4) 1 lr_H4 = true := by decide +kernel
theorem lr_4s : selfOK lr_T4 106 ((24, .y .i64 2) :: lr_L4) 1 lr_H4 = true := by decide +kernel
def lr_T5 : Tab := { s := [(1, .y 1), (3, .y 3), (10, .y 10)], q := [(0, .q 0), (1, .q 1), (2, .q 2)] }
def lr_b : List (Nat × V) := [(9, .p (some (0, 0))), (8, .y .i64 10), (7, .b true)]
def lr_L5 (t : Nat) : List (Nat × V) := (10, .i .i64 t) :: (1, .y .i64 1) :: lr_b
noncomputable def lr_4z (t : Nat) : Bool := runsO (withF E0 {}) 100 (opsD (c4.drop 4)) (((opsD (c4.drop 4)).toList.drop 2).take 100) (frOf 106 ((25, .i .i64 t) :: (24, .y .i64 2) :: lr_L4)) (hOf 1 lr_H4) lr_T5 106 (lr_L5 t) 1 lr_H4
theorem lr_4zs : (List.range 9).all lr_4z = true := by decide +kernel
/-- The records. -/
def zName (i : Nat) : List Nat := [122, 48 + i / 10 % 10, 48 + i % 10]
def zRecs (t : Nat) : List V := (List.range t).flatMap fun i => recV (.i .i64 2) (.i .i64 0) nl (.i .i64 2) (.s (zName i))
def lr_S (t : Nat) : V := if t = 0 then nl else .sl (some (1, 0)) t (.un 18)
def lr_B (t : Nat) : List (Nat × Blk) := if t = 0 then [] else [(1, .cells (zRecs t) 45 true)]
def lr_L8 (t : Nat) : List (Nat × V) := (11, lr_S t) :: lr_L5 t
def lr_H8 (t : Nat) : List (Nat × Blk) := lr_H4 ++ lr_B t
noncomputable def lr_5 (t : Nat) : Bool := runsL (withF E0 {}) 3000 ((c4.drop 5).take 3) (frOf 106 (lr_L5 t)) (hOf 1 lr_H4) .n lr_T5 106 (lr_L8 t) 2 (lr_H8 t)
theorem lr_5s : (List.range 9).all lr_5 = true := by decide +kernel
/-- A root that there is. -/
theorem lr_r8 : ∃ id, c4.drop 8 = .region id (opsD (c4.drop 8)) false :: c4.drop 9 := ⟨_, rfl⟩
def lr_L8a (t : Nat) : List (Nat × V) := (38, .y .i64 1) :: (39, .y .i64 10) :: lr_L8 t
noncomputable def lr_8 (t : Nat) : Bool := runsO (withF E0 {}) 100 (opsD (c4.drop 8)) ((opsD (c4.drop 8)).toList.take 2) (frOf 106 (lr_L8 t)) (hOf 2 (lr_H8 t)) lr_T5 106 (lr_L8a t) 2 (lr_H8 t) && selfOK lr_T5 106 (lr_L8a t) 2 (lr_H8 t)
theorem lr_8s : (List.range 9).all lr_8 = true := by decide +kernel
def agV (n : V) : List V := recV (.i .i64 2) (.i .i64 0) nl (.i .i64 2) n
def goV (n : V) : List V := recV (.i .i64 2) (.i .i64 0) nl (.i .i64 0) n
def lr_T9 (p : Nat) : Tab := { s := [(1, .y 1), (3, .y 3), (10, .y 10)], q := [(0, .q 0), (1, .q 1), (2, .q 2), (4, .s (rName p))] }
def lr_T9s : Tab := { s := [(1, .y 1), (3, .y 3), (10, .y 10)], q := [(0, .q 0), (1, .q 1), (2, .q 2), (4, .q 4)] }
def lr_L9 (t : Nat) : List (Nat × V) := (13, .p (some (2, 0))) :: lr_L8 t
def lr_H9 (t : Nat) : List (Nat × Blk) := lr_H8 t ++ [(2, .cells (agV (.q 4)) 45 false)]
noncomputable def lr_8z (t p : Nat) : Bool := runsO (withF E0 {}) 1000 (opsD (c4.drop 8)) (((opsD (c4.drop 8)).toList.drop 3).take 100) (frOf 106 ((40, .i .i64 p) :: lr_L8a t)) (hOf 2 (lr_H8 t)) (lr_T9 p) 106 (lr_L9 t) 3 (lr_H9 t)
theorem lr_8zs : ((List.range 9).all fun t => (List.range 20).all fun p => lr_8z t p) = true := by decide +kernel
/-- A root that goes. -/
theorem lr_r9 : ∃ id, c4.drop 9 = .region id (opsD (c4.drop 9)) false :: c4.drop 10 := ⟨_, rfl⟩
def lr_L9a (t : Nat) : List (Nat × V) := (44, .y .i64 1) :: (45, .y .i64 10) :: lr_L9 t
noncomputable def lr_9 (t : Nat) : Bool := runsO (withF E0 {}) 100 (opsD (c4.drop 9)) ((opsD (c4.drop 9)).toList.take 2) (frOf 106 (lr_L9 t)) (hOf 3 (lr_H9 t)) lr_T9s 106 (lr_L9a t) 3 (lr_H9 t) && selfOK lr_T9s 106 (lr_L9a t) 3 (lr_H9 t)
theorem lr_9s : (List.range 9).all lr_9 = true := by decide +kernel
def lr_T10 (p : Nat) : Tab := { s := [(3, .y 3), (10, .y 10)], q := [(0, .q 0), (1, .q 1), (2, .q 2), (4, .q 4), (6, .s (rName p))] }
def lr_T : Tab := { s := [(3, .y 3), (10, .y 10)], q := [(0, .q 0), (1, .q 1), (2, .q 2), (4, .q 4), (6, .q 6)] }
def lr_LA (t : Nat) : List (Nat × V) := (14, .p (some (3, 0))) :: (13, .p (some (2, 0))) :: (11, lr_S t) :: (10, .i .i64 t) :: lr_b
def lr_H (t : Nat) : List (Nat × Blk) := lr_H9 t ++ [(3, .cells (goV (.q 6)) 45 false)]
noncomputable def lr_9z (t p : Nat) : Bool := runsO (withF E0 {}) 1000 (opsD (c4.drop 9)) (((opsD (c4.drop 9)).toList.drop 3).take 100) (frOf 106 ((46, .i .i64 p) :: lr_L9a t)) (hOf 3 (lr_H9 t)) (lr_T10 p) 106 (lr_LA t) 4 (lr_H t)
theorem lr_9zs : ((List.range 9).all fun t => (List.range 20).all fun p => lr_9z t p) = true := by decide +kernel
/-- The first check. -/
theorem lr_r10 : ∃ id, c4.drop 10 = .region id (opsD (c4.drop 10)) false :: c4.drop 11 := ⟨_, rfl⟩
def lr_LAa (t : Nat) : List (Nat × V) := (50, wA) :: (51, lr_S t) :: lr_LA t
def lr_Ta : Tab := { s := [(3, .y 3), (5, .y 5), (10, .y 10)], q := [(0, .q 0), (1, .q 1), (2, .q 2), (4, .q 4), (6, .q 6)] }
def lr_LB (t : Nat) : List (Nat × V) := (15, .y .i64 5) :: lr_LA t
noncomputable def lr_A (t : Nat) : Bool := runsO (withF E0 {}) 100 (opsD (c4.drop 10)) ((opsD (c4.drop 10)).toList.take 2) (frOf 106 (lr_LA t)) (hOf 4 (lr_H t)) lr_T 106 (lr_LAa t) 4 (lr_H t) && selfOK lr_T 106 (lr_LAa t) 4 (lr_H t) &&
  runsO (withF E0 {}) 100 (opsD (c4.drop 10)) (((opsD (c4.drop 10)).toList.drop 3).take 100) (frOf 106 ((52, .y .i64 5) :: lr_LAa t)) (hOf 4 (lr_H t)) lr_Ta 106 (lr_LB t) 6 (lr_H t)
theorem lr_As : (List.range 9).all lr_A = true := by decide +kernel
/-- The second and the third one, which draw their order. -/
theorem lr_r11 : ∃ id, c4.drop 11 = .region id (opsD (c4.drop 11)) true :: c4.drop 12 := ⟨_, rfl⟩
theorem lr_r12 : ∃ id, c4.drop 12 = .region id (opsD (c4.drop 12)) true :: c4.drop 13 := ⟨_, rfl⟩
def lr_stop : List Bool := [true, true, true, true, true, false, false]
noncomputable def lr_msB : List (List Bool) := grow (opsD (c4.drop 11)) lr_stop 20 [List.replicate 7 false] [List.replicate 7 false]
noncomputable def lr_msC : List (List Bool) := grow (opsD (c4.drop 12)) lr_stop 20 [List.replicate 7 false] [List.replicate 7 false]
def lr_SA (t : Nat) : V := if t = 0 then .sl (some (4, 0)) 1 (.kn 1) else .sl (some (5, 0)) (1 + t) (.un 18)
def lr_BA (t : Nat) (r : List V) (m : List Bool) : List (Nat × Blk) := opt m 2 [(4, .cells r 45 false)] ++ (if t = 0 then [] else opt m 4 [(5, .cells (r ++ zRecs t) 45 true)])
def lr_LBm (t : Nat) (m : List Bool) : List (Nat × V) := lr_LB t ++ pickL m [53, 54, 55, 56, 57] [wA, .a (agV (.q 4)), .sl (some (4, 0)) 1 (.kn 1), lr_S t, lr_SA t]
def lr_HBm (t : Nat) (m : List Bool) : List (Nat × Blk) := lr_H t ++ lr_BA t (agV (.q 4)) m
noncomputable def lr_Bx (t : Nat) : Bool := explored (withF E0 {}) 1000 (opsD (c4.drop 11)) lr_Ta 106 6 (lr_LBm t) (lr_HBm t) lr_msB lr_stop && (lr_msB.all fun m => wT.all fun T => noT T (muts (lr_HBm t m)))
theorem lr_Bxs : (List.range 9).all lr_Bx = true := by decide +kernel
noncomputable def lr_Bc (t : Nat) : Bool := (mAll lr_Ta (frOf 106 (lr_LBm t lr_stop)) (hOf 6 (lr_HBm t lr_stop)) 106 (lr_LB t) 6 (lr_H t)).isSome && selfOK lr_Ta 106 (lr_LB t) 6 (lr_H t)
theorem lr_Bcs : (List.range 9).all lr_Bc = true := by decide +kernel
def lr_Tb : Tab := { s := [(3, .y 3), (5, .y 5), (8, .y 8), (10, .y 10)], q := [(0, .q 0), (1, .q 1), (2, .q 2), (4, .q 4), (6, .q 6)] }
def lr_LC (t : Nat) : List (Nat × V) := (16, .y .i64 8) :: lr_LB t
noncomputable def lr_Bz (t : Nat) : Bool := runsO (withF E0 {}) 100 (opsD (c4.drop 11)) (((opsD (c4.drop 11)).toList.drop 6).take 100) (frOf 106 ((58, .y .i64 8) :: lr_LB t)) (hOf 6 (lr_H t)) lr_Tb 106 (lr_LC t) 6 (lr_H t)
theorem lr_Bzs : (List.range 9).all lr_Bz = true := by decide +kernel
def lr_LCm (t : Nat) (m : List Bool) : List (Nat × V) := lr_LC t ++ pickL m [59, 60, 61, 62, 63] [wA, .a (goV (.q 6)), .sl (some (4, 0)) 1 (.kn 1), lr_S t, lr_SA t]
def lr_HCm (t : Nat) (m : List Bool) : List (Nat × Blk) := lr_H t ++ lr_BA t (goV (.q 6)) m
noncomputable def lr_Cx (t : Nat) : Bool := explored (withF E0 {}) 1000 (opsD (c4.drop 12)) lr_Tb 106 6 (lr_LCm t) (lr_HCm t) lr_msC lr_stop && (lr_msC.all fun m => wT.all fun T => noT T (muts (lr_HCm t m)))
theorem lr_Cxs : (List.range 9).all lr_Cx = true := by decide +kernel
noncomputable def lr_Cc (t : Nat) : Bool := (mAll lr_Tb (frOf 106 (lr_LCm t lr_stop)) (hOf 6 (lr_HCm t lr_stop)) 106 (lr_LC t) 6 (lr_H t)).isSome && selfOK lr_Tb 106 (lr_LC t) 6 (lr_H t)
theorem lr_Ccs : (List.range 9).all lr_Cc = true := by decide +kernel
def lr_Tc : Tab := { s := [(3, .y 3), (5, .y 5), (8, .y 8), (9, .y 9), (10, .y 10)], q := [(0, .q 0), (1, .q 1), (2, .q 2), (4, .q 4), (6, .q 6)] }
def lr_LD (t : Nat) : List (Nat × V) := (17, .y .i64 9) :: lr_LC t
noncomputable def lr_Cz (t : Nat) : Bool := runsO (withF E0 {}) 100 (opsD (c4.drop 12)) (((opsD (c4.drop 12)).toList.drop 6).take 100) (frOf 106 ((64, .y .i64 9) :: lr_LC t)) (hOf 6 (lr_H t)) lr_Tc 106 (lr_LD t) 6 (lr_H t)
theorem lr_Czs : (List.range 9).all lr_Cz = true := by decide +kernel
theorem lr_rdB5 : Region.ready .any (opsD (c4.drop 11)) lr_stop.toArray = [5] := by decide +kernel
theorem lr_rdB6 : Region.ready .any (opsD (c4.drop 11)) (lr_stop.toArray.setIfInBounds 5 true) = [6] := by decide +kernel
theorem lr_rdB7 : Region.ready .any (opsD (c4.drop 11)) ((lr_stop.toArray.setIfInBounds 5 true).setIfInBounds 6 true) = [] := by decide +kernel
theorem lr_rdC5 : Region.ready .any (opsD (c4.drop 12)) lr_stop.toArray = [5] := by decide +kernel
theorem lr_rdC6 : Region.ready .any (opsD (c4.drop 12)) (lr_stop.toArray.setIfInBounds 5 true) = [6] := by decide +kernel
theorem lr_rdC7 : Region.ready .any (opsD (c4.drop 12)) ((lr_stop.toArray.setIfInBounds 5 true).setIfInBounds 6 true) = [] := by decide +kernel
/-- The end. -/
def lr_FZ (t : Nat) (a b : Bool) : Facts := { bin := [(.eql, .y .i64 5, .i .i64 0, .b a), (.add, .y .i64 10, .i .i64 t, .y .i64 11), (.leq, .y .i64 11, .i .i64 20, .b a), (.eql, .y .i64 8, .y .i64 5, .b true), (.eql, .y .i64 9, .i .i64 0, .b b), (.sub, .y .i64 10, .i .i64 1, .y .i64 12),
  (.add, .y .i64 12, .i .i64 t, .y .i64 13), (.leq, .y .i64 13, .i .i64 20, .b b), (.eql, .y .i64 5, .i .i64 251, .b (!a)), (.eql, .y .i64 9, .i .i64 251, .b (!b))] }
noncomputable def lr_Z (t : Nat) (a b : Bool) : Bool := runsL (withF E0 (lr_FZ t a b)) 200 ((c4.drop 13).take 2) (frOf 106 (lr_LD t)) (hOf 6 (lr_H t)) .r {} 106 [(6, .b true)] 0 []
theorem lr_Zs : ((List.range 9).all fun t => lr_Z t true true && lr_Z t false true && lr_Z t false false) = true := by decide +kernel

end Go.Ev

/- Chains, part Gb: roots that come and go, plain. -/
namespace Go.Ev
open Go.Proofs

def zzN (i : Nat) : ByteArray := bytes (zName i)
def rN (i : Nat) : ByteArray := bytes (rName i)
theorem rn_zs : ((List.range 9).all fun i => rightN (zName i)) = true := by decide +kernel
theorem rn_z' {i : Nat} (h : i < 9) : RN (zzN i) := rn_of (List.all_eq_true.1 rn_zs i (List.mem_range.2 h))
theorem rn_r {i : Nat} (h : i < 20) : RN (rN i) := rn_of (List.all_eq_true.1 rn_roots i (List.mem_range.2 h))
theorem z_inj0 : ((List.range 9).all fun i => (List.range 9).all fun j => Nat.beq i j || !decide (zzN i = zzN j)) = true := by decide +kernel
theorem z_inj {i j : Nat} (hi : i < 9) (hj : j < 9) (h : zzN i = zzN j) : i = j := by
  have := List.all_eq_true.1 (List.all_eq_true.1 z_inj0 i (List.mem_range.2 hi)) j (List.mem_range.2 hj)
  simp only [h, decide_true, Bool.not_true, Bool.or_false] at this
  exact Nat.eq_of_beq_eq_true this
theorem zr0 : ((List.range 20).all fun i => (List.range 9).all fun j => !decide (rN i = zzN j)) = true := by decide +kernel
theorem zr {i j : Nat} (hi : i < 20) (hj : j < 9) : rN i ≠ zzN j := fun h => by
  have := List.all_eq_true.1 (List.all_eq_true.1 zr0 i (List.mem_range.2 hi)) j (List.mem_range.2 hj)
  simp [h] at this
theorem del_len0 : ((List.range 21).all fun m => (List.range m).all fun p => Nat.beq ((delR (rootsL m) (rN p)).length + 1) m) = true := by decide +kernel
theorem del_len {m p : Nat} (hm : m ≤ 20) (hp : p < m) : (delR (rootsL m) (rN p)).length + 1 = m :=
  Nat.eq_of_beq_eq_true (List.all_eq_true.1 (List.all_eq_true.1 del_len0 m (List.mem_range.2 (by omega))) p (List.mem_range.2 hp))
theorem has_r {m p : Nat} (hp : p < m) : hasR (rootsL m) (rN p) = true := by
  rw [hasR_iff]
  refine List.mem_map.2 ⟨(rN p, 1), ?_, rfl⟩
  exact List.mem_map.2 ⟨p, List.mem_range.2 hp, rfl⟩

def zRL (t : Nat) : List (R × Value) := (List.range t).map fun i => (.root (zzN i) 2, nilS)
theorem zRL_len (t : Nat) : (zRL t).length = t := by simp [zRL]
theorem zRecs_ok {φ : Ren} : ∀ (ks : List Nat) (vs : List Value), VRs φ (ks.flatMap fun i => recV (.i .i64 2) (.i .i64 0) nl (.i .i64 2) (.s (zName i))) vs → vs = recRow (ks.map fun i => (.root (zzN i) 2, nilS))
  | [], vs, h => by
    simp only [List.flatMap_nil, VRs] at h
    rw [h]; rfl
  | k :: ks, vs, h => by
    rw [List.flatMap_cons] at h
    obtain ⟨v1, v2, rfl, h1, h2⟩ := h.split
    obtain ⟨v, nm, h3, h4, rfl⟩ := rec_eq h1 (k' := 2) (oid' := 0) (id' := 2) vI_eq vI_eq vI_eq
    simp only [VR] at h4
    rw [zRecs_ok ks v2 h2, vnl_eq h3, h4.1]
    simp [recRow, recCells, zzN]
/-- No name of more roots. -/
def NoZ (rs : List (ByteArray × Nat)) : Prop := ∀ q ∈ rs, ∀ i, i < 9 → q.1 ≠ zzN i
theorem run_z {l : List (O × Value)} {rs : List (ByteArray × Nat)} {next : Nat} (h : NoZ rs) : ∀ t, t < 9 → (⟨l, rs, next⟩ : Bst).run (zRL t) = ⟨l, rs ++ (List.range t).map (fun i => (zzN i, 2)), next⟩
  | 0, _ => by simp [zRL, Bst.run]
  | t + 1, ht => by
    have e : zRL (t + 1) = zRL t ++ [(.root (zzN t) 2, nilS)] := by simp [zRL, List.range_succ]
    have ih := run_z (l := l) (next := next) h t (by omega)
    unfold Bst.run at ih ⊢
    rw [e, List.foldl_append, ih]
    simp only [List.foldl_cons, List.foldl_nil, Bst.step]
    rw [if_neg (by decide)]
    have hn : hasR (rs ++ (List.range t).map (fun i => (zzN i, 2))) (zzN t) = false := by
      cases hb : hasR (rs ++ (List.range t).map (fun i => (zzN i, 2))) (zzN t) with
      | false => rfl
      | true =>
        rw [hasR_iff] at hb
        obtain ⟨q, hq, e⟩ := List.mem_map.1 hb
        rcases List.mem_append.1 hq with hq | hq
        · exact absurd e (h q hq t (by omega))
        · obtain ⟨i, hi, rfl⟩ := List.mem_map.1 hq
          have := List.mem_range.1 hi
          have := z_inj (by omega) (by omega) e
          omega
    unfold setR
    rw [if_neg (by rw [hn]; decide), List.range_succ, List.map_append, List.append_assoc]
    rfl
theorem noZ_roots {m : Nat} (hm : m ≤ 20) : NoZ (rootsL m) := fun q hq i hi e => by
  obtain ⟨j, hj, rfl⟩ := rootsL_mem hq
  exact zr (i := j) (by omega) hi e
theorem names_setR {l : List (ByteArray × Nat)} {nm : ByteArray} {k : Nat} (h : hasR l nm = true) : (setR l nm k).map (·.1) = l.map (·.1) := by
  unfold setR
  rw [if_pos h, List.map_map]
  apply List.map_congr_left
  intro q _
  simp only [Function.comp]
  split
  · rename_i e; exact e.symm
  · rfl
theorem NoZ.names {l l' : List (ByteArray × Nat)} (h : NoZ l) (e : ∀ q ∈ l', q.1 ∈ l.map (·.1)) : NoZ l' := fun q hq i hi e' => by
  obtain ⟨p, hp, e2⟩ := List.mem_map.1 (e q hq)
  exact h p hp i hi (e2.trans e')

/-- Two objects, roots of which some name the second. -/
structure RS (l : List (O × Value)) (rs : List (ByteArray × Nat)) (N : Nat) : Prop where
  noz : NoZ rs
  ids : ∀ q ∈ rs, q.2 = 1 ∨ q.2 = 2
  len : rs.length = N
theorem RS.two {l : List (O × Value)} {rs : List (ByteArray × Nat)} {N t next : Nat} (hl : l.map (·.1) = chainL 2) (h : RS l rs N) (hN : 1 ≤ N) : Two ⟨l, rs ++ (List.range t).map (fun i => (zzN i, 2)), next⟩ := by
  refine ⟨hl, fun q hq => ?_, fun e => ?_⟩
  · rcases List.mem_append.1 hq with hq | hq
    · exact h.ids q hq
    · obtain ⟨i, _, rfl⟩ := List.mem_map.1 hq
      exact .inr rfl
  · have := congrArg List.length e
    have hl := h.len
    simp at this
    rw [this.1] at hl
    simp at hl
    omega
theorem RS.len' {l : List (O × Value)} {rs : List (ByteArray × Nat)} {N t : Nat} (h : RS l rs N) : (rs ++ (List.range t).map (fun i => (zzN i, 2))).length = N + t := by simp [h.len]
theorem rs_e {l : List (O × Value)} {m : Nat} (hm : m ≤ 20) : RS l (rootsL m) m := ⟨noZ_roots hm, fun q hq => by obtain ⟨i, _, rfl⟩ := rootsL_mem hq; exact .inl rfl, by simp [rootsL]⟩
theorem rs_f {l : List (O × Value)} {m p : Nat} (hm : m ≤ 20) (hp : p < m) : RS l (setR (rootsL m) (rN p) 2) m := by
  have hn := names_setR (k := 2) (has_r hp)
  refine ⟨(noZ_roots hm).names fun q hq => by rw [← hn]; exact List.mem_map.2 ⟨q, hq, rfl⟩, fun q hq => ?_, ?_⟩
  · rcases setR_mem hq with rfl | hq
    · exact .inr rfl
    · obtain ⟨i, _, rfl⟩ := rootsL_mem hq; exact .inl rfl
  · have := congrArg List.length hn
    simpa [rootsL] using this
theorem rs_g {l : List (O × Value)} {m p : Nat} (hm : m ≤ 20) (hp : p < m) : RS l (delR (rootsL m) (rN p)) (m - 1) := by
  have hsub : ∀ q ∈ delR (rootsL m) (rN p), q ∈ rootsL m := fun q hq => (List.mem_filter.1 hq).1
  refine ⟨(noZ_roots hm).names fun q hq => List.mem_map.2 ⟨q, hsub q hq, rfl⟩, fun q hq => ?_, ?_⟩
  · obtain ⟨i, _, rfl⟩ := rootsL_mem (hsub q hq); exact .inl rfl
  · have := del_len hm hp; omega

theorem run_cons {s : Bst} {r : R × Value} {l : List (R × Value)} : s.run (r :: l) = (s.step r).run l := rfl
theorem names_z (ns : List ByteArray) : ∀ (ks : List Nat), (ks.map fun i => ((.root (zzN i) 2 : R), nilS)).foldl nstep ns = ns
  | [] => rfl
  | k :: ks => by rw [List.map_cons, List.foldl_cons]; exact names_z ns ks
theorem names_e (t : Nat) : (namesOf [] (zRL t)).length = 0 := by
  unfold namesOf zRL
  rw [names_z]; rfl
theorem names_f (nm : ByteArray) (k t : Nat) : (namesOf [] ((.root nm k, nilS) :: zRL t)).length = 0 := by
  unfold namesOf zRL
  rw [List.foldl_cons, names_z]; rfl
theorem zRL_ok {t : Nat} (ht : t < 9) (w : World) : ∀ r ∈ zRL t, ROK w r := fun r hr => by
  simp only [zRL, List.mem_map, List.mem_range] at hr
  obtain ⟨i, hi, rfl⟩ := hr
  exact ⟨rn_z' (by omega), by decide⟩
theorem lim_r {a : Nat} : lim 2 a 0 = if 20 < a then 251 else 0 := by
  unfold lim
  rw [if_neg (by decide : ¬ 200 < 2), if_neg (by decide : ¬ 8 < 0)]

theorem recsOfU {φ : Ren} {nb : Nat} {HB : List (Nat × Blk)} {w : World} (hr : HR φ (hOf nb HB) w) {b m : Nat} {cs : List V} (h : lkB HB b = .cells cs 45 true) {v : Value} (hv : VR φ (.sl (some (b, 0)) m (.un 18)) v) {rl : List (R × Value)} (hrow : ∀ vs, VRs φ cs vs → vs = recRow rl) (hm : rl.length = m) : IsRecs w v rl := by
  simp only [VR] at hv
  obtain ⟨r, cap, hb, hle, hN, rfl⟩ := hv
  obtain ⟨c, g, vc, hl, _, z⟩ := hr.cellsL hb h
  have e := hrow _ vc
  have hlen : cs.length = rl.length * 18 := by
    have h1 : (c.toList.take cs.length).length = cs.length := by rw [List.length_take, Array.length_toList]; exact Nat.min_eq_left hl
    have := congrArg List.length e
    rwa [h1, recRow_len] at this
  refine .inr ⟨r, m, cap, c, rfl, by decide, by rw [recRow_len, hm], hle, by rw [z, ← hN, Nat.zero_add], g, ?_⟩
  rw [recRow_len, ← hlen, e]

end Go.Ev

/- Chains, part Gc: 'LimitRoots', joined. -/
namespace Go.Ev
open Go.Proofs

def yR (c d g : Int) (r e f h m u v x : Nat) (ln ov rv n4 n6 : Value) : Sym := mkY [c, d, g, 3, r, e, 0, 0, f, h, m, u, v, x] [ln, ov, rv, .bool false, n4, .bool false, n6] [] []
theorem cha_Zs : ((List.range 7).all fun i => cha_Z (14 + i)) = true := by decide +kernel
theorem lr_k8 : ((List.range 9).all fun t => wT.all fun T => noT T (muts (lr_H8 t))) = true := by decide +kernel
theorem lr_k9 : ((List.range 9).all fun t => wT.all fun T => noT T (muts (lr_H9 t))) = true := by decide +kernel
theorem lr_kH : ((List.range 9).all fun t => wT.all fun T => noT T (muts (lr_H t))) = true := by decide +kernel
theorem rName_lt {p : Nat} : ∀ x ∈ rName p, x < 256 := by
  intro x hx
  simp only [rName, List.mem_cons, List.not_mem_nil, or_false] at hx
  omega
theorem agV_eq {φ : Ren} {k : Nat} {nm : ByteArray} (hk : φ.q k = .string nm) {i : Nat} {vs : List Value} (h : VRs φ (recV (.i .i64 2) (.i .i64 0) nl (.i .i64 i) (.q k)) vs) : vs = recCells (.root nm i, nilS) := by
  obtain ⟨v, n, h1, h2, rfl⟩ := rec_eq h (k' := 2) (oid' := 0) (id' := i) vI_eq vI_eq vI_eq
  simp only [VR] at h2
  rw [vnl_eq h1, h2.1, hk]; rfl
theorem recs_cons {φ : Ren} {a b : List V} {r : R × Value} {l : List (R × Value)} (ha : ∀ vs, VRs φ a vs → vs = recCells r) (hb : ∀ vs, VRs φ b vs → vs = recRow l) : ∀ vs, VRs φ (a ++ b) vs → vs = recRow (r :: l) := fun vs h => by
  obtain ⟨v1, v2, rfl, h1, h2⟩ := h.split
  rw [ha _ h1, hb _ h2]
  simp [recRow]

theorem limitRoots_ok (n : Nat) (c d g : Int) (hc : -9223372036854775808 ≤ c ∧ c ≤ 9223372036854775807) (hd : -9223372036854775808 ≤ d ∧ d ≤ 9223372036854775807) (hg : -9223372036854775808 ≤ g ∧ g ≤ 9223372036854775807) (w : World) :
    CallsIn (W none) n Tryz.prog 4 #[.int .i64 c, .int .i64 d, .int .i64 g] w fun e w' => ∃ v, e = .returned v ∧ v = .bool true ∧ Grown w w' := by
  let bf : Value := .bool false
  let y0 : Sym := yR c d g 0 0 0 0 0 0 0 0 bf bf bf bf bf
  have hst := StAt.enter (nt := 106) (φ0_hr y0 w) rfl rfl (vs := [.y .i64 0, .y .i64 1, .y .i64 2]) (args := [.int .i64 c, .int .i64 d, .int .i64 g]) (VRs.cons (by simp only [VR]; rfl) (VRs.cons (by simp only [VR]; rfl) (VRs.cons (by simp only [VR]; rfl) VRs.nil))) (by decide)
  refine callIn (fn := Tryz.f4) (c := (Tryz.f4.body).getD .skip) (args := [.int .i64 c, .int .i64 d, .int .i64 g]) Tryz.func4 rfl (wpIn_flat _ ?_)
  show wpCs none n E0.P _ c4 _ _
  have hy0 : Ag lr_Tn y0 y0 := ⟨⟨rfl, rfl, rfl, trivial⟩, trivial, trivial, trivial⟩
  refine StAt.runL (withF_ok E0_ok lo_F) rfl 2 lr_0 hst (FactsOK.bd' ?_) rfl y0 (hy0.agreeS rfl rfl rfl rfl) fun φ a1 w1 hs hd1 hg1 _ n1 n2 n3 n4 => ?_
  · refine ⟨trivial, trivial, trivial, trivial, trivial, trivial, trivial, trivial, ⟨?_, trivial⟩⟩
    intro φ' hle args' ha
    simp only [VRs] at ha
    subst ha
    refine ⟨⟨_, _, Tryz.func6, rfl, rfl⟩, fun n w' hk => ?_⟩
    refine (awake_ok n w').mono ?_
    rintro e w'' ⟨v, h1, rfl, h3⟩
    exact ⟨_, h1, by simp only [VR], h3⟩
  show wpCs none n E0.P _ (c4.drop 2) a1 w1
  -- how many
  obtain ⟨id2, hr2⟩ := lr_r2
  rw [hr2]
  refine wpCs_region ?_
  refine StAt.runO (withF_ok E0_ok {}) rfl 1 lr_2 hs noFacts.bd' _ (hy0.self' ⟨n1, n2, n3, n4⟩) fun φ a2 w2 hs hd2 hg2 hk2 n1 n2 n3 n4 => ?_
  refine hs.callO (l := (opsD (c4.drop 2)).toList.drop 1) (o := ((opsD (c4.drop 2)).toList.drop 1).headD default) (rest := (opsD (c4.drop 2)).toList.drop 2) rfl rfl rfl rfl rfl Tryz.func7 rfl rfl (Vs := [.y .i64 0, .i .i64 7]) rfl ?_
  intro args' ha
  have : args' = [.int .i64 c, .int .i64 (7 : Nat)] := by
    simp only [VRs, VR] at ha
    obtain ⟨_, _, rfl, rfl, _, _, rfl, rfl, rfl⟩ := ha
    rw [show φ.s 0 = c from congrFun n1 0]; rfl
  subst this
  refine (pick_ok (n := n - 1) (N := 7) ⟨by decide, by decide⟩ hc w2).mono ?_
  rintro e w3 ⟨v, rfl, ⟨r, hr, rfl⟩, hgr3⟩
  refine ⟨_, rfl, ?_⟩
  have g03 := (hg1.trans hg2).trans (hgr3.gb (Nat.le_trans hg1.size hg2.size))
  obtain ⟨m, hm⟩ : ∃ m : Nat, m = 14 + r := ⟨_, rfl⟩
  let y1 : Sym := yR c d g r 0 0 0 m 0 0 0 bf bf bf bf bf
  obtain ⟨φ, hs, n1, n2, n3, n4⟩ := hs.grow hgr3 lr_2s (y := y1) ⟨⟨(congrFun n1 0).symm, (congrFun n1 1).symm, (congrFun n1 2).symm, trivial⟩, trivial, trivial, trivial⟩
  have hs := hs.put (d := 20) (by decide) (x := .y .i64 4) (v := .int .i64 r) (by simp only [VR]; rw [show φ.s 4 = r from congrFun n1 4])
  have hy1 : Ag lr_T3 y1 y1 := ⟨⟨rfl, rfl, rfl, trivial⟩, trivial, trivial, trivial⟩
  refine StAt.runO (l := (opsD (c4.drop 2)).toList.drop 2) (withF_ok E0_ok lr_F2) rfl 100 lr_2z hs (FactsOK.bd' ?_) _ (hy1.self' ⟨n1, n2, n3, n4⟩) fun φ a4 w4 hs hd4 hg4 hk4 n1 n2 n3 n4 => ?_
  · have t4 : φ.y.s 4 = r := congrFun n1 4
    have t10 : φ.y.s 10 = m := congrFun n1 10
    refine ⟨trivial, ⟨.add (k := .i64) (x := 14) (y := r) rfl (by simp only [ival, t4]) (by simp only [ival, t10]; rw [hm]; rfl) ?_, trivial⟩, trivial, trivial, trivial, trivial, trivial, trivial, trivial⟩
    exact i64_in (by omega)
  show wpCs none n E0.P _ (c4.drop 3) a4 w4
  have hd4' : a4.defers = [] := by rw [hd4]; show a2.defers = []; rw [hd2]; exact hd1
  have g04 := g03.trans hg4
  -- the chain
  obtain ⟨id3, hr3⟩ := lr_r3
  rw [hr3]
  refine wpCs_region ?_
  refine StAt.runO (withF_ok E0_ok {}) rfl 1 lr_3 hs noFacts.bd' _ (hy1.self' ⟨n1, n2, n3, n4⟩) fun φ a5 w5 hs hd5 hg5 hk5 n1 n2 n3 n4 => ?_
  have g05 := g04.trans hg5
  refine hs.callO (l := (opsD (c4.drop 3)).toList.drop 1) (o := ((opsD (c4.drop 3)).toList.drop 1).headD default) (rest := (opsD (c4.drop 3)).toList.drop 2) rfl rfl rfl rfl rfl Tryz.func8 rfl rfl (Vs := [.i .i64 2, .y .i64 10]) rfl ?_
  intro args' ha
  have : args' = [.int .i64 (2 : Nat), .int .i64 m] := by
    simp only [VRs, VR] at ha
    obtain ⟨_, _, rfl, rfl, _, _, rfl, rfl, rfl⟩ := ha
    rw [show φ.s 10 = m from congrFun n1 10]; rfl
  subst this
  have hmm : 14 ≤ m ∧ m ≤ 20 := by omega
  have hcz : cha_Z m = true := by
    have := List.all_eq_true.1 cha_Zs r (List.mem_range.2 hr)
    rw [hm]; exact this
  refine (chain_ok (n := n - 1) (N := 2) (m := m) ⟨by decide, by decide⟩ ⟨by omega, by omega⟩ hcz).mono ?_
  rintro e w6 ⟨v, rfl, ⟨ln, ov, rv, l, rfl, G6, hl⟩, hgr6⟩
  refine ⟨_, rfl, ?_⟩
  have o0 := G6.sch.one
  have o1 := G6.objs.one
  have o2 := G6.roots.one
  have g06 := g05.trans (hgr6.gb g05.size)
  let y2 : Sym := yR c d g r 0 0 0 m 0 0 0 ln ov rv bf bf
  obtain ⟨φ, hs, n1, n2, n3, n4⟩ := hs.grow hgr6 lr_3s (y := y2) ⟨⟨(congrFun n1 1).symm, (congrFun n1 2).symm, (congrFun n1 10).symm, trivial⟩, trivial, trivial, trivial⟩
  have hs := hs.put (d := 23) (by decide) (x := wA) (v := wV ln ov rv (2 + 1)) (vW (congrFun n2 0) (congrFun n2 1) (congrFun n2 2) (congrFun n1 3) o0 o1 o2)
  have hy2 : Ag lr_T4 y2 y2 := ⟨⟨rfl, rfl, rfl, rfl, trivial⟩, ⟨⟨rfl, o0⟩, ⟨rfl, o1⟩, ⟨rfl, o2⟩, trivial⟩, trivial, trivial⟩
  refine StAt.runO (l := (opsD (c4.drop 3)).toList.drop 2) (withF_ok E0_ok {}) rfl 100 lr_3z hs noFacts.bd' _ (hy2.self' ⟨n1, n2, n3, n4⟩) fun φ a7 w7 hs hd7 hg7 hk7 n1 n2 n3 n4 => ?_
  show wpCs none n E0.P _ (c4.drop 4) a7 w7
  have hd7' : a7.defers = [] := by rw [hd7]; show a5.defers = []; rw [hd5]; exact hd4'
  have g07 := g06.trans hg7
  have G7 : GW w7 ln ov rv 3 l (rootsL m) := G6.keptC (hk7.keptC rfl)
  -- how many more
  obtain ⟨id4, hr4⟩ := lr_r4
  rw [hr4]
  refine wpCs_region ?_
  refine StAt.runO (withF_ok E0_ok {}) rfl 1 lr_4 hs noFacts.bd' _ (hy2.self' ⟨n1, n2, n3, n4⟩) fun φ a8 w8 hs hd8 hg8 hk8 n1 n2 n3 n4 => ?_
  have g08 := g07.trans hg8
  have G8 := G7.keptC (hk8.keptC rfl)
  refine hs.callO (l := (opsD (c4.drop 4)).toList.drop 1) (o := ((opsD (c4.drop 4)).toList.drop 1).headD default) (rest := (opsD (c4.drop 4)).toList.drop 2) rfl rfl rfl rfl rfl Tryz.func7 rfl rfl (Vs := [.y .i64 2, .i .i64 9]) rfl ?_
  intro args' ha
  have : args' = [.int .i64 g, .int .i64 (9 : Nat)] := by
    simp only [VRs, VR] at ha
    obtain ⟨_, _, rfl, rfl, _, _, rfl, rfl, rfl⟩ := ha
    rw [show φ.s 2 = g from congrFun n1 2]; rfl
  subst this
  refine (pick_ok (n := n - 1) (N := 9) ⟨by decide, by decide⟩ hg w8).mono ?_
  rintro e w9 ⟨v, rfl, ⟨t, ht, rfl⟩, hgr9⟩
  refine ⟨_, rfl, ?_⟩
  have g09 := g08.trans (hgr9.gb g08.size)
  have G9 := G8.keptC (KeptC.grown hgr9 wT)
  have htr : t ∈ List.range 9 := List.mem_range.2 ht
  obtain ⟨φ, hs, n1, n2, n3, n4⟩ := hs.grow hgr9 lr_4s (y := y2) (hy2.self'' n1 n2 n3 n4)
  have hs := hs.put (d := 25) (by decide) (x := .i .i64 t) (v := .int .i64 t) vI
  have hy2' : Ag lr_T5 y2 y2 := ⟨⟨rfl, rfl, rfl, trivial⟩, ⟨⟨rfl, o0⟩, ⟨rfl, o1⟩, ⟨rfl, o2⟩, trivial⟩, trivial, trivial⟩
  refine StAt.runO (l := (opsD (c4.drop 4)).toList.drop 2) (withF_ok E0_ok {}) rfl 100 (List.all_eq_true.1 lr_4zs t htr) hs noFacts.bd' _ (hy2'.self' ⟨n1, n2, n3, n4⟩) fun φ aa wa hs hda hga hka n1 n2 n3 n4 => ?_
  show wpCs none n E0.P _ (c4.drop 5) aa wa
  have hda' : aa.defers = [] := by rw [hda]; show a8.defers = []; rw [hd8]; exact hd7'
  have g0a := g09.trans hga
  have Ga := G9.keptC (hka.keptC rfl)
  -- the records
  refine StAt.runL (withF_ok E0_ok {}) rfl 3 (cs := c4.drop 5) (List.all_eq_true.1 lr_5s t htr) hs noFacts.bd' hda' _ (hy2'.self' ⟨n1, n2, n3, n4⟩) fun φ ab wb hs hdb hgb hkb n1 n2 n3 n4 => ?_
  show wpCs none n E0.P _ (c4.drop 8) ab wb
  have g0b := g0a.trans hgb
  have Gb := Ga.keptC (hkb.keptC rfl)
  -- a root that there is
  obtain ⟨id8, hr8⟩ := lr_r8
  rw [hr8]
  refine wpCs_region ?_
  have e8 := List.all_eq_true.1 lr_8s t htr
  simp only [lr_8, Bool.and_eq_true] at e8
  refine StAt.runO (withF_ok E0_ok {}) rfl 2 e8.1 hs noFacts.bd' _ (hy2'.self' ⟨n1, n2, n3, n4⟩) fun φ ac wc hs hdc hgc hkc n1 n2 n3 n4 => ?_
  have g0c := g0b.trans hgc
  have Gc := Gb.keptC (hkc.keptC (List.all_eq_true.1 lr_k8 t htr))
  refine hs.callO (l := (opsD (c4.drop 8)).toList.drop 2) (o := ((opsD (c4.drop 8)).toList.drop 2).headD default) (rest := (opsD (c4.drop 8)).toList.drop 3) rfl rfl rfl rfl rfl Tryz.func7 rfl rfl (Vs := [.y .i64 1, .y .i64 10]) rfl ?_
  intro args' ha
  have : args' = [.int .i64 d, .int .i64 m] := by
    simp only [VRs, VR] at ha
    obtain ⟨_, _, rfl, rfl, _, _, rfl, rfl, rfl⟩ := ha
    rw [show φ.s 1 = d from congrFun n1 1, show φ.s 10 = m from congrFun n1 10]
  subst this
  refine (pick_ok (n := n - 1) (N := m) ⟨by omega, by omega⟩ hd wc).mono ?_
  rintro e wd ⟨v, rfl, ⟨p, hp, rfl⟩, hgrd⟩
  refine ⟨_, rfl, ?_⟩
  have g0d := g0c.trans (hgrd.gb g0c.size)
  have Gd := Gc.keptC (KeptC.grown hgrd wT)
  obtain ⟨φ, hs, n1, n2, n3, n4⟩ := hs.grow hgrd e8.2 (y := y2) (hy2'.self'' n1 n2 n3 n4)
  have hs := hs.put (d := 40) (by decide) (x := .i .i64 p) (v := .int .i64 p) vI
  have hpr : p ∈ List.range 20 := List.mem_range.2 (by omega)
  have os4 : (Value.string (rN p)).oneCell' = true := rfl
  let y3 : Sym := yR c d g r 0 0 0 m 0 0 0 ln ov rv (.string (rN p)) bf
  have hy3 : Ag (lr_T9 p) y2 y3 := ⟨⟨rfl, rfl, rfl, trivial⟩, ⟨⟨rfl, o0⟩, ⟨rfl, o1⟩, ⟨rfl, o2⟩, ⟨rfl, rName_lt⟩, trivial⟩, trivial, trivial⟩
  refine StAt.runO (l := (opsD (c4.drop 8)).toList.drop 3) (withF_ok E0_ok {}) rfl 100 (List.all_eq_true.1 (List.all_eq_true.1 lr_8zs t htr) p hpr) hs noFacts.bd' _ (hy3.agreeS n1 n2 n3 n4) fun φ ae we hs hde hge hke n1 n2 n3 n4 => ?_
  show wpCs none n E0.P _ (c4.drop 9) ae we
  have hde' : ae.defers = [] := by rw [hde]; show ac.defers = []; rw [hdc]; exact hdb
  have g0e := g0d.trans hge
  have Ge := Gd.keptC (hke.keptC (List.all_eq_true.1 lr_k8 t htr))
  -- a root that goes
  obtain ⟨id9, hr9⟩ := lr_r9
  rw [hr9]
  refine wpCs_region ?_
  have e9 := List.all_eq_true.1 lr_9s t htr
  simp only [lr_9, Bool.and_eq_true] at e9
  have hy3' : Ag lr_T9s y3 y3 := ⟨⟨rfl, rfl, rfl, trivial⟩, ⟨⟨rfl, o0⟩, ⟨rfl, o1⟩, ⟨rfl, o2⟩, ⟨rfl, os4⟩, trivial⟩, trivial, trivial⟩
  refine StAt.runO (withF_ok E0_ok {}) rfl 2 e9.1 hs noFacts.bd' _ (hy3'.self' ⟨n1, n2, n3, n4⟩) fun φ af wf hs hdf hgf hkf n1 n2 n3 n4 => ?_
  have g0f := g0e.trans hgf
  have Gf := Ge.keptC (hkf.keptC (List.all_eq_true.1 lr_k9 t htr))
  refine hs.callO (l := (opsD (c4.drop 9)).toList.drop 2) (o := ((opsD (c4.drop 9)).toList.drop 2).headD default) (rest := (opsD (c4.drop 9)).toList.drop 3) rfl rfl rfl rfl rfl Tryz.func7 rfl rfl (Vs := [.y .i64 1, .y .i64 10]) rfl ?_
  intro args' ha
  have : args' = [.int .i64 d, .int .i64 m] := by
    simp only [VRs, VR] at ha
    obtain ⟨_, _, rfl, rfl, _, _, rfl, rfl, rfl⟩ := ha
    rw [show φ.s 1 = d from congrFun n1 1, show φ.s 10 = m from congrFun n1 10]
  subst this
  refine (pick_ok (n := n - 1) (N := m) ⟨by omega, by omega⟩ hd wf).mono ?_
  rintro e wg ⟨v, rfl, ⟨p2, hp2, rfl⟩, hgrg⟩
  refine ⟨_, rfl, ?_⟩
  have g0g := g0f.trans (hgrg.gb g0f.size)
  have Gg := Gf.keptC (KeptC.grown hgrg wT)
  obtain ⟨φ, hs, n1, n2, n3, n4⟩ := hs.grow hgrg e9.2 (y := y3) (hy3'.self'' n1 n2 n3 n4)
  have hs := hs.put (d := 46) (by decide) (x := .i .i64 p2) (v := .int .i64 p2) vI
  have hpr2 : p2 ∈ List.range 20 := List.mem_range.2 (by omega)
  have os6 : (Value.string (rN p2)).oneCell' = true := rfl
  obtain ⟨e1, he1⟩ : ∃ e1 : Nat, e1 = lim 2 (m + t) 0 := ⟨_, rfl⟩
  obtain ⟨e3, he3⟩ : ∃ e3 : Nat, e3 = lim 2 (m - 1 + t) 0 := ⟨_, rfl⟩
  let y4 : Sym := yR 0 0 0 0 e1 e1 e3 m (m + t) (m - 1) (m - 1 + t) ln ov rv (.string (rN p)) (.string (rN p2))
  have hy4 : Ag (lr_T10 p2) y3 y4 := ⟨⟨rfl, rfl, trivial⟩, ⟨⟨rfl, o0⟩, ⟨rfl, o1⟩, ⟨rfl, o2⟩, ⟨rfl, os4⟩, ⟨rfl, rName_lt⟩, trivial⟩, trivial, trivial⟩
  refine StAt.runO (l := (opsD (c4.drop 9)).toList.drop 3) (withF_ok E0_ok {}) rfl 100 (List.all_eq_true.1 (List.all_eq_true.1 lr_9zs t htr) p2 hpr2) hs noFacts.bd' _ (hy4.agreeS n1 n2 n3 n4) fun φ ah wh hs hdh hgh hkh n1 n2 n3 n4 => ?_
  show wpCs none n E0.P _ (c4.drop 10) ah wh
  have hdh' : ah.defers = [] := by rw [hdh]; show af.defers = []; rw [hdf]; exact hde'
  have g0h := g0g.trans hgh
  have Gh := Gg.keptC (hkh.keptC (List.all_eq_true.1 lr_k9 t htr))
  -- what is checked
  have hT0 : Two ⟨l, rootsL m, 3⟩ := ⟨hl, (rs_e (l := l) hmm.2).ids, by
    intro e
    have h1 := (rs_e (l := l) hmm.2).len
    have h2 : rootsL m = [] := e
    rw [h2] at h1
    simp at h1; omega⟩
  have z_eq : ∀ φ vs, VRs φ (zRecs t) vs → vs = recRow (zRL t) := fun φ vs h => zRecs_ok (List.range t) vs h
  -- the first check
  obtain ⟨id10, hr10⟩ := lr_r10
  rw [hr10]
  refine wpCs_region ?_
  have eA := List.all_eq_true.1 lr_As t htr
  simp only [lr_A, Bool.and_eq_true] at eA
  have hyT : Ag lr_T y4 y4 := ⟨⟨rfl, rfl, trivial⟩, ⟨⟨rfl, o0⟩, ⟨rfl, o1⟩, ⟨rfl, o2⟩, ⟨rfl, os4⟩, ⟨rfl, os6⟩, trivial⟩, trivial, trivial⟩
  refine StAt.runO (withF_ok E0_ok {}) rfl 2 eA.1.1 hs noFacts.bd' _ (hyT.self' ⟨n1, n2, n3, n4⟩) fun φ ai wi hs hdi hgi hki n1 n2 n3 n4 => ?_
  have g0i := g0h.trans hgi
  have Gi := Gh.keptC (hki.keptC (List.all_eq_true.1 lr_kH t htr))
  refine hs.callO (l := (opsD (c4.drop 10)).toList.drop 2) (o := ((opsD (c4.drop 10)).toList.drop 2).headD default) (rest := (opsD (c4.drop 10)).toList.drop 3) rfl rfl rfl rfl rfl Tryz.func9 rfl rfl (Vs := [wA, nl, lr_S t]) rfl ?_
  intro args' ha
  simp only [VRs] at ha
  obtain ⟨uw, _, rfl, huw, us, _, rfl, hus, ur, _, rfl, hur, rfl⟩ := ha
  have t1 := vW_eq (next := 3) (congrFun n2 0) (congrFun n2 1) (congrFun n2 2) (congrFun n1 3) huw
  have t2 := vnl_eq hus
  subst t1; subst t2
  have hrecE : IsRecs wi ur (zRL t) := by
    by_cases h0 : t = 0
    · subst h0
      exact .inl ⟨rfl, vnl_eq hur⟩
    · have h1 : lr_S t = .sl (some (1, 0)) t (.un 18) := by unfold lr_S; rw [if_neg h0]
      rw [h1] at hur
      refine recsOfU hs.hr (cs := zRecs t) ?_ hur (z_eq φ) (zRL_len t)
      show lkB (lr_H t) 1 = _
      simp only [lr_H, lr_H9, lr_H8, lr_H4, lr_B, if_neg h0]
      rfl
  refine (limit_two (n := n - 1) (c := e1) Gi hT0 (sl := []) (.inl ⟨rfl, rfl⟩) (by decide) hrecE (zRL_ok ht wi) (by rw [zRL_len]; omega) (s := ⟨l, rootsL m ++ (List.range t).map (fun i => (zzN i, 2)), 3⟩) (run_z (noZ_roots hmm.2) t ht).symm ((rs_e hmm.2).two hl (by omega)) (by show (rootsL m ++ _).length ≤ _; rw [(rs_e (l := l) hmm.2).len']; omega) (by show lim 2 (rootsL m ++ _).length _ = _; rw [(rs_e (l := l) hmm.2).len', names_e, he1])).mono ?_
  rintro e wj ⟨v, rfl, rfl, hgrj⟩
  refine ⟨_, rfl, ?_⟩
  have g0j := g0i.trans (hgrj.gb g0i.size)
  have Gj := Gi.keptC (KeptC.grown hgrj wT)
  obtain ⟨φ, hs, n1, n2, n3, n4⟩ := hs.grow hgrj eA.1.2 (y := y4) (hyT.self'' n1 n2 n3 n4)
  have hs := hs.put (d := 52) (by decide) (x := .y .i64 5) (v := .int .i64 e1) (by simp only [VR]; rw [show φ.s 5 = e1 from congrFun n1 5])
  have hyTa : Ag lr_Ta y4 y4 := ⟨⟨rfl, rfl, rfl, trivial⟩, ⟨⟨rfl, o0⟩, ⟨rfl, o1⟩, ⟨rfl, o2⟩, ⟨rfl, os4⟩, ⟨rfl, os6⟩, trivial⟩, trivial, trivial⟩
  refine StAt.runO (l := (opsD (c4.drop 10)).toList.drop 3) (withF_ok E0_ok {}) rfl 100 eA.2 hs noFacts.bd' _ (hyTa.self' ⟨n1, n2, n3, n4⟩) fun φ ak wk hs hdk hgk hkk n1 n2 n3 n4 => ?_
  show wpCs none n E0.P _ (c4.drop 11) ak wk
  have hdk' : ak.defers = [] := by rw [hdk]; show ai.defers = []; rw [hdi]; exact hdh'
  have g0k := g0j.trans hgk
  have Gk := Gj.keptC (hkk.keptC (List.all_eq_true.1 lr_kH t htr))
  -- the second check
  have recs2 : ∀ (φ : Ren) (w : World) (v : Value) (r : List V) (x : R × Value) (HB : List (Nat × Blk)), HR φ (hOf 6 HB) w → VR φ (lr_SA t) v → (∀ vs, VRs φ r vs → vs = recCells x) → (t = 0 → lkB HB 4 = .cells r 45 false) → (t ≠ 0 → lkB HB 5 = .cells (r ++ zRecs t) 45 true) → IsRecs w v (x :: zRL t) := fun φ w v r x HB hr hv hx h4 h5 => by
    by_cases h0 : t = 0
    · have e : lr_SA t = .sl (some (4, 0)) 1 (.kn 1) := by unfold lr_SA; rw [if_pos h0]
      rw [e] at hv
      subst h0
      exact recsOf hr (cs := r) (h4 rfl) hv (fun vs h => by rw [hx vs h]; simp [recRow, zRL]) rfl
    · have e : lr_SA t = .sl (some (5, 0)) (1 + t) (.un 18) := by unfold lr_SA; rw [if_neg h0]
      rw [e] at hv
      exact recsOfU hr (h5 h0) hv (recs_cons hx (z_eq φ)) (by rw [List.length_cons, zRL_len]; omega)
  obtain ⟨id11, hr11⟩ := lr_r11
  rw [hr11]
  have eB := List.all_eq_true.1 lr_Bxs t htr
  simp only [lr_Bx, Bool.and_eq_true] at eB
  have eBc := List.all_eq_true.1 lr_Bcs t htr
  simp only [lr_Bc, Bool.and_eq_true] at eBc
  refine StAt.exploreK (Ts := wT) (withF_ok E0_ok {}) rfl E0_ok.mixed eB.1 eB.2 (L0 := lr_LB t) (HB0 := lr_H t) (by rw [show (opsD (c4.drop 11)).size = 7 from rfl]; rfl) (by rw [show (opsD (c4.drop 11)).size = 7 from rfl]; show lr_H t ++ ([] ++ (if t = 0 then [] else [])) = lr_H t; simp) hs y4 hyTa n1 n2 n3 n4 (fun φ1 _ _ _ _ => noFacts.bd') fun φ al wl hs hdl hgl hkl n1 n2 n3 n4 => ?_
  refine any_step (fuel := 1) lr_rdB5 (o := ((opsD (c4.drop 11)).toList.drop 5).headD default) rfl (l := (opsD (c4.drop 11)).toList.drop 6) (fun a w h => any_step (fuel := 0) lr_rdB6 (o := ((opsD (c4.drop 11)).toList.drop 6).headD default) rfl (l := []) (fun a w h => any_done lr_rdB7 h) h) ?_
  have Gl := Gk.keptC hkl
  have g0l := g0k.trans hgl
  refine hs.callO (o := ((opsD (c4.drop 11)).toList.drop 5).headD default) (rest := (opsD (c4.drop 11)).toList.drop 6) rfl rfl rfl rfl rfl Tryz.func9 rfl rfl (Vs := [wA, nl, lr_SA t]) rfl ?_
  intro args' ha
  simp only [VRs] at ha
  obtain ⟨uw, _, rfl, huw, us, _, rfl, hus, ur, _, rfl, hur, rfl⟩ := ha
  have t1 := vW_eq (next := 3) (congrFun n2 0) (congrFun n2 1) (congrFun n2 2) (congrFun n1 3) huw
  have t2 := vnl_eq hus
  subst t1; subst t2
  have hrecF : IsRecs wl ur ((.root (rN p) 2, nilS) :: zRL t) := recs2 φ wl ur _ _ _ hs.hr hur (fun vs h => agV_eq (congrFun n2 4) h) (fun h0 => by subst h0; rfl) (fun h0 => by
    simp only [lr_HBm, lr_H, lr_H9, lr_H8, lr_H4, lr_B, lr_BA, if_neg h0]
    rfl)
  have hrun : (⟨l, setR (rootsL m) (rN p) 2 ++ (List.range t).map (fun i => (zzN i, 2)), 3⟩ : Bst) = (⟨l, rootsL m, 3⟩ : Bst).run ((.root (rN p) 2, nilS) :: zRL t) := by
    rw [run_cons]
    exact (run_z (rs_f (l := l) hmm.2 hp).noz t ht).symm
  refine (limit_two (n := n - 1) (c := e1) Gl hT0 (sl := []) (.inl ⟨rfl, rfl⟩) (by decide) hrecF (fun r hr => by
    rcases List.mem_cons.1 hr with rfl | hr
    · exact ⟨rn_r (by omega), by decide⟩
    · exact zRL_ok ht wl r hr) (by rw [List.length_cons, zRL_len]; omega) hrun ((rs_f hmm.2 hp).two hl (by omega)) (by show (setR _ _ _ ++ _).length ≤ _; rw [(rs_f (l := l) hmm.2 hp).len']; omega) (by show lim 2 (setR _ _ _ ++ _).length _ = _; rw [(rs_f (l := l) hmm.2 hp).len', names_f, he1])).mono ?_
  rintro e wm ⟨v, rfl, rfl, hgrm⟩
  refine ⟨_, rfl, ?_⟩
  have g0m := g0l.trans (hgrm.gb g0l.size)
  have Gm := Gl.keptC (KeptC.grown hgrm wT)
  obtain ⟨φ, hs, n1, n2, n3, n4⟩ := hs.conv eBc.1 y4 ((hyTa.self' ⟨n1, n2, n3, n4⟩).agree rfl rfl _ _)
  obtain ⟨φ, hs, n1, n2, n3, n4⟩ := hs.grow hgrm eBc.2 (y := y4) (hyTa.self'' n1 n2 n3 n4)
  have hs := hs.put (d := 58) (by decide) (x := .y .i64 8) (v := .int .i64 e1) (by simp only [VR]; rw [show φ.s 8 = e1 from congrFun n1 8])
  have hyTb : Ag lr_Tb y4 y4 := ⟨⟨rfl, rfl, rfl, rfl, trivial⟩, ⟨⟨rfl, o0⟩, ⟨rfl, o1⟩, ⟨rfl, o2⟩, ⟨rfl, os4⟩, ⟨rfl, os6⟩, trivial⟩, trivial, trivial⟩
  refine StAt.runO (l := (opsD (c4.drop 11)).toList.drop 6) (withF_ok E0_ok {}) rfl 100 (List.all_eq_true.1 lr_Bzs t htr) hs noFacts.bd' _ (hyTb.self' ⟨n1, n2, n3, n4⟩) fun φ an wn hs hdn hgn hkn n1 n2 n3 n4 => ?_
  show wpCs none n E0.P _ (c4.drop 12) an wn
  have hdn' : an.defers = [] := by rw [hdn]; show al.defers = []; rw [hdl]; exact hdk'
  have g0n := g0m.trans hgn
  have Gn := Gm.keptC (hkn.keptC (List.all_eq_true.1 lr_kH t htr))
  -- the third check
  obtain ⟨id12, hr12⟩ := lr_r12
  rw [hr12]
  have eC := List.all_eq_true.1 lr_Cxs t htr
  simp only [lr_Cx, Bool.and_eq_true] at eC
  have eCc := List.all_eq_true.1 lr_Ccs t htr
  simp only [lr_Cc, Bool.and_eq_true] at eCc
  refine StAt.exploreK (Ts := wT) (withF_ok E0_ok {}) rfl E0_ok.mixed eC.1 eC.2 (L0 := lr_LC t) (HB0 := lr_H t) (by rw [show (opsD (c4.drop 12)).size = 7 from rfl]; rfl) (by rw [show (opsD (c4.drop 12)).size = 7 from rfl]; show lr_H t ++ ([] ++ (if t = 0 then [] else [])) = lr_H t; simp) hs y4 hyTb n1 n2 n3 n4 (fun φ1 _ _ _ _ => noFacts.bd') fun φ ao wo hs hdo hgo hko n1 n2 n3 n4 => ?_
  refine any_step (fuel := 1) lr_rdC5 (o := ((opsD (c4.drop 12)).toList.drop 5).headD default) rfl (l := (opsD (c4.drop 12)).toList.drop 6) (fun a w h => any_step (fuel := 0) lr_rdC6 (o := ((opsD (c4.drop 12)).toList.drop 6).headD default) rfl (l := []) (fun a w h => any_done lr_rdC7 h) h) ?_
  have Go := Gn.keptC hko
  have g0o := g0n.trans hgo
  refine hs.callO (o := ((opsD (c4.drop 12)).toList.drop 5).headD default) (rest := (opsD (c4.drop 12)).toList.drop 6) rfl rfl rfl rfl rfl Tryz.func9 rfl rfl (Vs := [wA, nl, lr_SA t]) rfl ?_
  intro args' ha
  simp only [VRs] at ha
  obtain ⟨uw, _, rfl, huw, us, _, rfl, hus, ur, _, rfl, hur, rfl⟩ := ha
  have t1 := vW_eq (next := 3) (congrFun n2 0) (congrFun n2 1) (congrFun n2 2) (congrFun n1 3) huw
  have t2 := vnl_eq hus
  subst t1; subst t2
  have hrecG : IsRecs wo ur ((.root (rN p2) 0, nilS) :: zRL t) := recs2 φ wo ur _ _ _ hs.hr hur (fun vs h => agV_eq (congrFun n2 6) h) (fun h0 => by subst h0; rfl) (fun h0 => by
    simp only [lr_HCm, lr_H, lr_H9, lr_H8, lr_H4, lr_B, lr_BA, if_neg h0]
    rfl)
  have hrun : (⟨l, delR (rootsL m) (rN p2) ++ (List.range t).map (fun i => (zzN i, 2)), 3⟩ : Bst) = (⟨l, rootsL m, 3⟩ : Bst).run ((.root (rN p2) 0, nilS) :: zRL t) := by
    rw [run_cons]
    exact (run_z (rs_g (l := l) hmm.2 hp2).noz t ht).symm
  refine (limit_two (n := n - 1) (c := e3) Go hT0 (sl := []) (.inl ⟨rfl, rfl⟩) (by decide) hrecG (fun r hr => by
    rcases List.mem_cons.1 hr with rfl | hr
    · exact ⟨rn_r (by omega), by decide⟩
    · exact zRL_ok ht wo r hr) (by rw [List.length_cons, zRL_len]; omega) hrun ((rs_g hmm.2 hp2).two hl (by omega)) (by show (delR _ _ ++ _).length ≤ _; rw [(rs_g (l := l) hmm.2 hp2).len']; omega) (by show lim 2 (delR _ _ ++ _).length _ = _; rw [(rs_g (l := l) hmm.2 hp2).len', names_f, he3])).mono ?_
  rintro e wp ⟨v, rfl, rfl, hgrp⟩
  refine ⟨_, rfl, ?_⟩
  have g0p := g0o.trans (hgrp.gb g0o.size)
  obtain ⟨φ, hs, n1, n2, n3, n4⟩ := hs.conv eCc.1 y4 ((hyTb.self' ⟨n1, n2, n3, n4⟩).agree rfl rfl _ _)
  obtain ⟨φ, hs, n1, n2, n3, n4⟩ := hs.grow hgrp eCc.2 (y := y4) (hyTb.self'' n1 n2 n3 n4)
  have hs := hs.put (d := 64) (by decide) (x := .y .i64 9) (v := .int .i64 e3) (by simp only [VR]; rw [show φ.s 9 = e3 from congrFun n1 9])
  have hyTc : Ag lr_Tc y4 y4 := ⟨⟨rfl, rfl, rfl, rfl, rfl, trivial⟩, ⟨⟨rfl, o0⟩, ⟨rfl, o1⟩, ⟨rfl, o2⟩, ⟨rfl, os4⟩, ⟨rfl, os6⟩, trivial⟩, trivial, trivial⟩
  refine StAt.runO (l := (opsD (c4.drop 12)).toList.drop 6) (withF_ok E0_ok {}) rfl 100 (List.all_eq_true.1 lr_Czs t htr) hs noFacts.bd' _ (hyTc.self' ⟨n1, n2, n3, n4⟩) fun φ aq wq hs hdq hgq hkq n1 n2 n3 n4 => ?_
  show wpCs none n E0.P _ (c4.drop 13) aq wq
  have hdq' : aq.defers = [] := by rw [hdq]; show ao.defers = []; rw [hdo]; exact hdn'
  have g0q := g0p.trans hgq
  -- the end
  have s5 : φ.y.s 5 = e1 := congrFun n1 5
  have s8 : φ.y.s 8 = e1 := congrFun n1 8
  have s9 : φ.y.s 9 = e3 := congrFun n1 9
  have s10 : φ.y.s 10 = m := congrFun n1 10
  have s11 : φ.y.s 11 = (m + t : Nat) := congrFun n1 11
  have s12 : φ.y.s 12 = (m - 1 : Nat) := congrFun n1 12
  have s13 : φ.y.s 13 = (m - 1 + t : Nat) := congrFun n1 13
  have fin : ∀ a b : Bool, decide (m + t ≤ 20) = a → decide (m - 1 + t ≤ 20) = b → lr_Z t a b = true →
      wpCs none n E0.P (fun e a' w' => (e = .ret ∨ e = .normal) ∧ a'.defers = [] ∧ ∃ v, (results Tryz.f4 a'.tmps).run Tryz.prog w' = .ok v w' ∧ ∃ u, Ending.returned v = .returned u ∧ u = .bool true ∧ Grown w w') (c4.drop 13) aq wq := fun a b ha hb hrun => by
    have q1 : decide ((e1 : Int) = 0) = a := by
      rw [he1, ← ha, lim_r]
      by_cases h : 20 < m + t
      · rw [if_pos h]; simp; omega
      · rw [if_neg h]; simp; omega
    have q2 : decide ((e1 : Int) = 251) = !a := by
      rw [he1, ← ha, lim_r]
      by_cases h : 20 < m + t
      · rw [if_pos h]; simp; omega
      · rw [if_neg h]; simp; omega
    have q3 : decide ((e3 : Int) = 0) = b := by
      rw [he3, ← hb, lim_r]
      by_cases h : 20 < m - 1 + t
      · rw [if_pos h]; simp; omega
      · rw [if_neg h]; simp; omega
    have q4 : decide ((e3 : Int) = 251) = !b := by
      rw [he3, ← hb, lim_r]
      by_cases h : 20 < m - 1 + t
      · rw [if_pos h]; simp; omega
      · rw [if_neg h]; simp; omega
    refine StAt.runL (withF_ok E0_ok _) rfl 2 (cs := c4.drop 13) hrun hs (FactsOK.bd' ?_) hdq' y4 (Ag.agreeS (o := φ.y) ⟨trivial, trivial, trivial, trivial⟩ rfl rfl rfl rfl) fun φ ar wr hs hdr hgr _ _ _ _ _ => ⟨.inl rfl, hdr, ?_⟩
    · exact ⟨trivial, ⟨.eql (k := .i64) (x := e1) (y := 0) (by simp only [ival, s5]) rfl q1,
        .add (k := .i64) (x := m) (y := t) (by simp only [ival, s10]) rfl (by simp only [ival, s11]; congr 2) (i64_in (by omega)),
        .leq (k := .i64) (x := (m + t : Nat)) (y := 20) (by simp only [ival, s11]) rfl (by rw [← ha]; simp; omega),
        .eql (k := .i64) (x := e1) (y := e1) (by simp only [ival, s8]) (by simp only [ival, s5]) (by simp),
        .eql (k := .i64) (x := e3) (y := 0) (by simp only [ival, s9]) rfl q3,
        .sub (k := .i64) (x := m) (y := 1) (by simp only [ival, s10]) rfl (by simp only [ival, s12]; congr 2; omega) (i64_in (by omega)),
        .add (k := .i64) (x := (m - 1 : Nat)) (y := t) (by simp only [ival, s12]) rfl (by simp only [ival, s13]; congr 2) (i64_in (by omega)),
        .leq (k := .i64) (x := (m - 1 + t : Nat)) (y := 20) (by simp only [ival, s13]) rfl (by rw [← hb]; simp; omega),
        .eql (k := .i64) (x := e1) (y := 251) (by simp only [ival, s5]) rfl q2, .eql (k := .i64) (x := e3) (y := 251) (by simp only [ival, s9]) rfl q4, trivial⟩,
        trivial, trivial, trivial, trivial, trivial, trivial, trivial⟩
    obtain ⟨v, hv1, hv2⟩ := hs.leave E0_ok (fn := Tryz.f4) (l := [.b true]) rfl
    refine ⟨v, hv1, v, rfl, ?_, (g0q.trans hgr).grown⟩
    simpa only [aRets, VR] using hv2
  have eZ := List.all_eq_true.1 lr_Zs t htr
  simp only [Bool.and_eq_true] at eZ
  by_cases h1 : m + t ≤ 20
  · exact fin true true (by simp [h1]) (by simp; omega) eZ.1.1
  · by_cases h2 : m - 1 + t ≤ 20
    · exact fin false true (by simp; omega) (by simp [h2]) eZ.1.2
    · exact fin false false (by simp; omega) (by simp; omega) eZ.2

end Go.Ev
