/- Chains, part Aj: 'Apply'. -/
import Derived.Test.YtcnckmkbidklgaaGreatDoorA16
namespace Go.Ev
open Go.Proofs

def tY (n next : Nat) (ln ov rv : Value) (row : List Value) (pv : Value) : Sym := mkY [0, n, 0, next] [ln, ov, rv, .bool false, .bool false, pv] [[], [], [], row] []

/-- From the loop's end on. -/
theorem app_tail {n : Nat} {w : World} {s : Bst} {rl : List (R × Value)} (hok : BstOK w s) (hln : s.objs.length ≤ 100000) (hrl : s.roots.length ≤ 100000) (hW : WholeS s.objs s.roots) (hne : s.objs ≠ []) (hrne : s.roots ≠ [])
    {x z : V} {nb : Nat} {HB HBm : List (Nat × Blk)} {FZ : Facts} (h9 : runsO (withF E0 {}) 100 (opsD (c10.drop 8)) ((opsD (c10.drop 8)).toList.take 1) (frOf 77 (app_L8 x)) (hOf nb HB) app_T9 77 (app_L9 x) nb HB = true) (hS9 : selfOK app_T9 77 (app_L9 x) nb HB = true)
    (hM : runsO (withF E0 {}) 100 (opsD (c10.drop 8)) (((opsD (c10.drop 8)).toList.drop 2).take 100) (frOf 77 (app_LK x)) (hOf nb HB) app_TM 77 (app_LM x) 3 HBm = true) (hZ : runsL (withF E0 FZ) 100 ((c10.drop 9).take 10) (frOf 77 (app_LM x)) (hOf 3 HBm) .r app_TM 77 (app_LZ z) 1 [(0, Rea_B)] = true)
    (hT9 : wT.all (fun T => noT T (muts HB)) = true) (hTm : wT.all (fun T => noT T (muts HBm)) = true) (hmp : noMp (muts HB) = true) (h106 : noT 106 (muts HB) = true)
    (hFZ : ∀ φ : Ren, ∀ (h1 : AllL (fun e : FuncId × List V × V => ∀ φ', Le φ φ' → ∀ args', VRs φ' e.2.1 args' → Quiet Tryz.prog φ.y.k e.1 args' fun u => VR φ' e.2.2 u) [(16, w_args, .i .i64 0)]), φ.s 1 = rl.length → φ.w 3 = recRow rl → FactsOK Tryz.prog FZ φ)
    (hz : ∀ φ : Ren, φ.s 1 = rl.length → ∀ v, VR φ z v → v = .int .i64 rl.length)
    {φ : Ren} {a : Act} {w1 : World} {ln kv : Value} {rb ro rr : Nat} {mr : Array MapEntry × Nat} (hs : StAt φ w.heap.size (frOf 77 (app_L8 x)) (hOf nb HB) a w1) (hd : a.defers = []) (hg : GB w.heap.size w w1) (H : BenchW w1 ln kv s.next (omL s.objs) mr rb ro rr) (hsch : IsSch w1 ln) (M : RM mr s.roots)
    (hn : Named φ (tY rl.length 0 (.bool false) (.bool false) (.bool false) (recRow rl) (.pointer (some ⟨rb, 0, none⟩)))) :
    wpCs none n E0.P (fun e a' w' => (e = .ret ∨ e = .normal) ∧ a'.defers = [] ∧ ∃ v, (results Tryz.f10 a'.tmps).run Tryz.prog w' = .ok v w' ∧ ∃ u, Ending.returned v = .returned u ∧ (∃ ln' ov' rv' l' rs', u = .tuple #[wV ln' ov' rv' s.next, .int .i64 rl.length, .int .i64 0] ∧ OutW w' s ln' ov' rv' l' rs') ∧ Grown w w') (c10.drop 8) a w1 := by
  obtain ⟨id8, hr8⟩ := app_r8
  rw [hr8]
  refine wpCs_region ?_
  have hyT : Ag app_T9 (tY rl.length 0 (.bool false) (.bool false) (.bool false) (recRow rl) (.pointer (some ⟨rb, 0, none⟩))) (tY rl.length 0 (.bool false) (.bool false) (.bool false) (recRow rl) (.pointer (some ⟨rb, 0, none⟩))) := ⟨⟨rfl, trivial⟩, ⟨⟨rfl, rfl⟩, trivial⟩, ⟨rfl, trivial⟩, trivial⟩
  refine StAt.runO (withF_ok E0_ok {}) rfl 1 h9 hs noFacts.bd' _ (hyT.self' hn) fun φ a2 w2 hs hd2 hg2 hk2 n1 n2 n3 n4 => ?_
  have hk2' := hk2.keptC hT9
  have H2 : BenchW w2 ln kv s.next (omL s.objs) mr rb ro rr := ⟨hk2.c _ _ _ h106 H.bench, H.kv, hk2.m hmp _ _ _ H.objs, hk2.m hmp _ _ _ H.roots⟩
  have g02 := hg.trans hg2
  have hsch2 : IsSch w2 ln := hsch.keptC hk2' (by decide) (by decide)
  -- 'world'
  refine hs.callO (l := (opsD (c10.drop 8)).toList.drop 1) (o := ((opsD (c10.drop 8)).toList.drop 1).headD default) (rest := (opsD (c10.drop 8)).toList.drop 2) rfl rfl rfl rfl rfl Tryz.func25 rfl rfl (Vs := [.q 5]) rfl ?_
  intro args' ha
  have : args' = [.pointer (some ⟨rb, 0, none⟩)] := by
    simp only [VRs, VR] at ha
    obtain ⟨_, _, rfl, ⟨rfl, _⟩, rfl⟩ := ha
    rw [n2]; rfl
  subst this
  refine (world_ok (n := n - 1) H2 hsch2 hne hrne M (fun p hp => g02.isVal rfl (hok.vals p hp)) hok.ids hok.refs hln hrl).mono ?_
  rintro e w3 ⟨v, rfl, ⟨ln', ov', rv', l', rs', rfl, o1, o2, o3, o4, o5, o6, o7, o8⟩, hgr⟩
  refine ⟨_, rfl, ?_⟩
  have hout : OutW w3 s ln' ov' rv' l' rs' := out_of hok hln hrl hW o1 o2 o3 o4 o5 o6 o7 o8
  have q0 := o1.one
  have q1 := o2.one
  have q2 := o3.one
  have hne' : l' ≠ [] := by
    rintro rfl
    have := o5.length_eq
    simp at this
    exact hne (List.eq_nil_of_length_eq_zero this.symm)
  obtain ⟨φ, hs, n1, n2, n3, n4⟩ := hs.grow hgr hS9 (y := tY rl.length s.next ln' ov' rv' (recRow rl) (.pointer (some ⟨rb, 0, none⟩))) ⟨⟨(congrFun n1 1).symm, trivial⟩, ⟨⟨(congrFun n2 5).symm, rfl⟩, trivial⟩, ⟨(congrFun n3 3).symm, trivial⟩, trivial⟩
  have hs := hs.put (d := 65) (by decide) (x := .a [.q 0, .q 1, .q 2, .y .i64 3]) (v := wV ln' ov' rv' s.next) (by
    have := w_args_ok (φ := φ) (lines := ln') (ov := ov') (rv := rv') (next := s.next) (congrFun n2 0) (congrFun n2 1) (congrFun n2 2) (congrFun n1 3) q0 q1 q2
    simp only [w_args, VRs] at this
    obtain ⟨_, _, e, h, rfl⟩ := this
    simp only [List.cons.injEq, and_true] at e
    rw [e]; exact h)
  have hyM : Ag app_TM (tY rl.length s.next ln' ov' rv' (recRow rl) (.pointer (some ⟨rb, 0, none⟩))) (tY rl.length s.next ln' ov' rv' (recRow rl) (.pointer (some ⟨rb, 0, none⟩))) := ⟨⟨rfl, rfl, trivial⟩, ⟨⟨rfl, q0⟩, ⟨rfl, q1⟩, ⟨rfl, q2⟩, trivial⟩, ⟨rfl, trivial⟩, trivial⟩
  refine StAt.runO (withF_ok E0_ok {}) rfl 100 hM hs noFacts.bd' _ (hyM.self' ⟨n1, n2, n3, n4⟩) fun φ a4 w4 hs hd4 hg4 hk4 n1 n2 n3 n4 => ?_
  show wpCs none n E0.P _ (c10.drop 9) a4 w4
  have hgw4 : GW w4 ln' ov' rv' s.next l' rs' := hout.gw.keptC (hk4.keptC hT9)
  have hd4' : a4.defers = [] := by rw [hd4]; show a2.defers = []; rw [hd2, hd]
  refine StAt.runL (withF_ok E0_ok FZ) rfl 10 (cs := c10.drop 9) hZ hs (FactsOK.bd' (hFZ φ ⟨?_, trivial⟩ (congrFun n1 1) (congrFun n3 3))) hd4' _ (hyM.self' ⟨n1, n2, n3, n4⟩) fun φ' a5 w5 hs5 hd5 hg5 hk5 m1 m2 m3 m4 => ?_
  · intro φ' hle args' ha
    have := w_args_eq (φ := φ') (lines := ln') (ov := ov') (rv := rv') (next := s.next) (by rw [hle.qy]; exact congrFun n2 0) (by rw [hle.qy]; exact congrFun n2 1) (by rw [hle.qy]; exact congrFun n2 2) (by rw [hle.sy]; exact congrFun n1 3) ha
    subst this
    refine ⟨⟨_, _, Tryz.func16, rfl, rfl⟩, fun n w' hk => ?_⟩
    have hkept : ∀ (r : Nat) (c : Array Value) (T : TypeId), T ∈ wT → w4.heap[r]? = some (.cells c T (0, 0)) → w'.heap[r]? = some (.cells c T (0, 0)) := fun r c T hT ho => hk r _ (hs.kT (List.all_eq_true.1 hTm T hT) ho)
    refine (check_ok (n := n) (hgw4.keptC hkept) hout.whole hne').mono ?_
    rintro e w'' ⟨v, h1, rfl, h3⟩
    exact ⟨_, h1, by simp only [VR], h3⟩
  refine ⟨.inl rfl, hd5, ?_⟩
  obtain ⟨v, hv1, hv2⟩ := hs5.leave E0_ok (fn := Tryz.f10) (l := [.a [.q 0, .q 1, .q 2, .y .i64 3], z, .i .i64 0]) rfl
  refine ⟨v, hv1, v, rfl, ⟨ln', ov', rv', l', rs', ?_, ⟨hgw4.keptC (hk5.keptC hTm), hout.whole, hout.objs, hout.roots⟩⟩, (((g02.trans (hgr.gb g02.size)).trans hg4).trans hg5).grown⟩
  simp only [aRets, VR, VRs] at hv2
  obtain ⟨vs, rfl, uv, _, e1, huv, zv, _, rfl, hzv, _, _, rfl, rfl, rfl⟩ := hv2
  have hu : uv = wV ln' ov' rv' s.next := by
    have ha : VRs φ' w_args [uv] := VRs.cons (by simp only [VR, VRs]; exact huv) VRs.nil
    have := w_args_eq (φ := φ') (lines := ln') (ov := ov') (rv := rv') (next := s.next) (congrFun m2 0) (congrFun m2 1) (congrFun m2 2) (congrFun m1 3) ha
    simpa using this
  rw [hu, hz φ' (congrFun m1 1) zv hzv] at e1
  congr 1
  exact Array.toList_inj.1 e1

end Go.Ev

/- Chains, part Ak: 'Apply', joined. -/
namespace Go.Ev
open Go.Proofs

def IsRecs (w : World) (v : Value) (rl : List (R × Value)) : Prop := (rl = [] ∧ v = nilS) ∨ IsRow w 45 18 v (recRow rl)
theorem IsRecs.one {w : World} {v : Value} {rl : List (R × Value)} (h : IsRecs w v rl) : v.oneCell' = true := by
  rcases h with ⟨_, rfl⟩ | h
  · rfl
  · exact h.one

theorem ord_lt {a b : List UInt8} (h : (Op.bytesLess b a || b == a) = false) : a < b := by
  simp only [Bool.or_eq_false_iff] at h
  have h1 : ¬ b < a := by have := h.1; rw [bytesLess_eq] at this; simpa using this
  have h2 : b ≠ a := by have := h.2; simpa using this
  refine Classical.byContradiction fun h3 => h2 ?_
  exact List.le_antisymm (List.not_lt.1 h3) (List.not_lt.1 h1)
theorem ord_all {rs : List (ByteArray × Nat)} (h : ∀ i p q, rs[i]? = some p → rs[i + 1]? = some q → (Op.bytesLess q.1.toList p.1.toList || q.1.toList == p.1.toList) = false) : ∀ (j i : Nat) (p q : ByteArray × Nat), i < j → rs[i]? = some p → rs[j]? = some q → p.1.toList < q.1.toList := by
  intro j
  induction j with
  | zero => intro i p q h; omega
  | succ j ih =>
    intro i p q hij hp hq
    have hj : j + 1 < rs.length := (List.getElem?_eq_some_iff.1 hq).1
    have hjp : rs[j]? = some rs[j] := List.getElem?_eq_getElem (by omega)
    have h1 := ord_lt (h j _ _ hjp hq)
    rcases Nat.lt_or_ge i j with hlt | hge
    · exact List.lt_trans (ih i p _ hlt hp hjp) h1
    · have : i = j := by omega
      subst this
      rw [hjp] at hp; cases hp
      exact h1
theorem GW.rnd {w : World} {lines ov rv : Value} {next : Nat} {l : List (O × Value)} {rs : List (ByteArray × Nat)} (h : GW w lines ov rv next l rs) : (rs.map (·.1)).Nodup := by
  rw [List.Nodup, List.pairwise_iff_getElem]
  intro i j hi hj hij e
  have hj' : j < rs.length := by simpa using hj
  have h1 : rs[i]? = some rs[i] := List.getElem?_eq_getElem (by omega)
  have h2 : rs[j]? = some rs[j] := List.getElem?_eq_getElem hj'
  have := ord_all h.ord j i _ _ hij h1 h2
  simp only [List.getElem_map] at e
  rw [e] at this
  exact List.lt_irrefl _ this
theorem GW.nd {w : World} {lines ov rv : Value} {next : Nat} {l : List (O × Value)} {rs : List (ByteArray × Nat)} (h : GW w lines ov rv next l rs) : (l.map (·.1.id)).Nodup := by
  rw [List.Nodup, List.pairwise_iff_getElem]
  intro i j hi hj hij e
  have hj' : j < l.length := by simpa using hj
  have h1 : l[i]? = some l[i] := List.getElem?_eq_getElem (by omega)
  have h2 : l[j]? = some l[j] := List.getElem?_eq_getElem hj'
  simp only [List.getElem_map] at e
  have := h.asc.inj (i := i + 1) (j := j + 1) (by omega) (by omega) (by simp [lastId, h1, h2, e])
  omega
theorem GW.bst {w : World} {lines ov rv : Value} {next : Nat} {l : List (O × Value)} {rs : List (ByteArray × Nat)} (h : GW w lines ov rv next l rs) (hW : Whole l rs) : BstOK w ⟨l, rs, next⟩ := by
  have hid : ∀ p ∈ l, 1 ≤ p.1.id ∧ p.1.id ≤ 100000 := fun p hp => h.hid _ (has_iff.2 ⟨p, hp, rfl⟩)
  refine ⟨h.vals, hid, h.ref, h.nd, h.rnd, fun q hq => h.hid _ (hW.root q hq), h.rn, h.nx, fun p hp => ?_⟩
  obtain ⟨i, hi, rfl⟩ := List.getElem_of_mem hp
  exact (h.ids i _ (List.getElem?_eq_getElem hi)).2
theorem rmm_RM {rs : List (ByteArray × Nat)} (h : (rs.map (·.1)).Nodup) : RM (rmm rs rs.length) rs := by
  rw [rmm_eq h _ (Nat.le_refl _), List.take_length]
  refine ⟨?_, fun e he => ?_, ?_⟩
  · apply List.ext_getElem?
    intro i
    simp only [List.getElem?_map, List.getElem?_mapIdx]
    cases rs[i]? <;> rfl
  · simp only [List.mem_mapIdx] at he
    obtain ⟨i, hi, rfl⟩ := he
    exact hi
  · have : ((rs.mapIdx rent).map (·.born)) = List.range rs.length := by
      apply List.ext_getElem?
      intro i
      simp only [List.getElem?_map, List.getElem?_mapIdx]
      rcases Nat.lt_or_ge i rs.length with h | h
      · rw [List.getElem?_eq_getElem h, List.getElem?_range h]; rfl
      · rw [List.getElem?_eq_none h, List.getElem?_eq_none (by simpa using h)]; rfl
    show ((rs.mapIdx rent).map (·.born)).Nodup
    rw [this]; exact List.nodup_range

theorem apply_ok {n : Nat} {w : World} {lines ov rv : Value} {next : Nat} {l : List (O × Value)} {rs : List (ByteArray × Nat)} (G : GW w lines ov rv next l rs) (hW : Whole l rs) (hne : l ≠ []) {recv : Value} {rl : List (R × Value)} (hrecs : IsRecs w recv rl) (hrl : ∀ r ∈ rl, ROK w r) (hn : rl.length ≤ 100000)
    {s : Bst} (hs : s = (⟨l, rs, next⟩ : Bst).run rl) (hW2 : WholeS s.objs s.roots) (hsl : s.objs.length ≤ 100000) (hsr : s.roots.length ≤ 100000) (hsne : s.objs ≠ []) (hrne : s.roots ≠ []) :
    CallsIn (W none) n Tryz.prog 10 #[wV lines ov rv next, recv] w fun e w' => ∃ v, e = .returned v ∧ (∃ ln' ov' rv' l' rs', v = .tuple #[wV ln' ov' rv' s.next, .int .i64 rl.length, .int .i64 0] ∧ OutW w' s ln' ov' rv' l' rs') ∧ Grown w w' := by
  have o0 := G.sch.one
  have o1 := G.objs.one
  have o2 := G.roots.one
  have o4 := hrecs.one
  have hB0 := G.bst hW
  have hBs : BstOK w s := by rw [hs]; exact hB0.run hrl
  have M0 := rmm_RM G.rnd
  have hom : om l l.length = omL l := by rw [om_eq G.asc _ (Nat.le_refl _), List.take_length]; rfl
  let y0 : Sym := mkY [0, 0, 0, next] [lines, ov, rv, .bool false, recv] [] []
  have hargs : VRs (φ0 y0 w) app_args [wV lines ov rv next, recv] := by
    have := w_args_ok (φ := φ0 y0 w) (lines := lines) (ov := ov) (rv := rv) (next := next) rfl rfl rfl rfl o0 o1 o2
    simp only [w_args, VRs] at this
    obtain ⟨_, _, e, h, rfl⟩ := this
    simp only [List.cons.injEq, and_true] at e
    subst e
    exact VRs.cons h (VRs.cons (by simp only [VR]; exact ⟨rfl, o4⟩) VRs.nil)
  have hst := StAt.enter (nt := 77) (φ0_hr y0 w) rfl rfl hargs (by decide)
  refine callIn (fn := Tryz.f10) (c := (Tryz.f10.body).getD .skip) (args := [wV lines ov rv next, recv]) Tryz.func10 rfl (wpIn_flat _ ?_)
  show wpCs none n E0.P _ c10 _ _
  have hy0 : Ag app_T y0 y0 := ⟨⟨rfl, trivial⟩, ⟨⟨rfl, o0⟩, ⟨rfl, o1⟩, ⟨rfl, o2⟩, ⟨rfl, o4⟩, trivial⟩, trivial, trivial⟩
  refine StAt.runL (withF_ok E0_ok app_F) rfl 4 app_A hst (FactsOK.bd' ?_) rfl y0 (hy0.agreeS rfl rfl rfl rfl) fun φ a w1 hs1 hd hg _ n1 n2 n3 n4 => ?_
  · refine ⟨trivial, trivial, trivial, trivial, trivial, trivial, trivial, trivial, ⟨?_, trivial⟩⟩
    intro φ' hle args' ha
    have := w_args_eq (φ := φ') (lines := lines) (ov := ov) (rv := rv) (next := next) (by rw [hle.qy]; rfl) (by rw [hle.qy]; rfl) (by rw [hle.qy]; rfl) (by rw [hle.sy]; rfl) ha
    subst this
    refine ⟨⟨_, _, Tryz.func16, rfl, rfl⟩, fun n w' hk => ?_⟩
    refine (check_ok (n := n) (G.keptC fun r c T _ ho => hk r _ ho) hW hne).mono ?_
    rintro e w'' ⟨v, h1, rfl, h3⟩
    exact ⟨_, h1, by simp only [VR], h3⟩
  show wpCs none n E0.P _ (c10.drop 4) a w1
  obtain ⟨id4, hr4⟩ := app_r4
  rw [hr4]
  refine wpCs_region ?_
  refine StAt.runO (withF_ok E0_ok {}) rfl 1 app_B hs1 noFacts.bd' _ (hy0.self' ⟨n1, n2, n3, n4⟩) fun φ a2 w2 hs2 hd2 hg2 _ n1 n2 n3 n4 => ?_
  have g02 := hg.trans hg2
  -- 'lay'
  refine hs2.callO (l := (opsD (c10.drop 4)).toList.drop 1) (o := ((opsD (c10.drop 4)).toList.drop 1).headD default) (rest := (opsD (c10.drop 4)).toList.drop 2) rfl rfl rfl rfl rfl Tryz.func19 rfl rfl (Vs := w_args) rfl ?_
  intro args' ha
  have := w_args_eq (φ := φ) (lines := lines) (ov := ov) (rv := rv) (next := next) (congrFun n2 0) (congrFun n2 1) (congrFun n2 2) (congrFun n1 3) ha
  subst this
  have G2 := G.kept fun r o ho => g02.at_ rfl ho
  refine (lay_ok (n := n - 1) G2 hB0.rids).mono ?_
  rintro e w3 ⟨v, rfl, ⟨ln, rb, rk, rv', ro, rr, rfl, hsch, hb⟩, hgr⟩
  rw [hom] at hb
  refine ⟨_, rfl, ?_⟩
  obtain ⟨φ, hs3, n1, n2, n3, n4⟩ := hs2.conv app_C (mkY [0, 0, 0, next] [.bool false, .bool false, .bool false, .bool false, recv] [] [(#[], 0), omL l, rmm rs rs.length]) (by
    refine mkAgree ⟨(congrFun n1 3).symm, trivial⟩ ⟨?_, trivial⟩ trivial trivial
    simp only [VR]; exact ⟨(congrFun n2 4).symm, o4⟩)
  obtain ⟨φ, hs3, m1, m2, m3, m4, hφ7⟩ := hs3.bench (fun _ => rfl) hgr hb hsch (congrFun n1 3) (congrFun n4 1) (congrFun n4 2) (fun e he => by rw [(omL_at he).1]; exact rfl) M0.key
  have hs3 := hs3.put (d := 24) (by decide) (x := .p (some (7, 0))) (v := .pointer (some ⟨rb, 0, none⟩)) (by simp only [VR]; exact ⟨rb, hφ7, rfl⟩)
  have g03 := g02.trans (hgr.gb g02.size)
  let y1 : Sym := mkY [0, 0, 0, next] [.bool false, .bool false, .bool false, .bool false, recv] [] [(#[], 0), omL l, rmm rs rs.length]
  have hy1 : Ag app_TD y1 y1 := ⟨⟨rfl, trivial⟩, ⟨⟨rfl, o4⟩, trivial⟩, trivial, ⟨rfl, rfl, trivial⟩⟩
  refine StAt.runO (withF_ok E0_ok {}) rfl 100 app_D hs3 noFacts.bd' _ (hy1.self' ⟨m1.trans n1, m2.trans n2, m3.trans n3, m4.trans n4⟩) fun φ a4 w4 hs4 hd4 hg4 _ n1 n2 n3 n4 => ?_
  show wpCs none n E0.P _ (c10.drop 5) a4 w4
  have hd4' : a4.defers = [] := by rw [hd4]; show a2.defers = []; rw [hd2, hd]
  refine StAt.runL (withF_ok E0_ok {}) rfl 1 app_E hs4 noFacts.bd' hd4' _ (hy1.self' ⟨n1, n2, n3, n4⟩) fun φ a5 w5 hs5 hd5 hg5 _ n1 n2 n3 n4 => ?_
  show wpCs none n E0.P _ (c10.drop 6) a5 w5
  have g05 := (g03.trans hg4).trans hg5
  rcases hrecs with ⟨rfl, rfl⟩ | hrow
  · -- no records
    have hs5' := hs5.subst 4 nl (by
      have : φ.q 4 = nilS := congrFun n2 4
      rw [this]; exact vN)
    let y2 : Sym := mkY [0, 0, 0, next] [] [] [(#[], 0), omL l, rmm rs rs.length]
    refine StAt.runL (withF_ok E0_ok {}) rfl 2 (cs := c10.drop 6) app_G0 hs5' noFacts.bd' hd5 y2 (Ag.agreeS (o := y1) ⟨⟨rfl, trivial⟩, trivial, trivial, ⟨rfl, rfl, trivial⟩⟩ n1 n2 n3 n4) fun φ a6 w6 hs6 hd6 hg6 _ n1 n2 n3 n4 => ?_
    show wpCs none n E0.P _ (c10.drop 8) a6 w6
    obtain ⟨r7, h7⟩ := hs6.ptr 8 rfl
    obtain ⟨ln, kv, ro, rr, H6, hsch6⟩ := benchOut hs6.hr rfl rfl rfl rfl rfl h7 (congrFun n1 3) (congrFun n4 1) (congrFun n4 2)
    obtain ⟨φ, hs6, m1, m2, m3, m4⟩ := hs6.conv app_8N (tY 0 0 (.bool false) (.bool false) (.bool false) [] (.pointer (some ⟨r7, 0, none⟩))) (by
      refine mkAgree trivial ⟨?_, trivial⟩ trivial trivial
      simp only [VR]; exact ⟨r7, h7, rfl⟩)
    have hse : s = ⟨l, rs, next⟩ := hs
    subst hse
    exact app_tail (rl := []) hBs hsl hsr hW2 hsne hrne app_9N app_S9N app_MN app_ZN rfl rfl rfl rfl (fun φ hq _ _ => ⟨trivial, trivial, trivial, trivial, trivial, trivial, trivial, trivial, hq⟩) (fun φ _ v hv => by simp only [VR] at hv; exact hv) hs6 hd6 (g05.trans hg6) H6 hsch6 M0 ⟨m1, m2, m3, m4⟩
  · -- records
    obtain ⟨φ, hs5', hy5⟩ := hs5.resym (tb := app_TD) (by decide +kernel) (y := mkY [0, rl.length, 0, next] [.bool false, .bool false, .bool false, .bool false, recv] [[], [], [], recRow rl] [(#[], 0), omL l, rmm rs rs.length]) (hy1.self'' n1 n2 n3 n4 |> fun h => ⟨⟨h.s.1, trivial⟩, ⟨h.q.1, trivial⟩, trivial, ⟨h.g.1, h.g.2.1, trivial⟩⟩)
    obtain ⟨n1, n2, n3, n4⟩ := hy5
    obtain ⟨φ6, hs6, hy6⟩ := hs5'.revealRow (hrow.kept fun r o h => g05.at_ rfl h) rfl 4 3 (congrFun n2 4) (congrFun n3 3)
    refine StAt.runL (withF_ok E0_ok app_FE) rfl 1 (cs := c10.drop 6) app_G hs6 (FactsOK.bd' ?_) hd5 (aY 0 rl.length next (recRow rl) (omL l) (rmm rs rs.length)) ?_ fun φ a7 w7 hs7 hd7 hg7 _ k1 k2 k3 k4 => ?_
    · refine ⟨trivial, trivial, trivial, ⟨⟨rl.length, by decide, ?_, ?_⟩, trivial⟩, trivial, trivial, trivial, trivial, trivial⟩
      · show rl.length * 18 = (φ6.y.w 3).length
        rw [hy6, show φ.y.w 3 = recRow rl from congrFun n3 3, recRow_len]
      · show φ6.y.s 1 = _
        rw [hy6]; exact congrFun n1 1
    · refine Ag.agreeS (o := mkY [0, rl.length, 0, next] [.bool false, .bool false, .bool false, .bool false, recv] [[], [], [], recRow rl] [(#[], 0), omL l, rmm rs rs.length]) ⟨⟨rfl, rfl, rfl, trivial⟩, trivial, ⟨rfl, trivial⟩, ⟨rfl, rfl, trivial⟩⟩ ?_ ?_ ?_ ?_ <;> rw [hy6]
      · exact n1
      · exact n2
      · exact n3
      · exact n4
    show wpCs none n E0.P _ (c10.drop 7) a7 w7
    have g07 := g05.trans hg7
    refine for_loop (id := 0) (b := (match c10.drop 7 with | .block _ (.loop b) :: _ => b | _ => .skip)) (rest := c10.drop 8) rl.length (AInv w rl ⟨l, rs, next⟩) (fun i a w' hi hinv => app_step hB0 hrl hn hi hinv) ?_ ⟨φ, _, .inl hs7, hd7, g07, ⟨k1, k2, k3, k4⟩, M0⟩
    rintro a8 w8 ⟨φ8, mr, hst8, hd8, g08, ⟨n1, n2, n3, n4⟩, M8⟩
    rw [List.take_length, ← hs] at n1 n4 M8
    show wpCs none n E0.P _ app_rd a8 w8
    have hyX : Ag app_T0 (aY rl.length rl.length s.next (recRow rl) (omL s.objs) mr) (aY rl.length rl.length s.next (recRow rl) (omL s.objs) mr) := ⟨⟨rfl, rfl, rfl, trivial⟩, trivial, ⟨rfl, trivial⟩, ⟨rfl, rfl, trivial⟩⟩
    have hFX : FactsOK Tryz.prog app_FX φ8 := by
      have t0 : φ8.y.s 0 = rl.length := congrFun n1 0
      have t1 : φ8.y.s 1 = rl.length := congrFun n1 1
      exact ⟨trivial, ⟨.lss (k := .i64) (x := rl.length) (y := rl.length) (by simp only [ival, t0]) (by simp only [ival, t1]) (by simp), trivial⟩, trivial, trivial, trivial, trivial, trivial, trivial, trivial⟩
    rcases hst8 with hs8 | hs8
    · refine StAt.runL (withF_ok E1_ok app_FX) rfl 100 (cs := app_rd) app_XE hs8 (FactsOK.bd' hFX) hd8 _ (hyX.self' ⟨n1, n2, n3, n4⟩) fun φ9 a9 w9 hs9 hd9 hg9 _ n1 n2 n3 n4 => ⟨rfl, ?_⟩
      obtain ⟨r7, h7⟩ := hs9.ptr 8 rfl
      obtain ⟨ln, kv, ro, rr, H9, hsch9⟩ := benchOut hs9.hr rfl rfl rfl rfl rfl h7 (congrFun n1 3) (congrFun n4 1) (congrFun n4 2)
      obtain ⟨φ, hs9, m1, m2, m3, m4⟩ := hs9.conv app_8E (tY rl.length 0 (.bool false) (.bool false) (.bool false) (recRow rl) (.pointer (some ⟨r7, 0, none⟩))) (by
        refine mkAgree ⟨(congrFun n1 1).symm, trivial⟩ ⟨?_, trivial⟩ ⟨(congrFun n3 3).symm, trivial⟩ trivial
        simp only [VR]; exact ⟨r7, h7, rfl⟩)
      exact app_tail (rl := rl) hBs hsl hsr hW2 hsne hrne app_9R app_S9R app_MR app_ZR rfl rfl rfl rfl (fun φ hq h1 h2 => ⟨trivial, trivial, trivial, ⟨⟨rl.length, by decide, by show rl.length * 18 = _; rw [h2, recRow_len], h1⟩, trivial⟩, trivial, trivial, trivial, trivial, hq⟩) (fun φ h1 v hv => by simp only [VR] at hv; rw [hv, h1]) hs9 hd9 (g08.trans hg9) H9 hsch9 M8 ⟨m1, m2, m3, m4⟩
    · refine StAt.runL (withF_ok E1_ok app_FX) rfl 100 (cs := app_rd) app_XF hs8 (FactsOK.bd' hFX) hd8 _ (hyX.self' ⟨n1, n2, n3, n4⟩) fun φ9 a9 w9 hs9 hd9 hg9 _ n1 n2 n3 n4 => ⟨rfl, ?_⟩
      obtain ⟨r7, h7⟩ := hs9.ptr 8 rfl
      obtain ⟨ln, kv, ro, rr, H9, hsch9⟩ := benchOut hs9.hr rfl rfl rfl rfl rfl h7 (congrFun n1 3) (congrFun n4 1) (congrFun n4 2)
      obtain ⟨φ, hs9, m1, m2, m3, m4⟩ := hs9.conv app_8F (tY rl.length 0 (.bool false) (.bool false) (.bool false) (recRow rl) (.pointer (some ⟨r7, 0, none⟩))) (by
        refine mkAgree ⟨(congrFun n1 1).symm, trivial⟩ ⟨?_, trivial⟩ ⟨(congrFun n3 3).symm, trivial⟩ trivial
        simp only [VR]; exact ⟨r7, h7, rfl⟩)
      exact app_tail (rl := rl) hBs hsl hsr hW2 hsne hrne app_9R app_S9R app_MR app_ZR rfl rfl rfl rfl (fun φ hq h1 h2 => ⟨trivial, trivial, trivial, ⟨⟨rl.length, by decide, by show rl.length * 18 = _; rw [h2, recRow_len], h1⟩, trivial⟩, trivial, trivial, trivial, trivial, hq⟩) (fun φ h1 v hv => by simp only [VR] at hv; rw [hv, h1]) hs9 hd9 (g08.trans hg9) H9 hsch9 M8 ⟨m1, m2, m3, m4⟩

end Go.Ev

/- Chains, part Ba: 'limit.names', its runs. -/
namespace Go.Ev
open Go.Proofs

noncomputable def c18 : List Code := flatL ((Tryz.f18.body).getD .skip)
def nam_args : List V := [.q 0, .q 1]
def nm0 : Blk := .smp 1 .string []
def nam_L1 : List (Nat × V) := [(1, .q 1), (5, .m (some 0))]
/-- No snapshots. -/
theorem nam_N : runsL (withF E0 {}) 100 (c18.take 4) ⟨44, load [nl, .q 1] 0 .leaf⟩ (hOf 0 []) .n { q := [(1, .q 1)] } 44 nam_L1 1 [(0, .mp [] 0)] = true := by decide +kernel
def nam_TS : Tab := { q := [(1, .q 1)], g := [(1, .fold 0)] }
theorem nam_Ns : (mAll nam_TS (frOf 44 nam_L1) (hOf 1 [(0, .mp [] 0)]) 44 nam_L1 1 [(0, nm0)]).isSome = true := by decide +kernel
/-- Some. -/
def nam_FR : Facts := { bd := [(1, 0, 100000)], rz := [(0, 2)], rl := [(0, 0, 1)] }
def nam_La : List (Nat × V) := [(1, .q 1), (5, .m (some 0)), (13, .sr 1 0 0 2), (14, .y .i64 1), (15, .y .i64 0)]
def nam_Ha (b : Blk) : List (Nat × Blk) := [(0, b), (1, .rw 0 57)]
theorem nam_R : runsL (withF E0 nam_FR) 100 (c18.take 3) ⟨44, load [.sr 0 0 0 2, .q 1] 0 .leaf⟩ (hOf 1 [(0, .rw 0 57)]) .n { s := [(0, .i 0), (1, .y 1)], q := [(1, .q 1)], w := [(0, .same 0)] } 44 nam_La 2 (nam_Ha (.mp [] 0)) = true := by decide +kernel
def nam_Ta (g : List (Nat × WV)) : Tab := { s := [(0, .y 0), (1, .y 1)], q := [(1, .q 1)], w := [(0, .same 0)], g := g }
theorem nam_Rs : (mAll (nam_Ta [(1, .fold 0)]) (frOf 44 nam_La) (hOf 2 (nam_Ha (.mp [] 0))) 44 nam_La 2 (nam_Ha nm0)).isSome = true := by decide +kernel
theorem nam_Sa : selfOK (nam_Ta [(1, .same 1)]) 44 nam_La 2 (nam_Ha nm0) = true := by decide +kernel
noncomputable def nam_ra : List Code := roundOf (c18.drop 3)
def nam_Fa : Facts := { bin := [(.lss, .y .i64 0, .y .i64 1, .b true), (.add, .y .i64 0, .i .i64 1, .y .i64 9)], rz := [(0, 2)], re := [(0, 0, [.q 8, .y .i64 6])], qs := [8] }
def nmS : Blk := .smp 1 .string [(.q 8, some (.b true))]
def nmD : Blk := .smp 1 .string [(.q 8, none)]
def nam_Tb : Tab := { s := [(0, .y 9), (1, .y 1)], q := [(1, .q 1), (8, .q 8)], w := [(0, .same 0)], g := [(1, .same 1)] }
theorem nam_A : runsL (withF E0 nam_Fa) 100 (nam_ra.take 100) (frOf 44 nam_La) (hOf 2 (nam_Ha nm0)) .n nam_Tb 44 nam_La 2 (nam_Ha nmS) = true := by decide +kernel
theorem nam_Ac : (mAll (nam_Ta [(1, .fold 0)]) (frOf 44 nam_La) (hOf 2 (nam_Ha nmS)) 44 nam_La 2 (nam_Ha nm0)).isSome = true := by decide +kernel
def nam_FX : Facts := { bin := [(.lss, .y .i64 0, .y .i64 1, .b false)] }
theorem nam_X : runsL (withF E0 nam_FX) 100 (nam_ra.take 100) (frOf 44 nam_La) (hOf 2 (nam_Ha nm0)) (.e 0) { q := [(1, .q 1)], g := [(1, .same 1)] } 44 nam_L1 1 [(0, nm0)] = true := by decide +kernel
/-- Records. -/
def nam_LZ : List (Nat × V) := [(4, .y .i64 7)]
def nam_FL : Facts := { ml := [(1, .y .i64 7)] }
theorem nam_0 : runsL (withF E0 nam_FL) 100 ((c18.drop 4).take 10) (frOf 44 (subL 1 nl nam_L1)) (hOf 1 (subH 1 nl [(0, nm0)])) .r { s := [(7, .y 7)] } 44 nam_LZ 0 [] = true := by decide +kernel
def nam_Lb : List (Nat × V) := [(5, .m (some 0)), (23, .sr 1 3 0 18), (24, .y .i64 1), (25, .y .i64 0)]
def nam_Hb (b : Blk) : List (Nat × Blk) := [(0, b), (1, .rw 3 45)]
def nam_FB : Facts := { rz := [(3, 18)], rl := [(3, 0, 1)] }
theorem nam_B : runsL (withF E0 nam_FB) 100 ((c18.drop 4).take 1) (frOf 44 (subL 1 (.sr 1 3 0 18) nam_L1)) (hOf 2 ((1, .rw 3 45) :: subH 1 (.sr 1 3 0 18) [(0, nm0)])) .n { s := [(0, .i 0), (1, .y 1)], w := [(3, .same 3)], g := [(1, .same 1)] } 44 nam_Lb 2 (nam_Hb nm0) = true := by decide +kernel
noncomputable def nam_rb : List Code := roundOf (c18.drop 5)
def nam_FRc (rv : List V) (bd : List (Nat × Int × Int)) (qs : List Nat) : Facts := { bd := bd, bin := [(.lss, .y .i64 0, .y .i64 1, .b true), (.add, .y .i64 0, .i .i64 1, .y .i64 9)], rz := [(3, 18)], re := [(3, 0, rv)], qs := qs }
def nam_Tc (g : List (Nat × WV)) : Tab := { s := [(0, .y 0), (1, .y 1)], w := [(3, .same 3)], g := g }
def nam_Td : Tab := { s := [(0, .y 9), (1, .y 1)], q := [(8, .q 8)], w := [(3, .same 3)], g := [(1, .same 1)] }
theorem nam_Sb : selfOK (nam_Tc [(1, .same 1)]) 44 nam_Lb 2 (nam_Hb nm0) = true := by decide +kernel
def nam_vP : List V := recV (.i .i64 1) (.y .i64 4) (.q 10) (.i .i64 0) (.s [])
def nam_vR : List V := recV (.i .i64 2) (.i .i64 0) nl (.y .i64 4) (.q 8)
def nam_vS : List V := recV (.i .i64 5) (.i .i64 0) nl (.i .i64 1) (.q 8)
def nam_vD : List V := recV (.i .i64 5) (.i .i64 0) nl (.i .i64 0) (.q 8)
theorem nam_bP : runsL (withF E0 (nam_FRc nam_vP [] [8])) 100 (nam_rb.take 100) (frOf 44 nam_Lb) (hOf 2 (nam_Hb nm0)) .n nam_Td 44 nam_Lb 2 (nam_Hb nm0) = true := by decide +kernel
theorem nam_bR : runsL (withF E0 (nam_FRc nam_vR [] [8])) 100 (nam_rb.take 100) (frOf 44 nam_Lb) (hOf 2 (nam_Hb nm0)) .n nam_Td 44 nam_Lb 2 (nam_Hb nm0) = true := by decide +kernel
theorem nam_bS : runsL (withF E0 (nam_FRc nam_vS [] [8])) 100 (nam_rb.take 100) (frOf 44 nam_Lb) (hOf 2 (nam_Hb nm0)) .n nam_Td 44 nam_Lb 2 (nam_Hb nmS) = true := by decide +kernel
theorem nam_bD : runsL (withF E0 (nam_FRc nam_vD [] [8])) 100 (nam_rb.take 100) (frOf 44 nam_Lb) (hOf 2 (nam_Hb nm0)) .n nam_Td 44 nam_Lb 2 (nam_Hb nmD) = true := by decide +kernel
theorem nam_c0 : (mAll (nam_Tc [(1, .fold 0)]) (frOf 44 nam_Lb) (hOf 2 (nam_Hb nm0)) 44 nam_Lb 2 (nam_Hb nm0)).isSome = true := by decide +kernel
theorem nam_cS : (mAll (nam_Tc [(1, .fold 0)]) (frOf 44 nam_Lb) (hOf 2 (nam_Hb nmS)) 44 nam_Lb 2 (nam_Hb nm0)).isSome = true := by decide +kernel
theorem nam_cD : (mAll (nam_Tc [(1, .fold 0)]) (frOf 44 nam_Lb) (hOf 2 (nam_Hb nmD)) 44 nam_Lb 2 (nam_Hb nm0)).isSome = true := by decide +kernel
theorem nam_Xb : runsL (withF E0 nam_FX) 100 (nam_rb.take 100) (frOf 44 nam_Lb) (hOf 2 (nam_Hb nm0)) (.e 2) { g := [(1, .same 1)] } 44 [(5, .m (some 0))] 1 [(0, nm0)] = true := by decide +kernel
theorem nam_Z : runsL (withF E0 nam_FL) 100 ((c18.drop 6).take 10) (frOf 44 [(5, .m (some 0))]) (hOf 1 [(0, nm0)]) .r { s := [(7, .y 7)] } 44 nam_LZ 0 [] = true := by decide +kernel

end Go.Ev

/- Chains, part Bd: 'limit.names'. -/
namespace Go.Ev
open Go.Proofs

/-! ### A map by its keys -/
structure KM (m : Array MapEntry × Nat) (ns : List ByteArray) : Prop where
  ent : m.1.toList.map (·.key) = ns.map Value.string
  nd : ns.Nodup
def addN (ns : List ByteArray) (nm : ByteArray) : List ByteArray := if ns.any (fun x => decide (x = nm)) = true then ns else ns ++ [nm]
def delN (ns : List ByteArray) (nm : ByteArray) : List ByteArray := ns.filter (fun x => decide (x ≠ nm))
theorem KM.nil : KM (#[], 0) [] := ⟨rfl, List.nodup_nil⟩
theorem KM.size {m : Array MapEntry × Nat} {ns : List ByteArray} (M : KM m ns) : m.1.size = ns.length := by
  have := congrArg List.length M.ent; simpa using this
theorem KM.get {m : Array MapEntry × Nat} {ns : List ByteArray} (M : KM m ns) {j : Nat} {e : MapEntry} (h : m.1.toList[j]? = some e) : ∃ x, ns[j]? = some x ∧ e.key = .string x := by
  have := congrArg (·[j]?) M.ent
  simp only [List.getElem?_map, h, Option.map_some] at this
  cases hx : ns[j]? with
  | none => rw [hx] at this; cases this
  | some x => rw [hx] at this; exact ⟨x, rfl, Option.some.inj this⟩
theorem KM.key {m : Array MapEntry × Nat} {ns : List ByteArray} (M : KM m ns) : ∀ x ∈ m.1.toList, MapKept.IsKey .string x.key := fun x hx => by
  obtain ⟨j, hj⟩ := List.getElem?_of_mem hx
  obtain ⟨y, _, e⟩ := M.get hj
  rw [e]; trivial
theorem any_iff {ns : List ByteArray} {nm : ByteArray} : ns.any (fun x => decide (x = nm)) = true ↔ nm ∈ ns := by
  simp [List.any_eq_true]
theorem KM.set {m : Array MapEntry × Nat} {ns : List ByteArray} (M : KM m ns) (nm : ByteArray) (v : Value) : KM (mset .string m (.string nm) v) (addN ns nm) := by
  unfold mset
  rcases MapKept.findNow_spec (d := .string) (k := .string nm) trivial m.1.toList 0 M.key with ⟨h1, h2⟩ | ⟨j, e, h1, h2, h3⟩
  · rw [h1]
    have hno : nm ∉ ns := fun hm => by
      have : Value.string nm ∈ m.1.toList.map (·.key) := by rw [M.ent]; exact List.mem_map.2 ⟨nm, hm, rfl⟩
      obtain ⟨x, hx, e⟩ := List.mem_map.1 this
      exact h2 x hx e
    have hno' : ¬ (ns.any (fun x => decide (x = nm)) = true) := fun h => hno (any_iff.1 h)
    refine ⟨?_, ?_⟩
    · rw [Array.toList_push, List.map_append, M.ent, addN, if_neg hno', List.map_append]; rfl
    · rw [addN, if_neg hno', List.nodup_append]
      refine ⟨M.nd, by simp, fun a ha b hb hab => ?_⟩
      simp at hb; subst hb; subst hab
      exact hno ha
  · rw [h1]
    simp only [Nat.zero_add]
    obtain ⟨x, hx, ex⟩ := M.get h2
    rw [h3] at ex
    have hxn : nm = x := Value.string.inj ex
    subst hxn
    have hyes : ns.any (fun x => decide (x = nm)) = true := any_iff.2 (List.mem_of_getElem? hx)
    rw [addN, if_pos hyes]
    refine ⟨?_, M.nd⟩
    rw [← M.ent]
    apply List.ext_getElem?
    intro i
    simp only [Array.toList_modify, List.getElem?_map, List.getElem?_modify]
    by_cases hij : j = i
    · subst hij; simp [h2, h3]
    · simp [hij]
theorem KM.del {m : Array MapEntry × Nat} {ns : List ByteArray} (M : KM m ns) (nm : ByteArray) : KM (mdel .string m (.string nm)) (delN ns nm) := by
  unfold mdel
  rcases MapKept.findNow_spec (d := .string) (k := .string nm) trivial m.1.toList 0 M.key with ⟨h1, h2⟩ | ⟨j, e, h1, h2, h3⟩
  · rw [h1]
    have : delN ns nm = ns := by
      unfold delN
      rw [List.filter_eq_self]
      intro x hx
      simp only [decide_eq_true_eq]
      intro hxe
      have : Value.string nm ∈ m.1.toList.map (·.key) := by rw [M.ent]; exact List.mem_map.2 ⟨nm, hxe ▸ hx, rfl⟩
      obtain ⟨y, hy, e⟩ := List.mem_map.1 this
      exact h2 y hy e
    rw [this]; exact M
  · rw [h1]
    simp only [Nat.zero_add]
    obtain ⟨x, hx, ex⟩ := M.get h2
    rw [h3] at ex
    have hxn : nm = x := Value.string.inj ex
    subst hxn
    have hd : delN ns nm = ns.eraseIdx j := filter_erase fun i y hi => by
      simp only [decide_eq_true_eq]
      constructor
      · rintro h rfl
        rw [hx] at hi; cases hi
        exact h rfl
      · intro h e'
        subst e'
        have hnd : (ns.map id).Nodup := by simpa using M.nd
        exact h (nodup_at hnd hi hx rfl)
    have hl : (m.1.eraseIdxIfInBounds j).toList = m.1.toList.eraseIdx j := by
      have hlt : j < m.1.size := by simpa using (List.getElem?_eq_some_iff.1 h2).1
      rw [Array.eraseIdxIfInBounds, dif_pos hlt]; simp
    refine ⟨?_, ?_⟩
    · rw [hl, hd, map_erase, map_erase, M.ent]
    · exact M.nd.sublist (List.filter_sublist)

/-- The names of snapshots behind records. -/
def nstep (ns : List ByteArray) : R × Value → List ByteArray
  | (.snap nm id, _) => if id = 1 then addN ns nm else delN ns nm
  | _ => ns
def namesOf (sl : List (ByteArray × Nat)) (rl : List (R × Value)) : List ByteArray := rl.foldl nstep ((sl.map (·.1)).foldl addN [])
def IsSnaps (w : World) (v : Value) (sl : List (ByteArray × Nat)) : Prop := (sl = [] ∧ v = nilS) ∨ IsRow w 57 2 v (rRow sl)
theorem IsSnaps.one {w : World} {v : Value} {sl : List (ByteArray × Nat)} (h : IsSnaps w v sl) : v.oneCell' = true := by
  rcases h with ⟨_, rfl⟩ | h
  · rfl
  · exact h.one
/-- What 'names' is asked to know of records. -/
def RN' : R × Value → Prop
  | (.put _, v) => v.oneCell' = true
  | (.root _ _, _) => True
  | (.snap _ id, _) => id ≤ 1

def nYa (i n : Nat) (rv : Value) (nm : Value) (row : List Value) (m : Array MapEntry × Nat) : Sym := mkY [i, n, 0, 0, 0, 0, 0, 0, 0, (i + 1 : Nat)] [.bool false, rv, .bool false, .bool false, .bool false, .bool false, .bool false, .bool false, nm] [row] [(#[], 0), m]

/-- The second half. -/
theorem names_b {n : Nat} {w : World} {recv : Value} {rl : List (R × Value)} (hrec : IsRecs w recv rl) (hrn : ∀ r ∈ rl, RN' r) (hl : rl.length ≤ 100000) {ns : List ByteArray} {m : Array MapEntry × Nat} (M : KM m ns) {φ : Ren} {a : Act} {w1 : World} (hs : StAt φ w.heap.size (frOf 44 nam_L1) (hOf 1 [(0, nm0)]) a w1) (hd : a.defers = []) (hg : GB w.heap.size w w1)
    (hq : φ.q 1 = recv) (hm : φ.g 1 = m) :
    wpCs none n E0.P (fun e a' w' => (e = .ret ∨ e = .normal) ∧ a'.defers = [] ∧ ∃ v, (results Tryz.f18 a'.tmps).run Tryz.prog w' = .ok v w' ∧ ∃ u, Ending.returned v = .returned u ∧ u = .int .i64 (rl.foldl nstep ns).length ∧ Grown w w') (c18.drop 4) a w1 := by
  have fin : ∀ {φ : Ren} {a : Act} {w2 : World} {L : List (Nat × V)}, StAt φ w.heap.size (frOf 44 nam_LZ) (hOf 0 []) a w2 → a.defers = [] → GB w.heap.size w w2 → ∀ {k : Nat}, φ.s 7 = k → (∃ v, (results Tryz.f18 a.tmps).run Tryz.prog w2 = .ok v w2 ∧ ∃ u, Ending.returned v = .returned u ∧ u = .int .i64 k ∧ Grown w w2) := fun hs _ hg k hk => by
    obtain ⟨v, hv1, hv2⟩ := hs.leave E0_ok (fn := Tryz.f18) (l := [.y .i64 7]) rfl
    refine ⟨v, hv1, v, rfl, ?_, hg.grown⟩
    simp only [aRets, VR] at hv2
    rw [hv2, hk]
  rcases hrec with ⟨rfl, rfl⟩ | hrow
  · have hs' := hs.subst 1 nl (by rw [hq]; exact vN)
    obtain ⟨φ, hs', n1, n2, n3, n4⟩ := StAt.resym (L := subL 1 nl nam_L1) (HB := subH 1 nl [(0, nm0)]) hs' (tb := { g := [(1, .same 1)] }) (by decide +kernel) (y := mkY [0, 0, 0, 0, 0, 0, 0, ns.length] [] [] [(#[], 0), m]) ⟨trivial, trivial, trivial, ⟨hm.symm, trivial⟩⟩
    refine StAt.runL (withF_ok E0_ok nam_FL) rfl 10 (cs := c18.drop 4) nam_0 hs' (FactsOK.bd' ?_) hd (mkY [0, 0, 0, 0, 0, 0, 0, ns.length] [] [] []) (Ag.agreeS (o := mkY [0, 0, 0, 0, 0, 0, 0, ns.length] [] [] [(#[], 0), m]) ⟨⟨rfl, trivial⟩, trivial, trivial, trivial⟩ n1 n2 n3 n4) fun φ a2 w2 hs2 hd2 hg2 _ m1 m2 m3 m4 => ⟨.inl rfl, hd2, fin (L := []) hs2 hd2 (hg.trans hg2) (congrFun m1 7)⟩
    refine ⟨trivial, trivial, trivial, trivial, trivial, trivial, trivial, ⟨?_, trivial⟩, trivial⟩
    show some (IntKind.i64, φ.y.s 7) = some (IntKind.i64, (((φ.g 1).1.size : Nat) : Int))
    rw [show φ.g 1 = m from congrFun n4 1, M.size, show φ.y.s 7 = ns.length from congrFun n1 7]
  · obtain ⟨φ, hs, n1, n2, n3, n4⟩ := hs.resym (tb := { q := [(1, .q 1)], g := [(1, .same 1)] }) (by decide +kernel) (y := mkY [0, rl.length] [.bool false, recv] [[], [], [], recRow rl] [(#[], 0), m]) ⟨trivial, ⟨⟨hq.symm, hrow.one⟩, trivial⟩, trivial, ⟨hm.symm, trivial⟩⟩
    obtain ⟨φ2, hs2, hy2⟩ := hs.revealRow (hrow.kept fun r o h => hg.at_ rfl h) rfl 1 3 (congrFun n2 1) (congrFun n3 3)
    let Y : Nat → Array MapEntry × Nat → Sym := fun i m => mkY [i, rl.length] [] [[], [], [], recRow rl] [(#[], 0), m]
    refine StAt.runL (withF_ok E0_ok nam_FB) rfl 1 (cs := c18.drop 4) nam_B hs2 (FactsOK.bd' ?_) hd (Y 0 m) ?_ fun φ3 a3 w3 hs3 hd3 hg3 _ k1 k2 k3 k4 => ?_
    · refine ⟨trivial, trivial, trivial, ⟨⟨rl.length, by decide, ?_, ?_⟩, trivial⟩, trivial, trivial, trivial, trivial, trivial⟩
      · show rl.length * 18 = (φ2.y.w 3).length
        rw [hy2, show φ.y.w 3 = recRow rl from congrFun n3 3, recRow_len]
      · show φ2.y.s 1 = _
        rw [hy2]; exact congrFun n1 1
    · refine Ag.agreeS (o := mkY [0, rl.length] [.bool false, recv] [[], [], [], recRow rl] [(#[], 0), m]) ⟨⟨rfl, rfl, trivial⟩, trivial, ⟨rfl, trivial⟩, ⟨rfl, trivial⟩⟩ ?_ ?_ ?_ ?_ <;> rw [hy2]
      · exact n1
      · exact n2
      · exact n3
      · exact n4
    show wpCs none n E0.P _ (c18.drop 5) a3 w3
    let Inv : Nat → Act → World → Prop := fun i a w' => ∃ φ m', StAt φ w.heap.size (frOf 44 nam_Lb) (hOf 2 (nam_Hb nm0)) a w' ∧ a.defers = [] ∧ GB w.heap.size w w' ∧ Named φ (Y i m') ∧ KM m' ((rl.take i).foldl nstep ns)
    refine for_loop (id := 2) (b := (match c18.drop 5 with | .block _ (.loop b) :: _ => b | _ => .skip)) (rest := c18.drop 6) rl.length Inv ?_ ?_ ⟨φ3, m, hs3, hd3, hg.trans hg3, ⟨k1, k2, k3, k4⟩, M⟩
    · rintro i a w' hi ⟨φ, m', hs, hd, hg, ⟨n1, n2, n3, n4⟩, M'⟩
      show wpCs none n E0.P _ nam_rb a w'
      obtain ⟨r, hri⟩ : ∃ r, rl[i]? = some r := ⟨rl[i], List.getElem?_eq_getElem hi⟩
      have hst : (rl.take (i + 1)).foldl nstep ns = nstep ((rl.take i).foldl nstep ns) r := by rw [List.take_add_one, hri]; simp
      have hr := hrn r (List.mem_of_getElem? hri)
      -- one round
      have round : ∀ (rv : List V) (b : Blk) (us : List (V × Option V)) (nm pv : Value) (m2 : Array MapEntry × Nat) (id : Nat), rv.length = 18 → b = .smp 1 .string us → nm.oneCell' = true → (∃ s, nm = .string s) →
          (∀ φ : Ren, φ.s 4 = id → φ.q 8 = nm → φ.q 10 = pv → VRs φ rv (recCells r)) → (∀ φ : Ren, φ.q 8 = nm → ∀ m3, MU φ .string m' us m3 → m3 = m2) →
          runsL (withF E0 (nam_FRc rv [] [8])) 100 (nam_rb.take 100) (frOf 44 nam_Lb) (hOf 2 (nam_Hb nm0)) .n nam_Td 44 nam_Lb 2 (nam_Hb b) = true → (mAll (nam_Tc [(1, .fold 0)]) (frOf 44 nam_Lb) (hOf 2 (nam_Hb b)) 44 nam_Lb 2 (nam_Hb nm0)).isSome = true → KM m2 (nstep ((rl.take i).foldl nstep ns) r) →
          wpCs none n E0.P (fun e a' w'' => e = .normal ∧ Inv (i + 1) a' w'') nam_rb a w' := by
        intro rv b us nm pv m2 id hlen hb hnm1 hnm2 hrv hmu hrun hconv hM2
        obtain ⟨φ1, hs1, p1, p2, p3, p4⟩ := hs.resym nam_Sb (y := mkY [i, rl.length, 0, 0, id, 0, 0, 0, 0, (i + 1 : Nat)] [.bool false, .bool false, .bool false, .bool false, .bool false, .bool false, .bool false, .bool false, nm, .bool false, pv] [[], [], [], recRow rl] [(#[], 0), m']) ⟨⟨(congrFun n1 0).symm, (congrFun n1 1).symm, trivial⟩, trivial, ⟨(congrFun n3 3).symm, trivial⟩, ⟨(congrFun n4 1).symm, trivial⟩⟩
        have t0 : φ1.y.s 0 = i := congrFun p1 0
        have t1 : φ1.y.s 1 = rl.length := congrFun p1 1
        have t9 : φ1.y.s 9 = ((i + 1 : Nat) : Int) := congrFun p1 9
        refine StAt.runL (withF_ok E0_ok _) rfl 100 (cs := nam_rb) hrun hs1 (FactsOK.bd' ?_) hd (mkY [(i + 1 : Nat), rl.length] [.bool false, .bool false, .bool false, .bool false, .bool false, .bool false, .bool false, .bool false, nm] [[], [], [], recRow rl] [(#[], 0), m']) ?_ fun φ' a' w'' hs' hd' hg' _ e1 e2 e3 e4 => ⟨rfl, ?_⟩
        · refine ⟨trivial, ⟨?_, ?_, trivial⟩, trivial, trivial, ⟨⟨(by show 0 < 18; decide), hlen, i, t0, ?_, ?_⟩, trivial⟩, ⟨?_, trivial⟩, trivial, trivial, trivial⟩
          · exact .lss (k := .i64) (x := i) (y := rl.length) (by simp only [ival, t0]) (by simp only [ival, t1]) (by simp; omega)
          · exact .add (k := .i64) (x := i) (y := 1) (by simp only [ival, t0]) rfl (by simp only [ival, t9]; rfl) (i64_in (by omega))
          · show (i + 1) * 18 ≤ (φ1.w 3).length
            rw [show φ1.w 3 = recRow rl from congrFun p3 3, recRow_len]; omega
          · show VRs φ1 rv (((φ1.w 3).drop (i * 18)).take 18)
            rw [show φ1.w 3 = recRow rl from congrFun p3 3, recRow_at hri]
            exact hrv φ1 (congrFun p1 4) (congrFun p2 8) (congrFun p2 10)
          · obtain ⟨s, hs⟩ := hnm2
            exact ⟨s, (congrFun p2 8).trans hs⟩
        · exact Ag.agreeS (o := mkY [i, rl.length, 0, 0, id, 0, 0, 0, 0, (i + 1 : Nat)] [.bool false, .bool false, .bool false, .bool false, .bool false, .bool false, .bool false, .bool false, nm, .bool false, pv] [[], [], [], recRow rl] [(#[], 0), m']) ⟨⟨rfl, rfl, trivial⟩, ⟨⟨rfl, hnm1⟩, trivial⟩, ⟨rfl, trivial⟩, ⟨rfl, trivial⟩⟩ p1 p2 p3 p4
        · have hag : Agree (nam_Tc [(1, .fold 0)]) φ' (hOf 2 (nam_Hb b)) w'' (Y (i + 1) m2) := by
            refine mkAgree ⟨(congrFun e1 0).symm, (congrFun e1 1).symm, trivial⟩ trivial ⟨(congrFun e3 3).symm, trivial⟩ ⟨?_, trivial⟩
            intro r0 es c hr0 hes
            obtain ⟨es', c', g7, mu, _⟩ := hs'.hr.smpL hr0 (x := 1) (d := .string) (us := us) (by show lkB (nam_Hb b) 0 = _; rw [hb]; rfl)
            rw [hes] at g7; cases g7
            rw [show φ'.g 1 = m' from congrFun e4 1] at mu
            exact (hmu φ' (congrFun e2 8) _ mu).symm
          obtain ⟨φ2, hs2, j1, j2, j3, j4⟩ := hs'.conv hconv _ hag
          exact ⟨φ2, m2, hs2, hd', hg.trans hg', ⟨j1, j2, j3, j4⟩, by rw [hst]; exact hM2⟩
      obtain ⟨r, v⟩ := r
      cases r with
      | put o => exact round nam_vP nm0 [] (.string ByteArray.empty) v m' o.id rfl rfl rfl ⟨_, rfl⟩ (fun φ h4 _ h10 => vrec vI (by simp only [VR, h4]) (by simp only [VR]; exact ⟨h10.symm, hr⟩) vI (vS (by simp))) (fun φ _ m3 mu => mu) nam_bP nam_c0 M'
      | root nm id => exact round nam_vR nm0 [] (.string nm) (.bool false) m' id rfl rfl rfl ⟨_, rfl⟩ (fun φ h4 h8 _ => vrec vI vI vN (by simp only [VR, h4]) (by simp only [VR]; exact ⟨h8.symm, rfl⟩)) (fun φ _ m3 mu => mu) nam_bR nam_c0 M'
      | snap nm id =>
        have hid : id ≤ 1 := hr
        by_cases h1 : id = 1
        · subst h1
          refine round nam_vS nmS _ (.string nm) (.bool false) (mset .string m' (.string nm) (.bool true)) 0 rfl rfl rfl ⟨_, rfl⟩ (fun φ _ h8 _ => vrec vI vI vN vI (by simp only [VR]; exact ⟨h8.symm, rfl⟩)) (fun φ h8 m3 mu => ?_) nam_bS nam_cS ?_
          · simp only [MU, VR] at mu
            obtain ⟨_, _, ⟨rfl, _⟩, rfl, _, rfl⟩ := mu
            rw [h8]
          · have : nstep ((rl.take i).foldl nstep ns) (.snap nm 1, v) = addN ((rl.take i).foldl nstep ns) nm := rfl
            rw [this]; exact M'.set nm _
        · have h0 : id = 0 := by omega
          subst h0
          refine round nam_vD nmD _ (.string nm) (.bool false) (mdel .string m' (.string nm)) 0 rfl rfl rfl ⟨_, rfl⟩ (fun φ _ h8 _ => vrec vI vI vN vI (by simp only [VR]; exact ⟨h8.symm, rfl⟩)) (fun φ h8 m3 mu => ?_) nam_bD nam_cD ?_
          · simp only [MU, VR] at mu
            obtain ⟨_, ⟨rfl, _⟩, _, rfl⟩ := mu
            rw [h8]
          · have : nstep ((rl.take i).foldl nstep ns) (.snap nm 0, v) = delN ((rl.take i).foldl nstep ns) nm := rfl
            rw [this]; exact M'.del nm
    · rintro a w' ⟨φ, m', hs, hd, hg, ⟨n1, n2, n3, n4⟩, M'⟩
      rw [List.take_length] at M'
      show wpCs none n E0.P _ nam_rb a w'
      refine StAt.runL (withF_ok E0_ok nam_FX) rfl 100 (cs := nam_rb) nam_Xb hs (FactsOK.bd' ?_) hd (mkY [] [] [] [(#[], 0), m']) (Ag.agreeS (o := Y rl.length m') ⟨trivial, trivial, trivial, ⟨rfl, trivial⟩⟩ n1 n2 n3 n4) fun φ a4 w4 hs4 hd4 hg4 _ p1 p2 p3 p4 => ⟨rfl, ?_⟩
      · have t0 : φ.y.s 0 = rl.length := congrFun n1 0
        have t1 : φ.y.s 1 = rl.length := congrFun n1 1
        exact ⟨trivial, ⟨.lss (k := .i64) (x := rl.length) (y := rl.length) (by simp only [ival, t0]) (by simp only [ival, t1]) (by simp), trivial⟩, trivial, trivial, trivial, trivial, trivial, trivial, trivial⟩
      obtain ⟨φ, hs4, n1, n2, n3, n4⟩ := hs4.resym (tb := { g := [(1, .same 1)] }) (by decide +kernel) (y := mkY [0, 0, 0, 0, 0, 0, 0, (rl.foldl nstep ns).length] [] [] [(#[], 0), m']) ⟨trivial, trivial, trivial, ⟨(congrFun p4 1).symm, trivial⟩⟩
      refine StAt.runL (withF_ok E0_ok nam_FL) rfl 10 (cs := c18.drop 6) nam_Z hs4 (FactsOK.bd' ?_) hd4 (mkY [0, 0, 0, 0, 0, 0, 0, (rl.foldl nstep ns).length] [] [] []) (Ag.agreeS (o := mkY [0, 0, 0, 0, 0, 0, 0, (rl.foldl nstep ns).length] [] [] [(#[], 0), m']) ⟨⟨rfl, trivial⟩, trivial, trivial, trivial⟩ n1 n2 n3 n4) fun φ a5 w5 hs5 hd5 hg5 _ m1 m2 m3 m4 => ⟨.inl rfl, hd5, fin (L := []) hs5 hd5 ((hg.trans hg4).trans hg5) (congrFun m1 7)⟩
      refine ⟨trivial, trivial, trivial, trivial, trivial, trivial, trivial, ⟨?_, trivial⟩, trivial⟩
      show some (IntKind.i64, φ.y.s 7) = some (IntKind.i64, (((φ.g 1).1.size : Nat) : Int))
      rw [show φ.g 1 = m' from congrFun n4 1, M'.size, show φ.y.s 7 = (rl.foldl nstep ns).length from congrFun n1 7]

theorem names_ok {n : Nat} {w : World} {sv recv : Value} {sl : List (ByteArray × Nat)} {rl : List (R × Value)} (hsn : IsSnaps w sv sl) (hrec : IsRecs w recv rl) (hrn : ∀ r ∈ rl, RN' r) (hsl : sl.length ≤ 100000) (hl : rl.length ≤ 100000) :
    CallsIn (W none) n Tryz.prog 18 #[sv, recv] w fun e w' => ∃ u, e = .returned u ∧ u = .int .i64 (namesOf sl rl).length ∧ Grown w w' := by
  have o1 := hrec.one
  refine callIn (fn := Tryz.f18) (c := (Tryz.f18.body).getD .skip) (args := [sv, recv]) Tryz.func18 rfl (wpIn_flat _ ?_)
  show wpCs none n E0.P _ c18 _ _
  rcases hsn with ⟨rfl, rfl⟩ | hrow
  · let y0 : Sym := mkY [] [.bool false, recv] [] []
    have hst := StAt.enter (nt := 44) (φ0_hr y0 w) rfl rfl (vs := [nl, .q 1]) (args := [nilS, recv]) (VRs.cons vN (VRs.cons (by simp only [VR]; exact ⟨rfl, o1⟩) VRs.nil)) (by decide)
    refine StAt.runL (withF_ok E0_ok {}) rfl 4 nam_N hst noFacts.bd' rfl y0 (Ag.agreeS (o := y0) ⟨trivial, ⟨⟨rfl, o1⟩, trivial⟩, trivial, trivial⟩ rfl rfl rfl rfl) fun φ a w1 hs hd hg _ n1 n2 n3 n4 => ?_
    show wpCs none n E0.P _ (c18.drop 4) a w1
    obtain ⟨φ, hs, m1, m2, m3, m4⟩ := hs.conv nam_Ns (mkY [] [.bool false, recv] [] [(#[], 0), (#[], 0)]) (by
      refine mkAgree trivial ⟨?_, trivial⟩ trivial ⟨?_, trivial⟩
      · simp only [VR]; exact ⟨(congrFun n2 1).symm, o1⟩
      · intro r es c hr hes
        obtain ⟨o, g1, g2⟩ := hs.hr.blk 0 r hr (by rw [hOf_get]; trivial)
        rw [hOf_get] at g2
        rw [hes] at g1; cases g1
        obtain ⟨el, g3, g4⟩ := g2
        cases g3
        simp only [ERs] at g4
        rw [Array.toList_inj.1 (g4.trans rfl : es.toList = (#[] : Array MapEntry).toList)]
        rfl)
    exact names_b hrec hrn hl KM.nil hs hd hg (congrFun m2 1) (congrFun m4 1)
  · let y0 : Sym := mkY [0, sl.length] [.bool false, recv] [rRow sl] []
    obtain ⟨φ1, h1, e1, le1, v1⟩ := hrow.add (φ0_hr y0 w) rfl 0 rfl
    have hst := StAt.enter (nt := 44) h1 rfl (by rw [e1]; rfl) (vs := [.sr 0 0 0 2, .q 1]) (args := [sv, recv]) (VRs.cons v1 (VRs.cons (by simp only [VR, Ren.q, e1]; exact ⟨rfl, o1⟩) VRs.nil)) (by decide)
    refine StAt.runL (withF_ok E0_ok nam_FR) rfl 3 nam_R hst (FactsOK.bd' ?_) rfl y0 ?_ fun φ a w1 hs hd hg _ n1 n2 n3 n4 => ?_
    · have t1 : φ1.y.s 1 = sl.length := by rw [e1]; rfl
      refine ⟨⟨⟨?_, ?_⟩, trivial⟩, trivial, trivial, ⟨⟨sl.length, by decide, ?_, t1⟩, trivial⟩, trivial, trivial, trivial, trivial, trivial⟩
      · show (0 : Int) ≤ φ1.y.s 1; rw [t1]; omega
      · show φ1.y.s 1 ≤ (100000 : Int); rw [t1]; omega
      · show sl.length * 2 = (φ1.y.w 0).length
        rw [e1]; exact (rRow_len sl).symm
    · refine Ag.agreeS (o := y0) ⟨⟨rfl, rfl, trivial⟩, ⟨⟨rfl, o1⟩, trivial⟩, ⟨rfl, trivial⟩, trivial⟩ ?_ ?_ ?_ ?_ <;> rw [e1] <;> rfl
    show wpCs none n E0.P _ (c18.drop 3) a w1
    let Y : Nat → Array MapEntry × Nat → Sym := fun i m => mkY [i, sl.length] [.bool false, recv] [rRow sl] [(#[], 0), m]
    obtain ⟨φ, hs, m1, m2, m3, m4⟩ := hs.conv nam_Rs (Y 0 (#[], 0)) (by
      refine mkAgree ⟨(congrFun n1 0).symm, (congrFun n1 1).symm, trivial⟩ ⟨?_, trivial⟩ ⟨(congrFun n3 0).symm, trivial⟩ ⟨?_, trivial⟩
      · simp only [VR]; exact ⟨(congrFun n2 1).symm, o1⟩
      · intro r es c hr hes
        obtain ⟨o, g1, g2⟩ := hs.hr.blk 0 r hr (by rw [hOf_get]; trivial)
        rw [hOf_get] at g2
        rw [hes] at g1; cases g1
        obtain ⟨el, g3, g4⟩ := g2
        cases g3
        simp only [ERs] at g4
        rw [Array.toList_inj.1 (g4.trans rfl : es.toList = (#[] : Array MapEntry).toList)]
        rfl)
    let Inv : Nat → Act → World → Prop := fun i a w' => ∃ φ m', StAt φ w.heap.size (frOf 44 nam_La) (hOf 2 (nam_Ha nm0)) a w' ∧ a.defers = [] ∧ GB w.heap.size w w' ∧ Named φ (Y i m') ∧ KM m' (((sl.take i).map (·.1)).foldl addN [])
    refine for_loop (id := 0) (b := (match c18.drop 3 with | .block _ (.loop b) :: _ => b | _ => .skip)) (rest := c18.drop 4) sl.length Inv ?_ ?_ ⟨φ, _, hs, hd, hg, ⟨m1, m2, m3, m4⟩, KM.nil⟩
    · rintro i a w' hi ⟨φ, m', hs, hd, hg, ⟨n1, n2, n3, n4⟩, M'⟩
      show wpCs none n E0.P _ nam_ra a w'
      obtain ⟨p, hp⟩ : ∃ p, sl[i]? = some p := ⟨sl[i], List.getElem?_eq_getElem hi⟩
      obtain ⟨φ1, hs1, p1, p2, p3, p4⟩ := hs.resym nam_Sa (y := mkY [i, sl.length, 0, 0, 0, 0, p.2, 0, 0, (i + 1 : Nat)] [.bool false, recv, .bool false, .bool false, .bool false, .bool false, .bool false, .bool false, .string p.1] [rRow sl] [(#[], 0), m']) ⟨⟨(congrFun n1 0).symm, (congrFun n1 1).symm, trivial⟩, ⟨⟨(congrFun n2 1).symm, o1⟩, trivial⟩, ⟨(congrFun n3 0).symm, trivial⟩, ⟨(congrFun n4 1).symm, trivial⟩⟩
      have t0 : φ1.y.s 0 = i := congrFun p1 0
      have t1 : φ1.y.s 1 = sl.length := congrFun p1 1
      have t6 : φ1.y.s 6 = p.2 := congrFun p1 6
      have t9 : φ1.y.s 9 = ((i + 1 : Nat) : Int) := congrFun p1 9
      refine StAt.runL (withF_ok E0_ok _) rfl 100 (cs := nam_ra) nam_A hs1 (FactsOK.bd' ?_) hd (mkY [(i + 1 : Nat), sl.length] [.bool false, recv, .bool false, .bool false, .bool false, .bool false, .bool false, .bool false, .string p.1] [rRow sl] [(#[], 0), m']) ?_ fun φ' a' w'' hs' hd' hg' _ e1 e2 e3 e4 => ⟨rfl, ?_⟩
      · refine ⟨trivial, ⟨?_, ?_, trivial⟩, trivial, trivial, ⟨⟨by decide, rfl, i, t0, ?_, ?_⟩, trivial⟩, ⟨⟨p.1, congrFun p2 8⟩, trivial⟩, trivial, trivial, trivial⟩
        · exact .lss (k := .i64) (x := i) (y := sl.length) (by simp only [ival, t0]) (by simp only [ival, t1]) (by simp; omega)
        · exact .add (k := .i64) (x := i) (y := 1) (by simp only [ival, t0]) rfl (by simp only [ival, t9]; rfl) (i64_in (by omega))
        · show (i + 1) * 2 ≤ (φ1.w 0).length
          rw [show φ1.w 0 = rRow sl from congrFun p3 0, rRow_len]; omega
        · show VRs φ1 [.q 8, .y .i64 6] (((φ1.w 0).drop (i * 2)).take 2)
          rw [show φ1.w 0 = rRow sl from congrFun p3 0, rRow_at hp]
          refine VRs.cons ?_ (VRs.cons ?_ VRs.nil)
          · simp only [VR]; exact ⟨(congrFun p2 8).symm, rfl⟩
          · simp only [VR, Ren.s, t6]
      · exact Ag.agreeS (o := mkY [i, sl.length, 0, 0, 0, 0, p.2, 0, 0, (i + 1 : Nat)] [.bool false, recv, .bool false, .bool false, .bool false, .bool false, .bool false, .bool false, .string p.1] [rRow sl] [(#[], 0), m']) ⟨⟨rfl, rfl, trivial⟩, ⟨⟨rfl, o1⟩, ⟨rfl, rfl⟩, trivial⟩, ⟨rfl, trivial⟩, ⟨rfl, trivial⟩⟩ p1 p2 p3 p4
      · have hag : Agree (nam_Ta [(1, .fold 0)]) φ' (hOf 2 (nam_Ha nmS)) w'' (Y (i + 1) (mset .string m' (.string p.1) (.bool true))) := by
          refine mkAgree ⟨(congrFun e1 0).symm, (congrFun e1 1).symm, trivial⟩ ⟨?_, trivial⟩ ⟨(congrFun e3 0).symm, trivial⟩ ⟨?_, trivial⟩
          · simp only [VR]; exact ⟨(congrFun e2 1).symm, o1⟩
          · intro r0 es c hr0 hes
            obtain ⟨es', c', g7, mu, _⟩ := hs'.hr.smpL hr0 (x := 1) (d := .string) (us := [(.q 8, some (.b true))]) rfl
            rw [hes] at g7; cases g7
            rw [show φ'.g 1 = m' from congrFun e4 1] at mu
            simp only [MU, VR] at mu
            obtain ⟨_, _, ⟨rfl, _⟩, rfl, _, mu⟩ := mu
            rw [mu, show φ'.q 8 = .string p.1 from congrFun e2 8]
            rfl
        obtain ⟨φ2, hs2, j1, j2, j3, j4⟩ := hs'.conv nam_Ac _ hag
        refine ⟨φ2, _, hs2, hd', hg.trans hg', ⟨j1, j2, j3, j4⟩, ?_⟩
        rw [List.take_add_one, hp]
        simp only [Option.toList_some, List.map_append, List.map_cons, List.map_nil, List.foldl_append, List.foldl_cons, List.foldl_nil]
        exact M'.set p.1 _
    · rintro a w' ⟨φ, m', hs, hd, hg, ⟨n1, n2, n3, n4⟩, M'⟩
      rw [List.take_length] at M'
      show wpCs none n E0.P _ nam_ra a w'
      refine StAt.runL (withF_ok E0_ok nam_FX) rfl 100 (cs := nam_ra) nam_X hs (FactsOK.bd' ?_) hd (mkY [] [.bool false, recv] [] [(#[], 0), m']) (Ag.agreeS (o := Y sl.length m') ⟨trivial, ⟨⟨rfl, o1⟩, trivial⟩, trivial, ⟨rfl, trivial⟩⟩ n1 n2 n3 n4) fun φ a4 w4 hs4 hd4 hg4 _ p1 p2 p3 p4 => ⟨rfl, ?_⟩
      · have t0 : φ.y.s 0 = sl.length := congrFun n1 0
        have t1 : φ.y.s 1 = sl.length := congrFun n1 1
        exact ⟨trivial, ⟨.lss (k := .i64) (x := sl.length) (y := sl.length) (by simp only [ival, t0]) (by simp only [ival, t1]) (by simp), trivial⟩, trivial, trivial, trivial, trivial, trivial, trivial, trivial⟩
      exact names_b hrec hrn hl M' hs4 hd4 (hg.trans hg4) (congrFun p2 1) (congrFun p4 1)

end Go.Ev

/- Chains, part Be: 'limit.Check', its runs. -/
namespace Go.Ev
open Go.Proofs

noncomputable def c9 : List Code := flatL ((Tryz.f9.body).getD .skip)
def wA : V := .a [.q 0, .q 1, .q 2, .y .i64 3]
def wB : V := .a [.q 7, .q 8, .q 9, .y .i64 4]
def lim_args : List V := [wA, .q 5, .q 6]
def lim_L : List (Nat × V) := [(1, .q 5), (2, .q 6)]
def lim_LA : List (Nat × V) := (3, .p (some (0, 0))) :: lim_L
def lim_T : Tab := { s := [(3, .y 3)], q := [(0, .q 0), (1, .q 1), (2, .q 2), (5, .q 5), (6, .q 6)] }
theorem lim_A : runsL (withF E0 app_F) 100 (c9.take 4) ⟨48, load lim_args 0 .leaf⟩ (hOf 0 []) .n lim_T 48 lim_LA 1 [(0, Rea_B)] = true := by decide +kernel
theorem lim_r4 : ∃ id, c9.drop 4 = .region id (opsD (c9.drop 4)) false :: c9.drop 5 := ⟨_, rfl⟩
def lim_LB : List (Nat × V) := (18, wA) :: (19, .q 6) :: lim_L
theorem lim_B : runsO (withF E0 {}) 100 (opsD (c9.drop 4)) ((opsD (c9.drop 4)).toList.take 2) (frOf 48 lim_LA) (hOf 1 [(0, Rea_B)]) lim_T 48 lim_LB 0 [] = true := by decide +kernel
def lim_T2 : Tab := { q := [(5, .q 5), (6, .q 6)] }
theorem lim_C : (mAll lim_T2 (frOf 48 lim_LB) (hOf 0 []) 48 lim_L 0 []).isSome = true := by decide +kernel
theorem lim_S : selfOK lim_T2 48 lim_L 0 [] = true := by decide +kernel
def lim_LD : List (Nat × V) := (20, .t [wB, .y .i64 5, .i .i64 0]) :: lim_L
def lim_W : Blk := .cells [.q 7, .q 8, .q 9, .y .i64 4] 30 false
def lim_LE : List (Nat × V) := (8, .p (some (0, 0))) :: (10, .i .i64 0) :: lim_L
def lim_T3 : Tab := { s := [(4, .y 4)], q := [(5, .q 5), (6, .q 6), (7, .q 7), (8, .q 8), (9, .q 9)] }
theorem lim_D : runsO (withF E0 {}) 100 (opsD (c9.drop 4)) (((opsD (c9.drop 4)).toList.drop 3).take 100) (frOf 48 lim_LD) (hOf 0 []) lim_T3 48 lim_LE 1 [(0, lim_W)] = true := by decide +kernel
def lim_LF : List (Nat × V) := (8, .p (some (0, 0))) :: lim_L
theorem lim_E : runsL (withF E0 {}) 100 ((c9.drop 5).take 2) (frOf 48 lim_LE) (hOf 1 [(0, lim_W)]) .n lim_T3 48 lim_LF 1 [(0, lim_W)] = true := by decide +kernel
theorem lim_r7 : ∃ id, c9.drop 7 = .region id (opsD (c9.drop 7)) false :: c9.drop 8 := ⟨_, rfl⟩
def lim_LG : List (Nat × V) := (28, wB) :: lim_LF
theorem lim_F : runsO (withF E0 {}) 100 (opsD (c9.drop 7)) ((opsD (c9.drop 7)).toList.take 1) (frOf 48 lim_LF) (hOf 1 [(0, lim_W)]) lim_T3 48 lim_LG 1 [(0, lim_W)] = true := by decide +kernel
theorem lim_SG : selfOK lim_T3 48 lim_LG 1 [(0, lim_W)] = true := by decide +kernel
def lim_LH : List (Nat × V) := (29, .t [.q 10, .i .i64 0]) :: lim_LG
def lim_LI : List (Nat × V) := (11, .q 10) :: (10, .i .i64 0) :: lim_LF
def lim_T4 : Tab := { s := [(4, .y 4)], q := [(5, .q 5), (6, .q 6), (7, .q 7), (8, .q 8), (9, .q 9), (10, .q 10)] }
theorem lim_G : runsO (withF E0 {}) 100 (opsD (c9.drop 7)) (((opsD (c9.drop 7)).toList.drop 2).take 100) (frOf 48 lim_LH) (hOf 1 [(0, lim_W)]) lim_T4 48 lim_LI 1 [(0, lim_W)] = true := by decide +kernel
def lim_LJ : List (Nat × V) := (11, .q 10) :: lim_LF
theorem lim_H : runsL (withF E0 {}) 100 ((c9.drop 8).take 2) (frOf 48 lim_LI) (hOf 1 [(0, lim_W)]) .n lim_T4 48 lim_LJ 1 [(0, lim_W)] = true := by decide +kernel
theorem lim_SJ : selfOK lim_T4 48 lim_LJ 1 [(0, lim_W)] = true := by decide +kernel
/-- The rows are looked into. -/
def lim_LK : List (Nat × V) := subL 10 (.sr 2 0 0 1) (subL 9 (.sr 1 1 0 2) lim_LJ)
def lim_HK : List (Nat × Blk) := (2, .rw 0 3) :: subH 10 (.sr 2 0 0 1) ((1, .rw 1 72) :: subH 9 (.sr 1 1 0 2) [(0, lim_W)])
def lim_FK (bn : List (BinOp × V × V × V)) : Facts := { bin := bn, rz := [(0, 1), (1, 2)], rl := [(0, 0, 11), (1, 0, 12)], qc := [(18, [.q 5, .q 6], .y .i64 13)] }
def gO (b : Bool) : BinOp × V × V × V := (.gtr, .y .i64 11, .i .i64 200, .b b)
def gR (b : Bool) : BinOp × V × V × V := (.gtr, .y .i64 12, .i .i64 20, .b b)
def gN (b : Bool) : BinOp × V × V × V := (.gtr, .y .i64 13, .i .i64 8, .b b)
theorem lim_KO : runsL (withF E0 (lim_FK [gO true])) 200 ((c9.drop 10).take 2) (frOf 48 lim_LK) (hOf 3 lim_HK) .r {} 48 [(6, .i .i64 250)] 0 [] = true := by decide +kernel
theorem lim_KR : runsL (withF E0 (lim_FK [gO false, gR true])) 200 ((c9.drop 10).take 2) (frOf 48 lim_LK) (hOf 3 lim_HK) .r {} 48 [(6, .i .i64 251)] 0 [] = true := by decide +kernel
theorem lim_KN : runsL (withF E0 (lim_FK [gO false, gR false, gN true])) 200 ((c9.drop 10).take 2) (frOf 48 lim_LK) (hOf 3 lim_HK) .r {} 48 [(6, .i .i64 252)] 0 [] = true := by decide +kernel
theorem lim_K0 : runsL (withF E0 (lim_FK [gO false, gR false, gN false])) 200 ((c9.drop 10).take 2) (frOf 48 lim_LK) (hOf 3 lim_HK) .r {} 48 [(6, .i .i64 0)] 0 [] = true := by decide +kernel

end Go.Ev
