/- The abstract machine, part Sy: slices.SortFunc of elements that lie in some order. -/
import Derived.Test.YtlbagpdnlldjnaaGreatDoorA07
import Derived.Maps.RangeRun
set_option linter.all false
namespace Go.Ev
noncomputable section
theorem VRL.at {φ : Ren} : ∀ {cs : List (List V)} {us : List (List Value)}, VRL φ cs us → us.length = cs.length ∧ ∀ (i : Nat) (c : List V) (u : List Value), cs[i]? = some c → us[i]? = some u → VRs φ c u
 | [], us, h => by simp only [VRL] at h; subst h; exact ⟨rfl, fun i c u h => by simp at h⟩
 | x :: l, us, h => by
  simp only [VRL] at h
  obtain ⟨y, ys, rfl, h1, h2⟩ := h
  obtain ⟨g1, g2⟩ := h2.at
  refine ⟨by simp [g1], fun i c u e1 e2 => ?_⟩
  cases i with
  | zero =>
   simp only [List.getElem?_cons_zero, Option.some.injEq] at e1 e2
   subst e1; subst e2; exact h1
  | succ i => exact g2 i c u (by simpa using e1) (by simpa using e2)
theorem noN_ok {φ φ' : Ren} {x : V} {v : Value} (h : noN x = true) (hv : VR φ x v) : VR φ' x v := by
 cases x <;> first | (cases h; done) | skip
 ·simpa [VR] using hv
 ·simpa [VR] using hv
 ·simpa [VR] using hv
 ·rename_i a
  cases a with
  | none => simpa [VR] using hv
  | some bo => cases h
 ·rename_i a
  cases a with
  | none => simpa [VR] using hv
  | some bo => cases h
 ·simpa [VR] using hv
 ·simpa [VR] using hv
theorem opV_ok {φ φ' : Ren} {x : V} {v : Value} (h : VR φ x v) (h1 : v.oneCell' = true) : VR φ' (opV x) v := by
 unfold opV
 cases hc : noN x with
 | true => exact noN_ok hc h
 | false => simp only [cond_false, VR]; exact h1
theorem opVs_ok {φ φ' : Ren} : ∀ {x : List V} {v : List Value}, VRs φ x v → (∀ u ∈ v, u.oneCell' = true) → VRs φ' (x.map opV) v
 | [], _, h, _ => by simp only [VRs] at h; subst h; simp [VRs]
 | x :: xs, _, h, h1 => by
  simp only [VRs] at h
  obtain ⟨y, ys, rfl, h2, h3⟩ := h
  exact VRs.cons (opV_ok h2 (h1 y List.mem_cons_self)) (opVs_ok h3 fun u hu => h1 u (List.mem_cons_of_mem _ hu))
theorem lensOK_ok {sz : Nat} : ∀ {cs : List (List V)}, lensOK sz cs = true → ∀ c ∈ cs, c.length = sz
 | [], _, c, h => by cases h
 | x :: l, e, c, h => by
  simp only [lensOK, Bool.and_eq_true] at e
  rcases List.mem_cons.1 h with rfl | h
  ·exact Nat.eq_of_beq_eq_true e.1
  ·exact lensOK_ok e.2 c h
theorem pickL_ok {φ : Ren} {cs : List (List V)} {us : List (List Value)} (h : VRL φ cs us) : ∀ (l : List (Fin us.length)), VRs φ (pickL cs (l.map (·.1))) (l.flatMap fun x => us[x.1])
 | [] => by simp [pickL, VRs]
 | x :: l => by
  simp only [List.map_cons, pickL, List.flatMap_cons]
  obtain ⟨g1, g2⟩ := h.at
  have hx : x.1 < cs.length := by rw [← g1]; exact x.2
  refine VRs.append ?_ (pickL_ok h l)
  rw [List.getD_eq_getElem?_getD, List.getElem?_eq_getElem hx]
  exact g2 x.1 _ _ (List.getElem?_eq_getElem hx) (List.getElem?_eq_getElem x.2)
theorem sortRun_ok {E : Env} (hE : E.OK) : CallOK E (sortRun E) := by
 intro f args h v h' hs φ args' w n0 hg hbd hargs hr
 unfold sortRun at hs
 split at hs
 rotate_left
 ·cases hs
 rename_i b n sz g
 split at hs
 rotate_left
 ·cases hs
 rename_i k cs e hsf hb
 obtain ⟨hpl, hsf⟩ := cond_some hsf
 split at hs
 rotate_left
 ·cases hs
 rename_i t ht
 simp only at hs
 generalize hrs : ranks t n = rs at hs
 generalize hord : ordOf rs n = ord at hs
 obtain ⟨hc, hs⟩ := cond_some hs
 simp only [Option.some.injEq, Prod.mk.injEq] at hs
 obtain ⟨rfl, rfl⟩ := hs
 simp only [Bool.and_eq_true] at hc
 obtain ⟨⟨⟨⟨⟨⟨c1, c2⟩, c3⟩, c7⟩, c4⟩, c5⟩, c6⟩ := hc
 have hk := Nat.eq_of_beq_eq_true c1
 subst hk
 have hn := Nat.eq_of_beq_eq_true c2
 subst hn
 have hpos := blt_iff.1 c3
 obtain ⟨hlaw, hfn⟩ := hE.sf f k hsf
 refine ⟨hfn, ?_⟩
 simp only [VRs] at hargs
 obtain ⟨v1, _, rfl, hv1, v2, _, rfl, hv2, rfl⟩ := hargs
 simp only [VR] at hv1
 obtain ⟨r, cap, hφb, hcap1, hcap2, rfl⟩ := hv1
 have hv2' : v2 = .func (.func g) #[] #[] := by
  simp only [VR] at hv2
  obtain ⟨f', c', hv, h1, h2⟩ := hv2
  simp only [VRs] at h1 h2
  rw [hv]
  have : f' = #[] := by apply Array.ext'; simpa using h1
  have : c' = #[] := by apply Array.ext'; simpa using h2
  simp_all
 subst hv2'
 obtain ⟨o, ho, hbr⟩ := hr.blk b r hφb (by rw [hb]; trivial)
 rw [hb] at hbr
 obtain ⟨c, us, ps, rfl, b1, b2, b3, b4, b5, b6⟩ := hbr
 obtain ⟨g1, g2⟩ := b1.at
 have hul : us.length = cs.length := g1
 have usl : ∀ u ∈ us, u.length = k := fun u hu => by
  obtain ⟨i, hi⟩ := List.mem_iff_getElem?.1 hu
  have hil : i < cs.length := by rw [← hul]; exact (List.getElem?_eq_some_iff.1 hi).1
  have h1 := List.getElem?_eq_getElem hil
  rw [(g2 i _ u h1 hi).length]
  exact lensOK_ok c4 _ (List.mem_of_getElem? h1)
 have uso : ∀ u ∈ us, ∀ x ∈ u, x.oneCell' = true := fun u hu x hx => b5 x (by
  rw [List.mem_flatten]
  exact ⟨u, b2.mem_iff.2 hu, hx⟩)
 have hpos' : 0 < us.length := by rw [hul]; exact hpos
 haveI : Inhabited (Fin us.length) := ⟨⟨0, hpos'⟩⟩
 have hrl : rs.length = us.length := by rw [← hrs, ranks_len, hul]
 obtain ⟨t1, t2⟩ := tabOK_ok c5
 obtain ⟨t3, t4⟩ := cmpTab_ok ht
 rw [← hul] at c6
 obtain ⟨o1, m, o2, _, o4⟩ := ordOK_ok c6
 have hml : m.length = us.length := by
  have := congrArg List.length o2
  simp at this; omega
 let rk : Fin us.length → Nat := fun x => rs.getD x.1 us.length
 have hmn : m.Nodup := o4.imp fun {a b} h e => by rw [e] at h; exact Nat.lt_irrefl _ h
 have hall : ∀ x : Fin us.length, x ∈ m := fun x => by
  have := sub_perm_of hmn (m := List.finRange us.length) (fun x _ => List.mem_finRange x) (by simp [hml])
  exact this.mem_iff.2 (List.mem_finRange x)
 have hinj : ∀ x y, rk x = rk y → x = y := fun x y he => by
  obtain ⟨i, hi⟩ := List.mem_iff_getElem.1 (hall x)
  obtain ⟨hi, hix⟩ := hi
  obtain ⟨j, hj, hjy⟩ := List.mem_iff_getElem.1 (hall y)
  rcases Nat.lt_trichotomy i j with h1 | h1 | h1
  ·have := (List.pairwise_iff_getElem.1 o4) i j hi hj h1
   rw [hix, hjy] at this
   have he : rs.getD x.1 us.length = rs.getD y.1 us.length := he
   omega
  ·subst h1; rw [← hix, ← hjy]
  ·have := (List.pairwise_iff_getElem.1 o4) j i hj hi h1
   rw [hix, hjy] at this
   have he : rs.getD x.1 us.length = rs.getD y.1 us.length := he
   omega
 let cf : Fin us.length → Fin us.length → Int := fun x y => (t.getD x.1 []).getD y.1 0
 have cell : ∀ x y : Fin us.length, ∃ l z, t[x.1]? = some l ∧ l[y.1]? = some z ∧ cf x y = z ∧ rowOK (rk x) l rs = true := fun x y => by
  have hx : x.1 < t.length := by rw [t3, ← hul]; exact x.2
  have h1 := List.getElem?_eq_getElem hx
  have hxr : x.1 < rs.length := by rw [hrl]; exact x.2
  have h2 := List.getElem?_eq_getElem hxr
  have h3 := t2 x.1 _ _ h1 h2
  obtain ⟨h4, _⟩ := rowOK_ok h3
  have hy : y.1 < (t[x.1]).length := by rw [h4, hrl]; exact y.2
  have h5 := List.getElem?_eq_getElem hy
  refine ⟨_, _, h1, h5, ?_, ?_⟩
  ·show (t.getD x.1 []).getD y.1 0 = _
   rw [List.getD_eq_getElem?_getD, List.getD_eq_getElem?_getD, h1]
   simp only [Option.getD_some, h5]
  ·have : rk x = rs[x.1] := by show rs.getD _ _ = _; rw [List.getD_eq_getElem?_getD, h2]; rfl
   rw [this]; exact h3
 have hcf : ∀ x y, cf x y < 0 ↔ rk x < rk y := fun x y => by
  obtain ⟨l, z, _, h2, h3, h4⟩ := cell x y
  have hyr : y.1 < rs.length := by rw [hrl]; exact y.2
  have h5 := List.getElem?_eq_getElem hyr
  have := (rowOK_ok h4).2 y.1 z _ h2 h5
  rw [h3, this]
  have : rk y = rs[y.1] := by show rs.getD _ _ = _; rw [List.getD_eq_getElem?_getD, h5]; rfl
  rw [this]
 obtain ⟨x0, hx0⟩ : ∃ x : Fin us.length, True := ⟨default, trivial⟩
 have cmpr : ∀ x y : Fin us.length, E.cm g (cs.getD x.1 []) (cs.getD y.1 []) = some (cf x y) := fun x y => by
  obtain ⟨l, z, h1, h2, h3, _⟩ := cell x y
  have hx : x.1 < cs.length := by rw [← hul]; exact x.2
  have hy : y.1 < cs.length := by rw [← hul]; exact y.2
  have e1 := List.getElem?_eq_getElem hx
  have e2 := List.getElem?_eq_getElem hy
  have := t4 x.1 _ _ e1 h1
  have hc := (cmpRow_ok this).2 y.1 _ z e2 h2
  rw [h3]
  rw [List.getD_eq_getElem?_getD, List.getD_eq_getElem?_getD, e1, e2]
  exact hc
 have va : ∀ z : Fin us.length, VRs φ ((cs.getD z.1 []).map opV) us[z.1] := fun z => by
  have hz : z.1 < cs.length := by rw [← hul]; exact z.2
  rw [List.getD_eq_getElem?_getD, List.getElem?_eq_getElem hz]
  exact opVs_ok (φ' := φ) (g2 z.1 _ _ (List.getElem?_eq_getElem hz) (List.getElem?_eq_getElem z.2)) (uso _ (List.getElem_mem z.2))
 have cmp1 : ∀ w1 : World, w.heap.size ≤ w1.heap.size → ∀ x y : Fin us.length, (∃ fn c, E.P.funcs[g]? = some fn ∧ fn.body = some c ∧ (fn.name == "runtime.NumGoroutine") = false) ∧ Calls E.P g #[.agg (us[x.1]).toArray, .agg (us[y.1]).toArray] w1 fun e w' => e = .returned (.int .i64 (cf x y)) ∧ Grown w1 w' := fun w1 _ x y => by
  obtain ⟨q1, q2⟩ := hE.cm _ _ _ _ (cmpr x y)
  exact ⟨q1, q2 φ _ _ (va x) (va y) w1⟩
 let enc : Fin us.length → List Value := fun x => us[x.1]
 have hmap : (List.finRange us.length).map enc = us := by
  apply List.ext_getElem
  ·simp
  ·intro i h1 h2; simp [enc]
 obtain ⟨l, hl1, hl2⟩ := perm_lift (f := enc) (L := List.finRange us.length) (ps := ps) (by rw [hmap]; exact b2)
 have hll : l.length = us.length := by rw [hl1.length_eq]; simp
 have hlm : l.Perm m := hl1.trans (sub_perm_of hmn (m := List.finRange us.length) (fun x _ => List.mem_finRange x) (by simp [hml])).symm
 have hfm : l.flatMap enc = ps.flatten := by rw [List.flatMap_def, hl2]
 have hfl : ∀ l : List (Fin us.length), (l.flatMap enc).length = l.length * k := fun l => by
  induction l with
  | nil => simp
  | cons x l ih => simp only [List.flatMap_cons, List.length_append, ih, List.length_cons, Nat.succ_mul, usl _ (List.getElem_mem x.2), enc]; omega
 have hpl2 : ps.flatten.length = l.length * k := by
  rw [← hfm]
  exact hfl l
 have hlc : l.length = cs.length := hll.trans hul
 have hcall := hlaw enc rk cf (fun x => usl _ (List.getElem_mem x.2)) (fun x => uso _ (List.getElem_mem x.2)) hinj hcf g l m w r cap c e (cmp1 w (Nat.le_refl _) x0 x0).1 hlm o4 (by have := blt_iff.1 c7; omega) ho (by rw [← hpl2]; exact b4) (by rw [← hpl2, hfm]; exact b3) (fun w1 hw1 x y => (cmp1 w1 hw1 x y).2)
 rw [hlc] at hcall
 refine CallsIn.mono (callsIn_wide.2 hcall : CallsIn (Go.Ev.W none) n0 _ _ _ _ _) ?_
 rintro e1 w' ⟨rfl, c', r1, r2, r3, r4, r5, r6, r7, r8, r9⟩
 have hlt := (hr.dom b r hφb).2
 have hpk := pickL_ok b1 m
 rw [o2] at hpk
 have hmlen : (m.flatMap enc).length = cs.length * k := by rw [hfl, hml, hul]
 have hlen : (pickL cs ord).length = cs.length * k := by rw [← hpk.length]; exact hmlen
 have hsz : cs.length * k ≤ c'.size := by rw [r2, ← hlc, ← hpl2]; exact b4
 let w2 : World := { w with heap := w.heap.setIfInBounds r (.cells c' e (0, 0)) }
 have h2r : w2.heap[r]? = some (.cells c' e (0, 0)) := by simp [w2, hlt]
 have h2n : ∀ s, s ≠ r → w2.heap[s]? = w.heap[s]? := fun s hs => by
  show (w.heap.setIfInBounds r _)[s]? = _
  rw [Array.getElem?_setIfInBounds_ne (Ne.symm hs)]
 have h2s : w2.heap.size = w.heap.size := by simp [w2]
 obtain ⟨u1, u2⟩ := hr.turn (w' := w2) (.cells (pickL cs ord) e true) (.cells c' e (0, 0)) hφb (by rw [hb]; trivial) ⟨c', rfl, by rw [hlen, r3]; exact hpk, by rw [hlen]; exact hsz, fun h => (by cases h), by rw [r2]; exact b6⟩ h2s h2r h2n rfl rfl rfl
 have hgr : Grown w2 w' := ⟨by rw [h2s]; exact r4, fun s hs => by
  rw [h2s] at hs
  by_cases hsr : s = r
  ·rw [hsr, r1, h2r]
  ·rw [r5 s hs hsr, h2n s hsr], r6, r7, r8, r9⟩
 obtain ⟨v1, v2⟩ := hgr.ok u1
 exact ⟨φ, .tuple #[], rfl, u2.trans v2, by simp only [VR]; exact ⟨#[], rfl, by simp [VRs]⟩, v1⟩
end
end Go.Ev
namespace Go.Ev
noncomputable section
theorem HR.addAt {φ : Ren} {h : H} {w w' : World} (hr : HR φ h w) (hsz : w.heap.size ≤ w'.heap.size) (hsame : ∀ i, i < w.heap.size → w'.heap[i]? = w.heap[i]?) (h1 : w'.os = w.os) (h2 : w'.tape = w.tape) (h3 : w'.output = w.output) (hd : φ.y.d = true → w.drawn ≤ w'.drawn)
  {g N : Nat} {x : Blk} {o : Obj} (hg : w.heap.size ≤ g) (ho : w'.heap[g]? = some o) (hx : BR (up φ h.n g N) N x o) : HR (up φ h.n g N) (h.new x) w' ∧ Ext φ w (up φ h.n g N) w' := by
 have hle : Le φ (up φ h.n g N) := le_up hr.fresh
 have hgl : g < w'.heap.size := (Array.getElem?_eq_some_iff.1 ho).1
 have hup : ∀ b r, up φ h.n g N b = some r → (b = h.n ∧ r = g) ∨ (b ≠ h.n ∧ φ b = some r) := fun b r e => by
  simp only [up] at e
  by_cases hb : b = h.n
  ·rw [if_pos hb] at e; cases e; exact .inl ⟨hb, rfl⟩
  ·rw [if_neg hb] at e; exact .inr ⟨hb, e⟩
 refine ⟨⟨by simp [up, hr.cnt], fun b r e => ?_, fun b r e hl => ?_, fun b b' r e e' hl hl' => ?_, fun r o' hk => ?_⟩, ⟨hle, Nat.le_succ _, fun b r e => ?_, hd, hsz, h1, h2, h3, fun r hlt _ => hsame r hlt⟩⟩
 ·rcases hup b r e with ⟨rfl, rfl⟩ | ⟨_, e⟩
  ·exact ⟨by simp, hgl⟩
  ·have := hr.dom b r e
   simp only [H.new_n]; omega
 ·rcases hup b r e with ⟨rfl, rfl⟩ | ⟨hb, e⟩
  ·have hN : (up φ h.n r N).n h.n = N := by simp [up]
   refine ⟨o, ho, ?_⟩
   rw [H.get_new, if_pos rfl, hN]; exact hx
  ·rw [H.get_new, if_neg hb] at hl ⊢
   obtain ⟨o', q1, q2⟩ := hr.blk b r e hl
   exact ⟨o', by rw [hsame r (hr.dom b r e).2]; exact q1, by rw [(hle b r e).2]; exact q2.mono hle⟩
 ·rcases hup b r e with ⟨q1, q2⟩ | ⟨hb, f1⟩
  ·rcases hup b' _ e' with ⟨q3, _⟩ | ⟨hb', f2⟩
   ·rw [q1, q3]
   ·have := (hr.dom _ _ f2).2; omega
  ·rcases hup b' r e' with ⟨q3, q4⟩ | ⟨hb', f2⟩
   ·have := (hr.dom _ _ f1).2; omega
   ·rw [H.get_new, if_neg hb] at hl
    rw [H.get_new, if_neg hb'] at hl'
    exact hr.inj b b' r f1 f2 hl hl'
 ·obtain ⟨k1, k2⟩ := hr.kp r o' hk
  have hlt : r < w.heap.size := (Array.getElem?_eq_some_iff.1 k1).1
  refine ⟨by rw [hsame r hlt]; exact k1, fun b e => ?_⟩
  rcases hup b r e with ⟨_, rfl⟩ | ⟨hb, e⟩
  ·omega
  ·rw [H.get_new, if_neg hb]; exact k2 b e
 ·rcases hup b r e with ⟨rfl, rfl⟩ | ⟨_, e⟩
  ·exact .inr ⟨by rw [hr.cnt]; exact Nat.le_refl _, .inl hg⟩
  ·exact .inl e
theorem insK_perm {α : Type} (le : α → α → Bool) (x : α) : ∀ l : List α, (insK le x l).Perm (x :: l)
 | [] => List.Perm.refl _
 | y :: l => by
  simp only [insK]
  cases le x y with
  | true => exact List.Perm.refl _
  | false => exact ((insK_perm le x l).cons y).trans (List.Perm.swap x y l)
theorem srtK_perm {α : Type} (le : α → α → Bool) : ∀ l : List α, (srtK le l).Perm l
 | [] => List.Perm.refl _
 | x :: l => (insK_perm le x _).trans ((srtK_perm le l).cons x)
theorem risK_ok {α : Type} {le : α → α → Bool} : ∀ {l : List α}, risK le l = true → l.Pairwise (fun a b => le a b = true)
 | [], _ => List.Pairwise.nil
 | x :: l, h => by
  simp only [risK, Bool.and_eq_true] at h
  exact List.pairwise_cons.2 ⟨fun y hy => List.all_eq_true.1 h.1 y hy, risK_ok h.2⟩
theorem i64K_ok {n : Int} (h : i64K n = true) : -9223372036854775808 ≤ n ∧ n < 9223372036854775808 := by
 cases n with
 | ofNat m => have := blt_iff.1 h; show -9223372036854775808 ≤ (m : Int) ∧ (m : Int) < _; omega
 | negSucc m => have := blt_iff.1 h; omega
theorem ltL_ok : ∀ {a b : List Nat}, ltL a b = true → (∀ x ∈ a, x < 256) → (∀ x ∈ b, x < 256) → a.map UInt8.ofNat < b.map UInt8.ofNat
 | [], [], h, _, _ => by cases h
 | [], _ :: _, _, _, _ => by simp
 | _ :: _, [], h, _, _ => by cases h
 | x :: xs, y :: ys, h, ha, hb => by
  have hx := ha x List.mem_cons_self
  have hy := hb y List.mem_cons_self
  simp only [ltL] at h
  simp only [List.map_cons]
  rw [List.cons_lt_cons_iff]
  cases h1 : Nat.blt x y with
  | true =>
   left
   have := blt_iff.1 h1
   rw [UInt8.lt_iff_toNat_lt]
   simp [UInt8.toNat_ofNat', Nat.mod_eq_of_lt hx, Nat.mod_eq_of_lt hy, this]
  | false =>
   rw [h1] at h
   cases h2 : Nat.beq x y with
   | false => rw [h2] at h; cases h
   | true =>
    rw [h2] at h
    right
    exact ⟨by rw [Nat.eq_of_beq_eq_true h2], ltL_ok h (fun z hz => ha z (List.mem_cons_of_mem _ hz)) (fun z hz => hb z (List.mem_cons_of_mem _ hz))⟩
theorem ERs.lens {φ : Ren} : ∀ {es : List (V × V × Nat)} {l : List MapEntry}, ERs φ es l → l.length = es.length ∧ l.map (·.born) = es.map (·.2.2)
 | [], l, h => by simp only [ERs] at h; subst h; exact ⟨rfl, rfl⟩
 | (k, v, n) :: xs, l, h => by
  simp only [ERs] at h
  obtain ⟨e, es, rfl, _, _, h3, h4⟩ := h
  obtain ⟨g1, g2⟩ := h4.lens
  exact ⟨by simp [g1], by simp [g2, h3]⟩
theorem bornK_ok {clk : Nat} : ∀ {es : List (V × V × Nat)}, bornK clk es = true → (∀ n ∈ es.map (·.2.2), n < clk) ∧ (es.map (·.2.2)).Pairwise (· ≠ ·)
 | [], _ => ⟨fun n h => (by cases h), List.Pairwise.nil⟩
 | (k, v, n) :: l, h => by
  simp only [bornK, Bool.and_eq_true] at h
  obtain ⟨g1, g2⟩ := bornK_ok h.2
  refine ⟨fun m hm => ?_, ?_⟩
  ·simp only [List.map_cons] at hm
   rcases List.mem_cons.1 hm with rfl | hm
   ·exact blt_iff.1 h.1.1
   ·exact g1 m hm
  ·simp only [List.map_cons]
   refine List.pairwise_cons.2 ⟨fun m hm e => ?_, g2⟩
   obtain ⟨x, hx, rfl⟩ := List.mem_map.1 hm
   have := List.all_eq_true.1 h.1.2 x hx
   rw [← e, Nat.beq_refl] at this; cases this
theorem borns_of {φ : Ren} {es : List (V × V × Nat)} {l : List MapEntry} {clk : Nat} (h : ERs φ es l) (hb : bornK clk es = true) : Borns l clk := by
 obtain ⟨g1, g2⟩ := bornK_ok hb
 rw [← h.lens.2] at g1 g2
 exact ⟨fun x hx => g1 _ (List.mem_map.2 ⟨x, hx, rfl⟩), List.pairwise_map.1 g2⟩
theorem intKs_ok {φ : Ren} : ∀ {es : List (V × V × Nat)} {l : List MapEntry} {ks : List Int}, ERs φ es l → intKs es = some ks → l.map (·.key) = ks.map (.int .i64)
 | [], l, ks, h, e => by
  simp only [ERs] at h; subst h
  simp only [intKs, Option.some.injEq] at e; subst e; rfl
 | (k, v, n) :: xs, l, ks, h, e => by
  simp only [ERs] at h
  obtain ⟨e1, es, rfl, h1, _, _, h4⟩ := h
  cases k <;> first | (simp only [intKs] at e; cases e; done) | skip
  rename_i kk z
  cases kk <;> first | (simp only [intKs] at e; cases e; done) | skip
  simp only [intKs] at e
  split at e
  ·rename_i r hr
   cases e
   simp only [VR] at h1
   simp [h1, intKs_ok h4 hr]
  ·cases e
theorem strKs_ok {φ : Ren} : ∀ {es : List (V × V × Nat)} {l : List MapEntry} {ks : List (List Nat)}, ERs φ es l → strKs es = some ks → l.map (·.key) = ks.map (fun n => .string (bytes n)) ∧ ∀ n ∈ ks, ∀ x ∈ n, x < 256
 | [], l, ks, h, e => by
  simp only [ERs] at h; subst h
  simp only [strKs, Option.some.injEq] at e; subst e; exact ⟨rfl, fun n h => by cases h⟩
 | (k, v, n) :: xs, l, ks, h, e => by
  simp only [ERs] at h
  obtain ⟨e1, es, rfl, h1, _, _, h4⟩ := h
  cases k <;> first | (simp only [strKs] at e; cases e; done) | skip
  rename_i z
  simp only [strKs] at e
  split at e
  ·rename_i r hr
   cases e
   simp only [VR] at h1
   obtain ⟨g1, g2⟩ := strKs_ok h4 hr
   refine ⟨by simp [h1.1, g1], fun m hm => ?_⟩
   rcases List.mem_cons.1 hm with rfl | hm
   ·exact h1.2
   ·exact g2 m hm
  ·cases e
theorem keysOf_ok {φ : Ren} {e : TypeId} {nums : Bool} {es : List (V × V × Nat)} {h : H} {v : V} {h' : H} (hk : keysOf e nums es h = some (v, h')) {l : List MapEntry} (he : ERs φ es l) :
  ∃ (xs : List V) (us : List Value), (v, h') = rowK e xs h ∧ SortedKeys nums (l.map (·.key)) us ∧ xs.length = us.length ∧ ∀ ψ : Ren, VRs ψ xs us := by
 have vi : ∀ (ψ : Ren) (s : List Int), VRs ψ (s.map fun n => .i .i64 n) (s.map (.int .i64)) := fun ψ s => by
  induction s with
  | nil => simp [VRs]
  | cons x s ih => exact VRs.cons (by simp [VR]) ih
 have vs : ∀ (ψ : Ren) (s : List (List Nat)), (∀ n ∈ s, ∀ x ∈ n, x < 256) → VRs ψ (s.map fun n => .s n) (s.map fun n => .string (bytes n)) := fun ψ s hs => by
  induction s with
  | nil => simp [VRs]
  | cons x s ih => exact VRs.cons (by simpa [VR] using hs x List.mem_cons_self) (ih fun n hn => hs n (List.mem_cons_of_mem _ hn))
 unfold keysOf at hk
 split at hk
 ·split at hk
  ·rename_i ks hks
   simp only at hk
   obtain ⟨hc, hk⟩ := cond_some hk
   simp only [Bool.and_eq_true] at hc
   simp only [Option.some.injEq] at hk
   refine ⟨_, _, hk.symm, ⟨ks, srtK iLt ks, intKs_ok he hks, rfl, srtK_perm _ _, (risK_ok hc.2).imp fun h => (iLt_ok _ _).1 h, fun k hk => i64K_ok (List.all_eq_true.1 hc.1 k hk)⟩, by simp, fun ψ => vi ψ _⟩
  ·cases hk
 ·split at hk
  ·rename_i ks hks
   simp only at hk
   obtain ⟨hc, hk⟩ := cond_some hk
   simp only [Bool.and_eq_true] at hc
   simp only [Option.some.injEq] at hk
   obtain ⟨g1, g2⟩ := strKs_ok he hks
   have hp := srtK_perm ltL ks
   have gs : ∀ n ∈ srtK ltL ks, ∀ x ∈ n, x < 256 := fun n hn => g2 n (hp.mem_iff.1 hn)
   refine ⟨_, _, hk.symm, ⟨ks.map (·.map UInt8.ofNat), (srtK ltL ks).map (·.map UInt8.ofNat), ?_, ?_, hp.map _, ?_, fun k hk => ?_⟩, ?_, fun ψ => vs ψ _ gs⟩
   ·rw [g1, List.map_map]; rfl
   ·rw [List.map_map]; rfl
   ·rw [List.pairwise_map]
    exact (risK_ok hc.1).imp_of_mem fun {a b} ha hb h => ltL_ok h (gs a ha) (gs b hb)
   ·obtain ⟨n, hn, rfl⟩ := List.mem_map.1 hk
    have := Nat.le_of_ble_eq_true (List.all_eq_true.1 hc.2 n hn)
    simpa using this
   ·simp
  ·cases hk
theorem keysRun_ok {E : Env} (hE : E.OK) : CallOK E (keysRun E) := by
 intro f args h v h' hs φ args' w n hg hbd hargs hr
 unfold keysRun at hs
 split at hs
 rotate_left
 ·cases hs
 rename_i g bm
 simp only [VRs] at hargs
 obtain ⟨v1, _, rfl, hv1, rfl⟩ := hargs
 obtain ⟨rm, hbm, rfl⟩ : ∃ rm, φ bm = some rm ∧ v1 = .func (.func g) #[] #[.pointer (some ⟨rm, 0, none⟩)] := by
  simp only [VR] at hv1
  obtain ⟨f', c', hv, h1, h2⟩ := hv1
  simp only [VRs, VR] at h1 h2
  obtain ⟨y, ys, h3, ⟨rm, h4, rfl⟩, rfl⟩ := h2
  refine ⟨rm, h4, ?_⟩
  rw [hv]
  have e1 : f' = #[] := by apply Array.ext'; simpa using h1
  have e2 : c' = #[.pointer (some ⟨rm, 0, none⟩)] := by apply Array.ext'; simpa using h3
  rw [e1, e2]
 split at hs
 ·rename_i e nums b l gr hkf hbl
  obtain ⟨hkd, hlaw, hfn⟩ := hE.kf _ _ _ _ hkf
  have hd : φ.y.d = false := hbd.here.kd hkd
  refine ⟨hfn, ?_⟩
  split at hs
  rotate_left
  ·cases hs
  rename_i es clk hmp
  obtain ⟨hc, hs⟩ := cond_some hs
  simp only [Bool.and_eq_true] at hc
  obtain ⟨u, hu, hvu, _⟩ := hr.cell hbm hbl (o := 0) (x := .m (some b)) rfl
  simp only [VR] at hvu
  obtain ⟨r, hb, rfl⟩ := hvu
  obtain ⟨o, ho, hbr⟩ := hr.blk b r hb (by rw [hmp]; trivial)
  rw [hmp] at hbr
  obtain ⟨es', rfl, hes⟩ := hbr
  obtain ⟨xs, us, hrow, hsk, hlen, hvs⟩ := keysOf_ok hs hes
  have hsz : es'.size ≤ 1000000 := by
   have := blt_iff.1 hc.1
   have := hes.lens.1
   rw [Array.length_toList] at this; omega
  refine CallsIn.mono (callsIn_wide.2 (hlaw.1 w rm r clk es' us (hr.dom _ _ hbm).2 hu ho (borns_of hes hc.2) hsz hsk) : CallsIn (Go.Ev.W none) n _ _ _ _ _) ?_
  rintro e1 w' ⟨v', rfl, q1, q2, q3, q4, q5, q6⟩
  have hgr : HR φ h w' ∧ Ext φ w φ w' := by
   refine ⟨⟨hr.cnt, fun b r e => ⟨(hr.dom b r e).1, Nat.lt_of_lt_of_le (hr.dom b r e).2 q1⟩, fun b r e hl => ?_, hr.inj, fun r o hk => ?_⟩, ⟨Le.refl φ, Nat.le_refl _, fun _ _ e => .inl e, fun hd' => (by rw [hd] at hd'; cases hd'), q1, q3, q4, q5, fun r hr0 _ => q2 r hr0⟩⟩
   ·obtain ⟨o, h1, h2⟩ := hr.blk b r e hl
    exact ⟨o, by rw [q2 r (hr.dom b r e).2]; exact h1, h2⟩
   ·obtain ⟨k1, k2⟩ := hr.kp r o hk
    exact ⟨by rw [q2 r (Array.getElem?_eq_some_iff.1 k1).1]; exact k1, k2⟩
  rcases q6 with ⟨rfl, rfl⟩ | ⟨hne, gb, cap, cur, rfl, p1, p2, p3, p4, p5⟩
  ·have : xs = [] := List.eq_nil_of_length_eq_zero hlen
   subst this
   simp only [rowK, Prod.mk.injEq] at hrow
   obtain ⟨rfl, rfl⟩ := hrow
   exact ⟨φ, _, rfl, hgr.2, by simp [VR], hgr.1⟩
  ·cases xs with
   | nil => exact absurd (List.eq_nil_of_length_eq_zero hlen.symm) hne
   | cons x xs =>
    have hrow : (v, h') = (.sl (some (h.n, 0)) (x :: xs).length (.un 1), h.new (.cells (x :: xs) e true)) := hrow
    simp only [Prod.mk.injEq] at hrow
    obtain ⟨rfl, rfl⟩ := hrow
    have hN : (up φ h.n gb cap).n h.n = cap := by simp [up]
    obtain ⟨g1, g2⟩ := hr.addAt q1 q2 q3 q4 q5 (fun hd' => by rw [hd] at hd'; cases hd') (N := cap) (x := .cells (x :: xs) e true) p1 p2 ⟨cur, rfl, by rw [hlen, p5]; exact hvs _, by rw [hlen, p4]; exact p3, fun h => (by cases h), p4⟩
    refine ⟨_, _, rfl, g2, ?_, g1⟩
    simp only [VR]
    exact ⟨gb, cap, by simp [up], by rw [hlen]; exact p3, by rw [hN]; omega, by rw [hlen]⟩
 ·rename_i p l gr hkf hbl
  obtain ⟨e, nums⟩ := p
  obtain ⟨hkd, hlaw, hfn⟩ := hE.kf _ _ _ _ hkf
  have hd : φ.y.d = false := hbd.here.kd hkd
  simp only [Option.some.injEq, Prod.mk.injEq] at hs
  obtain ⟨rfl, rfl⟩ := hs
  refine ⟨hfn, ?_⟩
  obtain ⟨u, hu, hvu, _⟩ := hr.cell hbm hbl (o := 0) (x := .m none) rfl
  simp only [VR] at hvu
  subst hvu
  refine CallsIn.mono (callsIn_wide.2 (hlaw.2 w rm (hr.dom _ _ hbm).2 hu) : CallsIn (Go.Ev.W none) n _ _ _ _ _) ?_
  rintro e1 w' ⟨rfl, q1, q2, q3, q4, q5⟩
  refine ⟨φ, _, rfl, ⟨Le.refl φ, Nat.le_refl _, fun _ _ e => .inl e, fun hd' => (by rw [hd] at hd'; cases hd'), q1, q3, q4, q5, fun r hr0 _ => q2 r hr0⟩, by simp [VR], ⟨hr.cnt, fun b r e => ⟨(hr.dom b r e).1, Nat.lt_of_lt_of_le (hr.dom b r e).2 q1⟩, fun b r e hl => ?_, hr.inj, fun r o hk => ?_⟩⟩
  ·obtain ⟨o, h1, h2⟩ := hr.blk b r e hl
   exact ⟨o, by rw [q2 r (hr.dom b r e).2]; exact h1, h2⟩
  ·obtain ⟨k1, k2⟩ := hr.kp r o hk
   exact ⟨by rw [q2 r (Array.getElem?_eq_some_iff.1 k1).1]; exact k1, k2⟩
 ·cases hs
end
end Go.Ev
namespace Go.Ev
noncomputable section
variable {D : List Deferred}
theorem callF_ok {E : Env} (hE : E.OK) {ex : ExecT} (hX : ExecOK E ex) : CallOK E (callF E ex) := by
 intro f args h v h' hs φ args' w n hg hbd hargs hr
 unfold callF at hs
 split at hs
 ·rename_i u hqc
  simp only [Option.some.injEq, Prod.mk.injEq] at hs
  obtain ⟨rfl, rfl⟩ := hs
  obtain ⟨q1, q2⟩ := hbd.here.qc _ _ _ hqc _ hargs
  refine ⟨q1, (q2 n w fun r o hk => (hr.kp r o hk).1).mono ?_⟩
  rintro e w' ⟨v', rfl, hv, hgr⟩
  obtain ⟨g1, g2⟩ := hgr.ok hr
  exact ⟨φ, v', rfl, g2, hv, g1⟩
 cases hqo : qoF f with
 | true => rw [hqo] at hs; cases hs
 | false =>
 rw [hqo] at hs
 simp only [cond_false] at hs
 unfold callG at hs
 split at hs
 ·rename_i u hqh
  simp only [Option.some.injEq, Prod.mk.injEq] at hs
  obtain ⟨rfl, rfl⟩ := hs
  obtain ⟨q1, q2⟩ := hE.qh _ _ _ _ _ hqh φ w _ hbd.here.bd hargs hr
  refine ⟨q1, (q2 n).mono ?_⟩
  rintro e w' ⟨v', rfl, hv, hgr⟩
  obtain ⟨g1, g2⟩ := hgr.ok hr
  exact ⟨φ, v', rfl, g2, hv, g1⟩
 split at hs
 ·rename_i r heh
  simp only [Option.some.injEq] at hs
  subst hs
  obtain ⟨q1, q2⟩ := hE.eh _ _ _ _ _ heh φ w _ hg hbd.here.kd hargs hr
  refine ⟨q1, (q2 n).mono ?_⟩
  rintro e w' ⟨φ', v', rfl, hx, hv, hr'⟩
  exact ⟨φ', v', rfl, hx, hv, hr'⟩
 split at hs
 ·rename_i r heh
  simp only [Option.some.injEq] at hs
  subst hs
  obtain ⟨q1, q2⟩ := hE.xh _ _ _ _ _ _ heh φ w _ hbd.here.xt hargs hr
  refine ⟨q1, (q2 n).mono ?_⟩
  rintro e w' ⟨φ', v', rfl, hx, hv, hr'⟩
  exact ⟨φ', v', rfl, hx, hv, hr'⟩
 split at hs
 ·rename_i r hsr
  simp only [Option.some.injEq] at hs
  subst hs
  exact sortRun_ok hE _ _ _ _ _ hsr φ args' w n hg hbd hargs hr
 split at hs
 ·rename_i r hsr
  simp only [Option.some.injEq] at hs
  subst hs
  obtain ⟨_, hsr⟩ := cond_some hsr
  exact keysRun_ok hE _ _ _ _ _ hsr φ args' w n hg hbd hargs hr
 exact callB_ok hE hX _ _ _ _ _ hs φ args' w n hg hbd hargs hr
end
end Go.Ev
namespace Go.Ev
noncomputable section
variable {D : List Deferred}
theorem HR.getLoop {P : Program} {φ : Ren} {h : H} {w : World} (hr : HR φ h w) {l r : Nat} (hl : φ l = some r) {st : LoopState} {pend : Option Code} {fr : Fr} {ps : Array Tmp} {as bd : Code} {df : Nat} (hg : h.get l = .loop st pend fr ps as bd df) :
  ∃ fn tmps d, (Instr.getLoop r).run P w = .ok { state := st, pending := pend, fn, tmps, params := ps, assign := as, body := bd, defers := d } w ∧ w.heap[r]? = some (.loop { state := st, pending := pend, fn, tmps, params := ps, assign := as, body := bd, defers := d }) ∧ FR φ fr tmps ∧ φ df = some d := by
 obtain ⟨o, h1, h2⟩ := hr.blk l r hl (by rw [hg]; trivial)
 rw [hg] at h2
 obtain ⟨fn, tmps, d, rfl, h3, h4⟩ := h2
 exact ⟨fn, tmps, d, by simp [Instr.getLoop, getObj, Sem.run, h1], h1, h3, h4⟩
theorem HR.setLoop {P : Program} {φ : Ren} {h : H} {w : World} (hr : HR φ h w) {l r : Nat} (hl : φ l = some r) {st : LoopState} {pend : Option Code} {fr : Fr} {ps : Array Tmp} {as bd : Code} {df : Nat} (hg : h.get l = .loop st pend fr ps as bd df)
  {fn : FuncId} {tmps : Array Value} {d : Nat} (ho : w.heap[r]? = some (.loop { state := st, pending := pend, fn, tmps, params := ps, assign := as, body := bd, defers := d })) (hf : FR φ fr tmps) (hd : φ df = some d) (st' : LoopState) (pend' : Option Code) :
  ∃ w', (setObj r (.loop { state := st', pending := pend', fn, tmps, params := ps, assign := as, body := bd, defers := d })).run P w = .ok () w' ∧ HR φ (h.set l (.loop st' pend' fr ps as bd df)) w' ∧ Ext φ w φ w' := by
 have hlt := (hr.dom l r hl).2
 let w' : World := { w with heap := w.heap.setIfInBounds r (.loop { state := st', pending := pend', fn, tmps, params := ps, assign := as, body := bd, defers := d }) }
 have hT := hr.turn (w' := w') (.loop st' pend' fr ps as bd df) (.loop { state := st', pending := pend', fn, tmps, params := ps, assign := as, body := bd, defers := d }) hl (by rw [hg]; trivial) ⟨fn, tmps, d, rfl, hf, hd⟩
  (by simp [w']) (by simp [w', hlt]) (fun s hs => by simp [w', Array.getElem?_setIfInBounds_ne (Ne.symm hs)]) rfl rfl rfl
 exact ⟨w', by simp [setObj, Sem.run, ho, w'], hT.1, hT.2⟩
theorem setAll_ok {φ : Ren} : ∀ (ts : List Tmp) (vs : List V) (vs' : List Value) (fr fr' : Fr) (tmps : Array Value), VRs φ vs vs' → FR φ fr tmps → setAll fr ts vs = some fr' → ts.length = vs'.length ∧
  FR φ fr' ((ts.zip vs').foldl (fun (tm : Array Value) (x : Tmp × Value) => tm.setIfInBounds x.1 x.2) tmps)
 | [], [], vs', fr, fr', tmps, hv, hf, h => by
  simp only [VRs] at hv; subst hv
  simp only [setAll, Option.some.injEq] at h; subst h
  exact ⟨rfl, hf⟩
 | [], _ :: _, _, _, _, _, _, _, h => by simp [setAll] at h
 | _ :: _, [], _, _, _, _, _, _, h => by simp [setAll] at h
 | t :: ts, v :: vs, vs', fr, fr', tmps, hv, hf, h => by
  simp only [VRs] at hv
  obtain ⟨y, ys, rfl, h1, h2⟩ := hv
  simp only [setAll] at h
  cases hlt : Nat.blt t fr.n with
  | false => rw [hlt] at h; cases h
  | true =>
   rw [hlt] at h
   simp only [cond] at h
   have hf' : FR φ (fr.set t v) (tmps.setIfInBounds t y) := by
    rcases hf.set t h1 with g | g
    ·exact g
    ·have := blt_iff.1 hlt; omega
   obtain ⟨h3, h4⟩ := setAll_ok ts vs ys (fr.set t v) fr' (tmps.setIfInBounds t y) h2 hf' h
   exact ⟨by simp [h3], by simpa using h4⟩
theorem yieldF_ok {E : Env} {ex : ExecT} (hX : ExecOK E ex) : YieldOK E (yieldF ex) := by
 intro l args h v h' hs φ args' w n ro r hg hbd hargs hr hl
 unfold yieldF at hs
 split at hs
 ·rename_i st pend fr ps as bd df hlp
  obtain ⟨fn, tmps, d, hget, ho, hf, hd⟩ := hr.getLoop (P := E.P) hl hlp
  split at hs
  ·rename_i fr1 hfr1
   obtain ⟨hlen, hF1⟩ := setAll_ok ps.toList args args' fr fr1 tmps hargs hf hfr1
   refine ⟨fn, (ps.toList.zip args').foldl (fun (tm : Array Value) (x : Tmp × Value) => tm.setIfInBounds x.1 x.2) tmps, as, bd, ?_, ?_⟩
   ·have hsz : args'.length = ps.size := by rw [← hlen]; simp
    have hfold : (ps.zip args'.toArray).foldl (fun (tm : Array Value) (x : Tmp × Value) => tm.setIfInBounds x.1 x.2) tmps = (ps.toList.zip args').foldl (fun (tm : Array Value) (x : Tmp × Value) => tm.setIfInBounds x.1 x.2) tmps := by
     rw [← Array.foldl_toList, Array.toList_zip]
    simp only [Instr.yield, Sem.run_bind, hget, Result.andThen_ok]
    rw [if_neg (by simp [hsz])]
    simp only [pure_bind, Sem.run_pure]
    rw [← hfold]
   ·split at hs
    ·rename_i fr2 h1 hex1
     refine roundIn_of_wpIn trivial ?_
     have hwp := hX (some l) as fr1 [] h .n fr2 [] h1 hex1 φ { tmps := (ps.toList.zip args').foldl (fun (tm : Array Value) (x : Tmp × Value) => tm.setIfInBounds x.1 x.2) tmps, defers := [] } w (some r) n hg hbd ⟨r, rfl, hl⟩ hF1 rfl hr
     refine wpIn_mono hwp ?_
     rintro e a1 w1 ⟨φ1, hx1, rfl, hf1, hd1, hr1⟩
     have hl1 := (hx1.le l r hl).1
     split at hs
     ·rename_i pend' fr' ps' as' bd' df' hlp1
      obtain ⟨fn1, tmps1, d1, hget1, ho1, hff1, hdd1⟩ := hr1.getLoop (P := E.P) hl1 hlp1
      obtain ⟨w2, hset, hr2, hx2⟩ := hr1.setLoop (P := E.P) hl1 hlp1 ho1 hff1 hdd1 .busy pend'
      refine ⟨w2, ?_, ?_⟩
      ·simp [Instr.beginRound, hget1, hset]
      ·split at hs
       ·rename_i x frx dsx2 h2 hex2
        have hwp2 := hX (some l) bd fr2 [] _ x frx dsx2 h2 hex2 φ1 a1 w2 (some r) n (hg.mono hx1.le) (hbd.mono hx1.le) ⟨r, rfl, hl1⟩ hf1 hd1 hr2
        refine wpIn_mono hwp2 ?_
        rintro e a3 w3 ⟨φ3, hx3, rfl, hf3, hd3, hr3⟩
        have hl3 := (hx3.le l r hl1).1
        have hxx : Ext φ w φ3 w3 := hx1.trans (hx2.trans hx3)
        split at hs
        ·rename_i st3 pend3 fr3 ps3 as3 bd3 df3 hlp3
         obtain ⟨fn3, tmps3, d3, hget3, ho3, hff3, hdd3⟩ := hr3.getLoop (P := E.P) hl3 hlp3
         cases x with
         | n =>
          simp only [Option.some.injEq, Prod.mk.injEq] at hs
          obtain ⟨rfl, rfl⟩ := hs
          obtain ⟨w4, hset4, hr4, hx4⟩ := hr3.setLoop (P := E.P) hl3 hlp3 ho3 hff3 hdd3 .ready none
          exact ⟨.bool true, w4, by simp [Instr.endRound, hget3, hset4], φ3, .bool true, rfl, hxx.trans hx4, by simp only [VR], hr4⟩
         | r =>
          simp only [Option.some.injEq, Prod.mk.injEq] at hs
          obtain ⟨rfl, rfl⟩ := hs
          obtain ⟨w4, hset4, hr4, hx4⟩ := hr3.setLoop (P := E.P) hl3 hlp3 ho3 hff3 hdd3 .done (some .ret)
          exact ⟨.bool false, w4, by simp [Instr.endRound, hget3, hset4], φ3, .bool false, rfl, hxx.trans hx4, by simp only [VR], hr4⟩
         | e id =>
          simp only [Option.some.injEq, Prod.mk.injEq] at hs
          obtain ⟨rfl, rfl⟩ := hs
          obtain ⟨w4, hset4, hr4, hx4⟩ := hr3.setLoop (P := E.P) hl3 hlp3 ho3 hff3 hdd3 .done (some (.exit id))
          exact ⟨.bool false, w4, by simp [Instr.endRound, hget3, hset4], φ3, .bool false, rfl, hxx.trans hx4, by simp only [VR], hr4⟩
        ·cases hs
       ·cases hs
     ·cases hs
    ·cases hs
  ·cases hs
 ·cases hs
theorem roundsIn_mono {F : Fence} {n : Nat} {P : Program} {c : Code} {Q Q' : Exit → Act → World → Prop} (hq : ∀ e a w, Q e a w → Q' e a w) : ∀ (m : Nat) (a : Act) (w : World), Code.roundsIn F n P c Q m a w → Code.roundsIn F n P c Q' m a w
 | 0, _, _, h => h
 | m + 1, a, w, h => wpIn_mono h fun e a' w' he => by
  cases e with
  | normal => exact roundsIn_mono hq m a' w' he
  | _ => exact hq _ _ _ he
theorem afterRange_ok {E : Env} {φ : Ren} {w : World} {l : Nat} {fr : Fr} {ds : List Nat} {h : H} {x : X} {fr' : Fr} {ds' : List Nat} {h' : H} (hs : afterRange l fr ds h = some (x, fr', ds', h'))
  {φ' : Ren} {w' : World} (hx : Ext φ w φ' w') (hr : HR φ' h w') {r : Nat} (hl : φ' l = some r) {a' : Act} (hf : FR φ' fr a'.tmps) (hd : DR D φ' ds a'.defers) (ro : Option Nat) (n : Nat) :
  ∃ jump w₄, (Instr.endLoop r).run E.P w' = .ok jump w₄ ∧
   (match jump with
    | none => PostX D φ w x fr' ds' h' .normal a' w₄
    | some c => c.wpIn (W ro) n E.P (PostX D φ w x fr' ds' h') a' w₄) := by
 unfold afterRange at hs
 split at hs
 ·rename_i st pend fr0 ps as bd df hlp
  obtain ⟨fn, tmps, d, hget, ho, hff, hdd⟩ := hr.getLoop (P := E.P) hl hlp
  obtain ⟨w4, hset, hr4, hx4⟩ := hr.setLoop (P := E.P) hl hlp ho hff hdd .exhausted pend
  split at hs
  ·cases hs
  ·rename_i hnb
   have hst : ¬ (st == LoopState.busy) = true := fun e => hnb (by simpa using e)
   have hend : (Instr.endLoop r).run E.P w' = .ok pend w4 := by
    simp only [Instr.endLoop, Sem.run_bind, hget, Result.andThen_ok]
    rw [if_neg hst]
    simp [hset]
   refine ⟨pend, w4, hend, ?_⟩
   split at hs
   ·simp only [Option.some.injEq, Prod.mk.injEq] at hs
    obtain ⟨rfl, rfl, rfl, rfl⟩ := hs
    exact ⟨φ', hx.trans hx4, rfl, hf, hd, hr4⟩
   ·simp only [Option.some.injEq, Prod.mk.injEq] at hs
    obtain ⟨rfl, rfl, rfl, rfl⟩ := hs
    exact wpIn_ret ⟨φ', hx.trans hx4, rfl, hf, hd, hr4⟩
   ·simp only [Option.some.injEq, Prod.mk.injEq] at hs
    obtain ⟨rfl, rfl, rfl, rfl⟩ := hs
    exact wpIn_exit ⟨φ', hx.trans hx4, rfl, hf, hd, hr4⟩
   ·cases hs
 ·cases hs
theorem aRange_ok {E : Env} {call : CallT} (hC : CallOK E call) {ro : Option Nat} {g : Operand} {ps : Array Tmp} {as bd : Code} {fr : Fr} {ds : List Nat} {h : H} {x : X} {fr' : Fr} {ds' : List Nat} {h' : H}
  (hs : aRange E call ro g ps as bd fr ds h = some (x, fr', ds', h')) {φ : Ren} {a : Act} {w : World} {ro' : Option Nat} {n : Nat} (hg : GL E.ng φ) (hbd : BD E φ) (hro : RO φ ro ro') (hf : FR φ fr a.tmps) (hd : DR D φ ds a.defers) (hr : HR φ h w) :
  (Code.rangeFunc g ps as bd).wpIn (W ro') n E.P (PostX D φ w x fr' ds' h') a w := by
 unfold aRange at hs
 have hfv := ev_ok hg hf g
 split at hs
 ·rename_i gf first caps hgv
  rw [hgv] at hfv
  simp only [VR] at hfv
  obtain ⟨first', caps', hv, h1, h2⟩ := hfv
  refine wpIn_rangeFunc fun fn _ => ?_
  cases ro with
  | none =>
   simp only [RO] at hro; subst hro
   simp only [] at hs
   split at hs
   ·rename_i v0 h3 hcs
    have hA := hr.alloc 0 .dfr (.deferred (some [])) rfl
    have hle1 : Le φ (up φ h.n w.heap.size 0) := le_up hr.fresh
    let φ1 := up φ h.n w.heap.size 0
    let w1 : World := { w with heap := w.heap.push (.deferred (some [])) }
    have hdn : φ1 h.n = some w.heap.size := by simp [φ1, up]
    let lp : Loop := { state := .ready, pending := none, fn, tmps := a.tmps, params := ps, assign := as, body := bd, defers := w.heap.size }
    have hfresh2 : ∀ s, φ1 (h.new .dfr).n ≠ some s := hA.1.fresh
    have hle2 : Le φ1 (up φ1 (h.new .dfr).n w1.heap.size 0) := le_up hfresh2
    have hB := hA.1.alloc 0 (.loop .ready none fr ps as bd h.n) (.loop lp) ⟨fn, a.tmps, w.heap.size, rfl, (hf.mono hle1).mono hle2, (hle2 _ _ hdn).1⟩
    let φ2 := up φ1 (h.new .dfr).n w1.heap.size 0
    let w2 : World := { w1 with heap := w1.heap.push (.loop lp) }
    have hx2 : Ext φ w φ2 w2 := hA.2.trans hB.2
    have hll : φ2 (h.n + 1) = some w1.heap.size := by simp [φ2, up]
    have hw1 : w1.heap.size = w.heap.size + 1 := by simp [w1]
    have hargs : VRs φ2 (first ++ [.yl (h.n + 1)] ++ caps) (first'.toList ++ [Value.func (.yield w1.heap.size) #[] #[]] ++ caps'.toList) :=
     ((VRs.mono hx2.le _ _ h1).append (VRs.cons (by simp only [VR]; exact ⟨_, hll, rfl⟩) VRs.nil)).append (VRs.mono hx2.le _ _ h2)
    obtain ⟨⟨fn', cd, hfn, hbody, hname⟩, hcall⟩ := hC _ _ _ _ _ hcs φ2 _ w2 (n - 1) (hg.mono hx2.le) (hbd.mono hx2.le) hargs hB.1
    have hname' : ¬ fn'.name = "runtime.NumGoroutine" := by simpa using hname
    refine ⟨w1.heap.size, [{ target := .collected w.heap.size, args := #[] }], w2, { target := .fn (.func gf) caps', args := first' ++ #[Value.func (.yield w1.heap.size) #[] #[]] }, w2, gf, first' ++ #[Value.func (.yield w1.heap.size) #[] #[]] ++ caps', w2, ?_, ?_, fun _ _ => trivial, ?_, (fun hd => (by cases hd)), ?_⟩
    ·simp [Instr.enterLoop, W, w1, w2, lp]
    ·have hm : (#[Operand.const (Value.func (.yield w1.heap.size) #[] #[])] : Array Operand).map a.eval = #[Value.func (.yield w1.heap.size) #[] #[]] := by simp [Act.eval]
     simp only [resolve, rangeCall, hv, Deferred.ofValue, Sem.run_pure, hm]
    ·simp [invoke, callFunc, hfn, hbody, hname']
    ·have harr : (first'.toList ++ [Value.func (.yield w1.heap.size) #[] #[]] ++ caps'.toList).toArray = first' ++ #[Value.func (.yield w1.heap.size) #[] #[]] ++ caps' := by
      apply Array.ext'
      simp
     rw [harr] at hcall
     refine (callsW (ro := none) hcall).mono ?_
     rintro e w3 ⟨φ3, v3, rfl, hx3, _, hr3⟩
     have hle3 := hx2.le.trans hx3.le
     exact afterRange_ok hs (hx2.trans hx3) hr3 (hx3.le _ _ hll).1 (a' := { a with defers := [{ target := .collected w.heap.size, args := #[] }] ++ a.defers }) (hf.mono hle3)
      ⟨w.heap.size, a.defers, rfl, ((hle2.trans hx3.le) _ _ hdn).1, hd.mono hle3⟩ none n
   ·cases hs
  | some l0 =>
   obtain ⟨r0, rfl, hr0⟩ := hro
   simp only [] at hs
   split at hs
   ·rename_i st0 pend0 fr0 ps0 as0 bd0 df hlp0
    obtain ⟨fn0, tmps0, d0, hget0, ho0, hff0, hdd0⟩ := hr.getLoop (P := E.P) hr0 hlp0
    split at hs
    ·rename_i v0 h3 hcs
     let lp : Loop := { state := .ready, pending := none, fn, tmps := a.tmps, params := ps, assign := as, body := bd, defers := d0 }
     have hle2 : Le φ (up φ h.n w.heap.size 0) := le_up hr.fresh
     have hB := hr.alloc 0 (.loop .ready none fr ps as bd df) (.loop lp) ⟨fn, a.tmps, d0, rfl, hf.mono hle2, (hle2 _ _ hdd0).1⟩
     let φ2 := up φ h.n w.heap.size 0
     let w2 : World := { w with heap := w.heap.push (.loop lp) }
     have hx2 : Ext φ w φ2 w2 := hB.2
     have hll : φ2 h.n = some w.heap.size := by simp [φ2, up]
     have hargs : VRs φ2 (first ++ [.yl h.n] ++ caps) (first'.toList ++ [Value.func (.yield w.heap.size) #[] #[]] ++ caps'.toList) :=
      ((VRs.mono hx2.le _ _ h1).append (VRs.cons (by simp only [VR]; exact ⟨_, hll, rfl⟩) VRs.nil)).append (VRs.mono hx2.le _ _ h2)
     obtain ⟨⟨fn', cd, hfn, hbody, hname⟩, hcall⟩ := hC _ _ _ _ _ hcs φ2 _ w2 (n - 1) (hg.mono hx2.le) (hbd.mono hx2.le) hargs hB.1
     have hname' : ¬ fn'.name = "runtime.NumGoroutine" := by simpa using hname
     refine ⟨w.heap.size, [], w2, { target := .fn (.func gf) caps', args := first' ++ #[Value.func (.yield w.heap.size) #[] #[]] }, w2, gf, first' ++ #[Value.func (.yield w.heap.size) #[] #[]] ++ caps', w2, ?_, ?_, fun _ _ => trivial, ?_, (fun hd => (by cases hd)), ?_⟩
     ·simp [Instr.enterLoop, W, hget0, w2, lp]
     ·have hm : (#[Operand.const (Value.func (.yield w.heap.size) #[] #[])] : Array Operand).map a.eval = #[Value.func (.yield w.heap.size) #[] #[]] := by simp [Act.eval]
      simp only [resolve, rangeCall, hv, Deferred.ofValue, Sem.run_pure, hm]
     ·simp [invoke, callFunc, hfn, hbody, hname']
     ·have harr : (first'.toList ++ [Value.func (.yield w.heap.size) #[] #[]] ++ caps'.toList).toArray = first' ++ #[Value.func (.yield w.heap.size) #[] #[]] ++ caps' := by
       apply Array.ext'
       simp
      rw [harr] at hcall
      refine (callsW (ro := some r0) hcall).mono ?_
      rintro e w3 ⟨φ3, v3, rfl, hx3, _, hr3⟩
      have hle3 := hx2.le.trans hx3.le
      exact afterRange_ok hs (hx2.trans hx3) hr3 (hx3.le _ _ hll).1 (a' := { a with defers := [] ++ a.defers }) (hf.mono hle3) (by simpa using hd.mono hle3) (some r0) n
    ·cases hs
   ·cases hs
 ·cases hs
end
end Go.Ev
namespace Go.Ev
noncomputable section
theorem sameMie {m c n : Nat} {q : Blk} (h : isMie m c n q = true) : q = .mie m c n := by
 cases q <;> simp only [isMie, Bool.and_eq_true] at h <;> first | (cases h; done) | skip
 rw [Nat.eq_of_beq_eq_true h.1.1, Nat.eq_of_beq_eq_true h.1.2, Nat.eq_of_beq_eq_true h.2]
structure RndI (p : MP) (nx clk : Nat) (en : V × V × Nat) (k : Nat) (ck : Chk) (x : X) (fr1 : Fr) (h1 : H) (b' : Nat) (c0 : List V) (cs : CS) : Prop where
 fn : fr1.n = p.fn
 at_ : c0.all atomV = true
 x : isNx nx x = true
 acc : accOf p fr1 h1 = .sl (some (b', 0)) (k + 1) (.un p.sz)
 row : h1.get b' = .cells (qsF 0 (k * p.sz) ++ c0) p.e true
 cl : c0.length = p.sz
 b1 : p.hn + 1 ≤ b'
 b2 : b' < h1.n
 fr : frOK fr1 p.fl = true
 bl : blOK p h1 p.hl = true
 bi : h1.get p.bi = .mie p.mN clk en.2.2
 iv : p.hn ≤ h1.n → Iv p.hn h1.n cs ∧ AccOK p.hn h1 cs ck.2.1 ∧ ltVs cs.n ck.1 ∧ rnVs (SQ p.hn cs) ck.1 = c0
 n : cs.n = ck.2.2
 nb : T.get 0 cs.s b' = 0
 nh : T.get 0 cs.s p.hn = 0
 out : outG p.hn cs.n ck.2.1 = true
 nw : newB ck.2.1 p.hn (cs.n - p.hn) = true
theorem rnd_inv {p : MP} {ex : ExecT} {ro : Option Nat} {bb : Code} {nx tn tm clk : Nat} {en : V × V × Nat} {k : Nat} {ck : Chk} (e : rnd p ex ro bb nx tn tm clk en k = some ck) :
  ∃ x fr1 h1 b' c0 cs, ex ro bb (((frS p k).set tn (.t [.b true, en.1, en.2.1])).set tm (.b true)) [] (hS p k (.mie p.mN clk en.2.2)) = some (x, fr1, [], h1) ∧ RndI p nx clk en k ck x fr1 h1 b' c0 cs := by
 unfold rnd at e
 split at e
 rotate_left
 ·cases e
 rename_i x fr1 h1 hex
 split at e
 rotate_left
 ·cases e
 rename_i b' k' sz' hacc
 split at e
 rotate_left
 ·cases e
 rename_i l' e' g' hrow
 split at e
 rotate_left
 ·cases e
 rename_i c0 htk
 obtain ⟨hc, e⟩ := cond_some e
 simp only [Bool.and_eq_true] at hc
 obtain ⟨⟨⟨⟨⟨⟨⟨⟨⟨⟨⟨⟨f1, f2⟩, c1⟩, c2⟩, c3⟩, c4⟩, c5⟩, c6⟩, c7⟩, c8⟩, c9⟩, c10⟩, c11⟩ := hc
 rcases cpVs_ok p.hn h1.n c0 ⟨.leaf, .leaf, [], p.hn⟩ fun c cs => cpA p.hn h1.n h1 2000 cs [] fun B cs =>
       cond (Nat.beq (T.get 0 cs.s b') 0 && Nat.beq (T.get 0 cs.s p.hn) 0 && outG p.hn cs.n B && newB B p.hn (cs.n - p.hn)) (forceN cs.n fun n => some (c, B, n)) none with h1' | ⟨A, cs1, h1', s1⟩
 ·rw [h1'] at e; cases e
 rw [h1'] at e
 rcases cpA_ok p.hn h1.n h1 2000 cs1 [] fun B cs =>
       cond (Nat.beq (T.get 0 cs.s b') 0 && Nat.beq (T.get 0 cs.s p.hn) 0 && outG p.hn cs.n B && newB B p.hn (cs.n - p.hn)) (forceN cs.n fun n => some (A, B, n)) none with h2 | ⟨B, cs2, h2, s2⟩
 ·rw [h2] at e; cases e
 rw [h2] at e
 obtain ⟨hd, e⟩ := cond_some e
 simp only [Bool.and_eq_true] at hd
 rw [forceN_eq] at e
 cases e
 have hk : k' = k + 1 := Nat.eq_of_beq_eq_true c2
 have hz : sz' = p.sz := Nat.eq_of_beq_eq_true c3
 subst hk; subst hz
 refine ⟨x, fr1, h1, b', c0, cs2, hex, ⟨Nat.eq_of_beq_eq_true f1, f2, c1, hacc, ?_, Nat.eq_of_beq_eq_true c6, Nat.le_of_ble_eq_true c7, blt_iff.1 c8, c9, c10, sameMie c11, fun hle => ?_, rfl, Nat.eq_of_beq_eq_true hd.1.1.1, Nat.eq_of_beq_eq_true hd.1.1.2, hd.1.2, hd.2⟩⟩
 ·rw [hrow, takeQ_ok _ _ _ _ htk, Nat.eq_of_beq_eq_true c4, sameBB_ok c5]
 ·have iv0 : Iv p.hn h1.n ⟨.leaf, .leaf, [], p.hn⟩ := by
   refine ⟨Nat.le_refl _, hle, fun b m e => ?_, fun m h1 h2 => ?_, fun b m hm => by cases hm⟩
   ·rw [T.get_leaf] at e; cases e
   ·have h2 : m < p.hn := h2
    omega
  obtain ⟨i1, i2, i3, i4⟩ := s1 iv0
  obtain ⟨j1, j2, j3⟩ := s2 i1 (fun _ _ hm => by cases hm)
  exact ⟨j1, j3, ltVs_mono j2.n A i3, by rw [rnVs_congr (s := SQ p.hn cs2) (s' := SQ p.hn cs1) j2.s A i3]; exact i4⟩
def Fsh (φ : Ren) (w : World) (r : Nat) : Prop := w.heap.size ≤ r ∨ ((∃ b, φ b = some r) ∧ φ.y.k r = none)
theorem Fsh.kn {φ : Ren} {h : H} {w : World} (hr : HR φ h w) {r : Nat} (hf : Fsh φ w r) : φ.y.k r = none := by
 rcases hf with hf | hf
 ·cases hk : φ.y.k r with
  | none => rfl
  | some o =>
   have := (hr.kp r o hk).1
   rw [Array.getElem?_eq_none hf] at this; cases this
 ·exact hf.2
theorem VRs_of {φ : Ren} : ∀ {l : List V} {vs : List Value}, vs.length = l.length → (∀ (i : Nat) (x : V) (v : Value), l[i]? = some x → vs[i]? = some v → VR φ x v) → VRs φ l vs
 | [], [], _, _ => by simp [VRs]
 | x :: l, v :: vs, hl, h => VRs.cons (h 0 x v rfl rfl) (VRs_of (by simpa using hl) fun i x v h1 h2 => h (i + 1) x v (by simpa using h1) (by simpa using h2))
theorem acc_vr {p : MP} {φ φ' : Ren} {b' k : Nat} (h1 : ∀ r, φ b' = some r → φ' p.hn = some r ∧ φ'.n p.hn = φ.n b') {v : Value} (e : VR φ (.sl (some (b', 0)) (k + 1) (.un p.sz)) v) : VR φ' (accV p (k + 1)) v := by
 simp only [accV, VR] at e ⊢
 obtain ⟨r, cap, hr, g1, g2, g3⟩ := e
 exact ⟨r, cap, (h1 r hr).1, g1, by rw [(h1 r hr).2]; exact g2, g3⟩
theorem blOK_mem {p : MP} {h : H} : ∀ {l : List (Nat × Blk)}, blOK p h l = true → ∀ b q, (b, q) ∈ l → blOK1 p b q (h.get b) = true
 | [], _, _, _, hm => by cases hm
 | (k, r) :: l, e, b, q, hm => by
  simp only [blOK, Bool.and_eq_true] at e
  rcases List.mem_cons.1 hm with hm | hm
  ·cases hm; exact e.1
  ·exact blOK_mem e.2 b q hm
theorem frOK_get {fr : Fr} : ∀ {l : List (Nat × V)}, frOK fr l = true → ∀ t, lkV l t = .top ∨ fr.get t = lkV l t
 | [], _, _ => .inl rfl
 | (k, v) :: l, e, t => by
  simp only [frOK, Bool.and_eq_true] at e
  simp only [lkV]
  by_cases h : t = k
  ·rw [if_pos h, h]; exact .inr (same_ok _ _ e.1).symm
  ·rw [if_neg h]; exact frOK_get e.2 t
theorem blOK1_br {p : MP} {φ φ' : Ren} (hag : AgC p.C φ φ') {fr1 : Fr} {h1 : H} {b' k b : Nat} {q : Blk} (hacc : accOf p fr1 h1 = .sl (some (b', 0)) (k + 1) (.un p.sz)) (hrow : ∀ r, φ b' = some r → φ' p.hn = some r ∧ φ'.n p.hn = φ.n b')
  (hin : inBk p.C q = true) (hb : blOK1 p b q (h1.get b) = true) {N : Nat} {o : Obj} (hbr : BR φ N (h1.get b) o) : BR φ' N (stB p (k + 1) b q) o := by
 unfold blOK1 at hb
 unfold stB
 split at hb
 ·rw [← sameBk_ok hb] at hbr
  exact inBk_ok hag hin hbr
 ·rename_i ab ao hpl
  by_cases hbb : b = ab
  ·subst hbb
   rw [Nat.beq_refl] at hb
   simp only [cond_true] at hb
   rw [if_pos rfl]
   unfold accOf at hacc
   rw [hpl] at hacc
   simp only at hacc
   split at hb
   ·rename_i l e g l' e' g' hq
    simp only [hq] at hacc
    rw [hq] at hbr
    simp only [Bool.and_eq_true] at hb
    obtain ⟨⟨⟨s1, s2⟩, s3⟩, s4⟩ := hb
    have e1 := same_s_ok _ _ s1
    have e2 := Nat.eq_of_beq_eq_true s2
    have e3 := sameBB_ok s3
    subst e2; subst e3
    have hao : ao < l.length := blt_iff.1 s4
    have hll : l'.length = l.length := by have := congrArg List.length e1; simpa using this.symm
    have hg : ∀ i, i ≠ ao → l'[i]? = l[i]? := fun i hi => by
     have := congrArg (fun z => z[i]?) e1
     simp only [List.getElem?_set_ne (Ne.symm hi)] at this
     exact this.symm
    obtain ⟨c, h1, h2, h3, h4, h5⟩ := hbr
    refine ⟨c, h1, VRs_of ?_ fun i x v hx hv => ?_, by simpa [hll] using h3, fun hg' => by simpa [hll] using h4 hg', h5⟩
    ·rw [List.length_set, ← hll]; exact h2.length
    ·rw [List.length_set, ← hll] at hv
     have hilt : i < l'.length := by
      rcases Nat.lt_or_ge i l'.length with h | h
      ·exact h
      ·rw [List.getElem?_eq_none (by rw [List.length_take]; omega)] at hv; cases hv
     obtain ⟨z, hz, hzv⟩ := h2.get (List.getElem?_eq_getElem hilt)
     rw [hv] at hz; cases hz
     by_cases hi : i = ao
     ·subst hi
      have : l'[i] = .sl (some (b', 0)) (k + 1) (.un p.sz) := by
       rw [List.getD_eq_getElem?_getD, List.getElem?_eq_getElem hilt] at hacc
       exact hacc
      rw [this] at hzv
      rw [List.getElem?_set_self (by omega)] at hx
      cases hx
      exact acc_vr hrow hzv
     ·rw [List.getElem?_set_ne (Ne.symm hi)] at hx
      have : l'[i] = x := by
       have := hg i hi
       rw [List.getElem?_eq_getElem hilt, hx] at this
       exact Option.some.inj this
      rw [this] at hzv
      exact inV_ok hag _ _ (inVs_get (C := p.C) (l := l) hin hx) hzv
   ·cases hb
  ·rw [nbf hbb] at hb
   simp only [cond_false] at hb
   rw [if_neg hbb]
   rw [← sameBk_ok hb] at hbr
   exact inBk_ok hag hin hbr
theorem blOK1_live {p : MP} {b : Nat} {q q' : Blk} (hl : q.live) (hb : blOK1 p b q q' = true) : q'.live := by
 unfold blOK1 at hb
 split at hb
 ·rw [← sameBk_ok hb]; exact hl
 ·rename_i ab ao _
  cases h : Nat.beq b ab with
  | true =>
   rw [h] at hb
   simp only [cond_true] at hb
   split at hb
   ·trivial
   ·cases hb
  | false =>
   rw [h] at hb
   rw [← sameBk_ok hb]; exact hl
structure Rnd (p : MP) (k : Nat) (ck : Chk) (φ : Ren) (w : World) (φ' : Ren) (u : List Value) (ψ : Ren) (w' : World) : Prop where
 hr : HR φ' (hS p (k + 1) .gone) w'
 old : ∀ b, b < p.hn → φ' b = φ b ∧ (∀ r, φ b = some r → φ'.n b = φ.n b)
 row : ∃ r, φ' p.hn = some r ∧ Fsh φ w r
 rowd : ∀ r b, φ' p.hn = some r → b < p.hn → φ' b ≠ some r
 yk : φ'.y = { φ.y with q := φ'.y.q }
 q0 : ∀ i, i < k * p.sz ∨ k * p.sz + p.sz ≤ i → φ'.q i = φ.q i
 q1 : ∀ j v, u[j]? = some v → φ'.q (k * p.sz + j) = v
 ul : u.length = p.sz
 u1 : ∀ v ∈ u, v.oneCell' = true
 dr : φ.y.d = true → w.drawn ≤ w'.drawn
 size : w.heap.size ≤ w'.heap.size
 os : w'.os = w.os
 tape : w'.tape = w.tape
 output : w'.output = w.output
 frame : ∀ r, r < w.heap.size → (∀ b, φ b ≠ some r) → w'.heap[r]? = w.heap[r]?
 lo : ∀ m r, m < p.hn → ψ m = some r → φ m = some r ∧ φ.n m = ψ.n m
 cs : VRs ψ ck.1 u
 lt : ltVs ck.2.2 ck.1
 blk : ∀ m q, (m, q) ∈ ck.2.1 → p.hn ≤ m ∧ m < ck.2.2 ∧ ltB ck.2.2 q ∧ ∀ r, ψ m = some r → r < w'.heap.size ∧ Fsh φ w r ∧ (∀ b, φ' b ≠ some r) ∧ ∃ o, w'.heap[r]? = some o ∧ BR ψ (ψ.n m) q o
 inj : ∀ m q m' q' r, (m, q) ∈ ck.2.1 → (m', q') ∈ ck.2.1 → ψ m = some r → ψ m' = some r → m = m'
 nw : newB ck.2.1 p.hn (ck.2.2 - p.hn) = true
 le : p.hn ≤ ck.2.2
theorem stB_mut {p : MP} {k b : Nat} {q q' : Blk} (hm : (stB p k b q).mut) (hb : blOK1 p b q q' = true) : q'.mut := by
 unfold blOK1 at hb
 unfold stB at hm
 split at hb
 ·rename_i t hpl
  rw [hpl] at hm
  rw [← sameBk_ok hb]; exact hm
 ·rename_i ab ao hpl
  rw [hpl] at hm
  by_cases h : b = ab
  ·subst h
   rw [Nat.beq_refl] at hb
   simp only [cond_true] at hb
   split at hb
   ·trivial
   ·cases hb
  ·rw [nbf h] at hb
   simp only at hm
   rw [if_neg h] at hm
   rw [← sameBk_ok hb]; exact hm
theorem round_ok {E : Env} {ex : ExecT} (hX : ExecOK E ex) {p : MP} (hp : p.ok = true) {bb : Code} {nx tn tm clk : Nat} {en : V × V × Nat} {k : Nat} {ck : Chk} (e : rnd p ex none bb nx tn tm clk en k = some ck)
  {φ : Ren} {w : World} {a : Act} (hbd : BD E φ) (hg : GL E.ng φ) (hr : HR φ (hS p k (.mie p.mN clk en.2.2)) w) (hf : FR φ (((frS p k).set tn (.t [.b true, en.1, en.2.1])).set tm (.b true)) a.tmps)
  (hnm : ∀ b r, b < p.hn → φ b = some r → p.C b = true) (hac : ∀ ab ao, p.pl = .inr (ab, ao) → ∃ r, φ ab = some r) (hqm : k * p.sz + p.sz ≤ p.qm) (n : Nat) :
  bb.wpIn (W none) n E.P (fun e a' w' => (e = .normal ∨ e = .exit nx) ∧ a'.defers = a.defers ∧ ∃ φ' u ψ, Rnd p k ck φ w φ' u ψ w' ∧ FR φ' (frS p (k + 1)) a'.tmps) a w := by
 obtain ⟨x, fr1, h1, b', c0, cs, hex, I⟩ := rnd_inv e
 have hpk := hp
 simp only [MP.ok, Bool.and_eq_true] at hp
 obtain ⟨⟨⟨hoH, hoF⟩, hobi⟩, hoA⟩ := hp
 refine wpIn_mono (hX (D := a.defers) none bb _ [] _ x fr1 [] h1 hex φ a w none n hg hbd rfl hf rfl hr) ?_
 rintro e1 a' w' ⟨φ1, hx, rfl, hf1, hd1, hr1⟩
 have hm : φ.m = p.hn + 1 := hr.cnt
 have hle : p.hn ≤ h1.n := by have := hx.cnt; rw [hm, hr1.cnt] at this; omega
 obtain ⟨iv, hB, hlt, hA⟩ := I.iv hle
 have old1 : ∀ b r, b < p.hn → (φ1 b = some r ↔ φ b = some r) := fun b r hb => by
  refine ⟨fun e => ?_, fun e => (hx.le b r e).1⟩
  rcases hx.only b r e with e | e
  ·exact e
  ·omega
 have old2 : ∀ b, b < p.hn → φ1 b = φ b := fun b hb => by
  cases h : φ b with
  | some r => exact (hx.le b r h).1
  | none =>
   cases h' : φ1 b with
   | none => rfl
   | some r => rw [(old1 b r hb).1 h'] at h; cases h
 have hlive1 : ∀ b, p.C b = true → (h1.get b).live := fun b hb => by
  simp only [MP.C, Bool.or_eq_true] at hb
  rcases hb with hb | hb
  ·obtain ⟨q, hq⟩ := hasK_iff.1 hb
   exact blOK1_live (inBk_live (okH_ok hoH b q hq).2.2) (blOK_mem I.bl b q hq)
  ·rw [Nat.eq_of_beq_eq_true hb, I.bi]; trivial
 obtain ⟨r', hr'⟩ : ∃ r', φ1 b' = some r' := by
  have hacc := I.acc
  unfold accOf at hacc
  split at hacc
  ·rename_i t _
   have := hf1.2 t
   rw [hacc] at this
   simp only [VR] at this
   obtain ⟨r, _, hr, _⟩ := this
   exact ⟨r, hr⟩
  ·rename_i ab ao hpl
   obtain ⟨ra, hra⟩ := hac ab ao hpl
   split at hacc
   ·rename_i l e0 g0 hq
    have hlo : l[ao]? = some (.sl (some (b', 0)) (k + 1) (.un p.sz)) := by
     rw [List.getD_eq_getElem?_getD] at hacc
     cases h : l[ao]? with
     | none => rw [h] at hacc; cases hacc
     | some z => rw [h] at hacc; simp only [Option.getD_some] at hacc; rw [hacc]
    obtain ⟨v, _, hv, _⟩ := hr1.cell (hx.le ab ra hra).1 hq hlo
    simp only [VR] at hv
    obtain ⟨r, _, hr, _⟩ := hv
    exact ⟨r, hr⟩
   ·cases hacc
 obtain ⟨o, ho, hbr⟩ := hr1.blk b' r' hr' (by rw [I.row]; trivial)
 rw [I.row] at hbr
 obtain ⟨c, rfl, hv, hcl, _, hcn⟩ := hbr
 rw [List.length_append, qsF_length, I.cl] at hv hcl
 have hv1 := hv.take (k * p.sz)
 have hv2 := hv.drop (k * p.sz)
 rw [List.take_append_of_le_length (by rw [qsF_length]; exact Nat.le_refl _), List.take_of_length_le (by rw [qsF_length]; exact Nat.le_refl _)] at hv1
 rw [List.drop_append_of_le_length (by rw [qsF_length]; exact Nat.le_refl _), List.drop_of_length_le (by rw [qsF_length]; exact Nat.le_refl _), List.nil_append] at hv2
 obtain ⟨q1, q2⟩ := qsF_inv _ _ _ hv1
 generalize hu : (c.toList.take (k * p.sz + p.sz)).drop (k * p.sz) = u at hv2
 have hul : u.length = p.sz := by rw [hv2.length, I.cl]
 have hu1 : ∀ v ∈ u, v.oneCell' = true := atoms_ok hv2 I.at_
 have hyy : φ1.y = φ.y := hx.le.yy
 let φ' : Ren := { f := fun b => if b < p.hn then φ1 b else if b = p.hn then φ1 b' else none, n := fun b => if b < p.hn then φ1.n b else φ1.n b', y := { φ.y with q := fun i => if i < k * p.sz then φ.q i else if i < k * p.sz + p.sz then u.getD (i - k * p.sz) undef else φ.q i }, m := p.hn + 1 }
 have f1 : ∀ b, b < p.hn → φ' b = φ1 b ∧ φ'.n b = φ1.n b := fun b hb => ⟨if_pos hb, if_pos hb⟩
 have f2 : φ' p.hn = φ1 b' ∧ φ'.n p.hn = φ1.n b' := ⟨(if_neg (Nat.lt_irrefl _)).trans (if_pos rfl), if_neg (Nat.lt_irrefl _)⟩
 have f3 : ∀ b r, φ' b = some r → (b < p.hn ∧ φ1 b = some r) ∨ (b = p.hn ∧ φ1 b' = some r) := fun b r e => by
  rcases Nat.lt_or_ge b p.hn with h | h
  ·exact .inl ⟨h, by rw [← (f1 b h).1]; exact e⟩
  ·by_cases hb : b = p.hn
   ·subst hb; exact .inr ⟨rfl, by rw [← f2.1]; exact e⟩
   ·have : φ' b = none := (if_neg (by omega)).trans (if_neg hb)
    rw [this] at e; cases e
 have hag : AgC p.C φ1 φ' := fun b r hb e => by
  have := f1 b (MP.C_lt hpk hb)
  exact ⟨this.1.trans e, this.2⟩
 have hrow : ∀ r, φ1 b' = some r → φ' p.hn = some r ∧ φ'.n p.hn = φ1.n b' := fun r e => ⟨f2.1.trans e, f2.2⟩
 have hq' : ∀ i, φ'.q i = if i < k * p.sz then φ.q i else if i < k * p.sz + p.sz then u.getD (i - k * p.sz) undef else φ.q i := fun _ => rfl
 have qu : ∀ j v, u[j]? = some v → φ'.q (k * p.sz + j) = v := fun j v h => by
  have : j < u.length := (List.getElem?_eq_some_iff.1 h).1
  rw [hq', if_neg (by omega), if_pos (by omega), Nat.add_sub_cancel_left, List.getD_eq_getElem?_getD, h]; rfl
 have mem : ∀ b q, (b, q) ∈ p.hl → b < p.hn ∧ b ≠ p.bi ∧ inBk p.C q = true := fun b q h => okH_ok hoH b q h
 have get : ∀ b, (hS p (k + 1) .gone).get b = if b = p.hn then rowB p (k + 1) else if b = p.bi then .gone else stB p (k + 1) b (lkB p.hl b) := fun b => hS_get _ _ _ _
 have back : ∀ b r, φ' b = some r → ((hS p (k + 1) .gone).get b).live → ∃ c, φ1 c = some r ∧ (h1.get c).live ∧ (((hS p (k + 1) .gone).get b).mut → (h1.get c).mut) ∧ ((b = p.hn ∧ c = b') ∨ (b < p.hn ∧ c = b ∧ (b, lkB p.hl b) ∈ p.hl)) := fun b r e hl => by
  rcases f3 b r e with ⟨hb, e1⟩ | ⟨rfl, e1⟩
  ·have hne : b ≠ p.hn := by omega
   rw [get, if_neg hne] at hl ⊢
   by_cases hbi : b = p.bi
   ·rw [if_pos hbi] at hl; exact hl.elim
   ·rw [if_neg hbi] at hl ⊢
    have hm := lkB_mem (stB_live.1 hl)
    have hb1 := blOK_mem I.bl b _ hm
    exact ⟨b, e1, blOK1_live (stB_live.1 hl) hb1, fun h => stB_mut h hb1, .inr ⟨hb, rfl, hm⟩⟩
  ·exact ⟨b', e1, by rw [I.row]; trivial, fun _ => by rw [I.row]; trivial, .inl ⟨rfl, rfl⟩⟩
 have hrn : HR φ' (hS p (k + 1) .gone) w' := by
  refine ⟨rfl, fun b r e => ?_, fun b r e hl => ?_, fun b b2 r e e2 hl hl2 => ?_, fun r o hk => ?_⟩
  ·rcases f3 b r e with ⟨hb, e1⟩ | ⟨rfl, e1⟩
   ·exact ⟨Nat.lt_succ_of_lt hb, (hr1.dom b r e1).2⟩
   ·exact ⟨Nat.lt_succ_self _, (hr1.dom b' r e1).2⟩
  ·obtain ⟨c2, g1, g2, _, g3⟩ := back b r e hl
   rcases g3 with ⟨rfl, rfl⟩ | ⟨hb, rfl, hm⟩
   ·rw [hr'] at g1; cases g1
    refine ⟨_, ho, ?_⟩
    rw [get, if_pos rfl, f2.2]
    refine ⟨c, rfl, ?_, ?_, (fun h => by cases h), hcn⟩
    ·rw [qsF_length, Nat.succ_mul]
     refine qsF_vrs _ _ _ (by rw [hv.length, List.length_append, qsF_length, I.cl]) fun j v hj => ?_
     rw [Nat.zero_add]
     rcases Nat.lt_or_ge j (k * p.sz) with hlt2 | hge
     ·have := q2 j v (by rw [List.getElem?_take, if_pos hlt2]; exact hj)
      rw [Nat.zero_add] at this
      rw [hq', if_pos hlt2]
      refine ⟨?_, this.2⟩
      rw [this.1]
      show φ1.y.q j = φ.y.q j
      rw [hyy]
     ·have hju : u[j - k * p.sz]? = some v := by
       rw [← hu, List.getElem?_drop, show k * p.sz + (j - k * p.sz) = j by omega]; exact hj
      have := qu _ _ hju
      rw [show k * p.sz + (j - k * p.sz) = j by omega] at this
      exact ⟨this.symm, hu1 v (List.mem_of_getElem? hju)⟩
    ·rw [qsF_length, Nat.succ_mul]; exact hcl
   ·have hb1 := blOK_mem I.bl c2 _ hm
    obtain ⟨o2, o3, o4⟩ := hr1.blk c2 r g1 g2
    refine ⟨o2, o3, ?_⟩
    rw [get, if_neg (by omega), if_neg (mem _ _ hm).2.1, (f1 c2 hb).2]
    exact blOK1_br hag I.acc hrow (mem _ _ hm).2.2 hb1 o4
  ·obtain ⟨c1, g1, g2, _, g3⟩ := back b r e hl
   obtain ⟨c2, k1, k2, _, k3⟩ := back b2 r e2 hl2
   have := hr1.inj c1 c2 r g1 k1 g2 k2
   have hb' := I.b1
   rcases g3 with ⟨rfl, rfl⟩ | ⟨hb, rfl, _⟩ <;> rcases k3 with ⟨rfl, rfl⟩ | ⟨hb2, rfl, _⟩
   ·rfl
   ·omega
   ·omega
   ·exact this
  ·have hk' : φ1.y.k r = some o := by rw [hyy]; exact hk
   obtain ⟨k1, k2⟩ := hr1.kp r o hk'
   refine ⟨k1, fun b e hmt => ?_⟩
   obtain ⟨c1, g1, _, g2, _⟩ := back b r e hmt.live
   exact k2 c1 g1 (g2 hmt)
 let ψ : Ren := { f := fun m => if m < cs.n then φ1 (SQ p.hn cs m) else none, n := fun m => φ1.n (SQ p.hn cs m), y := φ1.y, m := cs.n }
 have hψ : ∀ m r, ψ m = some r → m < cs.n ∧ φ1 (SQ p.hn cs m) = some r := fun m r e => by
  have e : (if m < cs.n then φ1 (SQ p.hn cs m) else none) = some r := e
  split at e
  ·rename_i h; exact ⟨h, e⟩
  ·cases e
 have bk : Bk cs.n (SQ p.hn cs) φ1 ψ := ⟨fun m hm => ⟨if_pos hm, rfl⟩⟩
 have sqs : ∀ m, p.hn ≤ m → m < cs.n → p.hn ≤ SQ p.hn cs m ∧ T.get 0 cs.s (SQ p.hn cs m) = m + 1 := fun m h1 h2 => by
  obtain ⟨b, g1, _, g2⟩ := iv.all m h1 h2
  rw [SQ_hi h1, (iv.ok b m g2).2.2]
  exact ⟨g1, g2⟩
 have sqn : ∀ m, p.hn ≤ m → m < cs.n → SQ p.hn cs m ≠ b' ∧ SQ p.hn cs m ≠ p.hn := fun m h1 h2 => by
  have := (sqs m h1 h2).2
  exact ⟨fun e => (by rw [e, I.nb] at this; cases this), fun e => (by rw [e, I.nh] at this; cases this)⟩
 have fsh1 : ∀ b r, p.hn < b → φ1 b = some r → Fsh φ w r := fun b r hb e => by
  rcases hx.nw b r e with e | ⟨_, e⟩
  ·have h3 : b < p.hn + 1 := (hr.dom b r e).1
   omega
  ·exact e
 refine ⟨?_, hd1, φ', u, ψ, ⟨hrn, fun b hb => ⟨(f1 b hb).1.trans (old2 b hb), fun r e => (f1 b hb).2.trans (hx.le b r e).2⟩, ⟨r', f2.1.trans hr', fsh1 b' r' I.b1 hr'⟩, fun r b e hb eb => ?_, rfl, fun i hi => (hq' i).trans (by rcases hi with h | h; exact if_pos h; rw [if_neg (by omega), if_neg (by omega)]), qu, hul, hu1, hx.dr, hx.size, hx.os, hx.tape, hx.output, hx.frame, fun m r hm e => ?_, ?_, ?_, fun m q hmq => ?_, fun m q m' q' r hm hm' e e' => ?_, by rw [← I.n]; exact I.nw, by rw [← I.n]; exact iv.g0⟩, ?_⟩
 ·have := I.x
  cases x with
  | n => exact .inl rfl
  | e j => exact .inr (by rw [X.exit, Nat.eq_of_beq_eq_true this])
  | r => cases this
 ·rw [f2.1] at e
  rw [(f1 b hb).1] at eb
  have := hr1.inj b _ r eb e (hlive1 b (hnm b r hb ((old1 b r hb).1 eb))) (by rw [I.row]; trivial)
  have := I.b1
  omega
 ·obtain ⟨_, e1⟩ := hψ m r e
  rw [SQ_lo hm] at e1
  have e2 := (old1 m r hm).1 e1
  refine ⟨e2, ?_⟩
  show φ.n m = φ1.n (SQ p.hn cs m)
  rw [SQ_lo hm]; exact (hx.le m r e2).2.symm
 ·exact rnVs_inv bk _ _ hlt (by rw [hA]; exact hv2)
 ·rw [← I.n]; exact hlt
 ·obtain ⟨g1, g2⟩ := outG_ok I.out m q hmq
  obtain ⟨_, g3, g4⟩ := hB m q hmq
  refine ⟨g1, by rw [← I.n]; exact g2, by rw [← I.n]; exact g3, fun r e => ?_⟩
  obtain ⟨_, e1⟩ := hψ m r e
  have hlv : (h1.get (SQ p.hn cs m)).live := by rw [g4]; exact ltB_live g3
  obtain ⟨s1, s2⟩ := sqn m g1 g2
  have s0 := (sqs m g1 g2).1
  refine ⟨(hr1.dom _ _ e1).2, fsh1 _ r (by omega) e1, fun b eb => ?_, ?_⟩
  ·rcases f3 b r eb with ⟨hb, e2⟩ | ⟨rfl, e2⟩
   ·have hC := hnm b r hb ((old1 b r hb).1 e2)
    have := hr1.inj b _ r e2 e1 (hlive1 b hC) hlv
    omega
   ·exact s1 (hr1.inj _ _ r e1 e2 hlv (by rw [I.row]; trivial))
  ·obtain ⟨o2, o3, o4⟩ := hr1.blk _ r e1 hlv
   rw [g4] at o4
   exact ⟨o2, o3, rnB_inv bk g3 o4⟩
 ·obtain ⟨_, g3, g4⟩ := hB m q hm
  obtain ⟨_, g3', g4'⟩ := hB m' q' hm'
  obtain ⟨h2, e1⟩ := hψ m r e
  obtain ⟨h2', e1'⟩ := hψ m' r e'
  exact iv.inj h2 h2' (hr1.inj _ _ r e1 e1' (by rw [g4]; exact ltB_live g3) (by rw [g4']; exact ltB_live g3'))
 ·refine ⟨hf1.1.trans I.fn, fun t => ?_⟩
  rw [frS_get]
  have low : VR φ' (lkV p.fl t) (a'.tmps.getD t undef) := by
   have := hf1.2 t
   rcases frOK_get I.fr t with h | h
   ·rw [h]; simp only [VR]
   ·rw [h] at this
    have hoF' := okF_ok hoF t
    simp only [Bool.or_eq_true] at hoF'
    rcases hoF' with h2 | h2
    ·exact inV_ok hag _ _ h2 this
    ·obtain ⟨z, hz, hzq⟩ := isQm_ok h2
     rw [hz] at this ⊢
     simp only [VR] at this ⊢
     refine ⟨?_, this.2⟩
     rw [hq', if_neg (by omega), if_neg (by omega), this.1]
     show φ1.y.q z = φ.y.q z
     rw [hyy]
  split
  ·rename_i t' hpl
   by_cases ht : t = t'
   ·rw [if_pos ht]
    have := hf1.2 t
    have hacc := I.acc
    unfold accOf at hacc
    rw [hpl] at hacc
    simp only at hacc
    rw [ht, hacc] at this
    rw [ht]
    exact acc_vr hrow this
   ·rw [if_neg ht]; exact low
  ·exact low
end
end Go.Ev
namespace Go.Ev
noncomputable section
theorem HR.wkS {φ : Ren} {h : H} {w : World} (hr : HR φ h w) (k : Nat → Option Obj) (hk : ∀ r o, k r = some o → φ.y.k r = some o) : HR (φ.wk k) h w :=
 ⟨hr.cnt, hr.dom, fun b r e hl => by
  obtain ⟨o, h1, h2⟩ := hr.blk b r e hl
  exact ⟨o, h1, (wk_eqv φ k).br h2⟩, hr.inj, fun r o e => hr.kp r o (hk r o e)⟩
structure Fg (p : MP) (φ0 : Ren) (w0 : World) (ck : Chk) (φ : Ren) (w : World) (u : List Value) (ψ : Ren) : Prop where
 lo : ∀ m r, m < p.hn → ψ m = some r → φ0 m = some r ∧ φ0.n m = ψ.n m
 cs : VRs ψ ck.1 u
 lt : ltVs ck.2.2 ck.1
 blk : ∀ m q, (m, q) ∈ ck.2.1 → p.hn ≤ m ∧ m < ck.2.2 ∧ ltB ck.2.2 q ∧ ∀ r, ψ m = some r → r < w.heap.size ∧ Fsh φ0 w0 r ∧ (∀ b, φ b ≠ some r) ∧ ∃ o, w.heap[r]? = some o ∧ BR ψ (ψ.n m) q o
 inj : ∀ m q m' q' r, (m, q) ∈ ck.2.1 → (m', q') ∈ ck.2.1 → ψ m = some r → ψ m' = some r → m = m'
 nw : newB ck.2.1 p.hn (ck.2.2 - p.hn) = true
 le : p.hn ≤ ck.2.2
section
variable (p : MP) (φ0 : Ren) (w0 : World) (rI rm since : Nat) (es : List (V × V × Nat)) (k0 : Nat) (cks : List Chk) (ps0 : List (List Value)) (D : List Deferred)
def bo (i : Nat) : Nat := match es[i]? with | some e => e.2.2 | none => 0
structure RI (φ : Ren) (us : Nat → List Value) (ψs : Nat → Ren) (dn : List Nat) (a : Act) (w : World) : Prop where
 hr : HR φ (hS p (k0 + dn.length) .gone) w
 fr : FR φ (frS p (k0 + dn.length)) a.tmps
 df : a.defers = D
 old : ∀ b, b < p.hn → φ b = φ0 b ∧ (∀ r, φ0 b = some r → φ.n b = φ0.n b)
 row : ∀ r, φ p.hn = some r → Fsh φ0 w0 r ∧ ∀ b, b < p.hn → φ b ≠ some r
 yk : φ.y = { φ0.y with q := φ.y.q }
 cl : (ps0 ++ dn.map us).flatten.length = (k0 + dn.length) * p.sz
 cq : ∀ j v, (ps0 ++ dn.map us).flatten[j]? = some v → φ.q j = v ∧ v.oneCell' = true
 qz : ∀ z, p.qm ≤ z → φ.q z = φ0.q z
 it : ∃ c, since ≤ c ∧ w.heap[rI]? = some (.mapIter (some rm) since (dn.map (bo es)).toArray c)
 nd : dn.Nodup
 sub : ∀ i ∈ dn, i < es.length
 dr : φ0.y.d = true → w0.drawn ≤ w.drawn
 size : w0.heap.size ≤ w.heap.size
 os : w.os = w0.os
 tape : w.tape = w0.tape
 output : w.output = w0.output
 frame : ∀ r, r < w0.heap.size → (∀ b, φ0 b ≠ some r) → w.heap[r]? = w0.heap[r]?
 fg : ∀ i ∈ dn, ∀ ck, cks[i]? = some ck → Fg p φ0 w0 ck φ w (us i) (ψs i)
 dj : ∀ i ∈ dn, ∀ j ∈ dn, i ≠ j → ∀ ci cj, cks[i]? = some ci → cks[j]? = some cj → ∀ m q m' q' r, (m, q) ∈ ci.2.1 → (m', q') ∈ cj.2.1 → ψs i m = some r → ψs j m' ≠ some r
end
section
variable {p : MP} {φ0 : Ren} {w0 : World} {rI rm since : Nat} {es : List (V × V × Nat)} {k0 : Nat} {cks : List Chk} {ps0 : List (List Value)} {D : List Deferred}
theorem RI.snoc (hI : φ0 p.bi = some rI) (hbi : p.bi < p.hn) (hk0 : φ0.y.k rI = none) {φ : Ren} {us : Nat → List Value} {ψs : Nat → Ren} {dn : List Nat} {a : Act} {w : World} (R : RI p φ0 w0 rI rm since es k0 cks ps0 D φ us ψs dn a w)
  {i clk : Nat} (hqm : (k0 + dn.length) * p.sz + p.sz ≤ p.qm) (hi : i ∉ dn) (hil : i < es.length) {ck : Chk} (hck : cks[i]? = some ck) {w2 : World} (hsc : since ≤ clk) {ob : Obj} (hob : ob = .mapIter (some rm) since ((dn ++ [i]).map (bo es)).toArray clk)
  (s1 : w2.heap.size = w.heap.size) (s2 : ∀ s, s ≠ rI → w2.heap[s]? = w.heap[s]?) (s3 : w.drawn ≤ w2.drawn) (s4 : w2.os = w.os) (s5 : w2.tape = w.tape) (s6 : w2.output = w.output)
  {φ' : Ren} {u : List Value} {ψ : Ren} {w' : World} {a' : Act} (hR : Rnd p (k0 + dn.length) ck (φ.wk fun r => if r = rI then some ob else φ.y.k r) w2 φ' u ψ w') (hf : FR φ' (frS p (k0 + dn.length + 1)) a'.tmps) (hd : a'.defers = D) :
  ∃ φ'' us' ψs', RI p φ0 w0 rI rm since es k0 cks ps0 D φ'' us' ψs' (dn ++ [i]) a' w' := by
 let kk : Nat → Option Obj := fun r => if r = rI then some ob else φ.y.k r
 have ykk : φ.y.k = φ0.y.k := by rw [R.yk]
 have hkI : φ.y.k rI = none := by rw [ykk]; exact hk0
 have hφI : φ p.bi = some rI := (R.old p.bi hbi).1.trans hI
 have y' : φ'.y.k = kk := by rw [hR.yk]; rfl
 have hlen : (dn ++ [i]).length = dn.length + 1 := by simp
 let us' : Nat → List Value := fun j => if j = i then u else us j
 let ψs' : Nat → Ren := fun j => if j = i then ψ else ψs j
 have hus : ∀ j ∈ dn, us' j = us j := fun j hj => if_neg (fun (e : j = i) => hi (by rw [← e]; exact hj))
 have hψs : ∀ j ∈ dn, ψs' j = ψs j := fun j hj => if_neg (fun (e : j = i) => hi (by rw [← e]; exact hj))
 have husi : us' i = u := if_pos rfl
 have hψsi : ψs' i = ψ := if_pos rfl
 have hmap : (dn ++ [i]).map us' = dn.map us ++ [u] := by
  rw [List.map_append, List.map_congr_left hus]
  simp [husi]
 have hfl : (ps0 ++ (dn ++ [i]).map us').flatten = (ps0 ++ dn.map us).flatten ++ u := by
  rw [hmap, ← List.append_assoc, List.flatten_append]; simp
 have fsh : ∀ r, Fsh (φ.wk kk) w2 r → Fsh φ0 w0 r ∧ (r < w.heap.size → ∃ b, φ b = some r) := fun r h => by
  rcases h with h | ⟨⟨b, hb⟩, hk⟩
  ·rw [s1] at h
   have := R.size
   exact ⟨.inl (by omega), fun h' => by omega⟩
  ·have hb : φ b = some r := hb
   refine ⟨?_, fun _ => ⟨b, hb⟩⟩
   have hk : kk r = none := hk
   have hkr : φ0.y.k r = none := by
    have : kk r = if r = rI then some ob else φ.y.k r := rfl
    rw [this] at hk
    split at hk
    ·cases hk
    ·rw [← ykk]; exact hk
   rcases Nat.lt_or_ge b p.hn with h | h
   ·exact .inr ⟨⟨b, by rw [← (R.old b h).1]; exact hb⟩, hkr⟩
   ·have : b < p.hn + 1 := (R.hr.dom b r hb).1
    have : b = p.hn := by omega
    subst this
    exact (R.row r hb).1
 have old' : ∀ b, b < p.hn → φ' b = φ b := fun b hb => (hR.old b hb).1
 have fr1 : ∀ r, r < w.heap.size → r ≠ rI → (∀ b, φ b ≠ some r) → w'.heap[r]? = w.heap[r]? := fun r h1 h2 h3 =>
  (hR.frame r (by rw [s1]; exact h1) h3).trans (s2 r h2)
 have keep : ∀ r, r < w.heap.size → (∀ b, φ b ≠ some r) → ∀ b, (φ'.wk φ.y.k) b ≠ some r := fun r h1 h2 b e => by
  have e : φ' b = some r := e
  have hdm : b < p.hn + 1 := (hR.hr.dom b r e).1
  rcases Nat.lt_or_ge b p.hn with h | h
  ·exact h2 b (by rw [← old' b h]; exact e)
  ·have : b = p.hn := by omega
   subst this
   obtain ⟨r2, e2, h3⟩ := hR.row
   rw [e] at e2; cases e2
   obtain ⟨b2, hb2⟩ := (fsh r h3).2 h1
   exact h2 b2 hb2
 refine ⟨φ'.wk φ.y.k, us', ψs', ?_, ?_, hd, fun b hb => ⟨(old' b hb).trans (R.old b hb).1, fun r e => ?_⟩, fun r e => ?_, ?_, ?_, fun j v hj => ?_, fun z hz => (hR.q0 z (.inr (by omega))).trans (R.qz z hz), ⟨clk, hsc, ?_⟩, ?_, fun j hj => ?_, fun hdd => Nat.le_trans (R.dr hdd) (Nat.le_trans s3 (hR.dr (by show φ.y.d = true; rw [R.yk]; exact hdd))), Nat.le_trans R.size (by rw [← s1]; exact hR.size), hR.os.trans (s4.trans R.os), hR.tape.trans (s5.trans R.tape), hR.output.trans (s6.trans R.output), fun r h1 h2 => ?_, fun j hj ck' hck' => ?_, fun j hj j2 hj2 hne ci cj hci hcj m q m' q' r hm hm' e e' => ?_⟩
 ·rw [hlen]
  refine hR.hr.wkS _ fun r o h => ?_
  rw [y']
  show (if r = rI then some ob else φ.y.k r) = some o
  by_cases hrI : r = rI
  ·rw [hrI, hkI] at h; cases h
  ·rw [if_neg hrI]; exact h
 ·rw [hlen]; exact (wk_eqv φ' φ.y.k).frr hf
 ·have e1 := (R.old b hb).1.trans e
  exact ((hR.old b hb).2 r e1).trans ((R.old b hb).2 r e)
 ·have e : φ' p.hn = some r := e
  obtain ⟨r2, e2, h3⟩ := hR.row
  rw [e] at e2; cases e2
  exact ⟨(fsh r h3).1, fun b hb => hR.rowd r b e hb⟩
 ·show ({ φ'.y with k := φ.y.k } : Sym) = { φ0.y with q := φ'.y.q }
  rw [hR.yk]
  show ({ φ.y with k := φ.y.k, q := φ'.y.q } : Sym) = _
  rw [R.yk]
 ·rw [hfl, List.length_append, R.cl, hR.ul, hlen, ← Nat.add_assoc, Nat.succ_mul]
 ·rw [hfl] at hj
  show φ'.q j = v ∧ _
  rcases Nat.lt_or_ge j ((k0 + dn.length) * p.sz) with h | h
  ·rw [List.getElem?_append_left (by rw [R.cl]; exact h)] at hj
   have := R.cq j v hj
   exact ⟨(hR.q0 j (.inl h)).trans this.1, this.2⟩
  ·rw [List.getElem?_append_right (by rw [R.cl]; exact h), R.cl] at hj
   have := hR.q1 _ v hj
   rw [show (k0 + dn.length) * p.sz + (j - (k0 + dn.length) * p.sz) = j by omega] at this
   exact ⟨this, hR.u1 v (List.mem_of_getElem? hj)⟩
 ·rw [← hob]
  exact (hR.hr.kp rI ob (by rw [y']; show (if rI = rI then some ob else φ.y.k rI) = some ob; rw [if_pos rfl])).1
 ·rw [List.nodup_append]
  exact ⟨R.nd, by simp, fun x hx y hy e => by
   simp only [List.mem_singleton] at hy
   exact hi (by rw [← hy, ← e]; exact hx)⟩
 ·rcases List.mem_append.1 hj with h | h
  ·exact R.sub j h
  ·rw [List.mem_singleton.1 h]; exact hil
 ·have hne : r ≠ rI := fun e => h2 p.bi (by rw [e]; exact hI)
  rw [← R.frame r h1 h2]
  refine fr1 r (Nat.lt_of_lt_of_le h1 R.size) hne fun b e => ?_
  have hdm : b < p.hn + 1 := (R.hr.dom b r e).1
  rcases Nat.lt_or_ge b p.hn with h | h
  ·exact h2 b (by rw [← (R.old b h).1]; exact e)
  ·have : b = p.hn := by omega
   subst this
   rcases (R.row r e).1 with h3 | ⟨⟨b2, h3⟩, _⟩
   ·omega
   ·exact h2 b2 h3
 ·rcases List.mem_append.1 hj with h | h
  ·rw [hus j h, hψs j h]
   obtain ⟨g1, g2, g3, g4, g5, g6, g7⟩ := R.fg j h ck' hck'
   refine ⟨g1, g2, g3, fun m q hm => ?_, g5, g6, g7⟩
   obtain ⟨k1, k2, k3, k4⟩ := g4 m q hm
   refine ⟨k1, k2, k3, fun r e => ?_⟩
   obtain ⟨l1, l2, l3, o, l4, l5⟩ := k4 r e
   have hne : r ≠ rI := fun e => l3 p.bi (by rw [e]; exact hφI)
   refine ⟨Nat.lt_of_lt_of_le l1 (by rw [← s1]; exact hR.size), l2, keep r l1 l3, o, ?_, l5⟩
   rw [fr1 r l1 hne l3]; exact l4
  ·have := List.mem_singleton.1 h
   subst this
   rw [hck] at hck'; cases hck'
   rw [husi, hψsi]
   refine ⟨fun m r hm e => ?_, hR.cs, hR.lt, fun m q hm => ?_, hR.inj, hR.nw, hR.le⟩
   ·obtain ⟨e1, e2⟩ := hR.lo m r hm e
    have e1 : φ m = some r := e1
    have e3 := (R.old m hm).1.symm.trans e1
    exact ⟨e3, by rw [← (R.old m hm).2 r e3]; exact e2⟩
   ·obtain ⟨k1, k2, k3, k4⟩ := hR.blk m q hm
    refine ⟨k1, k2, k3, fun r e => ?_⟩
    obtain ⟨l1, l2, l3, l4⟩ := k4 r e
    exact ⟨l1, (fsh r l2).1, l3, l4⟩
 ·
  have apart : ∀ j ∈ dn, ∀ cj, cks[j]? = some cj → ∀ m q m' q' r, (m, q) ∈ cj.2.1 → (m', q') ∈ ck.2.1 → ψs j m = some r → ψ m' = some r → False := fun j hj cj hcj m q m' q' r hm hm' e e' => by
   obtain ⟨_, _, _, k4⟩ := (R.fg j hj cj hcj).blk m q hm
   obtain ⟨l1, _, l3, _⟩ := k4 r e
   obtain ⟨_, _, _, k4'⟩ := hR.blk m' q' hm'
   obtain ⟨_, l2', _, _⟩ := k4' r e'
   obtain ⟨b, hb⟩ := (fsh r l2').2 l1
   exact l3 b hb
  rcases List.mem_append.1 hj with h | h
  ·rw [hψs j h] at e
   rcases List.mem_append.1 hj2 with h2 | h2
   ·rw [hψs j2 h2] at e'
    exact R.dj j h j2 h2 hne ci cj hci hcj m q m' q' r hm hm' e e'
   ·have := List.mem_singleton.1 h2
    subst this
    rw [hck] at hcj; cases hcj
    rw [hψsi] at e'
    exact apart j h ci hci m q m' q' r hm hm' e e'
  ·have := List.mem_singleton.1 h
   subst this
   rw [hck] at hci; cases hci
   rw [hψsi] at e
   rcases List.mem_append.1 hj2 with h2 | h2
   ·rw [hψs j2 h2] at e'
    exact apart j2 h2 cj hcj m' q' m q r hm' hm e' e
   ·exact hne (List.mem_singleton.1 h2).symm
end
end
end Go.Ev
namespace Go.Ev
noncomputable section
theorem ERs.at {φ : Ren} : ∀ {x : List (V × V × Nat)} {l : List MapEntry}, ERs φ x l → ∀ {i : Nat} {e : MapEntry}, l[i]? = some e → ∃ en, x[i]? = some en ∧ VR φ en.1 e.key ∧ VR φ en.2.1 e.val ∧ e.born = en.2.2
 | [], l, h, i, e, he => by simp only [ERs] at h; subst h; simp at he
 | (k, v, n) :: xs, l, h, i, e, he => by
  simp only [ERs] at h
  obtain ⟨e1, es, rfl, h1, h2, h3, h4⟩ := h
  cases i with
  | zero =>
   simp only [List.getElem?_cons_zero, Option.some.injEq] at he; subst he
   exact ⟨_, rfl, h1, h2, h3⟩
  | succ i => exact h4.at (by simpa using he)
theorem ERs.len {φ : Ren} : ∀ {x : List (V × V × Nat)} {l : List MapEntry}, ERs φ x l → l.length = x.length
 | [], l, h => by simp only [ERs] at h; subst h; rfl
 | (k, v, n) :: xs, l, h => by
  simp only [ERs] at h
  obtain ⟨e1, es, rfl, _, _, _, h4⟩ := h
  simp [h4.len]
theorem ERs.borns {φ : Ren} : ∀ {x : List (V × V × Nat)} {l : List MapEntry}, ERs φ x l → l.map (·.born) = x.map (·.2.2)
 | [], l, h => by simp only [ERs] at h; subst h; rfl
 | (k, v, n) :: xs, l, h => by
  simp only [ERs] at h
  obtain ⟨e1, es, rfl, _, _, h3, h4⟩ := h
  simp [h4.borns, h3]
theorem loop_inv {ro : Option Nat} {n : Nat} {P : Program} {c : Code} {Q : Exit → Act → World → Prop} (N : Nat) (Inv : Nat → Act → World → Prop)
  (step : ∀ i a w, i < N → Inv i a w → c.wpIn (W ro) n P (fun e a' w' => e = .normal ∧ Inv (i + 1) a' w') a w)
  (last : ∀ a w, Inv N a w → c.wpIn (W ro) n P (fun e a' w' => e ≠ .normal ∧ Q e a' w') a w) {a : Act} {w : World} (h0 : Inv 0 a w) : (Code.loop c).wpIn (W ro) n P Q a w := by
 have key : ∀ k i a w, i + k = N → Inv i a w → Code.roundsIn (W ro) n P c Q (k + 1) a w := by
  intro k
  induction k with
  | zero =>
   intro i a w hi hinv
   rw [roundsIn_succ]
   have : i = N := by omega
   subst this
   refine wpIn_mono (last a w hinv) ?_
   rintro e a' w' ⟨hne, hq⟩
   cases e <;> first | exact absurd rfl hne | exact hq
  | succ k ih =>
   intro i a w hi hinv
   rw [roundsIn_succ]
   refine wpIn_mono (step i a w (by omega) hinv) ?_
   rintro e a' w' ⟨rfl, hq⟩
   exact ih (i + 1) a' w' (by omega) hq
 exact wpIn_loop_rounds (N + 1) (key N 0 a w (by omega) h0)
theorem nodup_get {l : List Nat} (h : l.Nodup) {i j : Nat} {x : Nat} (h1 : l[i]? = some x) (h2 : l[j]? = some x) : i = j := by
 obtain ⟨a, a'⟩ := List.getElem?_eq_some_iff.1 h1
 obtain ⟨b, b'⟩ := List.getElem?_eq_some_iff.1 h2
 exact (List.getElem_inj h).1 (a'.trans b'.symm)
structure Rs (E : Env) (ex : ExecT) (p : MP) (m : ML) (φ0 : Ren) (w0 : World) (rI rm since : Nat) (es : List (V × V × Nat)) (clk k0 : Nat) (cks : List Chk) : Prop where
 ok : p.ok = true
 hI : φ0 p.bi = some rI
 kI : φ0.y.k rI = none
 hIu : ∀ c, c < p.hn → φ0 c = some rI → c = p.bi
 mp : lkB p.hl p.mN = .mp es clk
 hm : φ0 p.mN = some rm
 nd : (es.map (·.2.2)).Nodup
 lt : ∀ e ∈ es, e.2.2 < since
 sc : since ≤ clk
 nm : ∀ b r, b < p.hn → φ0 b = some r → p.C b = true
 ac : ∀ ab ao, p.pl = .inr (ab, ao) → ab < p.hn ∧ ∃ r, φ0 ab = some r
 gl : GL E.ng φ0
 ng : E.ng ≤ p.hn
 it : lkV p.fl m.it = .p (some (p.bi, 0))
 itn : p.pl ≠ .inl m.it
 tn : m.tn < p.fn
 tm : m.tm < p.fn
 rn : ∀ (j i : Nat) (en : V × V × Nat) (ck : Chk), j < es.length → es[i]? = some en → cks[i]? = some ck → rnd p ex none m.bb m.nx m.tn m.tm clk en (k0 + j) = some ck
 cl : cks.length = es.length
 qb : (k0 + es.length) * p.sz ≤ p.qm
theorem mlOps_some {ops : Array Oper} {it tn tm : Nat} (h : mlOps ops = some (it, tn, tm)) : ∃ o1 o2, ops = ⟨[o1, o2]⟩ ∧ o1.dst = some tn ∧ o1.op = .next (.tmp it) false ∧ o1.guard = none ∧ o2.dst = some tm ∧ o2.op = .extract (.tmp tn) 0 ∧ o2.guard = none := by
 unfold mlOps at h
 split at h
 ·rename_i tn' it' _ _ _ tm' tn'' _ _ _
  obtain ⟨h1, h2⟩ := cond_some h
  cases h2
  rw [← Nat.eq_of_beq_eq_true h1]
  exact ⟨_, _, rfl, rfl, rfl, rfl, rfl, rfl, rfl⟩
 ·cases h
theorem pass_ok {E : Env} {ex : ExecT} (hX : ExecOK E ex) {p : MP} {m : ML} {φ0 : Ren} {w0 : World} {rI rm since : Nat} {es : List (V × V × Nat)} {clk k0 : Nat} {cks : List Chk} {ps0 : List (List Value)} {D : List Deferred}
  (hbd : ∀ ψ : Ren, ψ.y.d = φ0.y.d → BD E ψ) (S : Rs E ex p m φ0 w0 rI rm since es clk k0 cks) {id g : Nat} {ops : Array Oper} (hops : mlOps ops = some (m.it, m.tn, m.tm)) {φ : Ren} {us : Nat → List Value} {ψs : Nat → Ren} {dn : List Nat} {a : Act} {w : World}
  (R : RI p φ0 w0 rI rm since es k0 cks ps0 D φ us ψs dn a w) (n : Nat) :
  (Code.seq (.region g ops false) (.seq (.cond (.tmp m.tm) .skip (.exit id)) (.block m.nx m.bb))).wpIn (W none) n E.P (fun e a' w' =>
   (e = .normal ∧ dn.length < es.length ∧ ∃ i φ' us' ψs', RI p φ0 w0 rI rm since es k0 cks ps0 D φ' us' ψs' (dn ++ [i]) a' w') ∨
   (e = .exit id ∧ es.length ≤ dn.length ∧ w' = w ∧ a'.defers = D ∧ FR φ (((frS p (k0 + dn.length)).set m.tn (.t [.b false])).set m.tm (.b false)) a'.tmps)) a w := by
 obtain ⟨o1, o2, rfl, d1, p1, g1, d2, p2, g2⟩ := mlOps_some hops
 have hok := S.ok
 simp only [MP.ok, Bool.and_eq_true] at hok
 obtain ⟨⟨⟨hoH, hoF⟩, hobi⟩, hoA⟩ := hok
 have hbi : p.bi < p.hn := blt_iff.1 hobi
 have hφI : φ p.bi = some rI := (R.old p.bi hbi).1.trans S.hI
 have hmem : (p.mN, Blk.mp es clk) ∈ p.hl := by
  have := lkB_mem (L := p.hl) (j := p.mN) (by rw [S.mp]; trivial)
  rw [S.mp] at this; exact this
 obtain ⟨hmn, hmb, _⟩ := okH_ok hoH _ _ hmem
 have hφm : φ p.mN = some rm := (R.old p.mN hmn).1.trans S.hm
 have getM : ∀ k x, (hS p k x).get p.mN = .mp es clk := fun k x => by
  rw [hS_get, if_neg (by omega), if_neg hmb, S.mp]
  unfold stB
  split
  ·rfl
  ·split <;> rfl
 obtain ⟨om, hom, hbm⟩ := R.hr.blk p.mN rm hφm (by rw [getM]; trivial)
 rw [getM] at hbm
 obtain ⟨es', rfl, hes⟩ := hbm
 obtain ⟨c, hsc, hit⟩ := R.it
 have hbo : ∀ i en, es[i]? = some en → bo es i = en.2.2 := fun i en h => by unfold bo; rw [h]
 have hval : a.eval (.tmp m.it) = .pointer (some ⟨rI, 0, none⟩) := by
  have := R.fr.2 m.it
  rw [frS_get] at this
  have h : VR φ (lkV p.fl m.it) (a.tmps.getD m.it undef) := by
   split at this
   ·rename_i t' hpl
    rw [if_neg (fun e => S.itn (by rw [hpl, e]))] at this
    exact this
   ·exact this
  rw [S.it] at h
  simp only [VR] at h
  obtain ⟨r, hr, hv⟩ := h
  rw [hφI] at hr; cases hr
  exact hv
 have hfn : (frS p (k0 + dn.length)).n = p.fn := rfl
 have hborns : es'.toList.map (·.born) = es.map (·.2.2) := hes.borns
 have hleft := run_next_at (P := E.P) w o1.type rI rm since c (dn.map (bo es)).toArray es' clk hit hom (fun x hx => by
  obtain ⟨i, hi⟩ := List.mem_iff_getElem?.1 hx
  obtain ⟨en, e1, _, _, e2⟩ := hes.at hi
  rw [e2]; exact S.lt en (List.mem_of_getElem? e1)) hsc
 have hw1 : ∀ t : Array Value, Region.wanted o1 (yielded ⟨[o1, o2]⟩ t) = true := fun t => by simp [Region.wanted, g1]
 have hw2 : ∀ t : Array Value, Region.wanted o2 (yielded ⟨[o1, o2]⟩ t) = true := fun t => by simp [Region.wanted, g2]
 have hd1 : ∀ c, o1.op ≠ .defer c := fun c e => by rw [p1] at e; cases e
 have hd2 : ∀ c, o2.op ≠ .defer c := fun c e => by rw [p2] at e; cases e
 have ext : ∀ (fr : Fr) (w' : World) (a' : Act) (vs : List Value) (x : Bool) (φ' : Ren) {Q : Exit → Act → World → Prop}, FR φ' fr a'.tmps → fr.n = p.fn → fr.get m.tn = .top ∨ True → a'.tmps.getD m.tn undef = .tuple (.bool x :: vs).toArray →
   (∀ a'', FR φ' (fr.set m.tm (.b x)) a''.tmps → a''.defers = a'.defers → a''.eval (.tmp m.tm) = .bool x → Q .normal a'' w') → wpListIn (W none) n E.P ⟨[o1, o2]⟩ Q [o2] a' w' := fun fr w' a' vs x φ' Q hf' hfn' _ hg hQ => by
  simp only [wpListIn, hw2, if_true]
  refine ⟨fun _ _ => trivial, ?_⟩
  rw [Oper.semAt_eq _ _ _ hd2]
  have he : (execOp a'.eval o2).run E.P w' = .ok (.value (.bool x)) w' := by
   have : a'.eval (.tmp m.tn) = .tuple (.bool x :: vs).toArray := hg
   simp [execOp, p2, this, Instr.extract]
  rw [he]
  have hlt : m.tm < fr.n := by rw [hfn']; exact S.tm
  show Q .normal (a'.put o2.dst (.bool x)) w'
  rw [d2]
  refine hQ _ (hf'.put hlt (by simp only [VR])) rfl ?_
  have hs : m.tm < a'.tmps.size := by rw [hf'.1]; exact hlt
  simp [Act.eval, Act.put, Array.getD, hs]
 refine wpIn_seq (wpIn_region_list ?_)
 show wpListIn (W none) n E.P ⟨[o1, o2]⟩ _ [o1, o2] a w
 unfold wpListIn
 simp only [hw1, if_true]
 refine ⟨fun _ _ => trivial, ?_⟩
 rw [Oper.semAt_eq _ _ _ hd1]
 rcases hleft with ⟨hl0, hrun⟩ | ⟨en', hen, w1, hw, hrun⟩
 ·
  have he : (execOp a.eval o1).run E.P w = .ok (.value (.tuple #[.bool false])) w := by
   simp only [execOp, p1, hval]
   simp [hrun]
  rw [he]
  show wpListIn (W none) n E.P ⟨[o1, o2]⟩ _ [o2] (a.put o1.dst (.tuple #[.bool false])) w
  rw [d1]
  have hlt : m.tn < (frS p (k0 + dn.length)).n := S.tn
  have hf1 := R.fr.put (x := .t [.b false]) (v := .tuple #[.bool false]) hlt (by simp only [VR]; exact ⟨_, rfl, VRs.cons (by simp only [VR]) VRs.nil⟩)
  refine ext _ w (a.put (some m.tn) (.tuple #[.bool false])) [] false φ hf1 rfl (.inr trivial) ?_ fun a2 hf2 hd hv => ?_
  ·have hs : m.tn < a.tmps.size := by rw [R.fr.1]; exact hlt
   simp [Act.put, Array.getD, hs]
  ·refine wpIn_seq (wpIn_cond_false hv (wpIn_exit (.inr ⟨rfl, ?_, rfl, by rw [hd]; exact R.df, hf2⟩)))
   have hall := all_seen es' _ hl0
   have hsub : ∀ i ∈ List.range es.length, i ∈ dn := fun i hi => by
    have hi := List.mem_range.1 hi
    have hi' : i < es'.toList.length := by rw [hes.len]; exact hi
    have h1 := List.getElem?_eq_getElem hi'
    obtain ⟨en, e1, _, _, e2⟩ := hes.at h1
    have := hall _ (List.mem_of_getElem? h1)
    simp only [List.contains_toArray, List.contains_iff_mem, List.mem_map] at this
    obtain ⟨j, hj, hjb⟩ := this
    have hjl := R.sub j hj
    have hj1 := List.getElem?_eq_getElem hjl
    have : i = j := nodup_get S.nd (x := en.2.2) (by simp [List.getElem?_map, e1]) (by
     rw [List.getElem?_map, hj1]
     simp only [Option.map_some]
     rw [hbo j _ hj1, e2] at hjb
     rw [hjb])
    rw [this]; exact hj
   have := sub_length List.nodup_range hsub
   simpa using this
 ·
  obtain ⟨hem, hns⟩ := mem_left hen
  obtain ⟨i, hi⟩ := List.mem_iff_getElem?.1 hem
  obtain ⟨en, e1, e2, e3, e4⟩ := hes.at hi
  have hil : i < es.length := (List.getElem?_eq_some_iff.1 e1).1
  have hid : i ∉ dn := fun h => by
   have : ((dn.map (bo es)).toArray.contains en'.born) = true := by
    simp only [List.contains_toArray, List.contains_iff_mem, List.mem_map]
    exact ⟨i, h, by rw [hbo i en e1, e4]⟩
   rw [this] at hns; cases hns
  have hdl : dn.length < es.length := by
   have h1 : (dn ++ [i]).Nodup := by
    rw [List.nodup_append]
    exact ⟨R.nd, by simp, fun x hx y hy e => by
     simp only [List.mem_singleton] at hy
     exact hid (by rw [← hy, ← e]; exact hx)⟩
   have := sub_length h1 (m := List.range es.length) fun x hx => by
    rcases List.mem_append.1 hx with h | h
    ·exact List.mem_range.2 (R.sub x h)
    ·rw [List.mem_singleton.1 h]; exact List.mem_range.2 hil
   simp at this
   omega
  let ob : Obj := .mapIter (some rm) since ((dn.map (bo es)).toArray.push en'.born) clk
  let w2 : World := ChangeMaps.setBlock w1 rI ob
  have hw1h : w1.heap = w.heap ∧ w.drawn ≤ w1.drawn ∧ w1.os = w.os ∧ w1.tape = w.tape ∧ w1.output = w.output := by
   rcases hw with rfl | rfl
   ·exact ⟨rfl, Nat.le_refl _, rfl, rfl, rfl⟩
   ·exact ⟨rfl, Nat.le_succ _, rfl, rfl, rfl⟩
  obtain ⟨hh1, hh2, hh3, hh4, hh5⟩ := hw1h
  have hrI : rI < w.heap.size := (R.hr.dom p.bi rI hφI).2
  have s1 : w2.heap.size = w.heap.size := by simp [w2, ChangeMaps.setBlock, hh1]
  have s2 : ∀ s, s ≠ rI → w2.heap[s]? = w.heap[s]? := fun s hs => by
   simp only [w2, ChangeMaps.setBlock, hh1]
   rw [Array.getElem?_setIfInBounds_ne (Ne.symm hs)]
  have s0 : w2.heap[rI]? = some ob := by simp [w2, ChangeMaps.setBlock, hh1, hrI]
  have hob : ob = .mapIter (some rm) since ((dn ++ [i]).map (bo es)).toArray clk := by
   simp [ob, hbo i en e1, e4]
  have hkI : φ.y.k rI = none := by rw [R.yk]; exact S.kI
  have hIu : ∀ c, φ c = some rI → c = p.bi := fun c e => by
   have hd : c < p.hn + 1 := (R.hr.dom c rI e).1
   rcases Nat.lt_or_ge c p.hn with h | h
   ·exact S.hIu c h (by rw [← (R.old c h).1]; exact e)
   ·have : c = p.hn := by omega
    subst this
    exact absurd hφI ((R.row rI e).2 p.bi hbi)
  have hput := R.hr.put (b := p.bi) (r := rI) (w' := w2) (.mie p.mN clk en'.born) ob hφI (by rw [hS_get, if_neg (by omega), if_pos rfl]; exact fun h => h) (fun c e _ => hIu c e) hkI ⟨rm, since, _, hφm, rfl⟩ s1 s0 s2
  have hcg : ∀ b, (hS p (k0 + dn.length) (.mie p.mN clk en'.born)).get b = ((hS p (k0 + dn.length) .gone).set p.bi (.mie p.mN clk en'.born)).get b := fun b => by
   rw [H.get_set, hS_get, hS_get]
   by_cases hb : b = p.bi
   ·rw [hb]; simp [show p.bi ≠ p.hn by omega]
   ·simp [hb]
  have hr2 : HR φ (hS p (k0 + dn.length) (.mie p.mN clk en.2.2)) w2 := by
   rw [← e4]
   exact hput.congrN rfl fun b r _ => hcg b
  let kk : Nat → Option Obj := fun r => if r = rI then some ob else φ.y.k r
  have hr3 : HR (φ.wk kk) (hS p (k0 + dn.length) (.mie p.mN clk en.2.2)) w2 := by
   refine ⟨hr2.cnt, hr2.dom, fun b r e hl => ?_, hr2.inj, fun r o hk => ?_⟩
   ·obtain ⟨o, h1, h2⟩ := hr2.blk b r e hl
    exact ⟨o, h1, (wk_eqv φ kk).br h2⟩
   ·have hk : (if r = rI then some ob else φ.y.k r) = some o := hk
    by_cases hrr : r = rI
    ·subst hrr
     rw [if_pos rfl] at hk; cases hk
     refine ⟨s0, fun b e => ?_⟩
     have hb := hIu b e
     subst hb
     rw [hS_get, if_neg (by omega), if_pos rfl]
     exact fun h => h
    ·rw [if_neg hrr] at hk
     exact hr2.kp r o hk
  have hlt : m.tn < (frS p (k0 + dn.length)).n := S.tn
  have he : (execOp a.eval o1).run E.P w = .ok (.value (.tuple #[.bool true, en'.key, en'.val])) w2 := by
   simp only [execOp, p1, hval]
   simp [hrun, w2, ob]
  rw [he]
  show wpListIn (W none) n E.P ⟨[o1, o2]⟩ _ [o2] (a.put o1.dst (.tuple #[.bool true, en'.key, en'.val])) w2
  rw [d1]
  have hf1 := R.fr.put (x := .t [.b true, en.1, en.2.1]) (v := .tuple #[.bool true, en'.key, en'.val]) hlt (by simp only [VR]; exact ⟨_, rfl, VRs.cons (by simp only [VR]) (VRs.cons e2 (VRs.cons e3 VRs.nil))⟩)
  refine ext _ w2 (a.put (some m.tn) (.tuple #[.bool true, en'.key, en'.val])) [en'.key, en'.val] true φ hf1 rfl (.inr trivial) ?_ fun a2 hf2 hd hv => ?_
  ·have hs : m.tn < a.tmps.size := by rw [R.fr.1]; exact hlt
   simp [Act.put, Array.getD, hs]
  ·refine wpIn_seq (wpIn_cond_true hv (wpIn_skip (wpIn_block ?_)))
   have hcl : i < cks.length := by rw [S.cl]; exact hil
   have hck := List.getElem?_eq_getElem hcl
   have hgl : GL E.ng (φ.wk kk) := fun g hg => (R.old g (Nat.lt_of_lt_of_le hg S.ng)).1.trans (S.gl g hg)
   have hqm : (k0 + dn.length) * p.sz + p.sz ≤ p.qm := by
    rw [← Nat.succ_mul]
    exact Nat.le_trans (Nat.mul_le_mul_right _ (by omega)) S.qb
   refine wpIn_mono (round_ok (p := p) (nx := m.nx) (tn := m.tn) (tm := m.tm) (clk := clk) (en := en) (k := k0 + dn.length) (ck := cks[i]) hX S.ok (S.rn dn.length i en cks[i] hdl e1 hck) (φ := φ.wk kk) (w := w2) (a := a2) (hbd _ (by show φ.y.d = φ0.y.d; rw [R.yk])) hgl hr3 ((wk_eqv φ kk).frr hf2)
    (fun b r hb e => S.nm b r hb (by rw [← (R.old b hb).1]; exact e)) (fun ab ao hpl => by
     obtain ⟨h1, r, h2⟩ := S.ac ab ao hpl
     exact ⟨r, (R.old ab h1).1.trans h2⟩) hqm n) ?_
   rintro e a' w' ⟨hee, hdd, φ', u, ψ, hR, hfr⟩
   have hda : a'.defers = D := by rw [hdd, hd]; exact R.df
   obtain ⟨φ'', us', ψs', hRI⟩ := R.snoc S.hI hbi S.kI hqm hid hil hck (w2 := w2) (clk := clk) S.sc hob s1 s2 hh2 hh3 hh4 hh5 hR hfr hda
   have : Exit.inBlock m.nx (fun e a' w' =>
     (e = .normal ∧ dn.length < es.length ∧ ∃ i φ' us' ψs', RI p φ0 w0 rI rm since es k0 cks ps0 D φ' us' ψs' (dn ++ [i]) a' w') ∨
     (e = .exit id ∧ es.length ≤ dn.length ∧ w' = w ∧ a'.defers = D ∧ FR φ (((frS p (k0 + dn.length)).set m.tn (.t [.b false])).set m.tm (.b false)) a'.tmps)) e a' w' := by
    have hfin : ∃ i φ' us' ψs', RI p φ0 w0 rI rm since es k0 cks ps0 D φ' us' ψs' (dn ++ [i]) a' w' := ⟨i, φ'', us', ψs', hRI⟩
    rcases hee with rfl | rfl
    ·exact .inl ⟨rfl, hdl, hfin⟩
    ·simp only [Exit.inBlock, if_true]
     exact .inl ⟨trivial, hdl, hfin⟩
   exact this
end
end Go.Ev
