/- The abstract machine, part Rk: behind the loop. -/
import Derived.Test.YtlbagpdnlldjnaaGreatDoorA08
set_option linter.all false
namespace Go.Ev
noncomputable section
theorem rounds_ok {E : Env} {ex : ExecT} (hX : ExecOK E ex) {p : MP} {m : ML} {φ0 : Ren} {w0 : World} {rI rm since : Nat} {es : List (V × V × Nat)} {clk k0 : Nat} {cks : List Chk} {ps0 : List (List Value)} {D : List Deferred}
  (hbd : ∀ ψ : Ren, ψ.y.d = φ0.y.d → BD E ψ) (S : Rs E ex p m φ0 w0 rI rm since es clk k0 cks) {id g : Nat} {ops : Array Oper} (hops : mlOps ops = some (m.it, m.tn, m.tm)) {us : Nat → List Value} {ψs : Nat → Ren} {a : Act}
  (R : RI p φ0 w0 rI rm since es k0 cks ps0 D φ0 us ψs [] a w0) (n : Nat) :
  (Code.loop (.seq (.region g ops false) (.seq (.cond (.tmp m.tm) .skip (.exit id)) (.block m.nx m.bb)))).wpIn (W none) n E.P (fun e a' w' =>
   e = .exit id ∧ ∃ φ us ψs dn a0, RI p φ0 w0 rI rm since es k0 cks ps0 D φ us ψs dn a0 w' ∧ dn.length = es.length ∧ a'.defers = D ∧ FR φ (((frS p (k0 + dn.length)).set m.tn (.t [.b false])).set m.tm (.b false)) a'.tmps) a w0 := by
 refine loop_inv es.length (fun i a w => ∃ φ us ψs dn, dn.length = i ∧ RI p φ0 w0 rI rm since es k0 cks ps0 D φ us ψs dn a w) (fun i a w hi hinv => ?_) (fun a w hinv => ?_) ⟨φ0, us, ψs, [], rfl, R⟩
 ·obtain ⟨φ, us, ψs, dn, hdl, R⟩ := hinv
  refine wpIn_mono (pass_ok hX hbd S (id := id) (g := g) hops R n) ?_
  rintro e a' w' (⟨rfl, _, j, φ', us', ψs', R'⟩ | ⟨_, hle, _⟩)
  ·exact ⟨rfl, φ', us', ψs', dn ++ [j], by simp [hdl], R'⟩
  ·omega
 ·obtain ⟨φ, us, ψs, dn, hdl, R⟩ := hinv
  refine wpIn_mono (pass_ok hX hbd S (id := id) (g := g) hops R n) ?_
  rintro e a' w' (⟨rfl, hlt, _⟩ | ⟨rfl, _, rfl, hd, hf⟩)
  ·omega
  ·exact ⟨by simp, rfl, φ, us, ψs, dn, a, R, hdl, hd, hf⟩
mutual
theorem rnV_id : ∀ x : V, rnV (fun c => c) x = x
 | .top => rfl
 | .b _ => rfl
 | .i _ _ => rfl
 | .y _ _ => rfl
 | .q _ => rfl
 | .sr _ _ _ _ => rfl
 | .pr _ _ _ _ _ => rfl
 | .s _ => rfl
 | .p none => rfl
 | .p (some (_, _)) => rfl
 | .sl none _ _ => rfl
 | .sl (some (_, _)) _ _ => rfl
 | .es => rfl
 | .m none => rfl
 | .m (some _) => rfl
 | .f _ a c => by simp only [rnV, rnVs_id a, rnVs_id c]
 | .yl _ => rfl
 | .o => rfl
 | .nf => rfl
 | .ifc _ x => by simp only [rnV, rnV_id x]
 | .ni => rfl
 | .a l => by simp only [rnV, rnVs_id l]
 | .t l => by simp only [rnV, rnVs_id l]
theorem rnVs_id : ∀ x : List V, rnVs (fun c => c) x = x
 | [] => rfl
 | x :: xs => by simp only [rnVs, rnV_id x, rnVs_id xs]
end
theorem rnE_id : ∀ x : List (V × V × Nat), rnE (fun c => c) x = x
 | [] => rfl
 | (a, b, n) :: l => by simp only [rnE, rnV_id, rnE_id l]
theorem rnB_id {n : Nat} {p : Blk} (h : ltB n p) : rnB (fun c => c) p = p := by
 cases p <;> first | (simp only [rnB, rnVs_id]; done) | (simp only [rnB, rnE_id]; done) | cases h
structure PG (hn : Nat) (F : Nat → Prop) (ck : Chk) (φ : Ren) (h : H) (w : World) (u : List Value) (ψ : Ren) : Prop where
 lo : ∀ m r, m < hn → ψ m = some r → φ m = some r ∧ φ.n m = ψ.n m
 cs : VRs ψ ck.1 u
 lt : ltVs ck.2.2 ck.1
 blk : ∀ m q, (m, q) ∈ ck.2.1 → hn ≤ m ∧ m < ck.2.2 ∧ ltB ck.2.2 q ∧ ∀ r, ψ m = some r → r < w.heap.size ∧ F r ∧ φ.y.k r = none ∧ (∀ b, φ b = some r → ¬ (h.get b).live) ∧ ∃ o, w.heap[r]? = some o ∧ BR ψ (ψ.n m) q o
 inj : ∀ m q m' q' r, (m, q) ∈ ck.2.1 → (m', q') ∈ ck.2.1 → ψ m = some r → ψ m' = some r → m = m'
 nw : newB ck.2.1 hn (ck.2.2 - hn) = true
 le : hn ≤ ck.2.2
theorem addP_ok {hn : Nat} {F : Nat → Prop} {ck : Chk} {φ : Ren} {h : H} {w : World} {u : List Value} {ψ : Ren} (hr : HR φ h w) (hh : hn ≤ h.n) (G : PG hn F ck φ h w u ψ) :
  ∃ φ', HR φ' (addP hn ck h) w ∧ Le φ φ' ∧ (addP hn ck h).n = h.n + (ck.2.2 - hn) ∧ VRs φ' (rnVs (sP hn h.n) ck.1) u ∧
   (∀ b r, φ' b = some r → φ b = some r ∨ (h.n ≤ b ∧ F r ∧ ∃ m q, (m, q) ∈ ck.2.1 ∧ ψ m = some r)) ∧ (∀ b, b < h.n → (addP hn ck h).get b = h.get b) := by
 let s := sP hn h.n
 let d := ck.2.2 - hn
 have slo : ∀ m, m < hn → s m = m := fun m hm => by show cond (Nat.blt m hn) _ _ = _; rw [blt_iff.2 hm]; rfl
 have shi : ∀ m, hn ≤ m → s m = m - hn + h.n := fun m hm => by show cond (Nat.blt m hn) _ _ = _; rw [blt_no hm]; rfl
 let φ' : Ren := { f := fun b => if b < h.n then φ b else if b < h.n + d then ψ (b - h.n + hn) else none, n := fun b => if b < h.n then φ.n b else ψ.n (b - h.n + hn), y := φ.y, m := h.n + d }
 have f1 : ∀ b, b < h.n → φ' b = φ b ∧ φ'.n b = φ.n b := fun b hb => ⟨if_pos hb, if_pos hb⟩
 have f2 : ∀ b, h.n ≤ b → b < h.n + d → φ' b = ψ (b - h.n + hn) ∧ φ'.n b = ψ.n (b - h.n + hn) := fun b h1 h2 => ⟨(if_neg (by omega)).trans (if_pos h2), if_neg (by omega)⟩
 have f3 : ∀ b r, φ' b = some r → (b < h.n ∧ φ b = some r) ∨ (h.n ≤ b ∧ b < h.n + d ∧ ψ (b - h.n + hn) = some r) := fun b r e => by
  rcases Nat.lt_or_ge b h.n with h1 | h1
  ·exact .inl ⟨h1, by rw [← (f1 b h1).1]; exact e⟩
  ·rcases Nat.lt_or_ge b (h.n + d) with h2 | h2
   ·exact .inr ⟨h1, h2, by rw [← (f2 b h1 h2).1]; exact e⟩
   ·have : φ' b = none := (if_neg (by omega)).trans (if_neg (by omega))
    rw [this] at e; cases e
 have hle : Le φ φ' := ⟨fun b r e => by
  have hb : b < h.n := (hr.dom b r e).1
  exact ⟨(f1 b hb).1.trans e, (f1 b hb).2⟩, rfl⟩
 have ent : ∀ m, hn ≤ m → m < ck.2.2 → ∃ q, (m, q) ∈ ck.2.1 := fun m h1 h2 => hasK_iff.1 (newB_ok G.nw m h1 (by omega))
 have hC : ∀ c q, (c, q) ∈ ck.2.1 → hn ≤ c := fun c q hm => (G.blk c q hm).1
 have pinj : ∀ c c', hn ≤ c → hn ≤ c' → s c = s c' → c = c' := fun c c' hc hc' e => by
  rw [shi c hc, shi c' hc'] at e; omega
 have pget := fun (b : Nat) => putAll_get s (C := fun c => hn ≤ c) pinj ck.2.1 ⟨h.n + d, h.t⟩ hC b
 have plo : ∀ b, b < h.n → (addP hn ck h).get b = h.get b := fun b hb => by
  rcases pget b with ⟨c, q, g1, g2, _⟩ | ⟨_, g2⟩
  ·rw [shi c (hC c q g1)] at g2; omega
  ·exact g2
 have phi : ∀ b, h.n ≤ b → b < h.n + d → ∃ q, (b - h.n + hn, q) ∈ ck.2.1 ∧ (addP hn ck h).get b = rnB s q := fun b h1 h2 => by
  rcases pget b with ⟨c, q, g1, g2, _, g4⟩ | ⟨g1, _⟩
  ·rw [shi c (hC c q g1)] at g2
   have := hC c q g1
   have : b - h.n + hn = c := by omega
   rw [this]; exact ⟨q, g1, g4⟩
  ·obtain ⟨q, hq⟩ := ent (b - h.n + hn) (by omega) (by omega)
   exact absurd (by rw [shi _ (by omega)]; omega) (g1 _ q hq)
 let ψ' : Ren := { f := ψ.f, n := ψ.n, y := φ.y, m := ψ.m }
 have bk : Bk ck.2.2 (fun c => c) ψ ψ' := ⟨fun _ _ => ⟨rfl, rfl⟩⟩
 have rn : ∀ c r, c < ck.2.2 → ψ c = some r → φ' (s c) = some r ∧ φ'.n (s c) = ψ.n c := fun c r hc e => by
  rcases Nat.lt_or_ge c hn with h1 | h1
  ·rw [slo c h1]
   obtain ⟨e1, e2⟩ := G.lo c r h1 e
   have := f1 c (by omega)
   exact ⟨this.1.trans e1, this.2.trans e2⟩
  ·rw [shi c h1]
   have := f2 (c - hn + h.n) (by omega) (by omega)
   rw [show c - hn + h.n - h.n + hn = c by omega] at this
   exact ⟨this.1.trans e, this.2⟩
 let ψ2 : Ren := { f := fun c => if c < ck.2.2 then ψ c else none, n := ψ.n, y := φ.y, m := ψ.m }
 have bk2 : Bk ck.2.2 (fun c => c) ψ ψ2 := ⟨fun c hc => ⟨if_pos hc, rfl⟩⟩
 have rn2 : ∀ c r, ψ2 c = some r → φ' (s c) = some r ∧ φ'.n (s c) = ψ2.n c := fun c r e => by
  have e : (if c < ck.2.2 then ψ c else none) = some r := e
  split at e
  ·rename_i hc; exact rn c r hc e
  ·cases e
 have rno : RnOK s ψ2 φ' := ⟨rn2, rfl, rfl, rfl⟩
 have addn : (addP hn ck h).n = h.n + d := putAll_n _ _ _
 have key : ∀ b r, φ' b = some r → ((addP hn ck h).get b).live → (b < h.n ∧ φ b = some r ∧ (addP hn ck h).get b = h.get b) ∨ (h.n ≤ b ∧ b < h.n + d ∧ ψ (b - h.n + hn) = some r ∧ ∃ q, (b - h.n + hn, q) ∈ ck.2.1 ∧ (addP hn ck h).get b = rnB s q) := fun b r e _ => by
  rcases f3 b r e with ⟨h1, e1⟩ | ⟨h1, h2, e1⟩
  ·exact .inl ⟨h1, e1, plo b h1⟩
  ·exact .inr ⟨h1, h2, e1, phi b h1 h2⟩
 refine ⟨φ', ⟨addn.symm, fun b r e => ?_, fun b r e hl => ?_, fun b b' r e e' hl hl' => ?_, fun r o hk => ?_⟩, hle, addn, rnVs_ok rno _ _ (rnVs_inv bk2 _ _ G.lt (by rw [rnVs_id]; exact G.cs)), fun b r e => ?_, plo⟩
 ·rw [addn]
  rcases f3 b r e with ⟨h1, e1⟩ | ⟨h1, h2, e1⟩
  ·exact ⟨by omega, (hr.dom b r e1).2⟩
  ·obtain ⟨q, hq, _⟩ := phi b h1 h2
   obtain ⟨_, _, _, k4⟩ := G.blk _ q hq
   exact ⟨h2, (k4 r e1).1⟩
 ·rcases key b r e hl with ⟨h1, e1, e2⟩ | ⟨h1, h2, e1, q, hq, e2⟩
  ·rw [e2] at hl ⊢
   obtain ⟨o, g1, g2⟩ := hr.blk b r e1 hl
   exact ⟨o, g1, by rw [(f1 b h1).2]; exact g2.mono hle⟩
  ·obtain ⟨_, _, k3, k4⟩ := G.blk _ q hq
   obtain ⟨_, _, _, _, o, g1, g2⟩ := k4 r e1
   refine ⟨o, g1, ?_⟩
   rw [e2, (f2 b h1 h2).2]
   exact rnB_ok rno (rnB_inv bk2 k3 (by rw [rnB_id k3]; exact g2))
 ·rcases key b r e hl with ⟨h1, e1, e2⟩ | ⟨h1, h2, e1, q, hq, e2⟩ <;> rcases key b' r e' hl' with ⟨h1', e1', e2'⟩ | ⟨h1', h2', e1', q', hq', e2'⟩
  ·rw [e2] at hl; rw [e2'] at hl'
   exact hr.inj b b' r e1 e1' hl hl'
  ·rw [e2] at hl
   obtain ⟨_, _, _, k4⟩ := G.blk _ q' hq'
   exact absurd hl ((k4 r e1').2.2.2.1 b e1)
  ·rw [e2'] at hl'
   obtain ⟨_, _, _, k4⟩ := G.blk _ q hq
   exact absurd hl' ((k4 r e1).2.2.2.1 b' e1')
  ·have := G.inj _ _ _ _ r hq hq' e1 e1'
   omega
 ·obtain ⟨k1, k2⟩ := hr.kp r o hk
  refine ⟨k1, fun b e hmt => ?_⟩
  rcases key b r e hmt.live with ⟨h1, e1, e2⟩ | ⟨h1, h2, e1, q, hq, e2⟩
  ·rw [e2] at hmt; exact k2 b e1 hmt
  ·obtain ⟨_, _, _, k4⟩ := G.blk _ q hq
   have := (k4 r e1).2.2.1
   have hk : φ.y.k r = some o := hk
   rw [this] at hk; cases hk
 ·rcases f3 b r e with ⟨_, e1⟩ | ⟨h1, h2, e1⟩
  ·exact .inl e1
  ·obtain ⟨q, hq, _⟩ := phi b h1 h2
   obtain ⟨_, _, _, k4⟩ := G.blk _ q hq
   exact .inr ⟨h1, (k4 r e1).2.1, _, q, hq, e1⟩
theorem addPs_ok {hn : Nat} {F : Nat → Prop} {w : World} : ∀ (l : List Chk) (i0 : Nat) (us : Nat → List Value) (ψs : Nat → Ren) (φ : Ren) (h : H), HR φ h w → hn ≤ h.n →
  (∀ i ck, l[i]? = some ck → PG hn F ck φ h w (us (i0 + i)) (ψs (i0 + i))) →
  (∀ i j ci cj, i ≠ j → l[i]? = some ci → l[j]? = some cj → ∀ m q m' q' r, (m, q) ∈ ci.2.1 → (m', q') ∈ cj.2.1 → ψs (i0 + i) m = some r → ψs (i0 + j) m' ≠ some r) →
  ∃ φ', HR φ' (addPs hn l h).1 w ∧ Le φ φ' ∧ h.n ≤ (addPs hn l h).1.n ∧ VRL φ' (addPs hn l h).2 ((List.range' i0 l.length).map us) ∧
   (∀ b r, φ' b = some r → φ b = some r ∨ (h.n ≤ b ∧ F r)) ∧ (∀ b, b < h.n → (addPs hn l h).1.get b = h.get b)
 | [], i0, us, ψs, φ, h, hr, _, _, _ => ⟨φ, hr, Le.refl φ, Nat.le_refl _, rfl, fun b r e => .inl e, fun _ _ => rfl⟩
 | ck :: l, i0, us, ψs, φ, h, hr, hh, hG, hD => by
  obtain ⟨φ1, g1, g2, g3, g4, g5, g6⟩ := addP_ok hr hh (hG 0 ck rfl)
  have hle1 : h.n ≤ (addP hn ck h).n := by rw [g3]; omega
  obtain ⟨φ2, k1, k2, k3, k4, k5, k6⟩ := addPs_ok (F := F) l (i0 + 1) us ψs φ1 (addP hn ck h) g1 (Nat.le_trans hh hle1) (fun i c hc => by
   have := hG (i + 1) c (by simpa using hc)
   rw [show i0 + (i + 1) = i0 + 1 + i by omega] at this
   refine ⟨fun m r hm e => ?_, this.cs, this.lt, fun m q hm => ?_, this.inj, this.nw, this.le⟩
   ·obtain ⟨e1, e2⟩ := this.lo m r hm e
    exact ⟨(g2 m r e1).1, (g2 m r e1).2.trans e2⟩
   ·obtain ⟨l1, l2, l3, l4⟩ := this.blk m q hm
    refine ⟨l1, l2, l3, fun r e => ?_⟩
    obtain ⟨n1, n2, n3, n4, n5⟩ := l4 r e
    refine ⟨n1, n2, by rw [g2.yy]; exact n3, fun b eb => ?_, n5⟩
    rcases g5 b r eb with e0 | ⟨_, _, m', q', hm', em'⟩
    ·have := (hr.dom b r e0).1
     rw [g6 b this]; exact n4 b e0
    ·have := hD 0 (i + 1) ck c (by omega) rfl (by simpa using hc) m' q' m q r hm' hm em'
     rw [show i0 + (i + 1) = i0 + 1 + i by omega] at this
     exact absurd e this) (fun i j ci cj hne hi hj => by
   have := hD (i + 1) (j + 1) ci cj (by omega) (by simpa using hi) (by simpa using hj)
   rw [show i0 + (i + 1) = i0 + 1 + i by omega, show i0 + (j + 1) = i0 + 1 + j by omega] at this
   exact this)
  have e1 : addPs hn (ck :: l) h = ((addPs hn l (addP hn ck h)).1, rnVs (sP hn h.n) ck.1 :: (addPs hn l (addP hn ck h)).2) := rfl
  rw [e1]
  refine ⟨φ2, k1, g2.trans k2, Nat.le_trans hle1 k3, ?_, fun b r e => ?_, fun b hb => ?_⟩
  ·simp only [VRL, List.length_cons, List.range'_succ, List.map_cons]
   exact ⟨_, _, rfl, VRs.mono k2 _ _ g4, k4⟩
  ·rcases k5 b r e with e | ⟨e1, e2⟩
   ·rcases g5 b r e with e | ⟨e1, e2, _⟩
    ·exact .inl e
    ·exact .inr ⟨e1, e2⟩
   ·exact .inr ⟨Nat.le_trans hle1 e1, e2⟩
  ·exact (k6 b (Nat.lt_of_lt_of_le hb hle1)).trans (g6 b hb)
end
end Go.Ev
namespace Go.Ev
noncomputable section
theorem VRL.append {φ : Ren} : ∀ {x x' : List (List V)} {v v' : List (List Value)}, VRL φ x v → VRL φ x' v' → VRL φ (x ++ x') (v ++ v')
 | [], _, _, _, h, h' => by simp only [VRL] at h; subst h; exact h'
 | x :: xs, _, _, _, h, h' => by
  simp only [VRL, List.cons_append] at h ⊢
  obtain ⟨y, ys, rfl, h1, h2⟩ := h
  exact ⟨y, _, rfl, h1, h2.append h'⟩
mutual
theorem inV_mono {C C' : Nat → Bool} (h : ∀ b, C b = true → C' b = true) : ∀ x : V, inV C x = true → inV C' x = true
 | .top, _ => rfl
 | .b _, _ => rfl
 | .i _ _, _ => rfl
 | .y _ _, e => by simp [inV] at e
 | .q _, e => by simp [inV] at e
 | .sr _ _ _ _, e => by simp [inV] at e
 | .pr _ _ _ _ _, e => by simp [inV] at e
 | .s _, _ => rfl
 | .p none, _ => rfl
 | .p (some (b, _)), e => by simp only [inV] at e ⊢; exact h b e
 | .sl none _ _, _ => rfl
 | .sl (some (b, _)) _ _, e => by simp only [inV] at e ⊢; exact h b e
 | .es, _ => rfl
 | .m none, _ => rfl
 | .m (some b), e => by simp only [inV] at e ⊢; exact h b e
 | .f _ a c, e => by simp only [inV, Bool.and_eq_true] at e ⊢; exact ⟨inVs_mono h a e.1, inVs_mono h c e.2⟩
 | .yl _, e => by simp [inV] at e
 | .o, e => by simp [inV] at e
 | .nf, _ => rfl
 | .ifc _ x, e => by simp only [inV] at e ⊢; exact inV_mono h x e
 | .ni, _ => rfl
 | .a l, e => by simp only [inV] at e ⊢; exact inVs_mono h l e
 | .t l, e => by simp only [inV] at e ⊢; exact inVs_mono h l e
theorem inVs_mono {C C' : Nat → Bool} (h : ∀ b, C b = true → C' b = true) : ∀ x : List V, inVs C x = true → inVs C' x = true
 | [], _ => rfl
 | x :: xs, e => by simp only [inVs, Bool.and_eq_true] at e ⊢; exact ⟨inV_mono h x e.1, inVs_mono h xs e.2⟩
end
theorem inE_mono {C C' : Nat → Bool} (h : ∀ b, C b = true → C' b = true) : ∀ x : List (V × V × Nat), inE C x = true → inE C' x = true
 | [], _ => rfl
 | (a, b, _) :: xs, e => by simp only [inE, Bool.and_eq_true] at e ⊢; exact ⟨⟨inV_mono h a e.1.1, inV_mono h b e.1.2⟩, inE_mono h xs e.2⟩
theorem inVL_mono {C C' : Nat → Bool} (h : ∀ b, C b = true → C' b = true) : ∀ x : List (List V), inVL C x = true → inVL C' x = true
 | [], _ => rfl
 | x :: xs, e => by simp only [inVL, Bool.and_eq_true] at e ⊢; exact ⟨inVs_mono h x e.1, inVL_mono h xs e.2⟩
theorem inBk_mono {C C' : Nat → Bool} (h : ∀ b, C b = true → C' b = true) {q : Blk} (e : inBk C q = true) : inBk C' q = true := by
 cases q <;> first | exact inVs_mono h _ e | exact inE_mono h _ e | exact inVL_mono h _ e | rfl | cases e
theorem inVs_set {C : Nat → Bool} {x : V} (hx : inV C x = true) : ∀ (l : List V) (i : Nat), inVs C l = true → inVs C (l.set i x) = true
 | [], _, _ => rfl
 | y :: l, 0, h => by
  simp only [inVs, Bool.and_eq_true, List.set_cons_zero] at h ⊢
  exact ⟨hx, h.2⟩
 | y :: l, i + 1, h => by
  simp only [inVs, Bool.and_eq_true, List.set_cons_succ] at h ⊢
  exact ⟨h.1, inVs_set hx l i h.2⟩
def MP.C' (p : MP) (b : Nat) : Bool := p.C b || Nat.beq b p.hn
theorem MP.C'_of {p : MP} {b : Nat} (h : p.C b = true) : p.C' b = true := by simp [MP.C', h]
theorem MP.C'_hn {p : MP} : p.C' p.hn = true := by simp [MP.C', Nat.beq_refl]
theorem inV_acc {p : MP} {k : Nat} (hk : k ≠ 0) : inV p.C' (accV p k) = true := by
 cases k with
 | zero => exact absurd rfl hk
 | succ k => exact MP.C'_hn
theorem inBk_st {p : MP} {k b : Nat} {q : Blk} (hk : k ≠ 0) (h : inBk p.C q = true) : inBk p.C' (stB p k b q) = true := by
 have h' := inBk_mono (fun b => MP.C'_of) h
 unfold stB
 split
 ·exact h'
 ·split
  ·cases q <;> first | exact inVs_set (inV_acc hk) _ _ h' | exact h'
  ·exact h'
theorem hZ_get (p : MP) (k b : Nat) : (hZ p k).get b = stB p k b (lkB p.hl b) := by unfold hZ; rw [hOf_get, lkB_blL]
structure Sr (p : MP) (φs φ0 : Ren) (hs : H) (w0 : World) : Prop where
 hr : HR φs hs w0
 n : hs.n = p.hn
 s0 : ∀ b r, b < p.hn → φ0 b = some r → φs b = some r ∧ φs.n b = φ0.n b
 sC : ∀ b, p.C b = true → φs b = φ0 b
 y : φ0.y = { φs.y with q := φ0.y.q }
 row : ∀ r, φ0 p.hn = some r → ∃ b, φs b = some r
 up : ∀ b r, φ0 b = some r → b ≤ p.hn
theorem end_ok {E : Env} {ex : ExecT} {p : MP} {m : ML} {φs φ0 : Ren} {hs : H} {w0 : World} {rI rm since : Nat} {es : List (V × V × Nat)} {clk k0 : Nat} {cks : List Chk} {ps0 us0 : List (List Value)} {pre : List (List V)} {D : List Deferred}
  (S : Rs E ex p m φ0 w0 rI rm since es clk k0 cks) (T : Sr p φs φ0 hs w0) (hpre : VRL φs pre us0) (hpp : List.Perm ps0 us0) (hne : es ≠ [])
  {φ : Ren} {us : Nat → List Value} {ψs : Nat → Ren} {dn : List Nat} {a : Act} {w : World} (R : RI p φ0 w0 rI rm since es k0 cks ps0 D φ us ψs dn a w) (hdl : dn.length = es.length)
  {tmps : Array Value} (hf : FR φ (((frS p (k0 + dn.length)).set m.tn (.t [.b false])).set m.tm (.b false)) tmps)
  {ff : Nat → V} (hff : ∀ t, inV p.C (lkV p.fl t) = true → ff t = lkV p.fl t ∨ ff t = .top) (hfq : ∀ t z, lkV p.fl t = .q z → VR φs (ff t) (φ0.q z)) {frE : Fr} (hfn : frE.n = p.fn) (hfe : ∀ t, frE.get t = (match p.pl with | .inl t' => if t = t' then accV p (k0 + es.length) else ff t | .inr _ => ff t)) :
  ∃ φ', Ext φs w0 φ' w ∧ HR φ' (hE p (k0 + es.length) pre cks) w ∧ FR φ' ((frE.set m.tn (.t [.b false])).set m.tm (.b false)) tmps := by
 have hok := S.ok
 simp only [MP.ok, Bool.and_eq_true] at hok
 obtain ⟨⟨⟨hoH, hoF⟩, hobi⟩, hoA⟩ := hok
 have hrr := R.hr
 have hcl0 := R.cl
 rw [hdl] at hrr hf hcl0
 have hel : es.length ≠ 0 := fun h => hne (List.eq_nil_of_length_eq_zero h)
 have hK : k0 + es.length ≠ 0 := by omega
 generalize hKe : k0 + es.length = K at hrr hf hK hcl0 hfe ⊢
 have hsn : φs.m = p.hn := T.hr.cnt.trans T.n
 have ykk : φs.y.k = φ0.y.k := by rw [T.y]
 have yk2 : φ.y.k = φs.y.k := by rw [R.yk, ykk]
 have fshS : ∀ r, Fsh φ0 w0 r → Fsh φs w0 r := fun r h => by
  rcases h with h | ⟨⟨b, hb⟩, hk⟩
  ·exact .inl h
  ·refine .inr ⟨?_, by rw [ykk]; exact hk⟩
   rcases Nat.lt_or_ge b p.hn with h1 | h1
   ·exact ⟨b, (T.s0 b r h1 hb).1⟩
   ·have := T.up b r hb
    have : b = p.hn := by omega
    subst this
    exact T.row r hb
 let φ1 : Ren := { f := fun b => if b < p.hn then φs b else if b = p.hn then φ p.hn else none, n := fun b => if b < p.hn then φs.n b else φ.n p.hn, y := φs.y, m := p.hn + 1 }
 have f1 : ∀ b, b < p.hn → φ1 b = φs b ∧ φ1.n b = φs.n b := fun b hb => ⟨if_pos hb, if_pos hb⟩
 have f2 : φ1 p.hn = φ p.hn ∧ φ1.n p.hn = φ.n p.hn := ⟨(if_neg (Nat.lt_irrefl _)).trans (if_pos rfl), if_neg (Nat.lt_irrefl _)⟩
 have f3 : ∀ b r, φ1 b = some r → (b < p.hn ∧ φs b = some r) ∨ (b = p.hn ∧ φ p.hn = some r) := fun b r e => by
  rcases Nat.lt_or_ge b p.hn with h | h
  ·exact .inl ⟨h, by rw [← (f1 b h).1]; exact e⟩
  ·by_cases hb : b = p.hn
   ·subst hb; exact .inr ⟨rfl, by rw [← f2.1]; exact e⟩
   ·have : φ1 b = none := (if_neg (by omega)).trans (if_neg hb)
    rw [this] at e; cases e
 have le1 : Le φs φ1 := ⟨fun b r e => by
  have hb : b < p.hn := by have := (T.hr.dom b r e).1; rw [T.n] at this; exact this
  exact ⟨(f1 b hb).1.trans e, (f1 b hb).2⟩, rfl⟩
 have eqC : ∀ b, p.C b = true → φ1 b = φ b := fun b hb => by
  have hlt := MP.C_lt S.ok hb
  exact (f1 b hlt).1.trans ((T.sC b hb).trans (R.old b hlt).1.symm)
 have ag : AgC p.C' φ φ1 := fun b r hb e => by
  simp only [MP.C', Bool.or_eq_true] at hb
  rcases hb with hb | hb
  ·have hlt := MP.C_lt S.ok hb
   refine ⟨(eqC b hb).trans e, ?_⟩
   have e0 : φ0 b = some r := (R.old b hlt).1.symm.trans e
   rw [(f1 b hlt).2, (T.s0 b r hlt e0).2, (R.old b hlt).2 r e0]
  ·have := Nat.eq_of_beq_eq_true hb
   subst this
   exact ⟨f2.1.trans e, f2.2⟩
 have lv : ∀ b, ((hZ p K).get b).live → (b, lkB p.hl b) ∈ p.hl ∧ b < p.hn ∧ b ≠ p.bi ∧ inBk p.C (lkB p.hl b) = true ∧ p.C b = true := fun b hl => by
  rw [hZ_get] at hl
  have hm := lkB_mem (stB_live.1 hl)
  obtain ⟨h1, h2, h3⟩ := okH_ok hoH b _ hm
  exact ⟨hm, h1, h2, h3, by simp only [MP.C, Bool.or_eq_true]; exact .inl (hasK_iff.2 ⟨_, hm⟩)⟩
 have same : ∀ b, ((hZ p K).get b).live → (hS p K .gone).get b = (hZ p K).get b := fun b hl => by
  obtain ⟨_, h1, h2, _⟩ := lv b hl
  rw [hS_get, if_neg (by omega), if_neg h2, hZ_get]
 have hr1 : HR φ1 (hZ p K) w := by
  refine ⟨rfl, fun b r e => ?_, fun b r e hl => ?_, fun b b' r e e' hl hl' => ?_, fun r o hk => ?_⟩
  ·rcases f3 b r e with ⟨hb, e1⟩ | ⟨rfl, e1⟩
   ·exact ⟨Nat.lt_succ_of_lt hb, Nat.lt_of_lt_of_le (T.hr.dom b r e1).2 R.size⟩
   ·exact ⟨Nat.lt_succ_self _, (hrr.dom _ r e1).2⟩
  ·obtain ⟨hm, h1, h2, h3, hC⟩ := lv b hl
   have e1 : φ b = some r := by rw [← eqC b hC]; exact e
   obtain ⟨o, g1, g2⟩ := hrr.blk b r e1 (by rw [same b hl]; exact hl)
   rw [same b hl] at g2
   refine ⟨o, g1, ?_⟩
   rw [(ag b r (MP.C'_of hC) e1).2]
   rw [hZ_get] at g2 ⊢
   exact inBk_ok ag (inBk_st hK h3) g2
  ·obtain ⟨_, _, _, _, hC⟩ := lv b hl
   obtain ⟨_, _, _, _, hC'⟩ := lv b' hl'
   exact hrr.inj b b' r (by rw [← eqC b hC]; exact e) (by rw [← eqC b' hC']; exact e') (by rw [same b hl]; exact hl) (by rw [same b' hl']; exact hl')
  ·have hk' : φ.y.k r = some o := by rw [yk2]; exact hk
   obtain ⟨k1, k2⟩ := hrr.kp r o hk'
   refine ⟨k1, fun b e hmt => ?_⟩
   obtain ⟨_, _, _, _, hC⟩ := lv b hmt.live
   exact k2 b (by rw [← eqC b hC]; exact e) (by rw [same b hmt.live]; exact hmt)
 have hperm : dn.Perm (List.range es.length) := sub_perm_of R.nd (fun i hi => List.mem_range.2 (R.sub i hi)) (by simp [hdl])
 have hin : ∀ i, i < es.length → i ∈ dn := fun i hi => hperm.mem_iff.2 (List.mem_range.2 hi)
 have hPG : ∀ i ck, cks[i]? = some ck → PG p.hn (fun r => Fsh φs w0 r ∧ ∀ b, φ b ≠ some r) ck φ1 (hZ p K) w (us (0 + i)) (ψs (0 + i)) := fun i ck hck => by
  rw [Nat.zero_add]
  have hil : i < es.length := by
   have := (List.getElem?_eq_some_iff.1 hck).1
   rw [S.cl] at this; exact this
  have F := R.fg i (hin i hil) ck hck
  refine ⟨fun m r hm e => ?_, F.cs, F.lt, fun m q hm => ?_, F.inj, F.nw, F.le⟩
  ·obtain ⟨e1, e2⟩ := F.lo m r hm e
   obtain ⟨e3, e4⟩ := T.s0 m r hm e1
   exact ⟨(f1 m hm).1.trans e3, (f1 m hm).2.trans (e4.trans e2)⟩
  ·obtain ⟨l1, l2, l3, l4⟩ := F.blk m q hm
   refine ⟨l1, l2, l3, fun r e => ?_⟩
   obtain ⟨n1, n2, n3, n4⟩ := l4 r e
   refine ⟨n1, ⟨fshS r n2, n3⟩, (fshS r n2).kn T.hr, fun b eb hl => ?_, n4⟩
   obtain ⟨_, _, _, _, hC⟩ := lv b hl
   exact n3 b (by rw [← eqC b hC]; exact eb)
 obtain ⟨φ2, g1, g2, g3, g4, g5, g6⟩ := addPs_ok (F := fun r => Fsh φs w0 r ∧ ∀ b, φ b ≠ some r) cks 0 us ψs φ1 (hZ p K) hr1 (Nat.le_succ _) hPG (fun i j ci cj hne hci hcj m q m' q' r hm hm' e => by
  rw [Nat.zero_add] at e ⊢
  have hil : i < es.length := by
   have := (List.getElem?_eq_some_iff.1 hci).1
   rw [S.cl] at this; exact this
  have hjl : j < es.length := by
   have := (List.getElem?_eq_some_iff.1 hcj).1
   rw [S.cl] at this; exact this
  exact R.dj i (hin i hil) j (hin j hjl) hne ci cj hci hcj m q m' q' r hm hm' e)
 rw [S.cl, ← List.range_eq_range'] at g4
 have zn : (hZ p K).n = p.hn + 1 := rfl
 have zh : ¬ ((hZ p K).get p.hn).live := fun hl => by
  obtain ⟨_, h1, _⟩ := lv p.hn hl
  omega
 have ph : ¬ ((addPs p.hn cks (hZ p K)).1.get p.hn).live := by rw [g6 _ (by rw [zn]; omega)]; exact zh
 have le2 : Le φs φ2 := le1.trans g2
 have hx : Ext φs w0 φ2 w := by
  refine ⟨le2, ?_, fun b r e => ?_, fun hdd => R.dr (by rw [T.y]; exact hdd), R.size, R.os, R.tape, R.output, fun r hr0 hb => R.frame r hr0 fun b e => ?_⟩
  ·rw [hsn, g1.cnt]; rw [zn] at g3; omega
  ·rcases g5 b r e with e | ⟨h1, h2, _⟩
   ·rcases f3 b r e with ⟨_, e1⟩ | ⟨rfl, e1⟩
    ·exact .inl e1
    ·exact .inr ⟨by rw [hsn]; exact Nat.le_refl _, fshS r (R.row r e1).1⟩
   ·exact .inr ⟨by rw [hsn]; rw [zn] at h1; omega, h2⟩
  ·rcases Nat.lt_or_ge b p.hn with h1 | h1
   ·exact hb b (T.s0 b r h1 e).1
   ·have := T.up b r e
    have : b = p.hn := by omega
    subst this
    obtain ⟨b2, hb2⟩ := T.row r e
    exact hb b2 hb2
 refine ⟨φ2, hx, ?_, ?_⟩
 ·have he : hE p K pre cks = (addPs p.hn cks (hZ p K)).1.set p.hn (.pm (pre ++ (addPs p.hn cks (hZ p K)).2) p.e) := rfl
  rw [he]
  have up2 : ∀ r, φ2 p.hn = some r → φ p.hn = some r := fun r e => by
   rcases g5 p.hn r e with e | ⟨h1, _⟩
   ·rw [← f2.1]; exact e
   ·rw [zn] at h1; omega
  cases hrow : φ2 p.hn with
  | none =>
   refine g1.congrN rfl fun b r e => ?_
   rw [H.get_set, if_neg]
   intro hb
   rw [hb, hrow] at e; cases e
  | some rr =>
   have e1 := up2 rr hrow
   obtain ⟨o, ho, hbr⟩ := hrr.blk p.hn rr e1 (by rw [hS_get, if_pos rfl]; cases K with | zero => exact absurd rfl hK | succ K => trivial)
   rw [hS_get, if_pos rfl] at hbr
   have hrK : rowB p K = .cells (qsF 0 (K * p.sz)) p.e true := by
    cases K with
    | zero => exact absurd rfl hK
    | succ K => rfl
   rw [hrK] at hbr
   obtain ⟨c, rfl, hv, hcs, _, hcn⟩ := hbr
   rw [qsF_length] at hv hcs
   obtain ⟨_, q2⟩ := qsF_inv _ _ _ hv
   have hvl : (c.toList.take (K * p.sz)).length = K * p.sz := by rw [hv.length, qsF_length]
   have hfl : c.toList.take (K * p.sz) = (ps0 ++ dn.map us).flatten := by
    apply List.ext_getElem?
    intro j
    rcases Nat.lt_or_ge j (K * p.sz) with hj | hj
    ·have h1 : j < (c.toList.take (K * p.sz)).length := by rw [hvl]; exact hj
     have h2 : j < (ps0 ++ dn.map us).flatten.length := by rw [hcl0]; exact hj
     rw [List.getElem?_eq_getElem h1, List.getElem?_eq_getElem h2]
     have a1 := (q2 j _ (List.getElem?_eq_getElem h1)).1
     have a2 := (R.cq j _ (List.getElem?_eq_getElem h2)).1
     rw [Nat.zero_add] at a1
     rw [a1, a2]
    ·rw [List.getElem?_eq_none (by rw [hvl]; exact hj), List.getElem?_eq_none (by rw [hcl0]; exact hj)]
   refine g1.put (w' := w) (b := p.hn) (r := rr) (.pm (pre ++ (addPs p.hn cks (hZ p K)).2) p.e) (.cells c p.e (0, 0)) hrow ph (fun b e hl => ?_) ?_ ⟨c, us0 ++ (List.range es.length).map us, ps0 ++ dn.map us, rfl, (hpre.mono le2).append g4, hpp.append (hperm.map us), ?_, ?_, ?_, ?_⟩ rfl ho fun _ _ => rfl
   ·rcases g5 b rr e with e | ⟨h1, _, h2⟩
    ·rcases f3 b rr e with ⟨hb, e2⟩ | ⟨hb, _⟩
     ·rw [g6 b (by rw [zn]; omega)] at hl
      obtain ⟨_, _, _, _, hC⟩ := lv b hl
      exact absurd ((eqC b hC).symm.trans e) ((R.row rr e1).2 b hb)
     ·exact hb
    ·exact absurd e1 (h2 p.hn)
   ·rw [g2.yy]; exact (fshS rr (R.row rr e1).1).kn T.hr
   ·rw [← hfl, hvl]
   ·rw [hcl0]; exact hcs
   ·intro u hu
    obtain ⟨j, hj⟩ := List.mem_iff_getElem?.1 hu
    exact (R.cq j u hj).2
   ·rw [hcn]
    have e3 : φ1 p.hn = some rr := f2.1.trans e1
    rw [(g2 _ _ e3).2, f2.2]
 ·refine ⟨hf.1.trans hfn.symm, fun t => ?_⟩
  have ht := hf.2 t
  rw [Fr.get_set, Fr.get_set] at ht ⊢
  by_cases h1 : t = m.tm
  ·rw [if_pos h1] at ht ⊢
   simpa only [VR] using ht
  rw [if_neg h1] at ht ⊢
  by_cases h2 : t = m.tn
  ·rw [if_pos h2] at ht ⊢
   exact VR.mono g2 _ _ (inV_ok (C := p.C') ag _ _ rfl ht)
  rw [if_neg h2] at ht ⊢
  rw [frS_get] at ht
  rw [hfe]
  have low : VR φ (lkV p.fl t) (tmps.getD t undef) → VR φ2 (ff t) (tmps.getD t undef) := fun hv => by
   have hoF' := okF_ok hoF t
   simp only [Bool.or_eq_true] at hoF'
   rcases hoF' with h3 | h3
   ·rcases hff t h3 with h4 | h4
    ·rw [h4]
     exact VR.mono g2 _ _ (inV_ok ag _ _ (inV_mono (fun b => MP.C'_of) _ h3) hv)
    ·rw [h4]; simp only [VR]
   ·obtain ⟨z, hz, hzq⟩ := isQm_ok h3
    rw [hz] at hv
    simp only [VR] at hv
    rw [hv.1]
    rw [show φ.q z = φ0.q z from R.qz z hzq]
    exact VR.mono le2 _ _ (hfq t z hz)
  cases hpl : p.pl with
  | inl t' =>
   rw [hpl] at ht
   simp only at ht ⊢
   by_cases h3 : t = t'
   ·rw [if_pos h3] at ht ⊢
    exact VR.mono g2 _ _ (inV_ok ag _ _ (inV_acc hK) ht)
   ·rw [if_neg h3] at ht ⊢
    exact low ht
  | inr x =>
   rw [hpl] at ht
   exact low ht
end
end Go.Ev
namespace Go.Ev
noncomputable section
theorem mkHl_mem {h : H} {pl : Nat ⊕ (Nat × Nat)} {b0 bi : Nat} : ∀ {L : List Nat} {b : Nat} {q : Blk}, (b, q) ∈ mkHl h pl b0 bi L → b ≠ b0 ∧ b ≠ bi ∧ q = (match pl with | .inl _ => h.get b | .inr (ab, ao) => cond (Nat.beq b ab) (setA ao .top (h.get b)) (h.get b))
 | [], _, _, hm => by cases hm
 | c :: L, b, q, hm => by
  simp only [mkHl] at hm
  cases hc : (Nat.beq c b0 || Nat.beq c bi) with
  | true => rw [hc] at hm; exact mkHl_mem (L := L) hm
  | false =>
   rw [hc] at hm
   rcases List.mem_cons.1 hm with e | e
   ·cases e
    simp only [Bool.or_eq_false_iff] at hc
    refine ⟨fun e => ?_, fun e => ?_, rfl⟩
    ·rw [e, Nat.beq_refl] at hc; cases hc.1
    ·rw [e, Nat.beq_refl] at hc; cases hc.2
   ·exact mkHl_mem (L := L) e
theorem hasN_iff : ∀ {l : List Nat} {y : Nat}, hasN l y = true ↔ y ∈ l
 | [], y => by simp [hasN]
 | x :: xs, y => by
  simp only [hasN]
  by_cases h : y = x
  ·subst h; simp [Nat.beq_refl]
  ·rw [nbf h]
   simp only [cond_false, hasN_iff (l := xs), List.mem_cons, h, false_or]
theorem mkFl_ok {C : Nat → Bool} {qm : Nat} {fr : Fr} {wr : List Nat} : ∀ (n t : Nat), (lkV (mkFl C qm fr wr n) t = .top ∨ (t ∉ wr ∧ ((inV C (fr.get t) = true ∧ lkV (mkFl C qm fr wr n) t = fr.get t) ∨ (atomV (fr.get t) = true ∧ lkV (mkFl C qm fr wr n) t = .q (qm + t)))))
 | 0, t => .inl rfl
 | n + 1, t => by
  have ih := mkFl_ok (C := C) (qm := qm) (fr := fr) (wr := wr) n t
  simp only [mkFl]
  cases hw : hasN wr n with
  | true => exact ih
  | false =>
   simp only [cond_false]
   have hnw : n ∉ wr := fun h => by rw [hasN_iff.2 h] at hw; cases hw
   split
   ·exact ih
   ·rename_i v hv
    cases h1 : inV C (fr.get n) with
    | true =>
     simp only [cond_true, lkV]
     by_cases ht : t = n
     ·subst ht; rw [if_pos rfl]; exact .inr ⟨hnw, .inl ⟨h1, rfl⟩⟩
     ·rw [if_neg ht]; exact ih
    | false =>
     simp only [cond_false]
     cases h2 : atomV (fr.get n) with
     | true =>
      simp only [cond_true, lkV]
      by_cases ht : t = n
      ·subst ht; rw [if_pos rfl]; exact .inr ⟨hnw, .inr ⟨h2, rfl⟩⟩
      ·rw [if_neg ht]; exact ih
     | false => exact ih
theorem mkFf_ok {fr : Fr} : ∀ (l : List (Nat × V)) (t : Nat), lkV (mkFf fr l) t = (match lkV l t with | .q _ => fr.get t | v => v)
 | [], t => rfl
 | (k, v) :: l, t => by
  have ih := mkFf_ok (fr := fr) l t
  by_cases h : t = k
  ·subst h
   cases v <;> simp [mkFf, lkV]
  ·cases v <;> simp only [mkFf, lkV, if_neg h] <;> exact ih
theorem allC_ok {hl : List (Nat × Blk)} : ∀ {n : Nat}, allC hl n = true → ∀ g, g < n → hasK hl g = true
 | 0, _, g, h => by omega
 | n + 1, e, g, h => by
  simp only [allC, Bool.and_eq_true] at e
  by_cases hg : g = n
  ·rw [hg]; exact e.1
  ·exact allC_ok e.2 g (by omega)
theorem rndL_ok {p : MP} {ex : ExecT} {m : ML} {clk k : Nat} : ∀ {es : List (V × V × Nat)} {l : List Chk}, rndL p ex m clk k es = some l → l.length = es.length ∧ ∀ (i : Nat) (en : V × V × Nat) (ck : Chk), es[i]? = some en → l[i]? = some ck → rnd p ex none m.bb m.nx m.tn m.tm clk en k = some ck
 | [], l, h => by simp only [rndL, Option.some.injEq] at h; subst h; exact ⟨rfl, fun i en ck h => by simp at h⟩
 | en :: es, l, h => by
  simp only [rndL] at h
  split at h
  rotate_left
  ·cases h
  rename_i c hc
  split at h
  rotate_left
  ·cases h
  rename_i l' hl
  cases h
  obtain ⟨h1, h2⟩ := rndL_ok hl
  refine ⟨by simp [h1], fun i en' ck e1 e2 => ?_⟩
  cases i with
  | zero =>
   simp only [List.getElem?_cons_zero, Option.some.injEq] at e1 e2
   subst e1; subst e2; exact hc
  | succ i => exact h2 i en' ck (by simpa using e1) (by simpa using e2)
theorem sameBL_ok : ∀ {l l' : List (Nat × Blk)}, sameBL l l' = true → l = l'
 | [], [], _ => rfl
 | (b, q) :: l, (b', q') :: l', h => by
  simp only [sameBL, Bool.and_eq_true] at h
  rw [Nat.eq_of_beq_eq_true h.1.1, sameBk_ok h.1.2, sameBL_ok h.2]
 | [], _ :: _, h => by cases h
 | _ :: _, [], h => by cases h
theorem sameCks_ok : ∀ {l l' : List Chk}, sameCks l l' = true → l = l'
 | [], [], _ => rfl
 | (c, B, n) :: l, (c', B', n') :: l', h => by
  simp only [sameCks, Bool.and_eq_true] at h
  rw [same_s_ok _ _ h.1.1.1, sameBL_ok h.1.1.2, Nat.eq_of_beq_eq_true h.1.2, sameCks_ok h.2]
 | [], _ :: _, h => by cases h
 | (_, _, _) :: _, [], h => by cases h
theorem allSt_ok {p : MP} {ex : ExecT} {m : ML} {clk : Nat} {es : List (V × V × Nat)} {cks : List Chk} {k0 : Nat} : ∀ {n : Nat}, allSt p ex m clk es cks k0 n = true → ∀ j, j < n → rndL p ex m clk (k0 + j) es = some cks
 | 0, _, j, h => by omega
 | n + 1, e, j, h => by
  simp only [allSt, Bool.and_eq_true] at e
  by_cases hj : j = n
  ·subst hj
   have := e.1
   split at this
   ·rename_i c hc; rw [hc, sameCks_ok this]
   ·cases this
  ·exact allSt_ok e.2 j (by omega)
theorem findB_none {n : Nat} : ∀ {l : List (V × V × Nat)}, (findB n l).isNone = true → ∀ e ∈ l, e.2.2 ≠ n
 | [], _, e, he => by cases he
 | (k, v, m) :: l, h, e, he => by
  simp only [findB] at h
  cases hb : Nat.beq m n with
  | true => rw [hb] at h; cases h
  | false =>
   rw [hb] at h
   rcases List.mem_cons.1 he with rfl | he
   ·intro e; simp only at e; rw [e, Nat.beq_refl] at hb; cases hb
   ·exact findB_none h e he
theorem bornsOK_ok {since : Nat} : ∀ {l : List (V × V × Nat)}, bornsOK since l = true → (l.map (·.2.2)).Nodup ∧ ∀ e ∈ l, e.2.2 < since
 | [], _ => ⟨by simp, fun e h => by cases h⟩
 | (k, v, n) :: l, h => by
  simp only [bornsOK, Bool.and_eq_true] at h
  obtain ⟨h1, h2⟩ := bornsOK_ok h.2
  refine ⟨List.nodup_cons.2 ⟨fun hm => ?_, h1⟩, fun e he => ?_⟩
  ·obtain ⟨e, he, hn⟩ := List.mem_map.1 hm
   exact findB_none h.1.2 e he hn
  ·rcases List.mem_cons.1 he with rfl | he
   ·exact blt_iff.1 h.1.1
   ·exact h2 e he
theorem ptrK_ok {fl : List (Nat × V)} {ab : Nat} : ∀ {l : List (Nat × V)}, ptrK fl ab l = true → ∃ t o, lkV fl t = .p (some (ab, o))
 | [], h => by cases h
 | (t, _) :: l, h => by
  simp only [ptrK, Bool.or_eq_true] at h
  rcases h with h | h
  ·split at h
   ·rename_i b o hv
    rw [Nat.eq_of_beq_eq_true h] at hv
    exact ⟨t, o, hv⟩
   ·cases h
  ·exact ptrK_ok h
theorem splitC_flat {α : Type} {sz : Nat} : ∀ (k : Nat) (l : List α), l.length = k * sz → (splitC sz k l).flatten = l
 | 0, l, h => by simp only [Nat.zero_mul] at h; rw [List.eq_nil_of_length_eq_zero h]; rfl
 | k + 1, l, h => by
  rw [Nat.succ_mul] at h
  simp only [splitC, List.flatten_cons]
  rw [splitC_flat k (l.drop sz) (by simp; omega), List.take_append_drop]
theorem splitC_vrl {φ : Ren} {sz : Nat} : ∀ (k : Nat) (l : List V) (vs : List Value), VRs φ l vs → VRL φ (splitC sz k l) (splitC sz k vs)
 | 0, _, _, _ => rfl
 | k + 1, l, vs, h => by
  simp only [splitC, VRL]
  exact ⟨_, _, rfl, h.take sz, splitC_vrl k _ _ (h.drop sz)⟩
theorem lenL_ok {φ : Ren} : ∀ {cs : List (List V)} {us : List (List Value)}, VRL φ cs us → us.flatten.length = lenL cs
 | [], us, h => by simp only [VRL] at h; subst h; rfl
 | x :: l, us, h => by
  simp only [VRL] at h
  obtain ⟨y, ys, rfl, h1, h2⟩ := h
  simp only [List.flatten_cons, List.length_append, lenL, h1.length, lenL_ok h2]
structure St0 (φ : Ren) (h : H) (w : World) (st : MS) (sz : Nat) (e : TypeId) (r0 : Nat) (ps0 us0 : List (List Value)) : Prop where
 nm : φ st.b0 = some r0
 mt : (h.get st.b0).mut
 ni : ∀ m c, h.get st.b0 ≠ .mit m c
 vrl : VRL φ st.pre us0
 perm : List.Perm ps0 us0
 len : ps0.flatten.length = st.k0 * sz
 one : ∀ u ∈ ps0.flatten, u.oneCell' = true
 obj : ∃ c, w.heap[r0]? = some (.cells c e (0, 0)) ∧ c.toList.take (st.k0 * sz) = ps0.flatten ∧ st.k0 * sz ≤ c.size ∧ c.size = φ.n st.b0
theorem stOf_ok {φ : Ren} {h : H} {w : World} (hr : HR φ h w) {av : V} {v : Value} {st : MS} (hs : stOf h av = some st) (hv : VR φ av v) :
  (st.k0 = 0 ∧ st.pre = [] ∧ ∃ c, av = .sl none 0 c) ∨ (st.k0 ≠ 0 ∧ av = .sl (some (st.b0, 0)) st.k0 (.un st.sz) ∧ ∃ r0 ps0 us0, St0 φ h w st st.sz st.e r0 ps0 us0) := by
 unfold stOf at hs
 split at hs
 ·rename_i c
  cases hs
  exact .inl ⟨rfl, rfl, c, rfl⟩
 ·rename_i b0 k sz
  simp only [VR] at hv
  obtain ⟨r0, cap, hb, _, _, _⟩ := hv
  split at hs
  ·rename_i l e g hg
   obtain ⟨hc, hs⟩ := cond_some hs
   cases hs
   simp only [Bool.and_eq_true] at hc
   have hl := Nat.eq_of_beq_eq_true hc.1
   obtain ⟨o, h1, h2⟩ := hr.blk b0 r0 hb (by rw [hg]; trivial)
   rw [hg] at h2
   obtain ⟨c, rfl, h3, h4, _, h5⟩ := h2
   have hvl : (c.toList.take l.length).length = (k + 1) * sz := by rw [h3.length, hl]
   refine .inr ⟨Nat.succ_ne_zero _, rfl, r0, splitC sz (k + 1) (c.toList.take l.length), splitC sz (k + 1) (c.toList.take l.length), hb, by rw [hg]; trivial, fun m c e => (by rw [hg] at e; cases e), splitC_vrl _ _ _ h3, List.Perm.refl _, ?_, ?_, c, h1, ?_, ?_, h5⟩
   ·rw [splitC_flat _ _ hvl]; exact hvl
   ·rw [splitC_flat _ _ hvl]
    exact atoms_ok h3 hc.2
   ·rw [splitC_flat _ _ hvl, hl]
   ·show (k + 1) * sz ≤ c.size
    rw [← hl]; exact h4
  ·rename_i cs e hg
   obtain ⟨hc, hs⟩ := cond_some hs
   cases hs
   have hl := Nat.eq_of_beq_eq_true hc
   obtain ⟨o, h1, h2⟩ := hr.blk b0 r0 hb (by rw [hg]; trivial)
   rw [hg] at h2
   obtain ⟨c, us, ps, rfl, g1, g2, g3, g4, g5, g6⟩ := h2
   have hpl : ps.flatten.length = (k + 1) * sz := by
    rw [g2.flatten.length_eq, lenL_ok g1, hl]
   refine .inr ⟨Nat.succ_ne_zero _, rfl, r0, ps, us, hb, by rw [hg]; trivial, fun m c e => (by rw [hg] at e; cases e), g1, g2, hpl, g5, c, h1, ?_, ?_, g6⟩
   ·show c.toList.take ((k + 1) * sz) = _
    rw [← hpl]; exact g3
   ·show (k + 1) * sz ≤ c.size
    rw [← hpl]; exact g4
  ·cases hs
 ·cases hs
def stT (pl : Nat ⊕ (Nat × Nat)) (b : Nat) (q : Blk) : Blk := match pl with | .inl _ => q | .inr (ab, ao) => cond (Nat.beq b ab) (setA ao .top q) q
theorem setA_live {ao : Nat} {x : V} {q : Blk} : (setA ao x q).live ↔ q.live := by cases q <;> exact Iff.rfl
theorem setA_mut {ao : Nat} {x : V} {q : Blk} : (setA ao x q).mut ↔ q.mut := by cases q <;> exact Iff.rfl
theorem stT_live {pl : Nat ⊕ (Nat × Nat)} {b : Nat} {q : Blk} : (stT pl b q).live ↔ q.live := by
 unfold stT
 split
 ·exact Iff.rfl
 ·rename_i ab ao
  cases Nat.beq b ab with
  | true => exact setA_live
  | false => exact Iff.rfl
theorem stB_mut' {p : MP} {k b : Nat} {q : Blk} (pl : Nat ⊕ (Nat × Nat)) (h : (stB p k b (stT pl b q)).mut) : q.mut := by
 have h1 : (stT pl b q).mut := by
  unfold stB at h
  split at h
  ·exact h
  ·split at h
   ·exact setA_mut.1 h
   ·exact h
 unfold stT at h1
 split at h1
 ·exact h1
 ·rename_i ab ao
  cases hb : Nat.beq b ab with
  | true => rw [hb] at h1; exact setA_mut.1 h1
  | false => rw [hb] at h1; exact h1
theorem start_hr {φ : Ren} {h : H} {w : World} (hr : HR φ h w) {p : MP} (hp : p.ok = true) (hhn : p.hn = h.n) {b0 k0 : Nat} {av : V} (hav : p.pl = p.pl → ∀ ab ao, p.pl = .inr (ab, ao) → ∃ l e g, h.get ab = .cells l e g ∧ l[ao]? = some av)
  (hmem : ∀ b q, (b, q) ∈ p.hl → b ≠ b0 ∧ q = stT p.pl b (h.get b)) (hbi0 : k0 ≠ 0 → b0 ≠ p.bi)
  {L : List Nat} (hL : ∀ b, (b ∈ p.hl.map (·.1) ∨ (k0 ≠ 0 ∧ b = b0)) → b ∈ L)
  {φ0 : Ren} (fC : ∀ b, p.C b = true → φ0 b = φ b ∧ φ0.n b = φ.n b) (fN : ∀ b r, φ0 b = some r → p.C b = true ∨ (b = p.hn ∧ k0 ≠ 0 ∧ φ b0 = some r)) (fm : φ0.m = p.hn + 1) (fk : φ0.y.k = kS φ h w L)
  (hacc : ∀ v, VR φ av v → VR φ0 (accV p k0) v)
  (hrow : k0 ≠ 0 → (h.get b0).mut ∧ ∀ r, φ b0 = some r → ∃ o, w.heap[r]? = some o ∧ BR φ0 (φ0.n p.hn) (rowB p k0) o) : HR φ0 (hS p k0 .gone) w := by
 have hpk := hp
 simp only [MP.ok, Bool.and_eq_true] at hp
 obtain ⟨⟨⟨hoH, hoF⟩, hobi⟩, hoA⟩ := hp
 have ag : AgC p.C φ φ0 := fun b r hb e => ⟨(fC b hb).1.trans e, (fC b hb).2⟩
 have key : ∀ b r, φ0 b = some r → ((hS p k0 .gone).get b).live → (b < p.hn ∧ φ b = some r ∧ (b, lkB p.hl b) ∈ p.hl ∧ (hS p k0 .gone).get b = stB p k0 b (stT p.pl b (h.get b)) ∧ lkB p.hl b = stT p.pl b (h.get b) ∧ inBk p.C (lkB p.hl b) = true ∧ (h.get b).live) ∨ (b = p.hn ∧ k0 ≠ 0 ∧ φ b0 = some r) := fun b r e hl => by
  rcases fN b r e with hC | h2
  ·have hlt := MP.C_lt hpk hC
   rw [hS_get, if_neg (by omega)] at hl
   by_cases hbi : b = p.bi
   ·rw [if_pos hbi] at hl; exact hl.elim
   ·rw [if_neg hbi] at hl
    have hm := lkB_mem (stB_live.1 hl)
    have hq := (hmem b _ hm).2
    have hlv : (h.get b).live := by have := stB_live.1 hl; rw [hq] at this; exact stT_live.1 this
    exact .inl ⟨hlt, (fC b hC).1.symm.trans e, hm, by rw [hS_get, if_neg (by omega), if_neg hbi, hq], hq, (okH_ok hoH b _ hm).2.2, hlv⟩
  ·exact .inr h2
 refine ⟨fm, fun b r e => ?_, fun b r e hl => ?_, fun b b' r e e' hl hl' => ?_, fun r o hk => ?_⟩
 ·show b < p.hn + 1 ∧ _
  rcases fN b r e with hC | ⟨rfl, _, h2⟩
  ·exact ⟨by have := MP.C_lt hpk hC; omega, (hr.dom b r ((fC b hC).1.symm.trans e)).2⟩
  ·exact ⟨by omega, (hr.dom _ r h2).2⟩
 ·rcases key b r e hl with ⟨hlt, e1, hm, hg, hq, hin, hlv⟩ | ⟨rfl, hk, e1⟩
  ·obtain ⟨o, g1, g2⟩ := hr.blk b r e1 hlv
   refine ⟨o, g1, ?_⟩
   have hC : p.C b = true := by simp only [MP.C, Bool.or_eq_true]; exact .inl (hasK_iff.2 ⟨_, hm⟩)
   rw [hg, (fC b hC).2]
   rw [hq] at hin
   unfold stB
   split
   ·rename_i t hpl
    rw [hpl] at hin ⊢
    exact inBk_ok ag hin g2
   ·rename_i ab ao hpl
    rw [hpl] at hin ⊢
    by_cases hb : b = ab
    ·subst hb
     rw [if_pos rfl]
     unfold stT at hin ⊢
     simp only [Nat.beq_refl, cond_true] at hin ⊢
     obtain ⟨l, e0, g0, h1, h2⟩ := hav rfl b ao hpl
     rw [h1] at hin g2 ⊢
     obtain ⟨c, rfl, h3, h4, h5, h6⟩ := g2
     have hin : inVs p.C (l.set ao .top) = true := hin
     show BR φ0 _ (.cells ((l.set ao .top).set ao (accV p k0)) e0 g0) _
     rw [List.set_set]
     refine ⟨c, rfl, VRs_of (by rw [List.length_set]; exact h3.length) fun i x v hx hv => ?_, by simpa using h4, fun hg' => by simpa using h5 hg', h6⟩
     rw [List.length_set] at hv
     have hilt : i < l.length := by
      have := (List.getElem?_eq_some_iff.1 hx).1
      simpa using this
     obtain ⟨z, hz, hzv⟩ := h3.get (List.getElem?_eq_getElem hilt)
     rw [hv] at hz; cases hz
     by_cases hi : i = ao
     ·subst hi
      rw [List.getElem?_eq_getElem hilt] at h2
      rw [List.getElem?_set_self hilt] at hx
      cases hx
      rw [Option.some.inj h2] at hzv
      exact hacc _ hzv
     ·have hx2 := hx
      rw [List.getElem?_set_ne (Ne.symm hi)] at hx
      have : (l.set ao .top)[i]? = some x := by rw [List.getElem?_set_ne (Ne.symm hi)]; exact hx
      rw [List.getElem?_eq_getElem hilt] at hx
      rw [Option.some.inj hx] at hzv
      exact inV_ok ag _ _ (inVs_get hin this) hzv
    ·rw [if_neg hb]
     unfold stT at hin ⊢
     simp only [nbf hb, cond_false] at hin ⊢
     exact inBk_ok ag hin g2
  ·obtain ⟨_, h2⟩ := hrow hk
   obtain ⟨o, g1, g2⟩ := h2 r e1
   exact ⟨o, g1, by rw [hS_get, if_pos rfl]; exact g2⟩
 ·rcases key b r e hl with ⟨hlt, e1, hm, _, _, _, hlv⟩ | ⟨rfl, hk, e1⟩ <;> rcases key b' r e' hl' with ⟨hlt', e1', hm', _, _, _, hlv'⟩ | ⟨rfl, hk', e1'⟩
  ·exact hr.inj b b' r e1 e1' hlv hlv'
  ·exact absurd (hr.inj b b0 r e1 e1' hlv (hrow hk').1.live) (hmem b _ hm).1
  ·exact absurd (hr.inj b' b0 r e1' e1 hlv' (hrow hk).1.live) (hmem b' _ hm').1
  ·rfl
 ·rw [fk] at hk
  obtain ⟨k1, k2⟩ := kS_is hk
  refine ⟨k1, fun b e hmt => ?_⟩
  rcases key b r e hmt.live with ⟨hlt, e1, hm, hg, _, _, hlv⟩ | ⟨rfl, hk', e1⟩
  ·rw [hg] at hmt
   exact k2 ⟨b, hL b (.inl (List.mem_map.2 ⟨_, hm, rfl⟩)), e1, stB_mut' p.pl hmt⟩
  ·exact k2 ⟨b0, hL b0 (.inr ⟨hk', rfl⟩), e1, (hrow hk').1⟩
end
end Go.Ev
namespace Go.Ev
noncomputable section
theorem remE_ok {φ : Ren} {k v : V} : ∀ {m m' : List En} {ps : List MapEntry}, remE k v m = some m' → EXs φ m ps → ∃ e ps', VR φ k e.key ∧ VR φ v e.val ∧ EXs φ m' ps' ∧ ps.Perm (e :: ps')
 | [], _, _, h, _ => by cases h
 | (k', v', n) :: l, m', ps, h, hx => by
  simp only [EXs] at hx
  obtain ⟨e, ps1, rfl, h1, h2, h4⟩ := hx
  simp only [remE] at h
  cases hb : same k k' && same v v' with
  | true =>
   rw [hb] at h
   simp only [cond_true, Option.some.injEq] at h
   subst h
   simp only [Bool.and_eq_true] at hb
   rw [same_ok _ _ hb.1, same_ok _ _ hb.2]
   exact ⟨e, ps1, h1, h2, h4, List.Perm.refl _⟩
  | false =>
   rw [hb] at h
   simp only [cond_false] at h
   split at h
   ·rename_i r hr
    simp only [Option.some.injEq] at h
    subst h
    obtain ⟨e', ps', g1, g2, g3, g4⟩ := remE_ok hr h4
    refine ⟨e', e :: ps', g1, g2, ?_, (List.Perm.cons e g4).trans (List.Perm.swap e' e ps')⟩
    simp only [EXs]
    exact ⟨e, ps', rfl, h1, h2, g3⟩
   ·cases h
theorem permB_ok {φ : Ren} : ∀ {l m : List En} {ps : List MapEntry}, permB l m = true → EXs φ m ps → ∃ ps', EXs φ l ps' ∧ ps.Perm ps'
 | [], [], ps, _, hx => ⟨ps, hx, List.Perm.refl _⟩
 | (k, v, n) :: l, m, ps, h, hx => by
  simp only [permB] at h
  split at h
  ·rename_i m' hm
   obtain ⟨e, ps1, h1, h2, h3, h4⟩ := remE_ok hm hx
   obtain ⟨ps2, g1, g2⟩ := permB_ok h h3
   refine ⟨e :: ps2, ?_, h4.trans (List.Perm.cons e g2)⟩
   simp only [EXs]
   exact ⟨e, ps2, rfl, h1, h2, g1⟩
  ·cases h
 | [], _ :: _, _, h, _ => by cases h
theorem sameQ_br {φ : Ren} {N : Nat} {q q' : Blk} {o : Obj} (h : sameQ q q' = true) (hb : BR φ N q' o) : BR φ N q o := by
 unfold sameQ at h
 split at h
 ·obtain ⟨l, c, ps, h1, h2, h3⟩ := hb
  obtain ⟨ps', g1, g2⟩ := permB_ok h h2
  exact ⟨l, c, ps', h1, g1, h3.trans g2⟩
 ·rw [sameBk_ok h]; exact hb
theorem sameQ_live {q q' : Blk} (h : sameQ q q' = true) : q.live ↔ q'.live := by
 unfold sameQ at h
 split at h
 ·exact Iff.rfl
 ·rw [sameBk_ok h]
theorem sameQ_mut {q q' : Blk} (h : sameQ q q' = true) : q.mut ↔ q'.mut := by
 unfold sameQ at h
 split at h
 ·exact Iff.rfl
 ·rw [sameBk_ok h]
theorem sameQs_lk : ∀ {s s' : Sq}, sameQs s s' = true → ∀ b, (lkB s b = .gone ∧ lkB s' b = .gone) ∨ sameQ (lkB s b) (lkB s' b) = true
 | [], [], _, b => .inl ⟨rfl, rfl⟩
 | (c, q) :: s, (c', q') :: s', h, b => by
  simp only [sameQs, Bool.and_eq_true] at h
  have e := Nat.eq_of_beq_eq_true h.1.1
  subst e
  simp only [lkB]
  by_cases hb : b = c
  ·rw [if_pos hb, if_pos hb]; exact .inr h.1.2
  ·rw [if_neg hb, if_neg hb]; exact sameQs_lk h.2 b
 | [], _ :: _, h, _ => by cases h
 | _ :: _, [], h, _ => by cases h
theorem HR.swap {φ : Ren} {h h' : H} {w : World} (hr : HR φ h w) (hn : h'.n = h.n) (hs : ∀ b, (h'.get b = .gone) ∨ (((h'.get b).live → (h.get b).live) ∧ ((h'.get b).mut → (h.get b).mut) ∧ ∀ N o, BR φ N (h.get b) o → BR φ N (h'.get b) o)) : HR φ h' w := by
 have lv : ∀ b, (h'.get b).live → (h.get b).live ∧ ((h'.get b).mut → (h.get b).mut) ∧ ∀ N o, BR φ N (h.get b) o → BR φ N (h'.get b) o := fun b hl => by
  rcases hs b with h1 | h1
  ·rw [h1] at hl; exact hl.elim
  ·exact ⟨h1.1 hl, h1.2⟩
 refine ⟨by rw [hr.cnt, hn], fun b r e => by rw [hn]; exact hr.dom b r e, fun b r e hl => ?_, fun b b' r e e' hl hl' => hr.inj b b' r e e' (lv b hl).1 (lv b' hl').1, fun r o hk => ?_⟩
 ·obtain ⟨h1, _, h3⟩ := lv b hl
  obtain ⟨o, g1, g2⟩ := hr.blk b r e h1
  exact ⟨o, g1, h3 _ _ g2⟩
 ·obtain ⟨k1, k2⟩ := hr.kp r o hk
  exact ⟨k1, fun b e hm => k2 b e ((lv b hm.live).2.1 hm)⟩
theorem sameQs_hr {φ : Ren} {n : Nat} {s s' : Sq} {w : World} (h : sameQs s s' = true) (hr : HR φ (hOf n s') w) : HR φ (hOf n s) w := by
 refine hr.swap rfl fun b => ?_
 rw [hOf_get, hOf_get]
 rcases sameQs_lk h b with ⟨h1, _⟩ | h1
 ·exact .inl h1
 ·exact .inr ⟨(sameQ_live h1).1, (sameQ_mut h1).1, fun N o hb => sameQ_br h1 hb⟩
theorem chgL_lk : ∀ (s s0 s1 : Sq) (b : Nat), lkB (chgL s s0 s1) b = lkB s b ∨ lkB (chgL s s0 s1) b = wkMs (lkB s b)
 | [], _, _, _ => .inl rfl
 | (c, q) :: s, [], _, _ => .inl rfl
 | (c, q) :: s, _ :: _, [], _ => .inl rfl
 | (c, q) :: s, (c0, q0) :: s0, (c1, q1) :: s1, b => by
  simp only [chgL, lkB]
  by_cases hb : b = c
  ·rw [if_pos hb, if_pos hb]
   cases sameQ q0 q1
   ·exact .inr rfl
   ·exact .inl rfl
  ·rw [if_neg hb, if_neg hb]; exact chgL_lk s s0 s1 b
theorem wkMs_br {φ : Ren} {N : Nat} {q : Blk} {o : Obj} (hb : BR φ N q o) : BR φ N (wkMs q) o := by
 cases q <;> first | exact hb | skip
 obtain ⟨l, h1, h2⟩ := hb
 exact ⟨l, _, l.toList, h1, EXs.of h2, List.Perm.refl _⟩
theorem wkMs_live {q : Blk} (h : (wkMs q).live) : q.live := by cases q <;> first | exact h | trivial
theorem wkMs_mut {q : Blk} (h : (wkMs q).mut) : q.mut := by cases q <;> first | exact h | trivial
theorem weakQ_hr {R : Sq → En → Option Sq} {s0 : Sq} {φ : Ren} {n : Nat} {w : World} : ∀ (es : List En) (s : Sq), HR φ (hOf n s) w → HR φ (hOf n (weakQ R s0 es s)) w
 | [], s, h => h
 | en :: es, s, h => by
  simp only [weakQ]
  split
  ·rename_i s1 _
   refine weakQ_hr es _ (h.swap rfl fun b => ?_)
   rw [hOf_get, hOf_get]
   rcases chgL_lk s s0 s1 b with e | e
   ·rw [e]; exact .inr ⟨id, id, fun _ _ hb => hb⟩
   ·rw [e]; exact .inr ⟨wkMs_live, wkMs_mut, fun _ _ hb => wkMs_br hb⟩
  ·exact weakQ_hr es s h
theorem hasK_chgL : ∀ (s s0 s1 : Sq) (b : Nat), hasK (chgL s s0 s1) b = hasK s b
 | [], _, _, _ => rfl
 | (c, q) :: s, [], _, _ => rfl
 | (c, q) :: s, _ :: _, [], _ => rfl
 | (c, q) :: s, (c0, q0) :: s0, (c1, q1) :: s1, b => by
  simp only [chgL, hasK, hasK_chgL s s0 s1 b]
theorem hasK_weakQ {R : Sq → En → Option Sq} {s0 : Sq} : ∀ (es : List En) (s : Sq) (b : Nat), hasK (weakQ R s0 es s) b = hasK s b
 | [], s, b => rfl
 | en :: es, s, b => by
  simp only [weakQ]
  split
  ·rename_i s1 _
   rw [hasK_weakQ es, hasK_chgL]
  ·exact hasK_weakQ es s b
theorem hasK_stepQ (h1 : H) : ∀ (s : Sq) (b : Nat), hasK (stepQ h1 s) b = hasK s b
 | [], _ => rfl
 | (c, q) :: s, b => by simp only [stepQ, hasK, hasK_stepQ h1 s b]
theorem lkB_stepQ (h1 : H) : ∀ (s : Sq) (b : Nat), hasK s b = true → lkB (stepQ h1 s) b = h1.get b
 | [], _, h => by cases h
 | (c, q) :: s, b, h => by
  simp only [stepQ, lkB]
  by_cases hb : b = c
  ·rw [if_pos hb, hb]
  ·rw [if_neg hb]
   simp only [hasK, nbf hb, cond_false] at h
   exact lkB_stepQ h1 s b h
theorem closedQ_ok {n : Nat} : ∀ {s : Sq}, closedQ n s = true → ∀ b, hasK s b = true → inBk (fun b => Nat.blt b n) (lkB s b) = true
 | [], _, b, h => by cases h
 | (c, q) :: s, e, b, h => by
  simp only [closedQ, Bool.and_eq_true] at e
  simp only [lkB]
  by_cases hb : b = c
  ·rw [if_pos hb]; exact e.1
  ·rw [if_neg hb]
   simp only [hasK, nbf hb, cond_false] at h
   exact closedQ_ok e.2 b h
theorem listQ_lk {h : H} {bi : Nat} : ∀ (L : List Nat) (b : Nat), (hasK (listQ h bi L) b = true ↔ b ∈ L ∧ b ≠ bi) ∧ (hasK (listQ h bi L) b = true → lkB (listQ h bi L) b = h.get b)
 | [], b => ⟨⟨fun h => (by cases h), fun h => (by cases h.1)⟩, fun h => by cases h⟩
 | c :: L, b => by
  have ih := listQ_lk (h := h) (bi := bi) L b
  by_cases hc : c = bi
  ·subst hc
   simp only [listQ, Nat.beq_refl, cond_true]
   refine ⟨?_, ih.2⟩
   rw [ih.1, List.mem_cons]
   constructor
   ·exact fun h => ⟨.inr h.1, h.2⟩
   ·rintro ⟨h1 | h1, h2⟩
    ·exact absurd h1 h2
    ·exact ⟨h1, h2⟩
  ·simp only [listQ, nbf hc, cond_false, hasK, lkB]
   by_cases hb : b = c
   ·subst hb
    simp [hc]
   ·rw [nbf hb, if_neg hb]
    simp only [cond_false]
    refine ⟨?_, ih.2⟩
    rw [ih.1, List.mem_cons]
    constructor
    ·exact fun h => ⟨.inr h.1, h.2⟩
    ·rintro ⟨h1 | h1, h2⟩
     ·exact absurd h1 hb
     ·exact ⟨h1, h2⟩
theorem hasK_false {s : Sq} {b : Nat} (h : (lkB s b).live) : hasK s b = true := by
 cases hk : hasK s b with
 | true => rfl
 | false => rw [lkB_none hk] at h; exact h.elim
structure RqI (m : ML) (fn : Nat) (fl : List (Nat × V)) (bi mN clk n : Nat) (s : Sq) (en : En) (s1 : Sq) (x : X) (fr1 : Fr) (h1 : H) : Prop where
 fn : fr1.n = fn
 x : isNx m.nx x = true
 fr : frOK fr1 fl = true
 bi : h1.get bi = .mie mN clk en.2.2
 s : s1 = stepQ h1 s
 cl : closedQ n s1 = true
theorem rndQ_inv {ex : ExecT} {m : ML} {fn : Nat} {fl : List (Nat × V)} {bi mN clk n : Nat} {s : Sq} {en : En} {s1 : Sq} (e : rndQ ex m fn fl bi mN clk n s en = some s1) :
  ∃ x fr1 h1, ex none m.bb (((frOf fn fl).set m.tn (.t [.b true, en.1, en.2.1])).set m.tm (.b true)) [] ((hOf n s).set bi (.mie mN clk en.2.2)) = some (x, fr1, [], h1) ∧ RqI m fn fl bi mN clk n s en s1 x fr1 h1 := by
 unfold rndQ at e
 split at e
 ·rename_i x fr1 h1 hex
  obtain ⟨hc, e⟩ := cond_some e
  cases e
  simp only [Bool.and_eq_true] at hc
  exact ⟨x, fr1, h1, hex, Nat.eq_of_beq_eq_true hc.1.1.1.1, hc.1.1.1.2, hc.1.1.2, sameMie hc.1.2, rfl, hc.2⟩
 ·cases e
theorem rndQ_ok {E : Env} {ex : ExecT} (hX : ExecOK E ex) {m : ML} {fn : Nat} {fl : List (Nat × V)} {bi mN clk n : Nat} {s : Sq} {en : En} {s1 : Sq} (e : rndQ ex m fn fl bi mN clk n s en = some s1) (hbs : hasK s bi = false)
  (hfl : ∀ t, inV (fun b => Nat.blt b n) (lkV fl t) = true) {φ : Ren} {w : World} {a : Act} (hbd : BD E φ) (hg : GL E.ng φ) (hr : HR φ ((hOf n s).set bi (.mie mN clk en.2.2)) w) (hf : FR φ (((frOf fn fl).set m.tn (.t [.b true, en.1, en.2.1])).set m.tm (.b true)) a.tmps) (k : Nat) :
  m.bb.wpIn (W none) k E.P (fun e a' w' => (e = .normal ∨ e = .exit m.nx) ∧ a'.defers = a.defers ∧ HR φ (hOf n s1) w' ∧ FR φ (frOf fn fl) a'.tmps ∧ Ext φ w φ w' ∧ ∀ c r, φ c = some r → φ bi = some r → ¬ ((hOf n s1).get c).live) a w := by
 obtain ⟨x, fr1, h1, hex, I⟩ := rndQ_inv e
 have hcl := I.cl
 refine wpIn_mono (hX (D := a.defers) none m.bb _ [] _ x fr1 [] h1 hex φ a w none k hg hbd rfl hf rfl hr) ?_
 rintro e1 a' w' ⟨φ1, hx, rfl, hf1, hd1, hr1⟩
 have hm : φ.m = n := hr.cnt
 have low : ∀ b r, φ b = some r → b < n := fun b r e => (hr.dom b r e).1
 have up1 : ∀ b r, φ b = some r → φ1 b = some r ∧ φ1.n b = φ.n b := fun b r e => hx.le b r e
 have hag : AgC (fun b => Nat.blt b n) φ1 φ := fun b r hb e => by
  have hb : b < n := blt_iff.1 hb
  rcases hx.only b r e with e1 | e1
  ·exact ⟨e1, (up1 b r e1).2.symm⟩
  ·rw [hm] at e1; omega
 have hyy : φ1.y = φ.y := hx.le.yy
 have hget : ∀ b, ((hOf n s1).get b).live → hasK s b = true ∧ (hOf n s1).get b = h1.get b := fun b hl => by
  rw [hOf_get] at hl ⊢
  rw [I.s] at hl ⊢
  have := hasK_false hl
  rw [hasK_stepQ] at this
  exact ⟨this, lkB_stepQ h1 s b this⟩
 refine ⟨?_, hd1, ?_, ?_, ⟨Le.refl φ, Nat.le_refl _, fun _ _ h => .inl h, hx.dr, hx.size, hx.os, hx.tape, hx.output, hx.frame⟩, fun c r ec eb hl => ?_⟩
 ·have := I.x
  cases x with
  | n => exact .inl rfl
  | e j => exact .inr (by rw [X.exit, Nat.eq_of_beq_eq_true this])
  | r => cases this
 ·refine ⟨hm, fun b r e => ⟨low b r e, Nat.lt_of_lt_of_le (hr.dom b r e).2 hx.size⟩, fun b r e hl => ?_, fun b b' r e e' hl hl' => ?_, fun r o hk => ?_⟩
  ·obtain ⟨hk, hq⟩ := hget b hl
   have hin : inBk (fun b => Nat.blt b n) ((hOf n s1).get b) = true := by
    rw [hOf_get]
    exact closedQ_ok hcl b (by rw [I.s, hasK_stepQ]; exact hk)
   obtain ⟨o, g1, g2⟩ := hr1.blk b r (up1 b r e).1 (by rw [← hq]; exact hl)
   refine ⟨o, g1, ?_⟩
   rw [← hq, (up1 b r e).2] at g2
   exact inBk_ok hag hin g2
  ·exact hr1.inj b b' r (up1 b r e).1 (up1 b' r e').1 (by rw [← (hget b hl).2]; exact hl) (by rw [← (hget b' hl').2]; exact hl')
  ·obtain ⟨k1, k2⟩ := hr1.kp r o (by rw [hyy]; exact hk)
   exact ⟨k1, fun b e hm => k2 b (up1 b r e).1 (by rw [← (hget b hm.live).2]; exact hm)⟩
 ·refine ⟨hf1.1.trans I.fn, fun t => ?_⟩
  rw [frOf_get]
  rcases frOK_get I.fr t with h | h
  ·rw [h]; simp only [VR]
  ·have := hf1.2 t
   rw [h] at this
   exact inV_ok hag _ _ (hfl t) this
 ·obtain ⟨hk, hq⟩ := hget c hl
  have := hr1.inj c bi r (up1 c r ec).1 (up1 bi r eb).1 (by rw [← hq]; exact hl) (by rw [I.bi]; trivial)
  rw [this, hbs] at hk
  cases hk
def Good (R : Sq → En → Option Sq) (ok : Sq → Bool) (n : Nat) (F : Sq) (rem : List En) (s : Sq) : Prop :=
 ∃ k f, confQ R ok k rem s = some f ∧ ∀ φ w, HR φ (hOf n f) w → HR φ (hOf n F) w
theorem Good.ok {R : Sq → En → Option Sq} {ok : Sq → Bool} {n : Nat} {F : Sq} {rem : List En} {s : Sq} (h : Good R ok n F rem s) : ok s = true := by
 obtain ⟨k, f, h, _⟩ := h
 cases k with
 | zero =>
  simp only [confQ] at h
  split at h
  ·exact (cond_some h).1
  ·cases h
 | succ k =>
  simp only [confQ] at h
  split at h
  ·exact (cond_some h).1
  ·split at h
   ·have := (cond_some h).1
    simp only [Bool.and_eq_true] at this
    exact this.1
   ·cases h
theorem Good.done {R : Sq → En → Option Sq} {ok : Sq → Bool} {n : Nat} {F s : Sq} (h : Good R ok n F [] s) {φ : Ren} {w : World} (hr : HR φ (hOf n s) w) : HR φ (hOf n F) w := by
 obtain ⟨k, f, h, hi⟩ := h
 cases k with
 | zero => simp only [confQ] at h; cases (cond_some h).2; exact hi _ _ hr
 | succ k => simp only [confQ] at h; cases (cond_some h).2; exact hi _ _ hr
theorem choices_ok {g : List En → Sq → Option Sq} {R : Sq → En → Option Sq} {s : Sq} : ∀ {pre post : List En} {l : List Sq}, choices g R s pre post = some l → ∀ a ∈ post, ∃ p1 p2 s1 f, pre ++ post = p1 ++ a :: p2 ∧ R s a = some s1 ∧ g (p1 ++ p2) s1 = some f ∧ f ∈ l
 | _, [], _, _, a, ha => by cases ha
 | pre, b :: post, l, h, a, ha => by
  simp only [choices] at h
  split at h
  ·rename_i s1 hs1
   split at h
   ·rename_i f hf
    split at h
    ·rename_i l' hl'
     simp only [Option.some.injEq] at h
     subst h
     rcases List.mem_cons.1 ha with rfl | ha
     ·exact ⟨pre, post, s1, f, rfl, hs1, hf, by simp⟩
     ·obtain ⟨p1, p2, s2, f2, e1, e2, e3, e4⟩ := choices_ok hl' a ha
      exact ⟨p1, p2, s2, f2, by rw [← e1]; simp, e2, e3, List.mem_cons_of_mem _ e4⟩
    ·cases h
   ·cases h
  ·cases h
theorem Good.step {R : Sq → En → Option Sq} {ok : Sq → Bool} {n : Nat} {F : Sq} {rem : List En} {s : Sq} (h : Good R ok n F rem s) {a : En} (ha : a ∈ rem) : ∃ p1 p2 s1, rem = p1 ++ a :: p2 ∧ R s a = some s1 ∧ Good R ok n F (p1 ++ p2) s1 := by
 obtain ⟨k, f, h, hi⟩ := h
 cases k with
 | zero =>
  simp only [confQ] at h
  split at h
  ·cases ha
  ·cases h
 | succ k =>
  simp only [confQ] at h
  split at h
  ·cases ha
  ·rename_i b l
   split at h
   ·rename_i f0 fs hch
    obtain ⟨hc, h⟩ := cond_some h
    cases h
    simp only [Bool.and_eq_true, List.all_eq_true] at hc
    obtain ⟨p1, p2, s1, f1, e1, e2, e3, e4⟩ := choices_ok hch a ha
    refine ⟨p1, p2, s1, by simpa using e1, e2, k, f1, e3, fun φ w hr => ?_⟩
    rcases List.mem_cons.1 e4 with rfl | e4
    ·exact hi _ _ hr
    ·exact hi _ _ (sameQs_hr (hc.2 f1 e4) hr)
   ·cases h
theorem allQ_mem {R : Sq → En → Option Sq} {s : Sq} : ∀ {l : List En}, allQ R s l = true → ∀ e ∈ l, quietQ R s e = true
 | [], _, _, h => by cases h
 | e :: l, h, e', he => by
  simp only [allQ, Bool.and_eq_true] at h
  rcases List.mem_cons.1 he with rfl | he
  ·exact h.1
  ·exact allQ_mem h.2 e' he
theorem splitQ_ok {R : Sq → En → Option Sq} {s : Sq} : ∀ (es : List En), (∀ e ∈ es, e ∈ (splitQ R s es).1 ∨ e ∈ (splitQ R s es).2) ∧ (splitQ R s es).2.Sublist es
 | [] => ⟨fun _ h => (by cases h), List.Sublist.refl _⟩
 | e :: es => by
  obtain ⟨h1, h2⟩ := splitQ_ok (R := R) (s := s) es
  simp only [splitQ]
  cases quietQ R s e with
  | true =>
   refine ⟨fun e' he => ?_, h2.cons e⟩
   rcases List.mem_cons.1 he with rfl | he
   ·exact .inl (by simp)
   ·rcases h1 e' he with h | h
    ·exact .inl (List.mem_cons_of_mem _ h)
    ·exact .inr h
  | false =>
   refine ⟨fun e' he => ?_, h2.cons_cons e⟩
   rcases List.mem_cons.1 he with rfl | he
   ·exact .inr (by simp)
   ·rcases h1 e' he with h | h
    ·exact .inl h
    ·exact .inr (List.mem_cons_of_mem _ h)
section
variable (E : Env) (m : ML) (fn : Nat) (fl : List (Nat × V)) (bi mN clk n since rI rm : Nat) (es qs : List En) (R : Sq → En → Option Sq) (F : Sq) (D : List Deferred) (φ : Ren) (w0 : World)
structure RQ (rem : List En) (s : Sq) (dn : List Nat) (a : Act) (w : World) : Prop where
 hr : HR φ (hOf n s) w
 fr : FR φ (frOf fn fl) a.tmps
 df : a.defers = D
 un : ∀ c, φ c = some rI → ¬ ((hOf n s).get c).live
 bs : hasK s bi = false
 it : ∃ c, since ≤ c ∧ w.heap[rI]? = some (.mapIter (some rm) since (dn.map (bo es)).toArray c)
 nd : dn.Nodup
 sub : ∀ i ∈ dn, i < es.length
 ext : Ext φ w0 φ w
 good : Good R (okQ R n mN clk es qs) n F rem s
 rnd : rem.Nodup
 rin : ∀ e ∈ rem, ∃ i, es[i]? = some e ∧ i ∉ dn
 cov : ∀ i e, es[i]? = some e → i ∉ dn → e ∈ qs ∨ e ∈ rem
end
section
variable {E : Env} {ex : ExecT} {m : ML} {fn : Nat} {fl : List (Nat × V)} {bi mN clk n since rI rm : Nat} {es qs : List En} {F : Sq} {D : List Deferred} {φ : Ren} {w0 : World}
theorem passQ_ok (hX : ExecOK E ex) (hpl : ∀ ψ : Ren, ψ.y.d = φ.y.d → BD E ψ) (hg : GL E.ng φ) (hI : φ bi = some rI) (hm : φ mN = some rm) (hk0 : φ.y.k rI = none) (hit0 : lkV fl m.it = .p (some (bi, 0))) (htn : m.tn < fn) (htm : m.tm < fn) (hnd : (es.map (·.2.2)).Nodup) (hlt : ∀ e ∈ es, e.2.2 < since) (hsc : since ≤ clk)
  (hfl : ∀ t, inV (fun b => Nat.blt b n) (lkV fl t) = true) {id g : Nat} {ops : Array Oper} (hops : mlOps ops = some (m.it, m.tn, m.tm)) {rem : List En} {s : Sq} {dn : List Nat} {a : Act} {w : World}
  (R : RQ fn fl bi mN clk n since rI rm es qs (rndQ ex m fn fl bi mN clk n) F D φ w0 rem s dn a w) (k : Nat) :
  (Code.seq (.region g ops false) (.seq (.cond (.tmp m.tm) .skip (.exit id)) (.block m.nx m.bb))).wpIn (W none) k E.P (fun e a' w' =>
   (e = .normal ∧ dn.length < es.length ∧ ∃ i rem' s', RQ fn fl bi mN clk n since rI rm es qs (rndQ ex m fn fl bi mN clk n) F D φ w0 rem' s' (dn ++ [i]) a' w') ∨
   (e = .exit id ∧ es.length ≤ dn.length ∧ w' = w ∧ a'.defers = D ∧ FR φ (((frOf fn fl).set m.tn (.t [.b false])).set m.tm (.b false)) a'.tmps)) a w := by
 obtain ⟨o1, o2, rfl, d1, p1, g1, d2, p2, g2⟩ := mlOps_some hops
 have hok := R.good.ok
 simp only [okQ, Bool.and_eq_true] at hok
 obtain ⟨⟨hcl, hmp⟩, hqs⟩ := hok
 have hmp := sameBk_ok hmp
 obtain ⟨om, hom, hbm⟩ := R.hr.blk mN rm hm (by rw [hOf_get, hmp]; trivial)
 rw [hOf_get, hmp] at hbm
 obtain ⟨es', rfl, hes⟩ := hbm
 obtain ⟨c, hsc', hit⟩ := R.it
 have hbo : ∀ i en, es[i]? = some en → bo es i = en.2.2 := fun i en h => by unfold bo; rw [h]
 have hval : a.eval (.tmp m.it) = .pointer (some ⟨rI, 0, none⟩) := by
  have := R.fr.2 m.it
  rw [frOf_get, hit0] at this
  simp only [VR] at this
  obtain ⟨r, hr, hv⟩ := this
  rw [hI] at hr; cases hr
  exact hv
 have hleft := run_next_at (P := E.P) w o1.type rI rm since c (dn.map (bo es)).toArray es' clk hit hom (fun x hx => by
  obtain ⟨i, hi⟩ := List.mem_iff_getElem?.1 hx
  obtain ⟨en, e1, _, _, e2⟩ := hes.at hi
  rw [e2]; exact hlt en (List.mem_of_getElem? e1)) hsc'
 have hw1 : ∀ t : Array Value, Region.wanted o1 (yielded ⟨[o1, o2]⟩ t) = true := fun t => by simp [Region.wanted, g1]
 have hw2 : ∀ t : Array Value, Region.wanted o2 (yielded ⟨[o1, o2]⟩ t) = true := fun t => by simp [Region.wanted, g2]
 have hd1 : ∀ c, o1.op ≠ .defer c := fun c e => by rw [p1] at e; cases e
 have hd2 : ∀ c, o2.op ≠ .defer c := fun c e => by rw [p2] at e; cases e
 have ext : ∀ (fr : Fr) (w' : World) (a' : Act) (vs : List Value) (x : Bool) {Q : Exit → Act → World → Prop}, FR φ fr a'.tmps → fr.n = fn → a'.tmps.getD m.tn undef = .tuple (.bool x :: vs).toArray →
   (∀ a'', FR φ (fr.set m.tm (.b x)) a''.tmps → a''.defers = a'.defers → a''.eval (.tmp m.tm) = .bool x → Q .normal a'' w') → wpListIn (W none) k E.P ⟨[o1, o2]⟩ Q [o2] a' w' := fun fr w' a' vs x Q hf' hfn' hgt hQ => by
  simp only [wpListIn, hw2, if_true]
  refine ⟨fun _ _ => trivial, ?_⟩
  rw [Oper.semAt_eq _ _ _ hd2]
  have he : (execOp a'.eval o2).run E.P w' = .ok (.value (.bool x)) w' := by
   have : a'.eval (.tmp m.tn) = .tuple (.bool x :: vs).toArray := hgt
   simp [execOp, p2, this, Instr.extract]
  rw [he]
  have hl2 : m.tm < fr.n := by rw [hfn']; exact htm
  show Q .normal (a'.put o2.dst (.bool x)) w'
  rw [d2]
  refine hQ _ (hf'.put hl2 (by simp only [VR])) rfl ?_
  have hs : m.tm < a'.tmps.size := by rw [hf'.1]; exact hl2
  simp [Act.eval, Act.put, Array.getD, hs]
 have hl1 : m.tn < (frOf fn fl).n := htn
 refine wpIn_seq (wpIn_region_list ?_)
 show wpListIn (W none) k E.P ⟨[o1, o2]⟩ _ [o1, o2] a w
 unfold wpListIn
 simp only [hw1, if_true]
 refine ⟨fun _ _ => trivial, ?_⟩
 rw [Oper.semAt_eq _ _ _ hd1]
 rcases hleft with ⟨hl0, hrun⟩ | ⟨en', hen, w1, hw, hrun⟩
 ·have he : (execOp a.eval o1).run E.P w = .ok (.value (.tuple #[.bool false])) w := by
   simp only [execOp, p1, hval]
   simp [hrun]
  rw [he]
  show wpListIn (W none) k E.P ⟨[o1, o2]⟩ _ [o2] (a.put o1.dst (.tuple #[.bool false])) w
  rw [d1]
  have hf1 := R.fr.put (x := .t [.b false]) (v := .tuple #[.bool false]) hl1 (by simp only [VR]; exact ⟨_, rfl, VRs.cons (by simp only [VR]) VRs.nil⟩)
  refine ext _ w (a.put (some m.tn) (.tuple #[.bool false])) [] false hf1 rfl ?_ fun a2 hf2 hd hv => ?_
  ·have hs : m.tn < a.tmps.size := by rw [R.fr.1]; exact hl1
   simp [Act.put, Array.getD, hs]
  ·refine wpIn_seq (wpIn_cond_false hv (wpIn_exit (.inr ⟨rfl, ?_, rfl, by rw [hd]; exact R.df, hf2⟩)))
   have hall := all_seen es' _ hl0
   have hsub : ∀ i ∈ List.range es.length, i ∈ dn := fun i hi => by
    have hi := List.mem_range.1 hi
    have hi' : i < es'.toList.length := by rw [hes.len]; exact hi
    have h1 := List.getElem?_eq_getElem hi'
    obtain ⟨en, e1, _, _, e2⟩ := hes.at h1
    have := hall _ (List.mem_of_getElem? h1)
    simp only [List.contains_toArray, List.contains_iff_mem, List.mem_map] at this
    obtain ⟨j, hj, hjb⟩ := this
    have hjl := R.sub j hj
    have hj1 := List.getElem?_eq_getElem hjl
    have : i = j := nodup_get hnd (x := en.2.2) (by simp [List.getElem?_map, e1]) (by
     rw [List.getElem?_map, hj1]
     simp only [Option.map_some]
     rw [hbo j _ hj1, e2] at hjb
     rw [hjb])
    rw [this]; exact hj
   have := sub_length List.nodup_range hsub
   simpa using this
 ·obtain ⟨hem, hns⟩ := mem_left hen
  obtain ⟨i, hi⟩ := List.mem_iff_getElem?.1 hem
  obtain ⟨en, e1, e2, e3, e4⟩ := hes.at hi
  have hil : i < es.length := (List.getElem?_eq_some_iff.1 e1).1
  have hid : i ∉ dn := fun h => by
   have : ((dn.map (bo es)).toArray.contains en'.born) = true := by
    simp only [List.contains_toArray, List.contains_iff_mem, List.mem_map]
    exact ⟨i, h, by rw [hbo i en e1, e4]⟩
   rw [this] at hns; cases hns
  have hnd' : (dn ++ [i]).Nodup := by
   rw [List.nodup_append]
   exact ⟨R.nd, by simp, fun x hx y hy e => by
    simp only [List.mem_singleton] at hy
    exact hid (by rw [← hy, ← e]; exact hx)⟩
  have hsub' : ∀ x ∈ dn ++ [i], x < es.length := fun x hx => by
   rcases List.mem_append.1 hx with h | h
   ·exact R.sub x h
   ·rw [List.mem_singleton.1 h]; exact hil
  have hdl : dn.length < es.length := by
   have := sub_length hnd' (m := List.range es.length) fun x hx => List.mem_range.2 (hsub' x hx)
   simp at this
   omega
  let ob : Obj := .mapIter (some rm) since ((dn.map (bo es)).toArray.push en'.born) clk
  let w2 : World := ChangeMaps.setBlock w1 rI ob
  have hw1h : w1.heap = w.heap ∧ w.drawn ≤ w1.drawn ∧ w1.os = w.os ∧ w1.tape = w.tape ∧ w1.output = w.output := by
   rcases hw with rfl | rfl
   ·exact ⟨rfl, Nat.le_refl _, rfl, rfl, rfl⟩
   ·exact ⟨rfl, Nat.le_succ _, rfl, rfl, rfl⟩
  obtain ⟨hh1, hh2, hh3, hh4, hh5⟩ := hw1h
  have hrI : rI < w.heap.size := (R.hr.dom bi rI hI).2
  have s1 : w2.heap.size = w.heap.size := by simp [w2, ChangeMaps.setBlock, hh1]
  have s2 : ∀ s, s ≠ rI → w2.heap[s]? = w.heap[s]? := fun s hs => by
   simp only [w2, ChangeMaps.setBlock, hh1]
   rw [Array.getElem?_setIfInBounds_ne (Ne.symm hs)]
  have s0 : w2.heap[rI]? = some ob := by simp [w2, ChangeMaps.setBlock, hh1, hrI]
  have hob : ob = .mapIter (some rm) since ((dn ++ [i]).map (bo es)).toArray clk := by
   simp [ob, hbo i en e1, e4]
  have hbg : (hOf n s).get bi = .gone := by rw [hOf_get]; exact lkB_none R.bs
  have hput := R.hr.put (b := bi) (r := rI) (w' := w2) (.mie mN clk en'.born) ob hI (by rw [hbg]; exact fun h => h) (fun c e hl => absurd hl (R.un c e)) hk0 ⟨rm, since, _, hm, rfl⟩ s1 s0 s2
  rw [e4] at hput
  let kk : Nat → Option Obj := fun r => if r = rI then some ob else φ.y.k r
  have hr3 : HR (φ.wk kk) ((hOf n s).set bi (.mie mN clk en.2.2)) w2 := by
   refine ⟨hput.cnt, hput.dom, fun b r e hl => ?_, hput.inj, fun r o hk => ?_⟩
   ·obtain ⟨o, h1, h2⟩ := hput.blk b r e hl
    exact ⟨o, h1, (wk_eqv φ kk).br h2⟩
   ·have hk : (if r = rI then some ob else φ.y.k r) = some o := hk
    by_cases hrr : r = rI
    ·subst hrr
     rw [if_pos rfl] at hk; cases hk
     refine ⟨s0, fun b e => ?_⟩
     have e : φ b = some r := e
     by_cases hb : b = bi
     ·subst hb
      rw [H.get_set, if_pos rfl]
      exact fun h => h
     ·rw [H.get_set, if_neg hb]
      exact fun h => R.un b e h.live
    ·rw [if_neg hrr] at hk
     exact hput.kp r o hk
  have he : (execOp a.eval o1).run E.P w = .ok (.value (.tuple #[.bool true, en'.key, en'.val])) w2 := by
   simp only [execOp, p1, hval]
   simp [hrun, w2, ob]
  rw [he]
  show wpListIn (W none) k E.P ⟨[o1, o2]⟩ _ [o2] (a.put o1.dst (.tuple #[.bool true, en'.key, en'.val])) w2
  rw [d1]
  have hf1 := R.fr.put (x := .t [.b true, en.1, en.2.1]) (v := .tuple #[.bool true, en'.key, en'.val]) hl1 (by simp only [VR]; exact ⟨_, rfl, VRs.cons (by simp only [VR]) (VRs.cons e2 (VRs.cons e3 VRs.nil))⟩)
  refine ext _ w2 (a.put (some m.tn) (.tuple #[.bool true, en'.key, en'.val])) [en'.key, en'.val] true hf1 rfl ?_ fun a2 hf2 hd hv => ?_
  ·have hs : m.tn < a.tmps.size := by rw [R.fr.1]; exact hl1
   simp [Act.put, Array.getD, hs]
  ·refine wpIn_seq (wpIn_cond_true hv (wpIn_skip (wpIn_block ?_)))
   obtain ⟨rem', s', hR, hG, hrd, hrin, hcov⟩ : ∃ rem' s', rndQ ex m fn fl bi mN clk n s en = some s' ∧ (∀ ψ w, HR ψ (hOf n s') w → ∃ s'', Good (rndQ ex m fn fl bi mN clk n) (okQ (rndQ ex m fn fl bi mN clk n) n mN clk es qs) n F rem' s'' ∧ HR ψ (hOf n s'') w ∧ ∀ c, ((hOf n s'').get c).live → ((hOf n s').get c).live) ∧ rem'.Nodup ∧ (∀ e ∈ rem', ∃ j, es[j]? = some e ∧ j ∉ dn ++ [i]) ∧ ∀ j e, es[j]? = some e → j ∉ dn ++ [i] → e ∈ qs ∨ e ∈ rem' := by
    have hidx : ∀ j, es[j]? = some en → j = i := fun j hj => nodup_get hnd (x := en.2.2) (by simp [List.getElem?_map, hj]) (by simp [List.getElem?_map, e1])
    by_cases hin : en ∈ rem
    ·obtain ⟨q1, q2, s', hrem, hR, hgd⟩ := R.good.step hin
     have hndr := R.rnd
     rw [hrem] at hndr
     have hnin : en ∉ q1 ++ q2 := (List.nodup_cons.1 (List.perm_middle.nodup_iff.1 hndr)).1
     refine ⟨q1 ++ q2, s', hR, fun ψ w hr => ⟨s', hgd, hr, fun c h => h⟩, (List.nodup_cons.1 (List.perm_middle.nodup_iff.1 hndr)).2, fun e he => ?_, fun j e hj hjn => ?_⟩
     ·have he' : e ∈ rem := by
       rw [hrem]
       rcases List.mem_append.1 he with h | h
       ·exact List.mem_append_left _ h
       ·exact List.mem_append_right _ (List.mem_cons_of_mem _ h)
      obtain ⟨j, hj, hjn⟩ := R.rin e he'
      refine ⟨j, hj, fun h => ?_⟩
      rcases List.mem_append.1 h with h | h
      ·exact hjn h
      ·rw [List.mem_singleton.1 h, e1] at hj
       cases hj
       exact hnin he
     ·rcases R.cov j e hj (fun h => hjn (List.mem_append_left _ h)) with h | h
      ·exact .inl h
      ·rw [hrem] at h
       rcases List.mem_append.1 h with h | h
       ·exact .inr (List.mem_append_left _ h)
       ·rcases List.mem_cons.1 h with h | h
        ·subst h
         have := hidx j hj
         subst this
         exact absurd (List.mem_append_right _ (by simp)) hjn
        ·exact .inr (List.mem_append_right _ h)
    ·have hq : en ∈ qs := by
      rcases R.cov i en e1 hid with h | h
      ·exact h
      ·exact absurd h hin
     have hqq := allQ_mem hqs en hq
     unfold quietQ at hqq
     split at hqq
     ·rename_i s' hR
      refine ⟨rem, s', hR, fun ψ w hr => ⟨s, R.good, ?_, fun c h => ?_⟩, R.rnd, fun e he => ?_, fun j e hj hjn => R.cov j e hj fun h => hjn (List.mem_append_left _ h)⟩
      ·exact sameQs_hr hqq hr
      ·rw [hOf_get] at h ⊢
       rcases sameQs_lk hqq c with ⟨h2, _⟩ | h2
       ·rw [h2] at h; exact h.elim
       ·exact (sameQ_live h2).1 h
      ·obtain ⟨j, hj, hjn⟩ := R.rin e he
       refine ⟨j, hj, fun h => ?_⟩
       rcases List.mem_append.1 h with h | h
       ·exact hjn h
       ·rw [List.mem_singleton.1 h, e1] at hj
        cases hj
        exact hin he
     ·cases hqq
   have hgl : GL E.ng (φ.wk kk) := fun g hg' => hg g hg'
   refine wpIn_mono (rndQ_ok hX hR R.bs hfl (φ := φ.wk kk) (w := w2) (a := a2) (hpl _ rfl) hgl hr3 ((wk_eqv φ kk).frr hf2) k) ?_
   rintro e a' w' ⟨hee, hdd, hr', hfr, hx', hun⟩
   have hda : a'.defers = D := by rw [hdd, hd]; exact R.df
   have hkp : w'.heap[rI]? = some ob := (hr'.kp rI ob (by show (if rI = rI then some ob else φ.y.k rI) = some ob; rw [if_pos rfl])).1
   have hr1 : HR φ (hOf n s') w' := by
    refine ⟨hr'.cnt, hr'.dom, fun b r e hl => ?_, hr'.inj, fun r o hk => ?_⟩
    ·obtain ⟨o, h1, h2⟩ := hr'.blk b r e hl
     exact ⟨o, h1, (wk_eqv' φ kk).br h2⟩
    ·refine hr'.kp r o ?_
     show (if r = rI then some ob else φ.y.k r) = some o
     by_cases hrr : r = rI
     ·rw [hrr, hk0] at hk; cases hk
     ·rw [if_neg hrr]; exact hk
   obtain ⟨s'', hgd, hr4, hlv⟩ := hG φ w' hr1
   have hgok := hgd.ok
   have hfin : RQ fn fl bi mN clk n since rI rm es qs (rndQ ex m fn fl bi mN clk n) F D φ w0 rem' s'' (dn ++ [i]) a' w' := by
    refine ⟨hr4, (wk_eqv' φ kk).frr hfr, hda, fun c ec hl => hun c rI ec hI (hlv c hl), ?_, ⟨clk, hsc, by rw [← hob]; exact hkp⟩, hnd', hsub', ?_, hgd, hrd, hrin, hcov⟩
    ·cases hb : hasK s'' bi with
     | false => rfl
     | true =>
      simp only [okQ, Bool.and_eq_true] at hgok
      have hin := closedQ_ok hgok.1.1 bi hb
      exact absurd (inBk_live hin) (fun hl => hun bi rI hI hI (hlv bi (by rw [hOf_get]; exact hl)))
    ·have hxw : Ext φ w φ w' := ⟨Le.refl φ, Nat.le_refl _, fun _ _ h => .inl h, fun hdr => Nat.le_trans hh2 (hx'.dr hdr), by rw [← s1]; exact hx'.size, hx'.os.trans hh3, hx'.tape.trans hh4, hx'.output.trans hh5, fun r h1 h2 => by
      have hne : r ≠ rI := fun e => h2 bi (by rw [e]; exact hI)
      rw [hx'.frame r (by rw [s1]; exact h1) h2]
      exact s2 r hne⟩
     exact R.ext.trans hxw
   have : Exit.inBlock m.nx (fun e a' w' =>
     (e = .normal ∧ dn.length < es.length ∧ ∃ i rem' s', RQ fn fl bi mN clk n since rI rm es qs (rndQ ex m fn fl bi mN clk n) F D φ w0 rem' s' (dn ++ [i]) a' w') ∨
     (e = .exit id ∧ es.length ≤ dn.length ∧ w' = w ∧ a'.defers = D ∧ FR φ (((frOf fn fl).set m.tn (.t [.b false])).set m.tm (.b false)) a'.tmps)) e a' w' := by
    rcases hee with rfl | rfl
    ·exact .inl ⟨rfl, hdl, i, rem', s'', hfin⟩
    ·simp only [Exit.inBlock, if_true]
     exact .inl ⟨trivial, hdl, i, rem', s'', hfin⟩
   exact this
end
theorem addFq_or (C : Nat → Bool) (t : Nat) (l : List (Nat × V)) (v : V) : addFq C t l v = l ∨ (addFq C t l v = (t, v) :: l ∧ inV C v = true) := by
 unfold addFq
 split
 ·exact .inl rfl
 ·cases hc : inV C v with
  | true => exact .inr ⟨rfl, rfl⟩
  | false => exact .inl rfl
theorem mkFq_succ (C : Nat → Bool) (fr : Fr) (wr : List Nat) (n : Nat) : mkFq C fr wr (n + 1) = mkFq C fr wr n ∨ (mkFq C fr wr (n + 1) = (n, fr.get n) :: mkFq C fr wr n ∧ inV C (fr.get n) = true) := by
 have e : mkFq C fr wr (n + 1) = cond (hasN wr n) (mkFq C fr wr n) (addFq C n (mkFq C fr wr n) (fr.get n)) := rfl
 rw [e]
 cases hasN wr n with
 | true => exact .inl rfl
 | false => exact addFq_or _ _ _ _
theorem mkFq_ok {C : Nat → Bool} {fr : Fr} {wr : List Nat} : ∀ (n : Nat) (t : Nat), lkV (mkFq C fr wr n) t = .top ∨ (inV C (lkV (mkFq C fr wr n) t) = true ∧ lkV (mkFq C fr wr n) t = fr.get t)
 | 0, _ => .inl rfl
 | n + 1, t => by
  have ih := mkFq_ok (C := C) (fr := fr) (wr := wr) n t
  rcases mkFq_succ C fr wr n with e | ⟨e, hv⟩
  ·rw [e]; exact ih
  ·rw [e]
   simp only [lkV]
   by_cases ht : t = n
   ·rw [if_pos ht, ht]
    exact .inr ⟨hv, rfl⟩
   ·rw [if_neg ht]; exact ih
theorem mem_of_hasK {s : Sq} {b : Nat} (h : hasK s b = true) : b ∈ s.map (·.1) := by
 obtain ⟨q, hq⟩ := hasK_iff.1 h
 exact List.mem_map.2 ⟨_, hq, rfl⟩
theorem mlQuiet_ok {E : Env} {ex : ExecT} (hX : ExecOK E ex) {m : ML} {id g : Nat} {ops : Array Oper} (hops : mlOps ops = some (m.it, m.tn, m.tm)) {fr : Fr} {ds : List Nat} {h : H} {bi mN since : Nat} {es : List En} {clk : Nat} {x : X} {fr' : Fr} {ds' : List Nat} {h' : H}
  (hbi : h.get bi = .mit mN since) (e : mlQuiet E ex m fr ds h bi mN since es clk = some (x, fr', ds', h')) {D : List Deferred} {φ : Ren} {a : Act} {w : World} {n : Nat} (hpl : ∀ ψ : Ren, ψ.y.d = φ.y.d → BD E ψ) (hg : GL E.ng φ) (hf : FR φ fr a.tmps) (hit : fr.get m.it = .p (some (bi, 0))) (hd : DR D φ ds a.defers) (hr : HR φ h w) :
  (Code.block id (.loop (.seq (.region g ops false) (.seq (.cond (.tmp m.tm) .skip (.exit id)) (.block m.nx m.bb))))).wpIn (W none) n E.P (PostX D φ w x fr' ds' h') a w := by
 unfold mlQuiet at e
 generalize hs0 : listQ h bi (clo h 4000 (mN :: (List.range E.ng ++ nmFr fr (rdC m.bb []) [])) .leaf []) = s0 at e
 try simp only at e
 generalize hfl : mkFq (fun b => Nat.blt b h.n) fr (m.tn :: m.tm :: dstC m.bb []) fr.n = fl at e
 try simp only at e
 generalize hs : weakQ (rndQ ex m fr.n fl bi mN clk h.n) s0 es s0 = s at e
 have hsp := splitQ_ok (R := rndQ ex m fr.n fl bi mN clk h.n) (s := s) es
 generalize splitQ (rndQ ex m fr.n fl bi mN clk h.n) s es = sp at e hsp
 obtain ⟨qs, rem⟩ := sp
 try simp only at e hsp
 split at e
 rotate_left
 ·cases e
 rename_i f hconf
 obtain ⟨hc, e⟩ := cond_some e
 simp only [Option.some.injEq, Prod.mk.injEq] at e
 obtain ⟨rfl, rfl, rfl, rfl⟩ := e
 simp only [Bool.and_eq_true] at hc
 obtain ⟨⟨⟨⟨⟨c1, c2⟩, c3⟩, c4⟩, c5⟩, c6⟩ := hc
 have hlive := allLive_ok c1
 generalize hLs : bi :: s0.map (·.1) = Ls at hlive
 have hbiL : bi ∈ Ls := by rw [← hLs]; simp
 have hrs := small_hr Ls hr
 have hlk := fun b => listQ_lk (h := h) (bi := bi) (clo h 4000 (mN :: (List.range E.ng ++ nmFr fr (rdC m.bb []) [])) .leaf []) b
 rw [hs0] at hlk
 have hin : ∀ b, hasK s0 b = true → b ∈ Ls ∧ b ≠ bi ∧ lkB s0 b = h.get b := fun b hb => by
  refine ⟨?_, ((hlk b).1.1 hb).2, (hlk b).2 hb⟩
  rw [← hLs]
  exact List.mem_cons_of_mem _ (mem_of_hasK hb)
 have hr0 : HR (φ.wk (kS φ h w Ls)) (hOf h.n s0) w := by
  refine hrs.swap rfl fun b => ?_
  rw [hOf_get]
  cases hb : hasK s0 b with
  | false => exact .inl (lkB_none hb)
  | true =>
   obtain ⟨h1, _, h3⟩ := hin b hb
   have hg2 : (smH h Ls).get b = h.get b := by
    show T.get .gone (smT h Ls) b = _
    rw [smT_get, if_pos h1]
   rw [hg2, h3]
   exact .inr ⟨fun h => h, fun h => h, fun _ _ h => h⟩
 have hr1 : HR (φ.wk (kS φ h w Ls)) (hOf h.n s) w := by rw [← hs]; exact weakQ_hr es s0 hr0
 have hkey : ∀ b, hasK s b = hasK s0 b := fun b => by rw [← hs]; exact hasK_weakQ es s0 b
 obtain ⟨rI, hrI⟩ : ∃ rI, φ bi = some rI := by
  have := hf.2 m.it
  rw [hit] at this
  simp only [VR] at this
  obtain ⟨r, h1, _⟩ := this
  exact ⟨r, h1⟩
 obtain ⟨oI, hoI, hbI⟩ := hr.blk bi rI hrI (by rw [hbi]; trivial)
 rw [hbi] at hbI
 obtain ⟨rm, hrm, rfl⟩ := hbI
 have kI : kS φ h w Ls rI = none := kS_none (b := bi) hbiL hrI (by rw [hbi]; trivial)
 obtain ⟨b1, b2⟩ := bornsOK_ok c2
 have hflok : ∀ t, lkV fl t = .top ∨ (inV (fun b => Nat.blt b h.n) (lkV fl t) = true ∧ lkV fl t = fr.get t) := fun t => by rw [← hfl]; exact mkFq_ok fr.n t
 have hflin : ∀ t, inV (fun b => Nat.blt b h.n) (lkV fl t) = true := fun t => by
  rcases hflok t with h1 | ⟨h1, _⟩
  ·rw [h1]; rfl
  ·exact h1
 have hit0 : lkV fl m.it = .p (some (bi, 0)) := by
  unfold itQ at c4
  split at c4
  ·rename_i b h1
   rw [h1, Nat.eq_of_beq_eq_true c4]
  ·cases c4
 have hFR : FR (φ.wk (kS φ h w Ls)) (frOf fr.n fl) a.tmps := by
  refine ⟨hf.1, fun t => ?_⟩
  rw [frOf_get]
  rcases hflok t with h1 | ⟨_, h1⟩
  ·rw [h1]; simp only [VR]
  ·rw [h1]; exact (wk_eqv φ _).vr _ _ (hf.2 t)
 have esnd : es.Nodup := List.Pairwise.of_map (·.2.2) (fun a b h1 h2 => h1 (by rw [h2])) b1
 have R0 : RQ fr.n fl bi mN clk h.n since rI rm es qs (rndQ ex m fr.n fl bi mN clk h.n) f a.defers (φ.wk (kS φ h w Ls)) w rem s [] a w := by
  refine ⟨hr1, hFR, rfl, fun c ec hl => ?_, ?_, ⟨since, Nat.le_refl _, hoI⟩, List.nodup_nil, fun i hi => (by cases hi), Ext.refl _ _, ⟨_, f, hconf, fun _ _ h => h⟩, esnd.sublist hsp.2, fun e he => ?_, fun i e hi _ => hsp.1 e (List.mem_of_getElem? hi)⟩
  ·rw [hOf_get] at hl
   have hk := hasK_false hl
   rw [hkey] at hk
   obtain ⟨h1, h2, _⟩ := hin c hk
   exact h2 (hr.inj c bi rI ec hrI (hlive c h1) (by rw [hbi]; trivial))
  ·rw [hkey]
   cases hb : hasK s0 bi with
   | false => rfl
   | true => exact absurd rfl (hin bi hb).2.1
  ·obtain ⟨i, hi⟩ := List.mem_iff_getElem?.1 (hsp.2.mem he)
   exact ⟨i, hi, fun h => by cases h⟩
 have hgl : GL E.ng (φ.wk (kS φ h w Ls)) := fun g' hg' => hg g' hg'
 have key : (Code.loop (.seq (.region g ops false) (.seq (.cond (.tmp m.tm) .skip (.exit id)) (.block m.nx m.bb)))).wpIn (W none) n E.P (fun e a' w' =>
   e = .exit id ∧ ∃ rem s dn a0, RQ fr.n fl bi mN clk h.n since rI rm es qs (rndQ ex m fr.n fl bi mN clk h.n) f a.defers (φ.wk (kS φ h w Ls)) w rem s dn a0 w' ∧ dn.length = es.length ∧ a'.defers = a.defers ∧ FR (φ.wk (kS φ h w Ls)) (((frOf fr.n fl).set m.tn (.t [.b false])).set m.tm (.b false)) a'.tmps) a w := by
  refine loop_inv es.length (fun i a' w' => ∃ rem s dn, dn.length = i ∧ RQ fr.n fl bi mN clk h.n since rI rm es qs (rndQ ex m fr.n fl bi mN clk h.n) f a.defers (φ.wk (kS φ h w Ls)) w rem s dn a' w') (fun i a' w' hi hinv => ?_) (fun a' w' hinv => ?_) ⟨rem, s, [], rfl, R0⟩
  ·obtain ⟨rem, s, dn, hdl, R⟩ := hinv
   refine wpIn_mono (passQ_ok (φ := φ.wk (kS φ h w Ls)) hX (fun ψ e => hpl ψ (show ψ.y.d = φ.y.d from e)) hgl hrI hrm kI hit0 (blt_iff.1 c5) (blt_iff.1 c6) b1 b2 (Nat.le_of_ble_eq_true c3) hflin (id := id) (g := g) hops R n) ?_
   rintro e a'' w'' (⟨rfl, _, j, rem', s', R'⟩ | ⟨_, hle, _⟩)
   ·exact ⟨rfl, rem', s', dn ++ [j], by simp [hdl], R'⟩
   ·omega
  ·obtain ⟨rem, s, dn, hdl, R⟩ := hinv
   refine wpIn_mono (passQ_ok (φ := φ.wk (kS φ h w Ls)) hX (fun ψ e => hpl ψ (show ψ.y.d = φ.y.d from e)) hgl hrI hrm kI hit0 (blt_iff.1 c5) (blt_iff.1 c6) b1 b2 (Nat.le_of_ble_eq_true c3) hflin (id := id) (g := g) hops R n) ?_
   rintro e a'' w'' (⟨rfl, hlt, _⟩ | ⟨rfl, _, rfl, hd', hf'⟩)
   ·omega
   ·exact ⟨by simp, rfl, rem, s, dn, a', R, hdl, hd', hf'⟩
 refine wpIn_block (wpIn_mono key ?_)
 rintro e1 a' w' ⟨rfl, rem', s', dn, a0, R, hdl, hda, hf'⟩
 have hrem : rem' = [] := by
  cases rem' with
  | nil => rfl
  | cons e0 l =>
   obtain ⟨i, hi, hin'⟩ := R.rin e0 (by simp)
   have hil : i < es.length := (List.getElem?_eq_some_iff.1 hi).1
   have hp := sub_perm_of R.nd (m := List.range es.length) (fun j hj => List.mem_range.2 (R.sub j hj)) (by simp [hdl])
   exact absurd (hp.mem_iff.2 (List.mem_range.2 hil)) hin'
 subst hrem
 have hrF := R.good.done R.hr
 obtain ⟨y1, y2⟩ := over_hr hr hlive R.ext hrF
 have back := wk_eqv (φ.wk (kS φ h w Ls)) φ.y.k
 simp only [Exit.inBlock, if_true]
 exact ⟨_, y1, rfl, back.frr hf', by rw [hda]; exact hd.mono y1.le, y2⟩
end
end Go.Ev
