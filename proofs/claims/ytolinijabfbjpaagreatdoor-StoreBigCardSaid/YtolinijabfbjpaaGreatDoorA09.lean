/- The abstract machine, part Rk: behind the loop. -/
import Derived.Test.YtolinijabfbjpaaGreatDoorA08
import Derived.RecoverIn
set_option linter.all false
namespace Go.Ev
noncomputable section

theorem rounds_ok {E : Env} {ex : ExecT} (hX : ExecOK E ex) {p : MP} {m : ML} {φ0 : Ren} {w0 : World} {rI rm since : Nat} {es : List (V × V × Nat)} {clk k0 : Nat} {cks : List Chk} {ps0 : List (List Value)} {D : List Deferred}
    (hbd : ∀ ψ : Ren, ψ.y.d = φ0.y.d → BD E ψ) (S : Rs E ex p m φ0 w0 rI rm since es clk k0 cks) {id g : Nat} {ops : Array Oper} (hops : mlOps ops = some (m.it, m.tn, m.tm)) {us : Nat → List Value} {ψs : Nat → Ren} {a : Act}
    (R : RI p φ0 w0 rI rm since es k0 cks ps0 D φ0 us ψs [] a w0) (n : Nat) :
    (Code.loop (.seq (.region g ops false) (.seq (.cond (.tmp m.tm) .skip (.exit id)) (.block m.nx m.bb)))).wpIn (W none) n E.P (fun e a' w' =>
      e = .exit id ∧ ∃ φ us ψs dn a0, RI p φ0 w0 rI rm since es k0 cks ps0 D φ us ψs dn a0 w' ∧ dn.length = es.length ∧ a'.defers = D ∧ FR φ (((frS p (k0 + dn.length)).set m.tn (.t [.b false])).set m.tm (.b false)) a'.tmps) a w0 := by
  refine loop_inv es.length (fun i a w => ∃ φ us ψs dn, dn.length = i ∧ RI p φ0 w0 rI rm since es k0 cks ps0 D φ us ψs dn a w) (fun i a w hi hinv => ?_) (fun a w hinv => ?_) ⟨φ0, us, ψs, [], rfl, R⟩
  · obtain ⟨φ, us, ψs, dn, hdl, R⟩ := hinv
    refine wpIn_mono (pass_ok hX hbd S (id := id) (g := g) hops R n) ?_
    rintro e a' w' (⟨rfl, _, j, φ', us', ψs', R'⟩ | ⟨_, hle, _⟩)
    · exact ⟨rfl, φ', us', ψs', dn ++ [j], by simp [hdl], R'⟩
    · omega
  · obtain ⟨φ, us, ψs, dn, hdl, R⟩ := hinv
    refine wpIn_mono (pass_ok hX hbd S (id := id) (g := g) hops R n) ?_
    rintro e a' w' (⟨rfl, hlt, _⟩ | ⟨rfl, _, rfl, hd, hf⟩)
    · omega
    · exact ⟨by simp, rfl, φ, us, ψs, dn, a, R, hdl, hd, hf⟩

/-! ### The elements' blocks, put where they go -/
mutual
theorem rnV_id : ∀ x : V, rnV (fun c => c) x = x
  | .top => rfl
  | .b _ => rfl
  | .i _ _ => rfl
  | .y _ _ => rfl
  | .q _ => rfl
  | .sr _ _ _ _ => rfl
  | .pr _ _ _ _ _ => rfl
  | .s _ => rfl
  | .p none => rfl
  | .p (some (_, _)) => rfl
  | .sl none _ _ => rfl
  | .sl (some (_, _)) _ _ => rfl
  | .es => rfl
  | .m none => rfl
  | .m (some _) => rfl
  | .f _ a c => by simp only [rnV, rnVs_id a, rnVs_id c]
  | .yl _ => rfl
  | .o => rfl
  | .nf => rfl
  | .ifc _ x => by simp only [rnV, rnV_id x]
  | .ni => rfl
  | .a l => by simp only [rnV, rnVs_id l]
  | .t l => by simp only [rnV, rnVs_id l]
theorem rnVs_id : ∀ x : List V, rnVs (fun c => c) x = x
  | [] => rfl
  | x :: xs => by simp only [rnVs, rnV_id x, rnVs_id xs]
end
theorem rnE_id : ∀ x : List (V × V × Nat), rnE (fun c => c) x = x
  | [] => rfl
  | (a, b, n) :: l => by simp only [rnE, rnV_id, rnE_id l]
theorem rnB_id {n : Nat} {p : Blk} (h : ltB n p) : rnB (fun c => c) p = p := by
  cases p <;> first | (simp only [rnB, rnVs_id]; done) | (simp only [rnB, rnE_id]; done) | cases h

/-- An element that is to be put. -/
structure PG (hn : Nat) (F : Nat → Prop) (ck : Chk) (φ : Ren) (h : H) (w : World) (u : List Value) (ψ : Ren) : Prop where
  lo : ∀ m r, m < hn → ψ m = some r → φ m = some r ∧ φ.n m = ψ.n m
  cs : VRs ψ ck.1 u
  lt : ltVs ck.2.2 ck.1
  blk : ∀ m q, (m, q) ∈ ck.2.1 → hn ≤ m ∧ m < ck.2.2 ∧ ltB ck.2.2 q ∧ ∀ r, ψ m = some r → r < w.heap.size ∧ F r ∧ φ.y.k r = none ∧ (∀ b, φ b = some r → ¬ (h.get b).live) ∧ ∃ o, w.heap[r]? = some o ∧ BR ψ (ψ.n m) q o
  inj : ∀ m q m' q' r, (m, q) ∈ ck.2.1 → (m', q') ∈ ck.2.1 → ψ m = some r → ψ m' = some r → m = m'
  nw : newB ck.2.1 hn (ck.2.2 - hn) = true
  le : hn ≤ ck.2.2

theorem addP_ok {hn : Nat} {F : Nat → Prop} {ck : Chk} {φ : Ren} {h : H} {w : World} {u : List Value} {ψ : Ren} (hr : HR φ h w) (hh : hn ≤ h.n) (G : PG hn F ck φ h w u ψ) :
    ∃ φ', HR φ' (addP hn ck h) w ∧ Le φ φ' ∧ (addP hn ck h).n = h.n + (ck.2.2 - hn) ∧ VRs φ' (rnVs (sP hn h.n) ck.1) u ∧
      (∀ b r, φ' b = some r → φ b = some r ∨ (h.n ≤ b ∧ F r ∧ ∃ m q, (m, q) ∈ ck.2.1 ∧ ψ m = some r)) ∧ (∀ b, b < h.n → (addP hn ck h).get b = h.get b) := by
  let s := sP hn h.n
  let d := ck.2.2 - hn
  have slo : ∀ m, m < hn → s m = m := fun m hm => by show cond (Nat.blt m hn) _ _ = _; rw [blt_iff.2 hm]; rfl
  have shi : ∀ m, hn ≤ m → s m = m - hn + h.n := fun m hm => by show cond (Nat.blt m hn) _ _ = _; rw [blt_no hm]; rfl
  let φ' : Ren := { f := fun b => if b < h.n then φ b else if b < h.n + d then ψ (b - h.n + hn) else none, n := fun b => if b < h.n then φ.n b else ψ.n (b - h.n + hn), y := φ.y, m := h.n + d }
  have f1 : ∀ b, b < h.n → φ' b = φ b ∧ φ'.n b = φ.n b := fun b hb => ⟨if_pos hb, if_pos hb⟩
  have f2 : ∀ b, h.n ≤ b → b < h.n + d → φ' b = ψ (b - h.n + hn) ∧ φ'.n b = ψ.n (b - h.n + hn) := fun b h1 h2 => ⟨(if_neg (by omega)).trans (if_pos h2), if_neg (by omega)⟩
  have f3 : ∀ b r, φ' b = some r → (b < h.n ∧ φ b = some r) ∨ (h.n ≤ b ∧ b < h.n + d ∧ ψ (b - h.n + hn) = some r) := fun b r e => by
    rcases Nat.lt_or_ge b h.n with h1 | h1
    · exact .inl ⟨h1, by rw [← (f1 b h1).1]; exact e⟩
    · rcases Nat.lt_or_ge b (h.n + d) with h2 | h2
      · exact .inr ⟨h1, h2, by rw [← (f2 b h1 h2).1]; exact e⟩
      · have : φ' b = none := (if_neg (by omega)).trans (if_neg (by omega))
        rw [this] at e; cases e
  have hle : Le φ φ' := ⟨fun b r e => by
    have hb : b < h.n := (hr.dom b r e).1
    exact ⟨(f1 b hb).1.trans e, (f1 b hb).2⟩, rfl⟩
  have ent : ∀ m, hn ≤ m → m < ck.2.2 → ∃ q, (m, q) ∈ ck.2.1 := fun m h1 h2 => hasK_iff.1 (newB_ok G.nw m h1 (by omega))
  have hC : ∀ c q, (c, q) ∈ ck.2.1 → hn ≤ c := fun c q hm => (G.blk c q hm).1
  have pinj : ∀ c c', hn ≤ c → hn ≤ c' → s c = s c' → c = c' := fun c c' hc hc' e => by
    rw [shi c hc, shi c' hc'] at e; omega
  have pget := fun (b : Nat) => putAll_get s (C := fun c => hn ≤ c) pinj ck.2.1 ⟨h.n + d, h.t⟩ hC b
  have plo : ∀ b, b < h.n → (addP hn ck h).get b = h.get b := fun b hb => by
    rcases pget b with ⟨c, q, g1, g2, _⟩ | ⟨_, g2⟩
    · rw [shi c (hC c q g1)] at g2; omega
    · exact g2
  have phi : ∀ b, h.n ≤ b → b < h.n + d → ∃ q, (b - h.n + hn, q) ∈ ck.2.1 ∧ (addP hn ck h).get b = rnB s q := fun b h1 h2 => by
    rcases pget b with ⟨c, q, g1, g2, _, g4⟩ | ⟨g1, _⟩
    · rw [shi c (hC c q g1)] at g2
      have := hC c q g1
      have : b - h.n + hn = c := by omega
      rw [this]; exact ⟨q, g1, g4⟩
    · obtain ⟨q, hq⟩ := ent (b - h.n + hn) (by omega) (by omega)
      exact absurd (by rw [shi _ (by omega)]; omega) (g1 _ q hq)
  let ψ' : Ren := { f := ψ.f, n := ψ.n, y := φ.y, m := ψ.m }
  have bk : Bk ck.2.2 (fun c => c) ψ ψ' := ⟨fun _ _ => ⟨rfl, rfl⟩⟩
  have rn : ∀ c r, c < ck.2.2 → ψ c = some r → φ' (s c) = some r ∧ φ'.n (s c) = ψ.n c := fun c r hc e => by
    rcases Nat.lt_or_ge c hn with h1 | h1
    · rw [slo c h1]
      obtain ⟨e1, e2⟩ := G.lo c r h1 e
      have := f1 c (by omega)
      exact ⟨this.1.trans e1, this.2.trans e2⟩
    · rw [shi c h1]
      have := f2 (c - hn + h.n) (by omega) (by omega)
      rw [show c - hn + h.n - h.n + hn = c by omega] at this
      exact ⟨this.1.trans e, this.2⟩
  -- names that are not met are let go
  let ψ2 : Ren := { f := fun c => if c < ck.2.2 then ψ c else none, n := ψ.n, y := φ.y, m := ψ.m }
  have bk2 : Bk ck.2.2 (fun c => c) ψ ψ2 := ⟨fun c hc => ⟨if_pos hc, rfl⟩⟩
  have rn2 : ∀ c r, ψ2 c = some r → φ' (s c) = some r ∧ φ'.n (s c) = ψ2.n c := fun c r e => by
    have e : (if c < ck.2.2 then ψ c else none) = some r := e
    split at e
    · rename_i hc; exact rn c r hc e
    · cases e
  have rno : RnOK s ψ2 φ' := ⟨rn2, rfl, rfl, rfl⟩
  have addn : (addP hn ck h).n = h.n + d := putAll_n _ _ _
  have key : ∀ b r, φ' b = some r → ((addP hn ck h).get b).live → (b < h.n ∧ φ b = some r ∧ (addP hn ck h).get b = h.get b) ∨ (h.n ≤ b ∧ b < h.n + d ∧ ψ (b - h.n + hn) = some r ∧ ∃ q, (b - h.n + hn, q) ∈ ck.2.1 ∧ (addP hn ck h).get b = rnB s q) := fun b r e _ => by
    rcases f3 b r e with ⟨h1, e1⟩ | ⟨h1, h2, e1⟩
    · exact .inl ⟨h1, e1, plo b h1⟩
    · exact .inr ⟨h1, h2, e1, phi b h1 h2⟩
  refine ⟨φ', ⟨addn.symm, fun b r e => ?_, fun b r e hl => ?_, fun b b' r e e' hl hl' => ?_, fun r o hk => ?_⟩, hle, addn, rnVs_ok rno _ _ (rnVs_inv bk2 _ _ G.lt (by rw [rnVs_id]; exact G.cs)), fun b r e => ?_, plo⟩
  · rw [addn]
    rcases f3 b r e with ⟨h1, e1⟩ | ⟨h1, h2, e1⟩
    · exact ⟨by omega, (hr.dom b r e1).2⟩
    · obtain ⟨q, hq, _⟩ := phi b h1 h2
      obtain ⟨_, _, _, k4⟩ := G.blk _ q hq
      exact ⟨h2, (k4 r e1).1⟩
  · rcases key b r e hl with ⟨h1, e1, e2⟩ | ⟨h1, h2, e1, q, hq, e2⟩
    · rw [e2] at hl ⊢
      obtain ⟨o, g1, g2⟩ := hr.blk b r e1 hl
      exact ⟨o, g1, by rw [(f1 b h1).2]; exact g2.mono hle⟩
    · obtain ⟨_, _, k3, k4⟩ := G.blk _ q hq
      obtain ⟨_, _, _, _, o, g1, g2⟩ := k4 r e1
      refine ⟨o, g1, ?_⟩
      rw [e2, (f2 b h1 h2).2]
      exact rnB_ok rno (rnB_inv bk2 k3 (by rw [rnB_id k3]; exact g2))
  · rcases key b r e hl with ⟨h1, e1, e2⟩ | ⟨h1, h2, e1, q, hq, e2⟩ <;> rcases key b' r e' hl' with ⟨h1', e1', e2'⟩ | ⟨h1', h2', e1', q', hq', e2'⟩
    · rw [e2] at hl; rw [e2'] at hl'
      exact hr.inj b b' r e1 e1' hl hl'
    · rw [e2] at hl
      obtain ⟨_, _, _, k4⟩ := G.blk _ q' hq'
      exact absurd hl ((k4 r e1').2.2.2.1 b e1)
    · rw [e2'] at hl'
      obtain ⟨_, _, _, k4⟩ := G.blk _ q hq
      exact absurd hl' ((k4 r e1).2.2.2.1 b' e1')
    · have := G.inj _ _ _ _ r hq hq' e1 e1'
      omega
  · obtain ⟨k1, k2⟩ := hr.kp r o hk
    refine ⟨k1, fun b e hmt => ?_⟩
    rcases key b r e hmt.live with ⟨h1, e1, e2⟩ | ⟨h1, h2, e1, q, hq, e2⟩
    · rw [e2] at hmt; exact k2 b e1 hmt
    · obtain ⟨_, _, _, k4⟩ := G.blk _ q hq
      have := (k4 r e1).2.2.1
      have hk : φ.y.k r = some o := hk
      rw [this] at hk; cases hk
  · rcases f3 b r e with ⟨_, e1⟩ | ⟨h1, h2, e1⟩
    · exact .inl e1
    · obtain ⟨q, hq, _⟩ := phi b h1 h2
      obtain ⟨_, _, _, k4⟩ := G.blk _ q hq
      exact .inr ⟨h1, (k4 r e1).2.1, _, q, hq, e1⟩

theorem addPs_ok {hn : Nat} {F : Nat → Prop} {w : World} : ∀ (l : List Chk) (i0 : Nat) (us : Nat → List Value) (ψs : Nat → Ren) (φ : Ren) (h : H), HR φ h w → hn ≤ h.n →
    (∀ i ck, l[i]? = some ck → PG hn F ck φ h w (us (i0 + i)) (ψs (i0 + i))) →
    (∀ i j ci cj, i ≠ j → l[i]? = some ci → l[j]? = some cj → ∀ m q m' q' r, (m, q) ∈ ci.2.1 → (m', q') ∈ cj.2.1 → ψs (i0 + i) m = some r → ψs (i0 + j) m' ≠ some r) →
    ∃ φ', HR φ' (addPs hn l h).1 w ∧ Le φ φ' ∧ h.n ≤ (addPs hn l h).1.n ∧ VRL φ' (addPs hn l h).2 ((List.range' i0 l.length).map us) ∧
      (∀ b r, φ' b = some r → φ b = some r ∨ (h.n ≤ b ∧ F r)) ∧ (∀ b, b < h.n → (addPs hn l h).1.get b = h.get b)
  | [], i0, us, ψs, φ, h, hr, _, _, _ => ⟨φ, hr, Le.refl φ, Nat.le_refl _, rfl, fun b r e => .inl e, fun _ _ => rfl⟩
  | ck :: l, i0, us, ψs, φ, h, hr, hh, hG, hD => by
    obtain ⟨φ1, g1, g2, g3, g4, g5, g6⟩ := addP_ok hr hh (hG 0 ck rfl)
    have hle1 : h.n ≤ (addP hn ck h).n := by rw [g3]; omega
    obtain ⟨φ2, k1, k2, k3, k4, k5, k6⟩ := addPs_ok (F := F) l (i0 + 1) us ψs φ1 (addP hn ck h) g1 (Nat.le_trans hh hle1) (fun i c hc => by
      have := hG (i + 1) c (by simpa using hc)
      rw [show i0 + (i + 1) = i0 + 1 + i by omega] at this
      refine ⟨fun m r hm e => ?_, this.cs, this.lt, fun m q hm => ?_, this.inj, this.nw, this.le⟩
      · obtain ⟨e1, e2⟩ := this.lo m r hm e
        exact ⟨(g2 m r e1).1, (g2 m r e1).2.trans e2⟩
      · obtain ⟨l1, l2, l3, l4⟩ := this.blk m q hm
        refine ⟨l1, l2, l3, fun r e => ?_⟩
        obtain ⟨n1, n2, n3, n4, n5⟩ := l4 r e
        refine ⟨n1, n2, by rw [g2.yy]; exact n3, fun b eb => ?_, n5⟩
        rcases g5 b r eb with e0 | ⟨_, _, m', q', hm', em'⟩
        · have := (hr.dom b r e0).1
          rw [g6 b this]; exact n4 b e0
        · have := hD 0 (i + 1) ck c (by omega) rfl (by simpa using hc) m' q' m q r hm' hm em'
          rw [show i0 + (i + 1) = i0 + 1 + i by omega] at this
          exact absurd e this) (fun i j ci cj hne hi hj => by
      have := hD (i + 1) (j + 1) ci cj (by omega) (by simpa using hi) (by simpa using hj)
      rw [show i0 + (i + 1) = i0 + 1 + i by omega, show i0 + (j + 1) = i0 + 1 + j by omega] at this
      exact this)
    have e1 : addPs hn (ck :: l) h = ((addPs hn l (addP hn ck h)).1, rnVs (sP hn h.n) ck.1 :: (addPs hn l (addP hn ck h)).2) := rfl
    rw [e1]
    refine ⟨φ2, k1, g2.trans k2, Nat.le_trans hle1 k3, ?_, fun b r e => ?_, fun b hb => ?_⟩
    · simp only [VRL, List.length_cons, List.range'_succ, List.map_cons]
      exact ⟨_, _, rfl, VRs.mono k2 _ _ g4, k4⟩
    · rcases k5 b r e with e | ⟨e1, e2⟩
      · rcases g5 b r e with e | ⟨e1, e2, _⟩
        · exact .inl e
        · exact .inr ⟨e1, e2⟩
      · exact .inr ⟨Nat.le_trans hle1 e1, e2⟩
    · exact (k6 b (Nat.lt_of_lt_of_le hb hle1)).trans (g6 b hb)

end
end Go.Ev

/- The abstract machine, part Rl: what the loop leaves, in names of the whole. -/
namespace Go.Ev
noncomputable section

theorem VRL.append {φ : Ren} : ∀ {x x' : List (List V)} {v v' : List (List Value)}, VRL φ x v → VRL φ x' v' → VRL φ (x ++ x') (v ++ v')
  | [], _, _, _, h, h' => by simp only [VRL] at h; subst h; exact h'
  | x :: xs, _, _, _, h, h' => by
    simp only [VRL, List.cons_append] at h ⊢
    obtain ⟨y, ys, rfl, h1, h2⟩ := h
    exact ⟨y, _, rfl, h1, h2.append h'⟩
mutual
theorem inV_mono {C C' : Nat → Bool} (h : ∀ b, C b = true → C' b = true) : ∀ x : V, inV C x = true → inV C' x = true
  | .top, _ => rfl
  | .b _, _ => rfl
  | .i _ _, _ => rfl
  | .y _ _, e => by simp [inV] at e
  | .q _, e => by simp [inV] at e
  | .sr _ _ _ _, e => by simp [inV] at e
  | .pr _ _ _ _ _, e => by simp [inV] at e
  | .s _, _ => rfl
  | .p none, _ => rfl
  | .p (some (b, _)), e => by simp only [inV] at e ⊢; exact h b e
  | .sl none _ _, _ => rfl
  | .sl (some (b, _)) _ _, e => by simp only [inV] at e ⊢; exact h b e
  | .es, _ => rfl
  | .m none, _ => rfl
  | .m (some b), e => by simp only [inV] at e ⊢; exact h b e
  | .f _ a c, e => by simp only [inV, Bool.and_eq_true] at e ⊢; exact ⟨inVs_mono h a e.1, inVs_mono h c e.2⟩
  | .yl _, e => by simp [inV] at e
  | .o, e => by simp [inV] at e
  | .nf, _ => rfl
  | .ifc _ x, e => by simp only [inV] at e ⊢; exact inV_mono h x e
  | .ni, _ => rfl
  | .a l, e => by simp only [inV] at e ⊢; exact inVs_mono h l e
  | .t l, e => by simp only [inV] at e ⊢; exact inVs_mono h l e
theorem inVs_mono {C C' : Nat → Bool} (h : ∀ b, C b = true → C' b = true) : ∀ x : List V, inVs C x = true → inVs C' x = true
  | [], _ => rfl
  | x :: xs, e => by simp only [inVs, Bool.and_eq_true] at e ⊢; exact ⟨inV_mono h x e.1, inVs_mono h xs e.2⟩
end
theorem inE_mono {C C' : Nat → Bool} (h : ∀ b, C b = true → C' b = true) : ∀ x : List (V × V × Nat), inE C x = true → inE C' x = true
  | [], _ => rfl
  | (a, b, _) :: xs, e => by simp only [inE, Bool.and_eq_true] at e ⊢; exact ⟨⟨inV_mono h a e.1.1, inV_mono h b e.1.2⟩, inE_mono h xs e.2⟩
theorem inVL_mono {C C' : Nat → Bool} (h : ∀ b, C b = true → C' b = true) : ∀ x : List (List V), inVL C x = true → inVL C' x = true
  | [], _ => rfl
  | x :: xs, e => by simp only [inVL, Bool.and_eq_true] at e ⊢; exact ⟨inVs_mono h x e.1, inVL_mono h xs e.2⟩
theorem inBk_mono {C C' : Nat → Bool} (h : ∀ b, C b = true → C' b = true) {q : Blk} (e : inBk C q = true) : inBk C' q = true := by
  cases q <;> first | exact inVs_mono h _ e | exact inE_mono h _ e | exact inVL_mono h _ e | rfl | cases e
theorem inVs_set {C : Nat → Bool} {x : V} (hx : inV C x = true) : ∀ (l : List V) (i : Nat), inVs C l = true → inVs C (l.set i x) = true
  | [], _, _ => rfl
  | y :: l, 0, h => by
    simp only [inVs, Bool.and_eq_true, List.set_cons_zero] at h ⊢
    exact ⟨hx, h.2⟩
  | y :: l, i + 1, h => by
    simp only [inVs, Bool.and_eq_true, List.set_cons_succ] at h ⊢
    exact ⟨h.1, inVs_set hx l i h.2⟩

def MP.C' (p : MP) (b : Nat) : Bool := p.C b || Nat.beq b p.hn
theorem MP.C'_of {p : MP} {b : Nat} (h : p.C b = true) : p.C' b = true := by simp [MP.C', h]
theorem MP.C'_hn {p : MP} : p.C' p.hn = true := by simp [MP.C', Nat.beq_refl]
theorem inV_acc {p : MP} {k : Nat} (hk : k ≠ 0) : inV p.C' (accV p k) = true := by
  cases k with
  | zero => exact absurd rfl hk
  | succ k => exact MP.C'_hn
theorem inBk_st {p : MP} {k b : Nat} {q : Blk} (hk : k ≠ 0) (h : inBk p.C q = true) : inBk p.C' (stB p k b q) = true := by
  have h' := inBk_mono (fun b => MP.C'_of) h
  unfold stB
  split
  · exact h'
  · split
    · cases q <;> first | exact inVs_set (inV_acc hk) _ _ h' | exact h'
    · exact h'

theorem hZ_get (p : MP) (k b : Nat) : (hZ p k).get b = stB p k b (lkB p.hl b) := by unfold hZ; rw [hOf_get, lkB_blL]

/-- The start, in its own names and in those of the rounds. -/
structure Sr (p : MP) (φs φ0 : Ren) (hs : H) (w0 : World) : Prop where
  hr : HR φs hs w0
  n : hs.n = p.hn
  s0 : ∀ b r, b < p.hn → φ0 b = some r → φs b = some r ∧ φs.n b = φ0.n b
  sC : ∀ b, p.C b = true → φs b = φ0 b
  y : φ0.y = { φs.y with q := φ0.y.q }
  row : ∀ r, φ0 p.hn = some r → ∃ b, φs b = some r
  up : ∀ b r, φ0 b = some r → b ≤ p.hn

theorem end_ok {E : Env} {ex : ExecT} {p : MP} {m : ML} {φs φ0 : Ren} {hs : H} {w0 : World} {rI rm since : Nat} {es : List (V × V × Nat)} {clk k0 : Nat} {cks : List Chk} {ps0 us0 : List (List Value)} {pre : List (List V)} {D : List Deferred}
    (S : Rs E ex p m φ0 w0 rI rm since es clk k0 cks) (T : Sr p φs φ0 hs w0) (hpre : VRL φs pre us0) (hpp : List.Perm ps0 us0) (hne : es ≠ [])
    {φ : Ren} {us : Nat → List Value} {ψs : Nat → Ren} {dn : List Nat} {a : Act} {w : World} (R : RI p φ0 w0 rI rm since es k0 cks ps0 D φ us ψs dn a w) (hdl : dn.length = es.length)
    {tmps : Array Value} (hf : FR φ (((frS p (k0 + dn.length)).set m.tn (.t [.b false])).set m.tm (.b false)) tmps)
    {ff : Nat → V} (hff : ∀ t, inV p.C (lkV p.fl t) = true → ff t = lkV p.fl t ∨ ff t = .top) (hfq : ∀ t z, lkV p.fl t = .q z → VR φs (ff t) (φ0.q z)) {frE : Fr} (hfn : frE.n = p.fn) (hfe : ∀ t, frE.get t = (match p.pl with | .inl t' => if t = t' then accV p (k0 + es.length) else ff t | .inr _ => ff t)) :
    ∃ φ', Ext φs w0 φ' w ∧ HR φ' (hE p (k0 + es.length) pre cks) w ∧ FR φ' ((frE.set m.tn (.t [.b false])).set m.tm (.b false)) tmps := by
  have hok := S.ok
  simp only [MP.ok, Bool.and_eq_true] at hok
  obtain ⟨⟨⟨hoH, hoF⟩, hobi⟩, hoA⟩ := hok
  have hrr := R.hr
  have hcl0 := R.cl
  rw [hdl] at hrr hf hcl0
  have hel : es.length ≠ 0 := fun h => hne (List.eq_nil_of_length_eq_zero h)
  have hK : k0 + es.length ≠ 0 := by omega
  generalize hKe : k0 + es.length = K at hrr hf hK hcl0 hfe ⊢
  have hsn : φs.m = p.hn := T.hr.cnt.trans T.n
  have ykk : φs.y.k = φ0.y.k := by rw [T.y]
  have yk2 : φ.y.k = φs.y.k := by rw [R.yk, ykk]
  have fshS : ∀ r, Fsh φ0 w0 r → Fsh φs w0 r := fun r h => by
    rcases h with h | ⟨⟨b, hb⟩, hk⟩
    · exact .inl h
    · refine .inr ⟨?_, by rw [ykk]; exact hk⟩
      rcases Nat.lt_or_ge b p.hn with h1 | h1
      · exact ⟨b, (T.s0 b r h1 hb).1⟩
      · have := T.up b r hb
        have : b = p.hn := by omega
        subst this
        exact T.row r hb
  let φ1 : Ren := { f := fun b => if b < p.hn then φs b else if b = p.hn then φ p.hn else none, n := fun b => if b < p.hn then φs.n b else φ.n p.hn, y := φs.y, m := p.hn + 1 }
  have f1 : ∀ b, b < p.hn → φ1 b = φs b ∧ φ1.n b = φs.n b := fun b hb => ⟨if_pos hb, if_pos hb⟩
  have f2 : φ1 p.hn = φ p.hn ∧ φ1.n p.hn = φ.n p.hn := ⟨(if_neg (Nat.lt_irrefl _)).trans (if_pos rfl), if_neg (Nat.lt_irrefl _)⟩
  have f3 : ∀ b r, φ1 b = some r → (b < p.hn ∧ φs b = some r) ∨ (b = p.hn ∧ φ p.hn = some r) := fun b r e => by
    rcases Nat.lt_or_ge b p.hn with h | h
    · exact .inl ⟨h, by rw [← (f1 b h).1]; exact e⟩
    · by_cases hb : b = p.hn
      · subst hb; exact .inr ⟨rfl, by rw [← f2.1]; exact e⟩
      · have : φ1 b = none := (if_neg (by omega)).trans (if_neg hb)
        rw [this] at e; cases e
  have le1 : Le φs φ1 := ⟨fun b r e => by
    have hb : b < p.hn := by have := (T.hr.dom b r e).1; rw [T.n] at this; exact this
    exact ⟨(f1 b hb).1.trans e, (f1 b hb).2⟩, rfl⟩
  have eqC : ∀ b, p.C b = true → φ1 b = φ b := fun b hb => by
    have hlt := MP.C_lt S.ok hb
    exact (f1 b hlt).1.trans ((T.sC b hb).trans (R.old b hlt).1.symm)
  have ag : AgC p.C' φ φ1 := fun b r hb e => by
    simp only [MP.C', Bool.or_eq_true] at hb
    rcases hb with hb | hb
    · have hlt := MP.C_lt S.ok hb
      refine ⟨(eqC b hb).trans e, ?_⟩
      have e0 : φ0 b = some r := (R.old b hlt).1.symm.trans e
      rw [(f1 b hlt).2, (T.s0 b r hlt e0).2, (R.old b hlt).2 r e0]
    · have := Nat.eq_of_beq_eq_true hb
      subst this
      exact ⟨f2.1.trans e, f2.2⟩
  have lv : ∀ b, ((hZ p K).get b).live → (b, lkB p.hl b) ∈ p.hl ∧ b < p.hn ∧ b ≠ p.bi ∧ inBk p.C (lkB p.hl b) = true ∧ p.C b = true := fun b hl => by
    rw [hZ_get] at hl
    have hm := lkB_mem (stB_live.1 hl)
    obtain ⟨h1, h2, h3⟩ := okH_ok hoH b _ hm
    exact ⟨hm, h1, h2, h3, by simp only [MP.C, Bool.or_eq_true]; exact .inl (hasK_iff.2 ⟨_, hm⟩)⟩
  have same : ∀ b, ((hZ p K).get b).live → (hS p K .gone).get b = (hZ p K).get b := fun b hl => by
    obtain ⟨_, h1, h2, _⟩ := lv b hl
    rw [hS_get, if_neg (by omega), if_neg h2, hZ_get]
  have hr1 : HR φ1 (hZ p K) w := by
    refine ⟨rfl, fun b r e => ?_, fun b r e hl => ?_, fun b b' r e e' hl hl' => ?_, fun r o hk => ?_⟩
    · rcases f3 b r e with ⟨hb, e1⟩ | ⟨rfl, e1⟩
      · exact ⟨Nat.lt_succ_of_lt hb, Nat.lt_of_lt_of_le (T.hr.dom b r e1).2 R.size⟩
      · exact ⟨Nat.lt_succ_self _, (hrr.dom _ r e1).2⟩
    · obtain ⟨hm, h1, h2, h3, hC⟩ := lv b hl
      have e1 : φ b = some r := by rw [← eqC b hC]; exact e
      obtain ⟨o, g1, g2⟩ := hrr.blk b r e1 (by rw [same b hl]; exact hl)
      rw [same b hl] at g2
      refine ⟨o, g1, ?_⟩
      rw [(ag b r (MP.C'_of hC) e1).2]
      rw [hZ_get] at g2 ⊢
      exact inBk_ok ag (inBk_st hK h3) g2
    · obtain ⟨_, _, _, _, hC⟩ := lv b hl
      obtain ⟨_, _, _, _, hC'⟩ := lv b' hl'
      exact hrr.inj b b' r (by rw [← eqC b hC]; exact e) (by rw [← eqC b' hC']; exact e') (by rw [same b hl]; exact hl) (by rw [same b' hl']; exact hl')
    · have hk' : φ.y.k r = some o := by rw [yk2]; exact hk
      obtain ⟨k1, k2⟩ := hrr.kp r o hk'
      refine ⟨k1, fun b e hmt => ?_⟩
      obtain ⟨_, _, _, _, hC⟩ := lv b hmt.live
      exact k2 b (by rw [← eqC b hC]; exact e) (by rw [same b hmt.live]; exact hmt)
  -- the elements
  have hperm : dn.Perm (List.range es.length) := sub_perm_of R.nd (fun i hi => List.mem_range.2 (R.sub i hi)) (by simp [hdl])
  have hin : ∀ i, i < es.length → i ∈ dn := fun i hi => hperm.mem_iff.2 (List.mem_range.2 hi)
  have hPG : ∀ i ck, cks[i]? = some ck → PG p.hn (fun r => Fsh φs w0 r ∧ ∀ b, φ b ≠ some r) ck φ1 (hZ p K) w (us (0 + i)) (ψs (0 + i)) := fun i ck hck => by
    rw [Nat.zero_add]
    have hil : i < es.length := by
      have := (List.getElem?_eq_some_iff.1 hck).1
      rw [S.cl] at this; exact this
    have F := R.fg i (hin i hil) ck hck
    refine ⟨fun m r hm e => ?_, F.cs, F.lt, fun m q hm => ?_, F.inj, F.nw, F.le⟩
    · obtain ⟨e1, e2⟩ := F.lo m r hm e
      obtain ⟨e3, e4⟩ := T.s0 m r hm e1
      exact ⟨(f1 m hm).1.trans e3, (f1 m hm).2.trans (e4.trans e2)⟩
    · obtain ⟨l1, l2, l3, l4⟩ := F.blk m q hm
      refine ⟨l1, l2, l3, fun r e => ?_⟩
      obtain ⟨n1, n2, n3, n4⟩ := l4 r e
      refine ⟨n1, ⟨fshS r n2, n3⟩, (fshS r n2).kn T.hr, fun b eb hl => ?_, n4⟩
      obtain ⟨_, _, _, _, hC⟩ := lv b hl
      exact n3 b (by rw [← eqC b hC]; exact eb)
  obtain ⟨φ2, g1, g2, g3, g4, g5, g6⟩ := addPs_ok (F := fun r => Fsh φs w0 r ∧ ∀ b, φ b ≠ some r) cks 0 us ψs φ1 (hZ p K) hr1 (Nat.le_succ _) hPG (fun i j ci cj hne hci hcj m q m' q' r hm hm' e => by
    rw [Nat.zero_add] at e ⊢
    have hil : i < es.length := by
      have := (List.getElem?_eq_some_iff.1 hci).1
      rw [S.cl] at this; exact this
    have hjl : j < es.length := by
      have := (List.getElem?_eq_some_iff.1 hcj).1
      rw [S.cl] at this; exact this
    exact R.dj i (hin i hil) j (hin j hjl) hne ci cj hci hcj m q m' q' r hm hm' e)
  rw [S.cl, ← List.range_eq_range'] at g4
  have zn : (hZ p K).n = p.hn + 1 := rfl
  have zh : ¬ ((hZ p K).get p.hn).live := fun hl => by
    obtain ⟨_, h1, _⟩ := lv p.hn hl
    omega
  have ph : ¬ ((addPs p.hn cks (hZ p K)).1.get p.hn).live := by rw [g6 _ (by rw [zn]; omega)]; exact zh
  have le2 : Le φs φ2 := le1.trans g2
  have hx : Ext φs w0 φ2 w := by
    refine ⟨le2, ?_, fun b r e => ?_, fun hdd => R.dr (by rw [T.y]; exact hdd), R.size, R.os, R.tape, R.output, fun r hr0 hb => R.frame r hr0 fun b e => ?_⟩
    · rw [hsn, g1.cnt]; rw [zn] at g3; omega
    · rcases g5 b r e with e | ⟨h1, h2, _⟩
      · rcases f3 b r e with ⟨_, e1⟩ | ⟨rfl, e1⟩
        · exact .inl e1
        · exact .inr ⟨by rw [hsn]; exact Nat.le_refl _, fshS r (R.row r e1).1⟩
      · exact .inr ⟨by rw [hsn]; rw [zn] at h1; omega, h2⟩
    · rcases Nat.lt_or_ge b p.hn with h1 | h1
      · exact hb b (T.s0 b r h1 e).1
      · have := T.up b r e
        have : b = p.hn := by omega
        subst this
        obtain ⟨b2, hb2⟩ := T.row r e
        exact hb b2 hb2
  refine ⟨φ2, hx, ?_, ?_⟩
  · have he : hE p K pre cks = (addPs p.hn cks (hZ p K)).1.set p.hn (.pm (pre ++ (addPs p.hn cks (hZ p K)).2) p.e) := rfl
    rw [he]
    have up2 : ∀ r, φ2 p.hn = some r → φ p.hn = some r := fun r e => by
      rcases g5 p.hn r e with e | ⟨h1, _⟩
      · rw [← f2.1]; exact e
      · rw [zn] at h1; omega
    cases hrow : φ2 p.hn with
    | none =>
      refine g1.congrN rfl fun b r e => ?_
      rw [H.get_set, if_neg]
      intro hb
      rw [hb, hrow] at e; cases e
    | some rr =>
      have e1 := up2 rr hrow
      obtain ⟨o, ho, hbr⟩ := hrr.blk p.hn rr e1 (by rw [hS_get, if_pos rfl]; cases K with | zero => exact absurd rfl hK | succ K => trivial)
      rw [hS_get, if_pos rfl] at hbr
      have hrK : rowB p K = .cells (qsF 0 (K * p.sz)) p.e true := by
        cases K with
        | zero => exact absurd rfl hK
        | succ K => rfl
      rw [hrK] at hbr
      obtain ⟨c, rfl, hv, hcs, _, hcn⟩ := hbr
      rw [qsF_length] at hv hcs
      obtain ⟨_, q2⟩ := qsF_inv _ _ _ hv
      have hvl : (c.toList.take (K * p.sz)).length = K * p.sz := by rw [hv.length, qsF_length]
      have hfl : c.toList.take (K * p.sz) = (ps0 ++ dn.map us).flatten := by
        apply List.ext_getElem?
        intro j
        rcases Nat.lt_or_ge j (K * p.sz) with hj | hj
        · have h1 : j < (c.toList.take (K * p.sz)).length := by rw [hvl]; exact hj
          have h2 : j < (ps0 ++ dn.map us).flatten.length := by rw [hcl0]; exact hj
          rw [List.getElem?_eq_getElem h1, List.getElem?_eq_getElem h2]
          have a1 := (q2 j _ (List.getElem?_eq_getElem h1)).1
          have a2 := (R.cq j _ (List.getElem?_eq_getElem h2)).1
          rw [Nat.zero_add] at a1
          rw [a1, a2]
        · rw [List.getElem?_eq_none (by rw [hvl]; exact hj), List.getElem?_eq_none (by rw [hcl0]; exact hj)]
      refine g1.put (w' := w) (b := p.hn) (r := rr) (.pm (pre ++ (addPs p.hn cks (hZ p K)).2) p.e) (.cells c p.e (0, 0)) hrow ph (fun b e hl => ?_) ?_ ⟨c, us0 ++ (List.range es.length).map us, ps0 ++ dn.map us, rfl, (hpre.mono le2).append g4, hpp.append (hperm.map us), ?_, ?_, ?_, ?_⟩ rfl ho fun _ _ => rfl
      · rcases g5 b rr e with e | ⟨h1, _, h2⟩
        · rcases f3 b rr e with ⟨hb, e2⟩ | ⟨hb, _⟩
          · rw [g6 b (by rw [zn]; omega)] at hl
            obtain ⟨_, _, _, _, hC⟩ := lv b hl
            exact absurd ((eqC b hC).symm.trans e) ((R.row rr e1).2 b hb)
          · exact hb
        · exact absurd e1 (h2 p.hn)
      · rw [g2.yy]; exact (fshS rr (R.row rr e1).1).kn T.hr
      · rw [← hfl, hvl]
      · rw [hcl0]; exact hcs
      · intro u hu
        obtain ⟨j, hj⟩ := List.mem_iff_getElem?.1 hu
        exact (R.cq j u hj).2
      · rw [hcn]
        have e3 : φ1 p.hn = some rr := f2.1.trans e1
        rw [(g2 _ _ e3).2, f2.2]
  · refine ⟨hf.1.trans hfn.symm, fun t => ?_⟩
    have ht := hf.2 t
    rw [Fr.get_set, Fr.get_set] at ht ⊢
    by_cases h1 : t = m.tm
    · rw [if_pos h1] at ht ⊢
      simpa only [VR] using ht
    rw [if_neg h1] at ht ⊢
    by_cases h2 : t = m.tn
    · rw [if_pos h2] at ht ⊢
      exact VR.mono g2 _ _ (inV_ok (C := p.C') ag _ _ rfl ht)
    rw [if_neg h2] at ht ⊢
    rw [frS_get] at ht
    rw [hfe]
    have low : VR φ (lkV p.fl t) (tmps.getD t undef) → VR φ2 (ff t) (tmps.getD t undef) := fun hv => by
      have hoF' := okF_ok hoF t
      simp only [Bool.or_eq_true] at hoF'
      rcases hoF' with h3 | h3
      · rcases hff t h3 with h4 | h4
        · rw [h4]
          exact VR.mono g2 _ _ (inV_ok ag _ _ (inV_mono (fun b => MP.C'_of) _ h3) hv)
        · rw [h4]; simp only [VR]
      · obtain ⟨z, hz, hzq⟩ := isQm_ok h3
        rw [hz] at hv
        simp only [VR] at hv
        rw [hv.1]
        rw [show φ.q z = φ0.q z from R.qz z hzq]
        exact VR.mono le2 _ _ (hfq t z hz)
    cases hpl : p.pl with
    | inl t' =>
      rw [hpl] at ht
      simp only at ht ⊢
      by_cases h3 : t = t'
      · rw [if_pos h3] at ht ⊢
        exact VR.mono g2 _ _ (inV_ok ag _ _ (inV_acc hK) ht)
      · rw [if_neg h3] at ht ⊢
        exact low ht
    | inr x =>
      rw [hpl] at ht
      exact low ht

end
end Go.Ev

/- The abstract machine, part Rm: such a range as a whole. -/
namespace Go.Ev
noncomputable section

theorem mkHl_mem {h : H} {pl : Nat ⊕ (Nat × Nat)} {b0 bi : Nat} : ∀ {L : List Nat} {b : Nat} {q : Blk}, (b, q) ∈ mkHl h pl b0 bi L → b ≠ b0 ∧ b ≠ bi ∧ q = (match pl with | .inl _ => h.get b | .inr (ab, ao) => cond (Nat.beq b ab) (setA ao .top (h.get b)) (h.get b))
  | [], _, _, hm => by cases hm
  | c :: L, b, q, hm => by
    simp only [mkHl] at hm
    cases hc : (Nat.beq c b0 || Nat.beq c bi) with
    | true => rw [hc] at hm; exact mkHl_mem (L := L) hm
    | false =>
      rw [hc] at hm
      rcases List.mem_cons.1 hm with e | e
      · cases e
        simp only [Bool.or_eq_false_iff] at hc
        refine ⟨fun e => ?_, fun e => ?_, rfl⟩
        · rw [e, Nat.beq_refl] at hc; cases hc.1
        · rw [e, Nat.beq_refl] at hc; cases hc.2
      · exact mkHl_mem (L := L) e
theorem hasN_iff : ∀ {l : List Nat} {y : Nat}, hasN l y = true ↔ y ∈ l
  | [], y => by simp [hasN]
  | x :: xs, y => by
    simp only [hasN]
    by_cases h : y = x
    · subst h; simp [Nat.beq_refl]
    · rw [nbf h]
      simp only [cond_false, hasN_iff (l := xs), List.mem_cons, h, false_or]
theorem mkFl_ok {C : Nat → Bool} {qm : Nat} {fr : Fr} {wr : List Nat} : ∀ (n t : Nat), (lkV (mkFl C qm fr wr n) t = .top ∨ (t ∉ wr ∧ ((inV C (fr.get t) = true ∧ lkV (mkFl C qm fr wr n) t = fr.get t) ∨ (atomV (fr.get t) = true ∧ lkV (mkFl C qm fr wr n) t = .q (qm + t)))))
  | 0, t => .inl rfl
  | n + 1, t => by
    have ih := mkFl_ok (C := C) (qm := qm) (fr := fr) (wr := wr) n t
    simp only [mkFl]
    cases hw : hasN wr n with
    | true => exact ih
    | false =>
      simp only [cond_false]
      have hnw : n ∉ wr := fun h => by rw [hasN_iff.2 h] at hw; cases hw
      split
      · exact ih
      · rename_i v hv
        cases h1 : inV C (fr.get n) with
        | true =>
          simp only [cond_true, lkV]
          by_cases ht : t = n
          · subst ht; rw [if_pos rfl]; exact .inr ⟨hnw, .inl ⟨h1, rfl⟩⟩
          · rw [if_neg ht]; exact ih
        | false =>
          simp only [cond_false]
          cases h2 : atomV (fr.get n) with
          | true =>
            simp only [cond_true, lkV]
            by_cases ht : t = n
            · subst ht; rw [if_pos rfl]; exact .inr ⟨hnw, .inr ⟨h2, rfl⟩⟩
            · rw [if_neg ht]; exact ih
          | false => exact ih
theorem mkFf_ok {fr : Fr} : ∀ (l : List (Nat × V)) (t : Nat), lkV (mkFf fr l) t = (match lkV l t with | .q _ => fr.get t | v => v)
  | [], t => rfl
  | (k, v) :: l, t => by
    have ih := mkFf_ok (fr := fr) l t
    by_cases h : t = k
    · subst h
      cases v <;> simp [mkFf, lkV]
    · cases v <;> simp only [mkFf, lkV, if_neg h] <;> exact ih
theorem allC_ok {hl : List (Nat × Blk)} : ∀ {n : Nat}, allC hl n = true → ∀ g, g < n → hasK hl g = true
  | 0, _, g, h => by omega
  | n + 1, e, g, h => by
    simp only [allC, Bool.and_eq_true] at e
    by_cases hg : g = n
    · rw [hg]; exact e.1
    · exact allC_ok e.2 g (by omega)
theorem rndL_ok {p : MP} {ex : ExecT} {m : ML} {clk k : Nat} : ∀ {es : List (V × V × Nat)} {l : List Chk}, rndL p ex m clk k es = some l → l.length = es.length ∧ ∀ (i : Nat) (en : V × V × Nat) (ck : Chk), es[i]? = some en → l[i]? = some ck → rnd p ex none m.bb m.nx m.tn m.tm clk en k = some ck
  | [], l, h => by simp only [rndL, Option.some.injEq] at h; subst h; exact ⟨rfl, fun i en ck h => by simp at h⟩
  | en :: es, l, h => by
    simp only [rndL] at h
    split at h
    rotate_left
    · cases h
    rename_i c hc
    split at h
    rotate_left
    · cases h
    rename_i l' hl
    cases h
    obtain ⟨h1, h2⟩ := rndL_ok hl
    refine ⟨by simp [h1], fun i en' ck e1 e2 => ?_⟩
    cases i with
    | zero =>
      simp only [List.getElem?_cons_zero, Option.some.injEq] at e1 e2
      subst e1; subst e2; exact hc
    | succ i => exact h2 i en' ck (by simpa using e1) (by simpa using e2)
theorem sameBL_ok : ∀ {l l' : List (Nat × Blk)}, sameBL l l' = true → l = l'
  | [], [], _ => rfl
  | (b, q) :: l, (b', q') :: l', h => by
    simp only [sameBL, Bool.and_eq_true] at h
    rw [Nat.eq_of_beq_eq_true h.1.1, sameBk_ok h.1.2, sameBL_ok h.2]
  | [], _ :: _, h => by cases h
  | _ :: _, [], h => by cases h
theorem sameCks_ok : ∀ {l l' : List Chk}, sameCks l l' = true → l = l'
  | [], [], _ => rfl
  | (c, B, n) :: l, (c', B', n') :: l', h => by
    simp only [sameCks, Bool.and_eq_true] at h
    rw [same_s_ok _ _ h.1.1.1, sameBL_ok h.1.1.2, Nat.eq_of_beq_eq_true h.1.2, sameCks_ok h.2]
  | [], _ :: _, h => by cases h
  | (_, _, _) :: _, [], h => by cases h
theorem allSt_ok {p : MP} {ex : ExecT} {m : ML} {clk : Nat} {es : List (V × V × Nat)} {cks : List Chk} {k0 : Nat} : ∀ {n : Nat}, allSt p ex m clk es cks k0 n = true → ∀ j, j < n → rndL p ex m clk (k0 + j) es = some cks
  | 0, _, j, h => by omega
  | n + 1, e, j, h => by
    simp only [allSt, Bool.and_eq_true] at e
    by_cases hj : j = n
    · subst hj
      have := e.1
      split at this
      · rename_i c hc; rw [hc, sameCks_ok this]
      · cases this
    · exact allSt_ok e.2 j (by omega)
theorem findB_none {n : Nat} : ∀ {l : List (V × V × Nat)}, (findB n l).isNone = true → ∀ e ∈ l, e.2.2 ≠ n
  | [], _, e, he => by cases he
  | (k, v, m) :: l, h, e, he => by
    simp only [findB] at h
    cases hb : Nat.beq m n with
    | true => rw [hb] at h; cases h
    | false =>
      rw [hb] at h
      rcases List.mem_cons.1 he with rfl | he
      · intro e; simp only at e; rw [e, Nat.beq_refl] at hb; cases hb
      · exact findB_none h e he
theorem bornsOK_ok {since : Nat} : ∀ {l : List (V × V × Nat)}, bornsOK since l = true → (l.map (·.2.2)).Nodup ∧ ∀ e ∈ l, e.2.2 < since
  | [], _ => ⟨by simp, fun e h => by cases h⟩
  | (k, v, n) :: l, h => by
    simp only [bornsOK, Bool.and_eq_true] at h
    obtain ⟨h1, h2⟩ := bornsOK_ok h.2
    refine ⟨List.nodup_cons.2 ⟨fun hm => ?_, h1⟩, fun e he => ?_⟩
    · obtain ⟨e, he, hn⟩ := List.mem_map.1 hm
      exact findB_none h.1.2 e he hn
    · rcases List.mem_cons.1 he with rfl | he
      · exact blt_iff.1 h.1.1
      · exact h2 e he
theorem ptrK_ok {fl : List (Nat × V)} {ab : Nat} : ∀ {l : List (Nat × V)}, ptrK fl ab l = true → ∃ t o, lkV fl t = .p (some (ab, o))
  | [], h => by cases h
  | (t, _) :: l, h => by
    simp only [ptrK, Bool.or_eq_true] at h
    rcases h with h | h
    · split at h
      · rename_i b o hv
        rw [Nat.eq_of_beq_eq_true h] at hv
        exact ⟨t, o, hv⟩
      · cases h
    · exact ptrK_ok h

/-! ### The row at first -/
theorem splitC_flat {α : Type} {sz : Nat} : ∀ (k : Nat) (l : List α), l.length = k * sz → (splitC sz k l).flatten = l
  | 0, l, h => by simp only [Nat.zero_mul] at h; rw [List.eq_nil_of_length_eq_zero h]; rfl
  | k + 1, l, h => by
    rw [Nat.succ_mul] at h
    simp only [splitC, List.flatten_cons]
    rw [splitC_flat k (l.drop sz) (by simp; omega), List.take_append_drop]
theorem splitC_vrl {φ : Ren} {sz : Nat} : ∀ (k : Nat) (l : List V) (vs : List Value), VRs φ l vs → VRL φ (splitC sz k l) (splitC sz k vs)
  | 0, _, _, _ => rfl
  | k + 1, l, vs, h => by
    simp only [splitC, VRL]
    exact ⟨_, _, rfl, h.take sz, splitC_vrl k _ _ (h.drop sz)⟩
theorem lenL_ok {φ : Ren} : ∀ {cs : List (List V)} {us : List (List Value)}, VRL φ cs us → us.flatten.length = lenL cs
  | [], us, h => by simp only [VRL] at h; subst h; rfl
  | x :: l, us, h => by
    simp only [VRL] at h
    obtain ⟨y, ys, rfl, h1, h2⟩ := h
    simp only [List.flatten_cons, List.length_append, lenL, h1.length, lenL_ok h2]

/-- What is known of the row at first. -/
structure St0 (φ : Ren) (h : H) (w : World) (st : MS) (sz : Nat) (e : TypeId) (r0 : Nat) (ps0 us0 : List (List Value)) : Prop where
  nm : φ st.b0 = some r0
  mt : (h.get st.b0).mut
  ni : ∀ m c, h.get st.b0 ≠ .mit m c
  vrl : VRL φ st.pre us0
  perm : List.Perm ps0 us0
  len : ps0.flatten.length = st.k0 * sz
  one : ∀ u ∈ ps0.flatten, u.oneCell' = true
  obj : ∃ c, w.heap[r0]? = some (.cells c e (0, 0)) ∧ c.toList.take (st.k0 * sz) = ps0.flatten ∧ st.k0 * sz ≤ c.size ∧ c.size = φ.n st.b0
theorem stOf_ok {φ : Ren} {h : H} {w : World} (hr : HR φ h w) {av : V} {v : Value} {st : MS} (hs : stOf h av = some st) (hv : VR φ av v) :
    (st.k0 = 0 ∧ st.pre = [] ∧ ∃ c, av = .sl none 0 c) ∨ (st.k0 ≠ 0 ∧ av = .sl (some (st.b0, 0)) st.k0 (.un st.sz) ∧ ∃ r0 ps0 us0, St0 φ h w st st.sz st.e r0 ps0 us0) := by
  unfold stOf at hs
  split at hs
  · rename_i c
    cases hs
    exact .inl ⟨rfl, rfl, c, rfl⟩
  · rename_i b0 k sz
    simp only [VR] at hv
    obtain ⟨r0, cap, hb, _, _, _⟩ := hv
    split at hs
    · rename_i l e g hg
      obtain ⟨hc, hs⟩ := cond_some hs
      cases hs
      simp only [Bool.and_eq_true] at hc
      have hl := Nat.eq_of_beq_eq_true hc.1
      obtain ⟨o, h1, h2⟩ := hr.blk b0 r0 hb (by rw [hg]; trivial)
      rw [hg] at h2
      obtain ⟨c, rfl, h3, h4, _, h5⟩ := h2
      have hvl : (c.toList.take l.length).length = (k + 1) * sz := by rw [h3.length, hl]
      refine .inr ⟨Nat.succ_ne_zero _, rfl, r0, splitC sz (k + 1) (c.toList.take l.length), splitC sz (k + 1) (c.toList.take l.length), hb, by rw [hg]; trivial, fun m c e => (by rw [hg] at e; cases e), splitC_vrl _ _ _ h3, List.Perm.refl _, ?_, ?_, c, h1, ?_, ?_, h5⟩
      · rw [splitC_flat _ _ hvl]; exact hvl
      · rw [splitC_flat _ _ hvl]
        exact atoms_ok h3 hc.2
      · rw [splitC_flat _ _ hvl, hl]
      · show (k + 1) * sz ≤ c.size
        rw [← hl]; exact h4
    · rename_i cs e hg
      obtain ⟨hc, hs⟩ := cond_some hs
      cases hs
      have hl := Nat.eq_of_beq_eq_true hc
      obtain ⟨o, h1, h2⟩ := hr.blk b0 r0 hb (by rw [hg]; trivial)
      rw [hg] at h2
      obtain ⟨c, us, ps, rfl, g1, g2, g3, g4, g5, g6⟩ := h2
      have hpl : ps.flatten.length = (k + 1) * sz := by
        rw [g2.flatten.length_eq, lenL_ok g1, hl]
      refine .inr ⟨Nat.succ_ne_zero _, rfl, r0, ps, us, hb, by rw [hg]; trivial, fun m c e => (by rw [hg] at e; cases e), g1, g2, hpl, g5, c, h1, ?_, ?_, g6⟩
      · show c.toList.take ((k + 1) * sz) = _
        rw [← hpl]; exact g3
      · show (k + 1) * sz ≤ c.size
        rw [← hpl]; exact g4
    · cases hs
  · cases hs


def stT (pl : Nat ⊕ (Nat × Nat)) (b : Nat) (q : Blk) : Blk := match pl with | .inl _ => q | .inr (ab, ao) => cond (Nat.beq b ab) (setA ao .top q) q
theorem setA_live {ao : Nat} {x : V} {q : Blk} : (setA ao x q).live ↔ q.live := by cases q <;> exact Iff.rfl
theorem setA_mut {ao : Nat} {x : V} {q : Blk} : (setA ao x q).mut ↔ q.mut := by cases q <;> exact Iff.rfl
theorem stT_live {pl : Nat ⊕ (Nat × Nat)} {b : Nat} {q : Blk} : (stT pl b q).live ↔ q.live := by
  unfold stT
  split
  · exact Iff.rfl
  · rename_i ab ao
    cases Nat.beq b ab with
    | true => exact setA_live
    | false => exact Iff.rfl
theorem stB_mut' {p : MP} {k b : Nat} {q : Blk} (pl : Nat ⊕ (Nat × Nat)) (h : (stB p k b (stT pl b q)).mut) : q.mut := by
  have h1 : (stT pl b q).mut := by
    unfold stB at h
    split at h
    · exact h
    · split at h
      · exact setA_mut.1 h
      · exact h
  unfold stT at h1
  split at h1
  · exact h1
  · rename_i ab ao
    cases hb : Nat.beq b ab with
    | true => rw [hb] at h1; exact setA_mut.1 h1
    | false => rw [hb] at h1; exact h1

/-- The start, in names of the rounds. -/
theorem start_hr {φ : Ren} {h : H} {w : World} (hr : HR φ h w) {p : MP} (hp : p.ok = true) (hhn : p.hn = h.n) {b0 k0 : Nat} {av : V} (hav : p.pl = p.pl → ∀ ab ao, p.pl = .inr (ab, ao) → ∃ l e g, h.get ab = .cells l e g ∧ l[ao]? = some av)
    (hmem : ∀ b q, (b, q) ∈ p.hl → b ≠ b0 ∧ q = stT p.pl b (h.get b)) (hbi0 : k0 ≠ 0 → b0 ≠ p.bi)
    {L : List Nat} (hL : ∀ b, (b ∈ p.hl.map (·.1) ∨ (k0 ≠ 0 ∧ b = b0)) → b ∈ L)
    {φ0 : Ren} (fC : ∀ b, p.C b = true → φ0 b = φ b ∧ φ0.n b = φ.n b) (fN : ∀ b r, φ0 b = some r → p.C b = true ∨ (b = p.hn ∧ k0 ≠ 0 ∧ φ b0 = some r)) (fm : φ0.m = p.hn + 1) (fk : φ0.y.k = kS φ h w L)
    (hacc : ∀ v, VR φ av v → VR φ0 (accV p k0) v)
    (hrow : k0 ≠ 0 → (h.get b0).mut ∧ ∀ r, φ b0 = some r → ∃ o, w.heap[r]? = some o ∧ BR φ0 (φ0.n p.hn) (rowB p k0) o) : HR φ0 (hS p k0 .gone) w := by
  have hpk := hp
  simp only [MP.ok, Bool.and_eq_true] at hp
  obtain ⟨⟨⟨hoH, hoF⟩, hobi⟩, hoA⟩ := hp
  have ag : AgC p.C φ φ0 := fun b r hb e => ⟨(fC b hb).1.trans e, (fC b hb).2⟩
  -- what is live there
  have key : ∀ b r, φ0 b = some r → ((hS p k0 .gone).get b).live → (b < p.hn ∧ φ b = some r ∧ (b, lkB p.hl b) ∈ p.hl ∧ (hS p k0 .gone).get b = stB p k0 b (stT p.pl b (h.get b)) ∧ lkB p.hl b = stT p.pl b (h.get b) ∧ inBk p.C (lkB p.hl b) = true ∧ (h.get b).live) ∨ (b = p.hn ∧ k0 ≠ 0 ∧ φ b0 = some r) := fun b r e hl => by
    rcases fN b r e with hC | h2
    · have hlt := MP.C_lt hpk hC
      rw [hS_get, if_neg (by omega)] at hl
      by_cases hbi : b = p.bi
      · rw [if_pos hbi] at hl; exact hl.elim
      · rw [if_neg hbi] at hl
        have hm := lkB_mem (stB_live.1 hl)
        have hq := (hmem b _ hm).2
        have hlv : (h.get b).live := by have := stB_live.1 hl; rw [hq] at this; exact stT_live.1 this
        exact .inl ⟨hlt, (fC b hC).1.symm.trans e, hm, by rw [hS_get, if_neg (by omega), if_neg hbi, hq], hq, (okH_ok hoH b _ hm).2.2, hlv⟩
    · exact .inr h2
  refine ⟨fm, fun b r e => ?_, fun b r e hl => ?_, fun b b' r e e' hl hl' => ?_, fun r o hk => ?_⟩
  · show b < p.hn + 1 ∧ _
    rcases fN b r e with hC | ⟨rfl, _, h2⟩
    · exact ⟨by have := MP.C_lt hpk hC; omega, (hr.dom b r ((fC b hC).1.symm.trans e)).2⟩
    · exact ⟨by omega, (hr.dom _ r h2).2⟩
  · rcases key b r e hl with ⟨hlt, e1, hm, hg, hq, hin, hlv⟩ | ⟨rfl, hk, e1⟩
    · obtain ⟨o, g1, g2⟩ := hr.blk b r e1 hlv
      refine ⟨o, g1, ?_⟩
      have hC : p.C b = true := by simp only [MP.C, Bool.or_eq_true]; exact .inl (hasK_iff.2 ⟨_, hm⟩)
      rw [hg, (fC b hC).2]
      rw [hq] at hin
      unfold stB
      split
      · rename_i t hpl
        rw [hpl] at hin ⊢
        exact inBk_ok ag hin g2
      · rename_i ab ao hpl
        rw [hpl] at hin ⊢
        by_cases hb : b = ab
        · subst hb
          rw [if_pos rfl]
          unfold stT at hin ⊢
          simp only [Nat.beq_refl, cond_true] at hin ⊢
          obtain ⟨l, e0, g0, h1, h2⟩ := hav rfl b ao hpl
          rw [h1] at hin g2 ⊢
          obtain ⟨c, rfl, h3, h4, h5, h6⟩ := g2
          have hin : inVs p.C (l.set ao .top) = true := hin
          show BR φ0 _ (.cells ((l.set ao .top).set ao (accV p k0)) e0 g0) _
          rw [List.set_set]
          refine ⟨c, rfl, VRs_of (by rw [List.length_set]; exact h3.length) fun i x v hx hv => ?_, by simpa using h4, fun hg' => by simpa using h5 hg', h6⟩
          rw [List.length_set] at hv
          have hilt : i < l.length := by
            have := (List.getElem?_eq_some_iff.1 hx).1
            simpa using this
          obtain ⟨z, hz, hzv⟩ := h3.get (List.getElem?_eq_getElem hilt)
          rw [hv] at hz; cases hz
          by_cases hi : i = ao
          · subst hi
            rw [List.getElem?_eq_getElem hilt] at h2
            rw [List.getElem?_set_self hilt] at hx
            cases hx
            rw [Option.some.inj h2] at hzv
            exact hacc _ hzv
          · have hx2 := hx
            rw [List.getElem?_set_ne (Ne.symm hi)] at hx
            have : (l.set ao .top)[i]? = some x := by rw [List.getElem?_set_ne (Ne.symm hi)]; exact hx
            rw [List.getElem?_eq_getElem hilt] at hx
            rw [Option.some.inj hx] at hzv
            exact inV_ok ag _ _ (inVs_get hin this) hzv
        · rw [if_neg hb]
          unfold stT at hin ⊢
          simp only [nbf hb, cond_false] at hin ⊢
          exact inBk_ok ag hin g2
    · obtain ⟨_, h2⟩ := hrow hk
      obtain ⟨o, g1, g2⟩ := h2 r e1
      exact ⟨o, g1, by rw [hS_get, if_pos rfl]; exact g2⟩
  · rcases key b r e hl with ⟨hlt, e1, hm, _, _, _, hlv⟩ | ⟨rfl, hk, e1⟩ <;> rcases key b' r e' hl' with ⟨hlt', e1', hm', _, _, _, hlv'⟩ | ⟨rfl, hk', e1'⟩
    · exact hr.inj b b' r e1 e1' hlv hlv'
    · exact absurd (hr.inj b b0 r e1 e1' hlv (hrow hk').1.live) (hmem b _ hm).1
    · exact absurd (hr.inj b' b0 r e1' e1 hlv' (hrow hk).1.live) (hmem b' _ hm').1
    · rfl
  · rw [fk] at hk
    obtain ⟨k1, k2⟩ := kS_is hk
    refine ⟨k1, fun b e hmt => ?_⟩
    rcases key b r e hmt.live with ⟨hlt, e1, hm, hg, _, _, hlv⟩ | ⟨rfl, hk', e1⟩
    · rw [hg] at hmt
      exact k2 ⟨b, hL b (.inl (List.mem_map.2 ⟨_, hm, rfl⟩)), e1, stB_mut' p.pl hmt⟩
    · exact k2 ⟨b0, hL b0 (.inr ⟨hk', rfl⟩), e1, (hrow hk').1⟩

end
end Go.Ev

/- The abstract machine, part Ro: a range over a map that lays its elements behind a row. -/
namespace Go.Ev
noncomputable section

theorem mkFl_ptr {C : Nat → Bool} {qm : Nat} {fr : Fr} {wr : List Nat} {n t b o : Nat} (ht : lkV (mkFl C qm fr wr n) t = .p (some (b, o))) : fr.get t = .p (some (b, o)) := by
  rcases mkFl_ok (C := C) (qm := qm) (fr := fr) (wr := wr) n t with h1 | ⟨_, ⟨_, h1⟩ | ⟨_, h1⟩⟩
  · rw [h1] at ht; cases ht
  · rw [h1] at ht; exact ht
  · rw [h1] at ht; cases ht

theorem mlBig_ok {E : Env} {ex : ExecT} (hX : ExecOK E ex) {m : ML} {id g : Nat} {ops : Array Oper} (hops : mlOps ops = some (m.it, m.tn, m.tm)) {fr : Fr} {ds : List Nat} {h : H} {bi mN since : Nat} {es : List (V × V × Nat)} {clk : Nat} {x : X} {fr' : Fr} {ds' : List Nat} {h' : H}
    (hbi : h.get bi = .mit mN since) (hmp : h.get mN = .mp es clk) (hne : es ≠ []) (e : mlBig E ex m fr ds h bi mN since es clk = some (x, fr', ds', h')) {D : List Deferred} {φ : Ren} {a : Act} {w : World} {n : Nat} (hpl : ∀ ψ : Ren, ψ.y.d = φ.y.d → BD E ψ) (hg : GL E.ng φ) (hf : FR φ fr a.tmps) (hit : fr.get m.it = .p (some (bi, 0))) (hd : DR D φ ds a.defers) (hr : HR φ h w) :
    (Code.block id (.loop (.seq (.region g ops false) (.seq (.cond (.tmp m.tm) .skip (.exit id)) (.block m.nx m.bb))))).wpIn (W none) n E.P (PostX D φ w x fr' ds' h') a w := by
  unfold mlBig at e
  split at e
  · cases e
  rename_i pl hplo
  try simp only at e
  split at e
  · cases e
  rename_i st hst
  try simp only at e
  generalize hL0 : clo h 4000 (mN :: (List.range E.ng ++ nmFr fr (rdC m.bb []) [])) .leaf [] = L0 at e
  generalize hhl : mkHl h pl st.b0 bi L0 = hl at e
  generalize hwr : wrOf m pl = wr at e
  split at e
  · cases e
  rename_i sz ty hsz
  rw [forceN_eq] at e
  try simp only at e
  generalize hqm : (st.k0 + es.length) * sz = qm at e
  generalize hfl : mkFl (fun b => hasK hl b || Nat.beq b bi) qm fr wr fr.n = fl at e
  generalize hp : (⟨h.n, sz, ty, bi, mN, avOf fr h pl, fr.n, fl, pl, hl, qm⟩ : MP) = p at e
  split at e
  · cases e
  rename_i cks hcks
  obtain ⟨hc, e⟩ := cond_some e
  simp only [Option.some.injEq, Prod.mk.injEq] at e
  obtain ⟨rfl, rfl, rfl, rfl⟩ := e
  simp only [Bool.and_eq_true] at hc
  obtain ⟨⟨⟨⟨⟨⟨⟨⟨⟨⟨c1, c2⟩, c3⟩, c4⟩, c5⟩, c6⟩, c7⟩, c8⟩, c9⟩, c10⟩, c11⟩ := hc
  have p1 : p.hn = h.n := by rw [← hp]
  have p2 : p.sz = sz := by rw [← hp]
  have p3 : p.e = ty := by rw [← hp]
  have p4 : p.bi = bi := by rw [← hp]
  have p5 : p.mN = mN := by rw [← hp]
  have p6 : p.nl = avOf fr h pl := by rw [← hp]
  have p7 : p.fn = fr.n := by rw [← hp]
  have p8 : p.fl = fl := by rw [← hp]
  have p9 : p.pl = pl := by rw [← hp]
  have p10 : p.hl = hl := by rw [← hp]
  have p11 : p.qm = qm := by rw [← hp]
  have pC : p.C = fun b => hasK hl b || Nat.beq b bi := by rw [← hp]; rfl
  clear hp
  have hmem : ∀ b q, (b, q) ∈ p.hl → b ≠ st.b0 ∧ b ≠ bi ∧ q = stT pl b (h.get b) := fun b q hm => by
    rw [p10, ← hhl] at hm
    exact mkHl_mem hm
  -- the row's value
  obtain ⟨v0, hv0⟩ : ∃ v, VR φ (avOf fr h pl) v ∧ (∀ t, pl = .inl t → v = a.tmps.getD t undef) := by
    cases pl with
    | inl t => exact ⟨_, hf.2 t, fun t' e => by cases e; rfl⟩
    | inr y =>
      obtain ⟨ab, ao⟩ := y
      have hk := c11
      unfold plOK at hk
      rw [p9] at hk
      obtain ⟨t, o, ht⟩ := ptrK_ok hk
      rw [p8, ← hfl] at ht
      have hfr : fr.get t = .p (some (ab, o)) := mkFl_ptr ht
      have := hf.2 t
      rw [hfr] at this
      simp only [VR] at this
      obtain ⟨r, hr1, _⟩ := this
      unfold avOf at hst ⊢
      simp only at hst ⊢
      split at hst
      · rename_i l e0 g0 hq
        try simp only [hq]
        cases hlo : l[ao]? with
        | none =>
          rw [List.getD_eq_getElem?_getD, hlo] at hst
          cases hst
        | some z =>
          obtain ⟨v, _, hv, _⟩ := hr.cell hr1 hq hlo
          exact ⟨v, by rw [List.getD_eq_getElem?_getD, hlo]; exact hv, fun t e => by cases e⟩
      · cases hst
  have hso := stOf_ok hr hst hv0.1
  -- its elements
  obtain ⟨ps0, us0, hvrl, hperm, hlen, hone, hrow⟩ : ∃ ps0 us0, VRL φ st.pre us0 ∧ List.Perm ps0 us0 ∧ ps0.flatten.length = st.k0 * sz ∧ (∀ u ∈ ps0.flatten, u.oneCell' = true) ∧
      (st.k0 ≠ 0 → avOf fr h pl = .sl (some (st.b0, 0)) st.k0 (.un sz) ∧ ∃ r0, φ st.b0 = some r0 ∧ (h.get st.b0).mut ∧ (∀ m c, h.get st.b0 ≠ .mit m c) ∧
        ∃ c, w.heap[r0]? = some (.cells c ty (0, 0)) ∧ c.toList.take (st.k0 * sz) = ps0.flatten ∧ st.k0 * sz ≤ c.size ∧ c.size = φ.n st.b0) := by
    rcases hso with ⟨h1, h2, _⟩ | ⟨h1, h2, r0, ps0, us0, h3⟩
    · exact ⟨[], [], by rw [h2]; rfl, List.Perm.refl _, by simp [h1], fun u hu => (by simp at hu), fun h => absurd h1 h⟩
    · have hk0 : Nat.beq st.k0 0 = false := nbf h1
      rw [hk0] at hsz
      simp only [cond_false, Option.some.injEq, Prod.mk.injEq] at hsz
      obtain ⟨rfl, rfl⟩ := hsz
      exact ⟨ps0, us0, h3.vrl, h3.perm, h3.len, h3.one, fun _ => ⟨h2, r0, h3.nm, h3.mt, h3.ni, h3.obj⟩⟩
  have hnil : st.k0 = 0 → ∃ c, avOf fr h pl = .sl none 0 c := fun h0 => by
    rcases hso with ⟨_, _, h3⟩ | ⟨h1, _⟩
    · exact h3
    · exact absurd h0 h1
  -- the small world
  let Ls := bi :: (cond (Nat.beq st.k0 0) [] [st.b0] ++ hl.map (·.1))
  have hLin : ∀ b, (b ∈ p.hl.map (·.1) ∨ (st.k0 ≠ 0 ∧ b = st.b0)) → b ∈ Ls := fun b hb => by
    rcases hb with hb | ⟨h1, rfl⟩
    · rw [p10] at hb; exact List.mem_cons_of_mem _ (List.mem_append_right _ hb)
    · refine List.mem_cons_of_mem _ (List.mem_append_left _ ?_)
      rw [nbf h1]; exact List.mem_singleton.2 rfl
  have hok := c1
  simp only [MP.ok, Bool.and_eq_true] at hok
  obtain ⟨⟨⟨hoH, hoF⟩, hobi⟩, hoA⟩ := hok
  have hlv : ∀ b q, (b, q) ∈ p.hl → (h.get b).live := fun b q hm => by
    have h1 := inBk_live (okH_ok hoH b q hm).2.2
    rw [(hmem b q hm).2.2] at h1
    exact stT_live.1 h1
  have hlive : ∀ b ∈ Ls, (h.get b).live := fun b hb => by
    rcases List.mem_cons.1 hb with rfl | hb
    · rw [hbi]; trivial
    · rcases List.mem_append.1 hb with hb | hb
      · cases hk : Nat.beq st.k0 0 with
        | true => rw [hk] at hb; cases hb
        | false =>
          rw [hk] at hb
          rw [List.mem_singleton.1 hb]
          obtain ⟨_, r0, _, hm, _⟩ := hrow (fun h => by rw [h] at hk; cases hk)
          exact hm.live
      · obtain ⟨⟨b2, q⟩, hm, rfl⟩ := List.mem_map.1 hb
        exact hlv b2 q (by rw [p10]; exact hm)
  let φs := φ.wk (kS φ h w Ls)
  have hrs : HR φs (smH h Ls) w := small_hr Ls hr
  let φ0 : Ren := { f := fun b => if p.C b = true then φ b else if b = p.hn ∧ st.k0 ≠ 0 then φ st.b0 else none, n := fun b => if b = p.hn then φ.n st.b0 else φ.n b, y := { φs.y with q := fun z => if z < st.k0 * sz then ps0.flatten.getD z undef else a.tmps.getD (z - qm) undef }, m := p.hn + 1 }
  have Clt : ∀ b, p.C b = true → b < p.hn := fun b hb => MP.C_lt c1 hb
  have fC : ∀ b, p.C b = true → φ0 b = φ b ∧ φ0.n b = φ.n b := fun b hb => ⟨if_pos hb, if_neg (by have := Clt b hb; omega)⟩
  have fN : ∀ b r, φ0 b = some r → p.C b = true ∨ (b = p.hn ∧ st.k0 ≠ 0 ∧ φ st.b0 = some r) := fun b r e => by
    have e : (if p.C b = true then φ b else if b = p.hn ∧ st.k0 ≠ 0 then φ st.b0 else none) = some r := e
    split at e
    · rename_i hC; exact .inl hC
    · split at e
      · rename_i h1; exact .inr ⟨h1.1, h1.2, e⟩
      · cases e
  have fh : st.k0 ≠ 0 → φ0 p.hn = φ st.b0 ∧ φ0.n p.hn = φ.n st.b0 := fun hk => by
    refine ⟨?_, if_pos rfl⟩
    have hC : ¬ p.C p.hn = true := fun h => by have := Clt _ h; omega
    exact (if_neg hC).trans (if_pos ⟨rfl, hk⟩)
  have hqle : st.k0 * sz ≤ qm := by rw [← hqm]; exact Nat.mul_le_mul_right _ (by omega)
  have q1 : ∀ j v, ps0.flatten[j]? = some v → φ0.q j = v := fun j v hj => by
    have hlt : j < ps0.flatten.length := (List.getElem?_eq_some_iff.1 hj).1
    show (if j < st.k0 * sz then ps0.flatten.getD j undef else _) = v
    rw [if_pos (by rw [← hlen]; exact hlt), List.getD_eq_getElem?_getD, hj]; rfl
  have q2 : ∀ t, φ0.q (qm + t) = a.tmps.getD t undef := fun t => by
    show (if qm + t < st.k0 * sz then _ else a.tmps.getD (qm + t - qm) undef) = _
    rw [if_neg (by omega), Nat.add_sub_cancel_left]
  have hacc : ∀ v, VR φ (avOf fr h pl) v → VR φ0 (accV p st.k0) v := fun v hv => by
    by_cases hk : st.k0 = 0
    · obtain ⟨c, hc⟩ := hnil hk
      rw [hk]
      show VR φ0 p.nl v
      rw [hc] at hv
      rw [p6, hc]
      simpa only [VR] using hv
    · obtain ⟨hav, _⟩ := hrow hk
      rw [hav] at hv
      obtain ⟨k, hkk⟩ := Nat.exists_eq_succ_of_ne_zero hk
      rw [hkk] at hv ⊢
      simp only [accV, VR] at hv ⊢
      obtain ⟨r, cap, hr1, g1, g2, g3⟩ := hv
      exact ⟨r, cap, (fh hk).1.trans hr1, g1, by rw [(fh hk).2, p2]; exact g2, g3⟩
  have hrI0 : ∃ rI, φ bi = some rI := by
    have := hf.2 m.it
    rw [hit] at this
    simp only [VR] at this
    obtain ⟨r, h1, _⟩ := this
    exact ⟨r, h1⟩
  obtain ⟨rI, hrI⟩ := hrI0
  obtain ⟨oI, hoI, hbI⟩ := hr.blk bi rI hrI (by rw [hbi]; trivial)
  rw [hbi] at hbI
  obtain ⟨rm, hrm, rfl⟩ := hbI
  have CbI : p.C bi = true := by rw [pC]; simp [Nat.beq_refl]
  have kI : kS φ h w Ls rI = none := kS_none (b := bi) List.mem_cons_self hrI (by rw [hbi]; trivial)
  have hb0bi : st.k0 ≠ 0 → st.b0 ≠ p.bi := fun hk e => by
    obtain ⟨_, _, _, _, hni, _⟩ := hrow hk
    rw [p4] at e
    exact hni mN since (by rw [e, hbi])
  have C0 : st.k0 ≠ 0 → ¬ p.C st.b0 = true := fun hk hC => by
    simp only [MP.C, Bool.or_eq_true] at hC
    rcases hC with hC | hC
    · obtain ⟨q, hq⟩ := hasK_iff.1 hC
      exact (hmem _ q hq).1 rfl
    · exact hb0bi hk (Nat.eq_of_beq_eq_true hC)
  have Clive : ∀ b, p.C b = true → (h.get b).live := fun b hC => by
    simp only [MP.C, Bool.or_eq_true] at hC
    rcases hC with hC | hC
    · obtain ⟨q, hq⟩ := hasK_iff.1 hC
      exact hlv b q hq
    · rw [Nat.eq_of_beq_eq_true hC, p4, hbi]; trivial
  have hHR : HR φ0 (hS p st.k0 .gone) w := start_hr hr c1 p1 (b0 := st.b0) (k0 := st.k0) (av := avOf fr h pl) (fun _ ab ao hpl2 => by
      rw [p9] at hpl2
      subst hpl2
      unfold avOf at hst ⊢
      simp only at hst ⊢
      split at hst
      · rename_i l e0 g0 hq
        try simp only [hq]
        refine ⟨l, e0, g0, rfl, ?_⟩
        cases hlo : l[ao]? with
        | none =>
          rw [List.getD_eq_getElem?_getD, hlo] at hst
          cases hst
        | some z => rw [List.getD_eq_getElem?_getD, hlo]; rfl
      · cases hst) (fun b q hm => ⟨(hmem b q hm).1, by rw [p9]; exact (hmem b q hm).2.2⟩) hb0bi hLin fC fN rfl rfl hacc fun hk => by
    obtain ⟨_, r0, e1, hm, _, c, o1, o2, o3, o4⟩ := hrow hk
    refine ⟨hm, fun r e => ?_⟩
    rw [e1] at e; cases e
    refine ⟨_, o1, ?_⟩
    have hrb : rowB p st.k0 = .cells (qsF 0 (st.k0 * sz)) ty true := by
      obtain ⟨k, hkk⟩ := Nat.exists_eq_succ_of_ne_zero hk
      rw [hkk]
      show Blk.cells (qsF 0 ((k + 1) * p.sz)) p.e true = _
      rw [p2, p3]
    rw [hrb, (fh hk).2]
    refine ⟨c, rfl, ?_, ?_, (fun h => by cases h), o4⟩
    · rw [qsF_length, o2]
      refine qsF_vrs _ _ _ hlen fun j v hj => ?_
      rw [Nat.zero_add]
      exact ⟨(q1 j v hj).symm, hone v (List.mem_of_getElem? hj)⟩
    · rw [qsF_length]; exact o3
  have hFL : ∀ t, lkV p.fl t = .top ∨ (t ∉ wr ∧ ((inV p.C (fr.get t) = true ∧ lkV p.fl t = fr.get t) ∨ (atomV (fr.get t) = true ∧ lkV p.fl t = .q (qm + t)))) := fun t => by
    rw [p8, ← hfl, pC]; exact mkFl_ok fr.n t
  have ag0 : AgC p.C φ φ0 := fun b r hb e => ⟨(fC b hb).1.trans e, (fC b hb).2⟩
  have hlow : ∀ t, VR φ0 (lkV p.fl t) (a.tmps.getD t undef) := fun t => by
    rcases hFL t with h1 | ⟨_, ⟨h1, h2⟩ | ⟨h1, h2⟩⟩
    · rw [h1]; simp only [VR]
    · rw [h2]; exact inV_ok ag0 _ _ h1 (hf.2 t)
    · rw [h2]; simp only [VR]
      exact ⟨(q2 t).symm, atomV_ok (hf.2 t) h1⟩
  have hFR : FR φ0 (frS p st.k0) a.tmps := by
    refine ⟨hf.1.trans p7.symm, fun t => ?_⟩
    rw [frS_get]
    split
    · rename_i t' hpl2
      by_cases ht : t = t'
      · rw [if_pos ht]
        rw [p9] at hpl2
        have := hacc v0 hv0.1
        rw [hv0.2 t' hpl2] at this
        rw [ht]; exact this
      · rw [if_neg ht]; exact hlow t
    · exact hlow t
  have R : RI p φ0 w rI rm since es st.k0 cks ps0 a.defers φ0 (fun _ => []) (fun _ => φ0) [] a w := by
    refine ⟨hHR, hFR, rfl, fun b hb => ⟨rfl, fun _ _ => rfl⟩, fun r e => ?_, rfl, ?_, fun j v hj => ?_, fun z _ => rfl, ⟨since, Nat.le_refl _, hoI⟩, List.nodup_nil, fun i hi => (by cases hi), fun _ => Nat.le_refl _, Nat.le_refl _, rfl, rfl, rfl, fun _ _ _ => rfl, fun i hi => (by cases hi), fun i hi => (by cases hi)⟩
    · rcases fN _ r e with hC | ⟨_, hk, e1⟩
      · have := Clt _ hC; omega
      · obtain ⟨_, r0, e2, hm, _⟩ := hrow hk
        refine ⟨.inr ⟨⟨_, e⟩, kS_none (hLin st.b0 (.inr ⟨hk, rfl⟩)) e1 hm⟩, fun b hb eb => ?_⟩
        rcases fN b r eb with hC | ⟨h1, _⟩
        · have := hr.inj b st.b0 r ((fC b hC).1.symm.trans eb) e1 (Clive b hC) hm.live
          exact C0 hk (this ▸ hC)
        · omega
    · simp only [List.map_nil, List.append_nil, List.length_nil, Nat.add_zero]
      rw [p2]; exact hlen
    · simp only [List.map_nil, List.append_nil] at hj
      exact ⟨q1 j v hj, hone v (List.mem_of_getElem? hj)⟩
  obtain ⟨r1, r2⟩ := rndL_ok hcks
  obtain ⟨b1, b2⟩ := bornsOK_ok c3
  have CmN : p.C mN = true := by
    have h1 := sameBk_ok c10
    have hm := lkB_mem (L := hl) (j := mN) (by rw [h1]; trivial)
    rw [pC]; simp only [Bool.or_eq_true]
    exact .inl (hasK_iff.2 ⟨_, hm⟩)
  have S : Rs E ex p m φ0 w rI rm since es clk st.k0 cks := by
    refine ⟨c1, by rw [p4]; exact (fC bi CbI).1.trans hrI, kI, fun c hc e => ?_, by rw [p10, p5]; exact sameBk_ok c10, by rw [p5]; exact (fC mN CmN).1.trans hrm, b1, b2, Nat.le_of_ble_eq_true c4, fun b r hb e => ?_, fun ab ao hpl2 => ?_, fun g hgn => ?_, by rw [p1]; exact Nat.le_of_ble_eq_true c5, ?_, ?_, by rw [p7]; exact blt_iff.1 c7, by rw [p7]; exact blt_iff.1 c8, fun j i en ck hj h1 h2 => ?_, r1, by rw [p2, p11, hqm]; exact Nat.le_refl _⟩
    · rcases fN c rI e with hC | ⟨h1, _⟩
      · rw [p4]
        exact hr.inj c bi rI ((fC c hC).1.symm.trans e) hrI (Clive c hC) (by rw [hbi]; trivial)
      · omega
    · rcases fN b r e with hC | ⟨h1, _⟩
      · exact hC
      · omega
    · rw [p9] at hpl2
      subst hpl2
      have hk := c11
      unfold plOK at hk
      rw [p9] at hk
      obtain ⟨t, o, ht⟩ := ptrK_ok hk
      have hin := hlow t
      rw [ht] at hin
      simp only [VR] at hin
      obtain ⟨r, hr1, _⟩ := hin
      have hC : p.C ab = true := by
        rcases hFL t with h1 | ⟨_, ⟨h1, h2⟩ | ⟨_, h2⟩⟩
        · rw [h1] at ht; cases ht
        · rw [← h2, ht] at h1; exact h1
        · rw [h2] at ht; cases ht
      exact ⟨Clt ab hC, r, hr1⟩
    · have hC : p.C g = true := by rw [pC]; simp only [Bool.or_eq_true]; exact .inl (allC_ok c2 g hgn)
      exact (fC g hC).1.trans (hg g hgn)
    · unfold itOK at c6
      split at c6
      · rename_i b t h1 h2
        simp only [Bool.and_eq_true] at c6
        rw [h1, Nat.eq_of_beq_eq_true c6.1]
      · rename_i b y h1 h2
        rw [h1, Nat.eq_of_beq_eq_true c6]
      · cases c6
    · intro hpl2
      unfold itOK at c6
      rw [hpl2] at c6
      split at c6
      · rename_i b t h1 h2
        cases h2
        simp [Nat.beq_refl] at c6
      · rename_i h2; cases h2
      · cases c6
    · exact (rndL_ok (allSt_ok c9 j hj)).2 i en ck h1 h2
  have T : Sr p φs φ0 (smH h Ls) w := by
    refine ⟨hrs, p1.symm, fun b r hb e => ?_, fun b hC => (fC b hC).1.symm, rfl, fun r e => ?_, fun b r e => ?_⟩
    · rcases fN b r e with hC | ⟨h1, _⟩
      · exact ⟨(fC b hC).1.symm.trans e, (fC b hC).2.symm⟩
      · omega
    · rcases fN _ r e with hC | ⟨_, _, h1⟩
      · have := Clt _ hC; omega
      · exact ⟨_, h1⟩
    · rcases fN b r e with hC | ⟨h1, _⟩
      · have := Clt b hC; omega
      · omega
  refine wpIn_block (wpIn_mono (rounds_ok (φ0 := φ0) hX (fun ψ e => hpl ψ (show ψ.y.d = φ.y.d from e)) S (id := id) (g := g) hops R n) ?_)
  rintro e1 a' w' ⟨rfl, φ1, us, ψs, dn, a0, R', hdl, hda, hf'⟩
  obtain ⟨φ2, x1, x2, x3⟩ := end_ok (frE := frOf fr.n (frEL p fr (st.k0 + es.length))) (ff := fun t => lkV (mkFf fr p.fl) t) (pre := st.pre) (us0 := us0) S T ((wk_eqv φ _).vrl hvrl) hperm hne R' hdl hf'
    (fun t hin => .inl (by
      rw [mkFf_ok]
      split
      · rename_i z hz; rw [hz] at hin; simp [inV] at hin
      · rfl))
    (fun t z hz => by
      rw [mkFf_ok, hz]
      rcases hFL t with h1 | ⟨_, ⟨h1, h2⟩ | ⟨h1, h2⟩⟩
      · rw [h1] at hz; cases hz
      · rw [← h2, hz] at h1; simp [inV] at h1
      · rw [h2] at hz; cases hz
        rw [q2]
        exact (wk_eqv φ _).vr _ _ (hf.2 t))
    p7.symm (fun t => by
      unfold frEL
      rw [p9, frOf_get]
      cases pl with
      | inl t' => simp only [lkV]
      | inr y => rfl)
  obtain ⟨y1, y2⟩ := over_hr hr hlive x1 x2
  have back := wk_eqv φ2 φ.y.k
  simp only [Exit.inBlock, if_true]
  exact ⟨_, y1, rfl, back.frr x3, by rw [hda]; exact hd.mono y1.le, y2⟩

/-- Nothing is there. -/
theorem zero_ok {E : Env} {m : ML} {id g : Nat} {ops : Array Oper} (hops : mlOps ops = some (m.it, m.tn, m.tm)) {fr : Fr} {ds : List Nat} {h : H} {bi rI : Nat} {D : List Deferred} {φ : Ren} {a : Act} {w : World} {n : Nat} (hf : FR φ fr a.tmps) (hit : fr.get m.it = .p (some (bi, 0))) (hI : φ bi = some rI)
    (hrun : ∀ ty, (Instr.next (.pointer (some ⟨rI, 0, none⟩)) false ty).run E.P w = .ok (.tuple #[.bool false]) w) {x : X} {fr' : Fr} {ds' : List Nat} {h' : H} (e : mlZero m fr ds h = some (x, fr', ds', h')) (hd : DR D φ ds a.defers) (hr : HR φ h w) :
    (Code.block id (.loop (.seq (.region g ops false) (.seq (.cond (.tmp m.tm) .skip (.exit id)) (.block m.nx m.bb))))).wpIn (W none) n E.P (PostX D φ w x fr' ds' h') a w := by
  obtain ⟨hc, e⟩ := cond_some e
  simp only [Option.some.injEq, Prod.mk.injEq] at e
  obtain ⟨rfl, rfl, rfl, rfl⟩ := e
  simp only [Bool.and_eq_true] at hc
  have htn := blt_iff.1 hc.1
  have htm := blt_iff.1 hc.2
  obtain ⟨o1, o2, rfl, d1, p1, g1, d2, p2, g2⟩ := mlOps_some hops
  have hval : a.eval (.tmp m.it) = .pointer (some ⟨rI, 0, none⟩) := by
    have := hf.2 m.it
    rw [hit] at this
    simp only [VR] at this
    obtain ⟨r, hr1, hv⟩ := this
    rw [hI] at hr1; cases hr1
    exact hv
  have hw1 : ∀ t : Array Value, Region.wanted o1 (yielded ⟨[o1, o2]⟩ t) = true := fun t => by simp [Region.wanted, g1]
  have hw2 : ∀ t : Array Value, Region.wanted o2 (yielded ⟨[o1, o2]⟩ t) = true := fun t => by simp [Region.wanted, g2]
  refine wpIn_block (loop_inv 0 (fun _ a' w' => a' = a ∧ w' = w) (fun i _ _ hi => by omega) (fun a' w' hinv => ?_) ⟨rfl, rfl⟩)
  obtain ⟨rfl, rfl⟩ := hinv
  have hs : m.tn < a'.tmps.size := by rw [hf.1]; exact htn
  have fin : ∀ (Q : Exit → Act → World → Prop), Q .normal ((a'.put (some m.tn) (.tuple #[.bool false])).put (some m.tm) (.bool false)) w' → wpListIn (W none) n E.P ⟨[o1, o2]⟩ Q [o1, o2] a' w' := fun Q hQ => by
    unfold wpListIn
    simp only [hw1, if_true]
    refine ⟨fun _ _ => trivial, ?_⟩
    rw [Oper.semAt_eq _ _ _ (fun c e => by rw [p1] at e; cases e)]
    have he : (execOp a'.eval o1).run E.P w' = .ok (.value (.tuple #[.bool false])) w' := by
      simp only [execOp, p1, hval]
      simp [hrun]
    rw [he]
    show wpListIn (W none) n E.P ⟨[o1, o2]⟩ Q [o2] (a'.put o1.dst (.tuple #[.bool false])) w'
    rw [d1]
    simp only [wpListIn, hw2, if_true]
    refine ⟨fun _ _ => trivial, ?_⟩
    rw [Oper.semAt_eq _ _ _ (fun c e => by rw [p2] at e; cases e)]
    have he2 : (execOp (a'.put (some m.tn) (.tuple #[.bool false])).eval o2).run E.P w' = .ok (.value (.bool false)) w' := by
      have : (a'.put (some m.tn) (.tuple #[.bool false])).eval (.tmp m.tn) = .tuple #[.bool false] := by
        simp [Act.eval, Act.put, Array.getD, hs]
      simp [execOp, p2, this, Instr.extract]
    rw [he2]
    show Q .normal ((a'.put (some m.tn) (.tuple #[.bool false])).put o2.dst (.bool false)) w'
    rw [d2]
    exact hQ
  have hf1 := hf.put (x := .t [.b false]) (v := .tuple #[.bool false]) htn (by simp only [VR]; exact ⟨_, rfl, VRs.cons (by simp only [VR]) VRs.nil⟩)
  have hf2 := hf1.put (d := m.tm) (x := .b false) (v := .bool false) htm (by simp only [VR])
  have hev : ((a'.put (some m.tn) (.tuple #[.bool false])).put (some m.tm) (.bool false)).eval (.tmp m.tm) = .bool false := by
    have hs2 : m.tm < (a'.put (some m.tn) (.tuple #[.bool false])).tmps.size := by rw [hf1.1]; exact htm
    generalize a'.put (some m.tn) (.tuple #[.bool false]) = a2 at hs2 ⊢
    simp [Act.eval, Act.put, Array.getD, hs2]
  refine wpIn_seq (wpIn_region_list (fin _ ?_))
  refine wpIn_seq (wpIn_cond_false hev (wpIn_exit ⟨by simp, ?_⟩))
  simp only [Exit.inBlock, if_true]
  exact ⟨φ, Ext.refl φ _, rfl, hf2, hd, hr⟩

theorem mlRun_ok {E : Env} {ex : ExecT} (hX : ExecOK E ex) {m : ML} {id : Nat} {b : Code} (hsh : mlShape id b = some m) {fr : Fr} {ds : List Nat} {h : H} {x : X} {fr' : Fr} {ds' : List Nat} {h' : H}
    (e : mlRun E ex m fr ds h = some (x, fr', ds', h')) {D : List Deferred} {φ : Ren} {a : Act} {w : World} {n : Nat} (hpl : ∀ ψ : Ren, ψ.y.d = φ.y.d → BD E ψ) (hg : GL E.ng φ) (hf : FR φ fr a.tmps) (hd : DR D φ ds a.defers) (hr : HR φ h w) :
    (Code.block id b).wpIn (W none) n E.P (PostX D φ w x fr' ds' h') a w := by
  obtain ⟨g, ops, rfl, hops⟩ := mlShape_some hsh
  unfold mlRun at e
  split at e
  rotate_left
  · cases e
  rename_i bi hit
  have hfi := hf.2 m.it
  rw [hit] at hfi
  simp only [VR] at hfi
  obtain ⟨rI, hI, _⟩ := hfi
  split at e
  · rename_i hbi
    obtain ⟨o, ho, hb⟩ := hr.blk bi rI hI (by rw [hbi]; trivial)
    rw [hbi] at hb
    have hb : o = .mapIter none 0 #[] 0 := hb
    subst hb
    exact zero_ok hops hf hit hI (fun ty => by simp [Instr.next, getObj, Sem.run, ho]) e hd hr
  · rename_i mN since hbi
    obtain ⟨o, ho, hb⟩ := hr.blk bi rI hI (by rw [hbi]; trivial)
    rw [hbi] at hb
    obtain ⟨rm, hm, rfl⟩ := hb
    split at e
    · rename_i clk hmp
      obtain ⟨o2, ho2, hb2⟩ := hr.blk mN rm hm (by rw [hmp]; trivial)
      rw [hmp] at hb2
      obtain ⟨es', rfl, hes⟩ := hb2
      simp only [ERs] at hes
      have hes' : es' = #[] := by
        apply Array.ext'
        simpa using hes
      subst hes'
      refine zero_ok hops hf hit hI (fun ty => ?_) e hd hr
      rcases run_next_at (P := E.P) w ty rI rm since since #[] #[] clk ho ho2 (fun x hx => by simp at hx) (Nat.le_refl _) with ⟨_, h2⟩ | ⟨en, hen, _⟩
      · exact h2
      · have := (mem_left hen).1
        simp at this
    · rename_i en es clk hmp
      exact mlBig_ok hX hops hbi hmp (by simp) e hpl hg hf hit hd hr
    · cases e
  · cases e

end
end Go.Ev

/- The abstract machine, part P: what is told of code is so. -/
namespace Go.Ev
noncomputable section
variable {D : List Deferred}

def LoopOK (E : Env) (ex : ExecT) (k : Nat) : Prop := ∀ {D : List Deferred} ro b fr ds h x fr' ds' h', ex ro (.loop b) fr ds h = some (x, fr', ds', h') → ∀ φ a w ro' n, GL E.ng φ → BD E φ → RO φ ro ro' → FR φ fr a.tmps → DR D φ ds a.defers → HR φ h w →
  Code.roundsIn (W ro') n E.P b (PostX D φ w x fr' ds' h') k a w

theorem exec_ok {E : Env} (hE : E.OK) : ∀ k, ExecOK E (exec E k) ∧ LoopOK E (exec E k) k
  | 0 => ⟨fun _ _ _ _ _ _ _ _ _ h => by simp [exec_zero] at h, fun _ _ _ _ _ _ _ _ _ h => by simp [exec_zero] at h⟩
  | k + 1 => by
    obtain ⟨ihX, ihL⟩ := exec_ok hE k
    have hC := callF_ok hE ihX
    have hY := yieldF_ok ihX
    have hloop : LoopOK E (exec E (k + 1)) (k + 1) := by
      intro D ro b fr ds h x fr' ds' h' hs φ a w ro' n hg hbd hro hf hd hr
      simp only [exec_skip, exec_label, exec_exit, exec_ret, exec_regF, exec_regT, exec_seq, exec_cond, exec_block, exec_loop, exec_range, exec_scope, exec_goto, exec_refuse] at hs
      rw [roundsIn_succ]
      split at hs
      · rename_i fr1 ds1 h1 hex
        refine wpIn_mono (ihX _ _ _ _ _ _ _ _ _ hex φ a w ro' n hg hbd hro hf hd hr) ?_
        rintro e a1 w1 ⟨φ1, hx1, rfl, hf1, hd1, hr1⟩
        have := ihL _ _ _ _ _ _ _ _ _ hs φ1 a1 w1 ro' n (hg.mono hx1.le) (hbd.mono hx1.le) (hro.mono hx1.le) hf1 hd1 hr1
        exact roundsIn_mono (fun e a w hp => hp.back hx1) k a1 w1 this
      · rename_i r hne
        refine wpIn_mono (ihX _ _ _ _ _ _ _ _ _ hs φ a w ro' n hg hbd hro hf hd hr) ?_
        rintro e a1 w1 hp
        have hp' := hp
        obtain ⟨φ1, hx1, rfl, hf1, hd1, hr1⟩ := hp
        cases x with
        | n => exact absurd hs (hne _ _ _)
        | e id => exact hp'
        | r => exact hp'
    refine ⟨?_, hloop⟩
    intro D ro c fr ds h x fr' ds' h' hs φ a w ro' n hg hbd hro hf hd hr
    cases c with
    | skip =>
      simp only [exec_skip, exec_label, exec_exit, exec_ret, Option.some.injEq, Prod.mk.injEq] at hs
      obtain ⟨rfl, rfl, rfl, rfl⟩ := hs
      exact wpIn_skip ⟨φ, Ext.refl φ w, rfl, hf, hd, hr⟩
    | label l =>
      simp only [exec_skip, exec_label, exec_exit, exec_ret, Option.some.injEq, Prod.mk.injEq] at hs
      obtain ⟨rfl, rfl, rfl, rfl⟩ := hs
      exact wpIn_label ⟨φ, Ext.refl φ w, rfl, hf, hd, hr⟩
    | exit id =>
      simp only [exec_skip, exec_label, exec_exit, exec_ret, Option.some.injEq, Prod.mk.injEq] at hs
      obtain ⟨rfl, rfl, rfl, rfl⟩ := hs
      exact wpIn_exit ⟨φ, Ext.refl φ w, rfl, hf, hd, hr⟩
    | ret =>
      simp only [exec_skip, exec_label, exec_exit, exec_ret, Option.some.injEq, Prod.mk.injEq] at hs
      obtain ⟨rfl, rfl, rfl, rfl⟩ := hs
      exact wpIn_ret ⟨φ, Ext.refl φ w, rfl, hf, hd, hr⟩
    | region id ops draw =>
      cases draw with
      | true =>
        simp only [exec_skip, exec_label, exec_exit, exec_ret, exec_regF, exec_regT, exec_seq, exec_cond, exec_block, exec_loop, exec_range, exec_scope, exec_goto, exec_refuse] at hs
        split at hs
        · rename_i fr1 h1 hops
          simp only [Option.some.injEq, Prod.mk.injEq] at hs
          obtain ⟨rfl, rfl, rfl, rfl⟩ := hs
          refine dops_ok hE hE.mixed hC callF_qo hY hops ro' n id hg hbd hf hr fun φ' a' w' hx hf' hd' hr' => ?_
          exact ⟨φ', hx, rfl, hf', by rw [hd']; exact hd.mono hx.le, hr'⟩
        · cases hs
      | false =>
        simp only [exec_skip, exec_label, exec_exit, exec_ret, exec_regF, exec_regT, exec_seq, exec_cond, exec_block, exec_loop, exec_range, exec_scope, exec_goto, exec_refuse] at hs
        split at hs
        · rename_i fr1 h1 hops
          simp only [Option.some.injEq, Prod.mk.injEq] at hs
          obtain ⟨rfl, rfl, rfl, rfl⟩ := hs
          refine wpIn_region_list (aops_ok hE hC hY ops ro' n ops.toList fr h fr1 h1 hops φ a w hg hbd hf hr fun φ' a' w' hx hf' hd' hr' => ?_)
          exact ⟨φ', hx, rfl, hf', by rw [hd']; exact hd.mono hx.le, hr'⟩
        · cases hs
    | seq p q =>
      simp only [exec_skip, exec_label, exec_exit, exec_ret, exec_regF, exec_regT, exec_seq, exec_cond, exec_block, exec_loop, exec_range, exec_scope, exec_goto, exec_refuse] at hs
      refine wpIn_seq ?_
      split at hs
      · rename_i fr1 ds1 h1 hex
        refine wpIn_mono (ihX _ _ _ _ _ _ _ _ _ hex φ a w ro' n hg hbd hro hf hd hr) ?_
        rintro e a1 w1 ⟨φ1, hx1, rfl, hf1, hd1, hr1⟩
        exact wpIn_mono (ihX _ _ _ _ _ _ _ _ _ hs φ1 a1 w1 ro' n (hg.mono hx1.le) (hbd.mono hx1.le) (hro.mono hx1.le) hf1 hd1 hr1) fun e a w hp => hp.back hx1
      · rename_i r hne
        refine wpIn_mono (ihX _ _ _ _ _ _ _ _ _ hs φ a w ro' n hg hbd hro hf hd hr) ?_
        rintro e a1 w1 hp
        have hp' := hp
        obtain ⟨φ1, hx1, rfl, hf1, hd1, hr1⟩ := hp
        cases x with
        | n => exact absurd hs (hne _ _ _)
        | e id => exact hp'
        | r => exact hp'
    | cond c p q =>
      simp only [exec_skip, exec_label, exec_exit, exec_ret, exec_regF, exec_regT, exec_seq, exec_cond, exec_block, exec_loop, exec_range, exec_scope, exec_goto, exec_refuse] at hs
      have hv := ev_ok hg hf c
      split at hs
      · rename_i e; rw [e] at hv; simp only [VR] at hv
        exact wpIn_cond_true hv (ihX _ _ _ _ _ _ _ _ _ hs φ a w ro' n hg hbd hro hf hd hr)
      · rename_i e; rw [e] at hv; simp only [VR] at hv
        exact wpIn_cond_false hv (ihX _ _ _ _ _ _ _ _ _ hs φ a w ro' n hg hbd hro hf hd hr)
      · cases hs
    | block id b =>
      simp only [exec_skip, exec_label, exec_exit, exec_ret, exec_regF, exec_regT, exec_seq, exec_cond, exec_block, exec_loop, exec_range, exec_scope, exec_goto, exec_refuse] at hs
      split at hs
      · rename_i m hsh
        obtain ⟨hpl, hsh⟩ := cond_some hsh
        simp only [RO] at hro
        subst hro
        exact mlRun_ok ihX hsh hs (fun ψ e => hE.pl hpl ψ fun hk => e.trans (hbd.here.kd hk)) hg hf hd hr
      refine wpIn_block ?_
      split at hs
      · rename_i j fr1 ds1 h1 hex
        refine wpIn_mono (ihX _ _ _ _ _ _ _ _ _ hex φ a w ro' n hg hbd hro hf hd hr) ?_
        rintro e a1 w1 ⟨φ1, hx1, rfl, hf1, hd1, hr1⟩
        simp only [X.exit, Exit.inBlock]
        cases hj : Nat.beq j id with
        | true =>
          rw [hj] at hs
          simp only [cond, Option.some.injEq, Prod.mk.injEq] at hs
          obtain ⟨rfl, rfl, rfl, rfl⟩ := hs
          rw [if_pos (Nat.eq_of_beq_eq_true hj)]
          exact ⟨φ1, hx1, rfl, hf1, hd1, hr1⟩
        | false =>
          rw [hj] at hs
          simp only [cond, Option.some.injEq, Prod.mk.injEq] at hs
          obtain ⟨rfl, rfl, rfl, rfl⟩ := hs
          rw [if_neg (fun e => by rw [e, Nat.beq_refl] at hj; cases hj)]
          exact ⟨φ1, hx1, rfl, hf1, hd1, hr1⟩
      · rename_i r hne
        refine wpIn_mono (ihX _ _ _ _ _ _ _ _ _ hs φ a w ro' n hg hbd hro hf hd hr) ?_
        rintro e a1 w1 hp
        have hp' := hp
        obtain ⟨φ1, hx1, rfl, hf1, hd1, hr1⟩ := hp
        cases x with
        | n => exact hp'
        | e j => exact absurd hs (hne _ _ _ _)
        | r => exact hp'
    | loop b => exact wpIn_loop_rounds (k + 1) (hloop _ _ _ _ _ _ _ _ _ hs φ a w ro' n hg hbd hro hf hd hr)
    | rangeFunc g ps as bd =>
      simp only [exec_skip, exec_label, exec_exit, exec_ret, exec_regF, exec_regT, exec_seq, exec_cond, exec_block, exec_loop, exec_range, exec_scope, exec_goto, exec_refuse] at hs
      exact aRange_ok hC hs hg hbd hro hf hd hr
    | scope b =>
      simp only [exec_skip, exec_label, exec_exit, exec_ret, exec_regF, exec_regT, exec_seq, exec_cond, exec_block, exec_loop, exec_range, exec_scope, exec_goto, exec_refuse] at hs
      refine wpIn_scope (wpIn_mono (ihX _ _ _ _ _ _ _ _ _ hs φ a w ro' n hg hbd hro hf hd hr) ?_)
      rintro e a1 w1 hp
      have hp' := hp
      obtain ⟨φ1, hx1, rfl, hf1, hd1, hr1⟩ := hp
      exact ⟨fun l => by cases x <;> simp [X.exit], hp'⟩
    | goto l => simp only [exec_skip, exec_label, exec_exit, exec_ret, exec_regF, exec_regT, exec_seq, exec_cond, exec_block, exec_loop, exec_range, exec_scope, exec_goto, exec_refuse] at hs; cases hs
    | refuse s => simp only [exec_skip, exec_label, exec_exit, exec_ret, exec_regF, exec_regT, exec_seq, exec_cond, exec_block, exec_loop, exec_range, exec_scope, exec_goto, exec_refuse] at hs; cases hs

/-- **A call that the abstract machine tells, in the model.** -/
theorem call_ok {E : Env} (hE : E.OK) (k : Nat) {f : FuncId} {args : List V} {h : H} {v : V} {h' : H} (hs : callF E (exec E k) f args h = some (v, h')) {φ : Ren} {args' : List Value} {w : World} (hg : GL E.ng φ) (hbd : BD E φ)
    (ha : VRs φ args args') (hr : HR φ h w) : Calls E.P f args'.toArray w (Res φ w v h') :=
  (callsIn_wide (n := 0)).1 (callF_ok hE (exec_ok hE k).1 _ _ _ _ _ hs φ args' w 0 hg hbd ha hr).2

end
end Go.Ev

/- The abstract machine, part Df: functions whose deferred call catches what panics, where nothing does. -/
namespace Go.Ev
noncomputable section

/-! ### Statements one behind the other -/
def flatL : Code → List Code
  | .seq a b => flatL a ++ flatL b
  | c => [c]
def wpCs (ro : Option Nat) (n : Nat) (P : Program) (Q : Exit → Act → World → Prop) : List Code → Act → World → Prop
  | [], a, w => Q .normal a w
  | c :: cs, a, w => c.wpIn (W ro) n P (Exit.then (wpCs ro n P Q cs) Q) a w
theorem wpCs_mono {ro : Option Nat} {n : Nat} {P : Program} {Q Q' : Exit → Act → World → Prop} (hq : ∀ e a w, Q e a w → Q' e a w) : ∀ (l : List Code) (a : Act) (w : World), wpCs ro n P Q l a w → wpCs ro n P Q' l a w
  | [], a, w, h => hq _ _ _ h
  | c :: cs, a, w, h => wpIn_mono h fun e a' w' he => by
    cases e with
    | normal => exact wpCs_mono hq cs a' w' he
    | _ => exact hq _ _ _ he
theorem wpCs_append {ro : Option Nat} {n : Nat} {P : Program} {Q : Exit → Act → World → Prop} : ∀ (l l' : List Code) (a : Act) (w : World), wpCs ro n P Q (l ++ l') a w → wpCs ro n P (Exit.then (wpCs ro n P Q l') Q) l a w
  | [], l', a, w, h => h
  | c :: cs, l', a, w, h => by
    refine wpIn_mono h fun e a' w' he => ?_
    cases e with
    | normal => exact wpCs_append cs l' a' w' he
    | _ => exact he
theorem wpIn_flat {ro : Option Nat} {n : Nat} {P : Program} : ∀ (c : Code) {Q : Exit → Act → World → Prop} {a : Act} {w : World}, wpCs ro n P Q (flatL c) a w → c.wpIn (W ro) n P Q a w := by
  intro c
  have one : ∀ (c : Code) {Q : Exit → Act → World → Prop} {a : Act} {w : World}, wpCs ro n P Q [c] a w → c.wpIn (W ro) n P Q a w := fun c Q a w h => by
    refine wpIn_mono h fun e a' w' he => ?_
    cases e with
    | normal => exact he
    | _ => exact he
  induction c with
  | seq x y ihx ihy =>
    intro Q a w h
    refine wpIn_seq (ihx (wpCs_mono (fun e a w he => ?_) _ _ _ (wpCs_append _ _ _ _ h)))
    cases e with
    | normal => exact ihy he
    | _ => exact he
  | _ => intro Q a w h; exact one _ h

def execX (E : Env) (k : Nat) : List Code → Fr → H → Option (X × Fr × H)
  | [], fr, h => some (.n, fr, h)
  | c :: cs, fr, h =>
    match exec E k none c fr [] h with
    | some (.n, fr', [], h') => execX E k cs fr' h'
    | some (x, fr', [], h') => some (x, fr', h')
    | _ => none
theorem execX_ok {E : Env} {D : List Deferred} (hE : E.OK) {k : Nat} {n : Nat} {Q : Exit → Act → World → Prop} (rest : List Code) : ∀ (cs : List Code) (fr : Fr) (h : H) (x : X) (fr' : Fr) (h' : H), execX E k cs fr h = some (x, fr', h') →
    ∀ (φ : Ren) (a : Act) (w : World), GL E.ng φ → BD E φ → FR φ fr a.tmps → a.defers = D → HR φ h w →
    (∀ φ' a' w', Ext φ w φ' w' → FR φ' fr' a'.tmps → a'.defers = D → HR φ' h' w' → Exit.then (wpCs none n E.P Q rest) Q x.exit a' w') → wpCs none n E.P Q (cs ++ rest) a w
  | [], fr, h, x, fr', h', e, φ, a, w, hg, hbd, hf, hd, hr, hQ => by
    simp only [execX, Option.some.injEq, Prod.mk.injEq] at e
    obtain ⟨rfl, rfl, rfl⟩ := e
    exact hQ φ a w (Ext.refl φ w) hf hd hr
  | c :: cs, fr, h, x, fr', h', e, φ, a, w, hg, hbd, hf, hd, hr, hQ => by
    simp only [execX] at e
    split at e
    · rename_i fr1 h1 hex
      refine wpIn_mono ((exec_ok hE k).1 none c fr [] h .n fr1 [] h1 hex φ a w none n hg hbd rfl hf (by rw [hd]; rfl) hr) ?_
      rintro ex a1 w1 ⟨φ1, hx1, rfl, hf1, hd1, hr1⟩
      exact execX_ok hE rest cs fr1 h1 x fr' h' e φ1 a1 w1 (hg.mono hx1.le) (hbd.mono hx1.le) hf1 (by simpa only [DR] using hd1) hr1 fun φ' a' w' hx hf' hd' hr' => hQ φ' a' w' (hx1.trans hx) hf' hd' hr'
    · rename_i x1 fr1 h1 hne hex
      simp only [Option.some.injEq, Prod.mk.injEq] at e
      obtain ⟨rfl, rfl, rfl⟩ := e
      refine wpIn_mono ((exec_ok hE k).1 none c fr [] h x1 fr1 [] h1 hex φ a w none n hg hbd rfl hf (by rw [hd]; rfl) hr) ?_
      rintro ex a1 w1 ⟨φ1, hx1, rfl, hf1, hd1, hr1⟩
      have := hQ φ1 a1 w1 hx1 hf1 (by simpa only [DR] using hd1) hr1
      cases x1 with
      | n => exact (hne rfl).elim
      | e id => exact this
      | r => exact this
    · cases e


/-! ### A deferred call that finds nothing -/
/-- Such a call leaves all as it is. -/
def Idle (P : Program) (g : FuncId) (k : Nat) : Prop := (∃ fn c, P.funcs[g]? = some fn ∧ fn.body = some c ∧ (fn.name == "runtime.NumGoroutine") = false) ∧ ∀ (args : Array Value), args.size = k → ∀ n w, CallsDIn (W none) n P g args .returning w fun e u' w' => e = .returned (.tuple #[]) ∧ u' = .returning ∧ w' = w

/-- The region that defers. -/
def dfShape : Code → Option (Nat × FuncId × Array Operand)
  | .region _ ops false =>
    match ops with
    | ⟨[{ dst := some t, op := .makeFunc (.func g) first caps, guard := none, .. }, { dst := none, op := .defer { callee := .value (.tmp t'), args, .. }, guard := none, .. }]⟩ =>
      cond (Nat.beq t t' && first.isEmpty && args.isEmpty) (some (t, g, caps)) none
    | _ => none
  | _ => none
theorem dfShape_ok {c : Code} {t : Nat} {g : FuncId} {caps : Array Operand} (h : dfShape c = some (t, g, caps)) {P : Program} {n : Nat} {a : Act} {w : World} (ht : t < a.tmps.size) {Q : Exit → Act → World → Prop}
    (hQ : Q .normal { tmps := a.tmps.setIfInBounds t (.func (.func g) #[] (caps.map a.eval)), defers := { target := .fn (.func g) (caps.map a.eval), args := #[] } :: a.defers } w) : c.wpIn (W none) n P Q a w := by
  unfold dfShape at h
  split at h
  · split at h
    · rename_i id x t g first caps ty1 pos1 af1 t' args at1 ty2 pos2 af2
      obtain ⟨h1, h2⟩ := cond_some h
      simp only [Bool.and_eq_true] at h1
      obtain ⟨⟨q1, q2⟩, q3⟩ := h1
      have q1 := Nat.eq_of_beq_eq_true q1
      subst q1
      have q2 : first = #[] := by simpa using q2
      have q3 : args = #[] := by simpa using q3
      subst q2; subst q3
      simp only [Option.some.injEq, Prod.mk.injEq] at h2
      obtain ⟨rfl, rfl, rfl⟩ := h2
      refine wpIn_region_list ?_
      have hmf : ∀ (fn : Fn) (first cap : Array Value) (w : World), (Instr.makeFunc fn first cap).run P w = .ok (.func fn first cap) w := fun _ _ _ _ => rfl
      have hWr : (W none).round = none := rfl
      simp [wpListIn, Region.wanted, go_sem, Oper.wpIn, hWr, Oper.semAt_none, execOp, hmf, Oper.uponIn, ht]
      simpa using hQ
    · cases h
  · cases h

def runD (E : Env) (k i : Nat) : CallT := fun f args h =>
  match E.ft f with
  | some fn =>
    match fn.body with
    | some c =>
      match flatL c with
      | L =>
        match L[i]? with
        | some cd =>
          match dfShape cd with
          | some (t, _, _) =>
            cond (Nat.ble args.length fn.ntmps)
              (match execX E k (L.take i) { n := fn.ntmps, t := load args 0 .leaf } h with
               | some (.n, fr1, h1) =>
                 cond (Nat.blt t fr1.n)
                   (match execX E k (L.drop (i + 1)) (fr1.set t .top) h1 with
                    | some (.e _, _, _) => none
                    | some (_, fr2, h2) =>
                      match aRes E fr2 h2 fn.results.toList with
                      | some l => some (aRets l, h2)
                      | none => none
                    | none => none) none
               | _ => none) none
          | none => none
        | none => none
    | none => none
  | none => none

theorem runD_ok {E : Env} (hE : E.OK) {k i : Nat} {f : FuncId} (hI : ∀ fn c cd t g caps, E.ft f = some fn → fn.body = some c → (flatL c)[i]? = some cd → dfShape cd = some (t, g, caps) → Idle E.P g caps.size)
    {args : List V} {h : H} {v : V} {h' : H} (hs : runD E k i f args h = some (v, h')) {φ : Ren} {args' : List Value} {w : World} (n : Nat) (hg : GL E.ng φ) (hbd : BD E φ) (hargs : VRs φ args args') (hr : HR φ h w) :
    (∃ fn c, E.P.funcs[f]? = some fn ∧ fn.body = some c ∧ (fn.name == "runtime.NumGoroutine") = false) ∧ CallsIn (W none) n E.P f args'.toArray w (Res φ w v h') := by
  unfold runD at hs
  split at hs
  rotate_left
  · cases hs
  rename_i fn hfn
  obtain ⟨hfn', hname⟩ := hE.fn _ _ hfn
  split at hs
  rotate_left
  · cases hs
  rename_i c hc
  refine ⟨⟨fn, c, hfn', hc, hname⟩, ?_⟩
  dsimp only at hs
  split at hs
  rotate_left
  · cases hs
  rename_i cd hcd
  split at hs
  rotate_left
  · cases hs
  rename_i t g caps hsh
  obtain ⟨hle, hs⟩ := cond_some hs
  have hle' : args.length ≤ fn.ntmps := Nat.le_of_ble_eq_true hle
  have hF := load_FR hargs fn.ntmps hle'
  split at hs
  rotate_left
  · cases hs
  rename_i fr1 h1 e1
  obtain ⟨ht, hs⟩ := cond_some hs
  have hidle : Idle E.P g caps.size := hI fn c cd t g caps hfn hc hcd hsh
  obtain ⟨gn, gc, hgf, hgb, hgn⟩ := hidle.1
  have hgn' : ¬ gn.name = "runtime.NumGoroutine" := by simpa using hgn
  refine callsIn_of_wp_marks hfn' hc trivial (wpIn_flat _ ?_)
  have hsplit : flatL c = (flatL c).take i ++ (cd :: (flatL c).drop (i + 1)) := by
    have hi : i < (flatL c).length := (List.getElem?_eq_some_iff.1 hcd).1
    have he : (flatL c)[i] = cd := (List.getElem?_eq_some_iff.1 hcd).2
    rw [← he, ← List.drop_eq_getElem_cons hi, List.take_append_drop]
  rw [hsplit]
  refine execX_ok (D := []) hE (cd :: (flatL c).drop (i + 1)) ((flatL c).take i) _ _ _ _ _ e1 φ _ w hg hbd hF rfl hr fun φ1 a1 w1 hx1 hf1 hd1 hr1 => ?_
  show wpCs none n E.P _ (cd :: (flatL c).drop (i + 1)) a1 w1
  have hsz : t < a1.tmps.size := by rw [hf1.1]; exact blt_iff.1 ht
  refine dfShape_ok hsh hsz ?_
  rw [hd1]
  let d : Deferred := { target := .fn (.func g) (caps.map a1.eval), args := #[] }
  let a2 : Act := { tmps := a1.tmps.setIfInBounds t (.func (.func g) #[] (caps.map a1.eval)), defers := [d] }
  show wpCs none n E.P _ ((flatL c).drop (i + 1)) a2 w1
  have hf2 : FR φ1 (fr1.set t .top) a2.tmps := hf1.put (a := a1) (blt_iff.1 ht) (x := .top) (v := .func (.func g) #[] (caps.map a1.eval)) (by simp only [VR])
  have fin : ∀ (x2 : X) (fr2 : Fr) (h2 : H), x2 = .n ∨ x2 = .r → execX E k ((flatL c).drop (i + 1)) (fr1.set t .top) h1 = some (x2, fr2, h2) → (match aRes E fr2 h2 fn.results.toList with | some l => some (aRets l, h2) | none => none) = some (v, h') →
      wpCs none n E.P (bodyPostM (W none) n E.P fn (Res φ w v h')) ((flatL c).drop (i + 1)) a2 w1 := fun x2 fr2 h2 hx e2 ee => by
    rw [← List.append_nil ((flatL c).drop (i + 1))]
    refine execX_ok (D := [d]) hE [] ((flatL c).drop (i + 1)) _ _ _ _ _ e2 φ1 a2 w1 (hg.mono hx1.le) (hbd.mono hx1.le) hf2 rfl hr1 fun φ3 a3 w3 hx3 hf3 hd3 hr3 => ?_
    split at ee
    · rename_i l hl
      cases ee
      obtain ⟨u, hu1, hu2⟩ := results_ok hE hf3 hr3 fn hl
      have key : LeavesInM (W none) n E.P fn a3.tmps (Res φ w (aRets l) h') a3.defers .returning w3 := by
        rw [hd3]
        refine ⟨by simp, .inr ⟨(fun h => by cases h), .func g, _, g, caps.map a1.eval, rfl, (by simp [d, go_sem, callFunc, hgf, hgb, hgn']), (fun g hg => trivial), (hidle.2 _ (by simp) (n - 1) w3).mono ?_⟩⟩
        rintro e u' w4 ⟨rfl, rfl, rfl⟩
        exact ⟨u, hu1, φ3, u, rfl, hx1.trans hx3, hu2, hr3⟩
      rcases hx with rfl | rfl
      · exact key
      · exact key
    · cases ee
  split at hs
  · cases hs
  · rename_i x2 fr2 h2 hne e2
    refine fin x2 fr2 h2 ?_ e2 hs
    cases x2 with
    | n => exact .inl rfl
    | r => exact .inr rfl
    | e id => exact absurd rfl (hne id)
  · cases hs

end
end Go.Ev
