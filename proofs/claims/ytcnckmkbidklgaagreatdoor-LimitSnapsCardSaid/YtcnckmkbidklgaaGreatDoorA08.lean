/- The abstract machine, part X: states by hand: blocks matched; a run from a state to a state. -/
import Derived.Test.YtcnckmkbidklgaaGreatDoorA07
namespace Go.Ev

def mEs (tb : Tab) (h : H) : List (V × V × Nat) → List (V × V × Nat) → Bd → Option Bd
  | [], [], σ => some σ
  | (k, v, n) :: xs, (k', v', n') :: ys, σ =>
    cond (Nat.beq n n')
      (match mV tb h k k' σ with
       | some σ1 =>
         match mV tb h v v' σ1 with
         | some σ2 => mEs tb h xs ys σ2
         | none => none
       | none => none) none
  | _, _, _ => none
theorem mEs_ok (tb : Tab) (h : H) : ∀ (p a : List (V × V × Nat)) (σ σ' : Bd), mEs tb h p a σ = some σ' → MOK tb h σ σ' fun φ φ2 => ∀ v, ERs φ a v → ERs φ2 p v
  | [], a, σ, σ', e => by
    cases a with
    | nil =>
      simp only [mEs, Option.some.injEq] at e; subst e
      exact MOK.id fun _ _ _ _ _ v hv => by simpa [ERs] using hv
    | cons _ _ => simp only [mEs] at e; cases e
  | (k, v, n) :: xs, a, σ, σ', e => by
    cases a with
    | nil => simp only [mEs] at e; cases e
    | cons y ys =>
      obtain ⟨k', v', n'⟩ := y
      simp only [mEs] at e
      obtain ⟨e1, e2⟩ := cond_some e
      have e1 := Nat.eq_of_beq_eq_true e1
      subst e1
      split at e2
      · rename_i σ1 h1
        split at e2
        · rename_i σ2 h2
          have m1 := mV_ok tb h k k' σ σ1 h1
          have m2 := mV_ok tb h v v' σ1 σ2 h2
          have m3 := mEs_ok tb h xs ys σ2 σ' e2
          refine ⟨(m1.1.trans m2.1).trans m3.1, fun i => m3.2.1 (m2.2.1 (m1.2.1 i)), fun φ φ2 w hr ha hrel l hl => ?_⟩
          simp only [ERs] at hl ⊢
          obtain ⟨en, es, rfl, g1, g2, g3, g4⟩ := hl
          exact ⟨en, es, rfl, m1.2.2 φ φ2 w hr ha (hrel.sub (m2.1.trans m3.1)) _ g1, m2.2.2 φ φ2 w hr ha (hrel.sub m3.1) _ g2, g3, m3.2.2 φ φ2 w hr ha hrel _ g4⟩
        · cases e2
      · cases e2

def mUs (tb : Tab) (h : H) : List (V × Option V) → List (V × Option V) → Bd → Option Bd
  | [], [], σ => some σ
  | (k, some v) :: xs, (k', some v') :: ys, σ =>
    match mV tb h k k' σ with
    | some σ1 =>
      match mV tb h v v' σ1 with
      | some σ2 => mUs tb h xs ys σ2
      | none => none
    | none => none
  | (k, none) :: xs, (k', none) :: ys, σ =>
    match mV tb h k k' σ with
    | some σ1 => mUs tb h xs ys σ1
    | none => none
  | _, _, _ => none
theorem mUs_ok (tb : Tab) (h : H) (d : TypeDesc) : ∀ (p a : List (V × Option V)) (σ σ' : Bd), mUs tb h p a σ = some σ' → MOK tb h σ σ' fun φ φ2 => ∀ m m', MU φ d m a m' → MU φ2 d m p m'
  | [], a, σ, σ', e => by
    cases a with
    | nil =>
      simp only [mUs, Option.some.injEq] at e; subst e
      exact MOK.id fun _ _ _ _ _ m m' hv => by simpa [MU] using hv
    | cons _ _ => simp only [mUs] at e; cases e
  | (k, some v) :: xs, a, σ, σ', e => by
    cases a with
    | nil => simp only [mUs] at e; cases e
    | cons y ys =>
      obtain ⟨k', v'⟩ := y
      cases v' with
      | none => simp only [mUs] at e; cases e
      | some v' =>
        simp only [mUs] at e
        split at e
        · rename_i σ1 h1
          split at e
          · rename_i σ2 h2
            have m1 := mV_ok tb h k k' σ σ1 h1
            have m2 := mV_ok tb h v v' σ1 σ2 h2
            have m3 := mUs_ok tb h d xs ys σ2 σ' e
            refine ⟨(m1.1.trans m2.1).trans m3.1, fun i => m3.2.1 (m2.2.1 (m1.2.1 i)), fun φ φ2 w hr ha hrel m m' hl => ?_⟩
            simp only [MU] at hl ⊢
            obtain ⟨kv, vv, g1, g2, g3, g4⟩ := hl
            exact ⟨kv, vv, m1.2.2 φ φ2 w hr ha (hrel.sub (m2.1.trans m3.1)) _ g1, m2.2.2 φ φ2 w hr ha (hrel.sub m3.1) _ g2, g3, m3.2.2 φ φ2 w hr ha hrel _ _ g4⟩
          · cases e
        · cases e
  | (k, none) :: xs, a, σ, σ', e => by
    cases a with
    | nil => simp only [mUs] at e; cases e
    | cons y ys =>
      obtain ⟨k', v'⟩ := y
      cases v' with
      | some v' => simp only [mUs] at e; cases e
      | none =>
        simp only [mUs] at e
        split at e
        · rename_i σ1 h1
          have m1 := mV_ok tb h k k' σ σ1 h1
          have m3 := mUs_ok tb h d xs ys σ1 σ' e
          refine ⟨m1.1.trans m3.1, fun i => m3.2.1 (m1.2.1 i), fun φ φ2 w hr ha hrel m m' hl => ?_⟩
          simp only [MU] at hl ⊢
          obtain ⟨kv, g1, g3, g4⟩ := hl
          exact ⟨kv, m1.2.2 φ φ2 w hr ha (hrel.sub m3.1) _ g1, g3, m3.2.2 φ φ2 w hr ha hrel _ _ g4⟩
        · cases e

def foldHere (x c : Nat) (tb : List (Nat × WV)) : Bool :=
  match lk tb x with
  | some (.fold c') => Nat.beq c' c
  | _ => false
def sameHere (x x' : Nat) (tb : List (Nat × WV)) : Bool :=
  match lk tb x with
  | some (.same z) => Nat.beq z x'
  | _ => false
theorem foldHere_ok {x c : Nat} {tb : List (Nat × WV)} (h : foldHere x c tb = true) : lk tb x = some (.fold c) := by
  unfold foldHere at h
  split at h
  · rename_i c' hc; rw [hc, Nat.eq_of_beq_eq_true h]
  · cases h
theorem sameHere_ok {x c : Nat} {tb : List (Nat × WV)} (h : sameHere x c tb = true) : lk tb x = some (.same c) := by
  unfold sameHere at h
  split at h
  · rename_i c' hc; rw [hc, Nat.eq_of_beq_eq_true h]
  · cases h

def mB (tb : Tab) (h : H) (c : Nat) : Blk → Blk → Bd → Option Bd
  | .cells l e g, .cells l' e' g', σ => cond (Nat.beq e e' && cond g true (!g')) (mVs tb h l (cond g (l'.take l.length) l') σ) none
  | .rc l e, .cells l' e' _, σ => cond (Nat.beq e e') (mVs tb h l l' σ) none
  | .rc l e, .rc l' e', σ => cond (Nat.beq e e') (mVs tb h l l' σ) none
  | .row x l e, .row x' l' e', σ =>
    cond (Nat.beq e e')
      (cond (sameHere x x' tb.w) (mVs tb h l l' σ)
        (match l with
         | [] => cond (foldHere x c tb.w) (some σ) none
         | _ => none)) none
  | .row x [] e, .cells _ e' _, σ => cond (Nat.beq e e' && foldHere x c tb.w) (some σ) none
  | .rw x e, .row _ _ e', σ => cond (Nat.beq e e' && foldHere x c tb.w) (some σ) none
  | .rw x e, .cells _ e' _, σ => cond (Nat.beq e e' && foldHere x c tb.w) (some σ) none
  | .rw x e, .rw x' e', σ => cond (Nat.beq e e' && sameHere x x' tb.w) (some σ) none
  | .mp es k, .mp es' k', σ => cond (Nat.beq k k') (mEs tb h es es' σ) none
  | .smp x d ups, .smp x' d' ups', σ =>
    cond (sameKD d d')
      (cond (sameHere x x' tb.g) (mUs tb h ups ups' σ)
        (match ups with
         | [] => cond (foldHere x c tb.g) (some σ) none
         | _ => none)) none
  | .smp x _ [], .mp [] _, σ => cond (foldHere x c tb.g) (some σ) none
  | .rm x d, .smp _ d' _, σ => cond (sameKD d d' && foldHere x c tb.g) (some σ) none
  | .rm x d, .rm x' d', σ => cond (sameKD d d' && sameHere x x' tb.g) (some σ) none
  | _, _, _ => none

def BOK (tb : Tab) (h : H) (c : Nat) (p a : Blk) (σ σ' : Bd) : Prop :=
  LeB σ σ' ∧ (InjB σ → InjB σ') ∧ (p.mut → a.mut) ∧ a.live ∧ ∀ (φ φ2 : Ren) (w : World), HR φ h w → Agree tb φ h w φ2.y → Rel φ φ2 σ' → ∀ r o N, φ c = some r → w.heap[r]? = some o → BR φ N a o → BR φ2 N p o

theorem take_row {c : Array Value} {n : Nat} (h : n ≤ c.size) : c.toList.take ((c.toList.take n).length + 0) = c.toList.take n ++ [] := by
  have e : (c.toList.take n).length = n := by simp; omega
  rw [e, Nat.add_zero, List.append_nil]

theorem mB_ok (tb : Tab) (h : H) (c : Nat) (p a : Blk) (σ σ' : Bd) (hg : h.get c = a) (e : mB tb h c p a σ = some σ') : BOK tb h c p a σ σ' := by
  have cellsLike : ∀ {l l' : List V} {σ σ' : Bd}, mVs tb h l l' σ = some σ' → ∀ (φ φ2 : Ren) (w : World), HR φ h w → Agree tb φ h w φ2.y → Rel φ φ2 σ' → ∀ (cs : Array Value), VRs φ l' (cs.toList.take l'.length) → l'.length ≤ cs.size →
      VRs φ2 l (cs.toList.take l.length) ∧ l.length = l'.length := fun {l l' σ σ'} hm φ φ2 w hr ha hrel cs hv hle => by
    have m := (mVs_ok tb h l l' σ σ' hm).2.2 φ φ2 w hr ha hrel _ hv
    have hl := m.length
    have : (cs.toList.take l'.length).length = l'.length := by simp; omega
    rw [this] at hl
    exact ⟨by rw [← hl]; exact m, hl.symm⟩
  unfold mB at e
  split at e
  · rename_i l ety g l' e' g'
    obtain ⟨e1, e2⟩ := cond_some e
    simp only [Bool.and_eq_true] at e1
    have c1 := Nat.eq_of_beq_eq_true e1.1
    subst c1
    have m := mVs_ok tb h l _ σ σ' e2
    refine ⟨m.1, m.2.1, fun _ => trivial, trivial, fun φ φ2 w hr ha hrel r o N hc ho hb => ?_⟩
    obtain ⟨cs, rfl, h2, h3, h4, h5⟩ := hb
    cases g with
    | false =>
      have e2' : mVs tb h l l' σ = some σ' := e2
      obtain ⟨g1, g2⟩ := cellsLike e2' φ φ2 w hr ha hrel cs h2 h3
      refine ⟨cs, rfl, g1, by omega, fun hgf => ?_, h5⟩
      rw [g2]
      refine h4 ?_
      simpa using e1.2
    | true =>
      have e2' : mVs tb h l (l'.take l.length) σ = some σ' := e2
      have h2' : VRs φ (l'.take l.length) (cs.toList.take (l'.take l.length).length) := by
        have := VRs.take l.length h2
        rwa [List.take_take, show min l.length l'.length = (l'.take l.length).length by simp] at this
      obtain ⟨g1, g2⟩ := cellsLike e2' φ φ2 w hr ha hrel cs h2' (by simp; omega)
      have : (l'.take l.length).length ≤ l'.length := by rw [List.length_take]; omega
      exact ⟨cs, rfl, g1, by omega, fun hgf => (by cases hgf), h5⟩
  · rename_i l ety l' e' g'
    obtain ⟨e1, e2⟩ := cond_some e
    have c1 := Nat.eq_of_beq_eq_true e1
    subst c1
    have m := mVs_ok tb h l l' σ σ' e2
    refine ⟨m.1, m.2.1, fun _ => trivial, trivial, fun φ φ2 w hr ha hrel r o N hc ho hb => ?_⟩
    obtain ⟨cs, rfl, h2, h3, h4, h5⟩ := hb
    obtain ⟨g1, g2⟩ := cellsLike e2 φ φ2 w hr ha hrel cs h2 h3
    exact ⟨cs, rfl, g1, by omega, h5⟩
  · rename_i l ety l' e'
    obtain ⟨e1, e2⟩ := cond_some e
    have c1 := Nat.eq_of_beq_eq_true e1
    subst c1
    have m := mVs_ok tb h l l' σ σ' e2
    refine ⟨m.1, m.2.1, fun hm => hm, trivial, fun φ φ2 w hr ha hrel r o N hc ho hb => ?_⟩
    obtain ⟨cs, rfl, h2, h3, h5⟩ := hb
    obtain ⟨g1, g2⟩ := cellsLike e2 φ φ2 w hr ha hrel cs h2 h3
    exact ⟨cs, rfl, g1, by omega, h5⟩
  · rename_i x l ety x' l' e'
    obtain ⟨e1, e2⟩ := cond_some e
    have c1 := Nat.eq_of_beq_eq_true e1
    subst c1
    cases hs : sameHere x x' tb.w with
    | true =>
      rw [hs] at e2
      simp only [cond] at e2
      have m := mVs_ok tb h l l' σ σ' e2
      refine ⟨m.1, m.2.1, fun _ => trivial, trivial, fun φ φ2 w hr ha hrel r o N hc ho hb => ?_⟩
      obtain ⟨cs, vs, rfl, h2, h3, h4, h5⟩ := hb
      have hw : φ2.w x = φ.w x' := ha.ws _ _ (sameHere_ok hs)
      have g := m.2.2 φ φ2 w hr ha hrel _ h2
      have hl : l.length = l'.length := by rw [← g.length, ← h2.length]
      exact ⟨cs, vs, rfl, g, by rw [hw, hl]; exact h3, by rw [hw, hl]; exact h4, h5⟩
    | false =>
      rw [hs] at e2
      simp only [cond] at e2
      split at e2
      · obtain ⟨e3, e4⟩ := cond_some e2
        cases e4
        refine ⟨LeB.refl _, fun i => i, fun _ => trivial, trivial, fun φ φ2 w hr ha hrel r o N hc ho hb => ?_⟩
        obtain ⟨cs, vs, rfl, h2, h3, h4, h5⟩ := hb
        have hw : φ2.w x = cs.toList.take ((φ.w x').length + l'.length) := (ha.wf _ _ (foldHere_ok e3) r cs _ hc ho).1 _ _ _ hg
        refine ⟨cs, [], rfl, VRs.nil, ?_, ?_, h5⟩
        · rw [hw]; exact take_row h4
        · rw [hw]; simp; omega
      · cases e2
  · rename_i x ety l' e' g'
    obtain ⟨e1, e2⟩ := cond_some e
    simp only [Bool.and_eq_true] at e1
    have c1 := Nat.eq_of_beq_eq_true e1.1
    subst c1
    cases e2
    refine ⟨LeB.refl _, fun i => i, fun _ => trivial, trivial, fun φ φ2 w hr ha hrel r o N hc ho hb => ?_⟩
    obtain ⟨cs, rfl, h2, h3, h4, h5⟩ := hb
    have hw : φ2.w x = cs.toList.take l'.length := (ha.wf _ _ (foldHere_ok e1.2) r cs _ hc ho).2 _ _ _ hg
    refine ⟨cs, [], rfl, VRs.nil, ?_, ?_, h5⟩
    · rw [hw]; exact take_row h3
    · rw [hw]; simp; omega
  · rename_i x ety x' l' e'
    obtain ⟨e1, e2⟩ := cond_some e
    simp only [Bool.and_eq_true] at e1
    have c1 := Nat.eq_of_beq_eq_true e1.1
    subst c1
    cases e2
    refine ⟨LeB.refl _, fun i => i, fun _ => trivial, trivial, fun φ φ2 w hr ha hrel r o N hc ho hb => ?_⟩
    obtain ⟨cs, vs, rfl, h2, h3, h4, h5⟩ := hb
    have hw : φ2.w x = cs.toList.take ((φ.w x').length + l'.length) := (ha.wf _ _ (foldHere_ok e1.2) r cs _ hc ho).1 _ _ _ hg
    refine ⟨cs, rfl, ?_, ?_, h5⟩
    · rw [hw]; have := take_row h4; rwa [Nat.add_zero, List.append_nil] at this
    · rw [hw]; simp; omega
  · rename_i x ety l' e' g'
    obtain ⟨e1, e2⟩ := cond_some e
    simp only [Bool.and_eq_true] at e1
    have c1 := Nat.eq_of_beq_eq_true e1.1
    subst c1
    cases e2
    refine ⟨LeB.refl _, fun i => i, fun _ => trivial, trivial, fun φ φ2 w hr ha hrel r o N hc ho hb => ?_⟩
    obtain ⟨cs, rfl, h2, h3, h4, h5⟩ := hb
    have hw : φ2.w x = cs.toList.take l'.length := (ha.wf _ _ (foldHere_ok e1.2) r cs _ hc ho).2 _ _ _ hg
    refine ⟨cs, rfl, ?_, ?_, h5⟩
    · rw [hw]; have := take_row h3; rwa [Nat.add_zero, List.append_nil] at this
    · rw [hw]; simp; omega
  · rename_i x ety x' e'
    obtain ⟨e1, e2⟩ := cond_some e
    simp only [Bool.and_eq_true] at e1
    have c1 := Nat.eq_of_beq_eq_true e1.1
    subst c1
    cases e2
    refine ⟨LeB.refl _, fun i => i, fun hm => hm, trivial, fun φ φ2 w hr ha hrel r o N hc ho hb => ?_⟩
    obtain ⟨cs, rfl, h2, h3, h5⟩ := hb
    have hw : φ2.w x = φ.w x' := ha.ws _ _ (sameHere_ok e1.2)
    exact ⟨cs, rfl, by rw [hw]; exact h2, by rw [hw]; exact h3, h5⟩
  · rename_i es k es' k'
    obtain ⟨e1, e2⟩ := cond_some e
    have c1 := Nat.eq_of_beq_eq_true e1
    subst c1
    have m := mEs_ok tb h es es' σ σ' e2
    refine ⟨m.1, m.2.1, fun _ => trivial, trivial, fun φ φ2 w hr ha hrel r o N hc ho hb => ?_⟩
    obtain ⟨el, rfl, h2⟩ := hb
    exact ⟨el, rfl, m.2.2 φ φ2 w hr ha hrel _ h2⟩
  · rename_i x d ups x' d' ups'
    obtain ⟨e1, e2⟩ := cond_some e
    have c1 := sameKD_ok e1
    subst c1
    cases hs : sameHere x x' tb.g with
    | true =>
      rw [hs] at e2
      simp only [cond] at e2
      have m := mUs_ok tb h d ups ups' σ σ' e2
      refine ⟨m.1, m.2.1, fun _ => trivial, trivial, fun φ φ2 w hr ha hrel r o N hc ho hb => ?_⟩
      obtain ⟨es, n, rfl, h2, h3⟩ := hb
      have hw : φ2.g x = φ.g x' := ha.gs _ _ (sameHere_ok hs)
      exact ⟨es, n, rfl, by rw [hw]; exact m.2.2 φ φ2 w hr ha hrel _ _ h2, h3⟩
    | false =>
      rw [hs] at e2
      simp only [cond] at e2
      split at e2
      · obtain ⟨e3, e4⟩ := cond_some e2
        cases e4
        refine ⟨LeB.refl _, fun i => i, fun _ => trivial, trivial, fun φ φ2 w hr ha hrel r o N hc ho hb => ?_⟩
        obtain ⟨es, n, rfl, h2, h3⟩ := hb
        have hw : φ2.g x = (es, n) := ha.gf _ _ (foldHere_ok e3) r es n hc ho
        exact ⟨es, n, rfl, by simp only [MU]; exact hw.symm, h3⟩
      · cases e2
  · rename_i x d k
    obtain ⟨e3, e4⟩ := cond_some e
    cases e4
    refine ⟨LeB.refl _, fun i => i, fun _ => trivial, trivial, fun φ φ2 w hr ha hrel r o N hc ho hb => ?_⟩
    obtain ⟨el, rfl, h2⟩ := hb
    simp only [ERs] at h2
    have hw : φ2.g x = (el, k) := ha.gf _ _ (foldHere_ok e3) r el k hc ho
    exact ⟨el, k, rfl, by simp only [MU]; exact hw.symm, by rw [h2]; intro e he; cases he⟩
  · rename_i x d x' d' u
    obtain ⟨e1, e2⟩ := cond_some e
    simp only [Bool.and_eq_true] at e1
    have c1 := sameKD_ok e1.1
    subst c1
    cases e2
    refine ⟨LeB.refl _, fun i => i, fun hm => hm.elim, trivial, fun φ φ2 w hr ha hrel r o N hc ho hb => ?_⟩
    obtain ⟨es, n, rfl, h2, h3⟩ := hb
    have hw : φ2.g x = (es, n) := ha.gf _ _ (foldHere_ok e1.2) r es n hc ho
    exact ⟨es, n, rfl, by simp only [MU]; exact hw.symm, h3⟩
  · rename_i x d x' d'
    obtain ⟨e1, e2⟩ := cond_some e
    simp only [Bool.and_eq_true] at e1
    have c1 := sameKD_ok e1.1
    subst c1
    cases e2
    refine ⟨LeB.refl _, fun i => i, fun hm => hm, trivial, fun φ φ2 w hr ha hrel r o N hc ho hb => ?_⟩
    obtain ⟨es, n, rfl, h2, h3⟩ := hb
    have hw : φ2.g x = φ.g x' := ha.gs _ _ (sameHere_ok e1.2)
    exact ⟨es, n, rfl, by rw [hw]; simpa only [MU] using h2, h3⟩
  · cases e

def mBs (tb : Tab) (h : H) : List (Nat × Blk) → Bd → Option Bd
  | [], σ => some σ
  | (b, p) :: l, σ =>
    match lk σ b with
    | some c =>
      match mB tb h c p (h.get c) σ with
      | some σ1 => mBs tb h l σ1
      | none => none
    | none => none
theorem mBs_ok (tb : Tab) (h : H) : ∀ (l : List (Nat × Blk)) (σ σ' : Bd), mBs tb h l σ = some σ' → LeB σ σ' ∧ (InjB σ → InjB σ') ∧ ∀ b p, (b, p) ∈ l → ∃ c, lk σ' b = some c ∧ BOK tb h c p (h.get c) σ σ'
  | [], σ, σ', e => by
    simp only [mBs, Option.some.injEq] at e; subst e
    exact ⟨LeB.refl _, fun i => i, fun b p hm => by cases hm⟩
  | (b, p) :: l, σ, σ', e => by
    simp only [mBs] at e
    split at e
    · rename_i c hc
      split at e
      · rename_i σ1 h1
        have k1 := mB_ok tb h c p _ σ σ1 rfl h1
        obtain ⟨g1, g2, g3⟩ := mBs_ok tb h l σ1 σ' e
        refine ⟨k1.1.trans g1, fun i => g2 (k1.2.1 i), fun b' p' hm => ?_⟩
        rcases List.mem_cons.1 hm with hm | hm
        · cases hm
          exact ⟨c, g1 _ _ (k1.1 _ _ hc), k1.1.trans g1, fun i => g2 (k1.2.1 i), k1.2.2.1, k1.2.2.2.1, fun φ φ2 w hr ha hrel => k1.2.2.2.2 φ φ2 w hr ha (hrel.sub g1)⟩
        · obtain ⟨c', h2, h3⟩ := g3 b' p' hm
          exact ⟨c', h2, k1.1.trans h3.1, fun i => h3.2.1 (k1.2.1 i), h3.2.2⟩
      · cases e
    · cases e

def mLs (tb : Tab) (h : H) (fr : Fr) : List (Nat × V) → Bd → Option Bd
  | [], σ => some σ
  | (k, p) :: l, σ =>
    match mV tb h p (fr.get k) σ with
    | some σ1 => mLs tb h fr l σ1
    | none => none
theorem mLs_ok (tb : Tab) (h : H) (fr : Fr) : ∀ (l : List (Nat × V)) (σ σ' : Bd), mLs tb h fr l σ = some σ' → MOK tb h σ σ' fun φ φ2 => ∀ k p, (k, p) ∈ l → ∀ v, VR φ (fr.get k) v → VR φ2 p v
  | [], σ, σ', e => by
    simp only [mLs, Option.some.injEq] at e; subst e
    exact MOK.id fun _ _ _ _ _ k p hm => by cases hm
  | (k, p) :: l, σ, σ', e => by
    simp only [mLs] at e
    split at e
    · rename_i σ1 h1
      have m1 := mV_ok tb h p _ σ σ1 h1
      have m2 := mLs_ok tb h fr l σ1 σ' e
      refine ⟨m1.1.trans m2.1, fun i => m2.2.1 (m1.2.1 i), fun φ φ2 w hr ha hrel k' p' hm => ?_⟩
      rcases List.mem_cons.1 hm with hm | hm
      · cases hm
        exact m1.2.2 φ φ2 w hr ha (hrel.sub m2.1)
      · exact m2.2.2 φ φ2 w hr ha hrel k' p' hm
    · cases e

def keysLt (n : Nat) : Bd → Bool
  | [] => true
  | (b, _) :: σ => Nat.blt b n && keysLt n σ
theorem keysLt_ok {n : Nat} : ∀ {σ : Bd}, keysLt n σ = true → ∀ b c, lk σ b = some c → b < n
  | [], _, b, c, e => by cases e
  | (k, d) :: σ, h, b, c, e => by
    simp only [keysLt, Bool.and_eq_true] at h
    rw [lk_cons] at e
    by_cases hb : b = k
    · rw [hb]; exact blt_iff.1 h.1
    · rw [if_neg hb] at e; exact keysLt_ok h.2 b c e

/-- What a frame and a heap come to, matched with a list of temporaries and one of blocks. -/
def mAll (tb : Tab) (fr : Fr) (h : H) (nt : Nat) (L : List (Nat × V)) (nb : Nat) (HB : List (Nat × Blk)) : Option Bd :=
  cond (Nat.beq fr.n nt)
    (match mLs tb h fr L [] with
     | some σ =>
       match mBs tb h HB σ with
       | some σ' => cond (keysLt nb σ') (some σ') none
       | none => none
     | none => none) none

/-! ### States -/
structure StAt (φ : Ren) (B : Nat) (fr : Fr) (h : H) (a : Act) (w : World) : Prop where
  fr : FR φ fr a.tmps
  hr : HR φ h w
  loc : ∀ b r, φ b = some r → (h.get b).mut → B ≤ r
  kf : ∀ r, (∀ b, φ b = some r → ¬ (h.get b).mut) → φ.y.k r = w.heap[r]?
  bz : B ≤ w.heap.size

/-- Below a number all is as it was. -/
structure GB (B : Nat) (w w' : World) : Prop where
  size : w.heap.size ≤ w'.heap.size
  same : ∀ r, r < B → w'.heap[r]? = w.heap[r]?
  os : w'.os = w.os
  tape : w'.tape = w.tape
  output : w'.output = w.output
theorem GB.refl (B : Nat) (w : World) : GB B w w := ⟨Nat.le_refl _, fun _ _ => rfl, rfl, rfl, rfl⟩
theorem GB.trans {B : Nat} {w w' w'' : World} (h : GB B w w') (h' : GB B w' w'') : GB B w w'' :=
  ⟨Nat.le_trans h.size h'.size, fun r hr => (h'.same r hr).trans (h.same r hr), h'.os.trans h.os, h'.tape.trans h.tape, h'.output.trans h.output⟩
theorem GB.mono {B B' : Nat} {w w' : World} (h : GB B w w') (hb : B' ≤ B) : GB B' w w' := ⟨h.size, fun r hr => h.same r (by omega), h.os, h.tape, h.output⟩
theorem GB.grown {w w' : World} (h : GB w.heap.size w w') : Grown w w' := ⟨h.size, h.same, h.os, h.tape, h.output⟩
theorem Grown.gb {w w' : World} (h : Grown w w') {B : Nat} (hb : B ≤ w.heap.size) : GB B w w' := ⟨h.size, fun r hr => h.same r (by omega), h.os, h.tape, h.output⟩

open Classical in
/-- The renaming that a match makes. -/
noncomputable def ren (φ : Ren) (σ : Bd) (y : Sym) (nb : Nat) (h2 : H) (w : World) : Ren :=
  { f := fun b => (lk σ b).bind φ.f
    n := fun b => match lk σ b with | some c => φ.n c | none => 0
    y := { y with k := fun r => if ∃ b, (lk σ b).bind φ.f = some r ∧ (h2.get b).mut then none else w.heap[r]? }
    m := nb }

theorem ren_rel (φ : Ren) (σ : Bd) (y : Sym) (nb : Nat) (h2 : H) (w : World) : Rel φ (ren φ σ y nb h2 w) σ := fun b c e => by
  constructor
  · show (lk σ b).bind φ.f = φ.f c
    rw [e]; rfl
  · show (match lk σ b with | some c => φ.n c | none => 0) = φ.n c
    rw [e]

theorem Agree.k {tb : Tab} {φ : Ren} {h : H} {w : World} {y : Sym} (ha : Agree tb φ h w y) (k : Nat → Option Obj) : Agree tb φ h w { y with k := k } := ⟨ha.s, ha.q, ha.ws, ha.wf, ha.gs, ha.gf⟩

open Classical in
/-- From what a run came to, to a state. -/
theorem conv_ok {tb : Tab} {fr : Fr} {h : H} {nt : Nat} {L : List (Nat × V)} {nb : Nat} {HB : List (Nat × Blk)} {σ : Bd} (hm : mAll tb fr h nt L nb HB = some σ) {φ : Ren} {B : Nat} {a : Act} {w : World} (hf : FR φ fr a.tmps) (hr : HR φ h w)
    (hl : ∀ b r, φ b = some r → (h.get b).mut → B ≤ r) (hB : B ≤ w.heap.size) (y : Sym) (ha : Agree tb φ h w y) :
    StAt (ren φ σ y nb (hOf nb HB) w) B (frOf nt L) (hOf nb HB) a w := by
  unfold mAll at hm
  obtain ⟨e1, e2⟩ := cond_some hm
  split at e2
  · rename_i σ1 h1
    split at e2
    · rename_i σ2 h2
      obtain ⟨e3, e4⟩ := cond_some e2
      cases e4
      have m1 := mLs_ok tb h fr L [] σ1 h1
      obtain ⟨b1, b2, b3⟩ := mBs_ok tb h HB σ1 σ h2
      have hrel := ren_rel φ σ y nb (hOf nb HB) w
      have ha' : Agree tb φ h w (ren φ σ y nb (hOf nb HB) w).y := ha.k _
      have hinj : InjB σ := b2 (m1.2.1 (fun b b' c e => by cases e))
      have hat : ∀ b r, ren φ σ y nb (hOf nb HB) w b = some r → ∃ c, lk σ b = some c ∧ φ c = some r := fun b r e => by
        have e : (lk σ b).bind φ.f = some r := e
        cases hc : lk σ b with
        | none => rw [hc] at e; cases e
        | some c => rw [hc] at e; exact ⟨c, rfl, e⟩
      have hblk : ∀ b c, lk σ b = some c → ((hOf nb HB).get b).live → BOK tb h c ((hOf nb HB).get b) (h.get c) σ1 σ := fun b c hc hlv => by
        rw [hOf_get] at hlv ⊢
        obtain ⟨c', h3, h4⟩ := b3 b _ (lkB_mem hlv)
        rw [hc] at h3; cases h3
        exact h4
      refine ⟨⟨?_, fun k => ?_⟩, ⟨rfl, fun b r e => ?_, fun b r e hlv => ?_, fun b b' r e e' hlv hlv' => ?_, fun r o hk => ?_⟩, fun b r e hmt => ?_, fun r hn => ?_, hB⟩
      · rw [hf.1]; exact Nat.eq_of_beq_eq_true e1
      · rw [frOf_get]
        have key : ∀ (M : List (Nat × V)), (∀ k p, (k, p) ∈ M → (k, p) ∈ L) → VR (ren φ σ y nb (hOf nb HB) w) (lkV M k) (a.tmps.getD k undef) := by
          intro M
          induction M with
          | nil => intro _; simp [lkV, VR]
          | cons kp M ih =>
            obtain ⟨k', p⟩ := kp
            intro hM
            simp only [lkV]
            by_cases hk : k = k'
            · rw [if_pos hk]
              subst hk
              exact m1.2.2 φ _ w hr ha' (hrel.sub b1) k p (hM k p (by simp)) _ (hf.2 k)
            · rw [if_neg hk]; exact ih fun k p hp => hM k p (List.mem_cons_of_mem _ hp)
        exact key L fun _ _ h => h
      · obtain ⟨c, hc, hcr⟩ := hat b r e
        exact ⟨keysLt_ok e3 b c hc, (hr.dom c r hcr).2⟩
      · obtain ⟨c, hc, hcr⟩ := hat b r e
        have bk := hblk b c hc hlv
        obtain ⟨o, h3, h4⟩ := hr.blk c r hcr bk.2.2.2.1
        have := bk.2.2.2.2 φ _ w hr ha' hrel r o (φ.n c) hcr h3 h4
        exact ⟨o, h3, by rw [(hrel b c hc).2]; exact this⟩
      · obtain ⟨c, hc, hcr⟩ := hat b r e
        obtain ⟨c', hc', hcr'⟩ := hat b' r e'
        have bk := hblk b c hc hlv
        have bk' := hblk b' c' hc' hlv'
        have := hr.inj c c' r hcr hcr' bk.2.2.2.1 bk'.2.2.2.1
        subst this
        exact hinj b b' c hc hc'
      · have hk : (if ∃ b, (lk σ b).bind φ.f = some r ∧ ((hOf nb HB).get b).mut then none else w.heap[r]?) = some o := hk
        split at hk
        · cases hk
        · rename_i hn
          exact ⟨hk, fun b e hmt => hn ⟨b, e, hmt⟩⟩
      · obtain ⟨c, hc, hcr⟩ := hat b r e
        exact hl c r hcr ((hblk b c hc hmt.live).2.2.1 hmt)
      · show (if ∃ b, (lk σ b).bind φ.f = some r ∧ ((hOf nb HB).get b).mut then none else w.heap[r]?) = w.heap[r]?
        rw [if_neg]
        rintro ⟨b, e, hmt⟩
        exact hn b e hmt
    · cases e2
  · cases e2

/-- From a state to one that says less, or says it otherwise. -/
theorem StAt.conv {φ : Ren} {B : Nat} {fr : Fr} {h : H} {a : Act} {w : World} (hs : StAt φ B fr h a w) {tb : Tab} {nt : Nat} {L : List (Nat × V)} {nb : Nat} {HB : List (Nat × Blk)} (hm : (mAll tb fr h nt L nb HB).isSome = true) (y : Sym) (ha : Agree tb φ h w y) :
    ∃ φ', StAt φ' B (frOf nt L) (hOf nb HB) a w ∧ φ'.s = y.s ∧ φ'.q = y.q ∧ φ'.w = y.w ∧ φ'.g = y.g := by
  cases e : mAll tb fr h nt L nb HB with
  | none => rw [e] at hm; cases hm
  | some σ => exact ⟨_, conv_ok e hs.fr hs.hr hs.loc hs.bz y ha, rfl, rfl, rfl, rfl⟩

def sameX : X → X → Bool
  | .n, .n => true
  | .e i, .e j => Nat.beq i j
  | .r, .r => true
  | _, _ => false
theorem sameX_ok {x y : X} (h : sameX x y = true) : x = y := by
  cases x <;> cases y <;> try (cases h; done)
  · rfl
  · rw [Nat.eq_of_beq_eq_true h]
  · rfl

/-- Names of a run are those of before, and none is folded. -/
def plainT (tb : Tab) : Bool :=
  tb.q.all (fun p => match p.2 with | .q _ => true | .s _ => true | .b _ => true | .i .. => true | .y .. => true | .sl none _ _ => true | _ => false) &&
  tb.w.all (fun p => match p.2 with | .same _ => true | _ => false) && tb.g.all (fun p => match p.2 with | .same _ => true | _ => false)

def runs (E : Env) (k : Nat) (c : Code) (fr : Fr) (h : H) (x : X) (tb : Tab) (nt : Nat) (L : List (Nat × V)) (nb : Nat) (HB : List (Nat × Blk)) : Bool :=
  plainT tb &&
  match exec E k none c fr [] h with
  | some (x', fr', [], h') => sameX x x' && (mAll tb fr' h' nt L nb HB).isSome
  | _ => false

/-- What is named alone, of a run. -/
structure AgreeS (tb : Tab) (o y : Sym) : Prop where
  s : ∀ x v, lk tb.s x = some v → y.s x = match v with | .y z => o.s z | .i n => n
  q : ∀ x a, lk tb.q x = some a → VR ⟨fun _ => none, fun _ => 0, o, 0⟩ a (y.q x)
  w : ∀ x z, lk tb.w x = some (.same z) → y.w x = o.w z
  g : ∀ x z, lk tb.g x = some (.same z) → y.g x = o.g z

theorem lk_mem {α : Type} : ∀ {l : List (Nat × α)} {x : Nat} {v : α}, lk l x = some v → (x, v) ∈ l
  | [], _, _, h => by cases h
  | (k, u) :: l, x, v, h => by
    rw [lk_cons] at h
    by_cases e : x = k
    · rw [if_pos e] at h; cases h; rw [e]; simp
    · rw [if_neg e] at h; exact List.mem_cons_of_mem _ (lk_mem h)

theorem AgreeS.agree {tb : Tab} {o y : Sym} (hp : plainT tb = true) (ha : AgreeS tb o y) {φ : Ren} (hy : φ.y = o) (h : H) (w : World) : Agree tb φ h w y := by
  simp only [plainT, Bool.and_eq_true, List.all_eq_true] at hp
  obtain ⟨⟨p1, p2⟩, p3⟩ := hp
  subst hy
  refine ⟨ha.s, fun x a e => ?_, ha.w, fun x c e => ?_, ha.g, fun x c e => ?_⟩
  · have h1 := ha.q x a e
    have h2 := p1 _ (lk_mem e)
    cases a <;> simp only at h2 <;> try (cases h2; done)
    · simpa only [VR] using h1
    · simpa only [VR] using h1
    · simpa only [VR, Ren.s] using h1
    · simpa only [VR, Ren.q] using h1
    · simpa only [VR] using h1
    · rename_i a n c
      cases a with
      | none => simpa only [VR] using h1
      | some _ => cases h2
  · have := p2 _ (lk_mem e); cases this
  · have := p3 _ (lk_mem e); cases this

/-- **A run from a state to a state.** -/
theorem StAt.run {E : Env} (hE : E.OK) (hng : E.ng = 0) {k : Nat} {c : Code} {fr : Fr} {h : H} {x : X} {tb : Tab} {nt : Nat} {L : List (Nat × V)} {nb : Nat} {HB : List (Nat × Blk)} (hc : runs E k c fr h x tb nt L nb HB = true)
    {φ : Ren} {B : Nat} {a : Act} {w : World} {n : Nat} (hs : StAt φ B fr h a w) (hbd : BD E φ) (hd : a.defers = []) (y : Sym) (hy : AgreeS tb φ.y y) {Q : Exit → Act → World → Prop}
    (hQ : ∀ φ' a' w', StAt φ' B (frOf nt L) (hOf nb HB) a' w' → a'.defers = [] → GB B w w' → φ'.s = y.s → φ'.q = y.q → φ'.w = y.w → φ'.g = y.g → Q x.exit a' w') : c.wpIn (W none) n E.P Q a w := by
  simp only [runs, Bool.and_eq_true] at hc
  obtain ⟨hp, hc⟩ := hc
  split at hc
  · rename_i x' fr' h' hex
    simp only [Bool.and_eq_true] at hc
    have hx := sameX_ok hc.1
    subst hx
    cases e : mAll tb fr' h' nt L nb HB with
    | none => rw [e] at hc; cases hc.2
    | some σ =>
      refine wpIn_mono ((exec_ok hE k).1 none c fr [] h x fr' [] h' hex φ a w none n (by rw [hng]; exact fun g hg => by omega) hbd rfl hs.fr (by rw [hd]; rfl) hs.hr) ?_
      rintro ex a' w' ⟨φ', hxt, rfl, hf', hd', hr'⟩
      have hyy : φ'.y = φ.y := hxt.le.yy
      have keep : ∀ r, r < B → w'.heap[r]? = w.heap[r]? ∧ ∀ b, φ' b = some r → ¬ (h'.get b).mut := fun r hr => by
        have hk : φ.y.k r = w.heap[r]? := hs.kf r fun b e hmt => by have := hs.loc b r e hmt; omega
        have hlt : r < w.heap.size := Nat.lt_of_lt_of_le hr hs.bz
        have ho : w.heap[r]? = some w.heap[r] := Array.getElem?_eq_getElem hlt
        have := hr'.kp r w.heap[r] (by rw [hyy, hk, ho])
        exact ⟨this.1.trans ho.symm, this.2⟩
      have hst := conv_ok e hf' hr' (fun b r eb hmt => by
        rcases Nat.lt_or_ge r B with h | h
        · exact absurd hmt ((keep r h).2 b eb)
        · exact h) (Nat.le_trans hs.bz hxt.size) y (hy.agree hp hyy h' w')
      exact hQ _ a' w' hst (by simpa only [DR] using hd') ⟨hxt.size, fun r hr => (keep r hr).1, hxt.os, hxt.tape, hxt.output⟩ rfl rfl rfl rfl
  · cases hc

/-! ### Loops -/
theorem loop_inv {ro : Option Nat} {n : Nat} {P : Program} {c : Code} {Q : Exit → Act → World → Prop} (N : Nat) (Inv : Nat → Act → World → Prop)
    (step : ∀ i a w, i < N → Inv i a w → c.wpIn (W ro) n P (fun e a' w' => e = .normal ∧ Inv (i + 1) a' w') a w)
    (last : ∀ a w, Inv N a w → c.wpIn (W ro) n P (fun e a' w' => e ≠ .normal ∧ Q e a' w') a w) {a : Act} {w : World} (h0 : Inv 0 a w) : (Code.loop c).wpIn (W ro) n P Q a w := by
  have key : ∀ k i a w, i + k = N → Inv i a w → Code.roundsIn (W ro) n P c Q (k + 1) a w := by
    intro k
    induction k with
    | zero =>
      intro i a w hi hinv
      rw [roundsIn_succ]
      have : i = N := by omega
      subst this
      refine wpIn_mono (last a w hinv) ?_
      rintro e a' w' ⟨hne, hq⟩
      cases e <;> first | exact absurd rfl hne | exact hq
    | succ k ih =>
      intro i a w hi hinv
      rw [roundsIn_succ]
      refine wpIn_mono (step i a w (by omega) hinv) ?_
      rintro e a' w' ⟨rfl, hq⟩
      exact ih (i + 1) a' w' (by omega) hq
  exact wpIn_loop_rounds (N + 1) (key N 0 a w (by omega) h0)

end Go.Ev

/- The abstract machine, part Y: facts in lists; how a call begins and ends. -/
namespace Go.Ev

/-! ### Facts -/
structure Facts where
  bd : List (Nat × Int × Int) := []
  bin : List (BinOp × V × V × V) := []
  mx : List (V × V × V) := []
  rz : List (Nat × Nat) := []
  rl : List (Nat × Nat × Nat) := []
  re : List (Nat × Nat × List V) := []
  qs : List Nat := []
  mg : List (Nat × V × Option V) := []
  ml : List (Nat × V) := []
  qc : List (FuncId × List V × V) := []

def sameOp (a b : BinOp) : Bool := decide (a = b)
def lkBin : List (BinOp × V × V × V) → BinOp → V → V → Option V
  | [], _, _, _ => none
  | (o, a, b, r) :: l, op, x, y => cond (sameOp o op && same a x && same b y) (some r) (lkBin l op x y)
def lkMx : List (V × V × V) → V → V → Option V
  | [], _, _ => none
  | (a, b, r) :: l, x, y => cond (same a x && same b y) (some r) (lkMx l x y)
def lkRx : List (Nat × Nat × Nat) → Nat → Nat → Option Nat
  | [], _, _ => none
  | (x', k, y') :: l, x, y => cond (Nat.beq x' x && Nat.beq y' y) (some k) (lkRx l x y)
def lkRl : List (Nat × Nat × Nat) → Nat → Nat → Option Nat
  | [], _, _ => none
  | (x', k', y) :: l, x, k => cond (Nat.beq x' x && Nat.beq k' k) (some y) (lkRl l x k)
def lkRe : List (Nat × Nat × List V) → Nat → Nat → Option (List V)
  | [], _, _ => none
  | (x', y', vs) :: l, x, y => cond (Nat.beq x' x && Nat.beq y' y) (some vs) (lkRe l x y)
def lkQs : List Nat → Nat → Bool
  | [], _ => false
  | a :: l, x => cond (Nat.beq a x) true (lkQs l x)
def lkMg : List (Nat × V × Option V) → Nat → V → Option (Option V)
  | [], _, _ => none
  | (x', k', r) :: l, x, k => cond (Nat.beq x' x && same k' k) (some r) (lkMg l x k)
def lkQc : List (FuncId × List V × V) → FuncId → List V → Option V
  | [], _, _ => none
  | (f', a', r) :: l, f, a => cond (Nat.beq f' f && same_s a' a) (some r) (lkQc l f a)

def withF (E : Env) (F : Facts) : Env :=
  { E with
    bd := lk F.bd
    bin := lkBin F.bin
    mx := lkMx F.mx
    rz := fun x => (lk F.rz x).getD 0
    rx := lkRx F.rl
    rl := lkRl F.rl
    re := lkRe F.re
    qs := lkQs F.qs
    mg := lkMg F.mg
    ml := lk F.ml
    qc := lkQc F.qc }

theorem lkBin_mem : ∀ {l : List (BinOp × V × V × V)} {op : BinOp} {x y r : V}, lkBin l op x y = some r → (op, x, y, r) ∈ l
  | [], _, _, _, _, h => by cases h
  | (o, a, b, c) :: l, op, x, y, r, h => by
    simp only [lkBin] at h
    cases hc : sameOp o op && same a x && same b y with
    | true =>
      rw [hc] at h; simp only [cond, Option.some.injEq] at h; subst h
      simp only [Bool.and_eq_true, sameOp, decide_eq_true_eq] at hc
      rw [← hc.1.1, ← same_ok _ _ hc.1.2, ← same_ok _ _ hc.2]; simp
    | false => rw [hc] at h; exact List.mem_cons_of_mem _ (lkBin_mem h)
theorem lkMx_mem : ∀ {l : List (V × V × V)} {x y r : V}, lkMx l x y = some r → (x, y, r) ∈ l
  | [], _, _, _, h => by cases h
  | (a, b, c) :: l, x, y, r, h => by
    simp only [lkMx] at h
    cases hc : same a x && same b y with
    | true =>
      rw [hc] at h; simp only [cond, Option.some.injEq] at h; subst h
      simp only [Bool.and_eq_true] at hc
      rw [← same_ok _ _ hc.1, ← same_ok _ _ hc.2]; simp
    | false => rw [hc] at h; exact List.mem_cons_of_mem _ (lkMx_mem h)
theorem lkRx_mem : ∀ {l : List (Nat × Nat × Nat)} {x y k : Nat}, lkRx l x y = some k → (x, k, y) ∈ l
  | [], _, _, _, h => by cases h
  | (a, b, c) :: l, x, y, k, h => by
    simp only [lkRx] at h
    cases hc : Nat.beq a x && Nat.beq c y with
    | true =>
      rw [hc] at h; simp only [cond, Option.some.injEq] at h; subst h
      simp only [Bool.and_eq_true] at hc
      rw [← Nat.eq_of_beq_eq_true hc.1, ← Nat.eq_of_beq_eq_true hc.2]; simp
    | false => rw [hc] at h; exact List.mem_cons_of_mem _ (lkRx_mem h)
theorem lkRl_mem : ∀ {l : List (Nat × Nat × Nat)} {x k y : Nat}, lkRl l x k = some y → (x, k, y) ∈ l
  | [], _, _, _, h => by cases h
  | (a, b, c) :: l, x, k, y, h => by
    simp only [lkRl] at h
    cases hc : Nat.beq a x && Nat.beq b k with
    | true =>
      rw [hc] at h; simp only [cond, Option.some.injEq] at h; subst h
      simp only [Bool.and_eq_true] at hc
      rw [← Nat.eq_of_beq_eq_true hc.1, ← Nat.eq_of_beq_eq_true hc.2]; simp
    | false => rw [hc] at h; exact List.mem_cons_of_mem _ (lkRl_mem h)
theorem lkRe_mem : ∀ {l : List (Nat × Nat × List V)} {x y : Nat} {vs : List V}, lkRe l x y = some vs → (x, y, vs) ∈ l
  | [], _, _, _, h => by cases h
  | (a, b, c) :: l, x, y, vs, h => by
    simp only [lkRe] at h
    cases hc : Nat.beq a x && Nat.beq b y with
    | true =>
      rw [hc] at h; simp only [cond, Option.some.injEq] at h; subst h
      simp only [Bool.and_eq_true] at hc
      rw [← Nat.eq_of_beq_eq_true hc.1, ← Nat.eq_of_beq_eq_true hc.2]; simp
    | false => rw [hc] at h; exact List.mem_cons_of_mem _ (lkRe_mem h)
theorem lkQs_mem : ∀ {l : List Nat} {x : Nat}, lkQs l x = true → x ∈ l
  | [], _, h => by cases h
  | a :: l, x, h => by
    simp only [lkQs] at h
    cases hc : Nat.beq a x with
    | true => rw [Nat.eq_of_beq_eq_true hc]; simp
    | false => rw [hc] at h; exact List.mem_cons_of_mem _ (lkQs_mem h)
theorem lkMg_mem : ∀ {l : List (Nat × V × Option V)} {x : Nat} {k : V} {r : Option V}, lkMg l x k = some r → (x, k, r) ∈ l
  | [], _, _, _, h => by cases h
  | (a, b, c) :: l, x, k, r, h => by
    simp only [lkMg] at h
    cases hc : Nat.beq a x && same b k with
    | true =>
      rw [hc] at h; simp only [cond, Option.some.injEq] at h; subst h
      simp only [Bool.and_eq_true] at hc
      rw [← Nat.eq_of_beq_eq_true hc.1, ← same_ok _ _ hc.2]; simp
    | false => rw [hc] at h; exact List.mem_cons_of_mem _ (lkMg_mem h)
theorem lkQc_mem : ∀ {l : List (FuncId × List V × V)} {f : FuncId} {a : List V} {r : V}, lkQc l f a = some r → (f, a, r) ∈ l
  | [], _, _, _, h => by cases h
  | (f', b, c) :: l, f, a, r, h => by
    simp only [lkQc] at h
    cases hc : Nat.beq f' f && same_s b a with
    | true =>
      rw [hc] at h; simp only [cond, Option.some.injEq] at h; subst h
      simp only [Bool.and_eq_true] at hc
      rw [← Nat.eq_of_beq_eq_true hc.1, ← same_s_ok _ _ hc.2]; simp
    | false => rw [hc] at h; exact List.mem_cons_of_mem _ (lkQc_mem h)

/-- A number's value, a text's. -/
def ival (o : Sym) : V → Option (IntKind × Int)
  | .i k n => some (k, n)
  | .y k x => some (k, o.s x)
  | _ => none
def sval (o : Sym) : V → Option (List UInt8)
  | .s l => some (l.map UInt8.ofNat)
  | .q x =>
    match o.q x with
    | .string s => some s.toList
    | _ => none
  | _ => none
theorem ival_ok {φ : Ren} {x : V} {v : Value} (hx : VR φ x v) {k : IntKind} {n : Int} (h : ival φ.y x = some (k, n)) : v = .int k n := by
  cases x <;> simp only [ival] at h <;> try (cases h; done)
  · simp only [VR] at hx; cases h; exact hx
  · simp only [VR] at hx; cases h; exact hx
theorem ival_VR {φ : Ren} {x : V} {k : IntKind} {n : Int} (h : ival φ.y x = some (k, n)) : VR φ x (.int k n) := by
  cases x <;> simp only [ival] at h <;> try (cases h; done)
  · simp only [VR]; cases h; rfl
  · simp only [VR]; cases h; rfl
theorem sval_ok {φ : Ren} {x : V} {v : Value} (hx : VR φ x v) {l : List UInt8} (h : sval φ.y x = some l) : ∃ s, v = .string s ∧ s.toList = l := by
  cases x <;> simp only [sval] at h <;> try (cases h; done)
  · simp only [VR] at hx
    split at h
    · rename_i s hs
      cases h
      exact ⟨s, hx.1.trans hs, rfl⟩
    · cases h
  · simp only [VR] at hx; cases h
    exact ⟨_, hx.1, bytes_toList _⟩

/-- What two operands come to. -/
inductive BinF (o : Sym) : BinOp → V → V → V → Prop
  | lss {a b : V} {k : IntKind} {x y : Int} {t : Bool} (ha : ival o a = some (k, x)) (hb : ival o b = some (k, y)) (h : decide (x < y) = t) : BinF o .lss a b (.b t)
  | leq {a b : V} {k : IntKind} {x y : Int} {t : Bool} (ha : ival o a = some (k, x)) (hb : ival o b = some (k, y)) (h : decide (x ≤ y) = t) : BinF o .leq a b (.b t)
  | gtr {a b : V} {k : IntKind} {x y : Int} {t : Bool} (ha : ival o a = some (k, x)) (hb : ival o b = some (k, y)) (h : decide (y < x) = t) : BinF o .gtr a b (.b t)
  | geq {a b : V} {k : IntKind} {x y : Int} {t : Bool} (ha : ival o a = some (k, x)) (hb : ival o b = some (k, y)) (h : decide (y ≤ x) = t) : BinF o .geq a b (.b t)
  | eql {a b : V} {k : IntKind} {x y : Int} {t : Bool} (ha : ival o a = some (k, x)) (hb : ival o b = some (k, y)) (h : decide (x = y) = t) : BinF o .eql a b (.b t)
  | neq {a b : V} {k : IntKind} {x y : Int} {t : Bool} (ha : ival o a = some (k, x)) (hb : ival o b = some (k, y)) (h : decide (x ≠ y) = t) : BinF o .neq a b (.b t)
  | add {a b r : V} {k : IntKind} {x y : Int} (ha : ival o a = some (k, x)) (hb : ival o b = some (k, y)) (hr : ival o r = some (k, x + y)) (h : inRange k (x + y) = true) : BinF o .add a b r
  | sub {a b r : V} {k : IntKind} {x y : Int} (ha : ival o a = some (k, x)) (hb : ival o b = some (k, y)) (hr : ival o r = some (k, x - y)) (h : inRange k (x - y) = true) : BinF o .sub a b r
  | sleq {a b : V} {x y : List UInt8} {t : Bool} (ha : sval o a = some x) (hb : sval o b = some y) (h : (Op.bytesLess x y || x == y) = t) : BinF o .leq a b (.b t)
  | slss {a b : V} {x y : List UInt8} {t : Bool} (ha : sval o a = some x) (hb : sval o b = some y) (h : Op.bytesLess x y = t) : BinF o .lss a b (.b t)
  | seql {a b : V} {x y : List UInt8} {t : Bool} (ha : sval o a = some x) (hb : sval o b = some y) (h : (x == y) = t) : BinF o .eql a b (.b t)
  | sneq {a b : V} {x y : List UInt8} {t : Bool} (ha : sval o a = some x) (hb : sval o b = some y) (h : (x != y) = t) : BinF o .neq a b (.b t)

theorem wrap_of {k : IntKind} {n : Int} (h : inRange k n = true) : k.wrap n = n := by
  rw [← fwrap_ok]; unfold fwrap; rw [h]; rfl

theorem BinF.ok {P : Program} {φ : Ren} {op : BinOp} {a b r : V} (hf : BinF φ.y op a b r) (t : TypeId) (ox oy : Operand) (va vb : Value) (w : World) (ha : VR φ a va) (hb : VR φ b vb) :
    ∃ v, (do eqGuard op t ox oy va vb; binOp op t va vb : Sem Value).run P w = .ok v w ∧ VR φ r v := by
  cases hf with
  | @lss _ _ k x y t' h1 h2 h => rw [ival_ok ha h1, ival_ok hb h2]; exact ⟨.bool t', by simp [eqGuard_at_int, binOp_lss, h], by simp only [VR]⟩
  | @leq _ _ k x y t' h1 h2 h => rw [ival_ok ha h1, ival_ok hb h2]; exact ⟨.bool t', by simp [eqGuard_at_int, binOp_leq, h], by simp only [VR]⟩
  | @gtr _ _ k x y t' h1 h2 h => rw [ival_ok ha h1, ival_ok hb h2]; exact ⟨.bool t', by simp [eqGuard_at_int, binOp_gtr, h], by simp only [VR]⟩
  | @geq _ _ k x y t' h1 h2 h => rw [ival_ok ha h1, ival_ok hb h2]; exact ⟨.bool t', by simp [eqGuard_at_int, binOp_geq, h], by simp only [VR]⟩
  | @eql _ _ k x y t' h1 h2 h =>
    rw [ival_ok ha h1, ival_ok hb h2]
    have e : (x == y) = t' := by rw [← h]; rfl
    exact ⟨.bool t', by simp [eqGuard_at_int, binOp_eql, e], by simp only [VR]⟩
  | @neq _ _ k x y t' h1 h2 h =>
    rw [ival_ok ha h1, ival_ok hb h2]
    have e : (x != y) = t' := by
      rw [← h]
      by_cases hxy : x = y <;> simp [hxy]
    exact ⟨.bool t', by simp [eqGuard_at_int, binOp_neq, e], by simp only [VR]⟩
  | @add _ _ _ k x y h1 h2 h3 h => rw [ival_ok ha h1, ival_ok hb h2]; exact ⟨.int k (x + y), by simp [eqGuard_at_int, binOp_add, Op.intArith, wrap_of h], ival_VR h3⟩
  | @sub _ _ _ k x y h1 h2 h3 h => rw [ival_ok ha h1, ival_ok hb h2]; exact ⟨.int k (x - y), by simp [eqGuard_at_int, binOp_sub, Op.intArith, wrap_of h], ival_VR h3⟩
  | @sleq _ _ x y t' h1 h2 h =>
    obtain ⟨s1, rfl, e1⟩ := sval_ok ha h1; obtain ⟨s2, rfl, e2⟩ := sval_ok hb h2
    subst e1; subst e2
    exact ⟨.bool t', by simp [eqGuard_at_string, binOp, Op.stringOp, ← h], by simp only [VR]⟩
  | @slss _ _ x y t' h1 h2 h =>
    obtain ⟨s1, rfl, e1⟩ := sval_ok ha h1; obtain ⟨s2, rfl, e2⟩ := sval_ok hb h2
    subst e1; subst e2
    exact ⟨.bool t', by simp [eqGuard_at_string, binOp, Op.stringOp, ← h], by simp only [VR]⟩
  | @seql _ _ x y t' h1 h2 h =>
    obtain ⟨s1, rfl, e1⟩ := sval_ok ha h1; obtain ⟨s2, rfl, e2⟩ := sval_ok hb h2
    subst e1; subst e2
    exact ⟨.bool t', by simp [eqGuard_at_string, binOp, Op.stringOp, ← h], by simp only [VR]⟩
  | @sneq _ _ x y t' h1 h2 h =>
    obtain ⟨s1, rfl, e1⟩ := sval_ok ha h1; obtain ⟨s2, rfl, e2⟩ := sval_ok hb h2
    subst e1; subst e2
    exact ⟨.bool t', by simp [eqGuard_at_string, binOp, Op.stringOp, ← h, bne], by simp only [VR]⟩

def AllL {α : Type} (p : α → Prop) : List α → Prop
  | [] => True
  | x :: xs => p x ∧ AllL p xs
theorem AllL.mem {α : Type} {p : α → Prop} : ∀ {l : List α}, AllL p l → ∀ x ∈ l, p x
  | [], _, x, hx => by cases hx
  | y :: ys, h, x, hx => by
    rcases List.mem_cons.1 hx with rfl | hx
    · exact h.1
    · exact h.2.mem x hx

structure FactsOK (P : Program) (F : Facts) (φ : Ren) : Prop where
  bd : AllL (fun e : Nat × Int × Int => e.2.1 ≤ φ.s e.1 ∧ φ.s e.1 ≤ e.2.2) F.bd
  bin : AllL (fun e : BinOp × V × V × V => BinF φ.y e.1 e.2.1 e.2.2.1 e.2.2.2) F.bin
  mx : AllL (fun e : V × V × V => ∃ k x y, ival φ.y e.1 = some (k, x) ∧ ival φ.y e.2.1 = some (k, y) ∧ ival φ.y e.2.2 = some (k, if y > x then y else x)) F.mx
  rl : AllL (fun e : Nat × Nat × Nat => ∃ n, 0 < (lk F.rz e.1).getD 0 ∧ n * (lk F.rz e.1).getD 0 = (φ.w e.1).length ∧ φ.s e.2.2 = ((n + e.2.1 : Nat) : Int)) F.rl
  re : AllL (fun e : Nat × Nat × List V => 0 < (lk F.rz e.1).getD 0 ∧ e.2.2.length = (lk F.rz e.1).getD 0 ∧ ∃ n : Nat, φ.s e.2.1 = (n : Int) ∧ (n + 1) * (lk F.rz e.1).getD 0 ≤ (φ.w e.1).length ∧ VRs φ e.2.2 (((φ.w e.1).drop (n * (lk F.rz e.1).getD 0)).take ((lk F.rz e.1).getD 0))) F.re
  qs : AllL (fun x => ∃ s, φ.q x = .string s) F.qs
  mg : AllL (fun e : Nat × V × Option V => (∃ kv, VR φ e.2.1 kv ∧ detV e.2.1 = true ∧ ∀ d, MapKept.IsKey d kv → (∀ x ∈ (φ.g e.1).1.toList, MapKept.IsKey d x.key) →
    match e.2.2 with
    | none => Instr.findNow d kv (φ.g e.1).1.toList 0 = some none
    | some v => ∃ j u, Instr.findNow d kv (φ.g e.1).1.toList 0 = some (some (j, u)) ∧ VR φ v u)) F.mg
  ml : AllL (fun e : Nat × V => ival φ.y e.2 = some (.i64, (((φ.g e.1).1.size : Nat) : Int))) F.ml
  qc : AllL (fun e : FuncId × List V × V => ∀ φ', Le φ φ' → ∀ args', VRs φ' e.2.1 args' → Quiet P φ.y.k e.1 args' fun u => VR φ' e.2.2 u) F.qc

theorem FactsOK.bd' {E : Env} {F : Facts} {φ : Ren} (h : FactsOK E.P F φ) : BD (withF E F) φ := by
  intro φ' hle
  have hy := hle.yy
  refine ⟨fun x lo hi e => ?_, fun op a b r e t ox oy va vb w ha hb => ?_, fun a b r e va vb ha hb => ?_, fun x y j e => ?_, fun x k y e => ?_, fun x y vs e => ?_, fun x e => ?_, fun x k r e d kv hk hik hkeys => ?_, fun x v e => ?_, fun f args v e args' ha => ?_⟩
  · rw [hle.sy]; exact h.bd.mem _ (lk_mem e)
  · have := h.bin.mem _ (lkBin_mem e)
    rw [← hy] at this
    exact this.ok t ox oy va vb w ha hb
  · obtain ⟨k, x, y, h1, h2, h3⟩ := h.mx.mem _ (lkMx_mem e)
    rw [← hy] at h1 h2 h3
    exact ⟨k, x, y, ival_ok ha h1, ival_ok hb h2, ival_VR h3⟩
  · obtain ⟨n, h1, h2, h3⟩ := h.rl.mem _ (lkRx_mem e)
    exact ⟨n, h1, by rw [hle.wy]; exact h2, by rw [hle.sy]; exact h3⟩
  · obtain ⟨n, h1, h2, h3⟩ := h.rl.mem _ (lkRl_mem e)
    exact ⟨n, h1, by rw [hle.wy]; exact h2, by rw [hle.sy]; exact h3⟩
  · obtain ⟨h1, h2, n, h3, h4, h5⟩ := h.re.mem _ (lkRe_mem e)
    exact ⟨h1, h2, n, by rw [hle.sy]; exact h3, by rw [hle.wy]; exact h4, by rw [hle.wy]; exact VRs.mono hle _ _ h5⟩
  · rw [hle.qy]; exact h.qs.mem _ (lkQs_mem e)
  · obtain ⟨kv', h1, h2, h3⟩ := h.mg.mem _ (lkMg_mem e)
    have hkk : kv = kv' := detV_ok h2 hk (VR.mono hle _ _ h1)
    subst hkk
    rw [hle.gy] at hkeys ⊢
    have := h3 d hik hkeys
    cases r with
    | none => exact this
    | some v =>
      obtain ⟨j, u, g1, g2⟩ := this
      exact ⟨j, u, g1, VR.mono hle _ _ g2⟩
  · have := h.ml.mem _ (lk_mem e)
    rw [← hy] at this
    rw [hle.gy]
    exact ival_VR this
  · have := h.qc.mem _ (lkQc_mem e) φ' hle args' ha
    rw [hy]; exact this

theorem withF_ok {E : Env} (hE : E.OK) (F : Facts) : (withF E F).OK := ⟨hE.ty, hE.fn, hE.mixed, hE.hl, hE.qh, hE.eh⟩

/-! ### How a call begins and ends -/
theorem callIn {P : Program} {f : FuncId} {fn : Func} {c : Code} (hfn : P.funcs[f]? = some fn) (hc : fn.body = some c) {args : List Value} {w : World} {n : Nat} {R : Ending → World → Prop}
    (h : c.wpIn (W none) n P (fun e a' w' => (e = .ret ∨ e = .normal) ∧ a'.defers = [] ∧ ∃ v, (results fn a'.tmps).run P w' = .ok v w' ∧ R (.returned v) w') { tmps := args.toArray ++ Array.replicate (fn.ntmps - args.toArray.size) undef, defers := [] } w) :
    CallsIn (W none) n P f args.toArray w R := by
  refine callsIn_of_wp_marks hfn hc trivial ?_
  refine wpIn_mono h ?_
  rintro e a' w' ⟨he, hd, v, hv, hR⟩
  have key : LeavesInM (W none) n P fn a'.tmps R a'.defers .returning w' := by
    rw [hd]
    exact ⟨v, hv, hR⟩
  rcases he with rfl | rfl
  · exact key
  · exact key

/-- The end of a call, out of a state. -/
theorem StAt.leave {E : Env} (hE : E.OK) {fn : Func} {φ : Ren} {B : Nat} {fr : Fr} {h : H} {a : Act} {w : World} (hs : StAt φ B fr h a w) {l : List V} (e : aRes E fr h fn.results.toList = some l) : ∃ v, (results fn a.tmps).run E.P w = .ok v w ∧ VR φ (aRets l) v :=
  results_ok hE hs.fr hs.hr fn e

/-- No block of a list has a type's cells. -/
def noT (e : TypeId) : List (Nat × Blk) → Bool
  | [] => true
  | (_, .cells _ e' _) :: l => !(Nat.beq e' e) && noT e l
  | (_, .rc _ e') :: l => !(Nat.beq e' e) && noT e l
  | (_, .row _ _ e') :: l => !(Nat.beq e' e) && noT e l
  | (_, .rw _ e') :: l => !(Nat.beq e' e) && noT e l
  | _ :: l => noT e l
theorem noT_ok {e : TypeId} {φ : Ren} {N : Nat} {c : Array Value} {fz : Nat × Nat} : ∀ {HB : List (Nat × Blk)}, noT e HB = true → ∀ b p, (b, p) ∈ HB → p.live → ¬ BR φ N p (.cells c e fz)
  | [], _, b, p, hm, _, _ => by cases hm
  | (k, q) :: l, h, b, p, hm, hl, hb => by
    rcases List.mem_cons.1 hm with hm | hm
    · cases hm
      cases q with
      | gone => exact hl
      | cells l' e' g =>
        obtain ⟨c', h1, _⟩ := hb; cases h1
        simp [noT] at h
      | mp es n => obtain ⟨_, h1, _⟩ := hb; cases h1
      | row x l' e' =>
        obtain ⟨c', _, h1, _⟩ := hb; cases h1
        simp [noT] at h
      | smp x d u => obtain ⟨_, _, h1, _⟩ := hb; cases h1
      | rc l' e' =>
        obtain ⟨c', h1, _⟩ := hb; cases h1
        simp [noT] at h
      | rw x e' =>
        obtain ⟨c', h1, _⟩ := hb; cases h1
        simp [noT] at h
      | rm x d => obtain ⟨_, _, h1, _⟩ := hb; cases h1
      | iter s p => have := hb.1; cases this
      | loop st pd fr ps as bd df => obtain ⟨_, _, _, h1, _⟩ := hb; cases h1
      | dfr => cases hb
    · have h' : noT e l = true := by
        cases q <;> simp only [noT, Bool.and_eq_true] at h <;> first | exact h.2 | exact h
      exact noT_ok h' b p hm hl hb

/-- One more block, that is there already, and stays. -/
theorem HR.addO {φ : Ren} {nb : Nat} {HB : List (Nat × Blk)} {w : World} (hr : HR φ (hOf nb HB) w) {r : Nat} {ob : Obj} {N : Nat} (ho : w.heap[r]? = some ob) (hn : ∀ b q, (b, q) ∈ HB → q.live → ∀ N, ¬ BR φ N q ob) (p : Blk) (hp : ¬ p.mut) (hb : BR φ N p ob) :
    HR (up φ nb r N) (hOf (nb + 1) ((nb, p) :: HB)) w := by
  have hfr : ∀ s, φ nb ≠ some s := fun s es => by have := (hr.dom _ _ es).1; exact absurd this (Nat.lt_irrefl _)
  have hle : Le φ (up φ nb r N) := le_up hfr
  have hlt : r < w.heap.size := (Array.getElem?_eq_some_iff.1 ho).1
  have hup : ∀ b s, up φ nb r N b = some s → (b = nb ∧ s = r) ∨ (b ≠ nb ∧ φ b = some s) := fun b s es => by
    simp only [up] at es
    by_cases hb' : b = nb
    · rw [if_pos hb'] at es; cases es; exact .inl ⟨hb', rfl⟩
    · rw [if_neg hb'] at es; exact .inr ⟨hb', es⟩
  have hget : ∀ b, (hOf (nb + 1) ((nb, p) :: HB)).get b = if b = nb then p else (hOf nb HB).get b := fun b => by
    rw [hOf_get, hOf_get]; rfl
  have hno : ∀ b, φ b = some r → ¬ ((hOf nb HB).get b).live := fun b es hl => by
    obtain ⟨o, h1, h2⟩ := hr.blk b r es hl
    rw [ho] at h1; cases h1
    rw [hOf_get] at h2 hl
    exact hn b _ (lkB_mem hl) hl _ h2
  refine ⟨by show φ.m + 1 = nb + 1; rw [hr.cnt]; rfl, fun b s es => ?_, fun b s es hl => ?_, fun b b' s es es' hl hl' => ?_, fun s o hk => ?_⟩
  · rcases hup b s es with ⟨rfl, rfl⟩ | ⟨_, es⟩
    · exact ⟨Nat.lt_succ_self _, hlt⟩
    · have := hr.dom b s es
      exact ⟨Nat.lt_succ_of_lt this.1, this.2⟩
  · rw [hget] at hl ⊢
    rcases hup b s es with ⟨rfl, rfl⟩ | ⟨hne, es⟩
    · rw [if_pos rfl]
      refine ⟨_, ho, ?_⟩
      have : (up φ b s N).n b = N := by simp [up]
      rw [this]; exact hb.mono hle
    · rw [if_neg hne] at hl ⊢
      obtain ⟨o, h1, h2⟩ := hr.blk b s es hl
      exact ⟨o, h1, by rw [(hle b s es).2]; exact h2.mono hle⟩
  · rw [hget] at hl hl'
    rcases hup b s es with ⟨h1, h2⟩ | ⟨hne, es1⟩
    · rcases hup b' s es' with ⟨h3, _⟩ | ⟨hne', es2⟩
      · rw [h1, h3]
      · rw [if_neg hne'] at hl'; exact absurd hl' (hno b' (h2 ▸ es2))
    · rcases hup b' s es' with ⟨h3, h4⟩ | ⟨hne', es2⟩
      · rw [if_neg hne] at hl; exact absurd hl (hno b (h4 ▸ es1))
      · rw [if_neg hne] at hl; rw [if_neg hne'] at hl'
        exact hr.inj b b' s es1 es2 hl hl'
  · have := hr.kp s o hk
    refine ⟨this.1, fun b es => ?_⟩
    rw [hget]
    rcases hup b s es with ⟨h1, _⟩ | ⟨hne, es⟩
    · rw [if_pos h1]; exact hp
    · rw [if_neg hne]; exact this.2 b es

theorem HR.add {φ : Ren} {nb : Nat} {HB : List (Nat × Blk)} {w : World} (hr : HR φ (hOf nb HB) w) {r : Nat} {c : Array Value} {e : TypeId} (ho : w.heap[r]? = some (.cells c e (0, 0))) (hn : noT e HB = true) (p : Blk) (hp : ¬ p.mut) (hb : BR φ c.size p (.cells c e (0, 0))) :
    HR (up φ nb r c.size) (hOf (nb + 1) ((nb, p) :: HB)) w := hr.addO ho (fun b q hm hl N => noT_ok hn b q hm hl) p hp hb

/-- Nothing is named of memory. -/
def φ0 (y : Sym) (w : World) : Ren := { f := fun _ => none, n := fun _ => 0, y := { y with k := fun r => w.heap[r]? }, m := 0 }
theorem φ0_hr (y : Sym) (w : World) : HR (φ0 y w) (hOf 0 []) w :=
  ⟨rfl, (fun _ _ e => (by cases e)), (fun _ _ e => (by cases e)), (fun _ _ _ e => (by cases e)), fun r o hk => ⟨hk, (fun _ e => (by cases e))⟩⟩

def allRO : List (Nat × Blk) → Bool
  | [] => true
  | (_, .gone) :: l => allRO l
  | (_, .rc ..) :: l => allRO l
  | (_, .rw ..) :: l => allRO l
  | (_, .rm ..) :: l => allRO l
  | _ => false
theorem allRO_ok : ∀ {HB : List (Nat × Blk)}, allRO HB = true → ∀ b, ¬ (lkB HB b).mut
  | [], _, b => fun h => h
  | (k, q) :: l, h, b => by
    simp only [lkB]
    by_cases hb : b = k
    · rw [if_pos hb]
      cases q <;> first | exact fun h => h | (simp [allRO] at h; done)
    · rw [if_neg hb]
      refine allRO_ok ?_ b
      cases q <;> first | exact h | (simp [allRO] at h; done)

/-- A state where a call begins. -/
theorem StAt.enter {φ : Ren} {nb : Nat} {HB : List (Nat × Blk)} {w : World} (hr : HR φ (hOf nb HB) w) (hro : allRO HB = true) (hk : φ.y.k = fun r => w.heap[r]?) {vs : List V} {args : List Value} (ha : VRs φ vs args) {nt : Nat} (hn : vs.length ≤ nt) :
    StAt φ w.heap.size ⟨nt, load vs 0 .leaf⟩ (hOf nb HB) { tmps := args.toArray ++ Array.replicate (nt - args.toArray.size) undef, defers := [] } w :=
  ⟨load_FR ha nt hn, hr, fun b r _ hm => absurd hm (by rw [hOf_get]; exact allRO_ok hro b), fun r _ => by rw [hk], Nat.le_refl _⟩

end Go.Ev

/- The abstract machine, part Z: runs and loops over states, for use by hand. -/
namespace Go.Ev

/-! ### Statements one behind the other -/
def flatL : Code → List Code
  | .seq a b => flatL a ++ flatL b
  | c => [c]
def wpCs (ro : Option Nat) (n : Nat) (P : Program) (Q : Exit → Act → World → Prop) : List Code → Act → World → Prop
  | [], a, w => Q .normal a w
  | c :: cs, a, w => c.wpIn (W ro) n P (Exit.then (wpCs ro n P Q cs) Q) a w
theorem wpCs_mono {ro : Option Nat} {n : Nat} {P : Program} {Q Q' : Exit → Act → World → Prop} (hq : ∀ e a w, Q e a w → Q' e a w) : ∀ (l : List Code) (a : Act) (w : World), wpCs ro n P Q l a w → wpCs ro n P Q' l a w
  | [], a, w, h => hq _ _ _ h
  | c :: cs, a, w, h => wpIn_mono h fun e a' w' he => by
    cases e with
    | normal => exact wpCs_mono hq cs a' w' he
    | _ => exact hq _ _ _ he
theorem wpCs_append {ro : Option Nat} {n : Nat} {P : Program} {Q : Exit → Act → World → Prop} : ∀ (l l' : List Code) (a : Act) (w : World), wpCs ro n P Q (l ++ l') a w → wpCs ro n P (Exit.then (wpCs ro n P Q l') Q) l a w
  | [], l', a, w, h => h
  | c :: cs, l', a, w, h => by
    refine wpIn_mono h fun e a' w' he => ?_
    cases e with
    | normal => exact wpCs_append cs l' a' w' he
    | _ => exact he
theorem wpIn_flat {ro : Option Nat} {n : Nat} {P : Program} : ∀ (c : Code) {Q : Exit → Act → World → Prop} {a : Act} {w : World}, wpCs ro n P Q (flatL c) a w → c.wpIn (W ro) n P Q a w := by
  intro c
  have one : ∀ (c : Code) {Q : Exit → Act → World → Prop} {a : Act} {w : World}, wpCs ro n P Q [c] a w → c.wpIn (W ro) n P Q a w := fun c Q a w h => by
    refine wpIn_mono h fun e a' w' he => ?_
    cases e with
    | normal => exact he
    | _ => exact he
  induction c with
  | seq x y ihx ihy =>
    intro Q a w h
    refine wpIn_seq (ihx (wpCs_mono (fun e a w he => ?_) _ _ _ (wpCs_append _ _ _ _ h)))
    cases e with
    | normal => exact ihy he
    | _ => exact he
  | _ => intro Q a w h; exact one _ h

def execX (E : Env) (k : Nat) : List Code → Fr → H → Option (X × Fr × H)
  | [], fr, h => some (.n, fr, h)
  | c :: cs, fr, h =>
    match exec E k none c fr [] h with
    | some (.n, fr', [], h') => execX E k cs fr' h'
    | some (x, fr', [], h') => some (x, fr', h')
    | _ => none
theorem execX_ok {E : Env} (hE : E.OK) {k : Nat} {n : Nat} {Q : Exit → Act → World → Prop} (rest : List Code) : ∀ (cs : List Code) (fr : Fr) (h : H) (x : X) (fr' : Fr) (h' : H), execX E k cs fr h = some (x, fr', h') →
    ∀ (φ : Ren) (a : Act) (w : World), GL E.ng φ → BD E φ → FR φ fr a.tmps → a.defers = [] → HR φ h w →
    (∀ φ' a' w', Ext φ w φ' w' → FR φ' fr' a'.tmps → a'.defers = [] → HR φ' h' w' → Exit.then (wpCs none n E.P Q rest) Q x.exit a' w') → wpCs none n E.P Q (cs ++ rest) a w
  | [], fr, h, x, fr', h', e, φ, a, w, hg, hbd, hf, hd, hr, hQ => by
    simp only [execX, Option.some.injEq, Prod.mk.injEq] at e
    obtain ⟨rfl, rfl, rfl⟩ := e
    exact hQ φ a w (Ext.refl φ w) hf hd hr
  | c :: cs, fr, h, x, fr', h', e, φ, a, w, hg, hbd, hf, hd, hr, hQ => by
    simp only [execX] at e
    split at e
    · rename_i fr1 h1 hex
      refine wpIn_mono ((exec_ok hE k).1 none c fr [] h .n fr1 [] h1 hex φ a w none n hg hbd rfl hf (by rw [hd]; rfl) hr) ?_
      rintro ex a1 w1 ⟨φ1, hx1, rfl, hf1, hd1, hr1⟩
      exact execX_ok hE rest cs fr1 h1 x fr' h' e φ1 a1 w1 (hg.mono hx1.le) (hbd.mono hx1.le) hf1 (by simpa only [DR] using hd1) hr1 fun φ' a' w' hx hf' hd' hr' => hQ φ' a' w' (hx1.trans hx) hf' hd' hr'
    · rename_i x1 fr1 h1 hne hex
      simp only [Option.some.injEq, Prod.mk.injEq] at e
      obtain ⟨rfl, rfl, rfl⟩ := e
      refine wpIn_mono ((exec_ok hE k).1 none c fr [] h x1 fr1 [] h1 hex φ a w none n hg hbd rfl hf (by rw [hd]; rfl) hr) ?_
      rintro ex a1 w1 ⟨φ1, hx1, rfl, hf1, hd1, hr1⟩
      have := hQ φ1 a1 w1 hx1 hf1 (by simpa only [DR] using hd1) hr1
      cases x1 with
      | n => exact (hne rfl).elim
      | e id => exact this
      | r => exact this
    · cases e

def runsL (E : Env) (k : Nat) (cs : List Code) (fr : Fr) (h : H) (x : X) (tb : Tab) (nt : Nat) (L : List (Nat × V)) (nb : Nat) (HB : List (Nat × Blk)) : Bool :=
  plainT tb &&
  match execX E k cs fr h with
  | some (x', fr', h') => sameX x x' && (mAll tb fr' h' nt L nb HB).isSome
  | none => false

/-- What holds of memory below a number behind a run. -/
theorem StAt.after {φ : Ren} {B : Nat} {fr : Fr} {h : H} {a : Act} {w : World} (hs : StAt φ B fr h a w) {φ' : Ren} {h' : H} {w' : World} (hxt : Ext φ w φ' w') (hr' : HR φ' h' w') :
    GB B w w' ∧ ∀ b r, φ' b = some r → (h'.get b).mut → B ≤ r := by
  have hyy : φ'.y = φ.y := hxt.le.yy
  have keep : ∀ r, r < B → w'.heap[r]? = w.heap[r]? ∧ ∀ b, φ' b = some r → ¬ (h'.get b).mut := fun r hr => by
    have hk : φ.y.k r = w.heap[r]? := hs.kf r fun b e hmt => by have := hs.loc b r e hmt; omega
    have hlt : r < w.heap.size := Nat.lt_of_lt_of_le hr hs.bz
    have ho : w.heap[r]? = some w.heap[r] := Array.getElem?_eq_getElem hlt
    have := hr'.kp r w.heap[r] (by rw [hyy, hk, ho])
    exact ⟨this.1.trans ho.symm, this.2⟩
  refine ⟨⟨hxt.size, fun r hr => (keep r hr).1, hxt.os, hxt.tape, hxt.output⟩, fun b r eb hmt => ?_⟩
  rcases Nat.lt_or_ge r B with h | h
  · exact absurd hmt ((keep r h).2 b eb)
  · exact h

/-- The blocks that may be turned. -/
def muts : List (Nat × Blk) → List (Nat × Blk)
  | [] => []
  | (_, .rc ..) :: l => muts l
  | (_, .rw ..) :: l => muts l
  | (_, .rm ..) :: l => muts l
  | x :: l => x :: muts l
theorem muts_mem : ∀ {HB : List (Nat × Blk)} {b : Nat} {p : Blk}, (b, p) ∈ HB → p.mut → (b, p) ∈ muts HB
  | (k, q) :: l, b, p, h, hm => by
    rcases List.mem_cons.1 h with e | h
    · cases e
      cases q <;> first | exact hm.elim | exact List.mem_cons_self
    · have ih := muts_mem h hm
      cases q <;> first | exact ih | exact List.mem_cons_of_mem _ ih
def noMp : List (Nat × Blk) → Bool
  | [] => true
  | (_, .mp ..) :: _ => false
  | (_, .smp ..) :: _ => false
  | (_, .rm ..) :: _ => false
  | _ :: l => noMp l
theorem noMp_ok {φ : Ren} {N : Nat} {es : Array MapEntry} {n : Nat} : ∀ {HB : List (Nat × Blk)}, noMp HB = true → ∀ b p, (b, p) ∈ HB → p.live → ¬ BR φ N p (.map es n)
  | (k, q) :: l, h, b, p, hm, hl, hb => by
    rcases List.mem_cons.1 hm with e | hm
    · cases e
      cases q with
      | gone => exact hl
      | cells => obtain ⟨c, e, _⟩ := hb; cases e
      | rc => obtain ⟨c, e, _⟩ := hb; cases e
      | rw => obtain ⟨c, e, _⟩ := hb; cases e
      | row => obtain ⟨c, vs, e, _⟩ := hb; cases e
      | mp => cases h
      | smp => cases h
      | rm => cases h
      | iter => cases hb.1
      | loop => obtain ⟨_, _, _, e, _⟩ := hb; cases e
      | dfr => cases hb
    · refine noMp_ok (HB := l) ?_ b p hm hl hb
      cases q <;> first | exact h | cases h
theorem noIt_ok {φ : Ren} {N : Nat} {mb : Option Nat} {s l : Nat} {se : Array Nat} {p : Blk} (hl : p.live) : ¬ BR φ N p (.mapIter mb s se l) := fun hb => by
  cases p with
  | gone => exact hl
  | cells => obtain ⟨c, e, _⟩ := hb; cases e
  | rc => obtain ⟨c, e, _⟩ := hb; cases e
  | rw => obtain ⟨c, e, _⟩ := hb; cases e
  | row => obtain ⟨c, vs, e, _⟩ := hb; cases e
  | mp => obtain ⟨c, e, _⟩ := hb; cases e
  | smp => obtain ⟨c, d, e, _⟩ := hb; cases e
  | rm => obtain ⟨c, d, e, _⟩ := hb; cases e
  | iter => cases hb.1
  | loop => obtain ⟨_, _, _, e, _⟩ := hb; cases e
  | dfr => cases hb
/-- What is kept: blocks of types that no block of a list has that may be turned; maps, if the list has none. -/
structure KeepT (HB : List (Nat × Blk)) (w w' : World) : Prop where
  c : ∀ (r : Nat) (c : Array Value) (T : TypeId), noT T (muts HB) = true → w.heap[r]? = some (.cells c T (0, 0)) → w'.heap[r]? = some (.cells c T (0, 0))
  m : noMp (muts HB) = true → ∀ (r : Nat) (es : Array MapEntry) (n : Nat), w.heap[r]? = some (.map es n) → w'.heap[r]? = some (.map es n)
  i : ∀ (r : Nat) (mb : Option Nat) (s : Nat) (se : Array Nat) (l : Nat), w.heap[r]? = some (.mapIter mb s se l) → w'.heap[r]? = some (.mapIter mb s se l)
theorem StAt.kT {φ : Ren} {B nb : Nat} {HB : List (Nat × Blk)} {fr : Fr} {a : Act} {w : World} (hs : StAt φ B fr (hOf nb HB) a w) {r : Nat} {c : Array Value} {T : TypeId} (hn : noT T (muts HB) = true) (ho : w.heap[r]? = some (.cells c T (0, 0))) : φ.y.k r = some (.cells c T (0, 0)) := by
  rw [hs.kf r fun b e hmt => ?_, ho]
  obtain ⟨o, h1, h2⟩ := hs.hr.blk b r e hmt.live
  rw [ho] at h1; cases h1
  rw [hOf_get] at h2 hmt
  exact noT_ok hn b _ (muts_mem (lkB_mem hmt.live) hmt) hmt.live h2
theorem StAt.kM {φ : Ren} {B nb : Nat} {HB : List (Nat × Blk)} {fr : Fr} {a : Act} {w : World} (hs : StAt φ B fr (hOf nb HB) a w) {r : Nat} {es : Array MapEntry} {n : Nat} (hn : noMp (muts HB) = true) (ho : w.heap[r]? = some (.map es n)) : φ.y.k r = some (.map es n) := by
  rw [hs.kf r fun b e hmt => ?_, ho]
  obtain ⟨o, h1, h2⟩ := hs.hr.blk b r e hmt.live
  rw [ho] at h1; cases h1
  rw [hOf_get] at h2 hmt
  exact noMp_ok hn b _ (muts_mem (lkB_mem hmt.live) hmt) hmt.live h2
theorem StAt.kI {φ : Ren} {B : Nat} {h : H} {fr : Fr} {a : Act} {w : World} (hs : StAt φ B fr h a w) {r : Nat} {mb : Option Nat} {s l : Nat} {se : Array Nat} (ho : w.heap[r]? = some (.mapIter mb s se l)) : φ.y.k r = some (.mapIter mb s se l) := by
  rw [hs.kf r fun b e hmt => ?_, ho]
  obtain ⟨o, h1, h2⟩ := hs.hr.blk b r e hmt.live
  rw [ho] at h1; cases h1
  exact noIt_ok hmt.live h2
theorem StAt.kB {φ : Ren} {B : Nat} {h : H} {fr : Fr} {a : Act} {w : World} (hs : StAt φ B fr h a w) {r : Nat} (hr : r < B) : φ.y.k r = w.heap[r]? :=
  hs.kf r fun b e hmt => by have := hs.loc b r e hmt; omega
theorem StAt.keepT {φ : Ren} {B nb : Nat} {HB : List (Nat × Blk)} {fr : Fr} {a : Act} {w : World} (hs : StAt φ B fr (hOf nb HB) a w) {φ' : Ren} {h' : H} {w' : World} (hxt : Ext φ w φ' w') (hr' : HR φ' h' w') : KeepT HB w w' :=
  ⟨fun r c T hn ho => (hr'.kp r _ (by rw [hxt.le.yy, hs.kT hn ho])).1, fun hn r es n ho => (hr'.kp r _ (by rw [hxt.le.yy, hs.kM hn ho])).1, fun r mb s se l ho => (hr'.kp r _ (by rw [hxt.le.yy, hs.kI ho])).1⟩

/-- **Some statements, from a state to a state.** -/
theorem StAt.runL {E : Env} (hE : E.OK) (hng : E.ng = 0) (m : Nat) {k : Nat} {cs : List Code} {fr : Fr} {nb0 : Nat} {HB0 : List (Nat × Blk)} {x : X} {tb : Tab} {nt : Nat} {L : List (Nat × V)} {nb : Nat} {HB : List (Nat × Blk)} (hc : runsL E k (cs.take m) fr (hOf nb0 HB0) x tb nt L nb HB = true)
    {φ : Ren} {B : Nat} {a : Act} {w : World} {n : Nat} (hs : StAt φ B fr (hOf nb0 HB0) a w) (hbd : BD E φ) (hd : a.defers = []) (y : Sym) (hy : AgreeS tb φ.y y) {Q : Exit → Act → World → Prop}
    (hQ : ∀ φ' a' w', StAt φ' B (frOf nt L) (hOf nb HB) a' w' → a'.defers = [] → GB B w w' → KeepT HB0 w w' → φ'.s = y.s → φ'.q = y.q → φ'.w = y.w → φ'.g = y.g → Exit.then (wpCs none n E.P Q (cs.drop m)) Q x.exit a' w') : wpCs none n E.P Q cs a w := by
  simp only [runsL, Bool.and_eq_true] at hc
  obtain ⟨hp, hc⟩ := hc
  split at hc
  · rename_i x' fr' h' hex
    simp only [Bool.and_eq_true] at hc
    have hx := sameX_ok hc.1
    subst hx
    cases e : mAll tb fr' h' nt L nb HB with
    | none => rw [e] at hc; cases hc.2
    | some σ =>
      have := execX_ok hE (n := n) (Q := Q) (cs.drop m) (cs.take m) fr (hOf nb0 HB0) x fr' h' hex φ a w (by rw [hng]; exact fun g hg => by omega) hbd hs.fr hd hs.hr fun φ' a' w' hxt hf' hd' hr' => by
        obtain ⟨hgb, hloc⟩ := hs.after hxt hr'
        have hst := conv_ok e hf' hr' hloc (Nat.le_trans hs.bz hxt.size) y (hy.agree hp hxt.le.yy h' w')
        exact hQ _ a' w' hst hd' hgb (hs.keepT hxt hr') rfl rfl rfl rfl
      rwa [List.take_append_drop] at this
  · cases hc

/-- A loop that ends by leaving its block, and what comes behind it. -/
theorem for_loop {ro : Option Nat} {n : Nat} {P : Program} {id : Nat} {b : Code} {rest : List Code} {Q : Exit → Act → World → Prop} (N : Nat) (Inv : Nat → Act → World → Prop)
    (step : ∀ i a w, i < N → Inv i a w → wpCs ro n P (fun e a' w' => e = .normal ∧ Inv (i + 1) a' w') (flatL b) a w)
    (last : ∀ a w, Inv N a w → wpCs ro n P (fun e a' w' => e = .exit id ∧ wpCs ro n P Q rest a' w') (flatL b) a w) {a : Act} {w : World} (h0 : Inv 0 a w) : wpCs ro n P Q (.block id (.loop b) :: rest) a w := by
  refine wpIn_block (loop_inv N Inv (fun i a w hi hv => wpIn_flat b (step i a w hi hv)) (fun a w hi => wpIn_mono (wpIn_flat b (last a w hi)) ?_) h0)
  rintro e a' w' ⟨rfl, hq⟩
  refine ⟨by simp, ?_⟩
  simp only [Exit.inBlock, if_true]
  exact hq

/-! ### Names, in lists -/
def AgQ (o : Sym) : V → Value → Prop
  | .q z, v => v = o.q z ∧ v.oneCell' = true
  | .s l, v => v = .string (bytes l) ∧ ∀ x ∈ l, x < 256
  | .b x, v => v = .bool x
  | .i k n, v => v = .int k n
  | .y k z, v => v = .int k (o.s z)
  | .sl none n _, v => n = 0 ∧ v = .slice none 0 0
  | _, _ => False
structure Ag (tb : Tab) (o y : Sym) : Prop where
  s : AllL (fun e : Nat × SV => y.s e.1 = match e.2 with | .y z => o.s z | .i n => n) tb.s
  q : AllL (fun e : Nat × V => AgQ o e.2 (y.q e.1)) tb.q
  w : AllL (fun e : Nat × WV => match e.2 with | .same z => y.w e.1 = o.w z | .fold _ => True) tb.w
  g : AllL (fun e : Nat × WV => match e.2 with | .same z => y.g e.1 = o.g z | .fold _ => True) tb.g
theorem Ag.agreeS {tb : Tab} {o o' y : Sym} (h : Ag tb o y) (hs : o'.s = o.s) (hq : o'.q = o.q) (hw : o'.w = o.w) (hg : o'.g = o.g) : AgreeS tb o' y := by
  refine ⟨fun x v e => ?_, fun x a e => ?_, fun x z e => ?_, fun x z e => ?_⟩
  · rw [hs]; exact h.s.mem _ (lk_mem e)
  · have := h.q.mem _ (lk_mem e)
    simp only at this
    cases a with
    | q z => simp only [AgQ] at this; simp only [VR, Ren.q, hq]; exact this
    | s l => simp only [AgQ] at this; simp only [VR]; exact this
    | b x => simp only [AgQ] at this; simp only [VR]; exact this
    | i k n => simp only [AgQ] at this; simp only [VR]; exact this
    | y k z => simp only [AgQ] at this; simp only [VR, Ren.s, hs]; exact this
    | sl a n c =>
      cases a with
      | none => simp only [AgQ] at this; simp only [VR]; exact this
      | some _ => exact this.elim
    | _ => exact this.elim
  · rw [hw]; exact h.w.mem _ (lk_mem e)
  · rw [hg]; exact h.g.mem _ (lk_mem e)

def selfOK (tb : Tab) (nt : Nat) (L : List (Nat × V)) (nb : Nat) (HB : List (Nat × Blk)) : Bool := plainT tb && (mAll tb (frOf nt L) (hOf nb HB) nt L nb HB).isSome

/-- A state, with other things named that it does not speak of. -/
theorem StAt.resym {φ : Ren} {B nt nb : Nat} {L : List (Nat × V)} {HB : List (Nat × Blk)} {a : Act} {w : World} (hs : StAt φ B (frOf nt L) (hOf nb HB) a w) {tb : Tab} (hc : selfOK tb nt L nb HB = true) {y : Sym} (hy : Ag tb φ.y y) :
    ∃ φ', StAt φ' B (frOf nt L) (hOf nb HB) a w ∧ φ'.s = y.s ∧ φ'.q = y.q ∧ φ'.w = y.w ∧ φ'.g = y.g := by
  simp only [selfOK, Bool.and_eq_true] at hc
  exact hs.conv hc.2 y ((hy.agreeS rfl rfl rfl rfl).agree hc.1 rfl _ _)

/-- **Some statements, from a state to a state**: what is named is named anew ahead of them, facts are told, and behind them it is named anew. -/
theorem StAt.go {E : Env} (hE : E.OK) (hng : E.ng = 0) (F : Facts) (m : Nat) {k : Nat} {cs : List Code} {x : X} {tb0 tb : Tab} {nt nb nb' : Nat} {L L' : List (Nat × V)} {HB HB' : List (Nat × Blk)} (hc0 : selfOK tb0 nt L nb HB = true)
    (hc : runsL (withF E F) k (cs.take m) (frOf nt L) (hOf nb HB) x tb nt L' nb' HB' = true)
    {φ : Ren} {B : Nat} {a : Act} {w : World} {n : Nat} (hs : StAt φ B (frOf nt L) (hOf nb HB) a w) (hd : a.defers = []) (y1 : Sym) (h1 : Ag tb0 φ.y y1)
    (hF : ∀ φ1, StAt φ1 B (frOf nt L) (hOf nb HB) a w → φ1.s = y1.s → φ1.q = y1.q → φ1.w = y1.w → φ1.g = y1.g → FactsOK E.P F φ1) (y2 : Sym) (h2 : Ag tb y1 y2) {Q : Exit → Act → World → Prop}
    (hQ : ∀ φ' a' w', StAt φ' B (frOf nt L') (hOf nb' HB') a' w' → a'.defers = [] → GB B w w' → KeepT HB w w' → φ'.s = y2.s → φ'.q = y2.q → φ'.w = y2.w → φ'.g = y2.g → Exit.then (wpCs none n E.P Q (cs.drop m)) Q x.exit a' w') : wpCs none n E.P Q cs a w := by
  obtain ⟨φ1, hs1, e1, e2, e3, e4⟩ := hs.resym hc0 h1
  exact StAt.runL (withF_ok hE F) hng m hc hs1 (hF φ1 hs1 e1 e2 e3 e4).bd' hd y2 (h2.agreeS e1 e2 e3 e4) hQ

end Go.Ev
