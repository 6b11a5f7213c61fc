/- The abstract machine, part Mk: values and blocks without symbols, matched; names below a number stay. -/
import Derived.Test.YtolinijabfbjpaaGreatDoorA06
import Derived.Test.YtolinijabfbjpaaGreatDoorA09
import Derived.Test.YtolinijabfbjpaaGreatDoorA07
set_option linter.all false
namespace Go.Ev
noncomputable section

def bindN (n0 b c : Nat) (σ : Bd) : Option Bd :=
  cond (Nat.blt b n0) (cond (Nat.beq b c) (some σ) none) (cond (Nat.blt c n0) none (bindB b c σ))

mutual
def mC (n0 : Nat) : V → V → Bd → Option Bd
  | .top, _, σ => some σ
  | .b x, .b y, σ => cond (cond x y (!y)) (some σ) none
  | .i k n, .i k' n', σ => cond (decide (k = k') && sameI n n') (some σ) none
  | .s l, .s l', σ => cond (sameN l l') (some σ) none
  | .p none, .p none, σ => some σ
  | .p (some (b, o)), .p (some (b', o')), σ => cond (Nat.beq o o') (bindN n0 b b' σ) none
  | .sl none n _, .sl none n' _, σ => cond (Nat.beq n n') (some σ) none
  | .sl (some (b, o)) n c, .sl (some (b', o')) n' c', σ => cond (Nat.beq o o' && Nat.beq n n' && sameC c c') (bindN n0 b b' σ) none
  | .es, .es, σ => some σ
  | .m none, .m none, σ => some σ
  | .m (some b), .m (some b'), σ => bindN n0 b b' σ
  | .f fn a b, .f fn' a' b', σ =>
    cond (Nat.beq fn fn')
      (match mCs n0 a a' σ with
       | some σ1 => mCs n0 b b' σ1
       | none => none) none
  | .yl b, .yl b', σ => bindN n0 b b' σ
  | .nf, .nf, σ => some σ
  | .ifc t x, .ifc t' x', σ => cond (Nat.beq t t') (mC n0 x x' σ) none
  | .ni, .ni, σ => some σ
  | .a l, .a l', σ => mCs n0 l l' σ
  | .t l, .t l', σ => mCs n0 l l' σ
  | _, _, _ => none
def mCs (n0 : Nat) : List V → List V → Bd → Option Bd
  | [], [], σ => some σ
  | x :: xs, y :: ys, σ =>
    match mC n0 x y σ with
    | some σ1 => mCs n0 xs ys σ1
    | none => none
  | _, _, _ => none
end

/-- The names of what is matched. -/
def lkN (n0 : Nat) (σ : Bd) (b : Nat) : Option Nat := cond (Nat.blt b n0) (some b) (lk σ b)
structure GdN (n0 : Nat) (σ : Bd) : Prop where
  inj : InjB σ
  ge : ∀ b c, lk σ b = some c → n0 ≤ b ∧ n0 ≤ c
theorem GdN.nil (n0 : Nat) : GdN n0 [] := ⟨fun _ _ _ e => (by cases e), fun _ _ e => (by cases e)⟩
theorem lkN_lt {n0 : Nat} {σ : Bd} {b : Nat} (h : b < n0) : lkN n0 σ b = some b := by unfold lkN; rw [blt_iff.2 h]; rfl
theorem lkN_ge {n0 : Nat} {σ : Bd} {b : Nat} (h : n0 ≤ b) : lkN n0 σ b = lk σ b := by
  unfold lkN
  cases hb : Nat.blt b n0 with
  | false => rfl
  | true => have := blt_iff.1 hb; omega
theorem GdN.injN {n0 : Nat} {σ : Bd} (h : GdN n0 σ) {b b' c : Nat} (e : lkN n0 σ b = some c) (e' : lkN n0 σ b' = some c) : b = b' := by
  rcases Nat.lt_or_ge b n0 with hb | hb
  · rw [lkN_lt hb] at e; cases e
    rcases Nat.lt_or_ge b' n0 with hb' | hb'
    · rw [lkN_lt hb'] at e'; cases e'; rfl
    · rw [lkN_ge hb'] at e'; have := (h.ge _ _ e').2; omega
  · rw [lkN_ge hb] at e
    rcases Nat.lt_or_ge b' n0 with hb' | hb'
    · rw [lkN_lt hb'] at e'; cases e'; have := (h.ge _ _ e).2; omega
    · rw [lkN_ge hb'] at e'
      exact h.inj b b' c e e'
def LeN (n0 : Nat) (σ σ' : Bd) : Prop := ∀ b c, lkN n0 σ b = some c → lkN n0 σ' b = some c
theorem LeN.refl (n0 : Nat) (σ : Bd) : LeN n0 σ σ := fun _ _ h => h
theorem LeN.trans {n0 : Nat} {a b c : Bd} (h : LeN n0 a b) (h' : LeN n0 b c) : LeN n0 a c := fun x y e => h' x y (h x y e)
def RelN (n0 : Nat) (φ φ2 : Ren) (σ : Bd) : Prop := ∀ b c, lkN n0 σ b = some c → φ2 b = φ c ∧ φ2.n b = φ.n c
theorem RelN.sub {n0 : Nat} {φ φ2 : Ren} {σ σ' : Bd} (h : RelN n0 φ φ2 σ') (hl : LeN n0 σ σ') : RelN n0 φ φ2 σ := fun b c e => h b c (hl b c e)
theorem bindN_ok {n0 b c : Nat} {σ σ' : Bd} (h : bindN n0 b c σ = some σ') : LeN n0 σ σ' ∧ lkN n0 σ' b = some c ∧ (GdN n0 σ → GdN n0 σ') := by
  unfold bindN at h
  cases hb : Nat.blt b n0 with
  | true =>
    rw [hb] at h
    obtain ⟨h1, h2⟩ := cond_some h
    cases h2
    rw [← Nat.eq_of_beq_eq_true h1]
    exact ⟨LeN.refl _ _, lkN_lt (blt_iff.1 hb), id⟩
  | false =>
    rw [hb] at h
    have hb' : n0 ≤ b := by
      rcases Nat.lt_or_ge b n0 with h | h
      · rw [blt_iff.2 h] at hb; cases hb
      · exact h
    cases hc : Nat.blt c n0 with
    | true => rw [hc] at h; cases h
    | false =>
      rw [hc] at h
      have hc' : n0 ≤ c := by
        rcases Nat.lt_or_ge c n0 with h | h
        · rw [blt_iff.2 h] at hc; cases hc
        · exact h
      obtain ⟨g1, g2, g3⟩ := bindB_ok h
      refine ⟨fun x y e => ?_, by rw [lkN_ge hb']; exact g2, fun hg => ⟨g3 hg.inj, fun x y e => ?_⟩⟩
      · rcases Nat.lt_or_ge x n0 with hx | hx
        · rw [lkN_lt hx] at e ⊢; exact e
        · rw [lkN_ge hx] at e ⊢; exact g1 x y e
      · simp only [cond_false] at h
        unfold bindB at h
        split at h
        · obtain ⟨_, h2⟩ := cond_some h
          cases h2
          exact hg.ge x y e
        · cases hv : hasV σ c with
          | true => rw [hv] at h; cases h
          | false =>
            rw [hv] at h
            simp only [cond_false, Option.some.injEq] at h
            subst h
            rw [lk_cons] at e
            by_cases hx : x = b
            · rw [if_pos hx] at e; cases e
              exact ⟨by omega, hc'⟩
            · rw [if_neg hx] at e; exact hg.ge x y e

def MC (n0 : Nat) (σ σ' : Bd) (P : Ren → Ren → Prop) : Prop := LeN n0 σ σ' ∧ (GdN n0 σ → GdN n0 σ') ∧ ∀ φ φ2 : Ren, RelN n0 φ φ2 σ' → P φ φ2
theorem MC.id {n0 : Nat} {σ : Bd} {P : Ren → Ren → Prop} (hp : ∀ φ φ2 : Ren, P φ φ2) : MC n0 σ σ P := ⟨LeN.refl _ _, fun x => x, fun φ φ2 _ => hp φ φ2⟩
theorem MC.bind {n0 : Nat} {σ σ' : Bd} {b c : Nat} (hb : bindN n0 b c σ = some σ') {P : Ren → Ren → Prop} (hp : ∀ φ φ2 : Ren, φ2 b = φ c → φ2.n b = φ.n c → P φ φ2) : MC n0 σ σ' P := by
  obtain ⟨h1, h2, h3⟩ := bindN_ok hb
  exact ⟨h1, h3, fun φ φ2 hrel => hp φ φ2 (hrel b c h2).1 (hrel b c h2).2⟩

mutual
theorem mC_ok (n0 : Nat) : ∀ (p a : V) (σ σ' : Bd), mC n0 p a σ = some σ' → MC n0 σ σ' fun φ φ2 => ∀ v, VR φ a v → VR φ2 p v
  | .top, a, σ, σ', e => by
    simp only [mC, Option.some.injEq] at e; subst e
    exact MC.id fun _ _ _ _ => by simp [VR]
  | .b x, a, σ, σ', e => by
    cases a <;> (try simp only [mC] at e) <;> (try (cases e; done))
    obtain ⟨e1, e2⟩ := cond_some e
    cases e2; rw [b_eq e1]
    exact MC.id fun _ _ v hv => by simpa [VR] using hv
  | .i k n, a, σ, σ', e => by
    cases a <;> (try simp only [mC] at e) <;> (try (cases e; done))
    obtain ⟨e1, e2⟩ := cond_some e
    simp only [Bool.and_eq_true, decide_eq_true_eq] at e1
    cases e2; rw [e1.1, sameI_ok e1.2]
    exact MC.id fun _ _ v hv => by simpa [VR] using hv
  | .y k x, a, σ, σ', e => by cases a <;> (simp only [mC] at e; cases e)
  | .q x, a, σ, σ', e => by cases a <;> (simp only [mC] at e; cases e)
  | .sr b x k sz, a, σ, σ', e => by cases a <;> (simp only [mC] at e; cases e)
  | .pr b x y sz off, a, σ, σ', e => by cases a <;> (simp only [mC] at e; cases e)
  | .s l, a, σ, σ', e => by
    cases a <;> (try simp only [mC] at e) <;> (try (cases e; done))
    obtain ⟨e1, e2⟩ := cond_some e
    cases e2; rw [sameN_ok e1]
    exact MC.id fun _ _ v hv => by simpa [VR] using hv
  | .p none, a, σ, σ', e => by
    cases a <;> (try simp only [mC] at e) <;> (try (cases e; done))
    rename_i bo
    cases bo with
    | none =>
      simp only [mC, Option.some.injEq] at e; subst e
      exact MC.id fun _ _ v hv => by simpa [VR] using hv
    | some bo => obtain ⟨b', o'⟩ := bo; simp only [mC] at e; cases e
  | .p (some (b, o)), a, σ, σ', e => by
    cases a <;> (try simp only [mC] at e) <;> (try (cases e; done))
    rename_i bo
    cases bo with
    | none => simp only [mC] at e; cases e
    | some bo =>
      obtain ⟨b', o'⟩ := bo
      simp only [mC] at e
      obtain ⟨e1, e2⟩ := cond_some e
      rw [Nat.eq_of_beq_eq_true e1]
      refine MC.bind e2 fun φ φ2 hb hn v hv => ?_
      simp only [VR] at hv ⊢
      obtain ⟨r, h1, h2⟩ := hv
      exact ⟨r, hb.trans h1, h2⟩
  | .sl none n c, a, σ, σ', e => by
    cases a <;> (try simp only [mC] at e) <;> (try (cases e; done))
    rename_i bo n' c'
    cases bo with
    | none =>
      simp only [mC] at e
      obtain ⟨e1, e2⟩ := cond_some e
      cases e2; rw [Nat.eq_of_beq_eq_true e1]
      exact MC.id fun _ _ v hv => by simpa [VR] using hv
    | some bo => obtain ⟨b', o'⟩ := bo; simp only [mC] at e; cases e
  | .sl (some (b, o)) n c, a, σ, σ', e => by
    cases a <;> (try simp only [mC] at e) <;> (try (cases e; done))
    rename_i bo n' c'
    cases bo with
    | none => simp only [mC] at e; cases e
    | some bo =>
      obtain ⟨b', o'⟩ := bo
      simp only [mC] at e
      obtain ⟨e1, e2⟩ := cond_some e
      simp only [Bool.and_eq_true] at e1
      rw [Nat.eq_of_beq_eq_true e1.1.1, Nat.eq_of_beq_eq_true e1.1.2, sameC_ok e1.2]
      refine MC.bind e2 fun φ φ2 hb hn v hv => ?_
      cases c' with
      | kn c' =>
        simp only [VR] at hv ⊢
        obtain ⟨r, h1, h2⟩ := hv
        exact ⟨r, hb.trans h1, h2⟩
      | un s =>
        simp only [VR] at hv ⊢
        obtain ⟨r, cap, h1, h2, h3, h4⟩ := hv
        exact ⟨r, cap, hb.trans h1, h2, by rw [hn]; exact h3, h4⟩
  | .es, a, σ, σ', e => by
    cases a <;> (try simp only [mC] at e) <;> (try (cases e; done))
    simp only [Option.some.injEq] at e; subst e
    exact MC.id fun _ _ v hv => by simpa [VR] using hv
  | .m none, a, σ, σ', e => by
    cases a <;> (try simp only [mC] at e) <;> (try (cases e; done))
    rename_i bo
    cases bo with
    | none =>
      simp only [mC, Option.some.injEq] at e; subst e
      exact MC.id fun _ _ v hv => by simpa [VR] using hv
    | some b' => simp only [mC] at e; cases e
  | .m (some b), a, σ, σ', e => by
    cases a <;> (try simp only [mC] at e) <;> (try (cases e; done))
    rename_i bo
    cases bo with
    | none => simp only [mC] at e; cases e
    | some b' =>
      simp only [mC] at e
      refine MC.bind e fun φ φ2 hb hn v hv => ?_
      simp only [VR] at hv ⊢
      obtain ⟨r, h1, h2⟩ := hv
      exact ⟨r, hb.trans h1, h2⟩
  | .f fn x y, a, σ, σ', e => by
    cases a <;> (try simp only [mC] at e) <;> (try (cases e; done))
    rename_i fn' x' y'
    obtain ⟨e1, e2⟩ := cond_some e
    split at e2
    · rename_i σ1 h1
      have m1 := mCs_ok n0 x x' σ σ1 h1
      have m2 := mCs_ok n0 y y' σ1 σ' e2
      refine ⟨m1.1.trans m2.1, fun i => m2.2.1 (m1.2.1 i), fun φ φ2 hrel v hv => ?_⟩
      simp only [VR] at hv ⊢
      obtain ⟨f1, f2, hv, g1, g2⟩ := hv
      rw [Nat.eq_of_beq_eq_true e1]
      exact ⟨f1, f2, hv, m1.2.2 φ φ2 (hrel.sub m2.1) _ g1, m2.2.2 φ φ2 hrel _ g2⟩
    · cases e2
  | .yl b, a, σ, σ', e => by
    cases a <;> (try simp only [mC] at e) <;> (try (cases e; done))
    refine MC.bind e fun φ φ2 hb hn v hv => ?_
    simp only [VR] at hv ⊢
    obtain ⟨r, h1, h2⟩ := hv
    exact ⟨r, hb.trans h1, h2⟩
  | .o, a, σ, σ', e => by cases a <;> (simp only [mC] at e; cases e)
  | .nf, a, σ, σ', e => by
    cases a <;> (try simp only [mC] at e) <;> (try (cases e; done))
    simp only [Option.some.injEq] at e; subst e
    exact MC.id fun _ _ v hv => by simpa [VR] using hv
  | .ifc t x, a, σ, σ', e => by
    cases a <;> (try simp only [mC] at e) <;> (try (cases e; done))
    rename_i t' x'
    obtain ⟨e1, e2⟩ := cond_some e
    rw [Nat.eq_of_beq_eq_true e1]
    have m1 := mC_ok n0 x x' σ σ' e2
    refine ⟨m1.1, m1.2.1, fun φ φ2 hrel v hv => ?_⟩
    simp only [VR] at hv ⊢
    obtain ⟨u, hv, g⟩ := hv
    exact ⟨u, hv, m1.2.2 φ φ2 hrel _ g⟩
  | .ni, a, σ, σ', e => by
    cases a <;> (try simp only [mC] at e) <;> (try (cases e; done))
    simp only [Option.some.injEq] at e; subst e
    exact MC.id fun _ _ v hv => by simpa [VR] using hv
  | .a l, a, σ, σ', e => by
    cases a <;> (try simp only [mC] at e) <;> (try (cases e; done))
    rename_i l'
    have m1 := mCs_ok n0 l l' σ σ' e
    refine ⟨m1.1, m1.2.1, fun φ φ2 hrel v hv => ?_⟩
    simp only [VR] at hv ⊢
    obtain ⟨u, hv, g⟩ := hv
    exact ⟨u, hv, m1.2.2 φ φ2 hrel _ g⟩
  | .t l, a, σ, σ', e => by
    cases a <;> (try simp only [mC] at e) <;> (try (cases e; done))
    rename_i l'
    have m1 := mCs_ok n0 l l' σ σ' e
    refine ⟨m1.1, m1.2.1, fun φ φ2 hrel v hv => ?_⟩
    simp only [VR] at hv ⊢
    obtain ⟨u, hv, g⟩ := hv
    exact ⟨u, hv, m1.2.2 φ φ2 hrel _ g⟩
theorem mCs_ok (n0 : Nat) : ∀ (p a : List V) (σ σ' : Bd), mCs n0 p a σ = some σ' → MC n0 σ σ' fun φ φ2 => ∀ v, VRs φ a v → VRs φ2 p v
  | [], a, σ, σ', e => by
    cases a with
    | nil =>
      simp only [mCs, Option.some.injEq] at e; subst e
      exact MC.id fun _ _ v hv => by simpa [VRs] using hv
    | cons _ _ => simp only [mCs] at e; cases e
  | x :: xs, a, σ, σ', e => by
    cases a with
    | nil => simp only [mCs] at e; cases e
    | cons y ys =>
      simp only [mCs] at e
      split at e
      · rename_i σ1 h1
        have m1 := mC_ok n0 x y σ σ1 h1
        have m2 := mCs_ok n0 xs ys σ1 σ' e
        refine ⟨m1.1.trans m2.1, fun i => m2.2.1 (m1.2.1 i), fun φ φ2 hrel v hv => ?_⟩
        simp only [VRs] at hv ⊢
        obtain ⟨u, us, hv, g1, g2⟩ := hv
        exact ⟨u, us, hv, m1.2.2 φ φ2 (hrel.sub m2.1) _ g1, m2.2.2 φ φ2 hrel _ g2⟩
      · cases e
end
theorem mCs_length {n0 : Nat} : ∀ {p a : List V} {σ σ' : Bd}, mCs n0 p a σ = some σ' → p.length = a.length
  | [], a, σ, σ', e => by
    cases a with
    | nil => rfl
    | cons _ _ => simp only [mCs] at e; cases e
  | x :: xs, a, σ, σ', e => by
    cases a with
    | nil => simp only [mCs] at e; cases e
    | cons y ys =>
      simp only [mCs] at e
      split at e
      · simp [mCs_length e]
      · cases e

def mCe (n0 : Nat) : List (V × V × Nat) → List (V × V × Nat) → Bd → Option Bd
  | [], [], σ => some σ
  | (k, v, n) :: xs, (k', v', n') :: ys, σ =>
    cond (Nat.beq n n')
      (match mC n0 k k' σ with
       | some σ1 =>
         match mC n0 v v' σ1 with
         | some σ2 => mCe n0 xs ys σ2
         | none => none
       | none => none) none
  | _, _, _ => none
theorem mCe_ok (n0 : Nat) : ∀ (p a : List (V × V × Nat)) (σ σ' : Bd), mCe n0 p a σ = some σ' → MC n0 σ σ' fun φ φ2 => ∀ v, ERs φ a v → ERs φ2 p v
  | [], a, σ, σ', e => by
    cases a with
    | nil =>
      simp only [mCe, Option.some.injEq] at e; subst e
      exact MC.id fun _ _ v hv => by simpa [ERs] using hv
    | cons _ _ => simp only [mCe] at e; cases e
  | (k, v, n) :: xs, a, σ, σ', e => by
    cases a with
    | nil => simp only [mCe] at e; cases e
    | cons y ys =>
      obtain ⟨k', v', n'⟩ := y
      simp only [mCe] at e
      obtain ⟨e1, e2⟩ := cond_some e
      have e1 := Nat.eq_of_beq_eq_true e1
      subst e1
      split at e2
      · rename_i σ1 h1
        split at e2
        · rename_i σ2 h2
          have m1 := mC_ok n0 k k' σ σ1 h1
          have m2 := mC_ok n0 v v' σ1 σ2 h2
          have m3 := mCe_ok n0 xs ys σ2 σ' e2
          refine ⟨(m1.1.trans m2.1).trans m3.1, fun i => m3.2.1 (m2.2.1 (m1.2.1 i)), fun φ φ2 hrel l hl => ?_⟩
          simp only [ERs] at hl ⊢
          obtain ⟨en, es, rfl, g1, g2, g3, g4⟩ := hl
          exact ⟨en, es, rfl, m1.2.2 φ φ2 (hrel.sub (m2.1.trans m3.1)) _ g1, m2.2.2 φ φ2 (hrel.sub m3.1) _ g2, g3, m3.2.2 φ φ2 hrel _ g4⟩
        · cases e2
      · cases e2

/-- Blocks: what is written, and what there is. -/
def mCB (n0 : Nat) : Blk → Blk → Bd → Option Bd
  | .cells l e g, .cells l' e' g', σ => cond (Nat.beq e e' && cond g g' (!g')) (mCs n0 l l' σ) none
  | .rc l e, .cells l' e' _, σ => cond (Nat.beq e e') (mCs n0 l l' σ) none
  | .rc l e, .rc l' e', σ => cond (Nat.beq e e') (mCs n0 l l' σ) none
  | .mp es k, .mp es' k', σ => cond (Nat.beq k k') (mCe n0 es es' σ) none
  | _, _, _ => none
def BC (n0 : Nat) (p a : Blk) (σ σ' : Bd) : Prop :=
  LeN n0 σ σ' ∧ (GdN n0 σ → GdN n0 σ') ∧ (p.mut → a.mut) ∧ a.live ∧ p.live ∧ ∀ φ φ2 : Ren, RelN n0 φ φ2 σ' → ∀ o N, BR φ N a o → BR φ2 N p o
theorem mCB_ok {n0 : Nat} {p a : Blk} {σ σ' : Bd} (e : mCB n0 p a σ = some σ') : BC n0 p a σ σ' := by
  unfold mCB at e
  split at e
  · rename_i l ety g l' e' g'
    obtain ⟨e1, e2⟩ := cond_some e
    simp only [Bool.and_eq_true] at e1
    have c1 := Nat.eq_of_beq_eq_true e1.1
    subst c1
    have m := mCs_ok n0 l l' σ σ' e2
    have hl := mCs_length e2
    refine ⟨m.1, m.2.1, fun _ => trivial, trivial, trivial, fun φ φ2 hrel o N hb => ?_⟩
    obtain ⟨cs, rfl, h2, h3, h4, h5⟩ := hb
    refine ⟨cs, rfl, by rw [hl]; exact m.2.2 φ φ2 hrel _ h2, by rw [hl]; exact h3, fun hg => ?_, h5⟩
    rw [hl]
    refine h4 ?_
    subst hg
    simpa using e1.2
  · rename_i l ety l' e' g'
    obtain ⟨e1, e2⟩ := cond_some e
    have c1 := Nat.eq_of_beq_eq_true e1
    subst c1
    have m := mCs_ok n0 l l' σ σ' e2
    have hl := mCs_length e2
    refine ⟨m.1, m.2.1, fun _ => trivial, trivial, trivial, fun φ φ2 hrel o N hb => ?_⟩
    obtain ⟨cs, rfl, h2, h3, h4, h5⟩ := hb
    exact ⟨cs, rfl, by rw [hl]; exact m.2.2 φ φ2 hrel _ h2, by rw [hl]; exact h3, h5⟩
  · rename_i l ety l' e'
    obtain ⟨e1, e2⟩ := cond_some e
    have c1 := Nat.eq_of_beq_eq_true e1
    subst c1
    have m := mCs_ok n0 l l' σ σ' e2
    have hl := mCs_length e2
    refine ⟨m.1, m.2.1, fun hm => hm, trivial, trivial, fun φ φ2 hrel o N hb => ?_⟩
    obtain ⟨cs, rfl, h2, h3, h5⟩ := hb
    exact ⟨cs, rfl, by rw [hl]; exact m.2.2 φ φ2 hrel _ h2, by rw [hl]; exact h3, h5⟩
  · rename_i es k es' k'
    obtain ⟨e1, e2⟩ := cond_some e
    have c1 := Nat.eq_of_beq_eq_true e1
    subst c1
    have m := mCe_ok n0 es es' σ σ' e2
    refine ⟨m.1, m.2.1, fun _ => trivial, trivial, trivial, fun φ φ2 hrel o N hb => ?_⟩
    obtain ⟨el, rfl, h2⟩ := hb
    exact ⟨el, rfl, m.2.2 φ φ2 hrel _ h2⟩
  · cases e

def mCL (n0 : Nat) (h : H) : List (Nat × Blk) → Bd → Option Bd
  | [], σ => some σ
  | (b, p) :: l, σ =>
    match lkN n0 σ b with
    | some c =>
      match mCB n0 p (h.get c) σ with
      | some σ1 => mCL n0 h l σ1
      | none => none
    | none => none
theorem mCL_ok (n0 : Nat) (h : H) : ∀ (l : List (Nat × Blk)) (σ σ' : Bd), mCL n0 h l σ = some σ' → LeN n0 σ σ' ∧ (GdN n0 σ → GdN n0 σ') ∧ ∀ b p, (b, p) ∈ l → ∃ c, lkN n0 σ' b = some c ∧ BC n0 p (h.get c) σ σ'
  | [], σ, σ', e => by
    simp only [mCL, Option.some.injEq] at e; subst e
    exact ⟨LeN.refl _ _, fun i => i, fun b p hm => by cases hm⟩
  | (b, p) :: l, σ, σ', e => by
    simp only [mCL] at e
    split at e
    · rename_i c hc
      split at e
      · rename_i σ1 h1
        have k1 := mCB_ok h1
        obtain ⟨g1, g2, g3⟩ := mCL_ok n0 h l σ1 σ' e
        refine ⟨k1.1.trans g1, fun i => g2 (k1.2.1 i), fun b' p' hm => ?_⟩
        rcases List.mem_cons.1 hm with hm | hm
        · cases hm
          exact ⟨c, g1 _ _ (k1.1 _ _ hc), k1.1.trans g1, fun i => g2 (k1.2.1 i), k1.2.2.1, k1.2.2.2.1, k1.2.2.2.2.1, fun φ φ2 hrel => k1.2.2.2.2.2 φ φ2 (hrel.sub g1)⟩
        · obtain ⟨c', h2, h3⟩ := g3 b' p' hm
          exact ⟨c', h2, k1.1.trans h3.1, fun i => h3.2.1 (k1.2.1 i), h3.2.2⟩
      · cases e
    · cases e

/-- What is matched holds under the names of the list. -/
theorem hr_matchN {n0 : Nat} {h : H} {nb : Nat} {HB : List (Nat × Blk)} {σ0 σ : Bd} (hb : mCL n0 h HB σ0 = some σ) (hi0 : GdN n0 σ0) {φ : Ren} {w : World} (hr : HR φ h w) (φ2 : Ren) (hrel : RelN n0 φ φ2 σ)
    (hat : ∀ b r, φ2 b = some r → ∃ c, lkN n0 σ b = some c ∧ φ c = some r) (hm : φ2.m = nb) (hlt : ∀ b r, φ2 b = some r → b < nb)
    (hk : ∀ r o, φ2.y.k r = some o → w.heap[r]? = some o ∧ ∀ b, φ2 b = some r → ¬ ((hOf nb HB).get b).mut) : HR φ2 (hOf nb HB) w := by
  obtain ⟨b1, b2, b3⟩ := mCL_ok n0 h HB σ0 σ hb
  have hinj := b2 hi0
  have hblk : ∀ b c, lkN n0 σ b = some c → ((hOf nb HB).get b).live → BC n0 ((hOf nb HB).get b) (h.get c) σ0 σ := fun b c hc hlv => by
    rw [hOf_get] at hlv ⊢
    obtain ⟨c', h3, h4⟩ := b3 b _ (lkB_mem hlv)
    rw [hc] at h3; cases h3
    exact h4
  refine ⟨hm, fun b r e => ?_, fun b r e hlv => ?_, fun b b' r e e' hlv hlv' => ?_, hk⟩
  · obtain ⟨c, hc, hcr⟩ := hat b r e
    exact ⟨hlt b r e, (hr.dom c r hcr).2⟩
  · obtain ⟨c, hc, hcr⟩ := hat b r e
    have bk := hblk b c hc hlv
    obtain ⟨o, h3, h4⟩ := hr.blk c r hcr bk.2.2.2.1
    have := bk.2.2.2.2.2 φ φ2 hrel o (φ.n c) h4
    exact ⟨o, h3, by rw [(hrel b c hc).2]; exact this⟩
  · obtain ⟨c, hc, hcr⟩ := hat b r e
    obtain ⟨c', hc', hcr'⟩ := hat b' r e'
    have bk := hblk b c hc hlv
    have bk' := hblk b' c' hc' hlv'
    have := hr.inj c c' r hcr hcr' bk.2.2.2.1 bk'.2.2.2.1
    subst this
    exact hinj.injN hc hc'

end
end Go.Ev

/- The abstract machine, part Mm: a table of calls that are proved: names given anew; what a run came to, matched with what is written down; a call told by the table. -/
namespace Go.Ev
noncomputable section

/-! ### A call that is written down -/
structure Ent where
  f : FuncId
  args : List V
  nb : Nat
  HB : List (Nat × Blk)
  v : V
  nb' : Nat
  out : List (Nat × Blk)
  di : Nat := 0

def restB (out : List (Nat × Blk)) : List (Nat × Blk) → List (Nat × Blk)
  | [] => []
  | (b, p) :: l => cond (hasK out b) (restB out l) ((b, p) :: restB out l)
theorem restB_mem {out : List (Nat × Blk)} : ∀ {l : List (Nat × Blk)} {b : Nat} {p : Blk}, (b, p) ∈ restB out l → (b, p) ∈ l ∧ hasK out b = false
  | [], _, _, h => by cases h
  | (k, q) :: l, b, p, h => by
    simp only [restB] at h
    cases hk : hasK out k with
    | true =>
      rw [hk] at h
      have := restB_mem (l := l) h
      exact ⟨List.mem_cons_of_mem _ this.1, this.2⟩
    | false =>
      rw [hk] at h
      rcases List.mem_cons.1 h with e | e
      · cases e; exact ⟨by simp, hk⟩
      · have := restB_mem (l := l) e
        exact ⟨List.mem_cons_of_mem _ this.1, this.2⟩
theorem lkB_restB {out : List (Nat × Blk)} : ∀ {l : List (Nat × Blk)} {b : Nat}, hasK out b = false → lkB (restB out l) b = lkB l b
  | [], _, _ => rfl
  | (k, q) :: l, b, h => by
    simp only [restB]
    cases hk : hasK out k with
    | true =>
      have : b ≠ k := fun e => by rw [e, hk] at h; cases h
      rw [lkB, if_neg this]
      exact lkB_restB (l := l) h
    | false =>
      rw [cond_false, lkB, lkB, lkB_restB (l := l) h]

def Ent.post (e : Ent) : List (Nat × Blk) := e.out ++ restB e.out e.HB
/-- Blocks that may be turned. -/
def mutK : Blk → Bool
  | .gone => false
  | .rc .. => false
  | .rw .. => false
  | .rm .. => false
  | .mie .. => false
  | _ => true
theorem mutK_of {p : Blk} (h : p.mut) : mutK p = true := by
  cases p <;> first | rfl | exact h.elim
def mutB : List (Nat × Blk) → List (Nat × Blk)
  | [] => []
  | (b, p) :: l => cond (mutK p) ((b, p) :: mutB l) (mutB l)
theorem mutB_mem : ∀ {l : List (Nat × Blk)} {b : Nat} {p : Blk}, (b, p) ∈ mutB l ↔ (b, p) ∈ l ∧ mutK p = true
  | [], b, p => by simp [mutB]
  | (k, q) :: l, b, p => by
    simp only [mutB]
    cases hk : mutK q with
    | true =>
      simp only [cond_true, List.mem_cons, mutB_mem (l := l)]
      constructor
      · rintro (e | e)
        · cases e; exact ⟨.inl rfl, hk⟩
        · exact ⟨.inr e.1, e.2⟩
      · rintro ⟨e | e, h⟩
        · exact .inl e
        · exact .inr ⟨e, h⟩
    | false =>
      simp only [cond_false, List.mem_cons, mutB_mem (l := l)]
      constructor
      · rintro ⟨e, h⟩; exact ⟨.inr e, h⟩
      · rintro ⟨e | e, h⟩
        · cases e; rw [hk] at h; cases h
        · exact ⟨e, h⟩
def ndB : List (Nat × Blk) → Bool
  | [] => true
  | (b, _) :: l => !(hasK l b) && ndB l
theorem ndB_lk : ∀ {l : List (Nat × Blk)} {b : Nat} {p : Blk}, ndB l = true → (b, p) ∈ l → lkB l b = p
  | [], _, _, _, hm => by cases hm
  | (k, q) :: l, b, p, h, hm => by
    simp only [ndB, Bool.and_eq_true, Bool.not_eq_true'] at h
    simp only [lkB]
    rcases List.mem_cons.1 hm with e | e
    · cases e; rw [if_pos rfl]
    · have : b ≠ k := fun eq => by
        subst eq
        rw [hasK_iff.2 ⟨p, e⟩] at h; cases h.1
      rw [if_neg this]
      exact ndB_lk h.2 e
def Ent.all (e : Ent) : List (Nat × Blk) := e.out ++ mutB (restB e.out e.HB)

def allG (HB : List (Nat × Blk)) : Nat → Bool
  | 0 => true
  | n + 1 => hasK HB n && allG HB n
theorem allG_ok {HB : List (Nat × Blk)} : ∀ {n : Nat}, allG HB n = true → ∀ g, g < n → hasK HB g = true
  | 0, _, g, h => by omega
  | n + 1, h, g, hg => by
    simp only [allG, Bool.and_eq_true] at h
    by_cases e : g = n
    · rw [e]; exact h.1
    · exact allG_ok h.2 g (by omega)
/-- Such a call comes to what is written. -/
structure Ent.OK (P : Program) (ng : Nat) (e : Ent) : Prop where
  has : ∃ fn c, P.funcs[e.f]? = some fn ∧ fn.body = some c ∧ (fn.name == "runtime.NumGoroutine") = false
  nd : (ndB e.HB && allG e.HB ng && Nat.ble ng e.nb) = true
  ok : ∀ (φ : Ren) (w : World) (args' : List Value), GL ng φ → φ.y.d = false → VRs φ e.args args' → HR φ (hOf e.nb e.HB) w → ∀ n, CallsIn (W none) n P e.f args'.toArray w fun r w' =>
    ∃ φ' u, r = .returned u ∧ Ext φ w φ' w' ∧ VR φ' e.v u ∧ HR φ' (hOf e.nb' e.post) w'

def runE (E : Env) (k : Nat) (di : Nat) (f : FuncId) (args : List V) (h : H) : Option (V × H) :=
  match di with
  | 0 => callB E (exec E k) f args h
  | i + 1 => runD E k i f args h
/-- Those that are there. -/
def liveB : List (Nat × Blk) → List (Nat × Blk)
  | [] => []
  | (_, .gone) :: l => liveB l
  | x :: l => x :: liveB l
theorem lkB_live : ∀ {l : List (Nat × Blk)} {b : Nat}, (lkB l b).live → lkB (liveB l) b = lkB l b
  | [], _, _ => rfl
  | (c, p) :: l, b, h => by
    by_cases hc : b = c
    · subst hc
      rw [lkB, if_pos rfl] at h
      have e : liveB ((b, p) :: l) = (b, p) :: liveB l := by
        cases p <;> first | rfl | exact h.elim
      rw [e, lkB, lkB, if_pos rfl, if_pos rfl]
    · rw [lkB, if_neg hc] at h
      have ih := lkB_live h
      rw [lkB, if_neg hc]
      have e : liveB ((c, p) :: l) = (c, p) :: liveB l ∨ liveB ((c, p) :: l) = liveB l := by
        cases p <;> first | exact .inr rfl | exact .inl rfl
      rcases e with e | e
      · rw [e, lkB, if_neg hc]; exact ih
      · rw [e]; exact ih
theorem HR.live {φ : Ren} {n : Nat} {l : List (Nat × Blk)} {w : World} (hr : HR φ (hOf n (liveB l)) w) : HR φ (hOf n l) w := by
  have hget : ∀ b, ((hOf n l).get b).live → (hOf n (liveB l)).get b = (hOf n l).get b := fun b h => by
    rw [hOf_get] at h ⊢
    rw [hOf_get]
    exact lkB_live h
  refine ⟨hr.cnt, hr.dom, fun b r e h => ?_, fun b b' r e e' h h' => ?_, fun r o hk => ⟨(hr.kp r o hk).1, fun b e hm => ?_⟩⟩
  · have := hr.blk b r e (by rw [hget b h]; exact h)
    rw [hget b h] at this
    exact this
  · exact hr.inj b b' r e e' (by rw [hget b h]; exact h) (by rw [hget b' h']; exact h')
  · refine (hr.kp r o hk).2 b e ?_
    rw [hget b hm.live]
    exact hm
def entB (E : Env) (k : Nat) (e : Ent) : Bool :=
  match runE E k e.di e.f e.args (hOf e.nb e.HB) with
  | some (v', h') =>
    match mC e.nb e.v v' [] with
    | some τ =>
      match mCL e.nb h' (liveB e.post) τ with
      | some τ' => keysLt e.nb' τ' && Nat.ble e.nb e.nb' && (ndB e.HB && allG e.HB E.ng && Nat.ble E.ng e.nb)
      | none => false
    | none => false
  | none => false

/-- What a call came to, under the names that are written down. -/
theorem named_ok {nb nb' : Nat} {post : List (Nat × Blk)} {v v' : V} {h h' : H} {τ τ' : Bd} (h1 : mC nb v v' [] = some τ) (h2 : mCL nb h' post τ = some τ') (hk : keysLt nb' τ' = true) (hnn : nb ≤ nb') (hn : h.n = nb)
    {φ φ1 : Ren} {w w' : World} {u : Value} (hr : HR φ h w) (hx : Ext φ w φ1 w') (hv : VR φ1 v' u) (hr1 : HR φ1 h' w') : ∃ φ2, Ext φ w φ2 w' ∧ VR φ2 v u ∧ HR φ2 (hOf nb' post) w' := by
  have m1 := mC_ok nb v v' [] τ h1
  obtain ⟨c1, c2, c3⟩ := mCL_ok nb h' post τ τ' h2
  have hm0 : φ.m = nb := hr.cnt.trans hn
  let φ2 : Ren := { f := fun b => (lkN nb τ' b).bind φ1.f, n := fun b => match lkN nb τ' b with | some c => φ1.n c | none => 0, y := φ.y, m := nb' }
  have hrel : RelN nb φ1 φ2 τ' := fun b c e' => by
    constructor
    · show (lkN nb τ' b).bind φ1.f = φ1.f c
      rw [e']; rfl
    · show (match lkN nb τ' b with | some c => φ1.n c | none => 0) = φ1.n c
      rw [e']
  have hat : ∀ b r, φ2 b = some r → ∃ c, lkN nb τ' b = some c ∧ φ1 c = some r := fun b r e' => by
    have e' : (lkN nb τ' b).bind φ1.f = some r := e'
    cases hc : lkN nb τ' b with
    | none => rw [hc] at e'; cases e'
    | some c => rw [hc] at e'; exact ⟨c, rfl, e'⟩
  have hold : ∀ b r, φ b = some r → φ2 b = some r ∧ φ2.n b = φ.n b := fun b r e' => by
    have hb : b < nb := by have := (hr.dom b r e').1; omega
    have h3 := hx.le b r e'
    have h4 := hrel b b (lkN_lt hb)
    exact ⟨h4.1.trans h3.1, h4.2.trans h3.2⟩
  have honly : ∀ b r, φ2 b = some r → b < nb → φ b = some r := fun b r e' hb => by
    obtain ⟨c, hc, hcr⟩ := hat b r e'
    rw [lkN_lt hb] at hc
    cases hc
    rcases hx.only b r hcr with h5 | h5
    · exact h5
    · rw [hm0] at h5; omega
  refine ⟨φ2, ⟨⟨fun b r e' => hold b r e', rfl⟩, by show φ.m ≤ nb'; rw [hm0]; exact hnn, fun b r e' => ?_, hx.dr, hx.size, hx.os, hx.tape, hx.output, hx.frame⟩, ?_, ?_⟩
  · rcases Nat.lt_or_ge b nb with hb | hb
    · exact .inl (honly b r e' hb)
    · obtain ⟨c, hc, hcr⟩ := hat b r e'
      have hcn : nb ≤ c := by
        rw [lkN_ge hb] at hc
        exact (((mCL_ok nb h' post τ τ' h2).2.1 ((mC_ok nb v v' [] τ h1).2.1 (GdN.nil _))).ge b c hc).2
      rcases hx.nw c r hcr with e1 | ⟨_, e1⟩
      · have := (hr.dom c r e1).1; omega
      · exact .inr ⟨by rw [hm0]; exact hb, e1⟩
  · exact m1.2.2 φ1 φ2 (hrel.sub c1) _ hv
  · refine hr_matchN h2 (m1.2.1 (GdN.nil _)) hr1 φ2 hrel hat rfl (fun b r e' => ?_) (fun r o hk' => ?_)
    · rcases Nat.lt_or_ge b nb with hb | hb
      · omega
      · obtain ⟨c, hc, _⟩ := hat b r e'
        rw [lkN_ge hb] at hc
        exact keysLt_ok hk b c hc
    · have hk1 : φ1.y.k r = some o := by rw [hx.le.yy]; exact hk'
      obtain ⟨k1, k2⟩ := hr1.kp r o hk1
      refine ⟨k1, fun b e' hmt => ?_⟩
      obtain ⟨c, hc, hcr⟩ := hat b r e'
      have hlv := hmt.live
      rw [hOf_get] at hlv hmt
      obtain ⟨c', h3, h4⟩ := c3 b _ (lkB_mem hlv)
      rw [hc] at h3; cases h3
      exact k2 c hcr (h4.2.2.1 hmt)

/-- What is deferred there finds nothing. -/
def IdleAt (P : Program) (ft : FuncId → Option Func) (f : FuncId) (i : Nat) : Prop := ∀ fn c cd t g caps, ft f = some fn → fn.body = some c → (flatL c)[i]? = some cd → dfShape cd = some (t, g, caps) → Idle P g caps.size
def DiOK (E : Env) (f : FuncId) : Nat → Prop
  | 0 => True
  | i + 1 => IdleAt E.P E.ft f i
theorem runE_ok {E : Env} (hE : E.OK) {k di : Nat} {f : FuncId} (hd : DiOK E f di) {args : List V} {h : H} {v : V} {h' : H} (e : runE E k di f args h = some (v, h')) {φ : Ren} {args' : List Value} {w : World} (n : Nat) (hg : GL E.ng φ) (hbd : BD E φ) (ha : VRs φ args args') (hr : HR φ h w) :
    (∃ fn c, E.P.funcs[f]? = some fn ∧ fn.body = some c ∧ (fn.name == "runtime.NumGoroutine") = false) ∧ CallsIn (W none) n E.P f args'.toArray w (Res φ w v h') := by
  cases di with
  | zero => exact callB_ok hE (exec_ok hE k).1 _ _ _ _ _ e φ args' w n hg hbd ha hr
  | succ i => exact runD_ok hE hd e n hg hbd ha hr
theorem entB_ok {E : Env} (hE : E.OK) (hpl : E.pl = true) {k : Nat} {e : Ent} (hd : DiOK E e.f e.di) (h : entB E k e = true) (hf : ∃ fn c, E.P.funcs[e.f]? = some fn ∧ fn.body = some c ∧ (fn.name == "runtime.NumGoroutine") = false) : e.OK E.P E.ng := by
  unfold entB at h
  split at h
  · rename_i v' h' hc
    split at h
    · rename_i τ h1
      split at h
      · rename_i τ' h2
        rw [Bool.and_eq_true, Bool.and_eq_true] at h
        refine ⟨hf, h.2, fun φ w args' hg hyd ha hr n => ?_⟩
        have hcall := (runE_ok hE hd hc (φ := φ) n hg (hE.pl hpl φ fun _ => hyd) ha hr).2
        refine hcall.mono ?_
        rintro r w' ⟨φ1, u, rfl, hx, hv, hr1⟩
        obtain ⟨φ2, g1, g2, g3⟩ := named_ok h1 h2 h.1.1 (Nat.le_of_ble_eq_true h.1.2) rfl hr hx hv hr1
        exact ⟨φ2, u, rfl, g1, g2, g3.live⟩
      · cases h
    · cases h
  · cases h

/-! ### A call that the table tells -/
def subB (ng : Nat) (σ : Bd) (nb n : Nat) (c : Nat) : Nat := cond (Nat.blt c nb) ((lkN ng σ c).getD 0) (c - nb + n)
/-- Each name that is met has its block; each block that is turned was there; those that are new stand one behind the other. -/
def covB (HB : List (Nat × Blk)) (n : Nat) : Bd → Bool
  | [] => true
  | (c, b) :: σ => hasK HB c && Nat.blt b n && covB HB n σ
def oldB (HB : List (Nat × Blk)) (nb nb' : Nat) : List (Nat × Blk) → Bool
  | [] => true
  | (c, _) :: l => cond (Nat.blt c nb) (hasK HB c) (Nat.blt c nb') && oldB HB nb nb' l
def useE (ng : Nat) (e : Ent) (args : List V) (h : H) : Option (V × H) :=
  match mCs ng e.args args [] with
  | some σ1 =>
    match mCL ng h e.HB σ1 with
    | some σ => cond (keysLt e.nb σ && covB e.HB h.n σ && oldB e.HB e.nb e.nb' e.out && newB e.out e.nb (e.nb' - e.nb))
        (some (rnV (subB ng σ e.nb h.n) e.v, putAll (subB ng σ e.nb h.n) e.all ⟨h.n + (e.nb' - e.nb), h.t⟩)) none
    | none => none
  | none => none

theorem covB_ok {HB : List (Nat × Blk)} {n : Nat} : ∀ {σ : Bd}, covB HB n σ = true → ∀ c b, lk σ c = some b → hasK HB c = true ∧ b < n
  | [], _, _, _, e => by cases e
  | (k, d) :: σ, h, c, b, e => by
    simp only [covB, Bool.and_eq_true] at h
    rw [lk_cons] at e
    by_cases hc : c = k
    · rw [if_pos hc] at e; cases e
      rw [hc]; exact ⟨h.1.1, blt_iff.1 h.1.2⟩
    · rw [if_neg hc] at e; exact covB_ok h.2 c b e
theorem oldB_ok {HB : List (Nat × Blk)} {nb nb' : Nat} : ∀ {l : List (Nat × Blk)}, oldB HB nb nb' l = true → ∀ c p, (c, p) ∈ l → (c < nb → hasK HB c = true) ∧ (nb ≤ c → c < nb')
  | [], _, _, _, hm => by cases hm
  | (k, q) :: l, h, c, p, hm => by
    simp only [oldB, Bool.and_eq_true] at h
    rcases List.mem_cons.1 hm with e | e
    · cases e
      have h1 := h.1
      cases hb : Nat.blt k nb with
      | true =>
        rw [hb] at h1
        have := blt_iff.1 hb
        exact ⟨fun _ => h1, fun h2 => by omega⟩
      | false =>
        rw [hb] at h1
        refine ⟨fun h2 => ?_, fun _ => blt_iff.1 h1⟩
        rw [blt_iff.2 h2] at hb; cases hb
    · exact oldB_ok h.2 c p e
open Classical in
theorem useE_ok {P : Program} {ng : Nat} {e : Ent} (he : e.OK P ng) {args : List V} {h : H} {v : V} {h' : H} (hu : useE ng e args h = some (v, h')) {φ : Ren} {w : World} {args' : List Value} (hg : GL ng φ) (hyd : φ.y.d = false) (ha : VRs φ args args') (hr : HR φ h w) (n : Nat) :
    CallsIn (W none) n P e.f args'.toArray w fun r w' => ∃ φ' u, r = .returned u ∧ Ext φ w φ' w' ∧ VR φ' v u ∧ HR φ' h' w' := by
  unfold useE at hu
  split at hu
  · rename_i σ1 h1
    split at hu
    · rename_i σ h2
      obtain ⟨hc, hu⟩ := cond_some hu
      simp only [Option.some.injEq, Prod.mk.injEq] at hu
      obtain ⟨rfl, rfl⟩ := hu
      simp only [Bool.and_eq_true] at hc
      obtain ⟨⟨⟨hkl, hcov⟩, hold⟩, hnew⟩ := hc
      have m1 := mCs_ok ng e.args args [] σ1 h1
      obtain ⟨b1, b2, b3⟩ := mCL_ok ng h e.HB σ1 σ h2
      have hgd1 : GdN ng σ1 := m1.2.1 (GdN.nil _)
      have hgd : GdN ng σ := b2 hgd1
      have hnd := he.nd
      simp only [Bool.and_eq_true] at hnd
      have hgn : ng ≤ e.nb := Nat.le_of_ble_eq_true hnd.2
      have hcov' : ∀ c b, lkN ng σ c = some b → hasK e.HB c = true ∧ b < h.n ∧ c < e.nb := fun c b hc => by
        rcases Nat.lt_or_ge c ng with hcg | hcg
        · rw [lkN_lt hcg] at hc; cases hc
          exact ⟨allG_ok hnd.1.2 c hcg, (hr.dom c c (hg c hcg)).1, by omega⟩
        · rw [lkN_ge hcg] at hc
          have := covB_ok hcov c b hc
          exact ⟨this.1, this.2, keysLt_ok hkl c b hc⟩
      let ψ : Ren := { f := fun c => (lkN ng σ c).bind φ.f, n := fun c => match lkN ng σ c with | some b => φ.n b | none => 0, y := { φ.y with k := fun r => if ∃ c, (lkN ng σ c).bind φ.f = some r ∧ ((hOf e.nb e.HB).get c).mut then none else w.heap[r]? }, m := e.nb }
      have hrel : RelN ng φ ψ σ := fun c b e' => by
        constructor
        · show (lkN ng σ c).bind φ.f = φ.f b
          rw [e']; rfl
        · show (match lkN ng σ c with | some b => φ.n b | none => 0) = φ.n b
          rw [e']
      have hat : ∀ c r, ψ c = some r → ∃ b, lkN ng σ c = some b ∧ φ b = some r := fun c r e' => by
        have e' : (lkN ng σ c).bind φ.f = some r := e'
        cases hc : lkN ng σ c with
        | none => rw [hc] at e'; cases e'
        | some b => rw [hc] at e'; exact ⟨b, rfl, e'⟩
      have hof : ∀ c b r, lkN ng σ c = some b → φ b = some r → ψ c = some r := fun c b r hc hb => by rw [(hrel c b hc).1]; exact hb
      have hHB : ∀ c b, lkN ng σ c = some b → ((hOf e.nb e.HB).get c).live ∧ (h.get b).live ∧ (((hOf e.nb e.HB).get c).mut → (h.get b).mut) := fun c b hc => by
        obtain ⟨p, hp⟩ := hasK_iff.1 (hcov' c b hc).1
        have hlk := ndB_lk hnd.1.1 hp
        obtain ⟨b', h3, h4⟩ := b3 c p hp
        rw [hc] at h3; cases h3
        rw [hOf_get, hlk]
        exact ⟨h4.2.2.2.2.1, h4.2.2.2.1, h4.2.2.1⟩
      have hrψ : HR ψ (hOf e.nb e.HB) w := by
        refine hr_matchN h2 hgd1 hr ψ hrel hat rfl (fun c r e' => ?_) (fun r o hk => ?_)
        · obtain ⟨b, hb, _⟩ := hat c r e'
          exact (hcov' c b hb).2.2
        · have hk : (if ∃ b, (lkN ng σ b).bind φ.f = some r ∧ ((hOf e.nb e.HB).get b).mut then none else w.heap[r]?) = some o := hk
          split at hk
          · cases hk
          · rename_i hn
            exact ⟨hk, fun b e' hmt => hn ⟨b, e', hmt⟩⟩
      have hgψ : GL ng ψ := fun g hlt => hof g g g (lkN_lt hlt) (hg g hlt)
      have haψ : VRs ψ e.args args' := m1.2.2 φ ψ (hrel.sub b1) _ ha
      refine (he.ok ψ w args' hgψ hyd haψ hrψ n).mono ?_
      rintro r w' ⟨ψ', u, rfl, hx, hv, hr'⟩
      have hnn : e.nb ≤ e.nb' := by
        have := hx.cnt
        rw [hr'.cnt] at this
        exact this
      have hyk : ψ'.y = ψ.y := hx.le.yy
      let φ' : Ren := { f := fun b => if b < h.n then φ b else ψ' (b - h.n + e.nb), n := fun b => if b < h.n then φ.n b else ψ'.n (b - h.n + e.nb), y := φ.y, m := h.n + (e.nb' - e.nb) }
      have hlo : ∀ b, b < h.n → φ' b = φ b ∧ φ'.n b = φ.n b := fun b hb => ⟨if_pos hb, if_pos hb⟩
      have hhi : ∀ b, h.n ≤ b → φ' b = ψ' (b - h.n + e.nb) ∧ φ'.n b = ψ'.n (b - h.n + e.nb) := fun b hb => ⟨if_neg (by omega), if_neg (by omega)⟩
      have hs1 : ∀ c b, lkN ng σ c = some b → subB ng σ e.nb h.n c = b := fun c b hc => by
        have := (hcov' c b hc).2.2
        unfold subB
        rw [blt_iff.2 this, hc]; rfl
      have hs2 : ∀ c, e.nb ≤ c → subB ng σ e.nb h.n c = c - e.nb + h.n := fun c hc => by
        unfold subB
        have : Nat.blt c e.nb = false := by
          cases hb : Nat.blt c e.nb with
          | false => rfl
          | true => have := blt_iff.1 hb; omega
        rw [this]; rfl
      have hold' : ∀ c r, c < e.nb → ψ' c = some r → ∃ b, lkN ng σ c = some b ∧ φ b = some r ∧ ψ c = some r := fun c r hc e' => by
        rcases hx.only c r e' with h5 | h5
        · obtain ⟨b, hb, hbr⟩ := hat c r h5
          exact ⟨b, hb, hbr, h5⟩
        · have : ψ.m = e.nb := rfl
          rw [this] at h5; omega
      have hrn : RnOK (subB ng σ e.nb h.n) ψ' φ' := by
        refine ⟨fun c r e' => ?_, ?_, ?_, ?_⟩
        · rcases Nat.lt_or_ge c e.nb with hc | hc
          · obtain ⟨b, hb, hbr, hcr⟩ := hold' c r hc e'
            rw [hs1 c b hb]
            have hbn := (hr.dom b r hbr).1
            refine ⟨(hlo b hbn).1.trans hbr, (hlo b hbn).2.trans ?_⟩
            rw [(hx.le c r hcr).2, (hrel c b hb).2]
          · rw [hs2 c hc]
            have h6 := hhi (c - e.nb + h.n) (by omega)
            rw [show c - e.nb + h.n - h.n + e.nb = c by omega] at h6
            exact ⟨h6.1.trans e', h6.2⟩
        · show φ.y.s = ψ'.y.s
          rw [hyk]
        · show φ.y.q = ψ'.y.q
          rw [hyk]
        · show φ.y.w = ψ'.y.w
          rw [hyk]
      have hbn : ∀ c b, lkN ng σ c = some b → b < h.n := fun c b hc => (hcov' c b hc).2.1
      -- names of what is written
      let C : Nat → Prop := fun c => (∃ b, lkN ng σ c = some b) ∨ e.nb ≤ c
      have hCinj : ∀ c c', C c → C c' → subB ng σ e.nb h.n c = subB ng σ e.nb h.n c' → c = c' := fun c c' hc hc' es => by
        rcases hc with ⟨b, hb⟩ | hc
        · have := hbn c b hb
          rcases hc' with ⟨b', hb'⟩ | hc'
          · rw [hs1 c b hb, hs1 c' b' hb'] at es
            subst es
            exact hgd.injN hb hb'
          · rw [hs1 c b hb, hs2 c' hc'] at es; omega
        · rcases hc' with ⟨b', hb'⟩ | hc'
          · have := hbn c' b' hb'
            rw [hs2 c hc, hs1 c' b' hb'] at es; omega
          · rw [hs2 c hc, hs2 c' hc'] at es; omega
      have hCall : ∀ c p, (c, p) ∈ e.all → C c := fun c p hm => by
        rcases List.mem_append.1 hm with hm | hm
        · rcases Nat.lt_or_ge c e.nb with hc | hc
          · obtain ⟨q, hq⟩ := hasK_iff.1 ((oldB_ok hold c p hm).1 hc)
            obtain ⟨b, hb, h4⟩ := b3 c q hq
            exact .inl ⟨b, hb⟩
          · exact .inr hc
        · obtain ⟨b, hb, _⟩ := b3 c p (restB_mem (mutB_mem.1 hm).1).1
          exact .inl ⟨b, hb⟩
      have hallp : ∀ c p, (c, p) ∈ e.all → lkB e.all c = p → (hOf e.nb' e.post).get c = p := fun c p hm hl => by
        rw [hOf_get, Ent.post, lkB_append]
        rw [Ent.all, lkB_append] at hl
        by_cases hk : hasK e.out c = true
        · rw [if_pos hk] at hl ⊢; exact hl
        · rw [if_neg hk]
          rcases List.mem_append.1 hm with hm | hm
          · exact absurd (hasK_iff.2 ⟨p, hm⟩) hk
          · have h5 := restB_mem (mutB_mem.1 hm).1
            rw [lkB_restB h5.2]
            exact ndB_lk hnd.1.1 h5.1
      have hget := putAll_get (subB ng σ e.nb h.n) (C := C) hCinj e.all ⟨h.n + (e.nb' - e.nb), h.t⟩ hCall
      have key : ∀ b r, φ' b = some r → (∃ c p, ψ' c = some r ∧ (hOf e.nb' e.post).get c = p ∧ (putAll (subB ng σ e.nb h.n) e.all ⟨h.n + (e.nb' - e.nb), h.t⟩).get b = rnB (subB ng σ e.nb h.n) p ∧ subB ng σ e.nb h.n c = b) ∨
          (b < h.n ∧ φ b = some r ∧ (putAll (subB ng σ e.nb h.n) e.all ⟨h.n + (e.nb' - e.nb), h.t⟩).get b = h.get b ∧ ∀ c p, (c, p) ∈ e.all → subB ng σ e.nb h.n c ≠ b) := fun b r e' => by
        rcases hget b with ⟨c, p, g1, g2, g3, g4⟩ | ⟨g1, g2⟩
        · refine .inl ⟨c, p, ?_, hallp c p g1 g3, g4, g2⟩
          rcases Nat.lt_or_ge c e.nb with hcn | hcn
          · rcases hCall c p g1 with ⟨b', hb'⟩ | h5
            · have h6 := hs1 c b' hb'
              rw [h6] at g2; subst g2
              have h7 := hof c b' r hb' (by rw [← (hlo b' (hbn c b' hb')).1]; exact e')
              exact (hx.le c r h7).1
            · omega
          · have h6 := hs2 c hcn
            rw [h6] at g2
            have h7 := (hhi b (by omega)).1
            rw [show b - h.n + e.nb = c by omega] at h7
            rw [← h7]; exact e'
        · refine .inr ?_
          rcases Nat.lt_or_ge b h.n with hb | hb
          · exact ⟨hb, by rw [← (hlo b hb).1]; exact e', g2, g1⟩
          · have h7 := (hhi b hb).1
            have h8 : ψ' (b - h.n + e.nb) = some r := by rw [← h7]; exact e'
            have h9 := (hr'.dom _ r h8).1
            have h9 : b - h.n + e.nb < e.nb' := h9
            obtain ⟨p, hp⟩ := hasK_iff.1 (newB_ok hnew (b - h.n + e.nb) (by omega) (by omega))
            exact absurd (by rw [hs2 _ (by omega)]; omega) (g1 _ p (List.mem_append.2 (.inl hp)))
      have hdomL : ∀ b r, φ' b = some r → b < h.n + (e.nb' - e.nb) ∧ r < w'.heap.size := fun b r e' => by
        rcases Nat.lt_or_ge b h.n with hb | hb
        · have e'' : φ b = some r := by rw [← (hlo b hb).1]; exact e'
          exact ⟨by omega, Nat.lt_of_lt_of_le (hr.dom b r e'').2 hx.size⟩
        · have h8 : ψ' (b - h.n + e.nb) = some r := by rw [← (hhi b hb).1]; exact e'
          have h9 := hr'.dom _ r h8
          have h10 : b - h.n + e.nb < e.nb' := h9.1
          exact ⟨by omega, h9.2⟩
      have hkept : ∀ b r, b < h.n → φ b = some r → (h.get b).live → (∀ c p, (c, p) ∈ e.all → subB ng σ e.nb h.n c ≠ b) → ∀ c, ψ c = some r → ¬ ((hOf e.nb e.HB).get c).mut ∧ ((hOf e.nb' e.post).get c).live := fun b r hb hbr hlv hno c hc => by
        obtain ⟨b0, h5, h6⟩ := hat c r hc
        have h7 := hHB c b0 h5
        have h8 := hr.inj b0 b r h6 hbr h7.2.1 hlv
        subst h8
        have hnot : ∀ p, (c, p) ∉ e.all := fun p hm => hno c p hm (hs1 c b0 h5)
        have hcHB := h7.1
        rw [hOf_get] at hcHB
        have hm := lkB_mem hcHB
        have hko : hasK e.out c = false := by
          cases hk : hasK e.out c with
          | false => rfl
          | true =>
            obtain ⟨p, hp⟩ := hasK_iff.1 hk
            exact absurd (List.mem_append.2 (.inl hp)) (hnot p)
        have hrest : (c, lkB e.HB c) ∈ restB e.out e.HB := by
          have : ∀ {l : List (Nat × Blk)} {p : Blk}, (c, p) ∈ l → (c, p) ∈ restB e.out l := by
            intro l
            induction l with
            | nil => intro _ h; cases h
            | cons kq l ih =>
              obtain ⟨k, q⟩ := kq
              intro p h
              simp only [restB]
              rcases List.mem_cons.1 h with e5 | e5
              · cases e5; rw [hko]; simp
              · cases hasK e.out k with
                | true => exact ih e5
                | false => exact List.mem_cons_of_mem _ (ih e5)
          exact this hm
        constructor
        · intro hmt
          rw [hOf_get] at hmt
          exact hnot _ (List.mem_append.2 (.inr (mutB_mem.2 ⟨hrest, mutK_of hmt⟩)))
        · rw [hOf_get, Ent.post, lkB_append, if_neg (by rw [hko]; simp), lkB_restB hko]
          exact hcHB
      have hkψ : ∀ r o, φ.y.k r = some o → ψ.y.k r = some o := fun r o hk0 => by
        obtain ⟨k1, k2⟩ := hr.kp r o hk0
        show (if ∃ b, (lkN ng σ b).bind φ.f = some r ∧ ((hOf e.nb e.HB).get b).mut then none else w.heap[r]?) = some o
        rw [if_neg]
        · exact k1
        · rintro ⟨c, e3, e4⟩
          obtain ⟨b0, h5, h6⟩ := hat c r e3
          exact k2 b0 h6 ((hHB c b0 h5).2.2 e4)
      refine ⟨φ', u, rfl, ⟨⟨fun b r e' => ?_, rfl⟩, ?_, fun b r e' => ?_, hx.dr, hx.size, hx.os, hx.tape, hx.output, fun r hlt hno => ?_⟩, rnV_ok hrn _ _ hv, ⟨?_, fun b r e' => ?_, fun b r e' hlv => ?_, fun b b' r e1 e2 hlv hlv' => ?_, fun r o hk => ?_⟩⟩
      · have hb := (hr.dom b r e').1
        exact ⟨(hlo b hb).1.trans e', (hlo b hb).2⟩
      · show φ.m ≤ h.n + (e.nb' - e.nb)
        rw [hr.cnt]; omega
      · rcases Nat.lt_or_ge b h.n with hb | hb
        · exact .inl (by rw [← (hlo b hb).1]; exact e')
        · refine .inr ⟨by rw [hr.cnt]; exact hb, ?_⟩
          have h8 : ψ' (b - h.n + e.nb) = some r := by rw [← (hhi b hb).1]; exact e'
          rcases hx.nw _ r h8 with h9 | ⟨_, h9 | ⟨⟨c0, h9⟩, h11⟩⟩
          · obtain ⟨b0, h10, _⟩ := hat _ r h9
            have := (hcov' _ b0 h10).2.2
            omega
          · exact .inl h9
          · obtain ⟨b0, _, h10⟩ := hat c0 r h9
            refine .inr ⟨⟨b0, h10⟩, ?_⟩
            cases hk : φ.y.k r with
            | none => rfl
            | some o => rw [hkψ r o hk] at h11; cases h11
      · exact hx.frame r hlt fun c e' => by
          obtain ⟨b0, _, h10⟩ := hat c r e'
          exact hno b0 h10
      · rw [putAll_n]
      · rw [putAll_n]; exact hdomL b r e'
      · rcases key b r e' with ⟨c, p, g1, g2, g3, g4⟩ | ⟨g1, g2, g3, g4⟩
        · rw [g3] at hlv ⊢
          obtain ⟨o, o1, o2⟩ := hr'.blk c r g1 (by rw [g2]; exact rnB_live hlv)
          rw [g2] at o2
          have := (hrn.at_ c r g1).2
          rw [g4] at this
          exact ⟨o, o1, by rw [this]; exact rnB_ok hrn o2⟩
        · rw [g3] at hlv ⊢
          obtain ⟨o, o1, o2⟩ := hr.blk b r g2 hlv
          have hnm := hkept b r g1 g2 hlv g4
          have hk : ψ.y.k r = some o := by
            show (if ∃ b, (lkN ng σ b).bind φ.f = some r ∧ ((hOf e.nb e.HB).get b).mut then none else w.heap[r]?) = some o
            rw [if_neg]
            · exact o1
            · rintro ⟨c, e3, e4⟩
              exact (hnm c e3).1 e4
          rw [← hyk] at hk
          refine ⟨o, (hr'.kp r o hk).1, ?_⟩
          rw [(hlo b g1).2]
          have hle : Le φ φ' := ⟨fun b r e' => by
            have hb := (hr.dom b r e').1
            exact ⟨(hlo b hb).1.trans e', (hlo b hb).2⟩, rfl⟩
          exact o2.mono hle
      · have mixed : ∀ b1 b2, φ' b1 = some r → (∃ c p, ψ' c = some r ∧ (hOf e.nb' e.post).get c = p ∧ (putAll (subB ng σ e.nb h.n) e.all ⟨h.n + (e.nb' - e.nb), h.t⟩).get b1 = rnB (subB ng σ e.nb h.n) p ∧ subB ng σ e.nb h.n c = b1) → ((putAll (subB ng σ e.nb h.n) e.all ⟨h.n + (e.nb' - e.nb), h.t⟩).get b1).live →
            b2 < h.n → φ b2 = some r → (h.get b2).live → (∀ c p, (c, p) ∈ e.all → subB ng σ e.nb h.n c ≠ b2) → b1 = b2 := fun b1 b2 e1 hi hlv1 g1 g2 hlv2 g4 => by
          obtain ⟨c, p, i1, i2, i3, i4⟩ := hi
          rw [i3] at hlv1
          have hpl := rnB_live hlv1
          rcases Nat.lt_or_ge c e.nb with hc | hc
          · obtain ⟨b0, h5, h6, h7⟩ := hold' c r hc i1
            rw [hs1 c b0 h5] at i4
            subst i4
            exact hr.inj b0 b2 r h6 g2 (hHB c b0 h5).2.1 hlv2
          · rcases hx.new c r i1 with ⟨c0, h9⟩ | h9
            · have h10 := (hkept b2 r g1 g2 hlv2 g4 c0 h9).2
              have h11 := (hx.le c0 r h9).1
              have h12 := hr'.inj c0 c r h11 i1 h10 (by rw [i2]; exact hpl)
              obtain ⟨b0, h13, _⟩ := hat c0 r h9
              have := (hcov' c0 b0 h13).2.2
              omega
            · have := (hr.dom b2 r g2).2
              omega
        rcases key b r e1 with ⟨c, p, g1, g2, g3, g4⟩ | ⟨g1, g2, g3, g4⟩
        · rcases key b' r e2 with ⟨c', p', k1, k2, k3, k4⟩ | ⟨k1, k2, k3, k4⟩
          · rw [g3] at hlv; rw [k3] at hlv'
            have := hr'.inj c c' r g1 k1 (by rw [g2]; exact rnB_live hlv) (by rw [k2]; exact rnB_live hlv')
            rw [← g4, ← k4, this]
          · rw [k3] at hlv'
            exact mixed b b' e1 ⟨c, p, g1, g2, g3, g4⟩ hlv k1 k2 hlv' k4
        · rcases key b' r e2 with ⟨c', p', k1, k2, k3, k4⟩ | ⟨k1, k2, k3, k4⟩
          · rw [g3] at hlv
            exact (mixed b' b e2 ⟨c', p', k1, k2, k3, k4⟩ hlv' g1 g2 hlv g4).symm
          · rw [g3] at hlv; rw [k3] at hlv'
            exact hr.inj b b' r g2 k2 hlv hlv'
      · have hk0 : φ.y.k r = some o := hk
        obtain ⟨k1, k2⟩ := hr.kp r o hk0
        have hkψ' := hkψ r o hk0
        rw [← hyk] at hkψ'
        obtain ⟨l1, l2⟩ := hr'.kp r o hkψ'
        refine ⟨l1, fun b e' hmt => ?_⟩
        rcases key b r e' with ⟨c, p, g1, g2, g3, g4⟩ | ⟨g1, g2, g3, g4⟩
        · rw [g3] at hmt
          exact l2 c g1 (by rw [g2]; exact rnB_mut hmt)
        · rw [g3] at hmt
          exact k2 b g2 hmt
    · cases hu
  · cases hu

end
end Go.Ev

/- The abstract machine, part Mt: proved calls, in a table by functions. -/
namespace Go.Ev
noncomputable section

def lookE (ng : Nat) (f : FuncId) (args : List V) (h : H) : List Ent → Option (V × H)
  | [] => none
  | e :: l =>
    match cond (Nat.beq e.f f) (useE ng e args h) none with
    | some r => some r
    | none => lookE ng f args h l
theorem lookE_ok {P : Program} {ng : Nat} {f : FuncId} {args : List V} {h : H} {v : V} {h' : H} : ∀ {l : List Ent}, (∀ e ∈ l, e.OK P ng) → lookE ng f args h l = some (v, h') → ∃ e, e.OK P ng ∧ e.f = f ∧ useE ng e args h = some (v, h')
  | [], _, e => by cases e
  | e :: l, hl, hs => by
    simp only [lookE] at hs
    split at hs
    · rename_i r hr
      obtain ⟨h1, h2⟩ := cond_some hr
      cases hs
      exact ⟨e, hl e (by simp), Nat.eq_of_beq_eq_true h1, h2⟩
    · exact lookE_ok (fun e' he => hl e' (List.mem_cons_of_mem _ he)) hs

def mkT : List Ent → T (List Ent)
  | [] => .leaf
  | e :: l => T.set [] (mkT l) e.f (e :: T.get [] (mkT l) e.f)
theorem mkT_mem : ∀ {l : List Ent} {f : Nat} {e : Ent}, e ∈ T.get [] (mkT l) f → e ∈ l
  | [], f, e, h => by rw [mkT, T.get_leaf] at h; cases h
  | e0 :: l, f, e, h => by
    rw [mkT, T.get_set] at h
    by_cases hf : f = e0.f
    · rw [if_pos hf] at h
      rcases List.mem_cons.1 h with h | h
      · rw [h]; simp
      · exact List.mem_cons_of_mem _ (mkT_mem h)
    · rw [if_neg hf] at h
      exact List.mem_cons_of_mem _ (mkT_mem h)

def ehT (ng : Nat) (t : T (List Ent)) (f : FuncId) (args : List V) (h : H) : Option (V × H) := lookE ng f args h (T.get [] t f)
theorem ehT_ok {P : Program} {ng : Nat} {L : List Ent} (hL : ∀ e ∈ L, e.OK P ng) : ∀ f args h v h', ehT ng (mkT L) f args h = some (v, h') → ∀ φ w args', GL ng φ → φ.y.d = false → VRs φ args args' → HR φ h w →
    (∃ fn c, P.funcs[f]? = some fn ∧ fn.body = some c ∧ (fn.name == "runtime.NumGoroutine") = false) ∧
    ∀ n, CallsIn (W none) n P f args'.toArray w fun e w' => ∃ φ' u, e = .returned u ∧ Ext φ w φ' w' ∧ VR φ' v u ∧ HR φ' h' w' := fun f args h v h' hs φ w args' hg hyd ha hr => by
  obtain ⟨e, h1, h2, h3⟩ := lookE_ok (fun e he => hL e (mkT_mem he)) hs
  subst h2
  exact ⟨h1.has, fun n => useE_ok h1 h3 hg hyd ha hr n⟩

/-- An evaluator that knows the calls of a table. -/
def ehU (E : Env) (t : T (List Ent)) (f : FuncId) (args : List V) (h : H) : Option (V × H) :=
  match ehT E.ng t f args h with
  | some r => some r
  | none => E.eh f args h
def envT (E : Env) (t : T (List Ent)) : Env := { E with eh := ehU E t }
theorem envT_ok {E : Env} (hE : E.OK) (hkd : E.kd = true) {L : List Ent} (hL : ∀ e ∈ L, e.OK E.P E.ng) : (envT E (mkT L)).OK := by
  refine ⟨hE.ty, hE.fn, hE.mixed, hE.hl, hE.qh, ?_, hE.xh, fun h φ hk φ' hle => ?_, hE.sf, hE.kf, hE.cm⟩
  · intro f args h v h' e φ w args' hg hk ha hr
    have e : ehU E (mkT L) f args h = some (v, h') := e
    unfold ehU at e
    split at e
    · rename_i r hs
      simp only [Option.some.injEq] at e
      subst e
      exact ehT_ok hL f args h v h' hs φ w args' hg (hk hkd) ha hr
    · exact hE.eh f args h v h' e φ w args' hg hk ha hr
  · have := hE.pl h φ hk φ' hle
    exact ⟨this.bd, this.bin, this.mx, this.rx, this.rl, this.re, this.qs, this.mg, this.ml, this.qc, this.xt, this.kd⟩

end
end Go.Ev
