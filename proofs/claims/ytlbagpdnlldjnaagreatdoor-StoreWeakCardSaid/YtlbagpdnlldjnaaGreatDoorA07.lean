/- The abstract machine, part Rn: names of blocks, given anew. -/
import Derived.Test.YtlbagpdnlldjnaaGreatDoorA06
set_option linter.all false
namespace Go.Ev
noncomputable section
mutual
def rnV (s : Nat → Nat) : V → V
 | .top => .top
 | .b x => .b x
 | .i k n => .i k n
 | .y k x => .y k x
 | .q x => .q x
 | .sr b x k sz => .sr (s b) x k sz
 | .pr b x y sz off => .pr (s b) x y sz off
 | .s l => .s l
 | .p none => .p none
 | .p (some (b, o)) => .p (some (s b, o))
 | .sl none n c => .sl none n c
 | .sl (some (b, o)) n c => .sl (some (s b, o)) n c
 | .es => .es
 | .m none => .m none
 | .m (some b) => .m (some (s b))
 | .f fn a c => .f fn (rnVs s a) (rnVs s c)
 | .yl r => .yl (s r)
 | .o => .o
 | .nf => .nf
 | .ifc t v => .ifc t (rnV s v)
 | .ni => .ni
 | .a cs => .a (rnVs s cs)
 | .t vs => .t (rnVs s vs)
def rnVs (s : Nat → Nat) : List V → List V
 | [] => []
 | x :: xs => rnV s x :: rnVs s xs
end
structure RnOK (s : Nat → Nat) (ψ φ : Ren) : Prop where
 at_ : ∀ c r, ψ c = some r → φ (s c) = some r ∧ φ.n (s c) = ψ.n c
 ys : φ.s = ψ.s
 yq : φ.q = ψ.q
 yw : φ.w = ψ.w
mutual
theorem rnV_ok {s : Nat → Nat} {ψ φ : Ren} (h : RnOK s ψ φ) : ∀ (x : V) (v : Value), VR ψ x v → VR φ (rnV s x) v
 | .top, _, _ => by simp [rnV, VR]
 | .b x, v, e => by simpa [rnV, VR] using e
 | .i k n, v, e => by simpa [rnV, VR] using e
 | .y k x, v, e => by
  simp only [rnV, VR] at e ⊢
  rw [h.ys]; exact e
 | .q x, v, e => by
  simp only [rnV, VR] at e ⊢
  rw [h.yq]; exact e
 | .sr b x k sz, v, e => by
  simp only [rnV, VR] at e ⊢
  obtain ⟨r, n, cap, hr, h1, h2, h3, h4, h5⟩ := e
  exact ⟨r, n, cap, (h.at_ b r hr).1, h1, by rw [h.yw]; exact h2, h3, by rw [(h.at_ b r hr).2]; exact h4, h5⟩
 | .pr b x y sz off, v, e => by
  simp only [rnV, VR] at e ⊢
  obtain ⟨r, n, hr, h1, h2⟩ := e
  exact ⟨r, n, (h.at_ b r hr).1, by rw [h.ys]; exact h1, h2⟩
 | .s l, v, e => by simpa [rnV, VR] using e
 | .p none, v, e => by simpa [rnV, VR] using e
 | .p (some (b, o)), v, e => by
  simp only [rnV, VR] at e ⊢
  obtain ⟨r, hr, hv⟩ := e
  exact ⟨r, (h.at_ b r hr).1, hv⟩
 | .sl none n c, v, e => by simpa [rnV, VR] using e
 | .sl (some (b, o)) n (.kn c), v, e => by
  simp only [rnV, VR] at e ⊢
  obtain ⟨r, hr, rest⟩ := e
  exact ⟨r, (h.at_ b r hr).1, rest⟩
 | .sl (some (b, o)) n (.un sz), v, e => by
  simp only [rnV, VR] at e ⊢
  obtain ⟨r, cap, hr, h1, h2, h3⟩ := e
  exact ⟨r, cap, (h.at_ b r hr).1, h1, by rw [(h.at_ b r hr).2]; exact h2, h3⟩
 | .es, v, e => by simpa [rnV, VR] using e
 | .m none, v, e => by simpa [rnV, VR] using e
 | .m (some b), v, e => by
  simp only [rnV, VR] at e ⊢
  obtain ⟨r, hr, hv⟩ := e
  exact ⟨r, (h.at_ b r hr).1, hv⟩
 | .f fn first caps, v, e => by
  simp only [rnV, VR] at e ⊢
  obtain ⟨f', c', hv, h1, h2⟩ := e
  exact ⟨f', c', hv, rnVs_ok h first _ h1, rnVs_ok h caps _ h2⟩
 | .yl b, v, e => by
  simp only [rnV, VR] at e ⊢
  obtain ⟨r, hr, hv⟩ := e
  exact ⟨r, (h.at_ b r hr).1, hv⟩
 | .o, v, e => by simpa [rnV, VR] using e
 | .nf, v, e => by simpa [rnV, VR] using e
 | .ifc t x, v, e => by
  simp only [rnV, VR] at e ⊢
  obtain ⟨x', hv, hx⟩ := e
  exact ⟨x', hv, rnV_ok h x x' hx⟩
 | .ni, v, e => by simpa [rnV, VR] using e
 | .a cs, v, e => by
  simp only [rnV, VR] at e ⊢
  obtain ⟨cs', hv, hx⟩ := e
  exact ⟨cs', hv, rnVs_ok h cs _ hx⟩
 | .t cs, v, e => by
  simp only [rnV, VR] at e ⊢
  obtain ⟨cs', hv, hx⟩ := e
  exact ⟨cs', hv, rnVs_ok h cs _ hx⟩
theorem rnVs_ok {s : Nat → Nat} {ψ φ : Ren} (h : RnOK s ψ φ) : ∀ (x : List V) (v : List Value), VRs ψ x v → VRs φ (rnVs s x) v
 | [], v, e => by simpa [rnVs, VRs] using e
 | x :: xs, v, e => by
  simp only [rnVs, VRs] at e ⊢
  obtain ⟨y, ys, hv, hx, hxs⟩ := e
  exact ⟨y, ys, hv, rnV_ok h x y hx, rnVs_ok h xs ys hxs⟩
end
theorem rnVs_length (s : Nat → Nat) : ∀ l : List V, (rnVs s l).length = l.length
 | [] => rfl
 | x :: xs => by simp [rnVs, rnVs_length s xs]
def rnE (s : Nat → Nat) : List (V × V × Nat) → List (V × V × Nat)
 | [] => []
 | (k, v, n) :: l => (rnV s k, rnV s v, n) :: rnE s l
theorem rnE_ok {s : Nat → Nat} {ψ φ : Ren} (h : RnOK s ψ φ) : ∀ (x : List (V × V × Nat)) (l : List MapEntry), ERs ψ x l → ERs φ (rnE s x) l
 | [], l, e => by simpa [rnE, ERs] using e
 | (k, v, n) :: xs, l, e => by
  simp only [rnE, ERs] at e ⊢
  obtain ⟨en, es, hl, h1, h2, h3, h4⟩ := e
  exact ⟨en, es, hl, rnV_ok h k _ h1, rnV_ok h v _ h2, h3, rnE_ok h xs _ h4⟩
def rnB (s : Nat → Nat) : Blk → Blk
 | .cells l e g => .cells (rnVs s l) e g
 | .rc l e => .rc (rnVs s l) e
 | .mp es c => .mp (rnE s es) c
 | .iter l p => .iter l p
 | .gone => .gone
 | .row .. => .gone
 | .smp .. => .gone
 | .rw .. => .gone
 | .rm .. => .gone
 | .loop .. => .gone
 | .dfr => .gone
 | .mit .. => .gone
 | .mi0 => .gone
 | .mie .. => .gone
 | .pm .. => .gone
 | .ms .. => .gone
 | .rb .. => .gone
theorem rnB_ok {s : Nat → Nat} {ψ φ : Ren} (h : RnOK s ψ φ) {N : Nat} {p : Blk} {o : Obj} (hb : BR ψ N p o) : BR φ N (rnB s p) o := by
 cases p with
 | cells l e g =>
  obtain ⟨c, h1, h2, h3, h4, h5⟩ := hb
  exact ⟨c, h1, by rw [rnVs_length]; exact rnVs_ok h _ _ h2, by rw [rnVs_length]; exact h3, fun hg => by rw [rnVs_length]; exact h4 hg, h5⟩
 | rc l e =>
  obtain ⟨c, h1, h2, h3, h4⟩ := hb
  exact ⟨c, h1, by rw [rnVs_length]; exact rnVs_ok h _ _ h2, by rw [rnVs_length]; exact h3, h4⟩
 | mp es k =>
  obtain ⟨c, h1, h2⟩ := hb
  exact ⟨c, h1, rnE_ok h _ _ h2⟩
 | iter l k => exact hb
 | _ => trivial
theorem rnB_live {s : Nat → Nat} {p : Blk} (h : (rnB s p).live) : p.live := by
 cases p <;> first | trivial | exact h
theorem rnB_mut {s : Nat → Nat} {p : Blk} (h : (rnB s p).mut) : p.mut := by
 cases p <;> first | trivial | exact h
end
end Go.Ev
namespace Go.Ev
noncomputable section
def fcB {R : Type} (b : Bool) (k : Bool → Option R) : Option R := match b with | true => k true | false => k false
theorem fcB_eq {R : Type} (b : Bool) (k : Bool → Option R) : fcB b k = k b := by cases b <;> rfl
def fcK {R : Type} (i : IntKind) (k : IntKind → Option R) : Option R :=
 match i with | .i8 => k .i8 | .i16 => k .i16 | .i32 => k .i32 | .i64 => k .i64 | .u8 => k .u8 | .u16 => k .u16 | .u32 => k .u32 | .u64 => k .u64
theorem fcK_eq {R : Type} (i : IntKind) (k : IntKind → Option R) : fcK i k = k i := by cases i <;> rfl
def fcI {R : Type} (i : Int) (k : Int → Option R) : Option R :=
 match i with | .ofNat n => forceN n fun n => k (.ofNat n) | .negSucc n => forceN n fun n => k (.negSucc n)
theorem fcI_eq {R : Type} (i : Int) (k : Int → Option R) : fcI i k = k i := by cases i <;> simp [fcI, forceN_eq]
def fcL {R : Type} : List Nat → (List Nat → Option R) → Option R
 | [], k => k []
 | x :: xs, k => forceN x fun x => fcL xs fun xs => k (x :: xs)
theorem fcL_eq {R : Type} : ∀ (l : List Nat) (k : List Nat → Option R), fcL l k = k l
 | [], k => rfl
 | x :: xs, k => by simp only [fcL, forceN_eq]; exact fcL_eq xs _
def fcC {R : Type} (c : Cap) (k : Cap → Option R) : Option R :=
 match c with | .kn c => forceN c fun c => k (.kn c) | .un c => forceN c fun c => k (.un c)
theorem fcC_eq {R : Type} (c : Cap) (k : Cap → Option R) : fcC c k = k c := by cases c <;> simp [fcC, forceN_eq]
structure CS where
 s : T Nat
 t : T Nat
 l : List (Nat × Nat)
 n : Nat
def SQ (ng : Nat) (c : CS) (m : Nat) : Nat := cond (Nat.blt m ng) m (Nat.pred (T.get 0 c.t m))
structure Iv (ng hn : Nat) (c : CS) : Prop where
 g0 : ng ≤ c.n
 h0 : ng ≤ hn
 ok : ∀ b m, T.get 0 c.s b = m + 1 → ng ≤ m ∧ m < c.n ∧ T.get 0 c.t m = b + 1
 all : ∀ m, ng ≤ m → m < c.n → ∃ b, ng ≤ b ∧ b < hn ∧ T.get 0 c.s b = m + 1
 l : ∀ b m, (b, m) ∈ c.l → m < c.n ∧ SQ ng c m = b
structure SubC (ng : Nat) (c c' : CS) : Prop where
 n : c.n ≤ c'.n
 s : ∀ m, m < c.n → SQ ng c' m = SQ ng c m
theorem SubC.refl (ng : Nat) (c : CS) : SubC ng c c := ⟨Nat.le_refl _, fun _ _ => rfl⟩
theorem SubC.trans {ng : Nat} {a b c : CS} (h : SubC ng a b) (k : SubC ng b c) : SubC ng a c := ⟨Nat.le_trans h.n k.n, fun m hm => (k.s m (Nat.lt_of_lt_of_le hm h.n)).trans (h.s m hm)⟩
theorem SQ_lo {ng : Nat} {c : CS} {m : Nat} (h : m < ng) : SQ ng c m = m := by unfold SQ; rw [blt_iff.2 h]; rfl
theorem blt_no {a b : Nat} (h : b ≤ a) : Nat.blt a b = false := by
 cases hb : Nat.blt a b with
 | false => rfl
 | true => have := blt_iff.1 hb; omega
theorem SQ_hi {ng : Nat} {c : CS} {m : Nat} (h : ng ≤ m) : SQ ng c m = Nat.pred (T.get 0 c.t m) := by unfold SQ; rw [blt_no h]; rfl
theorem Iv.lt {ng hn : Nat} {c : CS} (i : Iv ng hn c) {m : Nat} (h : m < c.n) : SQ ng c m < hn := by
 rcases Nat.lt_or_ge m ng with h1 | h1
 ·rw [SQ_lo h1]; exact Nat.lt_of_lt_of_le h1 i.h0
 ·obtain ⟨b, _, h2, h3⟩ := i.all m h1 h
  rw [SQ_hi h1, (i.ok b m h3).2.2]; exact h2
theorem Iv.inj {ng hn : Nat} {c : CS} (i : Iv ng hn c) {m m' : Nat} (h : m < c.n) (h' : m' < c.n) (e : SQ ng c m = SQ ng c m') : m = m' := by
 have key : ∀ m, ng ≤ m → m < c.n → ng ≤ SQ ng c m ∧ T.get 0 c.s (SQ ng c m) = m + 1 := fun m h1 h2 => by
  obtain ⟨b, h3, _, h4⟩ := i.all m h1 h2
  rw [SQ_hi h1, (i.ok b m h4).2.2]
  exact ⟨h3, h4⟩
 rcases Nat.lt_or_ge m ng with h1 | h1
 ·rcases Nat.lt_or_ge m' ng with h2 | h2
  ·rw [SQ_lo h1, SQ_lo h2] at e; exact e
  ·have := (key m' h2 h').1
   rw [SQ_lo h1] at e; omega
 ·rcases Nat.lt_or_ge m' ng with h2 | h2
  ·have := (key m h1 h).1
   rw [SQ_lo h2] at e; omega
  ·have a := (key m h1 h).2
   have b := (key m' h2 h').2
   rw [e, b] at a; omega
def cpN {R : Type} (ng hn b : Nat) (c : CS) (k : Nat → CS → Option R) : Option R :=
 cond (Nat.blt b ng) (forceN b fun b => k b c)
  (match T.get 0 c.s b with
   | 0 => cond (Nat.blt b hn) (forceN c.n fun m => k m ⟨T.set 0 c.s b (Nat.succ m), T.set 0 c.t m (Nat.succ b), (b, m) :: c.l, Nat.succ m⟩) none
   | m + 1 => forceN m fun m => k m c)
theorem cpN_ok {R : Type} (ng hn b : Nat) (c : CS) (k : Nat → CS → Option R) : cpN ng hn b c k = none ∨ ∃ m c', cpN ng hn b c k = k m c' ∧ (Iv ng hn c → Iv ng hn c' ∧ SubC ng c c' ∧ m < c'.n ∧ SQ ng c' m = b) := by
 unfold cpN
 cases hb : Nat.blt b ng with
 | true =>
  refine .inr ⟨b, c, by simp only [cond, forceN_eq], fun i => ⟨i, SubC.refl _ _, Nat.lt_of_lt_of_le (blt_iff.1 hb) i.g0, SQ_lo (blt_iff.1 hb)⟩⟩
 | false =>
  simp only [cond_false]
  have hbn : ng ≤ b := by
   rcases Nat.lt_or_ge b ng with h | h
   ·rw [blt_iff.2 h] at hb; cases hb
   ·exact h
  split
  ·rename_i h0
   cases hh : Nat.blt b hn with
   | false => exact .inl rfl
   | true =>
    simp only [cond_true, forceN_eq]
    refine .inr ⟨c.n, _, rfl, fun i => ?_⟩
    have hgt : ∀ m, T.get 0 (T.set 0 c.t c.n (Nat.succ b)) m = if m = c.n then Nat.succ b else T.get 0 c.t m := fun m => T.get_set _ _ _ _ _
    have hsub : ∀ m, m < c.n → SQ ng ⟨T.set 0 c.s b (Nat.succ c.n), T.set 0 c.t c.n (Nat.succ b), (b, c.n) :: c.l, Nat.succ c.n⟩ m = SQ ng c m := fun m hm => by
     unfold SQ
     rw [hgt, if_neg (by omega)]
    have hnew : SQ ng ⟨T.set 0 c.s b (Nat.succ c.n), T.set 0 c.t c.n (Nat.succ b), (b, c.n) :: c.l, Nat.succ c.n⟩ c.n = b := by
     rw [SQ_hi i.g0]
     show Nat.pred (T.get 0 (T.set 0 c.t c.n (Nat.succ b)) c.n) = b
     rw [hgt, if_pos rfl]; rfl
    refine ⟨⟨Nat.le_succ_of_le i.g0, i.h0, fun b' m e => ?_, fun m h1 h2 => ?_, fun b' m hm => ?_⟩, ⟨Nat.le_succ _, hsub⟩, Nat.lt_succ_self _, hnew⟩
    ·have e : T.get 0 (T.set 0 c.s b (Nat.succ c.n)) b' = m + 1 := e
     show ng ≤ m ∧ m < Nat.succ c.n ∧ T.get 0 (T.set 0 c.t c.n (Nat.succ b)) m = b' + 1
     rw [T.get_set] at e
     rw [hgt]
     by_cases hb' : b' = b
     ·rw [if_pos hb'] at e
      have : m = c.n := by omega
      rw [if_pos this, hb']
      exact ⟨by rw [this]; exact i.g0, by omega, rfl⟩
     ·rw [if_neg hb'] at e
      obtain ⟨g1, g2, g3⟩ := i.ok b' m e
      rw [if_neg (by omega)]
      exact ⟨g1, by omega, g3⟩
    ·have h2 : m < Nat.succ c.n := h2
     rcases Nat.lt_or_ge m c.n with h3 | h3
     ·obtain ⟨b', g1, g2, g3⟩ := i.all m h1 h3
      refine ⟨b', g1, g2, ?_⟩
      show T.get 0 (T.set 0 c.s b (Nat.succ c.n)) b' = m + 1
      rw [T.get_set, if_neg (fun e => by rw [e, h0] at g3; cases g3)]
      exact g3
     ·have : m = c.n := by omega
      refine ⟨b, hbn, blt_iff.1 hh, ?_⟩
      show T.get 0 (T.set 0 c.s b (Nat.succ c.n)) b = m + 1
      rw [T.get_set, if_pos rfl, this]
    ·rcases List.mem_cons.1 hm with e | e
     ·cases e; exact ⟨Nat.lt_succ_self _, hnew⟩
     ·obtain ⟨g1, g2⟩ := i.l b' m e
      exact ⟨Nat.lt_succ_of_lt g1, by rw [hsub m g1]; exact g2⟩
  ·rename_i m h1
   refine .inr ⟨m, c, by simp only [forceN_eq], fun i => ?_⟩
   obtain ⟨g1, g2, g3⟩ := i.ok b m h1
   exact ⟨i, SubC.refl _ _, g2, by rw [SQ_hi g1, g3]; rfl⟩
mutual
def ltV (n : Nat) : V → Prop
 | .top => True
 | .b _ => True
 | .i _ _ => True
 | .s _ => True
 | .p none => True
 | .p (some (b, _)) => b < n
 | .sl none _ _ => True
 | .sl (some (b, _)) _ _ => b < n
 | .es => True
 | .m none => True
 | .m (some b) => b < n
 | .f _ a c => ltVs n a ∧ ltVs n c
 | .nf => True
 | .ifc _ x => ltV n x
 | .ni => True
 | .a l => ltVs n l
 | .t l => ltVs n l
 | _ => False
def ltVs (n : Nat) : List V → Prop
 | [] => True
 | x :: xs => ltV n x ∧ ltVs n xs
end
mutual
theorem ltV_mono {n n' : Nat} (h : n ≤ n') : ∀ x : V, ltV n x → ltV n' x
 | .top, _ => by simp [ltV]
 | .b _, _ => by simp [ltV]
 | .i _ _, _ => by simp [ltV]
 | .y _ _, e => by simp only [ltV] at e
 | .q _, e => by simp only [ltV] at e
 | .sr _ _ _ _, e => by simp only [ltV] at e
 | .pr _ _ _ _ _, e => by simp only [ltV] at e
 | .s _, _ => by simp [ltV]
 | .p none, _ => by simp [ltV]
 | .p (some (b, _)), e => by simp only [ltV] at e ⊢; omega
 | .sl none _ _, _ => by simp [ltV]
 | .sl (some (b, _)) _ _, e => by simp only [ltV] at e ⊢; omega
 | .es, _ => by simp [ltV]
 | .m none, _ => by simp [ltV]
 | .m (some b), e => by simp only [ltV] at e ⊢; omega
 | .f _ a c, e => by simp only [ltV] at e ⊢; exact ⟨ltVs_mono h a e.1, ltVs_mono h c e.2⟩
 | .yl _, e => by simp only [ltV] at e
 | .o, e => by simp only [ltV] at e
 | .nf, _ => by simp [ltV]
 | .ifc _ x, e => by simp only [ltV] at e ⊢; exact ltV_mono h x e
 | .ni, _ => by simp [ltV]
 | .a l, e => by simp only [ltV] at e ⊢; exact ltVs_mono h l e
 | .t l, e => by simp only [ltV] at e ⊢; exact ltVs_mono h l e
theorem ltVs_mono {n n' : Nat} (h : n ≤ n') : ∀ x : List V, ltVs n x → ltVs n' x
 | [], _ => by simp [ltVs]
 | x :: xs, e => by simp only [ltVs] at e ⊢; exact ⟨ltV_mono h x e.1, ltVs_mono h xs e.2⟩
end
mutual
theorem rnV_congr {n : Nat} {s s' : Nat → Nat} (h : ∀ m, m < n → s m = s' m) : ∀ x : V, ltV n x → rnV s x = rnV s' x
 | .top, _ => rfl
 | .b _, _ => rfl
 | .i _ _, _ => rfl
 | .y _ _, e => by simp only [ltV] at e
 | .q _, e => by simp only [ltV] at e
 | .sr _ _ _ _, e => by simp only [ltV] at e
 | .pr _ _ _ _ _, e => by simp only [ltV] at e
 | .s _, _ => rfl
 | .p none, _ => rfl
 | .p (some (b, _)), e => by simp only [ltV] at e; simp only [rnV, h b e]
 | .sl none _ _, _ => rfl
 | .sl (some (b, _)) _ _, e => by simp only [ltV] at e; simp only [rnV, h b e]
 | .es, _ => rfl
 | .m none, _ => rfl
 | .m (some b), e => by simp only [ltV] at e; simp only [rnV, h b e]
 | .f _ a c, e => by simp only [ltV] at e; simp only [rnV, rnVs_congr h a e.1, rnVs_congr h c e.2]
 | .yl _, e => by simp only [ltV] at e
 | .o, e => by simp only [ltV] at e
 | .nf, _ => rfl
 | .ifc _ x, e => by simp only [ltV] at e; simp only [rnV, rnV_congr h x e]
 | .ni, _ => rfl
 | .a l, e => by simp only [ltV] at e; simp only [rnV, rnVs_congr h l e]
 | .t l, e => by simp only [ltV] at e; simp only [rnV, rnVs_congr h l e]
theorem rnVs_congr {n : Nat} {s s' : Nat → Nat} (h : ∀ m, m < n → s m = s' m) : ∀ x : List V, ltVs n x → rnVs s x = rnVs s' x
 | [], _ => rfl
 | x :: xs, e => by simp only [ltVs] at e; simp only [rnVs, rnV_congr h x e.1, rnVs_congr h xs e.2]
end
mutual
def cpV {R : Type} (ng hn : Nat) : V → CS → (V → CS → Option R) → Option R
 | .top, c, k => k .top c
 | .b x, c, k => fcB x fun x => k (.b x) c
 | .i kd n, c, k => fcK kd fun kd => fcI n fun n => k (.i kd n) c
 | .s l, c, k => fcL l fun l => k (.s l) c
 | .p none, c, k => k (.p none) c
 | .p (some (b, o)), c, k => cpN ng hn b c fun b c => forceN o fun o => k (.p (some (b, o))) c
 | .sl none n cap, c, k => forceN n fun n => fcC cap fun cap => k (.sl none n cap) c
 | .sl (some (b, o)) n cap, c, k => cpN ng hn b c fun b c => forceN o fun o => forceN n fun n => fcC cap fun cap => k (.sl (some (b, o)) n cap) c
 | .es, c, k => k .es c
 | .m none, c, k => k (.m none) c
 | .m (some b), c, k => cpN ng hn b c fun b c => k (.m (some b)) c
 | .f fn a d, c, k => forceN fn fun fn => cpVs ng hn a c fun a c => cpVs ng hn d c fun d c => k (.f fn a d) c
 | .nf, c, k => k .nf c
 | .ifc t x, c, k => forceN t fun t => cpV ng hn x c fun x c => k (.ifc t x) c
 | .ni, c, k => k .ni c
 | .a l, c, k => cpVs ng hn l c fun l c => k (.a l) c
 | .t l, c, k => cpVs ng hn l c fun l c => k (.t l) c
 | _, _, _ => none
def cpVs {R : Type} (ng hn : Nat) : List V → CS → (List V → CS → Option R) → Option R
 | [], c, k => k [] c
 | x :: xs, c, k => cpV ng hn x c fun x c => cpVs ng hn xs c fun xs c => k (x :: xs) c
end
def CpOK (ng hn : Nat) (c c' : CS) (x x' : V) : Prop := Iv ng hn c → Iv ng hn c' ∧ SubC ng c c' ∧ ltV c'.n x' ∧ rnV (SQ ng c') x' = x
def CpsOK (ng hn : Nat) (c c' : CS) (x x' : List V) : Prop := Iv ng hn c → Iv ng hn c' ∧ SubC ng c c' ∧ ltVs c'.n x' ∧ rnVs (SQ ng c') x' = x
theorem CpOK.refl {ng hn : Nat} {c : CS} {x : V} (h1 : ltV c.n x) (h2 : rnV (SQ ng c) x = x) : CpOK ng hn c c x x := fun i => ⟨i, SubC.refl _ _, h1, h2⟩
mutual
theorem cpV_ok {R : Type} (ng hn : Nat) : ∀ (x : V) (c : CS) (k : V → CS → Option R), cpV ng hn x c k = none ∨ ∃ x' c', cpV ng hn x c k = k x' c' ∧ CpOK ng hn c c' x x'
 | .top, c, k => .inr ⟨.top, c, rfl, .refl (by simp [ltV]) rfl⟩
 | .b x, c, k => .inr ⟨.b x, c, by simp only [cpV, fcB_eq], .refl (by simp [ltV]) rfl⟩
 | .i kd n, c, k => .inr ⟨.i kd n, c, by simp only [cpV, fcK_eq, fcI_eq], .refl (by simp [ltV]) rfl⟩
 | .y _ _, c, k => .inl (by simp only [cpV])
 | .q _, c, k => .inl (by simp only [cpV])
 | .sr _ _ _ _, c, k => .inl (by simp only [cpV])
 | .pr _ _ _ _ _, c, k => .inl (by simp only [cpV])
 | .s l, c, k => .inr ⟨.s l, c, by simp only [cpV, fcL_eq], .refl (by simp [ltV]) rfl⟩
 | .p none, c, k => .inr ⟨.p none, c, rfl, .refl (by simp [ltV]) rfl⟩
 | .p (some (b, o)), c, k => by
  simp only [cpV]
  rcases cpN_ok ng hn b c fun b c => forceN o fun o => k (.p (some (b, o))) c with h | ⟨m, c', h, g⟩
  ·exact .inl h
  ·refine .inr ⟨.p (some (m, o)), c', by rw [h, forceN_eq], fun i => ?_⟩
   obtain ⟨g1, g2, g3, g4⟩ := g i
   exact ⟨g1, g2, by simp only [ltV]; exact g3, by simp only [rnV, g4]⟩
 | .sl none n cap, c, k => .inr ⟨.sl none n cap, c, by simp only [cpV, forceN_eq, fcC_eq], .refl (by simp [ltV]) rfl⟩
 | .sl (some (b, o)) n cap, c, k => by
  simp only [cpV]
  rcases cpN_ok ng hn b c fun b c => forceN o fun o => forceN n fun n => fcC cap fun cap => k (.sl (some (b, o)) n cap) c with h | ⟨m, c', h, g⟩
  ·exact .inl h
  ·refine .inr ⟨.sl (some (m, o)) n cap, c', by rw [h]; simp only [forceN_eq, fcC_eq], fun i => ?_⟩
   obtain ⟨g1, g2, g3, g4⟩ := g i
   exact ⟨g1, g2, by simp only [ltV]; exact g3, by simp only [rnV, g4]⟩
 | .es, c, k => .inr ⟨.es, c, rfl, .refl (by simp [ltV]) rfl⟩
 | .m none, c, k => .inr ⟨.m none, c, rfl, .refl (by simp [ltV]) rfl⟩
 | .m (some b), c, k => by
  simp only [cpV]
  rcases cpN_ok ng hn b c fun b c => k (.m (some b)) c with h | ⟨m, c', h, g⟩
  ·exact .inl h
  ·refine .inr ⟨.m (some m), c', h, fun i => ?_⟩
   obtain ⟨g1, g2, g3, g4⟩ := g i
   exact ⟨g1, g2, by simp only [ltV]; exact g3, by simp only [rnV, g4]⟩
 | .f fn a d, c, k => by
  simp only [cpV, forceN_eq]
  rcases cpVs_ok ng hn a c fun a c => cpVs ng hn d c fun d c => k (.f fn a d) c with h | ⟨a', c1, h, g⟩
  ·exact .inl h
  ·rcases cpVs_ok ng hn d c1 fun d c => k (.f fn a' d) c with h2 | ⟨d', c2, h2, g'⟩
   ·exact .inl (h.trans h2)
   ·refine .inr ⟨.f fn a' d', c2, h.trans h2, fun i => ?_⟩
    obtain ⟨g1, g2, g3, g4⟩ := g i
    obtain ⟨e1, e2, e3, e4⟩ := g' g1
    exact ⟨e1, g2.trans e2, by simp only [ltV]; exact ⟨ltVs_mono e2.n _ g3, e3⟩, by simp only [rnV, e4, rnVs_congr (s := SQ ng c2) (s' := SQ ng c1) e2.s a' g3, g4]⟩
 | .yl _, c, k => .inl (by simp only [cpV])
 | .o, c, k => .inl (by simp only [cpV])
 | .nf, c, k => .inr ⟨.nf, c, rfl, .refl (by simp [ltV]) rfl⟩
 | .ifc t x, c, k => by
  simp only [cpV, forceN_eq]
  rcases cpV_ok ng hn x c fun x c => k (.ifc t x) c with h | ⟨x', c', h, g⟩
  ·exact .inl h
  ·refine .inr ⟨.ifc t x', c', h, fun i => ?_⟩
   obtain ⟨g1, g2, g3, g4⟩ := g i
   exact ⟨g1, g2, by simp only [ltV]; exact g3, by simp only [rnV, g4]⟩
 | .ni, c, k => .inr ⟨.ni, c, rfl, .refl (by simp [ltV]) rfl⟩
 | .a l, c, k => by
  simp only [cpV]
  rcases cpVs_ok ng hn l c fun l c => k (.a l) c with h | ⟨x', c', h, g⟩
  ·exact .inl h
  ·refine .inr ⟨.a x', c', h, fun i => ?_⟩
   obtain ⟨g1, g2, g3, g4⟩ := g i
   exact ⟨g1, g2, by simp only [ltV]; exact g3, by simp only [rnV, g4]⟩
 | .t l, c, k => by
  simp only [cpV]
  rcases cpVs_ok ng hn l c fun l c => k (.t l) c with h | ⟨x', c', h, g⟩
  ·exact .inl h
  ·refine .inr ⟨.t x', c', h, fun i => ?_⟩
   obtain ⟨g1, g2, g3, g4⟩ := g i
   exact ⟨g1, g2, by simp only [ltV]; exact g3, by simp only [rnV, g4]⟩
theorem cpVs_ok {R : Type} (ng hn : Nat) : ∀ (x : List V) (c : CS) (k : List V → CS → Option R), cpVs ng hn x c k = none ∨ ∃ x' c', cpVs ng hn x c k = k x' c' ∧ CpsOK ng hn c c' x x'
 | [], c, k => .inr ⟨[], c, rfl, fun i => ⟨i, SubC.refl _ _, by simp [ltVs], rfl⟩⟩
 | x :: xs, c, k => by
  simp only [cpVs]
  rcases cpV_ok ng hn x c fun x c => cpVs ng hn xs c fun xs c => k (x :: xs) c with h | ⟨x', c1, h, g⟩
  ·exact .inl h
  ·rcases cpVs_ok ng hn xs c1 fun xs c => k (x' :: xs) c with h2 | ⟨xs', c2, h2, g'⟩
   ·exact .inl (h.trans h2)
   ·refine .inr ⟨x' :: xs', c2, h.trans h2, fun i => ?_⟩
    obtain ⟨g1, g2, g3, g4⟩ := g i
    obtain ⟨e1, e2, e3, e4⟩ := g' g1
    exact ⟨e1, g2.trans e2, by simp only [ltVs]; exact ⟨ltV_mono e2.n _ g3, e3⟩, by simp only [rnVs, e4, rnV_congr (s := SQ ng c2) (s' := SQ ng c1) e2.s x' g3, g4]⟩
end
def cpE {R : Type} (ng hn : Nat) : List (V × V × Nat) → CS → (List (V × V × Nat) → CS → Option R) → Option R
 | [], c, k => k [] c
 | (a, b, m) :: l, c, k => cpV ng hn a c fun a c => cpV ng hn b c fun b c => forceN m fun m => cpE ng hn l c fun l c => k ((a, b, m) :: l) c
def ltE (n : Nat) : List (V × V × Nat) → Prop
 | [] => True
 | (a, b, _) :: l => ltV n a ∧ ltV n b ∧ ltE n l
theorem ltE_mono {n n' : Nat} (h : n ≤ n') : ∀ x : List (V × V × Nat), ltE n x → ltE n' x
 | [], _ => by simp [ltE]
 | (a, b, _) :: l, e => by simp only [ltE] at e ⊢; exact ⟨ltV_mono h a e.1, ltV_mono h b e.2.1, ltE_mono h l e.2.2⟩
theorem rnE_congr {n : Nat} {s s' : Nat → Nat} (h : ∀ m, m < n → s m = s' m) : ∀ x : List (V × V × Nat), ltE n x → rnE s x = rnE s' x
 | [], _ => rfl
 | (a, b, _) :: l, e => by simp only [ltE] at e; simp only [rnE, rnV_congr h a e.1, rnV_congr h b e.2.1, rnE_congr h l e.2.2]
theorem cpE_ok {R : Type} (ng hn : Nat) : ∀ (x : List (V × V × Nat)) (c : CS) (k : List (V × V × Nat) → CS → Option R), cpE ng hn x c k = none ∨ ∃ x' c', cpE ng hn x c k = k x' c' ∧ (Iv ng hn c → Iv ng hn c' ∧ SubC ng c c' ∧ ltE c'.n x' ∧ rnE (SQ ng c') x' = x)
 | [], c, k => .inr ⟨[], c, rfl, fun i => ⟨i, SubC.refl _ _, by simp [ltE], rfl⟩⟩
 | (a, b, m) :: l, c, k => by
  simp only [cpE]
  rcases cpV_ok ng hn a c fun a c => cpV ng hn b c fun b c => forceN m fun m => cpE ng hn l c fun l c => k ((a, b, m) :: l) c with h | ⟨a', c1, h, g⟩
  ·exact .inl h
  rcases cpV_ok ng hn b c1 fun b c => forceN m fun m => cpE ng hn l c fun l c => k ((a', b, m) :: l) c with h2 | ⟨b', c2, h2, g'⟩
  ·exact .inl (h.trans h2)
  simp only [forceN_eq] at h h2
  rcases cpE_ok ng hn l c2 fun l c => k ((a', b', m) :: l) c with h3 | ⟨l', c3, h3, g''⟩
  ·exact .inl (by simp only [forceN_eq]; exact h.trans (h2.trans h3))
  refine .inr ⟨(a', b', m) :: l', c3, by simp only [forceN_eq]; exact h.trans (h2.trans h3), fun i => ?_⟩
  obtain ⟨g1, g2, g3, g4⟩ := g i
  obtain ⟨e1, e2, e3, e4⟩ := g' g1
  obtain ⟨d1, d2, d3, d4⟩ := g'' e1
  have e5 := e2.trans d2
  exact ⟨d1, g2.trans e5, by simp only [ltE]; exact ⟨ltV_mono e5.n _ g3, ltV_mono d2.n _ e3, d3⟩,
   by simp only [rnE, d4, rnV_congr (s := SQ ng c3) (s' := SQ ng c1) e5.s a' g3, rnV_congr (s := SQ ng c3) (s' := SQ ng c2) d2.s b' e3, g4, e4]⟩
def ltB (n : Nat) : Blk → Prop
 | .cells l _ _ => ltVs n l
 | .rc l _ => ltVs n l
 | .mp es _ => ltE n es
 | _ => False
theorem ltB_mono {n n' : Nat} (h : n ≤ n') {p : Blk} (e : ltB n p) : ltB n' p := by
 cases p with
 | cells l _ _ => exact ltVs_mono h l e
 | rc l _ => exact ltVs_mono h l e
 | mp es _ => exact ltE_mono h es e
 | _ => cases e
theorem rnB_congr {n : Nat} {s s' : Nat → Nat} (h : ∀ m, m < n → s m = s' m) {p : Blk} (e : ltB n p) : rnB s p = rnB s' p := by
 cases p with
 | cells l _ _ => simp only [rnB, rnVs_congr h l e]
 | rc l _ => simp only [rnB, rnVs_congr h l e]
 | mp es _ => simp only [rnB, rnE_congr h es e]
 | _ => cases e
def cpA {R : Type} (ng hn : Nat) (h : H) : Nat → CS → List (Nat × Blk) → (List (Nat × Blk) → CS → Option R) → Option R
 | 0, _, _, _ => none
 | f + 1, c, acc, k =>
  match c.l with
  | [] => k acc c
  | (b, m) :: l =>
   match h.get b with
   | .gone => cpA ng hn h f ⟨c.s, c.t, l, c.n⟩ acc k
   | .cells x e g => cpVs ng hn x ⟨c.s, c.t, l, c.n⟩ fun x c => forceN e fun e => fcB g fun g => cpA ng hn h f c ((m, .cells x e g) :: acc) k
   | .rc x e => cpVs ng hn x ⟨c.s, c.t, l, c.n⟩ fun x c => forceN e fun e => cpA ng hn h f c ((m, .rc x e) :: acc) k
   | .mp es q => cpE ng hn es ⟨c.s, c.t, l, c.n⟩ fun es c => forceN q fun q => cpA ng hn h f c ((m, .mp es q) :: acc) k
   | _ => none
def AccOK (ng : Nat) (h : H) (c : CS) (acc : List (Nat × Blk)) : Prop := ∀ m p, (m, p) ∈ acc → m < c.n ∧ ltB c.n p ∧ h.get (SQ ng c m) = rnB (SQ ng c) p
theorem AccOK.sub {ng : Nat} {h : H} {c c' : CS} {acc : List (Nat × Blk)} (ha : AccOK ng h c acc) (hs : SubC ng c c') : AccOK ng h c' acc := fun m p hm => by
 obtain ⟨h1, h2, h3⟩ := ha m p hm
 exact ⟨Nat.lt_of_lt_of_le h1 hs.n, ltB_mono hs.n h2, by rw [hs.s m h1, h3]; exact (rnB_congr hs.s h2).symm⟩
theorem cpA_ok {R : Type} (ng hn : Nat) (h : H) : ∀ (f : Nat) (c : CS) (acc : List (Nat × Blk)) (k : List (Nat × Blk) → CS → Option R), cpA ng hn h f c acc k = none ∨ ∃ acc' c', cpA ng hn h f c acc k = k acc' c' ∧
  (Iv ng hn c → AccOK ng h c acc → Iv ng hn c' ∧ SubC ng c c' ∧ AccOK ng h c' acc')
 | 0, _, _, _ => .inl rfl
 | f + 1, c, acc, k => by
  have drop : ∀ {b m : Nat} {l : List (Nat × Nat)}, c.l = (b, m) :: l → Iv ng hn c → Iv ng hn ⟨c.s, c.t, l, c.n⟩ := fun {b m l} e i => ⟨i.g0, i.h0, i.ok, i.all, fun b' m' hm => i.l b' m' (by rw [e]; exact List.mem_cons_of_mem _ hm)⟩
  have subD : ∀ l : List (Nat × Nat), SubC ng c ⟨c.s, c.t, l, c.n⟩ := fun l => ⟨Nat.le_refl _, fun _ _ => rfl⟩
  simp only [cpA]
  split
  ·exact .inr ⟨acc, c, rfl, fun i a => ⟨i, SubC.refl _ _, a⟩⟩
  ·rename_i b m l hl
   have head : Iv ng hn c → m < c.n ∧ SQ ng c m = b := fun i => i.l b m (by rw [hl]; exact List.mem_cons_self)
   split
   ·rcases cpA_ok ng hn h f ⟨c.s, c.t, l, c.n⟩ acc k with h1 | ⟨acc', c', h1, g⟩
    ·exact .inl h1
    ·exact .inr ⟨acc', c', h1, fun i a => by
      obtain ⟨g1, g2, g3⟩ := g (drop hl i) (a.sub (subD l))
      exact ⟨g1, (subD l).trans g2, g3⟩⟩
   ·rename_i x e gr hb
    rcases cpVs_ok ng hn x ⟨c.s, c.t, l, c.n⟩ fun x c => forceN e fun e => fcB gr fun gr => cpA ng hn h f c ((m, .cells x e gr) :: acc) k with h1 | ⟨x', c1, h1, g⟩
    ·exact .inl h1
    simp only [forceN_eq, fcB_eq] at h1 ⊢
    rcases cpA_ok ng hn h f c1 ((m, .cells x' e gr) :: acc) k with h2 | ⟨acc', c', h2, g'⟩
    ·exact .inl (h1.trans h2)
    ·refine .inr ⟨acc', c', h1.trans h2, fun i a => ?_⟩
     obtain ⟨e1, e2, e3, e4⟩ := g (drop hl i)
     have e2' := (subD l).trans e2
     obtain ⟨q1, q2⟩ := head i
     obtain ⟨d1, d2, d3⟩ := g' e1 (fun m' p hm => by
      rcases List.mem_cons.1 hm with he | he
      ·cases he
       refine ⟨Nat.lt_of_lt_of_le q1 e2'.n, e3, ?_⟩
       rw [e2'.s m q1, q2, hb]
       simp only [rnB, e4]
      ·exact a.sub e2' m' p he)
     exact ⟨d1, e2'.trans d2, d3⟩
   ·rename_i x e hb
    rcases cpVs_ok ng hn x ⟨c.s, c.t, l, c.n⟩ fun x c => forceN e fun e => cpA ng hn h f c ((m, .rc x e) :: acc) k with h1 | ⟨x', c1, h1, g⟩
    ·exact .inl h1
    simp only [forceN_eq] at h1 ⊢
    rcases cpA_ok ng hn h f c1 ((m, .rc x' e) :: acc) k with h2 | ⟨acc', c', h2, g'⟩
    ·exact .inl (h1.trans h2)
    ·refine .inr ⟨acc', c', h1.trans h2, fun i a => ?_⟩
     obtain ⟨e1, e2, e3, e4⟩ := g (drop hl i)
     have e2' := (subD l).trans e2
     obtain ⟨q1, q2⟩ := head i
     obtain ⟨d1, d2, d3⟩ := g' e1 (fun m' p hm => by
      rcases List.mem_cons.1 hm with he | he
      ·cases he
       refine ⟨Nat.lt_of_lt_of_le q1 e2'.n, e3, ?_⟩
       rw [e2'.s m q1, q2, hb]
       simp only [rnB, e4]
      ·exact a.sub e2' m' p he)
     exact ⟨d1, e2'.trans d2, d3⟩
   ·rename_i es q hb
    rcases cpE_ok ng hn es ⟨c.s, c.t, l, c.n⟩ fun es c => forceN q fun q => cpA ng hn h f c ((m, .mp es q) :: acc) k with h1 | ⟨x', c1, h1, g⟩
    ·exact .inl h1
    simp only [forceN_eq] at h1 ⊢
    rcases cpA_ok ng hn h f c1 ((m, .mp x' q) :: acc) k with h2 | ⟨acc', c', h2, g'⟩
    ·exact .inl (h1.trans h2)
    ·refine .inr ⟨acc', c', h1.trans h2, fun i a => ?_⟩
     obtain ⟨e1, e2, e3, e4⟩ := g (drop hl i)
     have e2' := (subD l).trans e2
     obtain ⟨q1, q2⟩ := head i
     obtain ⟨d1, d2, d3⟩ := g' e1 (fun m' p hm => by
      rcases List.mem_cons.1 hm with he | he
      ·cases he
       refine ⟨Nat.lt_of_lt_of_le q1 e2'.n, e3, ?_⟩
       rw [e2'.s m q1, q2, hb]
       simp only [rnB, e4]
      ·exact a.sub e2' m' p he)
     exact ⟨d1, e2'.trans d2, d3⟩
   ·exact .inl rfl
end
end Go.Ev
namespace Go.Ev
noncomputable section
def hasK : List (Nat × Blk) → Nat → Bool
 | [], _ => false
 | (k, _) :: l, b => cond (Nat.beq b k) true (hasK l b)
theorem hasK_iff : ∀ {l : List (Nat × Blk)} {b : Nat}, hasK l b = true ↔ ∃ p, (b, p) ∈ l
 | [], b => by simp [hasK]
 | (k, q) :: l, b => by
  by_cases h : b = k
  ·subst h; simp [hasK]
  ·simp only [hasK, nbf h, cond_false]
   rw [hasK_iff (l := l)]
   constructor
   ·rintro ⟨p, hp⟩; exact ⟨p, List.mem_cons_of_mem _ hp⟩
   ·rintro ⟨p, hp⟩
    rcases List.mem_cons.1 hp with e | e
    ·cases e; exact absurd rfl h
    ·exact ⟨p, e⟩
theorem lkB_append : ∀ {l m : List (Nat × Blk)} {b : Nat}, lkB (l ++ m) b = if hasK l b = true then lkB l b else lkB m b
 | [], m, b => by simp [hasK]
 | (k, q) :: l, m, b => by
  simp only [List.cons_append, lkB]
  by_cases h : b = k
  ·subst h; simp [hasK]
  ·rw [if_neg h, if_neg h, lkB_append (l := l)]
   simp only [hasK, nbf h, cond_false]
theorem lkB_none : ∀ {l : List (Nat × Blk)} {b : Nat}, hasK l b = false → lkB l b = .gone
 | [], _, _ => rfl
 | (k, q) :: l, b, h => by
  simp only [hasK] at h
  cases hb : Nat.beq b k with
  | true => rw [hb] at h; cases h
  | false =>
   rw [hb] at h
   have : b ≠ k := fun e => by rw [e, Nat.beq_refl] at hb; cases hb
   rw [lkB, if_neg this]
   exact lkB_none h
def putAll (s : Nat → Nat) : List (Nat × Blk) → H → H
 | [], h => h
 | (c, p) :: l, h => (putAll s l h).set (s c) (rnB s p)
def newB (out : List (Nat × Blk)) (nb : Nat) : Nat → Bool
 | 0 => true
 | d + 1 => hasK out (nb + d) && newB out nb d
theorem putAll_n (s : Nat → Nat) : ∀ (l : List (Nat × Blk)) (h : H), (putAll s l h).n = h.n
 | [], _ => rfl
 | (c, p) :: l, h => by simp [putAll, putAll_n s l h]
theorem putAll_get (s : Nat → Nat) {C : Nat → Prop} (hinj : ∀ c c', C c → C c' → s c = s c' → c = c') : ∀ (l : List (Nat × Blk)) (h : H), (∀ c p, (c, p) ∈ l → C c) → ∀ b,
  (∃ c p, (c, p) ∈ l ∧ s c = b ∧ lkB l c = p ∧ (putAll s l h).get b = rnB s p) ∨ ((∀ c p, (c, p) ∈ l → s c ≠ b) ∧ (putAll s l h).get b = h.get b)
 | [], h, _, b => .inr ⟨fun _ _ hm => (by cases hm), rfl⟩
 | (c, p) :: l, h, hC, b => by
  simp only [putAll, H.get_set]
  by_cases hb : b = s c
  ·rw [if_pos hb]
   exact .inl ⟨c, p, by simp, hb.symm, by simp [lkB], rfl⟩
  ·rw [if_neg hb]
   rcases putAll_get s hinj l h (fun c p hm => hC c p (List.mem_cons_of_mem _ hm)) b with ⟨c', p', h1, h2, h3, h4⟩ | ⟨h1, h2⟩
   ·refine .inl ⟨c', p', List.mem_cons_of_mem _ h1, h2, ?_, h4⟩
    rw [lkB, if_neg (fun e => hb (by rw [← h2, e]))]
    exact h3
   ·refine .inr ⟨fun c' p' hm => ?_, h2⟩
    rcases List.mem_cons.1 hm with e | e
    ·cases e; exact fun e => hb e.symm
    ·exact h1 c' p' e
theorem newB_ok {out : List (Nat × Blk)} {nb : Nat} : ∀ {d : Nat}, newB out nb d = true → ∀ c, nb ≤ c → c < nb + d → hasK out c = true
 | 0, _, c, h1, h2 => by omega
 | d + 1, h, c, h1, h2 => by
  simp only [newB, Bool.and_eq_true] at h
  by_cases hc : c = nb + d
  ·rw [hc]; exact h.1
  ·exact newB_ok h.2 c h1 (by omega)
structure Bk (n : Nat) (s : Nat → Nat) (φ ψ : Ren) : Prop where
 at_ : ∀ c, c < n → ψ c = φ (s c) ∧ ψ.n c = φ.n (s c)
mutual
theorem rnV_inv {n : Nat} {s : Nat → Nat} {φ ψ : Ren} (h : Bk n s φ ψ) : ∀ (x : V) (v : Value), ltV n x → VR φ (rnV s x) v → VR ψ x v
 | .top, _, _, _ => by simp [VR]
 | .b x, v, _, e => by simpa [rnV, VR] using e
 | .i _ _, v, _, e => by simpa [rnV, VR] using e
 | .y _ _, v, l, _ => by simp only [ltV] at l
 | .q _, v, l, _ => by simp only [ltV] at l
 | .sr _ _ _ _, v, l, _ => by simp only [ltV] at l
 | .pr _ _ _ _ _, v, l, _ => by simp only [ltV] at l
 | .s _, v, _, e => by simpa [rnV, VR] using e
 | .p none, v, _, e => by simpa [rnV, VR] using e
 | .p (some (b, o)), v, l, e => by
  simp only [ltV] at l
  simp only [rnV, VR] at e ⊢
  rw [(h.at_ b l).1]; exact e
 | .sl none _ _, v, _, e => by simpa [rnV, VR] using e
 | .sl (some (b, o)) k (.kn c), v, l, e => by
  simp only [ltV] at l
  simp only [rnV, VR] at e ⊢
  rw [(h.at_ b l).1]; exact e
 | .sl (some (b, o)) k (.un c), v, l, e => by
  simp only [ltV] at l
  simp only [rnV, VR] at e ⊢
  rw [(h.at_ b l).1, (h.at_ b l).2]; exact e
 | .es, v, _, e => by simpa [rnV, VR] using e
 | .m none, v, _, e => by simpa [rnV, VR] using e
 | .m (some b), v, l, e => by
  simp only [ltV] at l
  simp only [rnV, VR] at e ⊢
  rw [(h.at_ b l).1]; exact e
 | .f fn a c, v, l, e => by
  simp only [ltV] at l
  simp only [rnV, VR] at e ⊢
  obtain ⟨f', c', hv, h1, h2⟩ := e
  exact ⟨f', c', hv, rnVs_inv h a _ l.1 h1, rnVs_inv h c _ l.2 h2⟩
 | .yl _, v, l, _ => by simp only [ltV] at l
 | .o, v, l, _ => by simp only [ltV] at l
 | .nf, v, _, e => by simpa [rnV, VR] using e
 | .ifc t x, v, l, e => by
  simp only [ltV] at l
  simp only [rnV, VR] at e ⊢
  obtain ⟨x', hv, hx⟩ := e
  exact ⟨x', hv, rnV_inv h x x' l hx⟩
 | .ni, v, _, e => by simpa [rnV, VR] using e
 | .a cs, v, l, e => by
  simp only [ltV] at l
  simp only [rnV, VR] at e ⊢
  obtain ⟨cs', hv, hx⟩ := e
  exact ⟨cs', hv, rnVs_inv h cs _ l hx⟩
 | .t cs, v, l, e => by
  simp only [ltV] at l
  simp only [rnV, VR] at e ⊢
  obtain ⟨cs', hv, hx⟩ := e
  exact ⟨cs', hv, rnVs_inv h cs _ l hx⟩
theorem rnVs_inv {n : Nat} {s : Nat → Nat} {φ ψ : Ren} (h : Bk n s φ ψ) : ∀ (x : List V) (v : List Value), ltVs n x → VRs φ (rnVs s x) v → VRs ψ x v
 | [], v, _, e => by simpa [rnVs, VRs] using e
 | x :: xs, v, l, e => by
  simp only [ltVs] at l
  simp only [rnVs, VRs] at e ⊢
  obtain ⟨y, ys, hv, hx, hxs⟩ := e
  exact ⟨y, ys, hv, rnV_inv h x y l.1 hx, rnVs_inv h xs ys l.2 hxs⟩
end
theorem rnE_inv {n : Nat} {s : Nat → Nat} {φ ψ : Ren} (h : Bk n s φ ψ) : ∀ (x : List (V × V × Nat)) (l : List MapEntry), ltE n x → ERs φ (rnE s x) l → ERs ψ x l
 | [], l, _, e => by simpa [rnE, ERs] using e
 | (a, b, m) :: xs, l, lt, e => by
  simp only [ltE] at lt
  simp only [rnE, ERs] at e ⊢
  obtain ⟨en, es, hl, h1, h2, h3, h4⟩ := e
  exact ⟨en, es, hl, rnV_inv h a _ lt.1 h1, rnV_inv h b _ lt.2.1 h2, h3, rnE_inv h xs _ lt.2.2 h4⟩
theorem rnB_inv {n : Nat} {s : Nat → Nat} {φ ψ : Ren} (h : Bk n s φ ψ) {N : Nat} {p : Blk} {o : Obj} (l : ltB n p) (hb : BR φ N (rnB s p) o) : BR ψ N p o := by
 cases p with
 | cells x e g =>
  obtain ⟨c, h1, h2, h3, h4, h5⟩ := hb
  rw [rnVs_length] at h2 h3 h4
  exact ⟨c, h1, rnVs_inv h _ _ l h2, h3, h4, h5⟩
 | rc x e =>
  obtain ⟨c, h1, h2, h3, h4⟩ := hb
  rw [rnVs_length] at h2 h3
  exact ⟨c, h1, rnVs_inv h _ _ l h2, h3, h4⟩
 | mp es k =>
  obtain ⟨c, h1, h2⟩ := hb
  exact ⟨c, h1, rnE_inv h _ _ l h2⟩
 | _ => cases l
theorem ltB_live {n : Nat} {s : Nat → Nat} {p : Blk} (l : ltB n p) : (rnB s p).live := by cases p <;> first | trivial | cases l
theorem ltB_mut {n : Nat} {s : Nat → Nat} {p : Blk} (l : ltB n p) (h : p.mut) : (rnB s p).mut := by cases p <;> first | exact h | cases l
def outG (n n' : Nat) : List (Nat × Blk) → Bool
 | [] => true
 | (c, _) :: l => Nat.ble n c && Nat.blt c n' && outG n n' l
theorem outG_ok {n n' : Nat} : ∀ {l : List (Nat × Blk)}, outG n n' l = true → ∀ c p, (c, p) ∈ l → n ≤ c ∧ c < n'
 | [], _, _, _, h => by cases h
 | (k, q) :: l, e, c, p, h => by
  simp only [outG, Bool.and_eq_true] at e
  rcases List.mem_cons.1 h with h | h
  ·cases h; exact ⟨Nat.le_of_ble_eq_true e.1.1, blt_iff.1 e.1.2⟩
  ·exact outG_ok e.2 c p h
theorem HR.congrN {φ : Ren} {h h' : H} {w : World} (hr : HR φ h w) (hn : h'.n = h.n) (hg : ∀ b r, φ b = some r → h'.get b = h.get b) : HR φ h' w :=
 ⟨hr.cnt.trans hn.symm, fun b r e => by rw [hn]; exact hr.dom b r e, fun b r e hl => by rw [hg b r e] at hl ⊢; exact hr.blk b r e hl,
  fun b b' r e e' hl hl' => by rw [hg b r e] at hl; rw [hg b' r e'] at hl'; exact hr.inj b b' r e e' hl hl', fun r o hk => ⟨(hr.kp r o hk).1, fun b e => by rw [hg b r e]; exact (hr.kp r o hk).2 b e⟩⟩
theorem sub_perm {α : Type} : ∀ (l m : List α), l.Nodup → (∀ x ∈ l, x ∈ m) → ∃ r, (l ++ r).Perm m
 | [], m, _, _ => ⟨m, List.Perm.refl _⟩
 | x :: xs, m, hn, hs => by
  obtain ⟨s, t, rfl⟩ := List.append_of_mem (hs x List.mem_cons_self)
  obtain ⟨hx, hn'⟩ := List.nodup_cons.1 hn
  obtain ⟨r, hr⟩ := sub_perm xs (s ++ t) hn' fun y hy => by
   have := hs y (List.mem_cons_of_mem _ hy)
   rcases List.mem_append.1 this with h | h
   ·exact List.mem_append_left _ h
   ·rcases List.mem_cons.1 h with rfl | h
    ·exact absurd hy hx
    ·exact List.mem_append_right _ h
  exact ⟨r, (List.Perm.cons x hr).trans List.perm_middle.symm⟩
theorem sub_length {α : Type} {l m : List α} (hn : l.Nodup) (hs : ∀ x ∈ l, x ∈ m) : l.length ≤ m.length := by
 obtain ⟨r, hr⟩ := sub_perm l m hn hs
 have := hr.length_eq
 simp at this
 omega
theorem sub_perm_of {α : Type} {l m : List α} (hn : l.Nodup) (hs : ∀ x ∈ l, x ∈ m) (hl : m.length ≤ l.length) : l.Perm m := by
 obtain ⟨r, hr⟩ := sub_perm l m hn hs
 have := hr.length_eq
 simp at this
 have : r = [] := List.eq_nil_of_length_eq_zero (by omega)
 subst this
 simpa using hr
end
end Go.Ev
namespace Go.Ev
noncomputable section
abbrev Out := Option (X × Fr × List Nat × H)
abbrev ExecT := Option Nat → Code → Fr → List Nat → H → Out
structure ML where
 it : Nat
 tn : Nat
 tm : Nat
 nx : Nat
 bb : Code
def mlOps : Array Oper → Option (Nat × Nat × Nat)
 | ⟨[{ dst := some tn, op := .next (.tmp it) false, guard := none, .. }, { dst := some tm, op := .extract (.tmp tn') 0, guard := none, .. }]⟩ => cond (Nat.beq tn tn') (some (it, tn, tm)) none
 | _ => none
def mlShape (id : Nat) : Code → Option ML
 | .loop (.seq (.region _ ops false) (.seq (.cond (.tmp tm') .skip (.exit id')) (.block nx bb))) =>
  match mlOps ops with
  | some (it, tn, tm) => cond (Nat.beq tm tm' && Nat.beq id id') (some ⟨it, tn, tm, nx, bb⟩) none
  | none => none
 | _ => none
def dstO : List Oper → List Nat → List Nat
 | [], l => l
 | o :: os, l => match o.dst with | some d => d :: dstO os l | none => dstO os l
def dstC : Code → List Nat → List Nat
 | .region _ ops _, l => dstO ops.toList l
 | .seq a b, l => dstC a (dstC b l)
 | .cond _ a b, l => dstC a (dstC b l)
 | .block _ b, l => dstC b l
 | .loop b, l => dstC b l
 | .scope b, l => dstC b l
 | .rangeFunc _ ps a b, l => ps.toList ++ dstC a (dstC b l)
 | _, l => l
def opT : Operand → List Nat → List Nat
 | .tmp t, l => t :: l
 | _, l => l
def rdO (ops : Array Oper) : List Oper → List Nat → List Nat
 | [], l => l
 | o :: os, l => reads ops o ++ rdO ops os l
def rdC : Code → List Nat → List Nat
 | .region _ ops _, l => rdO ops ops.toList l
 | .seq a b, l => rdC a (rdC b l)
 | .cond c a b, l => opT c (rdC a (rdC b l))
 | .block _ b, l => rdC b l
 | .loop b, l => rdC b l
 | .scope b, l => rdC b l
 | .rangeFunc f _ a b, l => opT f (rdC a (rdC b l))
 | _, l => l
def appO : List Oper → Option Nat
 | [] => none
 | o :: os =>
  match o.op, o.dst with
  | .call { callee := .builtin .append, .. }, some d => some d
  | _, _ => appO os
def goesO (ta : Nat) : List Oper → Option (Option Nat × Option Operand)
 | [] => none
 | o :: os =>
  match o.op, o.dst with
  | .assign (.tmp t), some d => cond (Nat.beq t ta) (some (some d, none)) (goesO ta os)
  | .store _ a (.tmp t), _ => cond (Nat.beq t ta) (some (none, some a)) (goesO ta os)
  | _, _ => goesO ta os
def accC : Code → Option (Nat × Option Nat × Option Operand)
 | .region _ ops _ =>
  match appO ops.toList with
  | some ta =>
   match goesO ta ops.toList with
   | some (x, y) => some (ta, x, y)
   | none => none
  | none => none
 | .seq a b =>
  match accC a with
  | some r => some r
  | none => accC b
 | _ => none
def hasN : List Nat → Nat → Bool
 | [], _ => false
 | x :: xs, y => cond (Nat.beq y x) true (hasN xs y)
def qsF (i : Nat) : Nat → List V
 | 0 => []
 | n + 1 => .q i :: qsF (i + 1) n
theorem qsF_length : ∀ n i, (qsF i n).length = n
 | 0, _ => rfl
 | n + 1, i => by simp [qsF, qsF_length n]
theorem qsF_get : ∀ n i j, j < n → (qsF i n)[j]? = some (.q (i + j))
 | 0, _, _, h => by omega
 | n + 1, i, 0, _ => by simp [qsF]
 | n + 1, i, j + 1, h => by
  simp only [qsF, List.getElem?_cons_succ]
  rw [qsF_get n (i + 1) j (by omega)]
  congr 2; omega
theorem qsF_vrs {φ : Ren} : ∀ (n i : Nat) (l : List Value), l.length = n → (∀ j v, l[j]? = some v → v = φ.q (i + j) ∧ v.oneCell' = true) → VRs φ (qsF i n) l
 | 0, _, [], _, _ => by simp [qsF, VRs]
 | n + 1, i, v :: l, hl, h => by
  refine VRs.cons ?_ (qsF_vrs n (i + 1) l (by simpa using hl) fun j u hu => ?_)
  ·simp only [VR]; exact h 0 v rfl
  ·have := h (j + 1) u (by simpa using hu)
   rw [show i + 1 + j = i + (j + 1) by omega]; exact this
theorem qsF_inv {φ : Ren} : ∀ (n i : Nat) (l : List Value), VRs φ (qsF i n) l → l.length = n ∧ ∀ j v, l[j]? = some v → v = φ.q (i + j) ∧ v.oneCell' = true
 | 0, _, l, h => by
  simp only [qsF, VRs] at h; subst h
  exact ⟨rfl, fun j v h => by simp at h⟩
 | n + 1, i, l, h => by
  simp only [qsF, VRs] at h
  obtain ⟨y, ys, rfl, h1, h2⟩ := h
  obtain ⟨g1, g2⟩ := qsF_inv n (i + 1) ys h2
  refine ⟨by simp [g1], fun j v hv => ?_⟩
  cases j with
  | zero =>
   simp only [VR] at h1
   simp only [List.getElem?_cons_zero, Option.some.injEq] at hv; subst hv
   exact h1
  | succ j =>
   have := g2 j v (by simpa using hv)
   rw [show i + (j + 1) = i + 1 + j by omega]; exact this
def takeQ : Nat → Nat → List V → Option (List V)
 | _, 0, l => some l
 | i, n + 1, .q j :: l => cond (Nat.beq i j) (takeQ (i + 1) n l) none
 | _, _ + 1, _ => none
theorem takeQ_ok : ∀ (n i : Nat) (l c : List V), takeQ i n l = some c → l = qsF i n ++ c
 | 0, _, l, c, h => by simp only [takeQ, Option.some.injEq] at h; simp [qsF, h]
 | n + 1, i, [], c, h => by simp [takeQ] at h
 | n + 1, i, x :: l, c, h => by
  cases x <;> simp only [takeQ] at h <;> first | (cases h; done) | skip
  rename_i j
  cases hb : Nat.beq i j with
  | false => rw [hb] at h; cases h
  | true =>
   rw [hb] at h
   have := takeQ_ok n (i + 1) l c h
   rw [this, ← Nat.eq_of_beq_eq_true hb]; rfl
def cellB (ab ao : Nat) (x : V) : List (Nat × Blk) → List (Nat × Blk)
 | [] => []
 | (b, p) :: r =>
  cond (Nat.beq b ab) (match p with
   | .cells l e g => (b, .cells (l.set ao x) e g) :: cellB ab ao x r
   | p => (b, p) :: cellB ab ao x r) ((b, p) :: cellB ab ao x r)
mutual
def inV (C : Nat → Bool) : V → Bool
 | .top => true
 | .b _ => true
 | .i _ _ => true
 | .s _ => true
 | .p none => true
 | .p (some (b, _)) => C b
 | .sl none _ _ => true
 | .sl (some (b, _)) _ _ => C b
 | .es => true
 | .m none => true
 | .m (some b) => C b
 | .f _ a c => inVs C a && inVs C c
 | .nf => true
 | .ifc _ x => inV C x
 | .ni => true
 | .a l => inVs C l
 | .t l => inVs C l
 | _ => false
def inVs (C : Nat → Bool) : List V → Bool
 | [] => true
 | x :: xs => inV C x && inVs C xs
end
def AgC (C : Nat → Bool) (φ φ' : Ren) : Prop := ∀ c r, C c = true → φ c = some r → φ' c = some r ∧ φ'.n c = φ.n c
mutual
theorem inV_ok {C : Nat → Bool} {φ φ' : Ren} (h : AgC C φ φ') : ∀ (x : V) (v : Value), inV C x = true → VR φ x v → VR φ' x v
 | .top, _, _, _ => by simp [VR]
 | .b _, _, _, e => by simpa [VR] using e
 | .i _ _, _, _, e => by simpa [VR] using e
 | .y _ _, _, l, _ => by simp [inV] at l
 | .q _, _, l, _ => by simp [inV] at l
 | .sr _ _ _ _, _, l, _ => by simp [inV] at l
 | .pr _ _ _ _ _, _, l, _ => by simp [inV] at l
 | .s _, _, _, e => by simpa [VR] using e
 | .p none, _, _, e => by simpa [VR] using e
 | .p (some (b, _)), _, l, e => by
  simp only [inV] at l
  simp only [VR] at e ⊢
  obtain ⟨r, hr, hv⟩ := e
  exact ⟨r, (h b r l hr).1, hv⟩
 | .sl none _ _, _, _, e => by simpa [VR] using e
 | .sl (some (b, _)) _ (.kn _), _, l, e => by
  simp only [inV] at l
  simp only [VR] at e ⊢
  obtain ⟨r, hr, hv⟩ := e
  exact ⟨r, (h b r l hr).1, hv⟩
 | .sl (some (b, _)) _ (.un _), _, l, e => by
  simp only [inV] at l
  simp only [VR] at e ⊢
  obtain ⟨r, cap, hr, h1, h2, h3⟩ := e
  exact ⟨r, cap, (h b r l hr).1, h1, by rw [(h b r l hr).2]; exact h2, h3⟩
 | .es, _, _, e => by simpa [VR] using e
 | .m none, _, _, e => by simpa [VR] using e
 | .m (some b), _, l, e => by
  simp only [inV] at l
  simp only [VR] at e ⊢
  obtain ⟨r, hr, hv⟩ := e
  exact ⟨r, (h b r l hr).1, hv⟩
 | .f _ a c, _, l, e => by
  simp only [inV, Bool.and_eq_true] at l
  simp only [VR] at e ⊢
  obtain ⟨f', c', hv, h1, h2⟩ := e
  exact ⟨f', c', hv, inVs_ok h a _ l.1 h1, inVs_ok h c _ l.2 h2⟩
 | .yl _, _, l, _ => by simp [inV] at l
 | .o, _, l, _ => by simp [inV] at l
 | .nf, _, _, e => by simpa [VR] using e
 | .ifc _ x, _, l, e => by
  simp only [inV] at l
  simp only [VR] at e ⊢
  obtain ⟨x', hv, hx⟩ := e
  exact ⟨x', hv, inV_ok h x x' l hx⟩
 | .ni, _, _, e => by simpa [VR] using e
 | .a cs, _, l, e => by
  simp only [inV] at l
  simp only [VR] at e ⊢
  obtain ⟨cs', hv, hx⟩ := e
  exact ⟨cs', hv, inVs_ok h cs _ l hx⟩
 | .t cs, _, l, e => by
  simp only [inV] at l
  simp only [VR] at e ⊢
  obtain ⟨cs', hv, hx⟩ := e
  exact ⟨cs', hv, inVs_ok h cs _ l hx⟩
theorem inVs_ok {C : Nat → Bool} {φ φ' : Ren} (h : AgC C φ φ') : ∀ (x : List V) (v : List Value), inVs C x = true → VRs φ x v → VRs φ' x v
 | [], _, _, e => by simpa [VRs] using e
 | x :: xs, _, l, e => by
  simp only [inVs, Bool.and_eq_true] at l
  simp only [VRs] at e ⊢
  obtain ⟨y, ys, hv, hx, hxs⟩ := e
  exact ⟨y, ys, hv, inV_ok h x y l.1 hx, inVs_ok h xs ys l.2 hxs⟩
end
def inE (C : Nat → Bool) : List (V × V × Nat) → Bool
 | [] => true
 | (a, b, _) :: l => inV C a && inV C b && inE C l
theorem inE_ok {C : Nat → Bool} {φ φ' : Ren} (h : AgC C φ φ') : ∀ (x : List (V × V × Nat)) (l : List MapEntry), inE C x = true → ERs φ x l → ERs φ' x l
 | [], _, _, e => by simpa [ERs] using e
 | (k, v, n) :: xs, l, i, e => by
  simp only [inE, Bool.and_eq_true] at i
  simp only [ERs] at e ⊢
  obtain ⟨e1, es, rfl, h1, h2, h3, h4⟩ := e
  exact ⟨e1, es, rfl, inV_ok h k _ i.1.1 h1, inV_ok h v _ i.1.2 h2, h3, inE_ok h xs _ i.2 h4⟩
theorem inX_ok {C : Nat → Bool} {φ φ' : Ren} (h : AgC C φ φ') : ∀ (x : List (V × V × Nat)) (l : List MapEntry), inE C x = true → EXs φ x l → EXs φ' x l
 | [], _, _, e => by simpa [EXs] using e
 | (k, v, n) :: xs, l, i, e => by
  simp only [inE, Bool.and_eq_true] at i
  simp only [EXs] at e ⊢
  obtain ⟨e1, es, rfl, h1, h2, h4⟩ := e
  exact ⟨e1, es, rfl, inV_ok h k _ i.1.1 h1, inV_ok h v _ i.1.2 h2, inX_ok h xs _ i.2 h4⟩
def inVL (C : Nat → Bool) : List (List V) → Bool
 | [] => true
 | x :: l => inVs C x && inVL C l
theorem inVL_ok {C : Nat → Bool} {φ φ' : Ren} (h : AgC C φ φ') : ∀ (x : List (List V)) (l : List (List Value)), inVL C x = true → VRL φ x l → VRL φ' x l
 | [], _, _, e => by simpa [VRL] using e
 | x :: xs, l, i, e => by
  simp only [inVL, Bool.and_eq_true] at i
  simp only [VRL] at e ⊢
  obtain ⟨y, ys, rfl, h1, h2⟩ := e
  exact ⟨y, ys, rfl, inVs_ok h x y i.1 h1, inVL_ok h xs ys i.2 h2⟩
def inBk (C : Nat → Bool) : Blk → Bool
 | .pm cs _ => inVL C cs
 | .cells l _ _ => inVs C l
 | .rc l _ => inVs C l
 | .mp es _ => inE C es
 | .ms es => inE C es
 | .iter _ _ => true
 | _ => false
theorem inBk_ok {C : Nat → Bool} {φ φ' : Ren} (h : AgC C φ φ') {N : Nat} {p : Blk} {o : Obj} (l : inBk C p = true) (hb : BR φ N p o) : BR φ' N p o := by
 cases p with
 | pm cs e =>
  obtain ⟨c, us, ps, h1, h2, h3⟩ := hb
  exact ⟨c, us, ps, h1, inVL_ok h _ _ l h2, h3⟩
 | cells x e g =>
  obtain ⟨c, h1, h2, h3, h4, h5⟩ := hb
  exact ⟨c, h1, inVs_ok h _ _ l h2, h3, h4, h5⟩
 | rc x e =>
  obtain ⟨c, h1, h2, h3, h4⟩ := hb
  exact ⟨c, h1, inVs_ok h _ _ l h2, h3, h4⟩
 | mp es k =>
  obtain ⟨c, h1, h2⟩ := hb
  exact ⟨c, h1, inE_ok h _ _ l h2⟩
 | ms es =>
  obtain ⟨l', c, ps, h1, h2, h3⟩ := hb
  exact ⟨l', c, ps, h1, inX_ok h _ _ l h2, h3⟩
 | iter s k => exact hb
 | _ => cases l
theorem inBk_live {C : Nat → Bool} {p : Blk} (l : inBk C p = true) : p.live := by
 cases p <;> first | trivial | cases l
theorem inVs_get {C : Nat → Bool} : ∀ {l : List V} {i : Nat} {x : V}, inVs C l = true → l[i]? = some x → inV C x = true
 | [], _, _, _, h => by simp at h
 | y :: l, 0, x, h, e => by
  simp only [inVs, Bool.and_eq_true] at h
  simp only [List.getElem?_cons_zero, Option.some.injEq] at e; subst e; exact h.1
 | y :: l, i + 1, x, h, e => by
  simp only [inVs, Bool.and_eq_true] at h
  exact inVs_get h.2 (by simpa using e)
theorem HR.put {φ : Ren} {h : H} {w w' : World} (hr : HR φ h w) {b r : Nat} (x : Blk) (o : Obj) (hb : φ b = some r) (hg : ¬ (h.get b).live) (hne : ∀ c, φ c = some r → (h.get c).live → c = b) (hk : φ.y.k r = none) (hx : BR φ (φ.n b) x o)
  (hs : w'.heap.size = w.heap.size) (ho : w'.heap[r]? = some o) (hns : ∀ s, s ≠ r → w'.heap[s]? = w.heap[s]?) : HR φ (h.set b x) w' := by
 refine ⟨hr.cnt, fun c s e => ?_, fun c s e hc => ?_, fun c c' s e e' hc hc' => ?_, fun s o' hk' => ?_⟩
 ·have := hr.dom c s e
  simp only [H.set_n]; omega
 ·rw [H.get_set] at hc ⊢
  by_cases hcb : c = b
  ·subst hcb
   rw [hb] at e; cases e
   rw [if_pos rfl]
   exact ⟨o, ho, hx⟩
  ·rw [if_neg hcb] at hc ⊢
   obtain ⟨o', h4, h5⟩ := hr.blk c s e hc
   refine ⟨o', ?_, h5⟩
   rw [hns s (fun es => hcb (hne c (es ▸ e) hc))]; exact h4
 ·rw [H.get_set] at hc hc'
  by_cases hcb : c = b
  ·by_cases hcb' : c' = b
   ·rw [hcb, hcb']
   ·rw [if_neg hcb'] at hc'
    rw [hcb, hb] at e; cases e
    exact absurd (hne c' e' hc') hcb'
  ·rw [if_neg hcb] at hc
   by_cases hcb' : c' = b
   ·rw [hcb', hb] at e'; cases e'
    exact absurd (hne c e hc) hcb
   ·rw [if_neg hcb'] at hc'
    exact hr.inj c c' s e e' hc hc'
 ·obtain ⟨k1, k2⟩ := hr.kp s o' hk'
  have hsr : s ≠ r := fun e => by rw [e, hk] at hk'; cases hk'
  refine ⟨by rw [hns s hsr]; exact k1, fun c e => ?_⟩
  rw [H.get_set, if_neg (fun ec => hsr (by rw [ec, hb] at e; exact (Option.some.inj e).symm))]
  exact k2 c e
structure MP where
 hn : Nat
 sz : Nat
 e : TypeId
 bi : Nat
 mN : Nat
 nl : V
 fn : Nat
 fl : List (Nat × V)
 pl : Nat ⊕ (Nat × Nat)
 hl : List (Nat × Blk)
 qm : Nat
def MP.C (p : MP) (b : Nat) : Bool := hasK p.hl b || Nat.beq b p.bi
def accV (p : MP) : Nat → V
 | 0 => p.nl
 | k + 1 => .sl (some (p.hn, 0)) (k + 1) (.un p.sz)
def rowB (p : MP) : Nat → Blk
 | 0 => .gone
 | k + 1 => .cells (qsF 0 ((k + 1) * p.sz)) p.e true
def frL (p : MP) (k : Nat) : List (Nat × V) := match p.pl with | .inl t => (t, accV p k) :: p.fl | .inr _ => p.fl
def blL (p : MP) (k : Nat) : List (Nat × Blk) := match p.pl with | .inl _ => p.hl | .inr (ab, ao) => cellB ab ao (accV p k) p.hl
def frS (p : MP) (k : Nat) : Fr := frOf p.fn (frL p k)
def hS (p : MP) (k : Nat) (x : Blk) : H := hOf (p.hn + 1) ((p.hn, rowB p k) :: (p.bi, x) :: blL p k)
abbrev Chk := List V × List (Nat × Blk) × Nat
def isNx (nx : Nat) : X → Bool
 | .n => true
 | .e j => Nat.beq j nx
 | .r => false
def accOf (p : MP) (fr : Fr) (h : H) : V :=
 match p.pl with
 | .inl t => fr.get t
 | .inr (ab, ao) =>
  match h.get ab with
  | .cells l _ _ => l.getD ao .top
  | _ => .top
def frOK (fr : Fr) : List (Nat × V) → Bool
 | [] => true
 | (t, v) :: l => same v (fr.get t) && frOK fr l
def blOK1 (p : MP) (b : Nat) (q q' : Blk) : Bool :=
 match p.pl with
 | .inl _ => sameBk q q'
 | .inr (ab, ao) =>
  cond (Nat.beq b ab)
   (match q, q' with
    | .cells l e g, .cells l' e' g' => same_s (l.set ao .top) (l'.set ao .top) && Nat.beq e e' && sameBB g g' && Nat.blt ao l.length
    | _, _ => false)
   (sameBk q q')
def blOK (p : MP) (h : H) : List (Nat × Blk) → Bool
 | [] => true
 | (b, q) :: l => blOK1 p b q (h.get b) && blOK p h l
def isMie (m clk n : Nat) : Blk → Bool
 | .mie m' clk' n' => Nat.beq m m' && Nat.beq clk clk' && Nat.beq n n'
 | _ => false
def rnd (p : MP) (ex : ExecT) (ro : Option Nat) (bb : Code) (nx tn tm clk : Nat) (en : V × V × Nat) (k : Nat) : Option Chk :=
 match ex ro bb (((frS p k).set tn (.t [.b true, en.1, en.2.1])).set tm (.b true)) [] (hS p k (.mie (p.mN) clk en.2.2)) with
 | some (x, fr1, [], h1) =>
  match accOf p fr1 h1 with
  | .sl (some (b', 0)) k' (.un sz') =>
   match h1.get b' with
   | .cells l' e' g' =>
    match takeQ 0 (k * p.sz) l' with
    | some c =>
     cond (Nat.beq fr1.n p.fn && c.all atomV && isNx nx x && Nat.beq k' (k + 1) && Nat.beq sz' p.sz && Nat.beq e' p.e && sameBB g' true && Nat.beq c.length p.sz && Nat.ble (p.hn + 1) b' && Nat.blt b' h1.n && frOK fr1 p.fl && blOK p h1 p.hl && isMie p.mN clk en.2.2 (h1.get p.bi))
      (cpVs p.hn h1.n c ⟨.leaf, .leaf, [], p.hn⟩ fun c cs => cpA p.hn h1.n h1 2000 cs [] fun B cs =>
       cond (Nat.beq (T.get 0 cs.s b') 0 && Nat.beq (T.get 0 cs.s p.hn) 0 && outG p.hn cs.n B && newB B p.hn (cs.n - p.hn)) (forceN cs.n fun n => some (c, B, n)) none) none
    | none => none
   | _ => none
  | _ => none
 | _ => none
def okH (p : MP) : List (Nat × Blk) → Bool
 | [] => true
 | (b, q) :: l => Nat.blt b p.hn && !(Nat.beq b p.bi) && inBk p.C q && okH p l
def isQm (n : Nat) : V → Bool
 | .q z => Nat.ble n z
 | _ => false
def okF (p : MP) : List (Nat × V) → Bool
 | [] => true
 | (_, v) :: l => (inV p.C v || isQm p.qm v) && okF p l
def MP.okA (p : MP) : Bool :=
 match p.pl with
 | .inl _ => true
 | .inr (ab, _) => hasK p.hl ab
def MP.ok (p : MP) : Bool := okH p p.hl && okF p p.fl && Nat.blt p.bi p.hn && p.okA
theorem okH_ok {p : MP} : ∀ {l : List (Nat × Blk)}, okH p l = true → ∀ b q, (b, q) ∈ l → b < p.hn ∧ b ≠ p.bi ∧ inBk p.C q = true
 | [], _, _, _, h => by cases h
 | (k, r) :: l, e, b, q, h => by
  simp only [okH, Bool.and_eq_true, Bool.not_eq_true'] at e
  rcases List.mem_cons.1 h with h | h
  ·cases h
   exact ⟨blt_iff.1 e.1.1.1, fun h => (by rw [h, Nat.beq_refl] at e; cases e.1.1.2), e.1.2⟩
  ·exact okH_ok e.2 b q h
theorem isQm_ok {n : Nat} {v : V} (h : isQm n v = true) : ∃ z, v = .q z ∧ n ≤ z := by
 cases v <;> first | exact ⟨_, rfl, Nat.le_of_ble_eq_true h⟩ | cases h
theorem okF_ok {p : MP} : ∀ {l : List (Nat × V)}, okF p l = true → ∀ t, (inV p.C (lkV l t) || isQm p.qm (lkV l t)) = true
 | [], _, _ => rfl
 | (k, r) :: l, e, t => by
  simp only [okF, Bool.and_eq_true] at e
  simp only [lkV]
  by_cases h : t = k
  ·rw [if_pos h]; exact e.1
  ·rw [if_neg h]; exact okF_ok e.2 t
theorem MP.C_lt {p : MP} (hp : p.ok = true) {b : Nat} (h : p.C b = true) : b < p.hn := by
 simp only [MP.ok, Bool.and_eq_true] at hp
 simp only [MP.C, Bool.or_eq_true] at h
 rcases h with h | h
 ·obtain ⟨q, hq⟩ := hasK_iff.1 h
  exact (okH_ok hp.1.1.1 b q hq).1
 ·rw [Nat.eq_of_beq_eq_true h]; exact blt_iff.1 hp.1.2
def setA (ao : Nat) (x : V) : Blk → Blk
 | .cells l e g => .cells (l.set ao x) e g
 | q => q
def stB (p : MP) (k b : Nat) (q : Blk) : Blk :=
 match p.pl with
 | .inl _ => q
 | .inr (ab, ao) => if b = ab then setA ao (accV p k) q else q
theorem lkB_cellB {ab ao : Nat} {x : V} : ∀ (l : List (Nat × Blk)) (b : Nat), lkB (cellB ab ao x l) b = if b = ab then setA ao x (lkB l b) else lkB l b
 | [], b => by by_cases h : b = ab <;> simp [cellB, lkB, setA, h]
 | (k, q) :: l, b => by
  have ih := lkB_cellB (ab := ab) (ao := ao) (x := x) l b
  simp only [cellB]
  by_cases hk : k = ab
  ·subst hk
   rw [Nat.beq_refl]
   simp only [cond_true]
   cases q <;> simp only [lkB, ih] <;> by_cases hb : b = k <;> simp [hb, setA]
  ·rw [nbf hk]
   simp only [cond_false, lkB, ih]
   by_cases hb : b = k
   ·rw [if_pos hb, if_pos hb, if_neg (by rw [hb]; exact hk)]
   ·rw [if_neg hb, if_neg hb]
theorem lkB_blL (p : MP) (k b : Nat) : lkB (blL p k) b = stB p k b (lkB p.hl b) := by
 unfold blL stB
 cases p.pl with
 | inl t => rfl
 | inr x => obtain ⟨ab, ao⟩ := x; exact lkB_cellB _ _
theorem hS_get (p : MP) (k : Nat) (x : Blk) (b : Nat) : (hS p k x).get b = if b = p.hn then rowB p k else if b = p.bi then x else stB p k b (lkB p.hl b) := by
 unfold hS
 rw [hOf_get]
 simp only [lkB, lkB_blL]
theorem stB_live {p : MP} {k b : Nat} {q : Blk} : (stB p k b q).live ↔ q.live := by
 unfold stB
 split
 ·rfl
 ·split
  ·cases q <;> exact Iff.rfl
  ·rfl
theorem frS_get (p : MP) (k t : Nat) : (frS p k).get t = match p.pl with | .inl t' => if t = t' then accV p k else lkV p.fl t | .inr _ => lkV p.fl t := by
 unfold frS frL
 rw [frOf_get]
 cases p.pl <;> simp only [lkV]
def sP (hn n m : Nat) : Nat := cond (Nat.blt m hn) m (m - hn + n)
def addP (hn : Nat) (ck : Chk) (h : H) : H := putAll (sP hn h.n) ck.2.1 ⟨h.n + (ck.2.2 - hn), h.t⟩
def addPs (hn : Nat) : List Chk → H → H × List (List V)
 | [], h => (h, [])
 | ck :: l, h =>
  match addPs hn l (addP hn ck h) with
  | (h', cs) => (h', rnVs (sP hn h.n) ck.1 :: cs)
def hZ (p : MP) (k : Nat) : H := hOf (p.hn + 1) (blL p k)
def hE (p : MP) (k : Nat) (pre : List (List V)) (cks : List Chk) : H :=
 match addPs p.hn cks (hZ p k) with
 | (h, cs) => h.set p.hn (.pm (pre ++ cs) p.e)
def accP : Code → Option (Nat ⊕ (Operand × List Oper))
 | .region _ ops _ =>
  match appO ops.toList with
  | some ta =>
   match goesO ta ops.toList with
   | some (some d, _) => some (.inl d)
   | some (none, some a) => some (.inr (a, ops.toList))
   | _ => none
  | none => none
 | .seq a b =>
  match accP a with
  | some r => some r
  | none => accP b
 | .cond _ a b =>
  match accP a with
  | some r => some r
  | none => accP b
 | _ => none
def findDef (t : Nat) : List Oper → Option Op
 | [] => none
 | o :: os => match o.dst with | some d => cond (Nat.beq d t) (some o.op) (findDef t os) | none => findDef t os
def adr (E : Env) (fr : Fr) (h : H) : Operand → List Oper → V
 | .tmp t, ops =>
  match findDef t ops with
  | some (.fieldAddr ty x f) =>
   match aFieldAddr E ty (ev E.ng fr x) f h with
   | some (v, _) => v
   | none => .top
  | _ => fr.get t
 | a, _ => ev E.ng fr a
def plOf (E : Env) (fr : Fr) (h : H) (bb : Code) : Option (Nat ⊕ (Nat × Nat)) :=
 match accP bb with
 | some (.inl d) => some (.inl d)
 | some (.inr (a, ops)) =>
  match adr E fr h a ops with
  | .p (some (ab, ao)) => some (.inr (ab, ao))
  | _ => none
 | none => none
def avOf (fr : Fr) (h : H) : Nat ⊕ (Nat × Nat) → V
 | .inl t => fr.get t
 | .inr (ab, ao) =>
  match h.get ab with
  | .cells l _ _ => l.getD ao .top
  | _ => .top
def splitC {α : Type} (sz : Nat) : Nat → List α → List (List α)
 | 0, _ => []
 | k + 1, l => l.take sz :: splitC sz k (l.drop sz)
def lenL : List (List V) → Nat
 | [] => 0
 | x :: l => x.length + lenL l
structure MS where
 b0 : Nat
 k0 : Nat
 sz : Nat
 e : TypeId
 pre : List (List V)
def stOf (h : H) : V → Option MS
 | .sl none 0 _ => some ⟨h.n, 0, 0, 0, []⟩
 | .sl (some (b0, 0)) (k + 1) (.un sz) =>
  match h.get b0 with
  | .cells l e _ => cond (Nat.beq l.length ((k + 1) * sz) && l.all atomV) (some ⟨b0, k + 1, sz, e, splitC sz (k + 1) l⟩) none
  | .pm cs e => cond (Nat.beq (lenL cs) ((k + 1) * sz)) (some ⟨b0, k + 1, sz, e, cs⟩) none
  | _ => none
 | _ => none
def mkHl (h : H) (pl : Nat ⊕ (Nat × Nat)) (b0 bi : Nat) : List Nat → List (Nat × Blk)
 | [] => []
 | b :: L => cond (Nat.beq b b0 || Nat.beq b bi) (mkHl h pl b0 bi L)
   ((b, match pl with | .inl _ => h.get b | .inr (ab, ao) => cond (Nat.beq b ab) (setA ao .top (h.get b)) (h.get b)) :: mkHl h pl b0 bi L)
def mkFl (C : Nat → Bool) (qm : Nat) (fr : Fr) (wr : List Nat) : Nat → List (Nat × V)
 | 0 => []
 | t + 1 =>
  match mkFl C qm fr wr t with
  | l =>
   cond (hasN wr t) l
    (match fr.get t with
     | .top => l
     | v => cond (inV C v) ((t, v) :: l) (cond (atomV v) ((t, .q (qm + t)) :: l) l))
def mkFf (fr : Fr) : List (Nat × V) → List (Nat × V)
 | [] => []
 | (t, .q _) :: l => (t, fr.get t) :: mkFf fr l
 | (t, v) :: l => (t, v) :: mkFf fr l
def prob (p : MP) (ex : ExecT) (m : ML) (clk : Nat) (en : V × V × Nat) : Option (Nat × TypeId) :=
 match ex none m.bb (((frS p 0).set m.tn (.t [.b true, en.1, en.2.1])).set m.tm (.b true)) [] (hS p 0 (.mie p.mN clk en.2.2)) with
 | some (_, fr1, _, h1) =>
  match accOf p fr1 h1 with
  | .sl (some (b', 0)) _ (.un sz') =>
   match h1.get b' with
   | .cells _ e' _ => forceN sz' fun sz' => forceN e' fun e' => some (sz', e')
   | _ => none
  | _ => none
 | none => none
def rndL (p : MP) (ex : ExecT) (m : ML) (clk k : Nat) : List (V × V × Nat) → Option (List Chk)
 | [] => some []
 | en :: es =>
  match rnd p ex none m.bb m.nx m.tn m.tm clk en k with
  | some c =>
   match rndL p ex m clk k es with
   | some l => some (c :: l)
   | none => none
  | none => none
def sameBL : List (Nat × Blk) → List (Nat × Blk) → Bool
 | [], [] => true
 | (b, q) :: l, (b', q') :: l' => Nat.beq b b' && sameBk q q' && sameBL l l'
 | _, _ => false
def sameCks : List Chk → List Chk → Bool
 | [], [] => true
 | (c, B, n) :: l, (c', B', n') :: l' => same_s c c' && sameBL B B' && Nat.beq n n' && sameCks l l'
 | _, _ => false
def allSt (p : MP) (ex : ExecT) (m : ML) (clk : Nat) (es : List (V × V × Nat)) (cks : List Chk) (k0 : Nat) : Nat → Bool
 | 0 => true
 | j + 1 => (match rndL p ex m clk (k0 + j) es with | some c => sameCks cks c | none => false) && allSt p ex m clk es cks k0 j
def bornsOK (since : Nat) : List (V × V × Nat) → Bool
 | [] => true
 | (_, _, n) :: l => Nat.blt n since && (findB n l).isNone && bornsOK since l
def ptrK (fl : List (Nat × V)) (ab : Nat) : List (Nat × V) → Bool
 | [] => false
 | (t, _) :: l => (match lkV fl t with | .p (some (b, _)) => Nat.beq b ab | _ => false) || ptrK fl ab l
def allC (hl : List (Nat × Blk)) : Nat → Bool
 | 0 => true
 | n + 1 => hasK hl n && allC hl n
def itOK (p : MP) (m : ML) : Bool :=
 match lkV p.fl m.it, p.pl with
 | .p (some (b, 0)), .inl t => Nat.beq b p.bi && !(Nat.beq t m.it)
 | .p (some (b, 0)), .inr _ => Nat.beq b p.bi
 | _, _ => false
def wrOf (m : ML) (pl : Nat ⊕ (Nat × Nat)) : List Nat := m.tn :: m.tm :: dstC m.bb (match pl with | .inl t => [t] | .inr _ => [])
def plOK (p : MP) : Bool :=
 match p.pl with
 | .inl _ => true
 | .inr (ab, _) => ptrK p.fl ab p.fl
def frEL (p : MP) (fr : Fr) (k : Nat) : List (Nat × V) :=
 match p.pl with
 | .inl t => (t, accV p k) :: mkFf fr p.fl
 | .inr _ => mkFf fr p.fl
def mlBig (E : Env) (ex : ExecT) (m : ML) (fr : Fr) (ds : List Nat) (h : H) (bi mN since : Nat) (es : List (V × V × Nat)) (clk : Nat) : Out :=
 match plOf E fr h m.bb with
 | none => none
 | some pl =>
 match avOf fr h pl with
 | av =>
 match stOf h av with
 | none => none
 | some st =>
 match mkHl h pl st.b0 bi (clo h 4000 (mN :: (List.range E.ng ++ nmFr fr (rdC m.bb []) [])) .leaf []) with
 | hl =>
 match wrOf m pl with
 | wr =>
 match (cond (Nat.beq st.k0 0)
   (match es with
    | en :: _ => prob ⟨h.n, 0, 0, bi, mN, av, fr.n, mkFl (fun b => hasK hl b || Nat.beq b bi) 0 fr wr fr.n, pl, hl, 0⟩ ex m clk en
    | [] => none)
   (some (st.sz, st.e))) with
 | none => none
 | some (sz, e) =>
 forceN ((st.k0 + es.length) * sz) fun qm =>
 match (⟨h.n, sz, e, bi, mN, av, fr.n, mkFl (fun b => hasK hl b || Nat.beq b bi) qm fr wr fr.n, pl, hl, qm⟩ : MP) with
 | p =>
 match rndL p ex m clk st.k0 es with
 | none => none
 | some cks =>
 cond (p.ok && allC hl E.ng && bornsOK since es && Nat.ble since clk && Nat.ble E.ng h.n && itOK p m && Nat.blt m.tn fr.n && Nat.blt m.tm fr.n && allSt p ex m clk es cks st.k0 es.length && sameBk (lkB hl mN) (.mp es clk) && plOK p)
  (some (.n, ((frOf fr.n (frEL p fr (st.k0 + es.length))).set m.tn (.t [.b false])).set m.tm (.b false), ds,
   ov h (hE p (st.k0 + es.length) st.pre cks) (bi :: (cond (Nat.beq st.k0 0) [] [st.b0] ++ hl.map (·.1))))) none
def mlZero (m : ML) (fr : Fr) (ds : List Nat) (h : H) : Out := cond (Nat.blt m.tn fr.n && Nat.blt m.tm fr.n) (some (.n, (fr.set m.tn (.t [.b false])).set m.tm (.b false), ds, h)) none
abbrev En := V × V × Nat
abbrev Sq := List (Nat × Blk)
def addFq (C : Nat → Bool) (t : Nat) (l : List (Nat × V)) (v : V) : List (Nat × V) :=
 match v with
 | .top => l
 | v => cond (inV C v) ((t, v) :: l) l
def mkFq (C : Nat → Bool) (fr : Fr) (wr : List Nat) : Nat → List (Nat × V)
 | 0 => []
 | t + 1 =>
  match mkFq C fr wr t with
  | l => cond (hasN wr t) l (addFq C t l (fr.get t))
def stepQ (h1 : H) : Sq → Sq
 | [] => []
 | (b, _) :: s => (b, h1.get b) :: stepQ h1 s
def remE (k v : V) : List En → Option (List En)
 | [] => none
 | (k', v', n) :: l =>
  cond (same k k' && same v v') (some l)
   (match remE k v l with
    | some r => some ((k', v', n) :: r)
    | none => none)
def permB : List En → List En → Bool
 | [], [] => true
 | (k, v, _) :: l, m =>
  match remE k v m with
  | some m' => permB l m'
  | none => false
 | _, _ => false
def sameQ : Blk → Blk → Bool
 | .ms l, .ms l' => permB l l'
 | q, q' => sameBk q q'
def sameQs : Sq → Sq → Bool
 | [], [] => true
 | (b, q) :: s, (b', q') :: s' => Nat.beq b b' && sameQ q q' && sameQs s s'
 | _, _ => false
def closedQ (n : Nat) : Sq → Bool
 | [] => true
 | (_, q) :: s => inBk (fun b => Nat.blt b n) q && closedQ n s
def rndQ (ex : ExecT) (m : ML) (fn : Nat) (fl : List (Nat × V)) (bi mN clk n : Nat) (s : Sq) (en : En) : Option Sq :=
 match ex none m.bb (((frOf fn fl).set m.tn (.t [.b true, en.1, en.2.1])).set m.tm (.b true)) [] ((hOf n s).set bi (.mie mN clk en.2.2)) with
 | some (x, fr1, [], h1) =>
  match stepQ h1 s with
  | s1 => cond (Nat.beq fr1.n fn && isNx m.nx x && frOK fr1 fl && isMie mN clk en.2.2 (h1.get bi) && closedQ n s1) (some s1) none
 | _ => none
def quietQ (R : Sq → En → Option Sq) (s : Sq) (en : En) : Bool :=
 match R s en with
 | some s1 => sameQs s s1
 | none => false
def splitQ (R : Sq → En → Option Sq) (s : Sq) : List En → List En × List En
 | [] => ([], [])
 | en :: es =>
  match splitQ R s es with
  | (a, b) => cond (quietQ R s en) (en :: a, b) (a, en :: b)
def choices (g : List En → Sq → Option Sq) (R : Sq → En → Option Sq) (s : Sq) : List En → List En → Option (List Sq)
 | _, [] => some []
 | pre, a :: post =>
  match R s a with
  | some s1 =>
   match g (pre ++ post) s1 with
   | some f =>
    match choices g R s (pre ++ [a]) post with
    | some l => some (f :: l)
    | none => none
   | none => none
  | none => none
def confQ (R : Sq → En → Option Sq) (ok : Sq → Bool) : Nat → List En → Sq → Option Sq
 | 0, rem, s =>
  match rem with
  | [] => cond (ok s) (some s) none
  | _ :: _ => none
 | k + 1, rem, s =>
  match rem with
  | [] => cond (ok s) (some s) none
  | a :: l =>
   match choices (confQ R ok k) R s [] (a :: l) with
   | some (f :: fs) => cond (ok s && fs.all (sameQs f)) (some f) none
   | _ => none
def allQ (R : Sq → En → Option Sq) (s : Sq) : List En → Bool
 | [] => true
 | e :: es => quietQ R s e && allQ R s es
def okQ (R : Sq → En → Option Sq) (n mN clk : Nat) (es qs : List En) (s : Sq) : Bool := closedQ n s && sameBk (lkB s mN) (.mp es clk) && allQ R s qs
def wkMs : Blk → Blk
 | .mp es _ => .ms es
 | q => q
def chgL : Sq → Sq → Sq → Sq
 | (b, q) :: s, (_, q0) :: s0, (_, q1) :: s1 => (b, cond (sameQ q0 q1) q (wkMs q)) :: chgL s s0 s1
 | s, _, _ => s
def weakQ (R : Sq → En → Option Sq) (s0 : Sq) : List En → Sq → Sq
 | [], s => s
 | en :: es, s =>
  match R s0 en with
  | some s1 => weakQ R s0 es (chgL s s0 s1)
  | none => weakQ R s0 es s
def listQ (h : H) (bi : Nat) : List Nat → Sq
 | [] => []
 | b :: L => cond (Nat.beq b bi) (listQ h bi L) ((b, h.get b) :: listQ h bi L)
def itQ (fl : List (Nat × V)) (it bi : Nat) : Bool :=
 match lkV fl it with
 | .p (some (b, 0)) => Nat.beq b bi
 | _ => false
def mlQuiet (E : Env) (ex : ExecT) (m : ML) (fr : Fr) (ds : List Nat) (h : H) (bi mN since : Nat) (es : List En) (clk : Nat) : Out :=
 match listQ h bi (clo h 4000 (mN :: (List.range E.ng ++ nmFr fr (rdC m.bb []) [])) .leaf []) with
 | s0 =>
 match mkFq (fun b => Nat.blt b h.n) fr (m.tn :: m.tm :: dstC m.bb []) fr.n with
 | fl =>
 match rndQ ex m fr.n fl bi mN clk h.n with
 | R =>
 match weakQ R s0 es s0 with
 | s =>
 match splitQ R s es with
 | (qs, rem) =>
 match confQ R (okQ R h.n mN clk es qs) rem.length rem s with
 | some f =>
  cond (allLive h (bi :: s0.map (·.1)) && bornsOK since es && Nat.ble since clk && itQ fl m.it bi && Nat.blt m.tn fr.n && Nat.blt m.tm fr.n)
   (some (.n, ((frOf fr.n fl).set m.tn (.t [.b false])).set m.tm (.b false), ds, ov h (hOf h.n f) (bi :: s0.map (·.1)))) none
 | none => none
def mlRun (E : Env) (ex : ExecT) (m : ML) (fr : Fr) (ds : List Nat) (h : H) : Out :=
 match fr.get m.it with
 | .p (some (bi, 0)) =>
  match h.get bi with
  | .mi0 => mlZero m fr ds h
  | .mit mN since =>
   match h.get mN with
   | .mp [] _ => mlZero m fr ds h
   | .mp (en :: es) clk =>
    match mlBig E ex m fr ds h bi mN since (en :: es) clk with
    | some r => some r
    | none => mlQuiet E ex m fr ds h bi mN since (en :: es) clk
   | _ => none
  | _ => none
 | _ => none
theorem mlShape_some {id : Nat} {c : Code} {m : ML} (h : mlShape id c = some m) : ∃ g ops, c = .loop (.seq (.region g ops false) (.seq (.cond (.tmp m.tm) .skip (.exit id)) (.block m.nx m.bb))) ∧ mlOps ops = some (m.it, m.tn, m.tm) := by
 unfold mlShape at h
 split at h
 ·split at h
  ·rename_i it tn tm hops
   obtain ⟨h1, h2⟩ := cond_some h
   cases h2
   simp only [Bool.and_eq_true] at h1
   have e1 := Nat.eq_of_beq_eq_true h1.1
   have e2 := Nat.eq_of_beq_eq_true h1.2
   subst e1; subst e2
   exact ⟨_, _, rfl, hops⟩
  ·cases h
 ·cases h
end
end Go.Ev
namespace Go.Ev
noncomputable section
def ltL : List Nat → List Nat → Bool
 | _, [] => false
 | [], _ :: _ => true
 | x :: xs, y :: ys => cond (Nat.blt x y) true (cond (Nat.beq x y) (ltL xs ys) false)
def intKs : List (V × V × Nat) → Option (List Int)
 | [] => some []
 | (.i .i64 n, _, _) :: l =>
  match intKs l with
  | some r => some (n :: r)
  | none => none
 | _ => none
def strKs : List (V × V × Nat) → Option (List (List Nat))
 | [] => some []
 | (.s n, _, _) :: l =>
  match strKs l with
  | some r => some (n :: r)
  | none => none
 | _ => none
def insK {α : Type} (le : α → α → Bool) (x : α) : List α → List α
 | [] => [x]
 | y :: l => cond (le x y) (x :: y :: l) (y :: insK le x l)
def srtK {α : Type} (le : α → α → Bool) : List α → List α
 | [] => []
 | x :: l => insK le x (srtK le l)
def risK {α : Type} (le : α → α → Bool) : List α → Bool
 | [] => true
 | x :: l => l.all (le x) && risK le l
def bornK (clk : Nat) : List (V × V × Nat) → Bool
 | [] => true
 | (_, _, n) :: l => Nat.blt n clk && l.all (fun e => !Nat.beq e.2.2 n) && bornK clk l
def i64K (n : Int) : Bool := match n with | .ofNat m => Nat.blt m 9223372036854775808 | .negSucc m => Nat.blt m 9223372036854775808
def rowK (e : TypeId) (l : List V) (h : H) : V × H :=
 match l with
 | [] => (.sl none 0 (.kn 0), h)
 | l => (.sl (some (h.n, 0)) l.length (.un 1), h.new (.cells l e true))
def keysOf (e : TypeId) (nums : Bool) (es : List (V × V × Nat)) (h : H) : Option (V × H) :=
 match nums with
 | true =>
  match intKs es with
  | some ks =>
   match srtK iLt ks with
   | s => cond (ks.all i64K && risK iLt s) (some (rowK e (s.map fun n => .i .i64 n) h)) none
  | none => none
 | false =>
  match strKs es with
  | some ks =>
   match srtK ltL ks with
   | s => cond (risK ltL s && ks.all fun k => Nat.ble k.length 1000000) (some (rowK e (s.map fun n => .s n) h)) none
  | none => none
def keysRun (E : Env) : CallT := fun f args h =>
 match args with
 | [.f g [] [.p (some (bm, 0))]] =>
  match E.kf f g, h.get bm with
  | some (e, nums), .cells [.m (some b)] _ _ =>
   match h.get b with
   | .mp es clk => cond (Nat.blt es.length 1000000 && bornK clk es) (keysOf e nums es h) none
   | _ => none
  | some _, .cells [.m none] _ _ => some (.sl none 0 (.kn 0), h)
  | _, _ => none
 | _ => none
end
end Go.Ev
namespace Go.Ev
noncomputable section
def load (args : List V) (i : Nat) (t : T V) : T V :=
 match args with
 | [] => t
 | x :: xs => load xs (i + 1) (T.set .top t i x)
def takes : List Nat → H → Option H
 | [], h => some h
 | b :: bs, h =>
  match h.get b with
  | .dfr => takes bs (h.set b .gone)
  | _ => none
def aRes (E : Env) (fr : Fr) (h : H) : List ResultVar → Option (List V)
 | [] => some []
 | .tmp t :: rs =>
  match aRes E fr h rs with
  | some l => some (fr.get t :: l)
  | none => none
 | .cell a t :: rs =>
  match fr.get a with
  | .p p =>
   match aLoad E t (.p p) h, aRes E fr h rs with
   | some (v, _), some l => some (v :: l)
   | _, _ => none
  | _ => none
def aRets : List V → V
 | [v] => v
 | l => .t l
def callB (E : Env) (ex : ExecT) : CallT := fun f args h =>
 match E.ft f with
 | some fn =>
  match fn.body with
  | some c =>
   cond (Nat.ble args.length fn.ntmps)
    (match ex none c { n := fn.ntmps, t := load args 0 .leaf } [] h with
     | some (.e _, _, _, _) => none
     | some (_, fr, ds, h1) =>
      match takes ds h1 with
      | some h2 =>
       match aRes E fr h2 fn.results.toList with
       | some l => some (aRets l, h2)
       | none => none
      | none => none
     | none => none) none
  | none => none
 | none => none
def cmpRow (E : Env) (g : Nat) (c : List V) : List (List V) → Option (List Int)
 | [] => some []
 | c' :: cs =>
  match E.cm g c c' with
  | some z =>
   match cmpRow E g c cs with
   | some l => some (z :: l)
   | none => none
  | none => none
def cmpTab (E : Env) (g : Nat) (all : List (List V)) : List (List V) → Option (List (List Int))
 | [] => some []
 | c :: cs =>
  match cmpRow E g c all, cmpTab E g all cs with
  | some l, some t => some (l :: t)
  | _, _ => none
def negB : Int → Bool
 | .negSucc _ => true
 | .ofNat _ => false
def cntP : List (List Int) → Nat → Nat
 | [], _ => 0
 | l :: t, i => cond (negB (l.getD i 0)) (Nat.succ (cntP t i)) (cntP t i)
def ranks (t : List (List Int)) : Nat → List Nat
 | 0 => []
 | n + 1 => ranks t n ++ [cntP t n]
def rowOK (r : Nat) : List Int → List Nat → Bool
 | [], [] => true
 | z :: l, r' :: rs => sameBB (negB z) (Nat.blt r r') && rowOK r l rs
 | _, _ => false
def tabOK (rs : List Nat) : List (List Int) → List Nat → Bool
 | [], [] => true
 | l :: t, r :: rs' => rowOK r l rs && tabOK rs t rs'
 | _, _ => false
def findR (p : Nat) : List Nat → Nat → Nat
 | [], i => i
 | r :: rs, i => cond (Nat.beq r p) i (findR p rs (Nat.succ i))
def ordOf (rs : List Nat) : Nat → List Nat
 | 0 => []
 | n + 1 => ordOf rs n ++ [findR n rs 0]
def ordOK (rs : List Nat) (n : Nat) : List Nat → Nat → Bool
 | [], p => Nat.beq p n
 | i :: l, p => Nat.blt i n && Nat.beq (rs.getD i n) p && ordOK rs n l (Nat.succ p)
def lensOK (sz : Nat) : List (List V) → Bool
 | [] => true
 | c :: cs => Nat.beq c.length sz && lensOK sz cs
def pickL (cs : List (List V)) : List Nat → List V
 | [] => []
 | i :: l => cs.getD i [] ++ pickL cs l
def sortRun (E : Env) : CallT := fun f args h =>
 match args with
 | [.sl (some (b, 0)) n (.un sz), .f g [] []] =>
  match cond E.pl (E.sf f) none, h.get b with
  | some k, .pm cs e =>
   match cmpTab E g cs cs with
   | some t =>
    match ranks t n with
    | rs =>
     match ordOf rs n with
     | ord => cond (Nat.beq k sz && Nat.beq cs.length n && Nat.blt 0 n && Nat.blt n 1000000 && lensOK k cs && tabOK rs t rs && ordOK rs n ord 0)
       (some (.t [], h.set b (.cells (pickL cs ord) e true))) none
   | none => none
  | _, _ => none
 | _ => none
def callG (E : Env) (ex : ExecT) : CallT := fun f args h =>
 match E.qh E.bd f args h with
 | some v => some (v, h)
 | none =>
 match E.eh f args h with
 | some r => some r
 | none =>
 match E.xh E.xt f args h with
 | some r => some r
 | none =>
 match sortRun E f args h with
 | some r => some r
 | none =>
 match cond E.pl (keysRun E f args h) none with
 | some r => some r
 | none => callB E ex f args h
def callF (E : Env) (ex : ExecT) : CallT := fun f args h =>
 match E.qc f args with
 | some v => some (v, h)
 | none => cond (qoF f) none (callG E ex f args h)
theorem callF_qo {E : Env} {ex : ExecT} : QO (callF E ex) := fun f args h x h' hq e => by
 unfold callF at e
 split at e
 ·cases e; rfl
 ·rw [hq] at e; cases e
def setAll (fr : Fr) : List Tmp → List V → Option Fr
 | [], [] => some fr
 | t :: ts, v :: vs => cond (Nat.blt t fr.n) (setAll (fr.set t v) ts vs) none
 | _, _ => none
def yieldF (ex : ExecT) : CallT := fun l args h =>
 match h.get l with
 | .loop _ _ fr params assign body _ =>
  match setAll fr params.toList args with
  | some fr1 =>
   match ex (some l) assign fr1 [] h with
   | some (.n, fr2, [], h1) =>
    match h1.get l with
    | .loop .ready pend fr' params' assign' body' df' =>
     match ex (some l) body fr2 [] (h1.set l (.loop .busy pend fr' params' assign' body' df')) with
     | some (x, _, _, h2) =>
      match h2.get l with
      | .loop _ _ fr'' params'' assign'' body'' df'' =>
       match x with
       | .n => some (.b true, h2.set l (.loop .ready none fr'' params'' assign'' body'' df''))
       | .r => some (.b false, h2.set l (.loop .done (some .ret) fr'' params'' assign'' body'' df''))
       | .e id => some (.b false, h2.set l (.loop .done (some (.exit id)) fr'' params'' assign'' body'' df''))
      | _ => none
     | none => none
    | _ => none
   | _ => none
  | none => none
 | _ => none
def afterRange (l : Nat) (fr : Fr) (ds : List Nat) (h : H) : Out :=
 match h.get l with
 | .loop st pend fr' ps as bd df =>
  match st with
  | .busy => none
  | _ =>
   match pend with
   | none => some (.n, fr, ds, h.set l (.loop .exhausted pend fr' ps as bd df))
   | some .ret => some (.r, fr, ds, h.set l (.loop .exhausted pend fr' ps as bd df))
   | some (.exit id) => some (.e id, fr, ds, h.set l (.loop .exhausted pend fr' ps as bd df))
   | _ => none
 | _ => none
def aRange (E : Env) (call : CallT) (ro : Option Nat) (g : Operand) (ps : Array Tmp) (as bd : Code) (fr : Fr) (ds : List Nat) (h : H) : Out :=
 match ev E.ng fr g with
 | .f gf first caps =>
  match ro with
  | none =>
   match call gf (first ++ [.yl (h.n + 1)] ++ caps) ((h.new .dfr).new (.loop .ready none fr ps as bd h.n)) with
   | some (_, h3) => afterRange (h.n + 1) fr (h.n :: ds) h3
   | none => none
  | some l0 =>
   match h.get l0 with
   | .loop _ _ _ _ _ _ df =>
    match call gf (first ++ [.yl h.n] ++ caps) (h.new (.loop .ready none fr ps as bd df)) with
    | some (_, h3) => afterRange h.n fr ds h3
    | none => none
   | _ => none
 | _ => none
def q3 (k : Fr → List Nat → H → Out) (fr : Fr) (q : List Nat × H) : Out := @Prod.rec _ _ (fun _ => Out) (k fr) q
def q2 (k : Fr → List Nat → H → Out) (p : Fr × List Nat × H) : Out := @Prod.rec _ _ (fun _ => Out) (q3 k) p
def qE (id : Nat) (_ : Fr → List Nat → H → Out) (p : Fr × List Nat × H) : Out := some (.e id, p)
def qR (_ : Fr → List Nat → H → Out) (p : Fr × List Nat × H) : Out := some (.r, p)
def q1 (k : Fr → List Nat → H → Out) (x : X) (p : Fr × List Nat × H) : Out := @X.rec (fun _ => (Fr → List Nat → H → Out) → Fr × List Nat × H → Out) q2 qE qR x k p
def qP (k : Fr → List Nat → H → Out) (r : X × Fr × List Nat × H) : Out := @Prod.rec _ _ (fun _ => Out) (q1 k) r
theorem qP_eq (k : Fr → List Nat → H → Out) (r : Out) : @Option.rec _ (fun _ => Out) none (qP k) r = match r with
  | some (.n, fr', ds', h') => k fr' ds' h'
  | r => r := by
 rcases r with _ | ⟨x, f, d, h⟩
 ·rfl
 ·cases x <;> rfl
section
variable (E : Env) (ex : ExecT) (ro : Option Nat) (fr : Fr) (ds : List Nat) (h : H)
def xAft : Option (Fr × H) → Out
 | some (fr', h') => some (.n, fr', ds, h')
 | none => none
def xReg (_ : Nat) (ops : Array Oper) (draw : Bool) : Out :=
 xAft ds (cond draw (dops E (callF E ex) (yieldF ex) ops fr h) (aops E (callF E ex) (yieldF ex) ops ops.toList fr h))
def xSeq (a b : Code) : Out := @Option.rec _ (fun _ => Out) none (qP (ex ro b)) (ex ro a fr ds h)
def xCond (c : Operand) (a b : Code) : Out :=
 match ev E.ng fr c with
 | .b true => ex ro a fr ds h
 | .b false => ex ro b fr ds h
 | _ => none
def xBlk (id : Nat) (b : Code) : Out :=
 match ro, cond E.pl (mlShape id b) none with
 | none, some m => mlRun E ex m fr ds h
 | _, _ =>
  match ex ro b fr ds h with
  | some (.e j, fr', ds', h') => cond (Nat.beq j id) (some (.n, fr', ds', h')) (some (.e j, fr', ds', h'))
  | r => r
def xLoop (b : Code) : Out := @Option.rec _ (fun _ => Out) none (qP (ex ro (.loop b))) (ex ro b fr ds h)
end
structure CW where
 f : Env → ExecT → Option Nat → Fr → List Nat → H → Out
def codeW (c : Code) : CW :=
 @Code.rec (fun _ => CW) ⟨fun _ _ _ fr ds h => some (.n, fr, ds, h)⟩ (fun i ops d => ⟨fun E ex _ fr ds h => xReg E ex fr ds h i ops d⟩) (fun a b _ _ => ⟨fun _ ex ro fr ds h => xSeq ex ro fr ds h a b⟩) (fun c a b _ _ => ⟨fun E ex ro fr ds h => xCond E ex ro fr ds h c a b⟩) (fun id b _ => ⟨fun E ex ro fr ds h => xBlk E ex ro fr ds h id b⟩) (fun b _ => ⟨fun _ ex ro fr ds h => xLoop ex ro fr ds h b⟩) (fun g ps as bd _ _ => ⟨fun E ex ro fr ds h => aRange E (callF E ex) ro g ps as bd fr ds h⟩) (fun id => ⟨fun _ _ _ fr ds h => some (.e id, fr, ds, h)⟩) (fun b _ => ⟨fun _ ex ro fr ds h => ex ro b fr ds h⟩) (fun _ => ⟨fun _ _ _ fr ds h => some (.n, fr, ds, h)⟩) (fun _ => ⟨fun _ _ _ _ _ _ => none⟩) ⟨fun _ _ _ fr ds h => some (.r, fr, ds, h)⟩ (fun _ => ⟨fun _ _ _ _ _ _ => none⟩) c
def execS (E : Env) (ex : ExecT) : ExecT := fun ro c fr ds h => @CW.rec (fun _ => Out) (fun f => f E ex ro fr ds h) (codeW c)
def exec (E : Env) (k : Nat) : ExecT := @Nat.rec (fun _ => ExecT) (fun _ _ _ _ _ => none) (fun _ ih => execS E ih) k
section
variable (E : Env) (k : Nat) (ro : Option Nat) (fr : Fr) (ds : List Nat) (h : H)
theorem exec_zero (c : Code) : exec E 0 ro c fr ds h = none := rfl
theorem exec_skip : exec E (k + 1) ro .skip fr ds h = some (.n, fr, ds, h) := rfl
theorem exec_label (l : Nat) : exec E (k + 1) ro (.label l) fr ds h = some (.n, fr, ds, h) := rfl
theorem exec_exit (id : Nat) : exec E (k + 1) ro (.exit id) fr ds h = some (.e id, fr, ds, h) := rfl
theorem exec_ret : exec E (k + 1) ro .ret fr ds h = some (.r, fr, ds, h) := rfl
theorem exec_regF (id : Nat) (ops : Array Oper) : exec E (k + 1) ro (.region id ops false) fr ds h =
  match aops E (callF E (exec E k)) (yieldF (exec E k)) ops ops.toList fr h with
  | some (fr', h') => some (.n, fr', ds, h')
  | none => none := rfl
theorem exec_regT (id : Nat) (ops : Array Oper) : exec E (k + 1) ro (.region id ops true) fr ds h =
  match dops E (callF E (exec E k)) (yieldF (exec E k)) ops fr h with
  | some (fr', h') => some (.n, fr', ds, h')
  | none => none := rfl
theorem exec_seq (a b : Code) : exec E (k + 1) ro (.seq a b) fr ds h =
  match exec E k ro a fr ds h with
  | some (.n, fr', ds', h') => exec E k ro b fr' ds' h'
  | r => r := qP_eq _ _
theorem exec_cond (c : Operand) (a b : Code) : exec E (k + 1) ro (.cond c a b) fr ds h =
  match ev E.ng fr c with
  | .b true => exec E k ro a fr ds h
  | .b false => exec E k ro b fr ds h
  | _ => none := rfl
theorem exec_block (id : Nat) (b : Code) : exec E (k + 1) ro (.block id b) fr ds h =
  match ro, cond E.pl (mlShape id b) none with
  | none, some m => mlRun E (exec E k) m fr ds h
  | _, _ =>
   match exec E k ro b fr ds h with
   | some (.e j, fr', ds', h') => cond (Nat.beq j id) (some (.n, fr', ds', h')) (some (.e j, fr', ds', h'))
   | r => r := rfl
theorem exec_loop (b : Code) : exec E (k + 1) ro (.loop b) fr ds h =
  match exec E k ro b fr ds h with
  | some (.n, fr', ds', h') => exec E k ro (.loop b) fr' ds' h'
  | r => r := qP_eq _ _
theorem exec_range (g : Operand) (ps : Array Tmp) (as bd : Code) : exec E (k + 1) ro (.rangeFunc g ps as bd) fr ds h = aRange E (callF E (exec E k)) ro g ps as bd fr ds h := rfl
theorem exec_scope (b : Code) : exec E (k + 1) ro (.scope b) fr ds h = exec E k ro b fr ds h := rfl
theorem exec_goto (l : Nat) : exec E (k + 1) ro (.goto l) fr ds h = none := rfl
theorem exec_refuse (s : String) : exec E (k + 1) ro (.refuse s) fr ds h = none := rfl
end
end
end Go.Ev
namespace Go.Ev
noncomputable section
variable {D : List Deferred}
theorem stepR_scope {P : Program} {b : Frame} {a : Act} {k : List Item} {cs : List Frame} {w : World} {c : Code} :
  step P (lone (b.atR a (.code (.scope c) :: k)) cs w) = .next (lone (b.atR a (.code c :: .inScope c :: k)) cs w) :=
 step_lone_go (by simp [stepG, stepG.exec, Frame.atR])
theorem stepR_inScope {P : Program} {b : Frame} {a : Act} {k : List Item} {cs : List Frame} {w : World} {c : Code} :
  step P (lone (b.atR a (.inScope c :: k)) cs w) = .next (lone (b.atR a k) cs w) :=
 step_lone_go (by simp [stepG, stepG.exec, Frame.atR])
theorem wpIn_scope {F : Fence} {n : Nat} {P : Program} {Q : Exit → Act → World → Prop} {a : Act} {w : World} {c : Code} (h : c.wpIn F n P (fun e a w => (∀ l, e ≠ .goto l) ∧ Q e a w) a w) : (Code.scope c).wpIn F n P Q a w := by
 intro b k cs hro hb hr
 have h0 : (lone (b.atR a (.code (.scope c) :: k)) cs w).fenced P F := fenced_calm hb hr rfl
 obtain ⟨e, a₁, w₁, ⟨hng, hq⟩, harr⟩ := h b (.inScope c :: k) cs hro hb hr
 cases e with
 | normal => exact ⟨.normal, a₁, w₁, hq, .head h0 stepR_scope (StepsIn.trans harr (.one (fenced_calm hb hr rfl) stepR_inScope))⟩
 | exit id =>
  have hx : exitTo id (.inScope c :: k) = exitTo id k := by simp [exitTo]
  exact ⟨.exit id, a₁, w₁, hq, fun k' hk => .head h0 stepR_scope (harr.1 k' (by rw [hx]; exact hk)),
   fun hr' hk => let ⟨k₁, h1, h2⟩ := harr.2 hr' (by rw [hx]; exact hk); ⟨k₁, h1, .head h0 stepR_scope h2⟩⟩
 | goto l => exact absurd rfl (hng l)
 | ret => exact ⟨_, a₁, w₁, hq, .of_steps (.one h0 stepR_scope) harr⟩
 | panic ch => exact ⟨_, a₁, w₁, hq, .of_steps (.one h0 stepR_scope) harr⟩
 | outgrown => exact ⟨_, a₁, w₁, hq, .of_steps (.one h0 stepR_scope) harr⟩
def PostX (D : List Deferred) (φ : Ren) (w : World) (x : X) (fr : Fr) (ds : List Nat) (h : H) : Exit → Act → World → Prop := fun e a' w' =>
 ∃ φ', Ext φ w φ' w' ∧ e = x.exit ∧ FR φ' fr a'.tmps ∧ DR D φ' ds a'.defers ∧ HR φ' h w'
theorem PostX.back {φ φ₁ : Ren} {w w₁ : World} {x : X} {fr : Fr} {ds : List Nat} {h : H} (hx : Ext φ w φ₁ w₁) {e : Exit} {a' : Act} {w' : World} (hp : PostX D φ₁ w₁ x fr ds h e a' w') : PostX D φ w x fr ds h e a' w' := by
 obtain ⟨φ', h1, h2⟩ := hp
 exact ⟨φ', hx.trans h1, h2⟩
def ExecOK (E : Env) (ex : ExecT) : Prop := ∀ {D : List Deferred} ro c fr ds h x fr' ds' h', ex ro c fr ds h = some (x, fr', ds', h') → ∀ φ a w ro' n, GL E.ng φ → BD E φ → RO φ ro ro' → FR φ fr a.tmps → DR D φ ds a.defers → HR φ h w →
 c.wpIn (W ro') n E.P (PostX D φ w x fr' ds' h') a w
theorem load_get : ∀ (args : List V) (i : Nat) (t : T V) (k : Nat), T.get .top (load args i t) k = if i ≤ k then (match args[k - i]? with | some x => x | none => T.get .top t k) else T.get .top t k
 | [], i, t, k => by simp [load]
 | x :: xs, i, t, k => by
  rw [load, load_get xs (i + 1)]
  simp only [T.get_set]
  by_cases h1 : i + 1 ≤ k
  ·have h2 : i ≤ k := by omega
   have h3 : ¬ k = i := by omega
   have e : k - i = (k - (i + 1)) + 1 := by omega
   simp only [if_pos h1, if_pos h2, if_neg h3, e, List.getElem?_cons_succ]
  ·simp only [if_neg h1]
   by_cases h2 : k = i
   ·subst h2; simp
   ·simp only [if_neg h2, if_neg (show ¬ i ≤ k by omega)]
theorem load_FR {φ : Ren} {args : List V} {args' : List Value} (h : VRs φ args args') (n : Nat) (hn : args.length ≤ n) :
  FR φ { n := n, t := load args 0 .leaf } (args'.toArray ++ Array.replicate (n - args'.toArray.size) undef) := by
 have hl := h.length
 refine ⟨by simp; omega, fun k => ?_⟩
 show VR φ (T.get .top (load args 0 .leaf) k) _
 rw [load_get, if_pos (Nat.zero_le _), Nat.sub_zero]
 cases hx : args[k]? with
 | none => rw [T.get_leaf]; simp only [VR]
 | some x =>
  obtain ⟨v, hv, hxv⟩ := h.get hx
  have : (args'.toArray ++ Array.replicate (n - args'.toArray.size) undef).getD k undef = v := by
   rw [Array.getD_eq_getD_getElem?, Array.getElem?_append_left (by
    have : k < args'.length := by
     rcases Nat.lt_or_ge k args'.length with h | h
     ·exact h
     ·rw [List.getElem?_eq_none h] at hv; cases hv
    simpa using this)]
   simp [hv]
  rw [this]; exact hxv
theorem takes_ok {E : Env} {fn : Func} {tmps : Array Value} {R : Ending → World → Prop} {n : Nat} {ro : Option Nat} : ∀ (ds : List Nat) (h h2 : H), takes ds h = some h2 → ∀ (φ : Ren) (w : World) (l : List Deferred), DR [] φ ds l → HR φ h w →
  (∀ w', Ext φ w φ w' → HR φ h2 w' → LeavesInM (W ro) n E.P fn tmps R [] .returning w') → LeavesInM (W ro) n E.P fn tmps R l .returning w
 | [], h, h2, e, φ, w, l, hd, hr, hK => by
  simp only [takes, Option.some.injEq] at e; subst e
  simp only [DR] at hd; subst hd
  exact hK w (Ext.refl φ w) hr
 | b :: bs, h, h2, e, φ, w, l, hd, hr, hK => by
  simp only [takes] at e
  simp only [DR] at hd
  obtain ⟨r, ds, rfl, hb, hds⟩ := hd
  split at e
  ·rename_i hbl
   obtain ⟨o, h1, hBR⟩ := hr.blk b r hb (by rw [hbl]; trivial)
   rw [hbl] at hBR
   have ho : o = .deferred (some []) := hBR
   subst ho
   have hlt := (hr.dom b r hb).2
   let w' : World := { w with heap := w.heap.setIfInBounds r (.deferred none) }
   have hT := hr.turn (w' := w') .gone (.deferred none) hb (by rw [hbl]; trivial) trivial (by simp [w']) (by simp [w', hlt]) (fun s hs => by simp [w', Array.getElem?_setIfInBounds_ne (Ne.symm hs)]) rfl rfl rfl
   refine ⟨by simp, .inl ⟨r, w', rfl, ?_, ?_⟩⟩
   ·simp [Instr.takeDeferred, getObj, setObj, Sem.run, h1, w']
   ·exact takes_ok bs (h.set b .gone) h2 e φ w' ds hds hT.1 (fun w'' hx hr'' => hK w'' (hT.2.trans hx) hr'')
  ·cases e
theorem aLoad_run {E : Env} (hE : E.OK) {φ : Ren} {h : H} {w : World} (hr : HR φ h w) (t : TypeId) {p : Option (Nat × Nat)} {v : Value} (hx : VR φ (.p p) v) {y : V} {h' : H} (hy : aLoad E t (.p p) h = some (y, h')) :
  ∃ r o u, v = .pointer (some ⟨r, o, none⟩) ∧ (loadVar t ⟨r, o, none⟩).run E.P w = .ok u w ∧ VR φ y u := by
 cases p with
 | none => simp only [aLoad, aLoad0] at hy; split at hy <;> first | (cases hy; done) | (rename_i e; cases e)
 | some bo =>
  obtain ⟨b, o⟩ := bo
  simp only [aLoad, aLoad0] at hy
  cases htt : E.tt t with
  | none => rw [htt] at hy; cases hy
  | some td =>
   obtain ⟨i, d⟩ := td
   rw [htt] at hy
   obtain ⟨hi, hd⟩ := hE.ty t i d htt
   simp only [VR] at hx
   obtain ⟨r, hb, rfl⟩ := hx
   simp only [] at hy
   split at hy
   ·rename_i l e g hl
    split at hy
    ·rename_i x hx
     simp only [Option.some.injEq, Prod.mk.injEq] at hy
     obtain ⟨rfl, rfl⟩ := hy
     obtain ⟨vs, h1, h2, h3⟩ := hr.cellsAt hb hl 0 l.length (by omega)
     rw [List.drop_zero, List.take_length] at h2
     obtain ⟨u, g1, g2⟩ := loadFrom_ok (P := E.P) (w := w) (o := 0) hi hd h2 (fun j u hu => h3 j u hu) hx
     rw [Nat.zero_add] at g1
     refine ⟨r, o, u, rfl, ?_, g2⟩
     simpa [Instr.loadAt, Instr.sureAddr] using g1
    ·cases hy
   ·rename_i l e hl
    split at hy
    ·rename_i x hx
     simp only [Option.some.injEq, Prod.mk.injEq] at hy
     obtain ⟨rfl, rfl⟩ := hy
     obtain ⟨vs, h1, h2, h3⟩ := hr.cellsAtR hb hl 0 l.length (by omega)
     rw [List.drop_zero, List.take_length] at h2
     obtain ⟨u, g1, g2⟩ := loadFrom_ok (P := E.P) (w := w) (o := 0) hi hd h2 (fun j u hu => h3 j u hu) hx
     rw [Nat.zero_add] at g1
     refine ⟨r, o, u, rfl, ?_, g2⟩
     simpa [Instr.loadAt, Instr.sureAddr] using g1
    ·cases hy
   ·cases hy
def resVar (tmps : Array Value) : ResultVar → Sem Value
 | .tmp t => pure (tmps.getD t undef)
 | .cell a t => do loadVar t (← asAddr (tmps.getD a undef))
theorem aRes_ok {E : Env} (hE : E.OK) {φ : Ren} {fr : Fr} {tmps : Array Value} {h : H} {w : World} (hf : FR φ fr tmps) (hr : HR φ h w) : ∀ (rs : List ResultVar) (l : List V), aRes E fr h rs = some l →
  ∃ vs, (rs.mapM (resVar tmps)).run E.P w = .ok vs w ∧ VRs φ l vs
 | [], l, e => by
  simp only [aRes, Option.some.injEq] at e; subst e
  exact ⟨[], by simp, VRs.nil⟩
 | .tmp t :: rs, l, e => by
  simp only [aRes] at e
  split at e
  ·rename_i l' hl'
   simp only [Option.some.injEq] at e; subst e
   obtain ⟨vs, h1, h2⟩ := aRes_ok hE hf hr rs l' hl'
   refine ⟨tmps.getD t undef :: vs, ?_, VRs.cons (hf.2 t) h2⟩
   have e : (resVar tmps (.tmp t)).run E.P w = .ok (tmps.getD t undef) w := rfl
   simp only [List.mapM_cons, Sem.run_bind, e, Result.andThen_ok, h1, Sem.run_pure]
  ·cases e
 | .cell a t :: rs, l, e => by
  simp only [aRes] at e
  split at e
  ·rename_i p hp
   have hfa := hf.2 a
   rw [hp] at hfa
   split at e
   ·rename_i v h0 l' hv hl'
    simp only [Option.some.injEq] at e; subst e
    obtain ⟨vs, h1, h2⟩ := aRes_ok hE hf hr rs l' hl'
    obtain ⟨r, o, u, hptr, hld, hvu⟩ := aLoad_run hE hr t hfa hv
    refine ⟨u :: vs, ?_, VRs.cons hvu h2⟩
    have e : (resVar tmps (.cell a t)).run E.P w = .ok u w := by
     simp only [resVar, Sem.run_bind, hptr, asAddr, Sem.run_pure, Result.andThen_ok, hld]
    simp only [List.mapM_cons, Sem.run_bind, e, Result.andThen_ok, h1, Sem.run_pure]
   ·cases e
  ·cases e
theorem results_ok {E : Env} (hE : E.OK) {φ : Ren} {fr : Fr} {tmps : Array Value} {h : H} {w : World} (hf : FR φ fr tmps) (hr : HR φ h w) (fn : Func) {l : List V} (e : aRes E fr h fn.results.toList = some l) :
  ∃ v, (results fn tmps).run E.P w = .ok v w ∧ VR φ (aRets l) v := by
 obtain ⟨vs, h1, h2⟩ := aRes_ok hE hf hr fn.results.toList l e
 have hm : (fn.results.mapM (resVar tmps)).run E.P w = .ok vs.toArray w := by
  rw [Array.mapM_eq_mapM_toList]
  simp [h1]
 have hres : results fn tmps = (do
   let vs ← fn.results.mapM (resVar tmps)
   pure (if h : vs.size = 1 then vs[0] else .tuple vs)) := rfl
 rw [hres, Sem.run_bind, hm]
 simp only [Result.andThen_ok, Sem.run_pure]
 by_cases h1' : vs.length = 1
 ·obtain ⟨v, rfl⟩ := List.length_eq_one_iff.1 h1'
  have hl1 : l.length = 1 := by rw [← h2.length]; exact h1'
  obtain ⟨x, rfl⟩ := List.length_eq_one_iff.1 hl1
  simp only [VRs] at h2
  obtain ⟨y, ys, h3, h4, _⟩ := h2
  cases h3
  exact ⟨v, by simp, h4⟩
 ·refine ⟨.tuple vs.toArray, by simp [h1'], ?_⟩
  have hl1 : l.length ≠ 1 := by rw [← h2.length]; exact h1'
  have : aRets l = .t l := by
   match l, hl1 with
   | [], _ => rfl
   | [x], h => exact absurd rfl h
   | _ :: _ :: _, _ => rfl
  rw [this]
  simp only [VR]
  exact ⟨_, rfl, by simpa using h2⟩
theorem callB_ok {E : Env} (hE : E.OK) {ex : ExecT} (hX : ExecOK E ex) : CallOK E (callB E ex) := by
 intro f args h v h' hs φ args' w n hg hbd hargs hr
 unfold callB at hs
 split at hs
 ·rename_i fn hfn
  obtain ⟨hfn', hname⟩ := hE.fn _ _ hfn
  split at hs
  ·rename_i c hc
   refine ⟨⟨fn, c, hfn', hc, hname⟩, ?_⟩
   cases hle : Nat.ble args.length fn.ntmps with
   | false => rw [hle] at hs; cases hs
   | true =>
    rw [hle] at hs
    simp only [cond] at hs
    have hle' : args.length ≤ fn.ntmps := Nat.le_of_ble_eq_true hle
    have hF := load_FR hargs fn.ntmps hle'
    refine callsIn_of_wp_marks hfn' hc trivial ?_
    split at hs
    ·cases hs
    ·rename_i x fr ds h1 hne hex
     have hwp := hX none c _ [] h x fr ds h1 hex φ { tmps := args'.toArray ++ Array.replicate (fn.ntmps - args'.toArray.size) undef, defers := [] } w none n hg hbd rfl hF rfl hr
     refine wpIn_mono hwp ?_
     rintro e a' w' ⟨φ', hx, rfl, hf, hd, hr'⟩
     split at hs
     ·rename_i h2 hh2
      split at hs
      ·rename_i l hl
       simp only [Option.some.injEq, Prod.mk.injEq] at hs
       obtain ⟨rfl, rfl⟩ := hs
       have key : LeavesInM (W none) n E.P fn a'.tmps (Res φ w (aRets l) h2) a'.defers .returning w' := by
        refine takes_ok ds h1 h2 hh2 φ' w' a'.defers hd hr' fun w'' hx'' hr'' => ?_
        obtain ⟨v, hv1, hv2⟩ := results_ok hE hf hr'' fn hl
        exact ⟨v, hv1, φ', v, rfl, hx.trans hx'', hv2, hr''⟩
       cases x with
       | n => exact key
       | r => exact key
       | e id => exact (hne id rfl).elim
      ·cases hs
     ·cases hs
    ·cases hs
  ·cases hs
 ·cases hs
end
end Go.Ev
namespace Go.Ev
noncomputable section
theorem perm_lift {α β : Type} {f : α → β} : ∀ {ps : List β} {L : List α}, ps.Perm (L.map f) → ∃ l : List α, l.Perm L ∧ l.map f = ps
 | [], L, h => by
  have := h.length_eq
  simp at this
  have : L = [] := List.eq_nil_of_length_eq_zero (by omega)
  subst this
  exact ⟨[], List.Perm.refl _, rfl⟩
 | p :: ps, L, h => by
  have hp : p ∈ L.map f := h.mem_iff.1 List.mem_cons_self
  obtain ⟨a, ha, hfa⟩ := List.mem_map.1 hp
  obtain ⟨s, t, rfl⟩ := List.append_of_mem ha
  have h1 : (p :: ps).Perm (f a :: (s ++ t).map f) := by
   refine h.trans ?_
   simp only [List.map_append, List.map_cons]
   exact List.perm_middle
  rw [hfa] at h1
  obtain ⟨l, h2, h3⟩ := perm_lift (List.Perm.cons_inv h1)
  exact ⟨a :: l, (List.Perm.cons a h2).trans List.perm_middle.symm, by simp [h3, hfa]⟩
theorem rowOK_ok {r : Nat} : ∀ {l : List Int} {rs : List Nat}, rowOK r l rs = true → l.length = rs.length ∧ ∀ (j : Nat) (z : Int) (r' : Nat), l[j]? = some z → rs[j]? = some r' → (z < 0 ↔ r < r')
 | [], [], _ => ⟨rfl, fun j z r' h => by simp at h⟩
 | z :: l, r' :: rs, h => by
  simp only [rowOK, Bool.and_eq_true] at h
  obtain ⟨h1, h2⟩ := rowOK_ok h.2
  refine ⟨by simp [h1], fun j z2 r2 e1 e2 => ?_⟩
  cases j with
  | zero =>
   simp only [List.getElem?_cons_zero, Option.some.injEq] at e1 e2
   subst e1; subst e2
   have h3 := sameBB_ok h.1
   rw [← blt_iff, ← h3]
   cases z with
   | ofNat n =>
   simp only [negB]
   constructor
   ·intro h; exact absurd h (by simp)
   ·intro h; cases h
   | negSucc n => simp only [negB, iff_true]; exact Int.negSucc_lt_zero n
  | succ j => exact h2 j z2 r2 (by simpa using e1) (by simpa using e2)
 | [], _ :: _, h => by cases h
 | _ :: _, [], h => by cases h
theorem tabOK_ok {rs : List Nat} : ∀ {t : List (List Int)} {rs' : List Nat}, tabOK rs t rs' = true → t.length = rs'.length ∧ ∀ (i : Nat) (l : List Int) (r : Nat), t[i]? = some l → rs'[i]? = some r → rowOK r l rs = true
 | [], [], _ => ⟨rfl, fun i l r h => by simp at h⟩
 | l :: t, r :: rs', h => by
  simp only [tabOK, Bool.and_eq_true] at h
  obtain ⟨h1, h2⟩ := tabOK_ok h.2
  refine ⟨by simp [h1], fun i l2 r2 e1 e2 => ?_⟩
  cases i with
  | zero =>
   simp only [List.getElem?_cons_zero, Option.some.injEq] at e1 e2
   subst e1; subst e2; exact h.1
  | succ i => exact h2 i l2 r2 (by simpa using e1) (by simpa using e2)
 | [], _ :: _, h => by cases h
 | _ :: _, [], h => by cases h
theorem cmpRow_ok {E : Env} {g : Nat} {c : List V} : ∀ {cs : List (List V)} {l : List Int}, cmpRow E g c cs = some l → l.length = cs.length ∧ ∀ (j : Nat) (c' : List V) (z : Int), cs[j]? = some c' → l[j]? = some z → E.cm g c c' = some z
 | [], l, h => by simp only [cmpRow, Option.some.injEq] at h; subst h; exact ⟨rfl, fun j c' z h => by simp at h⟩
 | c' :: cs, l, h => by
  simp only [cmpRow] at h
  split at h
  ·rename_i z hz
   split at h
   ·rename_i l' hl
    cases h
    obtain ⟨h1, h2⟩ := cmpRow_ok hl
    refine ⟨by simp [h1], fun j c2 z2 e1 e2 => ?_⟩
    cases j with
    | zero =>
     simp only [List.getElem?_cons_zero, Option.some.injEq] at e1 e2
     subst e1; subst e2; exact hz
    | succ j => exact h2 j c2 z2 (by simpa using e1) (by simpa using e2)
   ·cases h
  ·cases h
theorem cmpTab_ok {E : Env} {g : Nat} {all : List (List V)} : ∀ {cs : List (List V)} {t : List (List Int)}, cmpTab E g all cs = some t → t.length = cs.length ∧ ∀ (i : Nat) (c : List V) (l : List Int), cs[i]? = some c → t[i]? = some l → cmpRow E g c all = some l
 | [], t, h => by simp only [cmpTab, Option.some.injEq] at h; subst h; exact ⟨rfl, fun i c l h => by simp at h⟩
 | c :: cs, t, h => by
  simp only [cmpTab] at h
  split at h
  ·rename_i l t' hl ht
   cases h
   obtain ⟨h1, h2⟩ := cmpTab_ok ht
   refine ⟨by simp [h1], fun i c2 l2 e1 e2 => ?_⟩
   cases i with
   | zero =>
    simp only [List.getElem?_cons_zero, Option.some.injEq] at e1 e2
    subst e1; subst e2; exact hl
   | succ i => exact h2 i c2 l2 (by simpa using e1) (by simpa using e2)
  ·cases h
theorem ranks_len (t : List (List Int)) : ∀ n, (ranks t n).length = n
 | 0 => rfl
 | n + 1 => by simp [ranks, ranks_len t n]
theorem ordOK_ok {rs : List Nat} {n : Nat} : ∀ {l : List Nat} {p : Nat}, ordOK rs n l p = true → p + l.length = n ∧ ∃ m : List (Fin n), m.map (·.1) = l ∧ (∀ x ∈ m, p ≤ rs.getD x.1 n) ∧ m.Pairwise (fun a b => rs.getD a.1 n < rs.getD b.1 n)
 | [], p, h => ⟨by simpa using Nat.eq_of_beq_eq_true h, [], rfl, fun x hx => (by cases hx), List.Pairwise.nil⟩
 | i :: l, p, h => by
  simp only [ordOK, Bool.and_eq_true] at h
  obtain ⟨h1, m, h2, h3, h4⟩ := ordOK_ok h.2
  have hi := blt_iff.1 h.1.1
  have hr := Nat.eq_of_beq_eq_true h.1.2
  refine ⟨by simp; omega, ⟨i, hi⟩ :: m, by simp [h2], fun x hx => ?_, List.pairwise_cons.2 ⟨fun x hx => ?_, h4⟩⟩
  ·rcases List.mem_cons.1 hx with rfl | hx
   ·show p ≤ rs.getD i n
    omega
   ·have := h3 x hx; omega
  ·show rs.getD i n < _
   have := h3 x hx; omega
end
end Go.Ev
