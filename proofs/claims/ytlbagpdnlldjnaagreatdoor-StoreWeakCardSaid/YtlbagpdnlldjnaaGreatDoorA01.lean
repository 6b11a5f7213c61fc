/- The abstract machine, part A: tries, abstract values, abstract heaps, and how they stand to the model's values and worlds. -/
import Derived.TacticsIn
import Derived.RangeFuncIn
import Derived.Laws.Sem
import Derived.Laws.Cells
import Derived.MapKept
import Derived.Laws.Strings
import Derived.Laws.Tables
import Derived.Great.BuildSlice
set_option linter.all false
namespace Go.Ev
noncomputable section
theorem cond_some {α : Type} {c : Bool} {m : Option α} {x : α} (h : cond c m none = some x) : c = true ∧ m = some x := by
 cases c with
 | true => exact ⟨rfl, h⟩
 | false => cases h
inductive TB (α : Type) where
 | leaf : TB α
 | node : TB α → α → TB α → TB α
def TB.gN {α : Type} (_ : TB α) (v : α) (_ : TB α) (gl gr : Nat → α) (n : Nat) : α :=
 @Bool.rec (fun _ => α) (@Bool.rec (fun _ => α) (gr (Nat.div (Nat.sub n 1) 2)) (gl (Nat.div (Nat.sub n 1) 2)) (Nat.beq (Nat.mod n 2) 1)) v (Nat.beq n 0)
def TB.gL {α : Type} (d : α) (_ : Nat) : α := d
def TB.get {α : Type} (d : α) (t : TB α) : Nat → α := @TB.rec α (fun _ => Nat → α) (TB.gL d) TB.gN t
def TB.oN {α : Type} (d x : α) (_ : Nat) (ih : Nat → TB α) (n : Nat) : TB α :=
 @Bool.rec (fun _ => TB α) (@Bool.rec (fun _ => TB α) (.node .leaf d (ih (Nat.div (Nat.sub n 1) 2))) (.node (ih (Nat.div (Nat.sub n 1) 2)) d .leaf) (Nat.beq (Nat.mod n 2) 1)) (.node .leaf x .leaf) (Nat.beq n 0)
def TB.one {α : Type} (d x : α) (f : Nat) : Nat → TB α := @Nat.rec (fun _ => Nat → TB α) (fun _ => .leaf) (TB.oN d x) f
def TB.sN {α : Type} (x : α) (l : TB α) (v : α) (r : TB α) (sl sr : Nat → TB α) (n : Nat) : TB α :=
 @Bool.rec (fun _ => TB α) (@Bool.rec (fun _ => TB α) (.node l v (sr (Nat.div (Nat.sub n 1) 2))) (.node (sl (Nat.div (Nat.sub n 1) 2)) v r) (Nat.beq (Nat.mod n 2) 1)) (.node l x r) (Nat.beq n 0)
def TB.sL {α : Type} (d x : α) (n : Nat) : TB α := TB.one d x (Nat.succ n) n
def TB.set {α : Type} (d : α) (t : TB α) (n : Nat) (x : α) : TB α := @TB.rec α (fun _ => Nat → TB α) (TB.sL d x) (TB.sN x) t n
theorem nbf {n m : Nat} (h : n ≠ m) : Nat.beq n m = false := by
 cases hb : Nat.beq n m with
 | false => rfl
 | true => exact absurd (Nat.eq_of_beq_eq_true hb) h
theorem brec {β : Type} {x y : β} {n : Nat} {a : β} : @Bool.rec (fun _ => β) (@Bool.rec (fun _ => β) x y (Nat.beq (Nat.mod n 2) 1)) a (Nat.beq n 0) = if n = 0 then a else if n % 2 = 1 then y else x := by
 by_cases h : n = 0
 ·subst h; rfl
 ·rw [nbf h, if_neg h]
  by_cases h2 : n % 2 = 1
  ·have h3 : Nat.beq (Nat.mod n 2) 1 = true := by show Nat.beq (n % 2) 1 = true; simpa using h2
   rw [if_pos h2, h3]
  ·have h3 : Nat.beq (Nat.mod n 2) 1 = false := nbf h2
   rw [if_neg h2, h3]
theorem TB.get_leaf {α : Type} (d : α) (n : Nat) : TB.get d .leaf n = d := rfl
theorem TB.get_node {α : Type} (d : α) (l r : TB α) (v : α) (n : Nat) :
  TB.get d (.node l v r) n = if n = 0 then v else if n % 2 = 1 then TB.get d l ((n - 1) / 2) else TB.get d r ((n - 1) / 2) :=
 (brec : @Bool.rec (fun _ => α) (@Bool.rec (fun _ => α) (TB.get d r ((n - 1) / 2)) (TB.get d l ((n - 1) / 2)) (Nat.beq (Nat.mod n 2) 1)) v (Nat.beq n 0) = _)
theorem TB.one_succ {α : Type} (d x : α) (f n : Nat) : TB.one d x (f + 1) n = if n = 0 then .node .leaf x .leaf else if n % 2 = 1 then .node (TB.one d x f ((n - 1) / 2)) d .leaf else .node .leaf d (TB.one d x f ((n - 1) / 2)) :=
 (brec : @Bool.rec (fun _ => TB α) (@Bool.rec (fun _ => TB α) (.node .leaf d (TB.one d x f ((n - 1) / 2))) (.node (TB.one d x f ((n - 1) / 2)) d .leaf) (Nat.beq (Nat.mod n 2) 1)) (.node .leaf x .leaf) (Nat.beq n 0) = _)
theorem TB.set_leaf {α : Type} (d x : α) (n : Nat) : TB.set d .leaf n x = TB.one d x (n + 1) n := rfl
theorem TB.set_node {α : Type} (d x : α) (l r : TB α) (v : α) (n : Nat) : TB.set d (.node l v r) n x = if n = 0 then .node l x r else if n % 2 = 1 then .node (TB.set d l ((n - 1) / 2) x) v r else .node l v (TB.set d r ((n - 1) / 2) x) :=
 (brec : @Bool.rec (fun _ => TB α) (@Bool.rec (fun _ => TB α) (.node l v (TB.set d r ((n - 1) / 2) x)) (.node (TB.set d l ((n - 1) / 2) x) v r) (Nat.beq (Nat.mod n 2) 1)) (.node l x r) (Nat.beq n 0) = _)
theorem TB.get_one {α : Type} (d x : α) : ∀ (f n : Nat), n < f → ∀ m, TB.get d (TB.one d x f n) m = if m = n then x else d
 | 0, n, h, _ => absurd h (Nat.not_lt_zero _)
 | f + 1, n, h, m => by
  rw [TB.one_succ]
  by_cases h0 : n = 0
  ·subst h0
   rw [if_pos rfl, TB.get_node]
   by_cases hm : m = 0 <;> simp [hm, TB.get_leaf]
  ·rw [if_neg h0]
   have ih := TB.get_one d x f ((n - 1) / 2) (by omega)
   by_cases h2 : n % 2 = 1
   ·rw [if_pos h2, TB.get_node]
    by_cases hm : m = 0
    ·rw [if_pos hm, if_neg (by omega)]
    ·rw [if_neg hm]
     by_cases hm2 : m % 2 = 1
     ·rw [if_pos hm2, ih]
      by_cases hmn : m = n
      ·subst hmn; simp
      ·rw [if_neg hmn, if_neg (by omega)]
     ·rw [if_neg hm2, if_neg (by rintro rfl; exact hm2 h2)]; rfl
   ·rw [if_neg h2, TB.get_node]
    by_cases hm : m = 0
    ·rw [if_pos hm, if_neg (by omega)]
    ·rw [if_neg hm]
     by_cases hm2 : m % 2 = 1
     ·rw [if_pos hm2, if_neg (by rintro rfl; exact h2 hm2)]; rfl
     ·rw [if_neg hm2, ih]
      by_cases hmn : m = n
      ·subst hmn; simp
      ·rw [if_neg hmn, if_neg (by omega)]
theorem TB.get_set {α : Type} (d x : α) : ∀ (t : TB α) (n m : Nat), TB.get d (TB.set d t n x) m = if m = n then x else TB.get d t m
 | .leaf, n, m => by rw [TB.set_leaf, TB.get_one d x _ _ (Nat.lt_succ_self n)]; rfl
 | .node l v r, n, m => by
  rw [TB.set_node, TB.get_node]
  by_cases h0 : n = 0
  ·subst h0
   rw [if_pos rfl, TB.get_node]
   by_cases hm : m = 0 <;> simp [hm]
  ·rw [if_neg h0]
   by_cases h2 : n % 2 = 1
   ·rw [if_pos h2, TB.get_node]
    by_cases hm : m = 0
    ·rw [if_pos hm, if_pos hm, if_neg (by omega)]
    ·rw [if_neg hm, if_neg hm]
     by_cases hm2 : m % 2 = 1
     ·rw [if_pos hm2, if_pos hm2, TB.get_set d x l]
      by_cases hmn : m = n
      ·subst hmn; simp
      ·rw [if_neg hmn, if_neg (by omega)]
     ·rw [if_neg hm2, if_neg hm2, if_neg (by rintro rfl; exact hm2 h2)]
   ·rw [if_neg h2, TB.get_node]
    by_cases hm : m = 0
    ·rw [if_pos hm, if_pos hm, if_neg (by omega)]
    ·rw [if_neg hm, if_neg hm]
     by_cases hm2 : m % 2 = 1
     ·rw [if_pos hm2, if_pos hm2, if_neg (by rintro rfl; exact h2 hm2)]
     ·rw [if_neg hm2, if_neg hm2, TB.get_set d x r]
      by_cases hmn : m = n
      ·subst hmn; simp
      ·rw [if_neg hmn, if_neg (by omega)]
structure N8 (α : Type) where
 a0 : α
 a1 : α
 a2 : α
 a3 : α
 a4 : α
 a5 : α
 a6 : α
 a7 : α
def N8.s0 {α : Type} (h : α → α) (t : N8 α) : N8 α := @N8.rec α (fun _ => N8 α) (fun a0 a1 a2 a3 a4 a5 a6 a7 => N8.mk (h a0) a1 a2 a3 a4 a5 a6 a7) t
def N8.s1 {α : Type} (h : α → α) (t : N8 α) : N8 α := @N8.rec α (fun _ => N8 α) (fun a0 a1 a2 a3 a4 a5 a6 a7 => N8.mk a0 (h a1) a2 a3 a4 a5 a6 a7) t
def N8.s2 {α : Type} (h : α → α) (t : N8 α) : N8 α := @N8.rec α (fun _ => N8 α) (fun a0 a1 a2 a3 a4 a5 a6 a7 => N8.mk a0 a1 (h a2) a3 a4 a5 a6 a7) t
def N8.s3 {α : Type} (h : α → α) (t : N8 α) : N8 α := @N8.rec α (fun _ => N8 α) (fun a0 a1 a2 a3 a4 a5 a6 a7 => N8.mk a0 a1 a2 (h a3) a4 a5 a6 a7) t
def N8.s4 {α : Type} (h : α → α) (t : N8 α) : N8 α := @N8.rec α (fun _ => N8 α) (fun a0 a1 a2 a3 a4 a5 a6 a7 => N8.mk a0 a1 a2 a3 (h a4) a5 a6 a7) t
def N8.s5 {α : Type} (h : α → α) (t : N8 α) : N8 α := @N8.rec α (fun _ => N8 α) (fun a0 a1 a2 a3 a4 a5 a6 a7 => N8.mk a0 a1 a2 a3 a4 (h a5) a6 a7) t
def N8.s6 {α : Type} (h : α → α) (t : N8 α) : N8 α := @N8.rec α (fun _ => N8 α) (fun a0 a1 a2 a3 a4 a5 a6 a7 => N8.mk a0 a1 a2 a3 a4 a5 (h a6) a7) t
def N8.s7 {α : Type} (h : α → α) (t : N8 α) : N8 α := @N8.rec α (fun _ => N8 α) (fun a0 a1 a2 a3 a4 a5 a6 a7 => N8.mk a0 a1 a2 a3 a4 a5 a6 (h a7)) t
def N8.all {α : Type} (d : α) : N8 α := ⟨d, d, d, d, d, d, d, d⟩
structure Dg (α : Type) where
 g : N8 α → α
 s : (α → α) → N8 α → N8 α
def dg (α : Type) (n : Nat) : Dg α :=
 (@Bool.rec (fun _ => Dg α) (@Bool.rec (fun _ => Dg α) (@Bool.rec (fun _ => Dg α) ⟨N8.a7, N8.s7⟩ ⟨N8.a6, N8.s6⟩ (Nat.blt n 7)) (@Bool.rec (fun _ => Dg α) ⟨N8.a5, N8.s5⟩ ⟨N8.a4, N8.s4⟩ (Nat.blt n 5)) (Nat.blt n 6)) (@Bool.rec (fun _ => Dg α) (@Bool.rec (fun _ => Dg α) ⟨N8.a3, N8.s3⟩ ⟨N8.a2, N8.s2⟩ (Nat.blt n 3)) (@Bool.rec (fun _ => Dg α) ⟨N8.a1, N8.s1⟩ ⟨N8.a0, N8.s0⟩ (Nat.blt n 1)) (Nat.blt n 2)) (Nat.blt n 4))
def NN (α : Type) (d : Nat) : Type := @Nat.rec (fun _ => Type) α (fun _ t => N8 t) d
structure Ac (α β : Type) where
 g : β → α
 s : (α → α) → β → β
def acC {α β : Type} (x : Dg β) (y : Ac α β) : Ac α (N8 β) := @Dg.rec β (fun _ => Ac α (N8 β)) (fun g1 s1 => @Ac.rec α β (fun _ => Ac α (N8 β)) (fun g s => ⟨fun t => g (g1 t), fun h => s1 (s h)⟩) y) x
def ac (α : Type) (n d : Nat) : Ac α (NN α d) :=
 @Nat.rec (fun d => Ac α (NN α d)) ⟨fun t => t, fun h t => h t⟩ (fun d y => acC (dg (NN α d) (Nat.mod (Nat.div n (Nat.pow 8 d)) 8)) y) d
def fillN {α : Type} (x : α) (d : Nat) : NN α d := @Nat.rec (fun d => NN α d) x (fun _ y => N8.all y) d
structure T (α : Type) where
 a : NN (Option α) 2
 b : NN (Option α) 5
 c : TB (Option α)
def T.leaf {α : Type} : T α := ⟨fillN none 2, fillN none 5, .leaf⟩
structure AcT (α : Type) where
 g : T α → Option α
 s : Option α → T α → T α
def tA {α : Type} (s : (Option α → Option α) → NN (Option α) 2 → NN (Option α) 2) (x : Option α) (t : T α) : T α := @T.rec α (fun _ => T α) (fun a b c => ⟨s (fun _ => x) a, b, c⟩) t
def tB {α : Type} (s : (Option α → Option α) → NN (Option α) 5 → NN (Option α) 5) (x : Option α) (t : T α) : T α := @T.rec α (fun _ => T α) (fun a b c => ⟨a, s (fun _ => x) b, c⟩) t
def tC {α : Type} (n : Nat) (x : Option α) (t : T α) : T α := @T.rec α (fun _ => T α) (fun a b c => ⟨a, b, TB.set none c n x⟩) t
def acT (α : Type) (n : Nat) : AcT α :=
 @Bool.rec (fun _ => AcT α)
  (@Bool.rec (fun _ => AcT α) ⟨fun t => TB.get none t.c n, tC n⟩ (@Ac.rec _ _ (fun _ => AcT α) (fun g s => ⟨fun t => g t.b, tB s⟩) (ac (Option α) n 5)) (Nat.blt n 32768))
  (@Ac.rec _ _ (fun _ => AcT α) (fun g s => ⟨fun t => g t.a, tA s⟩) (ac (Option α) n 2)) (Nat.blt n 64)
def oG {α : Type} (d : α) (o : Option α) : α := @Option.rec α (fun _ => α) d (fun x => x) o
def T.get {α : Type} (d : α) (t : T α) (n : Nat) : α := oG d (@AcT.rec α (fun _ => Option α) (fun g _ => g t) (acT α n))
def T.set {α : Type} (_ : α) (t : T α) (n : Nat) (x : α) : T α := @AcT.rec α (fun _ => T α) (fun _ s => s (some x) t) (acT α n)
theorem dg_ok {α : Type} (i j : Nat) (hi : i < 8) (hj : j < 8) (h : α → α) (t : N8 α) : (dg α i).g ((dg α j).s h t) = if i = j then h ((dg α i).g t) else (dg α i).g t := by
 match i, j, hi, hj with
 | 0, 0, _, _ => rfl
 | 0, 1, _, _ => rfl
 | 0, 2, _, _ => rfl
 | 0, 3, _, _ => rfl
 | 0, 4, _, _ => rfl
 | 0, 5, _, _ => rfl
 | 0, 6, _, _ => rfl
 | 0, 7, _, _ => rfl
 | 1, 0, _, _ => rfl
 | 1, 1, _, _ => rfl
 | 1, 2, _, _ => rfl
 | 1, 3, _, _ => rfl
 | 1, 4, _, _ => rfl
 | 1, 5, _, _ => rfl
 | 1, 6, _, _ => rfl
 | 1, 7, _, _ => rfl
 | 2, 0, _, _ => rfl
 | 2, 1, _, _ => rfl
 | 2, 2, _, _ => rfl
 | 2, 3, _, _ => rfl
 | 2, 4, _, _ => rfl
 | 2, 5, _, _ => rfl
 | 2, 6, _, _ => rfl
 | 2, 7, _, _ => rfl
 | 3, 0, _, _ => rfl
 | 3, 1, _, _ => rfl
 | 3, 2, _, _ => rfl
 | 3, 3, _, _ => rfl
 | 3, 4, _, _ => rfl
 | 3, 5, _, _ => rfl
 | 3, 6, _, _ => rfl
 | 3, 7, _, _ => rfl
 | 4, 0, _, _ => rfl
 | 4, 1, _, _ => rfl
 | 4, 2, _, _ => rfl
 | 4, 3, _, _ => rfl
 | 4, 4, _, _ => rfl
 | 4, 5, _, _ => rfl
 | 4, 6, _, _ => rfl
 | 4, 7, _, _ => rfl
 | 5, 0, _, _ => rfl
 | 5, 1, _, _ => rfl
 | 5, 2, _, _ => rfl
 | 5, 3, _, _ => rfl
 | 5, 4, _, _ => rfl
 | 5, 5, _, _ => rfl
 | 5, 6, _, _ => rfl
 | 5, 7, _, _ => rfl
 | 6, 0, _, _ => rfl
 | 6, 1, _, _ => rfl
 | 6, 2, _, _ => rfl
 | 6, 3, _, _ => rfl
 | 6, 4, _, _ => rfl
 | 6, 5, _, _ => rfl
 | 6, 6, _, _ => rfl
 | 6, 7, _, _ => rfl
 | 7, 0, _, _ => rfl
 | 7, 1, _, _ => rfl
 | 7, 2, _, _ => rfl
 | 7, 3, _, _ => rfl
 | 7, 4, _, _ => rfl
 | 7, 5, _, _ => rfl
 | 7, 6, _, _ => rfl
 | 7, 7, _, _ => rfl
theorem dg_all {α : Type} (i : Nat) (hi : i < 8) (x : α) : (dg α i).g (N8.all x) = x := by
 match i, hi with
 | 0, _ => rfl
 | 1, _ => rfl
 | 2, _ => rfl
 | 3, _ => rfl
 | 4, _ => rfl
 | 5, _ => rfl
 | 6, _ => rfl
 | 7, _ => rfl
theorem acC_g {α β : Type} (x : Dg β) (y : Ac α β) (t : N8 β) : (acC x y).g t = y.g (x.g t) := rfl
theorem acC_s {α β : Type} (x : Dg β) (y : Ac α β) (h : α → α) (t : N8 β) : (acC x y).s h t = x.s (y.s h) t := rfl
theorem ac_ok {α : Type} (n m : Nat) (h : α → α) : ∀ (d : Nat) (t : NN α d), (ac α n d).g ((ac α m d).s h t) = if n % 8 ^ d = m % 8 ^ d then h ((ac α n d).g t) else (ac α n d).g t
 | 0, t => by
  have e : n % 8 ^ 0 = m % 8 ^ 0 := by simp [Nat.mod_one]
  rw [if_pos e]; rfl
 | d + 1, t => by
  have hm : ∀ k, k / 8 ^ d % 8 < 8 := fun k => Nat.mod_lt _ (by omega)
  refine Eq.trans (congrArg (ac α n d).g (dg_ok (α := NN α d) _ _ (hm n) (hm m) ((ac α m d).s h) t)) ?_
  show _ = if n % 8 ^ (d + 1) = m % 8 ^ (d + 1) then h ((ac α n d).g ((dg (NN α d) (n / 8 ^ d % 8)).g t)) else (ac α n d).g ((dg (NN α d) (n / 8 ^ d % 8)).g t)
  have key : ∀ k, k % 8 ^ (d + 1) = k / 8 ^ d % 8 * 8 ^ d + k % 8 ^ d := fun k => by
   rw [Nat.pow_succ, Nat.mod_mul, Nat.mul_comm (8 ^ d), Nat.add_comm]
  by_cases hq : n / 8 ^ d % 8 = m / 8 ^ d % 8
  ·rw [if_pos hq, ac_ok n m h d]
   by_cases hr : n % 8 ^ d = m % 8 ^ d
   ·rw [if_pos hr, if_pos (by rw [key, key, hq, hr])]
   ·rw [if_neg hr, if_neg (fun e => hr (by
     have h1 := congrArg (· % 8 ^ d) e
     simpa [Nat.pow_succ, Nat.mod_mul_right_mod, Nat.mul_comm] using h1))]
  ·rw [if_neg hq, if_neg (fun e => hq (by
    have h1 := congrArg (· / 8 ^ d) e
    simp only [key] at h1
    have hp : 0 < 8 ^ d := Nat.pow_pos (by omega)
    have h2 : ∀ k, (k / 8 ^ d % 8 * 8 ^ d + k % 8 ^ d) / 8 ^ d = k / 8 ^ d % 8 := fun k => by
     rw [Nat.mul_comm, Nat.mul_add_div hp, Nat.div_eq_of_lt (Nat.mod_lt _ hp), Nat.add_zero]
    rwa [h2, h2] at h1))]
theorem ac_fill {α : Type} (n : Nat) (x : α) : ∀ d, (ac α n d).g (fillN x d) = x
 | 0 => rfl
 | d + 1 => by
  show (ac α n d).g ((dg (NN α d) (n / 8 ^ d % 8)).g (N8.all (fillN x d))) = x
  exact (congrArg (ac α n d).g (dg_all (α := NN α d) _ (Nat.mod_lt _ (by omega)) (fillN x d))).trans (ac_fill n x d)
theorem blt_t {a b : Nat} (h : a < b) : Nat.blt a b = true := Eq.mpr Nat.ble_eq h
theorem blt_f {a b : Nat} (h : b ≤ a) : Nat.blt a b = false := by
 cases hb : Nat.blt a b with
 | false => rfl
 | true => have : a + 1 ≤ b := Eq.mp Nat.ble_eq hb; omega
theorem acT_a {α : Type} {n : Nat} (h : n < 64) : acT α n = ⟨fun t => (ac (Option α) n 2).g t.a, tA (ac (Option α) n 2).s⟩ := by unfold acT; rw [blt_t (a := n) (b := 64) h]
theorem acT_b {α : Type} {n : Nat} (h : 64 ≤ n) (h' : n < 32768) : acT α n = ⟨fun t => (ac (Option α) n 5).g t.b, tB (ac (Option α) n 5).s⟩ := by unfold acT; rw [blt_f (a := n) (b := 64) h, blt_t (a := n) (b := 32768) h']
theorem acT_c {α : Type} {n : Nat} (h : 32768 ≤ n) : acT α n = ⟨fun t => TB.get none t.c n, tC n⟩ := by unfold acT; rw [blt_f (a := n) (b := 64) (by omega), blt_f (a := n) (b := 32768) h]
theorem acT_ok {α : Type} (n m : Nat) (x : Option α) (t : T α) : (acT α n).g ((acT α m).s x t) = if n = m then x else (acT α n).g t := by
 rcases Nat.lt_or_ge n 64 with h1 | h1
 ·rw [acT_a h1]
  rcases Nat.lt_or_ge m 64 with h2 | h2
  ·rw [acT_a h2]
   show (ac (Option α) n 2).g ((ac (Option α) m 2).s (fun _ => x) t.a) = _
   rw [ac_ok, show (8 : Nat) ^ 2 = 64 from rfl, Nat.mod_eq_of_lt h1, Nat.mod_eq_of_lt h2]
  ·rw [if_neg (by omega)]
   rcases Nat.lt_or_ge m 32768 with h3 | h3
   ·rw [acT_b h2 h3]; rfl
   ·rw [acT_c h3]; rfl
 ·rcases Nat.lt_or_ge n 32768 with h1' | h1'
  ·rw [acT_b h1 h1']
   rcases Nat.lt_or_ge m 64 with h2 | h2
   ·rw [acT_a h2, if_neg (by omega)]; rfl
   ·rcases Nat.lt_or_ge m 32768 with h3 | h3
    ·rw [acT_b h2 h3]
     show (ac (Option α) n 5).g ((ac (Option α) m 5).s (fun _ => x) t.b) = _
     rw [ac_ok, show (8 : Nat) ^ 5 = 32768 from rfl, Nat.mod_eq_of_lt h1', Nat.mod_eq_of_lt h3]
    ·rw [acT_c h3, if_neg (by omega)]; rfl
  ·rw [acT_c h1']
   rcases Nat.lt_or_ge m 64 with h2 | h2
   ·rw [acT_a h2, if_neg (by omega)]; rfl
   ·rcases Nat.lt_or_ge m 32768 with h3 | h3
    ·rw [acT_b h2 h3, if_neg (by omega)]; rfl
    ·rw [acT_c h3]
     show TB.get none (TB.set none t.c m x) n = _
     rw [TB.get_set]
theorem T.get_def {α : Type} (d : α) (t : T α) (n : Nat) : T.get d t n = ((acT α n).g t).getD d := by
 show oG d ((acT α n).g t) = _
 cases (acT α n).g t <;> rfl
theorem T.set_def {α : Type} (d : α) (t : T α) (n : Nat) (x : α) : T.set d t n x = (acT α n).s (some x) t := rfl
theorem T.get_set {α : Type} (d x : α) (t : T α) (n m : Nat) : T.get d (T.set d t n x) m = if m = n then x else T.get d t m := by
 rw [T.get_def, T.set_def, acT_ok, T.get_def]
 by_cases h : m = n
 ·rw [if_pos h, if_pos h]; rfl
 ·rw [if_neg h, if_neg h]
theorem T.get_leaf {α : Type} (d : α) (n : Nat) : T.get d .leaf n = d := by
 rw [T.get_def]
 have e : (acT α n).g .leaf = none := by
  rcases Nat.lt_or_ge n 64 with h1 | h1
  ·rw [acT_a h1]; exact ac_fill n none 2
  ·rcases Nat.lt_or_ge n 32768 with h2 | h2
   ·rw [acT_b h1 h2]; exact ac_fill n none 5
   ·rw [acT_c h2]; exact TB.get_leaf none n
 rw [e]; rfl
structure Sym where
 s : Nat → Int
 q : Nat → Value
 w : Nat → List Value
 g : Nat → Array MapEntry × Nat
 k : Nat → Option Obj
 d : Bool
structure Ren where
 f : Nat → Option Nat
 n : Nat → Nat
 y : Sym
 m : Nat
instance : CoeFun Ren (fun _ => Nat → Option Nat) := ⟨Ren.f⟩
def Ren.s (φ : Ren) (x : Nat) : Int := φ.y.s x
def Ren.q (φ : Ren) (x : Nat) : Value := φ.y.q x
def Ren.w (φ : Ren) (x : Nat) : List Value := φ.y.w x
def Ren.g (φ : Ren) (x : Nat) : Array MapEntry × Nat := φ.y.g x
inductive Cap where
 | kn (c : Nat)
 | un (sz : Nat)
inductive V where
 | top
 | b (x : Bool)
 | i (k : IntKind) (n : Int)
 | y (k : IntKind) (x : Nat)
 | q (x : Nat)
 | sr (b x k sz : Nat)
 | pr (b x y sz off : Nat)
 | s (l : List Nat)
 | p (a : Option (Nat × Nat))
 | sl (a : Option (Nat × Nat)) (len : Nat) (cap : Cap)
 | es
 | m (r : Option Nat)
 | f (fn : FuncId) (first caps : List V)
 | yl (r : Nat)
 | o
 | nf
 | ifc (t : TypeId) (v : V)
 | ni
 | a (cs : List V)
 | t (vs : List V)
def bytes (l : List Nat) : ByteArray := ⟨(l.map UInt8.ofNat).toArray⟩
mutual
def VR (φ : Ren) : V → Value → Prop
 | .top, _ => True
 | .b x, v => v = .bool x
 | .i k n, v => v = .int k n
 | .y k x, v => v = .int k (φ.s x)
 | .q x, v => v = φ.q x ∧ v.oneCell' = true
 | .sr b x k sz, v => ∃ r n cap, φ b = some r ∧ 0 < sz ∧ n * sz = (φ.w x).length ∧ n + k ≤ cap ∧ cap * sz = φ.n b ∧ v = .slice (some ⟨r, 0, none⟩) (n + k) cap
 | .pr b _ y sz off, v => ∃ r n, φ b = some r ∧ φ.s y = ((n : Nat) : Int) ∧ v = .pointer (some ⟨r, n * sz + off, none⟩)
 | .s l, v => v = .string (bytes l) ∧ ∀ x ∈ l, x < 256
 | .p none, v => v = .pointer none
 | .p (some (b, o)), v => ∃ r, φ b = some r ∧ v = .pointer (some ⟨r, o, none⟩)
 | .sl none n _, v => n = 0 ∧ v = .slice none 0 0
 | .sl (some (b, o)) n (.kn c), v => ∃ r, φ b = some r ∧ n ≤ c ∧ v = .slice (some ⟨r, o, none⟩) n c
 | .sl (some (b, o)) n (.un sz), v => ∃ r cap, φ b = some r ∧ n ≤ cap ∧ o + cap * sz = φ.n b ∧ v = .slice (some ⟨r, o, none⟩) n cap
 | .es, v => ∃ a c, v = .slice a 0 c
 | .m none, v => v = .map none
 | .m (some b), v => ∃ r, φ b = some r ∧ v = .map (some r)
 | .f fn first caps, v => ∃ first' caps', v = .func (.func fn) first' caps' ∧ VRs φ first first'.toList ∧ VRs φ caps caps'.toList
 | .yl b, v => ∃ r, φ b = some r ∧ v = .func (.yield r) #[] #[]
 | .o, v => v.oneCell' = true
 | .nf, v => v = .nilFunc
 | .ifc t x, v => ∃ x', v = .iface t x' ∧ VR φ x x'
 | .ni, v => v = .nilIface
 | .a cs, v => ∃ cs', v = .agg cs' ∧ VRs φ cs cs'.toList
 | .t vs, v => ∃ vs', v = .tuple vs' ∧ VRs φ vs vs'.toList
def VRs (φ : Ren) : List V → List Value → Prop
 | [], l => l = []
 | x :: xs, l => ∃ y ys, l = y :: ys ∧ VR φ x y ∧ VRs φ xs ys
end
structure Le (φ φ' : Ren) : Prop where
 at_ : ∀ b r, φ b = some r → φ' b = some r ∧ φ'.n b = φ.n b
 yy : φ'.y = φ.y
theorem Le.sy {φ φ' : Ren} (h : Le φ φ') : φ'.s = φ.s := by funext x; simp only [Ren.s, h.yy]
theorem Le.qy {φ φ' : Ren} (h : Le φ φ') : φ'.q = φ.q := by funext x; simp only [Ren.q, h.yy]
theorem Le.wy {φ φ' : Ren} (h : Le φ φ') : φ'.w = φ.w := by funext x; simp only [Ren.w, h.yy]
theorem Le.gy {φ φ' : Ren} (h : Le φ φ') : φ'.g = φ.g := by funext x; simp only [Ren.g, h.yy]
instance {φ φ' : Ren} : CoeFun (Le φ φ') (fun _ => ∀ b r, φ b = some r → φ' b = some r ∧ φ'.n b = φ.n b) := ⟨Le.at_⟩
theorem Le.refl (φ : Ren) : Le φ φ := ⟨fun _ _ h => ⟨h, rfl⟩, rfl⟩
theorem Le.trans {φ₁ φ₂ φ₃ : Ren} (h : Le φ₁ φ₂) (h' : Le φ₂ φ₃) : Le φ₁ φ₃ := ⟨fun b r e =>
 let ⟨e1, n1⟩ := h.at_ b r e
 let ⟨e2, n2⟩ := h'.at_ b r e1
 ⟨e2, n2.trans n1⟩, h'.yy.trans h.yy⟩
mutual
theorem VR.mono {φ φ' : Ren} (h : Le φ φ') : ∀ (x : V) (v : Value), VR φ x v → VR φ' x v
 | .top, _, _ => by simp [VR]
 | .b x, v, e => by simpa [VR] using e
 | .i k n, v, e => by simpa [VR] using e
 | .y k x, v, e => by
  simp only [VR] at e ⊢
  rw [h.sy]; exact e
 | .q x, v, e => by
  simp only [VR] at e ⊢
  rw [h.qy]; exact e
 | .sr b x k sz, v, e => by
  simp only [VR] at e ⊢
  obtain ⟨r, n, cap, hr, h1, h2, h3, h4, h5⟩ := e
  exact ⟨r, n, cap, (h b r hr).1, h1, by rw [h.wy]; exact h2, h3, by rw [(h b r hr).2]; exact h4, h5⟩
 | .pr b x y sz off, v, e => by
  simp only [VR] at e ⊢
  obtain ⟨r, n, hr, h1, h2⟩ := e
  exact ⟨r, n, (h b r hr).1, by rw [h.sy]; exact h1, h2⟩
 | .s l, v, e => by simpa [VR] using e
 | .p none, v, e => by simpa [VR] using e
 | .p (some (b, o)), v, e => by
  simp only [VR] at e ⊢
  obtain ⟨r, hr, hv⟩ := e
  exact ⟨r, (h b r hr).1, hv⟩
 | .sl none n c, v, e => by simpa [VR] using e
 | .sl (some (b, o)) n (.kn c), v, e => by
  simp only [VR] at e ⊢
  obtain ⟨r, hr, rest⟩ := e
  exact ⟨r, (h b r hr).1, rest⟩
 | .sl (some (b, o)) n (.un sz), v, e => by
  simp only [VR] at e ⊢
  obtain ⟨r, cap, hr, h1, h2, h3⟩ := e
  exact ⟨r, cap, (h b r hr).1, h1, by rw [(h b r hr).2]; exact h2, h3⟩
 | .es, v, e => by simpa [VR] using e
 | .m none, v, e => by simpa [VR] using e
 | .m (some b), v, e => by
  simp only [VR] at e ⊢
  obtain ⟨r, hr, hv⟩ := e
  exact ⟨r, (h b r hr).1, hv⟩
 | .f fn first caps, v, e => by
  simp only [VR] at e ⊢
  obtain ⟨f', c', hv, h1, h2⟩ := e
  exact ⟨f', c', hv, VRs.mono h first _ h1, VRs.mono h caps _ h2⟩
 | .yl b, v, e => by
  simp only [VR] at e ⊢
  obtain ⟨r, hr, hv⟩ := e
  exact ⟨r, (h b r hr).1, hv⟩
 | .o, v, e => by simpa [VR] using e
 | .nf, v, e => by simpa [VR] using e
 | .ifc t x, v, e => by
  simp only [VR] at e ⊢
  obtain ⟨x', hv, hx⟩ := e
  exact ⟨x', hv, VR.mono h x x' hx⟩
 | .ni, v, e => by simpa [VR] using e
 | .a cs, v, e => by
  simp only [VR] at e ⊢
  obtain ⟨cs', hv, hx⟩ := e
  exact ⟨cs', hv, VRs.mono h cs _ hx⟩
 | .t cs, v, e => by
  simp only [VR] at e ⊢
  obtain ⟨cs', hv, hx⟩ := e
  exact ⟨cs', hv, VRs.mono h cs _ hx⟩
theorem VRs.mono {φ φ' : Ren} (h : Le φ φ') : ∀ (x : List V) (v : List Value), VRs φ x v → VRs φ' x v
 | [], v, e => by simpa [VRs] using e
 | x :: xs, v, e => by
  simp only [VRs] at e ⊢
  obtain ⟨y, ys, hv, hx, hxs⟩ := e
  exact ⟨y, ys, hv, VR.mono h x y hx, VRs.mono h xs ys hxs⟩
end
theorem VRs.length {φ : Ren} : ∀ {x : List V} {v : List Value}, VRs φ x v → v.length = x.length
 | [], v, e => by simp only [VRs] at e; subst e; rfl
 | x :: xs, v, e => by
  simp only [VRs] at e
  obtain ⟨y, ys, rfl, _, h⟩ := e
  simp [VRs.length h]
theorem VRs.nil {φ : Ren} : VRs φ [] [] := by simp [VRs]
theorem VRs.cons {φ : Ren} {x : V} {xs : List V} {y : Value} {ys : List Value} (h : VR φ x y) (h' : VRs φ xs ys) : VRs φ (x :: xs) (y :: ys) := by
 simp only [VRs]; exact ⟨y, ys, rfl, h, h'⟩
theorem VRs.append {φ : Ren} : ∀ {x x' : List V} {v v' : List Value}, VRs φ x v → VRs φ x' v' → VRs φ (x ++ x') (v ++ v')
 | [], _, v, _, e, e' => by simp only [VRs] at e; subst e; simpa using e'
 | x :: xs, _, v, _, e, e' => by
  simp only [VRs] at e
  obtain ⟨y, ys, rfl, h1, h2⟩ := e
  exact VRs.cons h1 (VRs.append h2 e')
theorem VRs.get {φ : Ren} : ∀ {x : List V} {v : List Value} {n : Nat} {y : V}, VRs φ x v → x[n]? = some y → ∃ z, v[n]? = some z ∧ VR φ y z
 | [], _, _, _, _, h => by simp at h
 | x :: xs, v, 0, y, e, h => by
  simp only [VRs] at e
  obtain ⟨z, zs, rfl, h1, h2⟩ := e
  simp at h; subst h
  exact ⟨z, rfl, h1⟩
 | x :: xs, v, n + 1, y, e, h => by
  simp only [VRs] at e
  obtain ⟨z, zs, rfl, h1, h2⟩ := e
  simp at h
  simpa using VRs.get h2 h
theorem VRs.take {φ : Ren} : ∀ {x : List V} {v : List Value} (n : Nat), VRs φ x v → VRs φ (x.take n) (v.take n)
 | [], _, n, e => by simp only [VRs] at e; subst e; simp [VRs]
 | x :: xs, v, 0, e => by simp [VRs]
 | x :: xs, v, n + 1, e => by
  simp only [VRs] at e
  obtain ⟨z, zs, rfl, h1, h2⟩ := e
  simpa using VRs.cons h1 (VRs.take n h2)
theorem VRs.drop {φ : Ren} : ∀ {x : List V} {v : List Value} (n : Nat), VRs φ x v → VRs φ (x.drop n) (v.drop n)
 | [], _, n, e => by simp only [VRs] at e; subst e; simp [VRs]
 | x :: xs, v, 0, e => by simpa using e
 | x :: xs, v, n + 1, e => by
  simp only [VRs] at e
  obtain ⟨z, zs, rfl, h1, h2⟩ := e
  simpa using VRs.drop n h2
theorem VRs.set {φ : Ren} : ∀ {x : List V} {v : List Value} (n : Nat) {y : V} {z : Value}, VRs φ x v → VR φ y z → VRs φ (x.set n y) (v.set n z)
 | [], _, n, _, _, e, _ => by simp only [VRs] at e; subst e; simp [VRs]
 | x :: xs, v, 0, y, z, e, h => by
  simp only [VRs] at e
  obtain ⟨z, zs, rfl, h1, h2⟩ := e
  simpa using VRs.cons h h2
 | x :: xs, v, n + 1, y, z, e, h => by
  simp only [VRs] at e
  obtain ⟨z, zs, rfl, h1, h2⟩ := e
  simpa using VRs.cons h1 (VRs.set n h2 h)
end
end Go.Ev
namespace Go.Ev
noncomputable section
structure Fr where
 n : Nat
 t : T V
def Fr.get (fr : Fr) (k : Nat) : V := T.get .top fr.t k
def Fr.sM (k : Nat) (v : V) (n : Nat) (t : T V) : Fr := ⟨n, T.set .top t k v⟩
def Fr.set (fr : Fr) (k : Nat) (v : V) : Fr := @Fr.rec (fun _ => Fr) (Fr.sM k v) fr
theorem Fr.set_n (fr : Fr) (k : Nat) (v : V) : (fr.set k v).n = fr.n := rfl
inductive Blk where
 | gone
 | cells (l : List V) (e : TypeId) (grow : Bool)
 | mp (es : List (V × V × Nat)) (clock : Nat)
 | row (x : Nat) (l : List V) (e : TypeId)
 | smp (x : Nat) (d : TypeDesc) (ups : List (V × Option V))
 | rc (l : List V) (e : TypeId)
 | rw (x : Nat) (e : TypeId)
 | rm (x : Nat) (d : TypeDesc)
 | iter (s : List Nat) (pos : Nat)
 | mit (m clk : Nat)
 | mi0
 | mie (m clk born : Nat)
 | pm (cs : List (List V)) (e : TypeId)
 | ms (es : List (V × V × Nat))
 | rb (ns : List Nat) (e : TypeId)
 | loop (st : LoopState) (pend : Option Code) (fr : Fr) (params : Array Tmp) (assign body : Code) (df : Nat)
 | dfr
structure H where
 n : Nat
 t : T Blk
def H.get (h : H) (b : Nat) : Blk := T.get .gone h.t b
def H.set (h : H) (b : Nat) (x : Blk) : H :=
 match h with
 | ⟨n, t⟩ => ⟨n, T.set .gone t b x⟩
def H.new (h : H) (x : Blk) : H :=
 match h with
 | ⟨n, t⟩ => ⟨n + 1, T.set .gone t n x⟩
theorem Fr.get_set (fr : Fr) (k j : Nat) (v : V) : (fr.set k v).get j = if j = k then v else fr.get j := T.get_set _ _ _ _ _
theorem H.get_set (h : H) (b c : Nat) (x : Blk) : (h.set b x).get c = if c = b then x else h.get c := T.get_set _ _ _ _ _
theorem H.get_new (h : H) (c : Nat) (x : Blk) : (h.new x).get c = if c = h.n then x else h.get c := T.get_set _ _ _ _ _
@[simp] theorem H.set_n (h : H) (b : Nat) (x : Blk) : (h.set b x).n = h.n := rfl
@[simp] theorem H.new_n (h : H) (x : Blk) : (h.new x).n = h.n + 1 := rfl
def FR (φ : Ren) (fr : Fr) (tmps : Array Value) : Prop := tmps.size = fr.n ∧ ∀ k, VR φ (fr.get k) (tmps.getD k undef)
def ERs (φ : Ren) : List (V × V × Nat) → List MapEntry → Prop
 | [], l => l = []
 | (k, v, n) :: xs, l => ∃ e es, l = e :: es ∧ VR φ k e.key ∧ VR φ v e.val ∧ e.born = n ∧ ERs φ xs es
def EXs (φ : Ren) : List (V × V × Nat) → List MapEntry → Prop
 | [], l => l = []
 | (k, v, _) :: xs, l => ∃ e es, l = e :: es ∧ VR φ k e.key ∧ VR φ v e.val ∧ EXs φ xs es
theorem EXs.of {φ : Ren} : ∀ {x : List (V × V × Nat)} {l : List MapEntry}, ERs φ x l → EXs φ x l
 | [], _, e => by simpa [ERs, EXs] using e
 | (k, v, n) :: xs, l, e => by
  simp only [ERs, EXs] at e ⊢
  obtain ⟨e1, es, rfl, h1, h2, _, h4⟩ := e
  exact ⟨e1, es, rfl, h1, h2, EXs.of h4⟩
theorem EXs.mono {φ φ' : Ren} (h : Le φ φ') : ∀ {x : List (V × V × Nat)} {l : List MapEntry}, EXs φ x l → EXs φ' x l
 | [], _, e => by simpa [EXs] using e
 | (k, v, n) :: xs, l, e => by
  simp only [EXs] at e ⊢
  obtain ⟨e1, es, rfl, h1, h2, h4⟩ := e
  exact ⟨e1, es, rfl, VR.mono h _ _ h1, VR.mono h _ _ h2, EXs.mono h h4⟩
def mset (d : TypeDesc) (m : Array MapEntry × Nat) (k v : Value) : Array MapEntry × Nat :=
 match Instr.findNow d k m.1.toList 0 with
 | some (some (j, _)) => (m.1.modify j fun e => { e with key := k, val := v }, m.2)
 | _ => (m.1.push { key := k, val := v, born := m.2 }, m.2 + 1)
def mdel (d : TypeDesc) (m : Array MapEntry × Nat) (k : Value) : Array MapEntry × Nat :=
 match Instr.findNow d k m.1.toList 0 with
 | some (some (j, _)) => (m.1.eraseIdxIfInBounds j, m.2)
 | _ => m
def MU (φ : Ren) (d : TypeDesc) : Array MapEntry × Nat → List (V × Option V) → Array MapEntry × Nat → Prop
 | m, [], m' => m' = m
 | m, (k, some v) :: us, m' => ∃ kv vv, VR φ k kv ∧ VR φ v vv ∧ MapKept.IsKey d kv ∧ MU φ d (mset d m kv vv) us m'
 | m, (k, none) :: us, m' => ∃ kv, VR φ k kv ∧ MapKept.IsKey d kv ∧ MU φ d (mdel d m kv) us m'
theorem MU.mono {φ φ' : Ren} (h : Le φ φ') {d : TypeDesc} : ∀ {us : List (V × Option V)} {m m' : Array MapEntry × Nat}, MU φ d m us m' → MU φ' d m us m'
 | [], _, _, e => by simpa [MU] using e
 | (k, some v) :: us, _, _, e => by
  simp only [MU] at e ⊢
  obtain ⟨kv, vv, h1, h2, h3, h4⟩ := e
  exact ⟨kv, vv, VR.mono h _ _ h1, VR.mono h _ _ h2, h3, MU.mono h h4⟩
 | (k, none) :: us, _, _, e => by
  simp only [MU] at e ⊢
  obtain ⟨kv, h1, h3, h4⟩ := e
  exact ⟨kv, VR.mono h _ _ h1, h3, MU.mono h h4⟩
theorem MU.snoc {φ : Ren} {d : TypeDesc} {u : V × Option V} : ∀ {us : List (V × Option V)} {m m1 m2 : Array MapEntry × Nat}, MU φ d m us m1 → MU φ d m1 [u] m2 → MU φ d m (us ++ [u]) m2
 | [], m, m1, m2, e, e' => by
  simp only [MU] at e; subst e; exact e'
 | (k, some v) :: us, _, _, _, e, e' => by
  simp only [MU, List.cons_append] at e ⊢
  obtain ⟨kv, vv, h1, h2, h3, h4⟩ := e
  exact ⟨kv, vv, h1, h2, h3, MU.snoc h4 e'⟩
 | (k, none) :: us, _, _, _, e, e' => by
  simp only [MU, List.cons_append] at e ⊢
  obtain ⟨kv, h1, h3, h4⟩ := e
  exact ⟨kv, h1, h3, MU.snoc h4 e'⟩
def VRL (φ : Ren) : List (List V) → List (List Value) → Prop
 | [], l => l = []
 | x :: xs, l => ∃ y ys, l = y :: ys ∧ VRs φ x y ∧ VRL φ xs ys
theorem VRL.mono {φ φ' : Ren} (h : Le φ φ') : ∀ {x : List (List V)} {l : List (List Value)}, VRL φ x l → VRL φ' x l
 | [], _, e => by simpa [VRL] using e
 | x :: xs, l, e => by
  simp only [VRL] at e ⊢
  obtain ⟨y, ys, rfl, h1, h2⟩ := e
  exact ⟨y, ys, rfl, VRs.mono h _ _ h1, VRL.mono h h2⟩
def BR (φ : Ren) (N : Nat) : Blk → Obj → Prop
 | .gone, _ => True
 | .cells l e g, o => ∃ c, o = .cells c e (0, 0) ∧ VRs φ l (c.toList.take l.length) ∧ l.length ≤ c.size ∧ (g = false → c.size = l.length) ∧ c.size = N
 | .mp es clock, o => ∃ es', o = .map es' clock ∧ ERs φ es es'.toList
 | .row x l e, o => ∃ c vs, o = .cells c e (0, 0) ∧ VRs φ l vs ∧ c.toList.take ((φ.w x).length + l.length) = φ.w x ++ vs ∧ (φ.w x).length + l.length ≤ c.size ∧ c.size = N
 | .smp x d ups, o => ∃ es c, o = .map es c ∧ MU φ d (φ.g x) ups (es, c) ∧ ∀ e ∈ es.toList, MapKept.IsKey d e.key
 | .rc l e, o => ∃ c, o = .cells c e (0, 0) ∧ VRs φ l (c.toList.take l.length) ∧ l.length ≤ c.size ∧ c.size = N
 | .rw x e, o => ∃ c, o = .cells c e (0, 0) ∧ c.toList.take (φ.w x).length = φ.w x ∧ (φ.w x).length ≤ c.size ∧ c.size = N
 | .rm x d, o => ∃ es c, o = .map es c ∧ MU φ d (φ.g x) [] (es, c) ∧ ∀ e ∈ es.toList, MapKept.IsKey d e.key
 | .iter s pos, o => o = .stringIter (bytes s) pos ∧ ∀ x ∈ s, x < 256
 | .mit m clk, o => ∃ r, φ m = some r ∧ o = .mapIter (some r) clk #[] clk
 | .mi0, o => o = .mapIter none 0 #[] 0
 | .mie m clk born, o => ∃ (r since : Nat) (seen : Array Nat), φ m = some r ∧ o = .mapIter (some r) since (seen.push born) clk
 | .pm cs e, o => ∃ c us ps, o = .cells c e (0, 0) ∧ VRL φ cs us ∧ List.Perm ps us ∧ c.toList.take ps.flatten.length = ps.flatten ∧ ps.flatten.length ≤ c.size ∧ (∀ u ∈ ps.flatten, u.oneCell' = true) ∧ c.size = N
 | .ms es, o => ∃ l c ps, o = .map l c ∧ EXs φ es ps ∧ l.toList.Perm ps
 | .rb ns e, o => ∃ c ro, o = .cells c e ro ∧ (ro = (0, 0) ∨ c.size ≤ ro.1) ∧ c.toList.take ns.length = ns.map (fun n => Value.int .u8 (Int.ofNat n)) ∧ ns.length ≤ c.size ∧ (∀ x ∈ ns, x < 256) ∧ c.size = N
 | .loop st pend fr params assign body df, o => ∃ fn tmps d, o = .loop { state := st, pending := pend, fn, tmps, params, assign, body, defers := d } ∧ FR φ fr tmps ∧ φ df = some d
 | .dfr, o => o = .deferred (some [])
def Blk.live : Blk → Prop
 | .gone => False
 | _ => True
def Blk.mut : Blk → Prop
 | .gone => False
 | .rc .. => False
 | .rw .. => False
 | .rm .. => False
 | .mie .. => False
 | _ => True
theorem Blk.mut.live {b : Blk} (h : b.mut) : b.live := by
 cases b <;> first | trivial | exact h
structure HR (φ : Ren) (h : H) (w : World) : Prop where
 cnt : φ.m = h.n
 dom : ∀ b r, φ b = some r → b < h.n ∧ r < w.heap.size
 blk : ∀ b r, φ b = some r → (h.get b).live → ∃ o, w.heap[r]? = some o ∧ BR φ (φ.n b) (h.get b) o
 inj : ∀ b b' r, φ b = some r → φ b' = some r → (h.get b).live → (h.get b').live → b = b'
 kp : ∀ r o, φ.y.k r = some o → w.heap[r]? = some o ∧ ∀ b, φ b = some r → ¬ (h.get b).mut
structure Ext (φ : Ren) (w : World) (φ' : Ren) (w' : World) : Prop where
 le : Le φ φ'
 cnt : φ.m ≤ φ'.m
 nw : ∀ b r, φ' b = some r → φ b = some r ∨ (φ.m ≤ b ∧ (w.heap.size ≤ r ∨ ((∃ b0, φ b0 = some r) ∧ φ.y.k r = none)))
 dr : φ.y.d = true → w.drawn ≤ w'.drawn
 size : w.heap.size ≤ w'.heap.size
 os : w'.os = w.os
 tape : w'.tape = w.tape
 output : w'.output = w.output
 frame : ∀ r, r < w.heap.size → (∀ b, φ b ≠ some r) → w'.heap[r]? = w.heap[r]?
theorem Ext.only {φ : Ren} {w : World} {φ' : Ren} {w' : World} (h : Ext φ w φ' w') (b r : Nat) (e : φ' b = some r) : φ b = some r ∨ φ.m ≤ b := (h.nw b r e).imp id And.left
theorem Ext.new {φ : Ren} {w : World} {φ' : Ren} {w' : World} (h : Ext φ w φ' w') (b r : Nat) (e : φ' b = some r) : (∃ b0, φ b0 = some r) ∨ w.heap.size ≤ r := by
 rcases h.nw b r e with e | ⟨_, e | e⟩
 ·exact .inl ⟨b, e⟩
 ·exact .inr e
 ·exact .inl e.1
theorem Ext.refl (φ : Ren) (w : World) : Ext φ w φ w :=
 ⟨Le.refl φ, Nat.le_refl _, fun _ _ h => .inl h, fun _ => Nat.le_refl _, Nat.le_refl _, rfl, rfl, rfl, fun _ _ _ => rfl⟩
theorem Ext.trans {φ₁ φ₂ φ₃ : Ren} {w₁ w₂ w₃ : World} (h : Ext φ₁ w₁ φ₂ w₂) (k : Ext φ₂ w₂ φ₃ w₃) : Ext φ₁ w₁ φ₃ w₃ where
 le := h.le.trans k.le
 cnt := Nat.le_trans h.cnt k.cnt
 nw := fun b r e => by
  rcases k.nw b r e with e | ⟨hle, hs | ⟨⟨b0, e0⟩, hs⟩⟩
  ·exact h.nw b r e
  ·exact .inr ⟨Nat.le_trans h.cnt hle, .inl (Nat.le_trans h.size hs)⟩
  ·refine .inr ⟨Nat.le_trans h.cnt hle, ?_⟩
   rcases h.nw b0 r e0 with e | ⟨_, e⟩
   ·exact .inr ⟨⟨b0, e⟩, by rw [← h.le.yy]; exact hs⟩
   ·exact e
 dr := fun hd => Nat.le_trans (h.dr hd) (k.dr (by rw [h.le.yy]; exact hd))
 size := Nat.le_trans h.size k.size
 os := k.os.trans h.os
 tape := k.tape.trans h.tape
 output := k.output.trans h.output
 frame := fun r hr hb => by
  rw [k.frame r (Nat.lt_of_lt_of_le hr h.size) (fun b e => ?_), h.frame r hr hb]
  rcases h.new b r e with ⟨b0, e0⟩ | hle
  ·exact hb b0 e0
  ·omega
theorem Ext.drew (φ : Ren) (w : World) {n : Nat} (hn : w.drawn ≤ n) : Ext φ w φ { w with drawn := n } :=
 ⟨Le.refl φ, Nat.le_refl _, fun _ _ h => .inl h, fun _ => hn, Nat.le_refl _, rfl, rfl, rfl, fun _ _ _ => rfl⟩
theorem HR.drew {φ : Ren} {h : H} {w : World} (hr : HR φ h w) (n : Nat) : HR φ h { w with drawn := n } := ⟨hr.cnt, hr.dom, hr.blk, hr.inj, hr.kp⟩
theorem FR.mono {φ φ' : Ren} {fr : Fr} {t : Array Value} (h : Le φ φ') (hf : FR φ fr t) : FR φ' fr t := ⟨hf.1, fun k => VR.mono h _ _ (hf.2 k)⟩
theorem FR.set {φ : Ren} {fr : Fr} {t : Array Value} {x : V} {v : Value} (hf : FR φ fr t) (k : Nat) (hv : VR φ x v) : FR φ (fr.set k x) (t.setIfInBounds k v) ∨ fr.n ≤ k := by
 rcases Nat.lt_or_ge k fr.n with h | h
 ·refine .inl ⟨by simp [hf.1, Fr.set_n], fun j => ?_⟩
  rw [Fr.get_set]
  by_cases hj : j = k
  ·subst hj
   rw [if_pos rfl]
   have : (t.setIfInBounds j v).getD j undef = v := by simp [Array.getD, hf.1, h]
   rw [this]; exact hv
  ·rw [if_neg hj]
   have : (t.setIfInBounds k v).getD j undef = t.getD j undef := by
    simp only [Array.getD_eq_getD_getElem?, Array.getElem?_setIfInBounds_ne (Ne.symm hj)]
   rw [this]; exact hf.2 j
 ·exact .inr h
theorem ERs.mono {φ φ' : Ren} (h : Le φ φ') : ∀ {x : List (V × V × Nat)} {l : List MapEntry}, ERs φ x l → ERs φ' x l
 | [], _, e => by simpa [ERs] using e
 | (k, v, n) :: xs, l, e => by
  simp only [ERs] at e ⊢
  obtain ⟨e1, es, rfl, h1, h2, h3, h4⟩ := e
  exact ⟨e1, es, rfl, VR.mono h _ _ h1, VR.mono h _ _ h2, h3, ERs.mono h h4⟩
theorem BR.mono {φ φ' : Ren} (h : Le φ φ') {N : Nat} {x : Blk} {o : Obj} (hb : BR φ N x o) : BR φ' N x o := by
 cases x with
 | gone => trivial
 | cells l e g => obtain ⟨c, h1, h2, h3, h4, h5⟩ := hb; exact ⟨c, h1, VRs.mono h _ _ h2, h3, h4, h5⟩
 | mp es k => obtain ⟨c, h1, h2⟩ := hb; exact ⟨c, h1, ERs.mono h h2⟩
 | row x l e => obtain ⟨c, vs, h1, h2, h3, h4, h5⟩ := hb; exact ⟨c, vs, h1, VRs.mono h _ _ h2, by rw [h.wy]; exact h3, by rw [h.wy]; exact h4, h5⟩
 | smp x d ups => obtain ⟨es, c, h1, h2, h3⟩ := hb; exact ⟨es, c, h1, by rw [h.gy]; exact h2.mono h, h3⟩
 | rc l e => obtain ⟨c, h1, h2, h3, h4⟩ := hb; exact ⟨c, h1, VRs.mono h _ _ h2, h3, h4⟩
 | rw x e => obtain ⟨c, h1, h2, h3, h4⟩ := hb; exact ⟨c, h1, by rw [h.wy]; exact h2, by rw [h.wy]; exact h3, h4⟩
 | rm x d => obtain ⟨es, c, h1, h2, h3⟩ := hb; exact ⟨es, c, h1, by rw [h.gy]; exact h2.mono h, h3⟩
 | iter s k => exact hb
 | mit m k => obtain ⟨r, h1, h2⟩ := hb; exact ⟨r, (h _ _ h1).1, h2⟩
 | mi0 => exact hb
 | mie m k b => obtain ⟨r, s, se, h1, h2⟩ := hb; exact ⟨r, s, se, (h _ _ h1).1, h2⟩
 | pm cs e => obtain ⟨c, us, ps, h1, h2, h3⟩ := hb; exact ⟨c, us, ps, h1, VRL.mono h h2, h3⟩
 | ms es => obtain ⟨l, c, ps, h1, h2, h3⟩ := hb; exact ⟨l, c, ps, h1, EXs.mono h h2, h3⟩
 | rb ns e => exact hb
 | loop st pend fr ps as bd df => obtain ⟨fn, t, d, h1, h2, h3⟩ := hb; exact ⟨fn, t, d, h1, h2.mono h, (h _ _ h3).1⟩
 | dfr => exact hb
def up (φ : Ren) (b r N : Nat) : Ren := ⟨fun c => if c = b then some r else φ c, fun c => if c = b then N else φ.n c, φ.y, φ.m + 1⟩
theorem le_up {φ : Ren} {b r N : Nat} (h : ∀ s, φ b ≠ some s) : Le φ (up φ b r N) := ⟨fun c s e => by
 unfold up
 by_cases hc : c = b
 ·subst hc; exact absurd e (h s)
 ·simp only [if_neg hc]; exact ⟨e, trivial⟩, rfl⟩
theorem HR.fresh {φ : Ren} {h : H} {w : World} (hr : HR φ h w) : ∀ s, φ h.n ≠ some s := fun s e => by
 have := (hr.dom _ _ e).1
 omega
theorem HR.alloc {φ : Ren} {h : H} {w : World} (hr : HR φ h w) (N : Nat) (x : Blk) (o : Obj) (hx : BR (up φ h.n w.heap.size N) N x o) :
  HR (up φ h.n w.heap.size N) (h.new x) { w with heap := w.heap.push o } ∧ Ext φ w (up φ h.n w.heap.size N) { w with heap := w.heap.push o } := by
 have hle : Le φ (up φ h.n w.heap.size N) := le_up hr.fresh
 have hup : ∀ b r, up φ h.n w.heap.size N b = some r → (b = h.n ∧ r = w.heap.size) ∨ (b ≠ h.n ∧ φ b = some r) := fun b r e => by
  simp only [up] at e
  by_cases hb : b = h.n
  ·rw [if_pos hb] at e; cases e; exact .inl ⟨hb, rfl⟩
  ·rw [if_neg hb] at e; exact .inr ⟨hb, e⟩
 refine ⟨⟨by simp [up, hr.cnt], fun b r e => ?_, fun b r e hl => ?_, fun b b' r e e' hl hl' => ?_, fun r o' hk => ?_⟩, ⟨hle, Nat.le_succ _, fun b r e => ?_, fun _ => Nat.le_refl _, by simp, rfl, rfl, rfl, fun r hlt _ => ?_⟩⟩
 rotate_left 3
 ·obtain ⟨k1, k2⟩ := hr.kp r o' hk
  have hlt : r < w.heap.size := by
   rcases Nat.lt_or_ge r w.heap.size with h | h
   ·exact h
   ·rw [Array.getElem?_eq_none h] at k1; cases k1
  refine ⟨?_, fun b e => ?_⟩
  ·show (w.heap.push o)[r]? = _
   rw [Array.getElem?_push, if_neg (by omega)]; exact k1
  ·rcases hup b r e with ⟨_, rfl⟩ | ⟨hb, e⟩
   ·omega
   ·rw [H.get_new, if_neg hb]; exact k2 b e
 ·rcases hup b r e with ⟨rfl, rfl⟩ | ⟨_, e⟩
  ·exact .inr ⟨by rw [hr.cnt]; exact Nat.le_refl _, .inl (Nat.le_refl _)⟩
  ·exact .inl e
 rotate_left 1
 ·rcases hup b r e with ⟨rfl, rfl⟩ | ⟨_, e⟩
  ·simp
  ·have := hr.dom b r e
   simp only [H.new_n, Array.size_push]; omega
 ·rcases hup b r e with ⟨rfl, rfl⟩ | ⟨hb, e⟩
  ·refine ⟨o, by simp, ?_⟩
   have hN : (up φ h.n w.heap.size N).n h.n = N := by simp [up]
   rw [H.get_new, if_pos rfl, hN]; exact hx
  ·rw [H.get_new, if_neg hb] at hl ⊢
   obtain ⟨o', h1, h2⟩ := hr.blk b r e hl
   have := (hr.dom b r e).2
   refine ⟨o', ?_, by rw [(hle b r e).2]; exact h2.mono hle⟩
   show (w.heap.push o)[r]? = _
   rw [Array.getElem?_push, if_neg (by omega)]; exact h1
 ·rcases hup b r e with ⟨rfl, rfl⟩ | ⟨hb, e⟩
  ·rcases hup b' _ e' with ⟨rfl, _⟩ | ⟨hb', e'⟩
   ·rfl
   ·have := (hr.dom _ _ e').2; omega
  ·rcases hup b' r e' with ⟨rfl, rfl⟩ | ⟨hb', e'⟩
   ·have := (hr.dom _ _ e).2; omega
   ·rw [H.get_new, if_neg hb] at hl
    rw [H.get_new, if_neg hb'] at hl'
    exact hr.inj b b' r e e' hl hl'
 ·show (w.heap.push o)[r]? = _
  rw [Array.getElem?_push, if_neg (by omega)]
theorem HR.turn {φ : Ren} {h : H} {w w' : World} (hr : HR φ h w) {b r : Nat} (x : Blk) (o : Obj) (hb : φ b = some r) (hm : (h.get b).mut) (hx : BR φ (φ.n b) x o)
  (hs : w'.heap.size = w.heap.size) (ho : w'.heap[r]? = some o) (hne : ∀ s, s ≠ r → w'.heap[s]? = w.heap[s]?) (h1 : w'.os = w.os) (h2 : w'.tape = w.tape) (h3 : w'.output = w.output) (h4 : w.drawn ≤ w'.drawn := by exact Nat.le_refl _) :
  HR φ (h.set b x) w' ∧ Ext φ w φ w' := by
 have hl := hm.live
 refine ⟨⟨hr.cnt, fun c s e => ?_, fun c s e hc => ?_, fun c c' s e e' hc hc' => ?_, fun s o' hk => ?_⟩, ⟨Le.refl φ, Nat.le_refl _, fun _ _ e => .inl e, fun _ => h4, by omega, h1, h2, h3, fun s _ hn => hne s (fun e => hn b (e ▸ hb))⟩⟩
 rotate_left 3
 ·obtain ⟨k1, k2⟩ := hr.kp s o' hk
  have hsr : s ≠ r := fun e => k2 b (e ▸ hb) hm
  refine ⟨by rw [hne s hsr]; exact k1, fun c e => ?_⟩
  rw [H.get_set, if_neg (fun ec => hsr (by rw [ec, hb] at e; exact (Option.some.inj e).symm))]
  exact k2 c e
 ·have := hr.dom c s e
  simp only [H.set_n]; omega
 ·rw [H.get_set] at hc ⊢
  by_cases hcb : c = b
  ·subst hcb
   rw [hb] at e; cases e
   rw [if_pos rfl]
   exact ⟨o, ho, hx⟩
  ·rw [if_neg hcb] at hc ⊢
   obtain ⟨o', h4, h5⟩ := hr.blk c s e hc
   refine ⟨o', ?_, h5⟩
   rw [hne s (fun es => hcb (hr.inj c b s e (es ▸ hb) hc hl))]; exact h4
 ·rw [H.get_set] at hc hc'
  by_cases hcb : c = b
  ·by_cases hcb' : c' = b
   ·rw [hcb, hcb']
   ·rw [if_neg hcb'] at hc'
    rw [hcb] at e
    exact hcb.trans (hr.inj b c' s e e' hl hc')
  ·rw [if_neg hcb] at hc
   by_cases hcb' : c' = b
   ·rw [hcb'] at e'
    exact (hr.inj c b s e e' hc hl).trans hcb'.symm
   ·rw [if_neg hcb'] at hc'
    exact hr.inj c c' s e e' hc hc'
theorem HR.drop {φ : Ren} {h : H} {w : World} (hr : HR φ h w) (b : Nat) : HR φ (h.set b .gone) w := by
 refine ⟨hr.cnt, fun c s e => hr.dom c s e, fun c s e hc => ?_, fun c c' s e e' hc hc' => ?_, fun s o' hk => ⟨(hr.kp s o' hk).1, fun c e => ?_⟩⟩
 rotate_left 2
 ·rw [H.get_set]
  by_cases hcb : c = b
  ·rw [if_pos hcb]; exact id
  ·rw [if_neg hcb]; exact (hr.kp s o' hk).2 c e
 ·rw [H.get_set] at hc ⊢
  by_cases hcb : c = b
  ·rw [if_pos hcb] at hc; exact hc.elim
  ·rw [if_neg hcb] at hc ⊢; exact hr.blk c s e hc
 ·rw [H.get_set] at hc hc'
  by_cases hcb : c = b
  ·rw [if_pos hcb] at hc; exact hc.elim
  ·rw [if_neg hcb] at hc
   by_cases hcb' : c' = b
   ·rw [if_pos hcb'] at hc'; exact hc'.elim
   ·rw [if_neg hcb'] at hc'; exact hr.inj c c' s e e' hc hc'
theorem HR.cell {φ : Ren} {h : H} {w : World} (hr : HR φ h w) {b r : Nat} (hb : φ b = some r) {l : List V} {e : TypeId} {g : Bool} (hl : h.get b = .cells l e g)
  {o : Nat} {x : V} (hx : l[o]? = some x) : ∃ v, w.cell? ⟨r, o, none⟩ = some v ∧ VR φ x v ∧ w.frozen? ⟨r, o, none⟩ = false := by
 obtain ⟨ob, h1, h2⟩ := hr.blk b r hb (by rw [hl]; trivial)
 rw [hl] at h2
 obtain ⟨c, rfl, h3, h4, _⟩ := h2
 obtain ⟨v, hv, hxv⟩ := h3.get hx
 have hlt : o < l.length := by
  rcases Nat.lt_or_ge o l.length with h | h
  ·exact h
  ·rw [List.getElem?_eq_none h] at hx; cases hx
 refine ⟨v, ?_, hxv, ?_⟩
 ·have : c[o]? = some v := by
   rw [List.getElem?_take, if_pos hlt] at hv
   simpa using hv
  simp [World.cell?, h1, this]
 ·simp only [World.frozen?, h1]
  simp
theorem HR.setCell {φ : Ren} {h : H} {w : World} (hr : HR φ h w) {b r : Nat} (hb : φ b = some r) {l : List V} {e : TypeId} {g : Bool} (hl : h.get b = .cells l e g)
  {o : Nat} {x : V} {v : Value} (hx : VR φ x v) :
  HR φ (h.set b (.cells (l.set o x) e g)) (w.setCell ⟨r, o, none⟩ v) ∧ Ext φ w φ (w.setCell ⟨r, o, none⟩ v) := by
 obtain ⟨ob, h1, h2⟩ := hr.blk b r hb (by rw [hl]; trivial)
 rw [hl] at h2
 obtain ⟨c, rfl, h3, h4, h5, h6⟩ := h2
 have hlt := (hr.dom b r hb).2
 refine hr.turn (b := b) (r := r) (.cells (l.set o x) e g) (.cells (c.setIfInBounds o v) e (0, 0)) hb (by rw [hl]; trivial) ⟨_, rfl, ?_, by simpa using h4, fun hg => by simpa using h5 hg, by simpa using h6⟩
  (by simp [World.setCell]) ?_ (fun s hs => ?_) rfl rfl rfl
 ·have : (c.setIfInBounds o v).toList.take (l.set o x).length = (c.toList.take l.length).set o v := by
   simp [List.take_set]
  rw [this]
  exact h3.set o hx
 ·simp [World.setCell, Array.getElem?_modify, h1]
 ·simp only [World.setCell, Array.getElem?_modify]
  rw [if_neg (fun e => hs e.symm)]
end
end Go.Ev
namespace Go.Ev
noncomputable section
structure Xt where
 ap : Nat → Nat → Option Nat := fun _ _ => none
 an : Nat → Option Nat := fun _ => none
 bs : Nat → Option Nat := fun _ => none
 ql : Nat → Option Nat := fun _ => none
 ss : Nat → Nat → Option Nat → Option Nat := fun _ _ _ => none
 oi : TypeId → Nat → V → Option Nat := fun _ _ _ => none
 ol : TypeId → Nat → Option V := fun _ _ => none
 on : Nat → Option Nat := fun _ => none
 os : TypeId → Nat → V → Option Nat := fun _ _ _ => none
structure Env where
 P : Program
 tt : TypeId → Option (TypeInfo × TypeDesc)
 ft : FuncId → Option Func
 ng : Nat
 bd : Nat → Option (Int × Int)
 bin : BinOp → V → V → Option V := fun _ _ _ => none
 mx : V → V → Option V := fun _ _ => none
 rz : Nat → Nat := fun _ => 0
 rx : Nat → Nat → Option Nat := fun _ _ => none
 rl : Nat → Nat → Option Nat := fun _ _ => none
 re : Nat → Nat → Option (List V) := fun _ _ => none
 qs : Nat → Bool := fun _ => false
 mg : Nat → V → Option (Option V) := fun _ _ => none
 ml : Nat → Option V := fun _ => none
 qc : FuncId → List V → Option V := fun _ _ => none
 hl : TypeId → Bool := fun _ => false
 qh : (Nat → Option (Int × Int)) → FuncId → List V → H → Option V := fun _ _ _ _ => none
 eh : FuncId → List V → H → Option (V × H) := fun _ _ _ => none
 xt : Xt := {}
 xh : Xt → FuncId → List V → H → Option (V × H) := fun _ _ _ _ => none
 pl : Bool := false
 sf : FuncId → Option Nat := fun _ => none
 kf : FuncId → FuncId → Option (TypeId × Bool) := fun _ _ => none
 kd : Bool := false
 cm : FuncId → List V → List V → Option Int := fun _ _ _ => none
 iv : TypeId → String → Option (FuncId × Option TypeId) := fun _ _ => none
def GL (ng : Nat) (φ : Ren) : Prop := ∀ g, g < ng → φ g = some g
theorem GL.mono {ng : Nat} {φ φ' : Ren} (h : Le φ φ') (hg : GL ng φ) : GL ng φ' := fun g hlt => (h _ _ (hg g hlt)).1
def W (ro : Option Nat) : Fence := { Fence.wide with round := ro }
structure Grown (w w' : World) : Prop where
 size : w.heap.size ≤ w'.heap.size
 same : ∀ r, r < w.heap.size → w'.heap[r]? = w.heap[r]?
 os : w'.os = w.os
 tape : w'.tape = w.tape
 output : w'.output = w.output
 dr : w.drawn ≤ w'.drawn
theorem Grown.refl (w : World) : Grown w w := ⟨Nat.le_refl _, fun _ _ => rfl, rfl, rfl, rfl, Nat.le_refl _⟩
theorem Grown.ok {φ : Ren} {h : H} {w w' : World} (hg : Grown w w') (hr : HR φ h w) : HR φ h w' ∧ Ext φ w φ w' :=
 ⟨⟨hr.cnt, fun b r e => ⟨(hr.dom b r e).1, Nat.lt_of_lt_of_le (hr.dom b r e).2 hg.size⟩, fun b r e hl => by
   obtain ⟨o, h1, h2⟩ := hr.blk b r e hl
   exact ⟨o, by rw [hg.same r (hr.dom b r e).2]; exact h1, h2⟩, hr.inj, fun r o hk => by
   obtain ⟨k1, k2⟩ := hr.kp r o hk
   refine ⟨?_, k2⟩
   rw [hg.same r ?_]
   ·exact k1
   ·rcases Nat.lt_or_ge r w.heap.size with h | h
    ·exact h
    ·rw [Array.getElem?_eq_none h] at k1; cases k1⟩,
  ⟨Le.refl φ, Nat.le_refl _, fun _ _ h => .inl h, fun _ => hg.dr, hg.size, hg.os, hg.tape, hg.output, fun r hr _ => hg.same r hr⟩⟩
def Quiet (P : Program) (K : Nat → Option Obj) (f : FuncId) (args : List Value) (Q : Value → Prop) : Prop :=
 (∃ fn c, P.funcs[f]? = some fn ∧ fn.body = some c ∧ (fn.name == "runtime.NumGoroutine") = false) ∧
 ∀ n w, (∀ r o, K r = some o → w.heap[r]? = some o) → CallsIn (W none) n P f args.toArray w fun e w' => ∃ v, e = .returned v ∧ Q v ∧ Grown w w'
def bcells (s : ByteArray) : List Value := s.data.toList.map fun b => Value.int .u8 b.toNat
structure XtOK (P : Program) (X : Xt) (φ : Ren) : Prop where
 ap : ∀ x q x', X.ap x q = some x' → ∃ s : ByteArray, φ.q q = .string s ∧ 0 < s.size ∧ φ.w x' = φ.w x ++ bcells s ∧ (φ.w x').length ≤ 1000000
 an : ∀ q x', X.an q = some x' → ∃ s : ByteArray, φ.q q = .string s ∧ 0 < s.size ∧ φ.w x' = bcells s ∧ s.size ≤ 1000000
 bs : ∀ x q, X.bs x = some q → ∃ s : ByteArray, φ.q q = .string s ∧ φ.w x = bcells s ∧ 0 < s.size ∧ s.size ≤ 1000000
 ql : ∀ q y, X.ql q = some y → ∃ s : ByteArray, φ.q q = .string s ∧ φ.s y = (s.size : Int)
 ss : ∀ q lo hi q', X.ss q lo hi = some q' → ∃ s : ByteArray, φ.q q = .string s ∧ lo ≤ hi.getD s.size ∧ hi.getD s.size ≤ s.size ∧ φ.q q' = .string (s.extract lo (hi.getD s.size))
 oi : ∀ t x i z, X.oi t x i = some z → ∀ φ', Le φ φ' → ∀ vi, VR φ' i vi → (φ.q z).oneCell' = true ∧ ∀ w, (Instr.indexAt t (φ.q x) vi).run P w = .ok (φ.q z) w
 ol : ∀ t x v, X.ol t x = some v → ∀ w : World, (∀ r o, φ.y.k r = some o → w.heap[r]? = some o) → ∃ u, (Instr.loadAt t (φ.q x)).run P w = .ok u w ∧ VR φ v u
 on : ∀ x y, X.on x = some y → ∃ a n cap, φ.q x = .slice a n cap ∧ φ.s y = (n : Int)
 os : ∀ t x i z, X.os t x i = some z → ∀ φ', Le φ φ' → ∀ vi, VR φ' i vi → (φ.q z).oneCell' = true ∧ ∀ w, (Instr.sliceAt t (φ.q x) none (some vi) none).run P w = .ok (φ.q z) w
theorem XtOK.mono {P : Program} {X : Xt} {φ φ' : Ren} (h : Le φ φ') (hx : XtOK P X φ) : XtOK P X φ' :=
 ⟨by rw [h.qy, h.wy]; exact hx.ap, by rw [h.qy, h.wy]; exact hx.an, by rw [h.qy, h.wy]; exact hx.bs, by rw [h.qy, h.sy]; exact hx.ql, by rw [h.qy]; exact hx.ss,
  fun t x i z e φ'' h' => by rw [h.qy]; exact hx.oi t x i z e φ'' (h.trans h'),
  fun t x v e w hw => by
  obtain ⟨u, h1, h2⟩ := hx.ol t x v e w (by rw [← h.yy]; exact hw)
  exact ⟨u, by rw [h.qy]; exact h1, VR.mono h _ _ h2⟩,
  by rw [h.qy, h.sy]; exact hx.on, fun t x i z e φ'' h' => by rw [h.qy]; exact hx.os t x i z e φ'' (h.trans h')⟩
theorem XtOK.none (P : Program) (φ : Ren) : XtOK P {} φ :=
 ⟨fun _ _ _ e => (by cases e), fun _ _ e => (by cases e), fun _ _ e => (by cases e), fun _ _ e => (by cases e), fun _ _ _ _ e => (by cases e), fun _ _ _ _ e => (by cases e), fun _ _ _ e => (by cases e), fun _ _ e => (by cases e), fun _ _ _ _ e => (by cases e)⟩
def SortLaw (P : Program) (f k : Nat) : Prop :=
 ∀ {α : Type} [Inhabited α] (enc : α → List Value) (rk : α → Nat) (cf : α → α → Int), (∀ x, (enc x).length = k) → (∀ x, ∀ v ∈ enc x, v.oneCell' = true) → (∀ x y, rk x = rk y → x = y) → (∀ x y, cf x y < 0 ↔ rk x < rk y) →
  ∀ (g : Nat) (l m : List α) (w : World) (r cap : Nat) (c : Array Value) (T : TypeId), (∃ fn cd, P.funcs[g]? = some fn ∧ fn.body = some cd ∧ (fn.name == "runtime.NumGoroutine") = false) →
  l.Perm m → m.Pairwise (fun a b => rk a < rk b) → l.length < 4611686018427387904 → w.heap[r]? = some (.cells c T (0, 0)) → l.length * k ≤ c.size → c.toList.take (l.length * k) = l.flatMap enc →
  (∀ w1 : World, w.heap.size ≤ w1.heap.size → ∀ x y, Calls P g #[.agg (enc x).toArray, .agg (enc y).toArray] w1 fun e w' => e = .returned (.int .i64 (cf x y)) ∧ Grown w1 w') →
  Calls P f #[.slice (some ⟨r, 0, none⟩) l.length cap, .func (.func g) #[] #[]] w fun e w' => e = .returned (.tuple #[]) ∧ ∃ c', w'.heap[r]? = some (.cells c' T (0, 0)) ∧ c'.size = c.size ∧ c'.toList.take (l.length * k) = m.flatMap enc ∧
   w.heap.size ≤ w'.heap.size ∧ (∀ s, s < w.heap.size → s ≠ r → w'.heap[s]? = w.heap[s]?) ∧ w'.os = w.os ∧ w'.tape = w.tape ∧ w'.output = w.output ∧ w.drawn ≤ w'.drawn
def SortedKeys : Bool → List Value → List Value → Prop
 | true, vs, us => ∃ ks s : List Int, vs = ks.map (.int .i64) ∧ us = s.map (.int .i64) ∧ s.Perm ks ∧ s.Pairwise (· < ·) ∧ ∀ k ∈ ks, -9223372036854775808 ≤ k ∧ k < 9223372036854775808
 | false, vs, us => ∃ ks s : List (List UInt8), vs = ks.map (fun l => .string ⟨l.toArray⟩) ∧ us = s.map (fun l => .string ⟨l.toArray⟩) ∧ s.Perm ks ∧ s.Pairwise (· < ·) ∧ ∀ k ∈ ks, k.length ≤ 1000000
def Borns (es : List MapEntry) (clk : Nat) : Prop := (∀ x ∈ es, x.born < clk) ∧ es.Pairwise (fun a b => a.born ≠ b.born)
def KeysLaw (P : Program) (f g : FuncId) (e : TypeId) (nums : Bool) : Prop :=
 (∀ (w : World) (bm b clk : Nat) (es : Array MapEntry) (us : List Value), bm < w.heap.size → w.cell? ⟨bm, 0, none⟩ = some (.map (some b)) → w.heap[b]? = some (.map es clk) → Borns es.toList clk → es.size ≤ 1000000 → SortedKeys nums (es.toList.map (·.key)) us →
  Calls P f #[.func (.func g) #[] #[.pointer (some ⟨bm, 0, none⟩)]] w fun r w' => ∃ v, r = .returned v ∧ w.heap.size ≤ w'.heap.size ∧ (∀ i, i < w.heap.size → w'.heap[i]? = w.heap[i]?) ∧ w'.os = w.os ∧ w'.tape = w.tape ∧ w'.output = w.output ∧
   ((us = [] ∧ v = .slice none 0 0) ∨ (us ≠ [] ∧ ∃ gb cap cur, v = .slice (some ⟨gb, 0, none⟩) us.length cap ∧ w.heap.size ≤ gb ∧ w'.heap[gb]? = some (.cells cur e (0, 0)) ∧ us.length ≤ cap ∧ cur.size = cap ∧ cur.toList.take us.length = us))) ∧
 (∀ (w : World) (bm : Nat), bm < w.heap.size → w.cell? ⟨bm, 0, none⟩ = some (.map none) →
  Calls P f #[.func (.func g) #[] #[.pointer (some ⟨bm, 0, none⟩)]] w fun r w' => r = .returned (.slice none 0 0) ∧ w.heap.size ≤ w'.heap.size ∧ (∀ i, i < w.heap.size → w'.heap[i]? = w.heap[i]?) ∧ w'.os = w.os ∧ w'.tape = w.tape ∧ w'.output = w.output)
def noN : V → Bool
 | .b _ => true
 | .i _ _ => true
 | .s _ => true
 | .p none => true
 | .ni => true
 | .nf => true
 | .m none => true
 | _ => false
def opV (v : V) : V := cond (noN v) v .o
def CmpLaw (P : Program) (g : FuncId) (c c' : List V) (z : Int) : Prop :=
 ∀ (φ : Ren) (u u' : List Value), VRs φ (c.map opV) u → VRs φ (c'.map opV) u' → ∀ w, Calls P g #[.agg u.toArray, .agg u'.toArray] w fun e w' => e = .returned (.int .i64 z) ∧ Grown w w'
def MethLaw (P : Program) (t : TypeId) (name : String) (f : FuncId) : Option TypeId → Prop
 | none => ∀ (v : Value) (w : World), (method (P.types.size + Made.depth) t v name).run P w = .ok (f, v) w
 | some e => ∀ (a : Addr) (w : World), (method (P.types.size + Made.depth) t (.pointer (some a)) name).run P w = (do let u ← loadVar e a; pure (f, u) : Sem (FuncId × Value)).run P w
structure BD0 (E : Env) (φ : Ren) : Prop where
 bd : ∀ x lo hi, E.bd x = some (lo, hi) → lo ≤ φ.s x ∧ φ.s x ≤ hi
 bin : ∀ op a b r, E.bin op a b = some r → ∀ t ox oy va vb w, VR φ a va → VR φ b vb → ∃ v, (do eqGuard op t ox oy va vb; binOp op t va vb : Sem Value).run E.P w = .ok v w ∧ VR φ r v
 mx : ∀ a b r, E.mx a b = some r → ∀ va vb, VR φ a va → VR φ b vb → ∃ k p q, va = .int k p ∧ vb = .int k q ∧ VR φ r (.int k (if q > p then q else p))
 rx : ∀ x y j, E.rx x y = some j → ∃ n, 0 < E.rz x ∧ n * E.rz x = (φ.w x).length ∧ φ.s y = ((n + j : Nat) : Int)
 rl : ∀ x k y, E.rl x k = some y → ∃ n, 0 < E.rz x ∧ n * E.rz x = (φ.w x).length ∧ φ.s y = ((n + k : Nat) : Int)
 re : ∀ x y vs, E.re x y = some vs → 0 < E.rz x ∧ vs.length = E.rz x ∧ ∃ n : Nat, φ.s y = (n : Int) ∧ (n + 1) * E.rz x ≤ (φ.w x).length ∧ VRs φ vs (((φ.w x).drop (n * E.rz x)).take (E.rz x))
 qs : ∀ x, E.qs x = true → ∃ s, φ.q x = .string s
 mg : ∀ x k r, E.mg x k = some r → ∀ d kv, VR φ k kv → MapKept.IsKey d kv → (∀ e ∈ (φ.g x).1.toList, MapKept.IsKey d e.key) →
  match r with
  | none => Instr.findNow d kv (φ.g x).1.toList 0 = some none
  | some v => ∃ j u, Instr.findNow d kv (φ.g x).1.toList 0 = some (some (j, u)) ∧ VR φ v u
 ml : ∀ x v, E.ml x = some v → VR φ v (.int .i64 ((φ.g x).1.size : Nat))
 qc : ∀ f args v, E.qc f args = some v → ∀ args', VRs φ args args' → Quiet E.P φ.y.k f args' fun u => VR φ v u
 xt : XtOK E.P E.xt φ
 kd : E.kd = true → φ.y.d = false
def BD (E : Env) (φ : Ren) : Prop := ∀ φ', Le φ φ' → BD0 E φ'
structure Env.OK (E : Env) : Prop where
 ty : ∀ t i d, E.tt t = some (i, d) → E.P.info? t = some i ∧ E.P.underlying t = some d
 fn : ∀ f fn, E.ft f = some fn → E.P.funcs[f]? = some fn ∧ (fn.name == "runtime.NumGoroutine") = false
 mixed : E.P.follows .mixedOrders = true
 hl : ∀ t, E.hl t = true → E.P.stoodInHeld t = false ∧ E.P.eqGuardType E.P.depth t = false ∧ ∀ fs, E.P.underlying t = some (.struct fs) → ∀ f ∈ fs.toList, f.name ≠ "_"
 qh : ∀ bd f args h v, E.qh bd f args h = some v → ∀ φ w args', (∀ x lo hi, bd x = some (lo, hi) → lo ≤ φ.s x ∧ φ.s x ≤ hi) → VRs φ args args' → HR φ h w →
  (∃ fn c, E.P.funcs[f]? = some fn ∧ fn.body = some c ∧ (fn.name == "runtime.NumGoroutine") = false) ∧
  ∀ n, CallsIn (W none) n E.P f args'.toArray w fun e w' => ∃ u, e = .returned u ∧ VR φ v u ∧ Grown w w'
 eh : ∀ f args h v h', E.eh f args h = some (v, h') → ∀ φ w args', GL E.ng φ → (E.kd = true → φ.y.d = false) → VRs φ args args' → HR φ h w →
  (∃ fn c, E.P.funcs[f]? = some fn ∧ fn.body = some c ∧ (fn.name == "runtime.NumGoroutine") = false) ∧
  ∀ n, CallsIn (W none) n E.P f args'.toArray w fun e w' => ∃ φ' u, e = .returned u ∧ Ext φ w φ' w' ∧ VR φ' v u ∧ HR φ' h' w'
 xh : ∀ X f args h v h', E.xh X f args h = some (v, h') → ∀ φ w args', XtOK E.P X φ → VRs φ args args' → HR φ h w →
  (∃ fn c, E.P.funcs[f]? = some fn ∧ fn.body = some c ∧ (fn.name == "runtime.NumGoroutine") = false) ∧
  ∀ n, CallsIn (W none) n E.P f args'.toArray w fun e w' => ∃ φ' u, e = .returned u ∧ Ext φ w φ' w' ∧ VR φ' v u ∧ HR φ' h' w'
 pl : E.pl = true → ∀ φ, (E.kd = true → φ.y.d = false) → BD E φ
 sf : ∀ f k, E.sf f = some k → SortLaw E.P f k ∧ ∃ fn c, E.P.funcs[f]? = some fn ∧ fn.body = some c ∧ (fn.name == "runtime.NumGoroutine") = false
 kf : ∀ f g e nums, E.kf f g = some (e, nums) → E.kd = true ∧ KeysLaw E.P f g e nums ∧ ∃ fn c, E.P.funcs[f]? = some fn ∧ fn.body = some c ∧ (fn.name == "runtime.NumGoroutine") = false
 cm : ∀ g c c' z, E.cm g c c' = some z → (∃ fn c, E.P.funcs[g]? = some fn ∧ fn.body = some c ∧ (fn.name == "runtime.NumGoroutine") = false) ∧ CmpLaw E.P g c c' z
 iv : ∀ t name f e, E.iv t name = some (f, e) → MethLaw E.P t name f e
theorem BD.mono {E : Env} {φ φ' : Ren} (h : Le φ φ') (hb : BD E φ) : BD E φ' := fun φ'' h' => hb φ'' (h.trans h')
theorem BD.here {E : Env} {φ : Ren} (hb : BD E φ) : BD0 E φ := hb φ (Le.refl φ)
def cv0 : Value → V
 | .bool x => .b x
 | .int k n => .i k n
 | .string s => .s (s.data.toList.map UInt8.toNat)
 | .pointer none => .p none
 | .slice none 0 0 => .sl none 0 (.kn 0)
 | .map none => .m none
 | .nilFunc => .nf
 | .nilIface => .ni
 | _ => .top
def cv : Value → V
 | .agg cs => .a (cs.toList.map cv0)
 | v => cv0 v
theorem bytes_of (s : ByteArray) : bytes (s.data.toList.map UInt8.toNat) = s := by
 unfold bytes
 have : (s.data.toList.map UInt8.toNat).map UInt8.ofNat = s.data.toList := by
  rw [List.map_map]
  conv => rhs; rw [← List.map_id s.data.toList]
  apply List.map_congr_left
  intro x _
  simp
 rw [this]
theorem cv0_ok (φ : Ren) (v : Value) : VR φ (cv0 v) v := by
 unfold cv0
 split <;> simp only [VR] <;> try trivial
 ·rw [bytes_of]
  refine ⟨rfl, fun x hx => ?_⟩
  obtain ⟨y, _, rfl⟩ := List.mem_map.1 hx
  exact UInt8.toNat_lt y
theorem cv0s_ok (φ : Ren) : ∀ l : List Value, VRs φ (l.map cv0) l
 | [] => VRs.nil
 | x :: xs => VRs.cons (cv0_ok φ x) (cv0s_ok φ xs)
theorem cv_ok (φ : Ren) (v : Value) : VR φ (cv v) v := by
 cases v with
 | agg cs => simp only [cv, VR]; exact ⟨cs, rfl, cv0s_ok φ cs.toList⟩
 | _ => unfold cv; exact cv0_ok φ _
def evG (ng g : Nat) : V := cond (Nat.blt g ng) (.p (some (g, 0))) .top
def evF (f : FuncId) : V := .f f [] []
structure EvW where
 f : Nat → Fr → V
def evW (x : Operand) : EvW :=
 @Operand.rec (fun _ => EvW) (fun k => @AcT.rec V (fun _ => EvW) (fun g _ => ⟨fun _ fr => oG .top (g fr.t)⟩) (acT V k)) (fun v => ⟨fun _ _ => cv v⟩) (fun g => ⟨fun ng _ => evG ng g⟩) (fun f => ⟨fun _ _ => evF f⟩) x
def ev (ng : Nat) (fr : Fr) (x : Operand) : V := @EvW.rec (fun _ => V) (fun f => f ng fr) (evW x)
theorem ev_tmp (ng : Nat) (fr : Fr) (k : Nat) : ev ng fr (.tmp k) = fr.get k := by
 show @EvW.rec (fun _ => V) (fun f => f ng fr) (@AcT.rec V (fun _ => EvW) (fun g _ => ⟨fun _ fr => oG .top (g fr.t)⟩) (acT V k)) = oG .top (@AcT.rec V (fun _ => Option V) (fun g _ => g fr.t) (acT V k))
 cases acT V k; rfl
theorem ev_ok {ng : Nat} {φ : Ren} {fr : Fr} {a : Act} (hg : GL ng φ) (hf : FR φ fr a.tmps) (x : Operand) : VR φ (ev ng fr x) (a.eval x) := by
 cases x with
 | tmp t => rw [ev_tmp]; exact hf.2 t
 | const v => exact cv_ok φ v
 | global g =>
  cases hb : Nat.blt g ng with
  | false =>
   have e : ev ng fr (.global g) = .top := by show evG ng g = .top; simp only [evG, hb, cond]
   rw [e]; simp only [VR]
  | true =>
   have hlt : g < ng := by
    have : g + 1 ≤ ng := by simpa [Nat.blt] using hb
    omega
   have e : ev ng fr (.global g) = .p (some (g, 0)) := by show evG ng g = _; simp only [evG, hb, cond]
   rw [e]; simp only [VR]
   exact ⟨g, hg g hlt, rfl⟩
 | func f => show VR φ (.f f [] []) _; simp only [VR]; exact ⟨#[], #[], rfl, by simp [VRs], by simp [VRs]⟩
theorem evs_ok {ng : Nat} {φ : Ren} {fr : Fr} {a : Act} (hg : GL ng φ) (hf : FR φ fr a.tmps) : ∀ l : List Operand, VRs φ (l.map (ev ng fr)) (l.map a.eval)
 | [] => VRs.nil
 | x :: xs => VRs.cons (ev_ok hg hf x) (evs_ok hg hf xs)
def Yields (P : Program) (φ : Ren) (w : World) (s : Sem Next) (r : Option (V × H)) : Prop :=
 ∀ x h', r = some (x, h') → ∃ φ' v w', (s.run P w = .ok (.value v) w' ∨ (s.run P w = .ok .skip w' ∧ v = undef)) ∧ Ext φ w φ' w' ∧ VR φ' x v ∧ HR φ' h' w'
theorem Yields.pure {P : Program} {φ : Ren} {w : World} {s : Sem Next} {h : H} (hr : HR φ h w) {x : V} {v : Value} (hs : s.run P w = .ok (.value v) w) (hv : VR φ x v) :
  Yields P φ w s (some (x, h)) := fun y h' e => by
 cases e
 exact ⟨φ, v, w, .inl hs, Ext.refl φ w, hv, hr⟩
theorem Yields.none {P : Program} {φ : Ren} {w : World} {s : Sem Next} : Yields P φ w s none := fun _ _ e => by cases e
def cellsV : V → Option (List V)
 | .a cs => some cs
 | .top => none
 | .t _ => none
 | v => some [v]
def atomV : V → Bool
 | .a _ => false
 | .top => false
 | .t _ => false
 | _ => true
theorem atomV_ok {φ : Ren} {x : V} {v : Value} (h : VR φ x v) (ha : atomV x = true) : v.oneCell' = true := by
 unfold atomV at ha
 split at ha <;> try (cases ha; done)
 rename_i h1 h2 h3
 cases x with
 | top => exact absurd rfl h2
 | a cs => exact absurd rfl (h1 cs)
 | t vs => exact absurd rfl (h3 vs)
 | b x => simp only [VR] at h; subst h; rfl
 | i k n => simp only [VR] at h; subst h; rfl
 | y k x => simp only [VR] at h; subst h; rfl
 | q x => simp only [VR] at h; exact h.2
 | sr b x k sz => simp only [VR] at h; obtain ⟨_, _, _, _, _, _, _, _, rfl⟩ := h; rfl
 | pr b x y sz off => simp only [VR] at h; obtain ⟨_, _, _, _, rfl⟩ := h; rfl
 | s l => simp only [VR] at h; rw [h.1]; rfl
 | p a =>
  cases a with
  | none => simp only [VR] at h; subst h; rfl
  | some bo => obtain ⟨b, o⟩ := bo; simp only [VR] at h; obtain ⟨r, _, rfl⟩ := h; rfl
 | sl a n c =>
  cases a with
  | none => simp only [VR] at h; rw [h.2]; rfl
  | some bo =>
   obtain ⟨b, o⟩ := bo
   cases c with
   | kn c => simp only [VR] at h; obtain ⟨r, _, _, rfl⟩ := h; rfl
   | un sz => simp only [VR] at h; obtain ⟨r, cap, _, _, _, rfl⟩ := h; rfl
 | es => simp only [VR] at h; obtain ⟨_, _, rfl⟩ := h; rfl
 | m r =>
  cases r with
  | none => simp only [VR] at h; subst h; rfl
  | some b => simp only [VR] at h; obtain ⟨r, _, rfl⟩ := h; rfl
 | f fn first caps => simp only [VR] at h; obtain ⟨_, _, rfl, _⟩ := h; rfl
 | yl r => simp only [VR] at h; obtain ⟨_, _, rfl⟩ := h; rfl
 | o => simpa only [VR] using h
 | nf => simp only [VR] at h; subst h; rfl
 | ifc t y => simp only [VR] at h; obtain ⟨_, rfl, _⟩ := h; rfl
 | ni => simp only [VR] at h; subst h; rfl
theorem cells_of_one {v : Value} (h : v.oneCell' = true) : v.cells = #[v] := by
 cases v <;> first | rfl | (simp [Value.oneCell'] at h; done)
theorem cellsV_ok {φ : Ren} {x : V} {v : Value} {cs : List V} (h : VR φ x v) (hc : cellsV x = some cs) : VRs φ cs v.cells.toList := by
 by_cases ha : atomV x = true
 ·have h1 := atomV_ok h ha
  have h2 : cs = [x] := by
   unfold atomV at ha
   unfold cellsV at hc
   split at ha <;> try (cases ha; done)
   rename_i g1 g2 g3
   split at hc
   ·exact absurd rfl (g1 _)
   ·exact absurd rfl g2
   ·exact absurd rfl (g3 _)
   ·cases hc; rfl
  subst h2
  rw [cells_of_one h1]
  exact VRs.cons h VRs.nil
 ·cases x with
  | a ds =>
   simp only [cellsV, Option.some.injEq] at hc
   subst hc
   simp only [VR] at h
   obtain ⟨cs', rfl, h'⟩ := h
   exact h'
  | top => cases hc
  | t vs => cases hc
  | _ => exact absurd rfl ha
theorem run_typeInfo {P : Program} {t : TypeId} {i : TypeInfo} (h : P.info? t = some i) (w : World) : (typeInfo t).run P w = .ok i w := by simp [typeInfo, h]
theorem run_sizeOf {P : Program} {t : TypeId} {i : TypeInfo} (h : P.info? t = some i) (w : World) : (sizeOf t).run P w = .ok i.size w := by simp [sizeOf, run_typeInfo h]
theorem run_zeroValue {P : Program} {t : TypeId} {i : TypeInfo} {z : Value} (h : P.info? t = some i) (hz : i.zero = some z) (w : World) : (zeroValue t).run P w = .ok z w := by
 simp [zeroValue, run_typeInfo h, hz]
def aggD : TypeDesc → Bool
 | .struct _ => true
 | .array _ _ => true
 | _ => false
theorem run_isAgg {P : Program} {t : TypeId} {d : TypeDesc} (h : P.underlying t = some d) (w : World) : (isAgg t).run P w = .ok (aggD d) w := by
 cases d <;> simp [isAgg, run_underlying h, aggD]
def aNew (e : TypeId) (cs : List V) (h : H) : V × H := (.p (some (h.n, 0)), h.new (.cells cs e false))
theorem new_ok {φ : Ren} {h : H} {w : World} (hr : HR φ h w) (e : TypeId) {cs : List V} {vs : Array Value} (hc : VRs φ cs vs.toList) :
  HR (up φ h.n w.heap.size vs.size) (h.new (.cells cs e false)) { w with heap := w.heap.push (.cells vs e) } ∧ Ext φ w (up φ h.n w.heap.size vs.size) { w with heap := w.heap.push (.cells vs e) } ∧
  up φ h.n w.heap.size vs.size h.n = some w.heap.size := by
 have hle : Le φ (up φ h.n w.heap.size vs.size) := le_up hr.fresh
 have hlen : vs.size = cs.length := by simpa using hc.length
 have htk : vs.toList.take cs.length = vs.toList := List.take_of_length_le (by simp; omega)
 have := hr.alloc vs.size (.cells cs e false) (.cells vs e) ⟨vs, rfl, by rw [htk]; exact VRs.mono hle _ _ hc, by omega, fun _ => hlen, rfl⟩
 exact ⟨this.1, this.2, by simp [up]⟩
def aAlloc (E : Env) (t : TypeId) (h : H) : Option (V × H) :=
 match E.tt t with
 | some (i, _) =>
  match i.zero with
  | some z => some (aNew t (z.cells.toList.map cv0) h)
  | none => none
 | none => none
theorem aAlloc_ok {E : Env} (hE : E.OK) {φ : Ren} {h : H} {w : World} (hr : HR φ h w) (t : TypeId) :
  Yields E.P φ w (do pure (.value (← Instr.alloc t true (.tuple #[])))) (aAlloc E t h) := by
 unfold aAlloc
 cases ht : E.tt t with
 | none => exact Yields.none
 | some td =>
  obtain ⟨i, d⟩ := td
  obtain ⟨hi, _⟩ := hE.ty t i d ht
  cases hz : i.zero with
  | none => simp only [hz]; exact Yields.none
  | some z =>
   simp only [hz]
   intro x h' e
   simp only [aNew, Option.some.injEq, Prod.mk.injEq] at e
   obtain ⟨rfl, rfl⟩ := e
   obtain ⟨h1, h2, h3⟩ := new_ok hr t (vs := z.cells) (cv0s_ok φ z.cells.toList)
   refine ⟨_, .pointer (some ⟨w.heap.size, 0, none⟩), _, .inl ?_, h2, ?_, h1⟩
   ·simp [Instr.alloc, run_zeroValue hi hz, newVar, newRow]
   ·simp only [VR]; exact ⟨_, h3, rfl⟩
def aBox (t : TypeId) (x : V) (h : H) : Option (V × H) :=
 match cellsV x with
 | some cs => some (aNew t cs h)
 | none => none
theorem aBox_ok {P : Program} {φ : Ren} {h : H} {w : World} (hr : HR φ h w) (t : TypeId) {x : V} {v : Value} (hx : VR φ x v) :
  Yields P φ w (do pure (.value (← Instr.box t v))) (aBox t x h) := by
 unfold aBox
 cases hc : cellsV x with
 | none => exact Yields.none
 | some cs =>
  intro y h' e
  simp only [aNew, Option.some.injEq, Prod.mk.injEq] at e
  obtain ⟨rfl, rfl⟩ := e
  obtain ⟨h1, h2, h3⟩ := new_ok hr t (vs := v.cells) (cellsV_ok hx hc)
  refine ⟨_, .pointer (some ⟨w.heap.size, 0, none⟩), _, .inl ?_, h2, ?_, h1⟩
  ·simp [Instr.box, newVar, newRow]
  ·simp only [VR]; exact ⟨_, h3, rfl⟩
theorem HR.cellsAt {φ : Ren} {h : H} {w : World} (hr : HR φ h w) {b r : Nat} (hb : φ b = some r) {l : List V} {e : TypeId} {g : Bool} (hl : h.get b = .cells l e g)
  (o n : Nat) (hn : o + n ≤ l.length) : ∃ vs : List Value, vs.length = n ∧ VRs φ ((l.drop o).take n) vs ∧ ∀ j v, vs[j]? = some v → w.cell? ⟨r, o + j, none⟩ = some v := by
 obtain ⟨ob, h1, h2⟩ := hr.blk b r hb (by rw [hl]; trivial)
 rw [hl] at h2
 obtain ⟨c, rfl, h3, h4, _⟩ := h2
 refine ⟨((c.toList.take l.length).drop o).take n, ?_, (h3.drop o).take n, fun j v hv => ?_⟩
 ·simp; omega
 ·have hj : j < n := by
   rcases Nat.lt_or_ge j n with h | h
   ·exact h
   ·rw [List.getElem?_eq_none (by simp; omega)] at hv; cases hv
  rw [List.getElem?_take, if_pos hj, List.getElem?_drop, List.getElem?_take, if_pos (by omega)] at hv
  have : c[o + j]? = some v := by simpa using hv
  simp [World.cell?, h1, this]
theorem HR.cellsAtR {φ : Ren} {h : H} {w : World} (hr : HR φ h w) {b r : Nat} (hb : φ b = some r) {l : List V} {e : TypeId} (hl : h.get b = .rc l e)
  (o n : Nat) (hn : o + n ≤ l.length) : ∃ vs : List Value, vs.length = n ∧ VRs φ ((l.drop o).take n) vs ∧ ∀ j v, vs[j]? = some v → w.cell? ⟨r, o + j, none⟩ = some v := by
 obtain ⟨ob, h1, h2⟩ := hr.blk b r hb (by rw [hl]; trivial)
 rw [hl] at h2
 obtain ⟨c, rfl, h3, h4, _⟩ := h2
 refine ⟨((c.toList.take l.length).drop o).take n, ?_, (h3.drop o).take n, fun j v hv => ?_⟩
 ·simp; omega
 ·have hj : j < n := by
   rcases Nat.lt_or_ge j n with h | h
   ·exact h
   ·rw [List.getElem?_eq_none (by simp; omega)] at hv; cases hv
  rw [List.getElem?_take, if_pos hj, List.getElem?_drop, List.getElem?_take, if_pos (by omega)] at hv
  have : c[o + j]? = some v := by simpa using hv
  simp [World.cell?, h1, this]
def loadFrom (i : TypeInfo) (d : TypeDesc) (cs : List V) (off : Nat) : Option V :=
 cond (aggD d) (cond (Nat.ble (off + i.size) cs.length) (some (.a ((cs.drop off).take i.size))) none) (cs[off]?)
theorem loadFrom_ok {P : Program} {w : World} {φ : Ren} {t : TypeId} {i : TypeInfo} {d : TypeDesc} (hi : P.info? t = some i) (hd : P.underlying t = some d) {cs : List V} {us : List Value} (hv : VRs φ cs us) {r o : Nat}
  (hc : ∀ j u, us[j]? = some u → w.cell? ⟨r, o + j, none⟩ = some u) {off : Nat} {x : V} (h : loadFrom i d cs off = some x) :
  ∃ v, (Instr.loadAt t (.pointer (some ⟨r, o + off, none⟩))).run P w = .ok v w ∧ VR φ x v := by
 unfold loadFrom at h
 cases ha : aggD d with
 | true =>
  rw [ha] at h
  simp only [cond] at h
  cases hle : Nat.ble (off + i.size) cs.length with
  | false => rw [hle] at h; cases h
  | true =>
   rw [hle] at h
   simp only [Option.some.injEq] at h
   subst h
   have hle' : off + i.size ≤ cs.length := Nat.le_of_ble_eq_true hle
   have hlen := hv.length
   have hl : ((us.drop off).take i.size).length = i.size := by simp; omega
   have hcl : (loadCells ⟨r, o + off, none⟩ ((us.drop off).take i.size).length).run P w = .ok ((us.drop off).take i.size).toArray w := run_loadCells_list w _ _ (fun j u hu => by
    rw [Addr.add_lit]
    have hj : j < i.size := by
     rcases Nat.lt_or_ge j i.size with h | h
     ·exact h
     ·rw [List.getElem?_eq_none (by omega)] at hu; cases hu
    rw [List.getElem?_take, if_pos hj, List.getElem?_drop] at hu
    have := hc (off + j) u hu
    rwa [← Nat.add_assoc] at this)
   rw [hl] at hcl
   refine ⟨.agg ((us.drop off).take i.size).toArray, ?_, by simp only [VR]; exact ⟨_, rfl, by simpa using (hv.drop off).take i.size⟩⟩
   simp [Instr.loadAt, Instr.sureAddr, loadVar, run_isAgg hd, ha, run_sizeOf hi, hcl]
 | false =>
  rw [ha] at h
  simp only [cond] at h
  obtain ⟨v, h1, h2⟩ := hv.get h
  exact ⟨v, by simp [Instr.loadAt, Instr.sureAddr, loadVar, run_isAgg hd, ha, hc off v h1], h2⟩
def rowGet (E : Env) (x : Nat) (l : List V) (y : Nat) : Option (List V) :=
 match E.re x y with
 | some vs => some vs
 | none =>
  match E.rx x y with
  | some j => cond (Nat.ble ((j + 1) * E.rz x) l.length) (some ((l.drop (j * E.rz x)).take (E.rz x))) none
  | none => none
theorem HR.rowAt {φ : Ren} {h : H} {w : World} (hr : HR φ h w) {b r : Nat} (hb : φ b = some r) {x : Nat} {l : List V} {e : TypeId} (hl : h.get b = .row x l e) :
  ∃ c vs, w.heap[r]? = some (.cells c e (0, 0)) ∧ VRs φ l vs ∧ c.toList.take ((φ.w x).length + l.length) = φ.w x ++ vs ∧ (φ.w x).length + l.length ≤ c.size ∧ c.size = φ.n b := by
 obtain ⟨o, h1, h2⟩ := hr.blk b r hb (by rw [hl]; trivial)
 rw [hl] at h2
 obtain ⟨c, vs, rfl, h3, h4, h5, h6⟩ := h2
 exact ⟨c, vs, h1, h3, h4, h5, h6⟩
theorem rowGet_ok {E : Env} {φ : Ren} (hbd : BD E φ) {w : World} {r : Nat} {x : Nat} {l : List V} {vs : List Value} (h2 : VRs φ l vs) (hcell : ∀ p u, (φ.w x ++ vs)[p]? = some u → w.cell? ⟨r, p, none⟩ = some u) {y : Nat} {cs : List V}
  (hg : rowGet E x l y = some cs) {n : Nat} (hn : φ.s y = ((n : Nat) : Int)) : ∃ us : List Value, VRs φ cs us ∧ ∀ j u, us[j]? = some u → w.cell? ⟨r, n * E.rz x + j, none⟩ = some u := by
 unfold rowGet at hg
 split at hg
 ·rename_i vs' hre
  simp only [Option.some.injEq] at hg; subst hg
  obtain ⟨hz, hlen, m, hm, hle, hvr⟩ := hbd.here.re _ _ _ hre
  have hmn : m = n := by rw [hn] at hm; omega
  subst hmn
  refine ⟨_, hvr, fun j u hu => hcell _ _ ?_⟩
  rw [List.getElem?_take] at hu
  split at hu
  ·rw [List.getElem?_drop] at hu
   rw [List.getElem?_append_left ?_]
   ·exact hu
   ·rcases Nat.lt_or_ge (m * E.rz x + j) (φ.w x).length with h | h
    ·exact h
    ·rw [List.getElem?_eq_none h] at hu; cases hu
  ·cases hu
 ·split at hg
  ·rename_i j hrx
   cases hc : Nat.ble ((j + 1) * E.rz x) l.length with
   | false => rw [hc] at hg; cases hg
   | true =>
    rw [hc] at hg
    simp only [cond, Option.some.injEq] at hg; subst hg
    have hle : (j + 1) * E.rz x ≤ l.length := Nat.le_of_ble_eq_true hc
    obtain ⟨m, hz, hm, hs⟩ := hbd.here.rx _ _ _ hrx
    have hmn : n = m + j := by rw [hn] at hs; omega
    subst hmn
    refine ⟨_, (h2.drop (j * E.rz x)).take (E.rz x), fun i u hu => hcell _ _ ?_⟩
    rw [List.getElem?_take] at hu
    split at hu
    ·rw [List.getElem?_drop] at hu
     rw [List.getElem?_append_right (by rw [← hm, Nat.add_mul]; omega), ← hm, Nat.add_mul]
     rw [show m * E.rz x + j * E.rz x + i - m * E.rz x = j * E.rz x + i by omega]
     exact hu
    ·cases hu
  ·cases hg
theorem HR.rowCell {φ : Ren} {h : H} {w : World} (hr : HR φ h w) {b r : Nat} (hb : φ b = some r) {x : Nat} {l : List V} {e : TypeId} (hl : h.get b = .row x l e) :
  ∃ vs, VRs φ l vs ∧ ∀ p u, (φ.w x ++ vs)[p]? = some u → w.cell? ⟨r, p, none⟩ = some u := by
 obtain ⟨c, vs, h1, h2, h3, h4, h5⟩ := hr.rowAt hb hl
 refine ⟨vs, h2, fun p u hu => ?_⟩
 rw [← h3, List.getElem?_take] at hu
 split at hu
 ·have : c[p]? = some u := by simpa using hu
  simp [World.cell?, h1, this]
 ·cases hu
theorem HR.rowCellR {φ : Ren} {h : H} {w : World} (hr : HR φ h w) {b r : Nat} (hb : φ b = some r) {x : Nat} {e : TypeId} (hl : h.get b = .rw x e) :
  ∀ p u, (φ.w x ++ [])[p]? = some u → w.cell? ⟨r, p, none⟩ = some u := by
 obtain ⟨o, h1, h2⟩ := hr.blk b r hb (by rw [hl]; trivial)
 rw [hl] at h2
 obtain ⟨c, rfl, h3, h4, _⟩ := h2
 intro p u hu
 rw [List.append_nil, ← h3, List.getElem?_take] at hu
 split at hu
 ·have : c[p]? = some u := by simpa using hu
  simp [World.cell?, h1, this]
 ·cases hu
def aLoad0 (E : Env) (t : TypeId) (a : V) (h : H) : Option (V × H) :=
 match E.tt t, a with
 | some (i, d), .p (some (b, o)) =>
  match h.get b with
  | .cells l _ _ =>
   match loadFrom i d l o with
   | some x => some (x, h)
   | none => none
  | .rc l _ =>
   match loadFrom i d l o with
   | some x => some (x, h)
   | none => none
  | _ => none
 | some (i, d), .pr b x y sz off =>
  match h.get b with
  | .row x' l _ =>
   cond (Nat.beq x' x && Nat.beq sz (E.rz x))
    (match rowGet E x l y with
     | some cs =>
      match loadFrom i d cs off with
      | some v => some (v, h)
      | none => none
     | none => none) none
  | .rw x' _ =>
   cond (Nat.beq x' x && Nat.beq sz (E.rz x))
    (match rowGet E x [] y with
     | some cs =>
      match loadFrom i d cs off with
      | some v => some (v, h)
      | none => none
     | none => none) none
  | _ => none
 | _, _ => none
theorem aLoad0_ok {E : Env} (hE : E.OK) {φ : Ren} (hbd : BD E φ) {h : H} {w : World} (hr : HR φ h w) (t : TypeId) {x : V} {v : Value} (hx : VR φ x v) :
  Yields E.P φ w (do pure (.value (← Instr.loadAt t v))) (aLoad0 E t x h) := by
 unfold aLoad0
 split
 ·rename_i i d b o ht
  obtain ⟨hi, hd⟩ := hE.ty t i d ht
  simp only [VR] at hx
  obtain ⟨r, hb, rfl⟩ := hx
  split
  ·rename_i l e g hl
   split
   ·rename_i x hx
    obtain ⟨vs, h1, h2, h3⟩ := hr.cellsAt hb hl 0 l.length (by omega)
    rw [List.drop_zero, List.take_length] at h2
    obtain ⟨v, g1, g2⟩ := loadFrom_ok (P := E.P) (w := w) (o := 0) hi hd h2 (fun j u hu => h3 j u hu) hx
    rw [Nat.zero_add] at g1
    exact Yields.pure hr (v := v) (by rw [Sem.run_bind, g1]; rfl) g2
   ·exact Yields.none
  ·rename_i l e hl
   split
   ·rename_i x hx
    obtain ⟨vs, h1, h2, h3⟩ := hr.cellsAtR hb hl 0 l.length (by omega)
    rw [List.drop_zero, List.take_length] at h2
    obtain ⟨v, g1, g2⟩ := loadFrom_ok (P := E.P) (w := w) (o := 0) hi hd h2 (fun j u hu => h3 j u hu) hx
    rw [Nat.zero_add] at g1
    exact Yields.pure hr (v := v) (by rw [Sem.run_bind, g1]; rfl) g2
   ·exact Yields.none
  ·exact Yields.none
 ·rename_i i d b x y sz off ht
  obtain ⟨hi, hd⟩ := hE.ty t i d ht
  simp only [VR] at hx
  obtain ⟨r, n, hb, hn, rfl⟩ := hx
  split
  ·rename_i x' l e hl
   cases hc : Nat.beq x' x && Nat.beq sz (E.rz x) with
   | false => exact Yields.none
   | true =>
    simp only [Bool.and_eq_true] at hc
    have hx' : x' = x := Nat.eq_of_beq_eq_true hc.1
    have hsz : sz = E.rz x := Nat.eq_of_beq_eq_true hc.2
    subst hx'; subst hsz
    simp only [cond]
    split
    ·rename_i cs hcs
     obtain ⟨vs, hv1, hv2⟩ := hr.rowCell hb hl
     obtain ⟨us, h1, h2⟩ := rowGet_ok hbd hv1 hv2 hcs hn
     split
     ·rename_i u hu
      obtain ⟨v, g1, g2⟩ := loadFrom_ok (P := E.P) (w := w) hi hd h1 h2 hu
      exact Yields.pure hr (v := v) (by rw [Sem.run_bind, g1]; rfl) g2
     ·exact Yields.none
    ·exact Yields.none
  ·rename_i x' e hl
   cases hc : Nat.beq x' x && Nat.beq sz (E.rz x) with
   | false => exact Yields.none
   | true =>
    simp only [Bool.and_eq_true] at hc
    have hx' : x' = x := Nat.eq_of_beq_eq_true hc.1
    have hsz : sz = E.rz x := Nat.eq_of_beq_eq_true hc.2
    subst hx'; subst hsz
    simp only [cond]
    split
    ·rename_i cs hcs
     obtain ⟨us, h1, h2⟩ := rowGet_ok hbd VRs.nil (hr.rowCellR hb hl) hcs hn
     split
     ·rename_i u hu
      obtain ⟨v, g1, g2⟩ := loadFrom_ok (P := E.P) (w := w) hi hd h1 h2 hu
      exact Yields.pure hr (v := v) (by rw [Sem.run_bind, g1]; rfl) g2
     ·exact Yields.none
    ·exact Yields.none
  ·exact Yields.none
 ·exact Yields.none
def aLoad (E : Env) (t : TypeId) (a : V) (h : H) : Option (V × H) :=
 match a with
 | .q x =>
  match E.xt.ol t x with
  | some v => some (v, h)
  | none => none
 | a => aLoad0 E t a h
theorem aLoad_ok {E : Env} (hE : E.OK) {φ : Ren} (hbd : BD E φ) {h : H} {w : World} (hr : HR φ h w) (t : TypeId) {x : V} {v : Value} (hx : VR φ x v) :
  Yields E.P φ w (do pure (.value (← Instr.loadAt t v))) (aLoad E t x h) := by
 unfold aLoad
 split
 ·split
  ·rename_i x u e
   simp only [VR] at hx
   obtain ⟨u', g1, g2⟩ := hbd.here.xt.ol _ _ _ e w fun r o hk => (hr.kp r o hk).1
   rw [hx.1]
   exact Yields.pure hr (v := u') (by rw [Sem.run_bind, g1]; rfl) g2
  ·exact Yields.none
 ·exact aLoad0_ok hE hbd hr t hx
theorem HR.congr {φ : Ren} {h h' : H} {w : World} (hr : HR φ h w) (hn : h'.n = h.n) (hg : ∀ b, h'.get b = h.get b) : HR φ h' w :=
 ⟨by rw [hn]; exact hr.cnt, fun b r e => by rw [hn]; exact hr.dom b r e, fun b r e hl => by rw [hg] at hl ⊢; exact hr.blk b r e hl, fun b b' r e e' hl hl' => by rw [hg] at hl hl'; exact hr.inj b b' r e e' hl hl', fun r o hk => ⟨(hr.kp r o hk).1, fun b e => by rw [hg]; exact (hr.kp r o hk).2 b e⟩⟩
def ovr (l : List V) : List V → List V := @List.rec V (fun _ => List V → List V) (fun _ => []) (fun x t ih cs => @List.rec V (fun _ => List V) (x :: t) (fun c cs' _ => c :: ih cs') cs) l
def splice (l : List V) : Nat → List V → List V := @List.rec V (fun _ => Nat → List V → List V) (fun _ _ => []) (fun x t ih o cs => @Nat.rec (fun _ => List V) (ovr (x :: t) cs) (fun o' _ => x :: ih o' cs) o) l
theorem ovr_nil (l : List V) : ovr l [] = l := by cases l <;> rfl
theorem splice_zero (l cs : List V) : splice l 0 cs = ovr l cs := by cases l <;> rfl
theorem splice_nil : ∀ (l : List V) (o : Nat), splice l o [] = l
 | [], _ => rfl
 | x :: l, 0 => ovr_nil (x :: l)
 | x :: l, o + 1 => congrArg (x :: ·) (splice_nil l o)
theorem splice_cons : ∀ (l : List V) (o : Nat) (c : V) (cs : List V), splice l o (c :: cs) = splice (l.set o c) (o + 1) cs
 | [], _, _, _ => rfl
 | x :: l, 0, c, cs => congrArg (c :: ·) (splice_zero l cs).symm
 | x :: l, o + 1, c, cs => congrArg (x :: ·) (splice_cons l o c cs)
theorem splice_length : ∀ (cs l : List V) (o : Nat), (splice l o cs).length = l.length
 | [], l, o => by rw [splice_nil]
 | c :: cs, l, o => by rw [splice_cons, splice_length cs]; simp
theorem storeCells_ok {P : Program} {φ : Ren} {b r : Nat} (hb : φ b = some r) {e : TypeId} {g : Bool} (o : Nat) : ∀ (cs : List V) (vs : List Value) (i : Nat) (l : List V) (h : H) (w : World),
  VRs φ cs vs → cs.all atomV = true → h.get b = .cells l e g → o + i + cs.length ≤ l.length → HR φ h w →
  ∃ w', (storeCells ⟨r, o, none⟩ vs i).run P w = .ok () w' ∧ Ext φ w φ w' ∧ HR φ (h.set b (.cells (splice l (o + i) cs) e g)) w'
 | [], vs, i, l, h, w, hv, _, hl, _, hr => by
  simp only [VRs] at hv; subst hv
  refine ⟨w, by simp [storeCells], Ext.refl φ w, hr.congr rfl fun c => ?_⟩
  rw [H.get_set]
  by_cases hc : c = b
  ·rw [if_pos hc, hc, hl, splice_nil]
  ·rw [if_neg hc]
 | c :: cs, vs, i, l, h, w, hv, ha, hl, hle, hr => by
  simp only [VRs] at hv
  obtain ⟨v, vs', rfl, hc, hcs⟩ := hv
  simp only [List.all_cons, Bool.and_eq_true] at ha
  simp only [List.length_cons] at hle
  have hlt : o + i < l.length := by omega
  obtain ⟨u, hu, _, hfz⟩ := hr.cell hb hl (List.getElem?_eq_getElem hlt)
  obtain ⟨h1, h2⟩ := hr.setCell hb hl (o := o + i) hc
  obtain ⟨w', h3, h4, h5⟩ := storeCells_ok (P := P) hb o cs vs' (i + 1) (l.set (o + i) c) (h.set b (.cells (l.set (o + i) c) e g)) (w.setCell ⟨r, o + i, none⟩ v) hcs ha.2
   (by rw [H.get_set, if_pos rfl]) (by simp; omega) h1
  refine ⟨w', ?_, h2.trans h4, h5.congr rfl fun d => ?_⟩
  ·simp [storeCells, Addr.add_lit, run_store _ _ _ _ _ (atomV_ok hc ha.1), hu, hfz, h3]
  ·rw [H.get_set, H.get_set]
   by_cases hd : d = b
   ·rw [if_pos hd, if_pos hd, splice_cons]; rfl
   ·rw [if_neg hd, if_neg hd, H.get_set, if_neg hd]
def aStore (E : Env) (t : TypeId) (a x : V) (h : H) : Option (V × H) :=
 match E.tt t, a, cellsV x with
 | some (i, _), .p (some (b, o)), some cs =>
  match h.get b with
  | .cells l e g => cond (Nat.beq cs.length i.size && cs.all atomV && Nat.ble (o + cs.length) l.length) (some (.top, h.set b (.cells (splice l o cs) e g))) none
  | _ => none
 | _, _, _ => none
theorem aStore_ok {E : Env} (hE : E.OK) {φ : Ren} {h : H} {w : World} (hr : HR φ h w) (t : TypeId) {a x : V} {va vx : Value} (ha : VR φ a va) (hx : VR φ x vx) :
  Yields E.P φ w (do Instr.storeAt t va vx; pure .skip) (aStore E t a x h) := by
 unfold aStore
 split
 ·rename_i i d b o cs ht hcs
  obtain ⟨hi, _⟩ := hE.ty t i d ht
  simp only [VR] at ha
  obtain ⟨r, hb, rfl⟩ := ha
  split
  ·rename_i l e g hl
   intro y h' he
   cases hc : Nat.beq cs.length i.size && cs.all atomV && Nat.ble (o + cs.length) l.length with
   | false => rw [hc] at he; cases he
   | true =>
    rw [hc] at he
    simp only [cond, Option.some.injEq, Prod.mk.injEq] at he
    obtain ⟨rfl, rfl⟩ := he
    simp only [Bool.and_eq_true] at hc
    obtain ⟨⟨h1, h2⟩, h3⟩ := hc
    have h1' : cs.length = i.size := Nat.eq_of_beq_eq_true h1
    have h3' : o + cs.length ≤ l.length := by simpa using h3
    have hv := cellsV_ok hx hcs
    obtain ⟨w', h4, h5, h6⟩ := storeCells_ok (P := E.P) hb (e := e) (g := g) o cs vx.cells.toList 0 l h w hv h2 hl (by omega) hr
    refine ⟨φ, undef, w', .inr ⟨?_, rfl⟩, h5, trivial, h6⟩
    have hsz : vx.cells.size = i.size := by rw [← h1', ← hv.length]; simp
    simp [Instr.storeAt, Instr.sureAddr, storeVar, run_sizeOf hi, hsz, h4]
  ·exact Yields.none
 ·exact Yields.none
end
end Go.Ev
