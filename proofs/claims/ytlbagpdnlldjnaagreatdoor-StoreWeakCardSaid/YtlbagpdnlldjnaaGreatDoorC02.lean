/- What is reached from the law's function: reckoned with a table of what was seen. -/
import GoSem.ClaimFn
import Derived.KernelRfl
import Derived.Test.YtlbagpdnlldjnaaGreatDoorA11
import GoSem.ClaimJoined
set_option linter.all false
namespace Go.Ev
open Go.Proofs
noncomputable def clT (L : Nat → List Nat) : Nat → List Nat → T Bool → List Nat → Option (List Nat)
 | 0, todo, _, seen =>
  match todo with
  | [] => some seen.reverse
  | _ :: _ => none
 | n + 1, todo, s, seen =>
  match todo with
  | [] => some seen.reverse
  | f :: todo =>
   match T.get false s f with
   | true => clT L n todo s seen
   | false => clT L n (L f ++ todo) (T.set false s f true) (f :: seen)
theorem clT_ok {P : Program} {L : Nat → List Nat} (hL : ∀ f, L f = (P.funcs[f]?).elim [] P.leadsTo) : ∀ (n : Nat) (todo : List Nat) (s : T Bool) (seen r : List Nat), (∀ f, T.get false s f = seen.contains f) → clT L n todo s seen = some r → ∀ N, n ≤ N → P.closureVia N todo seen = r
 | n, [], s, seen, r, _, h, N, _ => by
  have h : some seen.reverse = some r := by cases n <;> exact h
  cases h
  cases N <;> rfl
 | 0, _ :: _, _, _, _, _, h, _, _ => by cases h
 | n + 1, f :: todo, s, seen, r, hs, h, N, hN => by
  obtain ⟨M, rfl⟩ : ∃ M, N = M + 1 := ⟨N - 1, by omega⟩
  have e1 := hs f
  show (if seen.contains f then P.closureVia M todo seen else P.closureVia M ((P.funcs[f]?).elim [] P.leadsTo ++ todo) (f :: seen)) = r
  unfold clT at h
  dsimp only at h
  cases hc : T.get false s f with
  | true =>
   rw [hc] at h e1
   rw [if_pos e1.symm]
   exact clT_ok hL n todo s seen r hs h M (by omega)
  | false =>
   rw [hc] at h e1
   rw [if_neg (by rw [← e1]; decide), ← hL f]
   refine clT_ok hL n _ _ (f :: seen) r (fun g => ?_) h M (by omega)
   rw [T.get_set, hs g, List.contains_cons]
   by_cases hg : g = f
   ·subst hg; simp
   ·rw [if_neg hg]
    have : (g == f) = false := by simpa using hg
    rw [this, Bool.false_or]
noncomputable def ledF (f : Nat) : List Nat :=
 match E0.ft f with
 | some fn => Tryz.prog.leadsTo fn
 | none => []
theorem nfuncs : Tryz.prog.funcs.size = 836 := by kernel_rfl
theorem ledF_ok (f : Nat) : ledF f = (Tryz.prog.funcs[f]?).elim [] Tryz.prog.leadsTo := by
 unfold ledF
 cases h : E0.ft f with
 | some fn => rw [(ft_ok f fn h).1]; rfl
 | none =>
  have : Tryz.prog.funcs[f]? = none := by
   cases hf : Tryz.prog.funcs[f]? with
   | none => rfl
   | some fn =>
    have hlt : f < 836 := by rw [← nfuncs]; exact (Array.getElem?_eq_some_iff.1 hf).1
    obtain ⟨a, h1, h2⟩ := listAt fnT_ok hlt
    have h3 : E0.ft f = some a := by
     show cond (Nat.blt f 836) _ none = _
     rw [(by simpa using hlt : Nat.blt f 836 = true)]; exact h2.symm
    rw [h3] at h
    cases h
  rw [this]; rfl
set_option maxRecDepth 1000000
noncomputable def clN : Nat := 1 + (Tryz.prog.funcs.toList.map fun g => (Tryz.prog.leadsTo g).length + 1).sum
noncomputable def clL : List Nat := (clT ledF clN [3] .leaf []).getD []
theorem clL_some : clT ledF clN [3] .leaf [] = some clL := by
 have h : (clT ledF clN [3] .leaf []).isSome = true := by decide +kernel
 unfold clL
 cases hc : clT ledF clN [3] .leaf [] with
 | none => rw [hc] at h; cases h
 | some l => rfl
theorem closure3 : Tryz.prog.closure 3 = clL := clT_ok ledF_ok clN [3] .leaf [] clL (fun f => by rw [T.get_leaf]; rfl) clL_some _ (Nat.le_refl _)
end Go.Ev
namespace Go.Ev
open Go.Proofs
set_option maxRecDepth 1000000
noncomputable def anyF (p : Func → Bool) : List Nat → Bool
 | [] => false
 | g :: l =>
  match E0.ft g with
  | some fn => p fn || anyF p l
  | none => anyF p l
theorem ft_get (f : Nat) : E0.ft f = Tryz.prog.funcs[f]? := by
 cases h : E0.ft f with
 | some fn => exact (ft_ok f fn h).1.symm
 | none =>
  have := ledF_ok f
  cases hf : Tryz.prog.funcs[f]? with
  | none => rfl
  | some fn =>
   have hlt : f < 836 := by rw [← nfuncs]; exact (Array.getElem?_eq_some_iff.1 hf).1
   obtain ⟨a, h1, h2⟩ := listAt fnT_ok hlt
   have h3 : E0.ft f = some a := by
    show cond (Nat.blt f 836) _ none = _
    rw [(by simpa using hlt : Nat.blt f 836 = true)]; exact h2.symm
   rw [h3] at h
   cases h
theorem anyF_ok (p : Func → Bool) : ∀ l : List Nat, anyF p l = l.any fun g => (Tryz.prog.funcs[g]?).any p
 | [] => rfl
 | g :: l => by
  rw [anyF, List.any_cons, ← anyF_ok p l, ← ft_get]
  cases E0.ft g <;> simp
theorem unf_true : Tryz.prog.unfollowed 3 = true := by
 unfold Program.unfollowed
 rw [closure3, ← anyF_ok]
 decide +kernel
theorem rec_true : Tryz.prog.recurses 3 = true := by
 unfold Program.recurses
 rw [unf_true, Bool.true_or]
noncomputable def mapF {α : Type} (p : Func → Option α) : List Nat → List α
 | [] => []
 | g :: l =>
  match (E0.ft g).bind p with
  | some x => x :: mapF p l
  | none => mapF p l
theorem mapF_ok {α : Type} (p : Func → Option α) : ∀ l : List Nat, mapF p l = l.filterMap fun g => (Tryz.prog.funcs[g]?).bind p
 | [] => rfl
 | g :: l => by
  rw [mapF, List.filterMap_cons, ← mapF_ok p l, ← ft_get]
  cases (E0.ft g).bind p <;> rfl
theorem inPlace_eq : Tryz.prog.inPlace 3 = mapF (fun fn => if fn.ours || fn.body.isNone || fn.name == "runtime.NumGoroutine" then some fn.name else none) clL := by
 unfold Program.inPlace
 rw [closure3, mapF_ok]
noncomputable def flatF {α : Type} (p : Func → List α) : List Nat → List α
 | [] => []
 | g :: l =>
  match E0.ft g with
  | some fn => p fn ++ flatF p l
  | none => flatF p l
theorem flatF_ok {α : Type} (p : Func → List α) (q : Nat → List α) (h : ∀ g, q g = (E0.ft g).elim [] p) : ∀ l : List Nat, flatF p l = l.flatMap q
 | [] => rfl
 | g :: l => by
  rw [flatF, List.flatMap_cons, ← flatF_ok p q h l, h g]
  cases E0.ft g <;> simp
theorem named_eq : Tryz.prog.varsNamed 3 = (((flatF (fun fn => fn.body.elim [] Code.globalsNamed) clL).eraseDups).filterMap (fun g => (Tryz.prog.globals[g]?).map (·.name)) ++ mapF (fun fn => if fn.body.isNone then entryReads.lookup fn.name else none) clL).eraseDups := by
 unfold Program.varsNamed
 rw [closure3, mapF_ok, flatF_ok _ (fun g => ((Tryz.prog.funcs[g]?).bind (·.body)).elim [] Code.globalsNamed)]
 intro g
 rw [ft_get]
 cases Tryz.prog.funcs[g]? <;> rfl
end Go.Ev
