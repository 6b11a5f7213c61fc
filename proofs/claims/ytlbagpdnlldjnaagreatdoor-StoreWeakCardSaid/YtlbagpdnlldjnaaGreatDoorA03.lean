/- The abstract machine, part I: append, whole; slices; the small operations. -/
import Derived.Test.YtlbagpdnlldjnaaGreatDoorA02
import Derived.Laws.IdiomStrings
set_option linter.all false
namespace Go.Ev
noncomputable section
def BYields (P : Program) (φ : Ren) (w : World) (s : Sem Value) (r : Option (V × H)) : Prop :=
 ∀ x h', r = some (x, h') → ∃ φ' v w', s.run P w = .ok v w' ∧ Ext φ w φ' w' ∧ VR φ' x v ∧ HR φ' h' w'
theorem BYields.none {P : Program} {φ : Ren} {w : World} {s : Sem Value} : BYields P φ w s none := fun _ _ e => by cases e
theorem BYields.pure {P : Program} {φ : Ren} {w : World} {s : Sem Value} {h : H} (hr : HR φ h w) {x : V} {v : Value} (hs : s.run P w = .ok v w) (hv : VR φ x v) : BYields P φ w s (some (x, h)) := fun y h' e => by
 cases e
 exact ⟨φ, v, w, hs, Ext.refl φ w, hv, hr⟩
theorem BYields.yields {P : Program} {φ : Ren} {w : World} {s : Sem Value} {r : Option (V × H)} (h : BYields P φ w s r) : Yields P φ w (s >>= fun v => Pure.pure (Next.value v)) r := fun x h' e => by
 obtain ⟨φ', v, w', h1, h2, h3, h4⟩ := h x h' e
 exact ⟨φ', v, w', .inl (by simp [h1]), h2, h3, h4⟩
theorem firstCells_ok {P : Program} {w : World} {r o len cap sz : Nat} {vs : List Value} (hl : vs.length = len * sz) (hc : ∀ j v, vs[j]? = some v → w.cell? ⟨r, o + j, none⟩ = some v) :
  (Builtin.firstCells sz len (.slice (some ⟨r, o, none⟩) len cap)).run P w.drew = .ok vs.toArray w.drew :=
 run_firstCells_some w.drew sz len ⟨r, o, none⟩ len cap vs hl (fun j u hu => by rw [Addr.add_lit]; exact hc j u hu)
def aAppend0 (E : Env) (t tx : TypeId) (s x : V) (h : H) : Option (V × H) :=
 match E.tt t with
 | some (_, .slice e) =>
  match E.tt e with
  | some (i, _) =>
   match i.zero, aSrc E i.size tx x h with
   | some z, some (n, news) =>
    cond (Nat.beq z.cells.size i.size)
     (match s with
      | .sl none 0 _ => cond (Nat.beq n 0) (some (.sl none 0 (.kn 0), h)) (aGrow i e 0 n [] news h)
      | .sl (some (b, o)) len (.kn c) =>
       match h.get b with
       | .cells l e' g =>
        cond (Nat.ble (len + n) c)
         (cond (Nat.ble (o + (len * i.size) + news.length) l.length && news.all atomV) (some (.sl (some (b, o)) (len + n) (.kn c), h.set b (.cells (splice l (o + len * i.size) news) e' g))) none)
         (cond (Nat.ble (o + len * i.size) l.length) (aGrow i e len n ((l.drop o).take (len * i.size)) news h) none)
       | _ => none
      | .sl (some (b, o)) len (.un sz) =>
       match h.get b with
       | .cells l e' _ =>
        cond (Nat.beq n 0) (some (.sl (some (b, o)) len (.un sz), h))
         (cond (Nat.beq sz i.size && Nat.beq o 0 && Nat.beq e' e && Nat.ble (len * i.size) l.length) (aGrow i e len n (l.take (len * i.size)) news (h.set b .gone)) none)
       | _ => none
      | _ => none) none
   | _, _ => none
  | none => none
 | _ => none
theorem aAppend0_ok {E : Env} (hE : E.OK) {φ : Ren} {h : H} {w : World} (hr : HR φ h w) (t tx ty : TypeId) {s x : V} {vs vx : Value} (hs : VR φ s vs) (hx : VR φ x vx) :
  BYields E.P φ w (Builtin.append_ #[t, tx] ty #[vs, vx]) (aAppend0 E t tx s x h) := by
 intro y h' hy
 unfold aAppend0 at hy
 split at hy
 ·rename_i it e ht
  obtain ⟨_, hu⟩ := hE.ty _ _ _ ht
  split at hy
  ·rename_i i de he
   obtain ⟨hi, _⟩ := hE.ty _ _ _ he
   split at hy
   ·rename_i z n news hz hsrc
    obtain ⟨news', hS, hnews⟩ := aSrc_ok hE hr i.size tx hx hsrc
    cases hzb : Nat.beq z.cells.size i.size with
    | false => rw [hzb] at hy; cases hy
    | true =>
     rw [hzb] at hy
     have hzs : z.cells.size = i.size := Nat.eq_of_beq_eq_true hzb
     simp only [cond] at hy
     split at hy
     ·simp only [VR] at hs; obtain ⟨_, rfl⟩ := hs
      cases hn : Nat.beq n 0 with
      | true =>
       rw [hn] at hy
       simp only [Option.some.injEq, Prod.mk.injEq] at hy
       obtain ⟨rfl, rfl⟩ := hy
       have hn0 : n = 0 := Nat.eq_of_beq_eq_true hn
       subst hn0
       have hl0 : news' = [] := List.eq_nil_of_length_eq_zero (by have := hS.newsLen; simpa using this)
       subst hl0
       refine ⟨φ, .slice none 0 0, w, ?_, Ext.refl φ w, by simp only [VR]; exact ⟨trivial, trivial⟩, hr⟩
       rcases hS.kind with ⟨e', hk⟩ | hk <;> simp [Builtin.append_, run_underlying hu, run_underlying hk, sizeOf, typeInfo, hi, hS.len, hS.cells]
      | false =>
       rw [hn] at hy
       have hn0 : 0 < n := by
        rcases Nat.eq_zero_or_pos n with e | e
        ·rw [e] at hn; cases hn
        ·exact e
       exact grow_ok hr t tx ty e i z hu hi hz hzs none 0 0 [] [] VRs.nil (by simp) (run_firstCells_none w.drew i.size 0 0 0) vx n news news' hS hnews (by omega) hy
     ·rename_i b o len c
      simp only [VR] at hs
      obtain ⟨r, hb, hlc, rfl⟩ := hs
      split at hy
      ·rename_i l e' g hl
       cases hroom : Nat.ble (len + n) c with
       | true =>
        rw [hroom] at hy
        simp only [] at hy
        have hroom' : len + n ≤ c := Nat.le_of_ble_eq_true hroom
        cases hc : Nat.ble (o + len * i.size + news.length) l.length && news.all atomV with
        | false => rw [hc] at hy; cases hy
        | true =>
         rw [hc] at hy
         simp only [Option.some.injEq, Prod.mk.injEq] at hy
         obtain ⟨rfl, rfl⟩ := hy
         simp only [Bool.and_eq_true] at hc
         have hle : o + len * i.size + news.length ≤ l.length := Nat.le_of_ble_eq_true hc.1
         have hlen := hnews.length
         obtain ⟨w', g1, g2, g3⟩ := storeCells_ok (P := E.P) hb (e := e') (g := g) (o + len * i.size) news news' 0 l h w hnews hc.2 hl (by omega) hr
         refine ⟨φ, .slice (some ⟨r, o, none⟩) (len + n) c, w', ?_, g2, by simp only [VR]; exact ⟨r, hb, hroom', rfl⟩, g3⟩
         rcases hS.kind with ⟨e'', hk⟩ | hk <;> simp [Builtin.append_, run_underlying hu, run_underlying hk, sizeOf, typeInfo, hi, hS.len, hroom', hS.cells, Addr.add_lit, g1]
       | false =>
        rw [hroom] at hy
        simp only [] at hy
        have hroom' : ¬ len + n ≤ c := fun e => by
         have := Nat.ble_eq_true_of_le e
         rw [this] at hroom; cases hroom
        cases hc : Nat.ble (o + len * i.size) l.length with
        | false => rw [hc] at hy; cases hy
        | true =>
         rw [hc] at hy
         simp only [] at hy
         have hle : o + len * i.size ≤ l.length := Nat.le_of_ble_eq_true hc
         obtain ⟨us, h1, h2, h3⟩ := hr.cellsAt hb hl o (len * i.size) hle
         exact grow_ok hr t tx ty e i z hu hi hz hzs (some ⟨r, o, none⟩) len c _ us h2 (by simp; omega) (firstCells_ok h1 h3) vx n news news' hS hnews (by omega) hy
      ·cases hy
     ·rename_i b o len sz
      simp only [VR] at hs
      obtain ⟨r, cap, hb, hlc, hN, rfl⟩ := hs
      split at hy
      ·rename_i l e' g hl
       cases hn : Nat.beq n 0 with
       | true =>
        rw [hn] at hy
        simp only [Option.some.injEq, Prod.mk.injEq] at hy
        obtain ⟨rfl, rfl⟩ := hy
        have hn0 : n = 0 := Nat.eq_of_beq_eq_true hn
        subst hn0
        have hl0 : news' = [] := List.eq_nil_of_length_eq_zero (by have := hS.newsLen; simpa using this)
        subst hl0
        refine ⟨φ, .slice (some ⟨r, o, none⟩) len cap, w, ?_, Ext.refl φ w, by simp only [VR]; exact ⟨r, cap, hb, hlc, hN, rfl⟩, hr⟩
        rcases hS.kind with ⟨e', hk⟩ | hk <;> simp [Builtin.append_, run_underlying hu, run_underlying hk, sizeOf, typeInfo, hi, hS.len, hS.cells, hlc, storeCells]
       | false =>
        rw [hn] at hy
        simp only [] at hy
        cases hc : Nat.beq sz i.size && Nat.beq o 0 && Nat.beq e' e && Nat.ble (len * i.size) l.length with
        | false => rw [hc] at hy; cases hy
        | true =>
         rw [hc] at hy
         simp only [] at hy
         simp only [Bool.and_eq_true] at hc
         obtain ⟨⟨⟨c1, c2⟩, c3⟩, c4⟩ := hc
         have hsz : sz = i.size := Nat.eq_of_beq_eq_true c1
         have ho : o = 0 := Nat.eq_of_beq_eq_true c2
         have hee : e' = e := Nat.eq_of_beq_eq_true c3
         have hle : len * i.size ≤ l.length := Nat.le_of_ble_eq_true c4
         subst ho; subst hsz; subst hee
         by_cases hroom : len + n ≤ cap
         ·
          unfold aGrow at hy
          cases hcc : Nat.ble ((len + n) * i.bytes) 140737488355328 && Nat.ble (len + n) 4611686018427387904 with
          | false => rw [hcc] at hy; cases hy
          | true =>
           rw [hcc] at hy
           simp only [cond, Option.some.injEq, Prod.mk.injEq] at hy
           obtain ⟨rfl, rfl⟩ := hy
           obtain ⟨ob, hob, hBR⟩ := hr.blk b r hb (by rw [hl]; trivial)
           rw [hl] at hBR
           obtain ⟨cur, rfl, k1, k2, _, k4⟩ := hBR
           have hlen := hnews.length
           have hnl := hS.newsLen
           have hmul : (len + n) * i.size = len * i.size + n * i.size := Nat.add_mul _ _ _
           have hcapm : (len + n) * i.size ≤ cap * i.size := Nat.mul_le_mul_right _ hroom
           have hfit : len * i.size + news'.length ≤ cur.size := by rw [k4, ← hN, hnl]; omega
           obtain ⟨⟨cur', m1, m2⟩, m3, m4, m5, m6, m7⟩ := setCells_heap r e' (0, 0) news' (0 + len * i.size) w cur hob
           have hcell : ∀ j, j < news'.length → (w.cell? ⟨r, 0 + len * i.size + j, none⟩).isSome = true := fun j hj => by
            have hlt : len * i.size + j < cur.size := by omega
            simp [World.cell?, hob, hlt]
           have hfz : ∀ j, j < news'.length → w.frozen? ⟨r, 0 + len * i.size + j, none⟩ = false := fun j _ => by simp only [World.frozen?, hob]; simp
           have hrun := run_append_room_src (P := E.P) w t tx ty e' i hu hi r 0 len cap vx n news' hS hroom hcell hfz
           have hsize' : cur'.size = cur.size := by
            have := congrArg List.length m2
            rw [spliceR_length] at this
            simpa using this
           have hnl2 : (l.take (len * i.size) ++ news).length = len * i.size + news'.length := by simp [hlen]; omega
           have hT := hr.turn (w' := w.setCells r (0 + len * i.size) news') (.cells (l.take (len * i.size) ++ news) e' true) (.cells cur' e' (0, 0)) hb (by rw [hl]; trivial) ⟨cur', rfl, ?_, ?_, fun hf => (by cases hf), by rw [hsize']; exact k4⟩ m4 m1 m3 m5 m6 m7 (by rw [setCells_drawn]; exact Nat.le_refl _)
           ·have hR := hT.1.rename hb (by rw [H.get_set, if_pos rfl]; trivial)
            refine ⟨_, .slice (some ⟨r, 0, none⟩) (len + n) cap, _, hrun, hT.2.trans hR.2, ?_, hR.1.congr rfl fun d => ?_⟩
            ·simp only [VR]
             refine ⟨r, cap, by simp [up], hroom, ?_, rfl⟩
             simp only [up, H.set_n, if_true]
             exact hN
            ·rw [H.get_new, H.get_new]
             by_cases hd : d = h.n
             ·rw [if_pos (show d = (h.set b .gone).n from hd), if_pos (show d = ((h.set b (.cells (l.take (len * i.size) ++ news) e' true)).set b .gone).n from hd), H.get_set, if_pos rfl]
             ·rw [if_neg (show ¬ d = (h.set b .gone).n from hd), if_neg (show ¬ d = ((h.set b (.cells (l.take (len * i.size) ++ news) e' true)).set b .gone).n from hd), H.get_set, H.get_set]
              by_cases hd' : d = b
              ·rw [if_pos hd', if_pos hd']
              ·rw [if_neg hd', if_neg hd', H.get_set, if_neg hd']
           ·have e1 : cur'.toList.take (l.take (len * i.size) ++ news).length = cur.toList.take (len * i.size) ++ news' := by
             rw [hnl2, m2, Nat.zero_add]
             exact spliceR_here news' cur.toList (len * i.size) (by simpa using hfit)
            rw [e1]
            refine VRs.append ?_ hnews
            have := k1.take (len * i.size)
            rwa [List.take_take, Nat.min_eq_left hle] at this
           ·rw [hnl2, hsize']; exact hfit
         ·obtain ⟨us, h1, h2, h3⟩ := hr.cellsAt hb hl 0 (len * i.size) (by omega)
          exact grow_ok (hr.drop b) t tx ty e' i z hu hi hz hzs (some ⟨r, 0, none⟩) len cap _ us (by simpa using h2) (by simp; omega) (firstCells_ok h1 h3) vx n news news' hS hnews (by omega) hy
      ·cases hy
     ·cases hy
   ·cases hy
  ·cases hy
 ·cases hy
def aAppendR (E : Env) (t tx : TypeId) (b xr k sz : Nat) (x : V) (h : H) : Option (V × H) :=
 match E.tt t with
 | some (_, .slice e) =>
  match E.tt e with
  | some (i, _) =>
   match i.zero, aSrc E i.size tx x h, h.get b, E.rl xr k with
   | some z, some (n, news), .row xr' l e', some y =>
    match E.bd y with
    | some (_, .ofNat hi) =>
     cond (Nat.beq z.cells.size i.size && Nat.beq xr' xr && Nat.beq sz i.size && Nat.beq sz (E.rz xr) && Nat.beq e' e && Nat.ble (k * sz) l.length && Nat.ble ((hi + n) * i.bytes) 140737488355328 && Nat.ble (hi + n) 4611686018427387904 && Nat.blt 0 n)
      (some (.sr h.n xr (k + n) sz, (h.set b .gone).new (.row xr (l.take (k * sz) ++ news) e))) none
    | _ => none
   | _, _, _, _ => none
  | none => none
 | _ => none
theorem aAppendR_ok {E : Env} (hE : E.OK) {φ : Ren} (hbd : BD E φ) {h : H} {w : World} (hr : HR φ h w) (t tx ty : TypeId) {b xr k sz : Nat} {x : V} {vs vx : Value} (hs : VR φ (.sr b xr k sz) vs) (hx : VR φ x vx) :
  BYields E.P φ w (Builtin.append_ #[t, tx] ty #[vs, vx]) (aAppendR E t tx b xr k sz x h) := by
 intro y h' hy
 unfold aAppendR at hy
 split at hy
 ·rename_i it e ht
  obtain ⟨_, hu⟩ := hE.ty _ _ _ ht
  split at hy
  ·rename_i i de he
   obtain ⟨hi, _⟩ := hE.ty _ _ _ he
   split at hy
   ·rename_i z n news xr' l e' yl hz hsrc hl hrl
    obtain ⟨news', hS, hnews⟩ := aSrc_ok hE hr i.size tx hx hsrc
    split at hy
    ·rename_i lo hi' hbnd
     cases hc : Nat.beq z.cells.size i.size && Nat.beq xr' xr && Nat.beq sz i.size && Nat.beq sz (E.rz xr) && Nat.beq e' e && Nat.ble (k * sz) l.length && Nat.ble ((hi' + n) * i.bytes) 140737488355328 && Nat.ble (hi' + n) 4611686018427387904 && Nat.blt 0 n with
     | false => rw [hc] at hy; cases hy
     | true =>
      rw [hc] at hy
      simp only [cond, Option.some.injEq, Prod.mk.injEq] at hy
      obtain ⟨rfl, rfl⟩ := hy
      simp only [Bool.and_eq_true] at hc
      obtain ⟨⟨⟨⟨⟨⟨⟨⟨c1, c2⟩, c3⟩, c4⟩, c5⟩, c6⟩, c7⟩, c8⟩, c9⟩ := hc
      have hzs : z.cells.size = i.size := Nat.eq_of_beq_eq_true c1
      have hxr : xr' = xr := Nat.eq_of_beq_eq_true c2
      have hsz : sz = i.size := Nat.eq_of_beq_eq_true c3
      have hrz : sz = E.rz xr := Nat.eq_of_beq_eq_true c4
      have hee : e' = e := Nat.eq_of_beq_eq_true c5
      have hkl : k * sz ≤ l.length := Nat.le_of_ble_eq_true c6
      have hb1 : (hi' + n) * i.bytes ≤ 140737488355328 := Nat.le_of_ble_eq_true c7
      have hb2 : hi' + n ≤ 4611686018427387904 := Nat.le_of_ble_eq_true c8
      have hn0 : 0 < n := blt_iff.1 c9
      subst hxr; subst hsz; subst hee
      simp only [VR] at hs
      obtain ⟨r, m, cap, hb, hz0, hm, hkc, hN, rfl⟩ := hs
      obtain ⟨m', _, hm', hsy⟩ := hbd.here.rl _ _ _ hrl
      have hmm : m' = m := Nat.eq_of_mul_eq_mul_right hz0 (by rw [hm, ← hm', hrz])
      subst hmm
      have hup := (hbd.here.bd _ _ _ hbnd).2
      rw [hsy] at hup
      have hmk : m' + k ≤ hi' := by
       have : ((m' + k : Nat) : Int) ≤ (hi' : Int) := hup
       omega
      obtain ⟨c, vs, k1, k2, k3, k4, k5⟩ := hr.rowAt hb hl
      have hlen := hnews.length
      have hnl := hS.newsLen
      have hmul : (m' + k) * i.size = (φ.w xr').length + k * i.size := by rw [Nat.add_mul, hm]
      have htk : (c.toList.take ((m' + k) * i.size)) = φ.w xr' ++ vs.take (k * i.size) := by
       have : (c.toList.take ((φ.w xr').length + l.length)).take ((m' + k) * i.size) = φ.w xr' ++ vs.take (k * i.size) := by
        rw [k3, hmul, List.take_length_add_append]
       rwa [List.take_take, Nat.min_eq_left (by omega)] at this
      have hvk : VRs φ (l.take (k * i.size)) (vs.take (k * i.size)) := k2.take _
      have hlk : (vs.take (k * i.size)).length = k * i.size := by
       have := k2.length
       simp; omega
      by_cases hroom : m' + k + n ≤ cap
      ·
       obtain ⟨⟨cur', m1, m2⟩, m3, m4, m5, m6, m7⟩ := setCells_heap r e' (0, 0) news' (0 + (m' + k) * i.size) w c k1
       have hcapm : (m' + k + n) * i.size ≤ cap * i.size := Nat.mul_le_mul_right _ hroom
       have hmul2 : (m' + k + n) * i.size = (m' + k) * i.size + n * i.size := Nat.add_mul _ _ _
       have hfit : (m' + k) * i.size + news'.length ≤ c.size := by rw [k5, ← hN, hnl]; omega
       have hcell : ∀ j, j < news'.length → (w.cell? ⟨r, 0 + (m' + k) * i.size + j, none⟩).isSome = true := fun j hj => by
        have hlt : (m' + k) * i.size + j < c.size := by omega
        simp [World.cell?, k1, hlt]
       have hfz : ∀ j, j < news'.length → w.frozen? ⟨r, 0 + (m' + k) * i.size + j, none⟩ = false := fun j _ => by simp only [World.frozen?, k1]; simp
       have hrun := run_append_room_src (P := E.P) w t tx ty e' i hu hi r 0 (m' + k) cap vx n news' hS hroom hcell hfz
       have hsize' : cur'.size = c.size := by
        have := congrArg List.length m2
        rw [spliceR_length] at this
        simpa using this
       have hlen2 : (φ.w xr').length + (l.take (k * i.size) ++ news).length = (m' + k) * i.size + news'.length := by
        rw [List.length_append, List.length_take, Nat.min_eq_left hkl, hmul, hlen]; omega
       have hT := hr.turn (w' := w.setCells r (0 + (m' + k) * i.size) news') (.row xr' (l.take (k * i.size) ++ news) e') (.cells cur' e' (0, 0)) hb (by rw [hl]; trivial)
        ⟨cur', vs.take (k * i.size) ++ news', rfl, hvk.append hnews, ?_, ?_, by rw [hsize']; exact k5⟩ m4 m1 m3 m5 m6 m7 (by rw [setCells_drawn]; exact Nat.le_refl _)
       ·have hR := hT.1.rename hb (by rw [H.get_set, if_pos rfl]; trivial)
        refine ⟨_, .slice (some ⟨r, 0, none⟩) (m' + k + n) cap, _, hrun, hT.2.trans hR.2, ?_, hR.1.congr rfl fun d => ?_⟩
        ·simp only [VR]
         refine ⟨r, m', cap, by simp [up], hz0, hm, by omega, ?_, by rw [Nat.add_assoc]⟩
         simp only [up, H.set_n, if_true]
         exact hN
        ·rw [H.get_new, H.get_new]
         by_cases hd : d = h.n
         ·rw [if_pos (show d = (h.set b .gone).n from hd), if_pos (show d = ((h.set b (.row xr' (l.take (k * i.size) ++ news) e')).set b .gone).n from hd), H.get_set, if_pos rfl]
         ·rw [if_neg (show ¬ d = (h.set b .gone).n from hd), if_neg (show ¬ d = ((h.set b (.row xr' (l.take (k * i.size) ++ news) e')).set b .gone).n from hd), H.get_set, H.get_set]
          by_cases hd' : d = b
          ·rw [if_pos hd', if_pos hd']
          ·rw [if_neg hd', if_neg hd', H.get_set, if_neg hd']
       ·rw [hlen2, m2, Nat.zero_add, spliceR_here news' c.toList ((m' + k) * i.size) (by simpa using hfit), htk, List.append_assoc]
       ·rw [hlen2, hsize']; exact hfit
      ·
       have hold : (Builtin.firstCells i.size (m' + k) (.slice (some ⟨r, 0, none⟩) (m' + k) cap)).run E.P w.drew = .ok (φ.w xr' ++ vs.take (k * i.size)).toArray w.drew := by
        refine firstCells_ok (by rw [List.length_append, hlk, hmul]) fun j v hv => ?_
        rw [← htk, List.getElem?_take] at hv
        split at hv
        ·have : c[j]? = some v := by simpa using hv
         simp [World.cell?, k1, this]
        ·cases hv
       have hg : cap < m' + k + n := by omega
       have h1 : (m' + k + n) * i.bytes ≤ 140737488355328 := Nat.le_trans (Nat.mul_le_mul_right _ (by omega)) hb1
       have h2 : m' + k + n ≤ 4611686018427387904 := by omega
       have hrun := run_append_grow_src (P := E.P) w t tx ty e' i z hu hi hz (some ⟨r, 0, none⟩) (m' + k) cap (φ.w xr' ++ vs.take (k * i.size)) hold vx n news' hS hg (by omega) (growslice_fits hg h1)
       have hcap : m' + k + n ≤ grownCap w (m' + k + n) cap e' := by unfold grownCap; simp only [Question.cut]; omega
       generalize hG : grownCap w (m' + k + n) cap e' = G at hrun hcap
       let cc : Array Value := ((φ.w xr' ++ vs.take (k * i.size)) ++ news').toArray ++ Builtin.zeroCells z.cells (G - (m' + k + n))
       have hlo : (φ.w xr' ++ vs.take (k * i.size)).length = (m' + k) * i.size := by rw [List.length_append, hlk, hmul]
       have hcs : cc.size = G * i.size := by
        show (((φ.w xr' ++ vs.take (k * i.size)) ++ news').toArray ++ Builtin.zeroCells z.cells (G - (m' + k + n))).size = _
        rw [Array.size_append, zeroCells_size, hzs]
        simp only [List.size_toArray]
        rw [List.length_append, hlo, hnl, ← Nat.add_mul, ← Nat.add_mul]
        congr 1; omega
       have hlen2 : (φ.w xr').length + (l.take (k * i.size) ++ news).length = (m' + k + n) * i.size := by
        rw [List.length_append, List.length_take, Nat.min_eq_left hkl, Nat.add_mul, hmul, ← hlen, hnl]; omega
       have hr1 := (hr.drop b).drew (w.drawn + 1)
       have hle : Le φ (up φ h.n w.heap.size cc.size) := le_up hr.fresh
       have hal := hr1.alloc cc.size (.row xr' (l.take (k * i.size) ++ news) e') (.cells cc e') ⟨cc, vs.take (k * i.size) ++ news', rfl, VRs.mono hle _ _ (hvk.append hnews), ?_, ?_, rfl⟩
       ·refine ⟨_, _, _, hrun, (Ext.drew φ w (Nat.le_add_right w.drawn 1)).trans hal.2, ?_, hal.1⟩
        simp only [VR]
        refine ⟨w.heap.size, m', G, by simp [up], hz0, hm, by omega, ?_, by rw [Nat.add_assoc]⟩
        have : (up φ h.n w.heap.size cc.size).n h.n = cc.size := by simp [up]
        exact hcs.symm.trans this.symm
       ·show cc.toList.take ((φ.w xr').length + (l.take (k * i.size) ++ news).length) = φ.w xr' ++ (vs.take (k * i.size) ++ news')
        have : cc.toList = ((φ.w xr' ++ vs.take (k * i.size)) ++ news') ++ (Builtin.zeroCells z.cells (G - (m' + k + n))).toList := by simp [cc]
        rw [this, hlen2, ← List.append_assoc, List.take_append_of_le_length (by rw [List.length_append, hlo, hnl, ← Nat.add_mul]; exact Nat.le_refl _), List.take_of_length_le (by rw [List.length_append, hlo, hnl, ← Nat.add_mul]; exact Nat.le_refl _)]
       ·show (φ.w xr').length + (l.take (k * i.size) ++ news).length ≤ cc.size
        rw [hlen2, hcs]; exact Nat.mul_le_mul_right _ hcap
    ·cases hy
   ·cases hy
  ·cases hy
 ·cases hy
def aAppendS (E : Env) (t tx : TypeId) (s : V) (q : Nat) (h : H) : Option (V × H) :=
 match E.tt t, E.tt tx with
 | some (_, .slice e), some (_, .string) =>
  match E.tt e with
  | some (i, _) =>
   match i.zero with
   | some z =>
    cond (Nat.beq z.cells.size 1 && Nat.beq i.size 1 && Nat.ble i.bytes 1000000)
     (match s with
      | .sl none 0 _ =>
       match E.xt.an q with
       | some x' => some (.sr h.n x' 0 1, h.new (.row x' [] e))
       | none => none
      | .sr b x 0 1 =>
       match h.get b, E.xt.ap x q with
       | .row x2 [] e2, some x' => cond (Nat.beq x2 x && Nat.beq e2 e) (some (.sr h.n x' 0 1, (h.set b .gone).new (.row x' [] e))) none
       | _, _ => none
      | _ => none) none
   | none => none
  | none => none
 | _, _ => none
theorem bcells_byteCells (s : ByteArray) : bcells s = byteCells s := rfl
theorem bcells_len (s : ByteArray) : (bcells s).length = s.size := byteCells_length s
theorem growS_ok {E : Env} {φ : Ren} {h : H} {w : World} (hr : HR φ h w) (t tx ty e : TypeId) (i : TypeInfo) (z : Value) (ht : E.P.underlying t = some (.slice e)) (hk : E.P.underlying tx = some .string) (hi : E.P.info? e = some i) (hz : i.zero = some z)
  (hzs : z.cells.size = 1) (h1 : i.size = 1) (hb : i.bytes ≤ 1000000) (base : Option Addr) (m cap x' : Nat) (olds : List Value) (s : ByteArray) (hw : φ.w x' = olds ++ bcells s) (hl : (φ.w x').length ≤ 1000000) (hol : olds.length = m)
  (hold : (Builtin.firstCells 1 m (.slice base m cap)).run E.P w.drew = .ok olds.toArray w.drew) (hg : cap < m + s.size) :
  ∃ φ' v w', (Builtin.append_ #[t, tx] ty #[.slice base m cap, .string s]).run E.P w = .ok v w' ∧ Ext φ w φ' w' ∧ VR φ' (.sr h.n x' 0 1) v ∧ HR φ' (h.new (.row x' [] e)) w' := by
 have hsum : olds.length + s.size ≤ 1000000 := by rw [hw, List.length_append, bcells_len] at hl; exact hl
 have hnb : (m + s.size) * i.bytes ≤ 1000000 * 1000000 := Nat.mul_le_mul (by omega) hb
 have hS := Src.ofString (P := E.P) w hk s
 have hrun := run_append_grow_src (P := E.P) w t tx ty e i z ht hi hz base m cap olds (by rw [h1]; exact hold) (.string s) s.size (byteCells s) (by rw [h1]; exact hS) hg (by omega) (growslice_fits hg (by omega))
 have hcap : m + s.size ≤ grownCap w (m + s.size) cap e := by unfold grownCap; simp only [Question.cut]; omega
 generalize hG : grownCap w (m + s.size) cap e = G at hrun hcap
 let c : Array Value := (olds ++ byteCells s).toArray ++ Builtin.zeroCells z.cells (G - (m + s.size))
 have hwl : (φ.w x').length = m + s.size := by rw [hw, List.length_append, bcells_len, hol]
 have hcs : c.size = G := by
  show ((olds ++ byteCells s).toArray ++ Builtin.zeroCells z.cells (G - (m + s.size))).size = _
  rw [Array.size_append, zeroCells_size, hzs]
  simp only [List.size_toArray, List.length_append, byteCells_length, hol]
  omega
 have hle : Le φ (up φ h.n w.heap.size c.size) := le_up hr.fresh
 have hal := (hr.drew (w.drawn + 1)).alloc c.size (.row x' [] e) (.cells c e) ⟨c, [], rfl, VRs.nil, ?_, ?_, rfl⟩
 ·refine ⟨_, _, _, hrun, (Ext.drew φ w (Nat.le_add_right w.drawn 1)).trans hal.2, ?_, hal.1⟩
  simp only [VR]
  refine ⟨w.heap.size, m + s.size, G, by simp [up], Nat.zero_lt_one, ?_, by omega, ?_, rfl⟩
  ·rw [Nat.mul_one]; exact hwl.symm
  ·have : (up φ h.n w.heap.size c.size).n h.n = c.size := by simp [up]
   rw [Nat.mul_one]; exact hcs.symm.trans this.symm
 ·show c.toList.take ((φ.w x').length + 0) = φ.w x' ++ []
  have : c.toList = (olds ++ byteCells s) ++ (Builtin.zeroCells z.cells (G - (m + s.size))).toList := by simp [c]
  rw [this, List.append_nil, Nat.add_zero, hwl, hw, bcells_byteCells, List.take_append_of_le_length (by rw [List.length_append, byteCells_length, hol]; exact Nat.le_refl _), List.take_of_length_le (by rw [List.length_append, byteCells_length, hol]; exact Nat.le_refl _)]
 ·show (φ.w x').length + 0 ≤ c.size
  rw [hwl, hcs]; exact hcap
theorem aAppendS_ok {E : Env} (hE : E.OK) {φ : Ren} (hbd : BD E φ) {h : H} {w : World} (hr : HR φ h w) (t tx ty : TypeId) {s : V} {q : Nat} {vs vx : Value} (hs : VR φ s vs) (hx : VR φ (.q q) vx) :
  BYields E.P φ w (Builtin.append_ #[t, tx] ty #[vs, vx]) (aAppendS E t tx s q h) := by
 intro y h' hy
 unfold aAppendS at hy
 simp only [VR] at hx
 obtain ⟨rfl, _⟩ := hx
 split at hy
 ·rename_i it e ix ht htx
  obtain ⟨_, hu⟩ := hE.ty _ _ _ ht
  obtain ⟨_, hk⟩ := hE.ty _ _ _ htx
  split at hy
  ·rename_i i de he
   obtain ⟨hi, _⟩ := hE.ty _ _ _ he
   split at hy
   ·rename_i z hz
    cases hc : Nat.beq z.cells.size 1 && Nat.beq i.size 1 && Nat.ble i.bytes 1000000 with
    | false => rw [hc] at hy; cases hy
    | true =>
     rw [hc] at hy
     simp only [Bool.and_eq_true] at hc
     have hzs : z.cells.size = 1 := Nat.eq_of_beq_eq_true hc.1.1
     have hsz : i.size = 1 := Nat.eq_of_beq_eq_true hc.1.2
     have hby : i.bytes ≤ 1000000 := Nat.le_of_ble_eq_true hc.2
     simp only [cond] at hy
     split at hy
     ·simp only [VR] at hs
      obtain ⟨_, rfl⟩ := hs
      split at hy
      ·rename_i x' hx'
       obtain ⟨st, e1, e2, e3, e4⟩ := hbd.here.xt.an _ _ hx'
       cases hy
       show ∃ φ' v w', (Builtin.append_ #[t, tx] ty #[.slice none 0 0, φ.q q]).run E.P w = _ ∧ _
       rw [e1]
       exact growS_ok hr t tx ty e i z hu hk hi hz hzs hsz hby none 0 0 x' [] st (by simpa using e3) (by rw [e3, bcells_len]; exact e4) rfl (run_firstCells_none w.drew 1 0 0 0) (by omega)
      ·cases hy
     ·rename_i b x
      split at hy
      ·rename_i x2 e2' x' hl hap
       cases hc2 : Nat.beq x2 x && Nat.beq e2' e with
       | false => rw [hc2] at hy; cases hy
       | true =>
        rw [hc2] at hy
        cases hy
        simp only [Bool.and_eq_true] at hc2
        have q1 := Nat.eq_of_beq_eq_true hc2.1
        have q2 := Nat.eq_of_beq_eq_true hc2.2
        subst q1; subst q2
        obtain ⟨st, e1, e2, e3, e4⟩ := hbd.here.xt.ap _ _ _ hap
        simp only [VR] at hs
        obtain ⟨r, m, cap, hb, _, hm, hkc, hN, rfl⟩ := hs
        rw [Nat.mul_one] at hm hN
        rw [Nat.add_zero] at hkc ⊢
        obtain ⟨c, vs, k1, k2, k3, k4, k5⟩ := hr.rowAt hb hl
        simp only [VRs] at k2
        subst k2
        rw [List.append_nil, List.length_nil, Nat.add_zero] at k3
        rw [List.length_nil, Nat.add_zero] at k4
        show ∃ φ' v w', (Builtin.append_ #[t, tx] ty #[.slice (some ⟨r, 0, none⟩) m cap, φ.q q]).run E.P w = _ ∧ _
        rw [e1]
        have hwl : (φ.w x').length = m + st.size := by rw [e3, List.length_append, bcells_len, hm]
        by_cases hroom : m + st.size ≤ cap
        ·
         have hS : Src E.P i.size tx (.string st) st.size (bcells st) w := by rw [hsz]; exact Src.ofString w hk st
         obtain ⟨⟨cur', m1, m2⟩, m3, m4, m5, m6, m7⟩ := setCells_heap r e2' (0, 0) (bcells st) (0 + m * i.size) w c k1
         have hfit : m + (bcells st).length ≤ c.size := by rw [k5, ← hN, bcells_len]; exact hroom
         have hcell : ∀ j, j < (bcells st).length → (w.cell? ⟨r, 0 + m * i.size + j, none⟩).isSome = true := fun j hj => by
          have hlt : m * i.size + j < c.size := by rw [hsz]; omega
          simp [World.cell?, k1, hlt]
         have hfz : ∀ j, j < (bcells st).length → w.frozen? ⟨r, 0 + m * i.size + j, none⟩ = false := fun j _ => by simp only [World.frozen?, k1]; simp
         have hrun := run_append_room_src (P := E.P) w t tx ty e2' i hu hi r 0 m cap (.string st) st.size (bcells st) hS hroom hcell hfz
         have hsize' : cur'.size = c.size := by
          have := congrArg List.length m2
          rw [spliceR_length] at this
          simpa using this
         have hT := hr.turn (w' := w.setCells r (0 + m * i.size) (bcells st)) (.row x' [] e2') (.cells cur' e2' (0, 0)) hb (by rw [hl]; trivial)
          ⟨cur', [], rfl, VRs.nil, ?_, ?_, by rw [hsize']; exact k5⟩ m4 m1 m3 m5 m6 m7 (by rw [setCells_drawn]; exact Nat.le_refl _)
         ·have hR := hT.1.rename hb (by rw [H.get_set, if_pos rfl]; trivial)
          refine ⟨_, .slice (some ⟨r, 0, none⟩) (m + st.size) cap, _, hrun, hT.2.trans hR.2, ?_, hR.1.congr rfl fun d => ?_⟩
          ·simp only [VR]
           refine ⟨r, m + st.size, cap, by simp [up], Nat.zero_lt_one, ?_, by omega, ?_, rfl⟩
           ·rw [Nat.mul_one]; exact hwl.symm
           ·simp only [up, H.set_n, if_true, Nat.mul_one]
            exact hN
          ·rw [H.get_new, H.get_new]
           by_cases hd : d = h.n
           ·rw [if_pos (show d = (h.set b .gone).n from hd), if_pos (show d = ((h.set b (.row x' [] e2')).set b .gone).n from hd), H.get_set, if_pos rfl]
           ·rw [if_neg (show ¬ d = (h.set b .gone).n from hd), if_neg (show ¬ d = ((h.set b (.row x' [] e2')).set b .gone).n from hd), H.get_set, H.get_set]
            by_cases hd' : d = b
            ·rw [if_pos hd', if_pos hd']
            ·rw [if_neg hd', if_neg hd', H.get_set, if_neg hd']
         ·show cur'.toList.take ((φ.w x').length + 0) = φ.w x' ++ []
          rw [List.append_nil, Nat.add_zero, hwl, m2, hsz, Nat.mul_one, Nat.zero_add]
          have := spliceR_here (bcells st) c.toList m (by simpa using hfit)
          rw [bcells_len] at this
          rw [this, e3, ← k3, ← hm]
         ·show (φ.w x').length + 0 ≤ cur'.size
          rw [hwl, hsize']
          rw [bcells_len] at hfit
          exact hfit
        ·have hold : (Builtin.firstCells 1 m (.slice (some ⟨r, 0, none⟩) m cap)).run E.P w.drew = .ok (φ.w x2).toArray w.drew := by
          refine firstCells_ok (by rw [Nat.mul_one]; exact hm.symm) fun j v hv => ?_
          rw [← k3, List.getElem?_take] at hv
          split at hv
          ·have : c[j]? = some v := by simpa using hv
           simp [World.cell?, k1, this]
          ·cases hv
         exact growS_ok (hr.drop b) t tx ty e2' i z hu hk hi hz hzs hsz hby (some ⟨r, 0, none⟩) m cap x' (φ.w x2) st e3 e4 hm.symm hold (by omega)
      ·cases hy
     ·cases hy
   ·cases hy
  ·cases hy
 ·cases hy
def aAppend (E : Env) (t tx : TypeId) (s x : V) (h : H) : Option (V × H) :=
 match x with
 | .q q => aAppendS E t tx s q h
 | x =>
  match s with
  | .sr b xr k sz => aAppendR E t tx b xr k sz x h
  | s => aAppend0 E t tx s x h
theorem aAppend_ok {E : Env} (hE : E.OK) {φ : Ren} (hbd : BD E φ) {h : H} {w : World} (hr : HR φ h w) (t tx ty : TypeId) {s x : V} {vs vx : Value} (hs : VR φ s vs) (hx : VR φ x vx) :
  BYields E.P φ w (Builtin.append_ #[t, tx] ty #[vs, vx]) (aAppend E t tx s x h) := by
 unfold aAppend
 split
 ·exact aAppendS_ok hE hbd hr t tx ty hs hx
 ·split
  ·exact aAppendR_ok hE hbd hr t tx ty hs hx
  ·exact aAppend0_ok hE hr t tx ty hs hx
def aCopy (E : Env) (t tx : TypeId) (s x : V) (h : H) : Option (V × H) :=
 match E.tt t with
 | some (_, .slice e) =>
  match E.tt e with
  | some (i, _) =>
   match aSrc E i.size tx x h with
   | some (n, news) =>
    match s with
    | .sl (some (b, o)) len _ =>
     match h.get b with
     | .cells l e' g => cond (Nat.ble n len && Nat.ble (o + news.length) l.length && news.all atomV) (some (.i .i64 (.ofNat n), h.set b (.cells (splice l o news) e' g))) none
     | _ => none
    | _ => none
   | none => none
  | none => none
 | _ => none
theorem aCopy_ok {E : Env} (hE : E.OK) {φ : Ren} {h : H} {w : World} (hr : HR φ h w) (t tx ty : TypeId) {s x : V} {vs vx : Value} (hs : VR φ s vs) (hx : VR φ x vx) :
  BYields E.P φ w (Builtin.copy_ #[t, tx] ty #[vs, vx]) (aCopy E t tx s x h) := by
 intro y h' hy
 unfold aCopy at hy
 split at hy
 ·rename_i it e ht
  obtain ⟨_, hu⟩ := hE.ty _ _ _ ht
  split at hy
  ·rename_i i de he
   obtain ⟨hi, _⟩ := hE.ty _ _ _ he
   split at hy
   ·rename_i n news hsrc
    obtain ⟨news', hS, hnews⟩ := aSrc_ok hE hr i.size tx hx hsrc
    split at hy
    ·rename_i b o len c
     obtain ⟨r, cap, hb, rfl⟩ := VR.slAt hs
     split at hy
     ·rename_i l e' g hl
      obtain ⟨hc, hy⟩ := cond_some hy
      simp only [Option.some.injEq, Prod.mk.injEq] at hy
      obtain ⟨rfl, rfl⟩ := hy
      simp only [Bool.and_eq_true] at hc
      have hn : n ≤ len := Nat.le_of_ble_eq_true hc.1.1
      have hle : o + news.length ≤ l.length := Nat.le_of_ble_eq_true hc.1.2
      obtain ⟨w', g1, g2, g3⟩ := storeCells_ok (P := E.P) hb (e := e') (g := g) o news news' 0 l h w hnews hc.2 hl (by omega) hr
      refine ⟨φ, goInt n, w', ?_, g2, by simp only [VR]; rfl, g3⟩
      have hm : Nat.min n len = n := Nat.min_eq_left hn
      simp [Builtin.copy_, run_underlying hu, sizeOf, typeInfo, hi, hS.len, hm, hS.cells, g1]
     ·cases hy
    ·cases hy
   ·cases hy
  ·cases hy
 ·cases hy
end
end Go.Ev
namespace Go.Ev
noncomputable section
def nats8 : List V → Option (List Nat)
 | [] => some []
 | .i .u8 (.ofNat m) :: l =>
  match nats8 l with
  | some r => cond (Nat.blt m 256) (some (m :: r)) none
  | none => none
 | _ => none
theorem nats8_ok {φ : Ren} : ∀ {l : List V} {ns : List Nat}, nats8 l = some ns → ∀ {vs : List Value}, VRs φ l vs → vs = ns.map (fun m : Nat => Value.int .u8 m) ∧ ∀ x ∈ ns, x < 256
 | [], ns, e, vs, h => by
  simp only [nats8, Option.some.injEq] at e; subst e
  simp only [VRs] at h; subst h
  exact ⟨rfl, fun _ h => by cases h⟩
 | x :: l, ns, e, vs, h => by
  unfold nats8 at e
  split at e
  ·rename_i heq; cases heq
  ·rename_i m l' heq
   cases heq
   split at e
   ·rename_i r hr
    cases hb : Nat.blt m 256 with
    | false => rw [hb] at e; cases e
    | true =>
     rw [hb] at e
     simp only [cond, Option.some.injEq] at e
     subst e
     simp only [VRs, VR] at h
     obtain ⟨_, ys, rfl, rfl, h2⟩ := h
     obtain ⟨i1, i2⟩ := nats8_ok hr h2
     have hm : m < 256 := by
      have : m + 1 ≤ 256 := by simpa [Nat.blt] using hb
      omega
     refine ⟨by rw [i1]; rfl, fun x hx => ?_⟩
     rcases List.mem_cons.1 hx with rfl | hx
     ·exact hm
     ·exact i2 x hx
   ·cases e
  ·cases e
def aBytes0 (E : Env) (src dst : TypeId) (x : V) (h : H) : Option V :=
 match E.tt src, E.tt dst with
 | some (_, .slice e), some (_, .string) =>
  match E.tt e with
  | some (_, .int .u8) =>
   match x with
   | .sl (some (b, o)) n _ =>
    match h.get b with
    | .cells l _ _ =>
     match cond (Nat.ble (o + n) l.length) (nats8 ((l.drop o).take n)) none with
     | some ns => some (.s ns)
     | none => none
    | .rb ns _ => cond (Nat.ble (o + n) ns.length) (some (.s ((ns.drop o).take n))) none
    | _ => none
   | .sl none 0 _ => some (.s [])
   | _ => none
  | _ => none
 | _, _ => none
theorem HR.rbAt {φ : Ren} {h : H} {w : World} (hr : HR φ h w) {b r : Nat} (hb : φ b = some r) {ns : List Nat} {e : TypeId} (hl : h.get b = .rb ns e) :
  (∀ x ∈ ns, x < 256) ∧ ∀ (j : Nat) (m : Nat), ns[j]? = some m → w.cell? ⟨r, j, none⟩ = some (Value.int .u8 (Int.ofNat m)) := by
 obtain ⟨ob, hob, hBR⟩ := hr.blk b r hb (by rw [hl]; trivial)
 rw [hl] at hBR
 obtain ⟨cur, ro, rfl, k0, k1, k2, k3, k4⟩ := hBR
 refine ⟨k3, fun j m hj => ?_⟩
 have hlt : j < ns.length := (List.getElem?_eq_some_iff.1 hj).1
 have h1 : cur.toList[j]? = some (Value.int .u8 (Int.ofNat m)) := by
  have h2 : (cur.toList.take ns.length)[j]? = some (Value.int .u8 (Int.ofNat m)) := by rw [k1, List.getElem?_map, hj]; rfl
  rwa [List.getElem?_take_of_lt hlt] at h2
 have h3 : cur[j]? = some (Value.int .u8 (Int.ofNat m)) := by rw [← Array.getElem?_toList]; exact h1
 simp [World.cell?, hob, h3]
theorem aBytes0_ok {E : Env} (hE : E.OK) {φ : Ren} {h : H} {w : World} (hr : HR φ h w) (src dst : TypeId) {x : V} {v : Value} (hx : VR φ x v) {r : V} (e : aBytes0 E src dst x h = some r) : ∃ u, (convert src dst v).run E.P w = .ok u w ∧ VR φ r u := by
 unfold aBytes0 at e
 split at e
 ·rename_i i1 te i2 h1 h2
  obtain ⟨_, u1⟩ := hE.ty _ _ _ h1
  obtain ⟨_, u2⟩ := hE.ty _ _ _ h2
  split at e
  ·rename_i i3 h3
   obtain ⟨_, u3⟩ := hE.ty _ _ _ h3
   split at e
   ·rename_i b o n c
    split at e
    ·rename_i l te' g hl
     split at e
     ·rename_i ns hns
      cases e
      cases hb : Nat.ble (o + n) l.length with
      | false => rw [hb] at hns; cases hns
      | true =>
       rw [hb] at hns
       have hle : o + n ≤ l.length := Nat.le_of_ble_eq_true hb
       obtain ⟨rr, cap, hrr, rfl⟩ : ∃ rr cap, φ b = some rr ∧ v = .slice (some ⟨rr, o, none⟩) n cap := by
        cases c with
        | kn c => simp only [VR] at hx; obtain ⟨rr, h4, _, rfl⟩ := hx; exact ⟨rr, _, h4, rfl⟩
        | un sz => simp only [VR] at hx; obtain ⟨rr, cap, h4, _, _, rfl⟩ := hx; exact ⟨rr, _, h4, rfl⟩
       obtain ⟨vs, hlen, hvs, hcell⟩ := hr.cellsAt hrr hl o n hle
       obtain ⟨j1, j2⟩ := nats8_ok hns hvs
       have hn : (ns.map UInt8.ofNat).length = n := by
        rw [List.length_map, ← hlen, j1, List.length_map]
       have key := run_convert_bytes_back (P := E.P) w src dst te ⟨rr, o, none⟩ cap (ns.map UInt8.ofNat) u1 u3 u2 (fun j hj => by
        have hj' : j < ns.length := by simpa using hj
        have ea : Addr.add ⟨rr, o, none⟩ j = ⟨rr, o + j, none⟩ := by
         unfold Addr.add
         by_cases h0 : j = 0
         ·subst h0; simp
         ·simp [h0]
        rw [ea]
        refine hcell j _ ?_
        rw [j1, List.getElem?_map, List.getElem?_eq_getElem hj']
        have := j2 ns[j] (List.getElem_mem hj')
        simp [UInt8.toNat_ofNat', Nat.mod_eq_of_lt this])
       rw [hn] at key
       refine ⟨_, key, ?_⟩
       simp only [VR]
       exact ⟨rfl, j2⟩
     ·cases e
    ·rename_i ns te' hl
     cases hb : Nat.ble (o + n) ns.length with
     | false => rw [hb] at e; cases e
     | true =>
      rw [hb] at e
      simp only [cond, Option.some.injEq] at e
      subst e
      have hle : o + n ≤ ns.length := Nat.le_of_ble_eq_true hb
      obtain ⟨rr, cap, hrr, rfl⟩ : ∃ rr cap, φ b = some rr ∧ v = .slice (some ⟨rr, o, none⟩) n cap := by
       cases c with
       | kn c => simp only [VR] at hx; obtain ⟨rr, h4, _, rfl⟩ := hx; exact ⟨rr, _, h4, rfl⟩
       | un sz => simp only [VR] at hx; obtain ⟨rr, cap, h4, _, _, rfl⟩ := hx; exact ⟨rr, _, h4, rfl⟩
      obtain ⟨g1, g2⟩ := hr.rbAt hrr hl
      have hn : (((ns.drop o).take n).map UInt8.ofNat).length = n := by
       rw [List.length_map, List.length_take, List.length_drop]; omega
      have key := run_convert_bytes_back (P := E.P) w src dst te ⟨rr, o, none⟩ cap (((ns.drop o).take n).map UInt8.ofNat) u1 u3 u2 (fun j hj => by
       have hj' : j < n := by rw [hn] at hj; exact hj
       have ea : Addr.add ⟨rr, o, none⟩ j = ⟨rr, o + j, none⟩ := by
        unfold Addr.add
        by_cases h0 : j = 0
        ·subst h0; simp
        ·simp [h0]
       rw [ea]
       have hlt : o + j < ns.length := by omega
       rw [g2 (o + j) ns[o + j] (List.getElem?_eq_getElem hlt)]
       have hm := g1 ns[o + j] (List.getElem_mem hlt)
       simp [UInt8.toNat_ofNat', Nat.mod_eq_of_lt hm])
      rw [hn] at key
      refine ⟨_, key, ?_⟩
      simp only [VR]
      exact ⟨rfl, fun x hx => g1 x (List.mem_of_mem_drop (List.mem_of_mem_take hx))⟩
    ·cases e
   ·rename_i c
    simp only [Option.some.injEq] at e
    subst e
    simp only [VR] at hx
    obtain ⟨_, rfl⟩ := hx
    refine ⟨.string ⟨#[]⟩, ?_, ?_⟩
    ·rw [run_convert_bytes_string w src dst te none 0 _ u1 u3 u2]
     simp [Conv.bytesToString]
     rfl
    ·simp only [VR]; exact ⟨rfl, fun x hx => by cases hx⟩
   ·cases e
  ·cases e
 ·cases e
def aBytes (E : Env) (src dst : TypeId) (x : V) (h : H) : Option V :=
 match x with
 | .sr b xr 0 1 =>
  match E.tt src, E.tt dst with
  | some (_, .slice e), some (_, .string) =>
   match E.tt e, h.get b, E.xt.bs xr with
   | some (_, .int .u8), .row x2 _ _, some z => cond (Nat.beq x2 xr) (some (.q z)) none
   | _, _, _ => none
  | _, _ => none
 | x => aBytes0 E src dst x h
theorem aBytes_ok {E : Env} (hE : E.OK) {φ : Ren} (hbd : BD E φ) {h : H} {w : World} (hr : HR φ h w) (src dst : TypeId) {x : V} {v : Value} (hx : VR φ x v) {r : V} (e : aBytes E src dst x h = some r) : ∃ u, (convert src dst v).run E.P w = .ok u w ∧ VR φ r u := by
 unfold aBytes at e
 split at e
 ·rename_i b xr
  split at e
  ·rename_i i1 te i2 h1 h2
   obtain ⟨_, u1⟩ := hE.ty _ _ _ h1
   obtain ⟨_, u2⟩ := hE.ty _ _ _ h2
   split at e
   ·rename_i i3 x2 l e2 z h3 hl hbs
    obtain ⟨_, u3⟩ := hE.ty _ _ _ h3
    obtain ⟨hq, er⟩ : Nat.beq x2 xr = true ∧ r = .q z := by
     cases hq : Nat.beq x2 xr with
     | true => rw [hq] at e; exact ⟨rfl, (Option.some.inj e).symm⟩
     | false => rw [hq] at e; cases e
    have := Nat.eq_of_beq_eq_true hq
    subst this; subst er
    obtain ⟨s, s1, s2, _, _⟩ := hbd.here.xt.bs _ _ hbs
    simp only [VR] at hx
    obtain ⟨rr, n, cap, hb, _, hn, _, _, rfl⟩ := hx
    rw [Nat.mul_one] at hn
    obtain ⟨vs, _, hc⟩ := hr.rowCell hb hl
    have hlen : s.data.toList.length = n := by rw [hn, s2]; simp [bcells]
    have key := run_convert_bytes_back (P := E.P) w src dst te ⟨rr, 0, none⟩ cap s.data.toList u1 u3 u2 (fun j hj => by
     have ea : Addr.add ⟨rr, 0, none⟩ j = ⟨rr, j, none⟩ := by
      unfold Addr.add
      by_cases h0 : j = 0
      ·subst h0; simp
      ·simp [h0]
     rw [ea]
     refine hc j _ ?_
     rw [List.getElem?_append_left (by rw [s2]; simpa [bcells] using hj), s2]
     simp only [bcells, List.getElem?_map]
     rw [List.getElem?_eq_getElem hj]
     rfl)
    rw [hlen] at key
    rw [Nat.add_zero]
    refine ⟨_, key, ?_⟩
    simp only [VR, s1]
    exact ⟨by simp, rfl⟩
   ·cases e
  ·cases e
 ·exact aBytes0_ok hE hr src dst hx e
theorem inRange_mono {k : IntKind} {lo hi n : Int} (h1 : inRange k lo = true) (h2 : inRange k hi = true) (hn : lo ≤ n ∧ n ≤ hi) : k.wrap n = n := by
 have : inRange k n = true := by
  cases k <;> simp only [inRange, Bool.and_eq_true, iLt_ok] at h1 h2 ⊢ <;> omega
 rw [← fwrap_ok]
 unfold fwrap
 rw [this]; rfl
theorem aConv_ok {E : Env} (hE : E.OK) {φ : Ren} (hbd : BD E φ) (src dst : TypeId) {x : V} {v : Value} (hx : VR φ x v) {r : V} (h : aConv E src dst x = some r) (w : World) :
  ∃ u, (convert src dst v).run E.P w = .ok u w ∧ VR φ r u := by
 unfold aConv at h
 split at h
 ·rename_i sd id k k' n hs hd
  obtain ⟨si, sd⟩ := sd
  obtain ⟨_, hus⟩ := hE.ty _ _ _ hs
  obtain ⟨_, hud⟩ := hE.ty _ _ _ hd
  simp only [VR] at hx; subst hx
  simp only [Option.some.injEq] at h; subst h
  exact ⟨.int k (k.wrap n), by simp [convert, run_underlying hus, run_underlying hud, Conv.intToInt], by simp only [VR, fwrap_ok]⟩
 ·rename_i sd i2 k k1 x hs hd
  obtain ⟨si, sd⟩ := sd
  obtain ⟨_, hus⟩ := hE.ty _ _ _ hs
  obtain ⟨_, hud⟩ := hE.ty _ _ _ hd
  simp only [VR] at hx; subst hx
  split at h
  ·rename_i lo hi hb
   cases hc : inRange k lo && inRange k hi with
   | false => rw [hc] at h; cases h
   | true =>
    rw [hc] at h
    simp only [cond, Option.some.injEq] at h; subst h
    simp only [Bool.and_eq_true] at hc
    exact ⟨.int k (k.wrap (φ.s x)), by simp [convert, run_underlying hus, run_underlying hud, Conv.intToInt], by simp only [VR]; rw [inRange_mono hc.1 hc.2 (hbd.here.bd _ _ _ hb)]⟩
  ·cases h
 ·rename_i sd i2 l hs hd
  obtain ⟨si, sd⟩ := sd
  obtain ⟨_, hus⟩ := hE.ty _ _ _ hs
  obtain ⟨_, hud⟩ := hE.ty _ _ _ hd
  simp only [Option.some.injEq] at h; subst h
  have hv : ∃ s, v = .string s := by simp only [VR] at hx; exact ⟨_, hx.1⟩
  obtain ⟨s, rfl⟩ := hv
  exact ⟨.string s, by cases sd <;> simp [convert, run_underlying hus, run_underlying hud], hx⟩
 ·cases h
def aBound (x : Option V) (dflt upto : Nat) : Option Nat :=
 match x with
 | none => some dflt
 | some (.i _ k) => inB k (upto + 1)
 | _ => none
def OR (φ : Ren) : Option V → Option Value → Prop
 | none, y => y = none
 | some x, y => ∃ v, y = some v ∧ VR φ x v
theorem sliceBound_ok {P : Program} {w : World} {k : IntKind} {n : Int} {j up : Nat} (code : BoundsCode) (h : inB n (up + 1) = some j) : (Instr.sliceBound (.int k n) up code).run P w = .ok j w := by
 obtain ⟨rfl, hlt⟩ := inB_ok h
 have hc : (0 : Int) ≤ (j : Int) ∧ (j : Int) ≤ (up : Int) := ⟨by omega, by omega⟩
 simp only [Instr.sliceBound, asIntOf, Sem.run_bind, Sem.run_pure, Result.andThen_ok]
 rw [if_pos hc]; simp
theorem bound_cases {P : Program} {φ : Ren} {w : World} {x : Option V} {y : Option Value} (hxy : OR φ x y) {d up cap b : Nat} (hup : up ≤ cap) (h : aBound x d up = some b) :
  (y = none ∧ b = d) ∨ (∃ v, y = some v ∧ ∀ code, (Instr.sliceBound v cap code).run P w = .ok b w) := by
 cases x with
 | none =>
  simp only [OR] at hxy
  simp only [aBound, Option.some.injEq] at h
  exact .inl ⟨hxy, h.symm⟩
 | some x =>
  simp only [OR] at hxy
  obtain ⟨v, rfl, hv⟩ := hxy
  cases x <;> simp only [aBound] at h <;> try (cases h; done)
  rename_i k n
  simp only [VR] at hv; subst hv
  obtain ⟨hn, hlt⟩ := inB_ok h
  refine .inr ⟨_, rfl, fun code => sliceBound_ok code (up := cap) ?_⟩
  rw [hn]
  have hb : Nat.blt b (cap + 1) = true := blt_iff.2 (by omega)
  show cond (Nat.blt b (cap + 1)) (some b) none = some b
  rw [hb]; rfl
theorem sliceBounds_ok {P : Program} {φ : Ren} {w : World} (isS : Bool) (len cap up : Nat) (hup : up ≤ cap) {lo hi : Option V} {lo' hi' : Option Value} (h1 : OR φ lo lo') (h2 : OR φ hi hi') {l h : Nat}
  (e2 : aBound hi len up = some h) (e1 : aBound lo 0 h = some l) : (Instr.sliceBounds isS len cap lo' hi' none).run P w = .ok (l, h, cap) w := by
 rcases bound_cases (P := P) (w := w) h2 hup e2 with ⟨rfl, rfl⟩ | ⟨v, rfl, hv⟩ <;> rcases bound_cases (P := P) (w := w) h1 (Nat.le_refl _) e1 with ⟨rfl, rfl⟩ | ⟨u, rfl, hu⟩
 ·simp [Instr.sliceBounds]
 ·simp [Instr.sliceBounds, hu]
 ·simp [Instr.sliceBounds, hv]
 ·simp [Instr.sliceBounds, hv, hu]
def aSlice0 (E : Env) (t : TypeId) (x : V) (lo hi : Option V) (h : H) : Option (V × H) :=
 match E.tt t, x with
 | some (_, .string), .s l =>
  match aBound hi l.length l.length with
  | some b =>
   match aBound lo 0 b with
   | some a => some (.s ((l.drop a).take (b - a)), h)
   | none => none
  | none => none
 | some (_, .slice e), .sl (some (bl, o)) len (.kn c) =>
  match E.tt e, aBound hi len c with
  | some (ie, _), some b =>
   match aBound lo 0 b with
   | some a => some (.sl (some (bl, cond (Nat.beq c a) o (o + a * ie.size))) (b - a) (.kn (c - a)), h)
   | none => none
  | _, _ => none
 | some (_, .slice e), .sl (some (bl, o)) len (.un sz) =>
  match E.tt e, aBound hi len len with
  | some (ie, _), some b =>
   match aBound lo 0 b with
   | some a =>
    cond (Nat.beq sz ie.size)
     (cond (Nat.beq a 0) (some (.sl (some (bl, o)) b (.un sz), h))
      (cond (Nat.blt a len) (some (.sl (some (bl, o + a * ie.size)) (b - a) (.un sz), h)) (some (.es, h)))) none
   | none => none
  | _, _ => none
 | some (_, .slice e), .sl none 0 _ =>
  match E.tt e, aBound hi 0 0 with
  | some _, some b =>
   match aBound lo 0 b with
   | some _ => some (.sl none 0 (.kn 0), h)
   | none => none
  | _, _ => none
 | some (_, .array n e), .p (some (bl, o)) =>
  match E.tt e, aBound hi n n with
  | some (ie, _), some b =>
   match aBound lo 0 b with
   | some a => some (.sl (some (bl, cond (Nat.beq n a) o (o + a * ie.size))) (b - a) (.kn (n - a)), h)
   | none => none
  | _, _ => none
 | _, _ => none
theorem aBound_le {x : Option V} {d u b : Nat} (hd : d ≤ u) (h : aBound x d u = some b) : b ≤ u := by
 unfold aBound at h
 split at h
 ·simp only [Option.some.injEq] at h; omega
 ·have := (inB_ok h).2; omega
 ·cases h
theorem bytes_extract (l : List Nat) (a b : Nat) : (bytes l).extract a b = bytes ((l.drop a).take (b - a)) := by
 unfold bytes
 rw [ByteArray.extract_mk]
 simp
theorem aSlice0_ok {E : Env} (hE : E.OK) {φ : Ren} {h : H} {w : World} (hr : HR φ h w) (t : TypeId) {x : V} {v : Value} (hx : VR φ x v) {lo hi : Option V} {lo' hi' : Option Value} (h1 : OR φ lo lo') (h2 : OR φ hi hi') :
  BYields E.P φ w (Instr.sliceAt t v lo' hi' none) (aSlice0 E t x lo hi h) := by
 unfold aSlice0
 split
 ·rename_i i l ht
  obtain ⟨_, hu⟩ := hE.ty _ _ _ ht
  simp only [VR] at hx; obtain ⟨rfl, hl⟩ := hx
  split
  ·rename_i b hb
   split
   ·rename_i a ha
    refine BYields.pure hr (v := .string (bytes ((l.drop a).take (b - a)))) ?_ (by simp only [VR]; exact ⟨trivial, fun x hx => hl x (List.mem_of_mem_drop (List.mem_of_mem_take hx))⟩)
    have := sliceBounds_ok (P := E.P) (w := w) false l.length l.length l.length (Nat.le_refl _) h1 h2 hb ha
    rw [← bytes_size] at this
    simp [Instr.sliceAt, Instr.slice, run_underlying hu, this, bytes_extract]
   ·exact BYields.none
  ·exact BYields.none
 ·rename_i i e bl o len c ht
  obtain ⟨_, hu⟩ := hE.ty _ _ _ ht
  simp only [VR] at hx; obtain ⟨r, hbl, hlc, rfl⟩ := hx
  split
  ·rename_i ie de b he hb
   obtain ⟨hie, _⟩ := hE.ty _ _ _ he
   split
   ·rename_i a ha
    have hbc := aBound_le hlc hb
    have hab := aBound_le (Nat.zero_le _) ha
    have hsb := sliceBounds_ok (P := E.P) (w := w) true len c c (Nat.le_refl _) h1 h2 hb ha
    by_cases hca : c = a
    ·subst hca
     have hb1 : Nat.beq c c = true := Nat.beq_refl c
     refine BYields.pure hr (v := .slice (some ⟨r, o, none⟩) (b - c) (c - c)) ?_ (by rw [hb1]; simp only [cond, VR]; exact ⟨r, hbl, by omega, rfl⟩)
     simp [Instr.sliceAt, Instr.slice, run_underlying hu, hsb, run_sizeOf hie]
    ·have hb1 : Nat.beq c a = false := nbf hca
     refine BYields.pure hr (v := .slice (some ⟨r, o + a * ie.size, none⟩) (b - a) (c - a)) ?_ (by rw [hb1]; simp only [cond, VR]; exact ⟨r, hbl, by omega, rfl⟩)
     simp [Instr.sliceAt, Instr.slice, run_underlying hu, hsb, run_sizeOf hie, hca, Addr.add_lit]
   ·exact BYields.none
  ·exact BYields.none
 ·rename_i i e bl o len sz ht
  obtain ⟨_, hu⟩ := hE.ty _ _ _ ht
  simp only [VR] at hx; obtain ⟨r, cap, hbl, hlc, hN, rfl⟩ := hx
  split
  ·rename_i ie de b he hb
   obtain ⟨hie, _⟩ := hE.ty _ _ _ he
   split
   ·rename_i a ha
    have hbc := aBound_le (Nat.le_refl _) hb
    have hab := aBound_le (Nat.zero_le _) ha
    have hsb := sliceBounds_ok (P := E.P) (w := w) true len cap len hlc h1 h2 hb ha
    cases hsz : Nat.beq sz ie.size with
    | false => exact BYields.none
    | true =>
     have hsz' : sz = ie.size := Nat.eq_of_beq_eq_true hsz
     simp only [cond]
     cases ha0 : Nat.beq a 0 with
     | true =>
      have ha0' : a = 0 := Nat.eq_of_beq_eq_true ha0
      subst ha0'
      refine BYields.pure hr (v := .slice (some ⟨r, o, none⟩) b cap) ?_ (by simp only [VR]; exact ⟨r, cap, hbl, by omega, hN, rfl⟩)
      simp [Instr.sliceAt, Instr.slice, run_underlying hu, hsb, run_sizeOf hie, Addr.add_lit]
     | false =>
      simp only []
      cases hal : Nat.blt a len with
      | true =>
       have hal' : a < len := blt_iff.1 hal
       refine BYields.pure hr (v := .slice (some ⟨r, o + a * ie.size, none⟩) (b - a) (cap - a)) ?_ ?_
       ·have hne : ¬ cap = a := by omega
        simp [Instr.sliceAt, Instr.slice, run_underlying hu, hsb, run_sizeOf hie, hne, Addr.add_lit]
       ·simp only [VR]
        refine ⟨r, cap - a, hbl, by omega, ?_, rfl⟩
        rw [← hN, hsz', Nat.add_assoc, ← Nat.add_mul]
        congr 2; omega
      | false =>
       have hal' : ¬ a < len := fun e => by rw [blt_iff.2 e] at hal; cases hal
       have hba : b - a = 0 := by omega
       refine BYields.pure hr (v := .slice (if cap = a then some ⟨r, o, none⟩ else some ⟨r, o + a * ie.size, none⟩) (b - a) (cap - a)) ?_ (by simp only [VR]; rw [hba]; exact ⟨_, _, rfl⟩)
       by_cases hca : cap = a
       ·subst hca; simp [Instr.sliceAt, Instr.slice, run_underlying hu, hsb, run_sizeOf hie]
       ·simp [Instr.sliceAt, Instr.slice, run_underlying hu, hsb, run_sizeOf hie, hca, Addr.add_lit]
   ·exact BYields.none
  ·exact BYields.none
 ·rename_i i e c ht
  obtain ⟨_, hu⟩ := hE.ty _ _ _ ht
  simp only [VR] at hx; obtain ⟨_, rfl⟩ := hx
  split
  ·rename_i td b he hb
   obtain ⟨ie, de⟩ := td
   obtain ⟨hie, _⟩ := hE.ty _ _ _ he
   split
   ·rename_i a ha
    have hbc := aBound_le (Nat.le_refl _) hb
    have hab := aBound_le (Nat.zero_le _) ha
    have hsb := sliceBounds_ok (P := E.P) (w := w) true 0 0 0 (Nat.le_refl _) h1 h2 hb ha
    refine BYields.pure hr (v := .slice none 0 0) ?_ (by simp only [VR]; exact ⟨trivial, trivial⟩)
    have ha0 : a = 0 := by omega
    have hb0 : b = 0 := by omega
    subst ha0; subst hb0
    simp [Instr.sliceAt, Instr.slice, run_underlying hu, hsb, run_sizeOf hie]
   ·exact BYields.none
  ·exact BYields.none
 ·rename_i i n e bl o ht
  obtain ⟨_, hu⟩ := hE.ty _ _ _ ht
  simp only [VR] at hx; obtain ⟨r, hbl, rfl⟩ := hx
  split
  ·rename_i ie de b he hb
   obtain ⟨hie, _⟩ := hE.ty _ _ _ he
   split
   ·rename_i a ha
    have hbc := aBound_le (Nat.le_refl _) hb
    have hab := aBound_le (Nat.zero_le _) ha
    have hsb := sliceBounds_ok (P := E.P) (w := w) false n n n (Nat.le_refl _) h1 h2 hb ha
    by_cases hca : n = a
    ·subst hca
     have hb1 : Nat.beq n n = true := Nat.beq_refl n
     refine BYields.pure hr (v := .slice (some ⟨r, o, none⟩) (b - n) (n - n)) ?_ (by rw [hb1]; simp only [cond, VR]; exact ⟨r, hbl, by omega, rfl⟩)
     simp [Instr.sliceAt, Instr.sureAddr, run_underlying hu, hsb, run_sizeOf hie]
    ·have hb1 : Nat.beq n a = false := nbf hca
     refine BYields.pure hr (v := .slice (some ⟨r, o + a * ie.size, none⟩) (b - a) (n - a)) ?_ (by rw [hb1]; simp only [cond, VR]; exact ⟨r, hbl, by omega, rfl⟩)
     simp [Instr.sliceAt, Instr.sureAddr, run_underlying hu, hsb, run_sizeOf hie, hca, Addr.add_lit]
   ·exact BYields.none
  ·exact BYields.none
 ·exact BYields.none
def aSliceR (E : Env) (t : TypeId) (b x k sz : Nat) (lo hi : Option V) : Option V :=
 match E.tt t, lo, hi with
 | some (_, .slice e), none, some (.y _ y) =>
  match E.tt e, E.rx x y with
  | some (ie, _), some j => cond (Nat.beq sz ie.size && Nat.beq sz (E.rz x) && Nat.ble j k) (some (.sr b x j sz)) none
  | _, _ => none
 | _, _, _ => none
theorem aSliceR_ok {E : Env} (hE : E.OK) {φ : Ren} (hbd : BD E φ) (w : World) (t : TypeId) {b x k sz : Nat} {v : Value} (hx : VR φ (.sr b x k sz) v) {lo hi : Option V} {lo' hi' : Option Value} (h1 : OR φ lo lo') (h2 : OR φ hi hi') {r : V}
  (h : aSliceR E t b x k sz lo hi = some r) : ∃ u, (Instr.sliceAt t v lo' hi' none).run E.P w = .ok u w ∧ VR φ r u := by
 unfold aSliceR at h
 split at h
 ·rename_i it e kk y ht
  obtain ⟨_, hu⟩ := hE.ty _ _ _ ht
  simp only [OR] at h1 h2
  subst h1
  obtain ⟨u, rfl, hy⟩ := h2
  simp only [VR] at hy; subst hy
  split at h
  ·rename_i ie de j he hrx
   obtain ⟨hie, _⟩ := hE.ty _ _ _ he
   cases hc : Nat.beq sz ie.size && Nat.beq sz (E.rz x) && Nat.ble j k with
   | false => rw [hc] at h; cases h
   | true =>
    rw [hc] at h
    simp only [cond, Option.some.injEq] at h; subst h
    simp only [Bool.and_eq_true] at hc
    have e1 : sz = ie.size := Nat.eq_of_beq_eq_true hc.1.1
    have e2 : sz = E.rz x := Nat.eq_of_beq_eq_true hc.1.2
    have hjk : j ≤ k := Nat.le_of_ble_eq_true hc.2
    simp only [VR] at hx
    obtain ⟨r, m, cap, hb, hz, hm, hkc, hN, rfl⟩ := hx
    obtain ⟨m', _, hm', hsy⟩ := hbd.here.rx _ _ _ hrx
    have hmm : m' = m := Nat.eq_of_mul_eq_mul_right hz (by rw [hm, ← hm', e2])
    subst hmm
    refine ⟨.slice (some ⟨r, 0, none⟩) (m' + j) cap, ?_, by simp only [VR]; exact ⟨r, m', cap, hb, hz, hm, by omega, hN, rfl⟩⟩
    have hcnd : (0 : Int) ≤ φ.s y ∧ φ.s y ≤ ((cap : Nat) : Int) := by rw [hsy]; exact ⟨by omega, by omega⟩
    have hsb : (Instr.sliceBounds true (m' + k) cap none (some (.int kk (φ.s y))) none).run E.P w = .ok (0, m' + j, cap) w := by
     simp only [Instr.sliceBounds, Instr.sliceBound, asIntOf, Sem.run_bind, Sem.run_pure, Result.andThen_ok]
     rw [if_pos hcnd, hsy]
     simp
     omega
    simp [Instr.sliceAt, Instr.slice, run_underlying hu, hsb, run_sizeOf hie, Addr.add_lit]
  ·cases h
 ·cases h
def aNat : Option V → Option (Option Nat)
 | none => some none
 | some (.i _ (.ofNat n)) => some (some n)
 | _ => none
theorem aNat_ok {φ : Ren} {x : Option V} {y : Option Value} (h : OR φ x y) {r : Option Nat} (e : aNat x = some r) : (r = none ∧ y = none) ∨ ∃ k n, r = some n ∧ y = some (.int k (n : Nat)) := by
 unfold aNat at e
 split at e
 ·simp only [OR] at h; exact .inl ⟨(Option.some.inj e).symm, h⟩
 ·rename_i k n
  simp only [OR] at h
  obtain ⟨u, rfl, hu⟩ := h
  simp only [VR] at hu
  exact .inr ⟨k, n, (Option.some.inj e).symm, by rw [hu]; rfl⟩
 ·cases e
def aSliceS (E : Env) (t : TypeId) (x : Nat) (lo hi : Option V) : Option V :=
 match E.tt t, aNat lo, aNat hi with
 | some (_, .string), some a, some b =>
  match E.xt.ss x (a.getD 0) b with
  | some z => some (.q z)
  | none => none
 | _, _, _ => none
theorem aSliceS_ok {E : Env} (hE : E.OK) {φ : Ren} (hbd : BD E φ) (w : World) (t : TypeId) {x : Nat} {v : Value} (hx : VR φ (.q x) v) {lo hi : Option V} {lo' hi' : Option Value} (h1 : OR φ lo lo') (h2 : OR φ hi hi') {r : V}
  (h : aSliceS E t x lo hi = some r) : ∃ u, (Instr.sliceAt t v lo' hi' none).run E.P w = .ok u w ∧ VR φ r u := by
 unfold aSliceS at h
 split at h
 ·rename_i it a b ht ha hb
  obtain ⟨_, hu⟩ := hE.ty _ _ _ ht
  split at h
  ·rename_i z hz
   cases h
   obtain ⟨s, s1, s2, s3, s4⟩ := hbd.here.xt.ss _ _ _ _ hz
   simp only [VR] at hx
   obtain ⟨rfl, _⟩ := hx
   have hs1 : φ.q x = .string s := s1
   rw [hs1]
   refine ⟨.string (s.extract (a.getD 0) (b.getD s.size)), ?_, by simp only [VR]; exact ⟨s4.symm, rfl⟩⟩
   have hsb : (Instr.sliceBounds false s.size s.size lo' hi' none).run E.P w = .ok (a.getD 0, b.getD s.size, s.size) w := by
    rcases aNat_ok h1 ha with ⟨rfl, rfl⟩ | ⟨k, n, rfl, rfl⟩ <;> rcases aNat_ok h2 hb with ⟨rfl, rfl⟩ | ⟨k', n', rfl, rfl⟩ <;>
    simp only [Option.getD_none, Option.getD_some] at s2 s3 ⊢ <;> simp [Instr.sliceBounds, Instr.sliceBound, asIntOf, s2, s3] <;> omega
   simp [Instr.sliceAt, Instr.slice, run_underlying hu, hsb]
  ·cases h
 ·cases h
def aSlice (E : Env) (t : TypeId) (x : V) (lo hi : Option V) (h : H) : Option (V × H) :=
 match x with
 | .q z =>
  match aSliceS E t z lo hi with
  | some r => some (r, h)
  | none =>
   match lo, hi with
   | none, some i =>
    match E.xt.os t z i with
    | some y => some (.q y, h)
    | none => none
   | _, _ => none
 | .sr b xr k sz =>
  match aSliceR E t b xr k sz lo hi with
  | some r => some (r, h)
  | none => none
 | x => aSlice0 E t x lo hi h
theorem aSlice_ok {E : Env} (hE : E.OK) {φ : Ren} (hbd : BD E φ) {h : H} {w : World} (hr : HR φ h w) (t : TypeId) {x : V} {v : Value} (hx : VR φ x v) {lo hi : Option V} {lo' hi' : Option Value} (h1 : OR φ lo lo') (h2 : OR φ hi hi') :
  BYields E.P φ w (Instr.sliceAt t v lo' hi' none) (aSlice E t x lo hi h) := by
 unfold aSlice
 split
 ·split
  ·rename_i r hr'
   obtain ⟨u, g1, g2⟩ := aSliceS_ok hE hbd w t hx h1 h2 hr'
   exact BYields.pure hr g1 g2
  ·split
   ·split
    ·rename_i y hy
     simp only [OR] at h1 h2
     subst h1
     obtain ⟨vi, rfl, hvi⟩ := h2
     obtain ⟨g1, g2⟩ := hbd.here.xt.os _ _ _ _ hy φ (Le.refl φ) vi hvi
     simp only [VR] at hx
     rw [hx.1]
     exact BYields.pure hr (g2 w) (by simp only [VR]; exact ⟨trivial, g1⟩)
    ·exact BYields.none
   ·exact BYields.none
 ·split
  ·rename_i r hr'
   obtain ⟨u, g1, g2⟩ := aSliceR_ok hE hbd w t hx h1 h2 hr'
   exact BYields.pure hr g1 g2
  ·exact BYields.none
 ·exact aSlice0_ok hE hr t hx h1 h2
end
end Go.Ev
namespace Go.Ev
noncomputable section
def rbC (ns : List Nat) : List Value := ns.map fun n => Value.int .u8 (Int.ofNat n)
def rbL (ns : List Nat) : List V := ns.map fun n => V.i .u8 (.ofNat n)
theorem rbL_ok (φ : Ren) : ∀ ns : List Nat, VRs φ (rbL ns) (rbC ns)
 | [] => VRs.nil
 | n :: ns => VRs.cons (by simp only [VR]) (rbL_ok φ ns)
theorem rbC_len (ns : List Nat) : (rbC ns).length = ns.length := by simp [rbC]
theorem nats8_rbL : ∀ {l : List V} {ns : List Nat}, nats8 l = some ns → l = rbL ns
 | [], ns, e => by simp only [nats8, Option.some.injEq] at e; subst e; rfl
 | x :: l, ns, e => by
  unfold nats8 at e
  split at e
  ·rename_i heq; cases heq
  ·rename_i m l' heq
   cases heq
   split at e
   ·rename_i r hr
    cases hb : Nat.blt m 256 with
    | false => rw [hb] at e; cases e
    | true =>
     rw [hb] at e
     simp only [cond, Option.some.injEq] at e
     subst e
     rw [nats8_rbL hr]; rfl
   ·cases e
  ·cases e
theorem rbL_det {φ : Ren} : ∀ {ns : List Nat} {vs : List Value}, VRs φ (rbL ns) vs → vs = rbC ns
 | [], vs, h => by simp only [rbL, List.map_nil, VRs] at h; exact h
 | n :: ns, vs, h => by
  simp only [rbL, List.map_cons, VRs, VR] at h
  obtain ⟨y, ys, rfl, rfl, h2⟩ := h
  have := rbL_det (ns := ns) h2
  subst this
  rfl
theorem HR.asRb {φ : Ren} {h : H} {w : World} {ns : List Nat} {e : TypeId} (hb : ∀ x ∈ ns, x < 256) (hr : HR φ (h.new (.cells (rbL ns) e true)) w) : HR φ (h.new (.rb ns e)) w := by
 refine ⟨hr.cnt, hr.dom, fun b r e1 hl => ?_, fun b b' r e1 e2 hl hl' => hr.inj b b' r e1 e2 ?_ ?_, fun r o hk => ⟨(hr.kp r o hk).1, fun b e1 hm => (hr.kp r o hk).2 b e1 ?_⟩⟩
 ·rw [H.get_new] at hl ⊢
  by_cases hc : b = h.n
  ·rw [if_pos hc]
   obtain ⟨o, ho, hB⟩ := hr.blk b r e1 (by rw [H.get_new, if_pos hc]; trivial)
   rw [H.get_new, if_pos hc] at hB
   obtain ⟨c, rfl, k1, k2, _, k4⟩ := hB
   refine ⟨_, ho, c, (0, 0), rfl, .inl rfl, ?_, by simpa [rbL] using k2, hb, k4⟩
   have h1 := rbL_det k1
   rw [show (rbL ns).length = ns.length by simp [rbL]] at h1
   exact h1
  ·rw [if_neg hc] at hl ⊢
   obtain ⟨o, ho, hB⟩ := hr.blk b r e1 (by rw [H.get_new, if_neg hc]; exact hl)
   rw [H.get_new, if_neg hc] at hB
   exact ⟨o, ho, hB⟩
 ·rw [H.get_new] at hl ⊢
  by_cases hc : b = h.n
  ·rw [if_pos hc]; trivial
  ·rw [if_neg hc] at hl ⊢; exact hl
 ·rw [H.get_new] at hl' ⊢
  by_cases hc : b' = h.n
  ·rw [if_pos hc]; trivial
  ·rw [if_neg hc] at hl' ⊢; exact hl'
 ·rw [H.get_new] at hm ⊢
  by_cases hc : b = h.n
  ·rw [if_pos hc]; trivial
  ·rw [if_neg hc] at hm ⊢; exact hm
def aStrB (E : Env) (src dst : TypeId) (x : V) (h : H) : Option (V × H) :=
 cond (Nat.beq dst 160)
  (match E.tt src, E.tt dst with
   | some (_, .string), some (_, .slice e) =>
    match E.tt e, x with
    | some (_, .int .u8), .s ns => some (.sl (some (h.n, 0)) ns.length (.un 1), h.new (.rb ns e))
    | _, _ => none
   | _, _ => none) none
theorem aStrB_ok {E : Env} (hE : E.OK) {φ : Ren} {h : H} {w : World} (hr : HR φ h w) (src dst : TypeId) {x : V} {v : Value} (hx : VR φ x v) :
  BYields E.P φ w (convert src dst v) (aStrB E src dst x h) := by
 unfold aStrB
 cases hd : Nat.beq dst 160 with
 | false => exact BYields.none
 | true =>
  simp only [cond]
  split
  ·rename_i i1 i2 e h1 h2
   obtain ⟨_, u1⟩ := hE.ty _ _ _ h1
   obtain ⟨_, u2⟩ := hE.ty _ _ _ h2
   split
   ·rename_i i3 ns h3
    obtain ⟨_, u3⟩ := hE.ty _ _ _ h3
    simp only [VR] at hx
    obtain ⟨rfl, hb⟩ := hx
    intro y h' e'
    simp only [Option.some.injEq, Prod.mk.injEq] at e'
    obtain ⟨rfl, rfl⟩ := e'
    have hrun := run_bytes_of_string (P := E.P) w src dst e (bytes ns) u1 u2 u3
    have hsz : (bytes ns).size = ns.length := by simp [bytes, ByteArray.size]
    generalize hC : bytesRow (bytes ns) (grownCap w (bytes ns).size 0 e) = C at hrun
    have hcap : (bytes ns).size ≤ grownCap w (bytes ns).size 0 e := by unfold grownCap; simp only [Question.cut]; omega
    generalize hG : grownCap w (bytes ns).size 0 e = G at hrun hcap hC
    have hCs : C.size = G := by
     rw [← hC]
     simp only [bytesRow, Array.size_append, Array.size_map, Array.size_replicate]
     have : (bytes ns).data.size = (bytes ns).size := rfl
     omega
    have hCt : C.toList.take ns.length = rbC ns := by
     rw [← hC]
     simp only [bytesRow, Array.toList_append, Array.toList_map, bytes]
     rw [List.take_append_of_le_length (by simp), List.take_of_length_le (by simp)]
     clear hrun hcap hC hG hCs hsz
     induction ns with
     | nil => rfl
     | cons n ns ih =>
      have hn : n < 256 := hb n List.mem_cons_self
      simp only [List.map_cons, rbC] at ih ⊢
      rw [ih (fun x hx => hb x (List.mem_cons_of_mem _ hx))]
      simp [UInt8.toNat_ofNat', Nat.mod_eq_of_lt hn]
    have hal := (hr.drew (w.drawn + 1)).alloc C.size (.rb ns e) (.cells C e (C.size, C.size + 1)) ⟨C, _, rfl, .inr (Nat.le_refl _), hCt, by omega, hb, rfl⟩
    refine ⟨_, _, _, hrun, (Ext.drew φ w (Nat.le_add_right w.drawn 1)).trans hal.2, ?_, hal.1⟩
    simp only [VR]
    refine ⟨w.heap.size, G, by simp [up], by omega, ?_, by rw [hsz]⟩
    have : (up φ h.n w.heap.size C.size).n h.n = C.size := by simp [up]
    omega
   ·exact BYields.none
  ·exact BYields.none
def aAppendB (E : Env) (t tx : TypeId) (s x : V) (h : H) : Option (V × H) :=
 match E.tt t, s with
 | some (_, .slice e), .sl (some (b, 0)) len (.un 1) =>
  match E.tt e, h.get b with
  | some (i, _), .rb ns e' =>
   match i.zero, aSrc E i.size tx x h with
   | some z, some (n, news) =>
    match nats8 news with
    | some ms =>
     cond (Nat.beq z.cells.size i.size && Nat.beq i.size 1 && Nat.beq e' e && Nat.ble len ns.length && Nat.ble ((len + n) * i.bytes) 140737488355328 && Nat.ble (len + n) 4611686018427387904)
      (some (.sl (some (h.n, 0)) (len + n) (.un 1), (h.set b .gone).new (.rb (ns.take len ++ ms) e))) none
    | none => none
   | _, _ => none
  | _, _ => none
 | _, _ => none
theorem aAppendB_ok {E : Env} (hE : E.OK) {φ : Ren} {h : H} {w : World} (hr : HR φ h w) (t tx ty : TypeId) {s x : V} {vs vx : Value} (hs : VR φ s vs) (hx : VR φ x vx) :
  BYields E.P φ w (Builtin.append_ #[t, tx] ty #[vs, vx]) (aAppendB E t tx s x h) := by
 unfold aAppendB
 split
 ·rename_i it e b len ht
  obtain ⟨_, hu⟩ := hE.ty _ _ _ ht
  split
  ·rename_i i de ns e' he hl
   obtain ⟨hi, _⟩ := hE.ty _ _ _ he
   split
   ·rename_i z n news hz hsrc
    obtain ⟨news', hS, hnews⟩ := aSrc_ok hE hr i.size tx hx hsrc
    split
    ·rename_i ms hms
     obtain ⟨q1, q2⟩ := nats8_ok hms hnews
     intro y h' hy
     obtain ⟨hc, hy⟩ := cond_some hy
     simp only [Option.some.injEq, Prod.mk.injEq] at hy
     obtain ⟨rfl, rfl⟩ := hy
     simp only [Bool.and_eq_true] at hc
     obtain ⟨⟨⟨⟨⟨c1, c2⟩, c3⟩, c4⟩, c5⟩, c6⟩ := hc
     have hzs : z.cells.size = i.size := Nat.eq_of_beq_eq_true c1
     have hsz : i.size = 1 := Nat.eq_of_beq_eq_true c2
     have hee : e' = e := Nat.eq_of_beq_eq_true c3
     have hle : len ≤ ns.length := Nat.le_of_ble_eq_true c4
     subst hee
     simp only [VR] at hs
     obtain ⟨r, cap, hb, hlc, hN, rfl⟩ := hs
     obtain ⟨g1, g2⟩ := hr.rbAt hb hl
     have hnl := hS.newsLen
     have hmsl : ms.length = n := by rw [q1, List.length_map, hsz, Nat.mul_one] at hnl; exact hnl
     have hlt : ∀ x ∈ ns.take len ++ ms, x < 256 := fun x hx => by
      rcases List.mem_append.1 hx with hx | hx
      ·exact g1 x (List.mem_of_mem_take hx)
      ·exact q2 x hx
     by_cases hroom : len + n ≤ cap
     ·obtain ⟨ob, hob, hBR⟩ := hr.blk b r hb (by rw [hl]; trivial)
      rw [hl] at hBR
      obtain ⟨cur, ro, rfl, k0, k1, k2, k3, k4⟩ := hBR
      have hfit : len + news'.length ≤ cur.size := by rw [k4, ← hN, hnl, hsz]; omega
      obtain ⟨⟨cur', m1, m2⟩, m3, m4, m5, m6, m7⟩ := setCells_heap r e' ro news' (0 + len * i.size) w cur hob
      have hcell : ∀ j, j < news'.length → (w.cell? ⟨r, 0 + len * i.size + j, none⟩).isSome = true := fun j hj => by
       have hlt : len + j < cur.size := by omega
       simp [World.cell?, hob, hsz, hlt]
      have hfz : ∀ j, j < news'.length → w.frozen? ⟨r, 0 + len * i.size + j, none⟩ = false := fun j hj => by
       have hlt : len + j < cur.size := by omega
       obtain ⟨lo, hi⟩ := ro
       simp only [World.frozen?, hob, hsz]
       rcases k0 with k0 | k0
       ·cases k0; simp
       ·simp only at k0
        simp only [Nat.zero_add, Nat.mul_one, Bool.and_eq_false_imp, decide_eq_true_eq, decide_eq_false_iff_not]
        omega
      have hrun := run_append_room_src (P := E.P) w t tx ty e' i hu hi r 0 len cap vx n news' hS hroom hcell hfz
      have hsize' : cur'.size = cur.size := by
       have := congrArg List.length m2
       rw [spliceR_length] at this
       simpa using this
      have hnl2 : (ns.take len ++ ms).length = len + news'.length := by
       rw [List.length_append, List.length_take, Nat.min_eq_left hle, hmsl, hnl, hsz, Nat.mul_one]
      have hT := hr.turn (w' := w.setCells r (0 + len * i.size) news') (.rb (ns.take len ++ ms) e') (.cells cur' e' ro) hb (by rw [hl]; trivial) ⟨cur', ro, rfl, by rw [hsize']; exact k0, ?_, by rw [hnl2, hsize']; exact hfit, hlt, by rw [hsize']; exact k4⟩ m4 m1 m3 m5 m6 m7 (by rw [setCells_drawn]; exact Nat.le_refl _)
      ·have hR := hT.1.rename hb (by rw [H.get_set, if_pos rfl]; trivial)
       refine ⟨_, .slice (some ⟨r, 0, none⟩) (len + n) cap, _, hrun, hT.2.trans hR.2, ?_, hR.1.congr rfl fun d => ?_⟩
       ·simp only [VR]
        refine ⟨r, cap, by simp [up], hroom, ?_, rfl⟩
        simp only [up, H.set_n, if_true]
        exact hN
       ·rw [H.get_new, H.get_new]
        by_cases hd : d = h.n
        ·rw [if_pos (show d = (h.set b .gone).n from hd), if_pos (show d = ((h.set b (.rb (ns.take len ++ ms) e')).set b .gone).n from hd), H.get_set, if_pos rfl]
        ·rw [if_neg (show ¬ d = (h.set b .gone).n from hd), if_neg (show ¬ d = ((h.set b (.rb (ns.take len ++ ms) e')).set b .gone).n from hd), H.get_set, H.get_set]
         by_cases hd' : d = b
         ·rw [if_pos hd', if_pos hd']
         ·rw [if_neg hd', if_neg hd', H.get_set, if_neg hd']
      ·have e1 : cur'.toList.take (ns.take len ++ ms).length = cur.toList.take len ++ news' := by
        rw [hnl2, m2, Nat.zero_add, hsz, Nat.mul_one]
        exact spliceR_here news' cur.toList len (by simpa using hfit)
       rw [e1, List.map_append, q1]
       congr 1
       have := congrArg (List.take len) k1
       rw [List.take_take, Nat.min_eq_left hle, ← List.map_take] at this
       exact this
     ·have holds : VRs φ (rbL (ns.take len)) (rbC (ns.take len)) := rbL_ok φ _
      have hl1 : (ns.take len).length = len := by rw [List.length_take, Nat.min_eq_left hle]
      have hgr : aGrow i e' len n (rbL (ns.take len)) news (h.set b .gone) = some (.sl (some ((h.set b .gone).n, 0)) (len + n) (.un i.size), (h.set b .gone).new (.cells (rbL (ns.take len) ++ news) e' true)) := by
       unfold aGrow
       rw [c5, c6]; rfl
      obtain ⟨φ', v, w', r1, r2, r3, r4⟩ := grow_ok (hr.drop b) t tx ty e' i z hu hi hz hzs (some ⟨r, 0, none⟩) len cap _ (rbC (ns.take len)) holds (by rw [hsz, Nat.mul_one]; simp only [rbL, List.length_map]; exact hl1) (firstCells_ok (by rw [hsz, Nat.mul_one, rbC_len]; exact hl1) (fun j u hj => by
       rw [Nat.zero_add]
       have hjl : j < len := by
        have := (List.getElem?_eq_some_iff.1 hj).1
        rw [rbC_len, hl1] at this; exact this
       rw [rbC, List.getElem?_map, List.getElem?_take_of_lt hjl, Option.map_eq_some_iff] at hj
       obtain ⟨m, hm, rfl⟩ := hj
       exact g2 j m hm)) vx n news news' hS hnews (by omega) hgr
      refine ⟨φ', v, w', r1, r2, by rw [hsz] at r3; exact r3, ?_⟩
      have hnb : rbL (ns.take len) ++ news = rbL (ns.take len ++ ms) := by
       have : news = rbL ms := by
        clear hsrc hnews hS q1 q2 hnl hmsl hlt hgr r4 r3 r2 r1
        exact nats8_rbL hms
       rw [this]; simp [rbL]
      rw [hnb] at r4
      exact r4.asRb hlt
    ·exact BYields.none
   ·exact BYields.none
  ·exact BYields.none
 ·exact BYields.none
def aClear (E : Env) (t : TypeId) (s : V) (h : H) : Option (V × H) :=
 match E.tt t with
 | some (_, .slice e) =>
  match s with
  | .sl none 0 _ => some (.t [], h)
  | .sl (some (b, o)) n _ =>
   cond (Nat.beq n 0) (some (.t [], h))
    (match E.tt e with
     | some (i, _) =>
      match i.zero, h.get b with
      | some z, .cells l e' g =>
       match zeros (z.cells.toList.map cv0) (n * i.size) with
       | news => cond (Nat.beq z.cells.size i.size && Nat.ble (o + news.length) l.length && news.all atomV) (some (.t [], h.set b (.cells (splice l o news) e' g))) none
      | _, _ => none
     | none => none)
  | _ => none
 | _ => none
theorem aClear_ok {E : Env} (hE : E.OK) {φ : Ren} {h : H} {w : World} (hr : HR φ h w) (t ty : TypeId) {s : V} {vs : Value} (hs : VR φ s vs) :
  BYields E.P φ w (Builtin.clear_ #[t] ty #[vs]) (aClear E t s h) := by
 intro y h' hy
 unfold aClear at hy
 split at hy
 ·rename_i it e ht
  obtain ⟨_, hu⟩ := hE.ty _ _ _ ht
  split at hy
  ·rename_i c
   simp only [Option.some.injEq, Prod.mk.injEq] at hy
   obtain ⟨rfl, rfl⟩ := hy
   simp only [VR] at hs
   obtain ⟨_, rfl⟩ := hs
   exact ⟨φ, .tuple #[], w, by simp [Builtin.clear_, run_underlying hu], Ext.refl φ w, by simp only [VR]; exact ⟨#[], rfl, VRs.nil⟩, hr⟩
  ·rename_i b o n c
   obtain ⟨r, cap, hb, rfl⟩ := VR.slAt hs
   cases hn : Nat.beq n 0 with
   | true =>
    rw [hn] at hy
    simp only [cond, Option.some.injEq, Prod.mk.injEq] at hy
    obtain ⟨rfl, rfl⟩ := hy
    have hn0 : n = 0 := Nat.eq_of_beq_eq_true hn
    subst hn0
    exact ⟨φ, .tuple #[], w, by simp [Builtin.clear_, run_underlying hu], Ext.refl φ w, by simp only [VR]; exact ⟨#[], rfl, VRs.nil⟩, hr⟩
   | false =>
    rw [hn] at hy
    simp only [cond] at hy
    have hn0 : n ≠ 0 := fun e => by subst e; cases hn
    split at hy
    ·rename_i i de he
     obtain ⟨hi, _⟩ := hE.ty _ _ _ he
     split at hy
     ·rename_i z l e' g hz hl
      obtain ⟨hc, hy⟩ := cond_some hy
      simp only [Option.some.injEq, Prod.mk.injEq] at hy
      obtain ⟨rfl, rfl⟩ := hy
      simp only [Bool.and_eq_true] at hc
      have hzs : z.cells.size = i.size := Nat.eq_of_beq_eq_true hc.1.1
      have hle := Nat.le_of_ble_eq_true hc.1.2
      obtain ⟨w', g1, g2, g3⟩ := storeCells_ok (P := E.P) hb (e := e') (g := g) o (zeros (z.cells.toList.map cv0) (n * i.size)) ((Array.range (n * i.size)).map (z.cells[· % z.cells.size]!)).toList 0 l h w (zeros_ok z.cells (n * i.size)) hc.2 hl (by omega) hr
      refine ⟨φ, .tuple #[], w', ?_, g2, by simp only [VR]; exact ⟨#[], rfl, VRs.nil⟩, g3⟩
      have hzc : Builtin.zeroCells z.cells n = (Array.range (n * i.size)).map (z.cells[· % z.cells.size]!) := by
       unfold Builtin.zeroCells; rw [hzs]
      obtain ⟨n', rfl⟩ : ∃ n', n = n' + 1 := ⟨n - 1, by omega⟩
      simp only [Array.toList_map, Array.toList_range] at g1
      simp [Builtin.clear_, run_underlying hu, zeroValue, typeInfo, hi, hz, hzc, g1]
     ·cases hy
    ·cases hy
  ·cases hy
 ·cases hy
end
end Go.Ev
