/- The abstract machine, part S: a region that draws its order: the tests, and the plan that they make. -/
import Derived.Test.YtcnckmkbidklgaaGreatDoorA05
namespace Go.Ev

/-! ### Two values are one -/
def sameP : Option (Nat × Nat) → Option (Nat × Nat) → Bool
  | none, none => true
  | some (a, b), some (c, d) => Nat.beq a c && Nat.beq b d
  | _, _ => false
theorem sameP_ok {x y : Option (Nat × Nat)} (h : sameP x y = true) : x = y := by
  cases x <;> cases y <;> try (cases h; done)
  · rfl
  · rename_i a b
    obtain ⟨a, b⟩ := a
    rename_i c
    obtain ⟨c, d⟩ := c
    simp only [sameP, Bool.and_eq_true] at h
    rw [Nat.eq_of_beq_eq_true h.1, Nat.eq_of_beq_eq_true h.2]
def sameC : Cap → Cap → Bool
  | .kn a, .kn b => Nat.beq a b
  | .un a, .un b => Nat.beq a b
  | _, _ => false
theorem sameC_ok {x y : Cap} (h : sameC x y = true) : x = y := by
  cases x <;> cases y <;> try (cases h; done)
  · rw [Nat.eq_of_beq_eq_true h]
  · rw [Nat.eq_of_beq_eq_true h]
def sameN : List Nat → List Nat → Bool
  | [], [] => true
  | a :: as, b :: bs => Nat.beq a b && sameN as bs
  | _, _ => false
theorem sameN_ok : ∀ {x y : List Nat}, sameN x y = true → x = y
  | [], [], _ => rfl
  | a :: as, b :: bs, h => by
    simp only [sameN, Bool.and_eq_true] at h
    rw [Nat.eq_of_beq_eq_true h.1, sameN_ok h.2]
  | [], _ :: _, h => by cases h
  | _ :: _, [], h => by cases h
def sameI : Int → Int → Bool
  | .ofNat a, .ofNat b => Nat.beq a b
  | .negSucc a, .negSucc b => Nat.beq a b
  | _, _ => false
theorem sameI_ok {x y : Int} (h : sameI x y = true) : x = y := by
  cases x <;> cases y <;> try (cases h; done)
  · rw [Nat.eq_of_beq_eq_true h]
  · rw [Nat.eq_of_beq_eq_true h]

mutual
def same : V → V → Bool
  | .top, .top => true
  | .b x, .b y => cond x y (!y)
  | .i k n, .i k' n' => decide (k = k') && sameI n n'
  | .y k n, .y k' n' => decide (k = k') && Nat.beq n n'
  | .q n, .q n' => Nat.beq n n'
  | .sr a b c d, .sr a' b' c' d' => Nat.beq a a' && Nat.beq b b' && Nat.beq c c' && Nat.beq d d'
  | .pr a b c d e, .pr a' b' c' d' e' => Nat.beq a a' && Nat.beq b b' && Nat.beq c c' && Nat.beq d d' && Nat.beq e e'
  | .s l, .s l' => sameN l l'
  | .p a, .p b => sameP a b
  | .sl a n c, .sl a' n' c' => sameP a a' && Nat.beq n n' && sameC c c'
  | .es, .es => true
  | .m none, .m none => true
  | .m (some a), .m (some b) => Nat.beq a b
  | .f g a b, .f g' a' b' => Nat.beq g g' && same_s a a' && same_s b b'
  | .yl a, .yl b => Nat.beq a b
  | .o, .o => true
  | .nf, .nf => true
  | .ifc t x, .ifc t' x' => Nat.beq t t' && same x x'
  | .ni, .ni => true
  | .a l, .a l' => same_s l l'
  | .t l, .t l' => same_s l l'
  | _, _ => false
def same_s : List V → List V → Bool
  | [], [] => true
  | x :: xs, y :: ys => same x y && same_s xs ys
  | _, _ => false
end

mutual
theorem same_ok : ∀ (x y : V), same x y = true → x = y
  | .top, y, h => by cases y <;> simp only [same] at h <;> first | rfl | cases h
  | .b x, y, h => by
    cases y <;> simp only [same] at h <;> try (cases h; done)
    rename_i y
    cases x <;> cases y <;> first | rfl | cases h
  | .i k n, y, h => by
    cases y <;> simp only [same, Bool.and_eq_true, decide_eq_true_eq] at h <;> try (cases h; done)
    rw [h.1, sameI_ok h.2]
  | .y k n, y, h => by
    cases y <;> simp only [same, Bool.and_eq_true, decide_eq_true_eq] at h <;> try (cases h; done)
    rw [h.1, Nat.eq_of_beq_eq_true h.2]
  | .q n, y, h => by
    cases y <;> simp only [same] at h <;> try (cases h; done)
    rw [Nat.eq_of_beq_eq_true h]
  | .sr a b c d, y, h => by
    cases y <;> simp only [same, Bool.and_eq_true] at h <;> try (cases h; done)
    rw [Nat.eq_of_beq_eq_true h.1.1.1, Nat.eq_of_beq_eq_true h.1.1.2, Nat.eq_of_beq_eq_true h.1.2, Nat.eq_of_beq_eq_true h.2]
  | .pr a b c d e, y, h => by
    cases y <;> simp only [same, Bool.and_eq_true] at h <;> try (cases h; done)
    rw [Nat.eq_of_beq_eq_true h.1.1.1.1, Nat.eq_of_beq_eq_true h.1.1.1.2, Nat.eq_of_beq_eq_true h.1.1.2, Nat.eq_of_beq_eq_true h.1.2, Nat.eq_of_beq_eq_true h.2]
  | .s l, y, h => by
    cases y <;> simp only [same] at h <;> try (cases h; done)
    rw [sameN_ok h]
  | .p a, y, h => by
    cases y <;> simp only [same] at h <;> try (cases h; done)
    rw [sameP_ok h]
  | .sl a n c, y, h => by
    cases y <;> simp only [same, Bool.and_eq_true] at h <;> try (cases h; done)
    rw [sameP_ok h.1.1, Nat.eq_of_beq_eq_true h.1.2, sameC_ok h.2]
  | .es, y, h => by cases y <;> simp only [same] at h <;> first | rfl | cases h
  | .m a, y, h => by
    cases y <;> try (cases a <;> simp only [same] at h <;> cases h; done)
    rename_i b
    cases a <;> cases b <;> simp only [same] at h <;> first | rfl | (cases h; done) | rw [Nat.eq_of_beq_eq_true h]
  | .f g a b, y, h => by
    cases y <;> simp only [same, Bool.and_eq_true] at h <;> try (cases h; done)
    rw [Nat.eq_of_beq_eq_true h.1.1, same_s_ok _ _ h.1.2, same_s_ok _ _ h.2]
  | .yl a, y, h => by
    cases y <;> simp only [same] at h <;> try (cases h; done)
    rw [Nat.eq_of_beq_eq_true h]
  | .o, y, h => by cases y <;> simp only [same] at h <;> first | rfl | cases h
  | .nf, y, h => by cases y <;> simp only [same] at h <;> first | rfl | cases h
  | .ifc t x, y, h => by
    cases y <;> simp only [same, Bool.and_eq_true] at h <;> try (cases h; done)
    rw [Nat.eq_of_beq_eq_true h.1, same_ok _ _ h.2]
  | .ni, y, h => by cases y <;> simp only [same] at h <;> first | rfl | cases h
  | .a l, y, h => by
    cases y <;> simp only [same] at h <;> try (cases h; done)
    rw [same_s_ok _ _ h]
  | .t l, y, h => by
    cases y <;> simp only [same] at h <;> try (cases h; done)
    rw [same_s_ok _ _ h]
theorem same_s_ok : ∀ (x y : List V), same_s x y = true → x = y
  | [], y, h => by cases y <;> simp only [same_s] at h <;> first | rfl | cases h
  | x :: xs, y, h => by
    cases y <;> simp only [same_s, Bool.and_eq_true] at h <;> try (cases h; done)
    rw [same_ok _ _ h.1, same_s_ok _ _ h.2]
end

/-! ### The order's tests, of a region's text alone -/
def tb (m j : Nat) : Bool := Nat.beq (Nat.mod (Nat.shiftRight m j) 2) 1
theorem tb_iff (m j : Nat) : tb m j = m.testBit j := by
  have h2 : (m >>> j) % 2 = m / 2 ^ j % 2 := by rw [Nat.shiftRight_eq_div_pow]
  rw [Nat.testBit_eq_decide_div_mod_eq, ← h2]
  show Nat.beq ((m >>> j) % 2) 1 = _
  cases hb : Nat.beq ((m >>> j) % 2) 1 with
  | true => simp [Nat.eq_of_beq_eq_true hb]
  | false =>
    have : (m >>> j) % 2 ≠ 1 := fun e => by rw [e] at hb; cases hb
    simp [this]

def maskOf (mk : T Nat) : List Nat → Nat
  | [] => 0
  | d :: ds => Nat.lor (Nat.lor (Nat.pow 2 d) (T.get 0 mk d)) (maskOf mk ds)
def levOf (lv : T Nat) : List Nat → Nat
  | [] => 0
  | d :: ds => cond (Nat.blt (levOf lv ds) (T.get 0 lv d)) (T.get 0 lv d) (levOf lv ds)

theorem maskOf_bit (mk : T Nat) : ∀ (ds : List Nat) (a : Nat), (maskOf mk ds).testBit a = true → ∃ d ∈ ds, a = d ∨ (T.get 0 mk d).testBit a = true
  | [], a, h => by simp [maskOf] at h
  | d :: ds, a, h => by
    have e : maskOf mk (d :: ds) = (2 ^ d ||| T.get 0 mk d) ||| maskOf mk ds := rfl
    rw [e, Nat.testBit_or, Nat.testBit_or, Nat.testBit_two_pow] at h
    simp only [Bool.or_eq_true, decide_eq_true_eq] at h
    rcases h with (h | h) | h
    · exact ⟨d, by simp, .inl h.symm⟩
    · exact ⟨d, by simp, .inr h⟩
    · obtain ⟨d', h1, h2⟩ := maskOf_bit mk ds a h
      exact ⟨d', by simp [h1], h2⟩
theorem levOf_at (lv : T Nat) : ∀ (ds : List Nat) (n : Nat), n < levOf lv ds → ∃ d ∈ ds, n < T.get 0 lv d
  | [], n, h => by simp [levOf] at h
  | d :: ds, n, h => by
    simp only [levOf] at h
    cases hb : Nat.blt (levOf lv ds) (T.get 0 lv d) with
    | true => rw [hb] at h; exact ⟨d, by simp, h⟩
    | false =>
      rw [hb] at h
      obtain ⟨d', h1, h2⟩ := levOf_at lv ds n h
      exact ⟨d', by simp [h1], h2⟩

structure SS where
  ms : T Nat
  lv : T Nat
  lw : T Nat
  rd : T Nat

def okW (lw : T Nat) (m t : Nat) : Bool :=
  match T.get 0 lw t with
  | 0 => true
  | c + 1 => tb m c
def okD (s : SS) (m : Nat) : Option Nat → Bool
  | none => true
  | some t => okW s.lw m t && Nat.beq (Nat.land (T.get 0 s.rd t) m) (T.get 0 s.rd t)
def addR (i : Nat) : List Nat → T Nat → T Nat
  | [], rd => rd
  | t :: ts, rd => addR i ts (T.set 0 rd t (Nat.lor (T.get 0 rd t) (Nat.pow 2 i)))
def setW (lw : T Nat) (i : Nat) : Option Nat → T Nat
  | none => lw
  | some t => T.set 0 lw t (i + 1)
def allLt (i : Nat) : List Nat → Bool
  | [] => true
  | d :: ds => Nat.blt d i && allLt i ds
def allW (lw : T Nat) (m : Nat) : List Nat → Bool
  | [] => true
  | t :: ts => okW lw m t && allW lw m ts

def fwd (ops : Array Oper) : List Oper → Nat → Nat → SS → Option SS
  | [], _, _, s => some s
  | o :: os, i, p, s =>
    cond (allLt i (deps o) && allW s.lw (maskOf s.ms (deps o)) (reads ops o) && okD s (maskOf s.ms (deps o)) o.dst && (cond (isEf o) (Nat.beq (levOf s.lv (deps o)) p) true))
      (fwd ops os (i + 1) (cond (isEf o) (p + 1) p)
        { ms := T.set 0 s.ms i (maskOf s.ms (deps o)), lv := T.set 0 s.lv i (cond (isEf o) (p + 1) (levOf s.lv (deps o))), lw := setW s.lw i o.dst, rd := addR i (reads ops o) s.rd }) none

/-- How many effects there are. -/
def cnt : List Oper → Nat
  | [] => 0
  | o :: os => cond (isEf o) (cnt os + 1) (cnt os)
theorem cnt_append : ∀ (a b : List Oper), cnt (a ++ b) = cnt a + cnt b
  | [], b => by simp [cnt]
  | o :: a, b => by
    simp only [List.cons_append, cnt, cnt_append a b]
    cases isEf o <;> simp [cond]; omega

def idxOf (ops : Array Oper) (i : Nat) : Nat := cnt (ops.toList.take i)
theorem idxOf_succ {ops : Array Oper} {i : Nat} {o : Oper} (ho : ops[i]? = some o) : idxOf ops (i + 1) = cond (isEf o) (idxOf ops i + 1) (idxOf ops i) := by
  have h : ops.toList[i]? = some o := by simpa using ho
  unfold idxOf
  rw [List.take_add_one, h, cnt_append]
  simp only [Option.toList_some, cnt]
  cases isEf o <;> simp [cond]
theorem idxOf_mono {ops : Array Oper} {i j : Nat} (h : i ≤ j) : idxOf ops i ≤ idxOf ops j := by
  unfold idxOf
  obtain ⟨d, rfl⟩ := Nat.exists_eq_add_of_le h
  rw [List.take_add, cnt_append]
  omega
theorem idxOf_lt {ops : Array Oper} {i j : Nat} {o : Oper} (ho : ops[i]? = some o) (he : isEf o = true) (h : i < j) : idxOf ops i < idxOf ops j := by
  have := idxOf_succ ho
  rw [he] at this
  have h2 := idxOf_mono (ops := ops) (i := i + 1) (j := j) h
  simp only [cond] at this
  omega

structure SInv (ops : Array Oper) (i : Nat) (s : SS) : Prop where
  ms : ∀ j a, (T.get 0 s.ms j).testBit a = true → Anc ops a j
  lv : ∀ j e oe, ops[e]? = some oe → isEf oe = true → idxOf ops e < T.get 0 s.lv j → Anc ops e j
  lve : ∀ j oj, j < i → ops[j]? = some oj → isEf oj = true → T.get 0 s.lv j = idxOf ops j + 1
  lvk : ∀ j, T.get 0 s.lv j ≤ idxOf ops i
  lw0 : ∀ t, T.get 0 s.lw t = 0 → ∀ j oj, j < i → ops[j]? = some oj → oj.dst ≠ some t
  lw1 : ∀ t c, T.get 0 s.lw t = c + 1 → ∀ j oj, j < i → ops[j]? = some oj → oj.dst = some t → Anc ops j c
  rd : ∀ t j oj, j < i → ops[j]? = some oj → t ∈ reads ops oj → (T.get 0 s.rd t).testBit j = true
  top : ∀ j oj, j < i → ops[j]? = some oj → ∀ d ∈ deps oj, d < j
  tmpW : ∀ j l oj ol t, j < l → l < i → ops[j]? = some oj → ops[l]? = some ol → oj.dst = some t → (ol.dst = some t ∨ t ∈ reads ops ol) → Anc ops j l
  tmpR : ∀ j l oj ol t, j < l → l < i → ops[j]? = some oj → ops[l]? = some ol → t ∈ reads ops oj → ol.dst = some t → Anc ops j l

theorem allLt_ok {i : Nat} : ∀ {l : List Nat}, allLt i l = true → ∀ d ∈ l, d < i
  | [], _, d, hd => by cases hd
  | a :: l, h, d, hd => by
    simp only [allLt, Bool.and_eq_true] at h
    rcases List.mem_cons.1 hd with rfl | hd
    · exact blt_iff.1 h.1
    · exact allLt_ok h.2 d hd
theorem allW_ok {lw : T Nat} {m : Nat} : ∀ {l : List Nat}, allW lw m l = true → ∀ t ∈ l, okW lw m t = true
  | [], _, d, hd => by cases hd
  | a :: l, h, d, hd => by
    simp only [allW, Bool.and_eq_true] at h
    rcases List.mem_cons.1 hd with rfl | hd
    · exact h.1
    · exact allW_ok h.2 d hd
theorem addR_bit (i : Nat) : ∀ (l : List Nat) (rd : T Nat) (t j : Nat), ((T.get 0 rd t).testBit j = true ∨ (j = i ∧ t ∈ l)) → (T.get 0 (addR i l rd) t).testBit j = true
  | [], rd, t, j, h => by
    rcases h with h | ⟨_, h⟩
    · exact h
    · cases h
  | a :: l, rd, t, j, h => by
    refine addR_bit i l _ t j ?_
    rw [T.get_set]
    by_cases ht : t = a
    · subst ht
      rw [if_pos rfl]
      refine .inl ?_
      have e : Nat.lor (T.get 0 rd t) (Nat.pow 2 i) = T.get 0 rd t ||| 2 ^ i := rfl
      rw [e, Nat.testBit_or, Nat.testBit_two_pow]
      rcases h with h | ⟨rfl, _⟩
      · simp [h]
      · simp
    · rw [if_neg ht]
      rcases h with h | ⟨h, hm⟩
      · exact .inl h
      · rcases List.mem_cons.1 hm with hm | hm
        · exact absurd hm ht
        · exact .inr ⟨h, hm⟩

theorem fwd_ok {ops : Array Oper} : ∀ (os : List Oper) (i : Nat) (s s' : SS), os = ops.toList.drop i → fwd ops os i (idxOf ops i) s = some s' → SInv ops i s → SInv ops (i + os.length) s'
  | [], i, s, s', _, h, I => by
    simp only [fwd, Option.some.injEq] at h
    subst h; exact I
  | o :: os, i, s, s', hos, h, I => by
    have ho : ops[i]? = some o := by
      have : (ops.toList.drop i)[0]? = some o := by rw [← hos]; rfl
      simpa using this
    have hos' : os = ops.toList.drop (i + 1) := by
      have : (ops.toList.drop i).drop 1 = os := by rw [← hos]; rfl
      rw [← this, List.drop_drop]
    simp only [fwd] at h
    cases hc : allLt i (deps o) && allW s.lw (maskOf s.ms (deps o)) (reads ops o) && okD s (maskOf s.ms (deps o)) o.dst && (cond (isEf o) (Nat.beq (levOf s.lv (deps o)) (idxOf ops i)) true) with
    | false => rw [hc] at h; cases h
    | true =>
      rw [hc] at h
      simp only [cond_true] at h
      simp only [Bool.and_eq_true] at hc
      obtain ⟨⟨⟨c1, c2⟩, c3⟩, c4⟩ := hc
      rw [← idxOf_succ ho] at h
      have elen : i + (o :: os).length = i + 1 + os.length := by simp; omega
      rw [elen]
      refine fwd_ok os (i + 1) _ s' hos' h ?_
      have hdep : ∀ d ∈ deps o, Anc ops d i := fun d hd => Anc.dep ho hd
      have hmask : ∀ a, (maskOf s.ms (deps o)).testBit a = true → Anc ops a i := fun a ha => by
        obtain ⟨d, hd, h⟩ := maskOf_bit _ _ _ ha
        rcases h with rfl | h
        · exact hdep _ hd
        · exact (I.ms d a h).trans (hdep d hd)
      have hlev : ∀ e oe, ops[e]? = some oe → isEf oe = true → idxOf ops e < levOf s.lv (deps o) → Anc ops e i := fun e oe hoe hee hlt => by
        obtain ⟨d, hd, hlt⟩ := levOf_at _ _ _ hlt
        exact (I.lv d e oe hoe hee hlt).trans (hdep d hd)
      have hlevk : levOf s.lv (deps o) ≤ idxOf ops i := by
        rcases Nat.lt_or_ge (idxOf ops i) (levOf s.lv (deps o)) with h | h
        · obtain ⟨d, _, hlt⟩ := levOf_at _ _ _ h
          have := I.lvk d
          omega
        · exact h
      have hW : ∀ t, okW s.lw (maskOf s.ms (deps o)) t = true → ∀ j oj, j < i → ops[j]? = some oj → oj.dst = some t → Anc ops j i := fun t ht j oj hj hoj hd => by
        unfold okW at ht
        split at ht
        · rename_i h0
          exact absurd hd (I.lw0 t h0 j oj hj hoj)
        · rename_i c h1
          rw [tb_iff] at ht
          exact (I.lw1 t c h1 j oj hj hoj hd).trans (hmask c ht)
      have hsi := idxOf_succ ho
      have hlast : ∀ j, j < i + 1 → j = i ∨ j < i := fun j h => by omega
      refine ⟨fun j a h => ?_, fun j e oe hoe hee hlt => ?_, fun j oj hj hoj hej => ?_, fun j => ?_, fun t ht j oj hj hoj => ?_, fun t c ht j oj hj hoj hdj => ?_, fun t j oj hj hoj ht => ?_, fun j oj hj hoj d hd => ?_, fun j l oj ol t hjl hl hoj hol hdj hdl => ?_, fun j l oj ol t hjl hl hoj hol hdj hdl => ?_⟩
      · simp only [T.get_set] at h
        by_cases hj : j = i
        · subst hj; rw [if_pos rfl] at h; exact hmask a h
        · rw [if_neg hj] at h; exact I.ms j a h
      · simp only [T.get_set] at hlt
        by_cases hj : j = i
        · subst hj
          rw [if_pos rfl] at hlt
          cases hoe' : isEf o with
          | false => rw [hoe'] at hlt; exact hlev e oe hoe hee hlt
          | true =>
            rw [hoe'] at hlt c4
            simp only [cond] at hlt c4
            have c4 := Nat.eq_of_beq_eq_true c4
            rcases Nat.lt_or_ge (idxOf ops e) (idxOf ops j) with h | h
            · exact hlev e oe hoe hee (by omega)
            · have heq : e = j := by
                rcases Nat.lt_trichotomy e j with h' | h' | h'
                · have := idxOf_lt hoe hee h'; omega
                · exact h'
                · have := idxOf_lt ho hoe' h'; omega
              subst heq
              exact Anc.refl _
        · rw [if_neg hj] at hlt; exact I.lv j e oe hoe hee hlt
      · simp only [T.get_set]
        rcases hlast j hj with rfl | hj'
        · rw [if_pos rfl]
          rw [ho] at hoj; cases hoj
          rw [hej]; rfl
        · rw [if_neg (by omega)]; exact I.lve j oj hj' hoj hej
      · simp only [T.get_set]
        rw [hsi]
        by_cases hj : j = i
        · rw [if_pos hj]
          cases isEf o with
          | true => exact Nat.le_refl _
          | false => exact hlevk
        · rw [if_neg hj]
          have := I.lvk j
          cases isEf o <;> simp only [cond] <;> omega
      · cases hd : o.dst with
        | none =>
          rw [hd] at ht
          simp only [setW] at ht
          rcases hlast j hj with rfl | hj'
          · rw [ho] at hoj; cases hoj; rw [hd]; simp
          · exact I.lw0 t ht j oj hj' hoj
        | some u =>
          rw [hd] at ht
          simp only [setW, T.get_set] at ht
          by_cases htu : t = u
          · rw [if_pos htu] at ht; omega
          · rw [if_neg htu] at ht
            rcases hlast j hj with rfl | hj'
            · rw [ho] at hoj; cases hoj; rw [hd]; exact fun e => htu (Option.some.inj e).symm
            · exact I.lw0 t ht j oj hj' hoj
      · cases hd : o.dst with
        | none =>
          rw [hd] at ht
          simp only [setW] at ht
          rcases hlast j hj with rfl | hj'
          · rw [ho] at hoj; cases hoj; rw [hd] at hdj; cases hdj
          · exact I.lw1 t c ht j oj hj' hoj hdj
        | some u =>
          rw [hd] at ht c3
          simp only [setW, T.get_set] at ht
          by_cases htu : t = u
          · rw [if_pos htu] at ht
            have : c = i := by omega
            subst this
            rcases hlast j hj with rfl | hj'
            · exact Anc.refl _
            · simp only [okD, Bool.and_eq_true] at c3
              subst htu
              exact hW t c3.1 j oj hj' hoj hdj
          · rw [if_neg htu] at ht
            rcases hlast j hj with rfl | hj'
            · rw [ho] at hoj; cases hoj; rw [hd] at hdj; exact absurd (Option.some.inj hdj).symm htu
            · exact I.lw1 t c ht j oj hj' hoj hdj
      · refine addR_bit i _ _ t j ?_
        rcases hlast j hj with rfl | hj'
        · rw [ho] at hoj; cases hoj; exact .inr ⟨rfl, ht⟩
        · exact .inl (I.rd t j oj hj' hoj ht)
      · rcases hlast j hj with rfl | hj'
        · rw [ho] at hoj; cases hoj; exact allLt_ok c1 d hd
        · exact I.top j oj hj' hoj d hd
      · rcases hlast l hl with rfl | hl'
        · rw [ho] at hol; cases hol
          rcases hdl with hdl | hdl
          · rw [hdl] at c3
            simp only [okD, Bool.and_eq_true] at c3
            exact hW t c3.1 j oj hjl hoj hdj
          · exact hW t (allW_ok c2 t hdl) j oj hjl hoj hdj
        · exact I.tmpW j l oj ol t hjl hl' hoj hol hdj hdl
      · rcases hlast l hl with rfl | hl'
        · rw [ho] at hol; cases hol
          rw [hdl] at c3
          simp only [okD, Bool.and_eq_true] at c3
          have hb := I.rd t j oj hjl hoj hdj
          have e := Nat.eq_of_beq_eq_true c3.2
          have e' : T.get 0 s.rd t &&& maskOf s.ms (deps o) = T.get 0 s.rd t := e
          rw [← e', Nat.testBit_and] at hb
          simp only [Bool.and_eq_true] at hb
          exact hmask j hb.2
        · exact I.tmpR j l oj ol t hjl hl' hoj hol hdj hdl

theorem SInv.init (ops : Array Oper) : SInv ops 0 ⟨.leaf, .leaf, .leaf, .leaf⟩ := by
  refine ⟨fun j a h => ?_, fun j e oe _ _ h => ?_, fun j oj hj => by omega, fun j => by simp [T.get_leaf], fun t _ j oj hj => by omega, fun t c h => ?_, fun t j oj hj => by omega, fun j oj hj => by omega, fun j l oj ol t _ hl => by omega, fun j l oj ol t _ hl => by omega⟩
  · rw [T.get_leaf] at h; simp at h
  · rw [T.get_leaf] at h; omega
  · rw [T.get_leaf] at h; omega

end Go.Ev

/- The abstract machine, part U: a region that draws its order: the run in the text's order makes a plan. -/
namespace Go.Ev

/-! ### How late an operation may come -/
def lower (k v : Nat) : List Nat → T Nat → T Nat
  | [], t => t
  | d :: ds, t => lower k v ds (cond (Nat.blt v (T.get k t d)) (T.set k t d v) t)
def bwd (k : Nat) : List Oper → Nat → Nat → T Nat → T Nat
  | [], _, _, t => t
  | o :: os, i, p, t =>
    match bwd k os (i + 1) (cond (isEf o) (p + 1) p) t with
    | t' => lower k (cond (isEf o) p (T.get k t' i)) (deps o) t'

def HInv (ops : Array Oper) (k : Nat) (t : T Nat) : Prop := ∀ j e oe, ops[e]? = some oe → isEf oe = true → T.get k t j ≤ idxOf ops e → Anc ops j e

theorem lower_ok {ops : Array Oper} {k v : Nat} : ∀ (ds : List Nat) (t : T Nat), (∀ d ∈ ds, ∀ e oe, ops[e]? = some oe → isEf oe = true → v ≤ idxOf ops e → Anc ops d e) → HInv ops k t → HInv ops k (lower k v ds t)
  | [], t, _, h => h
  | d :: ds, t, hd, h => by
    refine lower_ok ds _ (fun d' h' => hd d' (by simp [h'])) ?_
    cases Nat.blt v (T.get k t d) with
    | false => exact h
    | true =>
      intro j e oe hoe hee hle
      simp only [cond, T.get_set] at hle
      by_cases hj : j = d
      · subst hj
        rw [if_pos rfl] at hle
        exact hd j (by simp) e oe hoe hee hle
      · rw [if_neg hj] at hle; exact h j e oe hoe hee hle

theorem bwd_ok {ops : Array Oper} {k : Nat} (hch : ∀ i j oi oj, ops[i]? = some oi → ops[j]? = some oj → isEf oi = true → isEf oj = true → idxOf ops i ≤ idxOf ops j → Anc ops i j) :
    ∀ (os : List Oper) (i : Nat) (t : T Nat), os = ops.toList.drop i → HInv ops k t → HInv ops k (bwd k os i (idxOf ops i) t)
  | [], i, t, _, h => h
  | o :: os, i, t, hos, h => by
    have ho : ops[i]? = some o := by
      have : (ops.toList.drop i)[0]? = some o := by rw [← hos]; rfl
      simpa using this
    have hos' : os = ops.toList.drop (i + 1) := by
      have : (ops.toList.drop i).drop 1 = os := by rw [← hos]; rfl
      rw [← this, List.drop_drop]
    have ih := bwd_ok (k := k) hch os (i + 1) t hos' h
    rw [idxOf_succ ho] at ih
    refine lower_ok _ _ (fun d hd e oe hoe hee hle => ?_) ih
    cases hi : isEf o with
    | true =>
      rw [hi] at hle
      exact (Anc.dep ho hd).trans (hch i e o oe ho hoe hi hee hle)
    | false =>
      rw [hi] at hle ih
      exact (Anc.dep ho hd).trans (ih i e oe hoe hee hle)

/-! ### The run -/
structure Row where
  rf : Fr
  g : Bool
  x : V
instance : Inhabited Row := ⟨⟨⟨0, .leaf⟩, false, .top⟩⟩

def restr (fr : Fr) : List Nat → Fr → Fr
  | [], r => r
  | t :: ts, r => restr fr ts (r.set t (fr.get t))
theorem restr_ok (fr : Fr) : ∀ (l : List Nat) (r : Fr) (t : Nat), (restr fr l r).n = r.n ∧ ((restr fr l r).get t = r.get t ∨ (t ∈ l ∧ (restr fr l r).get t = fr.get t))
  | [], r, t => ⟨rfl, .inl rfl⟩
  | a :: l, r, t => by
    obtain ⟨h1, h2⟩ := restr_ok fr l (r.set a (fr.get a)) t
    refine ⟨h1, ?_⟩
    simp only [restr]
    rcases h2 with h2 | ⟨h2, h3⟩
    · rw [h2, Fr.get_set]
      by_cases ht : t = a
      · rw [if_pos ht, ht]; exact .inr ⟨by simp, rfl⟩
      · rw [if_neg ht]; exact .inl rfl
    · exact .inr ⟨by simp [h2], h3⟩

def putF (fr : Fr) : Option Nat → V → Option Fr
  | none, _ => some fr
  | some d, x => cond (Nat.blt d fr.n) (some (fr.set d x)) none
def putG (fr : Fr) : Option Nat → V → Fr
  | none, _ => fr
  | some d, x => fr.set d x
theorem putF_ok {fr fr' : Fr} {d : Option Nat} {x : V} (h : putF fr d x = some fr') : fr' = putG fr d x ∧ ∀ t, d = some t → t < fr.n := by
  cases d with
  | none => simp only [putF, Option.some.injEq] at h; exact ⟨h.symm, fun t e => by cases e⟩
  | some t =>
    simp only [putF] at h
    cases hb : Nat.blt t fr.n with
    | false => rw [hb] at h; cases h
    | true =>
      rw [hb] at h
      simp only [cond, Option.some.injEq] at h
      exact ⟨h.symm, fun u e => by cases e; exact blt_iff.1 hb⟩

variable (E : Env) (call yld : CallT) (ops : Array Oper)

def dstep (o : Oper) (rf : Fr) (h : H) : Option (Bool × V × H) :=
  match aguard ops rf o with
  | some true =>
    match astep E call yld rf o.op h with
    | some (x, h') => some (true, x, h')
    | none => none
  | some false => some (false, .t [], h)
  | none => none

def drun : List Oper → Fr → H → Option (List Row × List H × Fr × H)
  | [], fr, h => some ([], [h], fr, h)
  | o :: os, fr, h =>
    match restr fr (reads ops o) ⟨fr.n, .leaf⟩ with
    | rf =>
      match dstep E call yld ops o rf h with
      | some (g, x, h') =>
        match putF fr o.dst x with
        | some fr' =>
          match drun os fr' h' with
          | some (rows, hs, fr2, h2) => some (⟨rf, g, x⟩ :: rows, cond (isEf o) (h :: hs) hs, fr2, h2)
          | none => none
        | none => none
      | none => none

def frAt : List Oper → List Row → Fr → Nat → Fr
  | _, _, fr, 0 => fr
  | o :: os, r :: rs, fr, i + 1 => frAt os rs (putG fr o.dst r.x) i
  | _, _, fr, _ + 1 => fr

variable {E call yld ops}

theorem dstep_quiet {o : Oper} {rf : Fr} {h h' : H} {g : Bool} {x : V} (hs : dstep E call yld ops o rf h = some (g, x, h')) (hq : isEf o = false) : h' = h := by
  unfold dstep at hs
  split at hs
  · split at hs
    · rename_i x1 h1 he
      simp only [Option.some.injEq, Prod.mk.injEq] at hs
      obtain ⟨_, rfl, rfl⟩ := hs
      cases hk : kd o.op with
      | ef => simp [isEf, hk] at hq
      | rd => exact rd_ok hk he
      | pure =>
        obtain ⟨r, hr⟩ := pure_ok (E := E) (call := call) (yld := yld) (fr := rf) hk
        rw [hr] at he
        cases r with
        | none => cases he
        | some v => simp only [Option.map_some, Option.some.injEq, Prod.mk.injEq] at he; exact he.2.symm
    · cases hs
  · simp only [Option.some.injEq, Prod.mk.injEq] at hs; exact hs.2.2.symm
  · cases hs

structure RowOK (E : Env) (call yld : CallT) (ops : Array Oper) (fr : Fr) (hs : List H) (n i : Nat) (o : Oper) (r : Row) (fi fi' : Fr) : Prop where
  rfn : r.rf.n = n
  rfv : ∀ t, r.rf.get t = .top ∨ (t ∈ reads ops o ∧ r.rf.get t = fi.get t)
  gd : aguard ops r.rf o = some r.g
  nx : fi' = putG fi o.dst r.x
  dst : ∀ d, o.dst = some d → d < n
  at_ : ∃ h, hs[i]? = some h ∧ (r.g = false → r.x = .t [] ∧ (isEf o = true → hs[i + 1]? = some h)) ∧
    (r.g = true → isEf o = true → ∃ h', hs[i + 1]? = some h' ∧ astep E call yld r.rf o.op h = some (r.x, h')) ∧
    (r.g = true → isEf o = false → astep E call yld r.rf o.op h = some (r.x, h))

theorem drun_ok : ∀ (os : List Oper) (fr : Fr) (h : H) (rows : List Row) (hs : List H) (fr' : Fr) (h' : H), drun E call yld ops os fr h = some (rows, hs, fr', h') →
    hs[0]? = some h ∧ hs[cnt os]? = some h' ∧ hs.length = cnt os + 1 ∧ frAt os rows fr os.length = fr' ∧
    ∀ i o, os[i]? = some o → ∃ r, rows[i]? = some r ∧ RowOK E call yld ops fr hs fr.n (cnt (os.take i)) o r (frAt os rows fr i) (frAt os rows fr (i + 1))
  | [], fr, h, rows, hs, fr', h', e => by
    simp only [drun, Option.some.injEq, Prod.mk.injEq] at e
    obtain ⟨rfl, rfl, rfl, rfl⟩ := e
    exact ⟨rfl, rfl, rfl, rfl, fun i o ho => by simp at ho⟩
  | o :: os, fr, h, rows, hs, fr', h', e => by
    simp only [drun] at e
    split at e
    · rename_i g x h1 hst
      split at e
      · rename_i fr1 hput
        split at e
        · rename_i rows1 hs1 fr2 h2 hrun
          simp only [Option.some.injEq, Prod.mk.injEq] at e
          obtain ⟨rfl, rfl, rfl, rfl⟩ := e
          obtain ⟨i1, i2, i3, i4, i5⟩ := drun_ok os fr1 h1 rows1 hs1 fr2 h2 hrun
          obtain ⟨p1, p2⟩ := putF_ok hput
          have hfn : fr1.n = fr.n := by rw [p1]; cases o.dst <;> rfl
          have hq : isEf o = false → h1 = h := dstep_quiet hst
          refine ⟨?_, ?_, ?_, ?_, fun i oi hoi => ?_⟩
          · cases he : isEf o with
            | true => rfl
            | false => simp only [cond]; rw [i1, hq he]
          · cases he : isEf o with
            | true => simp only [cnt, he, cond]; simpa using i2
            | false => simp only [cnt, he, cond]; exact i2
          · cases he : isEf o with
            | true => simp only [cnt, he, cond]; simp [i3]
            | false => simp only [cnt, he, cond]; exact i3
          · simp only [List.length_cons, frAt]
            rw [← p1]; exact i4
          · cases i with
            | zero =>
              simp only [List.getElem?_cons_zero, Option.some.injEq] at hoi
              subst hoi
              refine ⟨_, rfl, ?_⟩
              have hz : frAt os rows1 (putG fr o.dst x) 0 = putG fr o.dst x := by cases os <;> cases rows1 <;> rfl
              refine ⟨(restr_ok fr _ _ 0).1, fun t => ?_, ?_, hz, p2, ?_⟩
              · rcases (restr_ok fr (reads ops o) ⟨fr.n, .leaf⟩ t).2 with h | h
                · exact .inl (by rw [h]; rfl)
                · exact .inr h
              · unfold dstep at hst
                split at hst
                · rename_i hg
                  split at hst
                  · simp only [Option.some.injEq, Prod.mk.injEq] at hst
                    obtain ⟨rfl, _⟩ := hst
                    exact hg
                  · cases hst
                · rename_i hg
                  simp only [Option.some.injEq, Prod.mk.injEq] at hst
                  obtain ⟨rfl, _⟩ := hst
                  exact hg
                · cases hst
              · simp only [List.take_zero, cnt]
                have h0 : (cond (isEf o) (h :: hs1) hs1)[0]? = some h := by
                  cases he : isEf o with
                  | true => rfl
                  | false => simp only [cond]; rw [i1, hq he]
                refine ⟨h, h0, fun hg => ?_, fun hg he => ?_, fun hg he => ?_⟩
                · have hg : g = _ := hg
                  subst hg
                  unfold dstep at hst
                  split at hst
                  · split at hst
                    · simp at hst
                    · cases hst
                  · simp only [Option.some.injEq, Prod.mk.injEq] at hst
                    obtain ⟨_, rfl, rfl⟩ := hst
                    refine ⟨rfl, fun he => ?_⟩
                    rw [he]
                    simpa [cond] using i1
                  · cases hst
                · have hg : g = _ := hg
                  subst hg
                  unfold dstep at hst
                  split at hst
                  · split at hst
                    · rename_i hs2
                      simp only [Option.some.injEq, Prod.mk.injEq] at hst
                      obtain ⟨_, rfl, rfl⟩ := hst
                      refine ⟨_, ?_, hs2⟩
                      rw [he]
                      simpa [cond] using i1
                    · cases hst
                  · simp at hst
                  · cases hst
                · have hg : g = _ := hg
                  subst hg
                  have e1 := hq he
                  unfold dstep at hst
                  split at hst
                  · split at hst
                    · rename_i hs2
                      simp only [Option.some.injEq, Prod.mk.injEq] at hst
                      obtain ⟨_, rfl, rfl⟩ := hst
                      rw [e1] at hs2; exact hs2
                    · cases hst
                  · simp at hst
                  · cases hst
            | succ i =>
              simp only [List.getElem?_cons_succ] at hoi
              obtain ⟨r, hr, ok⟩ := i5 i oi hoi
              refine ⟨r, by simpa using hr, ?_⟩
              obtain ⟨a1, a2, a3, a4, a5, a6⟩ := ok
              rw [hfn] at a1 a5
              have f1 : frAt (o :: os) (⟨restr fr (reads ops o) ⟨fr.n, .leaf⟩, g, x⟩ :: rows1) fr (i + 1) = frAt os rows1 fr1 i := by rw [p1]; rfl
              have f2 : frAt (o :: os) (⟨restr fr (reads ops o) ⟨fr.n, .leaf⟩, g, x⟩ :: rows1) fr (i + 1 + 1) = frAt os rows1 fr1 (i + 1) := by rw [p1]; rfl
              refine ⟨a1, fun t => by rw [f1]; exact a2 t, a3, by rw [f1, f2]; exact a4, a5, ?_⟩
              simp only [List.take_succ_cons, cnt]
              cases he : isEf o with
              | true => simpa [cond] using a6
              | false => simpa [cond] using a6
        · cases e
      · cases e
    · cases e

/-! ### The second look -/
def chk (E : Env) (call yld : CallT) (rf : Fr) (o : Op) (x : V) : List H → Bool
  | [] => true
  | h :: hs =>
    match astep E call yld rf o h with
    | some (x', _) => same x' x && chk E call yld rf o x hs
    | none => false
theorem chk_ok {E : Env} {call yld : CallT} {rf : Fr} {o : Op} {x : V} (hk : kd o = .rd) : ∀ {l : List H}, chk E call yld rf o x l = true → ∀ h ∈ l, astep E call yld rf o h = some (x, h)
  | [], _, h, hm => by cases hm
  | a :: l, hc, h, hm => by
    simp only [chk] at hc
    split at hc
    · rename_i x' h' hs
      simp only [Bool.and_eq_true] at hc
      rcases List.mem_cons.1 hm with rfl | hm
      · rw [hs, same_ok _ _ hc.1, rd_ok hk hs]
      · exact chk_ok hk hc.2 h hm
    · cases hc

def second (E : Env) (call yld : CallT) (lv hv : T Nat) (k : Nat) (hs : List H) : List Oper → List Row → Nat → Nat → Bool
  | o :: os, r :: rs, i, p =>
    (match kd o.op with
     | .rd => cond r.g (cond (Nat.beq (T.get 0 lv i) p && Nat.beq (T.get k hv i) p) true (chk E call yld r.rf o.op r.x ((hs.drop (T.get 0 lv i)).take (T.get k hv i + 1 - T.get 0 lv i)))) true
     | _ => true) && second E call yld lv hv k hs os rs (i + 1) (cond (isEf o) (p + 1) p)
  | _, _, _, _ => true

theorem second_ok {E : Env} {call yld : CallT} {lv hv : T Nat} {k : Nat} {hs : List H} : ∀ (os : List Oper) (rs : List Row) (i p : Nat), second E call yld lv hv k hs os rs i p = true →
    ∀ j o r, os[j]? = some o → rs[j]? = some r → kd o.op = .rd → r.g = true →
      (T.get 0 lv (i + j) = p + cnt (os.take j) ∧ T.get k hv (i + j) = p + cnt (os.take j)) ∨ chk E call yld r.rf o.op r.x ((hs.drop (T.get 0 lv (i + j))).take (T.get k hv (i + j) + 1 - T.get 0 lv (i + j))) = true
  | [], rs, i, p, _, j, o, r, ho, _, _, _ => by simp at ho
  | o :: os, [], i, p, _, j, o', r, _, hr, _, _ => by simp at hr
  | o :: os, r :: rs, i, p, h, j, o', r', ho, hr, hk, hg => by
    simp only [second, Bool.and_eq_true] at h
    cases j with
    | zero =>
      simp only [List.getElem?_cons_zero, Option.some.injEq] at ho hr
      subst ho; subst hr
      have h1 := h.1
      rw [hk] at h1
      simp only [hg, cond_true] at h1
      cases hb : Nat.beq (T.get 0 lv i) p && Nat.beq (T.get k hv i) p with
      | true =>
        simp only [Bool.and_eq_true] at hb
        refine .inl ?_
        simp only [Nat.add_zero, List.take_zero, cnt]
        exact ⟨Nat.eq_of_beq_eq_true hb.1, Nat.eq_of_beq_eq_true hb.2⟩
      | false =>
        rw [hb] at h1
        exact .inr h1
    | succ j =>
      simp only [List.getElem?_cons_succ] at ho hr
      have ih := second_ok os rs (i + 1) _ h.2 j o' r' ho hr hk hg
      have e1 : i + 1 + j = i + (j + 1) := by omega
      have e2 : (cond (isEf o) (p + 1) p) + cnt (os.take j) = p + cnt ((o :: os).take (j + 1)) := by
        simp only [List.take_succ_cons, cnt]
        cases isEf o <;> simp only [cond] <;> omega
      rw [e1, e2] at ih
      exact ih

/-- What a region's text alone tells of its orders. -/
def stat (ops : Array Oper) : Option (T Nat × T Nat × Nat) :=
  match fwd ops ops.toList 0 0 ⟨.leaf, .leaf, .leaf, .leaf⟩ with
  | some s => some (s.lv, bwd (cnt ops.toList) ops.toList 0 0 .leaf, cnt ops.toList)
  | none => none

def dops (E : Env) (call yld : CallT) (ops : Array Oper) (fr : Fr) (h : H) : Option (Fr × H) :=
  match stat ops with
  | some (lv, hv, k) =>
    match drun E call yld ops ops.toList fr h with
    | some (rows, hs, fr', h') => cond (second E call yld lv hv k hs ops.toList rows 0 0) (some (fr', h')) none
    | none => none
  | none => none

theorem plan_of {E : Env} {call yld : CallT} {ops : Array Oper} {fr fr' : Fr} {h h' : H} (e : dops E call yld ops fr h = some (fr', h')) :
    ∃ p : Plan E call yld ops fr h, p.frs ops.size = fr' ∧ p.st p.k = h' := by
  unfold dops at e
  split at e
  · rename_i lv hv k hst
    unfold stat at hst
    split at hst
    · rename_i s hs
      simp only [Option.some.injEq, Prod.mk.injEq] at hst
      obtain ⟨rfl, rfl, rfl⟩ := hst
      have hlen : ops.toList.length = ops.size := by simp
      have I := fwd_ok ops.toList 0 _ s (by simp) hs (SInv.init ops)
      rw [Nat.zero_add, hlen] at I
      have hlt : ∀ {i : Nat} {o : Oper}, ops[i]? = some o → i < ops.size := fun {i o} ho => by
        rcases Nat.lt_or_ge i ops.size with h | h
        · exact h
        · rw [Array.getElem?_eq_none h] at ho; cases ho
      have htl : ∀ {i : Nat} {o : Oper}, ops[i]? = some o → ops.toList[i]? = some o := fun {i o} ho => by simpa using ho
      have hk : idxOf ops ops.size = cnt ops.toList := by
        unfold idxOf
        rw [List.take_of_length_le (by simp)]
      have chain : ∀ i j oi oj, ops[i]? = some oi → ops[j]? = some oj → isEf oi = true → isEf oj = true → idxOf ops i ≤ idxOf ops j → Anc ops i j := fun i j oi oj hi hj ei ej hle => by
        refine I.lv j i oi hi ei ?_
        rw [I.lve j oj (hlt hj) hj ej]
        omega
      have hinj : ∀ i j oi oj, ops[i]? = some oi → ops[j]? = some oj → isEf oi = true → isEf oj = true → idxOf ops i = idxOf ops j → i = j := fun i j oi oj hi hj ei ej he => by
        rcases Nat.lt_trichotomy i j with h | h | h
        · have := idxOf_lt hi ei h; omega
        · exact h
        · have := idxOf_lt hj ej h; omega
      have H0 : HInv ops (cnt ops.toList) .leaf := fun j e oe hoe hee hle => by
        rw [T.get_leaf] at hle
        have := idxOf_lt hoe hee (hlt hoe)
        rw [hk] at this
        omega
      have HB : HInv ops (cnt ops.toList) (bwd (cnt ops.toList) ops.toList 0 0 .leaf) := bwd_ok chain ops.toList 0 .leaf (by simp) H0
      split at e
      · rename_i rows hs fr1 h1 hrun
        obtain ⟨d1, d2, d3, d4, d5⟩ := drun_ok ops.toList fr h rows hs fr1 h1 hrun
        cases hsec : second E call yld s.lv (bwd (cnt ops.toList) ops.toList 0 0 .leaf) (cnt ops.toList) hs ops.toList rows 0 0 with
        | false => rw [hsec] at e; cases e
        | true =>
          rw [hsec] at e
          simp only [cond, Option.some.injEq, Prod.mk.injEq] at e
          obtain ⟨rfl, rfl⟩ := e
          have sec := second_ok ops.toList rows 0 0 hsec
          have row : ∀ i o, ops[i]? = some o → ∃ r, rows[i]? = some r ∧ rows.getD i default = r ∧ RowOK E call yld ops fr hs fr.n (idxOf ops i) o r (frAt ops.toList rows fr i) (frAt ops.toList rows fr (i + 1)) := fun i o ho => by
            obtain ⟨r, hr, ok⟩ := d5 i o (htl ho)
            exact ⟨r, hr, by simp [List.getD_eq_getElem?_getD, hr], ok⟩
          have hst : ∀ {q hq}, hs[q]? = some hq → hs.getD q h = hq := fun {q hq} e => by simp [List.getD_eq_getElem?_getD, e]
          refine ⟨{
            x := fun i => (rows.getD i default).x
            g := fun i => (rows.getD i default).g
            rf := fun i => cond (Nat.blt i ops.size) (rows.getD i default).rf fr
            frs := frAt ops.toList rows fr
            st := fun q => hs.getD q h
            isE := fun i => match ops[i]? with | some o => isEf o | none => false
            idx := idxOf ops
            lo := T.get 0 s.lv
            hi := T.get (cnt ops.toList) (bwd (cnt ops.toList) ops.toList 0 0 .leaf)
            k := cnt ops.toList
            top := fun i o ho => I.top i o (hlt ho) ho
            tmpW := fun i j oi oj t hij hi hj h1 h2 => I.tmpW i j oi oj t hij (hlt hj) hi hj h1 h2
            tmpR := fun i j oi oj t hij hi hj h1 h2 => I.tmpR i j oi oj t hij (hlt hj) hi hj h1 h2
            inj := fun i j oi oj hi hj ei ej he => hinj i j oi oj hi hj (by simpa [hi] using ei) (by simpa [hj] using ej) he
            lt := fun i oi hi ei => by
              have := idxOf_lt hi (by simpa [hi] using ei) (hlt hi)
              rw [hk] at this; exact this
            dense := ?_
            chain := fun i j oi oj hi hj ei ej he => chain i j oi oj hi hj (by simpa [hi] using ei) (by simpa [hj] using ej) (Nat.le_of_lt he)
            low := fun e i oe oi he hi ee hl _ => I.lv i e oe he (by simpa [he] using ee) hl
            lowk := fun i oi hi _ => by have := I.lvk i; rw [hk] at this; exact this
            high := fun e i oe oi he hi ee hl _ => HB i e oe he (by simpa [he] using ee) hl
            guard := fun i o ho => ?_
            skip := fun i o ho hg => ?_
            eff := fun i o ho hg he => ?_
            quiet := fun i o ho hg he q h1 h2 h3 => ?_
            dst := fun i o d ho hd => ?_
            rfn := fun i => ?_
            rfv := fun i o t ho => ?_
            f0 := by cases ops.toList <;> cases rows <;> rfl
            fs := fun i o ho => ?_
            s0 := hst d1 }, ?_, ?_⟩
          · -- dense
            have gen : ∀ n, n ≤ ops.size → ∀ p, p < idxOf ops n → ∃ i oi, ops[i]? = some oi ∧ (match ops[i]? with | some o => isEf o | none => false) = true ∧ idxOf ops i = p := by
              intro n
              induction n with
              | zero => intro _ p hp; simp [idxOf, cnt] at hp
              | succ n ih =>
                intro hn p hp
                have hn' : n < ops.size := by omega
                have ho : ops[n]? = some ops[n] := Array.getElem?_eq_getElem hn'
                rw [idxOf_succ ho] at hp
                cases he : isEf ops[n] with
                | false => rw [he] at hp; exact ih (by omega) p hp
                | true =>
                  rw [he] at hp
                  simp only [cond] at hp
                  rcases Nat.lt_or_ge p (idxOf ops n) with h | h
                  · exact ih (by omega) p h
                  · exact ⟨n, _, ho, by rw [ho]; exact he, by omega⟩
            intro p hp
            exact gen ops.size (Nat.le_refl _) p (by rw [hk]; exact hp)
          · obtain ⟨r, _, hr, ok⟩ := row i o ho
            rw [hr, blt_iff.2 (hlt ho)]
            exact ok.gd
          · obtain ⟨r, _, hr, ok⟩ := row i o ho
            rw [hr] at hg ⊢
            obtain ⟨hq, a1, a2, _⟩ := ok.at_
            obtain ⟨b1, b2⟩ := a2 hg
            refine ⟨b1, fun he => ?_⟩
            rw [hst a1, hst (b2 (by simpa [ho] using he))]
          · obtain ⟨r, _, hr, ok⟩ := row i o ho
            rw [hr] at hg ⊢
            rw [blt_iff.2 (hlt ho)]
            obtain ⟨hq, a1, _, a3, _⟩ := ok.at_
            obtain ⟨hq', b1, b2⟩ := a3 hg (by simpa [ho] using he)
            rw [hst a1, hst b1]
            exact b2
          · obtain ⟨r, hri, hr, ok⟩ := row i o ho
            rw [hr] at hg ⊢
            rw [blt_iff.2 (hlt ho)]
            have he' : isEf o = false := by simpa [ho] using he
            obtain ⟨hq, a1, _, _, a4⟩ := ok.at_
            have a4 := a4 hg he'
            cases hkd : kd o.op with
            | ef => simp [isEf, hkd] at he'
            | pure =>
              obtain ⟨v, hv⟩ := pure_ok (E := E) (call := call) (yld := yld) (fr := r.rf) hkd
              simp only [cond]
              rw [hv] at a4 ⊢
              cases v with
              | none => cases a4
              | some v =>
                simp only [Option.map_some, Option.some.injEq, Prod.mk.injEq] at a4 ⊢
                exact ⟨a4.1, trivial⟩
            | rd =>
              simp only [cond]
              rcases sec i o r (htl ho) hri hkd hg with ⟨c1, c2⟩ | hc
              · rw [Nat.zero_add, Nat.zero_add] at c1 c2
                have : q = idxOf ops i := by
                  unfold idxOf
                  omega
                subst this
                rw [hst a1]
                exact a4
              · rw [Nat.zero_add] at hc
                have hql : q < hs.length := by omega
                have hqs : hs[q]? = some hs[q] := List.getElem?_eq_getElem hql
                rw [hst hqs]
                refine chk_ok hkd hc _ ?_
                rw [List.mem_iff_getElem?]
                refine ⟨q - T.get 0 s.lv i, ?_⟩
                rw [List.getElem?_take, if_pos (by omega), List.getElem?_drop]
                rw [show T.get 0 s.lv i + (q - T.get 0 s.lv i) = q by omega]
                exact hqs
          · obtain ⟨r, _, hr, ok⟩ := row i o ho
            exact ok.dst d hd
          · cases hb : Nat.blt i ops.size with
            | false => rfl
            | true =>
              obtain ⟨r, _, hr, ok⟩ := row i _ (Array.getElem?_eq_getElem (blt_iff.1 hb))
              rw [hr]
              exact ok.rfn
          · obtain ⟨r, _, hr, ok⟩ := row i o ho
            rw [hr, blt_iff.2 (hlt ho)]
            exact ok.rfv t
          · obtain ⟨r, _, hr, ok⟩ := row i o ho
            rw [hr, ok.nx]
            cases o.dst <;> rfl
          · show frAt ops.toList rows fr ops.size = fr1
            rw [← hlen]; exact d4
          · exact hst d2
      · cases e
    · cases hst
  · cases e

end Go.Ev

/- The abstract machine, part M (second text): code. -/
namespace Go.Ev

/-! ### Code -/
abbrev Out := Option (X × Fr × List Nat × H)
abbrev ExecT := Option Nat → Code → Fr → List Nat → H → Out

/-- Arguments, as an activation's first temporaries. -/
def load (args : List V) (i : Nat) (t : T V) : T V :=
  match args with
  | [] => t
  | x :: xs => load xs (i + 1) (T.set .top t i x)

/-- The deferred calls' blocks are taken, one by one. -/
def takes : List Nat → H → Option H
  | [], h => some h
  | b :: bs, h =>
    match h.get b with
    | .dfr => takes bs (h.set b .gone)
    | _ => none

def aRes (E : Env) (fr : Fr) (h : H) : List ResultVar → Option (List V)
  | [] => some []
  | .tmp t :: rs =>
    match aRes E fr h rs with
    | some l => some (fr.get t :: l)
    | none => none
  | .cell a t :: rs =>
    match fr.get a with
    | .p p =>
      match aLoad E t (.p p) h, aRes E fr h rs with
      | some (v, _), some l => some (v :: l)
      | _, _ => none
    | _ => none

def aRets : List V → V
  | [v] => v
  | l => .t l

def callF (E : Env) (ex : ExecT) : CallT := fun f args h =>
  match E.qc f args with
  | some v => some (v, h)
  | none =>
  match E.qh E.bd f args h with
  | some v => some (v, h)
  | none =>
  match E.eh f args h with
  | some r => some r
  | none =>
  match E.ft f with
  | some fn =>
    match fn.body with
    | some c =>
      cond (Nat.ble args.length fn.ntmps)
        (match ex none c { n := fn.ntmps, t := load args 0 .leaf } [] h with
         | some (.e _, _, _, _) => none
         | some (_, fr, ds, h1) =>
           match takes ds h1 with
           | some h2 =>
             match aRes E fr h2 fn.results.toList with
             | some l => some (aRets l, h2)
             | none => none
           | none => none
         | none => none) none
    | none => none
  | none => none

def setAll (fr : Fr) : List Tmp → List V → Option Fr
  | [], [] => some fr
  | t :: ts, v :: vs => cond (Nat.blt t fr.n) (setAll (fr.set t v) ts vs) none
  | _, _ => none

def yieldF (ex : ExecT) : CallT := fun l args h =>
  match h.get l with
  | .loop _ _ fr params assign body _ =>
    match setAll fr params.toList args with
    | some fr1 =>
      match ex (some l) assign fr1 [] h with
      | some (.n, fr2, [], h1) =>
        match h1.get l with
        | .loop .ready pend fr' params' assign' body' df' =>
          match ex (some l) body fr2 [] (h1.set l (.loop .busy pend fr' params' assign' body' df')) with
          | some (x, _, _, h2) =>
            match h2.get l with
            | .loop _ _ fr'' params'' assign'' body'' df'' =>
              match x with
              | .n => some (.b true, h2.set l (.loop .ready none fr'' params'' assign'' body'' df''))
              | .r => some (.b false, h2.set l (.loop .done (some .ret) fr'' params'' assign'' body'' df''))
              | .e id => some (.b false, h2.set l (.loop .done (some (.exit id)) fr'' params'' assign'' body'' df''))
            | _ => none
          | none => none
        | _ => none
      | _ => none
    | none => none
  | _ => none

/-- A range over a function has ended. -/
def afterRange (l : Nat) (fr : Fr) (ds : List Nat) (h : H) : Out :=
  match h.get l with
  | .loop st pend fr' ps as bd df =>
    match st with
    | .busy => none
    | _ =>
      match pend with
      | none => some (.n, fr, ds, h.set l (.loop .exhausted pend fr' ps as bd df))
      | some .ret => some (.r, fr, ds, h.set l (.loop .exhausted pend fr' ps as bd df))
      | some (.exit id) => some (.e id, fr, ds, h.set l (.loop .exhausted pend fr' ps as bd df))
      | _ => none
  | _ => none

def aRange (E : Env) (call : CallT) (ro : Option Nat) (g : Operand) (ps : Array Tmp) (as bd : Code) (fr : Fr) (ds : List Nat) (h : H) : Out :=
  match ev E.ng fr g with
  | .f gf first caps =>
    match ro with
    | none =>
      match call gf (first ++ [.yl (h.n + 1)] ++ caps) ((h.new .dfr).new (.loop .ready none fr ps as bd h.n)) with
      | some (_, h3) => afterRange (h.n + 1) fr (h.n :: ds) h3
      | none => none
    | some l0 =>
      match h.get l0 with
      | .loop _ _ _ _ _ _ df =>
        match call gf (first ++ [.yl h.n] ++ caps) (h.new (.loop .ready none fr ps as bd df)) with
        | some (_, h3) => afterRange h.n fr ds h3
        | none => none
      | _ => none
  | _ => none

def exec (E : Env) : Nat → ExecT
  | 0, _, _, _, _, _ => none
  | k + 1, ro, c, fr, ds, h =>
    match c with
    | .skip => some (.n, fr, ds, h)
    | .label _ => some (.n, fr, ds, h)
    | .exit id => some (.e id, fr, ds, h)
    | .ret => some (.r, fr, ds, h)
    | .region _ ops false =>
      match aops E (callF E (exec E k)) (yieldF (exec E k)) ops ops.toList fr h with
      | some (fr', h') => some (.n, fr', ds, h')
      | none => none
    | .region _ ops true =>
      match dops E (callF E (exec E k)) (yieldF (exec E k)) ops fr h with
      | some (fr', h') => some (.n, fr', ds, h')
      | none => none
    | .seq a b =>
      match exec E k ro a fr ds h with
      | some (.n, fr', ds', h') => exec E k ro b fr' ds' h'
      | r => r
    | .cond c a b =>
      match ev E.ng fr c with
      | .b true => exec E k ro a fr ds h
      | .b false => exec E k ro b fr ds h
      | _ => none
    | .block id b =>
      match exec E k ro b fr ds h with
      | some (.e j, fr', ds', h') => cond (Nat.beq j id) (some (.n, fr', ds', h')) (some (.e j, fr', ds', h'))
      | r => r
    | .loop b =>
      match exec E k ro b fr ds h with
      | some (.n, fr', ds', h') => exec E k ro (.loop b) fr' ds' h'
      | r => r
    | .rangeFunc g ps as bd => aRange E (callF E (exec E k)) ro g ps as bd fr ds h
    | .scope b => exec E k ro b fr ds h
    | _ => none

end Go.Ev

/- The abstract machine, part N: what is told of calls, rounds and code is so. -/
namespace Go.Ev

theorem stepR_scope {P : Program} {b : Frame} {a : Act} {k : List Item} {cs : List Frame} {w : World} {c : Code} :
    step P (lone (b.atR a (.code (.scope c) :: k)) cs w) = .next (lone (b.atR a (.code c :: .inScope c :: k)) cs w) :=
  step_lone_go (by simp [stepG, stepG.exec, Frame.atR])
theorem stepR_inScope {P : Program} {b : Frame} {a : Act} {k : List Item} {cs : List Frame} {w : World} {c : Code} :
    step P (lone (b.atR a (.inScope c :: k)) cs w) = .next (lone (b.atR a k) cs w) :=
  step_lone_go (by simp [stepG, stepG.exec, Frame.atR])
/-- A scope out of which no jump goes. -/
theorem wpIn_scope {F : Fence} {n : Nat} {P : Program} {Q : Exit → Act → World → Prop} {a : Act} {w : World} {c : Code} (h : c.wpIn F n P (fun e a w => (∀ l, e ≠ .goto l) ∧ Q e a w) a w) : (Code.scope c).wpIn F n P Q a w := by
  intro b k cs hro hb hr
  have h0 : (lone (b.atR a (.code (.scope c) :: k)) cs w).fenced P F := fenced_calm hb hr rfl
  obtain ⟨e, a₁, w₁, ⟨hng, hq⟩, harr⟩ := h b (.inScope c :: k) cs hro hb hr
  cases e with
  | normal => exact ⟨.normal, a₁, w₁, hq, .head h0 stepR_scope (StepsIn.trans harr (.one (fenced_calm hb hr rfl) stepR_inScope))⟩
  | exit id =>
    have hx : exitTo id (.inScope c :: k) = exitTo id k := by simp [exitTo]
    exact ⟨.exit id, a₁, w₁, hq, fun k' hk => .head h0 stepR_scope (harr.1 k' (by rw [hx]; exact hk)),
      fun hr' hk => let ⟨k₁, h1, h2⟩ := harr.2 hr' (by rw [hx]; exact hk); ⟨k₁, h1, .head h0 stepR_scope h2⟩⟩
  | goto l => exact absurd rfl (hng l)
  | ret => exact ⟨_, a₁, w₁, hq, .of_steps (.one h0 stepR_scope) harr⟩
  | panic ch => exact ⟨_, a₁, w₁, hq, .of_steps (.one h0 stepR_scope) harr⟩
  | outgrown => exact ⟨_, a₁, w₁, hq, .of_steps (.one h0 stepR_scope) harr⟩

def PostX (φ : Ren) (w : World) (x : X) (fr : Fr) (ds : List Nat) (h : H) : Exit → Act → World → Prop := fun e a' w' =>
  ∃ φ', Ext φ w φ' w' ∧ e = x.exit ∧ FR φ' fr a'.tmps ∧ DR φ' ds a'.defers ∧ HR φ' h w'
theorem PostX.back {φ φ₁ : Ren} {w w₁ : World} {x : X} {fr : Fr} {ds : List Nat} {h : H} (hx : Ext φ w φ₁ w₁) {e : Exit} {a' : Act} {w' : World} (hp : PostX φ₁ w₁ x fr ds h e a' w') : PostX φ w x fr ds h e a' w' := by
  obtain ⟨φ', h1, h2⟩ := hp
  exact ⟨φ', hx.trans h1, h2⟩

/-- What is told of code at so much fuel is so. -/
def ExecOK (E : Env) (ex : ExecT) : Prop := ∀ ro c fr ds h x fr' ds' h', ex ro c fr ds h = some (x, fr', ds', h') → ∀ φ a w ro' n, GL E.ng φ → BD E φ → RO φ ro ro' → FR φ fr a.tmps → DR φ ds a.defers → HR φ h w →
  c.wpIn (W ro') n E.P (PostX φ w x fr' ds' h') a w

theorem load_get : ∀ (args : List V) (i : Nat) (t : T V) (k : Nat), T.get .top (load args i t) k = if i ≤ k then (match args[k - i]? with | some x => x | none => T.get .top t k) else T.get .top t k
  | [], i, t, k => by simp [load]
  | x :: xs, i, t, k => by
    rw [load, load_get xs (i + 1)]
    simp only [T.get_set]
    by_cases h1 : i + 1 ≤ k
    · have h2 : i ≤ k := by omega
      have h3 : ¬ k = i := by omega
      have e : k - i = (k - (i + 1)) + 1 := by omega
      simp only [if_pos h1, if_pos h2, if_neg h3, e, List.getElem?_cons_succ]
    · simp only [if_neg h1]
      by_cases h2 : k = i
      · subst h2; simp
      · simp only [if_neg h2, if_neg (show ¬ i ≤ k by omega)]

theorem load_FR {φ : Ren} {args : List V} {args' : List Value} (h : VRs φ args args') (n : Nat) (hn : args.length ≤ n) :
    FR φ { n := n, t := load args 0 .leaf } (args'.toArray ++ Array.replicate (n - args'.toArray.size) undef) := by
  have hl := h.length
  refine ⟨by simp; omega, fun k => ?_⟩
  show VR φ (T.get .top (load args 0 .leaf) k) _
  rw [load_get, if_pos (Nat.zero_le _), Nat.sub_zero]
  cases hx : args[k]? with
  | none => simp only [T.get, VR]
  | some x =>
    obtain ⟨v, hv, hxv⟩ := h.get hx
    have : (args'.toArray ++ Array.replicate (n - args'.toArray.size) undef).getD k undef = v := by
      rw [Array.getD_eq_getD_getElem?, Array.getElem?_append_left (by
        have : k < args'.length := by
          rcases Nat.lt_or_ge k args'.length with h | h
          · exact h
          · rw [List.getElem?_eq_none h] at hv; cases hv
        simpa using this)]
      simp [hv]
    rw [this]; exact hxv

theorem takes_ok {E : Env} {fn : Func} {tmps : Array Value} {R : Ending → World → Prop} {n : Nat} {ro : Option Nat} : ∀ (ds : List Nat) (h h2 : H), takes ds h = some h2 → ∀ (φ : Ren) (w : World) (l : List Deferred), DR φ ds l → HR φ h w →
    (∀ w', Ext φ w φ w' → HR φ h2 w' → LeavesInM (W ro) n E.P fn tmps R [] .returning w') → LeavesInM (W ro) n E.P fn tmps R l .returning w
  | [], h, h2, e, φ, w, l, hd, hr, hK => by
    simp only [takes, Option.some.injEq] at e; subst e
    simp only [DR] at hd; subst hd
    exact hK w (Ext.refl φ w) hr
  | b :: bs, h, h2, e, φ, w, l, hd, hr, hK => by
    simp only [takes] at e
    simp only [DR] at hd
    obtain ⟨r, ds, rfl, hb, hds⟩ := hd
    split at e
    · rename_i hbl
      obtain ⟨o, h1, hBR⟩ := hr.blk b r hb (by rw [hbl]; trivial)
      rw [hbl] at hBR
      have ho : o = .deferred (some []) := hBR
      subst ho
      have hlt := (hr.dom b r hb).2
      let w' : World := { w with heap := w.heap.setIfInBounds r (.deferred none) }
      have hT := hr.turn (w' := w') .gone (.deferred none) hb (by rw [hbl]; trivial) trivial (by simp [w']) (by simp [w', hlt]) (fun s hs => by simp [w', Array.getElem?_setIfInBounds_ne (Ne.symm hs)]) rfl rfl rfl
      refine ⟨by simp, .inl ⟨r, w', rfl, ?_, ?_⟩⟩
      · simp [Instr.takeDeferred, getObj, setObj, Sem.run, h1, w']
      · exact takes_ok bs (h.set b .gone) h2 e φ w' ds hds hT.1 (fun w'' hx hr'' => hK w'' (hT.2.trans hx) hr'')
    · cases e

theorem aLoad_run {E : Env} (hE : E.OK) {φ : Ren} {h : H} {w : World} (hr : HR φ h w) (t : TypeId) {p : Option (Nat × Nat)} {v : Value} (hx : VR φ (.p p) v) {y : V} {h' : H} (hy : aLoad E t (.p p) h = some (y, h')) :
    ∃ r o u, v = .pointer (some ⟨r, o, none⟩) ∧ (loadVar t ⟨r, o, none⟩).run E.P w = .ok u w ∧ VR φ y u := by
  cases p with
  | none => simp only [aLoad] at hy; split at hy <;> first | (cases hy; done) | (rename_i e; cases e)
  | some bo =>
    obtain ⟨b, o⟩ := bo
    simp only [aLoad] at hy
    cases htt : E.tt t with
    | none => rw [htt] at hy; cases hy
    | some td =>
      obtain ⟨i, d⟩ := td
      rw [htt] at hy
      obtain ⟨hi, hd⟩ := hE.ty t i d htt
      simp only [VR] at hx
      obtain ⟨r, hb, rfl⟩ := hx
      simp only [] at hy
      split at hy
      · rename_i l e g hl
        split at hy
        · rename_i x hx
          simp only [Option.some.injEq, Prod.mk.injEq] at hy
          obtain ⟨rfl, rfl⟩ := hy
          obtain ⟨vs, h1, h2, h3⟩ := hr.cellsAt hb hl 0 l.length (by omega)
          rw [List.drop_zero, List.take_length] at h2
          obtain ⟨u, g1, g2⟩ := loadFrom_ok (P := E.P) (w := w) (o := 0) hi hd h2 (fun j u hu => h3 j u hu) hx
          rw [Nat.zero_add] at g1
          refine ⟨r, o, u, rfl, ?_, g2⟩
          simpa [Instr.loadAt, Instr.sureAddr] using g1
        · cases hy
      · rename_i l e hl
        split at hy
        · rename_i x hx
          simp only [Option.some.injEq, Prod.mk.injEq] at hy
          obtain ⟨rfl, rfl⟩ := hy
          obtain ⟨vs, h1, h2, h3⟩ := hr.cellsAtR hb hl 0 l.length (by omega)
          rw [List.drop_zero, List.take_length] at h2
          obtain ⟨u, g1, g2⟩ := loadFrom_ok (P := E.P) (w := w) (o := 0) hi hd h2 (fun j u hu => h3 j u hu) hx
          rw [Nat.zero_add] at g1
          refine ⟨r, o, u, rfl, ?_, g2⟩
          simpa [Instr.loadAt, Instr.sureAddr] using g1
        · cases hy
      · cases hy

def resVar (tmps : Array Value) : ResultVar → Sem Value
  | .tmp t => pure (tmps.getD t undef)
  | .cell a t => do loadVar t (← asAddr (tmps.getD a undef))

theorem aRes_ok {E : Env} (hE : E.OK) {φ : Ren} {fr : Fr} {tmps : Array Value} {h : H} {w : World} (hf : FR φ fr tmps) (hr : HR φ h w) : ∀ (rs : List ResultVar) (l : List V), aRes E fr h rs = some l →
    ∃ vs, (rs.mapM (resVar tmps)).run E.P w = .ok vs w ∧ VRs φ l vs
  | [], l, e => by
    simp only [aRes, Option.some.injEq] at e; subst e
    exact ⟨[], by simp, VRs.nil⟩
  | .tmp t :: rs, l, e => by
    simp only [aRes] at e
    split at e
    · rename_i l' hl'
      simp only [Option.some.injEq] at e; subst e
      obtain ⟨vs, h1, h2⟩ := aRes_ok hE hf hr rs l' hl'
      refine ⟨tmps.getD t undef :: vs, ?_, VRs.cons (hf.2 t) h2⟩
      have e : (resVar tmps (.tmp t)).run E.P w = .ok (tmps.getD t undef) w := rfl
      simp only [List.mapM_cons, Sem.run_bind, e, Result.andThen_ok, h1, Sem.run_pure]
    · cases e
  | .cell a t :: rs, l, e => by
    simp only [aRes] at e
    split at e
    · rename_i p hp
      have hfa := hf.2 a
      rw [hp] at hfa
      split at e
      · rename_i v h0 l' hv hl'
        simp only [Option.some.injEq] at e; subst e
        obtain ⟨vs, h1, h2⟩ := aRes_ok hE hf hr rs l' hl'
        obtain ⟨r, o, u, hptr, hld, hvu⟩ := aLoad_run hE hr t hfa hv
        refine ⟨u :: vs, ?_, VRs.cons hvu h2⟩
        have e : (resVar tmps (.cell a t)).run E.P w = .ok u w := by
          simp only [resVar, Sem.run_bind, hptr, asAddr, Sem.run_pure, Result.andThen_ok, hld]
        simp only [List.mapM_cons, Sem.run_bind, e, Result.andThen_ok, h1, Sem.run_pure]
      · cases e
    · cases e

theorem results_ok {E : Env} (hE : E.OK) {φ : Ren} {fr : Fr} {tmps : Array Value} {h : H} {w : World} (hf : FR φ fr tmps) (hr : HR φ h w) (fn : Func) {l : List V} (e : aRes E fr h fn.results.toList = some l) :
    ∃ v, (results fn tmps).run E.P w = .ok v w ∧ VR φ (aRets l) v := by
  obtain ⟨vs, h1, h2⟩ := aRes_ok hE hf hr fn.results.toList l e
  have hm : (fn.results.mapM (resVar tmps)).run E.P w = .ok vs.toArray w := by
    rw [Array.mapM_eq_mapM_toList]
    simp [h1]
  have hres : results fn tmps = (do
      let vs ← fn.results.mapM (resVar tmps)
      pure (if h : vs.size = 1 then vs[0] else .tuple vs)) := rfl
  rw [hres, Sem.run_bind, hm]
  simp only [Result.andThen_ok, Sem.run_pure]
  by_cases h1' : vs.length = 1
  · obtain ⟨v, rfl⟩ := List.length_eq_one_iff.1 h1'
    have hl1 : l.length = 1 := by rw [← h2.length]; exact h1'
    obtain ⟨x, rfl⟩ := List.length_eq_one_iff.1 hl1
    simp only [VRs] at h2
    obtain ⟨y, ys, h3, h4, _⟩ := h2
    cases h3
    exact ⟨v, by simp, h4⟩
  · refine ⟨.tuple vs.toArray, by simp [h1'], ?_⟩
    have hl1 : l.length ≠ 1 := by rw [← h2.length]; exact h1'
    have : aRets l = .t l := by
      match l, hl1 with
      | [], _ => rfl
      | [x], h => exact absurd rfl h
      | _ :: _ :: _, _ => rfl
    rw [this]
    simp only [VR]
    exact ⟨_, rfl, by simpa using h2⟩

theorem callF_ok {E : Env} (hE : E.OK) {ex : ExecT} (hX : ExecOK E ex) : CallOK E (callF E ex) := by
  intro f args h v h' hs φ args' w n hg hbd hargs hr
  unfold callF at hs
  split at hs
  · rename_i u hqc
    simp only [Option.some.injEq, Prod.mk.injEq] at hs
    obtain ⟨rfl, rfl⟩ := hs
    obtain ⟨q1, q2⟩ := hbd.here.qc _ _ _ hqc _ hargs
    refine ⟨q1, (q2 n w fun r o hk => (hr.kp r o hk).1).mono ?_⟩
    rintro e w' ⟨v', rfl, hv, hgr⟩
    obtain ⟨g1, g2⟩ := hgr.ok hr
    exact ⟨φ, v', rfl, g2, hv, g1⟩
  split at hs
  · rename_i u hqh
    simp only [Option.some.injEq, Prod.mk.injEq] at hs
    obtain ⟨rfl, rfl⟩ := hs
    obtain ⟨q1, q2⟩ := hE.qh _ _ _ _ _ hqh φ w _ hbd.here.bd hargs hr
    refine ⟨q1, (q2 n).mono ?_⟩
    rintro e w' ⟨v', rfl, hv, hgr⟩
    obtain ⟨g1, g2⟩ := hgr.ok hr
    exact ⟨φ, v', rfl, g2, hv, g1⟩
  split at hs
  · rename_i r heh
    simp only [Option.some.injEq] at hs
    subst hs
    obtain ⟨q1, q2⟩ := hE.eh _ _ _ _ _ heh φ w _ hargs hr
    refine ⟨q1, (q2 n).mono ?_⟩
    rintro e w' ⟨φ', v', rfl, hx, hv, hr'⟩
    exact ⟨φ', v', rfl, hx, hv, hr'⟩
  split at hs
  · rename_i fn hfn
    obtain ⟨hfn', hname⟩ := hE.fn _ _ hfn
    split at hs
    · rename_i c hc
      refine ⟨⟨fn, c, hfn', hc, hname⟩, ?_⟩
      cases hle : Nat.ble args.length fn.ntmps with
      | false => rw [hle] at hs; cases hs
      | true =>
        rw [hle] at hs
        simp only [cond] at hs
        have hle' : args.length ≤ fn.ntmps := Nat.le_of_ble_eq_true hle
        have hF := load_FR hargs fn.ntmps hle'
        refine callsIn_of_wp_marks hfn' hc trivial ?_
        split at hs
        · cases hs
        · rename_i x fr ds h1 hne hex
          have hwp := hX none c _ [] h x fr ds h1 hex φ { tmps := args'.toArray ++ Array.replicate (fn.ntmps - args'.toArray.size) undef, defers := [] } w none n hg hbd rfl hF rfl hr
          refine wpIn_mono hwp ?_
          rintro e a' w' ⟨φ', hx, rfl, hf, hd, hr'⟩
          split at hs
          · rename_i h2 hh2
            split at hs
            · rename_i l hl
              simp only [Option.some.injEq, Prod.mk.injEq] at hs
              obtain ⟨rfl, rfl⟩ := hs
              have key : LeavesInM (W none) n E.P fn a'.tmps (Res φ w (aRets l) h2) a'.defers .returning w' := by
                refine takes_ok ds h1 h2 hh2 φ' w' a'.defers hd hr' fun w'' hx'' hr'' => ?_
                obtain ⟨v, hv1, hv2⟩ := results_ok hE hf hr'' fn hl
                exact ⟨v, hv1, φ', v, rfl, hx.trans hx'', hv2, hr''⟩
              cases x with
              | n => exact key
              | r => exact key
              | e id => exact (hne id rfl).elim
            · cases hs
          · cases hs
        · cases hs
    · cases hs
  · cases hs

end Go.Ev
