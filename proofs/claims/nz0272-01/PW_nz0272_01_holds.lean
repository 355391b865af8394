import PyProof.Rows.All
import Wide.All
import OpenK.AllK
import Wide.FinOn
import PySem.Challenge.RW_nz0272_01
set_option Elab.async false
namespace Mine
section
open PySem PySem.W PyProof.Rows
set_option maxRecDepth 100000 in
set_option maxHeartbeats 8000000 in
open_top hd for PySem.Challenge.rw_nz0272_01
end
section
open PySem PySem.W PyProof.Rows
/-- the decision tree run by a pure comparison, its questions in bounds -/
def KSp {α : Type} (c : Nat → Nat → Bool) (n : Nat) (Q : α → Prop) : KasT α → Prop
  | .ret a => Q a
  | .ask i j k => i < n ∧ j < n ∧ KSp c n Q (k (c i j))
theorem KSp.bind {α β : Type} {c : Nat → Nat → Bool} {n : Nat} {f : α → KasT β} {Q : β → Prop} : ∀ {t : KasT α}, KSp c n (fun a => KSp c n Q (f a)) t → KSp c n Q (t.bind f)
  | .ret _, h => h
  | .ask _ _ k, ⟨a, b, h⟩ => ⟨a, b, KSp.bind (t := k _) h⟩
theorem KSp.mono {α : Type} {c : Nat → Nat → Bool} {n : Nat} {Q Q' : α → Prop} (hq : ∀ a, Q a → Q' a) : ∀ {t : KasT α}, KSp c n Q t → KSp c n Q' t
  | .ret a, h => hq a h
  | .ask _ _ k, ⟨a, b, h⟩ => ⟨a, b, KSp.mono hq (t := k _) h⟩
theorem KSp.wp {α : Type} {c : Nat → Nat → Bool} {n : Nat} {Q : α → Prop} {cmp : Nat → Nat → (Bool → Shared → Prop) → Shared → Prop} {G : α → Shared → Prop} {s : Shared}
    (hc : ∀ i j C, i < n → j < n → C (c i j) s → cmp i j C s) (hg : ∀ a, Q a → G a s) : ∀ {t : KasT α}, KSp c n Q t → t.kasWp cmp G s
  | .ret a, h => hg a h
  | .ask i j k, ⟨a, b, h⟩ => hc i j _ a b (KSp.wp hc hg (t := k _) h)

def G (p : Array Nat) (a : Nat) : Nat := p.getD a 0
theorem G_of {p q : Array Nat} {a b : Nat} (h : p[a]? = q[b]?) : G p a = G q b := by
  simp only [G, Array.getD_eq_getD_getElem?, h]
theorem G_rev {p : Array Nat} {i j : Nat} (hj : j ≤ p.size) (k : Nat) : G (kas_rev p i j) k = if i ≤ k ∧ k < j then G p (i + j - 1 - k) else G p k := by
  have e := getElem?_mirror_all (xs := p) (i := i) hj k
  by_cases h1 : i ≤ k ∧ k < j
  · rw [if_pos h1] at e ⊢; exact G_of e
  · rw [if_neg h1] at e ⊢; exact G_of e
theorem G_bub {p : Array Nat} {src d : Nat} (hs : src < p.size) (hd : d ≤ src) (k : Nat) : G (bubble p src d) k = if k = src - d then G p src else if src - d < k ∧ k ≤ src then G p (k - 1) else G p k := by
  have e := getElem?_bubble (xs := p) hs d hd k
  by_cases h1 : k = src - d
  · rw [if_pos h1] at e ⊢; exact G_of e
  · rw [if_neg h1] at e ⊢
    by_cases h2 : src - d < k ∧ k ≤ src
    · rw [if_pos h2] at e ⊢; exact G_of e
    · rw [if_neg h2] at e ⊢; exact G_of e

/-- a strict weak order -/
structure SWO (lt : Nat → Nat → Bool) : Prop where
  irr : ∀ a, lt a a = false
  tr : ∀ a b c, lt a b = true → lt b c = true → lt a c = true
  ng : ∀ a b c, lt a c = true → lt a b = true ∨ lt b c = true
section
variable {lt : Nat → Nat → Bool} (O : SWO lt)
include O
theorem SWO.as {a b : Nat} (h : lt a b = true) : lt b a = false := by
  cases q : lt b a with
  | false => rfl
  | true => have := O.tr _ _ _ h q; rw [O.irr] at this; cases this
theorem SWO.le_tr {a b c : Nat} (h1 : lt b a = false) (h2 : lt c b = false) : lt c a = false := by
  cases q : lt c a with
  | false => rfl
  | true => rcases O.ng _ b _ q with h | h
            · rw [h2] at h; cases h
            · rw [h1] at h; cases h
theorem SWO.lt_le {a b c : Nat} (h1 : lt a b = true) (h2 : lt c b = false) : lt a c = true := by
  rcases O.ng _ c _ h1 with h | h
  · exact h
  · rw [h2] at h; cases h
theorem SWO.le_lt {a b c : Nat} (h1 : lt b a = false) (h2 : lt b c = true) : lt a c = true := by
  rcases O.ng _ a _ h2 with h | h
  · rw [h1] at h; cases h
  · exact h
end

/-- the lowest k places hold the first k numbers, the others stand as they were -/
structure PI (n : Nat) (p : Array Nat) (k : Nat) : Prop where
  sz : p.size = n
  kn : k ≤ n
  hi : ∀ a, k ≤ a → a < n → G p a = a
  lo : ∀ a, a < k → G p a < k
  pm : p.Perm (List.toArray (List.range n))
theorem PI.mono {n : Nat} {p : Array Nat} {k k' : Nat} (h : PI n p k) (hk : k ≤ k') (hn : k' ≤ n) : PI n p k' :=
  ⟨h.sz, hn, fun a ha => h.hi a (by omega), fun a ha => by
    by_cases q : a < k
    · have := h.lo a q; omega
    · rw [h.hi a (by omega) (by omega)]; exact ha, h.pm⟩
theorem PI.bnd {n : Nat} {p : Array Nat} {k a : Nat} (h : PI n p k) (ha : a < n) : G p a < n := by
  by_cases q : a < k
  · have := h.lo a q; have := h.kn; omega
  · rw [h.hi a (by omega) ha]; exact ha
theorem PI.rev {n : Nat} {p : Array Nat} {k i j : Nat} (h : PI n p k) (hj : j ≤ k) : PI n (kas_rev p i j) k := by
  have hs : j ≤ p.size := by rw [h.sz]; have := h.kn; omega
  refine ⟨(kas_rev_size _ _).trans h.sz, h.kn, fun a ha hn => ?_, fun a ha => ?_, (mirror_perm _ _ _ _).trans h.pm⟩
  · rw [G_rev hs, if_neg (by omega)]; exact h.hi a ha hn
  · rw [G_rev hs]; split
    · exact h.lo _ (by omega)
    · exact h.lo _ ha
/-- sorted, and stable -/
def Lx (lt : Nat → Nat → Bool) (x y : Nat) : Prop := lt x y = true ∨ (lt x y = false ∧ lt y x = false ∧ x < y)
def Srt (lt : Nat → Nat → Bool) (p : Array Nat) (k : Nat) : Prop := ∀ a b, a < b → b < k → Lx lt (G p a) (G p b)
section
variable {lt : Nat → Nat → Bool} {n : Nat}
theorem Lx.le (O : SWO lt) {x y : Nat} (h : Lx lt x y) : lt y x = false := by
  rcases h with h | h
  · exact O.as h
  · exact h.2.1
theorem Lx.of {x y : Nat} (h : lt y x = false) (hxy : x < y) : Lx lt x y := by
  cases q : lt x y with
  | true => exact .inl q
  | false => exact .inr ⟨q, h, hxy⟩
/-- one more at the end -/
theorem Srt.succ (O : SWO lt) {p : Array Nat} {k : Nat} (S : Srt lt p k) (P : PI n p k) (hk : k < n) (hl : k = 0 ∨ lt (G p k) (G p (k - 1)) = false) : Srt lt p (k + 1) := by
  intro a b hab hb
  by_cases q : b < k
  · exact S a b hab q
  · have e : b = k := by omega
    subst e
    refine Lx.of ?_ (by rw [P.hi b (Nat.le_refl _) hk]; exact P.lo a hab)
    rcases hl with h | h
    · omega
    · by_cases q2 : a = b - 1
      · rw [q2]; exact h
      · exact O.le_tr ((S a (b - 1) (by omega) (by omega)).le O) h
theorem asc_sp (O : SWO lt) {p : Array Nat} : ∀ (f k : Nat), 1 ≤ k → k + f = n → PI n p k → Srt lt p k →
    KSp lt n (fun m => k ≤ m ∧ m ≤ n ∧ PI n p m ∧ Srt lt p m ∧ (m = n ∨ lt (G p m) (G p (m - 1)) = true)) (kas_asc p f k)
  | 0, k, _, hf, P, S => ⟨Nat.le_refl _, by omega, P, S, .inl (by omega)⟩
  | f + 1, k, h1, hf, P, S => by
    refine ⟨P.bnd (by omega), P.bnd (by omega), ?_⟩
    cases q : lt (p.getD k 0) (p.getD (k - 1) 0) with
    | true => exact ⟨Nat.le_refl _, by omega, P, S, .inr q⟩
    | false =>
      dsimp only; rw [if_neg Bool.false_ne_true]
      exact (asc_sp O f (k + 1) (by omega) (by omega) (P.mono (by omega) (by omega)) (S.succ O P (by omega) (.inr q))).mono fun m hm => ⟨by omega, hm.2⟩
/-- the falling run: all before the last group falls and, where equal, stands from behind; the last group is equal and stands as it was -/
structure Dsc (lt : Nat → Nat → Bool) (p : Array Nat) (k q : Nat) : Prop where
  q1 : q + 1 ≤ k
  a : ∀ a b, a < b → b < k - (q + 1) → Lx lt (G p b) (G p a)
  b : ∀ a b, a < k - (q + 1) → k - (q + 1) ≤ b → b < k → lt (G p b) (G p a) = true
  c : ∀ a b, k - (q + 1) ≤ a → a < b → b < k → lt (G p a) (G p b) = false ∧ lt (G p b) (G p a) = false ∧ G p a < G p b
def Dn (lt : Nat → Nat → Bool) (p : Array Nat) (k : Nat) : Prop := ∀ a b, a < b → b < k → Lx lt (G p b) (G p a)
theorem Dsc.rev {p : Array Nat} {k q : Nat} (D : Dsc lt p k q) (hk : k ≤ p.size) : Dn lt (kas_rev p (k - (q + 1)) k) k := by
  have := D.q1
  intro a b hab hb
  rw [G_rev hk, G_rev hk]
  by_cases h1 : k - (q + 1) ≤ b
  · rw [if_pos (by omega)]
    by_cases h2 : k - (q + 1) ≤ a
    · rw [if_pos (by omega)]
      have z := D.c (k - (q + 1) + k - 1 - b) (k - (q + 1) + k - 1 - a) (by omega) (by omega) (by omega)
      exact .inr z
    · rw [if_neg (by omega)]
      exact .inl (D.b a _ (by omega) (by omega) (by omega))
  · rw [if_neg (by omega), if_neg (by omega)]
    exact D.a a b hab (by omega)
theorem Dsc.zero {p : Array Nat} {k : Nat} (D : Dsc lt p k 0) : Dn lt p k := by
  intro a b hab hb
  by_cases h : b < k - 1
  · exact D.a a b hab h
  · exact .inl (D.b a b (by omega) (by omega) hb)
theorem Dn.dsc (O : SWO lt) {p : Array Nat} {k : Nat} (D : Dn lt p k) (hk : 1 ≤ k) (hl : lt (G p k) (G p (k - 1)) = true) : Dsc lt p (k + 1) 0 := by
  refine ⟨by omega, fun a b hab hb => D a b hab (by omega), fun a b ha hb1 hb2 => ?_, fun a b h1 h2 h3 => by omega⟩
  have e : b = k := by omega
  subst e
  by_cases q : a = b - 1
  · rw [q]; exact hl
  · exact O.lt_le hl ((D a (b - 1) (by omega) (by omega)).le O)
theorem desc_sp (O : SWO lt) : ∀ (f : Nat) (p : Array Nat) (k q : Nat), 1 ≤ k → k + f = n → PI n p k → Dsc lt p k q →
    KSp lt n (fun r => k ≤ r.2.1 ∧ r.2.1 ≤ n ∧ PI n r.1 r.2.1 ∧ Dsc lt r.1 r.2.1 r.2.2) (kas_desc f p k q)
  | 0, p, k, q, _, hf, P, D => ⟨Nat.le_refl _, by show k ≤ n; omega, P, D⟩
  | f + 1, p, k, q, h1, hf, P, D => by
    have hq1 := D.q1
    have hks : k ≤ p.size := by rw [P.sz]; omega
    refine ⟨P.bnd (by omega), P.bnd (by omega), ?_⟩
    cases hc : lt (p.getD k 0) (p.getD (k - 1) 0) with
    | true =>
      dsimp only; rw [if_pos rfl]
      by_cases hq : q > 0
      · rw [if_pos hq]
        have P' : PI n (kas_rev p (k - (q + 1)) k) k := P.rev (Nat.le_refl _)
        have hl : lt (G (kas_rev p (k - (q + 1)) k) k) (G (kas_rev p (k - (q + 1)) k) (k - 1)) = true := by
          rw [G_rev hks, G_rev hks, if_neg (by omega), if_pos (by omega)]
          have z := D.c (k - (q + 1) + k - 1 - (k - 1)) (k - 1) (by omega) (by omega) (by omega)
          exact O.lt_le hc z.1
        exact (desc_sp O f _ (k + 1) 0 (by omega) (by omega) (P'.mono (by omega) (by omega)) ((D.rev hks).dsc O h1 hl)).mono fun r hr => ⟨by omega, hr.2⟩
      · rw [if_neg hq]
        have e : q = 0 := by omega
        subst e
        exact (desc_sp O f _ (k + 1) 0 (by omega) (by omega) (P.mono (by omega) (by omega)) (D.zero.dsc O h1 hc)).mono fun r hr => ⟨by omega, hr.2⟩
    | false =>
      dsimp only; rw [if_neg Bool.false_ne_true]
      refine ⟨P.bnd (by omega), P.bnd (by omega), ?_⟩
      cases hd : lt (p.getD (k - 1) 0) (p.getD k 0) with
      | true => exact ⟨Nat.le_refl _, by show k ≤ n; omega, P, D⟩
      | false =>
        dsimp only; rw [if_neg Bool.false_ne_true]
        refine (desc_sp O f p (k + 1) (q + 1) (by omega) (by omega) (P.mono (by omega) (by omega)) ⟨by omega, fun a b hab hb => D.a a b hab (by omega), fun a b ha hb1 hb2 => ?_, fun a b h1 h2 h3 => ?_⟩).mono fun r hr => ⟨by omega, hr.2⟩
        · by_cases hbk : b < k
          · exact D.b a b (by omega) (by omega) hbk
          · have e : b = k := by omega
            subst e
            exact O.le_lt hd (D.b a (b - 1) (by omega) (by omega) (by omega))
        · by_cases hbk : b < k
          · exact D.c a b (by omega) h2 hbk
          · have e : b = k := by omega
            subst e
            refine ⟨?_, ?_, by rw [P.hi b (Nat.le_refl _) (by omega)]; exact P.lo a h2⟩
            · by_cases ha : a = b - 1
              · rw [ha]; exact hd
              · exact O.le_tr hd (D.c a (b - 1) (by omega) (by omega) (by omega)).1
            · by_cases ha : a = b - 1
              · rw [ha]; exact hc
              · exact O.le_tr (D.c a (b - 1) (by omega) (by omega) (by omega)).2.1 hc
theorem Dn.up {p : Array Nat} {k : Nat} (D : Dn lt p k) (hk : k ≤ p.size) : Srt lt (kas_rev p 0 k) k := by
  intro a b hab hb
  rw [G_rev hk, G_rev hk, if_pos (by omega), if_pos (by omega)]
  exact D _ _ (by omega) (by omega)
theorem tail3_sp (O : SWO lt) {p : Array Nat} {k : Nat} (h1 : 1 ≤ k) (P : PI n p k) (D : Dn lt p k) : KSp lt n (fun r => 1 ≤ r.1 ∧ r.1 ≤ n ∧ PI n r.2 r.1 ∧ Srt lt r.2 r.1) (kas_tail3 k n p) := by
  unfold kas_tail3
  have := P.kn
  refine KSp.bind ((asc_sp O (n - k) k h1 (by omega) (P.rev (Nat.le_refl _)) (D.up (by rw [P.sz]; omega))).mono fun m hm => ?_)
  exact ⟨by show 1 ≤ m; omega, hm.2.1, hm.2.2.1, hm.2.2.2.1⟩
theorem descPart_sp (O : SWO lt) {p : Array Nat} {k : Nat} (h1 : 1 ≤ k) (hk : k < n) (P : PI n p k) (D : Dn lt p k) (hl : lt (G p k) (G p (k - 1)) = true) : KSp lt n (fun r => 1 ≤ r.1 ∧ r.1 ≤ n ∧ PI n r.2 r.1 ∧ Srt lt r.2 r.1) (kas_descPart k n p) := by
  unfold kas_descPart
  refine KSp.bind ((desc_sp O (n - (k + 1)) p (k + 1) 0 (by omega) (by omega) (P.mono (by omega) (by omega)) (D.dsc O h1 hl)).mono fun r hr => ?_)
  obtain ⟨p', m, q⟩ := r
  obtain ⟨h2, h3, P', D'⟩ := hr
  dsimp only at h2 h3 P' D' ⊢
  by_cases hq : q > 0
  · rw [if_pos hq]
    exact tail3_sp O (by omega) (P'.rev (Nat.le_refl _)) (D'.rev (by rw [P'.sz]; omega))
  · rw [if_neg hq]
    have e : q = 0 := by omega
    subst e
    exact tail3_sp O (by omega) P' D'.zero
theorem count_sp (O : SWO lt) {p : Array Nat} (h1 : 1 ≤ n) (P : PI n p 0) : KSp lt n (fun r => 1 ≤ r.1 ∧ r.1 ≤ n ∧ PI n r.2 r.1 ∧ Srt lt r.2 r.1) (kas_count n p) := by
  unfold kas_count
  refine KSp.bind ((asc_sp O (n - 1) 1 (Nat.le_refl _) (by omega) (P.mono (by omega) h1) (fun a b hab hb => by omega)).mono fun m hm => ?_)
  obtain ⟨hm1, hm2, P', S, hor⟩ := hm
  by_cases e1 : (m == n) = true
  · rw [if_pos e1]
    exact ⟨hm1, hm2, P', S⟩
  · rw [if_neg e1]
    have hne : m ≠ n := fun h => e1 (by rw [h]; exact beq_self_eq_true _)
    have hl := hor.resolve_left hne
    by_cases e2 : m > 1
    · rw [if_pos e2]
      refine ⟨P'.bnd (by omega), P'.bnd (by omega), ?_⟩
      cases hc : lt (p.getD 0 0) (p.getD (m - 1) 0) with
      | true => exact ⟨hm1, hm2, P', S⟩
      | false =>
        dsimp only; rw [if_neg Bool.false_ne_true]
        have hms : m ≤ p.size := by rw [P'.sz]; omega
        have eqs : ∀ a b, a < b → b < m → lt (G p a) (G p b) = false := by
          intro a b hab hb
          have h0 : lt (G p 0) (G p b) = false := by
            by_cases hbm : b = m - 1
            · rw [hbm]; exact hc
            · exact O.le_tr ((S b (m - 1) (by omega) (by omega)).le O) hc
          by_cases ha : a = 0
          · rw [ha]; exact h0
          · exact O.le_tr h0 ((S 0 a (by omega) (by omega)).le O)
        refine descPart_sp O hm1 (by omega) (P'.rev (Nat.le_refl _)) (fun a b hab hb => ?_) ?_
        · rw [G_rev hms, G_rev hms, if_pos (by omega), if_pos (by omega)]
          exact S _ _ (by omega) (by omega)
        · rw [G_rev hms, G_rev hms, if_neg (by omega), if_pos (by omega)]
          have z : lt (G p (0 + m - 1 - (m - 1))) (G p (m - 1)) = false := eqs _ _ (by omega) (by omega)
          exact O.lt_le hl z
    · rw [if_neg e2]
      have e : m = 1 := by omega
      subst e
      exact descPart_sp O (Nat.le_refl _) (by omega) P' (fun a b hab hb => by omega) hl
theorem place_sp (O : SWO lt) {p : Array Nat} {k : Nat} (P : PI n p k) (S : Srt lt p k) (hk : k < n) : ∀ (f l r : Nat), l ≤ r → r ≤ k → r - l ≤ f → (∀ i, i < l → lt (G p k) (G p i) = false) → (∀ i, r ≤ i → i < k → lt (G p k) (G p i) = true) →
    KSp lt n (fun l => l ≤ k ∧ (∀ i, i < l → lt (G p k) (G p i) = false) ∧ (∀ i, l ≤ i → i < k → lt (G p k) (G p i) = true)) (kas_place p k f l r)
  | 0, l, r, h1, h2, h3, hlo, hhi => ⟨by omega, hlo, fun i hi => hhi i (by omega)⟩
  | f + 1, l, r, h1, h2, h3, hlo, hhi => by
    unfold kas_place
    by_cases hge : l ≥ r
    · rw [if_pos hge]
      exact ⟨by omega, hlo, fun i hi => hhi i (by omega)⟩
    · rw [if_neg hge]
      refine ⟨P.bnd hk, P.bnd (by omega), ?_⟩
      cases hc : lt (p.getD k 0) (p.getD ((l + r) / 2) 0) with
      | true =>
        dsimp only; rw [if_pos rfl]
        refine place_sp O P S hk f l ((l + r) / 2) (by omega) (by omega) (by omega) hlo fun i h4 h5 => ?_
        by_cases e : i = (l + r) / 2
        · rw [e]; exact hc
        · exact O.lt_le hc ((S ((l + r) / 2) i (by omega) h5).le O)
      | false =>
        dsimp only; rw [if_neg Bool.false_ne_true]
        refine place_sp O P S hk f ((l + r) / 2 + 1) r (by omega) h2 (by omega) (fun i h4 => ?_) hhi
        by_cases e : i = (l + r) / 2
        · rw [e]; exact hc
        · exact O.le_tr ((S i ((l + r) / 2) (by omega) (by omega)).le O) hc
theorem bin_sp (O : SWO lt) : ∀ (f : Nat) (p : Array Nat) (k : Nat), 1 ≤ k → k + f = n → PI n p k → Srt lt p k → KSp lt n (fun p' => PI n p' n ∧ Srt lt p' n) (kas_bin f p k)
  | 0, p, k, _, hf, P, S => by
    have e : k = n := by omega
    subst e; exact ⟨P, S⟩
  | f + 1, p, k, h1, hf, P, S => by
    show KSp lt n _ ((kas_place p k k 0 k).bind fun l => kas_bin f (bubble p k (k - l)) (k + 1))
    refine KSp.bind ((place_sp O P S (by omega) k 0 k (by omega) (Nat.le_refl _) (by omega) (fun i h => by omega) (fun i h1 h2 => by omega)).mono fun l hl => ?_)
    obtain ⟨hlk, hlo, hhi⟩ := hl
    have hks : k < p.size := by rw [P.sz]; omega
    have g := G_bub hks (show k - l ≤ k by omega)
    rw [show k - (k - l) = l by omega] at g
    have P' : PI n (bubble p k (k - l)) (k + 1) := by
      refine ⟨(bubble_size _ _ _).trans P.sz, by omega, fun a ha hn => ?_, fun a ha => ?_, (bubble_perm _ _ _).trans P.pm⟩
      · rw [g, if_neg (by omega), if_neg (by omega)]; exact P.hi a (by omega) hn
      · rw [g]
        have hk' : G p k = k := P.hi k (Nat.le_refl _) (by omega)
        split
        · rw [hk']; omega
        · split
          · have := P.lo (a - 1) (by omega); omega
          · have := P.lo a (by omega); omega
    refine bin_sp O f _ (k + 1) (by omega) (by omega) P' fun a b hab hb => ?_
    have hk' : G p k = k := P.hi k (Nat.le_refl _) (by omega)
    rw [g, g]
    repeat' split
    all_goals first
      | (exfalso; omega)
      | exact .inl (hhi _ (by omega) (by omega))
      | (refine Lx.of (hlo _ (by omega)) ?_; rw [hk']; exact P.lo _ (by omega))
      | exact S _ _ (by omega) (by omega)
theorem sort_sp (O : SWO lt) (h2 : 1 ≤ n) : KSp lt n (fun p => PI n p n ∧ Srt lt p n) (kas_sort n) := by
  unfold kas_sort
  have hr : ∀ a, a < n → G (List.toArray (List.range n)) a = a := fun a ha => by simp [G, ha]
  have P0 : PI n (List.toArray (List.range n)) 0 := ⟨by simp, Nat.zero_le _, fun a _ ha => hr a ha, fun a ha => by omega, Array.Perm.refl _⟩
  refine KSp.bind ((count_sp O h2 P0).mono fun r h => ?_)
  obtain ⟨m, p⟩ := r
  obtain ⟨hm1, hm2, P, S⟩ := h
  dsimp only at hm1 hm2 P S ⊢
  by_cases hlt : m < n
  · rw [if_pos hlt, show max m 1 = m by omega]
    exact bin_sp O (n - m) p m hm1 (by omega) P S
  · rw [if_neg hlt]
    have e : m = n := by omega
    subst e; exact ⟨P, S⟩
end
end
section
open PySem PySem.W PySem.Calls PyProof.Rows
set_option maxRecDepth 100000
abbrev tupL (xs : List Value) (n : Nat) : Obj := { cls := .type "tuple", data := .seq xs.toArray n }
abbrev lstL (xs : List Value) (n : Nat) : Obj := { cls := .type "list", data := .seq xs.toArray n }
/-- all that stood stands -/
def Kps (h h' : Heap) : Prop := ∀ b o, h.get? b = some o → h'.get? b = some o
theorem Kps.refl (h : Heap) : Kps h h := fun _ _ e => e
theorem Kps.trans {a b c : Heap} (x : Kps a b) (y : Kps b c) : Kps a c := fun d o e => y d o (x d o e)
/-- what stood and is not hidden is in the ground -/
def Hid (h : Heap) (as : List Addr) (g : Heap) : Prop := ∀ b o, b ∉ as → h.get? b = some o → g.get? b = some o
theorem Hid.fresh {h g h' : Heap} {as : List Addr} {L' : Addr} {D : Addr} {o : Obj} {news' : List (Addr × Obj)} (H : Hid h as g) (N' : News g L' h' news') (hm : (D, o) ∈ news') (hl : D ∉ as) : ∀ b o, h.get? b = some o → b ≠ D := by
  rintro b o' e rfl
  have e1 := H b o' hl e
  rw [(N' _ hm).2.2] at e1
  cases e1
def AllNe (d : Nat) : List (Addr × Obj) → Prop
  | [] => True
  | p :: r => (@Ne Nat p.1 d) ∧ AllNe d r
theorem allNe_of {d : Addr} : ∀ {l : List (Addr × Obj)}, (∀ p ∈ l, p.1 ≠ d) → AllNe d l
  | [], _ => trivial
  | _ :: _, h => ⟨h _ (.head _), allNe_of fun q hq => h q (.tail _ hq)⟩
theorem allNe_fresh {h h₀ : Heap} {L D : Addr} {news : List (Addr × Obj)} (N : News h₀ L h news) (f : ∀ b o, h.get? b = some o → b ≠ D) : AllNe D news := allNe_of fun p hp => f p.1 p.2 (N p hp).1
def Kept (h : Heap) (as : List Addr) (h' : Heap) (P : Prop) : Prop := (∀ b o, b ∉ as → h.get? b = some o → h'.get? b = some o) → P
theorem Kept.of {h h' h₀ : Heap} {L : Addr} {W news' : List (Addr × Obj)} {P : Prop} (N : News h₀ L h W) (N' : News h₀ L h' news') (sub : ∀ p ∈ W, p ∈ news') (k : Kps h h' → P) : Kept h (W.map (·.1)) h' P := by
  intro hk
  refine k fun b o e => ?_
  by_cases hb : b ∈ W.map (·.1)
  · obtain ⟨q, hq, rfl⟩ := List.mem_map.mp hb
    have e1 := (N q hq).1
    rw [e] at e1
    cases e1
    exact (N' q (sub q hq)).1
  · exact hk b o hb e

section
variable {prog : Program} {w : World} {A A₀ : Around} {E : Value → Shared → Prop} {s : Shared} {K : Frag} {C L : Addr} {h₀ base : Heap} {m mg mb : Str → Option Value} {news : List (Addr × Obj)} {p : Program} {loose : List Str} {mean : ExcName → Option Value} {Q : Value → Shared → Prop}
theorem code_defW {env : Env} {outer : List Env} {R : Result → Shared → Prop} {name qual : Str} {params : Arguments} {body : List Stmt} {scope : Scope} {dV kV doc pm cdv ct oc : Value} {an od : Option Addr} {osl : Array (Option Value)} {f : Addr} {args : Args} {binds : List (Str × Value)}
    (B : Below A₀ base outer h₀) (F : Fr h₀ L s.heap m) (X₀ : K.In h₀) (N : News h₀ L s.heap news) (T : Top p loose mean mg mb h₀) (hA : A.frames = some (env :: outer)) (hf : env.frame = some L) (hke : env.scope.kind = .function)
    (ho : K.lookup f = some ⟨oc, od, .func (fnOf name qual params body scope dV kV doc pm an cdv ct), osl⟩) (hcd : codeIn K cdv qual = true) (hroom : A.depth < recursionLimit)
    (hbind : BindsTo s (fnOf name qual params body scope dV kV doc pm an cdv ct) args binds) (hloc : ∀ y ∈ binds, scope.names.lookup y.1 = some .local)
    (h : ∀ g L' h₁, Hid s.heap (news.map (·.1)) g → Fr h₀ L g m → Fr g L' h₁ (fun y => binds.reverse.lookup y) → News g L' h₁ news → Below A base (env :: outer) g → K.In g → Top p loose mean mg mb g →
      wpAny (model prog w) (A.deeper (envOf qual scope L' f cdv)) (execs body (envOf qual scope L' f cdv))
        (fun fl s' => LeaveK h₀ L m g (fun r s' => Kept s.heap (news.map (·.1)) s'.heap (R r s')) (match fl with | .ret v => v | _ => .none) s')
        (fun e s' => wpAny (model prog w) (A.deeper (envOf qual scope L' f cdv)) (leaving (envOf qual scope L' f cdv) e) (fun _ s'' => R (.error e) s'') (fun e' s'' => R (.error e') s'') s')
        { s with heap := h₁, toks := s.toks + binds.length })
    (hco : scope.isCoroutine = false) (hgen : scope.isGenerator = false) (hk : scope.kind = .function)
    (hcell : ∀ x ∈ scope.names, x.2 ≠ .cell) : codeAny (model prog w) A (.call (.ref f) args) R s := by
  obtain ⟨FG, BG, st, lv⟩ := groundX (R := R) B F N hA hf hke
  refine codeAny_call_def (fd := fnOf name qual params body scope dV kV doc pm an cdv ct) (body := body) (binds := binds) hroom ((X₀.keeps F.keep) _ _ ho) rfl (T.nolimit.keeps F.keep) (codeRec_of (X₀.keeps F.keep) hcd) rfl hbind hcell hloc (fun h₁ hns hk₁ => ?_) hco hgen hk
  refine wpAny_mono (h _ s.heap.objs.size h₁ (fun b o hb e => hideAll_get _ e hb) FG ⟨hns, fun b o e => hk₁ b o (of_hideAll _ e), Nat.le_of_eq (hideAll_size _ _)⟩
    (fun p hp => ⟨hk₁ _ _ (N p hp).1, Nat.ne_of_lt (Heap.lt_size (N p hp).1), hideAll_none _ (List.mem_map_of_mem hp)⟩) BG (X₀.keeps st) (T.keeps st)) (fun fl s' hl => lv _ _ ?_) fun _ _ y => y
  obtain ⟨L', m', news', F', N', k⟩ := hl
  exact ⟨L', m', news', F', N', fun a b => k a b fun b o hb e => F'.keep b o (hideAll_get _ e hb)⟩
end
end
section
open PySem PySem.W PySem.Calls PyProof.Rows
set_option maxRecDepth 100000
structure Row where
  n : Int
  s : Str
  i : Int
abbrev sLt (a b : Str) : Bool := decide (a.cps.toList < b.cps.toList)
/-- is_ahead's answer -/
def aheadB (r0 r1 : Bool) (a b : Row) : Bool := if (a.s != b.s) = true then sLt a.s b.s != r0 else if a.i ≠ b.i then decide (a.i < b.i) != r1 else decide (a.n < b.n)
/-- the law's own answer -/
theorem ahead_1 {r0 r1 : Bool} {n1 n2 i1 i2 : Int} {s1 s2 : Str} (h : (s1 != s2) = true) : (sLt s1 s2 != r0) = aheadB r0 r1 ⟨n1, s1, i1⟩ ⟨n2, s2, i2⟩ := by
  unfold aheadB; rw [if_pos h]
theorem ahead_2 {r0 r1 : Bool} {n1 n2 i1 i2 : Int} {s1 s2 : Str} (h : (s1 != s2) = false) (h' : i1 ≠ i2) : (decide (i1 < i2) != r1) = aheadB r0 r1 ⟨n1, s1, i1⟩ ⟨n2, s2, i2⟩ := by
  unfold aheadB; rw [if_neg (by rw [h]; exact Bool.false_ne_true), if_pos h']
theorem ahead_3 {r0 r1 : Bool} {n1 n2 i1 i2 : Int} {s1 s2 : Str} (h : (s1 != s2) = false) (h' : i1 = i2) : decide (n1 < n2) = aheadB r0 r1 ⟨n1, s1, i1⟩ ⟨n2, s2, i2⟩ := by
  unfold aheadB; rw [if_neg (by rw [h]; exact Bool.false_ne_true), if_neg (fun q => q h')]
theorem str_eq_of {a b : Str} (h : a.cps.toList = b.cps.toList) : a = b := Str.ext' (Array.toList_inj.mp h)
theorem ne_of_slt {a b : Str} (h : a.cps.toList < b.cps.toList) : (a != b) = true := by
  rw [bne_iff_ne]; intro e; rw [e] at h; exact List.lt_irrefl _ h
theorem ne_of_sgt {a b : Str} (h : b.cps.toList < a.cps.toList) : (a != b) = true := by
  rw [bne_iff_ne]; intro e; rw [e] at h; exact List.lt_irrefl _ h
theorem eq_of_nslt {a b : Str} (h : ¬ a.cps.toList < b.cps.toList) (h' : ¬ b.cps.toList < a.cps.toList) : (a != b) = false := by
  rw [str_eq_of (List.le_antisymm (List.not_lt.mp h') (List.not_lt.mp h))]; simp
theorem slt_asymm {a b : Str} (h : a.cps.toList < b.cps.toList) : ¬ b.cps.toList < a.cps.toList := fun h' => List.lt_irrefl _ (List.lt_trans h h')
section
variable {r0 r1 : Bool} {n1 n2 i1 i2 : Int} {s1 s2 : Str}
theorem la_a (hr : r0 = true) (h : s2.cps.toList < s1.cps.toList) : true = aheadB r0 r1 ⟨n1, s1, i1⟩ ⟨n2, s2, i2⟩ := by
  rw [← ahead_1 (ne_of_sgt h), hr, show sLt s1 s2 = false from decide_eq_false (slt_asymm h)]; rfl
theorem la_b (hr : r0 = false) (h : s1.cps.toList < s2.cps.toList) : true = aheadB r0 r1 ⟨n1, s1, i1⟩ ⟨n2, s2, i2⟩ := by
  rw [← ahead_1 (ne_of_slt h), hr, show sLt s1 s2 = true from decide_eq_true h]; rfl
theorem la_c (hr : r0 = true) (h : s1.cps.toList < s2.cps.toList) : false = aheadB r0 r1 ⟨n1, s1, i1⟩ ⟨n2, s2, i2⟩ := by
  rw [← ahead_1 (ne_of_slt h), hr, show sLt s1 s2 = true from decide_eq_true h]; rfl
theorem la_d (hr : r0 = false) (h : s2.cps.toList < s1.cps.toList) : false = aheadB r0 r1 ⟨n1, s1, i1⟩ ⟨n2, s2, i2⟩ := by
  rw [← ahead_1 (ne_of_sgt h), hr, show sLt s1 s2 = false from decide_eq_false (slt_asymm h)]; rfl
theorem la_e (h1 : ¬ s1.cps.toList < s2.cps.toList) (h2 : ¬ s2.cps.toList < s1.cps.toList) (hr : r1 = true) (h : i2 < i1) : true = aheadB r0 r1 ⟨n1, s1, i1⟩ ⟨n2, s2, i2⟩ := by
  rw [← ahead_2 (eq_of_nslt h1 h2) (by omega), hr, decide_eq_false (by omega)]; rfl
theorem la_f (h1 : ¬ s1.cps.toList < s2.cps.toList) (h2 : ¬ s2.cps.toList < s1.cps.toList) (hr : r1 = false) (h : i1 < i2) : true = aheadB r0 r1 ⟨n1, s1, i1⟩ ⟨n2, s2, i2⟩ := by
  rw [← ahead_2 (eq_of_nslt h1 h2) (by omega), hr, decide_eq_true h]; rfl
theorem la_g (h1 : ¬ s1.cps.toList < s2.cps.toList) (h2 : ¬ s2.cps.toList < s1.cps.toList) (hr : r1 = true) (h : i1 < i2) : false = aheadB r0 r1 ⟨n1, s1, i1⟩ ⟨n2, s2, i2⟩ := by
  rw [← ahead_2 (eq_of_nslt h1 h2) (by omega), hr, decide_eq_true h]; rfl
theorem la_h (h1 : ¬ s1.cps.toList < s2.cps.toList) (h2 : ¬ s2.cps.toList < s1.cps.toList) (hr : r1 = false) (h : i2 < i1) : false = aheadB r0 r1 ⟨n1, s1, i1⟩ ⟨n2, s2, i2⟩ := by
  rw [← ahead_2 (eq_of_nslt h1 h2) (by omega), hr, decide_eq_false (by omega)]; rfl
theorem la_i (h1 : ¬ s1.cps.toList < s2.cps.toList) (h2 : ¬ s2.cps.toList < s1.cps.toList) (h : ¬ i1 < i2) (h' : ¬ i2 < i1) : decide (n1 < n2) = aheadB r0 r1 ⟨n1, s1, i1⟩ ⟨n2, s2, i2⟩ := by
  rw [← ahead_3 (eq_of_nslt h1 h2) (by omega)]
end
end
section
open PySem PySem.W PySem.Calls PyProof.Rows
local macro_rules | `(tactic| ktr_unf) => `(tactic| (have hz : PySem.Challenge.rw_nz0272_01 = PySem.Challenge.rw_nz0272_01 ∧ hd.heap_39 = hd.heap_39 := ⟨rfl, rfl⟩; revert hz; k_fill; intro hz; clear hz))
section
local macro_rules | `(tactic| ktr_rel) => `(tactic| (refine' code_defW ?k1 ?k2 ?k3 ?k4 ?k5 ?kA ?kF ?kK ?k6 ?k7 ?k8 ?k9 ?kB ?_ ?c2 ?c3 ?c4 ?c5; (case kA | kF => exact rfl); (case kK => assumption); (case k1 | k2 | k3 | k4 | k5 => k_asm); (case k6 | k7 => k_is); (case k8 => ktr_room); (case k9 => exact BindsTo.of_eq rfl); (case c5 => decide); (case kB => exact locs rfl); (case c2 | c3 | c4 => exact rfl); k_whole; intro g' L' h' hG' FG' F' N' B' X' T'; (try dsimp only); (try k_lift B'); (try k_fold)))
section
open PySem PySem.W PySem.Calls PyProof.Rows
set_option maxRecDepth 100000
set_option maxHeartbeats 4000000
theorem is_ahead_leaf {prog p : Program} {w : World} {loose : List Str} {mean : ExcName → Option Value} {mg mb : Str → Option Value}
    {dp un : Nat} {gd : Option (List Code)} {cn : Str} {cs : Scope} {a : Addr} {ccd : Value} {cl : List (Str × Addr)} {outer : List Env} {A₀ : Around} {base h₀ : Heap} {L : Addr} {m : Str → Option Value} {s : Shared} {Q E : Value → Shared → Prop}
    (B : Below A₀ base outer h₀) (F : Fr h₀ L s.heap m) (X : (hd.heap_39 w.params).In h₀) (T : Top p loose mean mg mb h₀) (hk : cs.kind = .function)
    (hd : dp + 4 < recursionLimit) (hu : un + 40 < cLine)
    {kl k0 k1 a1 l1 a2 l2 : Addr} {e0 e1 e2 e3 e4 e5 e6 : Nat} {x0 x1 s1 s2 : Str} {r0 r1 : Bool} {n1 n2 i1 i2 : Int} {t0 t1 t2 t3 t4 t5 t6 t7 : Tok}
    (N : News h₀ L s.heap [(kl, lstL [.ref k0, .ref k1] e0), (k0, tupL [.str x0 t0, .bool r0] e1), (k1, tupL [.str x1 t1, .bool r1] e2),
      (a1, tupL [.int n1 t2, .ref l1] e3), (l1, lstL [.str s1 t3, .int i1 t4] e4), (a2, tupL [.int n2 t5, .ref l2] e5), (l2, lstL [.str s2 t6, .int i2 t7] e6)])
    (ret : ∀ h' tk' b, b = aheadB r0 r1 ⟨n1, s1, i1⟩ ⟨n2, s2, i2⟩ → Kps s.heap h' → Q (.bool b) { s with heap := h', toks := tk' }) :
    wpAny (model prog w) (ktrTop dp un gd cn cs L a ccd cl outer) (call (.ref 92) [.ref kl, .ref a1, .ref a2]) Q E s := by
  w_top off
  ktr_unf
  refine wpAny_call ?_
  k_dflt ktr_rel
  k_steps
  all_goals (
    refine' Kept.of N ?kn ?ks ?_
    (case kn => assumption)
    (case ks => (intro q hq; repeat (first | assumption | refine List.Mem.tail _ ?_)))
    intro hkp
    refine ret _ _ _ ?_ hkp
    first | exact ahead_1 (by assumption) | exact ahead_2 (by assumption) (by assumption) | exact ahead_3 (by assumption) (by assumption))
end
section
open PySem PySem.W PySem.Calls PyProof.Rows
set_option maxRecDepth 100000
set_option maxHeartbeats 4000000
theorem law_ahead_leaf {prog p : Program} {w : World} {loose : List Str} {mean : ExcName → Option Value} {mg mb : Str → Option Value}
    {dp un : Nat} {gd : Option (List Code)} {cn : Str} {cs : Scope} {a : Addr} {ccd : Value} {cl : List (Str × Addr)} {outer : List Env} {A₀ : Around} {base h₀ : Heap} {L : Addr} {m : Str → Option Value} {s : Shared} {Q E : Value → Shared → Prop}
    (B : Below A₀ base outer h₀) (F : Fr h₀ L s.heap m) (X : (hd.heap_39 w.params).In h₀) (T : Top p loose mean mg mb h₀) (hk : cs.kind = .function)
    (hd : dp + 4 < recursionLimit) (hu : un + 40 < cLine)
    {kl k0 k1 a1 l1 a2 l2 : Addr} {e0 e1 e2 e3 e4 e5 e6 : Nat} {x0 x1 s1 s2 : Str} {r0 r1 : Bool} {n1 n2 i1 i2 : Int} {t0 t1 t2 t3 t4 t5 t6 t7 : Tok}
    (N : News h₀ L s.heap [(kl, lstL [.ref k0, .ref k1] e0), (k0, tupL [.str x0 t0, .bool r0] e1), (k1, tupL [.str x1 t1, .bool r1] e2),
      (a1, tupL [.int n1 t2, .ref l1] e3), (l1, lstL [.str s1 t3, .int i1 t4] e4), (a2, tupL [.int n2 t5, .ref l2] e5), (l2, lstL [.str s2 t6, .int i2 t7] e6)])
    (ret : ∀ h' tk' b, b = aheadB r0 r1 ⟨n1, s1, i1⟩ ⟨n2, s2, i2⟩ → Kps s.heap h' → Q (.bool b) { s with heap := h', toks := tk' }) :
    wpAny (model prog w) (ktrTop dp un gd cn cs L a ccd cl outer) (call (.ref 113) [.ref kl, .ref a1, .ref a2]) Q E s := by
  w_top off
  ktr_unf
  refine wpAny_call ?_
  k_dflt ktr_rel
  k_steps
  all_goals (
    refine' Kept.of N ?kn ?ks ?_
    (case kn => assumption)
    (case ks => (intro q hq; repeat (first | assumption | refine List.Mem.tail _ ?_)))
    intro hkp
    refine ret _ _ _ ?_ hkp
    first | exact la_a (by assumption) (by assumption) | exact la_b (by assumption) (by assumption) | exact la_c (by assumption) (by assumption) | exact la_d (by assumption) (by assumption) | exact la_e (by assumption) (by assumption) (by assumption) (by assumption) | exact la_f (by assumption) (by assumption) (by assumption) (by assumption) | exact la_g (by assumption) (by assumption) (by assumption) (by assumption) | exact la_h (by assumption) (by assumption) (by assumption) (by assumption) | exact la_i (by assumption) (by assumption) (by assumption) (by assumption))
end
section
open PySem PySem.W PySem.Calls PyProof.Rows
set_option maxRecDepth 100000
def RowIn (news : List (Addr × Obj)) (v : Value) (r : Row) : Prop :=
  ∃ a l e e' t t1 t2, v = .ref a ∧ (a, tupL [.int r.n t, .ref l] e) ∈ news ∧ (l, lstL [.str r.s t1, .int r.i t2] e') ∈ news
def KeysIn (news : List (Addr × Obj)) (kl : Addr) (r0 r1 : Bool) : Prop :=
  ∃ k0 k1 e0 e1 e2 x0 x1 t0 t1, (kl, lstL [.ref k0, .ref k1] e0) ∈ news ∧ (k0, tupL [.str x0 t0, .bool r0] e1) ∈ news ∧ (k1, tupL [.str x1 t1, .bool r1] e2) ∈ news
theorem RowIn.mono {n n' : List (Addr × Obj)} {v : Value} {r : Row} (h : RowIn n v r) (hs : ∀ p ∈ n, p ∈ n') : RowIn n' v r := by
  obtain ⟨a, l, e, e', t, t1, t2, h1, h2, h3⟩ := h
  exact ⟨a, l, e, e', t, t1, t2, h1, hs _ h2, hs _ h3⟩
theorem KeysIn.mono {n n' : List (Addr × Obj)} {kl : Addr} {r0 r1 : Bool} (h : KeysIn n kl r0 r1) (hs : ∀ p ∈ n, p ∈ n') : KeysIn n' kl r0 r1 := by
  obtain ⟨k0, k1, e0, e1, e2, x0, x1, t0, t1, h1, h2, h3⟩ := h
  exact ⟨k0, k1, e0, e1, e2, x0, x1, t0, t1, hs _ h1, hs _ h2, hs _ h3⟩
section
variable {prog p : Program} {w : World} {loose : List Str} {mean : ExcName → Option Value} {mg mb : Str → Option Value}
    {dp un : Nat} {gd : Option (List Code)} {cn : Str} {cs : Scope} {a : Addr} {ccd : Value} {cl : List (Str × Addr)} {outer : List Env} {A₀ : Around} {base h₀ : Heap} {L : Addr} {m : Str → Option Value} {s : Shared} {Q E : Value → Shared → Prop}
    {news : List (Addr × Obj)} {kl : Addr} {r0 r1 : Bool} {v1 v2 : Value} {q1 q2 : Row}
theorem is_ahead_c (B : Below A₀ base outer h₀) (F : Fr h₀ L s.heap m) (X : (hd.heap_39 w.params).In h₀) (T : Top p loose mean mg mb h₀) (hk : cs.kind = .function)
    (hd : dp + 4 < recursionLimit) (hu : un + 40 < cLine) (N : News h₀ L s.heap news) (hK : KeysIn news kl r0 r1) (h1 : RowIn news v1 q1) (h2 : RowIn news v2 q2)
    (ret : ∀ h' tk', Kps s.heap h' → Q (.bool (aheadB r0 r1 q1 q2)) { s with heap := h', toks := tk' }) :
    wpAny (model prog w) (ktrTop dp un gd cn cs L a ccd cl outer) (call (.ref 92) [.ref kl, v1, v2]) Q E s := by
  obtain ⟨k0, k1, e0, e1, e2, x0, x1, t0, t1, m1, m2, m3⟩ := hK
  obtain ⟨a1, l1, e3, e4, t2, t3, t4, rfl, m4, m5⟩ := h1
  obtain ⟨a2, l2, e5, e6, t5, t6, t7, rfl, m6, m7⟩ := h2
  have N' : News h₀ L s.heap [(kl, lstL [.ref k0, .ref k1] e0), (k0, tupL [.str x0 t0, .bool r0] e1), (k1, tupL [.str x1 t1, .bool r1] e2),
      (a1, tupL [.int q1.n t2, .ref l1] e3), (l1, lstL [.str q1.s t3, .int q1.i t4] e4), (a2, tupL [.int q2.n t5, .ref l2] e5), (l2, lstL [.str q2.s t6, .int q2.i t7] e6)] := fun p hp => N p (by
    simp only [List.mem_cons, List.not_mem_nil, or_false] at hp
    rcases hp with rfl | rfl | rfl | rfl | rfl | rfl | rfl <;> assumption)
  exact is_ahead_leaf B F X T hk hd hu N' fun h' tk' b hb => hb ▸ ret h' tk'
theorem law_ahead_c (B : Below A₀ base outer h₀) (F : Fr h₀ L s.heap m) (X : (hd.heap_39 w.params).In h₀) (T : Top p loose mean mg mb h₀) (hk : cs.kind = .function)
    (hd : dp + 4 < recursionLimit) (hu : un + 40 < cLine) (N : News h₀ L s.heap news) (hK : KeysIn news kl r0 r1) (h1 : RowIn news v1 q1) (h2 : RowIn news v2 q2)
    (ret : ∀ h' tk', Kps s.heap h' → Q (.bool (aheadB r0 r1 q1 q2)) { s with heap := h', toks := tk' }) :
    wpAny (model prog w) (ktrTop dp un gd cn cs L a ccd cl outer) (call (.ref 113) [.ref kl, v1, v2]) Q E s := by
  obtain ⟨k0, k1, e0, e1, e2, x0, x1, t0, t1, m1, m2, m3⟩ := hK
  obtain ⟨a1, l1, e3, e4, t2, t3, t4, rfl, m4, m5⟩ := h1
  obtain ⟨a2, l2, e5, e6, t5, t6, t7, rfl, m6, m7⟩ := h2
  have N' : News h₀ L s.heap [(kl, lstL [.ref k0, .ref k1] e0), (k0, tupL [.str x0 t0, .bool r0] e1), (k1, tupL [.str x1 t1, .bool r1] e2),
      (a1, tupL [.int q1.n t2, .ref l1] e3), (l1, lstL [.str q1.s t3, .int q1.i t4] e4), (a2, tupL [.int q2.n t5, .ref l2] e5), (l2, lstL [.str q2.s t6, .int q2.i t7] e6)] := fun p hp => N p (by
    simp only [List.mem_cons, List.not_mem_nil, or_false] at hp
    rcases hp with rfl | rfl | rfl | rfl | rfl | rfl | rfl <;> assumption)
  exact law_ahead_leaf B F X T hk hd hu N' fun h' tk' b hb => hb ▸ ret h' tk'
end
/-- the rows of a list -/
def RowsIn (news : List (Addr × Obj)) (vs : List Value) (rs : List Row) : Prop := vs.length = rs.length ∧ ∀ (i : Nat) v r, vs[i]? = some v → rs[i]? = some r → RowIn news v r
end
section
open PySem PySem.W PySem.Calls PyProof.Rows
set_option maxRecDepth 100000
section
variable {prog : Program} {w : World} {A : Around} {E : Value → Shared → Prop} {s : Shared} {h₀ : Heap} {L : Addr} {m : Str → Option Value} {news : List (Addr × Obj)} {l : Addr} {vs : List Value} {e : Nat} {Q : Value → Shared → Prop}
theorem isListL (N : News h₀ L s.heap news) (hm : (l, lstL vs e) ∈ news) : s.heap.IsList l vs.toArray := ⟨_, (N _ hm).1, rfl, _, rfl⟩
theorem my_len (N : News h₀ L s.heap news) (hm : (l, lstL vs e) ∈ news) (hz : vs.length < 1000) (h : Q (.int (vs.length : Nat) (s.toks + 1)) { s with toks := s.toks + 1 + 1 }) : wpAny (model prog w) A (call (.builtin "len") [.ref l]) Q E s := by
  refine Calls.call_len_list (isListL N hm) (by simp only [List.size_toArray]; omega) ?_
  simpa using h
theorem my_item {value slice : PySem.Expr} {k : Int} {u : Tok} {v : Value} (N : News h₀ L s.heap news) (hm : (l, lstL vs e) ∈ news) (h0 : 0 ≤ k) (hhi : k < 2 ^ 63) (hx : vs[k.toNat]? = some v) (h : Q v s)
    (hs : subscripted slice false (.ref l) (.int k u) = operate [.ref l, .int k u] (getItem (.ref l) (.int k u)) := by with_unfolding_all rfl) :
    wpAny (model prog w) A (subscriptTail value slice (.ref l) (.int k u)) Q E s :=
  tail_any (isListL N hm).typeIs slot_list_getitem.lookup (wpAny_getItem_list (isListL N hm) h0 hhi (by simpa using hx) h) hs
end
structure Stp (P : Prop) : Prop where
  out : P
theorem stp_while {prog : Program} {w : World} {A : Around} {E : Value → Shared → Prop} {s : Shared} {env : Env} {test : PySem.Expr} {body orelse : List Stmt} {pos : Pos} {Q : Flow → Shared → Prop} (h : Stp (WhlRest prog w A E env test body orelse Q 0 s)) :
    wpAny (model prog w) A (exec (.While test body orelse pos) env) Q E s := whl_start 0 h.out
theorem whl_split {a b : Int} {T F : Prop} (h1 : a < b → T) (h2 : ¬ a < b → F) : WhlIf (decide (a < b)) T F := by
  by_cases h : a < b
  · exact WhlIf.yes (by simp [h]) (h1 h)
  · exact WhlIf.no (by simp [h]) (h2 h)
/-- a while of two ints and one more name -/
theorem whl_two {prog : Program} {w : World} {A : Around} {E : Value → Shared → Prop} {env : Env} {test : PySem.Expr} {body orelse : List Stmt} {Q : Flow → Shared → Prop} {g : Heap} {news : List (Addr × Obj)} {s : Shared} {m₀ : Str → Option Value}
    (x y z : Str) (hxy : x ≠ y) (hxz : x ≠ z) (hyz : y ≠ z) (I : Int → Int → Prop)
    (turn : ∀ lo hi t t' u h tk, I lo hi → Fr g env.locals h (fun n => if n = x then some (.int lo t) else if n = y then some (.int hi t') else if n = z then u else m₀ n) → News g env.locals h news →
      (∀ lo' hi' t t' u h' tk', I lo' hi' → (hi' - lo').toNat < (hi - lo).toNat → Fr g env.locals h' (fun n => if n = x then some (.int lo' t) else if n = y then some (.int hi' t') else if n = z then u else m₀ n) → News g env.locals h' news →
        WhlRest prog w A E env test body orelse Q 0 { s with heap := h', toks := tk' }) →
      WhlRest prog w A E env test body orelse Q 1 { s with heap := h, toks := tk })
    {lo hi : Int} {t t' : Tok} (hI : I lo hi) (F : Fr g env.locals s.heap m₀) (N : News g env.locals s.heap news) (hx : m₀ x = some (.int lo t)) (hy : m₀ y = some (.int hi t')) :
    WhlRest prog w A E env test body orelse Q 0 s := by
  have all : ∀ (d : Nat) lo hi t t' u h tk, (hi - lo).toNat = d → I lo hi → Fr g env.locals h (fun n => if n = x then some (.int lo t) else if n = y then some (.int hi t') else if n = z then u else m₀ n) → News g env.locals h news →
      WhlRest prog w A E env test body orelse Q 0 { s with heap := h, toks := tk } := by
    intro d
    induction d using Nat.strongRecOn with
    | _ d ih =>
      intro lo hi t t' u h tk hd hI F N
      exact turn lo hi t t' u h tk hI F N fun lo' hi' t t' u h' tk' hI' hlt F' N' => ih _ (hd ▸ hlt) lo' hi' t t' u h' tk' rfl hI' F' N'
  refine all _ lo hi t t' (m₀ z) s.heap s.toks rfl hI ?_ N
  have e : (fun n => if n = x then some (Value.int lo t) else if n = y then some (Value.int hi t') else if n = z then m₀ z else m₀ n) = m₀ := by
    funext n
    by_cases h1 : n = x
    · subst h1; simp [hx]
    · by_cases h2 : n = y
      · subst h2; simp [h1, hy]
      · by_cases h3 : n = z
        · subst h3; simp [h1, h2]
        · simp [h1, h2, h3]
  rw [e]; exact F
def WhlPostS (prog : Program) (w : World) (A : Around) (E : Value → Shared → Prop) (env : Env) (test : PySem.Expr) (body orelse : List Stmt) (Q : Flow → Shared → Prop) (f : Flow) (s : Shared) : Prop :=
  match f with
  | .next => Stp (WhlRest prog w A E env test body orelse Q 0 s)
  | .cont => Stp (WhlRest prog w A E env test body orelse Q 0 s)
  | .brk => Q .next s
  | .ret v => Q (.ret v) s
theorem whl_turnS {prog : Program} {w : World} {A : Around} {E : Value → Shared → Prop} {s : Shared} {env : Env} {test : PySem.Expr} {body orelse : List Stmt} {Q : Flow → Shared → Prop} (hE : PassesOwn (model prog w) A env E)
    (h : wpAny (model prog w) A (isTrue test env (eval test env)) (fun b s₂ => WhlIf b (wpAny (model prog w) A (execs body env) (WhlPostS prog w A E env test body orelse Q) E s₂) (wpAny (model prog w) A (execs orelse env) Q E s₂)) E s) :
    WhlRest prog w A E env test body orelse Q 1 s := by
  refine whl_turn hE (wpAny_mono h (fun b s₂ h₂ => ?_) fun _ _ e => e)
  cases b with
  | false => exact WhlIf.no rfl h₂
  | true =>
    have h₃ : wpAny (model prog w) A (execs body env) (WhlPostS prog w A E env test body orelse Q) E s₂ := h₂
    refine WhlIf.yes rfl (wpAny_mono h₃ (fun f s₃ h₄ => ?_) fun _ _ e => e)
    cases f with
    | next => exact h₄.out
    | cont => exact h₄.out
    | brk => exact h₄
    | ret v => exact h₄
theorem fr_eqm {g h : Heap} {L : Addr} {m m' : Str → Option Value} (F : Fr g L h m) (e : ∀ n, m n = m' n) : Fr g L h m' := (funext e : m = m') ▸ F
/-- the binary search's word -/
structure BInv (r0 r1 : Bool) (q : Row) (rs : List Row) (lo hi : Int) : Prop where
  a : 0 ≤ lo
  b : lo ≤ hi
  c : hi ≤ (rs.length : Int)
  d : ∀ (i : Nat) r, (i : Int) < lo → rs[i]? = some r → aheadB r0 r1 r q = true
  e : ∀ (i : Nat) r, hi ≤ (i : Int) → rs[i]? = some r → aheadB r0 r1 r q = false
def Mono (r0 r1 : Bool) (q : Row) (rs : List Row) : Prop := ∀ (i j : Nat) ri rj, i ≤ j → rs[i]? = some ri → rs[j]? = some rj → aheadB r0 r1 rj q = true → aheadB r0 r1 ri q = true
section
variable {r0 r1 : Bool} {q : Row} {rs : List Row} {lo hi : Int} {r : Row}
theorem BInv.start : BInv r0 r1 q rs 0 (rs.length : Int) :=
  ⟨by omega, by omega, by omega, fun i r h => by omega, fun i r h hr => by have := (List.getElem?_eq_some_iff.mp hr).1; omega⟩
theorem BInv.mid0 (h : BInv r0 r1 q rs lo hi) (hl : lo < hi) : 0 ≤ (lo + hi).fdiv 2 := by
  have := h.a; rw [Int.fdiv_eq_ediv_of_nonneg _ (by decide)]; omega
theorem BInv.mid1 (h : BInv r0 r1 q rs lo hi) (hl : lo < hi) : (lo + hi).fdiv 2 < (rs.length : Int) := by
  have := h.a; have := h.c; rw [Int.fdiv_eq_ediv_of_nonneg _ (by decide)]; omega
theorem BInv.up (h : BInv r0 r1 q rs lo hi) (M : Mono r0 r1 q rs) (hl : lo < hi) (hr : rs[((lo + hi).fdiv 2).toNat]? = some r) (hc : aheadB r0 r1 r q = true) : BInv r0 r1 q rs ((lo + hi).fdiv 2 + 1) hi := by
  have ha := h.a
  have hcc := h.c
  rw [Int.fdiv_eq_ediv_of_nonneg _ (by decide)] at hr ⊢
  exact ⟨by omega, by omega, h.c, fun i r' hi' hr' => M i _ r' r (by omega) hr' hr hc, h.e⟩
theorem BInv.dn (h : BInv r0 r1 q rs lo hi) (M : Mono r0 r1 q rs) (hl : lo < hi) (hr : rs[((lo + hi).fdiv 2).toNat]? = some r) (hc : aheadB r0 r1 r q = false) : BInv r0 r1 q rs lo ((lo + hi).fdiv 2) := by
  have ha := h.a
  have hcc := h.c
  rw [Int.fdiv_eq_ediv_of_nonneg _ (by decide)] at hr ⊢
  refine ⟨h.a, by omega, by omega, h.d, fun i r' hi' hr' => ?_⟩
  cases q' : aheadB r0 r1 r' q with
  | false => rfl
  | true => rw [M _ i r r' (by omega) hr hr' q'] at hc; cases hc
theorem BInv.upm (h : BInv r0 r1 q rs lo hi) (hl : lo < hi) : (hi - ((lo + hi).fdiv 2 + 1)).toNat < (hi - lo).toNat := by
  have := h.a; rw [Int.fdiv_eq_ediv_of_nonneg _ (by decide)]; omega
theorem BInv.dnm (h : BInv r0 r1 q rs lo hi) (hl : lo < hi) : ((lo + hi).fdiv 2 - lo).toNat < (hi - lo).toNat := by
  have := h.a; rw [Int.fdiv_eq_ediv_of_nonneg _ (by decide)]; omega
theorem BInv.done (h : BInv r0 r1 q rs lo hi) (hl : ¬ lo < hi) : ∃ j : Nat, lo = (j : Int) ∧ j ≤ rs.length ∧ (∀ (i : Nat) r, i < j → rs[i]? = some r → aheadB r0 r1 r q = true) ∧ (∀ (i : Nat) r, j ≤ i → rs[i]? = some r → aheadB r0 r1 r q = false) := by
  have ha := h.a; have hb := h.b; have hc := h.c
  exact ⟨lo.toNat, by omega, by omega, fun i r hi => h.d i r (by omega), fun i r hi => h.e i r (by omega)⟩
end
theorem my_item_rows {prog : Program} {w : World} {A : Around} {E : Value → Shared → Prop} {s : Shared} {h₀ : Heap} {L : Addr} {news : List (Addr × Obj)} {l : Addr} {vs : List Value} {e : Nat} {Q : Value → Shared → Prop} {rs : List Row}
    {value slice : PySem.Expr} {k : Int} {u : Tok} (N : News h₀ L s.heap news) (hm : (l, lstL vs e) ∈ news) (hR : RowsIn news vs rs) (hlen : vs.length < 1000) (h0 : 0 ≤ k) (hhi : k < (rs.length : Int)) (h : ∀ v r, rs[k.toNat]? = some r → RowIn news v r → Q v s)
    (hs : subscripted slice false (.ref l) (.int k u) = operate [.ref l, .int k u] (getItem (.ref l) (.int k u)) := by with_unfolding_all rfl) :
    wpAny (model prog w) A (subscriptTail value slice (.ref l) (.int k u)) Q E s := by
  have hz := hR.1
  have h1 : k.toNat < vs.length := by omega
  have h2 : k.toNat < rs.length := by omega
  have e1 : vs[k.toNat]? = some vs[k.toNat] := List.getElem?_eq_getElem h1
  have e2 : rs[k.toNat]? = some rs[k.toNat] := List.getElem?_eq_getElem h2
  exact my_item N hm h0 (by omega) e1 (h _ _ e2 (hR.2 _ _ _ e1 e2)) hs
end
section
open PySem PySem.W PySem.Calls PyProof.Rows
set_option maxRecDepth 100000
set_option maxHeartbeats 4000000
local macro_rules | `(tactic| walk_at "call builtin:len") => `(tactic| (k_here; k_dflt (refine' my_len ?N ?m ?z ?_; (case N => k_asm); (case m | z => assumption))))
local macro_rules | `(tactic| walk_at "WhlIf") => `(tactic| (refine whl_split (fun hlt' => ?_) (fun hge' => ?_)))
local macro_rules | `(tactic| walk_at "exec While Compare cons nil") => `(tactic| (k_here; k_dflt (refine stp_while ?_)))
local macro_rules | `(tactic| walk_at "WhlPostS") => `(tactic| (dsimp only [WhlPostS]))
local macro_rules | `(tactic| walk_at "subscriptTail Name Name ref int") => `(tactic| (k_here; k_dflt (refine' my_item_rows ?N ?m ?R ?z ?a ?b ?_; (case N => k_asm); (case m | R | z => assumption); (case a => exact BInv.mid0 (by assumption) (by assumption)); (case b => exact BInv.mid1 (by assumption) (by assumption))); intro v9 r9 hr9 hR9))
local macro_rules | `(tactic| walk_at "call ref") => `(tactic| (k_here; k_dflt (refine' is_ahead_c ?k1 ?k2 ?k3 ?k4 ?k5 ?kd ?ku ?kN ?kK ?kx ?ky ?_; (case k1 | k2 | k3 | k4 => k_asm); (case k5 => first | exact rfl | assumption); (case kd => ktr_room); (case ku => ktr_units); (case kN => k_asm); (case kK | kx | ky => assumption)); intro h9 tk9 hk9; (rename Fr _ _ _ _ => F9); (rename News _ _ _ _ => N9); (have F9' := F9.keptAll hk9); (have N9' := N9.grown hk9); clear F9 N9))
theorem sorted_place_c {prog p : Program} {w : World} {loose : List Str} {mean : ExcName → Option Value} {mg mb : Str → Option Value}
    {dp un : Nat} {gd : Option (List Code)} {cn : Str} {cs : Scope} {a : Addr} {ccd : Value} {cl : List (Str × Addr)} {outer : List Env} {A₀ : Around} {base h₀ : Heap} {L : Addr} {m : Str → Option Value} {s : Shared} {Q E : Value → Shared → Prop}
    (B : Below A₀ base outer h₀) (F : Fr h₀ L s.heap m) (X : (hd.heap_39 w.params).In h₀) (T : Top p loose mean mg mb h₀) (hk : cs.kind = .function)
    {news : List (Addr × Obj)} {kl rl : Addr} {r0 r1 : Bool} {v : Value} {q : Row} {vs : List Value} {rs : List Row} {e : Nat}
    (hd : dp + 8 < recursionLimit) (hu : un + 60 < cLine) (N : News h₀ L s.heap news) (hK : KeysIn news kl r0 r1) (hq : RowIn news v q) (hl : (rl, lstL vs e) ∈ news) (hR : RowsIn news vs rs) (hlen : vs.length < 1000)
    (hmono : Mono r0 r1 q rs)
    (ret : ∀ h' tk' (j : Nat) t, j ≤ rs.length → (∀ (i : Nat) r, i < j → rs[i]? = some r → aheadB r0 r1 r q = true) → (∀ (i : Nat) r, j ≤ i → rs[i]? = some r → aheadB r0 r1 r q = false) → Kps s.heap h' → Q (.int j t) { s with heap := h', toks := tk' }) :
    wpAny (model prog w) (ktrTop dp un gd cn cs L a ccd cl outer) (call (.ref 99) [.ref kl, .ref rl, v]) Q E s := by
  w_top off
  ktr_unf
  refine wpAny_call ?_
  k_dflt ktr_rel
  k_steps
  all_goals (try k_data)
  rename Fr _ _ _ _ => F9
  rename News _ _ _ _ => N9
  refine Stp.mk ?_
  refine' whl_two (Str.ofString "low") (Str.ofString "high") (Str.ofString "middle") (by decide) (by decide) (by decide) (BInv r0 r1 q rs) ?turn (lo := 0) (hi := (vs.length : Int)) ?I ?F ?N ?hx ?hy
  case F => exact F9
  case N => exact fun p hp => N9 p (.tail _ hp)
  case hx => rfl
  case hy => rfl
  case I => rw [hR.1]; exact BInv.start
  clear F9 N9
  intro lo hi t9 t8 u h8 tk8 hI8 F8 N8 IH8
  refine whl_turnS (by passes_own) ?_
  k_steps
  all_goals (try k_data)
  all_goals first
    | (obtain ⟨j, hj0, hj1, hj2, hj3⟩ := hI8.done (by assumption)
       subst hj0
       refine' Kept.of N ?kn ?ks ?_
       (case kn => assumption)
       (case ks => exact fun q hq => hq)
       intro hkp
       exact ret _ _ j _ hj1 hj2 hj3 hkp)
    | (rename Fr _ _ _ _ => F9
       refine ⟨?_⟩
       refine' IH8 _ _ _ _ _ _ _ (hI8.up hmono (by assumption) (by assumption) (by assumption)) (hI8.upm (by assumption)) (fr_eqm F9 ?e9) (by assumption)
       case e9 =>
         intro n
         by_cases h1 : n = Str.ofString "low"
         · subst h1; rfl
         · by_cases h2 : n = Str.ofString "high"
           · subst h2; rfl
           · by_cases h3 : n = Str.ofString "middle"
             · subst h3; rfl
             · simp only [if_neg h1, if_neg h2, if_neg h3])
    | (rename Fr _ _ _ _ => F9
       refine ⟨?_⟩
       refine' IH8 _ _ _ _ _ _ _ (hI8.dn hmono (by assumption) (by assumption) (by assumption)) (hI8.dnm (by assumption)) (fr_eqm F9 ?e9) (by assumption)
       case e9 =>
         intro n
         by_cases h1 : n = Str.ofString "low"
         · subst h1; rfl
         · by_cases h2 : n = Str.ofString "high"
           · subst h2; rfl
           · by_cases h3 : n = Str.ofString "middle"
             · subst h3; rfl
             · simp only [if_neg h1, if_neg h2, if_neg h3])
end
section
open PySem PySem.W PySem.Calls PyProof.Rows
set_option maxRecDepth 100000
theorem not_in_of {D : Addr} {big news : List (Addr × Obj)} (h : ∀ p ∈ big, p.1 < D) (sub : ∀ p ∈ news, p ∈ big) : D ∉ news.map (·.1) := by
  intro hm
  obtain ⟨p, hp, e⟩ := List.mem_map.mp hm
  exact Nat.lt_irrefl _ (e ▸ h p (sub p hp) : D < D)
theorem slice_up (vs : List Value) (j : Nat) : (slicePick vs.toArray none (some (j : Int)) none).toList = vs.take j := by
  rw [slicePick_upto']
theorem slice_dn (vs : List Value) (j : Nat) : (slicePick vs.toArray (some (j : Int)) none none).toList = vs.drop j := by
  rw [slicePick_from']
theorem size_1000 {vs : List Value} (h : vs.length < 1000) : vs.toArray.size ≤ sizeLine := by
  rw [List.size_toArray, sizeLine_eq]; omega
section
variable {prog : Program} {w : World} {A : Around} {E : Value → Shared → Prop} {s : Shared} {h₀ : Heap} {L : Addr} {m : Str → Option Value} {news : List (Addr × Obj)}
theorem my_add {l b : Addr} {vs ws : List Value} {e e' : Nat} {Q : Value → Shared → Prop} (F : Fr h₀ L s.heap m) (N : News h₀ L s.heap news) (ha : (l, lstL vs e) ∈ news) (hb : (b, lstL ws e') ∈ news) (hz : vs.length + ws.length ≤ 10000)
    (h : ∀ D h', Fr h₀ L h' m → News h₀ L h' ((D, lstL (vs ++ ws) 0) :: news) → (∀ p ∈ news, p.1 < D) → Q (.ref D) { s with heap := h' }) :
    wpAny (model prog w) A (binaryOp .Add (.ref l) (.ref b)) Q E s :=
  add_arrays F N (isListL N ha) (isListL N hb) (fun h' F' N' => h _ h' F' (by simpa using N') fun p hp => Heap.lt_size (N p hp).1) (by rw [List.size_toArray, List.size_toArray, sizeLine_eq]; omega)
end
end
section
open PySem PySem.W PySem.Calls PyProof.Rows
set_option maxRecDepth 100000
set_option maxHeartbeats 4000000
local macro_rules | `(tactic| walk_at "call ref") => `(tactic| (k_here; k_dflt (refine' sorted_place_c ?k1 ?k2 ?k3 ?k4 ?k5 ?kd ?ku ?kN ?kK ?kx ?kl ?kR ?kz ?km ?_; (case k1 | k2 | k3 | k4 => k_asm); (case k5 => first | exact rfl | assumption); (case kd => ktr_room); (case ku => ktr_units); (case kN => k_asm); (case kK | kx | kl | kR | kz | km => assumption)); intro h9 tk9 j9 t9 hj1 hj2 hj3 hk9; (rename Fr _ _ _ _ => F9); (rename News _ _ _ _ => N9); (have F9' := F9.keptAll hk9); (have N9' := N9.grown hk9); clear F9 N9))
local macro_rules | `(tactic| walk_at "subscriptTail Name Slice ref ref") => `(tactic| (k_here; k_dflt (refine' kmk_slice_lit ?F ?N ?l ?p ?q ?e ?_ ?s ?t ?z; (case F | N => k_asm); (case l => first | exact isListL (by assumption) (by assumption) | exact isListL (by assumption) (List.Mem.tail _ (by assumption)) | exact isListL (by assumption) (List.Mem.tail _ (List.Mem.tail _ (by assumption))) | exact isListL (by assumption) (List.Mem.tail _ (List.Mem.tail _ (List.Mem.tail _ (by assumption)))) | exact isListL (by assumption) (List.Mem.tail _ (List.Mem.tail _ (List.Mem.tail _ (List.Mem.tail _ (by assumption)))))); (case p | q => kmk_part); (case e => first | exact slice_up _ _ | exact slice_dn _ _); (case s => with_unfolding_all rfl); (case t => kmk_pure); (case z => exact size_1000 (by assumption))); intro D' h' F' N' l1))
local macro_rules | `(tactic| walk_at "binaryOp Add ref ref") => `(tactic| (k_here; k_dflt (refine' my_add ?F ?N ?a ?b ?z ?_; (case F | N => k_asm); (case a | b => k_mem); (case z => (simp only [List.length_append, List.length_take, List.length_drop, List.length_cons, List.length_nil]; omega))); intro D' h' F' N' l1; (have l1f := l1); (try k_lt l1)))
theorem sorted_with_c {prog p : Program} {w : World} {loose : List Str} {mean : ExcName → Option Value} {mg mb : Str → Option Value}
    {dp un : Nat} {gd : Option (List Code)} {cn : Str} {cs : Scope} {a : Addr} {ccd : Value} {cl : List (Str × Addr)} {outer : List Env} {A₀ : Around} {base h₀ : Heap} {L : Addr} {m : Str → Option Value} {s : Shared} {Q E : Value → Shared → Prop}
    (B : Below A₀ base outer h₀) (F : Fr h₀ L s.heap m) (X : (hd.heap_39 w.params).In h₀) (T : Top p loose mean mg mb h₀) (hk : cs.kind = .function)
    {news : List (Addr × Obj)} {kl rl : Addr} {r0 r1 : Bool} {v : Value} {q : Row} {vs : List Value} {rs : List Row} {e : Nat}
    (hd : dp + 12 < recursionLimit) (hu : un + 80 < cLine) (N : News h₀ L s.heap news) (hK : KeysIn news kl r0 r1) (hq : RowIn news v q) (hl : (rl, lstL vs e) ∈ news) (hR : RowsIn news vs rs) (hlen : vs.length < 1000)
    (hmono : Mono r0 r1 q rs)
    (ret : ∀ h' tk' (j : Nat) D e', j ≤ rs.length → (∀ (i : Nat) r, i < j → rs[i]? = some r → aheadB r0 r1 r q = true) → (∀ (i : Nat) r, j ≤ i → rs[i]? = some r → aheadB r0 r1 r q = false) → Kps s.heap h' → News h₀ L h' ((D, lstL (vs.take j ++ [v] ++ vs.drop j) e') :: news) → (∀ b o, s.heap.get? b = some o → b ≠ D) → Q (.ref D) { s with heap := h', toks := tk' }) :
    wpAny (model prog w) (ktrTop dp un gd cn cs L a ccd cl outer) (call (.ref 106) [.ref kl, .ref rl, v]) Q E s := by
  w_top off
  ktr_unf
  refine wpAny_call ?_
  k_dflt ktr_rel
  k_steps
  all_goals (try k_data)
  refine' Kept.of N ?kn ?ks ?_
  case kn => assumption
  case ks => (intro q hq; repeat (first | assumption | refine List.Mem.tail _ ?_))
  intro hkp
  rename News _ _ _ _ => N9
  refine' ret _ _ _ _ 0 ?a ?b ?c hkp ?d ?f
  case a => assumption
  case b => assumption
  case c => assumption
  case d =>
    intro q hq
    refine N9 q ?_
    rcases List.mem_cons.mp hq with rfl | hq
    · exact .head _
    · repeat (first | assumption | refine List.Mem.tail _ ?_)
  case f =>
    refine Hid.fresh (by assumption) (by assumption) (.head _) (not_in_of (by assumption) ?_)
    intro q hq
    repeat (first | assumption | refine List.Mem.tail _ ?_)
end
section
open PySem PySem.W PySem.Calls PyProof.Rows PySem.Spec
set_option maxRecDepth 100000
section
variable {prog : Program} {w : World} {A : Around} {E : Value → Shared → Prop} {s : Shared} {h₀ : Heap} {L : Addr} {m : Str → Option Value} {env : Env}
theorem striter_st {x : Str} {t : Tok} {I : Addr} : ∀ (i : Nat) (h h' : Heap) (o : Obj) (nw : List (Addr × Obj)), h.IsStrIter I "str_ascii_iterator" x t i → h.get? I = some o → h'.get? I = some o → (∀ b o, h₀.get? b = some o → h'.get? b = some o) → News h₀ L h' nw → True → h'.IsStrIter I "str_ascii_iterator" x t i := by
  intro i h h' o nw st e e' _ _ _
  obtain ⟨o', q, r⟩ := st
  rw [e] at q; cases q
  exact ⟨o, e', r⟩
def SrcS (prog : Program) (w : World) (A : Around) (h₀ : Heap) (L : Addr) (m : Str → Option Value) (env : Env) (elt : PySem.Expr) (x : Str) (scope : Scope) (cl : List (Str × Addr)) (Fin : Shared → List Value → List (Addr × Obj) → Prop) (xv : Value) (s₁ : Shared) : Prop :=
  ∃ tx t news, xv = .str tx t ∧ tx.cps.all (· < 128) = true ∧ A.handled = none ∧ Fr h₀ L s₁.heap m ∧ News h₀ L s₁.heap news ∧ tx.cps.size ≤ sizeLine ∧
      ∀ s₂ : Shared, (∃ h, s₂ = { s₁ with heap := h }) → LCg.CompRest prog w A h₀ L m env elt x scope cl s₂ (fun _ => True) (SignAt tx) (Fin s₂) tx.cps.size 0 [] news
structure ElS (news : List (Addr × Obj)) (r : Str) (y : Value) (news' : List (Addr × Obj)) : Prop where
  a : news' = news
  b : ∃ t : Tok, y = .str r t
theorem str_rest {elt : PySem.Expr} {x : Str} {scope : Scope} {cl : List (Str × Addr)} {Fin : List Value → List (Addr × Obj) → Prop} {news : List (Addr × Obj)} {tx : Str} (f : Nat → Nat)
    (turn : ∀ c t I oI C oC D m₂ ys h tk (E' : Value → Shared → Prop), c ∈ tx.cps.toList → LCg.NsObj oC m₂ → m₂ x = some (.str ⟨#[c]⟩ t) → Fr h₀ L h m → News h₀ L h ((I, oI) :: (C, oC) :: (D, LCg.lst ys) :: news) → LCg.Off3 I C D news → ((@Ne Nat I C) ∧ (@Ne Nat I D) ∧ (@Ne Nat C D)) →
      wpAny (model prog w) A (eval elt (compEnvC scope cl C env)) (LCg.CompEnd h₀ L m { s with heap := h, toks := tk } I oI C oC D (LCg.lst ys) (fun _ => True) (ElS news ⟨#[f c]⟩)) E' { s with heap := h, toks := tk })
    (fin : ∀ ys, StrsAre ys (tx.cps.toList.map fun c => (⟨#[f c]⟩ : Str)) → Fin ys news) : LCg.CompRest prog w A h₀ L m env elt x scope cl s (fun _ => True) (SignAt tx) Fin tx.cps.size 0 [] news := by
  have key : ∀ (j i : Nat) (ys : List Value), i + j = tx.cps.size → StrsAre ys ((tx.cps.toList.take i).map fun c => (⟨#[f c]⟩ : Str)) → LCg.CompRest prog w A h₀ L m env elt x scope cl s (fun _ => True) (SignAt tx) Fin j i ys news := by
    intro j
    induction j with
    | zero =>
      intro i ys hi hy
      have e : i = tx.cps.toList.length := by rw [Array.length_toList]; omega
      subst e
      rw [List.take_length] at hy
      exact LCg.CompRest.zero (fin ys hy)
    | succ j ih =>
      intro i ys hi hy
      refine LCg.CompRest.succ ?_
      intro v I oI C oC D m₂ h tk E' hv hC hx F N off ne
      obtain ⟨c, t, hc, hv'⟩ := hv
      rw [hv'] at hx
      have hc' : tx.cps.toList[i]? = some c := by rw [Array.getElem?_toList]; exact hc
      refine wpAny_mono (turn c t I oI C oC D m₂ ys h tk E' (List.mem_of_getElem? hc') hC hx F N off ne) (fun y s₂ hq => ?_) fun _ _ e => e
      obtain ⟨h', tk', nw, e, F', N', off', hS, hn, t', hy'⟩ := hq
      rw [hn] at N' off'
      refine ⟨h', tk', news, e, F', N', off', hS, ?_⟩
      rw [hy']
      refine ih (i + 1) _ (by omega) ?_
      rw [List.take_add_one, hc']
      simpa using PySem.W.kct_snoc hy
  exact key tx.cps.size 0 [] (by omega) (by simp only [List.take_zero, List.map_nil]; exact .nil)
theorem ListComp_S {elt iter : PySem.Expr} {x : Str} {px : Pos} {scope : Scope} {cl : List (Str × Addr)} {pos : Pos} {Q : Value → Shared → Prop} (F₀ : Fr h₀ L s.heap m)
    (hclos : closureFor scope env = pure cl) (hcell : ∀ y ∈ scope.names, y.2 ≠ .cell) (hkind : scope.kind = .function)
    (hnames : ∀ y ∈ scope.names, y.2 = .local → scope.names.lookup y.1 = some .local) (hx : scope.names.lookup x = some .local)
    (h : wpAny (model prog w) A (eval iter env) (SrcS prog w A h₀ L m env elt x scope cl (fun s₂ => LCg.FinE h₀ L m s₂ Q)) E s)
    (hs : ∀ x, foldedSetIterable iter env x = pure x := by intro _; rfl) :
    wpAny (model prog w) A (eval (.ListComp elt [⟨.Name x px, iter, [], 0⟩] scope pos) env) Q E s := by
  rw [eval_ListComp]
  refine wpAny_comprehension_free (use := none) rfl hs hclos hkind hnames (wpAny_mono h (fun xv s₁ h₁ => ?_) fun _ _ e => e)
  obtain ⟨tx, t, news, rfl, ha, hh, F, N, hsz, R⟩ := h₁
  refine wpAny_pyIter_ascii ha ?_
  have up : ∀ b o, s₁.heap.get? b = some o → (s₁.heap.push { cls := .type "str_ascii_iterator", data := .fields #[.str tx t, .int 0 0] }).get? b = some o := fun b o e => Heap.get?_push_of_some _ e
  refine LCg.block_U (Walks.strAscii hh s₁.heap.objs.size tx t) hsz (fun i h st => by obtain ⟨o, e, _⟩ := st; exact ⟨o, e⟩) striter_st hcell hkind hx ⟨_, Heap.get?_push_size _ rfl, rfl, rfl⟩ (fun b hb => ?_)
    (F.keeps up) (N.grown up) (Nat.ne_of_lt F.ns.lt) (next_is_new F) (fun p hp => Nat.ne_of_lt (Heap.lt_size (N p hp).1)) trivial (R _ ⟨_, rfl⟩) ?_
  · rw [List.mem_singleton.mp hb]
    show s₁.heap.objs.size < (s₁.heap.push _).objs.size
    rw [Heap.size_push]; exact Nat.lt_succ_self _
  · intro D C h tk m' ys news' F' N' o1 hn hC₀ hD₀ hCL hDL hCD offC fin
    refine ⟨m', hn, fun h'' hs'' => fin D h'' tk (F'.change hs'' hCL hC₀) (fun p hp => ?_) o1⟩
    refine ⟨hs''.extBut _ _ ?_ (N' p hp).1, (N' p hp).2⟩
    rcases List.mem_cons.mp hp with rfl | hp
    · exact Ne.symm hCD
    · exact offC p hp
end
def upc (c : Nat) : Nat := if 97 ≤ c ∧ c ≤ 122 then c - 32 else c
def upS (tx : Str) : Str := Txt.join (Str.ofString "") (tx.cps.toList.map fun c => (⟨#[upc c]⟩ : Str))
theorem up_len (l : List Nat) : ((l.map fun c => (⟨#[upc c]⟩ : Str)).map (·.length)).sum = l.length := by
  induction l with
  | nil => rfl
  | cons a r ih => rw [List.map_cons, List.map_cons, List.sum_cons, ih, List.length_cons]; show 1 + r.length = _; omega
theorem join_up {prog : Program} {w : World} {A : Around} {E : Value → Shared → Prop} {s : Shared} {h₀ : Heap} {L : Addr} {news : List (Addr × Obj)} {D : Addr} {ys : List Value} {tx : Str} {t : Tok} {Q : Value → Shared → Prop}
    (N : News h₀ L s.heap news) (hm : (D, LCg.lst ys) ∈ news) (hys : StrsAre ys (tx.cps.toList.map fun c => (⟨#[upc c]⟩ : Str))) (hz : tx.cps.size < 1000) (h : ∀ t' k, Q (.str (upS tx) t') { s with toks := k }) :
    wpAny (model prog w) A (call (.builtin "str.join") [.str (Str.ofString "") t, .ref D]) Q E s := by
  refine join_list (N.isList hm) (by simpa using hys) ?_ h
  rw [up_len, List.length_map, Array.length_toList]
  show tx.cps.size + tx.cps.size * 0 ≤ 16777216
  omega
theorem lt_sign {c d : Nat} : (({ cps := #[c] } : Str).cps.toList < ({ cps := #[d] } : Str).cps.toList) ↔ c < d := by
  show [c] < [d] ↔ c < d
  constructor
  · intro h
    cases h with
    | rel h => exact h
    | cons h => cases h
  · exact fun h => List.Lex.rel h
theorem a_is : Str.ofString "a" = ({ cps := #[97] } : Str) := by decide +kernel
theorem z_is : Str.ofString "z" = ({ cps := #[122] } : Str) := by decide +kernel
section
variable {c : Nat} {t : Tok} {news : List (Addr × Obj)}
theorem up_a (h : ({ cps := #[c] } : Str).cps.toList < (Str.ofString "a").cps.toList) : ElS news ⟨#[upc c]⟩ (.str ⟨#[c]⟩ t) news := by
  rw [a_is, lt_sign] at h
  refine ⟨rfl, t, ?_⟩
  unfold upc; rw [if_neg (by omega)]
theorem up_b (h : (Str.ofString "z").cps.toList < ({ cps := #[c] } : Str).cps.toList) : ElS news ⟨#[upc c]⟩ (.str ⟨#[c]⟩ t) news := by
  rw [z_is, lt_sign] at h
  refine ⟨rfl, t, ?_⟩
  unfold upc; rw [if_neg (by omega)]
theorem up_lo (h : ¬ ({ cps := #[c] } : Str).cps.toList < (Str.ofString "a").cps.toList) : 0 ≤ (c : Int) - 32 := by
  rw [a_is, lt_sign] at h; omega
theorem up_hi (h : ¬ (Str.ofString "z").cps.toList < ({ cps := #[c] } : Str).cps.toList) : (c : Int) - 32 ≤ 1114111 := by
  rw [z_is, lt_sign] at h; omega
theorem up_c (h : ¬ ({ cps := #[c] } : Str).cps.toList < (Str.ofString "a").cps.toList) (h' : ¬ (Str.ofString "z").cps.toList < ({ cps := #[c] } : Str).cps.toList) : ElS news ⟨#[upc c]⟩ (.str ⟨#[((c : Int) - 32).toNat]⟩ t) news := by
  rw [a_is, lt_sign] at h
  rw [z_is, lt_sign] at h'
  refine ⟨rfl, t, ?_⟩
  unfold upc; rw [if_pos (by omega), show ((c : Int) - 32).toNat = c - 32 by omega]
end
theorem up_from : upS (Str.ofString "From") = Str.ofString "FROM" := by decide +kernel
theorem up_reverse : upS (Str.ofString "reverse") = Str.ofString "REVERSE" := by decide +kernel
theorem up_Reverse : upS (Str.ofString "Reverse") = Str.ofString "REVERSE" := by decide +kernel
theorem up_arrival : upS (Str.ofString "ARRIVAL") = Str.ofString "ARRIVAL" := by decide +kernel
end
section
open PySem PySem.W PySem.Calls PyProof.Rows
set_option maxRecDepth 100000
set_option maxHeartbeats 4000000
local macro_rules | `(tactic| walk_at "eval ListComp") => `(tactic| (k_here; k_dflt (refine ListComp_S (F₀ := by k_asm) (by rfl) (by decide) (by rfl) (by decide) (by rfl) ?_)))
local macro_rules | `(tactic| walk_at "call builtin:str.join") => `(tactic| (k_here; refine join_up (by assumption) (.head _) (by assumption) (by assumption) ?_; intro t' k'))
local macro_rules | `(tactic| walk_at "call builtin:chr") => `(tactic| (k_here; refine chr_of_range (up_lo (by assumption)) (up_hi (by assumption)) ?_))
local macro_rules | `(tactic| walk_at "SrcSX") => `(tactic| ((rename Fr _ _ _ _ => F9); (rename News _ _ _ _ => N9); refine ⟨_, _, _, rfl, by decide, rfl, F9, N9, by decide +kernel, ?_⟩; clear F9 N9; rintro s9 ⟨h9, e9⟩; subst e9; refine str_rest upc (fun c' t' I' oI' C' oC' D' m' ys' h' tk' E' hc' hC' hx' F' N' off' ne' => ?_) (fun ys' hys' => ?_)))
theorem upper_leaf {prog p : Program} {w : World} {loose : List Str} {mean : ExcName → Option Value} {mg mb : Str → Option Value}
    {dp un : Nat} {gd : Option (List Code)} {cn : Str} {cs : Scope} {a : Addr} {ccd : Value} {cl : List (Str × Addr)} {outer : List Env} {A₀ : Around} {base h₀ : Heap} {L : Addr} {m : Str → Option Value} {s : Shared} {Q E : Value → Shared → Prop}
    (B : Below A₀ base outer h₀) (F : Fr h₀ L s.heap m) (X : (hd.heap_39 w.params).In h₀) (T : Top p loose mean mg mb h₀) (hk : cs.kind = .function)
    {tx : Str} {t : Tok} (ha : tx.cps.all (· < 128) = true) (hz : tx.cps.size < 1000)
    (hd : dp + 4 < recursionLimit) (hu : un + 40 < cLine) (N : News h₀ L s.heap [])
    (ret : ∀ h' tk' t', Kps s.heap h' → Q (.str (upS tx) t') { s with heap := h', toks := tk' }) :
    wpAny (model prog w) (ktrTop dp un gd cn cs L a ccd cl outer) (call (.ref 66) [.str (tx) t]) Q E s := by
  w_top off
  ktr_unf
  refine wpAny_call ?_
  k_dflt ktr_rel
  k_steps
  all_goals (try k_data)
  rename Fr _ _ _ _ => F9
  rename News _ _ _ _ => N9
  refine ⟨_, _, _, rfl, ?a9, rfl, F9, N9, ?b9, ?_⟩
  case a9 => exact ha
  case b9 => rw [sizeLine_eq]; omega
  clear F9 N9
  rintro s9 ⟨h9, e9⟩
  subst e9
  refine str_rest upc (fun c' t' I' oI' C' oC' D' m' ys' h' tk' E' hc' hC' hx' F' N' off' ne' => ?_) (fun ys' hys' => ?_)
  · k_steps
    all_goals (try k_data)
    all_goals first
      | exact up_a (by assumption)
      | exact up_b (by assumption)
      | exact up_c (by assumption) (by assumption)
  k_steps
  refine' Kept.of N ?kn ?ks ?_
  case kn => assumption
  case ks => exact fun q hq => nomatch hq
  exact ret _ _ _
end
section
open PySem PySem.W PySem.Calls PyProof.Rows
set_option maxRecDepth 100000
set_option maxHeartbeats 4000000
/-- the list of the words, whatever its tokens -/
def wordsL : List Str := [{ cps := #[65, 82, 82, 73, 86, 65, 76] }, { cps := #[67, 67] }, { cps := #[68, 65, 84, 69] }, { cps := #[68, 73, 83, 80, 76, 65, 89, 70, 82, 79, 77] }, { cps := #[68, 73, 83, 80, 76, 65, 89, 84, 79] }, { cps := #[70, 82, 79, 77] }, { cps := #[83, 73, 90, 69] }, { cps := #[83, 85, 66, 74, 69, 67, 84] }, { cps := #[84, 79] }]
def IsWords (o : Obj) : Prop := ∃ vs e, o = lstL vs e ∧ StrsAre vs wordsL
theorem in_words {prog : Program} {w : World} {A : Around} {E : Value → Shared → Prop} {s : Shared} {h₀ : Heap} {L D : Addr} {news : List (Addr × Obj)} {o : Obj} {k : Str} {t : Tok} {Q : Value → Shared → Prop}
    (N : News h₀ L s.heap news) (hm : (D, o) ∈ news) (hw : IsWords o) (hk : (wordsL.any fun x => x == k) = true) (h : Q (.bool true) s) :
    wpAny (model prog w) A (compareOp .In (.str k t) (.ref D)) Q E s := by
  obtain ⟨vs, e, rfl, ha⟩ := hw
  exact in_list_strs (isListL N hm) ha (by rw [hk]; exact h)
theorem words_leaf {prog p : Program} {w : World} {loose : List Str} {mean : ExcName → Option Value} {mg mb : Str → Option Value}
    {dp un : Nat} {gd : Option (List Code)} {cn : Str} {cs : Scope} {a : Addr} {ccd : Value} {cl : List (Str × Addr)} {outer : List Env} {A₀ : Around} {base h₀ : Heap} {L : Addr} {m : Str → Option Value} {s : Shared} {Q E : Value → Shared → Prop}
    (B : Below A₀ base outer h₀) (F : Fr h₀ L s.heap m) (X : (hd.heap_39 w.params).In h₀) (T : Top p loose mean mg mb h₀) (hk : cs.kind = .function)
    (hd : dp + 4 < recursionLimit) (hu : un + 40 < cLine) (N : News h₀ L s.heap [])
    (ret : ∀ h' tk' D o, Kps s.heap h' → IsWords o → News h₀ L h' [(D, o)] → (∀ b o, s.heap.get? b = some o → b ≠ D) → Q (.ref D) { s with heap := h', toks := tk' }) :
    wpAny (model prog w) (ktrTop dp un gd cn cs L a ccd cl outer) (call (.ref 73) []) Q E s := by
  w_top off
  ktr_unf
  refine wpAny_call ?_
  k_dflt ktr_rel
  k_steps
  all_goals (try k_data)
  refine' Kept.of N ?kn ?ks ?_
  case kn => assumption
  case ks => exact fun q hq => nomatch hq
  intro hkp
  rename News _ _ _ _ => N9
  refine ret _ _ _ _ hkp ⟨_, _, rfl, by repeat constructor⟩ N9 ?_
  exact Hid.fresh (by assumption) (by assumption) (.head _) (by simp)
end
section
open PySem PySem.W PySem.Calls PyProof.Rows
set_option maxRecDepth 100000
@[reducible] def intKd : KeyKind where
  α := Int
  blt a b := decide (a < b)
  irrefl a := by simp
  trans a b c h1 h2 := by simp only [decide_eq_true_eq] at *; omega
  negTrans a b c h := by simp only [decide_eq_true_eq] at *; omega
  total a b h1 h2 := by simp only [decide_eq_false_iff_not] at *; omega
  keyOf v := match v with | .int n _ => some n | _ => none
  dflt := 0
theorem intKd_oneLt : intKd.OneLt := by
  intro prog w A E s x y a b Q ha hb h
  cases x <;> simp only [intKd, reduceCtorEq, Option.some.injEq] at ha
  cases y <;> simp only [intKd, reduceCtorEq, Option.some.injEq] at hb
  cases ha; cases hb
  exact oneLt_int h
/-- one kind of key: how it compares, what its type is -/
structure Kd (κ : KeyKind) (T : Value) : Prop where
  one : κ.OneLt
  ty : ∀ (M : Model) (h : Heap) v k, κ.keyOf v = some k → Looks M h (typeOf v) T
  nt : (T != Value.type "tuple") = true
  rf : (T == T) = true
theorem kd_int : Kd intKd (.type "int") := ⟨intKd_oneLt, fun M h v k e => by
  cases v <;> simp only [intKd, reduceCtorEq] at e
  exact Looks.of_pure rfl, rfl, rfl⟩
theorem kd_str : Kd PyProof.Rows.strKind (.type "str") := ⟨strKind_oneLt, fun M h v k e => by
  cases v <;> simp only [PyProof.Rows.strKind, reduceCtorEq] at e
  exact Looks.of_pure rfl, rfl, rfl⟩
/-- the order of a stable sort, forward or reversed, on places -/
def MRel (κ : KeyKind) (b : Bool) (kz : List κ.α) (i j : Nat) : Prop :=
  (if b then κ.blt (kz.getD j κ.dflt) (kz.getD i κ.dflt) = true else κ.blt (kz.getD i κ.dflt) (kz.getD j κ.dflt) = true) ∨
    (κ.blt (kz.getD i κ.dflt) (kz.getD j κ.dflt) = false ∧ κ.blt (kz.getD j κ.dflt) (kz.getD i κ.dflt) = false ∧ i < j)
def MOut (κ : KeyKind) (b : Bool) (kz : List κ.α) (vs out : List Value) : Prop :=
  ∃ ps : List Nat, ps.Perm (List.range vs.length) ∧ out = ps.map (fun i => vs.getD i Value.none) ∧ ps.Pairwise (MRel κ b kz)
def KeysAre (κ : KeyKind) (vs : List Value) (kz : List κ.α) : Prop := vs.map κ.keyOf = kz.map some
theorem KeysAre.length {κ : KeyKind} {vs : List Value} {kz : List κ.α} (h : KeysAre κ vs kz) : vs.length = kz.length := by
  have := congrArg List.length h; simpa using this
theorem KeysAre.get {κ : KeyKind} {vs : List Value} {kz : List κ.α} (h : KeysAre κ vs kz) {i : Nat} (hi : i < vs.length) : κ.keyOf (vs.getD i Value.none) = some (kz.getD i κ.dflt) := by
  have hz : i < kz.length := by rw [← h.length]; exact hi
  have e : (vs.map κ.keyOf)[i]? = (kz.map some)[i]? := by rw [h]
  rw [List.getElem?_map, List.getElem?_map, List.getElem?_eq_getElem hi, List.getElem?_eq_getElem hz] at e
  simp only [Option.map_some, Option.some.injEq] at e
  rw [List.getD_eq_getElem?_getD, List.getD_eq_getElem?_getD, List.getElem?_eq_getElem hi, List.getElem?_eq_getElem hz]
  exact e
def MskEnd (κ : KeyKind) (h₀ : Heap) (L : Addr) (m : Str → Option Value) (need : List (Addr × Obj)) (k : κ.α) (s₁ : Shared) (v : Value) (s₂ : Shared) : Prop :=
  ∃ h' tk, s₂ = { s₁ with heap := h', toks := tk } ∧ κ.keyOf v = some k ∧ Fr h₀ L h' m ∧ News h₀ L h' need
theorem swo_of (κ : KeyKind) (f : Nat → κ.α) : SWO (fun i j => κ.blt (f i) (f j)) :=
  ⟨fun a => κ.irrefl _, fun a b c h1 h2 => κ.trans _ _ _ h1 h2, fun a b c h => κ.negTrans _ _ _ h⟩
theorem pi_list {n : Nat} {p : Array Nat} (P : PI n p n) : p.toList.Perm (List.range n) := by
  simpa using Array.perm_iff_toList_perm.mp P.pm
theorem srt_list {lt : Nat → Nat → Bool} {n : Nat} {p : Array Nat} (P : PI n p n) (S : Srt lt p n) : p.toList.Pairwise (Lx lt) := by
  rw [List.pairwise_iff_getElem]
  intro i j hi hj hij
  have hi' : i < p.size := by simpa using hi
  have hj' : j < p.size := by simpa using hj
  have z := S i j hij (by rw [← P.sz]; exact hj')
  have g : ∀ a (ha : a < p.size), G p a = p[a] := fun a ha => by unfold G; simp [Array.getD, ha]
  rw [g i hi', g j hj'] at z
  simpa using z
/-- the run's end, forward -/
theorem mout_ff {κ : KeyKind} {kz : List κ.α} {vs : List Value} {p : Array Nat} (P : PI vs.length p vs.length) (S : Srt (fun i j => κ.blt (kz.getD i κ.dflt) (kz.getD j κ.dflt)) p vs.length) : MOut κ false kz vs (p.toList.map fun i => vs.getD i Value.none) := by
  refine ⟨p.toList, pi_list P, rfl, (srt_list P S).imp fun {x y} h => ?_⟩
  rcases h with h | h
  · exact .inl (by simpa using h)
  · exact .inr h
/-- the run's end, reversed -/
theorem mout_tt {κ : KeyKind} {kz : List κ.α} {vs : List Value} {p : Array Nat} (P : PI vs.length p vs.length)
    (S : Srt (fun i j => κ.blt (kz.getD (vs.length - 1 - i) κ.dflt) (kz.getD (vs.length - 1 - j) κ.dflt)) p vs.length) : MOut κ true kz vs ((p.toList.map fun i => vs.getD (vs.length - 1 - i) Value.none).reverse) := by
  have hp := pi_list P
  have hb : ∀ x, x ∈ p.toList → x < vs.length := fun x hx => List.mem_range.mp (hp.mem_iff.mp hx)
  refine ⟨(p.toList.map fun i => vs.length - 1 - i).reverse, ?_, ?_, ?_⟩
  · refine (List.reverse_perm _).trans ((hp.map _).trans ?_)
    have e : (List.range vs.length).map (fun i => vs.length - 1 - i) = (List.range vs.length).reverse := by
      apply List.ext_getElem?
      intro i
      by_cases hi : i < vs.length
      · rw [List.getElem?_map, List.getElem?_range hi, List.getElem?_reverse (by simpa using hi)]
        simp only [List.length_range, Option.map_some]
        rw [List.getElem?_range (by omega)]
      · rw [List.getElem?_eq_none (by simpa using hi), List.getElem?_eq_none (by simpa using hi)]
    rw [e]; exact List.reverse_perm _
  · rw [← List.map_reverse, ← List.map_reverse, List.map_map]; rfl
  · rw [List.pairwise_reverse, List.pairwise_map]
    refine (srt_list P S).imp_of_mem fun {x y} hx hy h => ?_
    have hx' := hb x hx
    have hy' := hb y hy
    rcases h with h | ⟨h1, h2, h3⟩
    · exact .inl (by simpa using h)
    · exact .inr ⟨h2, h1, by omega⟩
end
section
open PySem PySem.W PySem.Calls PyProof.Rows
set_option maxRecDepth 100000
set_option maxHeartbeats 4000000
section
variable {prog : Program} {w : World} {A : Around} {E : Value → Shared → Prop} {s : Shared} {h₀ : Heap} {L : Addr} {m : Str → Option Value} {news : List (Addr × Obj)} {a kS : Addr} {b : Bool} {vs : List Value} {κ : PyProof.Rows.KeyKind} {T : Value} {kz : List κ.α} {keys : Array Value} {e e1 : Nat} {P : PySem.Fin → Shared → Prop}
theorem msk_tail_ {st : SortSt} (F : Fr h₀ L s.heap m) (N : News h₀ L s.heap (news ++ [(kS, seqObj "list" keys e), (a, seqObj "list" #[] e1)])) (hka : kS ≠ a) (hnk : ∀ p ∈ news, p.1 ≠ kS) (hna : ∀ p ∈ news, p.1 ≠ a)
    (hsz : keys.size = vs.length) (h64 : vs.length < 64) (hsz2 : (arrOf st).size = vs.length) (hfl : failedOf st = none)
    (hm : MOut κ b kz vs (if b then ((arrOf st).map (·.2)).reverse else (arrOf st).map (·.2)).toList)
    (h : ∀ h' tk out c, Fr h₀ L h' m → News h₀ L h' ((a, seqObj "list" out c) :: news) → MOut κ b kz vs out.toList → P (.done (.ret .none)) { s with heap := h', toks := tk }) :
    wpAny (model prog w) A (ksk_tail a b e1 (.ref kS) st) P E s := by
  have nk := N (kS, seqObj "list" keys e) (List.mem_append_right _ (.head _))
  have na := N (a, seqObj "list" #[] e1) (List.mem_append_right _ (.tail _ (.head _)))
  have Nn : News h₀ L s.heap news := fun p hp => N p (List.mem_append_left _ hp)
  have hout : (if b then ((arrOf st).map (·.2)).reverse else (arrOf st).map (·.2)).size = vs.length := by
    cases b with
    | false => simp only [Bool.false_eq_true, if_false, Array.size_map]; exact hsz2
    | true => simp only [if_true, Array.size_reverse, Array.size_map]; exact hsz2
  have s1 := Heap.SameBut.update s.heap kS (Obj.mapSeq fun _ => (#[] : Array Value))
  have na1 : (s.heap.update kS (Obj.mapSeq fun _ => (#[] : Array Value))).get? a = some (seqObj "list" #[] e1) := (s1.2 a hka.symm).trans na.1
  have s2 := Heap.SameBut.update (s.heap.update kS (Obj.mapSeq fun _ => (#[] : Array Value))) a (Obj.mapSeq fun _ => if b then ((arrOf st).map (·.2)).reverse else (arrOf st).map (·.2))
  have hc2 : ∀ X : Array Value, ∃ c2, ((s.heap.update kS (Obj.mapSeq fun _ => (#[] : Array Value))).update a (Obj.mapSeq fun _ => X)).get? a = some (seqObj "list" X c2) := fun X => ⟨_, get?_update_seq na1 fun _ => X⟩
  obtain ⟨c2, hc2⟩ := hc2 (if b then ((arrOf st).map (·.2)).reverse else (arrOf st).map (·.2))
  have N2 := ksk_news (ksk_news Nn s1 hnk) s2 hna
  unfold ksk_tail
  try dsimp only
  refine wpAny_bind (listUpdate_at nk.1 rfl ?_ (by rw [hsz, sizeLine_eq]; omega) (Nat.zero_le _))
  refine wpAny_bind (wpAny_letGo ?_)
  refine wpAny_bind (seqEpoch_at na1 rfl ?_)
  refine wpAny_bind (listUpdate_at na1 rfl ?_ (Nat.zero_le _) (Nat.le_trans (Nat.le_of_eq hout) (by rw [sizeLine_eq]; omega)))
  rw [hfl]
  simp only [bne_self_eq_false, Bool.false_eq_true, if_false]
  refine wpAny_pure (h _ _ _ c2 (ksk_fr (ksk_fr F s1 nk.2.1 nk.2.2) s2 na.2.1 na.2.2) (fun p hp => ?_) hm)
  rcases List.mem_cons.mp hp with rfl | hp
  · exact ⟨hc2, na.2⟩
  · exact N2 p hp
theorem msk_item (keys : Array Value) (vs : List Value) (hsz : keys.size = vs.length) {i : Nat} (hi : i < vs.length) : kas_item (keys.zip vs.toArray) i = (keys.toList.getD i Value.none, vs.getD i Value.none) := by
  have h1 : i < (keys.zip vs.toArray).size := by rw [Array.size_zip, hsz, List.size_toArray, Nat.min_self]; exact hi
  have h2 : i < keys.size := by omega
  unfold kas_item
  rw [Array.getD, dif_pos h1]
  show (keys.zip vs.toArray)[i] = _
  rw [Array.getElem_zip]
  rw [List.getD_eq_getElem?_getD, List.getD_eq_getElem?_getD, List.getElem?_eq_getElem hi, List.getElem?_eq_getElem (by simpa using h2)]
  simp
theorem msk_itemR (keys : Array Value) (vs : List Value) (hsz : keys.size = vs.length) {i : Nat} (hi : i < vs.length) : kas_item (keys.zip vs.toArray).reverse i = (keys.toList.getD (vs.length - 1 - i) Value.none, vs.getD (vs.length - 1 - i) Value.none) := by
  have hz : (keys.zip vs.toArray).size = vs.length := by rw [Array.size_zip, hsz, List.size_toArray, Nat.min_self]
  rw [← msk_item keys vs hsz (show vs.length - 1 - i < vs.length by omega)]
  unfold kas_item
  have h1 : i < (keys.zip vs.toArray).reverse.size := by rw [Array.size_reverse, hz]; exact hi
  have h2 : vs.length - 1 - i < (keys.zip vs.toArray).size := by omega
  rw [Array.getD, dif_pos h1, Array.getD, dif_pos h2]
  show (keys.zip vs.toArray).reverse[i] = (keys.zip vs.toArray)[vs.length - 1 - i]
  rw [Array.getElem_reverse]
  simp only [hz]
theorem msk_end_ (D : Kd κ T) (F : Fr h₀ L s.heap m) (N : News h₀ L s.heap (news ++ [(kS, seqObj "list" keys e), (a, seqObj "list" #[] e1)])) (hka : kS ≠ a) (hnk : ∀ p ∈ news, p.1 ≠ kS) (hna : ∀ p ∈ news, p.1 ≠ a)
    (hk : KeysAre κ keys.toList kz) (hlen : kz.length = vs.length) (h64 : vs.length < 64)
    (h : ∀ h' tk out c, Fr h₀ L h' m → News h₀ L h' ((a, seqObj "list" out c) :: news) → MOut κ b kz vs out.toList → P (.done (.ret .none)) { s with heap := h', toks := tk }) :
    wpAny (model prog w) A (ksk_end a b vs.toArray e1 (.ref kS) keys) P E s := by
  have hsz : keys.size = vs.length := by
    have h1 := hk.length
    rw [Array.length_toList] at h1
    omega
  have hzs : (keys.zip vs.toArray).size = vs.length := by rw [Array.size_zip, hsz, List.size_toArray, Nat.min_self]
  have step : ∀ t : Sem PySem.Fin, wpAny (model prog w) A t P E s → wpAny (model prog w) A (if b = true then (do let _ ← rule "list.sort.reverse"; t) else t) P E s := by
    intro t ht
    split
    · exact wpAny_bind (wpAny_rule ht)
    · exact ht
  have hsi : (if b = true then (keys.zip vs.toArray).reverse else keys.zip vs.toArray).size = vs.length := by
    cases b with
    | false => exact hzs
    | true => rw [if_pos rfl, Array.size_reverse]; exact hzs
  -- the items' places
  have arr : ∀ p : Array Nat, PI vs.length p vs.length → Srt (fun i j => κ.blt (kz.getD (if b then vs.length - 1 - i else i) κ.dflt) (kz.getD (if b then vs.length - 1 - j else j) κ.dflt)) p vs.length →
      MOut κ b kz vs (if b then ((p.map (kas_item (if b = true then (keys.zip vs.toArray).reverse else keys.zip vs.toArray))).map (·.2)).reverse else (p.map (kas_item (if b = true then (keys.zip vs.toArray).reverse else keys.zip vs.toArray))).map (·.2)).toList := by
    intro p PP SS
    have hb : ∀ x, x ∈ p.toList → x < vs.length := fun x hx => List.mem_range.mp ((pi_list PP).mem_iff.mp hx)
    cases b with
    | false =>
      simp only [Bool.false_eq_true, if_false] at SS ⊢
      have e2 : ((p.map (kas_item (keys.zip vs.toArray))).map (·.2)).toList = p.toList.map fun i => vs.getD i Value.none := by
        rw [Array.toList_map, Array.toList_map, List.map_map]
        exact List.map_congr_left fun i hi => by show (kas_item _ i).2 = _; rw [msk_item keys vs hsz (hb i hi)]
      rw [e2]; exact mout_ff PP SS
    | true =>
      simp only [if_true] at SS ⊢
      have e2 : (((p.map (kas_item (keys.zip vs.toArray).reverse)).map (·.2)).reverse).toList = (p.toList.map fun i => vs.getD (vs.length - 1 - i) Value.none).reverse := by
        rw [Array.toList_reverse, Array.toList_map, Array.toList_map, List.map_map]
        congr 1
        exact List.map_congr_left fun i hi => by show (kas_item _ i).2 = _; rw [msk_itemR keys vs hsz (hb i hi)]
      rw [e2]; exact mout_tt PP SS
  unfold ksk_end
  try dsimp only
  refine step _ ?_
  have est : ∀ kd, SortSt.mk' kd (if b = true then (keys.zip vs.toArray).reverse else keys.zip vs.toArray) #[] 7 none = kas_st kd (if b = true then (keys.zip vs.toArray).reverse else keys.zip vs.toArray) (List.toArray (List.range vs.length)) := by
    intro kd
    have e := kas_range (if b = true then (keys.zip vs.toArray).reverse else keys.zip vs.toArray)
    rw [hsi] at e
    show _ = SortSt.mk' kd ((List.toArray (List.range vs.length)).map (kas_item (if b = true then (keys.zip vs.toArray).reverse else keys.zip vs.toArray))) #[] 7 none
    rw [e]
  by_cases h2 : vs.toArray.size < 2
  · rw [if_pos h2, if_pos h2]
    refine wpAny_bind (wpAny_pure ?_)
    rw [StateT.run_pure]
    refine wpAny_bind (wpAny_pure ?_)
    try dsimp only
    rw [est]
    rw [List.size_toArray] at h2
    refine msk_tail_ (st := kas_st general' _ (List.toArray (List.range vs.length))) F N hka hnk hna hsz h64 ?_ rfl ?_ h
    · show ((List.toArray (List.range vs.length)).map _).size = _
      rw [Array.size_map]; simp
    · refine arr (List.toArray (List.range vs.length)) ⟨by simp, Nat.le_refl _, fun a h1 h2 => by omega, fun a ha => ?_, Array.Perm.refl _⟩ fun a b hab hb => by omega
      unfold G; simp [ha]
  · rw [if_neg h2, if_neg h2]
    rw [List.size_toArray] at h2
    obtain ⟨ks, rfl⟩ : ∃ ks : List Value, keys = ks.toArray := ⟨keys.toList, by simp⟩
    have hkl : ks.length = vs.length := by simpa using hsz
    refine wpAny_bind (kas_kind (by omega) (fun v hv => ?_) D.nt D.rf ?_)
    · obtain ⟨i, hi, rfl⟩ := List.mem_iff_getElem.mp hv
      have g := hk.get (i := i) (by simpa using hi)
      rw [List.getD_eq_getElem?_getD, List.getElem?_eq_getElem (by simpa using hi)] at g
      exact D.ty _ _ _ _ (by simpa using g)
    rw [est]
    have key : ∀ i, i < vs.length → κ.keyOf (kas_item (if b = true then (ks.toArray.zip vs.toArray).reverse else ks.toArray.zip vs.toArray) i).1 = some (kz.getD (if b then vs.length - 1 - i else i) κ.dflt) := by
      intro i hi
      cases b with
      | false => simp only [Bool.false_eq_true, if_false]; rw [msk_item _ vs hsz hi]; exact hk.get (by simpa using (by omega : i < ks.length))
      | true => simp only [if_true]; rw [msk_itemR _ vs hsz hi]; exact hk.get (by simpa using (by omega : vs.length - 1 - i < ks.length))
    have sp := sort_sp (n := vs.length) (swo_of κ fun i => kz.getD (if b then vs.length - 1 - i else i) κ.dflt) (by omega)
    have ask := KSp.wp (cmp := kas_cmp prog w A oneType' (if b = true then (ks.toArray.zip vs.toArray).reverse else ks.toArray.zip vs.toArray)) (s := s) (G := fun p s' => s' = s ∧ PI vs.length p vs.length ∧ Srt (fun i j => κ.blt (kz.getD (if b then vs.length - 1 - i else i) κ.dflt) (kz.getD (if b then vs.length - 1 - j else j) κ.dflt)) p vs.length)
      (fun i j C hi hj hC => ?_) (fun p hp => ⟨rfl, hp⟩) sp
    · refine wpAny_bind (wpAny_mono (kas_runs (E := E) (Q := fun _ st' s' => s' = s ∧ (arrOf st').size = vs.length ∧ failedOf st' = none ∧ MOut κ b kz vs (if b then ((arrOf st').map (·.2)).reverse else (arrOf st').map (·.2)).toList) (by omega) h64
        (fun p' st' s' h1 h3 h4 h5 => ⟨h5.1, by rw [h3, Array.size_map]; exact h1, h4, by rw [h3]; exact arr p' h5.2.1 h5.2.2⟩) ask) ?_ fun _ _ e => e)
      rintro ⟨⟨⟩, st'⟩ s' ⟨rfl, h1, h3, h4⟩
      try dsimp only
      exact msk_tail_ F N hka hnk hna hsz h64 h1 h3 h4 h
    · show wpAny (model prog w) A (keyLt' oneType' _ _) C _ s
      rw [keyLt'_oneType]
      exact D.one prog w A _ s _ _ _ _ (key i hi) (key j hj) hC
end
end
section
open PySem PySem.W PySem.Calls PyProof.Rows
set_option maxRecDepth 100000
set_option maxHeartbeats 4000000
theorem keysAre_snoc {κ : PyProof.Rows.KeyKind} {vs : List Value} {kz : List κ.α} {v : Value} {k : κ.α} (h : KeysAre κ vs kz) (hv : κ.keyOf v = some k) : KeysAre κ (vs ++ [v]) (kz ++ [k]) := by
  unfold KeysAre at h ⊢
  rw [List.map_append, List.map_append, h]
  simp [hv]
section
variable {prog : Program} {w : World} {A : Around} {E : Value → Shared → Prop} {s : Shared} {h₀ : Heap} {L : Addr} {m : Str → Option Value} {news : List (Addr × Obj)} {a kS l : Addr} {b : Bool} {vs : List Value} {κ : PyProof.Rows.KeyKind} {T : Value} {kz : List κ.α} {e1 : Nat}
theorem msk_rest_ {P : PySem.Fin → Shared → Prop} {f : Value} (D : Kd κ T) (F : Fr h₀ L s.heap m) (N : News h₀ L s.heap (news ++ [(kS, seqObj "list" #[] 0), (a, seqObj "list" #[] e1)])) (hka : kS ≠ a) (hnk : ∀ p ∈ news, p.1 ≠ kS) (hna : ∀ p ∈ news, p.1 ≠ a)
    (hlen : kz.length = vs.length) (h64 : vs.length < 64)
    (turn : ∀ (i : Nat) (v : Value) (k : κ.α), vs[i]? = some v → kz[i]? = some k → ∀ (h : Heap) (tk : Nat) (own : List (Addr × Obj)), Fr h₀ L h m → News h₀ L h (news ++ own) →
      wpAny (model prog w) A (call f [v]) (MskEnd κ h₀ L m (news ++ own) k { s with heap := h, toks := tk }) (fun _ _ => False) { s with heap := h, toks := tk })
    (h : ∀ h' tk out c, Fr h₀ L h' m → News h₀ L h' ((a, seqObj "list" out c) :: news) → MOut κ b kz vs out.toList → P (.done (.ret .none)) { s with heap := h', toks := tk }) :
    wpAny (model prog w) A (ksk_rest a f b vs.toArray e1 (.ref kS)) P E s := by
  unfold ksk_rest
  refine wpAny_bind (wpAny_rule ?_)
  first
    | rw [List.forIn_toArray]
    | (rw [← Array.forIn_toList]; simp only [List.toList_toArray])
    | rw [← Array.forIn_toList]
  refine wpAny_bind (ksk_fold (fun i s' => ∃ h' tk kA e, s' = { s with heap := h', toks := tk } ∧ Fr h₀ L h' m ∧ News h₀ L h' (news ++ [(kS, seqObj "list" kA e), (a, seqObj "list" #[] e1)]) ∧ KeysAre κ kA.toList (kz.take i)) vs 0 s
    ⟨s.heap, s.toks, #[], 0, rfl, F, N, by simp [KeysAre]⟩ ?step ?done)
  case step =>
    rintro j x s' hx ⟨h', tk, kA, e, rfl, F', N', hk⟩
    simp only [Nat.zero_add] at hk ⊢
    have hj : j < vs.length := (List.getElem?_eq_some_iff.mp hx).1
    obtain ⟨k, hkj⟩ : ∃ k, kz[j]? = some k := ⟨_, List.getElem?_eq_getElem (by omega)⟩
    have hz : kA.size ≤ vs.length := by
      have h1 := hk.length
      rw [Array.length_toList, List.length_take] at h1
      omega
    refine wpAny_bind (wpAny_attempt (wpAny_mono (turn j x k hx hkj h' tk _ F' N') (fun v s'' he => ?_) fun _ _ hF => hF.elim))
    obtain ⟨g, tk2, rfl, hv, F2, N2⟩ := he
    try dsimp only
    have nk := N2 (kS, seqObj "list" kA e) (List.mem_append_right _ (.head _))
    have na := N2 (a, seqObj "list" #[] e1) (List.mem_append_right _ (.tail _ (.head _)))
    have s1 := Heap.SameBut.update g kS (Obj.mapSeq (·.push v))
    obtain ⟨c2, hc2⟩ : ∃ c2, (g.update kS (Obj.mapSeq (·.push v))).get? kS = some (seqObj "list" (kA.push v) c2) := ⟨_, get?_update_seq nk.1 (·.push v)⟩
    have ek : kz.take (j + 1) = kz.take j ++ [k] := by rw [List.take_add_one, hkj]; simp
    have ea : (kA.push v).toList = kA.toList ++ [v] := by simp
    refine wpAny_bind (listUpdate_at nk.1 rfl ?_ (by rw [sizeLine_eq]; omega) (Nat.le_trans (Nat.le_of_eq (Array.size_push ..)) (by rw [sizeLine_eq]; omega)))
    refine wpAny_pure ⟨rfl, _, _, kA.push v, c2, rfl, ksk_fr F2 s1 nk.2.1 nk.2.2, fun p hp => ?_, by rw [ea, ek]; exact keysAre_snoc hk hv⟩
    rcases List.mem_append.mp hp with hp | hp
    · exact ksk_news (fun q hq => N2 q (List.mem_append_left _ hq)) s1 hnk p hp
    · rcases List.mem_cons.mp hp with rfl | hp
      · exact ⟨hc2, nk.2⟩
      · rw [List.mem_singleton.mp hp]
        exact ⟨(s1.2 a hka.symm).trans na.1, na.2⟩
  case done =>
    rintro s' ⟨h', tk, kA, e, rfl, F', N', hk⟩
    have hk' : KeysAre κ kA.toList kz := by
      have e3 : kz.take (0 + vs.length) = kz := List.take_of_length_le (by omega)
      rw [e3] at hk
      exact hk
    have nk := N' (kS, seqObj "list" kA e) (List.mem_append_right _ (.head _))
    try dsimp only
    refine wpAny_bind (listItems_at nk.1 rfl ?_)
    exact msk_end_ D F' N' hka hnk hna hk' hlen h64 fun h3 tk3 out c F3 N3 k3 => h h3 tk3 out c F3 N3 k3
theorem msk_sort {P : PySem.Fin → Shared → Prop} {f : Value} {n : Nat} (D : Kd κ T) (F : Fr h₀ L s.heap m) (N : News h₀ L s.heap news) (ho : s.heap.get? a = some (seqObj "list" vs.toArray n)) (haL : a ≠ L) (ha0 : h₀.get? a = none) (hna : ∀ p ∈ news, p.1 ≠ a)
    (hlen : kz.length = vs.length) (h64 : vs.length < 64)
    (turn : ∀ (i : Nat) (v : Value) (k : κ.α), vs[i]? = some v → kz[i]? = some k → ∀ (h : Heap) (tk : Nat) (own : List (Addr × Obj)), Fr h₀ L h m → News h₀ L h (news ++ own) →
      wpAny (model prog w) A (call f [v]) (MskEnd κ h₀ L m (news ++ own) k { s with heap := h, toks := tk }) (fun _ _ => False) { s with heap := h, toks := tk })
    (h : ∀ h' tk out c, Fr h₀ L h' m → News h₀ L h' ((a, seqObj "list" out c) :: news) → MOut κ b kz vs out.toList → P (.done (.ret .none)) { s with heap := h', toks := tk }) :
    wpAny (model prog w) A (ksk_tree a f b) P E s := by
  have ha : a < s.heap.objs.size := Heap.lt_size ho
  have s1 := Heap.SameBut.update s.heap a (Obj.mapSeq fun _ => (#[] : Array Value))
  obtain ⟨e1, ho1⟩ : ∃ e1, (s.heap.update a (Obj.mapSeq fun _ => (#[] : Array Value))).get? a = some (seqObj "list" #[] e1) := ⟨_, get?_update_seq ho fun _ => #[]⟩
  have F1 := ksk_fr F s1 haL ha0
  have N1 := ksk_news N s1 hna
  have hkS : ((s.heap.update a (Obj.mapSeq fun _ => (#[] : Array Value))).push (seqObj "tuple" vs.toArray 0)).objs.size = s.heap.objs.size + 1 := by rw [size_push', Heap.size_update]
  have hLk : L < ((s.heap.update a (Obj.mapSeq fun _ => (#[] : Array Value))).push (seqObj "tuple" vs.toArray 0)).objs.size := (F1.push _).ns.lt
  unfold ksk_tree
  refine wpAny_bind (listItems_at ho rfl ?_)
  refine wpAny_bind (listUpdate_at ho rfl ?_ (by rw [List.size_toArray, sizeLine_eq]; omega) (Nat.zero_le _))
  refine wpAny_bind (seqEpoch_at ho1 rfl ?_)
  refine wpAny_bind (wpAny_newTuple ?_ (by show vs.length ≤ _; rw [sizeLine_eq]; omega))
  refine wpAny_bind (wpAny_newList ?_ (Nat.zero_le _))
  refine wpAny_holding ?_
  refine msk_rest_ (s := { s with heap := ((s.heap.update a (Obj.mapSeq fun _ => (#[] : Array Value))).push (seqObj "tuple" vs.toArray 0)).push (seqObj "list" #[] 0) }) (kS := ((s.heap.update a (Obj.mapSeq fun _ => (#[] : Array Value))).push (seqObj "tuple" vs.toArray 0)).objs.size)
    D ((F1.push _).push _) (fun p hp => ?_) (by rw [hkS]; exact Nat.ne_of_gt (Nat.lt_succ_of_lt ha)) (fun p hp => by rw [hkS]; exact Nat.ne_of_lt (Nat.lt_succ_of_lt (Heap.lt_size (N p hp).1))) hna hlen h64 turn h
  rcases List.mem_append.mp hp with hp | hp
  · exact ⟨Heap.get?_push_of_some _ (Heap.get?_push_of_some _ (N1 p hp).1), (N1 p hp).2⟩
  · rcases List.mem_cons.mp hp with rfl | hp
    · exact ⟨Heap.get?_push_size _ rfl, Nat.ne_of_gt hLk, Heap.get?_none_of_le (Nat.le_trans F.above (Nat.le_of_lt hLk))⟩
    · rw [List.mem_singleton.mp hp]
      exact ⟨Heap.get?_push_of_some _ (Heap.get?_push_of_some _ ho1), haL, ha0⟩
/-- sorted(list, key=f, reverse=b): stable -/
theorem msk_sorted {Q : Value → Shared → Prop} {f : Value} {kw : List (Str × Value)} (D : Kd κ T) (F : Fr h₀ L s.heap m) (N : News h₀ L s.heap news) (hl : s.heap.IsList l vs.toArray) (hlen : kz.length = vs.length) (h64 : vs.length < 64)
    (ha1 : argsOk "sorted" ⟨[.ref l], kw⟩) (ha2 : ∀ x, argsOk "list.sort" ⟨[.ref x], kw⟩) (ht : ∀ x, Builtin.«list.sort» ⟨[.ref x], kw⟩ = ksk_tree x f b)
    (turn : ∀ (i : Nat) (v : Value) (k : κ.α), vs[i]? = some v → kz[i]? = some k → ∀ (h : Heap) (tk : Nat) (own : List (Addr × Obj)), Fr h₀ L h m → News h₀ L h (news ++ own) →
      wpAny (model prog w) A.in1.in1 (call f [v]) (MskEnd κ h₀ L m (news ++ own) k { s with heap := h, toks := tk }) (fun _ _ => False) { s with heap := h, toks := tk })
    (h : ∀ D h' tk out c, Fr h₀ L h' m → News h₀ L h' ((D, seqObj "list" out c) :: news) → (∀ q ∈ news, q.1 < D) → MOut κ b kz vs out.toList → Q (.ref D) { s with heap := h', toks := tk }) :
    wpAny (model prog w) A (call (.builtin "sorted") [.ref l] kw) Q E s := by
  refine call_function_entry_kw kind_sorted plain_sorted entry_sorted ha1 ?_
  unfold Builtin.«sorted»
  refine wpAny_bind (m := checkCount "sorted" 1 1 _) (wpAny_pure ?_)
  refine wpAny_bind (collect_list hl ?_ (by rw [sizeLine_eq]; omega))
  refine wpAny_bind (wpAny_newList ?_ (by rw [sizeLine_eq]; omega))
  have hsz : ((s.heap.push (seqObj "list" #[] 0)).update s.heap.objs.size (Obj.mapSeq (· ++ vs.toArray))).objs.size = s.heap.objs.size + 1 := by
    rw [Heap.size_update, size_push']
  have hoL : (((s.heap.push (seqObj "list" #[] 0)).update s.heap.objs.size (Obj.mapSeq (· ++ vs.toArray))).push (seqObj "list" vs.toArray 0)).get? (s.heap.objs.size + 1) = some (seqObj "list" vs.toArray 0) := by
    rw [← hsz]; exact Heap.get?_push_size _ rfl
  have keep : ∀ b o, s.heap.get? b = some o → (((s.heap.push (seqObj "list" #[] 0)).update s.heap.objs.size (Obj.mapSeq (· ++ vs.toArray))).push (seqObj "list" vs.toArray 0)).get? b = some o := fun b o q => by
    have hlt : b < s.heap.objs.size := Heap.lt_size q
    rw [Heap.get?_push_ne _ _ _ (by rw [hsz]; exact Nat.ne_of_lt (Nat.lt_succ_of_lt hlt)), Heap.get?_update_ne _ _ _ _ (Nat.ne_of_lt hlt), Heap.get?_push_ne _ _ _ (Nat.ne_of_lt hlt)]
    exact q
  have hL : L < s.heap.objs.size := F.ns.lt
  show wpAny _ _ _ _ _ { s with heap := ((s.heap.push (seqObj "list" #[] 0)).update s.heap.objs.size (Obj.mapSeq (· ++ vs.toArray))).push (seqObj "list" vs.toArray 0) }
  rw [hsz]
  refine wpAny_bind (wpAny_holding (wpAny_call_entry_kw slot_list_sort ⟨_, hoL, rfl⟩ entry_list_sort ?body (ha2 _)))
  case body =>
    have ht' := ht (s.heap.objs.size + 1)
    show wpAny (model prog w) A.in1.in1 (Builtin.«list.sort» ⟨[.ref (s.heap.objs.size + 1)], kw⟩) _ _ _
    rw [ht']
    refine msk_sort (s := { s with heap := ((s.heap.push (seqObj "list" #[] 0)).update s.heap.objs.size (Obj.mapSeq (· ++ vs.toArray))).push (seqObj "list" vs.toArray 0) })
      D (F.kept keep) (N.grown keep) hoL (Nat.ne_of_gt (Nat.lt_succ_of_lt hL)) (Heap.get?_none_of_le (Nat.le_trans F.above (Nat.le_succ_of_le (Nat.le_of_lt hL))))
      (fun p hp => Nat.ne_of_lt (Nat.lt_succ_of_lt (Heap.lt_size (N p hp).1))) hlen h64 turn fun h' tk out c F' N' k' => ⟨_, rfl, ?_⟩
    exact wpAny_pure ⟨_, rfl, h _ h' tk out c F' N' (fun q hq => Nat.lt_succ_of_lt (Heap.lt_size (N q hq).1)) k'⟩
end
end
section
open PySem PySem.W PySem.Calls PyProof.Rows
set_option maxRecDepth 100000
section
variable {prog : Program} {w : World} {A₀ A : Around} {s : Shared} {base h₀ : Heap} {outer : List Env} {L : Addr} {m mg mb : Str → Option Value} {news : List (Addr × Obj)} {K : Frag} {p : Program} {loose : List Str} {mean : ExcName → Option Value}
theorem kla_codeW {env : Env} {outer : List Env} {R : Result → Shared → Prop} {name qual : Str} {params : Arguments} {body : PySem.Expr} {scope : Scope} {cl : List (Str × Addr)} {pm ctv : Value} {c' : Addr} {f : Addr} {args : Args} {binds : List (Str × Value)}
    (B : Below A₀ base outer h₀) (F : Fr h₀ L s.heap m) (X₀ : K.In h₀) (N : News h₀ L s.heap news) (T : Top p loose mean mg mb h₀) (hA : A.frames = some (env :: outer)) (hf : env.frame = some L) (hke : env.scope.kind = .function)
    (ho : (f, kla_obj name qual params body scope cl pm c' ctv) ∈ news) (hcd : s.heap.CodeRec (.ref c') qual) (hroom : A.depth < recursionLimit)
    (hbind : bindArgs (kla_fn name qual params body scope cl pm (.ref c') ctv) args = pure binds) (hloc : ∀ y ∈ binds, scope.names.lookup y.1 = some .local)
    (h : ∀ g L' h₁, Hid s.heap (news.map (·.1)) g → Fr h₀ L g m → Fr g L' h₁ (fun y => binds.reverse.lookup y) → News g L' h₁ news → Below A base (env :: outer) g → K.In g → Top p loose mean mg mb g →
      wpAny (model prog w) (A.deeper (envX qual scope L' f (.ref c') cl)) (eval body (envX qual scope L' f (.ref c') cl))
        (fun v s' => LeaveK h₀ L m g (fun r s' => Kept s.heap (news.map (·.1)) s'.heap (R r s')) v s')
        (fun e s' => wpAny (model prog w) (A.deeper (envX qual scope L' f (.ref c') cl)) (leaving (envX qual scope L' f (.ref c') cl) e) (fun _ s'' => R (.error e) s'') (fun e' s'' => R (.error e') s'') s')
        { s with heap := h₁, toks := s.toks + binds.length })
    (hco : scope.isCoroutine = false) (hgen : scope.isGenerator = false) (hk : scope.kind = .function)
    (hcell : ∀ x ∈ scope.names, x.2 ≠ .cell) : codeAny (model prog w) A (.call (.ref f) args) R s := by
  obtain ⟨FG, BG, st, lv⟩ := groundX (R := R) B F N hA hf hke
  refine kla_callFunE hroom (N _ ho).1 rfl hco hgen rfl hcd ?_
  rw [hbind]
  refine wpAny_pure (wpAny_newFunctionEnv hcell hloc (fun h₁ hns hsb => ⟨((T.nolimit).keeps F.keep).fresh _ hsb, ?_⟩) hk)
  show codeAny _ _ (.expr body (envX qual scope s.heap.objs.size f (.ref c') cl)) _ _
  have hk₁ : ∀ b o, s.heap.get? b = some o → h₁.get? b = some o := fun b o e => hsb.extBut b o (Nat.ne_of_lt (Heap.lt_size e)) (Heap.get?_push_of_some _ e)
  refine kla_codeExpr (wpAny_mono (h _ s.heap.objs.size h₁ (fun b o hb e => hideAll_get _ e hb) FG ⟨hns, fun b o e => hk₁ b o (of_hideAll _ e), Nat.le_of_eq (hideAll_size _ _)⟩
    (fun p hp => ⟨hk₁ _ _ (N p hp).1, Nat.ne_of_lt (Heap.lt_size (N p hp).1), hideAll_none _ (List.mem_map_of_mem hp)⟩) BG (X₀.keeps st) (T.keeps st)) (fun v s' hl => lv _ _ ?_) fun _ _ y => y)
  obtain ⟨L', m', news', F', N', k⟩ := hl
  exact ⟨L', m', news', F', N', fun a b => k a b fun b o hb e => F'.keep b o (hideAll_get _ e hb)⟩
end
section
variable {g h : Heap} {L : Addr} {p1 p2 p3 p4 p5 p6 p7 p8 p9 p10 p11 p12 x y : Addr × Obj} {rest : List (Addr × Obj)}
theorem cut4 (N : News g L h (p1 :: p2 :: p3 :: p4 :: rest)) (hx : x ∈ rest) (hy : y ∈ rest) : News g L h [p1, p2, p3, p4, x, y] := by
  intro q hq
  refine N q ?_
  simp only [List.mem_cons, List.not_mem_nil, or_false] at hq ⊢
  rcases hq with h | h | h | h | rfl | rfl <;> simp [*]
end
/-- what a list of rows is behind a stable sort -/
def SRel (κ : PyProof.Rows.KeyKind) (b : Bool) (f : Row → κ.α) (R : Row → Row → Prop) (x y : Row) : Prop :=
  (if b then κ.blt (f y) (f x) = true else κ.blt (f x) (f y) = true) ∨ (κ.blt (f x) (f y) = false ∧ κ.blt (f y) (f x) = false ∧ R x y)
def row0 : Row := ⟨0, Str.empty, 0⟩
theorem range_map_getD {α : Type} (d : α) (l : List α) : (List.range l.length).map (fun i => l.getD i d) = l := by
  apply List.ext_getElem?
  intro i
  by_cases hi : i < l.length
  · rw [List.getElem?_map, List.getElem?_range hi, List.getElem?_eq_getElem hi]; simp [hi]
  · rw [List.getElem?_eq_none (by simpa using hi), List.getElem?_eq_none (by simpa using hi)]
theorem MOut.rows {κ : PyProof.Rows.KeyKind} {b : Bool} {vs out : List Value} {news : List (Addr × Obj)} {rs : List Row} {f : Row → κ.α} {R : Row → Row → Prop} (ho : MOut κ b (rs.map f) vs out) (hR : RowsIn news vs rs) (hpw : rs.Pairwise R) :
    ∃ rs', rs'.Perm rs ∧ RowsIn news out rs' ∧ out.length = vs.length ∧ rs'.Pairwise (SRel κ b f R) := by
  obtain ⟨ps, hp, rfl, hw⟩ := ho
  have hlen := hR.1
  have hb : ∀ i, i ∈ ps → i < rs.length := fun i hi => by rw [← hlen]; exact List.mem_range.mp (hp.mem_iff.mp hi)
  have gk : ∀ i, i < rs.length → (rs.map f).getD i κ.dflt = f (rs.getD i row0) := fun i hi => by simp [hi]
  refine ⟨ps.map fun i => rs.getD i row0, ?_, ⟨by simp, fun j v r hv hr => ?_⟩, by rw [List.length_map, hp.length_eq, List.length_range], ?_⟩
  · have h1 := hp.map fun i => rs.getD i row0
    rw [hlen, range_map_getD] at h1
    exact h1
  · rw [List.getElem?_map] at hv hr
    cases q : ps[j]? with
    | none => rw [q] at hv; cases hv
    | some i =>
      rw [q] at hv hr
      have hi := hb i (List.mem_of_getElem? q)
      simp only [Option.map_some, Option.some.injEq] at hv hr
      refine hR.2 i v r ?_ ?_
      · rw [← hv, List.getD_eq_getElem?_getD, List.getElem?_eq_getElem (by omega)]; rfl
      · rw [← hr, List.getD_eq_getElem?_getD, List.getElem?_eq_getElem hi]; rfl
  · rw [List.pairwise_map]
    refine hw.imp_of_mem fun {i j} hi hj h => ?_
    have hi' := hb i hi
    have hj' := hb j hj
    unfold MRel at h
    rw [gk i hi', gk j hj'] at h
    rcases h with h | ⟨h1, h2, h3⟩
    · exact .inl h
    · refine .inr ⟨h1, h2, ?_⟩
      rw [List.getD_eq_getElem?_getD, List.getD_eq_getElem?_getD, List.getElem?_eq_getElem hi', List.getElem?_eq_getElem hj']
      exact List.pairwise_iff_getElem.mp hpw i j hi' hj' h3
end
section
open PySem PySem.W PySem.Calls PyProof.Rows
set_option maxRecDepth 100000
theorem ne_succ_tail {d : Addr} {x : Addr × Obj} {l : List (Addr × Obj)} (h : ∀ p ∈ x :: l, p.1 < d) : ∀ p ∈ l, p.1 ≠ d + 1 := fun p hp => Nat.ne_of_lt (Nat.lt_succ_of_lt (h p (.tail _ hp)))
section
variable {prog : Program} {w : World} {A : Around} {E : Value → Shared → Prop} {s : Shared} {env : Env} {h₀ : Heap} {body : List Stmt} {Q : Flow → Shared → Prop}
theorem range_down2 {x : Str} {px : Pos} {r : Addr} {t u v : Tok} {m₀ : Str → Option Value} {news : List (Addr × Obj)}
    (hh : A.handled = none) (F : Fr h₀ env.locals s.heap m₀) (N : News h₀ env.locals s.heap news) (hr : IsRange s.heap r 1 (-1) (-1) t u v)
    (rest₀ : ∀ I : Addr, (∀ p ∈ news, p.1 < I) → ItemsRest prog w A E h₀ env (.Name x px) body Q s [(I, "range_iterator")] [] [.tok (fun t => .int 1 t), .tok (fun t => .int 0 t)] m₀ news) :
    wpAny (model prog w) A (pyIter (.ref r)) (fun it s₂ => TurnsAt prog w A h₀ env (.Name x px) body Q E it s₂) E s := by
  refine wpAny_pyIter_range hr (by decide) ?_
  have hsz : Builtin.Range.rangeSize 1 (-1) (-1) = 2 := by decide
  rw [hsz]
  refine ktu_core (tk0 := s.toks) (keep := []) (n := 2) (KTurns.ofWalks (Walks.range hh s.heap.objs.size 1 (-1) 2).bound fun i v s Q E st q => by unfold letOwnedTupleGo; exact wpAny_pure q) rfl (fun i v h hp => ?_) (fun i h st => ?_) (fun b hb => ?_) (fun b hb => by simpa using hb) (fun b hb => ?_) ?_ (fun p hp hI => ?_) ?_ (F.push _) (fun p hp => ⟨Heap.get?_push_of_some _ (N p hp).1, (N p hp).2⟩) trivial (rest₀ _ fun p hp => Heap.lt_size (N p hp).1)
  · obtain ⟨hi, t, rfl⟩ := hp
    rcases i with _ | _ | i
    · exact ⟨_, rfl, t, rfl⟩
    · exact ⟨_, rfl, t, rfl⟩
    · omega
  · have st' : h.get? s.heap.objs.size = some _ := st
    exact ⟨[(s.heap.objs.size, _)], ⟨⟨rfl, rfl⟩, trivial⟩, fun p hp => by rw [List.mem_singleton.mp hp]; exact st'⟩
  · have hb' : b = s.heap.objs.size := by simpa using hb
    rw [hb']
    exact ⟨List.mem_cons_self .., next_is_new F⟩
  · have hb' : b = s.heap.objs.size := by simpa using hb
    exact .inl (by simp [hb'])
  · intro hI
    exact absurd F.ns.lt ((List.mem_singleton.mp hI) ▸ Nat.lt_irrefl _)
  · exact absurd (Heap.lt_size (N p hp).1) ((List.mem_singleton.mp hI) ▸ Nat.lt_irrefl _)
  · exact Heap.get?_push_size _ rfl
end
theorem my_titem {prog : Program} {w : World} {A : Around} {E : Value → Shared → Prop} {s : Shared} {h₀ : Heap} {L : Addr} {news : List (Addr × Obj)} {l : Addr} {vs : List Value} {e : Nat} {Q : Value → Shared → Prop} {value slice : PySem.Expr} {k : Int} {u : Tok} {j : Nat} {v : Value}
    (N : News h₀ L s.heap news) (hm : (l, tupL vs e) ∈ news) (hlo : -(2 ^ 63) ≤ k) (hhi : k < 2 ^ 63) (hj : seqIndex? k vs.length = some j) (hx : vs[j]? = some v) (h : Q v s)
    (hs : subscripted slice false (.ref l) (.int k u) = operate [.ref l, .int k u] (getItem (.ref l) (.int k u)) := by with_unfolding_all rfl) :
    wpAny (model prog w) A (subscriptTail value slice (.ref l) (.int k u)) Q E s := item_tupleT (⟨_, (N _ hm).1, rfl, _, rfl⟩ : IsTup s.heap l vs.toArray) hlo hhi (by simpa using hj) (by simpa using hx) h hs
section
variable {g h : Heap} {L : Addr} {p1 p2 p3 p4 p5 p6 p7 p8 x y : Addr × Obj} {rest : List (Addr × Obj)}
theorem cut6 (N : News g L h (p1 :: p2 :: p3 :: p4 :: p5 :: p6 :: rest)) (hx : x ∈ rest) (hy : y ∈ rest) : News g L h [p1, p2, p3, p4, p5, p6, x, y] := by
  intro q hq
  refine N q ?_
  simp only [List.mem_cons, List.not_mem_nil, or_false] at hq ⊢
  rcases hq with h | h | h | h | h | h | rfl | rfl <;> simp [*]
theorem cut8 (N : News g L h (p1 :: p2 :: p3 :: p4 :: p5 :: p6 :: p7 :: p8 :: rest)) (hx : x ∈ rest) (hy : y ∈ rest) : News g L h [p1, p2, p3, p4, p5, p6, p7, p8, x, y] := by
  intro q hq
  refine N q ?_
  simp only [List.mem_cons, List.not_mem_nil, or_false] at hq ⊢
  rcases hq with h | h | h | h | h | h | h | h | rfl | rfl <;> simp [*]
end
end
section
open PySem PySem.W PySem.Calls PyProof.Rows PySem.Spec
set_option maxRecDepth 100000
section
variable {h₀ h' : Heap} {L I : Addr} {oI : Obj} {m' : Str → Option Value} {s₁ : Shared} {tk : Nat} {rest : (Str → Option Value) → List (Addr × Obj) → Prop} {p1 p2 p3 p4 p5 p6 p7 p8 : Addr × Obj} {tl : List (Addr × Obj)}
theorem unr_end9 (F : Fr h₀ L h' m') (N : News h₀ L h' (p1 :: p2 :: p3 :: (I, oI) :: p4 :: p5 :: p6 :: p7 :: p8 :: tl)) (n1 : p1.1 ≠ I) (n3 : p3.1 ≠ I) (n7 : p7.1 ≠ I) (n8 : p8.1 ≠ I) (nr : ∀ p ∈ tl, p.1 ≠ I)
    (r : rest m' (p1 :: p3 :: p7 :: p8 :: tl)) : UnrEndW h₀ L s₁ [(I, oI)] rest { s₁ with heap := h', toks := tk } := by
  refine ⟨h', tk, m', p1 :: p3 :: p7 :: p8 :: tl, rfl, F, fun q hq => N q ?_, fun q hq z hz => ?_, r⟩
  · simp only [List.cons_append, List.nil_append, List.mem_cons] at hq ⊢
    rcases hq with h | h | h | h | h | h <;> simp [h]
  · rw [List.mem_singleton.mp hz]
    simp only [List.mem_cons] at hq
    rcases hq with rfl | rfl | rfl | rfl | hq
    · exact n1
    · exact n3
    · exact n7
    · exact n8
    · exact nr q hq
theorem unr_end7 (F : Fr h₀ L h' m') (N : News h₀ L h' (p1 :: p2 :: (I, oI) :: p4 :: p5 :: p6 :: p7 :: tl)) (n1 : p1.1 ≠ I) (n7 : p7.1 ≠ I) (nr : ∀ p ∈ tl, p.1 ≠ I)
    (r : rest m' (p1 :: p7 :: tl)) : UnrEndW h₀ L s₁ [(I, oI)] rest { s₁ with heap := h', toks := tk } := by
  refine ⟨h', tk, m', p1 :: p7 :: tl, rfl, F, fun q hq => N q ?_, fun q hq z hz => ?_, r⟩
  · simp only [List.cons_append, List.nil_append, List.mem_cons] at hq ⊢
    rcases hq with h | h | h | h <;> simp [h]
  · rw [List.mem_singleton.mp hz]
    simp only [List.mem_cons] at hq
    rcases hq with rfl | rfl | hq
    · exact n1
    · exact n7
    · exact nr q hq
end
structure ElI (news : List (Addr × Obj)) (r : Int) (y : Value) (news' : List (Addr × Obj)) : Prop where
  a : news' = news
  b : ∃ t : Tok, y = .int r t
section
variable {prog : Program} {w : World} {A : Around} {E : Value → Shared → Prop} {s : Shared} {h₀ : Heap} {L : Addr} {m : Str → Option Value} {env : Env}
/-- the rows' numbers, one by one -/
theorem row_rest {elt : PySem.Expr} {x : Str} {scope : Scope} {cl : List (Str × Addr)} {S : List (Addr × Obj) → Prop} {Fin : List Value → List (Addr × Obj) → Prop} {news : List (Addr × Obj)} {vs : List Value} {rs : List Row} (hR : RowsIn news vs rs) (hS : S news)
    (turn : ∀ v r I oI C oC D m₂ ys h tk (E' : Value → Shared → Prop), RowIn news v r → LCg.NsObj oC m₂ → m₂ x = some v → Fr h₀ L h m → News h₀ L h ((I, oI) :: (C, oC) :: (D, LCg.lst ys) :: news) → LCg.Off3 I C D news → ((@Ne Nat I C) ∧ (@Ne Nat I D) ∧ (@Ne Nat C D)) →
      wpAny (model prog w) A (eval elt (compEnvC scope cl C env)) (LCg.CompEnd h₀ L m { s with heap := h, toks := tk } I oI C oC D (LCg.lst ys) S (ElI news r.n)) E' { s with heap := h, toks := tk })
    (fin : ∀ ys, IntsAre ys (rs.map (·.n)) → Fin ys news) : LCg.CompRest prog w A h₀ L m env elt x scope cl s S (fun i v => vs.toArray[i]? = some v) Fin vs.toArray.size 0 [] news := by
  have hl := hR.1
  have key : ∀ (j i : Nat) (ys : List Value), i + j = vs.length → IntsAre ys ((rs.take i).map (·.n)) → LCg.CompRest prog w A h₀ L m env elt x scope cl s S (fun i v => vs.toArray[i]? = some v) Fin j i ys news := by
    intro j
    induction j with
    | zero =>
      intro i ys hi hy
      have e : i = rs.length := by omega
      subst e
      rw [List.take_length] at hy
      exact LCg.CompRest.zero (fin ys hy)
    | succ j ih =>
      intro i ys hi hy
      refine LCg.CompRest.succ ?_
      intro v I oI C oC D m₂ h tk E' hv hC hx F N off ne
      have hv' : vs[i]? = some v := by simpa using hv
      have hri : i < rs.length := by omega
      have hr : rs[i]? = some rs[i] := List.getElem?_eq_getElem hri
      refine wpAny_mono (turn v rs[i] I oI C oC D m₂ ys h tk E' (hR.2 i v _ hv' hr) hC hx F N off ne) (fun y s₂ hq => ?_) fun _ _ e => e
      obtain ⟨h', tk', nw, e, F', N', off', hS', hn, t', hy'⟩ := hq
      rw [hn] at N' off'
      refine ⟨h', tk', news, e, F', N', off', hS, ?_⟩
      rw [hy']
      refine ih (i + 1) _ (by omega) ?_
      rw [List.take_add_one, hr]
      rw [Option.toList_some, List.map_append]
      exact ksk_snoc hy
  rw [List.size_toArray]
  exact key vs.length 0 [] (by omega) (by simp only [List.take_zero, List.map_nil]; exact .nil)
end
theorem RowsIn.mono {n n' : List (Addr × Obj)} {vs : List Value} {rs : List Row} (h : RowsIn n vs rs) (hs : ∀ p ∈ n, p ∈ n') : RowsIn n' vs rs :=
  ⟨h.1, fun i v r hv hr => (h.2 i v r hv hr).mono hs⟩
abbrev skey (r : Row) : List Nat := r.s.cps.toList
/-- the order of sort_rows -/
def SR (r0 r1 : Bool) : Row → Row → Prop := SRel PyProof.Rows.strKind r0 skey (SRel intKd r1 (fun r => r.i) (SRel intKd false (fun r => r.n) (fun _ _ => True)))
end
section
open PySem PySem.W PySem.Calls PyProof.Rows PySem.Spec
set_option maxRecDepth 100000
theorem allObj_mono : ∀ {ws : List (Addr × String)} {k k' : List (Addr × Obj) → Prop}, (∀ its, k its → k' its) → AllObj ws k → AllObj ws k'
  | [], _, _, f, h => f [] h
  | w :: _, k, k', f, h => AllObj.cons fun o ho => allObj_mono (k := fun its => k ((w.1, o) :: its)) (k' := fun its => k' ((w.1, o) :: its)) (fun its => f _) (h o ho)
section
variable {prog : Program} {w : World} {A : Around} {E : Value → Shared → Prop} {s : Shared} {env : Env} {h₀ : Heap} {target : PySem.Expr} {body : List Stmt} {Q : Flow → Shared → Prop}
theorem unrEndW_mono {L : Addr} {s₁ s₂ : Shared} {its : List (Addr × Obj)} {r r' : (Str → Option Value) → List (Addr × Obj) → Prop} (f : ∀ m n, r m n → r' m n) (h : UnrEndW h₀ L s₁ its r s₂) : UnrEndW h₀ L s₁ its r' s₂ := by
  obtain ⟨h', tk, m', nw, e, F, N, o, k⟩ := h
  exact ⟨h', tk, m', nw, e, F, N, o, f _ _ k⟩
theorem unrPostW_mono {L : Addr} {s₁ s₂ : Shared} {its : List (Addr × Obj)} {r r' : (Str → Option Value) → List (Addr × Obj) → Prop} {fl : Flow} (f : ∀ m n, r m n → r' m n) (h : UnrPostW h₀ L s₁ its r Q fl s₂) : UnrPostW h₀ L s₁ its r' Q fl s₂ := by
  cases fl with
  | ret v => exact h
  | brk => exact h
  | next => exact unrEndW_mono f h
  | cont => exact unrEndW_mono f h
theorem items_enum {ws : List (Addr × String)} {keep : List (Addr × Obj)} {vs : List Value} (Inv : Nat → (Str → Option Value) → List (Addr × Obj) → Prop)
    (turn : ∀ (i : Nat) x m news, vs[i]? = some x → Inv i m news → ∀ T t h tk, IsTup h T #[.int ((i : Nat) : Int) t, x] → Fr h₀ env.locals h m → AllObj ws (fun its => News h₀ env.locals h (its ++ news) →
      wpAny (model prog w) A (assign target env (.ref T)) (fun _ s₂ => wpAny (model prog w) A (execs body env) (UnrPostW h₀ env.locals { s with heap := h, toks := tk } its (fun m' n' => SubL keep n' ∧ Inv (i + 1) m' n') Q) E s₂) E { s with heap := h, toks := tk }))
    (fin : ∀ m news h tk, Inv vs.length m news → Fr h₀ env.locals h m → News h₀ env.locals h news → Q .next { s with heap := h, toks := tk }) :
    ∀ (k i : Nat), i + k = vs.length → ∀ m news, Inv i m news → ItemsRest prog w A E h₀ env target body Q s ws keep (enumItems i (vs.drop i)) m news := by
  intro k
  induction k with
  | zero =>
    intro i hi m news hI
    have e : i = vs.length := by omega
    subst e
    rw [List.drop_length]
    exact ItemsRest.zero fun h tk F N => fin m news h tk hI F N
  | succ k ih =>
    intro i hi m news hI
    have hlt : i < vs.length := by omega
    rw [List.drop_eq_getElem_cons hlt]
    refine ItemsRest.pair fun T t h tk hT F => ?_
    refine allObj_mono (fun its hh N => ?_) (turn i vs[i] m news (List.getElem?_eq_getElem hlt) hI T t h tk hT F)
    exact wpAny_mono (hh N) (fun _ s₂ h2 => wpAny_mono h2 (fun f s₃ p => unrPostW_mono (fun m' n' q => ⟨q.1, ih (i + 1) (by omega) m' n' q.2⟩) p) fun _ _ e => e) fun _ _ e => e
theorem items_val {ws : List (Addr × String)} {keep : List (Addr × Obj)} {vs : List Value} (Inv : Nat → (Str → Option Value) → List (Addr × Obj) → Prop)
    (turn : ∀ (i : Nat) x m news, vs[i]? = some x → Inv i m news → ∀ h tk, Fr h₀ env.locals h m → AllObj ws (fun its => News h₀ env.locals h (its ++ news) →
      wpAny (model prog w) A (assign target env x) (fun _ s₂ => wpAny (model prog w) A (execs body env) (UnrPostW h₀ env.locals { s with heap := h, toks := tk } its (fun m' n' => SubL keep n' ∧ Inv (i + 1) m' n') Q) E s₂) E { s with heap := h, toks := tk }))
    (fin : ∀ m news h tk, Inv vs.length m news → Fr h₀ env.locals h m → News h₀ env.locals h news → Q .next { s with heap := h, toks := tk }) :
    ∀ (k i : Nat), i + k = vs.length → ∀ m news, Inv i m news → ItemsRest prog w A E h₀ env target body Q s ws keep ((vs.drop i).map .val) m news := by
  intro k
  induction k with
  | zero =>
    intro i hi m news hI
    have e : i = vs.length := by omega
    subst e
    rw [List.drop_length]
    exact ItemsRest.zero fun h tk F N => fin m news h tk hI F N
  | succ k ih =>
    intro i hi m news hI
    have hlt : i < vs.length := by omega
    rw [List.drop_eq_getElem_cons hlt, List.map_cons]
    refine ItemsRest.val fun h tk F => ?_
    refine allObj_mono (fun its hh N => ?_) (turn i vs[i] m news (List.getElem?_eq_getElem hlt) hI h tk F)
    exact wpAny_mono (hh N) (fun _ s₂ h2 => wpAny_mono h2 (fun f s₃ p => unrPostW_mono (fun m' n' q => ⟨q.1, ih (i + 1) (by omega) m' n' q.2⟩) p) fun _ _ e => e) fun _ _ e => e
end
section
variable {prog : Program} {w : World} {A : Around} {E : Value → Shared → Prop} {s : Shared} {h₀ : Heap} {L : Addr} {m : Str → Option Value} {env : Env}
theorem compEnd_mono {s₁ s₂ : Shared} {I C D : Addr} {oI oC oD : Obj} {S : List (Addr × Obj) → Prop} {r r' : Value → List (Addr × Obj) → Prop} {y : Value} (f : ∀ n, r y n → r' y n) (h : LCg.CompEnd h₀ L m s₁ I oI C oC D oD S r y s₂) : LCg.CompEnd h₀ L m s₁ I oI C oC D oD S r' y s₂ := by
  obtain ⟨h', tk, nw, e, F, N, o, hS, k⟩ := h
  exact ⟨h', tk, nw, e, F, N, o, hS, f _ k⟩
structure ElT (news : List (Addr × Obj)) (b : Bool) (y : Value) (news' : List (Addr × Obj)) : Prop where
  a : news' = news
  b : b = true
structure ElF (news : List (Addr × Obj)) (b : Bool) (y : Value) (news' : List (Addr × Obj)) : Prop where
  a : news' = news
  b : b = false
/-- how many rows are ahead -/
theorem due_rest {ct elt : PySem.Expr} {x : Str} {scope : Scope} {cl : List (Str × Addr)} {S : List (Addr × Obj) → Prop} {Fin : List Value → List (Addr × Obj) → Prop} {news : List (Addr × Obj)} {vs : List Value} {rs : List Row} (c : Row → Bool) (hR : RowsIn news vs rs) (hS : S news)
    (turn : ∀ v r I oI C oC D m₂ ys h tk (E' : Value → Shared → Prop), RowIn news v r → LCg.NsObj oC m₂ → m₂ x = some v → Fr h₀ L h m → News h₀ L h ((I, oI) :: (C, oC) :: (D, LCg.lst ys) :: news) → LCg.Off3 I C D news → ((@Ne Nat I C) ∧ (@Ne Nat I D) ∧ (@Ne Nat C D)) →
      wpAny (model prog w) A (isTrue ct (compEnvC scope cl C env) (eval ct (compEnvC scope cl C env))) (fun ok s' => if ok = true then
        wpAny (model prog w) A (eval elt (compEnvC scope cl C env)) (LCg.CompEnd h₀ L m { s with heap := h, toks := tk } I oI C oC D (LCg.lst ys) S (ElT news (c r))) E' s'
        else LCg.CompEnd h₀ L m { s with heap := h, toks := tk } I oI C oC D (LCg.lst ys) S (ElF news (c r)) Value.none s') E' { s with heap := h, toks := tk })
    (fin : ∀ ys, ys.length = rs.countP c → Fin ys news) : LCt.CompRestT prog w A h₀ L m env ct elt x scope cl s S (fun i v => vs.toArray[i]? = some v) Fin vs.toArray.size 0 [] news := by
  have hl := hR.1
  have key : ∀ (j i : Nat) (ys : List Value), i + j = vs.length → ys.length = (rs.take i).countP c → LCt.CompRestT prog w A h₀ L m env ct elt x scope cl s S (fun i v => vs.toArray[i]? = some v) Fin j i ys news := by
    intro j
    induction j with
    | zero =>
      intro i ys hi hy
      have e : i = rs.length := by omega
      subst e
      rw [List.take_length] at hy
      exact LCt.CompRestT.zero (fin ys hy)
    | succ j ih =>
      intro i ys hi hy
      refine LCt.CompRestT.succ ?_
      intro v I oI C oC D m₂ h tk E' hv hC hx F N off ne
      have hv' : vs[i]? = some v := by simpa using hv
      have hri : i < rs.length := by omega
      have hr : rs[i]? = some rs[i] := List.getElem?_eq_getElem hri
      have hcnt : (rs.take (i + 1)).countP c = (rs.take i).countP c + (if c rs[i] = true then 1 else 0) := by
        rw [List.take_add_one, hr, Option.toList_some, List.countP_append, List.countP_singleton]
      refine wpAny_mono (turn v rs[i] I oI C oC D m₂ ys h tk E' (hR.2 i v _ hv' hr) hC hx F N off ne) (fun ok s₂ hq => ?_) fun _ _ e => e
      by_cases hok : ok = true
      · rw [if_pos hok] at hq
        rw [if_pos hok]
        refine wpAny_mono hq (fun y s₃ h3 => compEnd_mono (fun n k => ?_) h3) fun _ _ e => e
        rw [k.a]
        refine ih (i + 1) _ (by omega) ?_
        rw [hcnt, if_pos k.b, List.length_append, List.length_singleton, hy]
      · rw [if_neg hok] at hq
        rw [if_neg hok]
        refine compEnd_mono (fun n k => ?_) hq
        rw [k.a]
        refine ih (i + 1) _ (by omega) ?_
        rw [hcnt, if_neg (by rw [k.b]; exact Bool.false_ne_true), hy]; rfl
  rw [List.size_toArray]
  exact key vs.length 0 [] (by omega) (by simp)
end
end
section
open PySem PySem.W PySem.Calls PyProof.Rows PySem.Spec
set_option maxRecDepth 100000
theorem aheadB_irrefl (r0 r1 : Bool) (a : Row) : aheadB r0 r1 a a = false := by
  unfold aheadB
  simp
theorem str_cmp (a b : Str) : (a != b) = false ∨ (a != b) = true := by cases (a != b) <;> simp
/-- of two rows with two numbers just one is ahead -/
theorem aheadB_total {r0 r1 : Bool} {a b : Row} (h : a.n ≠ b.n) : aheadB r0 r1 b a = !aheadB r0 r1 a b := by
  have hs : (b.s != a.s) = (a.s != b.s) := by
    by_cases e : a.s = b.s
    · rw [e]
    · rw [bne_iff_ne.mpr e, bne_iff_ne.mpr (fun q => e q.symm)]
  unfold aheadB
  rw [hs]
  by_cases e : (a.s != b.s) = true
  · rw [if_pos e, if_pos e]
    rcases Decidable.em (a.s.cps.toList < b.s.cps.toList) with q | q
    · rw [show sLt a.s b.s = true from decide_eq_true q, show sLt b.s a.s = false from decide_eq_false (slt_asymm q)]
      cases r0 <;> rfl
    · have q' : b.s.cps.toList < a.s.cps.toList := by
        rcases Decidable.em (b.s.cps.toList < a.s.cps.toList) with q' | q'
        · exact q'
        · rw [eq_of_nslt q q'] at e; cases e
      rw [show sLt a.s b.s = false from decide_eq_false q, show sLt b.s a.s = true from decide_eq_true q']
      cases r0 <;> rfl
  · rw [if_neg e, if_neg e]
    by_cases e1 : a.i = b.i
    · rw [if_neg (fun q => q e1.symm), if_neg (fun q => q e1)]
      by_cases e2 : a.n < b.n
      · rw [decide_eq_true e2, decide_eq_false (by omega)]; rfl
      · rw [decide_eq_false e2, decide_eq_true (by omega)]; rfl
    · rw [if_pos (fun q => e1 q.symm), if_pos e1]
      by_cases e2 : a.i < b.i
      · rw [decide_eq_true e2, decide_eq_false (by omega)]; cases r1 <;> rfl
      · rw [decide_eq_false e2, decide_eq_true (by omega)]; cases r1 <;> rfl
theorem aheadB_def {r0 r1 : Bool} {a b : Row} : aheadB r0 r1 a b = true ↔
    (if r0 = true then b.s.cps.toList < a.s.cps.toList else a.s.cps.toList < b.s.cps.toList) ∨
    (a.s = b.s ∧ ((if r1 = true then b.i < a.i else a.i < b.i) ∨ (a.i = b.i ∧ a.n < b.n))) := by
  unfold aheadB
  by_cases e : (a.s != b.s) = true
  · rw [if_pos e]
    have e' : a.s ≠ b.s := bne_iff_ne.mp e
    rcases Decidable.em (a.s.cps.toList < b.s.cps.toList) with q | q
    · rw [show sLt a.s b.s = true from decide_eq_true q]
      have := slt_asymm q
      cases r0 <;> simp [q, this, e']
    · have q' : b.s.cps.toList < a.s.cps.toList := by
        rcases Decidable.em (b.s.cps.toList < a.s.cps.toList) with q' | q'
        · exact q'
        · rw [eq_of_nslt q q'] at e; cases e
      rw [show sLt a.s b.s = false from decide_eq_false q]
      cases r0 <;> simp [q, q', e']
  · rw [if_neg e]
    have e' : a.s = b.s := by
      by_cases q : a.s = b.s
      · exact q
      · exact absurd (bne_iff_ne.mpr q) e
    have irr : ¬ b.s.cps.toList < b.s.cps.toList := List.lt_irrefl _
    rw [e']
    by_cases e1 : a.i = b.i
    · rw [if_neg (fun q => q e1)]
      rw [e1]
      cases r0 <;> cases r1 <;> simp [irr]
    · rw [if_pos e1]
      by_cases e2 : a.i < b.i
      · have : ¬ b.i < a.i := by omega
        cases r0 <;> cases r1 <;> simp [irr, e1, e2, this]
      · have : b.i < a.i := by omega
        cases r0 <;> cases r1 <;> simp [irr, e1, e2, this]
theorem aheadB_trans {r0 r1 : Bool} {a b c : Row} (h1 : aheadB r0 r1 a b = true) (h2 : aheadB r0 r1 b c = true) : aheadB r0 r1 a c = true := by
  rw [aheadB_def] at h1 h2 ⊢
  rcases h1 with h1 | ⟨e1, h1⟩
  · rcases h2 with h2 | ⟨e2, h2⟩
    · left
      cases r0
      · exact List.lt_trans h1 h2
      · exact List.lt_trans h2 h1
    · left; rw [← e2]; exact h1
  · rcases h2 with h2 | ⟨e2, h2⟩
    · left; rw [e1]; exact h2
    · right
      refine ⟨e1.trans e2, ?_⟩
      cases r1
      · simp only [Bool.false_eq_true, if_false] at h1 h2 ⊢; omega
      · simp only [if_true] at h1 h2 ⊢; omega
abbrev Ord (r0 r1 : Bool) (l : List Row) : Prop := l.Pairwise fun a b => aheadB r0 r1 a b = true
theorem Ord.mono {r0 r1 : Bool} {l : List Row} (h : Ord r0 r1 l) (q : Row) : Mono r0 r1 q l := by
  intro i j ri rj hij hi hj hq
  rcases Nat.lt_or_ge i j with hlt | hge
  · have hi' := (List.getElem?_eq_some_iff.mp hi)
    have hj' := (List.getElem?_eq_some_iff.mp hj)
    obtain ⟨a1, a2⟩ := hi'
    obtain ⟨b1, b2⟩ := hj'
    have := List.pairwise_iff_getElem.mp h i j a1 b1 hlt
    rw [a2, b2] at this
    exact aheadB_trans this hq
  · have e : i = j := by omega
    subst e
    rw [hi] at hj
    cases hj
    exact hq
/-- the place is the count -/
theorem place_count {r0 r1 : Bool} {l : List Row} {q : Row} {j : Nat} (hj : j ≤ l.length) (h1 : ∀ (i : Nat) r, i < j → l[i]? = some r → aheadB r0 r1 r q = true) (h2 : ∀ (i : Nat) r, j ≤ i → l[i]? = some r → aheadB r0 r1 r q = false) : l.countP (fun r => aheadB r0 r1 r q) = j := by
  have e : l = l.take j ++ l.drop j := (List.take_append_drop j l).symm
  have a : (l.take j).countP (fun r => aheadB r0 r1 r q) = (l.take j).length := by
    rw [List.countP_eq_length]
    intro r hr
    obtain ⟨i, hi, rfl⟩ := List.getElem_of_mem hr
    have hi' : i < j := by rw [List.length_take] at hi; omega
    rw [List.getElem_take]
    exact h1 i _ hi' (List.getElem?_eq_getElem _)
  have b : (l.drop j).countP (fun r => aheadB r0 r1 r q) = 0 := by
    rw [List.countP_eq_zero]
    intro r hr
    obtain ⟨i, hi, rfl⟩ := List.getElem_of_mem hr
    rw [List.getElem_drop]
    rw [h2 (j + i) _ (by omega) (List.getElem?_eq_getElem _)]
    exact Bool.false_ne_true
  rw [e, List.countP_append, a, b, List.length_take]
  omega
theorem Ord.insert {r0 r1 : Bool} {l : List Row} {q : Row} {j : Nat} (h : Ord r0 r1 l) (hn : ∀ r ∈ l, r.n ≠ q.n) (h1 : ∀ (i : Nat) r, i < j → l[i]? = some r → aheadB r0 r1 r q = true) (h2 : ∀ (i : Nat) r, j ≤ i → l[i]? = some r → aheadB r0 r1 r q = false) : Ord r0 r1 (l.take j ++ [q] ++ l.drop j) := by
  have e : l = l.take j ++ l.drop j := (List.take_append_drop j l).symm
  have h' : Ord r0 r1 (l.take j ++ l.drop j) := by rw [← e]; exact h
  obtain ⟨p1, p2, p3⟩ := List.pairwise_append.mp h'
  have ha : ∀ r ∈ l.take j, aheadB r0 r1 r q = true := by
    intro r hr
    obtain ⟨i, hi, rfl⟩ := List.getElem_of_mem hr
    have hi' : i < j := by rw [List.length_take] at hi; omega
    rw [List.getElem_take]
    exact h1 i _ hi' (List.getElem?_eq_getElem _)
  have hb : ∀ r ∈ l.drop j, aheadB r0 r1 q r = true := by
    intro r hr
    have hm := hn r (List.mem_of_mem_drop hr)
    obtain ⟨i, hi, rfl⟩ := List.getElem_of_mem hr
    rw [List.getElem_drop] at hm ⊢
    rw [aheadB_total hm, h2 (j + i) _ (by omega) (List.getElem?_eq_getElem _)]
    rfl
  refine List.pairwise_append.mpr ⟨List.pairwise_append.mpr ⟨p1, List.pairwise_singleton _ _, fun r hr x hx => ?_⟩, p2, fun r hr x hx => ?_⟩
  · rw [List.mem_singleton.mp hx]; exact ha r hr
  · rcases List.mem_append.mp hr with hr | hr
    · exact p3 r hr x hx
    · rw [List.mem_singleton.mp hr]; exact hb x hx
theorem perm_insert {α : Type} {l rrs : List α} {q : α} {j : Nat} (h : l.Perm rrs) : (l.take j ++ [q] ++ l.drop j).Perm (rrs ++ [q]) := by
  have e : l = l.take j ++ l.drop j := (List.take_append_drop j l).symm
  have h1 : (l.take j ++ [q] ++ l.drop j).Perm (l.take j ++ l.drop j ++ [q]) := by
    rw [List.append_assoc, List.append_assoc]
    exact List.Perm.append_left _ List.perm_append_comm
  exact h1.trans (by rw [← e]; exact h.append_right _)
theorem RowsIn.insert {news : List (Addr × Obj)} {vs : List Value} {rs : List Row} {v : Value} {q : Row} {j : Nat} (h : RowsIn news vs rs) (hq : RowIn news v q) : RowsIn news (vs.take j ++ [v] ++ vs.drop j) (rs.take j ++ [q] ++ rs.drop j) := by
  have hl := h.1
  refine ⟨by simp [hl], fun i x r hx hr => ?_⟩
  have hz : (vs.take j).length = (rs.take j).length := by simp [hl]
  rw [List.append_assoc] at hx hr
  rcases Nat.lt_or_ge i (vs.take j).length with a | a
  · rw [List.getElem?_append_left a] at hx
    rw [List.getElem?_append_left (hz ▸ a)] at hr
    have aj : i < j := by rw [List.length_take] at a; omega
    rw [List.getElem?_take_of_lt aj] at hx hr
    exact h.2 i x r hx hr
  · rw [List.getElem?_append_right a] at hx
    rw [List.getElem?_append_right (hz ▸ a), ← hz] at hr
    rcases Nat.eq_zero_or_pos (i - (vs.take j).length) with b | b
    · rw [b] at hx hr
      simp only [List.singleton_append, List.getElem?_cons_zero, Option.some.injEq] at hx hr
      rw [← hx, ← hr]; exact hq
    · obtain ⟨k, hk⟩ : ∃ k, i - (vs.take j).length = k + 1 := ⟨_, (Nat.succ_pred_eq_of_pos b).symm⟩
      rw [hk] at hx hr
      simp only [List.singleton_append, List.getElem?_cons_succ, List.getElem?_drop] at hx hr
      exact h.2 _ x r hx hr
theorem RowsIn.snoc {news : List (Addr × Obj)} {vs : List Value} {rs : List Row} {v : Value} {q : Row} (h : RowsIn news vs rs) (hq : RowIn news v q) : RowsIn news (vs ++ [v]) (rs ++ [q]) := by
  have := RowsIn.insert (j := vs.length) h hq
  rw [List.take_length, List.drop_length, List.append_nil] at this
  rw [show rs.take vs.length = rs by rw [h.1, List.take_length], show rs.drop vs.length = [] by rw [h.1, List.drop_length], List.append_nil] at this
  exact this
/-- the rows' numbers -/
def Nums (len : Int) (rrs : List Row) : Prop := ∀ (j : Nat) r, rrs[j]? = some r → r.n = 1 + (5 * (j : Int) + len).fmod 13
theorem Nums.ne {len : Int} {rrs : List Row} {q : Row} {i : Nat} (h : Nums len rrs) (hi : rrs.length = i) (h12 : i < 12) (hq : q.n = 1 + (5 * (i : Int) + len).fmod 13) : ∀ r ∈ rrs, r.n ≠ q.n := by
  intro r hr
  obtain ⟨j, hj, rfl⟩ := List.getElem_of_mem hr
  rw [h j _ (List.getElem?_eq_getElem hj), hq, Int.fmod_eq_emod_of_nonneg _ (by decide), Int.fmod_eq_emod_of_nonneg _ (by decide)]
  omega
theorem Nums.snoc {len : Int} {rrs : List Row} {q : Row} {i : Nat} (h : Nums len rrs) (hi : rrs.length = i) (hq : q.n = 1 + (5 * (i : Int) + len).fmod 13) : Nums len (rrs ++ [q]) := by
  intro j r hr
  rcases Nat.lt_or_ge j rrs.length with a | a
  · rw [List.getElem?_append_left a] at hr; exact h j r hr
  · rw [List.getElem?_append_right a] at hr
    rcases Nat.eq_zero_or_pos (j - rrs.length) with b | b
    · rw [b] at hr
      simp only [List.getElem?_cons_zero, Option.some.injEq] at hr
      rw [← hr, hq]
      have : j = i := by omega
      rw [this]
    · rw [List.getElem?_eq_none (by simp; omega)] at hr; cases hr
/-- the law's state -/
structure LInv (r0 r1 : Bool) (len : Int) (L sl : Addr) (kp : List (Addr × Obj)) (m0 : Str → Option Value) (i : Nat) (m : Str → Option Value) (news : List (Addr × Obj)) (fl rl D : Addr) (fvs rvs : List Value) (frs rrs : List Row) (e1 e2 : Nat) (ko ro : Obj) (rx : Option Value) (tl : List (Addr × Obj)) (u1 u2 u3 u4 u5 u6 : Option Value) : Prop where
  hm : m = fun y => if y = Str.ofString "found" then some (.ref fl) else if y = Str.ofString "rows" then some (.ref rl) else if y = Str.ofString "script" then some (.ref sl) else if y = Str.ofString "place" then u1 else if y = Str.ofString "cell" then u2 else if y = Str.ofString "rest" then u3 else if y = Str.ofString "due" then u4 else if y = Str.ofString "other" then u5 else if y = Str.ofString "later" then u6 else m0 y
  hn : news = (fl, lstL fvs e1) :: (rl, lstL rvs e2) :: (L + 1 + 1, ro) :: (L + 1, ko) :: (82, tabObj #[]) :: tl
  hK : KeysIn tl D r0 r1
  hF : RowsIn tl fvs frs
  hR : RowsIn tl rvs rrs
  kp : ∀ p ∈ kp, p ∈ tl
  hko : ko.data = .cell (some (.ref D))
  hro : ro.data = .cell rx
  d1 : (@Ne Nat fl rl) ∧ (@Ne Nat fl (L + 1 + 1)) ∧ (@Ne Nat fl (L + 1)) ∧ (@Ne Nat fl 82)
  d2 : (@Ne Nat rl (L + 1 + 1)) ∧ (@Ne Nat rl (L + 1)) ∧ (@Ne Nat rl 82)
  d3 : ∀ p ∈ tl, (@Ne Nat p.1 rl) ∧ (@Ne Nat p.1 (L + 1 + 1)) ∧ (@Ne Nat p.1 (L + 1)) ∧ (@Ne Nat p.1 82)
  sz : rrs.length = i
  num : Nums len rrs
  perm : frs.Perm rrs
  srt : Ord r0 r1 frs
  sok : ∀ r ∈ rrs, PyData.strOk r.s = true
def LI (r0 r1 : Bool) (len : Int) (L sl : Addr) (kp : List (Addr × Obj)) (i : Nat) (m : Str → Option Value) (news : List (Addr × Obj)) : Prop :=
  ∃ m0 fl rl D fvs rvs frs rrs e1 e2 ko ro rx tl u1 u2 u3 u4 u5 u6, LInv r0 r1 len L sl kp m0 i m news fl rl D fvs rvs frs rrs e1 e2 ko ro rx tl u1 u2 u3 u4 u5 u6
theorem chain_of {g h : Heap} {L fl rl sl : Addr} {M : Str → Option Value} {a b : Option Value} (F : Fr g L h M) (h1 : M (Str.ofString "found") = some (.ref fl)) (h2 : M (Str.ofString "rows") = some (.ref rl)) (h3 : M (Str.ofString "script") = some (.ref sl)) (h4 : M (Str.ofString "place") = a) (h5 : M (Str.ofString "due") = b) :
    Fr g L h (fun y => if y = Str.ofString "found" then some (.ref fl) else if y = Str.ofString "rows" then some (.ref rl) else if y = Str.ofString "script" then some (.ref sl) else if y = Str.ofString "place" then a else if y = Str.ofString "cell" then M (Str.ofString "cell") else if y = Str.ofString "rest" then M (Str.ofString "rest") else if y = Str.ofString "due" then b else if y = Str.ofString "other" then M (Str.ofString "other") else if y = Str.ofString "later" then M (Str.ofString "later") else M y) := by
  refine fr_eqm F fun n => ?_
  repeat' (split; (rename_i e; first | (rw [e]; assumption) | (rw [e])))
  rfl
theorem ints_get : ∀ {vs : List Value} {zs : List Int}, IntsAre vs zs → ∀ {i : Nat} {x : Value}, vs[i]? = some x → ∃ z t, x = .int z t
  | _, _, .nil, _, _, hx => by simp at hx
  | _, _, .cons z t h, 0, x, hx => ⟨z, t, by simpa using hx.symm⟩
  | _, _, .cons z t h, i + 1, x, hx => ints_get h (i := i) (by simpa using hx)
def lawDef : List Stmt × Scope := match PySem.Challenge.pw_nz0272_01.main.body.getLast? with
  | some (.FunctionDef (body := b) (scope := c) ..) => (b, c)
  | _ => ([], default)
end
section
open PySem PySem.W PySem.Calls PyProof.Rows PySem.Spec PyProof.V PySem.SeqAt
set_option maxRecDepth 100000
abbrev rowD (r : Row) : PyData := .tuple [.int r.n, .list [.str r.s, .int r.i]]
section
variable {h₀ h : Heap} {L : Addr} {news : List (Addr × Obj)}
theorem reads_row {v : Value} {r : Row} (N : News h₀ L h news) (hr : RowIn news v r) : ∃ as, Reads h v (rowD r) as := by
  obtain ⟨a, l, e, e', t, t1, t2, rfl, m1, m2⟩ := hr
  exact ⟨_, Reads.tuple (N _ m1).1 rfl rfl (.cons (Reads.int _ _) (.cons (Reads.list (N _ m2).1 rfl rfl (.cons (Reads.str _ _) (.cons (Reads.int _ _) .nil))) .nil))⟩
theorem reads_rows (N : News h₀ L h news) : ∀ {vs : List Value} {rs : List Row}, RowsIn news vs rs → ∃ as, ReadsAll h vs (rs.map rowD) as
  | [], [], _ => ⟨_, .nil⟩
  | [], _ :: _, hR => by have := hR.1; simp at this
  | _ :: _, [], hR => by have := hR.1; simp at this
  | v :: vs, r :: rs, hR => by
    obtain ⟨as, ha⟩ := reads_row N (hR.2 0 v r rfl rfl)
    obtain ⟨bs, hb⟩ := reads_rows N (vs := vs) (rs := rs) ⟨by simpa using hR.1, fun i x y hx hy => hR.2 (i + 1) x y (by simpa using hx) (by simpa using hy)⟩
    exact ⟨_, .cons ha hb⟩
theorem reads_list {l : Addr} {e : Nat} {vs : List Value} {rs : List Row} (N : News h₀ L h news) (hm : (l, lstL vs e) ∈ news) (hR : RowsIn news vs rs) : ∃ as, Reads h (.ref l) (.list (rs.map rowD)) as := by
  obtain ⟨as, ha⟩ := reads_rows N hR
  exact ⟨_, Reads.list (N _ hm).1 rfl rfl (by simpa using ha)⟩
end
theorem rows_lay : ∀ rs : List Row, (∀ r ∈ rs, PyData.strOk r.s = true) → PyData.canLayAll0 (rs.map rowD) = true
  | [], _ => by simp [PyData.canLayAll0]
  | r :: rs, h => by simp [PyData.canLayAll0, PyData.canLay0, rows_lay rs (fun x hx => h x (.tail _ hx)), h r (.head _)]
theorem rows_depth : ∀ rs : List Row, PyData.depthAll (rs.map rowD) ≤ 8
  | [] => by simp [PyData.depthAll]
  | r :: rs => by
    have := rows_depth rs
    simp only [List.map_cons, PyData.depthAll, PyData.depth]
    omega
theorem rows_shaped (rs : List Row) (ho : ∀ r ∈ rs, PyData.strOk r.s = true) : shaped (.list (rs.map rowD)) = true := by
  have h1 := rows_depth rs
  have h2 : PyData.depth (.list (rs.map rowD)) ≤ 64 := by simp only [PyData.depth]; omega
  show (PyData.canLay0 (.list (rs.map rowD)) && decide (PyData.depth (.list (rs.map rowD)) ≤ 64)) = true
  rw [Bool.and_eq_true]
  exact ⟨by simp only [PyData.canLay0]; exact rows_lay rs ho, decide_eq_true h2⟩
theorem rows_eqv : ∀ rs : List Row, PyData.eqvAll (rs.map rowD) (rs.map rowD) = true
  | [] => by simp [PyData.eqvAll]
  | r :: rs => by simp [PyData.eqvAll, PyData.eqv, rows_eqv rs]
theorem ne_rows {prog : Program} {w : World} {A : Around} {E : Value → Shared → Prop} {s : Shared} {h₀ : Heap} {L : Addr} {news tl : List (Addr × Obj)} {l1 l2 : Addr} {vs us : List Value} {rs : List Row} {e1 e2 : Nat} {Q : Value → Shared → Prop}
    (N : News h₀ L s.heap news) (m1 : (l1, lstL vs e1) ∈ news) (m2 : (l2, lstL us e2) ∈ news) (hR : RowsIn tl vs rs) (hvu : us = vs) (hs : ∀ p ∈ tl, p ∈ news) (ho : ∀ r ∈ rs, PyData.strOk r.s = true) (hu : A.units + 64 < cLine) (h : Q (.bool false) s) :
    wpAny (model prog w) A (compareOp .NotEq (.ref l1) (.ref l2)) Q E s := by
  subst hvu
  obtain ⟨as, ha⟩ := reads_list N m1 (hR.mono hs)
  obtain ⟨bs, hb⟩ := reads_list N m2 (hR.mono hs)
  refine ne_dataH ha hb (rows_shaped rs ho) (rows_shaped rs ho) hu ?_
  rw [show PyData.eqv (.list (rs.map rowD)) (.list (rs.map rowD)) = true by simp only [PyData.eqv]; exact rows_eqv rs]
  exact h
/-- two sorted lists of the same rows are one -/
theorem ord_of_SR {r0 r1 : Bool} {l : List Row} (h : l.Pairwise (SR r0 r1)) (hn : l.Pairwise fun a b => a.n ≠ b.n) : Ord r0 r1 l := by
  refine (List.pairwise_and_iff.mpr ⟨h, hn⟩).imp ?_
  rintro a b ⟨h1, h2⟩
  rw [aheadB_def]
  unfold SR SRel at h1
  simp only [intKd, PyProof.Rows.strKind, skey, decide_eq_true_eq, decide_eq_false_iff_not, Bool.false_eq_true, if_false, ite_false] at h1
  rcases h1 with h1 | ⟨a1, a2, h1⟩
  · left; cases r0 <;> simpa using h1
  · right
    refine ⟨str_eq_of (List.le_antisymm (List.not_lt.mp a2) (List.not_lt.mp a1)), ?_⟩
    rcases h1 with h1 | ⟨b1, b2, h1⟩
    · left; cases r1 <;> simpa using h1
    · right
      refine ⟨by omega, ?_⟩
      rcases h1 with h1 | ⟨c1, c2, -⟩
      · simpa using h1
      · exact absurd (show a.n = b.n by omega) h2
theorem nums_eq {r0 r1 : Bool} {l1 l2 rrs : List Row} (h1 : l1.Perm rrs) (h2 : l2.Perm rrs) (o1 : Ord r0 r1 l1) (o2 : Ord r0 r1 l2) : l1 = l2 := by
  have hp : l1.Perm l2 := h1.trans h2.symm
  clear h1 h2
  induction l1 generalizing l2 with
  | nil => exact (List.nil_perm.mp hp).symm
  | cons a l ih =>
    cases l2 with
    | nil => exact absurd (List.perm_nil.mp hp) (by simp)
    | cons b k =>
      obtain ⟨p1, p2⟩ := List.pairwise_cons.mp o1
      obtain ⟨q1, q2⟩ := List.pairwise_cons.mp o2
      have hab : a = b := by
        have ha : a ∈ b :: k := hp.mem_iff.mp (.head _)
        have hb : b ∈ a :: l := hp.mem_iff.mpr (.head _)
        rcases List.mem_cons.mp ha with e | ha
        · exact e
        · rcases List.mem_cons.mp hb with e | hb
          · exact e.symm
          · have := aheadB_trans (p1 b hb) (q1 a ha)
            rw [aheadB_irrefl] at this; cases this
      subst hab
      rw [ih p2 q2 (List.Perm.cons_inv hp)]
theorem nums_pw {len : Int} {rrs : List Row} (h : Nums len rrs) (hz : rrs.length ≤ 12) : rrs.Pairwise fun a b => a.n ≠ b.n := by
  rw [List.pairwise_iff_getElem]
  intro i j hi hj hij
  rw [h i _ (List.getElem?_eq_getElem hi), h j _ (List.getElem?_eq_getElem hj), Int.fmod_eq_emod_of_nonneg _ (by decide), Int.fmod_eq_emod_of_nonneg _ (by decide)]
  omega
end
section
open PySem PySem.W PySem.Calls PyProof.Rows
set_option maxRecDepth 100000
/-- what a word does to the keys found so far and to the flag -/
def stepW (a : List (Str × Bool) × Bool) (x : Str) : List (Str × Bool) × Bool :=
  if (upS x == Str.ofString "REVERSE") = true then (a.1, true) else (a.1 ++ [(upS x, a.2)], false)
def okW (a : List (Str × Bool) × Bool) (x : Str) : Bool :=
  (x.cps.all fun c => decide (c < 128)) && decide (x.cps.size < 1000) && decide (a.1.length < 900) && (if (upS x == Str.ofString "REVERSE") = true then !a.2 else wordsL.any fun y => y == upS x)
def okAll : List (Str × Bool) × Bool → List Str → Bool
  | _, [] => true
  | a, x :: l => okW a x && okAll (stepW a x) l
theorem okAll_get : ∀ {l : List Str} {a : List (Str × Bool) × Bool} {i : Nat} {x : Str}, okAll a l = true → l[i]? = some x → okW ((l.take i).foldl stepW a) x = true ∧ (l.take (i + 1)).foldl stepW a = stepW ((l.take i).foldl stepW a) x
  | [], _, _, _, _, h => by simp at h
  | y :: l, a, 0, x, ho, h => by
    simp only [okAll, Bool.and_eq_true] at ho
    simp only [List.getElem?_cons_zero, Option.some.injEq] at h
    subst h
    exact ⟨ho.1, rfl⟩
  | y :: l, a, i + 1, x, ho, h => by
    simp only [okAll, Bool.and_eq_true] at ho
    simp only [List.getElem?_cons_succ] at h
    exact okAll_get (l := l) ho.2 h
def KsIn (tl : List (Addr × Obj)) (fs : List Value) (ks : List (Str × Bool)) : Prop :=
  fs.length = ks.length ∧ ∀ (j : Nat) v k, fs[j]? = some v → ks[j]? = some k → ∃ a c u, v = .ref a ∧ (a, tupL [.str k.1 u, .bool k.2] c) ∈ tl
theorem KsIn.mono {tl tl' : List (Addr × Obj)} {fs : List Value} {ks : List (Str × Bool)} (h : KsIn tl fs ks) (hs : ∀ p ∈ tl, p ∈ tl') : KsIn tl' fs ks :=
  ⟨h.1, fun j v k hv hk => let ⟨a, c, u, e, hm⟩ := h.2 j v k hv hk; ⟨a, c, u, e, hs _ hm⟩⟩
theorem KsIn.snoc {tl : List (Addr × Obj)} {fs : List Value} {ks : List (Str × Bool)} {K : Str} {b : Bool} {a : Addr} {c : Nat} {u : Tok} (h : KsIn tl fs ks) (hm : (a, tupL [.str K u, .bool b] c) ∈ tl) : KsIn tl (fs ++ [.ref a]) (ks ++ [(K, b)]) := by
  refine ⟨by rw [List.length_append, List.length_append, h.1]; rfl, fun j v k hv hk => ?_⟩
  rcases Nat.lt_or_ge j fs.length with q | q
  · rw [List.getElem?_append_left q] at hv
    rw [List.getElem?_append_left (h.1 ▸ q)] at hk
    exact h.2 j v k hv hk
  · rw [List.getElem?_append_right q] at hv
    rw [List.getElem?_append_right (h.1 ▸ q), ← h.1] at hk
    rcases Nat.eq_zero_or_pos (j - fs.length) with z | z
    · rw [z] at hv hk
      simp only [List.getElem?_cons_zero, Option.some.injEq] at hv hk
      exact ⟨a, c, u, hv.symm, by rw [← hk]; exact hm⟩
    · rw [List.getElem?_eq_none (show 1 ≤ j - fs.length from z)] at hv; cases hv
theorem KsIn.two {tl : List (Addr × Obj)} {fs : List Value} {K0 K1 : Str} {b0 b1 : Bool} (h : KsIn tl fs [(K0, b0), (K1, b1)]) :
    ∃ k0 k1 c0 c1 u0 u1, fs = [.ref k0, .ref k1] ∧ (k0, tupL [.str K0 u0, .bool b0] c0) ∈ tl ∧ (k1, tupL [.str K1 u1, .bool b1] c1) ∈ tl := by
  obtain ⟨hl, hg⟩ := h
  match fs, hl with
  | [x, y], _ =>
    obtain ⟨k0, c0, u0, rfl, h0⟩ := hg 0 x _ rfl rfl
    obtain ⟨k1, c1, u1, rfl, h1⟩ := hg 1 y _ rfl rfl
    exact ⟨k0, k1, c0, c1, u0, u1, rfl, h0, h1⟩
/-- the loop's state -/
structure RIn (wl : Addr) (vs : List Value) (ew : Nat) (st : List (Str × Bool) × Bool) (m0 : Str → Option Value) (m : Str → Option Value) (news : List (Addr × Obj)) (fl : Addr) (fs : List Value) (e : Nat) (tl : List (Addr × Obj)) (u1 u2 u3 : Option Value) : Prop where
  hm : m = fun y => if y = Str.ofString "found" then some (.ref fl) else if y = Str.ofString "is_reverse" then some (.bool st.2) else if y = Str.ofString "words" then some (.ref wl) else if y = Str.ofString "at" then u1 else if y = Str.ofString "word" then u2 else if y = Str.ofString "plain" then u3 else m0 y
  hn : news = (fl, lstL fs e) :: (wl, lstL vs ew) :: tl
  hK : KsIn tl fs st.1
  d1 : @Ne Nat fl wl
  d2 : ∀ p ∈ tl, (@Ne Nat p.1 fl) ∧ (@Ne Nat p.1 wl)
def RI (wl : Addr) (vs : List Value) (ew : Nat) (st : List (Str × Bool) × Bool) (m : Str → Option Value) (news : List (Addr × Obj)) : Prop :=
  ∃ m0 fl fs e tl u1 u2 u3, RIn wl vs ew st m0 m news fl fs e tl u1 u2 u3
theorem chainR_of {g h : Heap} {L fl wl : Addr} {b : Bool} {M : Str → Option Value} (F : Fr g L h M) (h1 : M (Str.ofString "found") = some (.ref fl)) (h2 : M (Str.ofString "is_reverse") = some (.bool b)) (h3 : M (Str.ofString "words") = some (.ref wl)) :
    Fr g L h (fun y => if y = Str.ofString "found" then some (.ref fl) else if y = Str.ofString "is_reverse" then some (.bool b) else if y = Str.ofString "words" then some (.ref wl) else if y = Str.ofString "at" then M (Str.ofString "at") else if y = Str.ofString "word" then M (Str.ofString "word") else if y = Str.ofString "plain" then M (Str.ofString "plain") else M y) := by
  refine fr_eqm F fun n => ?_
  repeat' (split; (rename_i e; first | (rw [e]; assumption) | (rw [e])))
  rfl
theorem kstp_for {prog : Program} {w : World} {A : Around} {E : Value → Shared → Prop} {s : Shared} {env : Env} {t i : PySem.Expr} {b o : List Stmt} {pos : Pos} {Q : Flow → Shared → Prop} (h : Stp (wpAny (model prog w) A (exec (.For t i b o pos) env) Q E s)) :
    wpAny (model prog w) A (exec (.For t i b o pos) env) Q E s := h.out
theorem kstp_app {prog : Program} {w : World} {A : Around} {E : Value → Shared → Prop} {s : Shared} {l : List Value} {Q : Value → Shared → Prop} (h : Stp (wpAny (model prog w) A (call (.builtin "list.append") l) Q E s)) :
    wpAny (model prog w) A (call (.builtin "list.append") l) Q E s := h.out
theorem k_append {prog : Program} {w : World} {A : Around} {E : Value → Shared → Prop} {s : Shared} {h₀ : Heap} {L D : Addr} {m : Str → Option Value} {news news' : List (Addr × Obj)} {vs : List Value} {e : Nat} {x : Value} {Q : Value → Shared → Prop} (F : Fr h₀ L s.heap m) (N : News h₀ L s.heap news)
    (U : Upd D (lstL vs e) (lstL (vs ++ [x]) (e + 1)) news news') (hz : vs.length < 1000) (h : ∀ h', Fr h₀ L h' m → News h₀ L h' news' → Q .none { s with heap := h' }) : wpAny (model prog w) A (call (.builtin "list.append") [.ref D, x]) Q E s := by
  refine append_K (its := vs.toArray) (n := e) F N ?_ h (by rw [List.size_toArray, sizeLine_eq]; omega)
  rw [List.push_toArray]
  exact U
theorem str_eq_is {prog : Program} {w : World} {A : Around} {E : Value → Shared → Prop} {s : Shared} {k r : Str} {t u : Tok} {b : Bool} {Q : Value → Shared → Prop} (hb : (k == r) = b) (h : Q (.bool b) s) :
    wpAny (model prog w) A (compareOp .Eq (.str k t) (.str r u)) Q E s := by
  refine eq_str ?_
  rw [hb]
  exact h
theorem keys_shaped {K0 K1 : Str} {b0 b1 : Bool} (h0 : PyData.strOk K0 = true) (h1 : PyData.strOk K1 = true) : PySem.SeqAt.shaped (.list [.tuple [.str K0, .bool b0], .tuple [.str K1, .bool b1]]) = true := by
  have e : (PyData.list [.tuple [.str K0, .bool b0], .tuple [.str K1, .bool b1]]).canLay0 = (PyData.strOk K0 && PyData.strOk K1) := by
    simp [PyData.canLay0, PyData.canLayAll0]
  unfold PySem.SeqAt.shaped
  rw [e, h0, h1]
  rfl
theorem newsTail {h h₀ : Heap} {L : Addr} {a : Addr × Obj} {r : List (Addr × Obj)} (N : News h₀ L h (a :: r)) : News h₀ L h r := fun q hq => N q (.tail _ hq)
theorem pick4 {h h₀ : Heap} {L : Addr} {a b x y : Addr × Obj} {r : List (Addr × Obj)} (N : News h₀ L h (a :: b :: r)) (hx : x ∈ r) (hy : y ∈ r) : News h₀ L h [a, b, x, y] := by
  intro q hq
  simp only [List.mem_cons, List.not_mem_nil, or_false] at hq
  rcases hq with rfl | rfl | rfl | rfl
  · exact N _ (.head _)
  · exact N _ (.tail _ (.head _))
  · exact N _ (.tail _ (.tail _ hx))
  · exact N _ (.tail _ (.tail _ hy))
theorem strs_get : ∀ {vs : List Value} {ws : List Str}, StrsAre vs ws → vs.length = ws.length ∧ ∀ {i : Nat} {x : Value}, vs[i]? = some x → ∃ w t, x = .str w t ∧ ws[i]? = some w
  | _, _, .nil => ⟨rfl, fun hx => by simp at hx⟩
  | _, _, .cons z t h => ⟨by rw [List.length_cons, List.length_cons, (strs_get h).1], fun {i x} hx => by
    cases i with
    | zero => exact ⟨z, t, by simpa using hx.symm, rfl⟩
    | succ i => exact (strs_get h).2 (by simpa using hx)⟩
local macro_rules | `(tactic| walk_at "call ref") => `(tactic| (k_here; k_dflt (refine' upper_leaf ?k1 ?k2 ?k3 ?k4 ?k5 ?ka ?kz ?kd ?ku ?kN ?_; (case k1 | k2 | k3 | k4 => k_asm); (case k5 => first | exact rfl | assumption); (case ka | kz => assumption); (case kd => ktr_room); (case ku => ktr_units); (case kN => exact fun _ h => nomatch h)); intro h9 tk9 t9 hk9; (rename Fr _ _ _ _ => F9); (rename News _ _ _ _ => N9); (have F9' := F9.keptAll hk9); (have N9' := N9.grown hk9); clear F9 N9))
local macro_rules | `(tactic| walk_at "call ref") => `(tactic| (k_here; k_dflt (refine' words_leaf ?k1 ?k2 ?k3 ?k4 ?k5 ?kd ?ku ?kN ?_; (case k1 | k2 | k3 | k4 => k_asm); (case k5 => first | exact rfl | assumption); (case kd => ktr_room); (case ku => ktr_units); (case kN => exact fun _ h => nomatch h)); intro h9 tk9 D9 o9 hk9 hw9 NW9 hf9; (rename Fr _ _ _ _ => F9); (have F9' := F9.keptAll hk9); clear F9; revert NW9; (rename News _ _ _ _ => N9); (have l9 := allNe_fresh N9 hf9); (simp only [AllNe, and_true] at l9); intro NW9; (have N9' := NW9.append (N9.grown hk9)); (simp only [List.cons_append, List.nil_append] at N9'); clear N9 NW9 hf9))
local macro_rules | `(tactic| walk_at "compareOp In str ref") => `(tactic| (k_here; k_dflt (refine' in_words ?k1 ?k2 ?k3 ?k4 ?_; (case k1 => k_asm); (case k2 => k_mem); (case k3 | k4 => assumption))))
local macro_rules | `(tactic| walk_at "compareOp Eq str str") => `(tactic| (k_here; k_dflt (refine' str_eq_is ?k1 ?_; (case k1 => assumption))))
local macro_rules | `(tactic| walk_at "call builtin:list.append") => `(tactic| (k_here; refine kstp_app ?_))
local macro_rules | `(tactic| walk_at "exec For Tuple Call cons nil") => `(tactic| (k_here; refine kstp_for ?_))
set_option maxHeartbeats 4000000
theorem rsk {prog p : Program} {w : World} {loose : List Str} {mean : ExcName → Option Value} {mg mb : Str → Option Value}
    {dp un : Nat} {gd : Option (List Code)} {cn : Str} {cs : Scope} {a : Addr} {ccd : Value} {cl : List (Str × Addr)} {outer : List Env} {A₀ : Around} {base h₀ : Heap} {L : Addr} {m : Str → Option Value} {s : Shared} {Q E : Value → Shared → Prop}
    (B : Below A₀ base outer h₀) (F : Fr h₀ L s.heap m) (X : (hd.heap_39 w.params).In h₀) (T : Top p loose mean mg mb h₀) (hk : cs.kind = .function)
    {wl : Addr} {e : Nat} {vs : List Value} {ws : List Str} {K0 K1 : Str} {b0 b1 : Bool}
    (hd : dp + 12 < recursionLimit) (hu : un + 200 < cLine) (N : News h₀ L s.heap [(wl, lstL vs e)]) (ha : StrsAre vs ws) (hok : okAll ([], false) ws = true) (hf : ws.foldl stepW ([], false) = ([(K0, b0), (K1, b1)], false)) (hK0 : PyData.strOk K0 = true) (hK1 : PyData.strOk K1 = true)
    (ret : ∀ h' tk' D k0 k1 c0 c1 c2 u0 u1, Kps s.heap h' → News h₀ L h' [(D, lstL [.ref k0, .ref k1] c0), (k0, tupL [.str K0 u0, .bool b0] c1), (k1, tupL [.str K1 u1, .bool b1] c2)] →
      (∀ b o, s.heap.get? b = some o → b ≠ D) → (∀ b o, s.heap.get? b = some o → b ≠ k0) → (∀ b o, s.heap.get? b = some o → b ≠ k1) → Q (.ref D) { s with heap := h', toks := tk' }) :
    wpAny (model prog w) (ktrTop dp un gd cn cs L a ccd cl outer) (call (.ref 80) [.ref wl]) Q E s := by
  w_top off
  ktr_unf
  refine wpAny_call ?_
  k_dflt ktr_rel
  k_steps
  all_goals (try k_data)
  rename Fr _ _ _ _ => F9
  rename News _ _ _ _ => N9
  refine ⟨?_⟩
  refine For_turns F9 ?_
  k_steps
  rename Fr _ _ _ _ => F9
  rename News _ _ _ _ => N9
  rename _ < _ => hlt
  replace N9 := newsTail N9
  have F9 := chainR_of F9 rfl rfl rfl
  refine ktu_enum rfl F9 N9 (.tail _ (.head _)) rfl rfl rfl (fun I l9 => ?_)
  refine items_enum (vs := vs) (fun i m' n' => RI wl vs e ((ws.take i).foldl stepW ([], false)) m' n' ∧ ∀ p ∈ n', (@Ne Nat p.1 I) ∧ (@Ne Nat p.1 (I + 1))) (fun i x m' n' hx hJ T8 t8 h8 tk8 hT8 F8 => ?turn) (fun m' n' h8 tk8 hJ F8 N8 => ?fin) vs.length 0 (by omega) _ _ ?init
  case init =>
    refine ⟨⟨_, _, [], 0, [], _, _, _, rfl, rfl, ⟨rfl, fun j v k hv => by simp at hv⟩, Nat.ne_of_gt hlt, fun p hp => (nomatch hp)⟩, fun q hq => ⟨Nat.ne_of_lt (l9 q hq), Nat.ne_of_lt (Nat.lt_succ_of_lt (l9 q hq))⟩⟩
  case turn =>
    obtain ⟨w', t', rfl, hw⟩ := (strs_get ha).2 hx
    obtain ⟨hko, hst⟩ := okAll_get hok hw
    obtain ⟨hJ, hJI⟩ := hJ
    clear hx hw F9 N9 l9 hlt hok hf ha ret
    generalize List.foldl stepW ([], false) (List.take i ws) = st at hJ hko hst
    obtain ⟨ks, r⟩ := st
    refine AllObj.cons fun oe hoe => AllObj.cons fun oi hoi => AllObj.nil fun N8 => ?_
    obtain ⟨m0, fl, fs, e1, tl, u1, u2, u3, rfl, rfl, hK, d1, d2⟩ := hJ
    simp only [List.cons_append, List.nil_append] at N8
    replace F8 := show Fr _ _ h8 _ from F8
    replace N8 := show News _ _ h8 _ from N8
    simp only [List.forall_mem_cons] at hJI
    obtain ⟨⟨j1, j1'⟩, ⟨j2, j2'⟩, j3⟩ := hJI
    simp only [okW, Bool.and_eq_true, decide_eq_true_eq] at hko
    obtain ⟨⟨⟨hka, hkz⟩, hkl⟩, hkw⟩ := hko
    have hfl : fs.length < 1000 := by have : fs.length = ks.length := hK.1; have : ks.length < 900 := hkl; omega
    have hoff : ∀ p ∈ ((fl, lstL fs e1) :: (wl, lstL vs e) :: tl : List (Addr × Obj)), (@Ne Nat p.1 I) ∧ (@Ne Nat p.1 (I + 1)) :=
      List.forall_mem_cons.mpr ⟨⟨j1, j1'⟩, List.forall_mem_cons.mpr ⟨⟨j2, j2'⟩, j3⟩⟩
    cases hrv : (upS w' == Str.ofString "REVERSE") with
    | true =>
      rw [if_pos hrv] at hkw
      have hr : r = false := by simpa using hkw
      subst hr
      have hs : stepW (ks, false) w' = (ks, true) := if_pos hrv
      rw [hs] at hst
      k_steps
      all_goals (try k_data)
      rename Fr _ _ _ _ => F5
      rename News _ _ _ _ => N5
      refine ⟨_, _, _, (fl, lstL fs e1) :: (wl, lstL vs e) :: tl, rfl, chainR_of (fl := fl) (wl := wl) (b := true) F5 rfl rfl rfl, N5, fun p hp z hz => ?_, ⟨.tail _ (.head _), trivial⟩, ?_, hoff⟩
      · rcases List.mem_cons.mp hz with rfl | hz
        · exact (hoff p hp).2
        · rw [List.mem_singleton.mp hz]; exact (hoff p hp).1
      · rw [hst]
        exact ⟨_, fl, fs, e1, tl, _, _, _, rfl, rfl, hK, d1, d2⟩
    | false =>
      rw [if_neg (by rw [hrv]; decide)] at hkw
      have hs : stepW (ks, r) w' = (ks ++ [(upS w', r)], false) := if_neg (by rw [hrv]; decide)
      rw [hs] at hst
      k_steps
      all_goals (try k_data)
      rename_i tw _ _ _ _ _ _ _ _ _ l9 D7 h7 F7 N7 l7
      obtain ⟨x1, x2, x3, x4, x5⟩ := l9
      obtain ⟨y1, y2, y3, y4, y5, y6⟩ := l7
      refine ⟨?_⟩
      k_dflt (refine k_append (vs := fs) (e := e1) F7 N7 (.tail (Nat.ne_of_gt y4) (.tail (fun q => x3 q.symm) (.tail (fun q => j1' q.symm) (.tail (fun q => j1 q.symm) (.head (List.forall_mem_cons.mpr ⟨fun q => d1 q.symm, fun p hp => (d2 p hp).1⟩)))))) hfl ?_)
      intro h5 F5 N5
      clear F7 N7
      k_steps
      all_goals (try k_data)
      rename Fr _ _ _ _ => F5
      rename News _ _ _ _ => N5
      have hoff' : ∀ p ∈ ((fl, lstL (fs ++ [.ref D7]) (e1 + 1)) :: (wl, lstL vs e) :: (D7, tupL [.str (upS w') tw, .bool r] 0) :: tl : List (Addr × Obj)), (@Ne Nat p.1 I) ∧ (@Ne Nat p.1 (I + 1)) :=
        List.forall_mem_cons.mpr ⟨⟨j1, j1'⟩, List.forall_mem_cons.mpr ⟨⟨j2, j2'⟩, List.forall_mem_cons.mpr ⟨⟨Nat.ne_of_gt y3, Nat.ne_of_gt y2⟩, j3⟩⟩⟩
      refine ⟨_, _, _, (fl, lstL (fs ++ [.ref D7]) (e1 + 1)) :: (wl, lstL vs e) :: (D7, tupL [.str (upS w') tw, .bool r] 0) :: tl, rfl, chainR_of (fl := fl) (wl := wl) (b := false) F5 rfl rfl rfl, fun p hp => N5 p ?_, fun p hp z hz => ?_, ⟨.tail _ (.head _), trivial⟩, ?_, hoff'⟩
      · simp only [List.cons_append, List.nil_append, List.mem_cons] at hp ⊢
        rcases hp with h | h | h | h | h | h
        · exact .inr (.inr (.inl h))
        · exact .inr (.inr (.inr (.inl h)))
        · exact .inr (.inr (.inr (.inr (.inl h))))
        · exact .inr (.inr (.inr (.inr (.inr (.inl h)))))
        · exact .inl h
        · exact .inr (.inr (.inr (.inr (.inr (.inr h)))))
      · rcases List.mem_cons.mp hz with rfl | hz
        · exact (hoff' p hp).2
        · rw [List.mem_singleton.mp hz]; exact (hoff' p hp).1
      · rw [hst]
        exact ⟨_, fl, fs ++ [.ref D7], e1 + 1, _, _, _, _, rfl, rfl, (hK.mono fun p hp => .tail _ hp).snoc (.head _), d1, List.forall_mem_cons.mpr ⟨⟨Nat.ne_of_gt y4, Nat.ne_of_gt y5⟩, d2⟩⟩
  case fin =>
    rw [(strs_get ha).1, List.take_length, hf] at hJ
    obtain ⟨⟨m0, fl, fs, e1, tl, u1, u2, u3, rfl, rfl, hK, d1, d2⟩, -⟩ := hJ
    obtain ⟨k0, k1, c0, c1, t0, t1, rfl, hm0, hm1⟩ := hK.two
    have n0 := (d2 _ hm0).2
    have n1 := (d2 _ hm1).2
    replace F8 := show Fr _ _ h8 _ from F8
    replace N8 := pick4 N8 hm0 hm1
    replace N8 := show News _ _ h8 ((fl, W.listOf #[Value.ref k0, Value.ref k1] e1) :: _) from N8
    clear F9 N9 l9 hK d2 hm0 hm1
    k_steps
    all_goals (try k_data)
    refine eq_dataH (by ke_read) (by ke_read) (keys_shaped hK0 hK1) (by ke_shaped) (by ke_room) ?_
    ke_norm
    k_steps
    all_goals (try k_data)
    refine' Kept.of N ?kn ?ks ?_
    case kn => assumption
    case ks => exact fun q hq => List.mem_singleton.mp hq ▸ .tail _ (.tail _ (.head _))
    intro hkp
    rename News _ _ _ _ => N9
    refine ret _ _ fl k0 k1 e1 c0 c1 t0 t1 hkp (fun q hq => ?_) ?f1 ?f2 ?f3
    case f1 => exact Hid.fresh (by assumption) (by assumption) (.tail _ (.head _)) (by simp only [List.map_cons, List.map_nil, List.mem_cons, List.not_mem_nil, or_false]; exact d1)
    case f2 => exact Hid.fresh (by assumption) (by assumption) (.tail _ (.tail _ (.tail _ (.head _)))) (by simp only [List.map_cons, List.map_nil, List.mem_cons, List.not_mem_nil, or_false]; exact n0)
    case f3 => exact Hid.fresh (by assumption) (by assumption) (.tail _ (.tail _ (.tail _ (.tail _ (.head _))))) (by simp only [List.map_cons, List.map_nil, List.mem_cons, List.not_mem_nil, or_false]; exact n1)
    simp only [List.mem_cons, List.not_mem_nil, or_false] at hq
    rcases hq with rfl | rfl | rfl
    · exact N9 _ (.tail _ (.head _))
    · exact N9 _ (.tail _ (.tail _ (.tail _ (.head _))))
    · exact N9 _ (.tail _ (.tail _ (.tail _ (.tail _ (.head _)))))
theorem rsk_ff {prog p : Program} {w : World} {loose : List Str} {mean : ExcName → Option Value} {mg mb : Str → Option Value}
    {dp un : Nat} {gd : Option (List Code)} {cn : Str} {cs : Scope} {a : Addr} {ccd : Value} {cl : List (Str × Addr)} {outer : List Env} {A₀ : Around} {base h₀ : Heap} {L : Addr} {m : Str → Option Value} {s : Shared} {Q E : Value → Shared → Prop}
    (B : Below A₀ base outer h₀) (F : Fr h₀ L s.heap m) (X : (hd.heap_39 w.params).In h₀) (T : Top p loose mean mg mb h₀) (hk : cs.kind = .function)
    {wl : Addr} {e : Nat} {t1 t2 : Tok}
    (hd : dp + 12 < recursionLimit) (hu : un + 200 < cLine) (N : News h₀ L s.heap [(wl, lstL [.str (Str.ofString "From") t1, .str (Str.ofString "ARRIVAL") t2] e)])
    (ret : ∀ h' tk' D k0 k1 c0 c1 c2 u0 u1, Kps s.heap h' → News h₀ L h' [(D, lstL [.ref k0, .ref k1] c0), (k0, tupL [.str (Str.ofString "FROM") u0, .bool false] c1), (k1, tupL [.str (Str.ofString "ARRIVAL") u1, .bool false] c2)] →
      (∀ b o, s.heap.get? b = some o → b ≠ D) → (∀ b o, s.heap.get? b = some o → b ≠ k0) → (∀ b o, s.heap.get? b = some o → b ≠ k1) → Q (.ref D) { s with heap := h', toks := tk' }) :
    wpAny (model prog w) (ktrTop dp un gd cn cs L a ccd cl outer) (call (.ref 80) [.ref wl]) Q E s :=
  rsk B F X T hk hd hu N (.cons _ _ (.cons _ _ .nil)) (by decide +kernel) (by decide +kernel) (by decide +kernel) (by decide +kernel) ret
theorem rsk_tf {prog p : Program} {w : World} {loose : List Str} {mean : ExcName → Option Value} {mg mb : Str → Option Value}
    {dp un : Nat} {gd : Option (List Code)} {cn : Str} {cs : Scope} {a : Addr} {ccd : Value} {cl : List (Str × Addr)} {outer : List Env} {A₀ : Around} {base h₀ : Heap} {L : Addr} {m : Str → Option Value} {s : Shared} {Q E : Value → Shared → Prop}
    (B : Below A₀ base outer h₀) (F : Fr h₀ L s.heap m) (X : (hd.heap_39 w.params).In h₀) (T : Top p loose mean mg mb h₀) (hk : cs.kind = .function)
    {wl : Addr} {e : Nat} {t1 t2 t3 : Tok}
    (hd : dp + 12 < recursionLimit) (hu : un + 200 < cLine) (N : News h₀ L s.heap [(wl, lstL [.str (Str.ofString "reverse") t1, .str (Str.ofString "From") t2, .str (Str.ofString "ARRIVAL") t3] e)])
    (ret : ∀ h' tk' D k0 k1 c0 c1 c2 u0 u1, Kps s.heap h' → News h₀ L h' [(D, lstL [.ref k0, .ref k1] c0), (k0, tupL [.str (Str.ofString "FROM") u0, .bool true] c1), (k1, tupL [.str (Str.ofString "ARRIVAL") u1, .bool false] c2)] →
      (∀ b o, s.heap.get? b = some o → b ≠ D) → (∀ b o, s.heap.get? b = some o → b ≠ k0) → (∀ b o, s.heap.get? b = some o → b ≠ k1) → Q (.ref D) { s with heap := h', toks := tk' }) :
    wpAny (model prog w) (ktrTop dp un gd cn cs L a ccd cl outer) (call (.ref 80) [.ref wl]) Q E s :=
  rsk B F X T hk hd hu N (.cons _ _ (.cons _ _ (.cons _ _ .nil))) (by decide +kernel) (by decide +kernel) (by decide +kernel) (by decide +kernel) ret
theorem rsk_ft {prog p : Program} {w : World} {loose : List Str} {mean : ExcName → Option Value} {mg mb : Str → Option Value}
    {dp un : Nat} {gd : Option (List Code)} {cn : Str} {cs : Scope} {a : Addr} {ccd : Value} {cl : List (Str × Addr)} {outer : List Env} {A₀ : Around} {base h₀ : Heap} {L : Addr} {m : Str → Option Value} {s : Shared} {Q E : Value → Shared → Prop}
    (B : Below A₀ base outer h₀) (F : Fr h₀ L s.heap m) (X : (hd.heap_39 w.params).In h₀) (T : Top p loose mean mg mb h₀) (hk : cs.kind = .function)
    {wl : Addr} {e : Nat} {t1 t2 t3 : Tok}
    (hd : dp + 12 < recursionLimit) (hu : un + 200 < cLine) (N : News h₀ L s.heap [(wl, lstL [.str (Str.ofString "From") t1, .str (Str.ofString "Reverse") t2, .str (Str.ofString "ARRIVAL") t3] e)])
    (ret : ∀ h' tk' D k0 k1 c0 c1 c2 u0 u1, Kps s.heap h' → News h₀ L h' [(D, lstL [.ref k0, .ref k1] c0), (k0, tupL [.str (Str.ofString "FROM") u0, .bool false] c1), (k1, tupL [.str (Str.ofString "ARRIVAL") u1, .bool true] c2)] →
      (∀ b o, s.heap.get? b = some o → b ≠ D) → (∀ b o, s.heap.get? b = some o → b ≠ k0) → (∀ b o, s.heap.get? b = some o → b ≠ k1) → Q (.ref D) { s with heap := h', toks := tk' }) :
    wpAny (model prog w) (ktrTop dp un gd cn cs L a ccd cl outer) (call (.ref 80) [.ref wl]) Q E s :=
  rsk B F X T hk hd hu N (.cons _ _ (.cons _ _ (.cons _ _ .nil))) (by decide +kernel) (by decide +kernel) (by decide +kernel) (by decide +kernel) ret
theorem rsk_tt {prog p : Program} {w : World} {loose : List Str} {mean : ExcName → Option Value} {mg mb : Str → Option Value}
    {dp un : Nat} {gd : Option (List Code)} {cn : Str} {cs : Scope} {a : Addr} {ccd : Value} {cl : List (Str × Addr)} {outer : List Env} {A₀ : Around} {base h₀ : Heap} {L : Addr} {m : Str → Option Value} {s : Shared} {Q E : Value → Shared → Prop}
    (B : Below A₀ base outer h₀) (F : Fr h₀ L s.heap m) (X : (hd.heap_39 w.params).In h₀) (T : Top p loose mean mg mb h₀) (hk : cs.kind = .function)
    {wl : Addr} {e : Nat} {t1 t2 t3 t4 : Tok}
    (hd : dp + 12 < recursionLimit) (hu : un + 200 < cLine) (N : News h₀ L s.heap [(wl, lstL [.str (Str.ofString "reverse") t1, .str (Str.ofString "From") t2, .str (Str.ofString "Reverse") t3, .str (Str.ofString "ARRIVAL") t4] e)])
    (ret : ∀ h' tk' D k0 k1 c0 c1 c2 u0 u1, Kps s.heap h' → News h₀ L h' [(D, lstL [.ref k0, .ref k1] c0), (k0, tupL [.str (Str.ofString "FROM") u0, .bool true] c1), (k1, tupL [.str (Str.ofString "ARRIVAL") u1, .bool true] c2)] →
      (∀ b o, s.heap.get? b = some o → b ≠ D) → (∀ b o, s.heap.get? b = some o → b ≠ k0) → (∀ b o, s.heap.get? b = some o → b ≠ k1) → Q (.ref D) { s with heap := h', toks := tk' }) :
    wpAny (model prog w) (ktrTop dp un gd cn cs L a ccd cl outer) (call (.ref 80) [.ref wl]) Q E s :=
  rsk B F X T hk hd hu N (.cons _ _ (.cons _ _ (.cons _ _ (.cons _ _ .nil)))) (by decide +kernel) (by decide +kernel) (by decide +kernel) (by decide +kernel) ret
end
end
section
local macro_rules | `(tactic| k_all) => `(tactic| assumption)
local macro_rules | `(tactic| k_mem) => `(tactic| assumption)
local macro_rules | `(tactic| walk_at "eval ListComp") => `(tactic| (k_here; k_dflt (refine LCg.ListComp_U (F₀ := by k_asm) (by with_unfolding_all rfl) (by decide) (by rfl) (by decide) (by rfl) ?_)))
local macro_rules | `(tactic| walk_at "subscriptTail Name Name ref int") => `(tactic| (k_here; k_dflt (refine' my_item ?N ?m ?a ?b ?c ?_; (case N => k_asm); (case m => k_mem); (case a | b => decide); (case c => rfl))))
local macro_rules | `(tactic| walk_at "subscriptTail Subscript Name Name Constant ref int") => `(tactic| (k_here; k_dflt (refine' my_titem ?N ?m ?a ?b ?j ?c ?_; (case N => k_asm); (case m => k_mem); (case a | b => decide); (case j | c => rfl))))
local macro_rules | `(tactic| walk_at "subscriptTail") => `(tactic| (k_here; k_dflt (refine' my_titem ?N ?m ?a ?b ?j ?c ?_; (case N => k_asm); (case m => k_mem); (case a | b => decide); (case j | c => rfl))))
section
open PySem PySem.W PySem.Calls PyProof.Rows
set_option maxRecDepth 100000
set_option maxHeartbeats 4000000
local macro_rules | `(tactic| ktr_rel) => `(tactic| (refine' code_defC ?k1 ?k2 ?k3 ?k4 ?k5 ?kA ?kF ?kK ?k6 ?k7 ?k8 ?k9 ?kB ?kD ?_ ?c2 ?c3 ?c4; (case kA | kF => exact rfl); (case kK => assumption); (case k1 | k2 | k3 | k4 | k5 => k_asm); (case k6 | k7 => k_is); (case k8 => ktr_room); (case k9 => exact BindsTo.of_eq rfl); (case kB => exact rfl); (case kD => decide +kernel); (case c2 | c3 | c4 => exact rfl); k_whole; intro g' L' h' tk' cells' FG' F' N' Y' B' X' T' l1; (have hc9 := ne_succ_tail l1); (try k_lt l1); k_cells Y'; (try simp only [List.cons_append, List.nil_append] at N'); (try dsimp only); (try k_lift B'); (try k_fold)))
local macro_rules | `(tactic| walk_at "call builtin:len") => `(tactic| (k_here; k_dflt (refine' my_len ?N ?m ?z ?_; (case N => k_asm); (case m => k_mem); (case z => decide))))
theorem sort_rows_c {prog p : Program} {w : World} {loose : List Str} {mean : ExcName → Option Value} {mg mb : Str → Option Value}
    {un : Nat} {gd : Option (List Code)} {cn : Str} {cs : Scope} {a : Addr} {ccd : Value} {cl : List (Str × Addr)} {outer : List Env} {A₀ : Around} {base h₀ : Heap} {L : Addr} {m : Str → Option Value} {s : Shared} {Q E : Value → Shared → Prop}
    (B : Below A₀ base outer h₀) (F : Fr h₀ L s.heap m) (X : (hd.heap_39 w.params).In h₀) (T : Top p loose mean mg mb h₀) (hk : cs.kind = .function)
    {news : List (Addr × Obj)} {kl rl : Addr} {r0 r1 : Bool} {vs : List Value} {rs : List Row} {e : Nat}
    (hu : un + 200 < cLine) (CH : CodeHd base 84 82) (N : News h₀ L s.heap ((82, tabObj #[]) :: news)) (h82 : ∀ p ∈ news, p.1 ≠ 82) (hK : KeysIn news kl r0 r1) (hl : (rl, lstL vs e) ∈ news) (hR : RowsIn news vs rs) (hlen : vs.length < 64)
    (ret : ∀ h' tk' D (ys : List Value) (rs3 : List Row), Fr h₀ L h' m → News h₀ L h' ((D, LCg.lst ys) :: news) → GrownAt 82 h' → IntsAre ys (rs3.map (·.n)) → rs3.Perm rs → rs3.Pairwise (SR r0 r1) → Q (.ref D) { s with heap := h', toks := tk' }) :
    wpAny (model prog w) (ktrTop 302 un gd cn cs L a ccd cl outer) (call (.ref 85) [.ref kl, .ref rl]) Q E s := by
  obtain ⟨k0, k1, e0, e1, e2, x0, x1, tk0, tk1, hm0, hm1, hm2⟩ := hK
  w_top off
  ktr_unf
  refine wpAny_call ?_
  k_dflt ktr_rel
  k_steps
  all_goals (try k_data)
  show wpAny _ _ (call (Value.builtin _) [Value.ref _] [(PySem.Str.ofString "key", _)]) _ _ _
  rename Fr _ _ _ _ => F9
  rename News _ _ _ _ => N9
  refine' msk_sorted (κ := intKd) (b := false) (kz := rs.map (·.n)) (vs := vs) kd_int F9 N9 (isListL N9 (.tail _ (.tail _ (.tail _ (.tail _ hl))))) (by rw [List.length_map]; exact hR.1.symm) hlen (ksk_s1 _ _) (fun x => ksk_l1 _ _) (fun x => ksk_t1 _ _) (fun i v k hv hk h tk own F8 N8 => ?turn) (fun D h tk out c F8 N8 l8 ho => ?done)
  case turn =>
    obtain ⟨r, hr, rfl⟩ : ∃ r, rs[i]? = some r ∧ r.n = k := by
      rw [List.getElem?_map] at hk
      cases q : rs[i]? with
      | none => rw [q] at hk; cases hk
      | some r => rw [q] at hk; exact ⟨r, rfl, Option.some.inj hk⟩
    obtain ⟨a9, l9, e9, e9', t9, t9', t9'', rfl, hm1, hm2⟩ := hR.2 i v r hv hr
    have N8₀ := N8
    simp only [List.cons_append] at N8
    have N7 := cut4 N8 (List.mem_append_left own hm1) (List.mem_append_left own hm2)
    refine wpAny_call ?_
    refine' kla_codeW ?k1 F8 ?k3 N7 ?k5 ?kA ?kF ?kK ?k6 ?k7 ?k8 ?k9 ?kB ?_ ?c2 ?c3 ?c4 ?c5
    case kA => exact rfl
    case kF => exact rfl
    case kK => exact rfl
    case k1 => k_asm
    case k3 => k_asm
    case k5 => k_asm
    case k6 => exact .head _
    case k7 => exact codeRec_news N8 (by k_mem) (by assumption) (by assumption)
    case k8 => k_room
    case k9 => exact rfl
    case c5 => decide
    case kB => exact locs rfl
    case c2 => exact rfl
    case c3 => exact rfl
    case c4 => exact rfl
    k_whole
    intro g' L' h' hG' FG' F' N' B' X' T'
    (try dsimp only)
    (try k_lift B')
    (try k_fold)
    k_steps
    refine' Kept.of N7 ?kn ?ks ?_
    case kn => assumption
    case ks => (intro q hq; repeat (first | assumption | refine List.Mem.tail _ ?_))
    intro hkp
    exact ⟨_, _, rfl, rfl, F8.keptAll hkp, N8₀.grown hkp⟩
  clear N9 F9
  k_lt l8
  obtain ⟨ol, rfl⟩ : ∃ ol : List Value, out = ol.toArray := ⟨out.toList, by simp⟩
  obtain ⟨rs1, hp1, hR1, hlen1, hw1⟩ := MOut.rows (R := fun _ _ => True) ho hR (List.pairwise_of_forall fun _ _ => trivial)
  k_steps
  all_goals (try k_data)
  rename Fr _ _ _ _ => F9
  refine For_turns F9 ?_
  skip
  k_steps
  rename IsRange _ _ _ _ _ _ _ _ => R9
  rename Fr _ _ _ _ => F9
  rename News _ _ _ _ => N9
  refine range_down2 rfl F9 N9 R9 (fun I l9 => ?_)
  have l9f := l9
  k_lt l9
  k_steps
  all_goals (try k_data)
  show wpAny _ _ (call (Value.builtin _) [Value.ref _] [(PySem.Str.ofString "key", _), (PySem.Str.ofString "reverse", Value.bool _)]) _ _ _
  skip
  rename Fr _ _ _ _ => F9
  rename News _ _ _ _ => N9
  refine' msk_sorted (κ := intKd) (b := r1) (kz := rs1.map (·.i)) (vs := ol) kd_int F9 N9 (isListL N9 (by k_mem)) (by rw [List.length_map]; exact hR1.1.symm) (by simpa using hlen1 ▸ hlen) (ksk_s2 _ _ _) (fun x => ksk_l2 _ _ _) (fun x => ksk_t2 _ _ _) (fun i v k hv hk h tk own F8 N8 => ?turnB) (fun D h tk out c F8 N8 l8 ho => ?doneB)
  case turnB =>
    obtain ⟨r, hr, rfl⟩ : ∃ r, rs1[i]? = some r ∧ r.i = k := by
      rw [List.getElem?_map] at hk
      cases q : rs1[i]? with
      | none => rw [q] at hk; cases hk
      | some r => rw [q] at hk; exact ⟨r, rfl, Option.some.inj hk⟩
    obtain ⟨a9, l9, e9, e9', t9, t9', t9'', rfl, hm1, hm2⟩ := hR1.2 i v r hv hr
    have N8₀ := N8
    simp only [List.cons_append] at N8
    have N7 := cut8 N8 (List.mem_append_left own hm1) (List.mem_append_left own hm2)
    refine wpAny_call ?_
    refine' kla_codeW ?k1 F8 ?k3 N7 ?k5 ?kA ?kF ?kK ?k6 ?k7 ?k8 ?k9 ?kB ?_ ?c2 ?c3 ?c4 ?c5
    case kA => exact rfl
    case kF => exact rfl
    case kK => exact rfl
    case k1 => k_asm
    case k3 => k_asm
    case k5 => k_asm
    case k6 => exact .head _
    case k7 => exact codeRec_news N8 (by k_mem) (by assumption) (by assumption)
    case k8 => k_room
    case k9 => exact rfl
    case c5 => decide
    case kB => exact locs rfl
    case c2 => exact rfl
    case c3 => exact rfl
    case c4 => exact rfl
    k_whole
    intro g' L' h' hG' FG' F' N' B' X' T'
    (try dsimp only)
    (try k_lift B')
    (try k_fold)
    k_steps
    refine' Kept.of N7 ?kn ?ks ?_
    case kn => assumption
    case ks => (intro q hq; repeat (first | assumption | refine List.Mem.tail _ ?_))
    intro hkp
    exact ⟨_, _, rfl, rfl, F8.keptAll hkp, N8₀.grown hkp⟩
  k_lt l8
  obtain ⟨ol2, rfl⟩ : ∃ ol : List Value, out = ol.toArray := ⟨out.toList, by simp⟩
  obtain ⟨rs2, hp2, hR2, hlen2, hw2⟩ := MOut.rows ho hR1 hw1
  simp only [List.toList_toArray] at hR2 hlen2 hlen1
  k_steps
  all_goals (try k_data)
  rename Fr _ _ _ _ => F7
  rename News _ _ _ _ => N7
  refine unr_end9 F7 N7 (by k_ne) (by k_ne) (by k_ne) (by k_ne) (fun q hq => Nat.ne_of_lt (l9f q (.tail _ (.tail _ (.tail _ (.tail _ (.tail _ hq))))))) ⟨trivial, ?_⟩
  k_steps
  all_goals (try k_data)
  show wpAny _ _ (call (Value.builtin _) [Value.ref _] [(PySem.Str.ofString "key", _), (PySem.Str.ofString "reverse", Value.bool _)]) _ _ _
  rename Fr _ _ _ _ => F6
  rename News _ _ _ _ => N6
  refine' msk_sorted (κ := PyProof.Rows.strKind) (b := r0) (kz := rs2.map skey) (vs := ol2) kd_str F6 N6 (isListL N6 (by k_mem)) (by rw [List.length_map]; exact hR2.1.symm) (by rw [hlen2, hlen1]; exact hlen) (ksk_s2 _ _ _) (fun x => ksk_l2 _ _ _) (fun x => ksk_t2 _ _ _) (fun i v k hv hk h tk own F8 N8 => ?turnC) (fun D h tk out c F8 N8 l8 ho => ?doneC)
  case turnC =>
    obtain ⟨r, hr, rfl⟩ : ∃ r, rs2[i]? = some r ∧ skey r = k := by
      rw [List.getElem?_map] at hk
      cases q : rs2[i]? with
      | none => rw [q] at hk; cases hk
      | some r => rw [q] at hk; exact ⟨r, rfl, Option.some.inj hk⟩
    obtain ⟨a9, l9, e9, e9', t9, t9', t9'', rfl, hm1, hm2⟩ := hR2.2 i v r hv hr
    have N8₀ := N8
    simp only [List.cons_append] at N8
    have N7 := cut6 N8 (List.mem_append_left own hm1) (List.mem_append_left own hm2)
    refine wpAny_call ?_
    refine' kla_codeW ?k1 F8 ?k3 N7 ?k5 ?kA ?kF ?kK ?k6 ?k7 ?k8 ?k9 ?kB ?_ ?c2 ?c3 ?c4 ?c5
    case kA => exact rfl
    case kF => exact rfl
    case kK => exact rfl
    case k1 => k_asm
    case k3 => k_asm
    case k5 => k_asm
    case k6 => exact .head _
    case k7 => exact codeRec_news N8 (by k_mem) (by assumption) (by assumption)
    case k8 => k_room
    case k9 => exact rfl
    case c5 => decide
    case kB => exact locs rfl
    case c2 => exact rfl
    case c3 => exact rfl
    case c4 => exact rfl
    k_whole
    intro g' L' h' hG' FG' F' N' B' X' T'
    (try dsimp only)
    (try k_lift B')
    (try k_fold)
    k_steps
    refine' Kept.of N7 ?kn ?ks ?_
    case kn => assumption
    case ks => (intro q hq; repeat (first | assumption | refine List.Mem.tail _ ?_))
    intro hkp
    exact ⟨_, _, rfl, rfl, F8.keptAll hkp, N8₀.grown hkp⟩
  k_lt l8
  obtain ⟨ol3, rfl⟩ : ∃ ol : List Value, out = ol.toArray := ⟨out.toList, by simp⟩
  obtain ⟨rs3, hp3, hR3, hlen3, hw3⟩ := MOut.rows ho hR2 hw2
  simp only [List.toList_toArray] at hR3 hlen3
  k_steps
  all_goals (try k_data)
  rename Fr _ _ _ _ => F5
  rename News _ _ _ _ => N5
  refine unr_end7 F5 N5 (by k_ne) (by k_ne) (fun q hq => Nat.ne_of_lt (l9f q (.tail _ (.tail _ (.tail _ (.tail _ (.tail _ hq))))))) ⟨trivial, ?_⟩
  k_steps
  all_goals (try k_data)
  rename Fr _ _ _ _ => F4
  rename News _ _ _ _ => N4
  refine LCg.CompSrc.ledger (its := ol3.toArray) (k := c) rfl F4 N4 (.head _) (by rw [List.size_toArray, hlen3, hlen2, hlen1, sizeLine_eq]; omega) (fun gg => ?_)
  refine row_rest (hR3.mono fun q hq => .tail _ (.tail _ hq)) (.inr ⟨_, .head _, rfl, _, rfl⟩) (fun v r I oI C oC D' m₂ ys h tk E' hr hC hx F N off ne => ?_) (fun ys hys => ?_)
  · obtain ⟨a9, l9, e9, e9', t9, t9', t9'', rfl, hm1, hm2⟩ := hr
    k_steps
    exact LCg.CompEnd.intro F N _ (fun p hp => hp) off (.inr ⟨_, .head _, rfl, _, rfl⟩) ⟨rfl, _, rfl⟩
  · k_steps
    all_goals (try k_data)
    rename Fr _ _ _ _ => F3
    rename News _ _ _ _ => N3
    refine ret _ _ _ _ rs3 F3 (fun q hq => N3 q ?_) (GrownAt.of N3 (.tail _ (.tail _ (.head _)))) hys (hp3.trans (hp2.trans hp1)) hw3
    rcases List.mem_cons.mp hq with rfl | hq
    · exact .head _
    · exact .tail _ (.tail _ (.tail _ hq))
end
section
open PySem PySem.W PySem.Calls PyProof.Rows
set_option maxRecDepth 100000
theorem rstp_eq {prog : Program} {w : World} {A : Around} {E : Value → Shared → Prop} {s : Shared} {c d : Value} {Q : Value → Shared → Prop} (h : Stp (wpAny (model prog w) A (compareOp .Eq c d) Q E s)) :
    wpAny (model prog w) A (compareOp .Eq c d) Q E s := h.out
theorem rstp_call {prog : Program} {w : World} {A : Around} {E : Value → Shared → Prop} {s : Shared} {a : Addr} {l : List Value} {Q : Value → Shared → Prop} (h : Stp (wpAny (model prog w) A (call (.ref a) l) Q E s)) :
    wpAny (model prog w) A (call (.ref a) l) Q E s := h.out
local macro_rules | `(tactic| k_ne) => `(tactic| exact ne82 (by assumption))
local macro_rules | `(tactic| walk_at "call ref") => `(tactic| (k_here; refine rstp_call ?_))
local macro_rules | `(tactic| walk_at "compareOp Eq ref ref") => `(tactic| (k_here; refine rstp_eq ?_))
set_option maxHeartbeats 4000000 in
theorem law_ret {prog p : Program} {w : World} {loose : List Str} {mean : ExcName → Option Value} {mg mb : Str → Option Value} {h₀ : Heap} {L fa sl : Addr} {cdv : Value} {s : Shared} {Q : Flow → Shared → Prop} {E : Value → Shared → Prop} {scope : Scope} {st : Stmt}
    {r0 r1 : Bool} {len : Int} {i : Nat} {m : Str → Option Value} {news : List (Addr × Obj)}
    (hS : lawDef.2 = scope) (hst : lawDef.1[5]? = some st) (B : Below callerA h₀ [] h₀) (F : Fr h₀ L s.heap m) (X : (hd.heap_39 w.params).In h₀) (T : Top p loose mean mg mb h₀) (N : News h₀ L s.heap news)
    (J : LI r0 r1 len L sl [] i m news) (hL : 82 < L) (hi : i ≤ 12) (CH : CodeHd h₀ 84 82)
    (hE : PassesOwn (model prog w) (callerA.deeper (envOfC (Str.ofString "law") scope L fa cdv)) (envOfC (Str.ofString "law") scope L fa cdv) E)
    (ret : ∀ h' tk', Fr h₀ L h' m → GrownAt 82 h' → Q (.ret (.bool true)) { s with heap := h', toks := tk' }) :
    wpAny (model prog w) (callerA.deeper (envOfC (Str.ofString "law") scope L fa cdv)) (exec st (envOfC (Str.ofString "law") scope L fa cdv)) Q E s := by
  conv at hS => lhs; whnf
  subst hS
  conv at hst => lhs; whnf
  have hst2 := Option.some.inj hst
  clear hst
  conv at hst2 => lhs; whnf
  subst hst2
  w_top off
  ktr_unf
  obtain ⟨m0, fl, rl, D, fvs, rvs, frs, rrs, e1, e2, ko, ro, rx, tl, u1, u2, u3, u4, u5, u6, rfl, rfl, hK, hF, hR, kp, hko, hro, d1, d2, d3, sz, num, perm, srt, sok⟩ := J
  obtain ⟨d11, d12, d13, d14⟩ := d1
  obtain ⟨d21, d22, d23⟩ := d2
  have g1 : ∀ p ∈ tl, @Ne Nat p.1 rl := fun p hp => (d3 p hp).1
  have g2 : ∀ p ∈ tl, @Ne Nat p.1 (L + 1 + 1) := fun p hp => (d3 p hp).2.1
  have g3 : ∀ p ∈ tl, @Ne Nat p.1 (L + 1) := fun p hp => (d3 p hp).2.2.1
  have g4 : ∀ p ∈ tl, @Ne Nat p.1 82 := fun p hp => (d3 p hp).2.2.2
  k_steps
  all_goals (try k_data)
  have hfz : fvs.length ≤ 12 := by have := hF.1; have := perm.length_eq; omega
  have hrz : rvs.length < 64 := by have := hR.1; omega
  refine LCg.CompSrc.ledger (its := fvs.toArray) (k := e1) rfl F N (.head _) (by rw [List.size_toArray, sizeLine_eq]; omega) (fun gg => ?_)
  refine row_rest (hF.mono fun q hq => .tail _ (.tail _ (.tail _ (.tail _ (.tail _ hq))))) (.inr ⟨_, .head _, rfl, _, rfl⟩) (fun v r I oI C oC D' m₂ ys h tk E' hr hC hx F9 N9 off ne => ?_) (fun ys hys => ?_)
  · obtain ⟨a9, l9, e9, e9', t9, t9', t9'', rfl, hm1, hm2⟩ := hr
    clear F N
    k_steps
    exact LCg.CompEnd.intro F9 N9 _ (fun p hp => hp) off (.inr ⟨_, .head _, rfl, _, rfl⟩) ⟨rfl, _, rfl⟩
  clear F N
  k_steps
  all_goals (try k_data)
  rename Fr _ _ _ _ => F9
  rename News _ _ _ _ => N9
  rename _ ∧ _ ∧ _ ∧ _ ∧ _ ∧ LCg.Off1 _ _ => o9
  rename_i D8 h8 tk8
  obtain ⟨o1, o2, o3, o4, o5, o6⟩ := o9
  have N8 : News h₀ L h8 ((82, tabObj #[]) :: (D8, LCg.lst ys) :: (rl, lstL rvs e2) :: tl) := by
    intro q hq
    simp only [List.mem_cons] at hq
    refine N9 q ?_
    simp only [List.mem_cons]
    rcases hq with h | h | h | h <;> simp [h]
  have h82 : ∀ p ∈ (D8, LCg.lst ys) :: (rl, lstL rvs e2) :: tl, p.1 ≠ 82 := List.forall_mem_cons.mpr ⟨fun q => o5 q.symm, List.forall_mem_cons.mpr ⟨d23, g4⟩⟩
  refine ⟨?_⟩
  k_dflt (refine sort_rows_c B F9 X T rfl (by decide) CH N8 h82 (hK.mono fun p hp => .tail _ (.tail _ hp)) (.tail _ (.head _)) (hR.mono fun p hp => .tail _ (.tail _ hp)) hrz ?_)
  intro h2 tk2 D2 zs rs3 F2 N2 hgr hz hperm hpw
  clear F9 N9 N8
  have hne : rs3.Pairwise fun a b => a.n ≠ b.n := (hperm.pairwise_iff (fun h q => h q.symm)).mpr (nums_pw num (by omega))
  have heq : frs = rs3 := nums_eq perm hperm srt (ord_of_SR hpw hne)
  subst heq
  k_steps
  all_goals (try k_data)
  refine ⟨?_⟩
  k_dflt (refine eq_intsK (isListL N2 (.tail _ (.head _))) hys (isListL N2 (.head _)) hz (by k_units) ?_)
  rw [decide_eq_true rfl]
  exact ret _ _ F2 hgr
end
end
section
open PySem PySem.W PySem.Calls PyProof.Rows
set_option maxRecDepth 100000
theorem stp_ev {prog : Program} {w : World} {A : Around} {E : Value → Shared → Prop} {s : Shared} {env : Env} {a : PySem.Expr} {c : List Comprehension} {b : Scope} {pos : Pos} {Q : Value → Shared → Prop} (h : Stp (wpAny (model prog w) A (eval (.ListComp a c b pos) env) Q E s)) :
    wpAny (model prog w) A (eval (.ListComp a c b pos) env) Q E s := h.out
theorem stp_for {prog : Program} {w : World} {A : Around} {E : Value → Shared → Prop} {s : Shared} {env : Env} {t i : PySem.Expr} {b o : List Stmt} {pos : Pos} {Q : Flow → Shared → Prop} (h : Stp (wpAny (model prog w) A (exec (.For t i b o pos) env) Q E s)) :
    wpAny (model prog w) A (exec (.For t i b o pos) env) Q E s := h.out
theorem my_menu {prog : Program} {w : World} {A : Around} {E : Value → Shared → Prop} {s : Shared} {h₀ : Heap} {L : Addr} {news : List (Addr × Obj)} {l : Addr} {a1 a2 a3 a4 : Str} {t1 t2 t3 t4 : Tok} {e : Nat} {Q : Value → Shared → Prop}
    {value slice : PySem.Expr} {k : Int} {u : Tok} (N : News h₀ L s.heap news) (hm : (l, lstL [.str a1 t1, .str a2 t2, .str a3 t3, .str a4 t4] e) ∈ news) (o1 : PyData.strOk a1 = true) (o2 : PyData.strOk a2 = true) (o3 : PyData.strOk a3 = true) (o4 : PyData.strOk a4 = true) (h0 : 0 ≤ k) (hhi : k < 4) (h : ∀ x t, PyData.strOk x = true → Q (.str x t) s)
    (hs : subscripted slice false (.ref l) (.int k u) = operate [.ref l, .int k u] (getItem (.ref l) (.int k u)) := by with_unfolding_all rfl) :
    wpAny (model prog w) A (subscriptTail value slice (.ref l) (.int k u)) Q E s := by
  obtain rfl | rfl | rfl | rfl : k = 0 ∨ k = 1 ∨ k = 2 ∨ k = 3 := by omega
  all_goals exact my_item N hm (by decide) (by decide) rfl (h _ _ (by assumption)) hs
theorem ints_len : ∀ {vs : List Value} {zs : List Int}, IntsAre vs zs → vs.length = zs.length
  | _, _, .nil => rfl
  | _, _, .cons z t h => congrArg (· + 1) (ints_len h)
theorem fmod4 (z : Int) : 0 ≤ z.fmod 4 ∧ z.fmod 4 < 4 := by
  rw [Int.fmod_eq_emod_of_nonneg _ (by decide)]; omega
theorem ne82 {L : Addr} (h : 82 < L) : @Ne Addr 82 (L + 1 + 1) := fun e => by
  have h' : (82 : Nat) < L := h
  have e' : (82 : Nat) = L + 1 + 1 := e
  omega
local macro_rules | `(tactic| k_ne) => `(tactic| exact ne82 (by assumption))
local macro_rules | `(tactic| k_all) => `(tactic| assumption)
local macro_rules | `(tactic| k_mem) => `(tactic| assumption)
local macro_rules | `(tactic| walk_at "eval ListComp") => `(tactic| (k_here; refine stp_ev ?_))
local macro_rules | `(tactic| walk_at "exec For Name Name cons nil") => `(tactic| (k_here; refine stp_for ?_))
local macro_rules | `(tactic| walk_at "subscriptTail") => `(tactic| (k_here; k_dflt (refine' my_menu ?N ?m ?o1 ?o2 ?o3 ?o4 ?a ?b ?_; (case N => k_asm); (case m => k_mem); (case o1 | o2 | o3 | o4 => decide +kernel); (case a => exact (fmod4 _).1); (case b => exact (fmod4 _).2); intro x9 t9 xok)))
theorem allLt_mem {d : Addr} : ∀ {l : List (Addr × Obj)}, AllLt d l → ∀ p ∈ l, p.1 < d
  | [], _, _, h => nomatch h
  | _ :: _, x, p, h => by
    rcases List.mem_cons.mp h with rfl | h
    · exact x.1
    · exact allLt_mem x.2 p h
theorem fresh_ne {h h₀ : Heap} {L D : Addr} {news : List (Addr × Obj)} (N : News h₀ L h news) (f : ∀ b o, h.get? b = some o → b ≠ D) : ∀ p ∈ news, p.1 ≠ D := fun p hp => f p.1 p.2 (N p hp).1
theorem drop3 {h h₀ : Heap} {L : Addr} {a b c : Addr × Obj} {r : List (Addr × Obj)} (N : News h₀ L h (a :: b :: c :: r)) : News h₀ L h (a :: b :: r) := by
  intro q hq
  refine N q ?_
  simp only [List.mem_cons] at hq ⊢
  rcases hq with h | h | h <;> simp [h]
theorem rot9 {h h₀ : Heap} {L : Addr} {a b p1 p2 p3 p4 p5 p6 p7 : Addr × Obj} {r : List (Addr × Obj)} (N : News h₀ L h (a :: b :: p1 :: p2 :: p3 :: p4 :: p5 :: p6 :: p7 :: r)) : News h₀ L h (p1 :: p2 :: p3 :: p4 :: p5 :: p6 :: p7 :: a :: b :: r) := by
  intro q hq
  refine N q ?_
  simp only [List.mem_cons] at hq ⊢
  rcases hq with h | h | h | h | h | h | h | h | h | h <;> simp [h]
structure Late : Prop where
  mk ::
theorem stp_sub {prog : Program} {w : World} {A : Around} {E : Value → Shared → Prop} {s : Shared} {a b : PySem.Expr} {c d : Value} {Q : Value → Shared → Prop} (h : Stp (wpAny (model prog w) A (subscriptTail a b c d) Q E s)) :
    wpAny (model prog w) A (subscriptTail a b c d) Q E s := h.out
local macro_rules | `(tactic| walk_at "subscriptTail Name Slice ref ref") => `(tactic| (k_here; (have hg9 : Late := by assumption); refine stp_sub ?_))
theorem stp_add {prog : Program} {w : World} {A : Around} {E : Value → Shared → Prop} {s : Shared} {c d : Value} {Q : Value → Shared → Prop} (h : Stp (wpAny (model prog w) A (binaryOp .Add c d) Q E s)) :
    wpAny (model prog w) A (binaryOp .Add c d) Q E s := h.out
local macro_rules | `(tactic| walk_at "binaryOp Add ref ref") => `(tactic| (k_here; (have hg9 : Late := by assumption); refine stp_add ?_))
theorem stp_ne {prog : Program} {w : World} {A : Around} {E : Value → Shared → Prop} {s : Shared} {c d : Value} {Q : Value → Shared → Prop} (h : Stp (wpAny (model prog w) A (compareOp .NotEq c d) Q E s)) :
    wpAny (model prog w) A (compareOp .NotEq c d) Q E s := h.out
local macro_rules | `(tactic| walk_at "compareOp NotEq ref ref") => `(tactic| (k_here; (have hg9 : Late := by assumption); refine stp_ne ?_))
theorem stp_app {prog : Program} {w : World} {A : Around} {E : Value → Shared → Prop} {s : Shared} {l : List Value} {Q : Value → Shared → Prop} (h : Stp (wpAny (model prog w) A (call (.builtin "list.append") l) Q E s)) :
    wpAny (model prog w) A (call (.builtin "list.append") l) Q E s := h.out
theorem my_append {prog : Program} {w : World} {A : Around} {E : Value → Shared → Prop} {s : Shared} {h₀ : Heap} {L D : Addr} {m : Str → Option Value} {news news' : List (Addr × Obj)} {vs : List Value} {e : Nat} {x : Value} {Q : Value → Shared → Prop} (F : Fr h₀ L s.heap m) (N : News h₀ L s.heap news)
    (U : Upd D (lstL vs e) (lstL (vs ++ [x]) (e + 1)) news news') (hz : vs.length < 1000) (h : ∀ h', Fr h₀ L h' m → News h₀ L h' news' → Q .none { s with heap := h' }) : wpAny (model prog w) A (call (.builtin "list.append") [.ref D, x]) Q E s := by
  refine append_K (its := vs.toArray) (n := e) F N ?_ h (by rw [List.size_toArray, sizeLine_eq]; omega)
  rw [List.push_toArray]
  exact U
local macro_rules | `(tactic| walk_at "call builtin:list.append") => `(tactic| (k_here; (have hg9 : Late := by assumption); refine stp_app ?_))
local macro_rules | `(tactic| walk_at "call ref") => `(tactic| (k_here; k_dflt (refine' is_ahead_c ?k1 ?k2 ?k3 ?k4 ?k5 ?kd ?ku ?kN ?kK ?q1 ?q2 ?_; (case k1 | k2 | k3 | k4 => k_asm); (case k5 => exact rfl); (case kd => k_room); (case ku => decide); (case kN => k_asm); (case kK | q1 | q2 => ((first | refine KeysIn.mono (by assumption) ?_ | refine RowIn.mono (by assumption) ?_); intro q9 hq9; repeat (first | assumption | refine List.Mem.tail _ ?_)))); k_dflt (intro h9 tk9 hk9; (rename Fr _ _ _ _ => F9); (rename News _ _ _ _ => N9); (have F9' := F9.keptAll hk9); (have N9' := N9.grown hk9); clear F9 N9)))
local macro_rules | `(tactic| walk_at "call ref") => `(tactic| (k_here; k_dflt (refine' law_ahead_c ?k1 ?k2 ?k3 ?k4 ?k5 ?kd ?ku ?kN ?kK ?q1 ?q2 ?_; (case k1 | k2 | k3 | k4 => k_asm); (case k5 => exact rfl); (case kd => k_room); (case ku => decide); (case kN => k_asm); (case kK | q1 | q2 => ((first | refine KeysIn.mono (by assumption) ?_ | refine RowIn.mono (by assumption) ?_); intro q9 hq9; repeat (first | assumption | refine List.Mem.tail _ ?_)))); k_dflt (intro h9 tk9 hk9; (rename Fr _ _ _ _ => F9); (rename News _ _ _ _ => N9); (have F9' := F9.keptAll hk9); (have N9' := N9.grown hk9); clear F9 N9)))
local macro_rules | `(tactic| walk_at "call ref") => `(tactic| (k_here; k_dflt (refine' sorted_place_c ?k1 ?k2 ?k3 ?k4 ?k5 ?kd ?ku ?kN ?kK ?kq ?kl ?kR ?kz ?km ?_; (case k1 | k2 | k3 | k4 => k_asm); (case k5 => exact rfl); (case kd => k_room); (case ku => decide); (case kN => k_asm); (case kK | kq => ((first | refine KeysIn.mono (by assumption) ?_ | refine RowIn.mono (by assumption) ?_); intro q9 hq9; repeat (first | assumption | refine List.Mem.tail _ ?_))); (case kl => k_mem); (case kR => ((refine RowsIn.mono (by assumption) ?_); intro q9 hq9; repeat (first | assumption | refine List.Mem.tail _ ?_))); (case kz | km => assumption)); k_dflt (intro h9 tk9 j9 t9 hj1 hj2 hj3 hk9; (have e9 := (place_count hj1 hj2 hj3).symm.trans (by assumption)); subst e9; (rename Fr _ _ _ _ => F9); (rename News _ _ _ _ => N9); (have F9' := F9.keptAll hk9); (have N9' := N9.grown hk9); clear F9 N9)))
local macro_rules | `(tactic| walk_at "call ref") => `(tactic| (k_here; k_dflt (refine' sorted_with_c ?k1 ?k2 ?k3 ?k4 ?k5 ?kd ?ku ?kN ?kK ?kq ?kl ?kR ?kz ?km ?_; (case k1 | k2 | k3 | k4 => k_asm); (case k5 => exact rfl); (case kd => k_room); (case ku => decide); (case kN => k_asm); (case kK | kq => ((first | refine KeysIn.mono (by assumption) ?_ | refine RowIn.mono (by assumption) ?_); intro q9 hq9; repeat (first | assumption | refine List.Mem.tail _ ?_))); (case kl => k_mem); (case kR => ((refine RowsIn.mono (by assumption) ?_); intro q9 hq9; repeat (first | assumption | refine List.Mem.tail _ ?_))); (case kz | km => assumption)); k_dflt (intro h9 tk9 j9 D9 e9' hj1 hj2 hj3 hk9 NW9 hf9; (have e9 := ((place_count hj1 hj2 hj3).symm.trans (by assumption)).symm); subst e9; (rename Fr _ _ _ _ => F9); (have F9' := F9.keptAll hk9); clear F9; revert NW9; (rename News _ _ _ _ => N9); (have l9 := fresh_ne N9 hf9); (simp only [List.forall_mem_cons] at l9); clear N9; intro N9')))
local macro_rules | `(tactic| walk_at "call builtin:len") => `(tactic| (k_here; k_dflt (refine' my_len ?N ?m ?z ?_; (case N => k_asm); (case m => k_mem); (case z => assumption))))
set_option maxHeartbeats 8000000 in
theorem law_loop {prog p : Program} {w : World} {loose : List Str} {mean : ExcName → Option Value} {mg mb : Str → Option Value} {h₀ : Heap} {L fa sl : Addr} {cdv : Value} {s : Shared} {Q : Flow → Shared → Prop} {E : Value → Shared → Prop} {scope : Scope} {st : Stmt}
    {r0 r1 : Bool} {ws : List Value} {zs : List Int} {m : Str → Option Value} {news : List (Addr × Obj)}
    (hS : lawDef.2 = scope) (hst : lawDef.1[4]? = some st) (B : Below callerA h₀ [] h₀) (F : Fr h₀ L s.heap m) (X : (hd.heap_39 w.params).In h₀) (T : Top p loose mean mg mb h₀) (N : News h₀ L s.heap news)
    (J : LI r0 r1 zs.length L sl [] 0 m news) (hL : 82 < L) (lifted : h₀.IsList sl ws.toArray) (hI : IntsAre ws zs) (h63 : ¬ (63 : Int) < zs.length)
    (hE : PassesOwn (model prog w) (callerA.deeper (envOfC (Str.ofString "law") scope L fa cdv)) (envOfC (Str.ofString "law") scope L fa cdv) E)
    (ret : ∀ h' tk' m' news' i, i ≤ 12 → LI r0 r1 zs.length L sl [] i m' news' → Fr h₀ L h' m' → News h₀ L h' news' → Q .next { s with heap := h', toks := tk' }) :
    wpAny (model prog w) (callerA.deeper (envOfC (Str.ofString "law") scope L fa cdv)) (exec st (envOfC (Str.ofString "law") scope L fa cdv)) Q E s := by
  conv at hS => lhs; whnf
  subst hS
  conv at hst => lhs; whnf
  have hst2 := Option.some.inj hst
  clear hst
  conv at hst2 => lhs; whnf
  subst hst2
  w_top off
  ktr_unf
  obtain ⟨m0, fl, rl, D, fvs, rvs, frs, rrs, e1, e2, ko, ro, rx, tl, u1, u2, u3, u4, u5, u6, rfl, rfl, hK, hF, hR, kp, hko, hro, d1, d2, d3, sz, num, perm, srt, sok⟩ := J
  have h82 : ∀ p ∈ tl, p.1 ≠ 82 := fun p hp => (d3 p hp).2.2.2
  refine For_turns F ?_ (hE := hE)
  k_steps
  all_goals (try k_data)
  rename Fr _ _ _ _ => F9
  rename IntsAre _ (_ ++ _) => hItems
  rename_i DL ws9 h9 N9 lq
  (try clear F)
  obtain ⟨q1, q2, q3, q4, q5, q6, q7, q8, q9⟩ := lq
  have q9' := allLt_mem q9
  have N9' : News h₀ L h9 ((fl, lstL fvs e1) :: (rl, lstL rvs e2) :: (L + 1 + 1, ro) :: (L + 1, ko) :: (82, tabObj #[]) :: (DL, W.listOf ws9.toArray 0) :: tl) := by
    intro q hq
    simp only [List.mem_cons] at hq
    refine N9 q ?_
    simp only [List.mem_cons]
    rcases hq with h | h | h | h | h | h | h <;> simp [h]
  have hi12 : ws9.length ≤ 12 := by
    have := ints_len hItems
    rw [List.length_append, List.length_take] at this
    simp only [List.length_cons, List.length_nil] at this
    omega
  refine ktu_enum rfl F9 N9' (.tail _ (.tail _ (.tail _ (.tail _ (.tail _ (.head _)))))) rfl rfl rfl (fun I l9 => ?_)
  have l9f := l9
  k_lt l9
  refine items_enum (vs := ws9) (fun i m' n' => LI r0 r1 zs.length L sl [(DL, W.listOf ws9.toArray 0)] i m' n' ∧ ∀ p ∈ n', (@Ne Nat p.1 I) ∧ (@Ne Nat p.1 (I + 1))) (fun i x m' n' hx hJ T8 t8 h8 tk8 hT8 F8 => ?turn) (fun m' n' h8 tk8 hJ F8 N8 => ?fin) ws9.length 0 (by omega) _ _ ?init
  case init =>
    refine ⟨?_, fun q hq => ⟨Nat.ne_of_lt (l9f q hq), Nat.ne_of_lt (Nat.lt_succ_of_lt (l9f q hq))⟩⟩
    refine ⟨m0, fl, rl, D, fvs, rvs, frs, rrs, e1, e2, ko, ro, rx, (DL, W.listOf ws9.toArray 0) :: tl, u1, u2, u3, u4, u5, u6, rfl, rfl, hK.mono fun q hq => .tail _ hq, hF.mono fun q hq => .tail _ hq, hR.mono fun q hq => .tail _ hq, fun q hq => ?_, hko, hro, d1, d2, fun q hq => ?_, sz, num, perm, srt, sok⟩
    · rw [List.mem_singleton.mp hq]; exact .head _
    · rcases List.mem_cons.mp hq with rfl | hq
      · dsimp only
        refine ⟨neN ?_, neN ?_, neN ?_, neN ?_⟩ <;> omega
      · exact d3 q hq
  case fin =>
    refine ret _ _ _ _ ws9.length hi12 ?_ F8 N8
    replace hJ := hJ.1
    obtain ⟨m0, fl, rl, D, fvs, rvs, frs, rrs, e1, e2, ko, ro, rx, tl, u1, u2, u3, u4, u5, u6, J⟩ := hJ
    exact ⟨m0, fl, rl, D, fvs, rvs, frs, rrs, e1, e2, ko, ro, rx, tl, u1, u2, u3, u4, u5, u6, { J with kp := fun q hq => nomatch hq }⟩
  case turn =>
  have hlt12 : i < 12 := Nat.lt_of_lt_of_le (List.getElem?_eq_some_iff.mp hx).1 hi12
  obtain ⟨z, tz, rfl⟩ := ints_get hItems hx
  obtain ⟨-, -, i1, i2, i3, i4, -⟩ := l9
  replace ⟨hJ, hJI⟩ := hJ
  clear l9f F9 N9 N9' hK hF hR kp hko hro d1 d2 d3 sz num perm srt sok h82 q1 q2 q3 q4 q5 q6 q7 q8 q9 q9'
  refine AllObj.cons fun oe hoe => AllObj.cons fun oi hoi => AllObj.nil fun N8 => ?_
  obtain ⟨m0, fl, rl, D, fvs, rvs, frs, rrs, e1, e2, ko, ro, rx, tl, u1, u2, u3, u4, u5, u6, rfl, rfl, hK, hF, hR, kp, hko, hro, d1, d2, d3, sz, num, perm, srt, sok⟩ := hJ
  simp only [List.cons_append, List.nil_append] at N8
  replace F8 := show Fr h₀ L h8 _ from F8
  replace N8 := show News h₀ L h8 _ from N8
  simp only [List.forall_mem_cons] at hJI
  obtain ⟨⟨j1, j1'⟩, ⟨j2, j2'⟩, -, -, -, j3⟩ := hJI
  have g1 : ∀ p ∈ tl, @Ne Nat p.1 rl := fun p hp => (d3 p hp).1
  have g2 : ∀ p ∈ tl, @Ne Nat p.1 (L + 1 + 1) := fun p hp => (d3 p hp).2.1
  have g3 : ∀ p ∈ tl, @Ne Nat p.1 (L + 1) := fun p hp => (d3 p hp).2.2.1
  have g4 : ∀ p ∈ tl, @Ne Nat p.1 82 := fun p hp => (d3 p hp).2.2.2
  obtain ⟨d11, d12, d13, d14⟩ := d1
  obtain ⟨d21, d22, d23⟩ := d2
  k_steps
  all_goals (try k_data)
  rename_i l3 hh3 lf3 x9 t9 xok lr hh2 lf2 Dr hh1 lf1 h7 ro2 F7 N7 dro
  have N8 := drop3 N7
  obtain ⟨y1, y2, y3, y4, y5, y6, y7, y8, y9, y10⟩ := lf1
  obtain ⟨z1, z2, z3, z4, z5, z6, z7, z8, z9⟩ := lf2
  have y10' := allLt_mem y10
  have z9' := allLt_mem z9
  obtain ⟨tl2, q, hqn, hq, hsub, N6, g1', g2', g3', g4', g5', g6'⟩ : ∃ (tl2 : List (Addr × Obj)) (q : Row), (q.n = 1 + (5 * (i : Int) + (zs.length : Int)).fmod 13 ∧ PyData.strOk q.s = true) ∧ RowIn tl2 (.ref Dr) q ∧ (∀ p ∈ tl, p ∈ tl2) ∧
      News h₀ L h7 ((I + 1, oe) :: (I, oi) :: (fl, lstL fvs e1) :: (rl, lstL rvs e2) :: (L + 1 + 1, ro2) :: (L + 1, ko) :: (82, tabObj #[]) :: tl2) ∧ (∀ p ∈ tl2, @Ne Nat p.1 rl) ∧ (∀ p ∈ tl2, @Ne Nat p.1 (L + 1 + 1)) ∧ (∀ p ∈ tl2, @Ne Nat p.1 (L + 1)) ∧ (∀ p ∈ tl2, @Ne Nat p.1 82) ∧ (∀ p ∈ tl2, @Ne Nat p.1 I) ∧ (∀ p ∈ tl2, @Ne Nat p.1 (I + 1)) := by
    refine ⟨(Dr, _) :: (lr, _) :: tl, ⟨_, _, _⟩, ⟨rfl, xok⟩, ⟨Dr, lr, 0, 0, _, _, _, rfl, .head _, .tail _ (.head _)⟩, fun p hp => .tail _ (.tail _ hp), rot9 N8, ?_, ?_, ?_, ?_, ?_, ?_⟩
    all_goals
      refine List.forall_mem_cons.mpr ⟨neN (by dsimp only; omega), List.forall_mem_cons.mpr ⟨neN (by dsimp only; omega), ?_⟩⟩
    · exact g1
    · exact g2
    · exact g3
    · exact g4
    · exact fun p hp => (j3 p hp).1
    · exact fun p hp => (j3 p hp).2
  obtain ⟨hqn, hqs⟩ := hqn
  replace hK := hK.mono hsub
  replace hF := hF.mono hsub
  replace hR := hR.mono hsub
  replace kp := fun p hp => hsub p (kp p hp)
  replace num : Nums zs.length rrs := num
  have hne : ∀ r ∈ rrs, r.n ≠ q.n := num.ne sz hlt12 hqn
  have hneF : ∀ r ∈ frs, r.n ≠ q.n := fun r hr => hne r (perm.mem_iff.mp hr)
  have hmono : Mono r0 r1 q frs := srt.mono q
  have hfl : fvs.length < 1000 := by have := hF.1; have := perm.length_eq; omega
  have hrl : rvs.length < 1000 := by have := hR.1; omega
  clear N7 N8 g1 g2 g3 g4 j3 lf3 y1 y2 y3 y4 y5 y6 y7 y8 y9 y10 y10' z1 z2 z3 z4 z5 z6 z7 z8 z9 z9' hoe hoi d3
  refine ⟨?_⟩
  k_dflt (refine LCt.ListComp_T (F₀ := F7) (by with_unfolding_all rfl) (by decide) (by rfl) (by decide) (by rfl) ?_)
  k_steps
  all_goals (try k_data)
  refine LCt.CompSrcT.ledger (its := rvs.toArray) (k := e2) rfl F7 N6 (.tail _ (.tail _ (.tail _ (.head _)))) (by rw [List.size_toArray, sizeLine_eq]; omega) (fun gg => ?_)
  have hR9 : RowsIn ((I + 1, oe) :: (I, oi) :: (fl, lstL fvs e1) :: (rl, lstL rvs e2) :: (L + 1 + 1, ro2) :: (L + 1, ko) :: (82, tabObj #[]) :: tl2) rvs rrs := hR.mono fun p hp => .tail _ (.tail _ (.tail _ (.tail _ (.tail _ (.tail _ (.tail _ hp))))))
  refine due_rest (fun r => aheadB r0 r1 r q) hR9 (.inr ⟨_, .tail _ (.tail _ (.tail _ (.head _))), rfl, _, rfl⟩) (fun v r I2 oI C oC D2 m2 ys h9 tk9 E' hr hC hx9 F9 N9 off ne9 => ?_) (fun ys hys => ?_)
  · k_steps
    all_goals (rename Fr _ _ _ _ => F8)
    all_goals (rename News _ _ _ _ => N8)
    all_goals exact LCg.CompEnd.intro F8 N8 _ (fun p hp => hp) off (.inr ⟨_, .tail _ (.tail _ (.tail _ (.head _))), rfl, _, rfl⟩) ⟨rfl, by first | assumption | simpa using ‹_›⟩
  have hylen : ys.length < 1000 := by have := List.countP_le_length (p := fun r => aheadB r0 r1 r q) (l := rrs); omega
  have hcnt : frs.countP (fun r => aheadB r0 r1 r q) = ys.length := by rw [hys]; exact perm.countP_eq _
  k_steps
  all_goals (try k_data)
  · exact absurd rfl (by assumption)
  rename Fr _ _ _ _ => F5
  rename News _ _ _ _ => N5
  refine ⟨?_⟩
  refine For_turns F5 ?_ (hE := hE)
  k_steps
  all_goals (try k_data)
  rename Fr _ _ _ _ => F5
  have F5 := chain_of F5 rfl rfl rfl rfl rfl
  refine iter_listTurns (vs := rvs) rfl F5 (fun p hp => N5 p (.tail _ hp)) (.tail _ (.tail _ (.tail _ (.head _)))) rfl rfl (fun I2 l9 => ?_)
  refine items_val (vs := rvs) (fun _ m' n' => (∃ (c r o l : Option Value) (td : Tok) (M : Str → Option Value), m' = fun y => if y = Str.ofString "found" then some (.ref fl) else if y = Str.ofString "rows" then some (.ref rl) else if y = Str.ofString "script" then some (.ref sl) else if y = Str.ofString "place" then some (.int (i : Int) t8) else if y = Str.ofString "cell" then c else if y = Str.ofString "rest" then r else if y = Str.ofString "due" then some (.int (ys.length : Int) td) else if y = Str.ofString "other" then o else if y = Str.ofString "later" then l else M y) ∧ n' = (I + 1, oe) :: (I, oi) :: (fl, lstL fvs e1) :: (rl, lstL rvs e2) :: (L + 1 + 1, ro2) :: (L + 1, ko) :: (82, tabObj #[]) :: tl2) (fun k x m' n' hx2 hJ h8 tk8 F8 => ?turn) (fun m' n' h8 tk8 hJ F8 N8 => ?fin) rvs.length 0 (by omega) _ _ ⟨⟨_, _, _, _, _, _, rfl⟩, rfl⟩
  case turn =>
    obtain ⟨⟨c, r, o, l, td, M, rfl⟩, rfl⟩ := hJ
    have hk2 : k < rrs.length := by have := (List.getElem?_eq_some_iff.mp hx2).1; have := hR.1; omega
    have hxr : RowIn tl2 x rrs[k] := hR.2 k x _ hx2 (List.getElem?_eq_getElem hk2)
    have htot := aheadB_total (r0 := r0) (r1 := r1) (hne _ (List.getElem_mem hk2))
    clear F5 N5
    refine AllObj.cons fun oI hoI => AllObj.nil fun N8 => ?_
    simp only [List.cons_append, List.nil_append] at N8
    replace F8 := show Fr h₀ L h8 _ from F8
    replace N8 := show News h₀ L h8 _ from N8
    k_steps
    all_goals (try k_data)
    · exfalso
      rename (_ == _) = true => hz9
      rw [htot] at hz9
      cases hz8 : aheadB r0 r1 rrs[k] q <;> rw [hz8] at hz9 <;> cases hz9
    · exfalso
      rename (_ != _) = true => hz9
      rw [bne_self_eq_false] at hz9
      cases hz9
    · rename Fr _ _ _ _ => F7
      rename News _ _ _ _ => N7
      refine ⟨_, _, _, (I + 1, oe) :: (I, oi) :: (fl, lstL fvs e1) :: (rl, lstL rvs e2) :: (L + 1 + 1, ro2) :: (L + 1, ko) :: (82, tabObj #[]) :: tl2, rfl, chain_of F7 rfl rfl rfl rfl rfl, N7, fun p hp z9 hz9 => ?_, ⟨.tail _ (.tail _ (.tail _ (.head _))), trivial⟩, ⟨_, _, _, _, _, _, rfl⟩, rfl⟩
      rw [List.mem_singleton.mp hz9]
      exact Nat.ne_of_lt (l9 p hp)
  case fin =>
  obtain ⟨⟨c, r, o, l, td, M, rfl⟩, rfl⟩ := hJ
  clear F5 N5 l9
  obtain ⟨j, hj⟩ : ∃ j, ys.length = j := ⟨_, rfl⟩
  rw [hj] at F8 hcnt hylen
  have hfi : fvs.length = i := by rw [hF.1, perm.length_eq, sz]
  replace F8 := show Fr h₀ L h8 _ from F8
  replace N8 := show News h₀ L h8 _ from N8
  have hlate : Late := ⟨⟩
  have hRn := RowsIn.insert (j := j) hF hq
  have hon : ∀ r ∈ frs.take j ++ [q] ++ frs.drop j, PyData.strOk r.s = true := by
    intro r hr
    rcases List.mem_append.mp ((perm_insert (j := j) (q := q) perm).mem_iff.mp hr) with h | h
    · exact sok r h
    · rw [List.mem_singleton.mp h]; exact hqs
  k_steps
  all_goals (try k_data)
  rename_i h9 tk9 D9 e9 hk9 hf9 a1 a2 a3 l9 hh9 F9 N9 hg9
  refine ⟨?_⟩
  rename Fr _ _ _ _ => F9
  rename News _ _ _ _ => N9
  k_dflt (refine' kmk_slice_lit (zs := fvs.take j) ?zzF ?zzN ?zzl ?zzp ?zzq ?zze ?_ ?zzs ?zzt ?zzz; (case zzF => exact F9); (case zzN => exact N9); (case zzl => exact isListL N9 (by k_mem)); (case zzp => kmk_part); (case zzq => kmk_part); (case zze => exact slice_up _ _); (case zzs => with_unfolding_all rfl); (case zzt => kmk_pure); (case zzz => exact size_1000 (by assumption)))
  intro D1 h1 F1 N1 l1
  k_lt l1
  clear F9 N9
  k_steps
  refine ⟨?_⟩
  rename Fr _ _ _ _ => F9
  rename News _ _ _ _ => N9
  k_dflt (refine my_add (vs := fvs.take j) (ws := [Value.ref Dr]) F9 N9 (.tail _ (.head _)) (.head _) (by simp only [List.length_append, List.length_take, List.length_drop, List.length_cons, List.length_nil]; omega) ?_)
  intro D2 h2 F2 N2 l2
  k_lt l2
  clear F9 N9
  k_steps
  refine ⟨?_⟩
  rename Fr _ _ _ _ => F9
  rename News _ _ _ _ => N9
  k_dflt (refine' kmk_slice_lit (zs := fvs.drop j) ?yyF ?yyN ?yyl ?yyp ?yyq ?yye ?_ ?yys ?yyt ?yyz; (case yyF => exact F9); (case yyN => exact N9); (case yyl => exact isListL N9 (by k_mem)); (case yyp => kmk_part); (case yyq => kmk_part); (case yye => exact slice_dn _ _); (case yys => with_unfolding_all rfl); (case yyt => kmk_pure); (case yyz => exact size_1000 (by assumption)))
  intro D3 h3 F3 N3 l3
  k_lt l3
  clear F9 N9
  k_steps
  refine ⟨?_⟩
  rename Fr _ _ _ _ => F9
  rename News _ _ _ _ => N9
  k_dflt (refine my_add (vs := fvs.take j ++ [Value.ref Dr]) (ws := fvs.drop j) F9 N9 (.tail _ (.head _)) (.head _) (by simp only [List.length_append, List.length_take, List.length_drop, List.length_cons, List.length_nil]; omega) ?_)
  intro D4 h4 F4 N4 l4
  k_lt l4
  clear F9 N9
  k_steps
  refine ⟨?_⟩
  rename Fr _ _ _ _ => F9
  rename News _ _ _ _ => N9
  k_dflt (refine ne_rows (tl := tl2) (rs := frs.take j ++ [q] ++ frs.drop j) N9 (.tail _ (.tail _ (.tail _ (.tail _ (.tail _ (.head _)))))) (.head _) hRn rfl (fun p hp => (.tail _ (.tail _ (.tail _ (.tail _ (.tail _ (.tail _ (.tail _ (.tail _ (.tail _ (.tail _ (.tail _ (.tail _ (.tail _ hp)))))))))))))) hon (by k_units) ?_)
  have N5 := fun p hp => N9 p (.tail _ (.tail _ (.tail _ (.tail _ (.tail _ hp)))))
  replace N5 := show News h₀ L _ _ from N5
  clear N9 l1 l2 l3 l4
  k_steps
  all_goals (try k_data)
  · exfalso
    rename @Ne Int _ _ => hz9
    exact hz9 (by rw [hfi])
  refine ⟨?_⟩
  rename Fr _ _ _ _ => F9
  rename News _ _ _ _ => N9
  obtain ⟨o1, o2, o3, o4, o5, o6, o7, o8⟩ := l9
  k_dflt (refine my_append (vs := rvs) (e := e2) F9 N9 (.tail (fun q => o4 q.symm) (.tail (fun q => j2' q.symm) (.tail (fun q => j2 q.symm) (.tail d11 (.head (List.forall_mem_cons.mpr ⟨fun q => d21 q.symm, List.forall_mem_cons.mpr ⟨fun q => d22 q.symm, List.forall_mem_cons.mpr ⟨fun q => d23 q.symm, g1'⟩⟩⟩)))))) hrl ?_)
  intro h5 F5 N5
  clear F9 N9
  k_steps
  all_goals (try k_data)
  have hoff : ∀ p ∈ (D9, lstL (fvs.take j ++ [Value.ref Dr] ++ fvs.drop j) e9) :: (rl, lstL (rvs ++ [Value.ref Dr]) (e2 + 1)) :: (L + 1 + 1, ro2) :: (L + 1, ko) :: (82, tabObj #[]) :: tl2, (@Ne Nat p.1 I) ∧ (@Ne Nat p.1 (I + 1)) :=
    List.forall_mem_cons.mpr ⟨⟨fun q => o2 q.symm, fun q => o1 q.symm⟩, List.forall_mem_cons.mpr ⟨⟨j2, j2'⟩, List.forall_mem_cons.mpr ⟨⟨Nat.ne_of_lt i1, Nat.ne_of_lt (Nat.lt_succ_of_lt i1)⟩, List.forall_mem_cons.mpr ⟨⟨Nat.ne_of_lt i2, Nat.ne_of_lt (Nat.lt_succ_of_lt i2)⟩, List.forall_mem_cons.mpr ⟨⟨Nat.ne_of_lt i3, Nat.ne_of_lt (Nat.lt_succ_of_lt i3)⟩, fun p hp => ⟨g5' p hp, g6' p hp⟩⟩⟩⟩⟩⟩
  have hsok : ∀ r ∈ rrs ++ [q], PyData.strOk r.s = true := by
    intro r hr
    rcases List.mem_append.mp hr with h | h
    · exact sok r h
    · rw [List.mem_singleton.mp h]; exact hqs
  refine ⟨h5, tk, _, (D9, lstL (fvs.take j ++ [Value.ref Dr] ++ fvs.drop j) e9) :: (rl, lstL (rvs ++ [Value.ref Dr]) (e2 + 1)) :: (L + 1 + 1, ro2) :: (L + 1, ko) :: (82, tabObj #[]) :: tl2, rfl, chain_of (fl := D9) (rl := rl) (sl := sl) F5 rfl rfl rfl rfl rfl, fun p hp => N5 p ?_, fun p hp z hz => ?_, ⟨(.tail _ (.tail _ (.tail _ (.tail _ (.tail _ (kp _ (.head _))))))), trivial⟩, ⟨_, D9, rl, D, _, _, _, _, _, _, ko, ro2, _, tl2, _, _, _, _, _, _, rfl, rfl, hK, hRn, hR.snoc hq, kp, hko, dro, ⟨fun q => o4 q.symm, fun q => o5 q.symm, fun q => o6 q.symm, fun q => o7 q.symm⟩, ⟨d21, d22, d23⟩, fun p hp => ⟨g1' p hp, g2' p hp, g3' p hp, g4' p hp⟩, by rw [List.length_append, sz]; rfl, num.snoc sz hqn, perm_insert perm, srt.insert hneF a2 a3, hsok⟩, hoff⟩
  · simp only [List.cons_append, List.nil_append, List.mem_cons] at hp ⊢
    rcases hp with h | h | h | h | h | h | h | h <;> simp [h]
  · obtain ⟨x1, x2⟩ := hoff p hp
    rcases List.mem_cons.mp hz with rfl | hz
    · exact x2
    · rw [List.mem_singleton.mp hz]; exact x1
end
end
section
open PySem PySem.W PySem.Calls PyProof.Rows
set_option maxRecDepth 100000
theorem drop8 {h₀ h : Heap} {L : Addr} {p1 p2 p3 p4 p5 p6 p7 p8 : Addr × Obj} {tl : List (Addr × Obj)} (N : News h₀ L h (p1 :: p2 :: p3 :: p4 :: p5 :: p6 :: p7 :: p8 :: tl)) : News h₀ L h tl :=
  fun q hq => N q (.tail _ (.tail _ (.tail _ (.tail _ (.tail _ (.tail _ (.tail _ (.tail _ hq))))))))
theorem law_init {h₀ h : Heap} {L sl fl rl De D k0 k1 a1 a2 a3 : Addr} {oe o1 o2 o3 ro ko : Obj} {m : Str → Option Value} {ws : List Value} {zs : List Int} {x0 x1 : Str} {t0 t1 : Tok} {r0 r1 : Bool} {c0 c1 c2 : Nat} {rx : Option Value}
    (hI : IntsAre ws zs) (F : Fr h₀ L h m) (e1 : m (Str.ofString "found") = some (.ref fl)) (e2 : m (Str.ofString "rows") = some (.ref rl)) (e3 : m (Str.ofString "script") = some (.ref sl))
    (N : News h₀ L h [(De, oe), (rl, lstL [] 0), (fl, lstL [] 0), (a1, o1), (a2, o2), (a3, o3), (D, lstL [.ref k0, .ref k1] c0), (k0, tupL [.str x0 t0, .bool r0] c1), (k1, tupL [.str x1 t1, .bool r1] c2), (L + 1 + 1, ro), (L + 1, ko), (82, tabObj #[])])
    (hko : ko.data = .cell (some (.ref D))) (hro : ro.data = .cell rx)
    (lrl : fl < rl ∧ a1 < rl ∧ a2 < rl ∧ a3 < rl ∧ D < rl ∧ k0 < rl ∧ k1 < rl ∧ L + 1 + 1 < rl ∧ L + 1 < rl ∧ 82 < rl)
    (lfl : a1 < fl ∧ a2 < fl ∧ a3 < fl ∧ D < fl ∧ k0 < fl ∧ k1 < fl ∧ L + 1 + 1 < fl ∧ L + 1 < fl ∧ 82 < fl)
    (l1 : (@Ne Nat (L + 1 + 1) D) ∧ (@Ne Nat (L + 1) D) ∧ (@Ne Nat (82) D))
    (l2 : (@Ne Nat (L + 1 + 1) k0) ∧ (@Ne Nat (L + 1) k0) ∧ (@Ne Nat (82) k0))
    (l3 : (@Ne Nat (L + 1 + 1) k1) ∧ (@Ne Nat (L + 1) k1) ∧ (@Ne Nat (82) k1)) :
    ∃ m' news', LI r0 r1 zs.length L sl [] 0 m' news' ∧ Fr h₀ L h m' ∧ News h₀ L h news' := by
  obtain ⟨y1, y2, y3, y4, y5, y6, y7, y8, y9, y10⟩ := lrl
  obtain ⟨-, -, -, -, -, -, z8, z9, z10⟩ := lfl
  obtain ⟨u1, u2, u3⟩ := l1
  obtain ⟨v1, v2, v3⟩ := l2
  obtain ⟨w1, w2, w3⟩ := l3
  refine ⟨_, (fl, lstL [] 0) :: (rl, lstL [] 0) :: (L + 1 + 1, ro) :: (L + 1, ko) :: (82, tabObj #[]) :: [(D, lstL [.ref k0, .ref k1] c0), (k0, tupL [.str x0 t0, .bool r0] c1), (k1, tupL [.str x1 t1, .bool r1] c2)],
    ⟨_, fl, rl, D, [], [], [], [], 0, 0, ko, ro, rx, _, _, _, _, _, _, _, rfl, rfl, ⟨k0, k1, c0, c1, c2, x0, x1, t0, t1, .head _, .tail _ (.head _), .tail _ (.tail _ (.head _))⟩, ⟨rfl, fun i v r hv => by simp at hv⟩, ⟨rfl, fun i v r hv => by simp at hv⟩, fun p hp => (nomatch hp), hko, hro,
      ⟨Nat.ne_of_lt y1, Nat.ne_of_gt z8, Nat.ne_of_gt z9, Nat.ne_of_gt z10⟩, ⟨Nat.ne_of_gt y8, Nat.ne_of_gt y9, Nat.ne_of_gt y10⟩,
      List.forall_mem_cons.mpr ⟨⟨Nat.ne_of_lt y5, fun q => u1 q.symm, fun q => u2 q.symm, fun q => u3 q.symm⟩, List.forall_mem_cons.mpr ⟨⟨Nat.ne_of_lt y6, fun q => v1 q.symm, fun q => v2 q.symm, fun q => v3 q.symm⟩, List.forall_mem_cons.mpr ⟨⟨Nat.ne_of_lt y7, fun q => w1 q.symm, fun q => w2 q.symm, fun q => w3 q.symm⟩, fun p hp => (nomatch hp)⟩⟩⟩,
      rfl, fun j r hr => by simp at hr, .nil, .nil, fun r hr => (nomatch hr)⟩,
    chain_of F e1 e2 e3 rfl rfl, fun q hq => N q ?_⟩
  simp only [List.mem_cons, List.not_mem_nil, or_false] at hq ⊢
  rcases hq with h | h | h | h | h | h | h | h <;> simp [h]
theorem pair_of {h : Heap} {sl : Addr} {ws : List Value} {zs : List Int} (_ : h.IsList sl ws.toArray) (hI : IntsAre ws zs) : IntsAre ws zs := hI
theorem stp_ret {prog : Program} {w : World} {A : Around} {E : Value → Shared → Prop} {s : Shared} {env : Env} {v : PySem.Expr} {pos : Pos} {Q : Flow → Shared → Prop} (h : Stp (wpAny (model prog w) A (exec (.Return (some v) pos) env) Q E s)) :
    wpAny (model prog w) A (exec (.Return (some v) pos) env) Q E s := h.out
set_option maxHeartbeats 8000000 in
theorem post_true (x : List Int) : PySem.Challenge.rw_nz0272_01.row.claim.post [ofPy (PyData.list (List.map PyData.int x))] (.bool true) [ofPy (PyData.list (List.map PyData.int x))] = true := by
  wrow_post
set_option maxHeartbeats 8000000 in
theorem no_raise (x : List Int) : ∀ ct ∈ PySem.Challenge.rw_nz0272_01.row.raises, ct.2.holds PySem.Challenge.rw_nz0272_01.row.records { args := [ofPy (PyData.list (List.map PyData.int x))] } = false := by
  wrow_none_raised
end
section
open PySem PySem.W PySem.Calls PyProof.Rows
set_option maxRecDepth 100000
local macro_rules | `(tactic| walk_at "a key that no goal has") => `(tactic| fail)
local macro_rules | `(tactic| walk_at "call ref") => `(tactic| (k_here; k_dflt (refine' rsk_ff ?k1 ?k2 ?k3 ?k4 ?k5 ?kd ?ku ?kN ?_; (case k1 | k2 | k3 | k4 => k_asm); (case k5 => exact rfl); (case kd => k_room); (case ku => decide); (case kN => (rename News _ _ _ _ => N9; exact fun q hq => N9 q (by rcases List.mem_cons.mp hq with hq | hq; (exact hq ▸ .head _); (exact nomatch hq))))); k_dflt (intro h9 tk9 D9 k09 k19 c0 c1 c2 u0 u1 hk9 NW9 f1 f2 f3; (rename Fr _ _ _ _ => F9); (have F9' := F9.keptAll hk9); clear F9; revert NW9; (rename News _ _ _ _ => N9); (replace N9 := drop8 N9); (have l1 := allNe_fresh N9 f1); (have l2 := allNe_fresh N9 f2); (have l3 := allNe_fresh N9 f3); (simp only [AllNe, and_true] at l1 l2 l3); intro NW9; (have N9' := NW9.append (N9.grown hk9)); (simp only [List.cons_append, List.nil_append] at N9'); clear N9 NW9 f1 f2 f3)))
local macro_rules | `(tactic| walk_at "call ref") => `(tactic| (k_here; k_dflt (refine' rsk_ft ?k1 ?k2 ?k3 ?k4 ?k5 ?kd ?ku ?kN ?_; (case k1 | k2 | k3 | k4 => k_asm); (case k5 => exact rfl); (case kd => k_room); (case ku => decide); (case kN => (rename News _ _ _ _ => N9; exact fun q hq => N9 q (by rcases List.mem_cons.mp hq with hq | hq; (exact hq ▸ .head _); (exact nomatch hq))))); k_dflt (intro h9 tk9 D9 k09 k19 c0 c1 c2 u0 u1 hk9 NW9 f1 f2 f3; (rename Fr _ _ _ _ => F9); (have F9' := F9.keptAll hk9); clear F9; revert NW9; (rename News _ _ _ _ => N9); (replace N9 := drop8 N9); (have l1 := allNe_fresh N9 f1); (have l2 := allNe_fresh N9 f2); (have l3 := allNe_fresh N9 f3); (simp only [AllNe, and_true] at l1 l2 l3); intro NW9; (have N9' := NW9.append (N9.grown hk9)); (simp only [List.cons_append, List.nil_append] at N9'); clear N9 NW9 f1 f2 f3)))
local macro_rules | `(tactic| walk_at "call ref") => `(tactic| (k_here; k_dflt (refine' rsk_tf ?k1 ?k2 ?k3 ?k4 ?k5 ?kd ?ku ?kN ?_; (case k1 | k2 | k3 | k4 => k_asm); (case k5 => exact rfl); (case kd => k_room); (case ku => decide); (case kN => (rename News _ _ _ _ => N9; exact fun q hq => N9 q (by rcases List.mem_cons.mp hq with hq | hq; (exact hq ▸ .head _); (exact nomatch hq))))); k_dflt (intro h9 tk9 D9 k09 k19 c0 c1 c2 u0 u1 hk9 NW9 f1 f2 f3; (rename Fr _ _ _ _ => F9); (have F9' := F9.keptAll hk9); clear F9; revert NW9; (rename News _ _ _ _ => N9); (replace N9 := drop8 N9); (have l1 := allNe_fresh N9 f1); (have l2 := allNe_fresh N9 f2); (have l3 := allNe_fresh N9 f3); (simp only [AllNe, and_true] at l1 l2 l3); intro NW9; (have N9' := NW9.append (N9.grown hk9)); (simp only [List.cons_append, List.nil_append] at N9'); clear N9 NW9 f1 f2 f3)))
local macro_rules | `(tactic| walk_at "call ref") => `(tactic| (k_here; k_dflt (refine' rsk_tt ?k1 ?k2 ?k3 ?k4 ?k5 ?kd ?ku ?kN ?_; (case k1 | k2 | k3 | k4 => k_asm); (case k5 => exact rfl); (case kd => k_room); (case ku => decide); (case kN => (rename News _ _ _ _ => N9; exact fun q hq => N9 q (by rcases List.mem_cons.mp hq with hq | hq; (exact hq ▸ .head _); (exact nomatch hq))))); k_dflt (intro h9 tk9 D9 k09 k19 c0 c1 c2 u0 u1 hk9 NW9 f1 f2 f3; (rename Fr _ _ _ _ => F9); (have F9' := F9.keptAll hk9); clear F9; revert NW9; (rename News _ _ _ _ => N9); (replace N9 := drop8 N9); (have l1 := allNe_fresh N9 f1); (have l2 := allNe_fresh N9 f2); (have l3 := allNe_fresh N9 f3); (simp only [AllNe, and_true] at l1 l2 l3); intro NW9; (have N9' := NW9.append (N9.grown hk9)); (simp only [List.cons_append, List.nil_append] at N9'); clear N9 NW9 f1 f2 f3)))
local macro_rules | `(tactic| walk_at "exec For Tuple Call") => `(tactic| (k_here; refine stp_for ?_))
local macro_rules | `(tactic| walk_at "exec Return some") => `(tactic| (k_here; (have hg9 : Late := by assumption); refine stp_ret ?_))
set_option maxHeartbeats 8000000 in
theorem t1 : PySem.Challenge.rw_nz0272_01.Holds := hd (by
  k_go0
  all_goals (try k_fold)
  k_steps
  all_goals (try k_data)
  all_goals
    rename News _ _ _ _ => N9
    rename Fr _ _ _ _ => F9
    rename_i h9 tk9 D9 k09 k19 c0 c1 c2 u0 u1 hk9 l1 l2 l3 hx o9 d9 tkA Da ha la Db hb lb Lc hc lc aa tkB fl hfl lfl rl hrl lrl De he le hx1 hx2 hx3
    have hI0 := pair_of lifted (by assumption)
    obtain ⟨m0, news0, J0, F0, N0⟩ := law_init hI0 F9 rfl rfl rfl N9 d9 (by assumption) lrl lfl l1 l2 l3
    clear F9 N9 l1 l2 l3 la lb lc lfl lrl le
    refine ⟨?_⟩
    k_dflt (refine law_loop rfl rfl (by assumption) F0 (by assumption) (by assumption) N0 J0 (by assumption) lifted hI0 (by assumption) (by passes_own) ?_)
    clear F0 N0 J0
    intro h7 tk7 m7 news7 i7 hi7 J7 F7 N7
    have hlate : Late := ⟨⟩
    k_steps
  all_goals
    refine ⟨?_⟩
    k_dflt (refine law_ret rfl rfl (by assumption) F7 (by assumption) (by assumption) N7 J7 (by assumption) hi7 codeHd (by passes_own) ?_)
    intro h6 tk6 F6 G6
    clear N7 J7
    refine And.intro ?_ (And.intro G6 True.intro)
    exact goodW_bool F6 (by assumption) (raisesW_false (no_raise _)) (post_true _)
  )
end
end Mine
theorem PySem.Challenge.cw_nz0272_01_holds : PySem.Challenge.rw_nz0272_01.Holds := by
  exact Mine.t1
