import PyProof.Rows.All
import Wide.All
import OpenK.AllK
import Wide.FinOn
import HandS.ForMost
import HandS.Evl
import HandS.Walk
import HandS.IsInst
import HandS.Deep
import HandS.SortInts
import HandS.SortRule
import HandS.Zip
import HandS.Strs
import HandS.SetFor
import HandS.More
import HandS.Conv
import HandS.Wide
import HandS.Codes
import HandS.Exc
import HandS.SortKw
import PySem.Challenge.RW_chestbreaks_k63_whole_the_fewest
set_option Elab.async false
set_option linter.all false
set_option maxRecDepth 100000
set_option maxHeartbeats 4000000
namespace Fw
abbrev Fi := Int × Int × Int
/-! the greatest low, the least high of a break's number -/
def loS (n m : Int) (f : Fi) : Int := if f.1 = n then (if m > f.2.1 then m else f.2.1) else m
def hiS (n m : Int) (f : Fi) : Int := if f.1 = n then (if m < f.2.2 then m else f.2.2) else m
def lo (fs : List Fi) (n : Int) : Int := fs.foldl (loS n) 0
def hi (fs : List Fi) (n : Int) : Int := fs.foldl (hiS n) 100
def nmS (ns : List Int) (f : Fi) : List Int := if f.1 ∈ ns then ns else ns ++ [f.1]
def nms (fs : List Fi) : List Int := fs.foldl nmS []
theorem lo_snoc (fs : List Fi) (f : Fi) (n : Int) : lo (fs ++ [f]) n = loS n (lo fs n) f := by simp [lo]
theorem hi_snoc (fs : List Fi) (f : Fi) (n : Int) : hi (fs ++ [f]) n = hiS n (hi fs n) f := by simp [hi]
theorem nms_snoc (fs : List Fi) (f : Fi) : nms (fs ++ [f]) = nmS (nms fs) f := by simp [nms]
theorem snoc_ind {α : Type} {P : List α → Prop} (h0 : P []) (h1 : ∀ l a, P l → P (l ++ [a])) (l : List α) : P l := by
  have h : ∀ k : List α, P k.reverse := by
    intro k
    induction k with
    | nil => exact h0
    | cons a r ih => rw [List.reverse_cons]; exact h1 _ _ ih
  have := h l.reverse
  rwa [List.reverse_reverse] at this
/-! lo is the greatest of 0 and the lows -/
structure IsLo (fs : List Fi) (n m : Int) : Prop where
  ge0 : 0 ≤ m
  ge : ∀ f ∈ fs, f.1 = n → f.2.1 ≤ m
  at_ : m = 0 ∨ ∃ f ∈ fs, f.1 = n ∧ f.2.1 = m
structure IsHi (fs : List Fi) (n m : Int) : Prop where
  le0 : m ≤ 100
  le : ∀ f ∈ fs, f.1 = n → m ≤ f.2.2
  at_ : m = 100 ∨ ∃ f ∈ fs, f.1 = n ∧ f.2.2 = m
theorem IsLo.uniq {fs : List Fi} {n m k : Int} (a : IsLo fs n m) (b : IsLo fs n k) : m = k := by
  have h1 : m ≤ k := by
    rcases a.at_ with e | ⟨f, hf, e1, e2⟩
    · rw [e]; exact b.ge0
    · rw [← e2]; exact b.ge f hf e1
  have h2 : k ≤ m := by
    rcases b.at_ with e | ⟨f, hf, e1, e2⟩
    · rw [e]; exact a.ge0
    · rw [← e2]; exact a.ge f hf e1
  omega
theorem IsHi.uniq {fs : List Fi} {n m k : Int} (a : IsHi fs n m) (b : IsHi fs n k) : m = k := by
  have h1 : k ≤ m := by
    rcases a.at_ with e | ⟨f, hf, e1, e2⟩
    · rw [e]; exact b.le0
    · rw [← e2]; exact b.le f hf e1
  have h2 : m ≤ k := by
    rcases b.at_ with e | ⟨f, hf, e1, e2⟩
    · rw [e]; exact a.le0
    · rw [← e2]; exact a.le f hf e1
  omega
theorem lo_is (n : Int) (fs : List Fi) : IsLo fs n (lo fs n) := by
  induction fs using snoc_ind with
  | h0 => exact ⟨Int.le_refl 0, fun f hf => by simp at hf, .inl rfl⟩
  | h1 l a ih =>
    rw [lo_snoc]
    unfold loS
    by_cases e : a.1 = n
    · rw [if_pos e]
      by_cases c : lo l n > a.2.1
      · rw [if_pos c]
        refine ⟨ih.ge0, fun f hf ef => ?_, ?_⟩
        · rcases List.mem_append.mp hf with h | h
          · exact ih.ge f h ef
          · rw [List.mem_singleton.mp h]; omega
        · rcases ih.at_ with h | ⟨f, hf, e1, e2⟩
          · exact .inl h
          · exact .inr ⟨f, List.mem_append.mpr (.inl hf), e1, e2⟩
      · rw [if_neg c]
        refine ⟨by have := ih.ge0; omega, fun f hf ef => ?_, .inr ⟨a, List.mem_append.mpr (.inr (List.mem_singleton.mpr rfl)), e, rfl⟩⟩
        rcases List.mem_append.mp hf with h | h
        · have := ih.ge f h ef; omega
        · rw [List.mem_singleton.mp h]; omega
    · rw [if_neg e]
      refine ⟨ih.ge0, fun f hf ef => ?_, ?_⟩
      · rcases List.mem_append.mp hf with h | h
        · exact ih.ge f h ef
        · rw [List.mem_singleton.mp h] at ef; exact absurd ef e
      · rcases ih.at_ with h | ⟨f, hf, e1, e2⟩
        · exact .inl h
        · exact .inr ⟨f, List.mem_append.mpr (.inl hf), e1, e2⟩
theorem hi_is (n : Int) (fs : List Fi) : IsHi fs n (hi fs n) := by
  induction fs using snoc_ind with
  | h0 => exact ⟨Int.le_refl 100, fun f hf => by simp at hf, .inl rfl⟩
  | h1 l a ih =>
    rw [hi_snoc]
    unfold hiS
    by_cases e : a.1 = n
    · rw [if_pos e]
      by_cases c : hi l n < a.2.2
      · rw [if_pos c]
        refine ⟨ih.le0, fun f hf ef => ?_, ?_⟩
        · rcases List.mem_append.mp hf with h | h
          · exact ih.le f h ef
          · rw [List.mem_singleton.mp h]; omega
        · rcases ih.at_ with h | ⟨f, hf, e1, e2⟩
          · exact .inl h
          · exact .inr ⟨f, List.mem_append.mpr (.inl hf), e1, e2⟩
      · rw [if_neg c]
        refine ⟨by have := ih.le0; omega, fun f hf ef => ?_, .inr ⟨a, List.mem_append.mpr (.inr (List.mem_singleton.mpr rfl)), e, rfl⟩⟩
        rcases List.mem_append.mp hf with h | h
        · have := ih.le f h ef; omega
        · rw [List.mem_singleton.mp h]; omega
    · rw [if_neg e]
      refine ⟨ih.le0, fun f hf ef => ?_, ?_⟩
      · rcases List.mem_append.mp hf with h | h
        · exact ih.le f h ef
        · rw [List.mem_singleton.mp h] at ef; exact absurd ef e
      · rcases ih.at_ with h | ⟨f, hf, e1, e2⟩
        · exact .inl h
        · exact .inr ⟨f, List.mem_append.mpr (.inl hf), e1, e2⟩
theorem mem_nms {n : Int} {fs : List Fi} : n ∈ nms fs ↔ ∃ f ∈ fs, f.1 = n := by
  induction fs using snoc_ind with
  | h0 => simp [nms]
  | h1 l a ih =>
    rw [nms_snoc]
    unfold nmS
    by_cases c : a.1 ∈ nms l
    · rw [if_pos c, ih]
      constructor
      · rintro ⟨f, hf, e⟩; exact ⟨f, List.mem_append.mpr (.inl hf), e⟩
      · rintro ⟨f, hf, e⟩
        rcases List.mem_append.mp hf with h | h
        · exact ⟨f, h, e⟩
        · rw [List.mem_singleton.mp h] at e
          rw [e] at c
          exact ih.mp c
    · rw [if_neg c, List.mem_append, ih, List.mem_singleton]
      constructor
      · rintro (⟨f, hf, e⟩ | e)
        · exact ⟨f, List.mem_append.mpr (.inl hf), e⟩
        · exact ⟨a, List.mem_append.mpr (.inr (List.mem_singleton.mpr rfl)), e.symm⟩
      · rintro ⟨f, hf, e⟩
        rcases List.mem_append.mp hf with h | h
        · exact .inl ⟨f, h, e⟩
        · rw [List.mem_singleton.mp h] at e
          exact .inr e.symm
theorem nd_nms (fs : List Fi) : (nms fs).Nodup := by
  induction fs using snoc_ind with
  | h0 => exact List.nodup_nil
  | h1 l a ih =>
    rw [nms_snoc]
    unfold nmS
    by_cases c : a.1 ∈ nms l
    · rw [if_pos c]; exact ih
    · rw [if_neg c]
      refine List.nodup_append.mpr ⟨ih, by simp, fun x hx y hy => ?_⟩
      rw [List.mem_singleton.mp hy]
      intro z
      rw [z] at hx
      exact c hx
theorem lo_none {fs : List Fi} {n : Int} (h : n ∉ nms fs) : lo fs n = 0 := by
  rcases (lo_is n fs).at_ with e | ⟨f, hf, e, _⟩
  · exact e
  · exact absurd (mem_nms.mpr ⟨f, hf, e⟩) h
theorem hi_none {fs : List Fi} {n : Int} (h : n ∉ nms fs) : hi fs n = 100 := by
  rcases (hi_is n fs).at_ with e | ⟨f, hf, e, _⟩
  · exact e
  · exact absurd (mem_nms.mpr ⟨f, hf, e⟩) h
theorem lo_mono {fs gs : List Fi} (h : ∀ f ∈ fs, f ∈ gs) (n : Int) : lo fs n ≤ lo gs n := by
  rcases (lo_is n fs).at_ with e | ⟨f, hf, e, e2⟩
  · rw [e]; exact (lo_is n gs).ge0
  · rw [← e2]; exact (lo_is n gs).ge f (h f hf) e
theorem hi_mono {fs gs : List Fi} (h : ∀ f ∈ fs, f ∈ gs) (n : Int) : hi gs n ≤ hi fs n := by
  rcases (hi_is n fs).at_ with e | ⟨f, hf, e, e2⟩
  · rw [e]; exact (hi_is n gs).le0
  · rw [← e2]; exact (hi_is n gs).le f (h f hf) e
/-- findings within bounds -/
def Fine (f : Fi) : Prop := 0 ≤ f.1 ∧ f.1 ≤ 1000000000 ∧ 0 ≤ f.2.1 ∧ f.2.1 ≤ f.2.2 ∧ f.2.2 ≤ 100
theorem lo_le {fs : List Fi} (h : ∀ f ∈ fs, Fine f) (n : Int) : lo fs n ≤ 100 := by
  rcases (lo_is n fs).at_ with e | ⟨f, hf, _, e2⟩
  · omega
  · have := h f hf; unfold Fine at this; omega
theorem hi_ge {fs : List Fi} (h : ∀ f ∈ fs, Fine f) (n : Int) : 0 ≤ hi fs n := by
  rcases (hi_is n fs).at_ with e | ⟨f, hf, _, e2⟩
  · omega
  · have := h f hf; unfold Fine at this; omega
/-! rising lists -/
theorem up_unique {α : Type} {lt : α → α → Prop} (irr : ∀ a, ¬ lt a a) (tr : ∀ a b c, lt a b → lt b c → lt a c) : ∀ {l k : List α}, l.Pairwise lt → k.Pairwise lt → (∀ x, x ∈ l ↔ x ∈ k) → l = k
  | [], [], _, _, _ => rfl
  | [], b :: k, _, _, h => absurd ((h b).mpr List.mem_cons_self) (by simp)
  | a :: l, [], _, _, h => absurd ((h a).mp List.mem_cons_self) (by simp)
  | a :: l, b :: k, hl, hk, h => by
    obtain ⟨h1, h2⟩ := List.pairwise_cons.mp hl
    obtain ⟨k1, k2⟩ := List.pairwise_cons.mp hk
    have e : a = b := by
      rcases List.mem_cons.mp ((h a).mp List.mem_cons_self) with e | m
      · exact e
      · rcases List.mem_cons.mp ((h b).mpr List.mem_cons_self) with e | m2
        · exact e.symm
        · exact absurd (tr _ _ _ (k1 a m) (h1 b m2)) (irr b)
    subst e
    rw [up_unique irr tr h2 k2 fun x => ?_]
    constructor
    · intro m
      rcases List.mem_cons.mp ((h x).mp (List.mem_cons_of_mem _ m)) with e | m2
      · rw [e] at m; exact absurd (h1 a m) (irr a)
      · exact m2
    · intro m
      rcases List.mem_cons.mp ((h x).mpr (List.mem_cons_of_mem _ m)) with e | m2
      · rw [e] at m; exact absurd (k1 a m) (irr a)
      · exact m2
theorem int_up {l k : List Int} (hl : l.Pairwise (· < ·)) (hk : k.Pairwise (· < ·)) (h : ∀ x, x ∈ l ↔ x ∈ k) : l = k :=
  up_unique (lt := fun a b : Int => a < b) (fun a => Int.lt_irrefl a) (fun _ _ _ => Int.lt_trans) hl hk h
theorem up_of_le : ∀ {l : List Int}, l.Pairwise (· ≤ ·) → l.Nodup → l.Pairwise (· < ·)
  | [], _, _ => .nil
  | a :: l, h, n => by
    obtain ⟨h1, h2⟩ := List.pairwise_cons.mp h
    obtain ⟨n1, n2⟩ := List.nodup_cons.mp n
    refine List.pairwise_cons.mpr ⟨fun x hx => ?_, up_of_le h2 n2⟩
    have := h1 x hx
    have ne : a ≠ x := fun e => n1 (by rw [e]; exact hx)
    omega
def plt (p q : Int × Int) : Prop := p.1 < q.1 ∨ (p.1 = q.1 ∧ p.2 < q.2)
theorem plt_irr (p : Int × Int) : ¬ plt p p := by unfold plt; omega
theorem plt_tr (p q r : Int × Int) : plt p q → plt q r → plt p r := by unfold plt; omega
theorem pair_up {l k : List (Int × Int)} (hl : l.Pairwise plt) (hk : k.Pairwise plt) (h : ∀ x, x ∈ l ↔ x ∈ k) : l = k := up_unique plt_irr plt_tr hl hk h
/-! all pairs ranked -/
def row (S : List Int) (l h : Int → Int) (a : Int) : List (Int × Int) := ((S.filter fun b => decide (h a < l b)).filter fun b => decide (b ≠ a)).map fun b => (a, b)
def rkS (S : List Int) (l h : Int → Int) : List (Int × Int) := S.flatMap (row S l h)
theorem mem_row {S : List Int} {l h : Int → Int} {a : Int} {p : Int × Int} : p ∈ row S l h a ↔ p.1 = a ∧ p.2 ∈ S ∧ h a < l p.2 ∧ p.2 ≠ a := by
  unfold row
  simp only [List.mem_map, List.mem_filter, decide_eq_true_eq]
  constructor
  · rintro ⟨b, ⟨⟨h1, h2⟩, h3⟩, rfl⟩; exact ⟨rfl, h1, h2, h3⟩
  · rintro ⟨rfl, h1, h2, h3⟩; exact ⟨p.2, ⟨⟨h1, h2⟩, h3⟩, rfl⟩
theorem mem_rkS {S : List Int} {l h : Int → Int} {p : Int × Int} : p ∈ rkS S l h ↔ p.1 ∈ S ∧ p.2 ∈ S ∧ h p.1 < l p.2 ∧ p.2 ≠ p.1 := by
  unfold rkS
  rw [List.mem_flatMap]
  constructor
  · rintro ⟨a, ha, m⟩
    obtain ⟨e, h1, h2, h3⟩ := mem_row.mp m
    subst e
    exact ⟨ha, h1, h2, h3⟩
  · rintro ⟨h0, h1, h2, h3⟩; exact ⟨p.1, h0, mem_row.mpr ⟨rfl, h1, h2, h3⟩⟩
theorem row_up {S : List Int} {l h : Int → Int} (u : S.Pairwise (· < ·)) (a : Int) : (row S l h a).Pairwise plt := by
  unfold row
  rw [List.pairwise_map]
  refine ((u.filter _).filter _).imp fun {x y} z => .inr ⟨rfl, z⟩
theorem rk_up_aux {S : List Int} {l h : Int → Int} (u : S.Pairwise (· < ·)) : ∀ {T : List Int}, T.Pairwise (· < ·) → (T.flatMap (row S l h)).Pairwise plt
  | [], _ => .nil
  | a :: T, hT => by
    obtain ⟨h1, h2⟩ := List.pairwise_cons.mp hT
    rw [List.flatMap_cons]
    refine List.pairwise_append.mpr ⟨row_up u a, rk_up_aux u h2, fun p hp q hq => ?_⟩
    obtain ⟨b, hb, m⟩ := List.mem_flatMap.mp hq
    have e1 := (mem_row.mp hp).1
    have e2 := (mem_row.mp m).1
    have := h1 b hb
    exact .inl (by omega)
theorem rk_up {S : List Int} {l h : Int → Int} (u : S.Pairwise (· < ·)) : (rkS S l h).Pairwise plt := rk_up_aux u u
/-! choices -/
def ch : Nat → Nat → Nat → List (List Nat)
  | 0, _, _ => [[]]
  | l + 1, a, m => (List.range' a (m - l - a)).flatMap fun k => (ch l (k + 1) m).map fun b => k :: b
def nxt (c : List Nat) : Nat := c.foldl (fun m k => max m (k + 1)) 0
def lch : Nat → Nat → List (List Nat)
  | 0, _ => [[]]
  | s + 1, m => (lch s m).flatMap fun c => (List.range' (nxt c) (m - nxt c)).map fun k => c ++ [k]
theorem ch_lch6 : (List.range 7).all (fun m => (List.range 7).all fun l => decide (ch l 0 m = lch l m)) = true := by decide +kernel
theorem ch_lch {l m : Nat} (hl : l ≤ 6) (hm : m ≤ 6) : ch l 0 m = lch l m := by
  have h := List.all_eq_true.mp ch_lch6 m (List.mem_range.mpr (by omega))
  exact of_decide_eq_true (List.all_eq_true.mp h l (List.mem_range.mpr (by omega)))
theorem ch_all6 : (List.range 7).all (fun m => decide (ch m 0 m = [List.range m])) = true := by decide +kernel
theorem ch_all {m : Nat} (hm : m ≤ 6) : ch m 0 m = [List.range m] := of_decide_eq_true (List.all_eq_true.mp ch_all6 m (List.mem_range.mpr (by omega)))
theorem ch_in : ∀ {l a m : Nat} {c : List Nat}, c ∈ ch l a m → c.length = l ∧ ∀ k ∈ c, k < m
  | 0, a, m, c, h => by
    have e : c = [] := by simpa [ch] using h
    subst e
    exact ⟨rfl, fun k hk => by simp at hk⟩
  | l + 1, a, m, c, h => by
    unfold ch at h
    obtain ⟨k, hk, h2⟩ := List.mem_flatMap.mp h
    obtain ⟨b, hb, e⟩ := List.mem_map.mp h2
    obtain ⟨i1, i2⟩ := ch_in hb
    subst e
    refine ⟨by rw [List.length_cons, i1], fun x hx => ?_⟩
    rcases List.mem_cons.mp hx with e | hx
    · have := List.mem_range'_1.mp hk
      omega
    · exact i2 x hx
theorem ch_len6 : (List.range 7).all (fun m => (List.range 7).all fun l => decide ((ch l 0 m).length ≤ 20)) = true := by decide +kernel
theorem ch_len {l m : Nat} (hl : l ≤ 6) (hm : m ≤ 6) : (ch l 0 m).length ≤ 20 := by
  have h := List.all_eq_true.mp ch_len6 m (List.mem_range.mpr (by omega))
  exact of_decide_eq_true (List.all_eq_true.mp h l (List.mem_range.mpr (by omega)))
/-! some tastings' pairs -/
abbrev Ts := List (List Fi)
def flat (ts : Ts) (c : List Nat) : List Fi := c.flatMap fun k => ts.getD k []
def Sn (ts : Ts) : List Int := (nms ts.flatten).mergeSort (fun a b => decide (a ≤ b))
theorem mem_Sn {ts : Ts} {n : Int} : n ∈ Sn ts ↔ ∃ f ∈ ts.flatten, f.1 = n := by
  unfold Sn
  rw [(List.mergeSort_perm _ _).mem_iff]
  exact mem_nms
theorem Sn_up (ts : Ts) : (Sn ts).Pairwise (· < ·) := by
  refine up_of_le ?_ ((List.mergeSort_perm _ _).nodup_iff.mpr (nd_nms _))
  have h := List.pairwise_mergeSort (le := fun a b : Int => decide (a ≤ b)) (by intro a b c h1 h2; simp only [decide_eq_true_eq] at *; omega) (by intro a b; simp only [Bool.or_eq_true, decide_eq_true_eq]; omega) (nms ts.flatten)
  exact h.imp fun {a b} z => of_decide_eq_true z
def R (ts : Ts) (c : List Nat) : List (Int × Int) := rkS (Sn ts) (lo (flat ts c)) (hi (flat ts c))
def al (ts : Ts) : List Nat := List.range ts.length
theorem getD_mem {ts : Ts} {k : Nat} {f : Fi} (h : f ∈ ts.getD k []) : f ∈ ts.flatten := by
  rw [List.getD_eq_getElem?_getD] at h
  cases e : ts[k]? with
  | none => rw [e] at h; simp at h
  | some t =>
    rw [e] at h
    exact List.mem_flatten.mpr ⟨t, List.mem_of_getElem? e, h⟩
theorem flat_mem {ts : Ts} {c : List Nat} {f : Fi} (h : f ∈ flat ts c) : f ∈ ts.flatten := by
  obtain ⟨k, _, m⟩ := List.mem_flatMap.mp h
  exact getD_mem m
theorem flat_all {ts : Ts} {f : Fi} (h : f ∈ ts.flatten) : f ∈ flat ts (al ts) := by
  obtain ⟨t, ht, m⟩ := List.mem_flatten.mp h
  obtain ⟨k, hk, e⟩ := List.mem_iff_getElem.mp ht
  refine List.mem_flatMap.mpr ⟨k, List.mem_range.mpr hk, ?_⟩
  rw [List.getD_eq_getElem?_getD, List.getElem?_eq_getElem hk, e]
  exact m
theorem R_sub {ts : Ts} {c : List Nat} {p : Int × Int} (h : p ∈ R ts c) : p ∈ R ts (al ts) := by
  obtain ⟨h1, h2, h3, h4⟩ := mem_rkS.mp h
  refine mem_rkS.mpr ⟨h1, h2, ?_, h4⟩
  have a := lo_mono (fs := flat ts c) (gs := flat ts (al ts)) (fun f hf => flat_all (flat_mem hf)) p.2
  have b := hi_mono (fs := flat ts c) (gs := flat ts (al ts)) (fun f hf => flat_all (flat_mem hf)) p.1
  omega
theorem R_up (ts : Ts) (c : List Nat) : (R ts c).Pairwise plt := rk_up (Sn_up ts)
theorem R_eq {ts : Ts} {c : List Nat} (h : ∀ p ∈ R ts (al ts), p ∈ R ts c) : R ts c = R ts (al ts) := pair_up (R_up _ _) (R_up _ _) fun _ => ⟨R_sub, h _⟩
/-! what fewest does -/
def lack (ts : Ts) (c : List Nat) (ps : List (Int × Int)) : Option (Int × Int) := ps.find? fun p => decide (p ∉ R ts c)
theorem lack_none {ts : Ts} {c : List Nat} : lack ts c (R ts (al ts)) = none ↔ R ts c = R ts (al ts) := by
  unfold lack
  rw [List.find?_eq_none]
  constructor
  · intro h
    refine R_eq fun p hp => ?_
    have := h p hp
    simpa using this
  · intro e p hp
    rw [e]
    simpa using hp
theorem lack_some {ts : Ts} {c : List Nat} {ps : List (Int × Int)} {p : Int × Int} (h : lack ts c ps = some p) : p ∈ ps ∧ p ∉ R ts c := by
  unfold lack at h
  exact ⟨List.mem_of_find?_eq_some h, of_decide_eq_true (List.find?_some (p := fun p => decide (p ∉ R ts c)) h)⟩
def scan (ts : Ts) (ps : List (Int × Int)) : List (List Nat) → List (Int × Int) → (List Nat) ⊕ (List (Int × Int))
  | [], acc => .inr acc
  | c :: cs, acc => match lack ts c ps with
    | none => .inl c
    | some p => scan ts ps cs (acc ++ [p])
def go (ts : Ts) (ps : List (Int × Int)) : List Nat → List (Int × Int) → List Nat × List (Int × Int)
  | [], paper => (al ts, paper)
  | l :: ls, paper => match scan ts ps (ch l 0 ts.length) [] with
    | .inl c => (c, paper)
    | .inr found => go ts ps ls found
def few (ts : Ts) : List Nat × List (Int × Int) := go ts (R ts (al ts)) (List.range (ts.length + 1)) []
def due (ts : Ts) : Option (List Nat) := (List.range (ts.length + 1)).findSome? fun s => (lch s ts.length).find? fun c => decide (R ts c = R ts (al ts))
def barred (ts : Ts) (m : Nat) : List (List Nat) := if 0 < m then ch (m - 1) 0 ts.length else []
structure PaperOk (ts : Ts) (m : Nat) (paper : List (Int × Int)) : Prop where
  len : paper.length = (barred ts m).length
  at_ : ∀ (i : Nat) p b, paper[i]? = some p → (barred ts m)[i]? = some b → p ∈ R ts (al ts) ∧ p ∉ R ts b
theorem scan_spec (ts : Ts) : ∀ (cs : List (List Nat)) (acc : List (Int × Int)),
    (∃ c, (cs.find? fun c => decide (R ts c = R ts (al ts))) = some c ∧ scan ts (R ts (al ts)) cs acc = .inl c) ∨
    ((cs.find? fun c => decide (R ts c = R ts (al ts))) = none ∧ ∃ more, scan ts (R ts (al ts)) cs acc = .inr (acc ++ more) ∧ more.length = cs.length ∧ ∀ (i : Nat) p b, more[i]? = some p → cs[i]? = some b → p ∈ R ts (al ts) ∧ p ∉ R ts b)
  | [], acc => .inr ⟨rfl, [], by simp [scan], rfl, fun i p b h => by simp at h⟩
  | c :: cs, acc => by
    unfold scan
    cases e : lack ts c (R ts (al ts)) with
    | none =>
      have r := lack_none.mp e
      exact .inl ⟨c, by rw [List.find?_cons, decide_eq_true r], rfl⟩
    | some p =>
      have r : ¬ R ts c = R ts (al ts) := fun z => by rw [lack_none.mpr z] at e; cases e
      rw [List.find?_cons, decide_eq_false r]
      rcases scan_spec ts cs (acc ++ [p]) with ⟨c', h1, h2⟩ | ⟨h1, more, h2, h3, h4⟩
      · exact .inl ⟨c', h1, h2⟩
      · refine .inr ⟨h1, p :: more, h2.trans (by rw [List.append_assoc]; rfl), by rw [List.length_cons, List.length_cons, h3], fun i q b hq hb => ?_⟩
        cases i with
        | zero =>
          simp only [List.getElem?_cons_zero, Option.some.injEq] at hq hb
          subst hq; subst hb
          exact lack_some e
        | succ i =>
          simp only [List.getElem?_cons_succ] at hq hb
          exact h4 i q b hq hb
theorem go_spec (ts : Ts) (hn : ts.length ≤ 6) : ∀ (k s : Nat) (paper : List (Int × Int)), s + k = ts.length + 1 → s ≤ ts.length → PaperOk ts s paper →
    ∃ c paper', go ts (R ts (al ts)) (List.range' s k) paper = (c, paper') ∧ ((List.range' s k).findSome? fun s => (ch s 0 ts.length).find? fun c => decide (R ts c = R ts (al ts))) = some c ∧ c.length ≤ ts.length ∧ (∀ x ∈ c, x < ts.length) ∧ PaperOk ts c.length paper'
  | 0, s, paper, h1, h2, _ => by omega
  | k + 1, s, paper, h1, h2, hp => by
    rw [List.range'_succ]
    unfold go
    rw [List.findSome?_cons]
    rcases scan_spec ts (ch s 0 ts.length) [] with ⟨c, f1, f2⟩ | ⟨f1, more, f2, f3, f4⟩
    · rw [f1, f2]
      obtain ⟨i1, i2⟩ := ch_in (List.mem_of_find?_eq_some f1)
      refine ⟨c, paper, rfl, rfl, by omega, i2, ?_⟩
      rw [i1]; exact hp
    · rw [f1, f2]
      have lt : s < ts.length := by
        by_cases q : s < ts.length
        · exact q
        · have e : s = ts.length := by omega
          rw [e, ch_all hn] at f1
          have := List.find?_eq_none.mp f1 (al ts) (by simp [al])
          simp at this
      refine go_spec ts hn k (s + 1) _ (by omega) (by omega) ⟨?_, fun i p b a1 a2 => ?_⟩
      · show ([] ++ more).length = (if 0 < s + 1 then ch (s + 1 - 1) 0 ts.length else []).length
        rw [if_pos (by omega), List.nil_append, f3]
        rfl
      · have a2' : (if 0 < s + 1 then ch (s + 1 - 1) 0 ts.length else [])[i]? = some b := a2
        rw [if_pos (by omega)] at a2'
        exact f4 i p b a1 a2'
theorem findSome_congr {α β : Type} {f g : α → Option β} : ∀ {l : List α}, (∀ x ∈ l, f x = g x) → l.findSome? f = l.findSome? g
  | [], _ => rfl
  | a :: l, h => by
    rw [List.findSome?_cons, List.findSome?_cons, h a List.mem_cons_self, findSome_congr fun x hx => h x (List.mem_cons_of_mem _ hx)]
theorem few_spec (ts : Ts) (hn : ts.length ≤ 6) : due ts = some (few ts).1 ∧ (few ts).1.length ≤ ts.length ∧ (∀ x ∈ (few ts).1, x < ts.length) ∧ PaperOk ts (few ts).1.length (few ts).2 := by
  obtain ⟨c, paper, h1, h2, h3, h4, h5⟩ := go_spec ts hn (ts.length + 1) 0 [] (by omega) (by omega) ⟨rfl, fun i p b h => by simp at h⟩
  have e : few ts = (c, paper) := by
    unfold few
    rw [List.range_eq_range']
    exact h1
  rw [e]
  refine ⟨?_, h3, h4, h5⟩
  unfold due
  rw [← h2, List.range_eq_range']
  refine findSome_congr fun s hs => ?_
  have := List.mem_range'_1.mp hs
  rw [ch_lch (by omega) hn]
end Fw
namespace Fw
open PySem PySem.Spec PyProof.Rows L2
open Evl (Ex)
/-! the text by places -/
def topS (i : Nat) : Stmt := PySem.Challenge.pw_chestbreaks_k63_whole_the_fewest.main.body.getD i (.Pass ⟨0, 0, 0, 0⟩)
/-! data -/
def dFi (f : Fi) : PyData := .tuple [.int f.1, .int f.2.1, .int f.2.2]
def dTg (t : List Fi) : PyData := .list (t.map dFi)
def dTs (ts : Ts) : PyData := .list (ts.map dTg)
def dN (k : Nat) : PyData := .int (k : Int)
def dCh (c : List Nat) : PyData := .list (c.map dN)
def dPr (p : Int × Int) : PyData := .tuple [.int p.1, .int p.2]
def dPs (ps : List (Int × Int)) : PyData := .list (ps.map dPr)
def vN (k : Nat) : V := .int (k : Int)
/-! two lists, place by place -/
structure All2 {α : Type} (F : V → α → Prop) (xs : List V) (l : List α) : Prop where
  len : xs.length = l.length
  at_ : ∀ (i : Nat) x a, xs[i]? = some x → l[i]? = some a → F x a
theorem All2.nil {α : Type} {F : V → α → Prop} : All2 F [] [] := ⟨rfl, fun i x a h => by simp at h⟩
theorem All2.mono {α : Type} {F G : V → α → Prop} {xs : List V} {l : List α} (h : All2 F xs l) (m : ∀ x a, F x a → G x a) : All2 G xs l := ⟨h.len, fun i x a h1 h2 => m x a (h.at_ i x a h1 h2)⟩
theorem All2.cons {α : Type} {F : V → α → Prop} {x : V} {a : α} {xs : List V} {l : List α} (h : F x a) (r : All2 F xs l) : All2 F (x :: xs) (a :: l) := by
  refine ⟨by rw [List.length_cons, List.length_cons, r.len], fun i y b h1 h2 => ?_⟩
  cases i with
  | zero =>
    simp only [List.getElem?_cons_zero, Option.some.injEq] at h1 h2
    rw [← h1, ← h2]; exact h
  | succ i =>
    simp only [List.getElem?_cons_succ] at h1 h2
    exact r.at_ i y b h1 h2
theorem All2.inv {α : Type} {F : V → α → Prop} {x : V} {xs : List V} {l : List α} (h : All2 F (x :: xs) l) : ∃ a r, l = a :: r ∧ F x a ∧ All2 F xs r := by
  cases l with
  | nil => have := h.len; simp at this
  | cons a r =>
    refine ⟨a, r, rfl, h.at_ 0 x a rfl rfl, ⟨by have := h.len; simpa using this, fun i y b h1 h2 => h.at_ (i + 1) y b (by simpa using h1) (by simpa using h2)⟩⟩
theorem All2.snoc {α : Type} {F : V → α → Prop} {x : V} {a : α} {xs : List V} {l : List α} (r : All2 F xs l) (h : F x a) : All2 F (xs ++ [x]) (l ++ [a]) := by
  refine ⟨by rw [List.length_append, List.length_append, r.len, List.length_singleton, List.length_singleton], fun i y b h1 h2 => ?_⟩
  by_cases hi : i < xs.length
  · rw [List.getElem?_append_left hi] at h1
    rw [List.getElem?_append_left (by rw [← r.len]; exact hi)] at h2
    exact r.at_ i y b h1 h2
  · have e := (List.getElem?_eq_some_iff.mp h1).1
    rw [List.length_append, List.length_singleton] at e
    have e2 : i = xs.length := by omega
    subst e2
    rw [List.getElem?_append_right (Nat.le_refl _), Nat.sub_self] at h1
    rw [r.len, List.getElem?_append_right (Nat.le_refl _), Nat.sub_self] at h2
    simp only [List.getElem?_cons_zero, Option.some.injEq] at h1 h2
    rw [← h1, ← h2]; exact h
theorem All2.app {α : Type} {F : V → α → Prop} : ∀ {xs : List V} {l : List α} {ys : List V} {k : List α}, All2 F xs l → All2 F ys k → All2 F (xs ++ ys) (l ++ k)
  | [], l, ys, k, h, h2 => by
    have e : l = [] := List.eq_nil_of_length_eq_zero h.len.symm
    subst e; exact h2
  | x :: xs, l, ys, k, h, h2 => by
    obtain ⟨a, r, rfl, h3, h4⟩ := h.inv
    exact .cons h3 (h4.app h2)
theorem All2.get {α : Type} {F : V → α → Prop} {xs : List V} {l : List α} (h : All2 F xs l) {i : Nat} {x : V} (hx : xs[i]? = some x) : ∃ a, l[i]? = some a ∧ F x a := by
  have e := (List.getElem?_eq_some_iff.mp hx).1
  have e2 : l[i]? = some (l[i]'(by rw [← h.len]; exact e)) := List.getElem?_eq_getElem _
  exact ⟨_, e2, h.at_ i x _ hx e2⟩
theorem All2.get' {α : Type} {F : V → α → Prop} {xs : List V} {l : List α} (h : All2 F xs l) {i : Nat} {a : α} (ha : l[i]? = some a) : ∃ x, xs[i]? = some x ∧ F x a := by
  have e := (List.getElem?_eq_some_iff.mp ha).1
  have e2 : xs[i]? = some (xs[i]'(by rw [h.len]; exact e)) := List.getElem?_eq_getElem _
  exact ⟨_, e2, h.at_ i _ a e2 ha⟩
theorem All2.ints {xs : List V} {l : List Int} (h : All2 (fun v i => v = .int i) xs l) : xs = l.map V.int := by
  refine List.ext_getElem? fun i => ?_
  rw [List.getElem?_map]
  cases e : l[i]? with
  | none =>
    have := List.getElem?_eq_none_iff.mp e
    rw [List.getElem?_eq_none (by rw [h.len]; exact this)] <;> rfl
  | some a =>
    obtain ⟨x, h1, h2⟩ := h.get' e
    rw [h1, h2] <;> rfl
section
variable {K : PySem.W.Frag} {H H1 H2 : Hp}
/-! data in a heap -/
theorem dpAll_of {α : Type} {g : α → PyData} : ∀ {xs : List V} {l : List α}, All2 (fun v a => Dp K H v (g a)) xs l → DpAll K H xs (l.map g)
  | [], l, h => by
    have e : l = [] := List.eq_nil_of_length_eq_zero h.len.symm
    subst e; exact .nil
  | x :: xs, l, h => by
    obtain ⟨a, r, rfl, h1, h2⟩ := h.inv
    exact .cons h1 (dpAll_of h2)
theorem of_dpAll {α : Type} {g : α → PyData} : ∀ {l : List α} {xs : List V}, DpAll K H xs (l.map g) → All2 (fun v a => Dp K H v (g a)) xs l
  | [], xs, h => by cases h; exact .nil
  | a :: l, xs, h => by
    cases h with
    | cons h1 h2 => exact .cons h1 (of_dpAll h2)
theorem dp_int {v : V} {i : Int} (h : Dp K H v (.int i)) : v = .int i := by cases h; rfl
theorem dp_list {α : Type} {g : α → PyData} {v : V} {l : List α} (h : Dp K H v (.list (l.map g))) : ∃ a xs, v = .ref a ∧ SqL K H a xs ∧ All2 (fun v x => Dp K H v (g x)) xs l := by
  cases h with
  | lst h1 h2 => exact ⟨_, _, rfl, h1, of_dpAll h2⟩
theorem dp_mk {α : Type} {g : α → PyData} {a : Addr} {xs : List V} {l : List α} (h : SqL K H a xs) (r : All2 (fun v x => Dp K H v (g x)) xs l) : Dp K H (.ref a) (.list (l.map g)) := .lst h (dpAll_of r)
theorem dp_fi {v : V} {f : Fi} (h : Dp K H v (dFi f)) : ∃ a, v = .ref a ∧ SqT K H a [.int f.1, .int f.2.1, .int f.2.2] := by
  cases h with
  | tup h1 h2 =>
    cases h2 with
    | cons a1 r1 =>
      cases r1 with
      | cons a2 r2 =>
        cases r2 with
        | cons a3 r3 =>
          cases r3
          cases a1; cases a2; cases a3
          exact ⟨_, rfl, h1⟩
theorem fi_dp {a : Addr} {f : Fi} (h : SqT K H a [.int f.1, .int f.2.1, .int f.2.2]) : Dp K H (.ref a) (dFi f) := .tup h (.cons (.int _) (.cons (.int _) (.cons (.int _) .nil)))
theorem dp_pr {v : V} {p : Int × Int} (h : Dp K H v (dPr p)) : ∃ a, v = .ref a ∧ SqT K H a [.int p.1, .int p.2] := by
  cases h with
  | tup h1 h2 =>
    cases h2 with
    | cons a1 r1 =>
      cases r1 with
      | cons a2 r2 =>
        cases r2
        cases a1; cases a2
        exact ⟨_, rfl, h1⟩
theorem pr_dp {a : Addr} {p : Int × Int} (h : SqT K H a [.int p.1, .int p.2]) : Dp K H (.ref a) (dPr p) := .tup h (.cons (.int _) (.cons (.int _) .nil))
theorem map_vN (c : List Nat) : c.map vN = (c.map (fun k : Nat => (k : Int))).map V.int := by rw [List.map_map]; rfl
theorem all_vN : ∀ c : List Nat, All2 (fun v x => Dp K H v (dN x)) (c.map vN) c
  | [] => .nil
  | k :: c => .cons (.int _) (all_vN c)
theorem dp_ch {v : V} {c : List Nat} (h : Dp K H v (dCh c)) : ∃ a, v = .ref a ∧ SqL K H a (c.map vN) := by
  obtain ⟨a, xs, rfl, h1, h2⟩ := dp_list h
  have e : xs = c.map vN := by
    refine List.ext_getElem? fun i => ?_
    rw [List.getElem?_map]
    cases e : c[i]? with
    | none =>
      have := List.getElem?_eq_none_iff.mp e
      rw [List.getElem?_eq_none (by rw [h2.len]; exact this)] <;> rfl
    | some k =>
      obtain ⟨x, h3, h4⟩ := h2.get' e
      rw [h3, dp_int h4] <;> rfl
  rw [e] at h1
  exact ⟨a, rfl, h1⟩
theorem ch_dp {a : Addr} {c : List Nat} (h : SqL K H a (c.map vN)) : Dp K H (.ref a) (dCh c) := dp_mk h (all_vN c)
theorem ex_rd' {a : Addr} {u : HO} (e : Ex H H1) (h : Rd H a u) : Rd H1 a u := Evl.ex_rd e h
mutual
theorem dp_ex (e : Ex H H1) : ∀ (d : PyData) (v : V), Dp K H v d → Dp K H1 v d
  | .none, _, h => by cases h; exact .non
  | .bool _, _, h => by cases h; exact .bl _
  | .int _, _, h => by cases h; exact .int _
  | .str _, _, h => by cases h; exact .str _
  | .list ds, _, h => by
    cases h with
    | lst h1 h2 => exact .lst (Evl.ex_l e h1) (dpAll_ex e ds _ h2)
  | .tuple ds, _, h => by
    cases h with
    | tup h1 h2 => exact .tup (Evl.ex_t e h1) (dpAll_ex e ds _ h2)
  | .dict _, _, h => by cases h
theorem dpAll_ex (e : Ex H H1) : ∀ (ds : List PyData) (vs : List V), DpAll K H vs ds → DpAll K H1 vs ds
  | [], _, h => by cases h; exact .nil
  | d :: ds, _, h => by
    cases h with
    | cons h1 h2 => exact .cons (dp_ex e d _ h1) (dpAll_ex e ds _ h2)
end
theorem dpx {v : V} {d : PyData} (e : Ex H H1) (h : Dp K H v d) : Dp K H1 v d := dp_ex e d v h
theorem dpx2 {α : Type} {g : α → PyData} {xs : List V} {l : List α} (e : Ex H H1) (h : All2 (fun v x => Dp K H v (g x)) xs l) : All2 (fun v x => Dp K H1 v (g x)) xs l := h.mono fun _ _ z => dpx e z
/-! what is new -/
def fr (H H1 : Hp) : Hp := fun a => if H a = none then H1 a else none
theorem fr_at {a : Addr} (h : H a = none) : fr H H1 a = H1 a := by unfold fr; rw [if_pos h]
theorem fr_in {a : Addr} {o : HO} (h : fr H H1 a = some o) : H a = none ∧ H1 a = some o := by
  unfold fr at h
  by_cases e : H a = none
  · rw [if_pos e] at h; exact ⟨e, h⟩
  · rw [if_neg e] at h; cases h
theorem fr_sub : Ex (fr H H1) H1 := fun a o h => (fr_in h).2
/-- older start, later end -/
theorem fr_ex {G G1 : Hp} (a : ∀ b, H b = none → G b = none) (e : ∀ b o, H b = none → H1 b = some o → G1 b = some o) : Ex (fr H H1) (fr G G1) := fun b o h => by
  obtain ⟨h1, h2⟩ := fr_in h
  rw [fr_at (a b h1)]
  exact e b o h1 h2
theorem none_of {a : Addr} (e : Ex H H1) (h : H1 a = none) : H a = none := Evl.fresh_back e h
theorem fr_left (e : Ex H H1) : Ex (fr H1 H2) (fr H H2) := fr_ex (fun _ z => none_of e z) fun _ _ _ z => z
theorem fr_right (e : Ex H1 H2) : Ex (fr H H1) (fr H H2) := fr_ex (fun _ z => z) fun b o _ z => e b o z
/-- a change of what stood ahead is not seen -/
theorem fr_upd {a : Addr} {o u : HO} (h : H a = some u) : fr H (upd H1 a o) = fr H H1 := by
  funext b
  unfold fr
  by_cases e : H b = none
  · rw [if_pos e, if_pos e, upd_ne]
    intro z
    rw [z, h] at e
    cases e
  · rw [if_neg e, if_neg e]
/-- data wholly new -/
def Nw (K : PySem.W.Frag) (H H1 : Hp) (v : V) (d : PyData) : Prop := Dp K (fr H H1) v d
theorem Nw.dp {v : V} {d : PyData} (h : Nw K H H1 v d) : Dp K H1 v d := dpx fr_sub h
/-- a list of ints laid in the heap -/
def Il (G : Hp) (v : V) (c : List Nat) : Prop := ∃ t, v = .ref t ∧ G t = some (.lst (c.map vN))
theorem Il.ex {v : V} {c : List Nat} (e : Ex H H1) (h : Il H v c) : Il H1 v c := by
  obtain ⟨t, rfl, h⟩ := h
  exact ⟨t, rfl, e _ _ h⟩
theorem Il.dp {v : V} {c : List Nat} (h : Il H v c) : Dp K H v (dCh c) := by
  obtain ⟨t, rfl, h⟩ := h
  exact ch_dp (Evl.sq_of h)
end
/-! what stands behind the top -/
structure Gs (mg : Str → Option Value) : Prop where
  zIsinstance : mg "isinstance" = none
  zInt : mg "int" = none
  zBool : mg "bool" = none
  zTuple : mg "tuple" = none
  zList : mg "list" = none
  zLen : mg "len" = none
  zAll : mg "all" = none
  zAny : mg "any" = none
  zSet : mg "set" = none
  zSorted : mg "sorted" = none
  zRange : mg "range" = none
  zMax : mg "max" = none
  zMin : mg "min" = none
  zEnum : mg "enumerate" = none
  zDict : mg "dict" = none
  cBreak : ∃ t, mg "MOST_BREAK" = some (.int 1000000000 t)
  cScore : ∃ t, mg "MOST_SCORE" = some (.int 100 t)
  cTastings : ∃ t, mg "MOST_TASTINGS" = some (.int 10 t)
  cBreaks : ∃ t, mg "MOST_BREAKS" = some (.int 12 t)
section
variable {P : Program} {w : World} {K : PySem.W.Frag} {mg : Str → Option Value} {base : Heap}
structure Dn (K : PySem.W.Frag) (mg : Str → Option Value) (x : Str) (st : Stmt) (ps : List Str) : Prop where
  ex : ∃ f fd, Fun K x x st f fd ∧ Binds K fd ps [] ∧ mg x = some (.ref f)
theorem cal_of {x : Str} {st : Stmt} {N ps : List Str} {k : Nat} {sp : Sp} (D : Dn K mg x st ps) (S : FnScope N ps (defScope st)) (len : ∀ vs H Q E, sp vs H Q E → vs.length = ps.length)
    (hbody : ∀ (f : Addr) (cdv : Value) (A : Around) (outer : List Env) (s : Shared) (H : Hp) (vs : List V) (Q : VK) (E : XK), Room k (A.deeper (envOfC x (defScope st) s.heap.objs.size f cdv)) → sp vs H Q E →
      ∃ t, PSs (cxOf CX0 P w K mg base N x (defScope st) f cdv A outer s H E).nox (defBody st) t ∧ t { nx := fun _ H' => Q .non H', rt := Q } (start N vs) H) : C8.Cal P w K mg base (k + 1) x sp [] := by
  obtain ⟨f, fd, F, b, m⟩ := D.ex
  exact ⟨f, fd, ps, [], F.ok S len fun cdv A outer s H vs Q E hr h => hbody f cdv A outer s H vs Q E hr h, m, F.kp, b, .nil⟩
end
/-! a comprehension whose items are new data -/
theorem lc_new {K : PySem.W.Frag} {J : It} {n : Nat} {G : Hp → Prop} {Y : Nat → Hp → V → Hp → Prop} (wk : Walk J n G Y) {g : TG} {tt : TT} {te : TE} {vs : List Nat} {σ : L2.St} {H : Hp} {D : Addr} {Qd : Hp → Prop}
    (f : Nat → Bool) (F : Hp → V → Nat → Prop) (hD : H D = none) (hn : n ≤ 100000) (hG : ∀ H1, Ex H H1 → G H1)
    (mono : ∀ H1 H2 v i, Ex H1 H2 → F H1 v i → F H2 v i)
    (turn : ∀ i x H1 H1', i < n → Ex H H1 → Y i H1 x H1' → ∀ (A : Hp → Prop) (B : V → Hp → Prop), (f i = false → ∀ H2, Ex H1 H2 → A H2) → (f i = true → ∀ y H2, Ex H1 H2 → F (fr H1 H2) y i → B y H2) →
      g x (wipe σ vs) H1' fun σ2 H2 => wipe σ2 vs = wipe σ vs ∧ tt σ2 H2 fun b H3 => if b = true then te σ2 H3 B else A H3)
    (q : ∀ H2 ys, Ex H H2 → H2 D = some (.lst ys) → All2 (F (fr (upd H D (.lst [])) H2)) ys ((List.range n).filter f) → Qd H2) :
    ∃ W : Nat → Nat → Hp → Prop, (∃ m, W 0 m (upd H D (.lst []))) ∧ ∀ i m H, W i m H →
      (J.stop i H ∧ Qd H) ∨ (J.go i H ∧ ∃ Nx : Hp → Prop, (∀ H', Nx H' → ∃ m', m' < m ∧ W (i + 1) m' H') ∧ ∀ x H', J.yld i H x H' → g x (wipe σ vs) H' fun σ2 H2 => wipe σ2 vs = wipe σ vs ∧ tt σ2 H2 fun b H3 =>
        if b = true then te σ2 H3 fun y H4 => ∃ acc, H4 D = some (.lst acc) ∧ acc.length < sizeLine ∧ Nx (upd H4 D (.lst (acc ++ [y]))) else Nx H3) := by
  have hU : (upd H D (.lst [])) D = some (.lst []) := upd_same
  refine lc_it wk (Qd := Qd) (fun i H1 => Ex H H1 ∧ ∃ ys, H1 D = some (.lst ys) ∧ All2 (F (fr (upd H D (.lst [])) H1)) ys ((List.range i).filter f)) ⟨Ex.new hD, [], upd_same, .nil⟩ (fun i H1 _ p => hG H1 p.1) ?_ (fun H1 p => ?_)
  · intro i x H1 H1' hi p y
    obtain ⟨p1, ys, p2, p3⟩ := p
    have hz : ys.length ≤ i := by
      rw [p3.len]
      exact Nat.le_trans (List.length_filter_le _ _) (by rw [List.length_range]; exact Nat.le_refl _)
    refine turn i x H1 H1' hi p1 y _ _ (fun hf H2 e2 => ?_) (fun hf v H2 e2 hF => ?_)
    · refine ⟨p1.trans e2, ys, e2 _ _ p2, ?_⟩
      rw [List.range_succ, List.filter_append, List.filter_cons, hf, if_neg (by decide), List.filter_nil, List.append_nil]
      exact p3.mono fun a b z => mono _ _ _ _ (fr_right e2) z
    · refine ⟨ys, e2 _ _ p2, Evl.sz_lt (by omega), Evl.Ex.mut (p1.trans e2) hD, ys ++ [v], upd_same, ?_⟩
      rw [List.range_succ, List.filter_append, List.filter_cons, hf, if_pos rfl, List.filter_nil, fr_upd hU]
      refine (p3.mono fun a b z => mono _ _ _ _ (fr_right e2) z).snoc (mono _ _ _ _ (fr_ex (fun b z => ?_) fun _ _ _ z => z) hF)
      by_cases hb : b = D
      · rw [hb, p2] at z; cases z
      · rw [upd_ne hb]; exact none_of p1 z
  · obtain ⟨p1, ys, p2, p3⟩ := p
    exact q H1 ys p1 p2 p3
end Fw
namespace Fw
open PySem PySem.Spec PyProof.Rows L2
open Evl (Ex)
section
variable {P : Program} {w : World} {K : PySem.W.Frag} {mg : Str → Option Value} {base : Heap}
theorem isi_no {x : V} {H : Hp} {a b : String} {Q : VK} (ty : TyX K H x (.type a)) (h : kitB a b = some false) (q : Q (.bl false) H) : rIsi K [x, .ty b] H Q := ⟨x, .ty b, _, _, false, rfl, .ty b, ty, kit_ty h, q⟩
theorem isi_yes {x : V} {H : Hp} {a b : String} {Q : VK} (ty : TyX K H x (.type a)) (h : kitB a b = some true) (q : Q (.bl true) H) : rIsi K [x, .ty b] H Q := ⟨x, .ty b, _, _, true, rfl, .ty b, ty, kit_ty h, q⟩
theorem ty_l {a : Addr} {xs : List V} {H : Hp} (h : SqL K H a xs) : TyX K H (.ref a) (.type "list") := by
  rcases h with (h | ⟨o, h⟩) | ⟨o, its, n, h, c, _⟩
  · exact .base (.lst h)
  · exact .base (.frz h)
  · exact .kList h c
theorem ty_t {a : Addr} {xs : List V} {H : Hp} (h : SqT K H a xs) : TyX K H (.ref a) (.type "tuple") := by
  rcases h with (h | ⟨o, h⟩) | ⟨o, its, n, h, c, _⟩
  · exact .base (.tup h)
  · exact .fTuple h
  · exact .kTuple h c
/-! is_whole -/
abbrev sWhole : Stmt := topS 6
def spWhole : Sp := fun vs H Q _ => ∃ i, vs = [.int i] ∧ Q (.bl true) H
theorem scWhole : FnScope ["thing"] ["thing"] (defScope sWhole) := ⟨rfl, rfl, rfl, by decide +kernel, rfl, by decide +kernel, by decide +kernel⟩
theorem c_whole (D : Dn K mg "is_whole" sWhole ["thing"]) (G : Gs mg) : C8.Cal P w K mg base 1 "is_whole" spWhole [] := by
  refine cal_of D scWhole (fun vs H Q E h => ?_) (fun f cdv A outer s H vs Q E hr h => ?_)
  · obtain ⟨i, rfl, _⟩ := h
    rfl
  · obtain ⟨i, rfl, q⟩ := h
    refine ⟨_, pss_one (ps_ret (pe_and (pe_callB call_isi (by rfl) G.zIsinstance (by decide +kernel) (pa_cons (pv 0) (pa_cons (pe_bltn (v := .ty "int") (by rfl) G.zInt (by decide +kernel) rfl) pa_nil)))
      (pe_one (pe_not (pe_callB call_isi (by rfl) G.zIsinstance (by decide +kernel) (pa_cons (pv 0) (pa_cons (pe_bltn (v := .ty "bool") (by rfl) G.zBool (by decide +kernel) rfl) pa_nil))))))), ?_⟩
    refine ⟨_, rfl, _, _, _, _, true, rfl, .ty _, .base (.int i), kit_ty (by decide +kernel), true, rfl, iteT ?_⟩
    exact ⟨_, rfl, _, _, _, _, false, rfl, .ty _, .base (.int i), kit_ty (by decide +kernel), false, rfl, q⟩
end
end Fw
namespace Fw
open PySem PySem.Spec PyProof.Rows L2
open Evl (Ex)
section
variable {P : Program} {w : World} {K : PySem.W.Frag} {mg : Str → Option Value} {base : Heap}
/-! is_from -/
abbrev sFrom : Stmt := topS 8
def spFrom : Sp := fun vs H Q _ => ∃ t lo hi : Int, vs = [.int t, .int lo, .int hi] ∧ Q (.bl (decide (lo ≤ t ∧ t ≤ hi))) H
theorem scFrom : FnScope ["thing", "low", "high"] ["thing", "low", "high"] (defScope sFrom) := ⟨rfl, rfl, rfl, by decide +kernel, rfl, by decide +kernel, by decide +kernel⟩
theorem c_from (D : Dn K mg "is_from" sFrom ["thing", "low", "high"]) (c1 : C8.Cal P w K mg base 1 "is_whole" spWhole []) : C8.Cal P w K mg base 2 "is_from" spFrom [] := by
  refine cal_of D scFrom (fun vs H Q E h => ?_) (fun f cdv A outer s H vs Q E hr h => ?_)
  · obtain ⟨t, lo, hi, rfl, _⟩ := h
    rfl
  · obtain ⟨t, lo, hi, rfl, q⟩ := h
    refine ⟨_, pss_one (ps_ret (pe_and (C8.pe_c c1 hr (by decide) (by rfl) (pa_cons (pv 0) pa_nil)) (pe_one (pe_chain op_le op_le (pv 1) (pv 0) (pv 2))))), ?_⟩
    refine ⟨_, rfl, t, rfl, true, rfl, iteT ?_⟩
    refine ⟨_, rfl, _, rfl, _, _, rfl, rfl, _, rfl, ?_⟩
    refine ite2 (fun h1 => ?_) (fun h1 => ?_)
    · refine ⟨_, rfl, _, _, rfl, rfl, ?_⟩
      have e : decide (lo ≤ t ∧ t ≤ hi) = decide (t ≤ hi) := by
        have h2 : lo ≤ t := of_decide_eq_true h1
        by_cases z : t ≤ hi
        · rw [decide_eq_true z, decide_eq_true ⟨h2, z⟩]
        · rw [decide_eq_false z, decide_eq_false fun y => z y.2]
      rw [e] at q
      exact q
    · have e : decide (lo ≤ t ∧ t ≤ hi) = false := decide_eq_false fun y => h1 (decide_eq_true y.1)
      rw [e] at q
      exact q
/-! is_break -/
abbrev sBreak : Stmt := topS 12
def spBreak : Sp := fun vs H Q _ => ∃ t : Int, vs = [.int t] ∧ Q (.bl (decide (0 ≤ t ∧ t ≤ 1000000000))) H
theorem scBreak : FnScope ["thing"] ["thing"] (defScope sBreak) := ⟨rfl, rfl, rfl, by decide +kernel, rfl, by decide +kernel, by decide +kernel⟩
theorem c_break (D : Dn K mg "is_break" sBreak ["thing"]) (G : Gs mg) (c2 : C8.Cal P w K mg base 2 "is_from" spFrom []) : C8.Cal P w K mg base 3 "is_break" spBreak [] := by
  refine cal_of D scBreak (fun vs H Q E h => ?_) (fun f cdv A outer s H vs Q E hr h => ?_)
  · obtain ⟨t, rfl, _⟩ := h
    rfl
  · obtain ⟨t, rfl, q⟩ := h
    obtain ⟨tb, hB⟩ := G.cBreak
    refine ⟨_, pss_one (ps_ret (C8.pe_c c2 hr (by decide) (by rfl) (pa_cons (pv 0) (pa_cons pe_int (pa_cons (pe_glob (v := .int 1000000000) (by rfl) hB ⟨tb, rfl⟩) pa_nil))))), ?_⟩
    exact ⟨_, rfl, t, 0, 1000000000, rfl, q⟩
/-! is_finding -/
abbrev sFinding : Stmt := topS 16
def spFinding (K : PySem.W.Frag) : Sp := fun vs H Q _ => ∃ v f, vs = [v] ∧ Dp K H v (dFi f) ∧ Fine f ∧ Q (.bl true) H
theorem scFinding : FnScope ["thing"] ["thing"] (defScope sFinding) := ⟨rfl, rfl, rfl, by decide +kernel, rfl, by decide +kernel, by decide +kernel⟩
theorem c_finding (D : Dn K mg "is_finding" sFinding ["thing"]) (G : Gs mg) (c2 : C8.Cal P w K mg base 2 "is_from" spFrom []) (c3 : C8.Cal P w K mg base 3 "is_break" spBreak []) : C8.Cal P w K mg base 4 "is_finding" (spFinding K) [] := by
  refine cal_of D scFinding (fun vs H Q E h => ?_) (fun f cdv A outer s H vs Q E hr h => ?_)
  · obtain ⟨v, f, rfl, _⟩ := h
    rfl
  · obtain ⟨v, g, rfl, hv, hg, q⟩ := h
    obtain ⟨a, rfl, ha⟩ := dp_fi hv
    obtain ⟨ts, hS⟩ := G.cScore
    unfold Fine at hg
    refine ⟨_, pss_cons (ps_if (PW.pt (pw_or (pt_not (pt_val (pe_callB call_isi (by rfl) G.zIsinstance (by decide +kernel) (pa_cons (pv 0) (pa_cons (pe_bltn (v := .ty "tuple") (by rfl) G.zTuple (by decide +kernel) rfl) pa_nil)))))
        (pw_or (pt_cmpR op_ne (pe_callB call_len_seq (by rfl) G.zLen PySem.boot_len (pa_cons (pv 0) pa_nil)) pe_int (nomark _))
          (pw_or1 (pt_not (pt_val (C8.pe_c c3 hr (by decide) (by rfl) (pa_cons (pe_ix ix_tup (pv 0) pe_int (fun _ _ => rfl)) pa_nil))))))))
        (pss_one (ps_ret pe_bl)) pss_nil)
      (pss_one (ps_ret (pe_and (C8.pe_c c2 hr (by decide) (by rfl) (pa_cons (pe_ix ix_tup (pv 0) pe_int (fun _ _ => rfl)) (pa_cons pe_int (pa_cons (pe_glob (v := .int 100) (by rfl) hS ⟨ts, rfl⟩) pa_nil))))
        (pe_one (C8.pe_c c2 hr (by decide) (by rfl) (pa_cons (pe_ix ix_tup (pv 0) pe_int (fun _ _ => rfl)) (pa_cons (pe_ix ix_tup (pv 0) pe_int (fun _ _ => rfl)) (pa_cons (pe_glob (v := .int 100) (by rfl) hS ⟨ts, rfl⟩) pa_nil)))))))), ?_⟩
    refine ⟨_, rfl, _, _, _, _, true, rfl, .ty _, ty_t ha, kit_ty (by decide +kernel), true, rfl, iteF ?_⟩
    refine ⟨_, rfl, a, _, rfl, .inr ha, rfl, false, rfl, iteF ?_⟩
    refine ⟨_, rfl, a, _, 0, _, rfl, rfl, ha, rfl, _, rfl, _, rfl, ?_⟩
    rw [decide_eq_true (show 0 ≤ g.1 ∧ g.1 ≤ 1000000000 from ⟨hg.1, hg.2.1⟩)]
    refine iteF ?_
    refine ⟨_, rfl, a, _, 1, _, rfl, rfl, ha, rfl, _, _, _, rfl, _, rfl, ?_⟩
    rw [decide_eq_true (show 0 ≤ g.2.1 ∧ g.2.1 ≤ 100 from ⟨hg.2.2.1, by omega⟩)]
    refine iteT ?_
    refine ⟨_, rfl, a, _, 2, _, rfl, rfl, ha, rfl, _, rfl, a, _, 1, _, rfl, rfl, ha, rfl, _, _, _, rfl, ?_⟩
    rw [decide_eq_true (show g.2.1 ≤ g.2.2 ∧ g.2.2 ≤ 100 from ⟨hg.2.2.2.1, hg.2.2.2.2⟩)]
    exact q
end
end Fw
namespace Fw
open PySem PySem.Spec PyProof.Rows L2 Evl
section
variable {P : Program} {w : World} {K : PySem.W.Frag} {mg : Str → Option Value} {base : Heap}
variable {σ : L2.St} {H : Hp} {ta te : TE}
theorem rc_isi {x : V} {a b : String} {r : Bool} (ty : ∀ H1, Ex H H1 → TyX K H1 x (.type a)) (h : kitB a b = some r) : RC (rIsi K) [x, .ty b] H (.bl r) := fun H1 e Q q => ⟨_, _, _, _, r, rfl, .ty _, ty H1 e, kit_ty h, q H1 (Ex.refl H1)⟩
theorem ev_allN {bs : List Bool} (ha : EvL ta σ H (bs.map V.bl)) : Ev (tCB (rAll K) (tCons ta tNil)) σ H (.bl (bs.all id)) := fun H1 e Q q =>
  ha H1 e _ fun p H2 _ e2 h2 => ⟨p, bs, rfl, sq_of h2, q H2 e2⟩
theorem ev_anyN {bs : List Bool} (ha : EvL ta σ H (bs.map V.bl)) : Ev (tCB (rAny K) (tCons ta tNil)) σ H (.bl (bs.any id)) := fun H1 e Q q =>
  ha H1 e _ fun p H2 _ e2 h2 => ⟨p, bs, rfl, sq_of h2, q H2 e2⟩
theorem ev_lenT {p : Addr} {xs : List V} (ha : Ev ta σ H (.ref p)) (h : SqT K H p xs) : Ev (tCB (rLenS K) (tCons ta tNil)) σ H (.int (xs.length : Int)) := fun H1 e Q q =>
  ha H1 e _ fun H2 e2 => ⟨p, xs, rfl, Or.inr (ex_t (e.trans e2) h), q H2 e2⟩
theorem given_true {n : Nat} {v : Nat → V} : given n (fun _ => true) v = (List.range n).map v := by
  unfold given
  rw [List.filter_eq_self.mpr fun _ _ => rfl]
theorem given_bl {n : Nat} : given n (fun _ => true) (fun _ => V.bl true) = (List.replicate n true).map V.bl := by
  rw [given_true, List.map_replicate, List.map_const', List.length_range]
theorem given_map {α : Type} {n : Nat} {v : Nat → V} {l : List α} {f : α → V} (hn : n = l.length) (h : ∀ (i : Nat) a, l[i]? = some a → v i = f a) : given n (fun _ => true) v = l.map f := by
  rw [given_true, hn]
  refine List.ext_getElem? fun i => ?_
  rw [List.getElem?_map, List.getElem?_map]
  cases e : l[i]? with
  | none =>
    rw [List.getElem?_eq_none (by rw [List.length_range]; exact List.getElem?_eq_none_iff.mp e)] <;> rfl
  | some a =>
    have hi := (List.getElem?_eq_some_iff.mp e).1
    rw [List.getElem?_range hi]
    show some (v i) = some (f a)
    rw [h i a e]
theorem all_rep (n : Nat) : (List.replicate n true).all id = true := List.all_eq_true.mpr fun x hx => List.eq_of_mem_replicate hx
theorem ev_lenSetI {ns : List Int} (ha : EvL ta σ H (ns.map V.int)) (hn : ns.Nodup) (hz : ns.length ≤ 4000) : Ev (RZ.tLenSetI K ta) σ H (.int (ns.length : Nat)) := fun H1 e Q q =>
  ha H1 e _ fun p H2 _ e2 h2 => ⟨p, ns, rfl, sq_of h2, hn, hz, q H2 e2⟩
/-! is_tasting -/
abbrev sTasting : Stmt := topS 17
/-- a tasting's tuple of findings as it should be -/
structure FineT (t : List Fi) : Prop where
  len : t.length ≤ 6
  nd : (t.map (·.1)).Nodup
  fine : ∀ f ∈ t, Fine f
def spTasting (K : PySem.W.Frag) : Sp := fun vs H Q _ => ∃ v t, vs = [v] ∧ Dp K H v (dTg t) ∧ FineT t ∧ ∀ H1, Ex H H1 → Q (.bl true) H1
theorem scTasting : FnScope ["thing", "one"] ["thing"] (defScope sTasting) := ⟨rfl, rfl, rfl, by decide +kernel, rfl, by decide +kernel, by decide +kernel⟩
theorem c_tasting (D : Dn K mg "is_tasting" sTasting ["thing"]) (G : Gs mg) (c4 : C8.Cal P w K mg base 4 "is_finding" (spFinding K) []) : C8.Cal P w K mg base 5 "is_tasting" (spTasting K) [] := by
  refine cal_of D scTasting (fun vs H Q E h => ?_) (fun f cdv A outer s H vs Q E hr h => ?_)
  · obtain ⟨v, t, rfl, _⟩ := h
    rfl
  · obtain ⟨v, t, rfl, hv, ht, q⟩ := h
    obtain ⟨a, xs, rfl, ha, hx⟩ := dp_list hv
    obtain ⟨tb, hB⟩ := G.cBreaks
    have hlen := hx.len
    have ht6 := ht.len
    refine ⟨_, pss_cons (ps_if (PW.pt (pw_or (pt_not (pt_val (pe_callB call_isi (by rfl) G.zIsinstance (by decide +kernel) (pa_cons (pv 0) (pa_cons (pe_bltn (v := .ty "list") (by rfl) G.zList (by decide +kernel) rfl) pa_nil)))))
        (pw_or (pt_cmpR op_gt (pe_callB call_len_seq (by rfl) G.zLen PySem.boot_len (pa_cons (pv 0) pa_nil)) (pe_glob (v := .int 12) (by rfl) hB ⟨tb, rfl⟩) (nomark _))
          (pw_or1 (pt_not (pt_val (pe_callB (cr_all rfl) (by rfl) G.zAll (by decide +kernel) (pa_cons
            (pe_lc (own := [("one", 1)]) (g := gName 1) (tt := tYes) rfl scTasting.nd (pi_list (pv 0)) (blkOk_by (N := ["thing", "one"]) (sc := defScope sTasting) (by decide +kernel)) (fun _ _ _ _ _ => pg_name (i := 1) scTasting.nd rfl (Or.inl rfl)) (fun _ _ _ _ _ => pts_nil)
              (fun _ _ _ _ _ => C8.pe_c c4 hr (by decide) (by rfl) (pa_cons (pv 1) pa_nil))) pa_nil)))))))) (pss_one (ps_ret pe_bl)) pss_nil)
      (pss_one (ps_ret (pe_cmpR op_eq (RZ.pe_lenSetI (by rfl) G.zLen (by rfl) G.zSet
          (pe_lc (own := [("one", 1)]) (g := gName 1) (tt := tYes) rfl scTasting.nd (pi_list (pv 0)) (blkOk_by (N := ["thing", "one"]) (sc := defScope sTasting) (by decide +kernel)) (fun _ _ _ _ _ => pg_name (i := 1) scTasting.nd rfl (Or.inl rfl)) (fun _ _ _ _ _ => pts_nil)
              (fun _ _ _ _ _ => pe_ix (r := rIxT K) ix_tup (pv 1) pe_int (fun _ _ => rfl))))
        (pe_callB call_len_seq (by rfl) G.zLen PySem.boot_len (pa_cons (pv 0) pa_nil)) (nomark _)))), ?_⟩
    have e0 : Ev (tVar 0) (L2.start ["thing", "one"] [V.ref a]) H (.ref a) := ev_var rfl
    refine q_when (b := false) (et_is (et_or (et_not (et_B (ev_cb (ea_cons e0 (ea_cons ev_c ea_nil)) (rc_isi (r := true) (fun H1 e => ty_l (ex_l e ha)) (by decide +kernel)))))
      fun _ => et_or (et_test (ev_op (ev_len e0 ha) ev_c rv_I0)) fun _ => et_not (et_B (ev_allN (bs := List.replicate xs.length true) ?_))) ?_) (fun z => Bool.noConfusion z) fun _ H1 e1 => ?_
    · rw [← given_bl (n := xs.length)]
      refine el_lcL (fun _ => true) (fun _ => V.bl true) e0 ha (by omega) (fun _ => rfl) (fun i x H1 _ _ => fun H2 _ Q q => q H2 (Ex.refl H2)) fun i x H1 e1 hi _ => ?_
      obtain ⟨g, hg, hd⟩ := hx.get hi
      refine ev_call (ea_cons (ev_var rfl) ea_nil) fun H2 e2 Q q E => ⟨x, g, rfl, dpx (e1.trans e2) hd, ht.fine g (List.mem_of_getElem? hg), q H2 (Ex.refl H2)⟩
    · rw [decide_eq_false (show ¬ (12 : Int) < (xs.length : Int) by omega), all_rep]
      rfl
    · have e : V.bl (decide (V.int ((t.map (·.1)).length : Nat) = V.int (xs.length : Int))) = V.bl true := by
        rw [decide_eq_true]
        rw [List.length_map, hlen]
      refine s_ret (ev_is (ev_op (ev_lenSetI (ns := t.map (·.1)) ?_ ht.nd (by rw [List.length_map]; omega)) (ev_len (e0.mono e1) (ex_l e1 ha)) (rv_eq rfl)) e) fun H2 e2 => q H2 (e1.trans e2)
      rw [List.map_map, ← given_map (n := xs.length) (v := fun i => V.int ((t.map (·.1)).getD i 0)) (l := t) hlen (fun i g hg => by
        show V.int ((t.map (·.1)).getD i 0) = V.int g.1
        rw [List.getD_eq_getElem?_getD, List.getElem?_map, hg] <;> rfl)]
      refine el_lcL (fun _ => true) _ (e0.mono e1) (ex_l e1 ha) (by omega) (fun _ => rfl) (fun i x H1 _ _ => fun H2 _ Q q => q H2 (Ex.refl H2)) fun i x H2 e2 hi _ => ?_
      obtain ⟨g, hg, hd⟩ := hx.get hi
      obtain ⟨b, rfl, hb⟩ := dp_fi hd
      refine ev_op (ev_var rfl) ev_c (rv_ixT (ex_t (e1.trans e2) hb) ?_)
      show some (V.int g.1) = some (V.int ((t.map (·.1)).getD i 0))
      rw [List.getD_eq_getElem?_getD, List.getElem?_map, hg] <;> rfl
end
end Fw
namespace Fw
open PySem PySem.Spec PyProof.Rows L2
/-- a set as it is made -/
def newS (w : World) : Obj := { cls := .type "set", dict := none, data := .set #[] 0 (.fresh 0 0 (!w.params.followText "set-order")) }
section
variable {P : Program} {w : World} {A : Around} {E : Value → Shared → Prop} {s : Shared}
/-- set(l), l a list of whole numbers: its order is known -/
theorem set_of_list {l : Addr} {its : Array Value} (ns : List Int) {Q : Value → Shared → Prop} (hh : A.handled = none) (hl : s.heap.IsList l its) (hit : IntsAre its.toList ns) (hb : ns.length + 1 < scanBound)
    (h : ∀ (h' : Heap) (tk c : Nat), SetR w h' s.heap.objs.size (fun j => decide (j ∈ ns)) c → c ≤ ns.length → (∀ b o, s.heap.get? b = some o → h'.get? b = some o) → Q (.ref s.heap.objs.size) { s with heap := h', toks := tk }) :
    wpAny (model P w) A (call (.type "set") [.ref l]) Q E s := by
  have hsz : its.size = ns.length := by simpa [Array.length_toList] using IntsAre.length hit
  obtain ⟨c0, tl0, m0⟩ := F.called_set.mro
  have m1 := F.called_set.made
  have m2 := F.called_set.sub
  have m3 := F.called_set.notType
  have m4 := F.called_set.canCreate
  have m5 := F.typeCall_set_1 (.ref l)
  refine wpAny_call (codeAny_of_tree ?_)
  show wpAny _ _ (callAny (.type "set") ⟨[.ref l], []⟩) _ _ _
  refine wpAny_pure ⟨Code.quiet_builtin _ (by decide +kernel), codeAny_builtin F.entry_type_call ?_⟩
  rw [Around.under_plain (weight_type_call_type "set" [Value.ref l] []) rfl]
  repeat (any_goals (first | assumption | wp_step))
  refine codeAny_mono (code_set_led1 (Value.ref l) (E := E) (Q₁ := fun ob s1 => ob = .ref s.heap.objs.size ∧ s1 = { s with heap := s.heap.push (newS w) }) ⟨rfl, rfl⟩) fun r s1 hr => ?_
  cases r with
  | error e => exact hr
  | ok fl => cases fl with
    | ret obj =>
      obtain ⟨rfl, rfl⟩ := hr
      have oS : (s.heap.push (newS w)).get? s.heap.objs.size = some (newS w) := Heap.get?_push_size _ rfl
      have tS : Shared.TypeIs { s with heap := s.heap.push (newS w) } (.ref s.heap.objs.size) "set" := ⟨_, oS, rfl⟩
      have i1 := F.called_set.init.lookup
      have i2 := F.called_set.init.bind (.ref s.heap.objs.size)
      repeat (any_goals (first | assumption | wp_step))
      refine codeAny_mono (codeAny_call_builtin (R := wants (fun r s2 => r = .none ∧ ∃ h' tk c, s2 = { s with heap := h', toks := tk } ∧ SetR w h' s.heap.objs.size (fun j => decide (j ∈ ns)) c ∧ c ≤ ns.length ∧ (∀ b o, s.heap.get? b = some o → h'.get? b = some o)) E)
        F.called_set.init.plain F.entry_set_init (check_set_init_1 tS ?_)) fun r2 s2 hr2 => ?_
      · obtain ⟨⟨c1, d1, data1, sl1⟩, ho, hc, nl, hd⟩ := hl
        simp only at hc hd
        subst hc; subst hd
        have ho1 : (s.heap.push (newS w)).get? l = some { cls := .type "list", dict := d1, data := .seq its nl, slots := sl1 } := Heap.get?_push_of_some _ ho
        have u1 := F.sub_list_set
        have u2 := F.sub_list_frozenset
        have u3 : (Value.type "list" == Value.type "dict") = false := by decide
        have hl1 : (s.heap.push (newS w)).IsList l its := ⟨_, ho1, rfl, nl, rfl⟩
        unfold Builtin.«set.__init__» noKeywords Builtin.Frozenset.updateFrom
        generalize hp : pyIter = PI
        wp_walk
        subst hp
        refine wpAny_pyIter_list hl1 ?_
        refine wpAny_bind (wpAny_runValue ?_)
        have lS : l < s.heap.objs.size := Heap.lt_size ho
        have h3 : A.in1.in1.in1.handled = none := by simp [hh]
        have z1 : (s.heap.push (newS w)).objs.size = s.heap.objs.size + 1 := Heap.size_push ..
        have n1 : l ≠ (s.heap.push (newS w)).objs.size := by
          rw [z1]
          exact Nat.ne_of_lt (Nat.lt_succ_of_lt lS)
        have n2 : s.heap.objs.size ∉ [(s.heap.push (newS w)).objs.size, l] := by
          rw [z1]
          intro z
          rcases List.mem_cons.mp z with z | z
          · exact absurd z (Nat.ne_of_lt (Nat.lt_succ_self _))
          · exact absurd (List.mem_singleton.mp z) (Nat.ne_of_gt lS)
        have val : ∀ (i : Nat) (v : Value), its[i]? = some v → ∃ k t, ns[i]? = some k ∧ v = .int k t := fun i v hv => by
          have hi : i < ns.length := hsz ▸ (Array.getElem?_eq_some_iff.mp hv).1
          obtain ⟨t, e⟩ := PyProof.Rows.IntsAre.int_at hit i v (by simpa using hv)
          exact ⟨ns[i], t, List.getElem?_eq_getElem hi, by rw [e, List.getD_eq_getElem?_getD, List.getElem?_eq_getElem hi] <;> rfl⟩
        refine set_update_ints ((Walks.list h3 _ l n1 its).toS) s.heap.objs.size n2 ns hsz hb val (its.size - 0) 0 _ (by omega) (Nat.zero_le _) ⟨⟨_, Heap.get?_push_size _ rfl, rfl, rfl⟩, (hl1.push _)⟩ ?S0 ?SR
        case S0 => exact ⟨0, Nat.le_refl 0, setR_new_at (Heap.get?_push_of_some _ oS)⟩
        case SR =>
          intro s' c' hm hc' hS'
          obtain ⟨h', g2, d', tk', os'⟩ := s'
          have eg : g2 = s.gens := hm.gens
          have ed : d' = s.drawn := hm.drawn
          have eo : os' = s.os := hm.os
          subst eg; subst ed; subst eo
          show wpAny _ _ _ _ _ _
          refine wpAny_pure ?_
          show wpAny _ _ (ret Value.none) _ _ _
          rw [hsz] at hc'
          refine wpAny_pure ⟨rfl, h', tk', c', rfl, hS', hc', fun b o e => hm.heap b o ?_ (Heap.get?_push_of_some _ (Heap.get?_push_of_some _ e))⟩
          have b0 : b < s.heap.objs.size := Heap.lt_size e
          rw [z1]
          intro z
          rcases List.mem_cons.mp z with z | z
          · exact absurd z (Nat.ne_of_lt b0)
          · exact absurd (List.mem_singleton.mp z) (Nat.ne_of_lt (Nat.lt_succ_of_lt b0))
      · cases r2 with
        | error e => exact hr2
        | ok fl2 => cases fl2 with
          | ret r =>
            obtain ⟨rfl, h', tk, c', rfl, hS', hc', hk'⟩ := hr2
            repeat (any_goals (first | assumption | wp_step))
            exact h _ _ _ hS' hc' hk'
          | _ => exact hr2.elim
    | _ => exact hr.elim
end
section
variable {X : Cx}
def rSetL (K : PySem.W.Frag) (w : World) : List V → Hp → VK → Prop := fun xs H Q => ∃ (l : Addr) (ns : List Int), xs = [V.ref l] ∧ SqL K H l (ns.map V.int) ∧ ns.length ≤ 4000 ∧
  ∀ p c, H p = none → c ≤ ns.length → Q (.ref p) (upd H p (SetO w p (fun j => decide (j ∈ ns)) c))
theorem cr_setL (hc : X.calm = true) : CallR X (.type "set") (rSetL X.K X.w) := by
  intro pins s σ H xs us Q I r h
  obtain ⟨l, ns, rfl, hq, hz, q⟩ := h
  rw [Vals.ref1 r]
  obtain ⟨its, rv, pl, hs⟩ := I.list hq
  refine set_of_list ns (I.ok.hd hc) pl.isList (by simpa using RZ.intsAre_vals rv) (by unfold scanBound; omega) fun h' tk c hS hle hk => ?_
  have hn : H s.heap.objs.size = none := I.hok.fresh (Nat.le_refl _)
  exact ⟨.ref s.heap.objs.size, _, I.laid hk (Nat.le_refl _) (setO_new hS), rfl, q _ c hn hle⟩
end
end Fw
namespace Fw
open PySem PySem.Spec PyProof.Rows L2 Evl
theorem All2.maps {α : Type} {v : α → V} {xs : List V} {l : List α} (h : All2 (fun y i => y = v i) xs l) : xs = l.map v := by
  refine List.ext_getElem? fun i => ?_
  rw [List.getElem?_map]
  cases e : l[i]? with
  | none =>
    have := List.getElem?_eq_none_iff.mp e
    rw [List.getElem?_eq_none (by rw [h.len]; exact this)] <;> rfl
  | some a =>
    obtain ⟨x, h1, h2⟩ := h.get' e
    rw [h1, h2] <;> rfl
/-- a comprehension whose items are known -/
theorem lc_val {K : PySem.W.Frag} {J : It} {n : Nat} {G : Hp → Prop} {Y : Nat → Hp → V → Hp → Prop} (wk : Walk J n G Y) {g : TG} {tt : TT} {te : TE} {vs : List Nat} {σ : L2.St} {H : Hp} {D : Addr} {Qd : Hp → Prop}
    (f : Nat → Bool) (v : Nat → V) (hD : H D = none) (hn : n ≤ 100000) (hG : ∀ H1, Ex H H1 → G H1)
    (turn : ∀ i x H1 H1', i < n → Ex H H1 → Y i H1 x H1' → ∀ (A : Hp → Prop) (B : V → Hp → Prop), (f i = false → ∀ H2, Ex H1 H2 → A H2) → (f i = true → ∀ H2, Ex H1 H2 → B (v i) H2) →
      g x (wipe σ vs) H1' fun σ2 H2 => wipe σ2 vs = wipe σ vs ∧ tt σ2 H2 fun b H3 => if b = true then te σ2 H3 B else A H3)
    (q : ∀ H2, Ex H H2 → H2 D = some (.lst (given n f v)) → Qd H2) :
    ∃ W : Nat → Nat → Hp → Prop, (∃ m, W 0 m (upd H D (.lst []))) ∧ ∀ i m H, W i m H →
      (J.stop i H ∧ Qd H) ∨ (J.go i H ∧ ∃ Nx : Hp → Prop, (∀ H', Nx H' → ∃ m', m' < m ∧ W (i + 1) m' H') ∧ ∀ x H', J.yld i H x H' → g x (wipe σ vs) H' fun σ2 H2 => wipe σ2 vs = wipe σ vs ∧ tt σ2 H2 fun b H3 =>
        if b = true then te σ2 H3 fun y H4 => ∃ acc, H4 D = some (.lst acc) ∧ acc.length < sizeLine ∧ Nx (upd H4 D (.lst (acc ++ [y]))) else Nx H3) :=
  lc_new (K := K) wk f (fun _ y i => y = v i) hD hn hG (fun _ _ _ _ _ z => z) (fun i x H1 H1' hi e y A B a b => turn i x H1 H1' hi e y A B a fun hf H2 e2 => b hf (v i) H2 e2 rfl) fun H2 ys e hy r => q H2 e (by rw [hy, r.maps] <;> rfl)
theorem given_len' {n : Nat} {v : Nat → V} : (given n (fun _ => true) v).length = n := by rw [given_true, List.length_map, List.length_range]
section
variable {P : Program} {w : World} {K : PySem.W.Frag} {mg : Str → Option Value} {base : Heap}
/-! breaks_in -/
abbrev sBreaksIn : Stmt := topS 18
/-- tastings as they should be -/
structure Good (ts : Ts) : Prop where
  len : ts.length ≤ 6
  fine : ∀ t ∈ ts, FineT t
  few : ∃ ns : List Int, ns.length ≤ 6 ∧ ∀ f ∈ ts.flatten, f.1 ∈ ns
theorem flat_len : ∀ {ts : Ts} {m : Nat}, (∀ t ∈ ts, t.length ≤ m) → ts.flatten.length ≤ ts.length * m
  | [], m, _ => by simp
  | t :: ts, m, h => by
    have h1 := h t List.mem_cons_self
    have h2 := flat_len fun u hu => h u (List.mem_cons_of_mem t hu)
    rw [List.flatten_cons, List.length_append, List.length_cons, Nat.add_mul]
    omega
theorem flat_take {ts : Ts} {i : Nat} {t : List Fi} (h : ts[i]? = some t) : (ts.take (i + 1)).flatten = (ts.take i).flatten ++ t := by
  rw [List.take_add_one, h, List.flatten_append]
  simp
def spBreaksIn (K : PySem.W.Frag) : Sp := fun vs H Q _ => ∃ v ts, vs = [v] ∧ Dp K H v (dTs ts) ∧ Good ts ∧ ∀ (p : Addr) (ns : List Int) H1, Ex H H1 → H1 p = some (.lst (ns.map V.int)) → ns.Pairwise (· < ·) → (∀ n, n ∈ ns ↔ ∃ f ∈ ts.flatten, f.1 = n) → Q (.ref p) H1
theorem scBreaksIn : FnScope ["tastings", "found", "tasting", "number", "low", "high"] ["tastings"] (defScope sBreaksIn) := ⟨rfl, rfl, rfl, by decide +kernel, rfl, by decide +kernel, by decide +kernel⟩
theorem c_breaks_in (D : Dn K mg "breaks_in" sBreaksIn ["tastings"]) (G : Gs mg) : C8.Cal P w K mg base 1 "breaks_in" (spBreaksIn K) [] := by
  refine cal_of D scBreaksIn (fun vs H Q E h => ?_) (fun f cdv A outer s H vs Q E hr h => ?_)
  · obtain ⟨v, t, rfl, _⟩ := h
    rfl
  · obtain ⟨v, ts, rfl, hv, hg, q⟩ := h
    obtain ⟨a, xs, rfl, ha, hx⟩ := dp_list hv
    have hlen := hx.len
    have ht6 := hg.len
    have hfl : ts.flatten.length ≤ 36 := Nat.le_trans (flat_len fun t ht => (hg.fine t ht).len) (by omega)
    refine ⟨_, pss_cons (ps_set (i := 1) scBreaksIn.nd rfl (.inl rfl) (pe_lst pa_nil))
      (pss_cons (ps_for PassesOwn.never rfl (pi_list (pv 0)) (pg_name (i := 2) scBreaksIn.nd rfl (.inl rfl))
        (pss_one (ps_expr (pe_bm PySem.F.plainAttrs_list PySem.F.slot_list_extend PySem.F.type_list_extend mt_extend (pv 1) (pa_cons
          (pe_lc (own := [("number", 3), ("low", 4), ("high", 5)]) (g := gTup K 3 (gCons (gName 3) (gCons (gName 4) (gCons (gName 5) gNil)))) (tt := tYes) rfl scBreaksIn.nd (pi_list (pv 2))
            (blkOk_by (N := ["tastings", "found", "tasting", "number", "low", "high"]) (sc := defScope sBreaksIn) (by decide +kernel))
            (fun _ _ _ _ _ => pg_tup rfl (pgs_cons (pg_name (i := 3) scBreaksIn.nd rfl (Or.inl rfl)) (pgs_cons (pg_name (i := 4) scBreaksIn.nd rfl (Or.inl rfl)) (pgs_cons (pg_name (i := 5) scBreaksIn.nd rfl (Or.inl rfl)) pgs_nil))))
            (fun _ _ _ _ _ => pts_nil) (fun _ _ _ _ _ => pv 3)) pa_nil)))))
      (pss_one (ps_ret (pe_callB (cr_sortedSet rfl) (by rfl) G.zSorted (by decide +kernel) (pa_cons (pe_callTy (cr_setL rfl) (by rfl) G.zSet (by decide +kernel) (pa_cons (pv 1) pa_nil)) pa_nil))))), ?_⟩
    refine ⟨Nat.zero_le _, fun o no => ?_⟩
    refine ⟨_, rfl, a, rfl, ⟨_, ex_l (Ex.new no) ha⟩, ?_⟩
    refine for_list (xs := xs) (fun i σ H1 => ∃ x, σ = [some (V.ref a), some (V.ref o), x, none, none, none] ∧ Ex H H1 ∧ H1 o = some (.lst ((((ts.take i).flatten).map (·.1)).map V.int)))
      ⟨none, rfl, Ex.new no, upd_same⟩ (fun i σ H1 _ p => by obtain ⟨_, _, e, _⟩ := p; exact ex_l e ha) ?_ ?_
    · rintro i x σ H1 hi ⟨x2, rfl, e1, ho⟩
      obtain ⟨t, ht, hd⟩ := hx.get hi
      obtain ⟨b, ys, rfl, hb, hy⟩ := dp_list hd
      have htf := hg.fine t (List.mem_of_getElem? ht)
      refine ⟨_, rfl, .inl ⟨rfl, _, sq_of ho⟩, _, rfl, b, rfl, ⟨_, ex_l e1 hb⟩, fun p hp => ?_⟩
      refine lc_val (K := K) (walk_list (xs := ys)) (fun _ => true) (fun j => V.int ((t.map (·.1)).getD j 0)) hp (by have := htf.len; have := hy.len; omega) (fun H2 e2 => ex_l (e1.trans e2) hb) ?_ ?_
      · rintro j y H2 H2' hj e2 ⟨rfl, hyj⟩ A B _ hB
        obtain ⟨g, hg1, hd1⟩ := hy.get hyj
        obtain ⟨c, rfl, hc⟩ := dp_fi hd1
        refine ⟨c, _, rfl, ex_t (e1.trans e2) hc, rfl, _, _, rfl, _, _, rfl, _, _, rfl, rfl, rfl, _, rfl, ?_⟩
        have := hB rfl H2' (Ex.refl _)
        rw [List.getD_eq_getElem?_getD, List.getElem?_map, hg1] at this
        exact this
      · intro H2 e2 h2
        have e : given ys.length (fun _ => true) (fun j => V.int ((t.map (·.1)).getD j 0)) = (t.map (·.1)).map V.int := given_map (by rw [List.length_map, hy.len]) fun j z hz => by
          rw [List.getD_eq_getElem?_getD, hz] <;> rfl
        rw [e] at h2
        refine ⟨o, p, _, _, rfl, rfl, e2 _ _ ho, h2, ?_, ?_⟩
        · rw [List.length_map, List.length_map, List.length_map, List.length_map]
          have h1 : (ts.take i).flatten.length + t.length = (ts.take (i + 1)).flatten.length := by rw [flat_take ht, List.length_append]
          have h3 : (ts.take (i + 1)).flatten.length ≤ 36 := by
            refine Nat.le_trans (flat_len fun u hu => (hg.fine u (List.mem_of_mem_take hu)).len) ?_
            have := List.length_take_le' (i + 1) ts
            omega
          exact sz_of (by omega)
        · refine ⟨_, rfl, (e1.trans e2).mut no, ?_⟩
          rw [upd_same, flat_take ht, List.map_append, List.map_append]
    · rintro σ H1 ⟨x2, rfl, e1, ho⟩
      rw [hlen, List.take_length] at ho
      refine ⟨_, rfl, o, _, rfl, sq_of ho, by rw [List.length_map]; omega, fun p c hp hc => ?_⟩
      refine ⟨p, _, c, rfl, upd_same, by rw [List.length_map] at hc; omega, fun ns p2 up mem _ hp2 => ?_⟩
      refine q p2 ns _ ((e1.trans (Ex.new hp)).trans (Ex.new hp2)) upd_same up fun n => ?_
      rw [mem n, decide_eq_true_eq, List.mem_map]
end
end Fw
namespace Fw
open PySem PySem.Spec PyProof.Rows L2 Evl
section
variable {P : Program} {w : World} {K : PySem.W.Frag} {mg : Str → Option Value} {base : Heap}
/-! want_tastings -/
theorem nd_le : ∀ {l k : List Int}, l.Nodup → (∀ x ∈ l, x ∈ k) → l.length ≤ k.length
  | [], k, _, _ => Nat.zero_le _
  | a :: r, k, n, s => by
    obtain ⟨n1, n2⟩ := List.nodup_cons.mp n
    have ha : a ∈ k := s a List.mem_cons_self
    have h := nd_le (k := k.erase a) n2 fun x hx => (List.mem_erase_of_ne fun z => n1 (by rw [← z]; exact hx)).mpr (s x (List.mem_cons_of_mem a hx))
    rw [List.length_erase_of_mem ha] at h
    have := List.length_pos_of_mem ha
    rw [List.length_cons]
    omega
theorem flat_le (ts : Ts) (i : Nat) : (ts.take i).flatten.length ≤ ts.flatten.length := by
  have e : ts.flatten = (ts.take i).flatten ++ (ts.drop i).flatten := by rw [← List.flatten_append, List.take_append_drop]
  rw [e, List.length_append]
  omega
theorem up_le {ns ms : List Int} (h : ns.Pairwise (· < ·)) (s : ∀ n ∈ ns, n ∈ ms) : ns.length ≤ ms.length := by
  exact nd_le (h.imp fun {a b} z => Int.ne_of_lt z) s
abbrev sWant : Stmt := topS 19
def spWant (K : PySem.W.Frag) : Sp := fun vs H Q _ => ∃ v ts, vs = [v] ∧ Dp K H v (dTs ts) ∧ Good ts ∧ ∀ H1, Ex H H1 → Q .non H1
theorem scWant : FnScope ["tastings", "thing"] ["tastings"] (defScope sWant) := ⟨rfl, rfl, rfl, by decide +kernel, rfl, by decide +kernel, by decide +kernel⟩
theorem c_want (D : Dn K mg "want_tastings" sWant ["tastings"]) (G : Gs mg) (c5 : C8.Cal P w K mg base 5 "is_tasting" (spTasting K) []) (c1 : C8.Cal P w K mg base 1 "breaks_in" (spBreaksIn K) []) : C8.Cal P w K mg base 6 "want_tastings" (spWant K) [] := by
  refine cal_of D scWant (fun vs H Q E h => ?_) (fun f cdv A outer s H vs Q E hr h => ?_)
  · obtain ⟨v, t, rfl, _⟩ := h
    rfl
  · obtain ⟨v, ts, rfl, hv, hg, q⟩ := h
    obtain ⟨a, xs, rfl, ha, hx⟩ := dp_list hv
    obtain ⟨t1, hT⟩ := G.cTastings
    obtain ⟨t2, hB⟩ := G.cBreaks
    have hlen := hx.len
    have ht6 := hg.len
    refine ⟨_, pss_cons (ps_if (PW.pt (pw_and (pt_val (pe_callB call_isi (by rfl) G.zIsinstance (by decide +kernel) (pa_cons (pv 0) (pa_cons (pe_bltn (v := .ty "list") (by rfl) G.zList (by decide +kernel) rfl) pa_nil))))
          (pw_and1 (pt_cmpR op_gt (pe_callB call_len_seq (by rfl) G.zLen PySem.boot_len (pa_cons (pv 0) pa_nil)) (pe_glob (v := .int 10) (by rfl) hT ⟨t1, rfl⟩) (nomark _))))) pss_never pss_nil)
      (pss_cons (ps_if (PW.pt (pw_or (pt_not (pt_val (pe_callB call_isi (by rfl) G.zIsinstance (by decide +kernel) (pa_cons (pv 0) (pa_cons (pe_bltn (v := .ty "list") (by rfl) G.zList (by decide +kernel) rfl) pa_nil)))))
          (pw_or1 (pt_not (pt_val (pe_callB (cr_all rfl) (by rfl) G.zAll (by decide +kernel) (pa_cons
            (pe_lc (own := [("thing", 1)]) (g := gName 1) (tt := tYes) rfl scWant.nd (pi_list (pv 0)) (blkOk_by (N := ["tastings", "thing"]) (sc := defScope sWant) (by decide +kernel)) (fun _ _ _ _ _ => pg_name (i := 1) scWant.nd rfl (Or.inl rfl)) (fun _ _ _ _ _ => pts_nil)
              (fun _ _ _ _ _ => C8.pe_c c5 hr (by decide) (by rfl) (pa_cons (pv 1) pa_nil))) pa_nil))))))) pss_never pss_nil)
      (pss_one (ps_if (pt_cmpR op_gt (pe_callB call_len_seq (by rfl) G.zLen PySem.boot_len (pa_cons (C8.pe_c c1 hr (by decide) (by rfl) (pa_cons (pv 0) pa_nil)) pa_nil)) (pe_glob (v := .int 12) (by rfl) hB ⟨t2, rfl⟩) (nomark _)) pss_never pss_nil))), ?_⟩
    have e0 : Ev (tVar 0) (L2.start ["tastings", "thing"] [V.ref a]) H (.ref a) := ev_var rfl
    refine q_when (b := false) (et_is (et_and (et_B (ev_cb (ea_cons e0 (ea_cons ev_c ea_nil)) (rc_isi (r := true) (fun H1 e => ty_l (ex_l e ha)) (by decide +kernel))))
      fun _ => et_test (ev_op (ev_len e0 ha) ev_c rv_I0)) ?_) (fun z => Bool.noConfusion z) fun _ H1 e1 => ?_
    · rw [decide_eq_false (show ¬ (10 : Int) < (xs.length : Int) by omega)]
      rfl
    refine q_when (b := false) (et_is (et_or (et_not (et_B (ev_cb (ea_cons (e0.mono e1) (ea_cons ev_c ea_nil)) (rc_isi (r := true) (fun H2 e => ty_l (ex_l (e1.trans e) ha)) (by decide +kernel)))))
      fun _ => et_not (et_B (ev_allN (bs := List.replicate xs.length true) ?_))) ?_) (fun z => Bool.noConfusion z) fun _ H2 e2 => ?_
    · rw [← given_bl (n := xs.length)]
      refine el_lcL (fun _ => true) (fun _ => V.bl true) (e0.mono e1) (ex_l e1 ha) (by omega) (fun _ => rfl) (fun i x H1 _ _ => fun H2 _ Q q => q H2 (Ex.refl H2)) fun i x H2 e2 hi _ => ?_
      obtain ⟨g, hg1, hd⟩ := hx.get hi
      refine ev_call (ea_cons (ev_var rfl) ea_nil) fun H3 e3 Q q E => ⟨x, g, rfl, dpx ((e1.trans e2).trans e3) hd, hg.fine g (List.mem_of_getElem? hg1), fun H4 e4 => q H4 e4⟩
    · rw [all_rep]
      rfl
    refine ⟨_, rfl, _, ts, rfl, dpx (e1.trans e2) hv, hg, fun p ns H3 e3 hp up mem => ?_⟩
    obtain ⟨ms, hm1, hm2⟩ := hg.few
    have hle : ns.length ≤ ms.length := up_le up fun n hn => by
      obtain ⟨g, g1, g2⟩ := (mem n).mp hn
      rw [← g2]
      exact hm2 g g1
    refine ⟨p, _, rfl, .inl (sq_of hp), _, _, rfl, rfl, _, rfl, ?_⟩
    rw [decide_eq_false (show ¬ (12 : Int) < (((ns.map V.int).length : Nat) : Int) by rw [List.length_map]; omega)]
    exact iteF (q H3 ((e1.trans e2).trans e3))
/-! bounds_by -/
def dkv (ns : List Int) (f : Int → Int) : List (Key × V) := ns.map fun n => ((Sum.inl n : Key), V.int (f n))
theorem dkv_get {ns : List Int} {f : Int → Int} {n : Int} : valV (dkv ns f) (Sum.inl n : Key) = if n ∈ ns then some (.int (f n)) else none := by
  induction ns with
  | nil => rfl
  | cons a r ih =>
    by_cases e : a = n
    · subst e
      rw [if_pos List.mem_cons_self]
      exact valV_pos rfl
    · have e2 : ¬ ((Sum.inl a : Key) = Sum.inl n) := fun z => e (Sum.inl.inj z)
      show valV (((Sum.inl a : Key), V.int (f a)) :: dkv r f) (Sum.inl n : Key) = _
      rw [valV_neg e2, ih]
      by_cases m : n ∈ r
      · rw [if_pos m, if_pos (List.mem_cons_of_mem a m)]
      · rw [if_neg m, if_neg fun z => by
          rcases List.mem_cons.mp z with z | z
          · exact e z.symm
          · exact m z]
theorem dkv_put {ns : List Int} {f g : Int → Int} {n v : Int} (hv : g n = v) (hg : ∀ m, m ≠ n → g m = f m) : putK (dkv ns f) (Sum.inl n : Key) (.int v) = dkv (if n ∈ ns then ns else ns ++ [n]) g := by
  by_cases m : n ∈ ns
  · rw [if_pos m]
    unfold putK
    rw [valV_any, dkv_get, if_pos m, if_pos (show (some (V.int (f n))).isSome = true from rfl)]
    unfold dkv
    rw [List.map_map]
    refine List.map_congr_left fun a _ => ?_
    show (if (Sum.inl a : Key) = Sum.inl n then ((Sum.inl a : Key), V.int v) else ((Sum.inl a : Key), V.int (f a))) = ((Sum.inl a : Key), V.int (g a))
    by_cases e : a = n
    · rw [if_pos (congrArg Sum.inl e), e, hv]
    · rw [if_neg fun z => e (Sum.inl.inj z), hg a e]
  · rw [if_neg m, putK_new _ (by rw [dkv_get, if_neg m])]
    unfold dkv
    rw [List.map_append]
    have e : ns.map (fun n => ((Sum.inl n : Key), V.int (f n))) = ns.map (fun n => ((Sum.inl n : Key), V.int (g n))) := List.map_congr_left fun a ha => by
      rw [hg a fun z => m (z ▸ ha)]
    rw [e]
    show _ ++ [((Sum.inl n : Key), V.int v)] = _ ++ [((Sum.inl n : Key), V.int (g n))]
    rw [hv]
theorem put_lo {fs : List Fi} {g : Fi} {v : Int} (hv : v = if lo fs g.1 > g.2.1 then lo fs g.1 else g.2.1) : putK (dkv (nms fs) (lo fs)) (Sum.inl g.1 : Key) (.int v) = dkv (nms (fs ++ [g])) (lo (fs ++ [g])) := by
  rw [nms_snoc]
  refine dkv_put ?_ fun m hm => ?_
  · rw [lo_snoc, hv]
    unfold loS
    rw [if_pos rfl]
  · rw [lo_snoc]
    unfold loS
    rw [if_neg fun z => hm z.symm]
theorem put_hi {fs : List Fi} {g : Fi} {v : Int} (hv : v = if hi fs g.1 < g.2.2 then hi fs g.1 else g.2.2) : putK (dkv (nms fs) (hi fs)) (Sum.inl g.1 : Key) (.int v) = dkv (nms (fs ++ [g])) (hi (fs ++ [g])) := by
  rw [nms_snoc]
  refine dkv_put ?_ fun m hm => ?_
  · rw [hi_snoc, hv]
    unfold hiS
    rw [if_pos rfl]
  · rw [hi_snoc]
    unfold hiS
    rw [if_neg fun z => hm z.symm]
theorem get_lo {fs : List Fi} {n : Int} : (valV (dkv (nms fs) (lo fs)) (Sum.inl n : Key)).getD (.int 0) = .int (lo fs n) := by
  rw [dkv_get]
  by_cases m : n ∈ nms fs
  · rw [if_pos m] <;> rfl
  · rw [if_neg m, lo_none m] <;> rfl
theorem get_hi {fs : List Fi} {n : Int} : (valV (dkv (nms fs) (hi fs)) (Sum.inl n : Key)).getD (.int 100) = .int (hi fs n) := by
  rw [dkv_get]
  by_cases m : n ∈ nms fs
  · rw [if_pos m] <;> rfl
  · rw [if_neg m, hi_none m] <;> rfl
theorem nms_len (fs : List Fi) : (nms fs).length ≤ fs.length := by
  have := nd_le (k := fs.map (·.1)) (nd_nms fs) fun n hn => List.mem_map.mpr (mem_nms.mp hn)
  rwa [List.length_map] at this
abbrev sBounds : Stmt := topS 20
def spBounds (K : PySem.W.Frag) : Sp := fun vs H Q _ => ∃ v ts, vs = [v] ∧ Dp K H v (dTs ts) ∧ ts.flatten.length ≤ 1000 ∧
  ∀ (t l h : Addr) H1, Ex H H1 → H1 t = some (.tup [.ref l, .ref h]) → H l = none → H h = none → l ≠ h → H1 l = some (.dK (dkv (nms ts.flatten) (lo ts.flatten))) → H1 h = some (.dK (dkv (nms ts.flatten) (hi ts.flatten))) → Q (.ref t) H1
theorem scBounds : FnScope ["tastings", "lows", "highs", "tasting", "number", "low", "high"] ["tastings"] (defScope sBounds) := ⟨rfl, rfl, rfl, by decide +kernel, rfl, by decide +kernel, by decide +kernel⟩
theorem c_bounds (D : Dn K mg "bounds_by" sBounds ["tastings"]) (G : Gs mg) : C8.Cal P w K mg base 1 "bounds_by" (spBounds K) [] := by
  refine cal_of D scBounds (fun vs H Q E h => ?_) (fun f cdv A outer s H vs Q E hr h => ?_)
  · obtain ⟨v, t, rfl, _⟩ := h
    rfl
  · obtain ⟨v, ts, rfl, hv, hz, q⟩ := h
    obtain ⟨a, xs, rfl, ha, hx⟩ := dp_list hv
    obtain ⟨t1, hS⟩ := G.cScore
    have hu := hu_of hr
    have hlen := hx.len
    refine ⟨_, pss_cons (ps_set (i := 1) scBounds.nd rfl (.inl rfl) pe_dnewK)
      (pss_cons (ps_set (i := 2) scBounds.nd rfl (.inl rfl) pe_dnewK)
      (pss_cons (ps_for PassesOwn.never rfl (pi_list (pv 0)) (pg_name (i := 3) scBounds.nd rfl (.inl rfl))
        (pss_one (ps_for PassesOwn.never rfl (pi_list (pv 3)) (pg_tup rfl (pgs_cons (pg_name (i := 4) scBounds.nd rfl (Or.inl rfl)) (pgs_cons (pg_name (i := 5) scBounds.nd rfl (Or.inl rfl)) (pgs_cons (pg_name (i := 6) scBounds.nd rfl (Or.inl rfl)) pgs_nil))))
          (pss_cons (ps_dput hu (pv 1) (pv 4) (pe_callB (call_max2 rfl) (by rfl) G.zMax (by decide +kernel) (pa_cons (pv 5) (pa_cons (pe_dget2 hu (pv 1) (pv 4) pe_int ⟨rfl, rfl, rfl, rfl⟩) pa_nil))) rfl)
          (pss_one (ps_dput hu (pv 2) (pv 4) (pe_callB (call_min2 rfl) (by rfl) G.zMin (by decide +kernel) (pa_cons (pv 6) (pa_cons (pe_dget2 hu (pv 2) (pv 4) (pe_glob (v := .int 100) (by rfl) hS ⟨t1, rfl⟩) ⟨rfl, rfl, rfl, rfl⟩) pa_nil))) rfl))))))
      (pss_one (ps_ret (pe_tup (pa_cons (pv 1) (pa_cons (pv 2) pa_nil))))))), ?_⟩
    intro l hl h hh
    have nlh : l ≠ h := fun z => by
      rw [← z, upd_same] at hh
      cases hh
    have hh0 : H h = none := none_of (Ex.new hl) hh
    refine ⟨_, rfl, a, rfl, ⟨_, ex_l ((Ex.new hl).trans (Ex.new hh)) ha⟩, ?_⟩
    refine for_list (xs := xs) (fun i σ H1 => ∃ x3 x4 x5 x6, σ = [some (V.ref a), some (V.ref l), some (V.ref h), x3, x4, x5, x6] ∧ Ex H H1 ∧
        H1 l = some (.dK (dkv (nms (ts.take i).flatten) (lo (ts.take i).flatten))) ∧ H1 h = some (.dK (dkv (nms (ts.take i).flatten) (hi (ts.take i).flatten))))
      ⟨none, none, none, none, rfl, (Ex.new hl).trans (Ex.new hh), by rw [upd_ne nlh, upd_same] <;> rfl, by rw [upd_same] <;> rfl⟩ (fun i σ H1 _ p => by obtain ⟨_, _, _, _, _, e, _⟩ := p; exact ex_l e ha) ?_ ?_
    · rintro i x σ H1 hxi ⟨x3, x4, x5, x6, rfl, e1, hl1, hh1⟩
      obtain ⟨t, ht, hd⟩ := hx.get hxi
      obtain ⟨b, ys, rfl, hb, hy⟩ := dp_list hd
      have hft : (ts.take (i + 1)).flatten.length ≤ 1000 := Nat.le_trans (flat_le ts _) hz
      rw [flat_take ht, List.length_append] at hft
      have hyl := hy.len
      refine ⟨_, rfl, b, rfl, ⟨_, ex_l e1 hb⟩, ?_⟩
      refine for_list (xs := ys) (fun j σ H2 => ∃ x4 x5 x6, σ = [some (V.ref a), some (V.ref l), some (V.ref h), some (V.ref b), x4, x5, x6] ∧ Ex H H2 ∧
          H2 l = some (.dK (dkv (nms ((ts.take i).flatten ++ t.take j)) (lo ((ts.take i).flatten ++ t.take j)))) ∧ H2 h = some (.dK (dkv (nms ((ts.take i).flatten ++ t.take j)) (hi ((ts.take i).flatten ++ t.take j)))))
        ⟨x4, x5, x6, rfl, e1, by rw [List.take_zero, List.append_nil]; exact hl1, by rw [List.take_zero, List.append_nil]; exact hh1⟩ (fun j σ H2 _ p => by obtain ⟨_, _, _, _, e, _⟩ := p; exact ex_l e hb) ?_ ?_
      · rintro j y σ H2 hj ⟨y4, y5, y6, rfl, e2, hl2, hh2⟩
        obtain ⟨g, hg1, hd1⟩ := hy.get hj
        obtain ⟨c, rfl, hc⟩ := dp_fi hd1
        have hjl := (List.getElem?_eq_some_iff.mp hg1).1
        have hzz : (nms ((ts.take i).flatten ++ t.take j)).length ≤ 1000 := by
          refine Nat.le_trans (nms_len _) ?_
          rw [List.length_append, List.length_take]
          omega
        have hdl : ∀ f, (dkv (nms ((ts.take i).flatten ++ t.take j)) f).length < sizeLine := fun f => by
          unfold dkv
          rw [List.length_map]
          exact small1000 hzz
        refine ⟨c, _, rfl, ex_t e2 hc, rfl, _, _, rfl, _, _, rfl, _, _, rfl, rfl, ?_⟩
        have et : t.take (j + 1) = t.take j ++ [g] := by rw [List.take_add_one, hg1] <;> rfl
        refine ⟨_, rfl, _, rfl, l, rfl, .inl ⟨_, .inl hl2⟩, _, rfl, _, DGet.k (k := Sum.inl g.1) hl2, _, _, congrArg (fun z => [V.int g.2.1, z]) get_lo, _, rfl, _, rfl, l, _, rfl, DPut.k (k := Sum.inl g.1) hl2 (hdl _), ?_⟩
        have hh3 : ∀ o, (upd H2 l o) h = some (.dK (dkv (nms ((ts.take i).flatten ++ t.take j)) (hi ((ts.take i).flatten ++ t.take j)))) := fun o => by
          rw [upd_ne fun z => nlh z.symm]
          exact hh2
        refine ⟨_, rfl, _, rfl, h, rfl, .inl ⟨_, .inl (hh3 _)⟩, _, rfl, _, DGet.k (k := Sum.inl g.1) (hh3 _), _, _, congrArg (fun z => [V.int g.2.2, z]) get_hi, _, rfl, _, rfl, h, _, rfl, DPut.k (k := Sum.inl g.1) (hh3 _) (hdl _), ?_⟩
        refine ⟨_, _, _, rfl, (e2.mut hl).mut hh0, ?_, ?_⟩
        · rw [upd_ne nlh, upd_same, et, ← List.append_assoc]
          exact congrArg (fun z => some (HO.dK z)) (put_lo rfl)
        · rw [upd_same, et, ← List.append_assoc]
          exact congrArg (fun z => some (HO.dK z)) (put_hi rfl)
      · rintro σ H2 ⟨y4, y5, y6, rfl, e2, hl2, hh2⟩
        rw [hyl, List.take_length, ← flat_take ht] at hl2 hh2
        exact ⟨_, y4, y5, y6, rfl, e2, hl2, hh2⟩
    · rintro σ H1 ⟨x3, x4, x5, x6, rfl, e1, hl1, hh1⟩
      rw [hlen, List.take_length] at hl1 hh1
      refine ⟨_, rfl, _, rfl, by show 2 ≤ sizeLine; decide, fun t nt => ?_⟩
      refine q t l h _ (e1.trans (Ex.new nt)) upd_same hl hh0 nlh ?_ ?_
      · exact Ex.new nt _ _ hl1
      · exact Ex.new nt _ _ hh1
end
end Fw
namespace Fw
theorem fm_len {α β : Type} {f : α → List β} {m : Nat} : ∀ {l : List α}, (∀ a ∈ l, (f a).length ≤ m) → (l.flatMap f).length ≤ l.length * m
  | [], _ => by simp
  | a :: l, h => by
    have h1 := h a List.mem_cons_self
    have h2 := fm_len (l := l) fun b hb => h b (List.mem_cons_of_mem a hb)
    rw [List.flatMap_cons, List.length_append, List.length_cons, Nat.add_mul]
    omega
theorem fm_nd {f : Int → List (Int × Int)} (hf : ∀ a, (f a).Nodup) (hk : ∀ a p, p ∈ f a → p.1 = a) : ∀ {l : List Int}, l.Nodup → (l.flatMap f).Nodup
  | [], _ => by simp
  | a :: l, h => by
    obtain ⟨h1, h2⟩ := List.nodup_cons.mp h
    rw [List.flatMap_cons]
    refine List.nodup_append.mpr ⟨hf a, fm_nd hf hk h2, fun p hp q hq e => ?_⟩
    obtain ⟨b, hb, m⟩ := List.mem_flatMap.mp hq
    have e1 := hk a p hp
    have e2 := hk b q m
    rw [← e, e1] at e2
    rw [e2] at h1
    exact h1 hb
/-- the pairs as the program finds them -/
def rowP (N : List Int) (l h : Int → Int) (a : Int) : List (Int × Int) := (N.filter fun b => decide (b ≠ a) && decide (h a < l b)).map fun b => (a, b)
def pp (N : List Int) (l h : Int → Int) (M : List Int) : List (Int × Int) := M.flatMap (rowP N l h)
theorem mem_rowP {N : List Int} {l h : Int → Int} {a : Int} {p : Int × Int} : p ∈ rowP N l h a ↔ p.1 = a ∧ p.2 ∈ N ∧ p.2 ≠ a ∧ h a < l p.2 := by
  unfold rowP
  simp only [List.mem_map, List.mem_filter, Bool.and_eq_true, decide_eq_true_eq]
  constructor
  · rintro ⟨b, ⟨h1, h2, h3⟩, rfl⟩; exact ⟨rfl, h1, h2, h3⟩
  · rintro ⟨rfl, h1, h2, h3⟩; exact ⟨p.2, ⟨h1, h2, h3⟩, rfl⟩
theorem rowP_len (N : List Int) (l h : Int → Int) (a : Int) : (rowP N l h a).length ≤ N.length := by
  unfold rowP
  rw [List.length_map]
  exact List.length_filter_le _ _
theorem rowP_nd {N : List Int} (l h : Int → Int) (u : N.Nodup) (a : Int) : (rowP N l h a).Nodup := by
  unfold rowP
  refine List.pairwise_map.mpr ((u.filter _).imp fun {x y} z e => z (congrArg Prod.snd e))
theorem pp_nd {N M : List Int} (l h : Int → Int) (u : N.Nodup) (v : M.Nodup) : (pp N l h M).Nodup := fm_nd (fun a => rowP_nd l h u a) (fun a p m => (mem_rowP.mp m).1) v
theorem mem_pp {N M : List Int} {l h : Int → Int} {p : Int × Int} : p ∈ pp N l h M ↔ p.1 ∈ M ∧ p.2 ∈ N ∧ p.2 ≠ p.1 ∧ h p.1 < l p.2 := by
  unfold pp
  rw [List.mem_flatMap]
  constructor
  · rintro ⟨a, ha, m⟩
    obtain ⟨rfl, h1, h2, h3⟩ := mem_rowP.mp m
    exact ⟨ha, h1, h2, h3⟩
  · rintro ⟨h0, h1, h2, h3⟩; exact ⟨p.1, h0, mem_rowP.mpr ⟨rfl, h1, h2, h3⟩⟩
theorem pp_R {ts : Ts} {c : List Nat} (hf : ∀ f ∈ ts.flatten, Fine f) {p : Int × Int} : p ∈ pp (nms (flat ts c)) (lo (flat ts c)) (hi (flat ts c)) (nms (flat ts c)) ↔ p ∈ R ts c := by
  have sub : ∀ n, n ∈ nms (flat ts c) → n ∈ Sn ts := fun n hn => by
    obtain ⟨f, h1, h2⟩ := mem_nms.mp hn
    exact mem_Sn.mpr ⟨f, flat_mem h1, h2⟩
  have fine : ∀ f ∈ flat ts c, Fine f := fun f h => hf f (flat_mem h)
  unfold R
  rw [mem_pp, mem_rkS]
  constructor
  · rintro ⟨h1, h2, h3, h4⟩; exact ⟨sub _ h1, sub _ h2, h4, h3⟩
  · rintro ⟨h1, h2, h3, h4⟩
    refine ⟨?_, ?_, h4, h3⟩
    · by_cases m : p.1 ∈ nms (flat ts c)
      · exact m
      · have a := hi_none m
        have b := lo_le fine p.2
        omega
    · by_cases m : p.2 ∈ nms (flat ts c)
      · exact m
      · have a := lo_none m
        have b := hi_ge fine p.1
        omega
theorem range_get {α : Type} (l : List α) (d : α) : (List.range l.length).map (fun i => l.getD i d) = l := by
  refine List.ext_getElem? fun i => ?_
  rw [List.getElem?_map]
  by_cases h : i < l.length
  · rw [List.getElem?_range h, List.getElem?_eq_getElem h]
    show some (l.getD i d) = some l[i]
    rw [List.getD_eq_getElem?_getD, List.getElem?_eq_getElem h] <;> rfl
  · rw [List.getElem?_eq_none (by rw [List.length_range]; omega), List.getElem?_eq_none (by omega)] <;> rfl
theorem filter_get {α : Type} (l : List α) (d : α) (g : α → Bool) : ((List.range l.length).filter fun i => g (l.getD i d)).map (fun i => l.getD i d) = l.filter g := by
  have h := List.filter_map (p := g) (f := fun i => l.getD i d) (l := List.range l.length)
  rw [range_get] at h
  exact h.symm
end Fw
namespace Fw
open PySem PySem.Spec PyProof.Rows L2 Evl
theorem sorted_R {ts : Ts} {c : List Nat} {L : List (Int × Int)} (hf : ∀ f ∈ ts.flatten, Fine f) (p : L.Perm (pp (nms (flat ts c)) (lo (flat ts c)) (hi (flat ts c)) (nms (flat ts c)))) (s : L.Pairwise fun x y => SrtO.lexB y x = false) : L = R ts c := by
  have nd : L.Nodup := p.nodup_iff.mpr (pp_nd _ _ (nd_nms _) (nd_nms _))
  refine pair_up ((s.and nd).imp fun {x y} z => ?_) (R_up ts c) fun q => by rw [p.mem_iff]; exact pp_R hf
  have a := SrtO.lexB_no.mp z.1
  have b : ¬ (x.1 = y.1 ∧ x.2 = y.2) := fun e => z.2 (Prod.ext e.1 e.2)
  unfold plt
  omega
/-- the pair that a value names -/
def prAt (H : Hp) (v : V) : Int × Int := match v with
  | .ref t => match H t with
    | some (.tup [.int i, .int j]) => (i, j)
    | _ => (0, 0)
  | _ => (0, 0)
theorem prAt_of {H : Hp} {t : Addr} {p : Int × Int} (h : H t = some (.tup [.int p.1, .int p.2])) : prAt H (.ref t) = p := by
  show (match H t with
    | some (.tup [.int i, .int j]) => (i, j)
    | _ => (0, 0)) = p
  rw [h]
/-- a tuple of two ints laid in the heap -/
def Pl (G : Hp) (v : V) (p : Int × Int) : Prop := ∃ t, v = .ref t ∧ G t = some (.tup [.int p.1, .int p.2])
theorem Pl.ex {G G1 : Hp} {v : V} {p : Int × Int} (e : Ex G G1) (h : Pl G v p) : Pl G1 v p := by
  obtain ⟨t, rfl, h⟩ := h
  exact ⟨t, rfl, e _ _ h⟩
theorem All2.map' {α β : Type} {F : V → β → Prop} {m : α → β} {xs : List V} {l : List α} (h : All2 (fun v j => F v (m j)) xs l) : All2 F xs (l.map m) := by
  refine ⟨by rw [h.len, List.length_map], fun i x a h1 h2 => ?_⟩
  rw [List.getElem?_map] at h2
  cases e : l[i]? with
  | none => rw [e] at h2; cases h2
  | some z =>
    rw [e] at h2
    cases h2
    exact h.at_ i x z h1 e
section
variable {P : Program} {w : World} {K : PySem.W.Frag} {mg : Str → Option Value} {base : Heap}
theorem Pl.dp {G : Hp} {v : V} {p : Int × Int} (h : Pl G v p) : Dp K G v (dPr p) := by
  obtain ⟨t, rfl, h⟩ := h
  exact pr_dp (st_of h)
abbrev sPairs : Stmt := topS 21
def spPairs (K : PySem.W.Frag) : Sp := fun vs H Q _ => ∃ v1 v2 ts c, vs = [v1, v2] ∧ Dp K H v1 (dTs ts) ∧ Dp K H v2 (dCh c) ∧ Good ts ∧ (∀ k ∈ c, k < ts.length) ∧ c.length ≤ 6 ∧
  ∀ (p : Addr) H1, Ex H H1 → H p = none → Nw K H H1 (.ref p) (dPs (R ts c)) → Q (.ref p) H1
theorem scPairs : FnScope ["tastings", "chosen", "lows", "highs", "found", "one", "high", "k", "other", "low"] ["tastings", "chosen"] (defScope sPairs) := ⟨rfl, rfl, rfl, by decide +kernel, rfl, by decide +kernel, by decide +kernel⟩
theorem flat_map (ts : Ts) (c : List Nat) : flat ts c = (c.map fun k => ts.getD k []).flatten := by
  unfold flat
  rw [List.flatMap_def]
theorem flat_fine {ts : Ts} (hg : Good ts) : ∀ f ∈ ts.flatten, Fine f := fun f hf => by
  obtain ⟨t, ht, m⟩ := List.mem_flatten.mp hf
  exact (hg.fine t ht).fine f m
theorem getD_len {ts : Ts} (hg : Good ts) (k : Nat) : (ts.getD k []).length ≤ 6 := by
  rw [List.getD_eq_getElem?_getD]
  cases e : ts[k]? with
  | none => exact Nat.zero_le _
  | some t => exact (hg.fine t (List.mem_of_getElem? e)).len
theorem flat_len6 {ts : Ts} {c : List Nat} (hg : Good ts) (hc : c.length ≤ 6) : (flat ts c).length ≤ 36 :=
  Nat.le_trans (fm_len (m := 6) fun k _ => getD_len hg k) (by omega)
theorem c_pairs (D : Dn K mg "pairs_of" sPairs ["tastings", "chosen"]) (G : Gs mg) (c1 : C8.Cal P w K mg base 1 "bounds_by" (spBounds K) []) : C8.Cal P w K mg base 2 "pairs_of" (spPairs K) [] := by
  refine cal_of D scPairs (fun vs H Q E h => ?_) (fun f cdv A outer s H vs Q E hr h => ?_)
  · obtain ⟨v1, v2, t, c, rfl, _⟩ := h
    rfl
  · obtain ⟨v1, v2, ts, c, rfl, hv1, hv2, hg, hk, hc6, q⟩ := h
    obtain ⟨a, xs, rfl, ha, hx⟩ := dp_list hv1
    obtain ⟨b, rfl, hb⟩ := dp_ch hv2
    have hlen := hx.len
    refine ⟨_, pss_cons (ps_asg (C8.pe_c c1 hr (by decide) (by rfl) (pa_cons
        (pe_lc (own := [("k", 7)]) (g := gName 7) (tt := tYes) rfl scPairs.nd (pi_list (pv 1)) (blkOk_by (N := ["tastings", "chosen", "lows", "highs", "found", "one", "high", "k", "other", "low"]) (sc := defScope sPairs) (by decide +kernel))
          (fun _ _ _ _ _ => pg_name (i := 7) scPairs.nd rfl (Or.inl rfl)) (fun _ _ _ _ _ => pts_nil) (fun _ _ _ _ _ => pe_ix (r := rIxL K) ix_list (pv 0) (pv 7) (fun _ _ => rfl))) pa_nil))
        (pg_tup rfl (pgs_cons (pg_name (i := 2) scPairs.nd rfl (.inl rfl)) (pgs_cons (pg_name (i := 3) scPairs.nd rfl (.inl rfl)) pgs_nil))))
      (pss_cons (ps_set (i := 4) scPairs.nd rfl (.inl rfl) (pe_lst pa_nil))
      (pss_cons (ps_lock (ps_for PassesOwn.never rfl (pi_items (pv 3)) (pg_tup rfl (pgs_cons (pg_name (i := 5) scPairs.nd rfl (.inr rfl)) (pgs_cons (pg_name (i := 6) scPairs.nd rfl (.inr rfl)) pgs_nil)))
        (pss_one (ps_expr (pe_bm PySem.F.plainAttrs_list PySem.F.slot_list_extend PySem.F.type_list_extend mt_extend (pv 4) (pa_cons
          (pe_lock (pe_lc (own := [("other", 8), ("low", 9)]) (g := gTup K 2 (gCons (gName 8) (gCons (gName 9) gNil))) rfl scPairs.nd (pi_items (pv 2))
            (blkOk_by (N := ["tastings", "chosen", "lows", "highs", "found", "one", "high", "k", "other", "low"]) (sc := defScope sPairs) (by decide +kernel))
            (fun _ _ _ _ _ => pg_tup rfl (pgs_cons (pg_name (i := 8) scPairs.nd rfl (Or.inl rfl)) (pgs_cons (pg_name (i := 9) scPairs.nd rfl (Or.inl rfl)) pgs_nil)))
            (fun _ _ _ _ _ => pts_one (PW.pt (pw_and (pt_cmpR op_ne (pv 8) (pv 5) (nomark _)) (pw_and1 (pt_cmpR op_lt (pv 6) (pv 9) (nomark _))))))
            (fun _ _ _ _ _ => pe_tup (pa_cons (pv 5) (pa_cons (pv 8) pa_nil))))) pa_nil))))))
      (pss_one (ps_ret (pe_callB cr_sortedPO (by rfl) G.zSorted (by decide +kernel) (pa_cons (pv 4) pa_nil)))))), ?_⟩
    -- the chosen tastings
    refine ⟨_, rfl, b, rfl, ⟨_, hb⟩, fun p hp => ?_⟩
    refine lc_val (K := K) (walk_list (xs := c.map vN)) (fun _ => true) (fun j => xs.getD (c.getD j 0) .non) hp (by rw [List.length_map]; omega) (fun H2 e2 => ex_l e2 hb) ?_ ?_
    · rintro j y H2 H2' hj e2 ⟨rfl, hyj⟩ A B _ hB
      rw [List.length_map] at hj
      rw [List.getElem?_map, List.getElem?_eq_getElem hj] at hyj
      cases hyj
      have hk1 : c[j] < xs.length := by rw [hlen]; exact hk _ (List.getElem_mem hj)
      refine ⟨rfl, _, rfl, _, rfl, a, xs, (c[j] : Int), xs[c[j]], rfl, rfl, ex_l e2 ha, atI_nat (List.getElem?_eq_getElem hk1), ?_⟩
      have := hB rfl H2' (Ex.refl _)
      rw [List.getD_eq_getElem?_getD, List.getD_eq_getElem?_getD, List.getElem?_eq_getElem hj] at this
      have e3 : (some c[j]).getD 0 = c[j] := rfl
      rw [e3, List.getElem?_eq_getElem hk1] at this
      exact this
    intro H1 e1 h1
    have hys : given (c.map vN).length (fun _ => true) (fun j => xs.getD (c.getD j 0) .non) = c.map fun k => xs.getD k .non := given_map (by rw [List.length_map]) fun j z hz => by
      rw [List.getD_eq_getElem?_getD (l := c), hz] <;> rfl
    rw [hys] at h1
    have hsel : Dp K H1 (.ref p) (dTs (c.map fun k => ts.getD k [])) := by
      refine dp_mk (sq_of h1) ⟨by rw [List.length_map, List.length_map], fun i x t hi1 ht1 => ?_⟩
      rw [List.getElem?_map] at hi1 ht1
      cases ec : c[i]? with
      | none => rw [ec] at hi1; cases hi1
      | some k =>
        rw [ec] at hi1 ht1
        have hkl := hk k (List.mem_of_getElem? ec)
        have g1 : xs[k]? = some (xs[k]'(by omega)) := List.getElem?_eq_getElem _
        have g2 : ts[k]? = some ts[k] := List.getElem?_eq_getElem hkl
        have f1 : xs.getD k .non = x := Option.some.inj hi1
        have f2 : ts.getD k [] = t := Option.some.inj ht1
        rw [List.getD_eq_getElem?_getD, g1] at f1
        rw [List.getD_eq_getElem?_getD, g2] at f2
        refine dpx e1 (hx.at_ k x t ?_ ?_)
        · rw [g1]; exact congrArg some f1
        · rw [g2]; exact congrArg some f2
    refine ⟨_, _, rfl, hsel, ?_, ?_⟩
    · rw [← flat_map]
      have := flat_len6 hg hc6
      omega
    rw [← flat_map]
    intro t l h H2 e2 ht hl hh nlh hl2 hh2
    have hl0 : H l = none := none_of e1 hl
    have hh0 : H h = none := none_of e1 hh
    refine ⟨t, _, rfl, st_of ht, rfl, _, _, rfl, _, _, rfl, rfl, ?_⟩
    -- found = []
    refine ⟨Nat.zero_le _, fun o no => ?_⟩
    have nol : o ≠ l := fun z => by rw [z, hl2] at no; cases no
    have noh : o ≠ h := fun z => by rw [z, hh2] at no; cases no
    have no0 : H o = none := none_of (e1.trans e2) no
    refine ⟨h, .dK (dkv (nms (flat ts c)) (hi (flat ts c))), by rw [upd_ne noh.symm]; exact hh2, trivial, fun od => ?_⟩
    refine ⟨_, rfl, h, od, _, rfl, upd_same, ?_⟩
    refine for_it (walk_items (kvs := dkv (nms (flat ts c)) (hi (flat ts c)))) (fun i σ H3 => ∃ x5 x6 ys, σ = [some (V.ref a), some (V.ref b), some (V.ref l), some (V.ref h), some (V.ref o), x5, x6, none, none, none] ∧ Ex H H3 ∧
        H3 l = some (.dK (dkv (nms (flat ts c)) (lo (flat ts c)))) ∧ H3 h = some (.frz od (.dK (dkv (nms (flat ts c)) (hi (flat ts c))))) ∧ H3 o = some (.lst ys) ∧
        All2 (fun v p => v ≠ .ref o ∧ Pl (fr H H3) v p) ys (pp (nms (flat ts c)) (lo (flat ts c)) (hi (flat ts c)) ((nms (flat ts c)).take i)))
      ⟨none, none, [], rfl, ((e1.trans e2).trans (Ex.new no)).mut hh0, by rw [upd_ne nlh, upd_ne nol.symm]; exact hl2, upd_same, by rw [upd_ne noh, upd_same], by rw [List.take_zero]; exact .nil⟩
      (fun i σ H3 _ p => by obtain ⟨_, _, _, _, _, _, z, _⟩ := p; exact z) ?_ ?_
    · rintro i x σ H3 H4 hil ⟨x5, x6, ys, rfl, e3, hl3, hh3, ho3, hys3⟩ ⟨T, v1, v2, rfl, nT, rfl, g1, g2⟩
      have hn : i < (nms (flat ts c)).length := by
        unfold dkv at hil
        rw [List.length_map] at hil
        exact hil
      generalize hN : nms (flat ts c) = N at *
      generalize hlo : lo (flat ts c) = lw at *
      generalize hhi : hi (flat ts c) = hw at *
      have gd : (dkv N hw)[i]? = some ((Sum.inl N[i] : Key), V.int (hw N[i])) := by
        unfold dkv
        rw [List.getElem?_map, List.getElem?_eq_getElem hn] <;> rfl
      have g1' : (dkv N hw)[i]?.map (fun kv => kV kv.1) = some v1 := g1
      have g2' : (dkv N hw)[i]?.map Prod.snd = some v2 := g2
      rw [gd] at g1' g2'
      cases g1'; cases g2'
      have nTl : l ≠ T := ne_of_none hl3 nT
      have nTh : h ≠ T := ne_of_none hh3 nT
      have nTo : o ≠ T := ne_of_none ho3 nT
      have eN : (dkv N lw).length = N.length := by
        unfold dkv
        rw [List.length_map]
      have N36 : N.length ≤ 36 := by
        rw [← hN]
        exact Nat.le_trans (nms_len _) (flat_len6 hg hc6)
      refine ⟨T, _, rfl, st_of upd_same, rfl, _, _, rfl, _, _, rfl, rfl, ?_⟩
      refine ⟨_, rfl, .inl ⟨rfl, _, sq_of (show upd H3 T _ o = some (.lst ys) by rw [upd_ne nTo]; exact ho3)⟩, ?_⟩
      refine ⟨l, .dK (dkv N lw), by rw [upd_ne nTl]; exact hl3, trivial, fun od2 => ?_⟩
      refine ⟨_, rfl, l, od2, _, rfl, upd_same, fun Dd hD => ?_⟩
      refine lc_new (K := K) (walk_items (kvs := dkv N lw)) (fun j => decide (N.getD j 0 ≠ N[i]) && decide (hw N[i] < lw (N.getD j 0))) (fun G v j => Pl G v (N[i], N.getD j 0)) hD (by omega) (fun H5 e5 => e5 _ _ upd_same) (fun _ _ _ _ e z => z.ex e) ?_ ?_
      · rintro j x H5 H5' hj e5 ⟨T2, u1, u2, rfl, nT2, rfl, g3, g4⟩ A B hA hB
        rw [eN] at hj
        have gd2 : (dkv N lw)[j]? = some ((Sum.inl N[j] : Key), V.int (lw N[j])) := by
          unfold dkv
          rw [List.getElem?_map, List.getElem?_eq_getElem hj] <;> rfl
        have g3' : (dkv N lw)[j]?.map (fun kv => kV kv.1) = some u1 := g3
        have g4' : (dkv N lw)[j]?.map Prod.snd = some u2 := g4
        rw [gd2] at g3' g4'
        cases g3'; cases g4'
        have en : N.getD j 0 = N[j] := by rw [List.getD_eq_getElem?_getD, List.getElem?_eq_getElem hj] <;> rfl
        rw [en] at hA hB
        refine ⟨T2, _, rfl, st_of upd_same, rfl, _, _, rfl, _, _, rfl, rfl, rfl, ?_⟩
        refine ⟨_, rfl, _, rfl, rfl, _, rfl, ?_⟩
        by_cases c1 : N[j] = N[i]
        · have ec : (!decide (V.int N[j] = V.int N[i])) = false := by rw [c1]; simp
          show if (!decide (V.int N[j] = V.int N[i])) = true then _ else _
          rw [ec]
          refine iteF (iteF (hA ?_ _ (Ex.new nT2)))
          rw [decide_eq_false (show ¬ (N[j] ≠ N[i]) from fun z => z c1)]
          rfl
        · have ec : (!decide (V.int N[j] = V.int N[i])) = true := by
            rw [decide_eq_false fun z => c1 (V.int.inj z)]
            rfl
          show if (!decide (V.int N[j] = V.int N[i])) = true then _ else _
          rw [ec]
          refine iteT ⟨_, rfl, _, rfl, _, _, rfl, rfl, _, rfl, ?_⟩
          refine ite2 (fun c2 => ?_) (fun c2 => ?_)
          · refine ⟨_, rfl, _, rfl, by show 2 ≤ sizeLine; decide, fun t nt => hB ?_ _ _ ((Ex.new nT2).trans (Ex.new nt)) ⟨t, rfl, ?_⟩⟩
            · rw [decide_eq_true (show N[j] ≠ N[i] from c1)]
              exact c2
            · rw [fr_at (none_of (Ex.new nT2) nt), upd_same]
              rfl
          · refine hA ?_ _ (Ex.new nT2)
            rw [decide_eq_true (show N[j] ≠ N[i] from c1)]
            exact Bool.eq_false_iff.mpr c2
      · intro H5 zs e5 hz hzs
        have eG : Ex H (upd (upd H3 T (.tup [kV (Sum.inl N[i]), .int (hw N[i])])) l (.frz od2 (.dK (dkv N lw)))) := (e3.trans (Ex.new nT)).mut hl0
        have G3 : ∀ b u, b ≠ l → H3 b = some u → H5 b = some u := fun b u n z => e5 _ _ (by rw [upd_ne n]; exact (Ex.new nT) _ _ z)
        have ho5 : H5 o = some (.lst ys) := G3 _ _ nol ho3
        have nDl : Dd ≠ l := fun z => by rw [z, upd_same] at hD; cases hD
        have nDo : Dd ≠ o := fun z => by
          rw [z, upd_ne nol, (Ex.new nT) _ _ ho3] at hD
          cases hD
        have zl : zs.length ≤ 36 := by
          rw [hzs.len]
          refine Nat.le_trans (List.length_filter_le _ _) ?_
          rw [List.length_range]
          omega
        have yl : ys.length ≤ 2000 := by
          rw [hys3.len]
          refine Nat.le_trans (fm_len (m := 36) fun a _ => Nat.le_trans (rowP_len _ _ _ _) N36) ?_
          rw [List.length_take]
          omega
        refine ⟨e5 _ _ upd_same, o, Dd, ys, zs, rfl, rfl, by rw [upd_ne nol]; exact ho5, by rw [upd_ne nDl]; exact hz, sz_of (by omega), ?_⟩
        refine ⟨_, _, ys ++ zs, rfl, ((eG.trans e5).mut hl0).mut no0, by rw [upd_ne nol.symm, upd_same], by rw [upd_ne noh.symm, upd_ne nlh.symm]; exact G3 _ _ nlh.symm hh3, upd_same, ?_⟩
        have er : pp N lw hw (N.take (i + 1)) = pp N lw hw (N.take i) ++ rowP N lw hw N[i] := by
          unfold pp
          rw [List.take_add_one, List.getElem?_eq_getElem hn, List.flatMap_append]
          simp
        have er2 : rowP N lw hw N[i] = ((List.range (dkv N lw).length).filter fun j => decide (N.getD j 0 ≠ N[i]) && decide (hw N[i] < lw (N.getD j 0))).map fun j => (N[i], N.getD j 0) := by
          unfold rowP
          rw [eN, ← filter_get N 0 (fun b => decide (b ≠ N[i]) && decide (hw N[i] < lw b)), List.map_map]
          rfl
        rw [er, er2]
        refine All2.app (hys3.mono fun v p z => ⟨z.1, ?_⟩) (All2.map' (hzs.mono fun v j z => ?_))
        · obtain ⟨t, rfl, ht⟩ := z.2
          obtain ⟨n1, n2⟩ := fr_in ht
          have m1 : t ≠ o := fun y => z.1 (by rw [y])
          have m2 : t ≠ l := fun y => by rw [y, hl3] at n2; cases n2
          refine ⟨t, rfl, ?_⟩
          rw [fr_at n1, upd_ne m1, upd_ne m2]
          exact G3 _ _ m2 n2
        · obtain ⟨t, rfl, ht⟩ := z
          obtain ⟨n1, n2⟩ := fr_in ht
          have n3 := none_of (Ex.new hD) n1
          have m1 : t ≠ o := fun y => by
            rw [y, upd_ne nol, (Ex.new nT) _ _ ho3] at n3
            cases n3
          have m2 : t ≠ l := fun y => by rw [y, upd_same] at n3; cases n3
          refine ⟨fun y => m1 (V.ref.inj y), t, rfl, ?_⟩
          rw [fr_at (none_of eG n3), upd_ne m1, upd_ne m2]
          exact n2
    · rintro σ H3 ⟨x5, x6, ys, rfl, e3, hl3, hh3, ho3, hys3⟩
      have eN : (dkv (nms (flat ts c)) (hi (flat ts c))).length = (nms (flat ts c)).length := by
        unfold dkv
        rw [List.length_map]
      rw [eN, List.take_length] at hys3
      refine ⟨hh3, ?_⟩
      have ho4 : upd H3 h (.dK (dkv (nms (flat ts c)) (hi (flat ts c)))) o = some (.lst ys) := by rw [upd_ne noh]; exact ho3
      have hp : All2 (Pl (fr H (upd H3 h (.dK (dkv (nms (flat ts c)) (hi (flat ts c))))))) ys (pp (nms (flat ts c)) (lo (flat ts c)) (hi (flat ts c)) (nms (flat ts c))) := hys3.mono fun v p z => by
        obtain ⟨t, rfl, ht⟩ := z.2
        obtain ⟨n1, n2⟩ := fr_in ht
        have m2 : t ≠ h := fun y => by rw [y, hh3] at n2; cases n2
        refine ⟨t, rfl, ?_⟩
        rw [fr_at n1, upd_ne m2]
        exact n2
      have e4 : Ex H (upd H3 h (.dK (dkv (nms (flat ts c)) (hi (flat ts c))))) := e3.mut hh0
      generalize upd H3 h (.dK (dkv (nms (flat ts c)) (hi (flat ts c)))) = H6 at *
      refine ⟨_, rfl, o, ys, prAt H6, rfl, sq_of ho4, fun x hxm => ?_, fun zs p srt stb np => ?_⟩
      · obtain ⟨j, hj⟩ := List.mem_iff_getElem?.mp hxm
        obtain ⟨pr, _, t, rfl, ht⟩ := hp.get hj
        have ht2 := (fr_in ht).2
        exact ⟨t, rfl, by rw [prAt_of ht2]; exact ht2⟩
      · have em : ys.map (prAt H6) = pp (nms (flat ts c)) (lo (flat ts c)) (hi (flat ts c)) (nms (flat ts c)) := by
          refine List.ext_getElem? fun j => ?_
          rw [List.getElem?_map]
          cases ec : ys[j]? with
          | none =>
            have := List.getElem?_eq_none_iff.mp ec
            rw [List.getElem?_eq_none (by rw [← hp.len]; exact this)] <;> rfl
          | some v =>
            obtain ⟨pr, h3, t, rfl, ht⟩ := hp.get ec
            rw [h3]
            show some (prAt H6 (.ref t)) = some pr
            rw [prAt_of (fr_in ht).2]
        have eR : zs.map (prAt H6) = R ts c := sorted_R (flat_fine hg) (by rw [← em]; exact stb.perm.map _) (List.pairwise_map.mpr srt)
        refine q p _ (e4.trans (Ex.new np)) (none_of e4 np) ?_
        have np0 : H p = none := none_of e4 np
        refine dp_mk (sq_of (by rw [fr_at np0, upd_same])) ⟨by rw [← eR, List.length_map], fun j v pr h1 h2 => ?_⟩
        rw [← eR, List.getElem?_map, h1] at h2
        have e5 : prAt H6 v = pr := Option.some.inj h2
        obtain ⟨j2, hj2⟩ := List.mem_iff_getElem?.mp (stb.perm.mem_iff.mp (List.mem_of_getElem? h1))
        obtain ⟨pr2, _, hP⟩ := hp.get hj2
        have hP2 : Pl (fr H (upd H6 p (.lst zs))) v pr2 := hP.ex (fr_right (Ex.new np))
        have e6 : prAt H6 v = pr2 := by
          obtain ⟨t, rfl, ht⟩ := hP
          exact prAt_of (fr_in ht).2
        rw [← e5, e6]
        exact hP2.dp
end
end Fw
namespace Fw
theorem ch_len7 : (List.range 8).all (fun a => (List.range 7).all fun m => (List.range 7).all fun l => decide ((ch l a m).length ≤ 20)) = true := by decide +kernel
theorem ch_lenA {l a m : Nat} (ha : a ≤ 7) (hl : l ≤ 6) (hm : m ≤ 6) : (ch l a m).length ≤ 20 := by
  have h := List.all_eq_true.mp (List.all_eq_true.mp ch_len7 a (List.mem_range.mpr (by omega))) m (List.mem_range.mpr (by omega))
  exact of_decide_eq_true (List.all_eq_true.mp h l (List.mem_range.mpr (by omega)))
/-- the first turns of the loop -/
def chT (l a m i : Nat) : List (List Nat) := (List.range' a i).flatMap fun k => (ch l (k + 1) m).map fun b => k :: b
theorem chT_succ (l a m i : Nat) : chT l a m (i + 1) = chT l a m i ++ (ch l (a + i + 1) m).map fun b => (a + i) :: b := by
  unfold chT
  rw [List.range'_concat, List.flatMap_append]
  simp
theorem chT_all (l a m : Nat) : chT l a m (m - l - a) = ch (l + 1) a m := rfl
theorem chT_len {l a m i : Nat} (ha : a + i ≤ 7) (hl : l ≤ 6) (hm : m ≤ 6) : (chT l a m i).length ≤ 200 := by
  unfold chT
  refine Nat.le_trans (fm_len (m := 20) fun k hk => ?_) ?_
  · have := List.mem_range'_1.mp hk
    rw [List.length_map]
    exact ch_lenA (by omega) hl hm
  · rw [List.length_range']
    omega
theorem ch_size {l a m : Nat} {c : List Nat} (h : c ∈ ch l a m) : c.length = l := (ch_in h).1
end Fw
namespace Fw
open PySem PySem.Spec PyProof.Rows L2 Evl
section
variable {P : Program} {w : World} {K : PySem.W.Frag} {mg : Str → Option Value} {base : Heap}
/-! choices -/
abbrev sChoices : Stmt := topS 22
def spChoices (n : Nat) : Sp := fun vs H Q _ => ∃ a m l : Nat, vs = [vN a, vN m, vN l] ∧ l < n ∧ a ≤ 7 ∧ m ≤ 6 ∧ l ≤ 6 ∧
  ∀ (p : Addr) xs H1, Ex H H1 → H p = none → H1 p = some (.lst xs) → All2 (Il (fr H H1)) xs (ch l a m) → Q (.ref p) H1
theorem scChoices : FnScope ["first", "many", "left", "found", "k", "behind"] ["first", "many", "left"] (defScope sChoices) := ⟨rfl, rfl, rfl, by decide +kernel, rfl, by decide +kernel, by decide +kernel⟩
theorem c_choices (D : Dn K mg "choices" sChoices ["first", "many", "left"]) (G : Gs mg) : ∀ n : Nat, C8.Cal P w K mg base n "choices" (spChoices n) []
  | 0 => by
    obtain ⟨f, fd, F, b, m⟩ := D.ex
    have no : ∀ vs H Q E, ¬ spChoices 0 vs H Q E := fun vs H Q E h => by
      obtain ⟨_, _, l, _, h1, _⟩ := h
      omega
    exact ⟨f, fd, ["first", "many", "left"], [], ⟨fun vs H Q E h => absurd h (no vs H Q E), fun A outer s H args us vs Q E _ _ _ _ h => absurd h (no vs H Q E)⟩, m, F.kp, b, .nil⟩
  | n + 1 => by
    have ih := c_choices D G n
    refine cal_of D scChoices (fun vs H Q E h => ?_) (fun f cdv A outer s H vs Q E hr h => ?_)
    · obtain ⟨a, m, l, rfl, _⟩ := h
      rfl
    · obtain ⟨a, m, l, rfl, hln, ha7, hm6, hl6, q⟩ := h
      refine ⟨_, pss_cons (ps_if (pt_cmpR op_eq (pv 2) pe_int (nomark _)) (pss_one (ps_ret (pe_lst (pa_cons (pe_lst pa_nil) pa_nil)))) pss_nil)
        (pss_cons (ps_set (i := 3) scChoices.nd rfl (.inl rfl) (pe_lst pa_nil))
        (pss_cons (ps_for PassesOwn.never rfl (pi_range2 (by rfl) G.zRange (pa_cons (pv 0) (pa_cons (pe_op op_add (pe_op op_sub (pv 1) (pv 2)) pe_int) pa_nil))) (pg_name (i := 4) scChoices.nd rfl (.inr rfl))
          (pss_one (ps_expr (pe_bm PySem.F.plainAttrs_list PySem.F.slot_list_extend PySem.F.type_list_extend mt_extend (pv 3) (pa_cons
            (pe_lc (own := [("behind", 5)]) (g := gName 5) (tt := tYes) rfl scChoices.nd (pi_list (C8.pe_c ih hr (Nat.le_refl _) (by rfl) (pa_cons (pe_op op_add (pv 4) pe_int) (pa_cons (pv 1) (pa_cons (pe_op op_sub (pv 2) pe_int) pa_nil)))))
              (blkOk_by (N := ["first", "many", "left", "found", "k", "behind"]) (sc := defScope sChoices) (by decide +kernel))
              (fun _ _ _ _ _ => pg_name (i := 5) scChoices.nd rfl (Or.inl rfl)) (fun _ _ _ _ _ => pts_nil) (fun _ _ _ _ _ => pe_op op_cat (pe_lst (pa_cons (pv 4) pa_nil)) (pv 5))) pa_nil)))))
        (pss_one (ps_ret (pv 3))))), ?_⟩
      refine ⟨_, rfl, rfl, _, rfl, ?_⟩
      cases l with
      | zero =>
        rw [decide_eq_true (show vN 0 = V.int 0 from rfl)]
        refine iteT ?_
        refine ⟨Nat.zero_le _, fun e ne => ⟨by show 1 ≤ sizeLine; decide, fun p np => ?_⟩⟩
        have nep : e ≠ p := fun z => by rw [z, upd_same] at np; cases np
        refine q p _ _ ((Ex.new ne).trans (Ex.new np)) (none_of (Ex.new ne) np) upd_same (.cons ⟨e, rfl, ?_⟩ .nil)
        rw [fr_at ne, upd_ne nep, upd_same]
        rfl
      | succ l =>
        rw [decide_eq_false (show ¬ vN (l + 1) = V.int 0 from fun z => by
          have := V.int.inj z
          omega)]
        refine iteF ?_
        refine ⟨Nat.zero_le _, fun o no => ?_⟩
        refine ⟨_, rfl, _, rfl, _, rfl, _, _, rfl, rfl, _, _, rfl, rfl, _, _, rfl, ⟨by omega, by omega, by omega, by omega⟩, ?_⟩
        have ez : ((((m : Nat) : Int) - ((l + 1 : Nat) : Int) + 1) - ((a : Nat) : Int)).toNat = m - l - a := by omega
        refine for_range (lo := (a : Int)) (n := (((m : Int) - ((l + 1 : Nat) : Int) + 1) - (a : Int)).toNat) (fun i σ H1 => ∃ x ys, σ = [some (vN a), some (vN m), some (vN (l + 1)), some (V.ref o), x, none] ∧ Ex H H1 ∧ H1 o = some (.lst ys) ∧ All2 (fun v c => v ≠ .ref o ∧ Il (fr H H1) v c) ys (chT l a m i))
          ⟨none, [], rfl, Ex.new no, upd_same, .nil⟩ ?_ ?_
        · rintro i σ H1 hi ⟨x, ys, rfl, e1, ho, hys⟩
          rw [ez] at hi
          have ek : (a : Int) + (i : Nat) + 1 = ((a + i + 1 : Nat) : Int) := by omega
          have el : ((l + 1 : Nat) : Int) - 1 = (l : Int) := by omega
          refine ⟨_, rfl, .inl ⟨rfl, _, sq_of ho⟩, ?_⟩
          refine ⟨_, rfl, _, _, rfl, rfl, _, rfl, _, rfl, _, _, rfl, rfl, a + i + 1, m, l, ?_, by omega, by omega, hm6, by omega, fun p zs H2 e2 np hp hzs => ?_⟩
          · show [V.int ((a : Int) + (i : Nat) + 1), vN m, V.int (((l + 1 : Nat) : Int) - 1)] = _
            rw [ek, el]
            rfl
          refine ⟨p, rfl, ⟨_, sq_of hp⟩, fun Dd hD => ?_⟩
          have hzl : zs.length ≤ 20 := by
            rw [hzs.len]
            exact ch_lenA (by omega) (by omega) hm6
          refine lc_new (K := K) (walk_list (xs := zs)) (fun _ => true) (fun G v j => Il G v ((a + i) :: (ch l (a + i + 1) m).getD j [])) hD (by omega) (fun H3 e3 => ex_l e3 (sq_of hp)) (fun _ _ _ _ e z => z.ex e) ?_ ?_
          · rintro j y H3 H3' hj e3 ⟨rfl, hyj⟩ A B _ hB
            obtain ⟨c, hc, t, rfl, ht⟩ := hzs.get hyj
            have hcl : c.length = l := ch_size (List.mem_of_getElem? hc)
            have ht3 : H3' t = some (.lst (c.map vN)) := e3 _ _ (fr_in ht).2
            refine ⟨rfl, _, rfl, by show 1 ≤ sizeLine; decide, fun u nu => ?_⟩
            have ntu : t ≠ u := ne_of_none ht3 nu
            refine ⟨_, rfl, u, t, _, _, rfl, rfl, upd_same, by rw [upd_ne ntu]; exact ht3, by rw [List.length_map, hcl]; exact sz_of (by show 1 + l ≤ 100000; omega), fun u2 nu2 => ?_⟩
            refine hB rfl _ _ ((Ex.new nu).trans (Ex.new nu2)) ⟨u2, rfl, ?_⟩
            rw [fr_at (none_of (Ex.new nu) nu2), upd_same, List.getD_eq_getElem?_getD, hc]
            show some (HO.lst (V.int ((a : Int) + (i : Nat)) :: c.map vN)) = some (HO.lst (V.int ((a + i : Nat) : Int) :: c.map vN))
            rw [Int.natCast_add]
          · intro H3 ws e3 hw hws
            have ho3 : H3 o = some (.lst ys) := e3 _ _ (e2 _ _ ho)
            have nDo : Dd ≠ o := fun z => by rw [z, e2 _ _ ho] at hD; cases hD
            rw [show (List.range zs.length).filter (fun _ => true) = List.range zs.length from List.filter_eq_self.mpr fun _ _ => rfl] at hws
            have hwl : ws.length ≤ 20 := by rw [hws.len, List.length_range]; exact hzl
            have hyl : ys.length ≤ 200 := by
              rw [hys.len]
              exact chT_len (by omega) (by omega) hm6
            refine ⟨o, Dd, ys, ws, rfl, rfl, ho3, hw, sz_of (by omega), ?_⟩
            have e13 : Ex H H3 := (e1.trans e2).trans e3
            refine ⟨_, ys ++ ws, rfl, e13.mut no, upd_same, ?_⟩
            rw [chT_succ]
            refine All2.app (hys.mono fun v c z => ⟨z.1, ?_⟩) ?_
            · obtain ⟨t, rfl, ht⟩ := z.2
              obtain ⟨n1, n2⟩ := fr_in ht
              refine ⟨t, rfl, ?_⟩
              rw [fr_at n1, upd_ne fun y => z.1 (by rw [y])]
              exact e3 _ _ (e2 _ _ n2)
            · have er : (ch l (a + i + 1) m).map (fun b => (a + i) :: b) = (List.range zs.length).map fun j => (a + i) :: (ch l (a + i + 1) m).getD j [] := by
                rw [hzs.len]
                have := congrArg (List.map fun b => (a + i) :: b) (range_get (ch l (a + i + 1) m) [])
                rw [List.map_map] at this
                exact this.symm
              rw [er]
              refine All2.map' (hws.mono fun v j z => ?_)
              obtain ⟨t, rfl, ht⟩ := z
              obtain ⟨n1, n2⟩ := fr_in ht
              have n3 := none_of (Ex.new hD) n1
              have m1 : t ≠ o := fun y => by rw [y, e2 _ _ ho] at n3; cases n3
              refine ⟨fun y => m1 (V.ref.inj y), t, rfl, ?_⟩
              rw [fr_at (none_of (e1.trans e2) n3), upd_ne m1]
              exact n2
        · rintro σ H1 ⟨x, ys, rfl, e1, ho, hys⟩
          rw [ez, chT_all] at hys
          exact ⟨_, rfl, q o ys H1 e1 no ho (hys.mono fun v c z => z.2)⟩
end
end Fw
namespace Fw
open PySem PySem.Spec PyProof.Rows L2 Evl
/-! data: its depth, its == -/
def Lay {α : Type} (g : α → PyData) (m : Nat) : Prop := ∀ a, (g a).canLay0 = true ∧ (g a).depth ≤ m
theorem lay_all {α : Type} {g : α → PyData} {m : Nat} (h : Lay g m) : ∀ l : List α, PyData.canLayAll0 (l.map g) = true ∧ PyData.depthAll (l.map g) ≤ m
  | [] => ⟨by simp [PyData.canLayAll0], by simp [PyData.depthAll]⟩
  | a :: l => by
    obtain ⟨h1, h2⟩ := lay_all h l
    obtain ⟨h3, h4⟩ := h a
    refine ⟨by simp [PyData.canLayAll0, h1, h3], ?_⟩
    simp only [List.map_cons, PyData.depthAll]
    omega
theorem lay_list {α : Type} {g : α → PyData} {m : Nat} (h : Lay g m) : Lay (fun l : List α => PyData.list (l.map g)) (m + 1) := fun l => by
  obtain ⟨h1, h2⟩ := lay_all h l
  refine ⟨by simp only [PyData.canLay0]; exact h1, ?_⟩
  simp only [PyData.depth]
  omega
theorem lay_shaped {α : Type} {g : α → PyData} {m : Nat} (h : Lay g m) (hm : m ≤ 64) (a : α) : SeqAt.shaped (g a) = true := by
  obtain ⟨h1, h2⟩ := h a
  show ((g a).canLay0 && decide ((g a).depth ≤ 64)) = true
  rw [h1, decide_eq_true (by omega)]
  rfl
theorem lay_pr : Lay dPr 1 := fun p => ⟨by simp [dPr, PyData.canLay0, PyData.canLayAll0], by simp [dPr, PyData.depth, PyData.depthAll]⟩
theorem lay_fi : Lay dFi 1 := fun p => ⟨by simp [dFi, PyData.canLay0, PyData.canLayAll0], by simp [dFi, PyData.depth, PyData.depthAll]⟩
theorem lay_n : Lay dN 0 := fun p => ⟨by simp [dN, PyData.canLay0], by simp [dN, PyData.depth]⟩
theorem lay_ps : Lay dPs 2 := lay_list lay_pr
theorem lay_tg : Lay dTg 2 := lay_list lay_fi
theorem lay_ts : Lay dTs 3 := lay_list lay_tg
theorem lay_ch : Lay dCh 1 := lay_list lay_n
def Eqd {α : Type} [DecidableEq α] (g : α → PyData) : Prop := ∀ a b, PyData.eqv (g a) (g b) = decide (a = b)
theorem eqd_all {α : Type} [DecidableEq α] {g : α → PyData} (h : Eqd g) : ∀ l k : List α, PyData.eqvAll (l.map g) (k.map g) = decide (l = k)
  | [], [] => by simp [PyData.eqvAll]
  | [], _ :: _ => by simp [PyData.eqvAll]
  | _ :: _, [] => by simp [PyData.eqvAll]
  | a :: l, b :: k => by
    simp only [List.map_cons, PyData.eqvAll]
    rw [h a b, eqd_all h l k]
    by_cases e : a = b
    · subst e
      by_cases f : l = k
      · subst f; simp
      · simp [f]
    · simp [e]
theorem eqd_list {α : Type} [DecidableEq α] {g : α → PyData} (h : Eqd g) : Eqd (fun l : List α => PyData.list (l.map g)) := fun l k => by
  simp only [PyData.eqv]
  exact eqd_all h l k
theorem eqd_pr : Eqd dPr := fun p q => by
  obtain ⟨a, b⟩ := p
  obtain ⟨c, d⟩ := q
  simp only [dPr, PyData.eqv, PyData.eqvAll]
  by_cases e : a = c
  · by_cases f : b = d
    · subst e; subst f; simp
    · simp [f]
  · simp [e]
theorem eqd_fi : Eqd dFi := fun p q => by
  obtain ⟨a, b, c⟩ := p
  obtain ⟨d, e, f⟩ := q
  simp only [dFi, PyData.eqv, PyData.eqvAll]
  by_cases h1 : a = d
  · by_cases h2 : b = e
    · by_cases h3 : c = f
      · subst h1; subst h2; subst h3; simp
      · simp [h3]
    · simp [h2]
  · simp [h1]
theorem eqd_n : Eqd dN := fun p q => by
  simp only [dN, PyData.eqv]
  by_cases e : p = q
  · subst e; simp
  · have : ¬ ((p : Int) = (q : Int)) := fun z => e (Int.ofNat.inj z)
    simp [e, this]
theorem eqd_ps : Eqd dPs := eqd_list eqd_pr
theorem eqd_tg : Eqd dTg := eqd_list eqd_fi
theorem eqd_ts : Eqd dTs := eqd_list eqd_tg
theorem eqd_ch : Eqd dCh := eqd_list eqd_n
theorem any_pr (ps : List (Int × Int)) (p : Int × Int) : ((ps.map dPr).any fun z => PyData.eqv z (dPr p)) = decide (p ∈ ps) := by
  induction ps with
  | nil => rfl
  | cons a l ih =>
    rw [List.map_cons, List.any_cons, ih, eqd_pr a p]
    by_cases e : a = p
    · subst e; simp
    · have e2 : ¬ p = a := fun z => e z.symm
      by_cases f : p ∈ l
      · simp [e, f]
      · simp [e, e2, f]
end Fw
namespace Fw
open PySem PySem.Spec PyProof.Rows L2 Evl
section
variable {P : Program} {w : World} {K : PySem.W.Frag} {mg : Str → Option Value} {base : Heap}
theorem hu65 {k : Nat} {A : Around} (hr : Room k A) : A.units + 65 < cLine := by have := hr.un; omega
/-! lacking -/
abbrev sLacking : Stmt := topS 23
def spLacking (K : PySem.W.Frag) : Sp := fun vs H Q _ => ∃ v1 v2 a3 xs ts c ps, ∃ F : V → Int × Int → Prop, vs = [v1, v2, .ref a3] ∧ Dp K H v1 (dTs ts) ∧ Dp K H v2 (dCh c) ∧ SqL K H a3 xs ∧ All2 (fun v q => Dp K H v (dPr q) ∧ F v q) xs ps ∧ Good ts ∧ (∀ k ∈ c, k < ts.length) ∧ c.length ≤ 6 ∧
  (∀ H1, Ex H H1 → lack ts c ps = none → Q .non H1) ∧ (∀ v p H1, Ex H H1 → lack ts c ps = some p → F v p → Q v H1)
theorem scLacking : FnScope ["tastings", "chosen", "pairs", "mine", "pair"] ["tastings", "chosen", "pairs"] (defScope sLacking) := ⟨rfl, rfl, rfl, by decide +kernel, rfl, by decide +kernel, by decide +kernel⟩
theorem find_at {α : Type} {f : α → Bool} {l : List α} {i : Nat} {a : α} (h : (l.take i).find? f = none) (ha : l[i]? = some a) (hf : f a = true) : l.find? f = some a := by
  obtain ⟨hi, e⟩ := List.getElem?_eq_some_iff.mp ha
  have e2 : l = l.take i ++ a :: l.drop (i + 1) := by
    rw [← e, ← List.drop_eq_getElem_cons hi, List.take_append_drop]
  rw [e2, List.find?_append, h, List.find?_cons, hf] <;> rfl
theorem find_more {α : Type} {f : α → Bool} {l : List α} {i : Nat} {a : α} (h : (l.take i).find? f = none) (ha : l[i]? = some a) (hf : f a = false) : (l.take (i + 1)).find? f = none := by
  rw [List.take_add_one, ha, List.find?_append, h]
  show ([a] : List α).find? f = none
  rw [List.find?_cons, hf] <;> rfl
theorem c_lacking (D : Dn K mg "lacking" sLacking ["tastings", "chosen", "pairs"]) (G : Gs mg) (c2 : C8.Cal P w K mg base 2 "pairs_of" (spPairs K) []) : C8.Cal P w K mg base 3 "lacking" (spLacking K) [] := by
  refine cal_of D scLacking (fun vs H Q E h => ?_) (fun f cdv A outer s H vs Q E hr h => ?_)
  · obtain ⟨v1, v2, v3, x, t, c, ps, F, rfl, _⟩ := h
    rfl
  · obtain ⟨v1, v2, a3, xs, ts, c, ps, F, rfl, hv1, hv2, ha3, hx, hg, hk, hc6, q1, q2⟩ := h
    refine ⟨_, pss_cons (ps_set (i := 3) scLacking.nd rfl (.inl rfl) (C8.pe_c c2 hr (by decide) (by rfl) (pa_cons (pv 0) (pa_cons (pv 1) pa_nil))))
      (pss_cons (ps_for PassesOwn.never rfl (pi_list (pv 2)) (pg_name (i := 4) scLacking.nd rfl (.inl rfl))
        (pss_one (ps_if (pt_cmpR (op_notInD (hu65 hr)) (pv 4) (pv 3) (by rfl)) (pss_one (ps_ret (pv 4))) pss_nil)))
      (pss_one (ps_ret pe_non))), ?_⟩
    refine ⟨_, rfl, _, rfl, v1, v2, ts, c, rfl, hv1, hv2, hg, hk, hc6, fun p H1 e1 np hp => ?_⟩
    refine ⟨_, rfl, a3, rfl, ⟨_, ex_l e1 ha3⟩, ?_⟩
    refine for_list (xs := xs) (fun i σ H2 => ∃ x, σ = [some v1, some v2, some (V.ref a3), some (V.ref p), x] ∧ Ex H1 H2 ∧ (ps.take i).find? (fun p => decide (p ∉ R ts c)) = none)
      ⟨none, rfl, Ex.refl _, rfl⟩ (fun i σ H2 _ z => by obtain ⟨_, _, e, _⟩ := z; exact ex_l (e1.trans e) ha3) ?_ ?_
    · rintro i x σ H2 hi ⟨x4, rfl, e2, hn⟩
      obtain ⟨pr, hpr, hd, hF⟩ := hx.get hi
      refine ⟨_, rfl, _, rfl, dPr pr, (R ts c).map dPr, dpx (e1.trans e2) hd, dpx e2 hp.dp, lay_shaped lay_pr (by decide) pr, lay_shaped lay_ps (by decide) (R ts c), _, rfl, ?_⟩
      rw [any_pr]
      by_cases m : pr ∈ R ts c
      · rw [decide_eq_true m]
        exact iteF ⟨_, rfl, e2, find_more hn hpr (decide_eq_false fun z => z m)⟩
      · rw [decide_eq_false m]
        exact iteT ⟨_, rfl, q2 x pr H2 (e1.trans e2) (find_at hn hpr (decide_eq_true m)) hF⟩
    · rintro σ H2 ⟨x4, rfl, e2, hn⟩
      rw [hx.len, List.take_length] at hn
      exact q1 H2 (e1.trans e2) hn
end
end Fw
namespace Fw
open PySem PySem.Spec PyProof.Rows L2 Evl
theorem rg_al (ts : Ts) : rgV 0 (ts.length : Int) = (al ts).map vN := by
  unfold rgV al
  have e : ((ts.length : Int) - 0).toNat = ts.length := by omega
  rw [e]
  refine List.map_congr_left fun i _ => ?_
  show V.int (0 + (i : Nat)) = V.int (i : Int)
  rw [Int.zero_add]
theorem rg_ok {n : Nat} (h : n ≤ 1000) : RgOk 0 (n : Int) := RgOk.of_le (by omega) (by omega) (by omega) (by omega)
theorem scan_step {ts : Ts} {ps : List (Int × Int)} {cs : List (List Nat)} {j : Nat} {c : List Nat} {acc : List (Int × Int)} (h : cs[j]? = some c) : scan ts ps (cs.drop j) acc = match lack ts c ps with
    | none => .inl c
    | some p => scan ts ps (cs.drop (j + 1)) (acc ++ [p]) := by
  obtain ⟨hj, e⟩ := List.getElem?_eq_some_iff.mp h
  rw [List.drop_eq_getElem_cons hj, e]
  rfl
theorem go_step (ts : Ts) (ps : List (Int × Int)) (i k : Nat) (paper : List (Int × Int)) : go ts ps (List.range' i (k + 1)) paper = match scan ts ps (ch i 0 ts.length) [] with
    | .inl c => (c, paper)
    | .inr found => go ts ps (List.range' (i + 1) k) found := by
  rw [List.range'_succ]
  rfl
theorem ch_ok {l m : Nat} {c : List Nat} (h : c ∈ ch l 0 m) (hl : l ≤ 6) : (∀ k ∈ c, k < m) ∧ c.length ≤ 6 := ⟨(ch_in h).2, by rw [(ch_in h).1]; exact hl⟩
section
variable {P : Program} {w : World} {K : PySem.W.Frag} {mg : Str → Option Value} {base : Heap}
theorem al_lt (ts : Ts) : ∀ k ∈ al ts, k < ts.length := fun k hk => List.mem_range.mp hk
theorem al_len (ts : Ts) : (al ts).length = ts.length := List.length_range
/-! fewest -/
abbrev sFewest : Stmt := topS 24
def spFewest (K : PySem.W.Frag) : Sp := fun vs H Q _ => ∃ v ts, vs = [v] ∧ Dp K H v (dTs ts) ∧ Good ts ∧
  ∀ (t c p : Addr) ws H1, Ex H H1 → H1 t = some (.tup [.ref c, .ref p]) → H c = none → H p = none → c ≠ p → H1 c = some (.lst ((few ts).1.map vN)) → H1 p = some (.lst ws) → All2 (fun v q => Dp K H1 v (dPr q)) ws (few ts).2 → H t = none → t ≠ c → t ≠ p → Q (.ref t) H1
theorem scFewest : FnScope ["tastings", "many", "pairs", "paper", "left", "found", "chosen", "pair"] ["tastings"] (defScope sFewest) := ⟨rfl, rfl, rfl, by decide +kernel, rfl, by decide +kernel, by decide +kernel⟩
theorem c_fewest (D : Dn K mg "fewest" sFewest ["tastings"]) (G : Gs mg) (c6 : C8.Cal P w K mg base 6 "want_tastings" (spWant K) []) (c2 : C8.Cal P w K mg base 2 "pairs_of" (spPairs K) [])
    (c3 : C8.Cal P w K mg base 3 "lacking" (spLacking K) []) (c7 : C8.Cal P w K mg base 7 "choices" (spChoices 7) []) : C8.Cal P w K mg base 8 "fewest" (spFewest K) [] := by
  refine cal_of D scFewest (fun vs H Q E h => ?_) (fun f cdv A outer s H vs Q E hr h => ?_)
  · obtain ⟨v, ts, rfl, _⟩ := h
    rfl
  · obtain ⟨v, ts, rfl, hv, hg, q⟩ := h
    have ht6 := hg.len
    obtain ⟨a, xs, rfl, ha, hx⟩ := dp_list hv
    refine ⟨_, pss_cons (ps_expr (C8.pe_c c6 hr (by decide) (by rfl) (pa_cons (pv 0) pa_nil)))
      (pss_cons (ps_set (i := 1) scFewest.nd rfl (.inl rfl) (pe_callB call_len_seq (by rfl) G.zLen PySem.boot_len (pa_cons (pv 0) pa_nil)))
      (pss_cons (ps_set (i := 2) scFewest.nd rfl (.inl rfl) (C8.pe_c c2 hr (by decide) (by rfl) (pa_cons (pv 0) (pa_cons (pe_listRg rfl (by rfl) G.zList (prg_1 (by rfl) G.zRange (pv 1))) pa_nil))))
      (pss_cons (ps_set (i := 3) scFewest.nd rfl (.inl rfl) (pe_lst pa_nil))
      (pss_cons (ps_for PassesOwn.never rfl (pi_range1 (by rfl) G.zRange (pa_cons (pe_op op_add (pv 1) pe_int) pa_nil)) (pg_name (i := 4) scFewest.nd rfl (.inl rfl))
        (pss_cons (ps_set (i := 5) scFewest.nd rfl (.inl rfl) (pe_lst pa_nil))
        (pss_cons (ps_for PassesOwn.never rfl (pi_list (C8.pe_c c7 hr (Nat.le_refl _) (by rfl) (pa_cons pe_int (pa_cons (pv 1) (pa_cons (pv 4) pa_nil))))) (pg_name (i := 6) scFewest.nd rfl (.inl rfl))
          (pss_cons (ps_set (i := 7) scFewest.nd rfl (.inl rfl) (C8.pe_c c3 hr (by decide) (by rfl) (pa_cons (pv 0) (pa_cons (pv 6) (pa_cons (pv 2) pa_nil)))))
          (pss_cons (ps_if (pt_cmp (pc_isN (pv 7))) (pss_one (ps_ret (pe_tup (pa_cons (pv 6) (pa_cons (pv 3) pa_nil))))) pss_nil)
          (pss_one (ps_expr (pe_bm PySem.F.plainAttrs_list PySem.F.slot_list_append PySem.F.type_list_append mt_append (pv 5) (pa_cons (pv 7) pa_nil)))))))
        (pss_one (ps_set (i := 3) scFewest.nd rfl (.inl rfl) (pv 5))))))
      (pss_one (ps_ret (pe_tup (pa_cons (pe_listRg rfl (by rfl) G.zList (prg_1 (by rfl) G.zRange (pv 1))) (pa_cons (pv 3) pa_nil))))))))), ?_⟩
    refine ⟨_, rfl, _, ts, rfl, hv, hg, fun H1 e1 => ?_⟩
    refine ⟨_, rfl, a, xs, rfl, .inl (ex_l e1 ha), ?_⟩
    rw [show V.int (xs.length : Int) = vN ts.length by rw [hx.len] <;> rfl]
    refine ⟨_, rfl, _, rfl, _, rfl, rg_ok (by omega), fun r nr => ?_⟩
    have hR : upd H1 r (.lst (rgV 0 (ts.length : Int))) r = some (.lst ((al ts).map vN)) := by rw [upd_same, rg_al]
    have er := Ex.new (H := H1) (o := .lst (rgV 0 (ts.length : Int))) nr
    refine ⟨_, _, ts, al ts, rfl, dpx (e1.trans er) hv, ch_dp (sq_of hR), hg, al_lt ts, by rw [al_len]; exact ht6, fun pr H3 e3 npr hpr => ?_⟩
    have hpd : Dp K H3 (.ref pr) (dPs (R ts (al ts))) := hpr.dp
    have e03 : Ex H H3 := (e1.trans er).trans e3
    obtain ⟨pa0, ps, ep0, hps, hpx⟩ := dp_list hpd
    cases ep0
    refine ⟨Nat.zero_le _, fun pa npa => ?_⟩
    refine ⟨_, rfl, _, _, rfl, rfl, _, rfl, by show -(2 ^ 62) ≤ ((ts.length : Int) + 1); omega, by show ((ts.length : Int) + 1) < 2 ^ 62; omega, ?_⟩
    have ez : ((ts.length : Int) + 1).toNat = ts.length + 1 := by omega
    refine for_range (lo := 0) (n := ((ts.length : Int) + 1).toNat) (fun i σ H4 => ∃ x4 x5 x6 x7 pa ws paper, σ = [some (V.ref a), some (vN ts.length), some (V.ref pr), some (V.ref pa), x4, x5, x6, x7] ∧ Ex H3 H4 ∧ H3 pa = none ∧ H4 pa = some (.lst ws) ∧
        All2 (fun v q => Dp K H3 v (dPr q)) ws paper ∧ i ≤ ts.length + 1 ∧ go ts (R ts (al ts)) (List.range' i (ts.length + 1 - i)) paper = few ts)
      ⟨none, none, none, none, pa, [], [], rfl, Ex.new npa, npa, upd_same, .nil, Nat.zero_le _, by unfold few; rw [List.range_eq_range'] <;> rfl⟩ ?_ ?_
    · rintro i σ H4 hi ⟨x4, x5, x6, x7, pa, ws, paper, rfl, e4, npa, hpa, hws, _, hgo⟩
      rw [ez] at hi
      have ek : ts.length + 1 - i = (ts.length - i) + 1 := by omega
      rw [ek, go_step] at hgo
      refine ⟨Nat.zero_le _, fun o no => ?_⟩
      have no3 : H3 o = none := none_of e4 no
      have npo : pa ≠ o := ne_of_none hpa no
      refine ⟨_, rfl, _, rfl, 0, ts.length, i, ?_, by omega, by omega, ht6, by omega, fun p zs H5 e5 np hp hzs => ?_⟩
      · show [V.int 0, vN ts.length, V.int (0 + (i : Nat))] = [vN 0, vN ts.length, vN i]
        rw [Int.zero_add]
        rfl
      refine ⟨p, rfl, ⟨_, sq_of hp⟩, ?_⟩
      refine for_list (xs := zs) (fun j σ H6 => ∃ x6 x7 ys acc, σ = [some (V.ref a), some (vN ts.length), some (V.ref pr), some (V.ref pa), some (V.int (0 + (i : Nat))), some (V.ref o), x6, x7] ∧ Ex H3 H6 ∧ (∀ b u, b ≠ o → H5 b = some u → H6 b = some u) ∧ H6 o = some (.lst ys) ∧
          All2 (fun v q => Dp K H3 v (dPr q)) ys acc ∧ j ≤ zs.length ∧ acc.length = j ∧ scan ts (R ts (al ts)) ((ch i 0 ts.length).drop j) acc = scan ts (R ts (al ts)) (ch i 0 ts.length) [])
        ⟨x6, x7, [], [], rfl, (e4.trans (Ex.new no)).trans e5, fun _ _ _ z => z, e5 _ _ upd_same, .nil, Nat.zero_le _, rfl, rfl⟩ ?_ ?_ ?_
      · rintro j σ H6 _ ⟨_, _, _, _, _, _, k6, _⟩
        have npo : p ≠ o := fun z => by rw [z, upd_same] at np; cases np
        exact sq_of (k6 _ _ npo hp)
      · rintro j x σ H6 hj ⟨x6, x7, ys, acc, rfl, e6, k6, ho6, hys, _, hal, hsc⟩
        have hzl : zs.length ≤ 20 := by
          rw [hzs.len]
          exact ch_len (by omega) ht6
        have hjl := (List.getElem?_eq_some_iff.mp hj).1
        obtain ⟨c, hc, u, rfl, hu⟩ := hzs.get hj
        obtain ⟨hc1, hc2⟩ := ch_ok (List.mem_of_getElem? hc) (by omega)
        obtain ⟨nu1, nu2⟩ := fr_in hu
        have nuo : u ≠ o := fun z => by rw [z, upd_same] at nu1; cases nu1
        have nu4 : H4 u = none := none_of (Ex.new no) nu1
        have npu : u ≠ pa := fun z => by rw [z, hpa] at nu4; cases nu4
        have hu6 : H6 u = some (.lst (c.map vN)) := k6 _ _ nuo nu2
        rw [scan_step hc] at hsc
        refine ⟨_, rfl, _, rfl, _, rfl, _, _, pr, ps, ts, c, R ts (al ts), (fun v q => Dp K H3 v (dPr q)), rfl, dpx (e03.trans e6) hv, ch_dp (sq_of hu6), ex_l e6 hps, hpx.mono (fun v q z => ⟨dpx e6 z, z⟩), hg, hc1, hc2, fun H7 e7 hlk => ?_, fun v q7 H7 e7 hlk hv7 => ?_⟩
        · -- found
          rw [hlk] at hsc
          rw [← hsc] at hgo
          refine ⟨_, rfl, _, rfl, ?_⟩
          rw [decide_eq_true rfl]
          refine iteT ⟨_, rfl, _, rfl, by show 2 ≤ sizeLine; decide, fun t nt => ?_⟩
          have epa6 : H6 pa = some (.lst ws) := k6 _ _ npo (e5 _ _ ((Ex.new no) _ _ hpa))
          have n3u : H3 u = none := none_of e4 nu4
          have n3t : H3 t = none := none_of (e6.trans e7) nt
          refine q t u pa ws _ (((e03.trans e6).trans e7).trans (Ex.new nt)) upd_same (none_of e03 n3u) (none_of e03 npa) npu ?_ ?_ ?_ (none_of e03 n3t) (fun z => by rw [z, e7 _ _ hu6] at nt; cases nt) (fun z => by rw [z, e7 _ _ epa6] at nt; cases nt)
          · rw [← hgo]
            exact (Ex.new nt) _ _ (e7 _ _ hu6)
          · exact (Ex.new nt) _ _ (e7 _ _ epa6)
          · rw [← hgo]
            exact dpx2 ((e6.trans e7).trans (Ex.new nt)) hws
        · rw [hlk] at hsc
          obtain ⟨b7, hb7⟩ : ∃ b, v = .ref b := by
            obtain ⟨b, e, _⟩ := dp_pr hv7
            exact ⟨b, e⟩
          subst hb7
          refine ⟨_, rfl, _, rfl, ?_⟩
          rw [decide_eq_false (fun z => nomatch z)]
          refine iteF ?_
          have ho7 : H7 o = some (.lst ys) := e7 _ _ ho6
          have hyl : ys.length ≤ 20 := by rw [hys.len]; omega
          refine ⟨_, rfl, .inl ⟨rfl, _, sq_of ho7⟩, _, rfl, o, ys, _, rfl, rfl, ho7, sz_lt (by omega), ?_⟩
          have e67 := e6.trans e7
          exact ⟨_, _, ys ++ [V.ref b7], acc ++ [q7], rfl, e67.mut no3, fun b u nb z => by rw [upd_ne nb]; exact e7 _ _ (k6 b u nb z), upd_same, hys.snoc hv7, by omega, by rw [List.length_append, hal] <;> rfl, hsc⟩
      · rintro σ H6 ⟨x6, x7, ys, acc, rfl, e6, k6, ho6, hys, _, hal, hsc⟩
        rw [show (ch i 0 ts.length).drop zs.length = [] by rw [hzs.len, List.drop_length]] at hsc
        rw [← hsc] at hgo
        exact ⟨_, rfl, _, _, _, _, o, ys, acc, rfl, e6, no3, ho6, hys, by omega, by rw [show ts.length + 1 - (i + 1) = ts.length - i by omega]; exact hgo⟩
    · rintro σ H4 ⟨x4, x5, x6, x7, pa, ws, paper, rfl, e4, npa, hpa, hws, _, hgo⟩
      rw [ez, show ts.length + 1 - (ts.length + 1) = 0 by omega] at hgo
      have hgo2 : (al ts, paper) = few ts := hgo
      refine ⟨_, rfl, _, rfl, rg_ok (by omega), fun c nc => ⟨_, rfl, by show 2 ≤ sizeLine; decide, fun t nt => ?_⟩⟩
      have n3c : H3 c = none := none_of e4 nc
      have e5 : Ex H4 (upd (upd H4 c (.lst (rgV 0 (ts.length : Int)))) t (.tup [.ref c, .ref pa])) := (Ex.new nc).trans (Ex.new nt)
      have npc : c ≠ pa := fun z => by rw [z, hpa] at nc; cases nc
      have ntc : t ≠ c := fun z => by rw [z, upd_same] at nt; cases nt
      have n3t : H3 t = none := none_of (e4.trans (Ex.new nc)) nt
      refine q t c pa ws _ ((e03.trans e4).trans e5) upd_same (none_of e03 n3c) (none_of e03 npa) npc ?_ (e5 _ _ hpa) ?_ (none_of e03 n3t) ntc (fun z => by rw [z, (Ex.new nc) _ _ hpa] at nt; cases nt)
      · rw [upd_ne ntc.symm, upd_same, rg_al, ← hgo2]
      · rw [← hgo2]
        exact dpx2 (e4.trans e5) hws
end
end Fw
namespace Fw
open PySem PySem.Spec PyProof.Rows L2 Evl
theorem R_fine {ts : Ts} {c : List Nat} (hg : Good ts) {p : Int × Int} (h : p ∈ R ts c) : (0 ≤ p.1 ∧ p.1 ≤ 1000000000) ∧ (0 ≤ p.2 ∧ p.2 ≤ 1000000000) := by
  obtain ⟨h1, h2, _, _⟩ := mem_rkS.mp h
  obtain ⟨f, f1, f2⟩ := mem_Sn.mp h1
  obtain ⟨g, g1, g2⟩ := mem_Sn.mp h2
  have a := flat_fine hg f f1
  have b := flat_fine hg g g1
  unfold Fine at a b
  omega
section
variable {P : Program} {w : World} {K : PySem.W.Frag} {mg : Str → Option Value} {base : Heap}
/-! is_lacking -/
abbrev sIsLack : Stmt := topS 25
def spIsLack (K : PySem.W.Frag) : Sp := fun vs H Q _ => ∃ v1 v2 v3 v4 ts c ps p, vs = [v1, v2, v3, v4] ∧ Dp K H v1 (dTs ts) ∧ Dp K H v2 (dCh c) ∧ Dp K H v3 (dPs ps) ∧ Dp K H v4 (dPr p) ∧ Good ts ∧ (∀ k ∈ c, k < ts.length) ∧ c.length ≤ 6 ∧
  p ∈ ps ∧ p ∉ R ts c ∧ (0 ≤ p.1 ∧ p.1 ≤ 1000000000) ∧ (0 ≤ p.2 ∧ p.2 ≤ 1000000000) ∧ ∀ H1, Ex H H1 → Q (.bl true) H1
theorem scIsLack : FnScope ["tastings", "chosen", "pairs", "thing"] ["tastings", "chosen", "pairs", "thing"] (defScope sIsLack) := ⟨rfl, rfl, rfl, by decide +kernel, rfl, by decide +kernel, by decide +kernel⟩
theorem c_islack (D : Dn K mg "is_lacking" sIsLack ["tastings", "chosen", "pairs", "thing"]) (G : Gs mg) (c2 : C8.Cal P w K mg base 2 "pairs_of" (spPairs K) []) (c3 : C8.Cal P w K mg base 3 "is_break" spBreak []) : C8.Cal P w K mg base 4 "is_lacking" (spIsLack K) [] := by
  refine cal_of D scIsLack (fun vs H Q E h => ?_) (fun f cdv A outer s H vs Q E hr h => ?_)
  · obtain ⟨v1, v2, v3, v4, t, c, ps, p, rfl, _⟩ := h
    rfl
  · obtain ⟨v1, v2, v3, v4, ts, c, ps, p, rfl, hv1, hv2, hv3, hv4, hg, hk, hc6, hp1, hp2, hb1, hb2, q⟩ := h
    obtain ⟨a, rfl, ha⟩ := dp_pr hv4
    refine ⟨_, pss_cons (ps_if (PW.pt (pw_or (pt_not (pt_val (pe_callB call_isi (by rfl) G.zIsinstance (by decide +kernel) (pa_cons (pv 3) (pa_cons (pe_bltn (v := .ty "tuple") (by rfl) G.zTuple (by decide +kernel) rfl) pa_nil)))))
        (pw_or (pt_cmpR op_ne (pe_callB call_len_seq (by rfl) G.zLen PySem.boot_len (pa_cons (pv 3) pa_nil)) pe_int (nomark _))
        (pw_or (pt_not (pt_val (C8.pe_c c3 hr (by decide) (by rfl) (pa_cons (pe_ix ix_tup (pv 3) pe_int (fun _ _ => rfl)) pa_nil))))
        (pw_or1 (pt_not (pt_val (C8.pe_c c3 hr (by decide) (by rfl) (pa_cons (pe_ix ix_tup (pv 3) pe_int (fun _ _ => rfl)) pa_nil)))))))))
        (pss_one (ps_ret pe_bl)) pss_nil)
      (pss_one (ps_ret (pe_and (pe_cmpR (op_inD (hu65 hr)) (pv 3) (pv 2) (by rfl)) (pe_one (pe_cmpR (op_notInD (hu65 hr)) (pv 3) (C8.pe_c c2 hr (by decide) (by rfl) (pa_cons (pv 0) (pa_cons (pv 1) pa_nil))) (by rfl)))))), ?_⟩
    refine ⟨_, rfl, _, _, _, _, true, rfl, .ty _, ty_t ha, kit_ty (by decide +kernel), true, rfl, iteF ?_⟩
    refine ⟨_, rfl, a, _, rfl, .inr ha, rfl, false, rfl, iteF ?_⟩
    refine ⟨_, rfl, a, _, 0, _, rfl, rfl, ha, rfl, _, rfl, _, rfl, ?_⟩
    rw [decide_eq_true hb1]
    refine iteF ?_
    refine ⟨_, rfl, a, _, 1, _, rfl, rfl, ha, rfl, _, rfl, _, rfl, ?_⟩
    rw [decide_eq_true hb2]
    refine iteF ?_
    refine ⟨_, rfl, _, rfl, dPr p, ps.map dPr, hv4, hv3, lay_shaped lay_pr (by decide) p, lay_shaped lay_ps (by decide) ps, _, rfl, ?_⟩
    rw [any_pr, decide_eq_true hp1]
    refine iteT ⟨_, rfl, _, rfl, _, rfl, v1, v2, ts, c, rfl, hv1, hv2, hg, hk, hc6, fun r H1 e1 _ hr1 => ?_⟩
    refine ⟨dPr p, (R ts c).map dPr, dpx e1 hv4, hr1.dp, lay_shaped lay_pr (by decide) p, lay_shaped lay_ps (by decide) (R ts c), ?_⟩
    rw [any_pr, decide_eq_false hp2]
    exact q H1 e1
/-! check_paper -/
abbrev sCheck : Stmt := topS 26
def spCheck (K : PySem.W.Frag) : Sp := fun vs H Q _ => ∃ v1 m v3 ts ps, vs = [v1, vN m, v3] ∧ Dp K H v1 (dTs ts) ∧ Dp K H v3 (dPs ps) ∧ Good ts ∧ m ≤ ts.length ∧ PaperOk ts m ps ∧ ∀ H1, Ex H H1 → Q .non H1
theorem scCheck : FnScope ["tastings", "many", "paper", "pairs", "barred", "at", "thing"] ["tastings", "many", "paper"] (defScope sCheck) := ⟨rfl, rfl, rfl, by decide +kernel, rfl, by decide +kernel, by decide +kernel⟩
theorem c_check (D : Dn K mg "check_paper" sCheck ["tastings", "many", "paper"]) (G : Gs mg) (c6 : C8.Cal P w K mg base 6 "want_tastings" (spWant K) []) (cf : C8.Cal P w K mg base 2 "is_from" spFrom []) (c2 : C8.Cal P w K mg base 2 "pairs_of" (spPairs K) [])
    (c4 : C8.Cal P w K mg base 4 "is_lacking" (spIsLack K) []) (c7 : C8.Cal P w K mg base 7 "choices" (spChoices 7) []) : C8.Cal P w K mg base 8 "check_paper" (spCheck K) [] := by
  refine cal_of D scCheck (fun vs H Q E h => ?_) (fun f cdv A outer s H vs Q E hr h => ?_)
  · obtain ⟨v1, m, v3, ts, ps, rfl, _⟩ := h
    rfl
  · obtain ⟨v1, m, v3, ts, ps, rfl, hv, hp, hg, hm, hok, q⟩ := h
    have ht6 := hg.len
    obtain ⟨a, xs, rfl, ha, hx⟩ := dp_list hv
    obtain ⟨b, ws, rfl, hb, hw⟩ := dp_list hp
    have hlen : V.int (xs.length : Int) = vN ts.length := by rw [hx.len] <;> rfl
    refine ⟨_, pss_cons (ps_expr (C8.pe_c c6 hr (by decide) (by rfl) (pa_cons (pv 0) pa_nil)))
      (pss_cons (ps_if (pt_not (pt_val (C8.pe_c cf hr (by decide) (by rfl) (pa_cons (pv 1) (pa_cons pe_int (pa_cons (pe_callB call_len_seq (by rfl) G.zLen PySem.boot_len (pa_cons (pv 0) pa_nil)) pa_nil)))))) pss_never pss_nil)
      (pss_cons (ps_if (pt_not (pt_val (pe_callB call_isi (by rfl) G.zIsinstance (by decide +kernel) (pa_cons (pv 2) (pa_cons (pe_bltn (v := .ty "list") (by rfl) G.zList (by decide +kernel) rfl) pa_nil))))) pss_never pss_nil)
      (pss_cons (ps_set (i := 3) scCheck.nd rfl (.inl rfl) (C8.pe_c c2 hr (by decide) (by rfl) (pa_cons (pv 0) (pa_cons (pe_listRg rfl (by rfl) G.zList (prg_1 (by rfl) G.zRange (pe_callB call_len_seq (by rfl) G.zLen PySem.boot_len (pa_cons (pv 0) pa_nil)))) pa_nil))))
      (pss_cons (ps_set (i := 4) scCheck.nd rfl (.inl rfl) (pe_lst pa_nil))
      (pss_cut (ps_if (pt_cmpR op_gt (pv 1) pe_int (nomark _)) (pss_one (ps_set (i := 4) scCheck.nd rfl (.inl rfl) (C8.pe_c c7 hr (Nat.le_refl _) (by rfl) (pa_cons pe_int (pa_cons (pe_callB call_len_seq (by rfl) G.zLen PySem.boot_len (pa_cons (pv 0) pa_nil)) (pa_cons (pe_op op_sub (pv 1) pe_int) pa_nil)))))) pss_nil)
      (pss_cons (ps_for PassesOwn.never rfl (pi_enum (by rfl) G.zEnum (pa_cons (pv 2) pa_nil)) (pg_tup rfl (pgs_cons (pg_name (i := 5) scCheck.nd rfl (Or.inl rfl)) (pgs_cons (pg_name (i := 6) scCheck.nd rfl (Or.inl rfl)) pgs_nil)))
        (pss_one (ps_if (PW.pt (pw_or (pt_cmpR op_ge (pv 5) (pe_callB call_len_seq (by rfl) G.zLen PySem.boot_len (pa_cons (pv 4) pa_nil)) (nomark _))
          (pw_or1 (pt_not (pt_val (C8.pe_c c4 hr (by decide) (by rfl) (pa_cons (pv 0) (pa_cons (pe_ix ix_list (pv 4) (pv 5) (fun _ _ => rfl)) (pa_cons (pv 3) (pa_cons (pv 6) pa_nil)))))))))) pss_never pss_nil)))
      (pss_one (ps_if (pt_cmpR op_lt (pe_callB call_len_seq (by rfl) G.zLen PySem.boot_len (pa_cons (pv 2) pa_nil)) (pe_callB call_len_seq (by rfl) G.zLen PySem.boot_len (pa_cons (pv 4) pa_nil)) (nomark _)) pss_never pss_nil)))))))), ?_⟩
    refine ⟨_, rfl, _, ts, rfl, hv, hg, fun H1 e1 => ?_⟩
    refine ⟨_, rfl, _, rfl, a, xs, rfl, .inl (ex_l e1 ha), (m : Int), 0, (xs.length : Int), rfl, _, rfl, ?_⟩
    rw [decide_eq_true (show (0 : Int) ≤ m ∧ (m : Int) ≤ (xs.length : Int) by have := hx.len; omega)]
    refine iteF ?_
    refine ⟨_, rfl, _, _, _, _, true, rfl, .ty _, ty_l (ex_l e1 hb), kit_ty (by decide +kernel), true, rfl, iteF ?_⟩
    refine ⟨_, rfl, _, rfl, a, xs, rfl, .inl (ex_l e1 ha), _, rfl, rg_ok (by have := hx.len; omega), fun r nr => ?_⟩
    have hR : upd H1 r (.lst (rgV 0 (xs.length : Int))) r = some (.lst ((al ts).map vN)) := by rw [upd_same, show (xs.length : Int) = (ts.length : Int) by rw [hx.len], rg_al]
    have er := Ex.new (H := H1) (o := .lst (rgV 0 (xs.length : Int))) nr
    refine ⟨_, _, ts, al ts, rfl, dpx (e1.trans er) hv, ch_dp (sq_of hR), hg, al_lt ts, by rw [al_len]; exact ht6, fun pr H3 e3 npr hpr => ?_⟩
    have e03 : Ex H H3 := (e1.trans er).trans e3
    refine ⟨Nat.zero_le _, fun ba nba => ?_⟩
    refine ⟨fun σ H4 => ∃ ba zs, σ = [some (V.ref a), some (vN m), some (V.ref b), some (V.ref pr), some (V.ref ba), none, none] ∧ Ex H3 H4 ∧ H4 ba = some (.lst zs) ∧ All2 (Il H4) zs (barred ts m), ?_, ?_⟩
    · refine ⟨_, rfl, _, _, rfl, rfl, _, rfl, ?_⟩
      have hu : upd H3 ba (.lst []) ba = some (.lst []) := upd_same
      by_cases h0 : 0 < m
      · rw [decide_eq_true (show (0 : Int) < (m : Int) by omega)]
        refine iteT ⟨_, rfl, a, xs, rfl, .inl (ex_l (e03.trans (Ex.new nba)) ha), _, rfl, _, _, rfl, rfl, 0, ts.length, m - 1, ?_, by omega, by omega, ht6, by omega, fun p zs H4 e4 np hp4 hz => ?_⟩
        · show [V.int 0, V.int (xs.length : Int), V.int ((m : Int) - 1)] = [vN 0, vN ts.length, vN (m - 1)]
          rw [hlen, show (m : Int) - 1 = ((m - 1 : Nat) : Int) by omega]
          rfl
        · refine ⟨p, zs, rfl, (Ex.new nba).trans e4, hp4, ?_⟩
          unfold barred
          rw [if_pos h0]
          exact hz.mono fun v c z => z.ex fr_sub
      · rw [decide_eq_false (show ¬ (0 : Int) < (m : Int) by omega)]
        refine iteF ⟨ba, [], rfl, Ex.new nba, upd_same, ?_⟩
        unfold barred
        rw [if_neg h0]
        exact .nil
    · rintro σ H4 ⟨ba, zs, rfl, e4, hba, hz⟩
      have e04 := e03.trans e4
      refine ⟨_, rfl, b, ws, rfl, ex_l e04 hb, ?_⟩
      refine for_it (walk_enum (xs := ws)) (fun i σ H5 => ∃ x5 x6, σ = [some (V.ref a), some (vN m), some (V.ref b), some (V.ref pr), some (V.ref ba), x5, x6] ∧ Ex H4 H5) ⟨none, none, rfl, Ex.refl _⟩
        (fun i σ H5 _ z => by obtain ⟨_, _, _, e⟩ := z; exact ex_l (e04.trans e) hb) ?_ ?_
      · rintro i x σ H5 H6 hi ⟨x5, x6, rfl, e5⟩ ⟨T, v1, v2, rfl, nT, rfl, g1, g2⟩
        cases (Option.some.inj g1)
        have g2' : ws[i]? = some v2 := g2
        obtain ⟨p, hpi, hpd⟩ := hw.get g2'
        have hil : i < zs.length := by
          rw [hz.len, ← hok.len]
          exact (List.getElem?_eq_some_iff.mp hpi).1
        obtain ⟨c, hc, hcv⟩ := hz.get (List.getElem?_eq_getElem hil)
        obtain ⟨o1, o2⟩ := hok.at_ i p c hpi hc
        obtain ⟨f1, f2⟩ := R_fine hg o1
        have hc2 : (∀ k ∈ c, k < ts.length) ∧ c.length ≤ 6 := by
          have hcm := List.mem_of_getElem? hc
          unfold barred at hcm
          by_cases h0 : 0 < m
          · rw [if_pos h0] at hcm
            exact ch_ok hcm (by omega)
          · rw [if_neg h0] at hcm
            simp at hcm
        have e46 : Ex H4 (upd H5 T (.tup [.int (i : Nat), v2])) := e5.trans (Ex.new nT)
        have hba6 := e46 _ _ hba
        refine ⟨T, _, rfl, st_of upd_same, rfl, _, _, rfl, _, _, rfl, rfl, ?_⟩
        refine ⟨_, rfl, _, rfl, ba, zs, rfl, .inl (sq_of hba6), _, _, rfl, rfl, _, rfl, ?_⟩
        rw [decide_eq_false (show ¬ ((zs.length : Int) ≤ (i : Int)) by omega)]
        refine iteF ?_
        refine ⟨_, rfl, _, rfl, _, rfl, ba, zs, (i : Int), _, rfl, rfl, sq_of hba6, atI_nat (List.getElem?_eq_getElem hil), _, rfl, _, rfl, ?_⟩
        refine ⟨_, _, _, _, ts, c, R ts (al ts), p, rfl, dpx (e04.trans e46) hv, dpx e46 hcv.dp, dpx (e4.trans e46) hpr.dp, dpx (e04.trans e46) hpd, hg, hc2.1, hc2.2, o1, o2, f1, f2, fun H7 e7 => ?_⟩
        exact ⟨true, rfl, iteF ⟨_, _, rfl, e46.trans e7⟩⟩
      · rintro σ H5 ⟨x5, x6, rfl, e5⟩
        refine ⟨_, rfl, b, ws, rfl, .inl (ex_l (e04.trans e5) hb), _, rfl, ba, zs, rfl, .inl (sq_of (e5 _ _ hba)), _, _, rfl, rfl, _, rfl, ?_⟩
        rw [decide_eq_false (show ¬ ((ws.length : Int) < (zs.length : Int)) by rw [hw.len, hz.len, hok.len]; omega)]
        exact iteF (q H5 (e04.trans e5))
end
end Fw
namespace Fw
open PySem PySem.Spec PyProof.Rows L2 Evl
section
variable {P : Program} {w : World} {K : PySem.W.Frag} {mg : Str → Option Value} {base : Heap}
/-! _law_mixed -/
abbrev sMixed : Stmt := topS 28
def spMixed : Sp := fun vs H Q _ => ∃ c k : Int, vs = [.int c, .int k] ∧ ∀ r : Int, Q (.int r) H
theorem scMixed : FnScope ["_law_cell", "_law_k", "_law_number"] ["_law_cell", "_law_k"] (defScope sMixed) := ⟨rfl, rfl, rfl, by decide +kernel, rfl, by decide +kernel, by decide +kernel⟩
theorem mod_in {i j : Int} (h : 0 < j) (h2 : j ≤ 2 ^ 64) : -(2 ^ 64) < i % j ∧ i % j < 2 ^ 64 := by
  have a := Int.emod_nonneg i (Int.ne_of_gt h)
  have b := Int.emod_lt_of_pos i h
  omega
theorem c_mixed (D : Dn K mg "_law_mixed" sMixed ["_law_cell", "_law_k"]) : C8.Cal P w K mg base 1 "_law_mixed" spMixed [] := by
  refine cal_of D scMixed (fun vs H Q E h => ?_) (fun f cdv A outer s H vs Q E hr h => ?_)
  · obtain ⟨c, k, rfl, _⟩ := h
    rfl
  · obtain ⟨c, k, rfl, q⟩ := h
    refine ⟨_, pss_cons (ps_set (i := 2) scMixed.nd rfl (.inl rfl) (pe_op op_add (pe_op op_mod (pv 0) pe_int) (pe_op op_mul (pe_op op_fdivW (pv 0) pe_int) pe_int)))
      (pss_cons (ps_set (i := 2) scMixed.nd rfl (.inl rfl) (pe_op op_mod (pe_op op_mul (pe_op op_add (pe_op op_add (pv 2) (pe_op op_mul pe_int (pv 1))) pe_int) pe_int) pe_int))
      (pss_cons (ps_set (i := 2) scMixed.nd rfl (.inl rfl) (pe_op op_mod (pe_op op_mul (pv 2) (pe_op op_add (pe_op op_add (pe_op op_fdiv (pv 2) pe_int) pe_int) (pv 1))) pe_int))
      (pss_one (ps_ret (pe_op op_mod (pe_op op_mul (pv 2) (pe_op op_add (pe_op op_fdiv (pv 2) pe_int) pe_int)) pe_int))))), ?_⟩
    refine ⟨_, rfl, _, _, rfl, rfl, by show (0 : Int) < 2147483629; decide, _, rfl, _, _, rfl, rfl, wide_div (b := 31) (by decide) (by decide) (by decide) (by decide), _, _, rfl, rfl, .inr ⟨by decide, by decide⟩, _, _, rfl, rfl, ?_⟩
    refine ⟨_, rfl, _, rfl, _, _, rfl, rfl, .inl ⟨by decide, by decide⟩, _, _, rfl, rfl, _, _, rfl, rfl, _, _, rfl, rfl, .inr ⟨by decide, by decide⟩, _, _, rfl, rfl, by show (0 : Int) < 2147483629; decide, ?_⟩
    refine ⟨_, rfl, _, rfl, _, _, rfl, rfl, ⟨by decide, by decide⟩, _, _, rfl, rfl, _, rfl, _, _, rfl, rfl, _, _, rfl, rfl, .inl (mod_in (by decide) (by decide)), _, _, rfl, rfl, by show (0 : Int) < 2147483587; decide, ?_⟩
    refine ⟨_, rfl, _, rfl, _, _, rfl, rfl, ⟨by decide, by decide⟩, _, _, rfl, rfl, _, _, rfl, rfl, .inl (mod_in (by decide) (by decide)), _, _, rfl, rfl, by show (0 : Int) < 2147483563; decide, ?_⟩
    exact q _
/-! _law_source -/
abbrev sSource : Stmt := topS 29
def spSource : Sp := fun vs H Q _ => ∃ c : Int, vs = [.int c] ∧ ∀ p, H p = none → Q (.ref p) (upd H p (.lst [.int c, .int c, .int 0]))
theorem scSource : FnScope ["_law_cell"] ["_law_cell"] (defScope sSource) := ⟨rfl, rfl, rfl, by decide +kernel, rfl, by decide +kernel, by decide +kernel⟩
theorem c_source (D : Dn K mg "_law_source" sSource ["_law_cell"]) : C8.Cal P w K mg base 1 "_law_source" spSource [] := by
  refine cal_of D scSource (fun vs H Q E h => ?_) (fun f cdv A outer s H vs Q E hr h => ?_)
  · obtain ⟨c, rfl, _⟩ := h
    rfl
  · obtain ⟨c, rfl, q⟩ := h
    refine ⟨_, pss_one (ps_ret (pe_lst (pa_cons (pv 0) (pa_cons (pv 0) (pa_cons pe_int pa_nil))))), ?_⟩
    exact ⟨_, rfl, _, rfl, by show 3 ≤ sizeLine; decide, fun p np => q p np⟩
/-! _law_next -/
/-- the draws' list -/
def Src (H : Hp) (s : Addr) : Prop := ∃ a b c : Int, H s = some (.lst [.int a, .int b, .int c])
theorem Src.put {H : Hp} {s : Addr} {a b c : Int} : Src (upd H s (.lst [.int a, .int b, .int c])) s := ⟨a, b, c, upd_same⟩
abbrev sNext : Stmt := topS 30
def spNext : Sp := fun vs H Q _ => ∃ s m, vs = [.ref s, .int m] ∧ Src H s ∧ 0 < m ∧ m < 1073741824 ∧ ∀ r a b c : Int, 0 ≤ r → r < m → Q (.int r) (upd H s (.lst [.int a, .int b, .int c]))
theorem scNext : FnScope ["_law_source_here", "_law_many", "_law_found"] ["_law_source_here", "_law_many"] (defScope sNext) := ⟨rfl, rfl, rfl, by decide +kernel, rfl, by decide +kernel, by decide +kernel⟩
theorem c_next (D : Dn K mg "_law_next" sNext ["_law_source_here", "_law_many"]) (c1 : C8.Cal P w K mg base 1 "_law_mixed" spMixed []) : C8.Cal P w K mg base 2 "_law_next" spNext [] := by
  refine cal_of D scNext (fun vs H Q E h => ?_) (fun f cdv A outer s H vs Q E hr h => ?_)
  · obtain ⟨s, m, rfl, _⟩ := h
    rfl
  · obtain ⟨l, m, rfl, ⟨a, b, c, hl⟩, h0, h1, q⟩ := h
    refine ⟨_, pss_cons (ps_if (pt_cmpR op_ge (pe_ix ix_list (pv 0) pe_int (fun _ _ => rfl)) (pe_op op_pow pe_int pe_int) (nomark _))
        (pss_cons (ps_set (i := 2) scNext.nd rfl (.inl rfl) (pe_op op_mod (pe_ix ix_list (pv 0) pe_int (fun _ _ => rfl)) (pv 1)))
        (pss_cons (ps_asg (pe_op op_fdiv (pe_ix ix_list (pv 0) pe_int (fun _ _ => rfl)) (pv 1)) (pg_sub (pv 0) pe_int set_list))
        (pss_one (ps_ret (pv 2))))) pss_nil)
      (pss_cons (ps_asg (pe_op op_add (pe_ix ix_list (pv 0) pe_int (fun _ _ => rfl)) pe_int) (pg_sub (pv 0) pe_int set_list))
      (pss_one (ps_ret (pe_op op_mod (C8.pe_c c1 hr (Nat.le_refl _) (by rfl) (pa_cons (pe_ix ix_list (pv 0) pe_int (fun _ _ => rfl)) (pa_cons (pe_ix ix_list (pv 0) pe_int (fun _ _ => rfl)) pa_nil))) (pv 1))))), ?_⟩
    refine ⟨_, rfl, l, _, 0, _, rfl, rfl, sq_of hl, rfl, _, _, rfl, rfl, ⟨by decide, by decide, by decide⟩, _, _, rfl, rfl, _, rfl, ?_⟩
    refine ite2 (fun _ => ?_) (fun _ => ?_)
    · refine ⟨_, rfl, l, _, 0, _, rfl, rfl, sq_of hl, rfl, _, rfl, _, _, rfl, rfl, h0, ?_⟩
      refine ⟨_, rfl, l, _, 0, _, rfl, rfl, sq_of hl, rfl, _, rfl, _, _, rfl, rfl, ⟨h0, h1⟩, _, rfl, l, _, 0, 0, rfl, rfl, hl, rfl, ?_⟩
      exact ⟨_, rfl, q _ _ _ _ (Int.emod_nonneg _ (Int.ne_of_gt h0)) (Int.emod_lt_of_pos _ h0)⟩
    · refine ⟨_, rfl, l, _, 2, _, rfl, rfl, sq_of hl, rfl, _, _, rfl, rfl, _, rfl, l, _, 2, 2, rfl, rfl, hl, rfl, ?_⟩
      refine ⟨_, rfl, l, _, 1, _, rfl, rfl, sq_of upd_same, rfl, _, rfl, l, _, 2, _, rfl, rfl, sq_of upd_same, rfl, _, _, rfl, fun r => ⟨_, rfl, _, _, rfl, rfl, h0, ?_⟩⟩
      exact q _ _ _ _ (Int.emod_nonneg _ (Int.ne_of_gt h0)) (Int.emod_lt_of_pos _ h0)
end
end Fw
namespace Fw
open PySem PySem.Spec PyProof.Rows L2 Evl
/-- all but the draws' list stands -/
def Exs (s : Addr) (H H' : Hp) : Prop := ∀ b o, b ≠ s → H b = some o → H' b = some o
theorem Exs.refl (s : Addr) (H : Hp) : Exs s H H := fun _ _ _ z => z
theorem Exs.trans {s : Addr} {H H1 H2 : Hp} (a : Exs s H H1) (b : Exs s H1 H2) : Exs s H H2 := fun c o n z => b c o n (a c o n z)
theorem Exs.of {s : Addr} {H H1 : Hp} (e : Ex H H1) : Exs s H H1 := fun b o _ z => e b o z
theorem Exs.src {s : Addr} {H : Hp} {o : HO} : Exs s H (upd H s o) := fun b u n z => by rw [upd_ne n]; exact z
theorem Exs.new {s : Addr} {H : Hp} {p : Addr} {o : HO} (h : H p = none) : Exs s H (upd H p o) := .of (Ex.new h)
theorem Exs.mut {s p : Addr} {H H' : Hp} {o : HO} (e : Exs s H H') (h : H p = none) : Exs s H (upd H' p o) := fun b u n z => by
  rw [upd_ne (ne_of_none z h)]
  exact e b u n z
theorem Exs.none {s p : Addr} {H H' : Hp} (e : Exs s H H') (n : p ≠ s) (h : H' p = none) : H p = none := by
  cases z : H p with
  | none => rfl
  | some o => rw [e p o n z] at h; cases h
theorem Src.ne {H : Hp} {s p : Addr} (h : Src H s) (n : H p = none) : p ≠ s := fun z => by
  obtain ⟨a, b, c, e⟩ := h
  rw [z, e] at n
  cases n
theorem Src.new {H : Hp} {s p : Addr} {o : HO} (h : Src H s) (n : H p = none) : Src (upd H p o) s := by
  have ne := h.ne n
  obtain ⟨a, b, c, e⟩ := h
  exact ⟨a, b, c, by rw [upd_ne ne.symm]; exact e⟩
theorem Src.mut {H : Hp} {s p : Addr} {o : HO} (h : Src H s) (n : p ≠ s) : Src (upd H p o) s := by
  obtain ⟨a, b, c, e⟩ := h
  exact ⟨a, b, c, by rw [upd_ne n.symm]; exact e⟩
theorem ins_perm {α : Type} (l : List α) (i : Nat) (y : α) : (l.take i ++ [y] ++ l.drop i).Perm (y :: l) := by
  have h : (l.take i ++ y :: l.drop i).Perm (y :: (l.take i ++ l.drop i)) := List.perm_middle
  rw [List.take_append_drop] at h
  rw [List.append_assoc]
  exact h
theorem ins_map {α β : Type} (f : α → β) (l : List α) (i : Nat) (y : α) : (l.map f).take i ++ [f y] ++ (l.map f).drop i = (l.take i ++ [y] ++ l.drop i).map f := by
  simp [List.map_take, List.map_drop]
section
variable {P : Program} {w : World} {K : PySem.W.Frag} {mg : Str → Option Value} {base : Heap}
/-! _law_numbers -/
abbrev sNumbers : Stmt := topS 31
def spNumbers : Sp := fun vs H Q _ => ∃ s m, vs = [.ref s, .int m] ∧ Src H s ∧ 1 ≤ m ∧ m ≤ 6 ∧
  ∀ p (ns : List Int) H1, Exs s H H1 → Src H1 s → H p = none → H1 p = some (.lst (ns.map V.int)) → ns.Nodup → (ns.length : Int) = m → (∀ n ∈ ns, 0 ≤ n ∧ n ≤ 1000000000) → Q (.ref p) H1
theorem scNumbers : FnScope ["_law_source_here", "_law_many", "_law_start", "_law_found", "_law_k"] ["_law_source_here", "_law_many"] (defScope sNumbers) := ⟨rfl, rfl, rfl, by decide +kernel, rfl, by decide +kernel, by decide +kernel⟩
theorem c_numbers (D : Dn K mg "_law_numbers" sNumbers ["_law_source_here", "_law_many"]) (G : Gs mg) (c2 : C8.Cal P w K mg base 2 "_law_next" spNext []) : C8.Cal P w K mg base 3 "_law_numbers" spNumbers [] := by
  refine cal_of D scNumbers (fun vs H Q E h => ?_) (fun f cdv A outer s H vs Q E hr h => ?_)
  · obtain ⟨s, m, rfl, _⟩ := h
    rfl
  · obtain ⟨l, m, rfl, hs, hm1, hm6, q⟩ := h
    refine ⟨_, pss_cons (ps_set (i := 2) scNumbers.nd rfl (.inl rfl) (pe_ix ix_list (pe_lst (pa_cons (C8.pe_c c2 hr (Nat.le_refl _) (by rfl) (pa_cons (pv 0) (pa_cons pe_int pa_nil))) (pa_cons (C8.pe_c c2 hr (Nat.le_refl _) (by rfl) (pa_cons (pv 0) (pa_cons (pe_op op_sub (pe_op op_pow pe_int pe_int) pe_int) pa_nil))) pa_nil)))
        (C8.pe_c c2 hr (Nat.le_refl _) (by rfl) (pa_cons (pv 0) (pa_cons pe_int pa_nil))) (fun _ _ => rfl)))
      (pss_cons (ps_set (i := 3) scNumbers.nd rfl (.inl rfl) (pe_lst pa_nil))
      (pss_cons (ps_for PassesOwn.never rfl (pi_range1 (by rfl) G.zRange (pa_cons (pv 1) pa_nil)) (pg_name (i := 4) scNumbers.nd rfl (.inl rfl))
        (pss_one (ps_expr (pe_bm PySem.F.plainAttrs_list PySem.F.slot_list_insert PySem.F.type_list_insert mt_insert (pv 3) (pa_cons
          (C8.pe_c c2 hr (Nat.le_refl _) (by rfl) (pa_cons (pv 0) (pa_cons (pe_op op_add (pe_callB call_len_seq (by rfl) G.zLen PySem.boot_len (pa_cons (pv 3) pa_nil)) pe_int) pa_nil)))
          (pa_cons (pe_op op_add (pv 2) (pe_op op_mul (pe_op op_add pe_int (pe_op op_mod (pv 2) pe_int)) (pv 4))) pa_nil))))))
      (pss_one (ps_ret (pv 3))))), ?_⟩
    refine ⟨_, rfl, l, 50, rfl, hs, by decide, by decide, fun r1 a1 b1 c1 h10 h11 => ?_⟩
    refine ⟨_, rfl, _, _, rfl, rfl, ⟨by decide, by decide, by decide⟩, _, _, rfl, rfl, l, 999999900, rfl, Src.put, by decide, by decide, fun r2 a2 b2 c3 h20 h21 => ?_⟩
    refine ⟨by show 2 ≤ sizeLine; decide, fun u nu => ?_⟩
    rw [upd_upd] at nu ⊢
    have nul : u ≠ l := fun z => by rw [z, upd_same] at nu; cases nu
    refine ⟨_, rfl, l, 2, rfl, Src.mut Src.put nul, by decide, by decide, fun r3 a3 b3 c4 h30 h31 => ?_⟩
    generalize hH : upd (upd (upd H l (.lst [.int a2, .int b2, .int c3])) u (.lst [.int r1, .int r2])) l (.lst [.int a3, .int b3, .int c4]) = H1
    have hu : H1 u = some (.lst [.int r1, .int r2]) := by rw [← hH, upd_ne nul, upd_same]
    have hs1 : Src H1 l := by rw [← hH]; exact Src.put
    have nu0 : H u = none := by rw [upd_ne nul] at nu; exact nu
    have e1 : Exs l H H1 := by rw [← hH]; exact ((Exs.src.mut nu0).trans Exs.src)
    obtain ⟨st, hst, st0, st1⟩ : ∃ st, atI ([.int r1, .int r2] : List V) r3 = some (.int st) ∧ 0 ≤ st ∧ st < 999999900 := by
      have h3 : r3 = 0 ∨ r3 = 1 := by omega
      rcases h3 with rfl | rfl
      · exact ⟨r1, rfl, h10, by omega⟩
      · exact ⟨r2, rfl, h20, h21⟩
    refine ⟨u, _, r3, .int st, rfl, rfl, sq_of hu, hst, ?_⟩
    refine ⟨Nat.zero_le _, fun o no => ?_⟩
    refine ⟨_, rfl, m, rfl, by omega, by omega, ?_⟩
    have nol := hs1.ne no
    have no0 : H o = none := e1.none nol no
    refine for_range (lo := 0) (n := m.toNat) (fun i σ H2 => ∃ x ns, σ = [some (V.ref l), some (V.int m), some (V.int st), some (V.ref o), x] ∧ Exs l H H2 ∧ Src H2 l ∧ H2 o = some (.lst ((ns : List Int).map V.int)) ∧ ns.length = i ∧ ns.Nodup ∧ ∀ n ∈ ns, ∃ k : Nat, k < i ∧ n = st + (1 + st % 5) * (k : Int))
      ⟨none, [], rfl, e1.mut no0, hs1.new no, upd_same, rfl, List.nodup_nil, fun n hn => by simp at hn⟩ ?_ ?_
    · rintro i σ H2 hi ⟨x, ns, rfl, e2, hs2, ho, hnl, hnd, hns⟩
      refine ⟨_, rfl, .inl ⟨rfl, _, sq_of ho⟩, ?_⟩
      refine ⟨_, rfl, _, rfl, o, _, rfl, .inl (sq_of ho), _, _, rfl, rfl, l, _, rfl, hs2, ?_, ?_, fun r a b c hr0 hr1 => ?_⟩
      · show (0 : Int) < ((ns.map V.int).length : Int) + 1
        omega
      · show ((ns.map V.int).length : Int) + 1 < 1073741824
        rw [List.length_map]
        omega
      have ho3 : upd H2 l (.lst [.int a, .int b, .int c]) o = some (.lst (ns.map V.int)) := by rw [upd_ne nol]; exact ho
      have d0 := Int.emod_nonneg st (show (5 : Int) ≠ 0 by decide)
      have d1 := Int.emod_lt_of_pos st (show (0 : Int) < 5 by decide)
      refine ⟨_, rfl, _, rfl, _, _, rfl, rfl, by show (0 : Int) < 5; decide, _, _, rfl, rfl, _, rfl, _, _, rfl, rfl, .inl ⟨by show -(2 ^ 64) < 1 + st % 5; omega, by show 1 + st % 5 < 2 ^ 64; omega⟩, _, _, rfl, rfl, ?_⟩
      have hr1' : r < ((ns.map V.int).length : Int) + 1 := hr1
      rw [List.length_map] at hr1'
      refine ⟨o, ns.map V.int, r, _, rfl, rfl, ho3, by rw [List.length_map]; exact sz_lt (by omega), hr0, by omega, ?_⟩
      have hnew : ∀ n ∈ ns, n ≠ st + (1 + st % 5) * (0 + (i : Nat)) := fun n hn => by
        obtain ⟨k, hk, rfl⟩ := hns n hn
        rw [Int.zero_add]
        intro z
        have z2 : (1 + st % 5) * (k : Int) = (1 + st % 5) * (i : Int) := by omega
        have z3 := Int.eq_of_mul_eq_mul_left (show (1 + st % 5) ≠ 0 by omega) z2
        omega
      refine ⟨_, ns.take r.toNat ++ [st + (1 + st % 5) * (0 + (i : Nat))] ++ ns.drop r.toNat, rfl, (e2.trans Exs.src).mut no0, Src.mut Src.put nol, ?_, ?_, ?_, ?_⟩
      · rw [upd_same, ← ins_map]
      · rw [(ins_perm ns r.toNat _).length_eq, List.length_cons, hnl]
      · rw [(ins_perm ns r.toNat _).nodup_iff]
        exact List.nodup_cons.mpr ⟨fun z => hnew _ z rfl, hnd⟩
      · intro n hn
        rcases List.mem_cons.mp ((ins_perm ns r.toNat _).mem_iff.mp hn) with z | z
        · exact ⟨i, Nat.lt_succ_self i, by rw [z, Int.zero_add]⟩
        · obtain ⟨k, hk, e⟩ := hns n z
          exact ⟨k, by omega, e⟩
    · rintro σ H2 ⟨x, ns, rfl, e2, hs2, ho, hnl, hnd, hns⟩
      refine ⟨_, rfl, q o ns H2 e2 hs2 no0 ho hnd (by omega) fun n hn => ?_⟩
      obtain ⟨k, hk, rfl⟩ := hns n hn
      have d0 := Int.emod_nonneg st (show (5 : Int) ≠ 0 by decide)
      have d1 := Int.emod_lt_of_pos st (show (0 : Int) < 5 by decide)
      have hk5 : (k : Int) ≤ 5 := by omega
      have m0 : 0 ≤ (1 + st % 5) * (k : Int) := Int.mul_nonneg (by omega) (by omega)
      have m1 : (1 + st % 5) * (k : Int) ≤ 5 * 5 := Int.mul_le_mul (by omega) hk5 (by omega) (by omega)
      omega
end
end Fw
namespace Fw
open PySem PySem.Spec PyProof.Rows L2 Evl
/-- a finding's, a tasting's place in the heap -/
def Fl (G : Hp) (v : V) (f : Fi) : Prop := ∃ t, v = .ref t ∧ G t = some (.tup [.int f.1, .int f.2.1, .int f.2.2])
theorem Fl.ex {G G1 : Hp} {v : V} {f : Fi} (e : Ex G G1) (h : Fl G v f) : Fl G1 v f := by
  obtain ⟨t, rfl, h⟩ := h
  exact ⟨t, rfl, e _ _ h⟩
def Tl (G : Hp) (v : V) (t : List Fi) : Prop := ∃ p xs, v = .ref p ∧ G p = some (.lst xs) ∧ All2 (Fl G) xs t
theorem Tl.ex {G G1 : Hp} {v : V} {t : List Fi} (e : Ex G G1) (h : Tl G v t) : Tl G1 v t := by
  obtain ⟨p, xs, rfl, h1, h2⟩ := h
  exact ⟨p, xs, rfl, e _ _ h1, h2.mono fun _ _ z => z.ex e⟩
theorem Fl.dp {K : PySem.W.Frag} {G : Hp} {v : V} {f : Fi} (h : Fl G v f) : Dp K G v (dFi f) := by
  obtain ⟨t, rfl, h⟩ := h
  exact fi_dp (st_of h)
theorem Tl.dp {K : PySem.W.Frag} {G : Hp} {v : V} {t : List Fi} (h : Tl G v t) : Dp K G v (dTg t) := by
  obtain ⟨p, xs, rfl, h1, h2⟩ := h
  exact dp_mk (sq_of h1) (h2.mono fun _ _ z => z.dp)
/-- what is new, the draws' list aside -/
theorem frs_ex {s : Addr} {H H1 H2 : Hp} (h : Src H s) (e : Exs s H1 H2) : Ex (fr H H1) (fr H H2) := fr_ex (fun _ z => z) fun b o n z => e b o (h.ne n) z
theorem frs_left {s : Addr} {H H1 H2 : Hp} (h1 : Src H1 s) (e : Exs s H H1) : Ex (fr H1 H2) (fr H H2) := fr_ex (fun b n => e.none (h1.ne n) n) fun _ _ _ z => z
theorem All2.ins {α : Type} {F : V → α → Prop} {xs : List V} {l : List α} {x : V} {a : α} (h : All2 F xs l) (hx : F x a) (i : Nat) : All2 F (xs.take i ++ [x] ++ xs.drop i) (l.take i ++ [a] ++ l.drop i) := by
  have h1 : All2 F (xs.take i) (l.take i) := by
    refine ⟨by rw [List.length_take, List.length_take, h.len], fun j y b hy hb => ?_⟩
    rw [List.getElem?_take] at hy hb
    by_cases c : j < i
    · rw [if_pos c] at hy hb
      exact h.at_ j y b hy hb
    · rw [if_neg c] at hy
      cases hy
  have h2 : All2 F (xs.drop i) (l.drop i) := by
    refine ⟨by rw [List.length_drop, List.length_drop, h.len], fun j y b hy hb => ?_⟩
    rw [List.getElem?_drop] at hy hb
    exact h.at_ _ y b hy hb
  exact (h1.snoc hx).app h2
section
variable {P : Program} {w : World} {K : PySem.W.Frag} {mg : Str → Option Value} {base : Heap}
/-! _law_finding -/
abbrev sLfind : Stmt := topS 32
def spLfind : Sp := fun vs H Q _ => ∃ s n, vs = [.ref s, .int n] ∧ Src H s ∧ 0 ≤ n ∧ n ≤ 1000000000 ∧
  ∀ t (f : Fi) H1, Exs s H H1 → Src H1 s → H t = none → H1 t = some (.tup [.int f.1, .int f.2.1, .int f.2.2]) → f.1 = n → Fine f → Q (.ref t) H1
theorem scLfind : FnScope ["_law_source_here", "_law_number", "_law_low", "_law_high"] ["_law_source_here", "_law_number"] (defScope sLfind) := ⟨rfl, rfl, rfl, by decide +kernel, rfl, by decide +kernel, by decide +kernel⟩
theorem at3 {a b c : V} {r : Int} (h0 : 0 ≤ r) (h1 : r < 3) : (r = 0 ∧ atI [a, b, c] r = some a) ∨ (r = 1 ∧ atI [a, b, c] r = some b) ∨ (r = 2 ∧ atI [a, b, c] r = some c) := by
  have h : r = 0 ∨ r = 1 ∨ r = 2 := by omega
  rcases h with rfl | rfl | rfl
  · exact .inl ⟨rfl, rfl⟩
  · exact .inr (.inl ⟨rfl, rfl⟩)
  · exact .inr (.inr ⟨rfl, rfl⟩)
theorem at4 {a b c d : V} {r : Int} (h0 : 0 ≤ r) (h1 : r < 4) : atI [a, b, c, d] r = some a ∨ atI [a, b, c, d] r = some b ∨ atI [a, b, c, d] r = some c ∨ atI [a, b, c, d] r = some d := by
  have h : r = 0 ∨ r = 1 ∨ r = 2 ∨ r = 3 := by omega
  rcases h with rfl | rfl | rfl | rfl
  · exact .inl rfl
  · exact .inr (.inl rfl)
  · exact .inr (.inr (.inl rfl))
  · exact .inr (.inr (.inr rfl))
theorem c_lfind (D : Dn K mg "_law_finding" sLfind ["_law_source_here", "_law_number"]) (G : Gs mg) (c2 : C8.Cal P w K mg base 2 "_law_next" spNext []) : C8.Cal P w K mg base 3 "_law_finding" spLfind [] := by
  refine cal_of D scLfind (fun vs H Q E h => ?_) (fun f cdv A outer s H vs Q E hr h => ?_)
  · obtain ⟨s, m, rfl, _⟩ := h
    rfl
  · obtain ⟨l, n, rfl, hs, hn0, hn1, q⟩ := h
    refine ⟨_, pss_cons (ps_set (i := 2) scLfind.nd rfl (.inl rfl) (pe_ix ix_list (pe_lst (pa_cons (C8.pe_c c2 hr (Nat.le_refl _) (by rfl) (pa_cons (pv 0) (pa_cons pe_int pa_nil))) (pa_cons (pe_op op_mul pe_int (C8.pe_c c2 hr (Nat.le_refl _) (by rfl) (pa_cons (pv 0) (pa_cons pe_int pa_nil)))) (pa_cons pe_int pa_nil))))
        (C8.pe_c c2 hr (Nat.le_refl _) (by rfl) (pa_cons (pv 0) (pa_cons pe_int pa_nil))) (fun _ _ => rfl)))
      (pss_cons (ps_set (i := 3) scLfind.nd rfl (.inl rfl) (pe_callB (call_min2 rfl) (by rfl) G.zMin (by decide +kernel) (pa_cons pe_int (pa_cons (pe_op op_add (pv 2)
        (pe_ix ix_list (pe_lst (pa_cons pe_int (pa_cons (C8.pe_c c2 hr (Nat.le_refl _) (by rfl) (pa_cons (pv 0) (pa_cons pe_int pa_nil))) (pa_cons (C8.pe_c c2 hr (Nat.le_refl _) (by rfl) (pa_cons (pv 0) (pa_cons pe_int pa_nil))) (pa_cons pe_int pa_nil)))))
          (C8.pe_c c2 hr (Nat.le_refl _) (by rfl) (pa_cons (pv 0) (pa_cons pe_int pa_nil))) (fun _ _ => rfl))) pa_nil))))
      (pss_one (ps_ret (pe_tup (pa_cons (pv 1) (pa_cons (pv 2) (pa_cons (pv 3) pa_nil))))))), ?_⟩
    refine ⟨_, rfl, l, 101, rfl, hs, by decide, by decide, fun r1 a1 b1 c1 h10 h11 => ?_⟩
    refine ⟨_, rfl, l, 11, rfl, Src.put, by decide, by decide, fun r2 a2 b2 c3 h20 h21 => ⟨_, _, rfl, rfl, .inl ⟨by decide, by decide⟩, ?_⟩⟩
    refine ⟨by show 3 ≤ sizeLine; decide, fun u nu => ?_⟩
    rw [upd_upd] at nu ⊢
    have nul : u ≠ l := fun z => by rw [z, upd_same] at nu; cases nu
    refine ⟨_, rfl, l, 3, rfl, Src.mut Src.put nul, by decide, by decide, fun r3 a3 b3 c4 h30 h31 => ?_⟩
    generalize hH : upd (upd (upd H l (.lst [.int a2, .int b2, .int c3])) u (.lst [.int r1, .int (10 * r2), .int 30])) l (.lst [.int a3, .int b3, .int c4]) = H1
    have hu : H1 u = some (.lst [.int r1, .int (10 * r2), .int 30]) := by rw [← hH, upd_ne nul, upd_same]
    have hs1 : Src H1 l := by rw [← hH]; exact Src.put
    have nu0 : H u = none := by rw [upd_ne nul] at nu; exact nu
    have e1 : Exs l H H1 := by rw [← hH]; exact ((Exs.src.mut nu0).trans Exs.src)
    obtain ⟨lw, hlw, lw0, lw1⟩ : ∃ lw, atI ([.int r1, .int (10 * r2), .int 30] : List V) r3 = some (.int lw) ∧ 0 ≤ lw ∧ lw ≤ 100 := by
      rcases at3 (a := V.int r1) (b := V.int (10 * r2)) (c := V.int 30) h30 h31 with ⟨_, e⟩ | ⟨_, e⟩ | ⟨_, e⟩
      · exact ⟨_, e, h10, by omega⟩
      · exact ⟨_, e, by omega, by omega⟩
      · exact ⟨_, e, by omega, by omega⟩
    refine ⟨u, _, r3, .int lw, rfl, rfl, sq_of hu, hlw, ?_⟩
    -- the high
    refine ⟨_, rfl, _, rfl, l, 9, rfl, hs1, by decide, by decide, fun r4 a4 b4 c4 h40 h41 => ?_⟩
    refine ⟨_, rfl, l, 101, rfl, Src.put, by decide, by decide, fun r5 a5 b5 c5 h50 h51 => ?_⟩
    refine ⟨by show 4 ≤ sizeLine; decide, fun u2 nu2 => ?_⟩
    rw [upd_upd] at nu2 ⊢
    have nul2 : u2 ≠ l := fun z => by rw [z, upd_same] at nu2; cases nu2
    refine ⟨_, rfl, l, 4, rfl, Src.mut Src.put nul2, by decide, by decide, fun r6 a6 b6 c6 h60 h61 => ?_⟩
    generalize hH2 : upd (upd (upd H1 l (.lst [.int a5, .int b5, .int c5])) u2 (.lst [.int 0, .int r4, .int r5, .int 100])) l (.lst [.int a6, .int b6, .int c6]) = H2
    have hu2 : H2 u2 = some (.lst [.int 0, .int r4, .int r5, .int 100]) := by rw [← hH2, upd_ne nul2, upd_same]
    have hs2 : Src H2 l := by rw [← hH2]; exact Src.put
    have nu20 : H1 u2 = none := by rw [upd_ne nul2] at nu2; exact nu2
    have e2 : Exs l H1 H2 := by rw [← hH2]; exact ((Exs.src.mut nu20).trans Exs.src)
    obtain ⟨ad, had, ad0⟩ : ∃ ad, atI ([.int 0, .int r4, .int r5, .int 100] : List V) r6 = some (.int ad) ∧ 0 ≤ ad := by
      rcases at4 (a := V.int 0) (b := V.int r4) (c := V.int r5) (d := V.int 100) h60 h61 with e | e | e | e
      · exact ⟨_, e, by omega⟩
      · exact ⟨_, e, by omega⟩
      · exact ⟨_, e, by omega⟩
      · exact ⟨_, e, by omega⟩
    refine ⟨u2, _, r6, .int ad, rfl, rfl, sq_of hu2, had, _, _, rfl, rfl, _, _, rfl, ?_⟩
    refine ⟨_, rfl, _, rfl, _, rfl, by show 3 ≤ sizeLine; decide, fun t nt => ?_⟩
    have ntl := hs2.ne nt
    have nt0 : H t = none := e1.none ntl (e2.none ntl nt)
    refine q t (n, lw, if lw + ad < 100 then lw + ad else 100) _ ((e1.trans e2).trans (Exs.new nt)) (hs2.new nt) nt0 upd_same rfl ?_
    unfold Fine
    refine ⟨hn0, hn1, lw0, ?_, ?_⟩
    · show lw ≤ if lw + ad < 100 then lw + ad else 100
      split <;> omega
    · show (if lw + ad < 100 then lw + ad else 100) ≤ 100
      split <;> omega
/-! _law_tasting -/
abbrev sLtast : Stmt := topS 33
def spLtast : Sp := fun vs H Q _ => ∃ s b ns, vs = [.ref s, .ref b] ∧ Src H s ∧ b ≠ s ∧ H b = some (.lst ((ns : List Int).map V.int)) ∧ ns.Nodup ∧ ns.length ≤ 6 ∧ (∀ n ∈ ns, 0 ≤ n ∧ n ≤ 1000000000) ∧
  ∀ v t H1, Exs s H H1 → Src H1 s → Tl (fr H H1) v t → FineT t → (∀ f ∈ t, f.1 ∈ ns) → Q v H1
theorem scLtast : FnScope ["_law_source_here", "_law_numbers_here", "_law_found", "_law_number"] ["_law_source_here", "_law_numbers_here"] (defScope sLtast) := ⟨rfl, rfl, rfl, by decide +kernel, rfl, by decide +kernel, by decide +kernel⟩
theorem c_ltast (D : Dn K mg "_law_tasting" sLtast ["_law_source_here", "_law_numbers_here"]) (G : Gs mg) (c2 : C8.Cal P w K mg base 2 "_law_next" spNext []) (c3 : C8.Cal P w K mg base 3 "_law_finding" spLfind []) : C8.Cal P w K mg base 4 "_law_tasting" spLtast [] := by
  refine cal_of D scLtast (fun vs H Q E h => ?_) (fun f cdv A outer s H vs Q E hr h => ?_)
  · obtain ⟨s, b, ns, rfl, _⟩ := h
    rfl
  · obtain ⟨l, b, ns, rfl, hs, nbl, hb, hnd, hn6, hnb, q⟩ := h
    refine ⟨_, pss_cons (ps_set (i := 2) scLtast.nd rfl (.inl rfl) (pe_lst pa_nil))
      (pss_cons (ps_for PassesOwn.never rfl (pi_list (pv 1)) (pg_name (i := 3) scLtast.nd rfl (.inl rfl))
        (pss_one (ps_if (pt_cmpR op_gt (C8.pe_c c2 hr (by decide) (by rfl) (pa_cons (pv 0) (pa_cons pe_int pa_nil))) pe_int (nomark _))
          (pss_one (ps_expr (pe_bm PySem.F.plainAttrs_list PySem.F.slot_list_insert PySem.F.type_list_insert mt_insert (pv 2) (pa_cons
            (C8.pe_c c2 hr (by decide) (by rfl) (pa_cons (pv 0) (pa_cons (pe_op op_add (pe_callB call_len_seq (by rfl) G.zLen PySem.boot_len (pa_cons (pv 2) pa_nil)) pe_int) pa_nil)))
            (pa_cons (C8.pe_c c3 hr (by decide) (by rfl) (pa_cons (pv 0) (pa_cons (pv 3) pa_nil))) pa_nil))))) pss_nil)))
      (pss_one (ps_ret (pv 2)))), ?_⟩
    refine ⟨Nat.zero_le _, fun o no => ?_⟩
    have nol := hs.ne no
    have nob : b ≠ o := ne_of_none hb no
    refine ⟨_, rfl, b, rfl, ⟨_, sq_of ((Ex.new no) _ _ hb)⟩, ?_⟩
    refine for_list (xs := ns.map V.int) (fun i σ H1 => ∃ x ys t, σ = [some (V.ref l), some (V.ref b), some (V.ref o), x] ∧ Exs l H H1 ∧ Src H1 l ∧ H1 o = some (.lst ys) ∧ All2 (fun v f => v ≠ .ref o ∧ Fl (fr H H1) v f) ys t ∧ t.length ≤ i ∧ (t.map (·.1)).Nodup ∧ (∀ f ∈ t, Fine f ∧ f.1 ∈ ns.take i))
      ⟨none, [], [], rfl, Exs.new no, hs.new no, upd_same, .nil, Nat.le_refl _, List.nodup_nil, fun f hf => by simp at hf⟩ (fun i σ H1 _ z => by obtain ⟨_, _, _, _, e, _⟩ := z; exact sq_of (e _ _ nbl hb)) ?_ ?_
    · rintro i x σ H1 hi ⟨x3, ys, t, rfl, e1, hs1, ho, hys, htl, htn, htf⟩
      rw [List.getElem?_map] at hi
      cases en : ns[i]? with
      | none => rw [en] at hi; cases hi
      | some n =>
      rw [en] at hi
      cases hi
      have hni := (List.getElem?_eq_some_iff.mp en).1
      have et : ns.take (i + 1) = ns.take i ++ [n] := by rw [List.take_add_one, en] <;> rfl
      refine ⟨_, rfl, l, 4, rfl, hs1, by decide, by decide, fun r1 a1 b1 c1 h10 h11 => ⟨_, _, rfl, rfl, _, rfl, ?_⟩⟩
      have mono : ∀ H2, Exs l H1 H2 → H2 o = some (.lst ys) ∧ All2 (fun v f => v ≠ .ref o ∧ Fl (fr H H2) v f) ys t := fun H2 e2 => ⟨e2 _ _ nol ho, hys.mono fun v f z => ⟨z.1, z.2.ex (frs_ex hs e2)⟩⟩
      refine ite2 (fun _ => ?_) (fun _ => ?_)
      · generalize hH1 : upd H1 l (.lst [.int a1, .int b1, .int c1]) = H2
        have e2 : Exs l H1 H2 := by rw [← hH1]; exact Exs.src
        have hs2 : Src H2 l := by rw [← hH1]; exact Src.put
        have hl5 : ys.length ≤ 6 := by rw [hys.len]; omega
        refine ⟨_, rfl, .inl ⟨rfl, _, sq_of (mono _ e2).1⟩, ?_⟩
        refine ⟨_, rfl, _, rfl, o, _, rfl, .inl (sq_of (mono _ e2).1), _, _, rfl, rfl, l, _, rfl, hs2, ?_, ?_, fun r a b' c hr0 hr1 => ?_⟩
        · show (0 : Int) < (ys.length : Int) + 1
          omega
        · show (ys.length : Int) + 1 < 1073741824
          omega
        refine ⟨_, rfl, _, rfl, l, n, rfl, Src.put, (hnb n (List.mem_of_getElem? en)).1, (hnb n (List.mem_of_getElem? en)).2, fun u g H3 e3 hs3 nu hu hg1 hgf => ?_⟩
        have hr1' : r < (ys.length : Int) + 1 := hr1
        have e23 : Exs l H2 H3 := Exs.src.trans e3
        have nul := (Src.put (H := H2) (s := l) (a := a) (b := b') (c := c)).ne nu
        have nu2 : H2 u = none := by rw [upd_ne nul] at nu; exact nu
        have nu0 : H u = none := e1.none nul (e2.none nul nu2)
        have nuo : u ≠ o := fun z => by rw [z, (mono _ e2).1] at nu2; cases nu2
        obtain ⟨ho3, hys3⟩ := mono _ (e2.trans e23)
        refine ⟨o, ys, r, _, rfl, rfl, ho3, sz_lt (by omega), hr0, by omega, ?_⟩
        have hnew : ∀ f ∈ t, f.1 ≠ g.1 := fun f hf z => by
          have m := (htf f hf).2
          rw [z, hg1] at m
          have hnd2 : (ns.take (i + 1)).Nodup := hnd.sublist (List.take_sublist _ _)
          rw [et] at hnd2
          exact (List.nodup_append.mp hnd2).2.2 n m n (List.mem_singleton.mpr rfl) rfl
        refine ⟨_, _, t.take r.toNat ++ [g] ++ t.drop r.toNat, rfl, ((e1.trans e2).trans e23).mut no, Src.mut hs3 (fun z => nol z), upd_same, ?_, ?_, ?_, ?_⟩
        · refine All2.ins (hys3.mono fun v f z => ⟨z.1, ?_⟩) ⟨fun z => nuo (V.ref.inj z), u, rfl, ?_⟩ _
          · obtain ⟨t2, rfl, ht2⟩ := z.2
            obtain ⟨m1, m2⟩ := fr_in ht2
            exact ⟨t2, rfl, by rw [fr_at m1, upd_ne fun y => z.1 (by rw [y])]; exact m2⟩
          · rw [fr_at nu0, upd_ne nuo]
            exact hu
        · rw [(ins_perm t r.toNat g).length_eq, List.length_cons]
          omega
        · rw [((ins_perm t r.toNat g).map _).nodup_iff]
          show (g.1 :: t.map (·.1)).Nodup
          refine List.nodup_cons.mpr ⟨fun z => ?_, htn⟩
          obtain ⟨f, hf, e⟩ := List.mem_map.mp z
          exact hnew f hf e
        · intro f hf
          rw [et]
          rcases List.mem_cons.mp ((ins_perm t r.toNat g).mem_iff.mp hf) with z | z
          · rw [z]
            exact ⟨hgf, List.mem_append.mpr (.inr (List.mem_singleton.mpr hg1))⟩
          · exact ⟨(htf f z).1, List.mem_append.mpr (.inl (htf f z).2)⟩
      · obtain ⟨ho3, hys3⟩ := mono _ (Exs.src (H := H1) (o := .lst [.int a1, .int b1, .int c1]))
        refine ⟨_, ys, t, rfl, e1.trans Exs.src, Src.put, ho3, hys3, by omega, htn, fun f hf => ?_⟩
        rw [et]
        exact ⟨(htf f hf).1, List.mem_append.mpr (.inl (htf f hf).2)⟩
    · rintro σ H1 ⟨x3, ys, t, rfl, e1, hs1, ho, hys, htl, htn, htf⟩
      rw [List.length_map] at htl htf
      rw [List.take_length] at htf
      refine ⟨_, rfl, q (.ref o) t H1 e1 hs1 ⟨o, ys, rfl, by rw [fr_at no]; exact ho, hys.mono fun v f z => z.2⟩ ⟨by omega, htn, fun f hf => (htf f hf).1⟩ fun f hf => (htf f hf).2⟩
end
end Fw
namespace Fw
open PySem PySem.Spec PyProof.Rows L2 Evl
theorem cut_to (xs : List V) (m : Nat) : cutV xs none (some (m : Int)) = xs.take m := by
  unfold cutV
  rw [HT.sIx_none, HT.sIx_nat, List.drop_zero, Nat.sub_zero]
  by_cases h : m ≤ xs.length
  · rw [Nat.min_eq_left h]
  · rw [Nat.min_eq_right (by omega), List.take_length, List.take_of_length_le (by omega)]
theorem All2.take {α : Type} {F : V → α → Prop} {xs : List V} {l : List α} (h : All2 F xs l) (m : Nat) : All2 F (xs.take m) (l.take m) := by
  refine ⟨by rw [List.length_take, List.length_take, h.len], fun j y b hy hb => ?_⟩
  rw [List.getElem?_take] at hy hb
  by_cases c : j < m
  · rw [if_pos c] at hy hb
    exact h.at_ j y b hy hb
  · rw [if_neg c] at hy
    cases hy
section
variable {P : Program} {w : World} {K : PySem.W.Frag} {mg : Str → Option Value} {base : Heap}
/-! _law_tastings -/
abbrev sLts : Stmt := topS 34
def spLts : Sp := fun vs H Q _ => ∃ s, vs = [.ref s, .int 6, .int 6] ∧ Src H s ∧ ∀ p xs ts H1, Exs s H H1 → Src H1 s → H p = none → H1 p = some (.lst xs) → All2 (Tl (fr H H1)) xs ts → Good ts → Q (.ref p) H1
theorem scLts : FnScope ["_law_source_here", "_law_many", "_law_breaks", "_law_numbers_here", "_law_found", "_law_k"] ["_law_source_here", "_law_many", "_law_breaks"] (defScope sLts) := ⟨rfl, rfl, rfl, by decide +kernel, rfl, by decide +kernel, by decide +kernel⟩
/-- what the tastings are made of -/
structure Made (ns : List Int) (ts : Ts) : Prop where
  fine : ∀ t ∈ ts, FineT t
  of_ : ∀ t ∈ ts, ∀ f ∈ t, f.1 ∈ ns
theorem Made.good {ns : List Int} {ts : Ts} (h : Made ns ts) (hl : ts.length ≤ 6) (hn : ns.length ≤ 6) : Good ts :=
  ⟨hl, h.fine, ns, hn, fun f hf => by
    obtain ⟨t, ht, m⟩ := List.mem_flatten.mp hf
    exact h.of_ t ht f m⟩
theorem Made.sub {ns : List Int} {ts us : Ts} (h : Made ns ts) (s : ∀ t ∈ us, t ∈ ts) : Made ns us := ⟨fun t ht => h.fine t (s t ht), fun t ht => h.of_ t (s t ht)⟩
theorem Made.snoc {ns : List Int} {ts : Ts} {t : List Fi} (h : Made ns ts) (h1 : FineT t) (h2 : ∀ f ∈ t, f.1 ∈ ns) : Made ns (ts ++ [t]) := by
  refine ⟨fun u hu => ?_, fun u hu => ?_⟩
  · rcases List.mem_append.mp hu with z | z
    · exact h.fine u z
    · rw [List.mem_singleton.mp z]; exact h1
  · rcases List.mem_append.mp hu with z | z
    · exact h.of_ u z
    · rw [List.mem_singleton.mp z]; exact h2
theorem c_lts (D : Dn K mg "_law_tastings" sLts ["_law_source_here", "_law_many", "_law_breaks"]) (G : Gs mg) (c2 : C8.Cal P w K mg base 2 "_law_next" spNext []) (c3 : C8.Cal P w K mg base 3 "_law_numbers" spNumbers []) (c4 : C8.Cal P w K mg base 4 "_law_tasting" spLtast []) : C8.Cal P w K mg base 5 "_law_tastings" spLts [] := by
  refine cal_of D scLts (fun vs H Q E h => ?_) (fun f cdv A outer s H vs Q E hr h => ?_)
  · obtain ⟨s, rfl, _⟩ := h
    rfl
  · obtain ⟨l, rfl, hs, q⟩ := h
    refine ⟨_, pss_cons (ps_set (i := 3) scLts.nd rfl (.inr rfl) (C8.pe_c c3 hr (by decide) (by rfl) (pa_cons (pv 0) (pa_cons (pe_op op_add pe_int (C8.pe_c c2 hr (by decide) (by rfl) (pa_cons (pv 0) (pa_cons (pv 2) pa_nil)))) pa_nil))))
      (pss_cons (ps_setLc (i := 4) (own := [("_law_k", 5)]) (g := gName 5) (tt := tYes) (by rfl) scLts.nd rfl rfl (sw_true rfl rfl rfl (by decide +kernel))
          (pi_range1 (by rfl) G.zRange (pa_cons (C8.pe_c c2 hr (by decide) (by rfl) (pa_cons (pv 0) (pa_cons (pe_op op_add (pv 1) pe_int) pa_nil))) pa_nil))
          (blkOk_by (N := ["_law_source_here", "_law_many", "_law_breaks", "_law_numbers_here", "_law_found", "_law_k"]) (sc := defScope sLts) (by decide +kernel))
          (fun _ _ _ _ _ => pg_name (i := 5) scLts.nd rfl (Or.inl rfl)) (fun _ _ _ _ _ => pts_nil) (fun _ _ _ _ _ => C8.pe_c c4 hr (by decide) (by rfl) (pa_cons (pv 0) (pa_cons (pv 3) pa_nil))))
      (pss_cut (ps_if (PW.pt (pw_and (pt_cmpR (op_neD hr.units) (pv 4) (pe_lst pa_nil) (nomark _)) (pw_and1 (pt_cmpR op_eq (C8.pe_c c2 hr (by decide) (by rfl) (pa_cons (pv 0) (pa_cons pe_int pa_nil))) pe_int (nomark _)))))
        (pss_one (ps_expr (pe_bm PySem.F.plainAttrs_list PySem.F.slot_list_append PySem.F.type_list_append mt_append (pv 4) (pa_cons
          (pe_callTy call_list_of (by rfl) G.zList (by decide +kernel) (pa_cons (pe_ix ix_list (pv 4) (C8.pe_c c2 hr (by decide) (by rfl) (pa_cons (pv 0) (pa_cons (pe_callB call_len_seq (by rfl) G.zLen PySem.boot_len (pa_cons (pv 4) pa_nil)) pa_nil))) (fun _ _ => rfl)) pa_nil)) pa_nil)))) pss_nil)
      (pss_one (ps_ret (pe_slice sl_list (pv 4) po_none (po_some (pv 1))))))), ?_⟩
    refine ⟨_, rfl, _, rfl, _, rfl, l, 6, rfl, hs, by decide, by decide, fun r1 a1 b1 c1 h10 h11 => ⟨_, _, rfl, rfl, ?_⟩⟩
    refine ⟨l, 1 + r1, rfl, Src.put, by omega, by omega, fun b ns H1 e1 hs1 nb hb hnd hnl hnb => ?_⟩
    have nbl : b ≠ l := (Src.put (H := H) (s := l)).ne nb
    have e01 : Exs l H H1 := Exs.src.trans e1
    have hn6 : ns.length ≤ 6 := by omega
    refine ⟨_, rfl, _, rfl, _, _, rfl, rfl, l, 7, rfl, hs1, by decide, by decide, fun r2 a2 b2 c3 h20 h21 => ⟨r2, rfl, by omega, by omega, fun Dd hD => ?_⟩⟩
    generalize hH2 : upd H1 l (.lst [.int a2, .int b2, .int c3]) = H2 at hD ⊢
    have e2 : Exs l H1 H2 := by rw [← hH2]; exact Exs.src
    have hs2 : Src H2 l := by rw [← hH2]; exact Src.put
    have nDl := hs2.ne hD
    have hU : upd H2 Dd (.lst []) Dd = some (.lst []) := upd_same
    have hsU : Src (upd H2 Dd (.lst [])) l := hs2.new hD
    refine lc_it (walk_range (lo := 0) (n := r2.toNat)) (fun i H3 => Exs l H2 H3 ∧ Src H3 l ∧ ∃ ys ts, H3 Dd = some (.lst ys) ∧ All2 (Tl (fr (upd H2 Dd (.lst [])) H3)) ys ts ∧ ts.length = i ∧ Made ns ts)
      ⟨Exs.new hD, hsU, [], [], upd_same, .nil, rfl, fun t ht => by simp at ht, fun t ht => by simp at ht⟩ (fun _ _ _ _ => trivial) ?_ ?_
    · rintro i x H3 H3' hi ⟨e3, hs3, ys, ts, hD3, hys, htl, hmd⟩ ⟨rfl, rfl⟩
      refine ⟨rfl, _, rfl, _, rfl, l, b, ns, rfl, hs3, nbl, e3 _ _ nbl (e2 _ _ nbl hb), hnd, hn6, hnb, fun v t H4 e4 hs4 hT hF hm => ?_⟩
      have hyl : ys.length ≤ 7 := by rw [hys.len]; omega
      refine ⟨ys, e4 _ _ nDl hD3, sz_lt (by omega), (e3.trans e4).mut hD, Src.mut hs4 nDl, ys ++ [v], ts ++ [t], upd_same, ?_, by rw [List.length_append, htl] <;> rfl, hmd.snoc hF hm⟩
      rw [fr_upd hU]
      refine (hys.mono fun a c z => z.ex (frs_ex hsU e4)).snoc (hT.ex (fr_ex (fun c n => ?_) fun _ _ _ z => z))
      have ncD : c ≠ Dd := fun z => by rw [z, hD3] at n; cases n
      rw [upd_ne ncD]
      exact e3.none (hs3.ne n) n
    · rintro H3 ⟨e3, hs3, ys, ts, hD3, hys, htl, hmd⟩
      have nD0 : H Dd = none := e01.none nDl (e2.none nDl hD)
      have e03 : Exs l H H3 := (e01.trans e2).trans e3
      refine ⟨fun σ H4 => ∃ ys ts, σ = [some (V.ref l), some (V.int 6), some (V.int 6), some (V.ref b), some (V.ref Dd), none] ∧ Exs l H H4 ∧ Src H4 l ∧ H4 Dd = some (.lst ys) ∧ All2 (Tl (fr (upd H2 Dd (.lst [])) H4)) ys ts ∧ ts.length ≤ 7 ∧ Made ns ts, ?_, ?_⟩
      · refine ⟨_, rfl, Nat.zero_le _, fun u nu => ?_⟩
        refine ⟨dTs ts, dTs [], dp_mk (sq_of ((Ex.new nu) _ _ hD3)) (hys.mono fun v t z => dpx (Ex.trans fr_sub (Ex.new nu)) z.dp), dp_mk (sq_of upd_same) .nil, lay_shaped lay_ts (by decide) ts, lay_shaped lay_ts (by decide) [], _, rfl, ?_⟩
        rw [eqd_ts]
        have hsu := hs3.new (o := .lst []) nu
        have fin : ∀ H4, Exs l H3 H4 → Src H4 l → ∃ ys ts, [some (V.ref l), some (V.int 6), some (V.int 6), some (V.ref b), some (V.ref Dd), none] = [some (V.ref l), some (V.int 6), some (V.int 6), some (V.ref b), some (V.ref Dd), none] ∧ Exs l H H4 ∧ Src H4 l ∧ H4 Dd = some (.lst ys) ∧ All2 (Tl (fr (upd H2 Dd (.lst [])) H4)) ys ts ∧ ts.length ≤ 7 ∧ Made ns ts := fun H4 e4 hs4 =>
          ⟨ys, ts, rfl, e03.trans e4, hs4, e4 _ _ nDl hD3, hys.mono fun a c z => z.ex (frs_ex hsU e4), by omega, hmd⟩
        by_cases c0 : ts = []
        · rw [decide_eq_true c0]
          exact iteF (iteF (fin _ (Exs.new nu) hsu))
        · rw [decide_eq_false c0]
          refine iteT ⟨_, rfl, l, 3, rfl, hsu, by decide, by decide, fun r3 a3 b3 c4 h30 h31 => ⟨rfl, _, rfl, ?_⟩⟩
          generalize hH5 : upd (upd H3 u (.lst [])) l (.lst [.int a3, .int b3, .int c4]) = H5
          have e5 : Exs l H3 H5 := by rw [← hH5]; exact (Exs.new nu).trans Exs.src
          have hs5 : Src H5 l := by rw [← hH5]; exact Src.put
          refine ite2 (fun _ => ?_) (fun _ => fin H5 e5 hs5)
          have hD5 := e5 _ _ nDl hD3
          have hyl : 0 < ys.length := by
            rw [hys.len]
            exact List.length_pos_iff.mpr c0
          refine ⟨_, rfl, .inl ⟨rfl, _, sq_of hD5⟩, ?_⟩
          refine ⟨_, rfl, _, rfl, _, rfl, Dd, ys, rfl, .inl (sq_of hD5), l, _, rfl, hs5, by show (0 : Int) < (ys.length : Int); omega, by show (ys.length : Int) < 1073741824; rw [hys.len]; omega, fun r a b' c hr0 hr1 => ?_⟩
          have hr1' : r < (ys.length : Int) := hr1
          obtain ⟨i, rfl⟩ : ∃ i : Nat, r = (i : Int) := ⟨r.toNat, by omega⟩
          have hil : i < ys.length := by omega
          generalize hH6 : upd H5 l (.lst [.int a, .int b', .int c]) = H6
          have e6 : Exs l H3 H6 := by rw [← hH6]; exact e5.trans Exs.src
          have hs6 : Src H6 l := by rw [← hH6]; exact Src.put
          have hD6 := e6 _ _ nDl hD3
          have hys6 : All2 (Tl (fr (upd H2 Dd (.lst [])) H6)) ys ts := hys.mono fun a c z => z.ex (frs_ex hsU e6)
          obtain ⟨t, htt, p, zs, ep, hp, hz⟩ := hys6.get (List.getElem?_eq_getElem hil)
          have hp2 := fr_in hp
          refine ⟨Dd, ys, (i : Int), ys[i], rfl, rfl, sq_of hD6, atI_nat (List.getElem?_eq_getElem hil), p, zs, congrArg (fun z => [z]) ep, .inl (sq_of hp2.2), fun u2 nu2 => ?_⟩
          have nuD : u2 ≠ Dd := fun z => by rw [z, hD6] at nu2; cases nu2
          have nul2 := hs6.ne nu2
          have nu20 : upd H2 Dd (.lst []) u2 = none := by
            rw [upd_ne nuD]
            exact e3.none nul2 (e6.none nul2 nu2)
          refine ⟨Dd, ys, _, rfl, rfl, (Ex.new nu2) _ _ hD6, sz_lt (by rw [hys.len]; omega), ?_⟩
          have htm := List.mem_of_getElem? htt
          refine ⟨ys ++ [.ref u2], ts ++ [t], rfl, ((e03.trans e6).trans (Exs.new nu2)).mut nD0, Src.mut (hs6.new nu2) nDl, upd_same, ?_, by rw [List.length_append, htl]; show r2.toNat + 1 ≤ 7; omega, hmd.snoc (hmd.fine t htm) (hmd.of_ t htm)⟩
          rw [fr_upd hU]
          refine (hys6.mono fun a c z => z.ex (fr_right (Ex.new nu2))).snoc ⟨u2, zs, rfl, by rw [fr_at nu20, upd_same], hz.mono fun v f z => z.ex (fr_right (Ex.new nu2))⟩
      · rintro σ H4 ⟨ys, ts, rfl, e4, hs4, hD4, hys4, htl4, hmd4⟩
        refine ⟨_, rfl, _, rfl, 6, rfl, Dd, ys, rfl, sq_of hD4, fun p np => ?_⟩
        have e6 : cutV ys none (some (6 : Int)) = ys.take 6 := cut_to ys 6
        have np0 : H p = none := e4.none (hs4.ne np) np
        refine q p (ys.take 6) (ts.take 6) _ (e4.trans (Exs.new np)) (hs4.new np) np0 (by rw [upd_same, e6]) ?_ ((hmd4.sub fun t ht => List.mem_of_mem_take ht).good (by rw [List.length_take]; omega) hn6)
        refine (hys4.take 6).mono fun v t z => z.ex (fr_ex (fun c n => ?_) fun c o _ z => (Ex.new np) c o z)
        have ncD : c ≠ Dd := fun y => by rw [y, hU] at n; cases n
        rw [upd_ne ncD] at n
        have ncl := hs2.ne n
        exact e01.none ncl (e2.none ncl n)
end
end Fw
namespace Fw
open PySem PySem.Spec PyProof.Rows L2 Evl
/-! the law's own bounds -/
def lowL (fs : List Fi) (n : Int) : List Int := 0 :: (fs.filter fun f => decide (f.1 = n)).map (·.2.1)
def higL (fs : List Fi) (n : Int) : List Int := 100 :: (fs.filter fun f => decide (f.1 = n)).map (·.2.2)
theorem lowL_max {fs : List Fi} {n m : Int} (h1 : m ∈ lowL fs n) (h2 : ∀ y ∈ lowL fs n, y ≤ m) : m = lo fs n := by
  refine IsLo.uniq (fs := fs) (n := n) ⟨h2 0 List.mem_cons_self, fun f hf e => h2 _ (List.mem_cons_of_mem _ (List.mem_map.mpr ⟨f, List.mem_filter.mpr ⟨hf, decide_eq_true e⟩, rfl⟩)), ?_⟩ (lo_is n fs)
  rcases List.mem_cons.mp h1 with e | e
  · exact .inl e
  · obtain ⟨f, hf, e2⟩ := List.mem_map.mp e
    obtain ⟨hf1, hf2⟩ := List.mem_filter.mp hf
    exact .inr ⟨f, hf1, of_decide_eq_true hf2, e2⟩
theorem higL_min {fs : List Fi} {n m : Int} (h1 : m ∈ higL fs n) (h2 : ∀ y ∈ higL fs n, m ≤ y) : m = hi fs n := by
  refine IsHi.uniq (fs := fs) (n := n) ⟨h2 100 List.mem_cons_self, fun f hf e => h2 _ (List.mem_cons_of_mem _ (List.mem_map.mpr ⟨f, List.mem_filter.mpr ⟨hf, decide_eq_true e⟩, rfl⟩)), ?_⟩ (hi_is n fs)
  rcases List.mem_cons.mp h1 with e | e
  · exact .inl e
  · obtain ⟨f, hf, e2⟩ := List.mem_map.mp e
    obtain ⟨hf1, hf2⟩ := List.mem_filter.mp hf
    exact .inr ⟨f, hf1, of_decide_eq_true hf2, e2⟩
theorem given_filter (t : List Fi) (g : Fi → Bool) (p : Fi → Int) : given t.length (fun j => g (t.getD j (0, 0, 0))) (fun j => V.int (p (t.getD j (0, 0, 0)))) = ((t.filter g).map p).map V.int := by
  unfold given
  have h := congrArg (List.map fun f => V.int (p f)) (filter_get t (0, 0, 0) g)
  rw [List.map_map] at h
  rw [List.map_map]
  exact h
theorem flat_snoc {ts : Ts} {c : List Nat} {i k : Nat} {t : List Fi} (h : c[i]? = some k) (ht : ts[k]? = some t) : flat ts (c.take (i + 1)) = flat ts (c.take i) ++ t := by
  unfold flat
  rw [List.take_add_one, h, List.flatMap_append]
  show _ ++ (ts.getD k [] ++ []) = _
  rw [List.append_nil, List.getD_eq_getElem?_getD, ht] <;> rfl
theorem flat_take_le {ts : Ts} {c : List Nat} (hg : Good ts) (hc : c.length ≤ 6) (i : Nat) : (flat ts (c.take i)).length ≤ 36 := flat_len6 hg (by rw [List.length_take]; omega)
theorem lowL_len (fs : List Fi) (n : Int) : (lowL fs n).length ≤ fs.length + 1 := by
  unfold lowL
  rw [List.length_cons, List.length_map]
  have := List.length_filter_le (fun f : Fi => decide (f.1 = n)) fs
  omega
theorem higL_len (fs : List Fi) (n : Int) : (higL fs n).length ≤ fs.length + 1 := by
  unfold higL
  rw [List.length_cons, List.length_map]
  have := List.length_filter_le (fun f : Fi => decide (f.1 = n)) fs
  omega
theorem lowL_app (fs t : List Fi) (n : Int) : lowL (fs ++ t) n = lowL fs n ++ (t.filter fun f => decide (f.1 = n)).map (·.2.1) := by
  unfold lowL
  rw [List.filter_append, List.map_append] <;> rfl
theorem higL_app (fs t : List Fi) (n : Int) : higL (fs ++ t) n = higL fs n ++ (t.filter fun f => decide (f.1 = n)).map (·.2.2) := by
  unfold higL
  rw [List.filter_append, List.map_append] <;> rfl
section
variable {P : Program} {w : World} {K : PySem.W.Frag} {mg : Str → Option Value} {base : Heap}
/-! _law_bounds -/
abbrev sLb : Stmt := topS 35
def spLb (K : PySem.W.Frag) : Sp := fun vs H Q _ => ∃ v1 v2 n ts c, vs = [v1, v2, .int n] ∧ Dp K H v1 (dTs ts) ∧ Dp K H v2 (dCh c) ∧ Good ts ∧ (∀ k ∈ c, k < ts.length) ∧ c.length ≤ 6 ∧
  ∀ t H1, Ex H H1 → H t = none → H1 t = some (.tup [.int (lo (flat ts c) n), .int (hi (flat ts c) n)]) → Q (.ref t) H1
theorem scLb : FnScope ["_law_tastings_here", "_law_those", "_law_number", "_law_lows", "_law_highs", "_law_k", "_law_one", "_law_low", "_law_high"] ["_law_tastings_here", "_law_those", "_law_number"] (defScope sLb) := ⟨rfl, rfl, rfl, by decide +kernel, rfl, by decide +kernel, by decide +kernel⟩
theorem c_lb (D : Dn K mg "_law_bounds" sLb ["_law_tastings_here", "_law_those", "_law_number"]) (G : Gs mg) : C8.Cal P w K mg base 1 "_law_bounds" (spLb K) [] := by
  refine cal_of D scLb (fun vs H Q E h => ?_) (fun f cdv A outer s H vs Q E hr h => ?_)
  · obtain ⟨v1, v2, n, ts, c, rfl, _⟩ := h
    rfl
  · obtain ⟨v1, v2, n, ts, c, rfl, hv1, hv2, hg, hk, hc6, q⟩ := h
    obtain ⟨a, xs, rfl, ha, hx⟩ := dp_list hv1
    obtain ⟨b, rfl, hb⟩ := dp_ch hv2
    refine ⟨_, pss_cons (ps_set (i := 3) scLb.nd rfl (.inl rfl) (pe_lst (pa_cons pe_int pa_nil)))
      (pss_cons (ps_set (i := 4) scLb.nd rfl (.inl rfl) (pe_lst (pa_cons pe_int pa_nil)))
      (pss_cons (ps_for PassesOwn.never rfl (pi_list (pv 1)) (pg_name (i := 5) scLb.nd rfl (.inl rfl))
        (pss_cons (ps_set (i := 3) scLb.nd rfl (.inl rfl) (pe_op op_cat (pv 3)
          (pe_lc (own := [("_law_one", 6), ("_law_low", 7), ("_law_high", 8)]) (g := gTup K 3 (gCons (gName 6) (gCons (gName 7) (gCons (gName 8) gNil)))) rfl scLb.nd (pi_list (pe_ix ix_list (pv 0) (pv 5) (fun _ _ => rfl)))
            (blkOk_by (N := ["_law_tastings_here", "_law_those", "_law_number", "_law_lows", "_law_highs", "_law_k", "_law_one", "_law_low", "_law_high"]) (sc := defScope sLb) (by decide +kernel))
            (fun _ _ _ _ _ => pg_tup rfl (pgs_cons (pg_name (i := 6) scLb.nd rfl (Or.inl rfl)) (pgs_cons (pg_name (i := 7) scLb.nd rfl (Or.inl rfl)) (pgs_cons (pg_name (i := 8) scLb.nd rfl (Or.inl rfl)) pgs_nil))))
            (fun _ _ _ _ _ => pts_one (pt_cmpR op_eq (pv 6) (pv 2) (nomark _))) (fun _ _ _ _ _ => pv 7))))
        (pss_one (ps_set (i := 4) scLb.nd rfl (.inl rfl) (pe_op op_cat (pv 4)
          (pe_lc (own := [("_law_one", 6), ("_law_low", 7), ("_law_high", 8)]) (g := gTup K 3 (gCons (gName 6) (gCons (gName 7) (gCons (gName 8) gNil)))) rfl scLb.nd (pi_list (pe_ix ix_list (pv 0) (pv 5) (fun _ _ => rfl)))
            (blkOk_by (N := ["_law_tastings_here", "_law_those", "_law_number", "_law_lows", "_law_highs", "_law_k", "_law_one", "_law_low", "_law_high"]) (sc := defScope sLb) (by decide +kernel))
            (fun _ _ _ _ _ => pg_tup rfl (pgs_cons (pg_name (i := 6) scLb.nd rfl (Or.inl rfl)) (pgs_cons (pg_name (i := 7) scLb.nd rfl (Or.inl rfl)) (pgs_cons (pg_name (i := 8) scLb.nd rfl (Or.inl rfl)) pgs_nil))))
            (fun _ _ _ _ _ => pts_one (pt_cmpR op_eq (pv 6) (pv 2) (nomark _))) (fun _ _ _ _ _ => pv 8)))))))
      (pss_one (ps_ret (pe_tup (pa_cons (pe_callB (cr_max rfl) (by rfl) G.zMax (by decide +kernel) (pa_cons (pv 3) pa_nil)) (pa_cons (pe_callB (cr_min rfl) (by rfl) G.zMin (by decide +kernel) (pa_cons (pv 4) pa_nil)) pa_nil))))))), ?_⟩
    refine ⟨by show 1 ≤ sizeLine; decide, fun l0 nl0 => ⟨by show 1 ≤ sizeLine; decide, fun h0 nh0 => ?_⟩⟩
    have e0 := (Ex.new (o := .lst [V.int 0]) nl0).trans (Ex.new (o := .lst [V.int 100]) nh0)
    have nlh : l0 ≠ h0 := fun z => by rw [← z, upd_same] at nh0; cases nh0
    refine ⟨_, rfl, b, rfl, ⟨_, ex_l e0 hb⟩, ?_⟩
    refine for_list (xs := c.map vN) (fun i σ H1 => ∃ l h x, σ = [some (V.ref a), some (V.ref b), some (V.int n), some (V.ref l), some (V.ref h), x, none, none, none] ∧ Ex H H1 ∧ H1 l = some (.lst ((lowL (flat ts (c.take i)) n).map V.int)) ∧ H1 h = some (.lst ((higL (flat ts (c.take i)) n).map V.int)))
      ⟨l0, h0, none, rfl, e0, (Ex.new nh0) _ _ upd_same, upd_same⟩ (fun i σ H1 _ z => by obtain ⟨_, _, _, _, e, _⟩ := z; exact ex_l e hb) ?_ ?_
    · rintro i x σ H1 hi ⟨l, h, x5, rfl, e1, hl, hh⟩
      rw [List.getElem?_map] at hi
      cases ec : c[i]? with
      | none => rw [ec] at hi; cases hi
      | some k =>
      rw [ec] at hi
      cases hi
      have hkl := hk k (List.mem_of_getElem? ec)
      have htk : ts[k]? = some ts[k] := List.getElem?_eq_getElem hkl
      obtain ⟨v, hvk, hd⟩ := hx.get' htk
      obtain ⟨p, ys, rfl, hp, hy⟩ := dp_list hd
      have ft := hg.fine _ (List.getElem_mem hkl)
      have h36 := flat_take_le hg hc6 i
      have hyl := hy.len
      have t6 := ft.len
      have es := flat_snoc ec htk
      -- one comprehension
      have comp : ∀ (pr : Fi → Int) (H2 : Hp) (D : Addr) (hD : H2 D = none) (e2 : Ex H H2) (te : TE) (l' h' : Addr) (x3 : Option V),
          (∀ (g : Fi) (H3 : Hp) (B : V → Hp → Prop), B (.int (pr g)) H3 → te [some (V.ref a), some (V.ref b), some (V.int n), some (V.ref l'), some (V.ref h'), some (vN k), some (V.int g.1), some (V.int g.2.1), some (V.int g.2.2)] H3 B) →
          ∀ Qd : Hp → Prop, (∀ H3, Ex H2 H3 → H3 D = some (.lst (((ts[k].filter fun f => decide (f.1 = n)).map pr).map V.int)) → Qd H3) →
          ∃ W : Nat → Nat → Hp → Prop, (∃ m, W 0 m (upd H2 D (.lst []))) ∧ ∀ i m H, W i m H →
            ((Itl K p).stop i H ∧ Qd H) ∨ ((Itl K p).go i H ∧ ∃ Nx : Hp → Prop, (∀ H', Nx H' → ∃ m', m' < m ∧ W (i + 1) m' H') ∧ ∀ x H', (Itl K p).yld i H x H' →
              gTup K 3 (gCons (gName 6) (gCons (gName 7) (gCons (gName 8) gNil))) x (wipe [some (V.ref a), some (V.ref b), some (V.int n), some (V.ref l'), some (V.ref h'), some (vN k), none, none, none] [6, 7, 8]) H' fun σ2 H2 => wipe σ2 [6, 7, 8] = wipe [some (V.ref a), some (V.ref b), some (V.int n), some (V.ref l'), some (V.ref h'), some (vN k), none, none, none] [6, 7, 8] ∧ tTest (tOp rEq (tVar 6) (tVar 2)) σ2 H2 fun b H3 =>
              if b = true then te σ2 H3 fun y H4 => ∃ acc, H4 D = some (.lst acc) ∧ acc.length < sizeLine ∧ Nx (upd H4 D (.lst (acc ++ [y]))) else Nx H3) := by
        intro pr H2 D hD e2 te l' h' x3 hte Qd hQ
        refine lc_val (K := K) (walk_list (xs := ys)) (fun j => decide ((ts[k].getD j (0, 0, 0)).1 = n)) (fun j => V.int (pr (ts[k].getD j (0, 0, 0)))) hD (by omega) (fun H3 e3 => ex_l (e2.trans e3) hp) ?_ ?_
        · rintro j y H3 H3' hj e3 ⟨rfl, hyj⟩ A B hA hB
          obtain ⟨g, hg1, hdg⟩ := hy.get hyj
          obtain ⟨u, rfl, hu⟩ := dp_fi hdg
          have eg : ts[k].getD j (0, 0, 0) = g := by rw [List.getD_eq_getElem?_getD, hg1] <;> rfl
          rw [eg] at hA hB
          refine ⟨u, _, rfl, ex_t (e2.trans e3) hu, rfl, _, _, rfl, _, _, rfl, _, _, rfl, rfl, rfl, ?_⟩
          refine ⟨_, rfl, _, rfl, rfl, _, rfl, ?_⟩
          by_cases c1 : g.1 = n
          · rw [decide_eq_true (show V.int g.1 = V.int n by rw [c1])]
            exact iteT (hte g H3' B (hB (decide_eq_true c1) H3' (Ex.refl _)))
          · rw [decide_eq_false (show ¬ V.int g.1 = V.int n from fun z => c1 (V.int.inj z))]
            exact iteF (hA (decide_eq_false c1) H3' (Ex.refl _))
        · intro H3 e3 h3
          rw [hyl] at h3
          exact hQ H3 e3 (h3.trans (congrArg (fun z => some (HO.lst z)) (given_filter ts[k] (fun f => decide (f.1 = n)) pr)))
      refine ⟨_, rfl, _, rfl, _, rfl, a, xs, (k : Int), _, rfl, rfl, ex_l e1 ha, atI_nat hvk, p, rfl, ⟨_, ex_l e1 hp⟩, fun Dd hD => ?_⟩
      refine comp (·.2.1) H1 Dd hD e1 _ l h x5 (fun g H3 B hB => ⟨_, rfl, hB⟩) _ fun H3 e3 h3 => ?_
      refine ⟨l, Dd, _, _, rfl, rfl, e3 _ _ hl, h3, ?_, fun l1 nl1 => ?_⟩
      · rw [List.length_map, List.length_map, List.length_map]
        have q1 := lowL_len (flat ts (c.take i)) n
        have q2 := List.length_filter_le (fun f : Fi => decide (f.1 = n)) ts[k]
        exact sz_of (by omega)
      have eN := Ex.new (o := .lst ((lowL (flat ts (c.take i)) n).map V.int ++ ((ts[k].filter fun f => decide (f.1 = n)).map (·.2.1)).map V.int)) nl1
      have e4 : Ex H1 _ := e3.trans eN
      refine ⟨_, rfl, _, rfl, _, rfl, a, xs, (k : Int), _, rfl, rfl, ex_l (e1.trans e4) ha, atI_nat hvk, p, rfl, ⟨_, ex_l (e1.trans e4) hp⟩, fun D2 hD2 => ?_⟩
      refine comp (·.2.2) _ D2 hD2 (e1.trans e4) _ l1 h x5 (fun g H3 B hB => ⟨_, rfl, hB⟩) _ fun H5 e5 h5 => ?_
      refine ⟨h, D2, _, _, rfl, rfl, e5 _ _ (e4 _ _ hh), h5, ?_, fun h1 nh1 => ?_⟩
      · rw [List.length_map, List.length_map, List.length_map]
        have q1 := higL_len (flat ts (c.take i)) n
        have q2 := List.length_filter_le (fun f : Fi => decide (f.1 = n)) ts[k]
        exact sz_of (by omega)
      refine ⟨l1, h1, _, rfl, ((e1.trans e4).trans e5).trans (Ex.new nh1), ?_, ?_⟩
      · rw [es, lowL_app, List.map_append]
        exact (Ex.new nh1) _ _ (e5 _ _ upd_same)
      · rw [es, higL_app, List.map_append]
        exact upd_same
    · rintro σ H1 ⟨l, h, x5, rfl, e1, hl, hh⟩
      rw [List.length_map, List.take_length] at hl hh
      refine ⟨_, rfl, l, _, rfl, sq_of hl, Nat.succ_pos _, fun m m1 m2 => ⟨_, rfl, h, _, rfl, sq_of hh, Nat.succ_pos _, fun m' m3 m4 => ⟨by show 2 ≤ sizeLine; decide, fun t nt => ?_⟩⟩⟩
      refine q t _ (e1.trans (Ex.new nt)) (none_of e1 nt) ?_
      rw [upd_same, lowL_max m1 m2, higL_min m3 m4]
end
end Fw
namespace Fw
open PySem PySem.Spec PyProof.Rows L2 Evl
theorem inV_int (n : Int) (ns : List Int) : inV (.int n) (ns.map V.int) = decide (n ∈ ns) := by
  induction ns with
  | nil => rfl
  | cons a l ih =>
    show ((a == n) || inV (.int n) (l.map V.int)) = _
    rw [ih]
    by_cases e : a = n
    · subst e; simp
    · have e2 : ¬ n = a := fun z => e z.symm
      by_cases f : n ∈ l
      · simp [e, f]
      · simp [e, e2, f]
theorem flat_ints (ns : List Int) : (ns.map V.int).all flatV = true := by
  rw [List.all_map]
  exact List.all_eq_true.mpr fun _ _ => rfl
/-- a dict made of pairs: what a key holds -/
theorem merge_get {Good : V → Prop} {k : Key} : ∀ (kvs acc : List (Key × V)), (∀ p ∈ kvs, p.1 = k → Good p.2) → ((∃ p ∈ kvs, p.1 = k) ∨ ∃ v, valV acc k = some v ∧ Good v) → (∀ v, valV acc k = some v → Good v) → ∃ v, valV (mergeK acc kvs) k = some v ∧ Good v
  | [], acc, _, h, _ => by
    rcases h with ⟨p, hp, _⟩ | h
    · simp at hp
    · exact h
  | p :: r, acc, hg, h, ha => by
    show ∃ v, valV (mergeK (putK acc p.1 p.2) r) k = some v ∧ Good v
    refine merge_get r (putK acc p.1 p.2) (fun q hq => hg q (List.mem_cons_of_mem _ hq)) ?_ (fun v hv => ?_)
    · by_cases e : p.1 = k
      · exact .inr ⟨p.2, by rw [valV_put, if_pos e.symm], hg p List.mem_cons_self e⟩
      · rcases h with ⟨q, hq, e2⟩ | ⟨v, hv, g⟩
        · rcases List.mem_cons.mp hq with z | z
          · rw [z] at e2; exact absurd e2 e
          · exact .inl ⟨q, z, e2⟩
        · exact .inr ⟨v, by rw [valV_put, if_neg fun z => e z.symm]; exact hv, g⟩
    · rw [valV_put] at hv
      by_cases e : k = p.1
      · rw [if_pos e] at hv
        cases hv
        exact hg p List.mem_cons_self e.symm
      · rw [if_neg e] at hv
        exact ha v hv
theorem given_filterI (S : List Int) (g : Int → Bool) : given S.length (fun j => g (S.getD j 0)) (fun j => V.int (S.getD j 0)) = (S.filter g).map V.int := by
  unfold given
  have h := congrArg (List.map V.int) (filter_get S 0 g)
  rw [List.map_map] at h
  exact h
theorem row_len (S : List Int) (l h : Int → Int) (a : Int) : (row S l h a).length ≤ S.length := by
  unfold row
  rw [List.length_map]
  exact Nat.le_trans (List.length_filter_le _ _) (List.length_filter_le _ _)
section
variable {P : Program} {w : World} {K : PySem.W.Frag} {mg : Str → Option Value} {base : Heap}
/-! _law_ranked -/
abbrev sLr : Stmt := topS 36
def spLr (K : PySem.W.Frag) : Sp := fun vs H Q _ => ∃ v1 v2 ts c, vs = [v1, v2] ∧ Dp K H v1 (dTs ts) ∧ Dp K H v2 (dCh c) ∧ Good ts ∧ (∀ k ∈ c, k < ts.length) ∧ c.length ≤ 6 ∧
  ∀ p H1, Ex H H1 → Nw K H H1 (.ref p) (dPs (R ts c)) → Q (.ref p) H1
abbrev nLr : List Str := ["_law_tastings_here", "_law_those", "_law_numbers_here", "_law_tasting_here", "_law_one", "_law_bounds_here", "_law_found", "_law_above", "_law_number", "_law_other"]
theorem scLr : FnScope nLr ["_law_tastings_here", "_law_those"] (defScope sLr) := ⟨rfl, rfl, rfl, by decide +kernel, rfl, by decide +kernel, by decide +kernel⟩
theorem R_take (ts : Ts) (c : List Nat) : R ts c = ((Sn ts).take (Sn ts).length).flatMap (row (Sn ts) (lo (flat ts c)) (hi (flat ts c))) := by
  rw [List.take_length]
  rfl
theorem c_lr (D : Dn K mg "_law_ranked" sLr ["_law_tastings_here", "_law_those"]) (G : Gs mg) (c1 : C8.Cal P w K mg base 1 "_law_bounds" (spLb K) []) : C8.Cal P w K mg base 2 "_law_ranked" (spLr K) [] := by
  refine cal_of D scLr (fun vs H Q E h => ?_) (fun f cdv A outer s H vs Q E hr h => ?_)
  · obtain ⟨v1, v2, ts, c, rfl, _⟩ := h
    rfl
  · obtain ⟨v1, v2, ts, c, rfl, hv1, hv2, hg, hk, hc6, q⟩ := h
    obtain ⟨a, xs, rfl, ha, hx⟩ := dp_list hv1
    have hu := hu_of hr
    have ht6 := hg.len
    refine ⟨_, pss_cons (ps_set (i := 2) scLr.nd rfl (.inr rfl) (pe_lst pa_nil))
      (pss_cons (ps_for PassesOwn.never rfl (pi_list (pv 0)) (pg_name (i := 3) scLr.nd rfl (.inl rfl))
        (pss_one (ps_set (i := 2) scLr.nd rfl (.inr rfl) (pe_op op_cat (pv 2)
          (pe_lc (own := [("_law_one", 4)]) (g := gName 4) rfl scLr.nd (pi_list (pv 3)) (blkOk_by (N := nLr) (sc := defScope sLr) (by decide +kernel)) (fun _ _ _ _ _ => pg_name (i := 4) scLr.nd rfl (Or.inl rfl))
            (fun _ _ _ _ _ => pts_one (pt_cmpR (r := rIn K true) op_notIn_seq (pe_ix (r := rIxT K) ix_tup (pv 4) pe_int (fun _ _ => rfl)) (pv 2) (by rfl))) (fun _ _ _ _ _ => pe_ix (r := rIxT K) ix_tup (pv 4) pe_int (fun _ _ => rfl)))))))
      (pss_cons (ps_set (i := 5) scLr.nd rfl (.inr rfl) (pe_callTy (call_dictP rfl) (by rfl) G.zDict (by decide +kernel) (pa_cons
        (pe_lc (own := [("_law_number", 8)]) (g := gName 8) (tt := tYes) rfl scLr.nd (pi_list (pv 2)) (blkOk_by (N := nLr) (sc := defScope sLr) (by decide +kernel)) (fun _ _ _ _ _ => pg_name (i := 8) scLr.nd rfl (Or.inl rfl)) (fun _ _ _ _ _ => pts_nil)
          (fun _ _ _ _ _ => pe_tup (pa_cons (pv 8) (pa_cons (C8.pe_c c1 hr (by decide) (by rfl) (pa_cons (pv 0) (pa_cons (pv 1) (pa_cons (pv 8) pa_nil)))) pa_nil)))) pa_nil)))
      (pss_cons (ps_set (i := 6) scLr.nd rfl (.inl rfl) (pe_lst pa_nil))
      (pss_cons (ps_for PassesOwn.never rfl (pi_list (pe_callB cr_sortedI (by rfl) G.zSorted (by decide +kernel) (pa_cons (pv 2) pa_nil))) (pg_name (i := 4) scLr.nd rfl (.inr rfl))
        (pss_cons (ps_setLc (i := 7) (own := [("_law_other", 9)]) (g := gName 9) (by rfl) scLr.nd rfl rfl (sw_true rfl rfl rfl (by decide +kernel)) (pi_list (pe_callB cr_sortedI (by rfl) G.zSorted (by decide +kernel) (pa_cons (pv 2) pa_nil)))
            (blkOk_by (N := nLr) (sc := defScope sLr) (by decide +kernel)) (fun _ _ _ _ _ => pg_name (i := 9) scLr.nd rfl (Or.inl rfl))
            (fun _ _ _ _ _ => pts_one (pt_cmpR op_lt (pe_ix (r := rIxT K) ix_tup (pe_dget hu (pv 5) (pv 4) (fun _ _ => rfl)) pe_int (fun _ _ => rfl)) (pe_ix (r := rIxT K) ix_tup (pe_dget hu (pv 5) (pv 9) (fun _ _ => rfl)) pe_int (fun _ _ => rfl)) (nomark _)))
            (fun _ _ _ _ _ => pv 9))
        (pss_one (ps_set (i := 6) scLr.nd rfl (.inl rfl) (pe_op op_cat (pv 6)
          (pe_lc (own := [("_law_other", 9)]) (g := gName 9) rfl scLr.nd (pi_list (pv 7)) (blkOk_by (N := nLr) (sc := defScope sLr) (by decide +kernel)) (fun _ _ _ _ _ => pg_name (i := 9) scLr.nd rfl (Or.inl rfl))
            (fun _ _ _ _ _ => pts_one (pt_cmpR op_ne (pv 9) (pv 4) (nomark _))) (fun _ _ _ _ _ => pe_tup (pa_cons (pv 4) (pa_cons (pv 9) pa_nil)))))))))
      (pss_one (ps_ret (pv 6))))))), ?_⟩
    -- the numbers
    refine ⟨Nat.zero_le _, fun n0 nn0 => ?_⟩
    refine ⟨_, rfl, a, rfl, ⟨_, ex_l (Ex.new nn0) ha⟩, ?_⟩
    refine for_list (xs := xs) (fun i σ H1 => ∃ l x ns, σ = [some (V.ref a), some v2, some (V.ref l), x, none, none, none, none, none, none] ∧ Ex H H1 ∧ H1 l = some (.lst ((ns : List Int).map V.int)) ∧ ns.Nodup ∧ ns.length ≤ 6 * i ∧ ∀ n, n ∈ ns ↔ ∃ f ∈ (ts.take i).flatten, f.1 = n)
      ⟨n0, none, [], rfl, Ex.new nn0, upd_same, List.nodup_nil, Nat.le_refl _, fun n => by simp⟩ (fun i σ H1 _ z => by obtain ⟨_, _, _, _, e, _⟩ := z; exact ex_l e ha) ?_ ?_
    · rintro i x σ H1 hi ⟨l, x3, ns, rfl, e1, hl, hnd, hnl, hnm⟩
      obtain ⟨t, ht, hd⟩ := hx.get hi
      obtain ⟨p, ys, rfl, hp, hy⟩ := dp_list hd
      have ft := hg.fine t (List.mem_of_getElem? ht)
      have t6 := ft.len
      have hyl := hy.len
      have hil := (List.getElem?_eq_some_iff.mp ht).1
      refine ⟨_, rfl, _, rfl, p, rfl, ⟨_, ex_l e1 hp⟩, fun Dd hD => ?_⟩
      refine lc_val (K := K) (walk_list (xs := ys)) (fun j => decide ((t.getD j (0, 0, 0)).1 ∉ ns)) (fun j => V.int (t.getD j (0, 0, 0)).1) hD (by omega) (fun H3 e3 => ex_l (e1.trans e3) hp) ?_ ?_
      · rintro j y H3 H3' hj e3 ⟨rfl, hyj⟩ A B hA hB
        obtain ⟨g, hg1, hdg⟩ := hy.get hyj
        obtain ⟨u, rfl, hu⟩ := dp_fi hdg
        have eg : t.getD j (0, 0, 0) = g := by rw [List.getD_eq_getElem?_getD, hg1] <;> rfl
        rw [eg] at hA hB
        refine ⟨rfl, _, rfl, u, _, 0, _, rfl, rfl, ex_t (e1.trans e3) hu, rfl, _, rfl, l, _, rfl, .inl (sq_of (e3 _ _ hl)), rfl, flat_ints ns, _, rfl, ?_⟩
        rw [inV_int]
        by_cases m : g.1 ∈ ns
        · rw [decide_eq_true m]
          exact iteF (hA (decide_eq_false fun z => z m) _ (Ex.refl _))
        · rw [decide_eq_false m]
          exact iteT ⟨_, rfl, u, _, 0, _, rfl, rfl, ex_t (e1.trans e3) hu, rfl, hB (decide_eq_true m) _ (Ex.refl _)⟩
      · intro H3 e3 h3
        rw [hyl] at h3
        have h4 := h3.trans (congrArg (fun z => some (HO.lst z)) (given_filter t (fun f => decide (f.1 ∉ ns)) (·.1)))
        have fl := List.length_filter_le (fun f : Fi => decide (f.1 ∉ ns)) t
        refine ⟨l, Dd, _, _, rfl, rfl, e3 _ _ hl, h4, ?_, fun l2 nl2 => ?_⟩
        · rw [List.length_map, List.length_map, List.length_map]
          exact sz_of (by omega)
        refine ⟨l2, _, ns ++ (t.filter fun f => decide (f.1 ∉ ns)).map (·.1), rfl, (e1.trans e3).trans (Ex.new nl2), by rw [upd_same, List.map_append], ?_, ?_, ?_⟩
        · refine List.nodup_append.mpr ⟨hnd, ft.nd.sublist (List.filter_sublist.map _), fun n hn m hm e => ?_⟩
          obtain ⟨f, hf, e2⟩ := List.mem_map.mp hm
          have h5 := of_decide_eq_true (List.mem_filter.mp hf).2
          rw [e2, ← e] at h5
          exact h5 hn
        · rw [List.length_append, List.length_map]
          omega
        · intro n
          rw [flat_take ht, List.mem_append, hnm n]
          constructor
          · rintro (⟨f, hf, e⟩ | h)
            · exact ⟨f, List.mem_append.mpr (.inl hf), e⟩
            · obtain ⟨f, hf, e⟩ := List.mem_map.mp h
              exact ⟨f, List.mem_append.mpr (.inr (List.mem_filter.mp hf).1), e⟩
          · rintro ⟨f, hf, e⟩
            rcases List.mem_append.mp hf with h | h
            · exact .inl ⟨f, h, e⟩
            · by_cases m : f.1 ∈ ns
              · rw [← e]
                exact .inl ((hnm f.1).mp m)
              · exact .inr (List.mem_map.mpr ⟨f, List.mem_filter.mpr ⟨h, decide_eq_true m⟩, e⟩)
    · rintro σ H1 ⟨l, x3, ns, rfl, e1, hl, hnd, hnl, hnm⟩
      rw [hx.len] at hnl
      rw [hx.len, List.take_length] at hnm
      have h36 : ns.length ≤ 36 := by omega
      -- the bounds
      refine ⟨_, rfl, l, rfl, ⟨_, sq_of hl⟩, fun Dd hD => ?_⟩
      refine lc_new (K := K) (walk_list (xs := ns.map V.int)) (fun _ => true) (fun G v j => ∃ t u, v = .ref t ∧ G t = some (.tup [.int (ns.getD j 0), .ref u]) ∧ G u = some (.tup [.int (lo (flat ts c) (ns.getD j 0)), .int (hi (flat ts c) (ns.getD j 0))])) hD (by rw [List.length_map]; omega) (fun H3 e3 => ex_l e3 (sq_of hl))
        (fun G1 G2 v j e z => by obtain ⟨t, u, z1, z2, z3⟩ := z; exact ⟨t, u, z1, e _ _ z2, e _ _ z3⟩) ?_ ?_
      · rintro j y H3 H3' hj e3 ⟨rfl, hyj⟩ A B _ hB
        rw [List.length_map] at hj
        rw [List.getElem?_map, List.getElem?_eq_getElem hj] at hyj
        cases hyj
        have en : ns.getD j 0 = ns[j] := by rw [List.getD_eq_getElem?_getD, List.getElem?_eq_getElem hj] <;> rfl
        rw [en] at hB
        refine ⟨rfl, _, rfl, _, rfl, _, rfl, _, rfl, _, _, ns[j], ts, c, rfl, dpx (e1.trans e3) hv1, dpx (e1.trans e3) hv2, hg, hk, hc6, fun u H4 e4 nu hu => ⟨by show 2 ≤ sizeLine; decide, fun t nt => ?_⟩⟩
        have ntu : t ≠ u := fun z => by rw [z, hu] at nt; cases nt
        exact hB rfl _ _ (e4.trans (Ex.new nt)) ⟨t, u, rfl, by rw [fr_at (none_of e4 nt), upd_same], by rw [fr_at nu, upd_ne ntu.symm]; exact hu⟩
      · intro H3 zs e3 hz hzs
        rw [show (List.range (ns.map V.int).length).filter (fun _ => true) = List.range ns.length from by rw [List.length_map]; exact List.filter_eq_self.mpr fun _ _ => rfl] at hzs
        -- its pairs
        obtain ⟨ps, kvs, hps, hpk, hkey, hall⟩ : ∃ (ps : List Addr) (kvs : List (Key × V)), zs = ps.map V.ref ∧ Paired (fun p kv => SqT K H3 p [kV kv.1, kv.2]) ps kvs ∧ (∀ n ∈ ns, ∃ kv ∈ kvs, kv.1 = Sum.inl n) ∧
            (∀ kv ∈ kvs, ∃ n u, kv.1 = Sum.inl n ∧ kv.2 = .ref u ∧ H3 u = some (.tup [.int (lo (flat ts c) n), .int (hi (flat ts c) n)])) := by
          have h := hzs.mono (G := fun v j => ∃ t u, v = .ref t ∧ H3 t = some (.tup [.int (ns.getD j 0), .ref u]) ∧ H3 u = some (.tup [.int (lo (flat ts c) (ns.getD j 0)), .int (hi (flat ts c) (ns.getD j 0))])) fun v j z => by
            obtain ⟨t, u, z1, z2, z3⟩ := z
            exact ⟨t, u, z1, fr_sub _ _ z2, fr_sub _ _ z3⟩
          have gen : ∀ (zs : List V) (js : List Nat), All2 (fun v j => ∃ t u, v = .ref t ∧ H3 t = some (.tup [.int (ns.getD j 0), .ref u]) ∧ H3 u = some (.tup [.int (lo (flat ts c) (ns.getD j 0)), .int (hi (flat ts c) (ns.getD j 0))])) zs js →
              ∃ (ps : List Addr) (kvs : List (Key × V)), zs = ps.map V.ref ∧ Paired (fun p kv => SqT K H3 p [kV kv.1, kv.2]) ps kvs ∧ (∀ j ∈ js, ∃ kv ∈ kvs, kv.1 = Sum.inl (ns.getD j 0)) ∧
              (∀ kv ∈ kvs, ∃ n u, kv.1 = Sum.inl n ∧ kv.2 = .ref u ∧ H3 u = some (.tup [.int (lo (flat ts c) n), .int (hi (flat ts c) n)])) := by
            intro zs
            induction zs with
            | nil =>
              intro js hj
              have e : js = [] := List.eq_nil_of_length_eq_zero hj.len.symm
              subst e
              exact ⟨[], [], rfl, .nil, fun j hj => by simp at hj, fun kv hkv => by simp at hkv⟩
            | cons z zs ih =>
              intro js hj
              obtain ⟨j, js', rfl, ⟨t, u, rfl, h1, h2⟩, hr⟩ := hj.inv
              obtain ⟨ps, kvs, i1, i2, i3, i4⟩ := ih js' hr
              refine ⟨t :: ps, ((Sum.inl (ns.getD j 0) : Key), V.ref u) :: kvs, by rw [i1] <;> rfl, .cons (st_of h1) i2, fun k hk => ?_, fun kv hkv => ?_⟩
              · rcases List.mem_cons.mp hk with e | e
                · exact ⟨_, List.mem_cons_self, by rw [e]⟩
                · obtain ⟨kv, m1, m2⟩ := i3 k e
                  exact ⟨kv, List.mem_cons_of_mem _ m1, m2⟩
              · rcases List.mem_cons.mp hkv with e | e
                · rw [e]
                  exact ⟨_, u, rfl, rfl, h2⟩
                · exact i4 kv e
          obtain ⟨ps, kvs, i1, i2, i3, i4⟩ := gen zs _ h
          refine ⟨ps, kvs, i1, i2, fun n hn => ?_, i4⟩
          obtain ⟨j, hj⟩ := List.mem_iff_getElem?.mp hn
          have hjl := (List.getElem?_eq_some_iff.mp hj).1
          obtain ⟨kv, m1, m2⟩ := i3 j (List.mem_range.mpr hjl)
          exact ⟨kv, m1, by rw [m2, List.getD_eq_getElem?_getD, hj] <;> rfl⟩
        have look : ∀ n ∈ ns, ∃ u, valV (mergeK [] kvs) (Sum.inl n : Key) = some (.ref u) ∧ H3 u = some (.tup [.int (lo (flat ts c) n), .int (hi (flat ts c) n)]) := fun n hn => by
          obtain ⟨v, h1, u, rfl, h2⟩ := merge_get (Good := fun v => ∃ u, v = .ref u ∧ H3 u = some (.tup [.int (lo (flat ts c) n), .int (hi (flat ts c) n)])) (k := (Sum.inl n : Key)) kvs [] (fun kv hkv e => by
            obtain ⟨m, u, i1, i2, i3⟩ := hall kv hkv
            rw [e] at i1
            have e2 : n = m := Sum.inl.inj i1
            rw [← e2] at i3
            exact ⟨u, i2, i3⟩) (.inl (hkey n hn)) (fun v hv => by simp [valV] at hv)
          exact ⟨u, h1, h2⟩
        rw [hps] at hz
        refine ⟨Dd, ps, kvs, rfl, sq_of hz, hpk, fun dd ndd => ?_⟩
        refine ⟨Nat.zero_le _, fun f0 nf0 => ?_⟩
        have sn : ∀ ns' : List Int, ns'.Perm ns → ns'.Pairwise (· ≤ ·) → ns' = Sn ts := fun ns' pm up =>
          int_up (up_of_le up (pm.nodup_iff.mpr hnd)) (Sn_up ts) fun n => by rw [pm.mem_iff, hnm n, mem_Sn]
        have snm : ∀ n ∈ Sn ts, n ∈ ns := fun n hn => (hnm n).mpr (mem_Sn.mp hn)
        have sl : (Sn ts).length ≤ 36 := Nat.le_trans (nd_le ((Sn_up ts).imp fun {a b} z => Int.ne_of_lt z) snm) h36
        generalize hkm : mergeK [] kvs = dict at look nf0 ⊢
        have eA : Ex H1 (upd (upd H3 dd (.dK dict)) f0 (.lst [])) := (e3.trans (Ex.new ndd)).trans (Ex.new nf0)
        have eB : Ex H3 (upd (upd H3 dd (.dK dict)) f0 (.lst [])) := (Ex.new ndd).trans (Ex.new nf0)
        have hdd : upd (upd H3 dd (.dK dict)) f0 (.lst []) dd = some (.dK dict) := (Ex.new nf0) _ _ upd_same
        have nf : H f0 = none := none_of ((e1.trans e3).trans (Ex.new ndd)) nf0
        have hf0 : upd (upd H3 dd (.dK dict)) f0 (.lst []) f0 = some (.lst []) := upd_same
        generalize upd (upd H3 dd (.dK dict)) f0 (.lst []) = H4 at *
        refine ⟨_, rfl, l, ns, rfl, sq_of (eA _ _ hl), fun ns' sp pm up nsp => ?_⟩
        rw [sn ns' pm up]
        refine ⟨sp, rfl, ⟨_, sq_of upd_same⟩, ?_⟩
        refine for_list (xs := (Sn ts).map V.int) (fun i σ H5 => ∃ x4 x7 fl ys, σ = [some (V.ref a), some v2, some (V.ref l), x3, x4, some (V.ref dd), some (V.ref fl), x7, none, none] ∧ Ex H4 H5 ∧ H5 sp = some (.lst ((Sn ts).map V.int)) ∧ H fl = none ∧ H5 fl = some (.lst ys) ∧
            All2 (Pl (fr H H5)) ys (((Sn ts).take i).flatMap (row (Sn ts) (lo (flat ts c)) (hi (flat ts c)))))
          ⟨none, none, f0, [], rfl, Ex.new nsp, upd_same, nf, (Ex.new nsp) _ _ hf0, .nil⟩ (fun i σ H5 _ z => by obtain ⟨_, _, _, _, _, _, z, _⟩ := z; exact sq_of z) ?_ ?_
        · rintro i x σ H5 hi ⟨x4, x7, fl, ys, rfl, e5, hsp, nfl, hfl, hys⟩
          rw [List.getElem?_map] at hi
          cases en : (Sn ts)[i]? with
          | none => rw [en] at hi; cases hi
          | some one =>
          rw [en] at hi
          cases hi
          have e15 := eA.trans e5
          have hone := snm one (List.mem_of_getElem? en)
          obtain ⟨u1, g1, g2⟩ := look one hone
          -- above
          refine ⟨_, rfl, l, ns, rfl, sq_of (e15 _ _ hl), fun ns2 sp2 pm2 up2 nsp2 => ?_⟩
          rw [sn ns2 pm2 up2]
          refine ⟨sp2, rfl, ⟨_, sq_of upd_same⟩, fun D2 hD2 => ?_⟩
          have e56 := Ex.new (o := .lst ((Sn ts).map V.int)) nsp2
          refine lc_val (K := K) (walk_list (xs := (Sn ts).map V.int)) (fun j => decide (hi (flat ts c) one < lo (flat ts c) ((Sn ts).getD j 0))) (fun j => V.int ((Sn ts).getD j 0)) hD2 (by rw [List.length_map]; omega) (fun H6 e6 => sq_of (e6 _ _ upd_same)) ?_ ?_
          · rintro j y H6 H6' hj e6 ⟨rfl, hyj⟩ A B hA hB
            rw [List.length_map] at hj
            rw [List.getElem?_map, List.getElem?_eq_getElem hj] at hyj
            cases hyj
            have e3j : (Sn ts).getD j 0 = (Sn ts)[j] := by rw [List.getD_eq_getElem?_getD, List.getElem?_eq_getElem hj] <;> rfl
            rw [e3j] at hA hB
            obtain ⟨u2, g3, g4⟩ := look _ (snm _ (List.getElem_mem hj))
            have e36 : Ex H3 H6' := ((eB.trans e5).trans e56).trans e6
            have hdd6 : H6' dd = some (.dK dict) := e6 _ _ (e56 _ _ (e5 _ _ hdd))
            refine ⟨rfl, _, rfl, _, rfl, dd, .ref u1, rfl, .inl ⟨dict, Sum.inl one, .inl hdd6, rfl, g1.symm⟩, u1, _, 1, _, rfl, rfl, st_of (e36 _ _ g2), rfl, ?_⟩
            refine ⟨_, rfl, _, rfl, dd, .ref u2, rfl, .inl ⟨dict, Sum.inl (Sn ts)[j], .inl hdd6, rfl, g3.symm⟩, u2, _, 0, _, rfl, rfl, st_of (e36 _ _ g4), rfl, _, _, rfl, rfl, _, rfl, ?_⟩
            exact ite2 (fun h => ⟨_, rfl, hB h _ (Ex.refl _)⟩) (fun h => hA (Bool.eq_false_iff.mpr h) _ (Ex.refl _))
          · intro H6 e6 h6
            have h7 : H6 D2 = some (.lst (((Sn ts).filter fun b => decide (hi (flat ts c) one < lo (flat ts c) b)).map V.int)) := by
              rw [List.length_map] at h6
              exact h6.trans (congrArg (fun z => some (HO.lst z)) (given_filterI (Sn ts) (fun b => decide (hi (flat ts c) one < lo (flat ts c) b))))
            generalize hab : (Sn ts).filter (fun b => decide (hi (flat ts c) one < lo (flat ts c) b)) = ab at h7
            have abl : ab.length ≤ 36 := by
              rw [← hab]
              exact Nat.le_trans (List.length_filter_le _ _) sl
            have e45 : Ex H5 H6 := e56.trans e6
            -- found + the row
            refine ⟨_, rfl, _, rfl, D2, rfl, ⟨_, sq_of h7⟩, fun D3 hD3 => ?_⟩
            refine lc_new (K := K) (walk_list (xs := ab.map V.int)) (fun j => decide (ab.getD j 0 ≠ one)) (fun G v j => Pl G v (one, ab.getD j 0)) hD3 (by rw [List.length_map]; omega) (fun H7 e7 => sq_of (e7 _ _ h7)) (fun _ _ _ _ e z => z.ex e) ?_ ?_
            · rintro j y H7 H7' hj e7 ⟨rfl, hyj⟩ A B hA hB
              rw [List.length_map] at hj
              rw [List.getElem?_map, List.getElem?_eq_getElem hj] at hyj
              cases hyj
              have e3j : ab.getD j 0 = ab[j] := by rw [List.getD_eq_getElem?_getD, List.getElem?_eq_getElem hj] <;> rfl
              rw [e3j] at hA hB
              refine ⟨rfl, _, rfl, _, rfl, rfl, _, rfl, ?_⟩
              by_cases c1 : ab[j] = one
              · rw [decide_eq_true (show V.int ab[j] = V.int one by rw [c1])]
                exact iteF (hA (decide_eq_false fun z => z c1) _ (Ex.refl _))
              · rw [decide_eq_false (show ¬ V.int ab[j] = V.int one from fun z => c1 (V.int.inj z))]
                refine iteT ⟨_, rfl, _, rfl, by show 2 ≤ sizeLine; decide, fun t nt => hB (decide_eq_true c1) _ _ (Ex.new nt) ⟨t, rfl, ?_⟩⟩
                rw [fr_at nt, upd_same]
            · intro H7 zs7 e7 h8 hzs7
              have yl : ys.length ≤ 2000 := by
                rw [hys.len]
                refine Nat.le_trans (fm_len (m := 36) fun a _ => Nat.le_trans (row_len _ _ _ _) sl) ?_
                rw [List.length_take]
                omega
              have zl : zs7.length ≤ 36 := by
                rw [hzs7.len]
                refine Nat.le_trans (List.length_filter_le _ _) ?_
                rw [List.length_range, List.length_map]
                exact abl
              refine ⟨fl, D3, ys, zs7, rfl, rfl, e7 _ _ (e45 _ _ hfl), h8, sz_of (by omega), fun f1 nf1 => ?_⟩
              have e57 : Ex H5 (upd H7 f1 (.lst (ys ++ zs7))) := (e45.trans e7).trans (Ex.new nf1)
              have eH7 : Ex H H7 := ((e1.trans e15).trans e45).trans e7
              refine ⟨_, _, f1, ys ++ zs7, rfl, e5.trans e57, e57 _ _ hsp, none_of eH7 nf1, upd_same, ?_⟩
              have er : ((Sn ts).take (i + 1)).flatMap (row (Sn ts) (lo (flat ts c)) (hi (flat ts c))) = ((Sn ts).take i).flatMap (row (Sn ts) (lo (flat ts c)) (hi (flat ts c))) ++ row (Sn ts) (lo (flat ts c)) (hi (flat ts c)) one := by
                rw [List.take_add_one, en, List.flatMap_append]
                show _ ++ (row (Sn ts) (lo (flat ts c)) (hi (flat ts c)) one ++ []) = _
                rw [List.append_nil]
              have er2 : row (Sn ts) (lo (flat ts c)) (hi (flat ts c)) one = ((List.range (ab.map V.int).length).filter fun j => decide (ab.getD j 0 ≠ one)).map fun j => (one, ab.getD j 0) := by
                unfold row
                rw [hab, List.length_map, ← filter_get ab 0 (fun b => decide (b ≠ one)), List.map_map]
                rfl
              rw [er, er2]
              refine All2.app (hys.mono fun v p z => z.ex (fr_right e57)) (All2.map' (hzs7.mono fun v j z => z.ex (fr_ex (fun b n => ?_) fun b o _ z => (Ex.new nf1) b o z)))
              exact none_of (((e1.trans e15).trans e45).trans (Ex.new hD3)) n
        · rintro σ H5 ⟨x4, x7, fl, ys, rfl, e5, hsp, nfl, hfl, hys⟩
          rw [List.length_map, ← R_take] at hys
          refine ⟨_, rfl, q fl H5 ((e1.trans eA).trans e5) ?_⟩
          exact dp_mk (sq_of (by rw [fr_at nfl]; exact hfl)) (hys.mono fun v p z => z.dp)
end
end Fw
namespace Fw
open PySem PySem.Spec PyProof.Rows L2 Evl
/-! max(xs, default=d): the library's walk, with the keyword kept -/
abbrev kwD (d : Value) : List (Str × Value) := [(Str.ofString "default", d)]
theorem ok_maxD (a d : Value) : argsOk "max" ⟨[a], kwD d⟩ := by unfold argsOk; kernel_rfl
theorem nm_max : (toString "max" ++ toString ".loop" : String) = "max.loop" := by decide
section
variable {P : Program} {w : World} {A : Around} {R : Result → Shared → Prop} {I S : Addr} {fp wr : List Addr} {n : Nat} {Pv : Nat → Value → Prop} {St : Nat → Heap → Prop} {d : Value}
theorem maxD_loop (W : Walks P w A.in1 I fp wr n Pv St) (bt : Nat → Nat → Bool) (hcmp : CmpOf P w A.in1 .Gt Pv bt) (hSf : S ∉ fp) :
    ∀ (k j : Nat) (t : Shared) (b : Value) (c : Nat), n - (j + 1) = k → j + 1 ≤ n → St (j + 1) t.heap → Pv (argBest bt j) b → t.heap.get? S = some { cls := .type "list", dict := none, data := .seq #[b, b] c, slots := #[] } →
    (∀ v h' tk, Pv (argBest bt (n - 1)) v → (∀ x o, x ∉ wr → x ≠ S → t.heap.get? x = some o → h'.get? x = some o) → R (.ok (.ret v)) { t with heap := h', toks := tk }) →
    codeAny (model P w) A (.builtin "max.loop" ⟨[.ref I, .none, .ref S], kwD d⟩) R t := by
  have nSw : S ∉ wr := fun h => hSf (W.sub _ h)
  intro k
  induction k with
  | zero =>
    intro j t b c hk hj st hb hS hR
    have en : j + 1 = n := by omega
    refine codeAny_builtin PySem.F.entry_max_loop ?_
    rw [Around.under_plainId PySem.F.plain_max_loop _]
    show wpAny (model P w) A.in1 (seqItems? (.ref S) >>= _) _ _ t
    refine wpAny_bind (wpAny_seqItems hS rfl ?_)
    show wpAny (model P w) A.in1 (tryCatch (pyNext (.ref I)) _ >>= _) _ _ t
    refine wpAny_bind (wpAny_tryCatch (W.done t _ _ (by rw [← en]; exact st) fun h' tk kp => ?_))
    have hS2 := kp S _ nSw hS
    show wpAny (model P w) A.in1 (updateSeq S (fun _ => #[]) >>= _) _ _ _
    refine wpAny_bind (wpAny_updateSeq hS2 rfl (wpAny_bind (wpAny_letGo (wpAny_pure ?_))))
    refine hR b _ tk (by rw [← en]; exact hb) fun x o n1 n2 e => ?_
    rw [Heap.get?_update_other _ _ (Ne.symm n2)]
    exact kp x o n1 e
  | succ k ih =>
    intro j t b c hk hj st hb hS hR
    have lt : j + 1 < n := by omega
    refine codeAny_builtin PySem.F.entry_max_loop ?_
    rw [Around.under_plainId PySem.F.plain_max_loop _]
    show wpAny (model P w) A.in1 (seqItems? (.ref S) >>= _) _ _ t
    refine wpAny_bind (wpAny_seqItems hS rfl ?_)
    show wpAny (model P w) A.in1 (tryCatch (pyNext (.ref I)) _ >>= _) _ _ t
    refine wpAny_bind (wpAny_tryCatch (W.item (j + 1) t _ _ lt st fun v h' tk hv st2 kp => ?_))
    have hS2 := kp S _ nSw hS
    show wpAny (model P w) A.in1 (tryCatch (holding [v, v] (richCompare .Gt v b >>= _)) _ >>= _) _ _ _
    refine wpAny_bind (wpAny_tryCatch (wpAny_holding (wpAny_bind (hcmp (j + 1) (argBest bt j) v b _ _ _ hv hb ?_))))
    refine wpAny_bind (wpAny_holding (wpAny_truthy_bool (wpAny_bind (wpAny_letGo (wpAny_pure ?_)))))
    cases hbt : bt (j + 1) (argBest bt j) with
    | true =>
      simp only [if_true]
      refine wpAny_bind (wpAny_updateSeq hS2 rfl (wpAny_bind (wpAny_letGo ?_)))
      rw [nm_max]
      refine wpAny_pure ⟨plainId_quiet PySem.F.plain_max_loop _, ih (j + 1) _ v _ (by omega) lt (W.frame _ _ _ st2 fun x hx o e => ?_) (by simp only [argBest, hbt, if_true]; exact hv) (Heap.get?_update_self _ hS2 rfl) fun u h2 tk2 hu kp2 => ?_⟩
      · rw [Heap.get?_update_other _ _ (fun z : S = x => hSf (by rw [z]; exact hx))]
        exact e
      · exact hR u h2 tk2 hu fun x o n1 n2 e => kp2 x o n1 n2 ((Heap.get?_update_other _ _ (Ne.symm n2)).trans (kp x o n1 e))
    | false =>
      simp only [Bool.false_eq_true, if_false]
      refine wpAny_bind (wpAny_letGo ?_)
      rw [nm_max]
      refine wpAny_pure ⟨plainId_quiet PySem.F.plain_max_loop _, ih (j + 1) _ b c (by omega) lt st2 (by simp only [argBest, hbt, Bool.false_eq_true, if_false]; exact hb) hS2 fun u h2 tk2 hu kp2 => ?_⟩
      exact hR u h2 tk2 hu fun x o n1 n2 e => kp2 x o n1 n2 (kp x o n1 e)
theorem maxD_first (W : Walks P w A.in1 I fp wr n Pv St) (bt : Nat → Nat → Bool) (hcmp : CmpOf P w A.in1 .Gt Pv bt) (hSf : S ∉ fp) {t : Shared} {c : Nat} (st : St 0 t.heap)
    (hS : t.heap.get? S = some { cls := .type "list", dict := none, data := .seq #[] c, slots := #[] })
    (h0 : n = 0 → ∀ h' tk, (∀ x o, x ∉ wr → x ≠ S → t.heap.get? x = some o → h'.get? x = some o) → R (.ok (.ret d)) { t with heap := h', toks := tk })
    (hR : 0 < n → ∀ v h' tk, Pv (argBest bt (n - 1)) v → (∀ x o, x ∉ wr → x ≠ S → t.heap.get? x = some o → h'.get? x = some o) → R (.ok (.ret v)) { t with heap := h', toks := tk }) :
    codeAny (model P w) A (.builtin "max.loop" ⟨[.ref I, .none, .ref S], kwD d⟩) R t := by
  have nSw : S ∉ wr := fun h => hSf (W.sub _ h)
  refine codeAny_builtin PySem.F.entry_max_loop ?_
  rw [Around.under_plainId PySem.F.plain_max_loop _]
  show wpAny (model P w) A.in1 (seqItems? (.ref S) >>= _) _ _ t
  refine wpAny_bind (wpAny_seqItems hS rfl ?_)
  show wpAny (model P w) A.in1 (tryCatch (pyNext (.ref I)) _ >>= _) _ _ t
  by_cases hn : 0 < n
  · refine wpAny_bind (wpAny_tryCatch (W.item 0 t _ _ hn st fun v h' tk hv st2 kp => ?_))
    have hS2 := kp S _ nSw hS
    show wpAny (model P w) A.in1 (updateSeq S (fun _ => #[v, v]) >>= _) _ _ _
    refine wpAny_bind (wpAny_updateSeq hS2 rfl ?_)
    rw [nm_max]
    refine wpAny_pure ⟨plainId_quiet PySem.F.plain_max_loop _, maxD_loop W bt hcmp hSf _ 0 _ v _ rfl hn (W.frame _ _ _ st2 fun x hx o e => ?_) hv (Heap.get?_update_self _ hS2 rfl) fun u h2 tk2 hu kp2 => ?_⟩
    · rw [Heap.get?_update_other _ _ (fun z : S = x => hSf (by rw [z]; exact hx))]
      exact e
    · exact hR hn u h2 tk2 hu fun x o n1 n2 e => kp2 x o n1 n2 ((Heap.get?_update_other _ _ (Ne.symm n2)).trans (kp x o n1 e))
  · have n0 : n = 0 := by omega
    subst n0
    refine wpAny_bind (wpAny_tryCatch (W.done t _ _ st fun h' tk kp => ?_))
    show wpAny (model P w) A.in1 (rule _ >>= _) _ _ _
    refine wpAny_bind (wpAny_rule ?_)
    exact wpAny_pure (h0 rfl h' tk fun x o n1 _ e => kp x o n1 e)
end
section
variable {P : Program} {w : World} {A : Around} {E : Value → Shared → Prop} {s : Shared} {l : Addr} {xs : Array (Int × Tok)} {d : Value}
theorem maxD_ints {Q : Value → Shared → Prop} (hh : A.handled = none) (hl : s.heap.IsList l (intItems xs))
    (h0 : xs.size = 0 → ∀ h' tk, (∀ b o, s.heap.get? b = some o → h'.get? b = some o) → Q d { s with heap := h', toks := tk })
    (h1 : 0 < xs.size → ∀ v h' tk, (intItems xs)[argBest (fun i j => decide (numAt xs i > numAt xs j)) (xs.size - 1)]? = some v → (∀ b o, s.heap.get? b = some o → h'.get? b = some o) → Q v { s with heap := h', toks := tk }) :
    wpAny (model P w) A (call (.builtin "max") [.ref l] (kwD d)) Q E s := by
  refine kmk_tree PySem.F.kind_max PySem.F.plain_max PySem.F.entry_max (ok_maxD _ _) ?_
  show wpAny (model P w) A.in1 (Builtin.Builtins.bindParams "max" ["key", "default"] 0 ⟨[], kwD d⟩ >>= _) _ _ s
  refine wpAny_bind (wpAny_of_eq (show Builtin.Builtins.bindParams "max" ["key", "default"] 0 ⟨[], kwD d⟩ = pure [none, some d] from rfl) ?_)
  refine wpAny_bind (wpAny_pure ?_)
  refine wpAny_bind (iter_intList hl fun s2 e st hfp hlI => ?_)
  subst e
  refine wpAny_bind (wpAny_newObj_type ?_)
  rw [nm_max]
  have hSf : (s.heap.push { cls := .type "list_iterator", data := .fields #[.ref l, .int 0 0] }).objs.size ∉ [s.heap.objs.size, l] := fun hm => Nat.lt_irrefl _ (hfp _ hm)
  have W := Walks.list (prog := P) (w := w) (A := A.in1) hh s.heap.objs.size l hlI (intItems xs)
  have old : ∀ (h' : Heap), (∀ x o, x ∉ [s.heap.objs.size] → x ≠ (s.heap.push { cls := .type "list_iterator", data := .fields #[.ref l, .int 0 0] }).objs.size → ((s.heap.push { cls := .type "list_iterator", data := .fields #[.ref l, .int 0 0] }).push { cls := .type "list", dict := none, data := .seq #[] 0, slots := #[] }).get? x = some o → h'.get? x = some o) →
      ∀ b o, s.heap.get? b = some o → h'.get? b = some o := fun h' k b o e => by
    have hb := Heap.lt_size e
    refine k b o (fun z => ?_) (fun z => ?_) (Heap.get?_push_of_some _ (Heap.get?_push_of_some _ e))
    · exact absurd (List.mem_singleton.mp z) (Nat.ne_of_lt hb)
    · rw [Heap.size_push] at z
      exact absurd z (Nat.ne_of_lt (Nat.lt_succ_of_lt hb))
  have sz : (intItems xs).size = xs.size := by simp [intItems]
  refine wpAny_pure ⟨plainId_quiet PySem.F.plain_max_loop _, maxD_first W (fun i j => decide (numAt xs i > numAt xs j)) (CmpOf.ints_gt (numAt xs) (fun _ _ => intItems_at)) hSf (W.frame _ _ _ st fun b _ o e => Heap.get?_push_of_some _ e) (Heap.get?_push_size _ rfl)
    (fun e h' tk k => h0 (by rw [← sz]; exact e) h' tk (old h' k)) (fun e v h' tk hv k => h1 (by rw [← sz]; exact e) v h' tk (by rw [← sz]; exact hv) (old h' k))⟩
end
end Fw
namespace Fw
open PySem PySem.Spec PyProof.Rows L2 Evl
def rMaxD (K : PySem.W.Frag) : List V → List V → Hp → VK → Prop := fun vs zs H Q => ∃ (a : Addr) (ns : List Int) (d m : Int), vs = [V.ref a] ∧ zs = [V.int d] ∧ SqL K H a (ns.map V.int) ∧ (ns = [] → m = d) ∧ (0 < ns.length → m ∈ ns ∧ ∀ y, y ∈ ns → y ≤ m) ∧ Q (.int m) H
section
variable {X : Cx}
theorem cr_maxD (hc : X.calm = true) : CallRK X (.builtin "max") [Str.ofString "default"] (rMaxD X.K) := by
  intro pins s σ H vs zs us ws Q I r rz h
  obtain ⟨a, ns, d, m, rfl, rfl, hs, q0, q1, q⟩ := h
  obtain ⟨its, rv, hl, _⟩ := I.list hs
  obtain rfl := Vals.ref1 r
  obtain ⟨w1, rfl, t, e1⟩ := vals1 rz
  subst e1
  have hi := rv.ints
  obtain ⟨xs, e⟩ := hi.allInts.items
  have hn : numsOf (intItems xs).toList = ns := by rw [← e]; exact hi.numsOf
  rw [nums_intItems] at hn
  have hl2 := hl.isList
  rw [e] at hl2
  subst hn
  refine maxD_ints (I.ok.hd hc) hl2 (fun h0 h' tk hk => ?_) (fun h0 v h' tk hv hk => ?_)
  · have em : m = d := q0 (List.map_eq_nil_iff.mpr (List.eq_nil_of_length_eq_zero (by rw [Array.length_toList]; exact h0)))
    exact ⟨.int m, H, I.kept hk, ⟨t, by rw [em]⟩, q⟩
  · obtain ⟨t2, rfl⟩ := intItems_at hv
    obtain ⟨_, h2⟩ := argBest_gt (numAt xs) (xs.size - 1)
    obtain ⟨m1, m2⟩ := q1 (by rw [List.length_map, Array.length_toList]; exact h0)
    have hle : m ≤ numAt xs (argBest (fun i j => decide (numAt xs i > numAt xs j)) (xs.size - 1)) := by
      obtain ⟨j, hj, rfl⟩ := mem_getD m1
      rw [List.length_map, Array.length_toList] at hj
      rw [← numAt_eq]
      exact h2 j (by omega)
    have hge := m2 _ (by
      show numAt xs (argBest (fun i j => decide (numAt xs i > numAt xs j)) (xs.size - 1)) ∈ _
      rw [numAt_eq]
      exact PySem.getD_mem (by
        rw [List.length_map, Array.length_toList]
        have := (Array.getElem?_eq_some_iff.mp hv).1
        simpa [intItems] using this))
    have em : m = numAt xs (argBest (fun i j => decide (numAt xs i > numAt xs j)) (xs.size - 1)) := Int.le_antisymm hle hge
    exact ⟨.int m, H, I.kept hk, ⟨t2, by rw [em]⟩, q⟩
end
/-! the next number -/
theorem nxt_snoc (c : List Nat) (k : Nat) : nxt (c ++ [k]) = max (nxt c) (k + 1) := by simp [nxt]
theorem nxt_is (c : List Nat) : (∀ k ∈ c, k + 1 ≤ nxt c) ∧ (c = [] ∧ nxt c = 0 ∨ ∃ k ∈ c, nxt c = k + 1) := by
  induction c using snoc_ind with
  | h0 => exact ⟨fun k hk => by simp at hk, .inl ⟨rfl, rfl⟩⟩
  | h1 l a ih =>
    obtain ⟨i1, i2⟩ := ih
    rw [nxt_snoc]
    refine ⟨fun k hk => ?_, .inr ?_⟩
    · rcases List.mem_append.mp hk with h | h
      · have := i1 k h
        omega
      · rw [List.mem_singleton.mp h]
        omega
    · by_cases c1 : nxt l ≤ a + 1
      · exact ⟨a, List.mem_append.mpr (.inr (List.mem_singleton.mpr rfl)), by omega⟩
      · rcases i2 with ⟨_, e⟩ | ⟨k, hk, e⟩
        · omega
        · exact ⟨k, List.mem_append.mpr (.inl hk), by omega⟩
def ext (m : Nat) (c : List Nat) : List (List Nat) := (List.range' (nxt c) (m - nxt c)).map fun k => c ++ [k]
theorem lch_succ (s m : Nat) : lch (s + 1) m = (lch s m).flatMap (ext m) := rfl
theorem ext_len (m : Nat) (c : List Nat) : (ext m c).length ≤ m := by
  unfold ext
  rw [List.length_map, List.length_range']
  omega
theorem lch_len {s m : Nat} (hs : s ≤ 6) (hm : m ≤ 6) : (lch s m).length ≤ 20 := by
  rw [← ch_lch hs hm]
  exact ch_len hs hm
theorem lch_in {s m : Nat} {c : List Nat} (hs : s ≤ 6) (hm : m ≤ 6) (h : c ∈ lch s m) : c.length = s ∧ ∀ k ∈ c, k < m := by
  rw [← ch_lch hs hm] at h
  exact ch_in h
section
variable {P : Program} {w : World} {K : PySem.W.Frag} {mg : Str → Option Value} {base : Heap}
/-! _law_choices -/
abbrev sLch : Stmt := topS 37
def spLch : Sp := fun vs H Q _ => ∃ m s : Nat, vs = [vN m, vN s] ∧ m ≤ 6 ∧ s ≤ 6 ∧ ∀ (p : Addr) xs H1, Ex H H1 → H p = none → H1 p = some (.lst xs) → All2 (Il (fr H H1)) xs (lch s m) → Q (.ref p) H1
abbrev nLch : List Str := ["_law_many", "_law_size", "_law_found", "_law_turn", "_law_longer", "_law_one", "_law_k"]
theorem scLch : FnScope nLch ["_law_many", "_law_size"] (defScope sLch) := ⟨rfl, rfl, rfl, by decide +kernel, rfl, by decide +kernel, by decide +kernel⟩
theorem c_lch (D : Dn K mg "_law_choices" sLch ["_law_many", "_law_size"]) (G : Gs mg) : C8.Cal P w K mg base 1 "_law_choices" spLch [] := by
  refine cal_of D scLch (fun vs H Q E h => ?_) (fun f cdv A outer s H vs Q E hr h => ?_)
  · obtain ⟨m, s, rfl, _⟩ := h
    rfl
  · obtain ⟨m, sz, rfl, hm, hsz, q⟩ := h
    refine ⟨_, pss_cons (ps_set (i := 2) scLch.nd rfl (.inl rfl) (pe_lst (pa_cons (pe_lst pa_nil) pa_nil)))
      (pss_cons (ps_for PassesOwn.never rfl (pi_range1 (by rfl) G.zRange (pa_cons (pv 1) pa_nil)) (pg_name (i := 3) scLch.nd rfl (.inl rfl))
        (pss_cons (ps_set (i := 4) scLch.nd rfl (.inl rfl) (pe_lst pa_nil))
        (pss_cons (ps_for PassesOwn.never rfl (pi_list (pv 2)) (pg_name (i := 5) scLch.nd rfl (.inr rfl))
          (pss_one (ps_set (i := 4) scLch.nd rfl (.inl rfl) (pe_op op_cat (pv 4)
            (pe_lc (own := [("_law_k", 6)]) (g := gName 6) (tt := tYes) rfl scLch.nd (pi_range2 (by rfl) G.zRange (pa_cons (pe_op op_add (pe_callBK (cr_maxD rfl) (by rfl) G.zMax (by decide +kernel) (pa_cons (pv 5) pa_nil) (pk_cons (pe_un un_neg pe_int) pk_nil)) pe_int) (pa_cons (pv 0) pa_nil)))
              (blkOk_by (N := nLch) (sc := defScope sLch) (by decide +kernel)) (fun _ _ _ _ _ => pg_name (i := 6) scLch.nd rfl (Or.inl rfl)) (fun _ _ _ _ _ => pts_nil)
              (fun _ _ _ _ _ => pe_op op_cat (pv 5) (pe_lst (pa_cons (pv 6) pa_nil))))))))
        (pss_one (ps_set (i := 2) scLch.nd rfl (.inl rfl) (pv 4))))))
      (pss_one (ps_ret (pv 2)))), ?_⟩
    refine ⟨Nat.zero_le _, fun e0 ne0 => ⟨by show 1 ≤ sizeLine; decide, fun f0 nf0 => ?_⟩⟩
    have nef : e0 ≠ f0 := fun z => by rw [z, upd_same] at nf0; cases nf0
    refine ⟨_, rfl, (sz : Int), rfl, by omega, by omega, ?_⟩
    have es : ((sz : Int)).toNat = sz := Int.toNat_natCast sz
    refine for_range (lo := 0) (n := ((sz : Int)).toNat) (fun i σ H1 => ∃ x3 x4 x5 fl ys, σ = [some (vN m), some (vN sz), some (V.ref fl), x3, x4, x5, none] ∧ Ex H H1 ∧ H fl = none ∧ H1 fl = some (.lst ys) ∧ All2 (Il (fr H H1)) ys (lch i m))
      ⟨none, none, none, f0, [.ref e0], rfl, (Ex.new ne0).trans (Ex.new nf0), none_of (Ex.new ne0) nf0, upd_same, .cons ⟨e0, rfl, by rw [fr_at ne0, upd_ne nef, upd_same] <;> rfl⟩ .nil⟩ ?_ ?_
    · rintro i σ H1 hi ⟨x3, x4, x5, fl, ys, rfl, e1, nfl, hfl, hys⟩
      rw [es] at hi
      have y20 : ys.length ≤ 20 := by rw [hys.len]; exact lch_len (by omega) hm
      refine ⟨Nat.zero_le _, fun o no => ?_⟩
      refine ⟨_, rfl, fl, rfl, ⟨_, sq_of ((Ex.new no) _ _ hfl)⟩, ?_⟩
      refine for_list (xs := ys) (fun j σ H2 => ∃ x5 l zs, σ = [some (vN m), some (vN sz), some (V.ref fl), some (V.int (0 + (i : Nat))), some (V.ref l), x5, none] ∧ Ex H1 H2 ∧ H l = none ∧ H2 l = some (.lst zs) ∧ All2 (Il (fr H H2)) zs (((lch i m).take j).flatMap (ext m)))
        ⟨x5, o, [], rfl, Ex.new no, none_of e1 no, upd_same, .nil⟩ (fun j σ H2 _ z => by obtain ⟨_, _, _, _, e, _⟩ := z; exact sq_of (e _ _ hfl)) ?_ ?_
      · rintro j x σ H2 hj ⟨x5, l, zs, rfl, e2, nl, hl, hzs⟩
        obtain ⟨c, hc, u, rfl, hu⟩ := hys.get hj
        obtain ⟨c1, c2⟩ := lch_in (by omega) hm (List.mem_of_getElem? hc)
        have hu2 : H2 u = some (.lst (c.map vN)) := e2 _ _ (fr_in hu).2
        obtain ⟨n1, n2⟩ := nxt_is c
        have nle : nxt c ≤ 6 := by
          rcases n2 with ⟨_, e⟩ | ⟨k, hk, e⟩
          · omega
          · have := c2 k hk
            omega
        have z120 : zs.length ≤ 200 := by
          rw [hzs.len]
          refine Nat.le_trans (fm_len (m := 6) fun c _ => Nat.le_trans (ext_len m c) hm) ?_
          have q1 := lch_len (s := i) (by omega) hm
          rw [List.length_take]
          omega
        refine ⟨_, rfl, ?_⟩
        refine ⟨_, rfl, 1, rfl, u, c.map (fun k : Nat => (k : Int)), -1, (nxt c : Int) - 1, rfl, rfl, by rw [← map_vN]; exact sq_of hu2, fun h0 => ?_, fun h1 => ?_, ?_⟩
        · rcases n2 with ⟨_, e⟩ | ⟨k, hk, _⟩
          · rw [e]
            rfl
          · rw [List.map_eq_nil_iff] at h0
            rw [h0] at hk
            simp at hk
        · rcases n2 with ⟨e, _⟩ | ⟨k, hk, e⟩
          · rw [e] at h1
            simp at h1
          · refine ⟨List.mem_map.mpr ⟨k, hk, by omega⟩, fun y hy => ?_⟩
            obtain ⟨k2, hk2, rfl⟩ := List.mem_map.mp hy
            have := n1 k2 hk2
            omega
        refine ⟨_, _, rfl, rfl, _, rfl, (nxt c : Int) - 1 + 1, (m : Int), rfl, ⟨by omega, by omega, by omega, by omega⟩, fun Dd hD => ?_⟩
        have elo : (nxt c : Int) - 1 + 1 = (nxt c : Int) := by omega
        have ecn : ((m : Int) - ((nxt c : Int) - 1 + 1)).toNat = m - nxt c := by omega
        refine lc_new (K := K) (walk_range (lo := (nxt c : Int) - 1 + 1) (n := ((m : Int) - ((nxt c : Int) - 1 + 1)).toNat)) (fun _ => true) (fun G v j => Il G v (c ++ [nxt c + j])) hD (by omega) (fun _ _ => trivial) (fun _ _ _ _ e z => z.ex e) ?_ ?_
        · rintro k y H3 H3' hk e3 ⟨rfl, rfl⟩ A B _ hB
          refine ⟨rfl, _, rfl, _, rfl, by show 1 ≤ sizeLine; decide, fun w1 nw1 => ?_⟩
          have hu3 : H3' u = some (.lst (c.map vN)) := e3 _ _ hu2
          refine ⟨u, w1, _, _, rfl, rfl, (Ex.new nw1) _ _ hu3, upd_same, by rw [List.length_map, c1]; exact sz_of (by show i + 1 ≤ 100000; omega), fun w2 nw2 => ?_⟩
          refine hB rfl _ _ ((Ex.new nw1).trans (Ex.new nw2)) ⟨w2, rfl, ?_⟩
          rw [fr_at (none_of (Ex.new nw1) nw2), upd_same, List.map_append]
          have ek : V.int ((nxt c : Int) - 1 + 1 + (k : Nat)) = vN (nxt c + k) := by
            rw [elo]
            rfl
          exact congrArg (fun z => some (HO.lst (c.map vN ++ [z]))) ek
        · intro H3 ws e3 hw hws
          rw [show (List.range ((m : Int) - ((nxt c : Int) - 1 + 1)).toNat).filter (fun _ => true) = List.range (m - nxt c) from by rw [ecn]; exact List.filter_eq_self.mpr fun _ _ => rfl] at hws
          have wl : ws.length ≤ 6 := by
            rw [hws.len, List.length_range]
            omega
          refine ⟨l, Dd, zs, ws, rfl, rfl, e3 _ _ hl, hw, sz_of (by omega), fun l2 nl2 => ?_⟩
          have e23 := e3.trans (Ex.new (o := .lst (zs ++ ws)) nl2)
          have eH2 := e1.trans e2
          refine ⟨_, l2, zs ++ ws, rfl, e2.trans e23, none_of (eH2.trans e3) nl2, upd_same, ?_⟩
          have er : ((lch i m).take (j + 1)).flatMap (ext m) = ((lch i m).take j).flatMap (ext m) ++ ext m c := by
            rw [List.take_add_one, hc, List.flatMap_append]
            show _ ++ (ext m c ++ []) = _
            rw [List.append_nil]
          have er2 : ext m c = (List.range (m - nxt c)).map fun j => c ++ [nxt c + j] := by
            unfold ext
            rw [List.range'_eq_map_range, List.map_map]
            rfl
          rw [er, er2]
          refine All2.app (hzs.mono fun v p z => z.ex (fr_right e23)) (All2.map' (hws.mono fun v j z => z.ex (fr_ex (fun b n => ?_) fun b o _ z => (Ex.new nl2) b o z)))
          exact none_of (eH2.trans (Ex.new hD)) n
      · rintro σ H2 ⟨x5, l, zs, rfl, e2, nl, hl, hzs⟩
        rw [hys.len, List.take_length, ← lch_succ] at hzs
        exact ⟨_, rfl, _, _, _, l, zs, rfl, e1.trans e2, nl, hl, hzs⟩
    · rintro σ H1 ⟨x3, x4, x5, fl, ys, rfl, e1, nfl, hfl, hys⟩
      rw [es] at hys
      exact ⟨_, rfl, q fl ys H1 e1 nfl hfl hys⟩
end
end Fw
namespace Fw
open PySem PySem.Spec PyProof.Rows L2 Evl
section
variable {P : Program} {w : World} {K : PySem.W.Frag} {mg : Str → Option Value} {base : Heap}
/-! _law_paper_fault -/
abbrev sPf : Stmt := topS 38
abbrev nPf : List Str := ["_law_tastings_here", "_law_many", "_law_paper", "_law_pairs", "_law_barred", "_law_at", "_law_thing", "_law_whole", "_law_one"]
theorem scPf : FnScope nPf ["_law_tastings_here", "_law_many", "_law_paper"] (defScope sPf) := ⟨rfl, rfl, rfl, by decide +kernel, rfl, by decide +kernel, by decide +kernel⟩
theorem c_pf (D : Dn K mg "_law_paper_fault" sPf ["_law_tastings_here", "_law_many", "_law_paper"]) (G : Gs mg) (c2 : C8.Cal P w K mg base 2 "_law_ranked" (spLr K) []) (c1 : C8.Cal P w K mg base 1 "_law_choices" spLch []) : C8.Cal P w K mg base 3 "_law_paper_fault" (spCheck K) [] := by
  refine cal_of D scPf (fun vs H Q E h => ?_) (fun f cdv A outer s H vs Q E hr h => ?_)
  · obtain ⟨v1, m, v3, ts, ps, rfl, _⟩ := h
    rfl
  · obtain ⟨v1, m, v3, ts, ps, rfl, hv, hp, hg, hm, hok, q⟩ := h
    have ht6 := hg.len
    obtain ⟨a, xs, rfl, ha, hx⟩ := dp_list hv
    obtain ⟨b, ws, rfl, hb, hw⟩ := dp_list hp
    have hlen : V.int (xs.length : Int) = vN ts.length := by rw [hx.len] <;> rfl
    refine ⟨_, pss_cons (ps_if (pt_not (pt_val (pe_callB call_isi (by rfl) G.zIsinstance (by decide +kernel) (pa_cons (pv 2) (pa_cons (pe_bltn (v := .ty "list") (by rfl) G.zList (by decide +kernel) rfl) pa_nil))))) pss_never pss_nil)
      (pss_cons (ps_set (i := 3) scPf.nd rfl (.inl rfl) (C8.pe_c c2 hr (by decide) (by rfl) (pa_cons (pv 0) (pa_cons (pe_listRg rfl (by rfl) G.zList (prg_1 (by rfl) G.zRange (pe_callB call_len_seq (by rfl) G.zLen PySem.boot_len (pa_cons (pv 0) pa_nil)))) pa_nil))))
      (pss_cons (ps_set (i := 4) scPf.nd rfl (.inl rfl) (pe_lst pa_nil))
      (pss_cut (ps_if (pt_cmpR op_gt (pv 1) pe_int (nomark _)) (pss_one (ps_set (i := 4) scPf.nd rfl (.inl rfl) (C8.pe_c c1 hr (by decide) (by rfl) (pa_cons (pe_callB call_len_seq (by rfl) G.zLen PySem.boot_len (pa_cons (pv 0) pa_nil)) (pa_cons (pe_op op_sub (pv 1) pe_int) pa_nil))))) pss_nil)
      (pss_cons (ps_for PassesOwn.never rfl (pi_enum (by rfl) G.zEnum (pa_cons (pv 2) pa_nil)) (pg_tup rfl (pgs_cons (pg_name (i := 5) scPf.nd rfl (Or.inl rfl)) (pgs_cons (pg_name (i := 6) scPf.nd rfl (Or.inl rfl)) pgs_nil)))
        (pss_cons (ps_if (PW.pt (pw_or (pt_cmpR op_ge (pv 5) (pe_callB call_len_seq (by rfl) G.zLen PySem.boot_len (pa_cons (pv 4) pa_nil)) (nomark _))
            (pw_or (pt_not (pt_val (pe_callB call_isi (by rfl) G.zIsinstance (by decide +kernel) (pa_cons (pv 6) (pa_cons (pe_bltn (v := .ty "tuple") (by rfl) G.zTuple (by decide +kernel) rfl) pa_nil)))))
            (pw_or1 (pt_cmpR op_ne (pe_callB call_len_seq (by rfl) G.zLen PySem.boot_len (pa_cons (pv 6) pa_nil)) pe_int (nomark _)))))) pss_never pss_nil)
        (pss_cons (ps_setLc (i := 7) (own := [("_law_one", 8)]) (g := gName 8) (by rfl) scPf.nd rfl rfl (sw_true rfl rfl rfl (by decide +kernel)) (pi_tup (pv 6))
            (blkOk_by (N := nPf) (sc := defScope sPf) (by decide +kernel)) (fun _ _ _ _ _ => pg_name (i := 8) scPf.nd rfl (Or.inl rfl))
            (fun _ _ _ _ _ => pts_one (PW.pt (pw_and (pt_val (pe_callB (r := rIsi K) call_isi (by rfl) G.zIsinstance (by decide +kernel) (pa_cons (pv 8) (pa_cons (pe_bltn (v := .ty "int") (by rfl) G.zInt (by decide +kernel) rfl) pa_nil))))
              (pw_and1 (pt_not (pt_val (pe_callB (r := rIsi K) call_isi (by rfl) G.zIsinstance (by decide +kernel) (pa_cons (pv 8) (pa_cons (pe_bltn (v := .ty "bool") (by rfl) G.zBool (by decide +kernel) rfl) pa_nil)))))))))
            (fun _ _ _ _ _ => pv 8))
        (pss_one (ps_if (PW.pt (pw_or (pt_cmpR op_ne (pe_callB call_len_seq (by rfl) G.zLen PySem.boot_len (pa_cons (pv 7) pa_nil)) pe_int (nomark _))
            (pw_or (pt_cmpR (op_notInD (hu65 hr)) (pv 6) (pv 3) (by rfl))
            (pw_or1 (pt_cmpR (op_inD (hu65 hr)) (pv 6) (C8.pe_c c2 hr (by decide) (by rfl) (pa_cons (pv 0) (pa_cons (pe_ix ix_list (pv 4) (pv 5) (fun _ _ => rfl)) pa_nil))) (by rfl)))))) pss_never pss_nil)))))
      (pss_cons (ps_if (pt_cmpR op_lt (pe_callB call_len_seq (by rfl) G.zLen PySem.boot_len (pa_cons (pv 2) pa_nil)) (pe_callB call_len_seq (by rfl) G.zLen PySem.boot_len (pa_cons (pv 4) pa_nil)) (nomark _)) pss_never pss_nil)
      (pss_one (ps_ret pe_non))))))), ?_⟩
    refine ⟨_, rfl, _, _, _, _, true, rfl, .ty _, ty_l hb, kit_ty (by decide +kernel), true, rfl, iteF ?_⟩
    refine ⟨_, rfl, _, rfl, a, xs, rfl, .inl ha, _, rfl, rg_ok (by have := hx.len; omega), fun r nr => ?_⟩
    have hR : upd H r (.lst (rgV 0 (xs.length : Int))) r = some (.lst ((al ts).map vN)) := by rw [upd_same, show (xs.length : Int) = (ts.length : Int) by rw [hx.len], rg_al]
    have er := Ex.new (H := H) (o := .lst (rgV 0 (xs.length : Int))) nr
    refine ⟨_, _, ts, al ts, rfl, dpx er hv, ch_dp (sq_of hR), hg, al_lt ts, by rw [al_len]; exact ht6, fun pr H3 e3 hpr => ?_⟩
    have e03 : Ex H H3 := er.trans e3
    refine ⟨Nat.zero_le _, fun ba nba => ?_⟩
    refine ⟨fun σ H4 => ∃ ba zs, σ = [some (V.ref a), some (vN m), some (V.ref b), some (V.ref pr), some (V.ref ba), none, none, none, none] ∧ Ex H3 H4 ∧ H4 ba = some (.lst zs) ∧ All2 (Il H4) zs (barred ts m), ?_, ?_⟩
    · refine ⟨_, rfl, _, _, rfl, rfl, _, rfl, ?_⟩
      have hu : upd H3 ba (.lst []) ba = some (.lst []) := upd_same
      by_cases h0 : 0 < m
      · rw [decide_eq_true (show (0 : Int) < (m : Int) by omega)]
        refine iteT ⟨_, rfl, a, xs, rfl, .inl (ex_l (e03.trans (Ex.new nba)) ha), _, rfl, _, _, rfl, rfl, ts.length, m - 1, ?_, ht6, by omega, fun p zs H4 e4 np hp4 hz => ?_⟩
        · show [V.int (xs.length : Int), V.int ((m : Int) - 1)] = [vN ts.length, vN (m - 1)]
          rw [hlen, show (m : Int) - 1 = ((m - 1 : Nat) : Int) by omega]
          rfl
        · refine ⟨p, zs, rfl, (Ex.new nba).trans e4, hp4, ?_⟩
          unfold barred
          rw [if_pos h0, ch_lch (by omega) ht6]
          exact hz.mono fun v c z => z.ex fr_sub
      · rw [decide_eq_false (show ¬ (0 : Int) < (m : Int) by omega)]
        refine iteF ⟨ba, [], rfl, Ex.new nba, upd_same, ?_⟩
        unfold barred
        rw [if_neg h0]
        exact .nil
    · rintro σ H4 ⟨ba, zs, rfl, e4, hba, hz⟩
      have e04 := e03.trans e4
      refine ⟨_, rfl, b, ws, rfl, ex_l e04 hb, ?_⟩
      refine for_it (walk_enum (xs := ws)) (fun i σ H5 => ∃ x5 x6 x7, σ = [some (V.ref a), some (vN m), some (V.ref b), some (V.ref pr), some (V.ref ba), x5, x6, x7, none] ∧ Ex H4 H5) ⟨none, none, none, rfl, Ex.refl _⟩
        (fun i σ H5 _ z => by obtain ⟨_, _, _, _, e⟩ := z; exact ex_l (e04.trans e) hb) ?_ ?_
      · rintro i x σ H5 H6 hi ⟨x5, x6, x7, rfl, e5⟩ ⟨T, v1, v2, rfl, nT, rfl, g1, g2⟩
        cases (Option.some.inj g1)
        have g2' : ws[i]? = some v2 := g2
        obtain ⟨p, hpi, hpd⟩ := hw.get g2'
        obtain ⟨u, rfl, hu⟩ := dp_pr hpd
        have hil : i < zs.length := by
          rw [hz.len, ← hok.len]
          exact (List.getElem?_eq_some_iff.mp hpi).1
        obtain ⟨c, hc, hcv⟩ := hz.get (List.getElem?_eq_getElem hil)
        obtain ⟨o1, o2⟩ := hok.at_ i p c hpi hc
        have hc2 : (∀ k ∈ c, k < ts.length) ∧ c.length ≤ 6 := by
          have hcm := List.mem_of_getElem? hc
          unfold barred at hcm
          by_cases h0 : 0 < m
          · rw [if_pos h0] at hcm
            exact ch_ok hcm (by omega)
          · rw [if_neg h0] at hcm
            simp at hcm
        have e46 : Ex H4 (upd H5 T (.tup [.int (i : Nat), .ref u])) := e5.trans (Ex.new nT)
        have hba6 := e46 _ _ hba
        refine ⟨T, _, rfl, st_of upd_same, rfl, _, _, rfl, _, _, rfl, rfl, ?_⟩
        generalize hH6 : upd H5 T (.tup [.int (i : Nat), .ref u]) = H6 at e46 hba6 ⊢
        have hu6 := ex_t (e04.trans e46) hu
        refine ⟨_, rfl, _, rfl, ba, zs, rfl, .inl (sq_of hba6), _, _, rfl, rfl, _, rfl, ?_⟩
        rw [decide_eq_false (show ¬ ((zs.length : Int) ≤ (i : Int)) by omega)]
        refine iteF ?_
        refine ⟨_, rfl, _, _, _, _, true, rfl, .ty _, ty_t hu6, kit_ty (by decide +kernel), true, rfl, iteF ?_⟩
        refine ⟨_, rfl, u, _, rfl, .inr hu6, rfl, false, rfl, iteF ?_⟩
        refine ⟨_, rfl, u, rfl, ⟨_, hu6⟩, fun Dd hD => ?_⟩
        refine lc_val (K := K) (walk_tup (xs := [V.int p.1, V.int p.2])) (fun _ => true) (fun j => ([V.int p.1, V.int p.2] : List V).getD j .non) hD (by show 2 ≤ 100000; decide) (fun H3 e3 => ex_t e3 hu6) ?_ ?_
        · rintro j y H7 H7' hj e7 ⟨rfl, hyj⟩ A B _ hB
          have hy : (∃ n, y = V.int n) ∧ ([V.int p.1, V.int p.2] : List V).getD j .non = y := by
            rw [List.getD_eq_getElem?_getD, hyj]
            refine ⟨?_, rfl⟩
            have hj2 : j = 0 ∨ j = 1 := by
              have : j < 2 := hj
              omega
            rcases hj2 with rfl | rfl
            · exact ⟨_, (Option.some.inj hyj).symm⟩
            · exact ⟨_, (Option.some.inj hyj).symm⟩
          obtain ⟨⟨n, rfl⟩, ey⟩ := hy
          rw [ey] at hB
          refine ⟨rfl, _, rfl, _, _, _, _, true, rfl, .ty _, .base (.int n), kit_ty (by decide +kernel), true, rfl, iteT ?_⟩
          exact ⟨_, rfl, _, _, _, _, false, rfl, .ty _, .base (.int n), kit_ty (by decide +kernel), false, rfl, _, rfl, hB rfl _ (Ex.refl _)⟩
        · intro H7 e7 h7
          have h7' : H7 Dd = some (.lst [V.int p.1, V.int p.2]) := h7
          have e47 := e46.trans e7
          refine ⟨_, rfl, Dd, _, rfl, .inl (sq_of h7'), rfl, false, rfl, iteF ?_⟩
          refine ⟨_, rfl, _, rfl, dPr p, (R ts (al ts)).map dPr, dpx (e04.trans e47) hpd, dpx (e4.trans e47) hpr.dp, lay_shaped lay_pr (by decide) p, lay_shaped lay_ps (by decide) _, _, rfl, ?_⟩
          rw [any_pr, decide_eq_true o1]
          refine iteF ?_
          refine ⟨_, rfl, _, rfl, _, rfl, _, rfl, ba, zs, (i : Int), _, rfl, rfl, sq_of (e7 _ _ hba6), atI_nat (List.getElem?_eq_getElem hil), ?_⟩
          refine ⟨_, _, ts, c, rfl, dpx (e04.trans e47) hv, dpx e47 hcv.dp, hg, hc2.1, hc2.2, fun r2 H8 e8 hr2 => ?_⟩
          refine ⟨dPr p, (R ts c).map dPr, dpx ((e04.trans e47).trans e8) hpd, hr2.dp, lay_shaped lay_pr (by decide) p, lay_shaped lay_ps (by decide) _, _, rfl, ?_⟩
          rw [any_pr, decide_eq_false o2]
          exact iteF ⟨_, _, _, rfl, e47.trans e8⟩
      · rintro σ H5 ⟨x5, x6, x7, rfl, e5⟩
        refine ⟨_, rfl, b, ws, rfl, .inl (ex_l (e04.trans e5) hb), _, rfl, ba, zs, rfl, .inl (sq_of (e5 _ _ hba)), _, _, rfl, rfl, _, rfl, ?_⟩
        rw [decide_eq_false (show ¬ ((ws.length : Int) < (zs.length : Int)) by rw [hw.len, hz.len, hok.len]; omega)]
        exact iteF (q H5 (e04.trans e5))
end
end Fw
namespace Fw
open PySem PySem.Spec PyProof.Rows L2 Evl
section
variable {P : Program} {w : World} {K : PySem.W.Frag} {mg : Str → Option Value} {base : Heap}
/-! _law_checked -/
abbrev sLck : Stmt := topS 39
abbrev nLck : List Str := ["_law_tastings_here", "_law_many", "_law_paper", "_law_found", "e"]
theorem scLck : FnScope nLck ["_law_tastings_here", "_law_many", "_law_paper"] (defScope sLck) := ⟨rfl, rfl, rfl, by decide +kernel, rfl, by decide +kernel, by decide +kernel⟩
theorem c_lck (D : Dn K mg "_law_checked" sLck ["_law_tastings_here", "_law_many", "_law_paper"]) (G : Gs mg) (c8 : C8.Cal P w K mg base 8 "check_paper" (spCheck K) []) : C8.Cal P w K mg base 9 "_law_checked" (spCheck K) [] := by
  refine cal_of D scLck (fun vs H Q E h => ?_) (fun f cdv A outer s H vs Q E hr h => ?_)
  · obtain ⟨v1, m, v3, ts, ps, rfl, _⟩ := h
    rfl
  · obtain ⟨v1, m, v3, ts, ps, rfl, hv, hp, hg, hm, hok, q⟩ := h
    refine ⟨_, pss_cons (ps_set (i := 3) scLck.nd rfl (.inl rfl) pe_str)
      (pss_cons (ps_try_thru0 (pss_one (ps_set (i := 3) scLck.nd rfl (.inl rfl) (C8.pe_c c8 hr (Nat.le_refl _) (by rfl) (pa_cons (pv 0) (pa_cons (pv 1) (pa_cons (pv 2) pa_nil)))))))
      (pss_one (ps_ret (pv 3)))), ?_⟩
    refine ⟨_, rfl, _, rfl, _, rfl, v1, m, v3, ts, ps, rfl, hv, hp, hg, hm, hok, fun H1 e1 => ?_⟩
    exact ⟨_, rfl, q H1 e1⟩
/-! _law_fewest -/
abbrev sLfw : Stmt := topS 40
def spLfw (K : PySem.W.Frag) : Sp := fun vs H Q _ => ∃ v1 ts, vs = [v1] ∧ Dp K H v1 (dTs ts) ∧ Good ts ∧
  ∀ p H1, Ex H H1 → Dp K H1 (.ref p) (dCh (few ts).1) → Q (.ref p) H1
abbrev nLfw : List Str := ["_law_tastings_here", "_law_many", "_law_pairs", "_law_size", "_law_chosen"]
theorem scLfw : FnScope nLfw ["_law_tastings_here"] (defScope sLfw) := ⟨rfl, rfl, rfl, by decide +kernel, rfl, by decide +kernel, by decide +kernel⟩
theorem fs_at {α β : Type} {f : α → Option β} {l : List α} {i : Nat} {a : α} {b : β} (h : (l.take i).findSome? f = none) (ha : l[i]? = some a) (hf : f a = some b) : l.findSome? f = some b := by
  obtain ⟨hi, e⟩ := List.getElem?_eq_some_iff.mp ha
  have e2 : l = l.take i ++ a :: l.drop (i + 1) := by
    rw [← e, ← List.drop_eq_getElem_cons hi, List.take_append_drop]
  rw [e2, List.findSome?_append, h, List.findSome?_cons, hf] <;> rfl
theorem fs_more {α β : Type} {f : α → Option β} {l : List α} {i : Nat} {a : α} (h : (l.take i).findSome? f = none) (ha : l[i]? = some a) (hf : f a = none) : (l.take (i + 1)).findSome? f = none := by
  rw [List.take_add_one, ha, List.findSome?_append, h]
  show ([a] : List α).findSome? f = none
  rw [List.findSome?_cons, hf] <;> rfl
theorem lch_ok {l m : Nat} {c : List Nat} (h : c ∈ lch l m) (hl : l ≤ 6) (hm : m ≤ 6) : (∀ k ∈ c, k < m) ∧ c.length ≤ 6 := by
  rw [← ch_lch hl hm] at h
  exact ch_ok h hl
theorem c_lfw (D : Dn K mg "_law_fewest" sLfw ["_law_tastings_here"]) (G : Gs mg) (c2 : C8.Cal P w K mg base 2 "_law_ranked" (spLr K) []) (c1 : C8.Cal P w K mg base 1 "_law_choices" spLch []) : C8.Cal P w K mg base 3 "_law_fewest" (spLfw K) [] := by
  refine cal_of D scLfw (fun vs H Q E h => ?_) (fun f cdv A outer s H vs Q E hr h => ?_)
  · obtain ⟨v1, ts, rfl, _⟩ := h
    rfl
  · obtain ⟨v1, ts, rfl, hv, hg, q⟩ := h
    have ht6 := hg.len
    obtain ⟨a, xs, rfl, ha, hx⟩ := dp_list hv
    have hdue := (few_spec ts ht6).1
    refine ⟨_, pss_cons (ps_set (i := 1) scLfw.nd rfl (.inl rfl) (pe_callB call_len_seq (by rfl) G.zLen PySem.boot_len (pa_cons (pv 0) pa_nil)))
      (pss_cons (ps_set (i := 2) scLfw.nd rfl (.inl rfl) (C8.pe_c c2 hr (by decide) (by rfl) (pa_cons (pv 0) (pa_cons (pe_listRg rfl (by rfl) G.zList (prg_1 (by rfl) G.zRange (pv 1))) pa_nil))))
      (pss_cons (ps_for PassesOwn.never rfl (pi_range1 (by rfl) G.zRange (pa_cons (pe_op op_add (pv 1) pe_int) pa_nil)) (pg_name (i := 3) scLfw.nd rfl (.inl rfl))
        (pss_one (ps_for PassesOwn.never rfl (pi_list (C8.pe_c c1 hr (by decide) (by rfl) (pa_cons (pv 1) (pa_cons (pv 3) pa_nil)))) (pg_name (i := 4) scLfw.nd rfl (.inl rfl))
          (pss_one (ps_if (pt_cmpR (op_eqD hr.units) (C8.pe_c c2 hr (by decide) (by rfl) (pa_cons (pv 0) (pa_cons (pv 4) pa_nil))) (pv 2) (by rfl)) (pss_one (ps_ret (pv 4))) pss_nil)))))
      (pss_one (ps_ret pe_non)))), ?_⟩
    refine ⟨_, rfl, a, xs, rfl, .inl ha, ?_⟩
    have hlen : (xs.length : Int) = (ts.length : Int) := by rw [hx.len]
    rw [hlen]
    refine ⟨_, rfl, _, rfl, _, rfl, rg_ok (by omega), fun r nr => ?_⟩
    have hR : upd H r (.lst (rgV 0 (ts.length : Int))) r = some (.lst ((al ts).map vN)) := by rw [upd_same, rg_al]
    have er := Ex.new (H := H) (o := .lst (rgV 0 (ts.length : Int))) nr
    refine ⟨_, _, ts, al ts, rfl, dpx er hv, ch_dp (sq_of hR), hg, al_lt ts, by rw [al_len]; exact ht6, fun pr H3 e3 hpr => ?_⟩
    have e03 : Ex H H3 := er.trans e3
    refine ⟨_, rfl, _, _, rfl, rfl, _, rfl, by omega, by omega, ?_⟩
    have ez : (((ts.length : Nat) : Int) + 1).toNat = ts.length + 1 := by omega
    refine for_range (lo := 0) (n := ((ts.length : Int) + 1).toNat) (fun i σ H4 => ∃ x3 x4, σ = [some (V.ref a), some (vN ts.length), some (V.ref pr), x3, x4] ∧ Ex H3 H4 ∧ ((List.range (ts.length + 1)).take i).findSome? (fun s => (lch s ts.length).find? fun c => decide (R ts c = R ts (al ts))) = none)
      ⟨none, none, rfl, Ex.refl _, rfl⟩ ?_ ?_
    · rintro i σ H4 hi ⟨x3, x4, rfl, e4, hn⟩
      rw [ez] at hi
      refine ⟨_, rfl, _, rfl, ts.length, i, by show [V.int (ts.length : Int), V.int (0 + (i : Nat))] = [vN ts.length, vN i]; rw [Int.zero_add]; rfl, ht6, by omega, fun p zs H5 e5 np hp hzs => ?_⟩
      refine ⟨p, rfl, ⟨_, sq_of hp⟩, ?_⟩
      refine for_list (xs := zs) (fun j σ H6 => ∃ x4, σ = [some (V.ref a), some (vN ts.length), some (V.ref pr), some (V.int (0 + (i : Nat))), x4] ∧ Ex H5 H6 ∧ ((lch i ts.length).take j).find? (fun c => decide (R ts c = R ts (al ts))) = none)
        ⟨x4, rfl, Ex.refl _, rfl⟩ (fun j σ H6 _ z => by obtain ⟨_, _, e, _⟩ := z; exact ex_l e (sq_of hp)) ?_ ?_
      · rintro j x σ H6 hj ⟨x4, rfl, e6, hn6⟩
        obtain ⟨c, hc, hcv⟩ := hzs.get hj
        obtain ⟨u, rfl, hu⟩ := hcv
        have hcv : Dp K H5 (.ref u) (dCh c) := ch_dp (sq_of (fr_in hu).2)
        have hc2 := lch_ok (List.mem_of_getElem? hc) (by omega) ht6
        have e06 := ((e03.trans e4).trans e5).trans e6
        refine ⟨_, rfl, _, rfl, _, _, ts, c, rfl, dpx e06 hv, dpx e6 hcv, hg, hc2.1, hc2.2, fun r2 H7 e7 hr2 => ?_⟩
        refine ⟨_, rfl, dPs (R ts c), dPs (R ts (al ts)), hr2.dp, dpx (((e4.trans e5).trans e6).trans e7) hpr.dp, lay_shaped lay_ps (by decide) _, lay_shaped lay_ps (by decide) _, _, rfl, ?_⟩
        rw [eqd_ps]
        by_cases m : R ts c = R ts (al ts)
        · rw [decide_eq_true m]
          refine iteT ⟨_, rfl, q u H7 (e06.trans e7) ?_⟩
          have f1 := find_at hn6 hc (decide_eq_true m)
          have f2 := fs_at (f := fun s => (lch s ts.length).find? fun c => decide (R ts c = R ts (al ts))) hn (List.getElem?_range hi) f1
          have f3 : due ts = some c := f2
          rw [f3] at hdue
          cases hdue
          exact dpx (e6.trans e7) hcv
        · rw [decide_eq_false m]
          exact iteF ⟨_, rfl, e6.trans e7, find_more hn6 hc (decide_eq_false m)⟩
      · rintro σ H6 ⟨x4, rfl, e6, hn6⟩
        rw [hzs.len, List.take_length] at hn6
        exact ⟨_, _, rfl, (e4.trans e5).trans e6, fs_more hn (List.getElem?_range hi) hn6⟩
    · rintro σ H4 ⟨x3, x4, rfl, e4, hn⟩
      rw [ez] at hn
      have e5 : (List.range (ts.length + 1)).take (ts.length + 1) = List.range (ts.length + 1) := List.take_of_length_le (by rw [List.length_range]; omega)
      rw [e5] at hn
      have f3 : due ts = none := hn
      rw [f3] at hdue
      cases hdue
end
end Fw
namespace Fw
open PySem PySem.Spec PyProof.Rows L2 Evl
/-! a list of any kind, plus a new one -/
def rCatL (K : PySem.W.Frag) : R2 := fun x y H Q => ∃ l b xs zs, x = .ref l ∧ y = .ref b ∧ SqL K H l xs ∧ SqL K H b zs ∧ xs.length + zs.length ≤ 100000 ∧ ∀ p, H p = none → Q (.ref p) (upd H p (.lst (xs ++ zs)))
theorem op_catL {X : Cx} : OpR X (binaryOp .Add) (rCatL X.K) := by
  intro pins s σ H x y v u Q I rx ry h
  obtain ⟨l, b, xs, zs, rfl, rfl, h1, h2, hz, q⟩ := h
  cases rx
  cases ry
  obtain ⟨us, v1, p1, _⟩ := I.list h1
  obtain ⟨ws, v2, p2, _⟩ := I.list h2
  have k1 := v1.length
  have k2 := v2.length
  obtain ⟨⟨oc, od, ot, os⟩, n1, g1, rfl, rfl, rfl⟩ := p1
  obtain ⟨⟨pc, pd, pt, ps⟩, n2, g2, rfl, rfl, rfl⟩ := p2
  have hsz : us.toArray.size + ws.toArray.size ≤ sizeLine := by
    rw [List.size_toArray, List.size_toArray]
    exact sz_of (by omega)
  refine concat_meets ⟨_, g1, rfl⟩ ⟨_, g2, rfl⟩ noFill_list_add seq_list_add F.slot_list_add F.entry_list_add
    (F.args_list_add_2 _ _) (list_addW l b us.toArray ws.toArray n1 n2 _ _ os ps hsz) ⟨g1, g2, ?_⟩
  refine ⟨.ref s.heap.objs.size, _, I.laid (t' := s.toks) (o := .lst (xs ++ zs)) (fun b ob q => Heap.get?_push_of_some _ q) (Nat.le_refl _) ?_, rfl, q _ (I.hok.fresh (Nat.le_refl _))⟩
  refine ⟨by rw [List.length_append]; exact sz_of hz, us ++ ws, 0, v1.append v2, ?_⟩
  have ea : us.toArray ++ ws.toArray = (us ++ ws).toArray := by simp
  rw [ea]
  exact Heap.get?_push_size _ rfl
theorem few_nil : few [] = ([], []) := by
  obtain ⟨_, h1, _, h2⟩ := few_spec [] (by decide)
  have e1 : (few []).1 = [] := List.eq_nil_of_length_eq_zero (Nat.le_zero.mp h1)
  have e2 : (few []).2 = [] := List.eq_nil_of_length_eq_zero (by rw [h2.len, e1] <;> rfl)
  exact Prod.ext e1 e2
theorem good_nil : Good [] := ⟨by decide, fun t h => by simp at h, [], by decide, fun f h => by simp at h⟩
theorem ok_nil (ts : Ts) : PaperOk ts 0 [] := ⟨rfl, fun i p b h => by simp at h⟩
end Fw
namespace Fw
open PySem PySem.Spec PyProof.Rows L2 Evl
theorem Exs.back {s : Addr} {H0 H H1 : Hp} (e : Ex H0 H) (n : H0 s = Option.none) (x : Exs s H H1) : Ex H0 H1 := fun b o z => x b o (fun y => by rw [y, n] at z; cases z) (e b o z)
def rListOf (K : PySem.W.Frag) : List V → Hp → VK → Prop := fun xs H Q => ∃ (p : Addr) (ys : List V), xs = [V.ref p] ∧ (SqL K H p ys ∨ SqT K H p ys) ∧ ∀ l, H l = none → Q (.ref l) (upd H l (.lst ys))
theorem cr_listOf {X : Cx} : CallR X (.type "list") (rListOf X.K) := call_list_of
theorem any_rep (n : Nat) : (List.replicate n false).any id = false := by
  rw [List.any_eq_false]
  intro x hx
  rw [List.eq_of_mem_replicate hx]
  exact Bool.false_ne_true
section
variable {P : Program} {w : World} {K : PySem.W.Frag} {mg : Str → Option Value} {base : Heap}
/-! law -/
abbrev sLaw : Stmt := topS 41
def spLaw (K : PySem.W.Frag) : Sp := fun vs H Q _ => ∃ (a : Addr) (ns : List Int), vs = [.ref a] ∧ SqL K H a (ns.map V.int) ∧ ns.length ≤ 63 ∧ ∀ H1, Q (.bl true) H1
abbrev nLaw : List Str := ["_law_script", "_law_cell", "_law_source_here", "_law_tastings_here", "_law_handed", "_law_due", "_law_turn", "_law_found", "_law_tasting_here", "_law_k"]
theorem scLaw : FnScope nLaw ["_law_script"] (defScope sLaw) := ⟨rfl, rfl, rfl, by decide +kernel, rfl, by decide +kernel, by decide +kernel⟩
theorem ok_law {f : Addr} {fd : FuncData} (F : Fun K "law" "law" sLaw f fd) (G : Gs mg) (cS : C8.Cal P w K mg base 1 "_law_source" spSource []) (cT : C8.Cal P w K mg base 5 "_law_tastings" spLts []) (cF : C8.Cal P w K mg base 3 "_law_fewest" (spLfw K) [])
    (c8 : C8.Cal P w K mg base 8 "fewest" (spFewest K) []) (cP : C8.Cal P w K mg base 3 "_law_paper_fault" (spCheck K) []) (c9 : C8.Cal P w K mg base 9 "_law_checked" (spCheck K) []) : FnOk P w K mg base CX0 10 f fd ["_law_script"] (spLaw K) := by
  refine F.ok scLaw (fun vs H Q E h => ?_) (fun cdv A outer s H vs Q E hr h => ?_)
  · obtain ⟨a, ns, rfl, _⟩ := h
    rfl
  · obtain ⟨a, ns, rfl, ha, hn63, q⟩ := h
    refine ⟨_, pss_cons (ps_for PassesOwn.never rfl (pi_list (pe_slice sl_list (pe_op op_catL (pv 0) (pe_lst (pa_cons pe_int pa_nil))) po_none (po_some pe_int))) (pg_name (i := 1) scLaw.nd rfl (.inl rfl))
      (pss_cons (ps_set (i := 2) scLaw.nd rfl (.inl rfl) (C8.pe_c cS hr (by decide) (by rfl) (pa_cons (pv 1) pa_nil)))
      (pss_cons (ps_set (i := 3) scLaw.nd rfl (.inl rfl) (C8.pe_c cT hr (by decide) (by rfl) (pa_cons (pv 2) (pa_cons pe_int (pa_cons pe_int pa_nil)))))
      (pss_cons (ps_setLc (i := 4) (own := [("_law_tasting_here", 8)]) (g := gName 8) (tt := tYes) (by rfl) scLaw.nd rfl rfl (sw_true rfl rfl rfl (by decide +kernel)) (pi_list (pv 3))
          (blkOk_by (N := nLaw) (sc := defScope sLaw) (by decide +kernel)) (fun _ _ _ _ _ => pg_name (i := 8) scLaw.nd rfl (Or.inl rfl)) (fun _ _ _ _ _ => pts_nil)
          (fun _ _ _ _ _ => pe_callTy (T := "list") (r := rListOf K) cr_listOf (by rfl) G.zList (by decide +kernel) (pa_cons (pv 8) pa_nil)))
      (pss_cons (ps_set (i := 5) scLaw.nd rfl (.inl rfl) (C8.pe_c cF hr (by decide) (by rfl) (pa_cons (pv 3) pa_nil)))
      (pss_one (ps_for PassesOwn.never rfl (pi_range1 (by rfl) G.zRange (pa_cons pe_int pa_nil)) (pg_name (i := 6) scLaw.nd rfl (.inl rfl))
        (pss_cons (ps_set (i := 7) scLaw.nd rfl (.inl rfl) (C8.pe_c c8 hr (by decide) (by rfl) (pa_cons (pv 4) pa_nil)))
        (pss_cons (ps_if (PW.pt (pw_or (pt_not (pt_val (pe_callB call_isi (by rfl) G.zIsinstance (by decide +kernel) (pa_cons (pv 7) (pa_cons (pe_bltn (v := .ty "tuple") (by rfl) G.zTuple (by decide +kernel) rfl) pa_nil)))))
            (pw_or (pt_cmpR op_ne (pe_callB call_len_seq (by rfl) G.zLen PySem.boot_len (pa_cons (pv 7) pa_nil)) pe_int (nomark _))
            (pw_or (pt_cmpR (op_neD hr.units) (pe_ix ix_tup (pv 7) pe_int (fun _ _ => rfl)) (pv 5) (by rfl))
            (pw_or1 (pt_cmpR (op_neD hr.units) (pv 4) (pv 3) (by rfl))))))) pss_never pss_nil)
        (pss_cons (ps_if (pt_val (pe_callB (cr_any rfl) (by rfl) G.zAny (by decide +kernel) (pa_cons
            (pe_lc (own := [("_law_k", 9)]) (g := gName 9) (tt := tYes) rfl scLaw.nd (pi_list (pe_ix ix_tup (pv 7) pe_int (fun _ _ => rfl))) (blkOk_by (N := nLaw) (sc := defScope sLaw) (by decide +kernel)) (fun _ _ _ _ _ => pg_name (i := 9) scLaw.nd rfl (Or.inl rfl)) (fun _ _ _ _ _ => pts_nil)
              (fun _ _ _ _ _ => pe_callB (r := rIsi K) call_isi (by rfl) G.zIsinstance (by decide +kernel) (pa_cons (pv 9) (pa_cons (pe_bltn (v := .ty "bool") (by rfl) G.zBool (by decide +kernel) rfl) pa_nil)))) pa_nil))) pss_never pss_nil)
        (pss_cons (ps_if (pt_cmp (pc_notN (C8.pe_c cP hr (by decide) (by rfl) (pa_cons (pv 3) (pa_cons (pe_callB call_len_seq (by rfl) G.zLen PySem.boot_len (pa_cons (pv 5) pa_nil)) (pa_cons (pe_ix ix_tup (pv 7) pe_int (fun _ _ => rfl)) pa_nil)))))) pss_never pss_nil)
        (pss_cons (ps_if (pt_cmp (pc_notN (C8.pe_c c9 hr (by decide) (by rfl) (pa_cons (pv 4) (pa_cons (pe_callB call_len_seq (by rfl) G.zLen PySem.boot_len (pa_cons (pv 5) pa_nil)) (pa_cons (pe_ix ix_tup (pv 7) pe_int (fun _ _ => rfl)) pa_nil)))))) pss_never pss_nil)
        (pss_cons (ps_if (pt_cmp (pc_notN (C8.pe_c c9 hr (by decide) (by rfl) (pa_cons (pv 4) (pa_cons pe_int (pa_cons (pe_lst pa_nil) pa_nil)))))) pss_never pss_nil)
        (pss_cons (ps_expr (pe_bm PySem.F.plainAttrs_list PySem.F.slot_list_append PySem.F.type_list_append mt_append (pe_ix ix_tup (pv 7) pe_int (fun _ _ => rfl)) (pa_cons pe_int pa_nil)))
        (pss_one (ps_expr (pe_bm0 PySem.F.plainAttrs_list PySem.F.slot_list_clear PySem.F.type_list_clear mt_clear (pe_ix ix_tup (pv 7) pe_int (fun _ _ => rfl)))))))))))))))))))
      (pss_one (ps_ret (pe_cmpR (op_eqD hr.units) (C8.pe_c c8 hr (by decide) (by rfl) (pa_cons (pe_lst pa_nil) pa_nil)) (pe_tup (pa_cons (pe_lst pa_nil) (pa_cons (pe_lst pa_nil) pa_nil))) (by rfl)))), ?_⟩
    -- the cells
    refine ⟨_, rfl, by show 1 ≤ sizeLine; decide, fun z nz => ?_⟩
    refine ⟨a, z, _, _, rfl, rfl, ex_l (Ex.new nz) ha, sq_of upd_same, by rw [List.length_map]; show ns.length + 1 ≤ 100000; omega, fun y ny => ?_⟩
    have e0 : Ex H (upd (upd H z (.lst [V.int 0])) y (.lst (ns.map V.int ++ [V.int 0]))) := (Ex.new nz).trans (Ex.new ny)
    refine ⟨3, rfl, y, ns.map V.int ++ [V.int 0], rfl, sq_of upd_same, fun l nl => ?_⟩
    have hl : upd (upd (upd H z (.lst [V.int 0])) y (.lst (ns.map V.int ++ [V.int 0]))) l (.lst (cutV (ns.map V.int ++ [V.int 0]) none (some 3))) l = some (.lst (((ns ++ [0]).map V.int).take 3)) := by
      rw [upd_same, List.map_append]
      exact congrArg (fun z => some (HO.lst z)) (cut_to _ 3)
    refine ⟨l, rfl, ⟨_, sq_of hl⟩, ?_⟩
    generalize upd (upd (upd H z (.lst [V.int 0])) y (.lst (ns.map V.int ++ [V.int 0]))) l (.lst (cutV (ns.map V.int ++ [V.int 0]) none (some 3))) = H1 at hl ⊢
    refine for_list (xs := ((ns ++ [0]).map V.int).take 3) (fun i σ H2 => ∃ x1 x2 x3 x4 x5 x6 x7, σ = [some (V.ref a), x1, x2, x3, x4, x5, x6, x7, none, none] ∧ Ex H1 H2)
      ⟨none, none, none, none, none, none, none, rfl, Ex.refl _⟩ (fun i σ H2 _ z => by obtain ⟨_, _, _, _, _, _, _, _, e⟩ := z; exact ex_l e (sq_of hl)) ?_ ?_
    · rintro i x σ H2 hi ⟨x1, x2, x3, x4, x5, x6, x7, rfl, e2⟩
      obtain ⟨cl, rfl⟩ : ∃ n, x = V.int n := by
        obtain ⟨n, _, e⟩ := List.mem_map.mp (List.mem_of_mem_take (List.mem_of_getElem? hi))
        exact ⟨n, e.symm⟩
      -- the tastings
      refine ⟨_, rfl, cl, rfl, fun s ns0 => ?_⟩
      have hs3 : Src (upd H2 s (.lst [V.int cl, V.int cl, V.int 0])) s := Src.put
      have e3 : Ex H2 (upd H2 s (.lst [V.int cl, V.int cl, V.int 0])) := Ex.new ns0
      generalize upd H2 s (.lst [V.int cl, V.int cl, V.int 0]) = H3 at hs3 e3 ⊢
      refine ⟨_, rfl, s, rfl, hs3, fun tl xs ts H4 x4 hs4 ntl htl hxs hg => ?_⟩
      have e4 : Ex H2 H4 := x4.back e3 ns0
      have ht6 := hg.len
      obtain ⟨fd1, fd2, fd3, fd4⟩ := few_spec ts ht6
      have hvt : Dp K H4 (.ref tl) (dTs ts) := dp_mk (sq_of htl) (hxs.mono fun v t z => dpx fr_sub z.dp)
      have hxl := hxs.len
      -- the copies
      refine ⟨_, rfl, tl, rfl, ⟨_, sq_of htl⟩, fun Dd hD => ?_⟩
      refine lc_new (K := K) (walk_list (xs := xs)) (fun _ => true) (fun G v j => ∃ p ys t, v = .ref p ∧ G p = some (.lst ys) ∧ ts[j]? = some t ∧ All2 (fun v f => Dp K H4 v (dFi f)) ys t) hD (by omega) (fun H5 e5 => ex_l e5 (sq_of htl))
        (fun G1 G2 v j e z => by obtain ⟨p, ys, t, z1, z2, z3⟩ := z; exact ⟨p, ys, t, z1, e _ _ z2, z3⟩) ?_ ?_
      · rintro j y H5 H5' hj e5 ⟨rfl, hyj⟩ A B _ hB
        obtain ⟨t, htj, hT⟩ := hxs.get hyj
        obtain ⟨p, ys, rfl, hp, hys⟩ := dp_list (g := dFi) (l := t) (dpx fr_sub hT.dp : Dp K H4 _ (dTg t))
        refine ⟨rfl, _, rfl, p, ys, rfl, .inl (ex_l e5 hp), fun u nu => ?_⟩
        exact hB rfl _ _ (Ex.new nu) ⟨u, ys, t, rfl, by rw [fr_at nu, upd_same], htj, hys⟩
      · intro H5 ws e5 hw hws
        rw [show (List.range xs.length).filter (fun _ => true) = List.range xs.length from List.filter_eq_self.mpr fun _ _ => rfl] at hws
        have hvh : Dp K H5 (.ref Dd) (dTs ts) := by
          refine dp_mk (sq_of hw) ⟨by rw [hws.len, List.length_range, hxl], fun j v t hv ht => ?_⟩
          have hj := (List.getElem?_eq_some_iff.mp ht).1
          obtain ⟨p, ys, t', rfl, z1, z2, z3⟩ := hws.at_ j v j hv (List.getElem?_range (by omega))
          rw [ht] at z2
          cases z2
          exact dp_mk (sq_of (fr_in z1).2) (dpx2 e5 z3)
        -- what is due
        refine ⟨_, rfl, _, ts, rfl, dpx e5 hvt, hg, fun d H6 e6 hd => ?_⟩
        have e46 := e5.trans e6
        refine ⟨2, rfl, by decide, by decide, ?_⟩
        refine for_range (lo := 0) (n := (2 : Int).toNat) (fun i σ H7 => ∃ x6 x7, σ = [some (V.ref a), some (V.int cl), some (V.ref s), some (V.ref tl), some (V.ref Dd), some (V.ref d), x6, x7, none, none] ∧ Ex H6 H7)
          ⟨_, _, rfl, Ex.refl _⟩ ?_ ?_
        · rintro k σ H7 hk ⟨x6, x7, rfl, e7⟩
          have hvh7 := dpx (e6.trans e7) hvh
          refine ⟨_, rfl, _, ts, rfl, hvh7, hg, fun t c p ws2 H8 e8 ht nc np ncp hc hp hws2 _ ntc ntp => ?_⟩
          have e48 := (e46.trans e7).trans e8
          have hdc : Dp K H8 (.ref c) (dCh (few ts).1) := ch_dp (sq_of hc)
          have hdp : Dp K H8 (.ref p) (dPs (few ts).2) := dp_mk (sq_of hp) hws2
          have hdd := dpx (e7.trans e8) hd
          have htt : SqT K H8 t [V.ref c, V.ref p] := st_of ht
          obtain ⟨d', hde, hd'⟩ := dp_ch hd
          cases hde
          refine ⟨_, rfl, _, _, _, _, true, rfl, .ty _, ty_t htt, kit_ty (by decide +kernel), true, rfl, iteF ?_⟩
          refine ⟨_, rfl, t, _, rfl, .inr htt, rfl, false, rfl, iteF ?_⟩
          refine ⟨_, rfl, t, _, 0, _, rfl, rfl, htt, rfl, _, rfl, dCh (few ts).1, dCh (few ts).1, hdc, hdd, lay_shaped lay_ch (by decide) _, lay_shaped lay_ch (by decide) _, _, rfl, ?_⟩
          rw [eqd_ch, decide_eq_true rfl]
          refine iteF ?_
          refine ⟨_, rfl, _, rfl, dTs ts, dTs ts, dpx e8 hvh7, dpx e48 hvt, lay_shaped lay_ts (by decide) _, lay_shaped lay_ts (by decide) _, _, rfl, ?_⟩
          rw [eqd_ts, decide_eq_true rfl]
          refine iteF ?_
          -- no bools
          refine ⟨_, rfl, t, _, 0, _, rfl, rfl, htt, rfl, c, rfl, ⟨_, sq_of hc⟩, fun D2 hD2 => ?_⟩
          refine lc_val (K := K) (walk_list (xs := (few ts).1.map vN)) (fun _ => true) (fun _ => V.bl false) hD2 (by rw [List.length_map]; omega) (fun H9 e9 => ex_l e9 (sq_of hc)) ?_ ?_
          · rintro j y H9 H9' hj e9 ⟨rfl, hyj⟩ A B _ hB
            obtain ⟨n, _, rfl⟩ := List.mem_map.mp (List.mem_of_getElem? hyj)
            exact ⟨rfl, _, rfl, _, _, _, _, false, rfl, .ty _, .base (.int _), kit_ty (by decide +kernel), hB rfl _ (Ex.refl _)⟩
          intro H9 e9 h9
          have h9' : H9 D2 = some (.lst ((List.replicate ((few ts).1.map vN).length false).map V.bl)) := by
            rw [h9, given_true, List.map_replicate, List.map_const', List.length_range]
          refine ⟨D2, _, rfl, sq_of h9', _, rfl, ?_⟩
          rw [any_rep]
          refine iteF ?_
          -- the paper
          have e49 := e48.trans e9
          have hlc : V.int (((few ts).1.map vN).length : Nat) = vN (few ts).1.length := by
            rw [List.length_map]
            rfl
          refine ⟨_, rfl, _, rfl, d, _, rfl, .inl (ex_l ((e7.trans e8).trans e9) hd'), _, rfl, t, _, 1, _, rfl, rfl, ex_t e9 htt, rfl, ?_⟩
          rw [hlc]
          refine ⟨_, (few ts).1.length, _, ts, (few ts).2, rfl, dpx e49 hvt, dpx e9 hdp, hg, fd2, fd4, fun H10 e10 => ⟨_, rfl, iteF ?_⟩⟩
          have e910 := e9.trans e10
          refine ⟨_, rfl, _, rfl, d, _, rfl, .inl (ex_l ((e7.trans e8).trans e910) hd'), _, rfl, t, _, 1, _, rfl, rfl, ex_t e910 htt, rfl, ?_⟩
          rw [hlc]
          refine ⟨_, (few ts).1.length, _, ts, (few ts).2, rfl, dpx (e8.trans e910) hvh7, dpx e910 hdp, hg, fd2, fd4, fun H11 e11 => ⟨_, rfl, iteF ?_⟩⟩
          have e911 := e910.trans e11
          refine ⟨_, rfl, Nat.zero_le _, fun u nu => ?_⟩
          refine ⟨_, 0, _, ts, [], rfl, dpx ((e8.trans e911).trans (Ex.new nu)) hvh7, dp_mk (l := []) (sq_of upd_same) .nil, hg, Nat.zero_le _, ok_nil ts, fun H12 e12 => ⟨_, rfl, iteF ?_⟩⟩
          have e912 := (e911.trans (Ex.new nu)).trans e12
          have ht12 := e912 _ _ ht
          have hc12 := e912 _ _ hc
          have hp12 := e912 _ _ hp
          refine ⟨_, rfl, t, _, 0, _, rfl, rfl, st_of ht12, rfl, .inl ⟨rfl, _, sq_of hc12⟩, c, _, _, rfl, rfl, hc12, sz_lt (by rw [List.length_map]; omega), ?_⟩
          have ht13 : upd H12 c (.lst ((few ts).1.map vN ++ [V.int 7])) t = _ := (upd_ne ntc).trans ht12
          have hp13 : upd H12 c (.lst ((few ts).1.map vN ++ [V.int 7])) p = _ := (upd_ne ncp.symm).trans hp12
          refine ⟨_, rfl, t, _, 1, _, rfl, rfl, st_of ht13, rfl, .inl ⟨rfl, _, sq_of hp13⟩, p, _, rfl, rfl, hp13, ?_⟩
          exact ⟨_, _, rfl, e7.trans (((e8.trans e912).mut nc).mut np)⟩
        · rintro σ H7 ⟨x6, x7, rfl, e7⟩
          exact ⟨_, _, _, _, _, _, _, rfl, (e2.trans e4).trans (e46.trans e7)⟩
    · rintro σ H2 ⟨x1, x2, x3, x4, x5, x6, x7, rfl, e2⟩
      refine ⟨Nat.zero_le _, fun v nv => ?_⟩
      refine ⟨_, [], rfl, dp_mk (l := []) (sq_of upd_same) .nil, good_nil, fun t c p ws H3 e3 ht nc np ncp hc hp hws _ _ _ => ?_⟩
      rw [few_nil] at hc hws
      have hw0 : ws = [] := List.eq_nil_of_length_eq_zero hws.len
      subst hw0
      refine ⟨Nat.zero_le _, fun u1 n1 => ⟨Nat.zero_le _, fun u2 n2 => ⟨by show 2 ≤ sizeLine; decide, fun u3 n3 => ?_⟩⟩⟩
      have e5 : Ex H3 (upd (upd (upd H3 u1 (.lst [])) u2 (.lst [])) u3 (.tup [.ref u1, .ref u2])) := ((Ex.new n1).trans (Ex.new n2)).trans (Ex.new n3)
      have e6 : Ex (upd H3 u1 (.lst [])) (upd (upd (upd H3 u1 (.lst [])) u2 (.lst [])) u3 (.tup [.ref u1, .ref u2])) := (Ex.new n2).trans (Ex.new n3)
      refine ⟨.tuple [dCh [], dPs []], .tuple [dCh [], dPs []], .tup (st_of (e5 _ _ ht)) (.cons (ch_dp (c := []) (sq_of (e5 _ _ hc))) (.cons (dp_mk (l := []) (sq_of (e5 _ _ hp)) .nil) .nil)),
        .tup (st_of upd_same) (.cons (ch_dp (c := []) (sq_of (e6 _ _ upd_same))) (.cons (dp_mk (l := []) (sq_of ((Ex.new n3) _ _ upd_same)) .nil) .nil)), by decide +kernel, by decide +kernel, q _⟩
end
end Fw
namespace Fw
open PySem PySem.Spec PyProof.Rows L2
theorem dn_mk {K : PySem.W.Frag} {h : Heap} {mg : Str → Option Value} {x : Str} {st : Stmt} {ps : List Str} {f : Addr} {oc kV dc pm cd ct : Value} {od an : Option Addr} {sl : Array (Option Value)} (X : K.In h) (G : h.Ns mainGlobals mg)
    (a : PySem.W.nsIn K mainGlobals x = some (some (.ref f))) (l : K.lookup f = some ⟨oc, od, .func (PySem.W.fnOf x x (defArgs st) (defBody st) (defScope st) .none kV dc pm an cd ct), sl⟩)
    (c : PySem.W.codeIn K cd x = true) (k : PySem.W.keepIn K (.ref f) = true)
    (b : ∀ (kV doc pm : Value) (an : Option Addr) (cdv ct : Value) (us : List Value), us.length = ps.length → bindArgs (PySem.W.fnOf x x (defArgs st) (defBody st) (defScope st) .none kV doc pm an cdv ct) ⟨us, []⟩ = pure (ps.zip us)) : Dn K mg x st ps :=
  ⟨_, _, fun_mk (st := st) l c k, (fun_mk (st := st) l c k).binds b, PySem.W.mg_of X G a⟩
section
variable {P : Program} {w : World} {K : PySem.W.Frag} {mg : Str → Option Value} {base : Heap}
theorem every_one {f : Addr} {fd : FuncData} (F : Fun K "law" "law" sLaw f fd) (G : Gs mg)
    (D1 : Dn K mg "is_whole" sWhole ["thing"])
    (D2 : Dn K mg "is_from" sFrom ["thing", "low", "high"])
    (D3 : Dn K mg "is_break" sBreak ["thing"])
    (D4 : Dn K mg "is_finding" sFinding ["thing"])
    (D5 : Dn K mg "is_tasting" sTasting ["thing"])
    (D6 : Dn K mg "breaks_in" sBreaksIn ["tastings"])
    (D7 : Dn K mg "want_tastings" sWant ["tastings"])
    (D8 : Dn K mg "bounds_by" sBounds ["tastings"])
    (D9 : Dn K mg "pairs_of" sPairs ["tastings", "chosen"])
    (D10 : Dn K mg "choices" sChoices ["first", "many", "left"])
    (D11 : Dn K mg "lacking" sLacking ["tastings", "chosen", "pairs"])
    (D12 : Dn K mg "fewest" sFewest ["tastings"])
    (D13 : Dn K mg "is_lacking" sIsLack ["tastings", "chosen", "pairs", "thing"])
    (D14 : Dn K mg "check_paper" sCheck ["tastings", "many", "paper"])
    (D15 : Dn K mg "_law_mixed" sMixed ["_law_cell", "_law_k"])
    (D16 : Dn K mg "_law_source" sSource ["_law_cell"])
    (D17 : Dn K mg "_law_next" sNext ["_law_source_here", "_law_many"])
    (D18 : Dn K mg "_law_numbers" sNumbers ["_law_source_here", "_law_many"])
    (D19 : Dn K mg "_law_finding" sLfind ["_law_source_here", "_law_number"])
    (D20 : Dn K mg "_law_tasting" sLtast ["_law_source_here", "_law_numbers_here"])
    (D21 : Dn K mg "_law_tastings" sLts ["_law_source_here", "_law_many", "_law_breaks"])
    (D22 : Dn K mg "_law_bounds" sLb ["_law_tastings_here", "_law_those", "_law_number"])
    (D23 : Dn K mg "_law_ranked" sLr ["_law_tastings_here", "_law_those"])
    (D24 : Dn K mg "_law_choices" sLch ["_law_many", "_law_size"])
    (D25 : Dn K mg "_law_paper_fault" sPf ["_law_tastings_here", "_law_many", "_law_paper"])
    (D26 : Dn K mg "_law_checked" sLck ["_law_tastings_here", "_law_many", "_law_paper"])
    (D27 : Dn K mg "_law_fewest" sLfw ["_law_tastings_here"]) : FnOk P w K mg base CX0 10 f fd ["_law_script"] (spLaw K) := by
  have k_whole := c_whole (P := P) (w := w) (base := base) D1 G
  have k_from := c_from (P := P) (w := w) (base := base) D2 k_whole
  have k_break := c_break (P := P) (w := w) (base := base) D3 G k_from
  have k_finding := c_finding (P := P) (w := w) (base := base) D4 G k_from k_break
  have k_tasting := c_tasting (P := P) (w := w) (base := base) D5 G k_finding
  have k_breaks := c_breaks_in (P := P) (w := w) (base := base) D6 G
  have k_want := c_want (P := P) (w := w) (base := base) D7 G k_tasting k_breaks
  have k_bounds := c_bounds (P := P) (w := w) (base := base) D8 G
  have k_pairs := c_pairs (P := P) (w := w) (base := base) D9 G k_bounds
  have k_choices := c_choices (P := P) (w := w) (base := base) D10 G 7
  have k_lacking := c_lacking (P := P) (w := w) (base := base) D11 G k_pairs
  have k_fewest := c_fewest (P := P) (w := w) (base := base) D12 G k_want k_pairs k_lacking k_choices
  have k_islack := c_islack (P := P) (w := w) (base := base) D13 G k_pairs k_break
  have k_check := c_check (P := P) (w := w) (base := base) D14 G k_want k_from k_pairs k_islack k_choices
  have k_mixed := c_mixed (P := P) (w := w) (base := base) D15
  have k_source := c_source (P := P) (w := w) (base := base) D16
  have k_next := c_next (P := P) (w := w) (base := base) D17 k_mixed
  have k_numbers := c_numbers (P := P) (w := w) (base := base) D18 G k_next
  have k_lfind := c_lfind (P := P) (w := w) (base := base) D19 G k_next
  have k_ltast := c_ltast (P := P) (w := w) (base := base) D20 G k_next k_lfind
  have k_lts := c_lts (P := P) (w := w) (base := base) D21 G k_next k_numbers k_ltast
  have k_lb := c_lb (P := P) (w := w) (base := base) D22 G
  have k_lr := c_lr (P := P) (w := w) (base := base) D23 G k_lb
  have k_lch := c_lch (P := P) (w := w) (base := base) D24 G
  have k_pf := c_pf (P := P) (w := w) (base := base) D25 G k_lr k_lch
  have k_lck := c_lck (P := P) (w := w) (base := base) D26 G k_check
  have k_lfw := c_lfw (P := P) (w := w) (base := base) D27 G k_lr k_lch
  exact ok_law F G k_source k_lts k_lfw k_fewest k_pf k_lck
end
theorem all_mk {l : PySem.W.OpenLaw} {w : World} {K : PySem.W.Frag} {h : Heap} {mg : Str → Option Value} {fa f1 f2 f3 f4 f5 f6 f7 f8 f9 f10 f11 f12 f13 f14 f15 f16 f17 f18 f19 f20 f21 f22 f23 f24 f25 f26 f27 f28 : Addr} (X : K.In h) (G : h.Ns mainGlobals mg) (hfa : mg "law" = some (.ref fa)) (hb : ∃ t, mg "MOST_BREAK" = some (.int 1000000000 t))
    {od1 an1 od2 an2 od3 an3 od4 an4 od5 an5 od6 an6 od7 an7 od8 an8 od9 an9 od10 an10 od11 an11 od12 an12 od13 an13 od14 an14 od15 an15 od16 an16 od17 an17 od18 an18 od19 an19 od20 an20 od21 an21 od22 an22 od23 an23 od24 an24 od25 an25 od26 an26 od27 an27 od28 an28 : Option Addr} {sl1 sl2 sl3 sl4 sl5 sl6 sl7 sl8 sl9 sl10 sl11 sl12 sl13 sl14 sl15 sl16 sl17 sl18 sl19 sl20 sl21 sl22 sl23 sl24 sl25 sl26 sl27 sl28 : Array (Option Value)} {oc1 kV1 dc1 pm1 cd1 ct1 oc2 kV2 dc2 pm2 cd2 ct2 oc3 kV3 dc3 pm3 cd3 ct3 oc4 kV4 dc4 pm4 cd4 ct4 oc5 kV5 dc5 pm5 cd5 ct5 oc6 kV6 dc6 pm6 cd6 ct6 oc7 kV7 dc7 pm7 cd7 ct7 oc8 kV8 dc8 pm8 cd8 ct8 oc9 kV9 dc9 pm9 cd9 ct9 oc10 kV10 dc10 pm10 cd10 ct10 oc11 kV11 dc11 pm11 cd11 ct11 oc12 kV12 dc12 pm12 cd12 ct12 oc13 kV13 dc13 pm13 cd13 ct13 oc14 kV14 dc14 pm14 cd14 ct14 oc15 kV15 dc15 pm15 cd15 ct15 oc16 kV16 dc16 pm16 cd16 ct16 oc17 kV17 dc17 pm17 cd17 ct17 oc18 kV18 dc18 pm18 cd18 ct18 oc19 kV19 dc19 pm19 cd19 ct19 oc20 kV20 dc20 pm20 cd20 ct20 oc21 kV21 dc21 pm21 cd21 ct21 oc22 kV22 dc22 pm22 cd22 ct22 oc23 kV23 dc23 pm23 cd23 ct23 oc24 kV24 dc24 pm24 cd24 ct24 oc25 kV25 dc25 pm25 cd25 ct25 oc26 kV26 dc26 pm26 cd26 ct26 oc27 kV27 dc27 pm27 cd27 ct27 oc28 kV28 dc28 pm28 cd28 ct28 : Value} {t1 t2 t3 : Tok}
    (a1 : PySem.W.nsIn K mainGlobals "is_whole" = some (some (.ref f1))) (l1 : K.lookup f1 = some ⟨oc1, od1, .func (PySem.W.fnOf "is_whole" "is_whole" (defArgs sWhole) (defBody sWhole) (defScope sWhole) .none kV1 dc1 pm1 an1 cd1 ct1), sl1⟩) (c1 : PySem.W.codeIn K cd1 "is_whole" = true) (k1 : PySem.W.keepIn K (.ref f1) = true)
    (a2 : PySem.W.nsIn K mainGlobals "is_from" = some (some (.ref f2))) (l2 : K.lookup f2 = some ⟨oc2, od2, .func (PySem.W.fnOf "is_from" "is_from" (defArgs sFrom) (defBody sFrom) (defScope sFrom) .none kV2 dc2 pm2 an2 cd2 ct2), sl2⟩) (c2 : PySem.W.codeIn K cd2 "is_from" = true) (k2 : PySem.W.keepIn K (.ref f2) = true)
    (a3 : PySem.W.nsIn K mainGlobals "is_break" = some (some (.ref f3))) (l3 : K.lookup f3 = some ⟨oc3, od3, .func (PySem.W.fnOf "is_break" "is_break" (defArgs sBreak) (defBody sBreak) (defScope sBreak) .none kV3 dc3 pm3 an3 cd3 ct3), sl3⟩) (c3 : PySem.W.codeIn K cd3 "is_break" = true) (k3 : PySem.W.keepIn K (.ref f3) = true)
    (a4 : PySem.W.nsIn K mainGlobals "is_finding" = some (some (.ref f4))) (l4 : K.lookup f4 = some ⟨oc4, od4, .func (PySem.W.fnOf "is_finding" "is_finding" (defArgs sFinding) (defBody sFinding) (defScope sFinding) .none kV4 dc4 pm4 an4 cd4 ct4), sl4⟩) (c4 : PySem.W.codeIn K cd4 "is_finding" = true) (k4 : PySem.W.keepIn K (.ref f4) = true)
    (a5 : PySem.W.nsIn K mainGlobals "is_tasting" = some (some (.ref f5))) (l5 : K.lookup f5 = some ⟨oc5, od5, .func (PySem.W.fnOf "is_tasting" "is_tasting" (defArgs sTasting) (defBody sTasting) (defScope sTasting) .none kV5 dc5 pm5 an5 cd5 ct5), sl5⟩) (c5 : PySem.W.codeIn K cd5 "is_tasting" = true) (k5 : PySem.W.keepIn K (.ref f5) = true)
    (a6 : PySem.W.nsIn K mainGlobals "breaks_in" = some (some (.ref f6))) (l6 : K.lookup f6 = some ⟨oc6, od6, .func (PySem.W.fnOf "breaks_in" "breaks_in" (defArgs sBreaksIn) (defBody sBreaksIn) (defScope sBreaksIn) .none kV6 dc6 pm6 an6 cd6 ct6), sl6⟩) (c6 : PySem.W.codeIn K cd6 "breaks_in" = true) (k6 : PySem.W.keepIn K (.ref f6) = true)
    (a7 : PySem.W.nsIn K mainGlobals "want_tastings" = some (some (.ref f7))) (l7 : K.lookup f7 = some ⟨oc7, od7, .func (PySem.W.fnOf "want_tastings" "want_tastings" (defArgs sWant) (defBody sWant) (defScope sWant) .none kV7 dc7 pm7 an7 cd7 ct7), sl7⟩) (c7 : PySem.W.codeIn K cd7 "want_tastings" = true) (k7 : PySem.W.keepIn K (.ref f7) = true)
    (a8 : PySem.W.nsIn K mainGlobals "bounds_by" = some (some (.ref f8))) (l8 : K.lookup f8 = some ⟨oc8, od8, .func (PySem.W.fnOf "bounds_by" "bounds_by" (defArgs sBounds) (defBody sBounds) (defScope sBounds) .none kV8 dc8 pm8 an8 cd8 ct8), sl8⟩) (c8 : PySem.W.codeIn K cd8 "bounds_by" = true) (k8 : PySem.W.keepIn K (.ref f8) = true)
    (a9 : PySem.W.nsIn K mainGlobals "pairs_of" = some (some (.ref f9))) (l9 : K.lookup f9 = some ⟨oc9, od9, .func (PySem.W.fnOf "pairs_of" "pairs_of" (defArgs sPairs) (defBody sPairs) (defScope sPairs) .none kV9 dc9 pm9 an9 cd9 ct9), sl9⟩) (c9 : PySem.W.codeIn K cd9 "pairs_of" = true) (k9 : PySem.W.keepIn K (.ref f9) = true)
    (a10 : PySem.W.nsIn K mainGlobals "choices" = some (some (.ref f10))) (l10 : K.lookup f10 = some ⟨oc10, od10, .func (PySem.W.fnOf "choices" "choices" (defArgs sChoices) (defBody sChoices) (defScope sChoices) .none kV10 dc10 pm10 an10 cd10 ct10), sl10⟩) (c10 : PySem.W.codeIn K cd10 "choices" = true) (k10 : PySem.W.keepIn K (.ref f10) = true)
    (a11 : PySem.W.nsIn K mainGlobals "lacking" = some (some (.ref f11))) (l11 : K.lookup f11 = some ⟨oc11, od11, .func (PySem.W.fnOf "lacking" "lacking" (defArgs sLacking) (defBody sLacking) (defScope sLacking) .none kV11 dc11 pm11 an11 cd11 ct11), sl11⟩) (c11 : PySem.W.codeIn K cd11 "lacking" = true) (k11 : PySem.W.keepIn K (.ref f11) = true)
    (a12 : PySem.W.nsIn K mainGlobals "fewest" = some (some (.ref f12))) (l12 : K.lookup f12 = some ⟨oc12, od12, .func (PySem.W.fnOf "fewest" "fewest" (defArgs sFewest) (defBody sFewest) (defScope sFewest) .none kV12 dc12 pm12 an12 cd12 ct12), sl12⟩) (c12 : PySem.W.codeIn K cd12 "fewest" = true) (k12 : PySem.W.keepIn K (.ref f12) = true)
    (a13 : PySem.W.nsIn K mainGlobals "is_lacking" = some (some (.ref f13))) (l13 : K.lookup f13 = some ⟨oc13, od13, .func (PySem.W.fnOf "is_lacking" "is_lacking" (defArgs sIsLack) (defBody sIsLack) (defScope sIsLack) .none kV13 dc13 pm13 an13 cd13 ct13), sl13⟩) (c13 : PySem.W.codeIn K cd13 "is_lacking" = true) (k13 : PySem.W.keepIn K (.ref f13) = true)
    (a14 : PySem.W.nsIn K mainGlobals "check_paper" = some (some (.ref f14))) (l14 : K.lookup f14 = some ⟨oc14, od14, .func (PySem.W.fnOf "check_paper" "check_paper" (defArgs sCheck) (defBody sCheck) (defScope sCheck) .none kV14 dc14 pm14 an14 cd14 ct14), sl14⟩) (c14 : PySem.W.codeIn K cd14 "check_paper" = true) (k14 : PySem.W.keepIn K (.ref f14) = true)
    (a15 : PySem.W.nsIn K mainGlobals "_law_mixed" = some (some (.ref f15))) (l15 : K.lookup f15 = some ⟨oc15, od15, .func (PySem.W.fnOf "_law_mixed" "_law_mixed" (defArgs sMixed) (defBody sMixed) (defScope sMixed) .none kV15 dc15 pm15 an15 cd15 ct15), sl15⟩) (c15 : PySem.W.codeIn K cd15 "_law_mixed" = true) (k15 : PySem.W.keepIn K (.ref f15) = true)
    (a16 : PySem.W.nsIn K mainGlobals "_law_source" = some (some (.ref f16))) (l16 : K.lookup f16 = some ⟨oc16, od16, .func (PySem.W.fnOf "_law_source" "_law_source" (defArgs sSource) (defBody sSource) (defScope sSource) .none kV16 dc16 pm16 an16 cd16 ct16), sl16⟩) (c16 : PySem.W.codeIn K cd16 "_law_source" = true) (k16 : PySem.W.keepIn K (.ref f16) = true)
    (a17 : PySem.W.nsIn K mainGlobals "_law_next" = some (some (.ref f17))) (l17 : K.lookup f17 = some ⟨oc17, od17, .func (PySem.W.fnOf "_law_next" "_law_next" (defArgs sNext) (defBody sNext) (defScope sNext) .none kV17 dc17 pm17 an17 cd17 ct17), sl17⟩) (c17 : PySem.W.codeIn K cd17 "_law_next" = true) (k17 : PySem.W.keepIn K (.ref f17) = true)
    (a18 : PySem.W.nsIn K mainGlobals "_law_numbers" = some (some (.ref f18))) (l18 : K.lookup f18 = some ⟨oc18, od18, .func (PySem.W.fnOf "_law_numbers" "_law_numbers" (defArgs sNumbers) (defBody sNumbers) (defScope sNumbers) .none kV18 dc18 pm18 an18 cd18 ct18), sl18⟩) (c18 : PySem.W.codeIn K cd18 "_law_numbers" = true) (k18 : PySem.W.keepIn K (.ref f18) = true)
    (a19 : PySem.W.nsIn K mainGlobals "_law_finding" = some (some (.ref f19))) (l19 : K.lookup f19 = some ⟨oc19, od19, .func (PySem.W.fnOf "_law_finding" "_law_finding" (defArgs sLfind) (defBody sLfind) (defScope sLfind) .none kV19 dc19 pm19 an19 cd19 ct19), sl19⟩) (c19 : PySem.W.codeIn K cd19 "_law_finding" = true) (k19 : PySem.W.keepIn K (.ref f19) = true)
    (a20 : PySem.W.nsIn K mainGlobals "_law_tasting" = some (some (.ref f20))) (l20 : K.lookup f20 = some ⟨oc20, od20, .func (PySem.W.fnOf "_law_tasting" "_law_tasting" (defArgs sLtast) (defBody sLtast) (defScope sLtast) .none kV20 dc20 pm20 an20 cd20 ct20), sl20⟩) (c20 : PySem.W.codeIn K cd20 "_law_tasting" = true) (k20 : PySem.W.keepIn K (.ref f20) = true)
    (a21 : PySem.W.nsIn K mainGlobals "_law_tastings" = some (some (.ref f21))) (l21 : K.lookup f21 = some ⟨oc21, od21, .func (PySem.W.fnOf "_law_tastings" "_law_tastings" (defArgs sLts) (defBody sLts) (defScope sLts) .none kV21 dc21 pm21 an21 cd21 ct21), sl21⟩) (c21 : PySem.W.codeIn K cd21 "_law_tastings" = true) (k21 : PySem.W.keepIn K (.ref f21) = true)
    (a22 : PySem.W.nsIn K mainGlobals "_law_bounds" = some (some (.ref f22))) (l22 : K.lookup f22 = some ⟨oc22, od22, .func (PySem.W.fnOf "_law_bounds" "_law_bounds" (defArgs sLb) (defBody sLb) (defScope sLb) .none kV22 dc22 pm22 an22 cd22 ct22), sl22⟩) (c22 : PySem.W.codeIn K cd22 "_law_bounds" = true) (k22 : PySem.W.keepIn K (.ref f22) = true)
    (a23 : PySem.W.nsIn K mainGlobals "_law_ranked" = some (some (.ref f23))) (l23 : K.lookup f23 = some ⟨oc23, od23, .func (PySem.W.fnOf "_law_ranked" "_law_ranked" (defArgs sLr) (defBody sLr) (defScope sLr) .none kV23 dc23 pm23 an23 cd23 ct23), sl23⟩) (c23 : PySem.W.codeIn K cd23 "_law_ranked" = true) (k23 : PySem.W.keepIn K (.ref f23) = true)
    (a24 : PySem.W.nsIn K mainGlobals "_law_choices" = some (some (.ref f24))) (l24 : K.lookup f24 = some ⟨oc24, od24, .func (PySem.W.fnOf "_law_choices" "_law_choices" (defArgs sLch) (defBody sLch) (defScope sLch) .none kV24 dc24 pm24 an24 cd24 ct24), sl24⟩) (c24 : PySem.W.codeIn K cd24 "_law_choices" = true) (k24 : PySem.W.keepIn K (.ref f24) = true)
    (a25 : PySem.W.nsIn K mainGlobals "_law_paper_fault" = some (some (.ref f25))) (l25 : K.lookup f25 = some ⟨oc25, od25, .func (PySem.W.fnOf "_law_paper_fault" "_law_paper_fault" (defArgs sPf) (defBody sPf) (defScope sPf) .none kV25 dc25 pm25 an25 cd25 ct25), sl25⟩) (c25 : PySem.W.codeIn K cd25 "_law_paper_fault" = true) (k25 : PySem.W.keepIn K (.ref f25) = true)
    (a26 : PySem.W.nsIn K mainGlobals "_law_checked" = some (some (.ref f26))) (l26 : K.lookup f26 = some ⟨oc26, od26, .func (PySem.W.fnOf "_law_checked" "_law_checked" (defArgs sLck) (defBody sLck) (defScope sLck) .none kV26 dc26 pm26 an26 cd26 ct26), sl26⟩) (c26 : PySem.W.codeIn K cd26 "_law_checked" = true) (k26 : PySem.W.keepIn K (.ref f26) = true)
    (a27 : PySem.W.nsIn K mainGlobals "_law_fewest" = some (some (.ref f27))) (l27 : K.lookup f27 = some ⟨oc27, od27, .func (PySem.W.fnOf "_law_fewest" "_law_fewest" (defArgs sLfw) (defBody sLfw) (defScope sLfw) .none kV27 dc27 pm27 an27 cd27 ct27), sl27⟩) (c27 : PySem.W.codeIn K cd27 "_law_fewest" = true) (k27 : PySem.W.keepIn K (.ref f27) = true)
    (a28 : PySem.W.nsIn K mainGlobals "law" = some (some (.ref f28))) (l28 : K.lookup f28 = some ⟨oc28, od28, .func (PySem.W.fnOf "law" "law" (defArgs sLaw) (defBody sLaw) (defScope sLaw) .none kV28 dc28 pm28 an28 cd28 ct28), sl28⟩) (c28 : PySem.W.codeIn K cd28 "law" = true) (k28 : PySem.W.keepIn K (.ref f28) = true)
    (z1 : PySem.W.nsIn K mainGlobals "isinstance" = some none)
    (z2 : PySem.W.nsIn K mainGlobals "int" = some none)
    (z3 : PySem.W.nsIn K mainGlobals "bool" = some none)
    (z4 : PySem.W.nsIn K mainGlobals "tuple" = some none)
    (z5 : PySem.W.nsIn K mainGlobals "list" = some none)
    (z6 : PySem.W.nsIn K mainGlobals "len" = some none)
    (z7 : PySem.W.nsIn K mainGlobals "all" = some none)
    (z8 : PySem.W.nsIn K mainGlobals "any" = some none)
    (z9 : PySem.W.nsIn K mainGlobals "set" = some none)
    (z10 : PySem.W.nsIn K mainGlobals "sorted" = some none)
    (z11 : PySem.W.nsIn K mainGlobals "range" = some none)
    (z12 : PySem.W.nsIn K mainGlobals "max" = some none)
    (z13 : PySem.W.nsIn K mainGlobals "min" = some none)
    (z14 : PySem.W.nsIn K mainGlobals "enumerate" = some none)
    (z15 : PySem.W.nsIn K mainGlobals "dict" = some none)
    (u1 : PySem.W.nsIn K mainGlobals "MOST_SCORE" = some (some (.int 100 t1)))
    (u2 : PySem.W.nsIn K mainGlobals "MOST_TASTINGS" = some (some (.int 10 t2)))
    (u3 : PySem.W.nsIn K mainGlobals "MOST_BREAKS" = some (some (.int 12 t3))) :
    ∃ fd : FuncData, (∀ (s : Shared) (v : Value), BindsTo s fd ⟨[v], []⟩ [("_law_script", v)]) ∧ ∀ base : Heap, K.In base → base.Ns mainGlobals mg → FnOk l.prog w K mg base CX0 10 fa fd ["_law_script"] (spLaw K) := by
  have e := hfa.symm.trans (PySem.W.mg_of X G a28)
  cases e
  have T : Gs mg := ⟨PySem.W.mg_none_of X G z1, PySem.W.mg_none_of X G z2, PySem.W.mg_none_of X G z3, PySem.W.mg_none_of X G z4, PySem.W.mg_none_of X G z5, PySem.W.mg_none_of X G z6, PySem.W.mg_none_of X G z7, PySem.W.mg_none_of X G z8, PySem.W.mg_none_of X G z9, PySem.W.mg_none_of X G z10, PySem.W.mg_none_of X G z11, PySem.W.mg_none_of X G z12, PySem.W.mg_none_of X G z13, PySem.W.mg_none_of X G z14, PySem.W.mg_none_of X G z15, hb, ⟨_, PySem.W.mg_of X G u1⟩, ⟨_, PySem.W.mg_of X G u2⟩, ⟨_, PySem.W.mg_of X G u3⟩⟩
  have D1 : Dn K mg "is_whole" sWhole ["thing"] := dn_mk X G a1 l1 c1 k1 fun _ _ _ _ _ _ us hl => match us, hl with | [_], _ => rfl
  have D2 : Dn K mg "is_from" sFrom ["thing", "low", "high"] := dn_mk X G a2 l2 c2 k2 fun _ _ _ _ _ _ us hl => match us, hl with | [_, _, _], _ => rfl
  have D3 : Dn K mg "is_break" sBreak ["thing"] := dn_mk X G a3 l3 c3 k3 fun _ _ _ _ _ _ us hl => match us, hl with | [_], _ => rfl
  have D4 : Dn K mg "is_finding" sFinding ["thing"] := dn_mk X G a4 l4 c4 k4 fun _ _ _ _ _ _ us hl => match us, hl with | [_], _ => rfl
  have D5 : Dn K mg "is_tasting" sTasting ["thing"] := dn_mk X G a5 l5 c5 k5 fun _ _ _ _ _ _ us hl => match us, hl with | [_], _ => rfl
  have D6 : Dn K mg "breaks_in" sBreaksIn ["tastings"] := dn_mk X G a6 l6 c6 k6 fun _ _ _ _ _ _ us hl => match us, hl with | [_], _ => rfl
  have D7 : Dn K mg "want_tastings" sWant ["tastings"] := dn_mk X G a7 l7 c7 k7 fun _ _ _ _ _ _ us hl => match us, hl with | [_], _ => rfl
  have D8 : Dn K mg "bounds_by" sBounds ["tastings"] := dn_mk X G a8 l8 c8 k8 fun _ _ _ _ _ _ us hl => match us, hl with | [_], _ => rfl
  have D9 : Dn K mg "pairs_of" sPairs ["tastings", "chosen"] := dn_mk X G a9 l9 c9 k9 fun _ _ _ _ _ _ us hl => match us, hl with | [_, _], _ => rfl
  have D10 : Dn K mg "choices" sChoices ["first", "many", "left"] := dn_mk X G a10 l10 c10 k10 fun _ _ _ _ _ _ us hl => match us, hl with | [_, _, _], _ => rfl
  have D11 : Dn K mg "lacking" sLacking ["tastings", "chosen", "pairs"] := dn_mk X G a11 l11 c11 k11 fun _ _ _ _ _ _ us hl => match us, hl with | [_, _, _], _ => rfl
  have D12 : Dn K mg "fewest" sFewest ["tastings"] := dn_mk X G a12 l12 c12 k12 fun _ _ _ _ _ _ us hl => match us, hl with | [_], _ => rfl
  have D13 : Dn K mg "is_lacking" sIsLack ["tastings", "chosen", "pairs", "thing"] := dn_mk X G a13 l13 c13 k13 fun _ _ _ _ _ _ us hl => match us, hl with | [_, _, _, _], _ => rfl
  have D14 : Dn K mg "check_paper" sCheck ["tastings", "many", "paper"] := dn_mk X G a14 l14 c14 k14 fun _ _ _ _ _ _ us hl => match us, hl with | [_, _, _], _ => rfl
  have D15 : Dn K mg "_law_mixed" sMixed ["_law_cell", "_law_k"] := dn_mk X G a15 l15 c15 k15 fun _ _ _ _ _ _ us hl => match us, hl with | [_, _], _ => rfl
  have D16 : Dn K mg "_law_source" sSource ["_law_cell"] := dn_mk X G a16 l16 c16 k16 fun _ _ _ _ _ _ us hl => match us, hl with | [_], _ => rfl
  have D17 : Dn K mg "_law_next" sNext ["_law_source_here", "_law_many"] := dn_mk X G a17 l17 c17 k17 fun _ _ _ _ _ _ us hl => match us, hl with | [_, _], _ => rfl
  have D18 : Dn K mg "_law_numbers" sNumbers ["_law_source_here", "_law_many"] := dn_mk X G a18 l18 c18 k18 fun _ _ _ _ _ _ us hl => match us, hl with | [_, _], _ => rfl
  have D19 : Dn K mg "_law_finding" sLfind ["_law_source_here", "_law_number"] := dn_mk X G a19 l19 c19 k19 fun _ _ _ _ _ _ us hl => match us, hl with | [_, _], _ => rfl
  have D20 : Dn K mg "_law_tasting" sLtast ["_law_source_here", "_law_numbers_here"] := dn_mk X G a20 l20 c20 k20 fun _ _ _ _ _ _ us hl => match us, hl with | [_, _], _ => rfl
  have D21 : Dn K mg "_law_tastings" sLts ["_law_source_here", "_law_many", "_law_breaks"] := dn_mk X G a21 l21 c21 k21 fun _ _ _ _ _ _ us hl => match us, hl with | [_, _, _], _ => rfl
  have D22 : Dn K mg "_law_bounds" sLb ["_law_tastings_here", "_law_those", "_law_number"] := dn_mk X G a22 l22 c22 k22 fun _ _ _ _ _ _ us hl => match us, hl with | [_, _, _], _ => rfl
  have D23 : Dn K mg "_law_ranked" sLr ["_law_tastings_here", "_law_those"] := dn_mk X G a23 l23 c23 k23 fun _ _ _ _ _ _ us hl => match us, hl with | [_, _], _ => rfl
  have D24 : Dn K mg "_law_choices" sLch ["_law_many", "_law_size"] := dn_mk X G a24 l24 c24 k24 fun _ _ _ _ _ _ us hl => match us, hl with | [_, _], _ => rfl
  have D25 : Dn K mg "_law_paper_fault" sPf ["_law_tastings_here", "_law_many", "_law_paper"] := dn_mk X G a25 l25 c25 k25 fun _ _ _ _ _ _ us hl => match us, hl with | [_, _, _], _ => rfl
  have D26 : Dn K mg "_law_checked" sLck ["_law_tastings_here", "_law_many", "_law_paper"] := dn_mk X G a26 l26 c26 k26 fun _ _ _ _ _ _ us hl => match us, hl with | [_, _, _], _ => rfl
  have D27 : Dn K mg "_law_fewest" sLfw ["_law_tastings_here"] := dn_mk X G a27 l27 c27 k27 fun _ _ _ _ _ _ us hl => match us, hl with | [_], _ => rfl
  exact ⟨_, fun s v => .of_eq rfl, fun base _ _ => every_one (fun_mk (st := sLaw) l28 c28 k28) T D1 D2 D3 D4 D5 D6 D7 D8 D9 D10 D11 D12 D13 D14 D15 D16 D17 D18 D19 D20 D21 D22 D23 D24 D25 D26 D27⟩
theorem walk {l : PySem.W.OpenLaw} {q : Program} {loose : List Str} {YP : World → Heap → Prop} {d : DefRec} {K : Params → PySem.W.Frag} (hn : l.most = some 63) (hdf : d.params.defaults = [])
    (hY : ∀ (w : World) (h : Heap), YP w h → (K w.params).In h)
    (F : ∀ (w : World) (mg : Str → Option Value) (fa : Addr) (h : Heap), (K w.params).In h → h.Ns mainGlobals mg → mg d.name = some (.ref fa) → (∃ t, mg "MOST_BREAK" = some (.int 1000000000 t)) →
      ∃ fd : FuncData, (∀ (s : Shared) (u : Value), BindsTo s fd ⟨[u], []⟩ [("_law_script", u)]) ∧ ∀ base : Heap, (K w.params).In base → base.Ns mainGlobals mg → FnOk l.prog w (K w.params) mg base CX0 10 fa fd ["_law_script"] (spLaw (K w.params))) :
    PySem.W.WalkO q loose (PySem.W.XL q [("MOST_BREAK", PySem.W.WData.int 1000000000)]) YP l.row.toRowW d [] (fun f vs => PySem.call f vs) := by
  refine Att.attach_call hn hdf fun w s0 s1 mg mb fa o pm cd doc a vs ns g y h1 h2 h3 h4 h5 h6 h7 h8 => ?_
  obtain ⟨v, e1, e2⟩ := g.X.2.val _ (List.mem_singleton.mpr rfl)
  obtain ⟨t, rfl, _⟩ := PySem.W.readsW_int_inv e2
  have kx := hY w _ y
  obtain ⟨fd, b, r⟩ := F w mg fa _ kx g.T.g h4 ⟨t, e1⟩
  exact law_call (k := 10) (x := "_law_script") (sp := spLaw (K w.params)) kx g.T.g g.T.b g.T.builtins g.T.nolimit h8 h5 h6 (Nat.le_trans h7 (by decide)) ⟨rfl, by decide, by decide⟩ r b
    (fun H _ hS => ⟨a, ns, rfl, hS, h7, fun _ => rfl⟩) fun _ _ _ z => z
end Fw
open PySem PySem.W PyProof.Rows in
set_option maxRecDepth 100000 in
set_option maxHeartbeats 0 in
theorem PySem.Challenge.cw_chestbreaks_k63_whole_the_fewest_holds : PySem.Challenge.rw_chestbreaks_k63_whole_the_fewest.Holds := by
  w_on; o_law; k_head; (case hw => w_witness2)
  k_fill
  refine Fw.walk (l := PySem.Challenge.rw_chestbreaks_k63_whole_the_fewest) rfl rfl (fun w h Y => PySem.W.kIn_of Y) ?F
  case F =>
    intro w mg fa h KX G hmg hb
    refine' Fw.all_mk KX G hmg hb ?a1 ?l1 ?c1 ?k1 ?a2 ?l2 ?c2 ?k2 ?a3 ?l3 ?c3 ?k3 ?a4 ?l4 ?c4 ?k4 ?a5 ?l5 ?c5 ?k5 ?a6 ?l6 ?c6 ?k6 ?a7 ?l7 ?c7 ?k7 ?a8 ?l8 ?c8 ?k8 ?a9 ?l9 ?c9 ?k9 ?a10 ?l10 ?c10 ?k10 ?a11 ?l11 ?c11 ?k11 ?a12 ?l12 ?c12 ?k12 ?a13 ?l13 ?c13 ?k13 ?a14 ?l14 ?c14 ?k14 ?a15 ?l15 ?c15 ?k15 ?a16 ?l16 ?c16 ?k16 ?a17 ?l17 ?c17 ?k17 ?a18 ?l18 ?c18 ?k18 ?a19 ?l19 ?c19 ?k19 ?a20 ?l20 ?c20 ?k20 ?a21 ?l21 ?c21 ?k21 ?a22 ?l22 ?c22 ?k22 ?a23 ?l23 ?c23 ?k23 ?a24 ?l24 ?c24 ?k24 ?a25 ?l25 ?c25 ?k25 ?a26 ?l26 ?c26 ?k26 ?a27 ?l27 ?c27 ?k27 ?a28 ?l28 ?c28 ?k28 ?z1 ?z2 ?z3 ?z4 ?z5 ?z6 ?z7 ?z8 ?z9 ?z10 ?z11 ?z12 ?z13 ?z14 ?z15 ?u1 ?u2 ?u3
    (case a1 => k_is); (case l1 => k_is); (case c1 => k_is); (case k1 => k_is)
    (case a2 => k_is); (case l2 => k_is); (case c2 => k_is); (case k2 => k_is)
    (case a3 => k_is); (case l3 => k_is); (case c3 => k_is); (case k3 => k_is)
    (case a4 => k_is); (case l4 => k_is); (case c4 => k_is); (case k4 => k_is)
    (case a5 => k_is); (case l5 => k_is); (case c5 => k_is); (case k5 => k_is)
    (case a6 => k_is); (case l6 => k_is); (case c6 => k_is); (case k6 => k_is)
    (case a7 => k_is); (case l7 => k_is); (case c7 => k_is); (case k7 => k_is)
    (case a8 => k_is); (case l8 => k_is); (case c8 => k_is); (case k8 => k_is)
    (case a9 => k_is); (case l9 => k_is); (case c9 => k_is); (case k9 => k_is)
    (case a10 => k_is); (case l10 => k_is); (case c10 => k_is); (case k10 => k_is)
    (case a11 => k_is); (case l11 => k_is); (case c11 => k_is); (case k11 => k_is)
    (case a12 => k_is); (case l12 => k_is); (case c12 => k_is); (case k12 => k_is)
    (case a13 => k_is); (case l13 => k_is); (case c13 => k_is); (case k13 => k_is)
    (case a14 => k_is); (case l14 => k_is); (case c14 => k_is); (case k14 => k_is)
    (case a15 => k_is); (case l15 => k_is); (case c15 => k_is); (case k15 => k_is)
    (case a16 => k_is); (case l16 => k_is); (case c16 => k_is); (case k16 => k_is)
    (case a17 => k_is); (case l17 => k_is); (case c17 => k_is); (case k17 => k_is)
    (case a18 => k_is); (case l18 => k_is); (case c18 => k_is); (case k18 => k_is)
    (case a19 => k_is); (case l19 => k_is); (case c19 => k_is); (case k19 => k_is)
    (case a20 => k_is); (case l20 => k_is); (case c20 => k_is); (case k20 => k_is)
    (case a21 => k_is); (case l21 => k_is); (case c21 => k_is); (case k21 => k_is)
    (case a22 => k_is); (case l22 => k_is); (case c22 => k_is); (case k22 => k_is)
    (case a23 => k_is); (case l23 => k_is); (case c23 => k_is); (case k23 => k_is)
    (case a24 => k_is); (case l24 => k_is); (case c24 => k_is); (case k24 => k_is)
    (case a25 => k_is); (case l25 => k_is); (case c25 => k_is); (case k25 => k_is)
    (case a26 => k_is); (case l26 => k_is); (case c26 => k_is); (case k26 => k_is)
    (case a27 => k_is); (case l27 => k_is); (case c27 => k_is); (case k27 => k_is)
    (case a28 => k_is); (case l28 => k_is); (case c28 => k_is); (case k28 => k_is)
    (case z1 => k_is); (case z2 => k_is); (case z3 => k_is); (case z4 => k_is)
    (case z5 => k_is); (case z6 => k_is); (case z7 => k_is); (case z8 => k_is)
    (case z9 => k_is); (case z10 => k_is); (case z11 => k_is); (case z12 => k_is)
    (case z13 => k_is); (case z14 => k_is); (case z15 => k_is); (case u1 => k_is)
    (case u2 => k_is); (case u3 => k_is)
