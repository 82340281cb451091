import PyProof.Rows.All
import Wide.All
import OpenK.AllK
import Wide.FinOn
import HandS.ForMost
import HandS.Conv
import HandS.Defaults
import HandS.IsInst
import HandS.Style
import HandS.Deep
import HandS.TupLen
import HandS.Property
import HandS.TupSets
import HandS.SetFor
import HandS.Star
import HandS.Walk
import HandS.HeadEnd
import HandS.HeadHook2
import PySem.Challenge.RW_murmurline_k49_whole_greatest_book
import HandS.ClsMeth
import KE.KSuper
import HandS.Head0
import HandS.Head1
import HandS.Head2
import KE.LtSeq
import KE.GoesMore
import HandS.DictComp
import HandS.DictTup
import KE.KDictOf
import KE.KDictCopyH
import HandS.Strs
set_option Elab.async false
set_option linter.all false
set_option maxRecDepth 100000
/-! plain mathematics: masks, cliques, orders -/
namespace MM

/-! ### lists -/
theorem asc_ext : ∀ {l r : List Nat}, l.Pairwise (· < ·) → r.Pairwise (· < ·) → (∀ x, x ∈ l ↔ x ∈ r) → l = r
  | [], [], _, _, _ => rfl
  | [], b :: r, _, _, h => by
    have := (h b).mpr List.mem_cons_self
    cases this
  | a :: l, [], _, _, h => by
    have := (h a).mp List.mem_cons_self
    cases this
  | a :: l, b :: r, hl, hr, h => by
    rw [List.pairwise_cons] at hl hr
    have hab : a = b := by
      rcases List.mem_cons.mp ((h a).mp List.mem_cons_self) with e | e
      · exact e
      · rcases List.mem_cons.mp ((h b).mpr List.mem_cons_self) with e' | e'
        · exact e'.symm
        · have h1 := hr.1 a e
          have h2 := hl.1 b e'
          omega
    subst hab
    rw [asc_ext hl.2 hr.2 fun x => ?_]
    constructor
    · intro hx
      rcases List.mem_cons.mp ((h x).mp (List.mem_cons_of_mem _ hx)) with e | e
      · subst e
        have := hl.1 x hx
        omega
      · exact e
    · intro hx
      rcases List.mem_cons.mp ((h x).mpr (List.mem_cons_of_mem _ hx)) with e | e
      · subst e
        have := hr.1 x hx
        omega
      · exact e

theorem nodup_lt_length : ∀ (N : Nat) (l : List Nat), l.Nodup → (∀ x ∈ l, x < N) → l.length ≤ N
  | 0, [], _, _ => Nat.le_refl _
  | 0, a :: l, _, h => absurd (h a List.mem_cons_self) (Nat.not_lt_zero _)
  | N + 1, l, hn, h => by
    have h1 : (l.filter (fun x => decide (x ≠ N))).length ≤ N := nodup_lt_length N _ (hn.filter _) fun x hx => by
      rw [List.mem_filter] at hx
      have := h x hx.1
      have := of_decide_eq_true hx.2
      omega
    have h2 : ∀ (l : List Nat), l.Nodup → l.length ≤ (l.filter (fun x => decide (x ≠ N))).length + 1 := by
      intro l hn
      induction l with
      | nil => exact Nat.zero_le _
      | cons a l ih =>
        rw [List.nodup_cons] at hn
        by_cases e : a = N
        · have : l.filter (fun x => decide (x ≠ N)) = l := by
            rw [List.filter_eq_self]
            intro b hb
            exact decide_eq_true fun q => hn.1 (by rw [e, ← q]; exact hb)
          rw [List.filter_cons_of_neg (by simp [e]), this]
          exact Nat.le_refl _
        · rw [List.filter_cons_of_pos (by simp [e])]
          simp only [List.length_cons]
          have := ih hn.2
          omega
    have := h2 l hn
    omega

theorem nodup_map_length {α : Type} (f : α → Nat) (N : Nat) (l : List α) (hn : l.Nodup) (hi : ∀ a ∈ l, ∀ b ∈ l, f a = f b → a = b) (h : ∀ x ∈ l, f x < N) : l.length ≤ N := by
  have : (l.map f).Nodup := by
    rw [List.Nodup, List.pairwise_map]
    refine List.Pairwise.imp_of_mem ?_ hn
    intro a b ha hb hab q
    exact hab (hi a ha b hb q)
  have := nodup_lt_length N _ this (by
    intro x hx
    obtain ⟨a, ha, rfl⟩ := List.mem_map.mp hx
    exact h a ha)
  rwa [List.length_map] at this

/-! ### masks -/
def bitsM (m : Nat) : List Nat := (List.range 6).filter fun i => m.testBit i
def maskOf (ws : List Nat) : Nat := ws.foldl (fun m w => m ||| 2 ^ w) 0
theorem mem_bitsM {m i : Nat} : i ∈ bitsM m ↔ i < 6 ∧ m.testBit i = true := by
  unfold bitsM
  rw [List.mem_filter, List.mem_range]
theorem bitsM_asc (m : Nat) : (bitsM m).Pairwise (· < ·) := List.Pairwise.filter _ List.pairwise_lt_range
theorem maskOf_from (i : Nat) : ∀ (ws : List Nat) (m : Nat), (ws.foldl (fun m w => m ||| 2 ^ w) m).testBit i = (m.testBit i || decide (i ∈ ws))
  | [], m => by simp
  | w :: ws, m => by
    rw [List.foldl_cons, maskOf_from i ws, Nat.testBit_or, Nat.testBit_two_pow]
    by_cases e : w = i
    · subst e; simp
    · have : ¬ i = w := fun q => e q.symm
      simp [e, this]
theorem maskOf_bit (ws : List Nat) (i : Nat) : (maskOf ws).testBit i = decide (i ∈ ws) := by
  unfold maskOf
  rw [maskOf_from]
  simp
theorem maskOf_snoc (ws : List Nat) (w : Nat) : maskOf (ws ++ [w]) = maskOf ws ||| 2 ^ w := by
  unfold maskOf
  rw [List.foldl_append]
  rfl
theorem maskOf_lt {n : Nat} {ws : List Nat} (h : ∀ w ∈ ws, w < n) : maskOf ws < 2 ^ n := by
  apply Nat.lt_pow_two_of_testBit
  intro i hi
  rw [maskOf_bit]
  exact decide_eq_false fun q => by have := h i q; omega
theorem bitsM_maskOf {ws : List Nat} (ha : ws.Pairwise (· < ·)) (h : ∀ w ∈ ws, w < 6) : bitsM (maskOf ws) = ws := by
  refine asc_ext (bitsM_asc _) ha fun x => ?_
  rw [mem_bitsM, maskOf_bit, decide_eq_true_iff]
  exact ⟨fun q => q.2, fun q => ⟨h x q, q⟩⟩
theorem bit_lt {n m i : Nat} (h : m < 2 ^ n) (hb : m.testBit i = true) : i < n := by
  apply Decidable.byContradiction
  intro q
  have : m.testBit i = false := Nat.testBit_lt_two_pow (Nat.lt_of_lt_of_le h (Nat.pow_le_pow_right (by decide) (by omega)))
  rw [this] at hb
  cases hb
/-- the loop of bits: what is found behind p turns -/
theorem bits_stop {m p : Nat} (hp : m >>> p = 0) (h6 : m < 2 ^ 6) : (List.range p).filter (fun i => m.testBit i) = bitsM m := by
  refine asc_ext (List.Pairwise.filter _ List.pairwise_lt_range) (bitsM_asc _) fun x => ?_
  rw [mem_bitsM, List.mem_filter, List.mem_range]
  have hb : m.testBit x = true → x < p := fun q => by
    apply Decidable.byContradiction
    intro z
    have e : (m >>> p).testBit (x - p) = m.testBit x := by rw [Nat.testBit_shiftRight]; congr 1; omega
    rw [hp, q, Nat.zero_testBit] at e
    cases e
  exact ⟨fun q => ⟨bit_lt h6 q.2, q.2⟩, fun q => ⟨hb q.2, q.2⟩⟩
theorem bits_turn (m p : Nat) : (List.range (p + 1)).filter (fun i => m.testBit i) = (List.range p).filter (fun i => m.testBit i) ++ (if m.testBit p then [p] else []) := by
  rw [List.range_succ, List.filter_append, List.filter_cons, List.filter_nil]

/-! ### cliques -/
/-- an ascending list of members that are all friends of each other -/
def Clq (fr : Nat → Nat) (l : List Nat) : Prop := l.Pairwise fun a b => a < b ∧ (fr a).testBit b = true
structure Sym (fr : Nat → Nat) : Prop where
  sym : ∀ a b, (fr a).testBit b = true → (fr b).testBit a = true
  irr : ∀ a, (fr a).testBit a = false
structure MaxC (fr : Nat → Nat) (S : Nat → Prop) (k : Nat) : Prop where
  ex : ∃ l, Clq fr l ∧ (∀ x ∈ l, S x) ∧ l.length = k
  ub : ∀ l, Clq fr l → (∀ x ∈ l, S x) → l.length ≤ k
theorem MaxC.uniq {fr : Nat → Nat} {S : Nat → Prop} {j k : Nat} (a : MaxC fr S j) (b : MaxC fr S k) : j = k := by
  obtain ⟨l, h1, h2, h3⟩ := a.ex
  obtain ⟨r, h4, h5, h6⟩ := b.ex
  have := a.ub r h4 h5
  have := b.ub l h1 h2
  omega
theorem MaxC.congr {fr : Nat → Nat} {S T : Nat → Prop} {k : Nat} (a : MaxC fr S k) (h : ∀ x, S x ↔ T x) : MaxC fr T k := by
  obtain ⟨l, h1, h2, h3⟩ := a.ex
  exact ⟨⟨l, h1, fun x hx => (h x).mp (h2 x hx), h3⟩, fun l h1 h2 => a.ub l h1 fun x hx => (h x).mpr (h2 x hx)⟩
theorem MaxC.none {fr : Nat → Nat} {S : Nat → Prop} (h : ∀ x, ¬ S x) : MaxC fr S 0 :=
  ⟨⟨[], List.Pairwise.nil, (fun _ hx => absurd hx (List.not_mem_nil)), rfl⟩, fun l _ hl => by
    cases l with
    | nil => exact Nat.le_refl _
    | cons a l => exact absurd (hl a List.mem_cons_self) (h a)⟩
/-- p put in its place -/
def insA (p : Nat) : List Nat → List Nat
  | [] => [p]
  | a :: l => if p < a then p :: a :: l else a :: insA p l
theorem mem_insA {p x : Nat} : ∀ {l : List Nat}, x ∈ insA p l ↔ x = p ∨ x ∈ l
  | [] => by simp [insA]
  | a :: l => by
    unfold insA
    split
    · simp
    · rw [List.mem_cons, mem_insA, List.mem_cons]
      constructor
      · rintro (h | h | h)
        · exact .inr (.inl h)
        · exact .inl h
        · exact .inr (.inr h)
      · rintro (h | h | h)
        · exact .inr (.inl h)
        · exact .inl h
        · exact .inr (.inr h)
theorem len_insA {p : Nat} : ∀ {l : List Nat}, (insA p l).length = l.length + 1
  | [] => rfl
  | a :: l => by
    unfold insA
    split
    · rfl
    · rw [List.length_cons, len_insA, List.length_cons]
theorem clq_insA {fr : Nat → Nat} (hs : Sym fr) {p : Nat} : ∀ {l : List Nat}, Clq fr l → (∀ x ∈ l, (fr p).testBit x = true) → Clq fr (insA p l)
  | [], _, _ => by
    unfold insA Clq
    exact List.pairwise_singleton _ _
  | a :: l, hc, h => by
    have hc2 := List.pairwise_cons.mp hc
    have ha := h a List.mem_cons_self
    unfold insA
    split
    · rename_i hlt
      refine List.pairwise_cons.mpr ⟨fun b hb => ?_, hc⟩
      rcases List.mem_cons.mp hb with e | e
      · subst e; exact ⟨hlt, ha⟩
      · exact ⟨Nat.lt_trans hlt (hc2.1 b e).1, h b hb⟩
    · rename_i hlt
      refine List.pairwise_cons.mpr ⟨fun b hb => ?_, clq_insA hs hc2.2 fun x hx => h x (List.mem_cons_of_mem _ hx)⟩
      rcases mem_insA.mp hb with e | e
      · subst e
        refine ⟨?_, hs.sym _ _ ha⟩
        have hne : b ≠ a := fun q => by
          subst q
          rw [hs.irr b] at ha
          cases ha
        omega
      · exact hc2.1 b e
theorem Clq.nodup {fr : Nat → Nat} {l : List Nat} (h : Clq fr l) : l.Nodup := List.Pairwise.imp (fun q => Nat.ne_of_lt q.1) h
theorem Clq.asc {fr : Nat → Nat} {l : List Nat} (h : Clq fr l) : l.Pairwise (· < ·) := List.Pairwise.imp (fun q => q.1) h
theorem Clq.filter {fr : Nat → Nat} {l : List Nat} (p : Nat → Bool) (h : Clq fr l) : Clq fr (l.filter p) := List.Pairwise.filter _ h
theorem Clq.friends {fr : Nat → Nat} (hs : Sym fr) : ∀ {l : List Nat}, Clq fr l → ∀ x ∈ l, ∀ y ∈ l, x ≠ y → (fr x).testBit y = true
  | [], _, _, hx, _, _, _ => nomatch hx
  | a :: l, h, x, hx, y, hy, ne => by
    have h2 := List.pairwise_cons.mp h
    rcases List.mem_cons.mp hx with e | e
    · rcases List.mem_cons.mp hy with e' | e'
      · exact absurd (e.trans e'.symm) ne
      · subst e; exact (h2.1 y e').2
    · rcases List.mem_cons.mp hy with e' | e'
      · subst e'; exact hs.sym _ _ (h2.1 x e).2
      · exact Clq.friends hs h2.2 x e y e' ne
theorem len_without {p : Nat} : ∀ {l : List Nat}, l.Nodup → l.length ≤ (l.filter fun x => decide (x ≠ p)).length + 1
  | [], _ => Nat.zero_le _
  | a :: l, hn => by
    rw [List.nodup_cons] at hn
    by_cases e : a = p
    · have : l.filter (fun x => decide (x ≠ p)) = l := by
        rw [List.filter_eq_self]
        intro b hb
        exact decide_eq_true fun q => hn.1 (by rw [e, ← q]; exact hb)
      rw [List.filter_cons_of_neg (by simp [e]), this]
      exact Nat.le_refl _
    · rw [List.filter_cons_of_pos (by simp [e])]
      simp only [List.length_cons]
      have := len_without (p := p) hn.2
      omega
/-- p is a friend of all others in S -/
theorem MaxC.one {fr : Nat → Nat} (hs : Sym fr) {S T : Nat → Prop} {p k : Nat} (hp : S p) (hall : ∀ x, S x → x ≠ p → (fr p).testBit x = true) (hT : ∀ x, T x ↔ S x ∧ (fr p).testBit x = true) (h : MaxC fr T k) : MaxC fr S (1 + k) := by
  obtain ⟨l, h1, h2, h3⟩ := h.ex
  refine ⟨⟨insA p l, clq_insA hs h1 fun x hx => ((hT x).mp (h2 x hx)).2, fun x hx => ?_, by rw [len_insA, h3]; omega⟩, fun r r1 r2 => ?_⟩
  · rcases mem_insA.mp hx with e | e
    · subst e; exact hp
    · exact ((hT x).mp (h2 x e)).1
  · have a := h.ub (r.filter fun x => decide (x ≠ p)) (r1.filter _) fun x hx => by
      rw [List.mem_filter] at hx
      exact (hT x).mpr ⟨r2 x hx.1, hall x (r2 x hx.1) (of_decide_eq_true hx.2)⟩
    have b := len_without (p := p) r1.nodup
    omega
theorem MaxC.two {fr : Nat → Nat} (hs : Sym fr) {S T U : Nat → Prop} {p j k : Nat} (hp : S p) (hT : ∀ x, T x ↔ S x ∧ (fr p).testBit x = true) (hU : ∀ x, U x ↔ S x ∧ x ≠ p) (h : MaxC fr T j) (h' : MaxC fr U k) : MaxC fr S (max (1 + j) k) := by
  obtain ⟨l, h1, h2, h3⟩ := h.ex
  obtain ⟨l', h1', h2', h3'⟩ := h'.ex
  constructor
  · by_cases e : 1 + j < k
    · refine ⟨l', h1', fun x hx => ((hU x).mp (h2' x hx)).1, ?_⟩
      rw [h3']; omega
    · refine ⟨insA p l, clq_insA hs h1 fun x hx => ((hT x).mp (h2 x hx)).2, fun x hx => ?_, ?_⟩
      · rcases mem_insA.mp hx with e | e
        · subst e; exact hp
        · exact ((hT x).mp (h2 x e)).1
      · rw [len_insA, h3]; omega
  · intro r r1 r2
    by_cases hm : p ∈ r
    · have a := h.ub (r.filter fun x => decide (x ≠ p)) (r1.filter _) fun x hx => by
        rw [List.mem_filter] at hx
        exact (hT x).mpr ⟨r2 x hx.1, Clq.friends hs r1 p hm x hx.1 (Ne.symm (of_decide_eq_true hx.2))⟩
      have b := len_without (p := p) r1.nodup
      omega
    · have a := h'.ub r r1 fun x hx => (hU x).mpr ⟨r2 x hx, fun q => hm (q ▸ hx)⟩
      omega

/-! ### the first of the greatest -/
/-- the lists part at a place, and the first has the smaller item there -/
def Lex (l r : List Nat) : Prop := ∃ p x y a b, l = p ++ x :: a ∧ r = p ++ y :: b ∧ x < y
theorem Lex.app {l r : List Nat} (h : Lex l r) (m : List Nat) : Lex (l ++ m) r := by
  obtain ⟨p, x, y, a, b, e1, e2, lt⟩ := h
  exact ⟨p, x, y, a ++ m, b, by rw [e1, List.append_assoc, List.cons_append], e2, lt⟩
structure FF (fr : Nat → Nat) (n K m : Nat) (found : List Nat) (mask : Nat) (wanted : Int) : Prop where
  cl : Clq fr found
  lt : ∀ x ∈ found, x < m
  ltn : ∀ x ∈ found, x < n
  msk : ∀ x, m ≤ x → (mask.testBit x = true ↔ x < n ∧ ∀ f ∈ found, (fr f).testBit x = true)
  wt : wanted = (K : Int) - found.length
  ex : ∃ r, Clq fr (found ++ r) ∧ (∀ x ∈ r, m ≤ x ∧ x < n) ∧ (found ++ r).length = K
  lx : ∀ c, Clq fr c → (∀ x ∈ c, x < n) → c.length = K → (∃ r, c = found ++ r ∧ ∀ x ∈ r, m ≤ x) ∨ Lex found c
theorem FF.start {fr : Nat → Nat} {n K mask : Nat} (hm : ∀ x, mask.testBit x = true ↔ x < n) (h : MaxC fr (fun x => x < n) K) : FF fr n K 0 [] mask K := by
  refine ⟨List.Pairwise.nil, (fun _ hx => nomatch hx), (fun _ hx => nomatch hx), fun x _ => ?_, by simp, ?_, fun c _ _ _ => .inl ⟨c, rfl, fun _ _ => Nat.zero_le _⟩⟩
  · rw [hm x]
    exact ⟨fun q => ⟨q, fun _ hx => nomatch hx⟩, fun q => q.1⟩
  · obtain ⟨l, h1, h2, h3⟩ := h.ex
    exact ⟨l, h1, fun x hx => ⟨Nat.zero_le _, h2 x hx⟩, h3⟩
/-- member m is left out: no clique of the wanted length goes on with it -/
theorem FF.skip {fr : Nat → Nat} {n K m : Nat} {found : List Nat} {mask : Nat} {wanted : Int} (h : FF fr n K m found mask wanted)
    (no : ∀ r, Clq fr (found ++ m :: r) → (∀ x ∈ m :: r, x < n) → (found ++ m :: r).length ≠ K) : FF fr n K (m + 1) found mask wanted := by
  have key : ∀ r, Clq fr (found ++ r) → (∀ x ∈ r, m ≤ x ∧ x < n) → (found ++ r).length = K → ∀ x ∈ r, m + 1 ≤ x := by
    intro r c hr hl
    cases r with
    | nil => exact fun _ hx => nomatch hx
    | cons y r =>
      have hy := hr y List.mem_cons_self
      have ne : y ≠ m := fun q => by
        subst q
        exact no r c (fun x hx => (hr x hx).2) hl
      have cr := List.pairwise_cons.mp (List.pairwise_append.mp c).2.1
      intro x hx
      rcases List.mem_cons.mp hx with e | e
      · subst e; omega
      · have := (cr.1 x e).1
        omega
  refine ⟨h.cl, fun x hx => Nat.lt_succ_of_lt (h.lt x hx), h.ltn, fun x hx => h.msk x (by omega), h.wt, ?_, fun c c1 c2 c3 => ?_⟩
  · obtain ⟨r, r1, r2, r3⟩ := h.ex
    exact ⟨r, r1, fun x hx => ⟨key r r1 r2 r3 x hx, (r2 x hx).2⟩, r3⟩
  · rcases h.lx c c1 c2 c3 with ⟨r, e, hr⟩ | q
    · subst e
      exact .inl ⟨r, rfl, key r c1 (fun x hx => ⟨hr x hx, c2 x (List.mem_append_right _ hx)⟩) c3⟩
    · exact .inr q
theorem FF.skip_out {fr : Nat → Nat} {n K m : Nat} {found : List Nat} {mask : Nat} {wanted : Int} (h : FF fr n K m found mask wanted) (hb : mask.testBit m = false) : FF fr n K (m + 1) found mask wanted :=
  h.skip fun r c hr _ => by
    have : mask.testBit m = true := (h.msk m (Nat.le_refl _)).mpr ⟨hr m List.mem_cons_self, fun f hf => ((List.pairwise_append.mp c).2.2 f hf m List.mem_cons_self).2⟩
    rw [hb] at this
    cases this
section
variable {fr : Nat → Nat} {n K m k rest : Nat} {found : List Nat} {mask : Nat} {wanted : Int}
theorem FF.skip_few (h : FF fr n K m found mask wanted) (hmax : MaxC fr (fun x => x < n) K) (hb : mask.testBit m = true)
    (hr : ∀ x, rest.testBit x = true ↔ m + 1 ≤ x ∧ mask.testBit x = true ∧ (fr m).testBit x = true) (hk : MaxC fr (fun x => rest.testBit x = true) k) (ne : ¬ (1 + (k : Int) = wanted)) : FF fr n K (m + 1) found mask wanted :=
  h.skip fun r c hr' hl => by
    have hm := (h.msk m (Nat.le_refl _)).mp hb
    have cc := List.pairwise_append.mp c
    have cr := List.pairwise_cons.mp cc.2.1
    have le1 : r.length ≤ k := hk.ub r cr.2 fun x hx => (hr x).mpr ⟨(cr.1 x hx).1, (h.msk x (by have := (cr.1 x hx).1; omega)).mpr ⟨hr' x (List.mem_cons_of_mem _ hx), fun f hf => (cc.2.2 f hf x (List.mem_cons_of_mem _ hx)).2⟩, (cr.1 x hx).2⟩
    obtain ⟨l, l1, l2, l3⟩ := hk.ex
    have le2 : (found ++ m :: l).length ≤ K := by
      refine hmax.ub _ (List.pairwise_append.mpr ⟨h.cl, List.pairwise_cons.mpr ⟨fun x hx => ⟨((hr x).mp (l2 x hx)).1, ((hr x).mp (l2 x hx)).2.2⟩, l1⟩, fun f hf x hx => ?_⟩) fun x hx => ?_
      · rcases List.mem_cons.mp hx with e | e
        · subst e; exact ⟨h.lt f hf, hm.2 f hf⟩
        · have q := (hr x).mp (l2 x e)
          exact ⟨by have := h.lt f hf; omega, ((h.msk x (by omega)).mp q.2.1).2 f hf⟩
      · rcases List.mem_append.mp hx with e | e
        · exact h.ltn x e
        · rcases List.mem_cons.mp e with e | e
          · subst e; exact hm.1
          · have q := (hr x).mp (l2 x e)
            exact ((h.msk x (by omega)).mp q.2.1).1
    rw [List.length_append, List.length_cons] at hl le2
    have := h.wt
    omega
theorem FF.take (h : FF fr n K m found mask wanted) (hb : mask.testBit m = true)
    (hr : ∀ x, rest.testBit x = true ↔ m + 1 ≤ x ∧ mask.testBit x = true ∧ (fr m).testBit x = true) (hk : MaxC fr (fun x => rest.testBit x = true) k) (eq : 1 + (k : Int) = wanted) : FF fr n K (m + 1) (found ++ [m]) rest (wanted - 1) := by
  have hm := (h.msk m (Nat.le_refl _)).mp hb
  have hcl : ∀ l, Clq fr l → (∀ x ∈ l, rest.testBit x = true) → Clq fr (found ++ [m] ++ l) := by
    intro l l1 l2
    rw [List.append_assoc, List.singleton_append]
    refine List.pairwise_append.mpr ⟨h.cl, List.pairwise_cons.mpr ⟨fun x hx => ⟨((hr x).mp (l2 x hx)).1, ((hr x).mp (l2 x hx)).2.2⟩, l1⟩, fun f hf x hx => ?_⟩
    rcases List.mem_cons.mp hx with e | e
    · subst e; exact ⟨h.lt f hf, hm.2 f hf⟩
    · have q := (hr x).mp (l2 x e)
      exact ⟨by have := h.lt f hf; omega, ((h.msk x (by omega)).mp q.2.1).2 f hf⟩
  refine ⟨?_, fun x hx => ?_, fun x hx => ?_, fun x hx => ?_, ?_, ?_, fun c c1 c2 c3 => ?_⟩
  · have := hcl [] List.Pairwise.nil fun _ hx => nomatch hx
    rwa [List.append_nil] at this
  · rcases List.mem_append.mp hx with e | e
    · exact Nat.lt_succ_of_lt (h.lt x e)
    · rw [List.mem_singleton.mp e]; exact Nat.lt_succ_self _
  · rcases List.mem_append.mp hx with e | e
    · exact h.ltn x e
    · rw [List.mem_singleton.mp e]; exact hm.1
  · rw [hr x]
    have q := h.msk x (by omega)
    constructor
    · intro z
      have z2 := q.mp z.2.1
      refine ⟨z2.1, fun f hf => ?_⟩
      rcases List.mem_append.mp hf with e | e
      · exact z2.2 f e
      · rw [List.mem_singleton.mp e]; exact z.2.2
    · intro z
      exact ⟨hx, q.mpr ⟨z.1, fun f hf => z.2 f (List.mem_append_left _ hf)⟩, z.2 m (List.mem_append_right _ (List.mem_singleton.mpr rfl))⟩
  · rw [List.length_append, List.length_singleton, h.wt]; omega
  · obtain ⟨l, l1, l2, l3⟩ := hk.ex
    refine ⟨l, hcl l l1 l2, fun x hx => ?_, ?_⟩
    · have q := (hr x).mp (l2 x hx)
      exact ⟨q.1, ((h.msk x (by omega)).mp q.2.1).1⟩
    · rw [List.length_append, List.length_append, List.length_singleton]
      have := h.wt
      omega
  · rcases h.lx c c1 c2 c3 with ⟨r, e, hr'⟩ | q
    · cases r with
      | nil =>
        rw [List.append_nil] at e
        have := h.wt
        rw [e] at c3
        omega
      | cons y r =>
        have hy := hr' y List.mem_cons_self
        by_cases e2 : y = m
        · subst e2
          refine .inl ⟨r, by rw [e, List.append_assoc, List.singleton_append], fun x hx => ?_⟩
          subst e
          have cr := List.pairwise_cons.mp (List.pairwise_append.mp c1).2.1
          exact (cr.1 x hx).1
        · exact .inr ⟨found, m, y, [], r, rfl, e, by omega⟩
    · exact .inr (q.app _)
/-- at the end: it is a greatest one, and all others of its length come later -/
structure First (fr : Nat → Nat) (n : Nat) (l : List Nat) : Prop where
  cl : Clq fr l
  ltn : ∀ x ∈ l, x < n
  mx : ∀ c, Clq fr c → (∀ x ∈ c, x < n) → c.length ≤ l.length
  lx : ∀ c, Clq fr c → (∀ x ∈ c, x < n) → c.length = l.length → c = l ∨ Lex l c
theorem FF.fin (h : FF fr n K n found mask wanted) (hmax : MaxC fr (fun x => x < n) K) : First fr n found := by
  have hl : found.length = K := by
    obtain ⟨r, r1, r2, r3⟩ := h.ex
    cases r with
    | nil => rwa [List.append_nil] at r3
    | cons y r =>
      have := r2 y List.mem_cons_self
      omega
  refine ⟨h.cl, h.ltn, fun c c1 c2 => by rw [hl]; exact hmax.ub c c1 c2, fun c c1 c2 c3 => ?_⟩
  rcases h.lx c c1 c2 (by rw [c3, hl]) with ⟨r, e, hr⟩ | q
  · cases r with
    | nil => exact .inl (by rw [e, List.append_nil])
    | cons y r =>
      have := hr y List.mem_cons_self
      have := c2 y (by rw [e]; exact List.mem_append_right _ List.mem_cons_self)
      omega
  · exact .inr q
end
end MM

/-! plain mathematics: the law's search over all sets of words -/
namespace MM
def lexN : List Nat → List Nat → Bool
  | [], [] => false
  | [], _ :: _ => true
  | _ :: _, [] => false
  | x :: xs, y :: ys => if x = y then lexN xs ys else decide (x < y)
theorem lexN_of_Lex {l r : List Nat} (h : Lex l r) : lexN l r = true := by
  obtain ⟨p, x, y, a, b, rfl, rfl, lt⟩ := h
  induction p with
  | nil =>
    show (if x = y then lexN a b else decide (x < y)) = true
    rw [if_neg (by omega)]
    exact decide_eq_true lt
  | cons z p ih =>
    show (if z = z then lexN (p ++ x :: a) (p ++ y :: b) else decide (z < z)) = true
    rw [if_pos rfl]
    exact ih
theorem lexN_irr : ∀ l : List Nat, lexN l l = false
  | [] => rfl
  | x :: xs => by
    show (if x = x then lexN xs xs else decide (x < x)) = false
    rw [if_pos rfl]
    exact lexN_irr xs
theorem lexN_asym : ∀ l r : List Nat, lexN l r = true → lexN r l = false
  | [], [], _ => rfl
  | [], _ :: _, _ => rfl
  | _ :: _, [], h => by cases h
  | x :: xs, y :: ys, h => by
    have h' : (if x = y then lexN xs ys else decide (x < y)) = true := h
    show (if y = x then lexN ys xs else decide (y < x)) = false
    by_cases e : x = y
    · rw [if_pos e] at h'
      rw [if_pos e.symm]
      exact lexN_asym _ _ h'
    · rw [if_neg e] at h'
      rw [if_neg (fun q => e q.symm)]
      have := of_decide_eq_true h'
      exact decide_eq_false (by omega)
theorem lexN_trans : ∀ a b c : List Nat, lexN a b = true → lexN b c = true → lexN a c = true
  | [], [], _, h, _ => by cases h
  | [], _ :: _, [], _, h => by cases h
  | [], _ :: _, _ :: _, _, _ => rfl
  | _ :: _, [], _, h, _ => by cases h
  | _ :: _, _ :: _, [], _, h => by cases h
  | x :: xs, y :: ys, z :: zs, h1, h2 => by
    have h1' : (if x = y then lexN xs ys else decide (x < y)) = true := h1
    have h2' : (if y = z then lexN ys zs else decide (y < z)) = true := h2
    show (if x = z then lexN xs zs else decide (x < z)) = true
    by_cases e : x = y
    · subst e
      rw [if_pos rfl] at h1'
      by_cases e2 : x = z
      · subst e2
        rw [if_pos rfl] at h2'
        rw [if_pos rfl]
        exact lexN_trans _ _ _ h1' h2'
      · rw [if_neg e2] at h2'
        rw [if_neg e2]
        exact h2'
    · rw [if_neg e] at h1'
      have l1 := of_decide_eq_true h1'
      by_cases e2 : y = z
      · subst e2
        rw [if_neg e]
        exact h1'
      · rw [if_neg e2] at h2'
        have l2 := of_decide_eq_true h2'
        rw [if_neg (by omega)]
        exact decide_eq_true (by omega)
/-- the law's «better» -/
def better (s b : List Nat) : Bool := decide (b.length < s.length) || (decide (s.length = b.length) && lexN s b)
theorem better_iff {s b : List Nat} : better s b = true ↔ b.length < s.length ∨ (s.length = b.length ∧ lexN s b = true) := by
  unfold better
  rw [Bool.or_eq_true, Bool.and_eq_true, decide_eq_true_iff, decide_eq_true_iff]
theorem better_trans {a b c : List Nat} (h1 : better a b = true) (h2 : better b c = true) : better a c = true := by
  rw [better_iff] at *
  rcases h1 with h1 | ⟨h1, h1'⟩ <;> rcases h2 with h2 | ⟨h2, h2'⟩
  · exact .inl (by omega)
  · exact .inl (by omega)
  · exact .inl (by omega)
  · exact .inr ⟨by omega, lexN_trans _ _ _ h1' h2'⟩
/-- all sets, as the law lists them -/
def subsM : Nat → List (List Nat)
  | 0 => [[]]
  | n + 1 => subsM n ++ (subsM n).map fun s => s ++ [n]
theorem subsM_len (n : Nat) : (subsM n).length = 2 ^ n := by
  induction n with
  | zero => rfl
  | succ n ih =>
    unfold subsM
    rw [List.length_append, List.length_map, ih, Nat.pow_succ]
    omega
theorem mem_subsM : ∀ {n : Nat} {s : List Nat}, s ∈ subsM n ↔ s.Pairwise (· < ·) ∧ ∀ x ∈ s, x < n
  | 0, s => by
    unfold subsM
    rw [List.mem_singleton]
    constructor
    · rintro rfl
      exact ⟨List.Pairwise.nil, fun _ hx => absurd hx List.not_mem_nil⟩
    · intro h
      cases s with
      | nil => rfl
      | cons a s => exact absurd (h.2 a List.mem_cons_self) (Nat.not_lt_zero _)
  | n + 1, s => by
    unfold subsM
    rw [List.mem_append, mem_subsM, List.mem_map]
    constructor
    · rintro (h | ⟨t, ht, rfl⟩)
      · exact ⟨h.1, fun x hx => Nat.lt_succ_of_lt (h.2 x hx)⟩
      · have ht := mem_subsM.mp ht
        refine ⟨List.pairwise_append.mpr ⟨ht.1, List.pairwise_singleton _ _, fun a ha b hb => ?_⟩, fun x hx => ?_⟩
        · rw [List.mem_singleton.mp hb]; exact ht.2 a ha
        · rcases List.mem_append.mp hx with e | e
          · exact Nat.lt_succ_of_lt (ht.2 x e)
          · rw [List.mem_singleton.mp e]; exact Nat.lt_succ_self _
    · rintro ⟨ha, hl⟩
      by_cases hn : n ∈ s
      · right
        rcases List.eq_nil_or_concat s with e | ⟨t, b, e⟩
        · rw [e] at hn; cases hn
        · rw [List.concat_eq_append] at e
          subst e
          have hp := List.pairwise_append.mp ha
          have eb : b = n := by
            rcases List.mem_append.mp hn with q | q
            · have h1 := hp.2.2 n q b (List.mem_singleton.mpr rfl)
              have h2 := hl b (List.mem_append_right _ (List.mem_singleton.mpr rfl))
              omega
            · exact (List.mem_singleton.mp q).symm
          subst eb
          exact ⟨t, mem_subsM.mpr ⟨hp.1, fun x hx => hp.2.2 x hx b (List.mem_singleton.mpr rfl)⟩, rfl⟩
      · left
        refine ⟨ha, fun x hx => ?_⟩
        have h1 := hl x hx
        have h2 : x ≠ n := fun q => hn (q ▸ hx)
        omega
/-- the law's search behind i sets -/
structure Best (fr : Nat → Nat) (n i : Nat) (b : List Nat) : Prop where
  mem : b ∈ subsM n
  safe : Clq fr b
  top : ∀ (j : Nat) (s : List Nat), j < i → (subsM n)[j]? = some s → Clq fr s → better s b = false
theorem Best.start {fr : Nat → Nat} {n : Nat} (h : 0 < n) : Best fr n 0 [0] :=
  ⟨mem_subsM.mpr ⟨List.pairwise_singleton _ _, fun x hx => by rw [List.mem_singleton.mp hx]; exact h⟩, List.pairwise_singleton _ _, fun _ _ hj _ _ => absurd hj (Nat.not_lt_zero _)⟩
theorem Best.keep {fr : Nat → Nat} {n i : Nat} {b s : List Nat} (h : Best fr n i b) (hs : (subsM n)[i]? = some s) (no : better s b = true → ¬ Clq fr s) : Best fr n (i + 1) b := by
  refine ⟨h.mem, h.safe, fun j t hj ht ct => ?_⟩
  by_cases e : j = i
  · subst e
    rw [hs] at ht
    cases ht
    cases q : better s b with
    | false => rfl
    | true => exact absurd ct (no q)
  · exact h.top j t (by omega) ht ct
theorem Best.next {fr : Nat → Nat} {n i : Nat} {b s : List Nat} (h : Best fr n i b) (hs : (subsM n)[i]? = some s) (yes : better s b = true) (cs : Clq fr s) : Best fr n (i + 1) s := by
  refine ⟨List.mem_of_getElem? hs, cs, fun j t hj ht ct => ?_⟩
  by_cases e : j = i
  · subst e
    rw [hs] at ht
    cases ht
    unfold better
    rw [lexN_irr]
    simp
  · cases q : better t s with
    | false => rfl
    | true =>
      have := h.top j t (by omega) ht ct
      rw [better_trans q yes] at this
      cases this
theorem Best.fin {fr : Nat → Nat} {n : Nat} {b l : List Nat} (h : Best fr n (subsM n).length b) (hf : First fr n l) : b = l := by
  have hb := mem_subsM.mp h.mem
  have no : better l b = false := by
    have ml : l ∈ subsM n := mem_subsM.mpr ⟨hf.cl.asc, hf.ltn⟩
    obtain ⟨j, hj, e⟩ := List.getElem_of_mem ml
    exact h.top j l hj (by rw [List.getElem?_eq_getElem hj, e]) hf.cl
  have nb : ¬ (b.length < l.length ∨ (l.length = b.length ∧ lexN l b = true)) := fun q => by
    rw [better_iff.mpr q] at no
    cases no
  have le := hf.mx b h.safe hb.2
  have eq : b.length = l.length := by
    have : ¬ b.length < l.length := fun q => nb (.inl q)
    omega
  rcases hf.lx b h.safe hb.2 eq with e | e
  · exact e
  · exact absurd (.inr ⟨eq.symm, lexN_of_Lex e⟩) nb
/-- where all are friends, all are taken -/
theorem First.all {fr : Nat → Nat} {n : Nat} {l : List Nat} (hf : First fr n l) (h : ∀ a b, a < n → b < n → a ≠ b → (fr a).testBit b = true) : l = List.range n := by
  have c : Clq fr (List.range n) := by
    refine List.Pairwise.imp_of_mem ?_ List.pairwise_lt_range
    intro a b ha hb lt
    exact ⟨lt, h a b (List.mem_range.mp ha) (List.mem_range.mp hb) (by omega)⟩
  refine asc_ext hf.cl.asc List.pairwise_lt_range fun x => ?_
  rw [List.mem_range]
  refine ⟨fun q => hf.ltn x q, fun q => ?_⟩
  apply Decidable.byContradiction
  intro nx
  have le := hf.mx _ c fun x hx => List.mem_range.mp hx
  rw [List.length_range] at le
  -- x is missing: l without x has n - 1 places
  have := nodup_map_length (fun y => if y < x then y else y - 1) (n - 1) l hf.cl.nodup (fun a ha b hb e => by
    have a1 : a ≠ x := fun q => nx (q ▸ ha)
    have b1 : b ≠ x := fun q => nx (q ▸ hb)
    split at e <;> split at e <;> omega) fun y hy => by
      have y1 : y ≠ x := fun q => nx (q ▸ hy)
      have y2 := hf.ltn y hy
      split <;> omega
  omega
end MM

/-! plain mathematics: states, steps, what melts -/
namespace MM
/-- a cast: its size, its letters (as codes, ascending), what comes out of a word by a letter -/
structure CM where
  n : Nat
  L : List Nat
  R : Nat → Nat → List Nat
structure CM.Ok (c : CM) : Prop where
  n1 : 1 ≤ c.n
  n6 : c.n ≤ 6
  asc : c.L.Pairwise (· < ·)
  az : ∀ l ∈ c.L, 97 ≤ l ∧ l ≤ 122
  few : c.L.length ≤ 8
  ne : ∀ l ∈ c.L, ∀ w, w < c.n → c.R l w ≠ []
  lt : ∀ l ∈ c.L, ∀ w, w < c.n → ∀ o ∈ c.R l w, o < c.n
  rasc : ∀ l ∈ c.L, ∀ w, w < c.n → (c.R l w).Pairwise (· < ·)
/-- a pattern: its signs as codes -/
structure PatOk (c : CM) (pat : List Nat) : Prop where
  sg : ∀ s ∈ pat, s = 42 ∨ s = 63 ∨ s ∈ c.L
  le : pat.length ≤ 12
def people (c : CM) (s : Nat) : List Nat := if s = 63 ∨ s = 42 then c.L else [s]
theorem people_sub {c : CM} {pat : List Nat} (h : PatOk c pat) {s l : Nat} (hs : s ∈ pat) (hl : l ∈ people c s) : l ∈ c.L := by
  unfold people at hl
  split at hl
  · exact hl
  · rename_i ne
    rw [List.mem_singleton.mp hl]
    rcases h.sg s hs with e | e | e
    · exact absurd (.inr e) ne
    · exact absurd (.inl e) ne
    · exact e
abbrev T3 := Nat × Nat × Nat
inductive Step (c : CM) (pat : List Nat) : T3 → T3 → Prop
  | skip {p a b : Nat} (h : pat[p]? = some 42) : Step c pat (p, a, b) (p + 1, a, b)
  | say {p a b s l x y : Nat} (h : pat[p]? = some s) (hl : l ∈ people c s) (hx : x ∈ c.R l a) (hy : y ∈ c.R l b) : Step c pat (p, a, b) (if s = 42 then p else p + 1, min x y, max x y)
inductive Reach (c : CM) (pat : List Nat) (t0 : T3) : T3 → Prop
  | start : Reach c pat t0 t0
  | step {t u : T3} (r : Reach c pat t0 t) (s : Step c pat t u) : Reach c pat t0 u
def Melt (c : CM) (pat : List Nat) (a b : Nat) : Prop := ∃ p x, Reach c pat (0, a, b) (p, x, x)
/-- a state of the pattern -/
structure StOk (c : CM) (pat : List Nat) (t : T3) : Prop where
  pl : t.1 ≤ pat.length
  le : t.2.1 ≤ t.2.2
  lt : t.2.2 < c.n
theorem mem_of_get {pat : List Nat} {p s : Nat} (h : pat[p]? = some s) : s ∈ pat ∧ p < pat.length := ⟨List.mem_of_getElem? h, (List.getElem?_eq_some_iff.mp h).1⟩
theorem Step.ok {c : CM} (hc : c.Ok) {pat : List Nat} (hp : PatOk c pat) {t u : T3} (s : Step c pat t u) (h : StOk c pat t) : StOk c pat u := by
  cases s with
  | skip e => exact ⟨(mem_of_get e).2, h.le, h.lt⟩
  | @say p a b s l x y e hl hx hy =>
    have q := mem_of_get e
    have hl' := people_sub hp q.1 hl
    have hb : b < c.n := h.lt
    have ha : a < c.n := Nat.lt_of_le_of_lt h.le hb
    have hx' := hc.lt l hl' _ ha x hx
    have hy' := hc.lt l hl' _ hb y hy
    refine ⟨?_, ?_, ?_⟩
    · show (if s = 42 then p else p + 1) ≤ pat.length
      split <;> omega
    · show min x y ≤ max x y
      omega
    · show max x y < c.n
      omega
theorem Reach.ok {c : CM} (hc : c.Ok) {pat : List Nat} (hp : PatOk c pat) {t0 t : T3} (r : Reach c pat t0 t) (h : StOk c pat t0) : StOk c pat t := by
  induction r with
  | start => exact h
  | step _ s ih => exact s.ok hc hp ih
theorem Reach.trans {c : CM} {pat : List Nat} {t0 t u : T3} (r : Reach c pat t0 t) (r' : Reach c pat t u) : Reach c pat t0 u := by
  induction r' with
  | start => exact r
  | step _ s ih => exact ih.step s
/-- where someone has spoken, somebody is in the cast -/
theorem Reach.said {c : CM} {pat : List Nat} (hp : PatOk c pat) {t0 t : T3} (r : Reach c pat t0 t) : t.2 = t0.2 ∨ c.L ≠ [] := by
  induction r with
  | start => exact .inl rfl
  | step _ s ih =>
    cases s with
    | skip e => exact ih
    | say e hl hx hy =>
      refine .inr fun q => ?_
      have := people_sub hp (mem_of_get e).1 hl
      rw [q] at this
      cases this
theorem on_to_end {c : CM} (hc : c.Ok) {pat : List Nat} (hp : PatOk c pat) (hL : c.L ≠ []) : ∀ (k p x : Nat), pat.length - p = k → p ≤ pat.length → x < c.n → ∃ y, Reach c pat (p, x, x) (pat.length, y, y)
  | 0, p, x, e, h, _ => by
    have : p = pat.length := by omega
    subst this
    exact ⟨x, .start⟩
  | k + 1, p, x, e, h, hx => by
    have hlt : p < pat.length := by omega
    have hg : pat[p]? = some pat[p] := by simp [hlt]
    obtain ⟨z, hz, hs⟩ : ∃ z, z < c.n ∧ Step c pat (p, x, x) (p + 1, z, z) := by
      by_cases h42 : pat[p] = 42
      · exact ⟨x, hx, .skip (by rw [hg, h42])⟩
      · obtain ⟨l, hl, hl'⟩ : ∃ l, l ∈ people c pat[p] ∧ l ∈ c.L := by
          by_cases h63 : pat[p] = 63
          · obtain ⟨l, r, e⟩ := List.exists_cons_of_ne_nil hL
            have : l ∈ c.L := by rw [e]; exact List.mem_cons_self
            refine ⟨l, ?_, this⟩
            unfold people
            rw [if_pos (.inl h63)]
            exact this
          · have hm : pat[p] ∈ people c pat[p] := by
              unfold people
              rw [if_neg (fun q => q.elim h63 h42)]
              exact List.mem_singleton.mpr rfl
            exact ⟨pat[p], hm, people_sub hp (mem_of_get hg).1 hm⟩
        obtain ⟨y, r, ey⟩ := List.exists_cons_of_ne_nil (hc.ne l hl' x hx)
        have hy : y ∈ c.R l x := by rw [ey]; exact List.mem_cons_self
        refine ⟨y, hc.lt l hl' x hx y hy, ?_⟩
        have s := Step.say (c := c) hg hl hy hy
        rw [if_neg h42, Nat.min_self, Nat.max_self] at s
        exact s
    obtain ⟨y, r⟩ := on_to_end hc hp hL k (p + 1) z (by omega) hlt hz
    exact ⟨y, (Reach.start.step hs).trans r⟩
theorem melt_end {c : CM} (hc : c.Ok) {pat : List Nat} (hp : PatOk c pat) {a b : Nat} (lt : a < b) (hb : b < c.n) (h : Melt c pat a b) : ∃ y, Reach c pat (0, a, b) (pat.length, y, y) := by
  obtain ⟨p, x, r⟩ := h
  have o := r.ok hc hp ⟨Nat.zero_le _, Nat.le_of_lt lt, hb⟩
  have hL : c.L ≠ [] := by
    rcases r.said hp with e | e
    · have e1 : x = a := congrArg Prod.fst e
      have e2 : x = b := congrArg Prod.snd e
      omega
    · exact e
  obtain ⟨y, r'⟩ := on_to_end hc hp hL _ p x rfl o.pl o.lt
  exact ⟨y, r.trans r'⟩
/-- what the law's closed list says -/
structure Closed (c : CM) (pat : List Nat) (a b : Nat) (ts : List T3) : Prop where
  re : ∀ t ∈ ts, Reach c pat (0, a, b) t
  st : (0, a, b) ∈ ts
  cl : ∀ t ∈ ts, ∀ u, Step c pat t u → u ∈ ts
theorem Closed.all {c : CM} {pat : List Nat} {a b : Nat} {ts : List T3} (h : Closed c pat a b ts) {t : T3} (r : Reach c pat (0, a, b) t) : t ∈ ts := by
  induction r with
  | start => exact h.st
  | step _ s ih => exact h.cl _ ih _ s
theorem Closed.won {c : CM} (hc : c.Ok) {pat : List Nat} (hp : PatOk c pat) {a b : Nat} (lt : a < b) (hb : b < c.n) {ts : List T3} (h : Closed c pat a b ts) : (∃ y, (pat.length, y, y) ∈ ts) ↔ Melt c pat a b := by
  constructor
  · rintro ⟨y, hy⟩
    exact ⟨_, y, h.re _ hy⟩
  · intro m
    obtain ⟨y, r⟩ := melt_end hc hp lt hb m
    exact ⟨y, h.all r⟩
/-- a set of states that is closed and holds no state of two equal words: nothing melts -/
theorem not_melt {c : CM} {pat : List Nat} {a b : Nat} (S : T3 → Prop) (st : S (0, a, b)) (cl : ∀ t, S t → ∀ u, Step c pat t u → S u) (no : ∀ t, S t → t.2.1 ≠ t.2.2) : ¬ Melt c pat a b := by
  rintro ⟨p, x, r⟩
  have : ∀ t, Reach c pat (0, a, b) t → S t := by
    intro t r
    induction r with
    | start => exact st
    | step _ s ih => exact cl _ ih _ s
  exact no _ (this _ r) rfl
/-- with the empty pattern nothing melts -/
theorem not_melt_nil {c : CM} {a b : Nat} (ne : a ≠ b) : ¬ Melt c [] a b :=
  not_melt (fun t => t = (0, a, b)) rfl (fun t ht u s => by
    subst ht
    cases s with
    | skip e => cases e
    | say e => cases e) fun t ht => by subst ht; exact ne
/-- two words that stay apart -/
def Apart (c : CM) (pat : List Nat) (a b : Nat) : Prop := a ≠ b ∧ ¬ Melt c pat (min a b) (max a b)
theorem Apart.comm {c : CM} {pat : List Nat} {a b : Nat} (h : Apart c pat a b) : Apart c pat b a := ⟨h.1.symm, by rw [Nat.min_comm, Nat.max_comm]; exact h.2⟩
theorem apart_lt {c : CM} {pat : List Nat} {a b : Nat} (lt : a < b) : Apart c pat a b ↔ ¬ Melt c pat a b := by
  unfold Apart
  rw [Nat.min_eq_left (Nat.le_of_lt lt), Nat.max_eq_right (Nat.le_of_lt lt)]
  exact ⟨fun h => h.2, fun h => ⟨by omega, h⟩⟩

/-! ### what is reached without a letter -/
def Skips (pat : List Nat) (p q : Nat) : Prop := p ≤ q ∧ ∀ j, p ≤ j → j < q → pat[j]? = some 42
theorem Skips.refl {pat : List Nat} {p : Nat} : Skips pat p p := ⟨Nat.le_refl _, fun j h1 h2 => by omega⟩
theorem Skips.succ {pat : List Nat} {p q : Nat} (h : Skips pat p q) (e : pat[q]? = some 42) : Skips pat p (q + 1) := ⟨Nat.le_succ_of_le h.1, fun j h1 h2 => by
  by_cases q' : j = q
  · subst q'; exact e
  · exact h.2 j h1 (by omega)⟩
theorem Skips.pred {pat : List Nat} {p q : Nat} (h : Skips pat p (q + 1)) : p = q + 1 ∨ (Skips pat p q ∧ pat[q]? = some 42) := by
  by_cases e : p = q + 1
  · exact .inl e
  · have := h.1
    exact .inr ⟨⟨by omega, fun j h1 h2 => h.2 j h1 (by omega)⟩, h.2 q (by omega) (Nat.lt_succ_self _)⟩
theorem Skips.reach {c : CM} {pat : List Nat} {t0 : T3} {p a b : Nat} (r : Reach c pat t0 (p, a, b)) : ∀ (k : Nat), (∀ j, p ≤ j → j < p + k → pat[j]? = some 42) → Reach c pat t0 (p + k, a, b)
  | 0, _ => r
  | k + 1, h => (Skips.reach r k fun j h1 h2 => h j h1 (by omega)).step (.skip (h (p + k) (by omega) (by omega)))
theorem Skips.reaches {c : CM} {pat : List Nat} {t0 : T3} {p q a b : Nat} (r : Reach c pat t0 (p, a, b)) (h : Skips pat p q) : Reach c pat t0 (q, a, b) := by
  obtain ⟨k, rfl⟩ := Nat.exists_eq_add_of_le h.1
  exact Skips.reach r k h.2
/-- the law's «open»: the states behind m places -/
def Opened (pat : List Nat) (sts : List T3) (m : Nat) (t : T3) : Prop := t.1 < m ∧ ∃ s ∈ sts, s.2 = t.2 ∧ Skips pat s.1 t.1
theorem opened_zero {pat : List Nat} {sts : List T3} {t : T3} : ¬ Opened pat sts 0 t := fun h => absurd h.1 (Nat.not_lt_zero _)
theorem opened_succ {pat : List Nat} {sts : List T3} {m : Nat} {t : T3} : Opened pat sts (m + 1) t ↔ Opened pat sts m t ∨ (t.1 = m ∧ t ∈ sts) ∨ (0 < m ∧ pat[m - 1]? = some 42 ∧ t.1 = m ∧ Opened pat sts m (m - 1, t.2)) := by
  constructor
  · rintro ⟨lt, s, hs, e, sk⟩
    by_cases h : t.1 < m
    · exact .inl ⟨h, s, hs, e, sk⟩
    · have em : t.1 = m := by omega
      cases m with
      | zero =>
        have : s.1 = 0 := by have := sk.1; omega
        exact .inr (.inl ⟨em, by have : s = t := Prod.ext (by omega) e; rw [← this]; exact hs⟩)
      | succ m =>
        rw [em] at sk
        rcases sk.pred with q | ⟨q1, q2⟩
        · exact .inr (.inl ⟨em, by have : s = t := Prod.ext (by omega) e; rw [← this]; exact hs⟩)
        · exact .inr (.inr ⟨Nat.succ_pos _, q2, em, Nat.lt_succ_self _, s, hs, e, q1⟩)
  · rintro (⟨lt, h⟩ | ⟨e, h⟩ | ⟨h0, h1, e, lt, s, hs, e2, sk⟩)
    · exact ⟨Nat.lt_succ_of_lt lt, h⟩
    · exact ⟨by omega, t, h, rfl, .refl⟩
    · refine ⟨by omega, s, hs, e2, ?_⟩
      have z := sk.succ h1
      have : m - 1 + 1 = t.1 := by omega
      rwa [this] at z
def norm (t : T3) : T3 := (t.1, min t.2.1 t.2.2, max t.2.1 t.2.2)
/-- the law's «after»: what comes out of one state by one letter, with what is reached without a letter -/
def After (c : CM) (pat : List Nat) (t : T3) (l : Nat) (u : T3) : Prop := u.1 ≤ pat.length ∧ ∃ s, pat[t.1]? = some s ∧ (s = 42 ∨ s = 63 ∨ s = l) ∧ Skips pat (if s = 42 then t.1 else t.1 + 1) u.1 ∧ u.2.1 ∈ c.R l t.2.1 ∧ u.2.2 ∈ c.R l t.2.2
theorem After.reach {c : CM} {pat : List Nat} {t0 t u : T3} {l : Nat} (hl : l ∈ c.L) (r : Reach c pat t0 t) (h : After c pat t l u) : Reach c pat t0 (norm u) := by
  obtain ⟨_, s, h1, h2, h3, h4, h5⟩ := h
  have hlp : l ∈ people c s := by
    unfold people
    split
    · exact hl
    · rename_i q
      rcases h2 with e | e | e
      · exact absurd (.inr e) q
      · exact absurd (.inl e) q
      · rw [e]; exact List.mem_singleton.mpr rfl
  exact Skips.reaches (r.step (.say h1 hlp h4 h5)) h3
/-- the law's loop over the states: what holds ahead of turn i -/
structure Work (c : CM) (pat : List Nat) (a b i : Nat) (ts : List T3) : Prop where
  nd : ts.Nodup
  re : ∀ t ∈ ts, Reach c pat (0, a, b) t
  st : (0, a, b) ∈ ts
  sk : ∀ p x y, (p, x, y) ∈ ts → pat[p]? = some 42 → (p + 1, x, y) ∈ ts
  dn : ∀ (j : Nat) (t : T3), j < i → ts[j]? = some t → ∀ l ∈ c.L, ∀ u, After c pat t l u → norm u ∈ ts
theorem Work.closed {c : CM} {pat : List Nat} (hp : PatOk c pat) {a b i : Nat} {ts : List T3} (h : Work c pat a b i ts) (hi : ts.length ≤ i) : Closed c pat a b ts := by
  refine ⟨h.re, h.st, fun t ht u s => ?_⟩
  cases s with
  | skip e => exact h.sk _ _ _ ht e
  | @say p x y s l o o' e hl ho ho' =>
    obtain ⟨j, hj, ej⟩ := List.getElem_of_mem ht
    have hs := mem_of_get e
    have hL := people_sub hp hs.1 hl
    have q : After c pat (p, x, y) l (if s = 42 then p else p + 1, o, o') := by
      refine ⟨?_, s, e, ?_, .refl, ho, ho'⟩
      · show (if s = 42 then p else p + 1) ≤ pat.length
        split <;> omega
      · unfold people at hl
        split at hl
        · rename_i z
          rcases z with z | z
          · exact .inr (.inl z)
          · exact .inl z
        · exact .inr (.inr (List.mem_singleton.mp hl).symm)
    exact h.dn j (p, x, y) (Nat.lt_of_lt_of_le hj hi) (by rw [List.getElem?_eq_getElem hj, ej]) l hL _ q
theorem Work.few {c : CM} (hc : c.Ok) {pat : List Nat} (hp : PatOk c pat) {a b i : Nat} {ts : List T3} (h : Work c pat a b i ts) (lt : a ≤ b) (hb : b < c.n) : ts.length ≤ (pat.length + 1) * (c.n * c.n) := by
  have key : ∀ t ∈ ts, StOk c pat t := fun t ht => (h.re t ht).ok hc hp ⟨Nat.zero_le _, lt, hb⟩
  have n6 := hc.n6
  have n1 := hc.n1
  refine nodup_map_length (fun t : T3 => t.1 * (c.n * c.n) + (t.2.1 * c.n + t.2.2)) _ ts h.nd ?_ ?_
  · intro t ht u hu e
    have ot := key t ht
    have ou := key u hu
    obtain ⟨t1, t2, t3⟩ := t
    obtain ⟨u1, u2, u3⟩ := u
    have h1 := ot.le; have h2 := ot.lt; have h3 := ou.le; have h4 := ou.lt
    simp only at h1 h2 h3 h4
    have e' : t1 * (c.n * c.n) + (t2 * c.n + t3) = u1 * (c.n * c.n) + (u2 * c.n + u3) := e
    generalize c.n = n at *
    have hn : n = 1 ∨ n = 2 ∨ n = 3 ∨ n = 4 ∨ n = 5 ∨ n = 6 := by omega
    have goal : t1 = u1 ∧ t2 = u2 ∧ t3 = u3 := by
      rcases hn with rfl | rfl | rfl | rfl | rfl | rfl <;> omega
    rw [goal.1, goal.2.1, goal.2.2]
  · intro t ht
    have ot := key t ht
    obtain ⟨t1, t2, t3⟩ := t
    have h0 := ot.pl; have h1 := ot.le; have h2 := ot.lt
    simp only at h0 h1 h2
    show t1 * (c.n * c.n) + (t2 * c.n + t3) < (pat.length + 1) * (c.n * c.n)
    generalize c.n = n at *
    have hn : n = 1 ∨ n = 2 ∨ n = 3 ∨ n = 4 ∨ n = 5 ∨ n = 6 := by omega
    rcases hn with rfl | rfl | rfl | rfl | rfl | rfl <;> omega
end MM

set_option maxHeartbeats 4000000
/-! the base: the text by places, defs by their names, short rules -/
namespace Mm
open PySem PySem.Spec L2
open PyProof.Rows hiding St
def top (i : Nat) : Stmt := PySem.Challenge.pw_murmurline_k49_whole_greatest_book.main.body.getD i (.Pass ⟨0, 0, 0, 0⟩)

/-! ### built-in names that the text leaves alone, constants of the top -/
structure Blt (mg : Str → Option Value) : Prop where
  b_len : mg "len" = none
  b_int : mg "int" = none
  b_abs : mg "abs" = none
  b_min : mg "min" = none
  b_max : mg "max" = none
  b_str : mg "str" = none
  b_list : mg "list" = none
  b_tuple : mg "tuple" = none
  b_dict : mg "dict" = none
  b_set : mg "set" = none
  b_range : mg "range" = none
  b_sorted : mg "sorted" = none
  b_enumerate : mg "enumerate" = none
  b_isinstance : mg "isinstance" = none
  b_bool : mg "bool" = none
  b_super : mg "super" = none
  k_GREATEST_SIZE : ∃ t, mg "GREATEST_SIZE" = some (.int 6 t)
  k_MOST_SIGNS : ∃ t, mg "MOST_SIGNS" = some (.int 12 t)
  k_MOST_PEOPLE : ∃ t, mg "MOST_PEOPLE" = some (.int 8 t)
  k_LETTERS : ∃ t, mg "LETTERS" = some (.str "abcdefghijklmnopqrstuvwxyz" t)

/-! ### a def of the top, by its name -/
def Fn (K : PySem.W.Frag) (mg : Str → Option Value) (x : Str) (st : Stmt) : Prop :=
  ∃ f fd, mg x = some (.ref f) ∧ FunD K x x (defArgs st) (defBody st) (defScope st) [] [] f fd
structure G (P : Program) (w : World) (K : PySem.W.Frag) (mg : Str → Option Value) (base : Heap) (k : Nat) (x : Str) (ps : List Str) (sp : Sp) : Prop where
  ok : ∃ f fd, mg x = some (.ref f) ∧ PySem.W.keepIn K (.ref f) = true ∧ Binds K fd ps [] ∧ FnOk P w K mg base CX0 k f fd ps sp
section
variable {P : Program} {w : World} {K : PySem.W.Frag} {mg : Str → Option Value} {base : Heap}
theorem G.imp {k : Nat} {x : Str} {ps : List Str} {sp sp' : Sp} (F : G P w K mg base k x ps sp) (h : ∀ vs H Q E, sp' vs H Q E → sp vs H Q E) : G P w K mg base k x ps sp' := by
  obtain ⟨f, fd, h1, h2, h3, h4⟩ := F.ok
  exact ⟨f, fd, h1, h2, h3, h4.imp h⟩
theorem G.mono {j k : Nat} {x : Str} {ps : List Str} {sp : Sp} (F : G P w K mg base j x ps sp) (h : j ≤ k) : G P w K mg base k x ps sp := by
  obtain ⟨f, fd, h1, h2, h3, h4⟩ := F.ok
  exact ⟨f, fd, h1, h2, h3, h4.mono h⟩
theorem g_of {x : Str} {st : Stmt} {N ps : List Str} {k : Nat} {sp : Sp} (F : Fn K mg x st) (S : FnScope N ps (defScope st))
    (hb : ∀ (kV doc pm : Value) (an : Option Addr) (cdv ct : Value) (us : List Value), us.length = ps.length → bindArgs (PySem.W.fnOf x x (defArgs st) (defBody st) (defScope st) .none kV doc pm an cdv ct) ⟨us, []⟩ = pure (ps.zip us))
    (len : ∀ vs H Q E, sp vs H Q E → vs.length = ps.length)
    (hbody : ∀ (f : Addr) (cdv : Value) (A : Around) (outer : List Env) (s : Shared) (H : Hp) (vs : List V) (Q : VK) (E : XK), Room k (A.deeper (envOfC x (defScope st) s.heap.objs.size f cdv)) → sp vs H Q E →
      ∃ t, PSs (cxOf CX0 P w K mg base N x (defScope st) f cdv A outer s H E).nox (defBody st) t ∧ t { nx := fun _ H' => Q .non H', rt := Q } (start N vs) H) : G P w K mg base (k + 1) x ps sp := by
  obtain ⟨f, fd, e, F⟩ := F
  refine ⟨f, fd, e, F.kp, F.bindsN hb, F.ok S len fun cdv A outer s H vs Q E hr h => ?_⟩
  obtain ⟨t, h1, h2⟩ := hbody f cdv A outer s H vs Q E hr h
  exact ⟨t, h1.nox, h2⟩
end
section
variable {X : Cx} {k : Nat} {x : Str} {ps : List Str} {sp : Sp} {p pos : Pos} {e : Expr} {es : List Expr} {t : TA} {ta : TE}
/-- f(e, ..) of a def of the top -/
theorem pe_g (F : G X.prog X.w X.K X.mg X.base k x ps sp) (hr : Room k X.A) (hg : Gl X x) (ha : PA X (e :: es) t) (hdb : (x == ("__debug__" : Str)) = false := by decide)
    (he : starEach (e :: es) X.env = (false, eval e X.env) :: starEach es X.env := by rfl) (hpl : (backTo pos (starEach es X.env)).any (·.1) = false := by rfl) :
    PE X (.Call (.Name x p) (e :: es) [] pos) (tCall sp [] E0 t) := by
  obtain ⟨f, fd, h1, h2, h3, h4⟩ := F.ok
  exact pe_call h4 hr hg h1 h2 h3 .nil pass0 ha hdb he hpl
/-- what is never reckoned -/
theorem pe_never : PE X e (fun _ _ _ => False) := ⟨fun _ _ _ _ _ _ h => h.elim⟩
theorem pe_gint {i : Int} (hg : Gl X x) (h : ∃ t, X.mg x = some (.int i t)) (hd : (x == ("__debug__" : Str)) = false := by decide) : PE X (.Name x pos) (tC (.int i)) := by
  obtain ⟨t, h⟩ := h
  exact pe_glob hg h ⟨_, rfl⟩ hd
theorem pe_gstr {z : Str} (hg : Gl X x) (h : ∃ t, X.mg x = some (.str z t)) (hd : (x == ("__debug__" : Str)) = false := by decide) : PE X (.Name x pos) (tC (.str z)) := by
  obtain ⟨t, h⟩ := h
  exact pe_glob hg h ⟨_, rfl⟩ hd
end

/-! ### values -/
abbrev vi (n : Nat) : V := .int (n : Int)
abbrev vn (l : List Nat) : List V := l.map vi
theorem vn_get {l : List Nat} {i : Nat} {v : V} (h : (vn l)[i]? = some v) : ∃ n, l[i]? = some n ∧ v = vi n := by
  rw [List.getElem?_map] at h
  cases e : l[i]? with
  | none => rw [e] at h; cases h
  | some n => rw [e] at h; exact ⟨n, rfl, (Option.some.inj h).symm⟩
theorem vn_app (a b : List Nat) : vn (a ++ b) = vn a ++ vn b := List.map_append
theorem len_get {α : Type} {l : List α} {i : Nat} {v : α} (h : l[i]? = some v) : i < l.length := (List.getElem?_eq_some_iff.mp h).1
theorem take_get {α : Type} {l : List α} {i : Nat} {v : α} (h : l[i]? = some v) : l.take (i + 1) = l.take i ++ [v] := by
  rw [List.take_succ, h]
  rfl
theorem same_upd {H H' : Hp} (s : Same H H') {p : Addr} {o : HO} (h : H p = none) : Same H (upd H' p o) := fun b u e => by
  rw [upd_ne (ne_of_none e h)]
  exact s b u e
theorem same_new {H : Hp} {p : Addr} {o : HO} (h : H p = none) : Same H (L2.upd H p o) := same_upd (Same.refl H) h
theorem same_tup {K : PySem.W.Frag} {H H' : Hp} {a : Addr} {xs : List V} (e : Same H H') (h : SqT K H a xs) : SqT K H' a xs := by
  rcases h with (h | ⟨o, h⟩) | h
  · exact .inl (.inl (e _ _ h))
  · exact .inl (.inr ⟨o, e _ _ h⟩)
  · exact .inr h
theorem small_of {n m : Nat} (h : n ≤ m) (hm : m < 16777216 := by decide) : n < sizeLine := Nat.lt_of_le_of_lt h (by rw [sizeLine_eq]; exact hm)
theorem le_of_small {n m : Nat} (h : n ≤ m) (hm : m ≤ 16777216 := by decide) : n ≤ sizeLine := Nat.le_trans h (by rw [sizeLine_eq]; exact hm)

/-! ### tests -/
theorem iteD {p A B : Prop} [Decidable p] (h1 : p → A) (h2 : ¬ p → B) : if decide p = true then A else B := by
  by_cases h : p
  · rw [decide_eq_true h, if_pos rfl]; exact h1 h
  · rw [decide_eq_false h, if_neg Bool.false_ne_true]; exact h2 h
theorem iteI {i j : Int} {A B : Prop} (h1 : i = j → A) (h2 : ¬ i = j → B) : if decide (V.int i = V.int j) = true then A else B := iteD (fun e => h1 (V.int.inj e)) fun e => h2 fun q => e (by rw [q])
theorem iteIn {i j : Int} {A B : Prop} (h1 : ¬ i = j → A) (h2 : i = j → B) : if (!decide (V.int i = V.int j)) = true then A else B := by
  by_cases h : i = j
  · subst h; rw [decide_eq_true rfl]; exact iteF (h2 rfl)
  · rw [decide_eq_false fun e => h (V.int.inj e)]; exact iteT (h1 h)
theorem iteS {i j : Str} {A B : Prop} (h1 : i = j → A) (h2 : ¬ i = j → B) : if decide (V.str i = V.str j) = true then A else B := iteD (fun e => h1 (V.str.inj e)) fun e => h2 fun q => e (by rw [q])
theorem iteSn {i j : Str} {A B : Prop} (h1 : ¬ i = j → A) (h2 : i = j → B) : if (!decide (V.str i = V.str j)) = true then A else B := by
  by_cases h : i = j
  · subst h; rw [decide_eq_true rfl]; exact iteF (h2 rfl)
  · rw [decide_eq_false fun e => h (V.str.inj e)]; exact iteT (h1 h)
theorem iteB {b : Bool} {A B : Prop} (h1 : b = true → A) (h2 : b = false → B) : if b = true then A else B := by
  cases b
  · exact iteF (h2 rfl)
  · exact iteT (h1 rfl)
theorem iteBn {b : Bool} {A B : Prop} (h1 : b = false → A) (h2 : b = true → B) : if (!b) = true then A else B := by
  cases b
  · exact iteT (h1 rfl)
  · exact iteF (h2 rfl)

/-! ### loops -/
theorem while_w {c : TT} {tb : TS} {D : Ends} {σ : St} {H : Hp} (W : Nat → St → Hp → Prop) (m0 : Nat) (h0 : W m0 σ H)
    (hs : ∀ m σ H, W m σ H → ∀ N : St → Hp → Prop, (∀ m' σ' H', m' < m → W m' σ' H' → N σ' H') → c σ H fun b H1 => if b = true then tb ⟨N, D.rt, D.nx, N⟩ σ H1 else D.nx σ H1)
    (mono : ∀ σ H Q Q', (∀ b H1, Q b H1 → Q' b H1) → c σ H Q → c σ H Q') : tWhile c tb D σ H := by
  refine ⟨W, ⟨m0, h0⟩, fun m σ H w => ?_⟩
  refine mono σ H _ _ (fun b H1 q => ?_) (hs m σ H w (fun σ' H' => ∃ m', m' < m ∧ W m' σ' H') fun m' σ' H' l w' => ⟨m', l, w'⟩)
  cases b with
  | true => exact ⟨_, fun σ' H' z => z, q⟩
  | false => exact q
theorem for_list_w {K : PySem.W.Frag} {a : Addr} {xs : List V} {g : TG} {tb : TS} {D : Ends} {σ : St} {H : Hp} (W : Nat → St → Hp → Prop) (h0 : W 0 σ H) (hl : ∀ i σ H, i ≤ xs.length → W i σ H → SqL K H a xs)
    (hs : ∀ i x σ H, xs[i]? = some x → W i σ H → ∀ N : St → Hp → Prop, (∀ σ' H', W (i + 1) σ' H' → N σ' H') → g x σ H fun σ2 H2 => tb ⟨N, D.rt, D.nx, N⟩ σ2 H2) (hd : ∀ σ H, W xs.length σ H → D.nx σ H) :
    ∃ W : Nat → Nat → St → Hp → Prop, (∃ m, W 0 m σ H) ∧ ∀ i m σ H, W i m σ H →
      ((Itl K a).stop i H ∧ D.nx σ H) ∨ ((Itl K a).go i H ∧ ∃ N : St → Hp → Prop, (∀ σ' H', N σ' H' → ∃ m', m' < m ∧ W (i + 1) m' σ' H') ∧ ∀ x H', (Itl K a).yld i H x H' → g x σ H' fun σ2 H2 => tb { D with nx := N, ct := N, bk := D.nx } σ2 H2) :=
  for_list W h0 hl (fun i x σ H hx w => hs i x σ H hx w _ fun _ _ q => q) hd
theorem for_tup_w {K : PySem.W.Frag} {a : Addr} {xs : List V} {g : TG} {tb : TS} {D : Ends} {σ : St} {H : Hp} (W : Nat → St → Hp → Prop) (h0 : W 0 σ H) (hl : ∀ i σ H, i ≤ xs.length → W i σ H → SqT K H a xs)
    (hs : ∀ i x σ H, xs[i]? = some x → W i σ H → ∀ N : St → Hp → Prop, (∀ σ' H', W (i + 1) σ' H' → N σ' H') → g x σ H fun σ2 H2 => tb ⟨N, D.rt, D.nx, N⟩ σ2 H2) (hd : ∀ σ H, W xs.length σ H → D.nx σ H) :
    ∃ W : Nat → Nat → St → Hp → Prop, (∃ m, W 0 m σ H) ∧ ∀ i m σ H, W i m σ H →
      ((Itt K a).stop i H ∧ D.nx σ H) ∨ ((Itt K a).go i H ∧ ∃ N : St → Hp → Prop, (∀ σ' H', N σ' H' → ∃ m', m' < m ∧ W (i + 1) m' σ' H') ∧ ∀ x H', (Itt K a).yld i H x H' → g x σ H' fun σ2 H2 => tb { D with nx := N, ct := N, bk := D.nx } σ2 H2) :=
  for_tup W h0 hl (fun i x σ H hx w => hs i x σ H hx w _ fun _ _ q => q) hd
theorem for_range_w {lo : Int} {n : Nat} {g : TG} {tb : TS} {D : Ends} {σ : St} {H : Hp} (W : Nat → St → Hp → Prop) (h0 : W 0 σ H)
    (hs : ∀ i σ H, i < n → W i σ H → ∀ N : St → Hp → Prop, (∀ σ' H', W (i + 1) σ' H' → N σ' H') → g (.int (lo + i)) σ H fun σ2 H2 => tb ⟨N, D.rt, D.nx, N⟩ σ2 H2) (hd : ∀ σ H, W n σ H → D.nx σ H) :
    ∃ W : Nat → Nat → St → Hp → Prop, (∃ m, W 0 m σ H) ∧ ∀ i m σ H, W i m σ H →
      ((Itr lo n).stop i H ∧ D.nx σ H) ∨ ((Itr lo n).go i H ∧ ∃ N : St → Hp → Prop, (∀ σ' H', N σ' H' → ∃ m', m' < m ∧ W (i + 1) m' σ' H') ∧ ∀ x H', (Itr lo n).yld i H x H' → g x σ H' fun σ2 H2 => tb { D with nx := N, ct := N, bk := D.nx } σ2 H2) :=
  for_range W h0 (fun i σ H hx w => hs i σ H hx w _ fun _ _ q => q) hd

/-! ### comprehensions -/
theorem lc_list_w {K : PySem.W.Frag} {a : Addr} {xs : List V} {g : TG} {tt : TT} {te : TE} {vs : List Nat} {σ : St} {H1 : Hp} {D : Addr} {Qd : Hp → Prop} (W : Nat → Hp → Prop) (h0 : W 0 (upd H1 D (.lst []))) (hl : ∀ i H, i ≤ xs.length → W i H → SqL K H a xs)
    (hs : ∀ i x H, xs[i]? = some x → W i H → ∀ N : Hp → Prop, (∀ H', W (i + 1) H' → N H') → g x (wipe σ vs) H fun σ2 H2 => wipe σ2 vs = wipe σ vs ∧ tt σ2 H2 fun b H3 =>
      if b = true then te σ2 H3 fun y H4 => ∃ acc, H4 D = some (.lst acc) ∧ acc.length < sizeLine ∧ N (upd H4 D (.lst (acc ++ [y]))) else N H3) (hd : ∀ H, W xs.length H → Qd H) :
    ∃ W : Nat → Nat → Hp → Prop, (∃ m, W 0 m (upd H1 D (.lst []))) ∧ ∀ i m H, W i m H →
      ((Itl K a).stop i H ∧ Qd H) ∨ ((Itl K a).go i H ∧ ∃ Nx : Hp → Prop, (∀ H', Nx H' → ∃ m', m' < m ∧ W (i + 1) m' H') ∧ ∀ x H', (Itl K a).yld i H x H' → g x (wipe σ vs) H' fun σ2 H2 => wipe σ2 vs = wipe σ vs ∧ tt σ2 H2 fun b H3 =>
        if b = true then te σ2 H3 fun y H4 => ∃ acc, H4 D = some (.lst acc) ∧ acc.length < sizeLine ∧ Nx (upd H4 D (.lst (acc ++ [y]))) else Nx H3) :=
  lc_list W h0 hl (fun i x H hx w => hs i x H hx w _ fun _ q => q) hd
theorem lc_tup_w {K : PySem.W.Frag} {a : Addr} {xs : List V} {g : TG} {tt : TT} {te : TE} {vs : List Nat} {σ : St} {H1 : Hp} {D : Addr} {Qd : Hp → Prop} (W : Nat → Hp → Prop) (h0 : W 0 (upd H1 D (.lst []))) (hl : ∀ i H, i ≤ xs.length → W i H → SqT K H a xs)
    (hs : ∀ i x H, xs[i]? = some x → W i H → ∀ N : Hp → Prop, (∀ H', W (i + 1) H' → N H') → g x (wipe σ vs) H fun σ2 H2 => wipe σ2 vs = wipe σ vs ∧ tt σ2 H2 fun b H3 =>
      if b = true then te σ2 H3 fun y H4 => ∃ acc, H4 D = some (.lst acc) ∧ acc.length < sizeLine ∧ N (upd H4 D (.lst (acc ++ [y]))) else N H3) (hd : ∀ H, W xs.length H → Qd H) :
    ∃ W : Nat → Nat → Hp → Prop, (∃ m, W 0 m (upd H1 D (.lst []))) ∧ ∀ i m H, W i m H →
      ((Itt K a).stop i H ∧ Qd H) ∨ ((Itt K a).go i H ∧ ∃ Nx : Hp → Prop, (∀ H', Nx H' → ∃ m', m' < m ∧ W (i + 1) m' H') ∧ ∀ x H', (Itt K a).yld i H x H' → g x (wipe σ vs) H' fun σ2 H2 => wipe σ2 vs = wipe σ vs ∧ tt σ2 H2 fun b H3 =>
        if b = true then te σ2 H3 fun y H4 => ∃ acc, H4 D = some (.lst acc) ∧ acc.length < sizeLine ∧ Nx (upd H4 D (.lst (acc ++ [y]))) else Nx H3) :=
  lc_tup W h0 hl (fun i x H hx w => hs i x H hx w _ fun _ q => q) hd
theorem lc_range_w {lo : Int} {n : Nat} {g : TG} {tt : TT} {te : TE} {vs : List Nat} {σ : St} {H1 : Hp} {D : Addr} {Qd : Hp → Prop} (W : Nat → Hp → Prop) (h0 : W 0 (upd H1 D (.lst [])))
    (hs : ∀ i H, i < n → W i H → ∀ N : Hp → Prop, (∀ H', W (i + 1) H' → N H') → g (.int (lo + i)) (wipe σ vs) H fun σ2 H2 => wipe σ2 vs = wipe σ vs ∧ tt σ2 H2 fun b H3 =>
      if b = true then te σ2 H3 fun y H4 => ∃ acc, H4 D = some (.lst acc) ∧ acc.length < sizeLine ∧ N (upd H4 D (.lst (acc ++ [y]))) else N H3) (hd : ∀ H, W n H → Qd H) :
    ∃ W : Nat → Nat → Hp → Prop, (∃ m, W 0 m (upd H1 D (.lst []))) ∧ ∀ i m H, W i m H →
      ((Itr lo n).stop i H ∧ Qd H) ∨ ((Itr lo n).go i H ∧ ∃ Nx : Hp → Prop, (∀ H', Nx H' → ∃ m', m' < m ∧ W (i + 1) m' H') ∧ ∀ x H', (Itr lo n).yld i H x H' → g x (wipe σ vs) H' fun σ2 H2 => wipe σ2 vs = wipe σ vs ∧ tt σ2 H2 fun b H3 =>
        if b = true then te σ2 H3 fun y H4 => ∃ acc, H4 D = some (.lst acc) ∧ acc.length < sizeLine ∧ Nx (upd H4 D (.lst (acc ++ [y]))) else Nx H3) :=
  lc_range W h0 (fun i H hx w => hs i H hx w _ fun _ q => q) hd

/-- loops of blocks, whatever their turn -/
theorem loop_range {lo : Int} {n : Nat} {BODY : V → Hp → (Hp → Prop) → Prop} {H1 : Hp} {Qd : Hp → Prop} (W : Nat → Hp → Prop) (h0 : W 0 H1)
    (hs : ∀ i H, i < n → W i H → ∀ N : Hp → Prop, (∀ H', W (i + 1) H' → N H') → BODY (.int (lo + i)) H N) (hd : ∀ H, W n H → Qd H) :
    ∃ W : Nat → Nat → Hp → Prop, (∃ m, W 0 m H1) ∧ ∀ i m H, W i m H →
      ((Itr lo n).stop i H ∧ Qd H) ∨ ((Itr lo n).go i H ∧ ∃ Nx : Hp → Prop, (∀ H', Nx H' → ∃ m', m' < m ∧ W (i + 1) m' H') ∧ ∀ x H', (Itr lo n).yld i H x H' → BODY x H' Nx) := by
  refine ⟨fun i m H => m = n - i ∧ i ≤ n ∧ W i H, ⟨n, by simp, Nat.zero_le _, h0⟩, ?_⟩
  rintro i m H ⟨rfl, hi, p⟩
  by_cases hlt : i < n
  · refine .inr ⟨hlt, W (i + 1), fun H' p' => ⟨n - (i + 1), by omega, rfl, hlt, p'⟩, fun x H' y => ?_⟩
    obtain ⟨e, y⟩ := y
    subst e y
    exact hs i _ hlt p _ fun _ q => q
  · have e : i = n := by omega
    subst e
    exact .inl ⟨Nat.le_refl _, hd H p⟩
theorem loop_list {K : PySem.W.Frag} {a : Addr} {xs : List V} {BODY : V → Hp → (Hp → Prop) → Prop} {H1 : Hp} {Qd : Hp → Prop} (W : Nat → Hp → Prop) (h0 : W 0 H1) (hl : ∀ i H, i ≤ xs.length → W i H → SqL K H a xs)
    (hs : ∀ i x H, xs[i]? = some x → W i H → ∀ N : Hp → Prop, (∀ H', W (i + 1) H' → N H') → BODY x H N) (hd : ∀ H, W xs.length H → Qd H) :
    ∃ W : Nat → Nat → Hp → Prop, (∃ m, W 0 m H1) ∧ ∀ i m H, W i m H →
      ((Itl K a).stop i H ∧ Qd H) ∨ ((Itl K a).go i H ∧ ∃ Nx : Hp → Prop, (∀ H', Nx H' → ∃ m', m' < m ∧ W (i + 1) m' H') ∧ ∀ x H', (Itl K a).yld i H x H' → BODY x H' Nx) := by
  refine ⟨fun i m H => m = xs.length - i ∧ i ≤ xs.length ∧ W i H, ⟨xs.length, by simp, Nat.zero_le _, h0⟩, ?_⟩
  rintro i m H ⟨rfl, hi, p⟩
  have q := hl i H hi p
  by_cases hlt : i < xs.length
  · refine .inr ⟨⟨xs, xs[i], q, by simp [hlt]⟩, W (i + 1), fun H' p' => ⟨xs.length - (i + 1), by omega, rfl, hlt, p'⟩, fun x H' y => ?_⟩
    obtain ⟨e, y⟩ := y
    subst e
    exact hs i x _ (y xs q) p _ fun _ q => q
  · have e : i = xs.length := by omega
    subst e
    exact .inl ⟨⟨xs, q, Nat.le_refl _⟩, hd H p⟩

/-- a for, over any walk -/
theorem for_w {J : It} {n : Nat} {Gd : Hp → Prop} {Y : Nat → Hp → V → Hp → Prop} (w : Walk J n Gd Y) {g : TG} {tb : TS} {D : Ends} {σ : St} {H : Hp} (W : Nat → St → Hp → Prop) (h0 : W 0 σ H) (hG : ∀ i σ H, i ≤ n → W i σ H → Gd H)
    (hs : ∀ i x σ H H', i < n → W i σ H → Y i H x H' → ∀ N : St → Hp → Prop, (∀ σ' H', W (i + 1) σ' H' → N σ' H') → g x σ H' fun σ2 H2 => tb ⟨N, D.rt, D.nx, N⟩ σ2 H2) (hd : ∀ σ H, W n σ H → D.nx σ H) :
    ∃ W : Nat → Nat → St → Hp → Prop, (∃ m, W 0 m σ H) ∧ ∀ i m σ H, W i m σ H →
      (J.stop i H ∧ D.nx σ H) ∨ (J.go i H ∧ ∃ N : St → Hp → Prop, (∀ σ' H', N σ' H' → ∃ m', m' < m ∧ W (i + 1) m' σ' H') ∧ ∀ x H', J.yld i H x H' → g x σ H' fun σ2 H2 => tb { D with nx := N, ct := N, bk := D.nx } σ2 H2) :=
  for_it w W h0 hG (fun i x σ H H' hi p y => hs i x σ H H' hi p y _ fun _ _ q => q) hd
/-- a block's loop, over any walk -/
theorem blk_w {J : It} {n : Nat} {Gd : Hp → Prop} {Y : Nat → Hp → V → Hp → Prop} (w : Walk J n Gd Y) {BODY : V → Hp → (Hp → Prop) → Prop} {H1 : Hp} {Qd : Hp → Prop} (W : Nat → Hp → Prop) (h0 : W 0 H1) (hG : ∀ i H, i ≤ n → W i H → Gd H)
    (hs : ∀ i x H H', i < n → W i H → Y i H x H' → ∀ N : Hp → Prop, (∀ H', W (i + 1) H' → N H') → BODY x H' N) (hd : ∀ H, W n H → Qd H) :
    ∃ W : Nat → Nat → Hp → Prop, (∃ m, W 0 m H1) ∧ ∀ i m H, W i m H →
      (J.stop i H ∧ Qd H) ∨ (J.go i H ∧ ∃ Nx : Hp → Prop, (∀ H', Nx H' → ∃ m', m' < m ∧ W (i + 1) m' H') ∧ ∀ x H', J.yld i H x H' → BODY x H' Nx) := by
  refine ⟨fun i m H => m = n - i ∧ i ≤ n ∧ W i H, ⟨n, by simp, Nat.zero_le _, h0⟩, ?_⟩
  rintro i m H ⟨rfl, hi, p⟩
  have q := hG i H hi p
  by_cases hlt : i < n
  · exact .inr ⟨w.goes i H hlt q, W (i + 1), fun H' p' => ⟨n - (i + 1), by omega, rfl, hlt, p'⟩, fun x H' y => hs i x H H' hlt p (w.yields i H x H' hlt q y) _ fun _ z => z⟩
  · have e : i = n := by omega
    subst e
    exact .inl ⟨w.stops H q, hd H p⟩

/-- range(n), its turns as numbers -/
theorem walk_r0 {n : Nat} : Walk (Itr 0 n) n (fun _ => True) (fun i H x H' => H' = H ∧ x = vi i) :=
  walk_range.mono (fun _ h => h) fun i H x H' _ _ y => ⟨y.1, y.2.trans (congrArg V.int (Int.zero_add _))⟩
/-! ### data on the heap -/
/-- a list of lists of words -/
def RowsAt (K : PySem.W.Frag) (H : Hp) (a : Addr) (rows : List (List Nat)) : Prop := ∃ as : List Addr, SqL K H a (as.map V.ref) ∧ Paired (fun p r => SqL K H p (vn r)) as rows
theorem paired_map {α β : Type} {F G : α → β → Prop} : ∀ {l₁ : List α} {l₂ : List β}, Paired F l₁ l₂ → (∀ a b, F a b → G a b) → Paired G l₁ l₂ := fun h f => L2.Paired.mapP h f
theorem paired_mapm {α β : Type} {F G : α → β → Prop} : ∀ {l₁ : List α} {l₂ : List β}, Paired F l₁ l₂ → (∀ a b, a ∈ l₁ → b ∈ l₂ → F a b → G a b) → Paired G l₁ l₂
  | _, _, .nil, _ => .nil
  | _, _, .cons r t, f => .cons (f _ _ List.mem_cons_self List.mem_cons_self r) (paired_mapm t fun a b ha hb => f a b (List.mem_cons_of_mem _ ha) (List.mem_cons_of_mem _ hb))
theorem paired_app {α β : Type} {F : α → β → Prop} : ∀ {l₁ r₁ : List α} {l₂ r₂ : List β}, Paired F l₁ l₂ → Paired F r₁ r₂ → Paired F (l₁ ++ r₁) (l₂ ++ r₂)
  | _, _, _, _, .nil, h => h
  | _, _, _, _, .cons r t, h => .cons r (paired_app t h)
theorem RowsAt.same {K : PySem.W.Frag} {H H' : Hp} {a : Addr} {rows : List (List Nat)} (h : RowsAt K H a rows) (s : Same H H') : RowsAt K H' a rows := by
  obtain ⟨as, h1, h2⟩ := h
  exact ⟨as, s.seq h1, paired_map h2 fun _ _ q => s.seq q⟩
theorem refs_get {as : List Addr} {i : Nat} {x : V} (h : (as.map V.ref)[i]? = some x) : ∃ p, as[i]? = some p ∧ x = .ref p := by
  rw [List.getElem?_map] at h
  cases e : as[i]? with
  | none => rw [e] at h; cases h
  | some p => rw [e] at h; exact ⟨p, rfl, (Option.some.inj h).symm⟩
/-- a new list is being made, all that stood before stands -/
structure LB (H0 : Hp) (D : Addr) (H : Hp) (acc : List V) : Prop where
  sm : Same H0 H
  nw : H0 D = none
  at_ : H D = some (.lst acc)
theorem LB.start {H : Hp} {D : Addr} (h : H D = none) : LB H D (upd H D (.lst [])) [] := ⟨same_new h, h, upd_same⟩
theorem LB.snoc {H0 H : Hp} {D : Addr} {acc : List V} (h : LB H0 D H acc) (v : V) : LB H0 D (upd H D (.lst (acc ++ [v]))) (acc ++ [v]) := ⟨same_upd h.sm h.nw, h.nw, upd_same⟩
theorem LB.next {H0 H H' : Hp} {D : Addr} {acc : List V} (h : LB H0 D H acc) (s : Same H H') : LB H0 D H' acc := ⟨h.sm.trans s, h.nw, s _ _ h.at_⟩
theorem filt_turn (p : Nat → Bool) (i : Nat) : (List.range (i + 1)).filter p = (List.range i).filter p ++ (if p i then [i] else []) := by
  rw [List.range_succ, List.filter_append, List.filter_cons, List.filter_nil]
theorem filt_yes {p : Nat → Bool} {i : Nat} (h : p i = true) : vn ((List.range (i + 1)).filter p) = vn ((List.range i).filter p) ++ [vi i] := by
  rw [filt_turn, h, vn_app]
  rfl
theorem filt_no {p : Nat → Bool} {i : Nat} (h : p i = false) : vn ((List.range (i + 1)).filter p) = vn ((List.range i).filter p) := by
  rw [filt_turn, h]
  simp
theorem filt_len (p : Nat → Bool) (i : Nat) : (vn ((List.range i).filter p)).length ≤ i := by
  rw [List.length_map]
  exact Nat.le_trans (List.length_filter_le _ _) (Nat.le_of_eq List.length_range)
theorem take_all {α : Type} {l : List α} {n : Nat} (h : l.length = n) : l.take n = l := by subst h; exact List.take_length
end Mm

set_option maxHeartbeats 4000000
/-! rules: methods and classes by name, own in, [], len -/
namespace Mm
open PySem PySem.Spec L2
open PyProof.Rows hiding St

/-- the method m of the class at C (its own or one above it) -/
structure GM (P : Program) (w : World) (K : PySem.W.Frag) (mg : Str → Option Value) (base : Heap) (k : Nat) (C : Addr) (m : Str) (ps : List Str) (sp : Sp) : Prop where
  ok : ∃ f fd, Meth K C m f ∧ PySem.W.fnIn K f = true ∧ Binds K fd ps [] ∧ FnOk P w K mg base CX0 k f fd ps sp
/-- the class at C is made, by such an __init__ -/
structure GI (P : Program) (w : World) (K : PySem.W.Frag) (mg : Str → Option Value) (base : Heap) (k : Nat) (C : Addr) (ps : List Str) (sp : Sp) : Prop where
  ok : ∃ f fd, Mk K C f ∧ Binds K fd ps [] ∧ FnOk P w K mg base CX0 k f fd ps sp
/-- a property of the class at C -/
structure GP (P : Program) (w : World) (K : PySem.W.Frag) (mg : Str → Option Value) (base : Heap) (k : Nat) (C : Addr) (m : Str) (sp : Sp) : Prop where
  ok : ∃ p g fd, PropOf K C m p g ∧ Binds K fd ["self"] [] ∧ FnOk P w K mg base CX0 k g fd ["self"] sp
def FnM (K : PySem.W.Frag) (C : Addr) (m qual : Str) (st : Stmt) : Prop := ∃ f fd, Meth K C m f ∧ FunD K m qual (defArgs st) (defBody st) (defScope st) [] [] f fd
def FnI (K : PySem.W.Frag) (C : Addr) (qual : Str) (st : Stmt) : Prop := ∃ f fd, Mk K C f ∧ FunD K "__init__" qual (defArgs st) (defBody st) (defScope st) [] [] f fd
def FnPr (K : PySem.W.Frag) (C : Addr) (m qual : Str) (st : Stmt) : Prop := ∃ p f fd, PropOf K C m p f ∧ FunD K m qual (defArgs st) (defBody st) (defScope st) [] [] f fd
section
variable {P : Program} {w : World} {K : PySem.W.Frag} {mg : Str → Option Value} {base : Heap}
theorem fnIn_of {x qual : Str} {params : Arguments} {body : List Stmt} {scope : Scope} {dvs : List V} {kws : List (Str × V)} {f : Addr} {fd : FuncData} (F : FunD K x qual params body scope dvs kws f fd) : PySem.W.fnIn K f = true := by
  obtain ⟨oc, od, dV, kV, doc, pm, an, cdv, ct, osl, rfl, lk, _⟩ := F.ex
  unfold PySem.W.fnIn
  rw [lk]
theorem gm_of {C : Addr} {m qual : Str} {st : Stmt} {N ps : List Str} {k : Nat} {sp : Sp} (F : FnM K C m qual st) (S : FnScope N ps (defScope st))
    (hb : ∀ (kV doc pm : Value) (an : Option Addr) (cdv ct : Value) (us : List Value), us.length = ps.length → bindArgs (PySem.W.fnOf m qual (defArgs st) (defBody st) (defScope st) .none kV doc pm an cdv ct) ⟨us, []⟩ = pure (ps.zip us))
    (len : ∀ vs H Q E, sp vs H Q E → vs.length = ps.length)
    (hbody : ∀ (f : Addr) (cdv : Value) (A : Around) (outer : List Env) (s : Shared) (H : Hp) (vs : List V) (Q : VK) (E : XK), Room k (A.deeper (envOfC qual (defScope st) s.heap.objs.size f cdv)) → sp vs H Q E →
      ∃ t, PSs (cxOf CX0 P w K mg base N qual (defScope st) f cdv A outer s H E).nox (defBody st) t ∧ t { nx := fun _ H' => Q .non H', rt := Q } (start N vs) H) : GM P w K mg base (k + 1) C m ps sp := by
  obtain ⟨f, fd, e, F⟩ := F
  refine ⟨f, fd, e, fnIn_of F, F.bindsN hb, F.ok S len fun cdv A outer s H vs Q E hr h => ?_⟩
  obtain ⟨t, h1, h2⟩ := hbody f cdv A outer s H vs Q E hr h
  exact ⟨t, h1.nox, h2⟩
theorem gi_of {C : Addr} {qual : Str} {st : Stmt} {N ps : List Str} {k : Nat} {sp : Sp} (F : FnI K C qual st) (S : FnScope N ps (defScope st))
    (hb : ∀ (kV doc pm : Value) (an : Option Addr) (cdv ct : Value) (us : List Value), us.length = ps.length → bindArgs (PySem.W.fnOf "__init__" qual (defArgs st) (defBody st) (defScope st) .none kV doc pm an cdv ct) ⟨us, []⟩ = pure (ps.zip us))
    (len : ∀ vs H Q E, sp vs H Q E → vs.length = ps.length)
    (hbody : ∀ (f : Addr) (cdv : Value) (A : Around) (outer : List Env) (s : Shared) (H : Hp) (vs : List V) (Q : VK) (E : XK), Room k (A.deeper (envOfC qual (defScope st) s.heap.objs.size f cdv)) → sp vs H Q E →
      ∃ t, PSs (cxOf CX0 P w K mg base N qual (defScope st) f cdv A outer s H E).nox (defBody st) t ∧ t { nx := fun _ H' => Q .non H', rt := Q } (start N vs) H) : GI P w K mg base (k + 1) C ps sp := by
  obtain ⟨f, fd, e, F⟩ := F
  refine ⟨f, fd, e, F.bindsN hb, F.ok S len fun cdv A outer s H vs Q E hr h => ?_⟩
  obtain ⟨t, h1, h2⟩ := hbody f cdv A outer s H vs Q E hr h
  exact ⟨t, h1.nox, h2⟩
theorem gp_of {C : Addr} {m qual : Str} {st : Stmt} {N : List Str} {k : Nat} {sp : Sp} (F : FnPr K C m qual st) (S : FnScope N ["self"] (defScope st))
    (hb : ∀ (kV doc pm : Value) (an : Option Addr) (cdv ct : Value) (us : List Value), us.length = 1 → bindArgs (PySem.W.fnOf m qual (defArgs st) (defBody st) (defScope st) .none kV doc pm an cdv ct) ⟨us, []⟩ = pure ((["self"] : List Str).zip us))
    (len : ∀ vs H Q E, sp vs H Q E → vs.length = 1)
    (hbody : ∀ (f : Addr) (cdv : Value) (A : Around) (outer : List Env) (s : Shared) (H : Hp) (vs : List V) (Q : VK) (E : XK), Room k (A.deeper (envOfC qual (defScope st) s.heap.objs.size f cdv)) → sp vs H Q E →
      ∃ t, PSs (cxOf CX0 P w K mg base N qual (defScope st) f cdv A outer s H E).nox (defBody st) t ∧ t { nx := fun _ H' => Q .non H', rt := Q } (start N vs) H) : GP P w K mg base (k + 1) C m sp := by
  obtain ⟨p, f, fd, e, F⟩ := F
  refine ⟨p, f, fd, e, F.bindsN hb, F.ok S len fun cdv A outer s H vs Q E hr h => ?_⟩
  obtain ⟨t, h1, h2⟩ := hbody f cdv A outer s H vs Q E hr h
  exact ⟨t, h1.nox, h2⟩
theorem ok_of {x qual : Str} {st : Stmt} {f : Addr} {fd : FuncData} {N ps : List Str} {k : Nat} {sp : Sp} (F : FunD K x qual (defArgs st) (defBody st) (defScope st) [] [] f fd) (S : FnScope N ps (defScope st)) (len : ∀ vs H Q E, sp vs H Q E → vs.length = ps.length)
    (hbody : ∀ (cdv : Value) (A : Around) (outer : List Env) (s : Shared) (H : Hp) (vs : List V) (Q : VK) (E : XK), Room k (A.deeper (envOfC qual (defScope st) s.heap.objs.size f cdv)) → sp vs H Q E →
      ∃ t, PSs (cxOf CX0 P w K mg base N qual (defScope st) f cdv A outer s H E).nox (defBody st) t ∧ t { nx := fun _ H' => Q .non H', rt := Q } (start N vs) H) : FnOk P w K mg base CX0 (k + 1) f fd ps sp :=
  F.ok S len fun cdv A outer s H vs Q E hr h => let ⟨t, h1, h2⟩ := hbody cdv A outer s H vs Q E hr h; ⟨t, h1.nox, h2⟩
theorem inV_vn (a : Nat) (ws : List Nat) : inV (vi a) (vn ws) = decide (a ∈ ws) := by
  unfold inV
  rw [List.any_map]
  by_cases h : a ∈ ws
  · rw [decide_eq_true h, List.any_eq_true]
    exact ⟨a, h, by show ((a : Int) == (a : Int)) = true; simp⟩
  · rw [decide_eq_false h, List.any_eq_false]
    intro x hx
    show ¬ ((x : Int) == (a : Int)) = true
    intro q
    have q' : (x : Int) = (a : Int) := by simpa using q
    exact h (by have : x = a := by omega
                rw [← this]; exact hx)
theorem flat_vn (ws : List Nat) : (vn ws).all flatV = true := by
  rw [List.all_map, List.all_eq_true]
  intro x _
  rfl
theorem GM.imp {k : Nat} {C : Addr} {m : Str} {ps : List Str} {sp sp' : Sp} (F : GM P w K mg base k C m ps sp) (h : ∀ vs H Q E, sp' vs H Q E → sp vs H Q E) : GM P w K mg base k C m ps sp' := by
  obtain ⟨f, fd, h1, h2, h3, h4⟩ := F.ok
  exact ⟨f, fd, h1, h2, h3, h4.imp h⟩
theorem GM.mono {j k : Nat} {C : Addr} {m : Str} {ps : List Str} {sp : Sp} (F : GM P w K mg base j C m ps sp) (h : j ≤ k) : GM P w K mg base k C m ps sp := by
  obtain ⟨f, fd, h1, h2, h3, h4⟩ := F.ok
  exact ⟨f, fd, h1, h2, h3, h4.mono h⟩
theorem GI.mono {j k : Nat} {C : Addr} {ps : List Str} {sp : Sp} (F : GI P w K mg base j C ps sp) (h : j ≤ k) : GI P w K mg base k C ps sp := by
  obtain ⟨f, fd, h1, h3, h4⟩ := F.ok
  exact ⟨f, fd, h1, h3, h4.mono h⟩
theorem GP.mono {j k : Nat} {C : Addr} {m : Str} {sp : Sp} (F : GP P w K mg base j C m sp) (h : j ≤ k) : GP P w K mg base k C m sp := by
  obtain ⟨p, f, fd, h1, h3, h4⟩ := F.ok
  exact ⟨p, f, fd, h1, h3, h4.mono h⟩
end
section
variable {X : Cx} {k : Nat} {C : Addr} {x m : Str} {ps : List Str} {sp : Sp} {p pos apos : Pos} {e o : Expr} {es : List Expr} {t : TA} {ta tb : TE}
theorem pe_methG {pl : Sem Bool} (c : Cls X.K C) (F : GM X.prog X.w X.K X.mg X.base k C m ps sp) (hr : Room k X.A) (he : PE X o ta) (ha : PA X (e :: es) t)
    (hst : starEach (e :: es) X.env = (false, eval e X.env) :: starEach es X.env := by rfl) (hpl : (backTo pos (starEach es X.env)).any (·.1) = false := by rfl)
    (ht : eval (.Call (.Attribute o m apos) (e :: es) [] pos) X.env = (do
      let ov ← eval o X.env
      standAt apos.atName
      let (f, first) ← holding [ov] (getMethod ov m pl)
      callWith pos f first (backTo pos (starEach (e :: es) X.env)) (backToKw pos (keywordEach [] X.env))) := by rfl) :
    PE X (.Call (.Attribute o m apos) (e :: es) [] pos) (tMeth C m sp [] E0 ta t) := by
  obtain ⟨f, fd, h1, h2, h3, h4⟩ := F.ok
  exact pe_meth (pl := pl) he c h1 h4 hr h3 .nil pass0 ha hst hpl ht
theorem pe_meth0G {pl : Sem Bool} (c : Cls X.K C) (F : GM X.prog X.w X.K X.mg X.base k C m ps sp) (hr : Room k X.A) (he : PE X o ta)
    (ht : eval (.Call (.Attribute o m apos) [] [] pos) X.env = (do
      let ov ← eval o X.env
      standAt apos.atName
      let (f, first) ← holding [ov] (getMethod ov m pl)
      callWith pos f first (backTo pos (starEach [] X.env)) (backToKw pos (keywordEach [] X.env))) := by rfl) :
    PE X (.Call (.Attribute o m apos) [] [] pos) (tMeth C m sp [] E0 ta tNil) := by
  obtain ⟨f, fd, h1, h2, h3, h4⟩ := F.ok
  exact pe_meth0 (pl := pl) he c h1 h4 hr h3 .nil pass0 ht
theorem pe_makeG (F : GI X.prog X.w X.K X.mg X.base k C ps sp) (hr : Room (k + 1) X.A) (hg : Gl X x) (hm : X.mg x = some (.ref C)) (ha : PA X (e :: es) t) (hdb : (x == ("__debug__" : Str)) = false := by decide)
    (he : starEach (e :: es) X.env = (false, eval e X.env) :: starEach es X.env := by rfl) (hpl : (backTo pos (starEach es X.env)).any (·.1) = false := by rfl) :
    PE X (.Call (.Name x p) (e :: es) [] pos) (tMake C sp [] E0 t) := by
  obtain ⟨f, fd, h1, h3, h4⟩ := F.ok
  exact pe_make h1 h4 hr hg hm h3 .nil pass0 ha hdb he hpl
theorem pe_propG (c : Cls X.K C) (F : GP X.prog X.w X.K X.mg X.base k C m sp) (hr : Room (k + 1) X.A) (he : PE X o ta)
    (hab : attributeBase o m X.env (eval o X.env) = eval o X.env) : PE X (.Attribute o m pos) (tProp C sp [] E0 ta) := by
  obtain ⟨q, f, fd, h1, h3, h4⟩ := F.ok
  exact pe_prop he c h1 h4 hr h3 .nil pass0 hab

/-! ### a def's run, one deeper -/
theorem run_in1 {pins : List (Addr × Obj)} {σ : St} {H : Hp} {s : Shared} {Q : VK} {E' : Value → Shared → Prop} {f : Addr} {fd : FuncData} {us : List Value} {vs : List V} (F : FnOk X.prog X.w X.K X.mg X.base CX0 k f fd ps sp) (hr : Room (k + 1) X.A) (hb : Binds X.K fd ps [])
    (I : Inv X pins σ H s) (r : Vals vs us) (h : sp vs H Q E0) : wpAny (model X.prog X.w) X.A.in1 (call (.ref f) us) (EP X pins σ Q) E' s := by
  have hl : (us ++ []).length = ps.length := by rw [List.append_nil, ← r.length]; exact F.len _ _ _ _ h
  have hb' := hb s us I.kIn hl
  rw [List.append_nil] at hb'
  refine wpAny_call (codeAny_mono (F.run X.A.in1 X.stack s H ⟨us, []⟩ us vs Q E0 hr.in1 I.env0.in1 hb' r h) fun r s' hq => ?_)
  cases r with
  | error e => exact False.elim hq
  | ok fl =>
    cases fl with
    | ret u => exact I.after hq
    | next => exact False.elim hq
    | brk => exact False.elim hq
    | cont => exact False.elim hq
theorem inst_at {pins : List (Addr × Obj)} {σ : St} {H : Hp} {s : Shared} {a dx : Addr} {fs : List (Str × V)} (I : Inv X pins σ H s) (ea : H a = some (.ins C dx fs)) : ∃ od, PySem.W.InstAt s.heap a (PySem.W.instObj C dx) C (some od) := by
  obtain ⟨mA, O, _⟩ := ins_get I.hok ea
  obtain ⟨od, J, _⟩ := O.look
  exact ⟨od, J⟩
/-- x in o, o of an own class -/
def rInOwn (C : Addr) (sp : Sp) (g : Bool → Bool) : R2 := fun x y H Q => ∃ a dx fs, y = .ref a ∧ H a = some (.ins C dx fs) ∧ sp [.ref a, x] H (fun v H2 => ∃ b, v = .bl b ∧ Q (.bl (g b)) H2) E0
theorem op_in_own (F : GM X.prog X.w X.K X.mg X.base k C "__contains__" ps sp) (hr : Room k X.A) : OpR X (compareOp .In) (rInOwn C sp id) := by
  intro pins s σ H x y v u Q I rx ry h
  obtain ⟨a, dx, fs, rfl, ea, q⟩ := h
  obtain rfl : u = Value.ref a := ry
  obtain ⟨f, fd, h1, h2, h3, h4⟩ := F.ok
  obtain ⟨od, J⟩ := inst_at I ea
  obtain ⟨m, Fm⟩ := I.fr
  refine PySem.W.in_K Fm I.mod.kin J h1.at_ h1.fn ?_
  refine thn (run_fn (ds := []) (dvs := []) (vs := [.ref a, x]) h4 hr h3 .nil pass0 I (.cons rfl (.cons rx .nil)) q) fun w' s' ⟨z, H2, I2, rz, b, ez, qb⟩ => ?_
  subst ez
  cases rz
  exact wpAny_truthy_bool ⟨.bl _, H2, I2, rfl, qb⟩
theorem op_notin_own (F : GM X.prog X.w X.K X.mg X.base k C "__contains__" ps sp) (hr : Room k X.A) : OpR X (compareOp .NotIn) (rInOwn C sp fun b => !b) := by
  intro pins s σ H x y v u Q I rx ry h
  obtain ⟨a, dx, fs, rfl, ea, q⟩ := h
  obtain rfl : u = Value.ref a := ry
  obtain ⟨f, fd, h1, h2, h3, h4⟩ := F.ok
  obtain ⟨od, J⟩ := inst_at I ea
  obtain ⟨m, Fm⟩ := I.fr
  refine PySem.W.notIn_K Fm I.mod.kin J h1.at_ h1.fn ?_
  refine thn (run_fn (ds := []) (dvs := []) (vs := [.ref a, x]) h4 hr h3 .nil pass0 I (.cons rfl (.cons rx .nil)) q) fun w' s' ⟨z, H2, I2, rz, b, ez, qb⟩ => ?_
  subst ez
  cases rz
  exact wpAny_truthy_bool ⟨.bl _, H2, I2, rfl, qb⟩
/-- o[i], o of an own class -/
def rSubOwn (C : Addr) (sp : Sp) : R2 := fun x y H Q => ∃ a dx fs, x = .ref a ∧ H a = some (.ins C dx fs) ∧ sp [.ref a, y] H Q E0
theorem pe_own_sub (F : GM X.prog X.w X.K X.mg X.base k C "__getitem__" ps sp) (hr : Room (k + 1) X.A) (ha : PE X o ta) (hb : PE X e tb)
    (hsl : ∀ x i, subscripted e true (.ref x) i = runValue (.builtin "lifetime.subscript" ⟨[.ref x, i], []⟩) := by intro _ _; with_unfolding_all rfl) : PE X (.Subscript o e pos) (tOp (rSubOwn C sp) ta tb) := by
  refine ⟨fun pins s σ H Q I h => ?_⟩
  refine Subscript_ (binT ha hb I h fun v u s2 x y H2 I2 rx ry q => ?_)
  obtain ⟨a, dx, fs, rfl, ea, q⟩ := q
  obtain rfl : v = Value.ref a := rx
  obtain ⟨f, fd, h1, h2, h3, h4⟩ := F.ok
  obtain ⟨od, J⟩ := inst_at I2 ea
  obtain ⟨m, Fm⟩ := I2.fr
  exact PySem.W.sub_K Fm I2.mod.kin J h1.at_ h2 h1.fn (run_in1 (vs := [.ref a, y]) h4 hr h3 I2 (.cons rfl (.cons ry .nil)) q) (hsl _ _)
/-- len(o), o of an own class -/
def rLenOwn (C : Addr) (sp : Sp) : List V → Hp → VK → Prop := fun xs H Q => ∃ a dx fs, xs = [.ref a] ∧ H a = some (.ins C dx fs) ∧ sp [.ref a] H (fun v H2 => ∃ n : Nat, v = vi n ∧ n < 2 ^ 62 ∧ Q (vi n) H2) E0
theorem call_len_own (F : GM X.prog X.w X.K X.mg X.base k C "__len__" ps sp) (hr : Room (k + 1) X.A) : CallR X (.builtin "len") (rLenOwn C sp) := by
  intro pins s σ H xs us Q I r h
  obtain ⟨a, dx, fs, rfl, ea, q⟩ := h
  obtain ⟨u, rfl, rx⟩ := vals1 r
  obtain rfl : u = Value.ref a := rx
  obtain ⟨f, fd, h1, h2, h3, h4⟩ := F.ok
  obtain ⟨od, J⟩ := inst_at I ea
  obtain ⟨m, Fm⟩ := I.fr
  refine PySem.W.len_K Fm I.mod.kin J h1.at_ h1.fn ?_
  refine thn (run_in1 (vs := [.ref a]) h4 hr h3 I (.cons rfl .nil) q) fun w' s' ⟨z, H2, I2, rz, n, ez, hn, qn⟩ => ?_
  subst ez
  obtain ⟨t, rfl⟩ := rz
  exact ⟨⟨by omega, by omega⟩, vi n, H2, I2.tok _, ⟨_, rfl⟩, qn⟩

/-! ### the written part by its own name (a block's context hides it) -/
variable {K : PySem.W.Frag} {tg : Expr} {tl : TE}
theorem pi_listK (hK : X.K = K) (h : PE X e tl) : PI X tg e (iList K tl) := by subst hK; exact pi_list h
theorem pi_tupK (hK : X.K = K) (h : PE X e tl) : PI X tg e (iTup K tl) := by subst hK; exact pi_tup h
theorem pi_enumK {tpos : Pos} {elts : List Expr} {kk : Nat} (hK : X.K = K) (hg : Gl X "enumerate") (hm : X.mg "enumerate" = none) (ha : PA X [e] t) (hs : starEach [e] X.env = [(false, eval e X.env)] := by rfl) :
    PI X (.Tuple elts kk tpos) (.Call (.Name "enumerate" p) [e] [] pos) (iEnum K t) := by subst hK; exact pi_enum hg hm ha hs
theorem pe_fldK {f : Str} (hK : X.K = K) (he : PE X e ta) (hb : attributeBase e f X.env (eval e X.env) = eval e X.env) : PE X (.Attribute e f pos) (tFld K ta f) := by subst hK; exact pe_fld he hb
theorem ix_listK (hK : X.K = K) : IxR X (rIxL K) := by subst hK; exact ix_list
theorem ix_tupK (hK : X.K = K) : IxR X (rIxT K) := by subst hK; exact ix_tup
theorem op_in_seqK (hK : X.K = K) : OpR X (compareOp .In) (rIn K false) := by subst hK; exact op_in_seq
theorem op_notIn_seqK (hK : X.K = K) : OpR X (compareOp .NotIn) (rIn K true) := by subst hK; exact op_notIn_seq
theorem op_eqDK (hK : X.K = K) (hu : X.A.units + 64 < cLine) : OpR X (compareOp .Eq) (rEqD K) := by subst hK; exact op_eqD hu
theorem op_neDK (hK : X.K = K) (hu : X.A.units + 64 < cLine) : OpR X (compareOp .NotEq) (rNeD K) := by subst hK; exact op_neD hu
theorem op_inDK (hK : X.K = K) (hu : X.A.units + 65 < cLine) : OpR X (compareOp .In) (rInD K) := by subst hK; exact op_inD hu
theorem op_notInDK (hK : X.K = K) (hu : X.A.units + 65 < cLine) : OpR X (compareOp .NotIn) (rNotInD K) := by subst hK; exact op_notInD hu
theorem call_len_seqK (hK : X.K = K) : CallR X (.builtin "len") (fun xs H Q => ∃ p ys, xs = [.ref p] ∧ (SqL K H p ys ∨ SqT K H p ys) ∧ Q (.int ys.length) H) := by subst hK; exact call_len_seq
theorem call_tuple_ofK (hK : X.K = K) : CallR X (.type "tuple") (fun xs H Q => ∃ p ys, xs = [.ref p] ∧ ((SqL K H p ys ∧ ∀ l, H l = none → Q (.ref l) (upd H l (.tup ys))) ∨ (SqT K H p ys ∧ Q (.ref p) H))) := by subst hK; exact call_tuple_of
theorem call_list_ofK (hK : X.K = K) : CallR X (.type "list") (fun xs H Q => ∃ p ys, xs = [.ref p] ∧ (SqL K H p ys ∨ SqT K H p ys) ∧ ∀ l, H l = none → Q (.ref l) (upd H l (.lst ys))) := by subst hK; exact call_list_of
theorem sl_listK (hK : X.K = K) : SlR X (rSlL K) := by subst hK; exact sl_list
theorem call_isiX (hK : X.K = K) : CallR X (.builtin "isinstance") (rIsi K) := by subst hK; exact call_isi
theorem cr_sortedSK (hK : X.K = K) : CallR X (.builtin "sorted") (rSortedS K) := by subst hK; exact cr_sortedS
end
end Mm

set_option maxHeartbeats 4000000
namespace Mm
open PySem PySem.Spec L2 MM
open PyProof.Rows hiding St
section
variable {P : Program} {w : World} {K : PySem.W.Frag} {mg : Str → Option Value} {base : Heap}

/-! ### bits -/
abbrev s_bits : Stmt := (top 14)
abbrev N_bits : List Str := ["mask", "found", "place"]
theorem sc_bits : FnScope N_bits ["mask"] (defScope s_bits) := ⟨rfl, rfl, rfl, by decide +kernel, rfl, by decide +kernel, by decide +kernel⟩
def sp_bits : Sp := fun vs H Q _ => ∃ m : Nat, vs = [vi m] ∧ m < 2 ^ 6 ∧ ∀ l H', Same H H' → H l = none → H' l = some (.lst (vn (bitsM m))) → Q (.ref l) H'
theorem and_one (m : Nat) : Builtin.bitAnd (m : Int) 1 = ((m % 2 : Nat) : Int) := by
  rw [PyProof.Rows.bitAnd_pp (by omega) (by omega)]
  simp [Nat.and_one_is_mod]
theorem bitsL_le (m p : Nat) (hp : p ≤ 6) : ((List.range p).filter fun i => m.testBit i).length ≤ 6 := Nat.le_trans (List.length_filter_le _ _) (by rw [List.length_range]; exact hp)
theorem g_bits (F : Fn K mg "bits" s_bits) : G P w K mg base 1 "bits" ["mask"] sp_bits := by
  refine g_of F sc_bits (fun _ _ _ _ _ _ us hl => match us, hl with | [_], _ => rfl) (fun vs H Q E h => ?_) (fun f cdv A outer s H vs Q E hr h => ?_)
  · obtain ⟨m, rfl, _⟩ := h
    rfl
  · obtain ⟨m, rfl, hm, k⟩ := h
    refine ⟨_, (pss_cons (ps_set (i := 1) sc_bits.nd rfl (Or.inl rfl) (pe_lst pa_nil))
      (pss_cons (ps_set (i := 2) sc_bits.nd rfl (Or.inl rfl) pe_int)
      (pss_cons (ps_while PassesOwn.never (pt_cmpR op_gt (pv 0) pe_int (nomark _)) (pss_cons (ps_if (pt_cmpR op_eq (pe_op op_and (pv 0) pe_int) pe_int (nomark _)) (pss_one (ps_expr (pe_bm PySem.F.plainAttrs_list PySem.F.slot_list_append PySem.F.type_list_append mt_append (pv 1) (pa_cons (pv 2) pa_nil)))) pss_nil)
      (pss_cons (ps_set (i := 0) sc_bits.nd rfl (Or.inl rfl) (pe_op op_shr (pv 0) pe_int))
      (pss_one (ps_set (i := 2) sc_bits.nd rfl (Or.inl rfl) (pe_op op_add (pv 2) pe_int))))))
      (pss_one (ps_ret (pv 1)))))), ?_⟩
    refine ⟨Nat.zero_le _, fun l hl => ?_⟩
    refine while_w (fun n σ H' => ∃ p : Nat, p ≤ 6 ∧ n = 6 - p ∧ σ = [some (vi (m >>> p)), some (.ref l), some (vi p)] ∧ Same H H' ∧ H' l = some (.lst (vn ((List.range p).filter fun i => m.testBit i))))
      6 ⟨0, by decide, rfl, rfl, same_new hl, upd_same⟩ ?_ ?_
    · rintro n σ H' ⟨p, hp, rfl, rfl, sm, hL⟩ N hN
      refine ⟨_, rfl, _, _, rfl, rfl, _, rfl, ?_⟩
      refine iteD (fun c => ?_) (fun c => ?_)
      · have c0 : 0 < m >>> p := Int.ofNat_lt.mp c
        have p6 : p < 6 := by
          apply Decidable.byContradiction
          intro z
          have : m >>> p = 0 := by rw [Nat.shiftRight_eq_div_pow]; exact Nat.div_eq_of_lt (Nat.lt_of_lt_of_le hm (Nat.pow_le_pow_right (by decide) (by omega)))
          omega
        have hb : m.testBit p = decide ((m >>> p) % 2 = 1) := by
          rw [← Nat.testBit_zero, Nat.testBit_shiftRight]
          rfl
        have e2 : vi (m >>> (p + 1)) = V.int (((m >>> p : Nat) : Int) / 2 ^ (1 : Int).toNat) := by
          rw [Nat.shiftRight_succ]
          show V.int _ = V.int _
          congr 1
        have e3 : vi (p + 1) = V.int ((p : Int) + 1) := by show V.int _ = V.int _; congr 1
        refine ⟨_, rfl, _, _, rfl, rfl, rfl, _, rfl, ?_⟩
        refine iteI (fun c1 => ?_) (fun c1 => ?_) <;> rw [and_one] at c1
        · have c1' : (m >>> p) % 2 = 1 := by omega
          refine ⟨_, rfl, .inl ⟨rfl, _, SqL.of hL⟩, _, rfl, l, _, _, rfl, rfl, hL, ?_, ?_⟩
          · rw [List.length_map]; exact small_of (bitsL_le m p hp)
          refine ⟨_, rfl, _, _, rfl, rfl, (show (0 : Int) ≤ 1 by decide), _, rfl, _, _, rfl, rfl, ?_⟩
          refine hN (6 - (p + 1)) _ _ (by omega) ⟨p + 1, p6, rfl, ?_, same_upd sm hl, ?_⟩
          · rw [e2, e3]; rfl
          · rw [upd_same, bits_turn, hb, c1']
            simp [vn]
        · have c1' : ¬ (m >>> p) % 2 = 1 := by omega
          refine ⟨_, rfl, _, _, rfl, rfl, (show (0 : Int) ≤ 1 by decide), _, rfl, _, _, rfl, rfl, ?_⟩
          refine hN (6 - (p + 1)) _ _ (by omega) ⟨p + 1, p6, rfl, ?_, sm, ?_⟩
          · rw [e2, e3]; rfl
          · rw [hL, bits_turn, hb]
            simp [c1']
      · have c0 : m >>> p = 0 := Nat.eq_zero_of_not_pos fun z => c (Int.ofNat_lt.mpr z)
        refine ⟨_, rfl, ?_⟩
        refine k l H' sm hl ?_
        rw [hL, bits_stop c0 hm]
    · intro σ H1 Q1 Q2 hq
      rintro ⟨v, e, i, j, e1, e2, k2, e3, q⟩
      exact ⟨v, e, i, j, e1, e2, k2, e3, hq _ _ q⟩

/-! ### mask_of, masks_of -/
abbrev s_mask_of : Stmt := (top 15)
abbrev N_mask_of : List Str := ["words", "mask", "word"]
theorem sc_mask_of : FnScope N_mask_of ["words"] (defScope s_mask_of) := ⟨rfl, rfl, rfl, by decide +kernel, rfl, by decide +kernel, by decide +kernel⟩
theorem or_nat (a b : Nat) : Builtin.bitOr (a : Int) (b : Int) = ((a ||| b : Nat) : Int) := by
  rw [PyProof.Rows.bitOr_and, PyProof.Rows.bitAnd_pp (by omega) (by omega)]
  have := PyProof.Rows.nat_or_add_and a b
  simp only [Int.toNat_natCast]
  omega
def sp_mask_of (K : PySem.W.Frag) : Sp := fun vs H Q _ => ∃ (a : Addr) (ws : List Nat), vs = [.ref a] ∧ SqL K H a (vn ws) ∧ (∀ x ∈ ws, x < 6) ∧ Q (vi (maskOf ws)) H
theorem g_mask_of (F : Fn K mg "mask_of" s_mask_of) : G P w K mg base 1 "mask_of" ["words"] (sp_mask_of K) := by
  refine g_of F sc_mask_of (fun _ _ _ _ _ _ us hl => match us, hl with | [_], _ => rfl) (fun vs H Q E h => ?_) (fun f cdv A outer s H vs Q E hr h => ?_)
  · obtain ⟨a, ws, rfl, _⟩ := h
    rfl
  · obtain ⟨a, ws, rfl, hS, hw, k⟩ := h
    refine ⟨_, (pss_cons (ps_set (i := 1) sc_mask_of.nd rfl (Or.inl rfl) pe_int)
      (pss_cons (ps_for PassesOwn.never rfl (pi_listK (K := K) rfl (pv 0)) (pg_name (i := 2) sc_mask_of.nd rfl (Or.inl rfl)) (pss_one (ps_set (i := 1) sc_mask_of.nd rfl (Or.inl rfl) (pe_op op_or (pv 1) (pe_op op_shl pe_int (pv 2))))))
      (pss_one (ps_ret (pv 1))))), ?_⟩
    refine ⟨_, rfl, a, rfl, ⟨_, hS⟩, for_list_w (K := K) (a := a) (xs := vn ws) (fun i σ H' => ∃ v, H' = H ∧ σ = [some (.ref a), some (vi (maskOf (ws.take i))), v]) ⟨_, rfl, rfl⟩ (fun i σ H' _ ⟨_, e, _⟩ => by rw [e]; exact hS) ?_ ?_⟩
    · rintro i x σ H' hx ⟨v, rfl, rfl⟩ N hN
      obtain ⟨n, hn, rfl⟩ := vn_get hx
      have hn6 := hw n (List.mem_of_getElem? hn)
      refine ⟨_, rfl, _, rfl, _, _, rfl, rfl, ⟨by omega, by omega, by decide⟩, _, _, rfl, rfl, ?_⟩
      refine hN _ _ ⟨some (vi n), rfl, ?_⟩
      have e : vi (maskOf (ws.take (i + 1))) = V.int (Builtin.bitOr (maskOf (ws.take i) : Nat) (1 * 2 ^ ((n : Nat) : Int).toNat)) := by
        rw [take_get hn, maskOf_snoc, vi, ← or_nat, Int.one_mul]
        simp
      rw [e]
      rfl
    · rintro σ H' ⟨v, rfl, rfl⟩
      refine ⟨_, rfl, ?_⟩
      rw [take_all (by rw [List.length_map])]
      exact k
abbrev s_masks_of : Stmt := (top 16)
abbrev N_masks_of : List Str := ["rows", "row"]
theorem sc_masks_of : FnScope N_masks_of ["rows"] (defScope s_masks_of) := ⟨rfl, rfl, rfl, by decide +kernel, rfl, by decide +kernel, by decide +kernel⟩
def sp_masks_of (K : PySem.W.Frag) : Sp := fun vs H Q _ => ∃ (a : Addr) (rows : List (List Nat)), vs = [.ref a] ∧ RowsAt K H a rows ∧ rows.length ≤ 1000 ∧ (∀ r ∈ rows, ∀ x ∈ r, x < 6) ∧ ∀ m H', Same H H' → H m = none → H' m = some (.tup (vn (rows.map maskOf))) → Q (.ref m) H'
theorem g_masks_of (F : Fn K mg "masks_of" s_masks_of) (B : Blt mg) (G_mask_of : G P w K mg base 1 "mask_of" ["words"] (sp_mask_of K)) : G P w K mg base 2 "masks_of" ["rows"] (sp_masks_of K) := by
  refine g_of F sc_masks_of (fun _ _ _ _ _ _ us hl => match us, hl with | [_], _ => rfl) (fun vs H Q E h => ?_) (fun f cdv A outer s H vs Q E hr h => ?_)
  · obtain ⟨a, rows, rfl, _⟩ := h
    rfl
  · obtain ⟨a, rows, rfl, ⟨as, hS, hP⟩, hlen, hw, k⟩ := h
    refine ⟨_, (pss_one (ps_ret (pe_callTy (call_tuple_ofK (K := K) rfl) (by rfl) B.b_tuple (by decide +kernel) (pa_cons (pe_lc (own := [("row", 1)]) rfl sc_masks_of.nd (pi_listK (K := K) rfl (pv 0)) (blkOk_by (N := N_masks_of) (sc := defScope s_masks_of) (by decide +kernel)) (fun _ _ _ _ _ => (pg_name (i := 1) sc_masks_of.nd rfl (Or.inl rfl))) (fun _ _ _ _ _ => pts_nil) (fun _ _ _ _ _ => (pe_g G_mask_of (hr.mono (by decide)) (by rfl) (pa_cons (pv 1) pa_nil)))) pa_nil)))), ?_⟩
    refine ⟨_, rfl, a, rfl, ⟨_, hS⟩, fun D hD => lc_list_w (K := K) (a := a) (xs := as.map V.ref) (fun i H' => LB H D H' (vn ((rows.take i).map maskOf))) (LB.start hD) (fun i H' _ L => L.sm.seq hS) ?_ ?_⟩
    · rintro i x H' hx L N hN
      obtain ⟨p, hp, rfl⟩ := refs_get hx
      obtain ⟨r, hr', hR⟩ := paired_get hP hp
      refine ⟨rfl, ?_⟩
      refine ⟨_, rfl, p, r, rfl, L.sm.seq hR, hw r (List.mem_of_getElem? hr'), _, L.at_, ?_, hN _ ?_⟩
      · rw [List.length_map, List.length_map, List.length_take]; exact small_of (Nat.le_trans (Nat.min_le_right _ _) hlen)
      · have := L.snoc (vi (maskOf r))
        rw [take_get hr', List.map_append, vn_app]
        exact this
    · intro H' L
      have el : as.length = rows.length := Paired.length hP
      refine ⟨D, _, rfl, .inl ⟨SqL.of L.at_, fun m hm => ?_⟩⟩
      refine k m _ (same_upd L.sm (L.sm.free hm)) (L.sm.free hm) ?_
      rw [upd_same, take_all (by rw [List.length_map, el])]

/-! ### checks -/
abbrev s_check_size : Stmt := (top 24)
abbrev N_check_size : List Str := ["size"]
theorem sc_check_size : FnScope N_check_size ["size"] (defScope s_check_size) := ⟨rfl, rfl, rfl, by decide +kernel, rfl, by decide +kernel, by decide +kernel⟩
def sp_check_size : Sp := fun vs H Q _ => ∃ n : Nat, vs = [vi n] ∧ 1 ≤ n ∧ n ≤ 6 ∧ Q .non H
theorem g_check_size (F : Fn K mg "check_size" s_check_size) (B : Blt mg) : G P w K mg base 1 "check_size" ["size"] sp_check_size := by
  refine g_of F sc_check_size (fun _ _ _ _ _ _ us hl => match us, hl with | [_], _ => rfl) (fun vs H Q E h => ?_) (fun f cdv A outer s H vs Q E hr h => ?_)
  · obtain ⟨n, rfl, _⟩ := h
    rfl
  · obtain ⟨n, rfl, h1, h6, k⟩ := h
    refine ⟨_, (pss_one (ps_if (PW.pt (pw_or (pt_cmpR op_lt (pv 0) pe_int (nomark _)) (pw_or1 (pt_cmpR op_gt (pv 0) (pe_gint rfl B.k_GREATEST_SIZE) (nomark _))))) (pss_one ps_never) pss_nil)), ?_⟩
    refine ⟨_, rfl, _, _, rfl, rfl, _, rfl, iteD (fun c => absurd c (by omega)) fun _ => ⟨_, rfl, _, _, rfl, rfl, _, rfl, iteD (fun c => absurd c (by omega)) fun _ => k⟩⟩
abbrev s_check_word : Stmt := (top 25)
abbrev N_check_word : List Str := ["size", "word"]
theorem sc_check_word : FnScope N_check_word ["size", "word"] (defScope s_check_word) := ⟨rfl, rfl, rfl, by decide +kernel, rfl, by decide +kernel, by decide +kernel⟩
def sp_check_word : Sp := fun vs H Q _ => ∃ n x : Nat, vs = [vi n, vi x] ∧ x < n ∧ Q .non H
theorem g_check_word (F : Fn K mg "check_word" s_check_word) : G P w K mg base 1 "check_word" ["size", "word"] sp_check_word := by
  refine g_of F sc_check_word (fun _ _ _ _ _ _ us hl => match us, hl with | [_, _], _ => rfl) (fun vs H Q E h => ?_) (fun f cdv A outer s H vs Q E hr h => ?_)
  · obtain ⟨n, x, rfl, _⟩ := h
    rfl
  · obtain ⟨n, x, rfl, h1, k⟩ := h
    refine ⟨_, (pss_one (ps_if (PW.pt (pw_or (pt_cmpR op_lt (pv 1) pe_int (nomark _)) (pw_or1 (pt_cmpR op_ge (pv 1) (pv 0) (nomark _))))) (pss_one ps_never) pss_nil)), ?_⟩
    refine ⟨_, rfl, _, _, rfl, rfl, _, rfl, iteD (fun c => absurd c (by omega)) fun _ => ⟨_, rfl, _, rfl, _, _, rfl, rfl, _, rfl, iteD (fun c => absurd c (by omega)) fun _ => k⟩⟩
abbrev s_check_words : Stmt := (top 26)
abbrev N_check_words : List Str := ["size", "words", "word"]
theorem sc_check_words : FnScope N_check_words ["size", "words"] (defScope s_check_words) := ⟨rfl, rfl, rfl, by decide +kernel, rfl, by decide +kernel, by decide +kernel⟩
def sp_check_words (K : PySem.W.Frag) : Sp := fun vs H Q _ => ∃ (n : Nat) (a : Addr) (ws : List Nat), vs = [vi n, .ref a] ∧ SqL K H a (vn ws) ∧ (∀ x ∈ ws, x < n) ∧ Q .non H
theorem g_check_words (F : Fn K mg "check_words" s_check_words) (G_check_word : G P w K mg base 1 "check_word" ["size", "word"] sp_check_word) : G P w K mg base 2 "check_words" ["size", "words"] (sp_check_words K) := by
  refine g_of F sc_check_words (fun _ _ _ _ _ _ us hl => match us, hl with | [_, _], _ => rfl) (fun vs H Q E h => ?_) (fun f cdv A outer s H vs Q E hr h => ?_)
  · obtain ⟨n, a, ws, rfl, _⟩ := h
    rfl
  · obtain ⟨n, a, ws, rfl, hS, hw, k⟩ := h
    refine ⟨_, (pss_one (ps_for PassesOwn.never rfl (pi_listK (K := K) rfl (pv 1)) (pg_name (i := 2) sc_check_words.nd rfl (Or.inl rfl)) (pss_one (ps_expr (pe_g G_check_word (hr.mono (by decide)) (by rfl) (pa_cons (pv 0) (pa_cons (pv 2) pa_nil))))))), ?_⟩
    refine ⟨_, rfl, a, rfl, ⟨_, hS⟩, for_list_w (K := K) (a := a) (xs := vn ws) (fun i σ H' => ∃ v, H' = H ∧ σ = [some (vi n), some (.ref a), v]) ⟨_, rfl, rfl⟩ (fun i σ H' _ ⟨_, e, _⟩ => by rw [e]; exact hS) ?_ ?_⟩
    · rintro i x σ H' hx ⟨v, rfl, rfl⟩ N hN
      obtain ⟨m, hm, rfl⟩ := vn_get hx
      exact ⟨_, rfl, _, rfl, n, m, rfl, hw m (List.mem_of_getElem? hm), hN _ _ ⟨_, rfl, rfl⟩⟩
    · rintro σ H' ⟨v, rfl, rfl⟩
      exact k
abbrev s_check_sizes : Stmt := (top 27)
abbrev N_check_sizes : List Str := ["first", "second"]
theorem sc_check_sizes : FnScope N_check_sizes ["first", "second"] (defScope s_check_sizes) := ⟨rfl, rfl, rfl, by decide +kernel, rfl, by decide +kernel, by decide +kernel⟩
def sp_check_sizes : Sp := fun vs H Q _ => ∃ n : Nat, vs = [vi n, vi n] ∧ Q .non H
theorem g_check_sizes (F : Fn K mg "check_sizes" s_check_sizes) : G P w K mg base 1 "check_sizes" ["first", "second"] sp_check_sizes := by
  refine g_of F sc_check_sizes (fun _ _ _ _ _ _ us hl => match us, hl with | [_, _], _ => rfl) (fun vs H Q E h => ?_) (fun f cdv A outer s H vs Q E hr h => ?_)
  · obtain ⟨n, rfl, _⟩ := h
    rfl
  · obtain ⟨n, rfl, k⟩ := h
    refine ⟨_, (pss_one (ps_if (pt_cmpR op_ne (pv 0) (pv 1) (nomark _)) (pss_one ps_never) pss_nil)), ?_⟩
    exact ⟨_, rfl, _, rfl, rfl, _, rfl, iteIn (fun c => absurd rfl c) fun _ => k⟩
end
end Mm

set_option maxHeartbeats 4000000
/-! tables -/
namespace Mm
open PySem PySem.Spec L2 MM
open PyProof.Rows hiding St
def tabFs (n : Nat) (m cc : Addr) : List (Str × V) := [("size", vi n), ("masks", .ref m), ("cells", .ref cc)]
/-- at t a table of these masks -/
def TabAt (C : Addr) (H : Hp) (t : Addr) (ms : List Nat) : Prop := ∃ dx m cc, H t = some (.ins C dx (tabFs ms.length m cc)) ∧ H m = some (.tup (vn ms))
theorem TabAt.same {C : Addr} {H H' : Hp} {t : Addr} {ms : List Nat} (h : TabAt C H t ms) (s : Same H H') : TabAt C H' t ms := by
  obtain ⟨dx, m, cc, h1, h2⟩ := h
  exact ⟨dx, m, cc, s _ _ h1, s _ _ h2⟩
structure TabC (K : PySem.W.Frag) (mg : Str → Option Value) (C : Addr) : Prop where
  cl : Cls K C
  mgC : mg "Table" = some (.ref C)
  nSize : NoAttr K C "size"
  nMasks : NoAttr K C "masks"
  nCells : NoAttr K C "cells"
/-- rows of words of a size from 1 to 6 -/
structure RowsOk (rows : List (List Nat)) : Prop where
  n1 : 1 ≤ rows.length
  n6 : rows.length ≤ 6
  lt : ∀ r ∈ rows, ∀ x ∈ r, x < rows.length
section
variable {P : Program} {w : World} {K : PySem.W.Frag} {mg : Str → Option Value} {base : Heap}
abbrev s_Table_init : Stmt := (inClass (top 30) 1)
abbrev N_Table_init : List Str := ["self", "rows", "at", "row", "word", "told", "out"]
theorem sc_Table_init : FnScope N_Table_init ["self", "rows"] (defScope s_Table_init) := ⟨rfl, rfl, rfl, by decide +kernel, rfl, by decide +kernel, by decide +kernel⟩
def sp_Table_init (K : PySem.W.Frag) (C : Addr) : Sp := fun vs H Q _ => ∃ (H0 : Hp) (x dx a : Addr) (rows : List (List Nat)), vs = [.ref x, .ref a] ∧ Same H0 H ∧ H0 x = none ∧ H x = some (.ins C dx []) ∧ RowsAt K H0 a rows ∧ RowsOk rows ∧
  ∀ H', Same H0 H' → TabAt C H' x (rows.map maskOf) → Q .non H'
theorem g_Table_init {C : Addr} (F : FnI K C "Table.__init__" s_Table_init) (Tc : TabC K mg C) (B : Blt mg) (G_check_size : G P w K mg base 1 "check_size" ["size"] sp_check_size)
    (G_masks_of : G P w K mg base 2 "masks_of" ["rows"] (sp_masks_of K)) (G_bits : G P w K mg base 1 "bits" ["mask"] sp_bits) : GI P w K mg base 3 C ["self", "rows"] (sp_Table_init K C) := by
  refine gi_of F sc_Table_init (fun _ _ _ _ _ _ us hl => match us, hl with | [_, _], _ => rfl) (fun vs H Q E h => ?_) (fun f cdv A outer s H vs Q E hr h => ?_)
  · obtain ⟨H0, x, dx, a, rows, rfl, _⟩ := h
    rfl
  · obtain ⟨H0, x, dx, a, rows, rfl, s0, nx, hx, hR, ok, k⟩ := h
    obtain ⟨as, hS0, hP0⟩ := id hR
    have hS := s0.seq hS0
    have hP := paired_map hP0 fun _ _ q => s0.seq q
    have el : as.length = rows.length := Paired.length hP
    have n1 := ok.n1
    have n6 := ok.n6
    refine ⟨_, (pss_cons (ps_expr (pe_g G_check_size (hr.mono (by decide)) (by rfl) (pa_cons (pe_callB (call_len_seqK (K := K) rfl) (by rfl) B.b_len PySem.boot_len (pa_cons (pv 1) pa_nil)) pa_nil)))
      (pss_cons (ps_for PassesOwn.never rfl (pi_enumK (K := K) rfl (by rfl) B.b_enumerate (pa_cons (pv 1) pa_nil)) (pg_tup rfl (pgs_cons (pg_name (i := 2) sc_Table_init.nd rfl (Or.inl rfl)) (pgs_cons (pg_name (i := 3) sc_Table_init.nd rfl (Or.inl rfl)) pgs_nil))) (pss_one (ps_for PassesOwn.never rfl (pi_listK (K := K) rfl (pv 3)) (pg_name (i := 4) sc_Table_init.nd rfl (Or.inl rfl)) (pss_one (ps_if (PW.pt (pw_or (pt_cmpR op_lt (pv 4) pe_int (nomark _)) (pw_or1 (pt_cmpR op_ge (pv 4) (pe_callB (call_len_seqK (K := K) rfl) (by rfl) B.b_len PySem.boot_len (pa_cons (pv 1) pa_nil)) (nomark _))))) (pss_one ps_never) pss_nil)))))
      (pss_cons (ps_fld (pv 0) (pe_callB (call_len_seqK (K := K) rfl) (by rfl) B.b_len PySem.boot_len (pa_cons (pv 1) pa_nil)) rfl)
      (pss_cons (ps_fld (pv 0) (pe_g G_masks_of (hr.mono (by decide)) (by rfl) (pa_cons (pv 1) pa_nil)) rfl)
      (pss_one (ps_fld (pv 0) (pe_callTy (call_tuple_ofK (K := K) rfl) (by rfl) B.b_tuple (by decide +kernel) (pa_cons (pe_lc2 (own := [("told", 5), ("out", 6)]) rfl sc_Table_init.nd (pi_range1 rfl B.b_range (pa_cons (pe_callB (call_len_seqK (K := K) rfl) (by rfl) B.b_len PySem.boot_len (pa_cons (pv 1) pa_nil)) pa_nil)) (blkOk_by (N := N_Table_init) (sc := defScope s_Table_init) (by decide +kernel)) (vs1 := [6]) (by decide) (fun _ _ _ _ _ => (pg_name (i := 5) sc_Table_init.nd rfl (Or.inl rfl))) (fun _ _ _ _ _ => pts_nil) (fun _ _ _ _ _ => (pi_listK (K := K) rfl (pe_g G_bits (hr.mono (by decide)) (by rfl) (pa_cons (pe_ix (ix_tupK (K := K) rfl) (pe_fldK (K := K) rfl (pv 0) rfl) (pv 5) (fun _ _ => rfl)) pa_nil)))) (fun _ _ _ _ _ => (pg_name (i := 6) sc_Table_init.nd rfl (Or.inl rfl))) (fun _ _ _ _ _ => pts_nil) (fun _ _ _ _ _ => (pe_tup (pa_cons (pv 5) (pa_cons (pv 6) pa_nil))))) pa_nil)) rfl)))))), ?_⟩
    -- check_size(len(rows))
    refine ⟨_, rfl, a, _, rfl, .inl hS, rows.length, by rw [List.length_map, el]; rfl, n1, n6, ?_⟩
    -- for at, row in enumerate(rows)
    refine ⟨_, rfl, a, _, rfl, hS, for_w walk_enum (fun i σ H' => ∃ v1 v2 v3, σ = [some (.ref x), some (.ref a), v1, v2, v3, none, none] ∧ Same H H') ⟨_, _, _, rfl, Same.refl H⟩ (fun i σ H' _ ⟨_, _, _, _, sm⟩ => sm.seq hS) ?_ ?_⟩
    · rintro i y σ H1 H2 hi ⟨v1, v2, v3, rfl, sm⟩ ⟨T, y1, y2, rfl, hT, rfl, e1, e2⟩ N hN
      obtain ⟨p, hp, rfl⟩ := refs_get e2
      obtain ⟨r, hr', hR'⟩ := paired_get hP hp
      have s2 : Same H (upd H1 T (.tup [y1, .ref p])) := sm.trans (same_new hT)
      refine ⟨T, _, rfl, SqT.of upd_same, rfl, _, _, rfl, _, _, rfl, rfl, ?_⟩
      refine ⟨_, rfl, p, rfl, ⟨_, s2.seq hR'⟩, for_list_w (K := K) (a := p) (xs := vn r) (fun j σ H' => ∃ v3, σ = [some (.ref x), some (.ref a), some y1, some (.ref p), v3, none, none] ∧ Same H H') ⟨_, rfl, s2⟩ (fun j σ H' _ ⟨_, _, sm⟩ => sm.seq hR') ?_ ?_⟩
      · rintro j z σ H' hz ⟨v3, rfl, sm⟩ N2 hN2
        obtain ⟨n, hn, rfl⟩ := vn_get hz
        have hlt := ok.lt r (List.mem_of_getElem? hr') n (List.mem_of_getElem? hn)
        refine ⟨_, rfl, _, _, rfl, rfl, _, rfl, iteD (fun c => absurd c (by omega)) fun _ => ⟨_, rfl, _, rfl, a, _, rfl, .inl (sm.seq hS), _, _, rfl, rfl, _, rfl, iteD (fun c => absurd c ?_) fun _ => ?_⟩⟩
        · rw [List.length_map, el]; omega
        · exact hN2 _ _ ⟨_, rfl, sm⟩
      · rintro σ H' ⟨v3, rfl, sm⟩
        exact hN _ _ ⟨_, _, _, rfl, sm⟩
    · rintro σ H' ⟨v1, v2, v3, rfl, sm⟩
      have sx : H' x = some (.ins C dx []) := sm _ _ hx
      have s1 : Same H0 H' := s0.trans sm
      -- self.size = len(rows)
      refine ⟨_, rfl, a, _, rfl, .inl (sm.seq hS), _, rfl, x, C, dx, _, rfl, sx, Tc.cl, Tc.nSize, (by show 0 < 1000; decide), ?_⟩
      have s2 : Same H0 (upd H' x (.ins C dx (putF "size" (.int ((as.map V.ref).length : Nat)) []))) := same_upd s1 nx
      -- self.masks = masks_of(rows)
      refine ⟨_, rfl, a, rows, rfl, hR.same s2, Nat.le_trans n6 (by decide), (fun r hr z hz => Nat.lt_of_lt_of_le (ok.lt r hr z hz) n6), fun m H2 sm2 hm hm2 => ?_⟩
      have hmx : x ≠ m := fun q => by
        subst q
        rw [upd_same] at hm
        cases hm
      refine ⟨_, rfl, x, C, dx, _, rfl, sm2 _ _ upd_same, Tc.cl, Tc.nMasks, (by show 1 < 1000; decide), ?_⟩
      have hm0 : H0 m = none := s2.free hm
      -- the cells
      generalize hH3 : upd H2 x (.ins C dx (putF "masks" (.ref m) (putF "size" (.int ((as.map V.ref).length : Nat)) []))) = H3
      have x3 : H3 x = some (.ins C dx (putF "masks" (.ref m) (putF "size" (.int ((as.map V.ref).length : Nat)) []))) := by rw [← hH3, upd_same]
      have m3 : H3 m = some (.tup (vn (rows.map maskOf))) := by rw [← hH3, upd_ne hmx.symm]; exact hm2
      have s3 : Same H0 H3 := by rw [← hH3]; exact same_upd (s2.trans sm2) nx
      have aS : SqL K H3 a (as.map V.ref) := s3.seq hS0
      refine ⟨_, rfl, a, _, rfl, .inl aS, _, rfl, by omega, by rw [List.length_map, el]; omega, fun D hD => blk_w walk_range (fun i H' => ∃ acc, LB H3 D H' acc ∧ acc.length ≤ i * 6) ⟨_, LB.start hD, Nat.zero_le _⟩ (fun _ _ _ _ => trivial) ?_ ?_⟩
      · rintro i y Ha Hb hi ⟨acc, L, hl⟩ ⟨rfl, rfl⟩ N hN
        have hi' : i < rows.length := by rw [List.length_map, el] at hi; omega
        have hri : rows[i]? = some rows[i] := by simp [hi']
        have hmi : (vn (rows.map maskOf))[i]? = some (vi (maskOf rows[i])) := by simp [hi']
        refine ⟨rfl, ?_⟩
        refine ⟨_, rfl, x, C, dx, _, _, rfl, L.sm _ _ x3, Tc.cl, Tc.nMasks, rfl, _, rfl, m, _, _, _, rfl, rfl, SqT.of (L.sm _ _ m3), at_of (by omega) hmi, maskOf rows[i], rfl, maskOf_lt (fun z hz => Nat.lt_of_lt_of_le (ok.lt _ (List.mem_of_getElem? hri) z hz) n6), fun l Hc smc hlc hLc => ?_⟩
        have nlD : l ≠ D := (ne_of_none L.at_ hlc).symm
        refine ⟨l, rfl, ⟨_, SqL.of hLc⟩, blk_w walk_list (fun j H' => ∃ acc, LB H3 D H' acc ∧ acc.length ≤ i * 6 + j ∧ H' l = some (.lst (vn (bitsM (maskOf rows[i]))))) ⟨acc, L.next smc, hl, hLc⟩ (fun _ _ _ ⟨_, _, _, q⟩ => SqL.of q) ?_ ?_⟩
        · rintro j z Hd He hj ⟨acc, L, hl, hq⟩ ⟨rfl, hz⟩ N2 hN2
          refine ⟨rfl, ?_⟩
          refine ⟨_, rfl, _, rfl, (by show 2 ≤ sizeLine; decide), fun t ht => ⟨acc, (L.next (same_new ht)).at_, small_of (m := 1000) ?_, hN2 _ ⟨_, (L.next (same_new ht)).snoc _, ?_, ?_⟩⟩⟩
          · have h6 := bitsL_le (maskOf rows[i]) 6 (Nat.le_refl _)
            rw [List.length_map] at hj
            unfold bitsM at hj
            omega
          · rw [List.length_append, List.length_singleton]; omega
          · rw [upd_ne nlD]
            exact same_new ht _ _ hq
        · rintro Hd ⟨acc, L, hl, hq⟩
          refine hN _ ⟨acc, L, ?_⟩
          have h6 := bitsL_le (maskOf rows[i]) 6 (Nat.le_refl _)
          rw [List.length_map] at hl
          unfold bitsM at hl
          omega
      · rintro Hd ⟨acc, L, hl⟩
        refine ⟨D, _, rfl, .inl ⟨SqL.of L.at_, fun cc hcc => ?_⟩⟩
        have s4 : Same H3 (upd Hd cc (.tup acc)) := same_upd L.sm (L.sm.free hcc)
        refine ⟨_, rfl, x, C, dx, _, rfl, s4 _ _ x3, Tc.cl, Tc.nCells, (by show 2 < 1000; decide), ?_⟩
        refine k _ (same_upd (s3.trans s4) nx) ⟨dx, m, cc, ?_, ?_⟩
        · rw [upd_same, List.length_map, List.length_map, el]
          rfl
        · rw [upd_ne hmx.symm]
          exact s4 _ _ m3
abbrev s_Table_rows : Stmt := (inClass (top 30) 6)
abbrev N_Table_rows : List Str := ["self", "mask"]
theorem sc_Table_rows : FnScope N_Table_rows ["self"] (defScope s_Table_rows) := ⟨rfl, rfl, rfl, by decide +kernel, rfl, by decide +kernel, by decide +kernel⟩
def sp_Table_rows (C : Addr) : Sp := fun vs H Q _ => ∃ (t : Addr) (ms : List Nat), vs = [.ref t] ∧ TabAt C H t ms ∧ ms.length ≤ 1000 ∧ (∀ m ∈ ms, m < 2 ^ 6) ∧ ∀ (l : Addr) (as : List Addr) (H' : Hp), Same H H' → H l = none → H' l = some (.lst (as.map V.ref)) → Paired (fun p m => H' p = some (.lst (vn (bitsM m)))) as ms → Q (.ref l) H'
theorem g_Table_rows {C : Addr} (F : FnM K C "rows" "Table.rows" s_Table_rows) (Tc : TabC K mg C) (B : Blt mg) (G_bits : G P w K mg base 1 "bits" ["mask"] sp_bits) : GM P w K mg base 2 C "rows" ["self"] (sp_Table_rows C) := by
  refine gm_of F sc_Table_rows (fun _ _ _ _ _ _ us hl => match us, hl with | [_], _ => rfl) (fun vs H Q E h => ?_) (fun f cdv A outer s H vs Q E hr h => ?_)
  · obtain ⟨t, ms, rfl, _⟩ := h
    rfl
  · obtain ⟨t, ms, rfl, ⟨dx, m, cc, ht, hm⟩, hlen, h6, k⟩ := h
    refine ⟨_, (pss_one (ps_ret (pe_lc (own := [("mask", 1)]) rfl sc_Table_rows.nd (pi_tupK (K := K) rfl (pe_fldK (K := K) rfl (pv 0) rfl)) (blkOk_by (N := N_Table_rows) (sc := defScope s_Table_rows) (by decide +kernel)) (fun _ _ _ _ _ => (pg_name (i := 1) sc_Table_rows.nd rfl (Or.inl rfl))) (fun _ _ _ _ _ => pts_nil) (fun _ _ _ _ _ => (pe_g G_bits (hr.mono (by decide)) (by rfl) (pa_cons (pv 1) pa_nil)))))), ?_⟩
    refine ⟨_, rfl, t, C, dx, _, _, rfl, ht, Tc.cl, Tc.nMasks, rfl, m, rfl, ⟨_, SqT.of hm⟩, fun D hD => blk_w walk_tup (fun i H' => ∃ as : List Addr, LB H D H' (as.map V.ref) ∧ D ∉ as ∧ Paired (fun p z => H' p = some (.lst (vn (bitsM z)))) as (ms.take i)) ⟨[], LB.start hD, List.not_mem_nil, .nil⟩ (fun i H' _ ⟨_, L, _⟩ => SqT.of (L.sm _ _ hm)) ?_ ?_⟩
    · rintro i y Ha Hb hi ⟨as, L, nD, hp⟩ ⟨rfl, hy⟩ N hN
      obtain ⟨z, hz, rfl⟩ := vn_get hy
      refine ⟨rfl, ?_⟩
      refine ⟨_, rfl, z, rfl, h6 z (List.mem_of_getElem? hz), fun l H2 s2 hl hL => ⟨_, (L.next s2).at_, small_of (m := 1000) ?_, hN _ ⟨as ++ [l], ?_, ?_, ?_⟩⟩⟩
      · have := Paired.length hp
        rw [List.length_map, this, List.length_take]
        omega
      · have := (L.next s2).snoc (.ref l)
        rw [List.map_append]
        exact this
      · have : D ≠ l := ne_of_none L.at_ hl
        simp only [List.mem_append, List.mem_singleton, not_or]
        exact ⟨nD, this⟩
      · rw [take_get hz]
        refine paired_app (paired_mapm hp fun p z hpm _ q => ?_) (.cons ?_ .nil)
        · rw [upd_ne (fun e : p = D => nD (e ▸ hpm))]
          exact s2 _ _ q
        · rw [upd_ne (ne_of_none L.at_ hl).symm]
          exact hL
    · rintro H' ⟨as, L, nD, hp⟩
      rw [take_all (by rw [List.length_map])] at hp
      exact k D as H' L.sm L.nw L.at_ hp
abbrev s_Table_getitem : Stmt := (inClass (top 30) 11)
abbrev N_Table_getitem : List Str := ["self", "word"]
theorem sc_Table_getitem : FnScope N_Table_getitem ["self", "word"] (defScope s_Table_getitem) := ⟨rfl, rfl, rfl, by decide +kernel, rfl, by decide +kernel, by decide +kernel⟩
def sp_Table_getitem (C : Addr) : Sp := fun vs H Q _ => ∃ (t : Addr) (ms : List Nat) (x m : Nat), vs = [.ref t, vi x] ∧ TabAt C H t ms ∧ ms[x]? = some m ∧ m < 2 ^ 6 ∧ ∀ (l : Addr) (H' : Hp), Same H H' → H l = none → H' l = some (.lst (vn (bitsM m))) → Q (.ref l) H'
theorem g_Table_getitem {C : Addr} (F : FnM K C "__getitem__" "Table.__getitem__" s_Table_getitem) (Tc : TabC K mg C) (G_check_word : G P w K mg base 1 "check_word" ["size", "word"] sp_check_word) (G_bits : G P w K mg base 1 "bits" ["mask"] sp_bits) : GM P w K mg base 2 C "__getitem__" ["self", "word"] (sp_Table_getitem C) := by
  refine gm_of F sc_Table_getitem (fun _ _ _ _ _ _ us hl => match us, hl with | [_, _], _ => rfl) (fun vs H Q E h => ?_) (fun f cdv A outer s H vs Q E hr h => ?_)
  · obtain ⟨t, ms, x, m, rfl, _⟩ := h
    rfl
  · obtain ⟨t, ms, x, mm, rfl, ⟨dx, m, cc, ht, hm⟩, hx, h6, k⟩ := h
    refine ⟨_, (pss_cons (ps_expr (pe_g G_check_word (hr.mono (by decide)) (by rfl) (pa_cons (pe_fldK (K := K) rfl (pv 0) rfl) (pa_cons (pv 1) pa_nil))))
      (pss_one (ps_ret (pe_g G_bits (hr.mono (by decide)) (by rfl) (pa_cons (pe_ix (ix_tupK (K := K) rfl) (pe_fldK (K := K) rfl (pv 0) rfl) (pv 1) (fun _ _ => rfl)) pa_nil))))), ?_⟩
    refine ⟨_, rfl, t, C, dx, _, _, rfl, ht, Tc.cl, Tc.nSize, rfl, _, rfl, ms.length, x, rfl, len_get hx, ?_⟩
    refine ⟨_, rfl, t, C, dx, _, _, rfl, ht, Tc.cl, Tc.nMasks, rfl, _, rfl, m, _, _, _, rfl, rfl, SqT.of hm, at_of rfl (by rw [List.getElem?_map, hx]; rfl), mm, rfl, h6, k⟩
end
end Mm

set_option maxHeartbeats 4000000
/-! super().m(..) as a body's first step; a def over the cell of its class -/
namespace Mm
open PySem PySem.Spec L2
open PyProof.Rows hiding St
abbrev clsN : Str := "__class__"
/-! ### cells -/
theorem cellsFrom_app : ∀ (names : List (Str × NameKind)) (n : Nat) (acc : List (Str × Addr)), cellsFrom n names acc = cellsFrom n names [] ++ acc
  | [], _, acc => rfl
  | (name, kind) :: r, n, acc => by
    unfold cellsFrom
    split
    · rw [cellsFrom_app r (n + 1) ((name, n) :: acc), cellsFrom_app r (n + 1) [(name, n)], List.append_assoc]
      rfl
    · exact cellsFrom_app r n acc
theorem cellsFrom_mem : ∀ {names : List (Str × NameKind)} {n : Nat} {acc : List (Str × Addr)} {x : Str} {c : Addr}, (x, c) ∈ cellsFrom n names acc → (x, NameKind.cell) ∈ names ∨ (x, c) ∈ acc
  | [], _, _, _, _, h => .inr h
  | (name, kind) :: r, n, acc, x, c, h => by
    unfold cellsFrom at h
    split at h
    · rename_i hk
      rcases cellsFrom_mem h with q | q
      · exact .inl (List.mem_cons_of_mem _ q)
      · rcases List.mem_cons.mp q with e | e
        · have ek : kind = NameKind.cell := by simpa using hk
          rw [ek, (Prod.mk.inj e).1]
          exact .inl List.mem_cons_self
        · exact .inr e
    · rcases cellsFrom_mem h with q | q
      · exact .inl (List.mem_cons_of_mem _ q)
      · exact .inr q
theorem lookup_app {α : Type} : ∀ (l r : List (Str × α)) (x : Str), (l ++ r).lookup x = (l.lookup x).or (r.lookup x)
  | [], r, x => rfl
  | (k, v) :: l, r, x => by
    rw [List.cons_append, List.lookup_cons, List.lookup_cons]
    cases x == k with
    | true => rfl
    | false => exact lookup_app l r x
theorem lookup_none {α : Type} : ∀ {l : List (Str × α)} {x : Str}, (∀ v, (x, v) ∉ l) → l.lookup x = none
  | [], _, _ => rfl
  | (k, v) :: l, x, h => by
    rw [List.lookup_cons]
    cases e : x == k with
    | true => exact absurd (by rw [beq_iff_eq.mp e]; exact List.mem_cons_self) (h v)
    | false => exact lookup_none fun w hw => h w (List.mem_cons_of_mem _ hw)
/-- the scope of such a def -/
structure FnScopeS (N P : List Str) (sc : Scope) : Prop where
  kind : sc.kind = .function
  co : sc.isCoroutine = false
  gen : sc.isGenerator = false
  nd : N.Nodup
  pre : N.take P.length = P
  par : ∀ x ∈ P, sc.names.lookup x = some .local ∨ sc.names.lookup x = some .cell
  free : ∀ y ∈ sc.names, y.2 = .free → y.1 = clsN
  cls : sc.names.lookup clsN = some .free
  ncls : (clsN, NameKind.cell) ∉ sc.names
  npar : clsN ∉ P
def cellsS (scope : Scope) (L cc : Addr) : List (Str × Addr) := cellsFrom (L + 1) scope.names [] ++ [(clsN, cc)]
abbrev envS (qual : Str) (scope : Scope) (L f : Addr) (cd : Value) (cc : Addr) : Env := PySem.W.envX qual scope L f cd (cellsS scope L cc)
theorem cellsS_cls {N P : List Str} {scope : Scope} (S : FnScopeS N P scope) (L cc : Addr) : (cellsS scope L cc).lookup clsN = some cc := by
  unfold cellsS
  rw [lookup_app, lookup_none fun v hv => (cellsFrom_mem hv).elim S.ncls List.not_mem_nil]
  show ([(clsN, cc)] : List (Str × Addr)).lookup clsN = some cc
  rw [List.lookup_cons, beq_self_eq_true]
theorem cellsS_ne {scope : Scope} {L cc : Addr} {x : Str} (h : x ≠ clsN) : (cellsS scope L cc).lookup x = (cellsFrom (L + 1) scope.names []).lookup x := by
  unfold cellsS
  rw [lookup_app]
  have : ([(clsN, cc)] : List (Str × Addr)).lookup x = none := by
    rw [List.lookup_cons, beq_eq_false_iff_ne.mpr h]
    rfl
  rw [this, Option.or_none]
section
variable {M : Model} {A : Around} {E : Value → Shared → Prop} {s : Shared}
theorem storeName_cells {env env' : Env} {n : Str} {v : Value} (h1 : env'.scope = env.scope) (h2 : env'.locals = env.locals) (h3 : env'.globals = env.globals) (h4 : env'.cells.lookup n = env.cells.lookup n) : storeName env' n v = storeName env n v := by
  unfold storeName
  have hk : env'.kindOf n = env.kindOf n := by unfold Env.kindOf; rw [h1]
  have hb : env'.blockKind = env.blockKind := by unfold Env.blockKind; rw [h1]
  have hc : PySem.cellOf env' n = PySem.cellOf env n := by unfold PySem.cellOf; rw [h4]
  have hl : localSet env' n v = localSet env n v := by unfold localSet; rw [h2]
  rw [hk, hb, hc, h1, h2, h3, hl]
theorem forIn_store {env env' : Env} (h1 : env'.scope = env.scope) (h2 : env'.locals = env.locals) (h3 : env'.globals = env.globals) :
    ∀ (binds : List (Str × Value)), (∀ x ∈ binds, env'.cells.lookup x.1 = env.cells.lookup x.1) →
      (forIn binds PUnit.unit fun (x : Str × Value) (_ : PUnit) => (do storeName env' x.1 x.2; pure (.yield PUnit.unit) : Sem (ForInStep PUnit))) = forIn binds PUnit.unit fun (x : Str × Value) (_ : PUnit) => (do storeName env x.1 x.2; pure (.yield PUnit.unit) : Sem (ForInStep PUnit))
  | [], _ => by rw [List.forIn_nil, List.forIn_nil]
  | b :: r, h => by
    rw [List.forIn_cons, List.forIn_cons, storeName_cells h1 h2 h3 (h b List.mem_cons_self)]
    congr 1
    funext z
    cases z with
    | done u => rfl
    | yield u => exact forIn_store h1 h2 h3 r fun x hx => h x (List.mem_cons_of_mem _ hx)
theorem newEnvS {N P : List Str} {scope : Scope} {globals cc : Addr} {binds : List (Str × Value)} {qual : Str} {func : Option Addr} {code : Value} {builtins : Addr} {Q : Env → Shared → Prop} (S : FnScopeS N P scope)
    (hkind : ∀ x ∈ binds, scope.names.lookup x.1 = some .local ∨ (scope.names.lookup x.1 = some .cell ∧ ((cellsFrom (s.heap.objs.size + 1) scope.names []).lookup x.1).isSome = true)) (hn : ∀ x ∈ binds, x.1 ≠ clsN)
    (hQ : ∀ s', InCallC s s.heap.objs.size (bindL (fun y => scope.names.lookup y) binds fun _ => none) (cellsFrom (s.heap.objs.size + 1) scope.names []) (bindC (fun y => scope.names.lookup y) binds fun _ => none) s' →
      Q (newEnv scope s.heap.objs.size globals (cellsS scope s.heap.objs.size cc) qual func code none builtins) s') :
    wpAny M A (newFunctionEnv scope globals [(clsN, cc)] binds qual func code none builtins) Q E s := by
  simp only [newFunctionEnv, Option.isSome_none, Bool.false_eq_true, if_false]
  refine wpAny_bind (wpAny_alloc ?_)
  refine wpAny_bind (wpAny_layCells _ (fun name kind cells => by cases hkc : kind == NameKind.cell <;> simp [hkc]) _ _ _ _ ?_)
  have ok := cellsFrom_ok scope.names (s.heap.push { cls := .type "frame", data := .dict #[] }) (s.heap.objs.size + 1) [] ⟨fun _ _ hm => (nomatch hm), List.Pairwise.nil⟩ (by rw [Heap.size_push]; exact Nat.le_refl _)
  rw [Heap.size_push] at ok
  rw [show ({ s with heap := s.heap.push { cls := .type "frame", data := .dict #[] } } : Shared).heap.objs.size = s.heap.objs.size + 1 from Heap.size_push ..]
  rw [cellsFrom_app]
  let env0 := newEnv scope s.heap.objs.size globals (cellsFrom (s.heap.objs.size + 1) scope.names []) qual func code none builtins
  refine wpAny_bind ?_
  have e := forIn_store (env := env0) (env' := newEnv scope s.heap.objs.size globals (cellsS scope s.heap.objs.size cc) qual func code none builtins) rfl rfl rfl binds fun x hx => cellsS_ne (hn x hx)
  refine Eq.mp (congrArg (fun t => wpAny M A t _ E _) e.symm) ?_
  refine wpAny_bindParams (s₀ := s) (env := env0) _ (fun _ _ _ => rfl) S.kind binds (fun _ => none) (fun _ => none) _ _
    ⟨⟨⟨_, _, rfl⟩, (Heap.Ns.new s.heap (.type "frame")).keeps (pushCells_keeps _ _), fun b o e => pushCells_keeps _ _ b o (Heap.get?_push_of_some _ e), Nat.le_refl _⟩,
      fun n c hc => (ok.empty n c (mem_of_lookup hc)).1, ok.apart, fun n c hm => (ok.empty n c hm).2⟩
    hkind fun s' x => wpAny_pure (hQ s' x)
end

/-! ### super().m(e, ..) -/
def codeFileIn (K : PySem.W.Frag) (cd : Value) (file : Str) : Bool := match cd with
  | .ref c => (match K.lookup c with
    | some ⟨_, _, .fields vs, _⟩ => (match (vs[2]? : Option Value) with
      | some (.str z _) => decide (file = z)
      | _ => false)
    | _ => false)
  | _ => false
theorem codeFile_ok {K : PySem.W.Frag} {cd : Value} {file : Str} (h : codeFileIn K cd file = true) : ∃ c ccl cdd vs ccs tf, cd = .ref c ∧ K.lookup c = some ⟨ccl, cdd, .fields vs, ccs⟩ ∧ vs[2]? = some (.str file tf) := by
  unfold codeFileIn at h
  split at h
  · rename_i c
    split at h
    · rename_i ccl cdd vs ccs e
      split at h
      · rename_i z tf e2
        have : file = z := of_decide_eq_true h
        subst this
        exact ⟨c, ccl, cdd, vs, ccs, tf, rfl, e, e2⟩
      · cases h
    · cases h
  · cases h
theorem clsIn_at {K : PySem.W.Frag} {D : Addr} {cd : ClassData} (h : PySem.W.clsIn K D = some cd) : ∃ o, K.lookup D = some o ∧ o.data = .cls cd := by
  unfold PySem.W.clsIn at h
  split at h
  · rename_i c d cd' sl ho
    cases h
    exact ⟨_, ho, rfl⟩
  · cases h
theorem typeIn_at {K : PySem.W.Frag} {f : Addr} {T : Value} (h : PySem.W.typeIn K (.ref f) = some T) : ∃ o, K.lookup f = some o ∧ o.cls = T := by
  have h' : (K.lookup f).map (·.cls) = some T := h
  cases z : K.lookup f with
  | none => rw [z] at h'; cases h'
  | some o => rw [z] at h'; exact ⟨o, rfl, Option.some.inj h'⟩
def tSup (C : Addr) (sp : Sp) (t : TA) : TE := fun σ H Q => ∃ a dx fs, σ[0]? = some (some (.ref a)) ∧ H a = some (.ins C dx fs) ∧ t σ H fun vs H2 => sp (.ref a :: vs) H2 Q E0
/-- the method that super() finds above D for an instance of C -/
structure SupM (K : PySem.W.Frag) (C D : Addr) (m : Str) (f2 : Addr) : Prop where
  sub : PySem.W.mroIn K C (.ref D) = some true
  isD : (PySem.W.clsIn K D).isSome = true
  isC : (PySem.W.clsIn K C).isSome = true
  op : PySem.W.nsIn K cStatics "thirdparty.any" = some none
  at_ : PySem.W.ks_superIn K C D m = some (some (.ref f2))
  ty : PySem.W.typeIn K (.ref f2) = some (.type "function")
  fi : PySem.W.fnIn K f2 = true
section
variable {X : Cx} {k : Nat} {C D cc f f2 : Addr} {m : Str} {ps : List Str} {sp : Sp} {p0 p1 pos apos : Pos} {e : Expr} {es : List Expr} {t : TA} {fd fd2 : FuncData} {ar : Arg} {file : Str}
theorem super_run {body : List Stmt} {oc : Value} {od : Option Addr} {osl : Array (Option Value)} {cl : Value} {cld : Option Addr} {csl : Array (Option Value)}
    (hks : X.env.kindOf "super" = some .globalImplicit) (hkc : X.env.kindOf clsN = some .free) (hN : X.N[0]? = some ar.arg) (hsl : X.env.kindOf ar.arg = some .local) (hfu : X.env.func = some f)
    (lkf : X.K.lookup f = some ⟨oc, od, .func fd, osl⟩) (hp : (fd.params.posonlyargs ++ fd.params.args).head? = some ar) (hcf : codeFileIn X.K X.env.code file = true) (hfile : X.prog.main.file = file)
    (htop : (X.prog.main.scope.names.lookup ("super" : Str)).isSome = false) (hcc : X.env.cells.lookup clsN = some cc) (lkcc : X.K.lookup cc = some ⟨cl, cld, .cell (some (.ref D)), csl⟩) (hms : X.mg "super" = none)
    (M : SupM X.K C D m f2) (F : FnOk X.prog X.w X.K X.mg X.base CX0 k f2 fd2 ps sp) (hb : Binds X.K fd2 ps []) (hr : Room k X.A) (ha : PA X (e :: es) t) (hat : (m == ("__class__" : Str)) = false := by decide)
    (hst : starEach (e :: es) X.env = (false, eval e X.env) :: starEach es X.env := by rfl) (hpl : (backTo pos (starEach es X.env)).any (·.1) = false := by rfl)
    {pl : Sem Bool} (he : eval (.Call (.Attribute (.Call (.Name "super" p0) [] [] p1) m apos) (e :: es) [] pos) X.env = (do
      let ov ← attributeBase (.Call (.Name "super" p0) [] [] p1) m X.env (eval (.Call (.Name "super" p0) [] [] p1) X.env)
      standAt apos.atName
      let (f, first) ← holding [ov] (getMethod ov m pl)
      callWith pos f first (backTo pos (starEach (e :: es) X.env)) []) := by rfl)
    {pins : List (Addr × Obj)} {s : Shared} {σ : St} {H : Hp} {Q : VK} (I : Inv X pins σ H s) (h : tSup C sp t σ H Q) :
    PySem.wpAt (model X.prog X.w) X.A (.func body X.env) (eval (.Call (.Attribute (.Call (.Name "super" p0) [] [] p1) m apos) (e :: es) [] pos) X.env) (EP X pins σ Q) X.xe s := by
  obtain ⟨a, dx, fs, eσ, ea, q⟩ := h
  obtain ⟨cdD, hD⟩ := Option.isSome_iff_exists.mp M.isD
  obtain ⟨cdC, hC⟩ := Option.isSome_iff_exists.mp M.isC
  obtain ⟨oD, lD, dD⟩ := clsIn_at hD
  obtain ⟨cda, ccl, cdd, vs, ccs, tf, hco, lkc, hvs⟩ := codeFile_ok hcf
  obtain ⟨o2, l2, c2⟩ := typeIn_at M.ty
  obtain ⟨J1, J⟩ := inst_at I ea
  have KX := I.kIn
  refine ks_wpAt_MethodCall (pl := pl) ?_ he
  refine ks_wpAt_super_base hks hkc hat hfu (KX _ _ lkf) rfl hp hco (KX _ _ lkc) rfl hvs (by rw [hfile]; simp) htop ?_
  refine PySem.W.ks_loadName_global I.ok.kind hks (Calls.loadGlobal_builtin (by rw [I.ok.glob]; exact I.mod.glob.keeps I.bk) hms (by rw [I.ok.blt]; exact I.mod.blt.choose_spec.1.keeps I.bk) (by rw [I.mod.blt.choose_spec.2 _ (by decide)]; exact (by decide +kernel : bootBuiltins "super" = some (.type "super"))) ⟨rfl, ?_⟩)
  refine wpAny_loadName_free I.ok.kind hkc hcc ⟨_, KX _ _ lkcc, rfl⟩ ?_
  obtain ⟨mm, hn, hl⟩ := id I.loc
  obtain ⟨u, ru, lu⟩ := hl 0 ar.arg (.ref a) hN eσ (.inl hsl)
  obtain rfl : u = Value.ref a := ru
  have hmm : mm ar.arg = some (.ref a) := by
    rcases lu with ⟨_, z⟩ | ⟨z, _⟩
    · exact z
    · rw [hsl] at z
      rcases z with z | z <;> cases z
  refine wpAny_loadName_local I.ok.kind hsl hn hmm ?_
  obtain ⟨hh, g, d, tk, os⟩ := s
  refine ks_wpAny_isType_cls (KX _ _ lD) dD ⟨rfl, ?_⟩
  refine ks_wpAny_call_super (KX _ _ lD) dD J.at_ J.cls (fun c z => ?_) (PySem.W.looks_mroIn KX M.sub) fun h' e1 k1 => ?_
  · have := J.no
    unfold PySem.W.notCls at this
    rw [z] at this
    exact Bool.noConfusion this
  have I1 : Inv X pins σ H ⟨h', g, d, tk, os⟩ := I.kept (t' := tk) k1
  refine ks_wpAny_getMethod_super e1 (PySem.W.looks_opaque I1.kIn M.op) (l₀ := cdC.mro) ?_ rfl I1.kIn ?_ (I1.kIn _ _ l2) c2 (PySem.W.ks_ne KX J hC) hat ?_
  · exact fun A Q E s k q => wpAny_bind ((PySem.W.looks_clsIn I1.kIn hC) A _ E s k (wpAny_pure q))
  · have := M.at_
    unfold PySem.W.ks_superIn at this
    rw [hC] at this
    exact this
  have I2 := ClX.met_new (g := f2) (C := a) I1
  refine ClX.callwith_cm I2 (ClX.base_none I1 (Nat.le_refl _)) M.fi (thn (ha.run pos _ _ σ H _ I2 q) fun us s3 ⟨vs', H2, I3, rv, q2⟩ => ⟨⟨ClX.pin_at I3, I3.kIn⟩, ?_⟩) hst hpl
  have z : wpAny (model X.prog X.w) X.A (call (.ref h'.objs.size) us) (EP X ((h'.objs.size, PySem.W.methodObj (.ref f2) (.ref a)) :: pins) σ Q) X.xe s3 := by
    refine wpAny_call (PySem.W.method_call (ClX.pin_at I3) ?_)
    have r2 : Vals (.ref a :: vs') (Value.ref a :: us) := .cons rfl rv
    have hl2 : (Value.ref a :: us ++ []).length = ps.length := by rw [List.append_nil, ← r2.length]; exact F.len _ _ _ _ q2
    have hb2 := hb s3 (Value.ref a :: us) I3.kIn hl2
    rw [List.append_nil] at hb2
    refine codeAny_mono (F.run X.A X.stack s3 H2 ⟨Value.ref a :: us, []⟩ (Value.ref a :: us) (.ref a :: vs') Q E0 hr I3.env0 hb2 r2 q2) fun r s' hq => ?_
    cases r with
    | error e => exact False.elim hq
    | ok fl =>
      cases fl with
      | ret u => exact I3.after hq
      | next => exact False.elim hq
      | brk => exact False.elim hq
      | cont => exact False.elim hq
  exact thn z fun _ _ y => ClX.unpinE y
end

/-! ### such a def -/
def cxS (P : Program) (w : World) (K : PySem.W.Frag) (mg : Str → Option Value) (base : Heap) (N : List Str) (qual : Str) (scope : Scope) (f : Addr) (cd : Value) (cc : Addr) (A : Around) (outer : List Env) (s : Shared) (H : Hp) : Cx where
  prog := P
  w := w
  K := K
  mg := mg
  base := base
  A := A.deeper (envS qual scope s.heap.objs.size f cd cc)
  N := N
  s_0 := s
  H_0 := H
  env := envS qual scope s.heap.objs.size f cd cc
  outer := outer
  stack := envS qual scope s.heap.objs.size f cd cc :: outer
  ex := []
  calm := true
  fn := fun x => !(x == clsN)
  pn := []
  xe := fun _ _ => False
theorem inv_startS {P : Program} {w : World} {K : PySem.W.Frag} {mg : Str → Option Value} {base : Heap} {N ps : List Str} {qual : Str} {scope : Scope} {f : Addr} {cd : Value} {cc : Addr} {A : Around} {outer : List Env} {s s1 : Shared} {H : Hp} {us : List Value} {vs : List V} {vD : Option Value}
    (S : FnScopeS N ps scope) (hd : A.handled = none) (e0 : Env0 P w K mg base A outer s H) (hcc : base.IsCell cc vD) (hl : vs.length = ps.length) (r : Vals vs us)
    (x : InCallC s s.heap.objs.size (bindL (fun y => scope.names.lookup y) (ps.zip us) fun _ => none) (cellsFrom (s.heap.objs.size + 1) scope.names []) (bindC (fun y => scope.names.lookup y) (ps.zip us) fun _ => none) s1) :
    Inv (cxS P w K mg base N qual scope f cd cc A outer s H) [] (start N vs) H s1 := by
  have hpl : ps.length ≤ N.length := by have := congrArg List.length S.pre; rw [List.length_take] at this; omega
  obtain ⟨h1, tk, rfl, hk⟩ := x.done
  have noA : ∀ b : Addr, b ∉ (cxS P w K mg base N qual scope f cd cc A outer s H).ex := fun b z => absurd (show b ∈ ([] : List Addr) from z) (by simp)
  obtain ⟨occ, hocc, docc⟩ := hcc
  have hccs : s.heap.get? cc = some occ ∧ H cc = none := e0.bs cc occ hocc
  have lccs : cc < s.heap.objs.size := Heap.lt_size hccs.1
  have lk : ∀ y c, (cellsS scope s.heap.objs.size cc).lookup y = some c → (y = clsN ∧ c = cc) ∨ (y ≠ clsN ∧ (cellsFrom (s.heap.objs.size + 1) scope.names []).lookup y = some c) := fun y c e => by
    by_cases q : y = clsN
    · subst q
      rw [cellsS_cls S] at e
      exact .inl ⟨rfl, (Option.some.inj e).symm⟩
    · rw [cellsS_ne q] at e
      exact .inr ⟨q, e⟩
  have ab : ∀ y c, (cellsFrom (s.heap.objs.size + 1) scope.names []).lookup y = some c → s.heap.objs.size < c := fun y c e => x.above y c (PySem.mem_of_lookup e)
  refine ⟨⟨e0.mod, S.kind, rfl, rfl, Nat.le_refl _, fun y z c h1 h2 => ?_, fun y hy => ?_, fun y c hf h => ?_, fun _ => hd, Around.frames_deeper e0.frames, .inr ⟨rfl, rfl⟩, fun b z => absurd z (noA b), e0.bs, e0.bsz, fun b _ _ => noA b, fun b z => absurd z (noA b), e0.funs, e0.frf⟩,
    rfl, e0.bare, Un.kept hk, ⟨_, x.toInCall.ns, fun i y v h1 h2 h3 => ?_⟩, fun y c h => ?_, e0.hok.fresh (Nat.le_refl _), fun y c h => ?_, fun p hp => absurd (show p ∈ ([] : List (Addr × Obj)) from hp) (by simp), e0.hok.kept hk, ?_⟩
  · rcases lk y c h1 with ⟨a1, a2⟩ | ⟨a1, a2⟩ <;> rcases lk z c h2 with ⟨b1, b2⟩ | ⟨b1, b2⟩
    · rw [a1, b1]
    · have := ab _ _ b2
      rw [a2] at this
      exact absurd this (Nat.not_lt.mpr (Nat.le_of_lt lccs))
    · have := ab _ _ a2
      rw [b2] at this
      exact absurd this (Nat.not_lt.mpr (Nat.le_of_lt lccs))
    · exact name_of_addr x.apart (PySem.mem_of_lookup a2) (PySem.mem_of_lookup b2)
  · have hy : scope.names.lookup y = some .cell ∨ scope.names.lookup y = some .free := hy
    show ∃ c, (cellsS scope s.heap.objs.size cc).lookup y = some c
    by_cases q : y = clsN
    · subst q
      exact ⟨cc, cellsS_cls S _ _⟩
    · rw [cellsS_ne q]
      rcases hy with hy | hy
      · exact cell_has hy
      · exact absurd (S.free _ (PySem.mem_of_lookup hy) rfl) q
  · have hf : (!(y == clsN)) = true := hf
    have ny : y ≠ clsN := fun q => by
      rw [q] at hf
      simp at hf
    rcases lk y c h with ⟨a1, _⟩ | ⟨_, a2⟩
    · exact absurd a1 ny
    · exact Nat.le_of_lt (ab y c a2)
  · have hi : i < vs.length := by
      unfold L2.start at h2
      by_cases hi : i < vs.length
      · exact hi
      · rw [List.getElem?_append_right (by simpa using hi)] at h2
        rw [List.getElem?_replicate] at h2
        split at h2 <;> cases h2
    have ha : vs[i]? = some v := by
      unfold L2.start at h2
      rw [List.getElem?_append_left (by simpa using hi), List.getElem?_map] at h2
      cases e : vs[i]? with
      | none => rw [e] at h2; cases h2
      | some a => rw [e] at h2; cases h2; rfl
    obtain ⟨u, hu, rv⟩ := r.get ha
    have hp : ps[i]? = some y := by
      rw [← S.pre, List.getElem?_take_of_lt (by omega)]; exact h1
    have ndP : ps.Nodup := by rw [← S.pre]; exact S.nd.sublist (List.take_sublist _ _)
    refine ⟨u, rv, ?_⟩
    rcases S.par y (List.mem_of_getElem? hp) with k | k
    · exact .inl ⟨k, bindL_get ndP hp hu k⟩
    · obtain ⟨c, e⟩ := cell_has (n := s.heap.objs.size + 1) k
      have ny : y ≠ clsN := fun q => S.npar (q ▸ List.mem_of_getElem? hp)
      refine .inr ⟨.inl k, c, (by show (cellsS scope s.heap.objs.size cc).lookup y = some c; rw [cellsS_ne ny]; exact e), ?_⟩
      have q := x.cell y c e
      rw [bindC_get ndP hp hu (by show scope.names.lookup y ≠ _; rw [k]; decide)] at q
      exact q
  · rcases lk y c h with ⟨_, a2⟩ | ⟨_, a2⟩
    · subst a2
      exact ⟨vD, occ, hk _ _ hccs.1, docc⟩
    · exact ⟨_, x.cell y c a2⟩
  · rcases lk y c h with ⟨_, a2⟩ | ⟨_, a2⟩
    · subst a2
      exact hccs.2
    · exact e0.hok.fresh (Nat.le_of_lt (ab y c a2))
  · unfold L2.start
    show _ = N.length
    rw [List.length_append, List.length_map, List.length_replicate]
    omega
/-- the text's file -/
abbrev theFile : Str := "/claim/cut.py"
/-- a def over the cell of the class at D -/
structure FunS (K : PySem.W.Frag) (x qual : Str) (st : Stmt) (D f : Addr) (fd : FuncData) : Prop where
  ex : ∃ (oc : Value) (od : Option Addr) (kV doc pm : Value) (an : Option Addr) (cdv ct : Value) (osl : Array (Option Value)) (cc : Addr) (cl : Value) (cld : Option Addr) (csl : Array (Option Value)),
    fd = PySem.W.fnX x qual (defArgs st) (defBody st) (defScope st) [(clsN, cc)] .none kV doc pm an cdv ct ∧ K.lookup f = some ⟨oc, od, .func fd, osl⟩ ∧ PySem.W.codeIn K cdv qual = true ∧ codeFileIn K cdv theFile = true ∧
      K.lookup cc = some ⟨cl, cld, .cell (some (.ref D)), csl⟩
  kp : PySem.W.keepIn K (.ref f) = true
section
variable {P : Program} {w : World} {K : PySem.W.Frag} {mg : Str → Option Value} {base : Heap}
theorem FunS.ok {x qual : Str} {st : Stmt} {D f : Addr} {fd : FuncData} {N ps : List Str} {k : Nat} {sp : Sp} (F : FunS K x qual st D f fd) (S : FnScopeS N ps (defScope st)) (len : ∀ vs H Q E, sp vs H Q E → vs.length = ps.length)
    (hbody : ∀ (oc : Value) (od : Option Addr) (osl : Array (Option Value)) (cdv : Value) (cc : Addr) (cl : Value) (cld : Option Addr) (csl : Array (Option Value)) (A : Around) (outer : List Env) (s : Shared) (H : Hp) (vs : List V) (Q : VK) (E : XK),
      K.lookup f = some ⟨oc, od, .func fd, osl⟩ → fd.params = defArgs st → codeFileIn K cdv theFile = true → K.lookup cc = some ⟨cl, cld, .cell (some (.ref D)), csl⟩ → Room k (A.deeper (envS qual (defScope st) s.heap.objs.size f cdv cc)) → sp vs H Q E →
      ∀ s1, Inv (cxS P w K mg base N qual (defScope st) f cdv cc A outer s H) [] (start N vs) H s1 →
        PySem.wpAt (model P w) (A.deeper (envS qual (defScope st) s.heap.objs.size f cdv cc)) (.func (defBody st) (envS qual (defScope st) s.heap.objs.size f cdv cc)) (execs (defBody st) (envS qual (defScope st) s.heap.objs.size f cdv cc))
          (SP (cxS P w K mg base N qual (defScope st) f cdv cc A outer s H) [] { nx := fun _ H' => Q .non H', rt := Q }) (fun _ _ => False) s1) :
    FnOk P w K mg base CX0 (k + 1) f fd ps sp := by
  obtain ⟨oc, od, kV, doc, pm, an, cdv, ct, osl, cc, cl, cld, csl, rfl, lk, hcd, hcf, lcc⟩ := F.ex
  refine ⟨len, fun A outer s H args us vs Q E hr e0 hb r hsp => ?_⟩
  have hl := len _ _ _ _ hsp
  have KX : K.In s.heap := e0.mod.kin.keeps fun b o e => (e0.bs b o e).1
  have lim : s.heap.NoLimit := e0.mod.nolimit.keeps fun b o e => (e0.bs b o e).1
  have hkind : ∀ y ∈ ps.zip us, (defScope st).names.lookup y.1 = some .local ∨ ((defScope st).names.lookup y.1 = some .cell ∧ ((cellsFrom (s.heap.objs.size + 1) (defScope st).names []).lookup y.1).isSome = true) := fun ⟨n, v⟩ hy => by
    rcases S.par n (List.of_mem_zip hy).1 with q | q
    · exact .inl q
    · exact .inr ⟨q, PySem.W.cellsFrom_some _ _ _ (.inl q)⟩
  refine codeAny_call_function hr.depth (KX _ _ lk) rfl S.co S.gen rfl (PySem.W.codeRec_of KX hcd) (hb _ _ _ _ ?_)
  refine newEnvS S hkind (fun ⟨n, v⟩ hy q => S.npar (by have := (List.of_mem_zip hy).1; rw [← q]; exact this)) fun s1 x => ?_
  refine ⟨lim.keeps x.toInCall.keep, ?_⟩
  have I : Inv (cxS P w K mg base N qual (defScope st) f cdv cc A outer s H) [] (start N vs) H s1 := inv_startS S hr.hd e0 ⟨_, e0.mod.kin _ _ lcc, rfl⟩ hl r x
  show codeAny (model P w) A (.func (defBody st) (envS qual (defScope st) s.heap.objs.size f cdv cc)) _ _
  refine ks_codeAny_funcAt (PySem.wpAt_mono (hbody oc od osl cdv cc cl cld csl A outer s H vs Q E lk rfl hcf lcc (hr.deeper _) hsp s1 I) (fun fl s' hs => ?_) fun _ _ z => z.elim)
  have fin : ∀ {σ' : St} {H' : Hp} {v : V} {u : Value}, Inv (cxS P w K mg base N qual (defScope st) f cdv cc A outer s H) [] σ' H' s' → RelV v u → Q v H' → CE outer P w H s Q u s' :=
    fun {σ' H' v u} J rv q => ⟨v, H', J.os, J.bare, J.base, J.hok, rv, q⟩
  cases fl with
  | ret u =>
    obtain ⟨v, σ', H', J, rv, q⟩ := hs
    exact fin J rv q
  | next =>
    obtain ⟨σ', H', J, q⟩ := hs
    exact fin (v := V.non) (u := Value.none) J rfl q
  | brk =>
    obtain ⟨_, _, _, q⟩ := hs
    exact False.elim q
  | cont =>
    obtain ⟨_, _, _, q⟩ := hs
    exact False.elim q
end

/-! ### super() as the first step of a body -/
def SupRun (X : Cx) (body : List Stmt) (call : Expr) (t : TE) : Prop := ∀ (pins : List (Addr × Obj)) (s : Shared) (σ : St) (H : Hp) (Q : VK), Inv X pins σ H s → t σ H Q →
  PySem.wpAt (model X.prog X.w) X.A (.func body X.env) (eval call X.env) (EP X pins σ Q) X.xe s
section
variable {X : Cx} {k : Nat} {C D cc f f2 : Addr} {m : Str} {ps : List Str} {sp : Sp} {p0 p1 pos apos : Pos} {e : Expr} {es : List Expr} {t : TA} {fd fd2 : FuncData} {ar : Arg} {file : Str} {body : List Stmt} {oc : Value} {od : Option Addr} {osl : Array (Option Value)} {cl : Value} {cld : Option Addr} {csl : Array (Option Value)}
theorem super_go {pl : Sem Bool} (hfu : X.env.func = some f)
    (lkf : X.K.lookup f = some ⟨oc, od, .func fd, osl⟩) (hp : (fd.params.posonlyargs ++ fd.params.args).head? = some ar) (hcf : codeFileIn X.K X.env.code file = true) (hfile : X.prog.main.file = file)
    (htop : (X.prog.main.scope.names.lookup ("super" : Str)).isSome = false) (hcc : X.env.cells.lookup clsN = some cc) (lkcc : X.K.lookup cc = some ⟨cl, cld, .cell (some (.ref D)), csl⟩) (hms : X.mg "super" = none)
    (M : SupM X.K C D m f2) (F : FnOk X.prog X.w X.K X.mg X.base CX0 k f2 fd2 ps sp) (hb : Binds X.K fd2 ps []) (hr : Room k X.A) (hks : X.env.kindOf "super" = some .globalImplicit) (hkc : X.env.kindOf clsN = some .free) (hN : X.N[0]? = some ar.arg) (hsl : X.env.kindOf ar.arg = some .local)
    (ha : PA X (e :: es) t) (hat : (m == ("__class__" : Str)) = false := by decide)
    (hst : starEach (e :: es) X.env = (false, eval e X.env) :: starEach es X.env := by rfl) (hpl : (backTo pos (starEach es X.env)).any (·.1) = false := by rfl)
    (he : eval (.Call (.Attribute (.Call (.Name "super" p0) [] [] p1) m apos) (e :: es) [] pos) X.env = (do
      let ov ← attributeBase (.Call (.Name "super" p0) [] [] p1) m X.env (eval (.Call (.Name "super" p0) [] [] p1) X.env)
      standAt apos.atName
      let (f, first) ← holding [ov] (getMethod ov m pl)
      callWith pos f first (backTo pos (starEach (e :: es) X.env)) []) := by rfl) :
    SupRun X body (.Call (.Attribute (.Call (.Name "super" p0) [] [] p1) m apos) (e :: es) [] pos) (tSup C sp t) :=
  fun _ _ _ _ _ I h => super_run hks hkc hN hsl hfu lkf hp hcf hfile htop hcc lkcc hms M F hb hr ha hat hst hpl he I h
end
section
variable {X : Cx} {body rest : List Stmt} {call : Expr} {t : TE} {tr : TS} {pos px : Pos}
theorem sup_expr (hs : SupRun X body call t) (hr : PSs X rest tr) {pins : List (Addr × Obj)} {s : Shared} {σ : St} {H : Hp} {D : Ends} (I : Inv X pins σ H s)
    (h : t σ H fun _ H1 => tr D σ H1) (hi : interactive X.env = false := by rfl) (hw : swapsWith call none pos.line X.env = pure false := by rfl) : PySem.wpAt (model X.prog X.w) X.A (.func body X.env) (execs (.Expr call pos :: rest) X.env) (SP X pins D) X.xe s := by
  refine ks_wpAt_execs_cons (ks_wpAt_Expr_any (PySem.wpAt_mono (hs pins s σ H _ I h) (fun v s' q => ?_) fun _ _ z => z) hi hw)
  obtain ⟨x, H1, I1, _, q1⟩ := q
  exact PySem.wpAt_of_wpAny (hr.run pins s' σ H1 D I1 q1)
theorem sup_assign {i : Nat} {x : Str} (hs : SupRun X body call t) (hN : X.N.Nodup) (hi : X.N[i]? = some x) (hx : Loc X.env.scope x) (hf : X.fn x = true) (hr : PSs X rest tr)
    {pins : List (Addr × Obj)} {s : Shared} {σ : St} {H : Hp} {D : Ends} (I : Inv X pins σ H s)
    (h : t σ H fun v H1 => tr D (σ.set i (some v)) H1) (hw : swapsWith call (some (.Name x px)) pos.line X.env = pure false := by rfl) : PySem.wpAt (model X.prog X.w) X.A (.func body X.env) (execs (.Assign [.Name x px] call pos :: rest) X.env) (SP X pins D) X.xe s := by
  refine ks_wpAt_execs_cons (ks_wpAt_Assign_Name (PySem.wpAt_mono (hs pins s σ H _ I h) (fun v s' q => ?_) fun _ _ z => z) hw)
  obtain ⟨y, H1, I1, r1, q1⟩ := q
  exact store_ok I1 hN hi hx r1 (fun s2 I2 => PySem.wpAt_of_wpAny (hr.run pins s2 _ H1 D I2 q1)) (.inl hf)
theorem sup_ret (hs : SupRun X body call t) {pins : List (Addr × Obj)} {s : Shared} {σ : St} {H : Hp} {D : Ends} (I : Inv X pins σ H s)
    (h : t σ H D.rt) : PySem.wpAt (model X.prog X.w) X.A (.func body X.env) (execs [.Return (some call) pos] X.env) (SP X pins D) X.xe s := by
  refine ks_wpAt_execs_cons (ks_wpAt_Return_some (PySem.wpAt_mono (hs pins s σ H _ I h) (fun v s' q => ?_) fun _ _ z => z))
  obtain ⟨y, H1, I1, r1, q1⟩ := q
  exact ⟨y, σ, H1, I1, r1, q1⟩
end
end Mm

set_option maxHeartbeats 4000000
/-! the head's facts -/
namespace Mm
open PySem PySem.Spec L2 MM
open PyProof.Rows hiding St
structure IsiC (K : PySem.W.Frag) (C : Addr) : Prop where
  ha : PySem.W.findIn K (.ref C) "__class__" = some (some (.builtin "object.__class__"))
  hn : PySem.W.specialIn K (.builtin "object.__class__") "__get__" = some (some (.builtin "getset_descriptor.__get__"))
  htk : PySem.W.takesIn K (.builtin "object.__class__") = some true
  hm : PySem.W.mroIn K C (.type "object") = some true
/-! ### where things stand -/
def clsA (K : PySem.W.Frag) (C : Str) : Addr := He.ga K C
def metA (C m : Str) (K : PySem.W.Frag) : Addr := He.ma K (He.ga K C) m
def supA (C D m : Str) (K : PySem.W.Frag) : Addr := match PySem.W.ks_superIn K (He.ga K C) (He.ga K D) m with
  | some (some (.ref a)) => a
  | _ => 0
def getA (C m : Str) (K : PySem.W.Frag) : Addr := match PySem.W.recIn K (metA C m K) "property" with
  | some (.ref g :: _) => g
  | _ => 0
/-! ### a def anywhere -/
def fnWA (K : PySem.W.Frag) (a : Addr) : He.FnW := match K.lookup a with
  | some ⟨_, _, .func fd, _⟩ => some (fd.name, fd.qualname, fd.params, fd.body, fd.scope, fd.globals, fd.closure, fd.builtins)
  | _ => none
structure DfM where
  at_ : PySem.W.Frag → Addr
  name : Str
  qual : Str
  st : Stmt
  dfl : List He.Dv := []
  kwd : List (Str × He.Dv) := []
def DfM.val (d : DfM) : He.FnW := some (d.name, d.qual, defArgs d.st, .stmts (defBody d.st), defScope d.st, mainGlobals, [], builtinsNs)
def DfM.dvs (K : PySem.W.Frag) (d : DfM) : List V := d.dfl.map (He.Dv.v K)
def DfM.kws (K : PySem.W.Frag) (d : DfM) : List (Str × V) := d.kwd.map fun q => (q.1, q.2.v K)
def DfM.ok (K : PySem.W.Frag) (d : DfM) : Bool := PySem.W.keepIn K (.ref (d.at_ K)) && (match K.lookup (d.at_ K) with
  | some ⟨_, _, .func fd, _⟩ => PySem.W.codeIn K fd.code d.qual && (He.dflB K fd.defaults (d.dvs K) && He.kwdB K fd.kwdefaults (d.kws K))
  | _ => false)
theorem DfM.funD {K : PySem.W.Frag} {d : DfM} (e : fnWA K (d.at_ K) = d.val) (c : d.ok K = true) : ∃ fd, FunD K d.name d.qual (defArgs d.st) (defBody d.st) (defScope d.st) (d.dvs K) (d.kws K) (d.at_ K) fd := by
  obtain ⟨kp, c2⟩ := He.ba c
  unfold fnWA at e
  cases q : K.lookup (d.at_ K) with
  | none =>
    rw [q] at c2
    cases c2
  | some o =>
    obtain ⟨oc, od, dt, osl⟩ := o
    rw [q] at c2 e
    cases dt with
    | func fd =>
      obtain ⟨n1, n2, n3, n4, n5, n6, n7, n8, n9, n10, n11, n12, n13, n14, n15⟩ := fd
      have e2 : (some (n1, n2, n3, n4, n5, n6, n7, n15) : He.FnW) = some (d.name, d.qual, defArgs d.st, .stmts (defBody d.st), defScope d.st, mainGlobals, [], builtinsNs) := e
      simp only [Option.some.injEq, Prod.mk.injEq] at e2
      obtain ⟨h1, h2, h3, h4, h5, h6, h7, h8⟩ := e2
      subst h1 h2 h3 h4 h5 h6 h7 h8
      have c3 : (PySem.W.codeIn K n13 d.qual && (He.dflB K n8 (d.dvs K) && He.kwdB K n9 (d.kws K))) = true := c2
      obtain ⟨k1, k2⟩ := He.ba c3
      obtain ⟨k3, k4⟩ := He.ba k2
      exact ⟨_, ⟨oc, od, n8, n9, n10, n11, n12, n13, n14, osl, rfl, q, k1, He.dflB_ok k3, He.kwdB_ok k4⟩, kp⟩
    | _ => cases c2
/-! ### a def with super() -/
abbrev FnS : Type := Option (Str × Str × Arguments × FuncBody × Scope × Addr × List Str × Value × Addr)
def fnSA (K : PySem.W.Frag) (a : Addr) : FnS := match K.lookup a with
  | some ⟨_, _, .func fd, _⟩ => some (fd.name, fd.qualname, fd.params, fd.body, fd.scope, fd.globals, fd.closure.map (·.1), fd.defaults, fd.builtins)
  | _ => none
structure DfS where
  at_ : PySem.W.Frag → Addr
  name : Str
  qual : Str
  st : Stmt
  own : Str
def DfS.val (d : DfS) : FnS := some (d.name, d.qual, defArgs d.st, .stmts (defBody d.st), defScope d.st, mainGlobals, [clsN], .none, builtinsNs)
def cellB (K : PySem.W.Frag) (cl : List (Str × Addr)) (D : Addr) : Bool := match cl with
  | [(_, cc)] => (match K.lookup cc with
    | some ⟨_, _, .cell (some (.ref b)), _⟩ => decide (b = D)
    | _ => false)
  | _ => false
def DfS.ok (K : PySem.W.Frag) (d : DfS) : Bool := PySem.W.keepIn K (.ref (d.at_ K)) && (match K.lookup (d.at_ K) with
  | some ⟨_, _, .func fd, _⟩ => PySem.W.codeIn K fd.code d.qual && (codeFileIn K fd.code theFile && cellB K fd.closure (He.ga K d.own))
  | _ => false)
theorem DfS.funS {K : PySem.W.Frag} {d : DfS} (e : fnSA K (d.at_ K) = d.val) (c : d.ok K = true) : ∃ fd, FunS K d.name d.qual d.st (He.ga K d.own) (d.at_ K) fd := by
  obtain ⟨kp, c2⟩ := He.ba c
  unfold fnSA at e
  cases q : K.lookup (d.at_ K) with
  | none =>
    rw [q] at c2
    cases c2
  | some o =>
    obtain ⟨oc, od, dt, osl⟩ := o
    rw [q] at c2 e
    cases dt with
    | func fd =>
      obtain ⟨n1, n2, n3, n4, n5, n6, n7, n8, n9, n10, n11, n12, n13, n14, n15⟩ := fd
      have e2 : (some (n1, n2, n3, n4, n5, n6, n7.map (·.1), n8, n15) : FnS) = some (d.name, d.qual, defArgs d.st, .stmts (defBody d.st), defScope d.st, mainGlobals, [clsN], .none, builtinsNs) := e
      simp only [Option.some.injEq, Prod.mk.injEq] at e2
      obtain ⟨h1, h2, h3, h4, h5, h6, h7, h8, h9⟩ := e2
      have c3 : (PySem.W.codeIn K n13 d.qual && (codeFileIn K n13 theFile && cellB K n7 (He.ga K d.own))) = true := c2
      obtain ⟨k1, k2⟩ := He.ba c3
      obtain ⟨k3, k4⟩ := He.ba k2
      match n7, h7, k4 with
      | [(z, cc)], h7, k4 =>
        have hz : z = clsN := by simpa using h7
        subst h1 h2 h3 h4 h5 h6 h8 h9 hz
        have k5 : (match K.lookup cc with
          | some ⟨_, _, .cell (some (.ref b)), _⟩ => decide (b = He.ga K d.own)
          | _ => false) = true := k4
        cases q2 : K.lookup cc with
        | none => rw [q2] at k5; cases k5
        | some o2 =>
          obtain ⟨pc, pd, pt, psl⟩ := o2
          rw [q2] at k5
          cases pt with
          | cell v =>
            cases v with
            | none => cases k5
            | some v =>
              cases v with
              | ref b =>
                have eb : b = He.ga K d.own := of_decide_eq_true k5
                subst eb
                exact ⟨_, ⟨oc, od, n9, n10, n11, n12, n13, n14, osl, cc, pc, pd, psl, rfl, q, k1, k3, q2⟩, kp⟩
              | _ => cases k5
          | _ => cases k5
    | _ => cases c2
/-! ### more facts -/
inductive Fx where
  | sup (C D m : Str)
  | prop (C m : Str)
  | isi (C : Str)
def Fx.ok (K : PySem.W.Frag) : Fx → Bool
  | .sup C D m => decide (PySem.W.mroIn K (He.ga K C) (.ref (He.ga K D)) = some true) && ((PySem.W.clsIn K (He.ga K D)).isSome && ((PySem.W.clsIn K (He.ga K C)).isSome && (He.eqO (PySem.W.nsIn K cStatics "thirdparty.any") (some none) && (He.eqO (PySem.W.ks_superIn K (He.ga K C) (He.ga K D) m) (some (some (.ref (supA C D m K)))) && (decide (PySem.W.typeIn K (.ref (supA C D m K)) = some (.type "function")) && PySem.W.fnIn K (supA C D m K))))))
  | .prop C m => He.eqO (PySem.W.findIn K (.ref (He.ga K C)) m) (some (some (.ref (metA C m K)))) && (He.eqO (PySem.W.specialIn K (.ref (metA C m K)) "__get__") (some (some (.builtin "property.__get__"))) && (decide (PySem.W.takesIn K (.ref (metA C m K)) = some true) && (match PySem.W.recIn K (metA C m K) "property" with
    | some (.ref _ :: _) => true
    | _ => false)))
  | .isi C => He.eqO (PySem.W.findIn K (.ref (He.ga K C)) "__class__") (some (some (.builtin "object.__class__"))) && (He.eqO (PySem.W.specialIn K (.builtin "object.__class__") "__get__") (some (some (.builtin "getset_descriptor.__get__"))) && (decide (PySem.W.takesIn K (.builtin "object.__class__") = some true) && decide (PySem.W.mroIn K (He.ga K C) (.type "object") = some true)))
section
variable {K : PySem.W.Frag}
theorem sup_ok {C D m : Str} (c : (Fx.sup C D m).ok K = true) : SupM K (He.ga K C) (He.ga K D) m (supA C D m K) := by
  obtain ⟨c1, c⟩ := He.ba c
  obtain ⟨c2, c⟩ := He.ba c
  obtain ⟨c3, c⟩ := He.ba c
  obtain ⟨c4, c⟩ := He.ba c
  obtain ⟨c5, c⟩ := He.ba c
  obtain ⟨c6, c7⟩ := He.ba c
  exact ⟨of_decide_eq_true c1, c2, c3, He.eqO_ok c4, He.eqO_ok c5, of_decide_eq_true c6, c7⟩
theorem prop_ok {C m : Str} (c : (Fx.prop C m).ok K = true) : PropOf K (He.ga K C) m (metA C m K) (getA C m K) := by
  obtain ⟨c1, c⟩ := He.ba c
  obtain ⟨c2, c⟩ := He.ba c
  obtain ⟨c3, c4⟩ := He.ba c
  refine ⟨He.eqO_ok c1, He.eqO_ok c2, of_decide_eq_true c3, ?_⟩
  unfold getA
  have c5 : (match PySem.W.recIn K (metA C m K) "property" with
    | some (.ref _ :: _) => true
    | _ => false) = true := c4
  cases q : PySem.W.recIn K (metA C m K) "property" with
  | none => rw [q] at c5; cases c5
  | some l =>
    rw [q] at c5
    cases l with
    | nil => cases c5
    | cons v l =>
      cases v with
      | ref g => exact ⟨l, rfl⟩
      | _ => cases c5
theorem isi_ok {C : Str} (c : (Fx.isi C).ok K = true) : IsiC K (He.ga K C) := by
  obtain ⟨c1, c⟩ := He.ba c
  obtain ⟨c2, c⟩ := He.ba c
  obtain ⟨c3, c4⟩ := He.ba c
  exact ⟨He.eqO_ok c1, He.eqO_ok c2, of_decide_eq_true c3, of_decide_eq_true c4⟩
end
/-! ### what is looked at: the module's names, the classes' methods, codes, cells, getters -/
def kids (o : Obj) : List Addr := match o.data with
  | .dict es _ => es.toList.flatMap fun e => He.refV e.val
  | .func fd => He.refV fd.code ++ (He.refV fd.defaults ++ (He.refV fd.kwdefaults ++ fd.closure.map (·.2)))
  | .cls cd => [cd.ns]
  | .fields vs => (match o.cls with
    | .type n => if n == "property" then vs.toList.flatMap He.refV else []
    | _ => [])
  | _ => []
def dfsL (g : Addr → Option Obj) : Nat → List (Nat × Addr) → List Addr
  | 0, _ => []
  | _ + 1, [] => []
  | f + 1, (0, a) :: q => a :: dfsL g f q
  | f + 1, (d + 1, a) :: q => a :: dfsL g f ((match g a with
    | some o => (kids o).map fun b => (d, b)
    | none => []) ++ q)
/-! ### the Hook -/
abbrev AlM : Type := Bool × List He.FnW × List FnS
def obsM (fa : List He.Fa) (fx : List Fx) (fn : List DfM) (fs : List DfS) (K : PySem.W.Frag) : AlM := ((fa.all fun f => f.ok K) && ((fx.all fun f => f.ok K) && ((fn.all fun d => d.ok K) && fs.all fun d => d.ok K)), fn.map fun d => fnWA K (d.at_ K), fs.map fun d => fnSA K (d.at_ K))
def valM (fn : List DfM) (fs : List DfS) : AlM := (true, fn.map DfM.val, fs.map DfS.val)
def SaysM (fa : List He.Fa) (fx : List Fx) (fn : List DfM) (fs : List DfS) (K : PySem.W.Frag) : Prop := obsM fa fx fn fs K = valM fn fs
def obsMG (n : Nat) (fa : List He.Fa) (fx : List Fx) (fn : List DfM) (fs : List DfS) (g : Addr → Option Obj) : AlM := obsM fa fx fn fs (He.frG g (cStatics :: dfsL g 4000 [(n, mainGlobals)]))
def hookM (n : Nat) (fa : List He.Fa) (fx : List Fx) (fn : List DfM) (fs : List DfS) : PySem.W.Hook where
  α := AlM
  obs := fun s => obsMG n fa fx fn fs s.heap.get?
  val := fun _ => valM fn fs
  says := fun _ h => ∃ K : PySem.W.Frag, K.In h ∧ SaysM fa fx fn fs K
  of := fun _ _ e => ⟨_, He.frG_in, e⟩
  keeps := fun _ _ _ ⟨K, hK, c⟩ k => ⟨K, PySem.W.Frag.In.keeps hK k, c⟩
theorem obsMG_eq {n : Nat} {fa : List He.Fa} {fx : List Fx} {fn : List DfM} {fs : List DfS} {g : Addr → Option Obj} {s : Shared} (h : ∀ a, g a = s.heap.get? a) : obsMG n fa fx fn fs g = (hookM n fa fx fn fs).obs s := by
  have e : g = s.heap.get? := funext h
  rw [e] <;> rfl
section
variable {fa : List He.Fa} {fx : List Fx} {fn : List DfM} {fs : List DfS} {K : PySem.W.Frag}
theorem SaysM.all (c : SaysM fa fx fn fs K) : (fa.all fun f => f.ok K) = true ∧ (fx.all fun f => f.ok K) = true ∧ (fn.all fun d => d.ok K) = true ∧ (fs.all fun d => d.ok K) = true := by
  have c0 : ((fa.all fun f => f.ok K) && ((fx.all fun f => f.ok K) && ((fn.all fun d => d.ok K) && fs.all fun d => d.ok K))) = true := congrArg (fun z : AlM => z.1) c
  obtain ⟨c1, c0⟩ := He.ba c0
  obtain ⟨c2, c0⟩ := He.ba c0
  obtain ⟨c3, c4⟩ := He.ba c0
  exact ⟨c1, c2, c3, c4⟩
theorem SaysM.fact (c : SaysM fa fx fn fs K) (i : Nat) {f : He.Fa} (h : fa[i]? = some f := by rfl) : f.ok K = true := List.all_eq_true.mp c.all.1 f (List.mem_of_getElem? h)
theorem SaysM.more (c : SaysM fa fx fn fs K) (i : Nat) {f : Fx} (h : fx[i]? = some f := by rfl) : f.ok K = true := List.all_eq_true.mp c.all.2.1 f (List.mem_of_getElem? h)
theorem SaysM.def_ (c : SaysM fa fx fn fs K) (i : Nat) {d : DfM} (h : fn[i]? = some d := by rfl) : ∃ fd, FunD K d.name d.qual (defArgs d.st) (defBody d.st) (defScope d.st) (d.dvs K) (d.kws K) (d.at_ K) fd := by
  have e : fn.map (fun d => fnWA K (d.at_ K)) = fn.map DfM.val := congrArg (fun z : AlM => z.2.1) c
  have e2 : (fn.map fun d => fnWA K (d.at_ K))[i]? = (fn.map DfM.val)[i]? := by rw [e]
  rw [List.getElem?_map, List.getElem?_map, h] at e2
  exact DfM.funD (Option.some.inj e2) (List.all_eq_true.mp c.all.2.2.1 d (List.mem_of_getElem? h))
theorem SaysM.sup (c : SaysM fa fx fn fs K) (i : Nat) {d : DfS} (h : fs[i]? = some d := by rfl) : ∃ fd, FunS K d.name d.qual d.st (He.ga K d.own) (d.at_ K) fd := by
  have e : fs.map (fun d => fnSA K (d.at_ K)) = fs.map DfS.val := congrArg (fun z : AlM => z.2.2) c
  have e2 : (fs.map fun d => fnSA K (d.at_ K))[i]? = (fs.map DfS.val)[i]? := by rw [e]
  rw [List.getElem?_map, List.getElem?_map, h] at e2
  exact DfS.funS (Option.some.inj e2) (List.all_eq_true.mp c.all.2.2.2 d (List.mem_of_getElem? h))
end
end Mm

set_option maxHeartbeats 0
/-! the head, run -/
namespace Mm
open PySem PySem.Spec L2 MM
open PyProof.Rows hiding St
def d0 : DfM := ⟨fun K => He.ga K "_law_box", "_law_box", "_law_box", (top 65), [], []⟩
def d1 : DfM := ⟨fun K => He.ga K "_law_take", "_law_take", "_law_take", (top 66), [], []⟩
def d2 : DfM := ⟨fun K => He.ga K "_law_letters", "_law_letters", "_law_letters", (top 67), [], []⟩
def d3 : DfM := ⟨fun K => He.ga K "_law_words", "_law_words", "_law_words", (top 68), [], []⟩
def d4 : DfM := ⟨fun K => He.ga K "_law_outs", "_law_outs", "_law_outs", (top 69), [], []⟩
def d5 : DfM := ⟨fun K => He.ga K "_law_person", "_law_person", "_law_person", (top 70), [], []⟩
def d6 : DfM := ⟨fun K => He.ga K "_law_folk", "_law_folk", "_law_folk", (top 71), [], []⟩
def d7 : DfM := ⟨fun K => He.ga K "_law_own", "_law_own", "_law_own", (top 72), [], []⟩
def d8 : DfM := ⟨fun K => He.ga K "_law_pattern", "_law_pattern", "_law_pattern", (top 73), [], []⟩
def d9 : DfM := ⟨fun K => He.ga K "_law_stage", "_law_stage", "_law_stage", (top 74), [], []⟩
def d10 : DfM := ⟨fun K => He.ga K "check_size", "check_size", "check_size", (top 24), [], []⟩
def d11 : DfM := ⟨metA "Cast" "__init__", "__init__", "Cast.__init__", (inClass (top 63) 0), [], []⟩
def d12 : DfM := ⟨fun K => He.ga K "check_sizes", "check_sizes", "check_sizes", (top 27), [], []⟩
def d13 : DfM := ⟨metA "Cast" "put", "put", "Cast.put", (inClass (top 63) 1), [], []⟩
def d14 : DfM := ⟨fun K => He.ga K "check_word", "check_word", "check_word", (top 25), [], []⟩
def d15 : DfM := ⟨fun K => He.ga K "all_words", "all_words", "all_words", (top 54), [], []⟩
def d16 : DfM := ⟨fun K => He.ga K "check_person", "check_person", "check_person", (top 55), [], []⟩
def d17 : DfM := ⟨fun K => He.ga K "mask_of", "mask_of", "mask_of", (top 15), [], []⟩
def d18 : DfM := ⟨fun K => He.ga K "masks_of", "masks_of", "masks_of", (top 16), [], []⟩
def d19 : DfM := ⟨fun K => He.ga K "bits", "bits", "bits", (top 14), [], []⟩
def d20 : DfM := ⟨metA "Table" "__init__", "__init__", "Table.__init__", (inClass (top 30) 1), [], []⟩
def d21 : DfM := ⟨metA "Person" "heard", "heard", "Person.heard", (inClass (top 56) 1), [], []⟩
def d22 : DfM := ⟨metA "Doubter" "heard", "heard", "Person.heard", (inClass (top 56) 1), [], []⟩
def d23 : DfM := ⟨metA "Knower" "heard", "heard", "Person.heard", (inClass (top 56) 1), [], []⟩
def d24 : DfM := ⟨metA "KnowingDoubter" "heard", "heard", "Person.heard", (inClass (top 56) 1), [], []⟩
def d25 : DfM := ⟨metA "Person" "said", "said", "Person.said", (inClass (top 56) 2), [], []⟩
def d26 : DfM := ⟨supA "Doubter" "Doubter" "said", "said", "Person.said", (inClass (top 56) 2), [], []⟩
def d27 : DfM := ⟨supA "Knower" "Knower" "said", "said", "Person.said", (inClass (top 56) 2), [], []⟩
def d28 : DfM := ⟨supA "KnowingDoubter" "Doubter" "said", "said", "Person.said", (inClass (top 56) 2), [], []⟩
def d29 : DfM := ⟨metA "Person" "__init__", "__init__", "Person.__init__", (inClass (top 56) 0), [], []⟩
def d30 : DfM := ⟨metA "Doubter" "__init__", "__init__", "Person.__init__", (inClass (top 56) 0), [], []⟩
def d31 : DfM := ⟨supA "Knower" "Knower" "__init__", "__init__", "Person.__init__", (inClass (top 56) 0), [], []⟩
def d32 : DfM := ⟨supA "KnowingDoubter" "Knower" "__init__", "__init__", "Person.__init__", (inClass (top 56) 0), [], []⟩
def d33 : DfM := ⟨getA "Person" "table", "table", "Person.table", (inClass (top 56) 3), [], []⟩
def d34 : DfM := ⟨getA "Doubter" "table", "table", "Person.table", (inClass (top 56) 3), [], []⟩
def d35 : DfM := ⟨getA "Knower" "table", "table", "Person.table", (inClass (top 56) 3), [], []⟩
def d36 : DfM := ⟨getA "KnowingDoubter" "table", "table", "Person.table", (inClass (top 56) 3), [], []⟩
def d37 : DfM := ⟨fun K => He.ga K "_law_made", "_law_made", "_law_made", (top 75), [.int 0], []⟩
def d38 : DfM := ⟨fun K => He.ga K "_law_cast", "_law_cast", "_law_cast", (top 76), [], []⟩
def d39 : DfM := ⟨fun K => He.ga K "_law_won", "_law_won", "_law_won", (top 77), [], []⟩
def d40 : DfM := ⟨fun K => He.ga K "_law_open", "_law_open", "_law_open", (top 78), [], []⟩
def d41 : DfM := ⟨fun K => He.ga K "_law_after", "_law_after", "_law_after", (top 79), [], []⟩
def d42 : DfM := ⟨fun K => He.ga K "_law_closed", "_law_closed", "_law_closed", (top 80), [], []⟩
def d43 : DfM := ⟨fun K => He.ga K "_law_apart", "_law_apart", "_law_apart", (top 81), [], []⟩
def d44 : DfM := ⟨fun K => He.ga K "_law_subsets", "_law_subsets", "_law_subsets", (top 82), [], []⟩
def d45 : DfM := ⟨fun K => He.ga K "_law_safe", "_law_safe", "_law_safe", (top 88), [], []⟩
def d46 : DfM := ⟨fun K => He.ga K "_law_is_int", "_law_is_int", "_law_is_int", (top 83), [], []⟩
def d47 : DfM := ⟨fun K => He.ga K "_law_is_words", "_law_is_words", "_law_is_words", (top 84), [], []⟩
def d48 : DfM := ⟨metA "Cast" "letters", "letters", "Cast.letters", (inClass (top 63) 4), [], []⟩
def d49 : DfM := ⟨metA "Cast" "__contains__", "__contains__", "Cast.__contains__", (inClass (top 63) 10), [], []⟩
def d50 : DfM := ⟨metA "Cast" "__getitem__", "__getitem__", "Cast.__getitem__", (inClass (top 63) 9), [], []⟩
def d51 : DfM := ⟨metA "Cast" "__len__", "__len__", "Cast.__len__", (inClass (top 63) 12), [], []⟩
def d52 : DfM := ⟨fun K => He.ga K "_law_is", "_law_is", "_law_is", (top 85), [], []⟩
def d53 : DfM := ⟨metA "Table" "rows", "rows", "Table.rows", (inClass (top 30) 6), [], []⟩
def d54 : DfM := ⟨fun K => He.ga K "_law_same", "_law_same", "_law_same", (top 86), [], []⟩
def d55 : DfM := ⟨fun K => He.ga K "_law_cast_is", "_law_cast_is", "_law_cast_is", (top 87), [], []⟩
def d56 : DfM := ⟨fun K => He.ga K "check_pattern", "check_pattern", "check_pattern", (top 34), [], []⟩
def d57 : DfM := ⟨fun K => He.ga K "check_question", "check_question", "check_question", (top 37), [], []⟩
def d58 : DfM := ⟨fun K => He.ga K "people_at", "people_at", "people_at", (top 35), [], []⟩
def d59 : DfM := ⟨metA "Table" "__getitem__", "__getitem__", "Table.__getitem__", (inClass (top 30) 11), [], []⟩
def d60 : DfM := ⟨fun K => He.ga K "spoken", "spoken", "spoken", (top 38), [], []⟩
def d61 : DfM := ⟨fun K => He.ga K "steps_from", "steps_from", "steps_from", (top 39), [], []⟩
def d62 : DfM := ⟨fun K => He.ga K "find_book", "find_book", "find_book", (top 43), [], []⟩
def d63 : DfM := ⟨fun K => He.ga K "apart_words", "apart_words", "apart_words", (top 44), [], []⟩
def d64 : DfM := ⟨fun K => He.ga K "most_friends", "most_friends", "most_friends", (top 46), [], []⟩
def d65 : DfM := ⟨fun K => He.ga K "first_friends", "first_friends", "first_friends", (top 47), [], []⟩
def d66 : DfM := ⟨fun K => He.ga K "greatest_book", "greatest_book", "greatest_book", (top 48), [], []⟩
def d67 : DfM := ⟨fun K => He.ga K "check_words", "check_words", "check_words", (top 26), [], []⟩
def d68 : DfM := ⟨fun K => He.ga K "check_book", "check_book", "check_book", (top 50), [], []⟩
def d69 : DfM := ⟨metA "Cast" "check_letters", "check_letters", "Cast.check_letters", (inClass (top 63) 3), [], []⟩
def d70 : DfM := ⟨metA "Cast" "informed", "informed", "Cast.informed", (inClass (top 63) 7), [], []⟩
def d71 : DfM := ⟨fun K => He.ga K "words_of", "words_of", "words_of", (top 49), [], []⟩
def d72 : DfM := ⟨fun K => He.ga K "skipped_too", "skipped_too", "skipped_too", (top 40), [], []⟩
def d73 : DfM := ⟨fun K => He.ga K "next_layer", "next_layer", "next_layer", (top 41), [], []⟩
def d74 : DfM := ⟨fun K => He.ga K "least_melt", "least_melt", "least_melt", (top 42), [], []⟩
def d75 : DfM := ⟨fun K => He.ga K "clash_in", "clash_in", "clash_in", (top 51), [], []⟩
def d76 : DfM := ⟨fun K => He.ga K "first_clash", "first_clash", "first_clash", (top 52), [], [("informed", .str "")]⟩
def d77 : DfM := ⟨fun K => He.ga K "law", "law", "law", (top 89), [], []⟩
def z0 : DfS := ⟨metA "Doubter" "said", "said", "Doubter.said", (inClass (top 58) 0), "Doubter"⟩
def z1 : DfS := ⟨metA "Knower" "said", "said", "Knower.said", (inClass (top 57) 1), "Knower"⟩
def z2 : DfS := ⟨supA "KnowingDoubter" "Knower" "said", "said", "Doubter.said", (inClass (top 58) 0), "Doubter"⟩
def z3 : DfS := ⟨supA "KnowingDoubter" "KnowingDoubter" "said", "said", "Knower.said", (inClass (top 57) 1), "Knower"⟩
def z4 : DfS := ⟨metA "KnowingDoubter" "said", "said", "KnowingDoubter.said", (inClass (top 59) 0), "KnowingDoubter"⟩
def z5 : DfS := ⟨metA "Knower" "__init__", "__init__", "Knower.__init__", (inClass (top 57) 0), "Knower"⟩
def z6 : DfS := ⟨metA "KnowingDoubter" "__init__", "__init__", "Knower.__init__", (inClass (top 57) 0), "Knower"⟩
def fns : List DfM := [d0, d1, d2, d3, d4, d5, d6, d7, d8, d9, d10, d11, d12, d13, d14, d15, d16, d17, d18, d19, d20, d21, d22, d23, d24, d25, d26, d27, d28, d29, d30, d31, d32, d33, d34, d35, d36, d37, d38, d39, d40, d41, d42, d43, d44, d45, d46, d47, d48, d49, d50, d51, d52, d53, d54, d55, d56, d57, d58, d59, d60, d61, d62, d63, d64, d65, d66, d67, d68, d69, d70, d71, d72, d73, d74, d75, d76, d77]
def fss : List DfS := [z0, z1, z2, z3, z4, z5, z6]
def fas : List He.Fa := [.glo "Table", .glo "Cast", .glo "Person", .glo "Doubter", .glo "Knower", .glo "KnowingDoubter", .free "len", .free "int", .free "abs", .free "min", .free "max", .free "str", .free "list", .free "tuple", .free "dict", .free "set", .free "range", .free "sorted", .free "enumerate", .free "isinstance", .free "bool", .free "super", .int "GREATEST_SIZE" 6, .int "MOST_SIGNS" 12, .int "MOST_PEOPLE" 8, .str "LETTERS" "abcdefghijklmnopqrstuvwxyz", .cls "Table", .mkr "Table", .cls "Cast", .mkr "Cast", .cls "Person", .mkr "Person", .cls "Doubter", .mkr "Doubter", .cls "Knower", .mkr "Knower", .cls "KnowingDoubter", .mkr "KnowingDoubter", .noat "Table" "size", .noat "Table" "masks", .noat "Table" "cells", .noat "Cast" "size", .noat "Cast" "folk", .noat "Cast" "roster", .noat "Person" "size", .noat "Person" "ears", .noat "Person" "mouths", .noat "Person" "sure_words", .noat "Doubter" "size", .noat "Doubter" "ears", .noat "Doubter" "mouths", .noat "Doubter" "sure_words", .noat "Knower" "size", .noat "Knower" "ears", .noat "Knower" "mouths", .noat "Knower" "sure_words", .noat "KnowingDoubter" "size", .noat "KnowingDoubter" "ears", .noat "KnowingDoubter" "mouths", .noat "KnowingDoubter" "sure_words", .glo "_law_box", .glo "_law_take", .glo "_law_letters", .glo "_law_words", .glo "_law_outs", .glo "_law_person", .glo "_law_folk", .glo "_law_own", .glo "_law_pattern", .glo "_law_stage", .glo "check_size", .glo "check_sizes", .meth "Cast" "put", .glo "check_word", .glo "all_words", .glo "check_person", .glo "mask_of", .glo "masks_of", .glo "bits", .meth "Person" "heard", .meth "Doubter" "heard", .meth "Knower" "heard", .meth "KnowingDoubter" "heard", .meth "Person" "said", .meth "Doubter" "said", .meth "Knower" "said", .meth "KnowingDoubter" "said", .glo "_law_made", .glo "_law_cast", .glo "_law_won", .glo "_law_open", .glo "_law_after", .glo "_law_closed", .glo "_law_apart", .glo "_law_subsets", .glo "_law_safe", .glo "_law_is_int", .glo "_law_is_words", .meth "Cast" "letters", .meth "Cast" "__contains__", .meth "Cast" "__getitem__", .meth "Cast" "__len__", .glo "_law_is", .meth "Table" "rows", .glo "_law_same", .glo "_law_cast_is", .glo "check_pattern", .glo "check_question", .glo "people_at", .meth "Table" "__getitem__", .glo "spoken", .glo "steps_from", .glo "find_book", .glo "apart_words", .glo "most_friends", .glo "first_friends", .glo "greatest_book", .glo "check_words", .glo "check_book", .meth "Cast" "check_letters", .meth "Cast" "informed", .glo "words_of", .glo "skipped_too", .glo "next_layer", .glo "least_melt", .glo "clash_in", .glo "first_clash", .glo "law"]
def fxs : List Fx := [.isi "Table", .sup "Doubter" "Doubter" "said", .sup "Knower" "Knower" "said", .sup "KnowingDoubter" "Doubter" "said", .sup "KnowingDoubter" "Knower" "said", .sup "KnowingDoubter" "KnowingDoubter" "said", .sup "Knower" "Knower" "__init__", .sup "KnowingDoubter" "Knower" "__init__", .prop "Person" "table", .prop "Doubter" "table", .prop "Knower" "table", .prop "KnowingDoubter" "table"]
abbrev Rw : PySem.W.OpenRow := PySem.W.OpenLaw.row PySem.Challenge.rw_murmurline_k49_whole_greatest_book
abbrev hk : PySem.W.Hook := hookM 5 fas fxs fns fss
def obR (s : PySem.W.SharedT) : AlM := obsMG 5 fas fxs fns fss (HandSHeadRun.getT s)
theorem obR_eq (s : PySem.W.SharedT) : obR s = hk.obs s.abs := obsMG_eq (HandSHeadRun.getT_eq s)
def names0 : List PySem.Str := ["_wall", "__name__", "MurmurError", "BadSize", "BadTable", "UnknownWord", "SizeMismatch", "BadPerson", "BadLetter", "UnknownPerson", "TooMany", "BadPattern", "SameWord", "bits", "mask_of", "masks_of", "image", "product", "converse", "greatest_behind", "greatest_ahead", "GREATEST_SIZE", "check_size", "check_word", "check_words", "check_sizes", "written", "table_of_masks", "Table", "product_inside"]
def names1 : List PySem.Str := ["MOST_SIGNS", "check_pattern", "people_at", "check_question", "spoken", "steps_from", "skipped_too", "next_layer", "least_melt", "find_book", "apart_words", "most_friends", "first_friends", "greatest_book", "words_of", "check_book", "clash_in", "first_clash", "all_words", "check_person", "Person", "Knower", "Doubter", "KnowingDoubter", "LETTERS", "MOST_PEOPLE", "Cast", "_law_box", "_law_take", "_law_letters"]
def names2 : List PySem.Str := ["_law_words", "_law_outs", "_law_person", "_law_folk", "_law_own", "_law_pattern", "_law_stage", "_law_made", "_law_cast", "_law_won", "_law_open", "_law_after", "_law_closed", "_law_apart", "_law_subsets", "_law_is_int", "_law_is_words", "_law_is", "_law_same", "_law_cast_is", "_law_safe"]
def names : List PySem.Str := names0 ++ names1 ++ names2
theorem obsM_two {fa : List He.Fa} {fx : List Fx} {fn : List DfM} {fs : List DfS} {K : PySem.W.Frag} (h1 : obsM fa fx [] [] K = valM [] []) (h2 : obsM [] [] fn fs K = valM fn fs) : obsM fa fx fn fs K = valM fn fs := by
  have a : ((fa.all fun f => f.ok K) && ((fx.all fun f => f.ok K) && (true && true))) = true := congrArg (fun z : AlM => z.1) h1
  have b : (true && (true && ((fn.all fun d => d.ok K) && fs.all fun d => d.ok K))) = true := congrArg (fun z : AlM => z.1) h2
  have c : fn.map (fun d => fnWA K (d.at_ K)) = fn.map DfM.val := congrArg (fun z : AlM => z.2.1) h2
  have d : fs.map (fun d => fnSA K (d.at_ K)) = fs.map DfS.val := congrArg (fun z : AlM => z.2.2) h2
  obtain ⟨a1, a2⟩ := He.ba a
  obtain ⟨a2, _⟩ := He.ba a2
  unfold obsM valM
  rw [c, d, a1, a2, show ((fn.all fun d => d.ok K) && fs.all fun d => d.ok K) = true from b]
  rfl
/-- the run's parts, each reckoned by itself, make the run's whole -/
theorem run_parts {r : PySem.W.OpenRow} {q : Program} {n M : Nat} {loose : List PySem.Str} {fa : List He.Fa} {fx : List Fx} {fn : List DfM} {fs : List DfS} {w : World}
    (h0 : ∀ os : PySem.OsState, (HandSHeadRun.endF (HandSHeadRun.stepQ (HandSHeadRun.denQ HandSHeadRun.tabQ) r.prog w) M r.prog w os).map (fun s => (HandSHeadRun.looksF r.prog (PySem.W.boot_heap w.params) s.abs, HandSHeadRun.seenQ q loose (importedModules r.prog.main.body) (fun s => PySem.W.xlAt q [] s && PySem.W.recOk r.toRowW.records s) s.abs)) = some (true, PySem.W.openGood q loose))
    (h1 : ∀ os : PySem.OsState, (HandSHeadRun.endF (HandSHeadRun.stepQ (HandSHeadRun.denQ HandSHeadRun.tabQ) r.prog w) M r.prog w os).map (fun s => obsMG n fa fx [] [] (HandSHeadRun.getT s)) = some (valM [] []))
    (h2 : ∀ os : PySem.OsState, (HandSHeadRun.endF (HandSHeadRun.stepQ (HandSHeadRun.denQ HandSHeadRun.tabQ) r.prog w) M r.prog w os).map (fun s => obsMG n [] [] fn fs (HandSHeadRun.getT s)) = some (valM fn fs)) :
    HandSHeadRun.RunEq r q (hookM n fa fx fn fs) (fun s => obsMG n fa fx fn fs (HandSHeadRun.getT s)) M loose w := by
  intro os
  have h0 := h0 os
  have h1 := h1 os
  have h2 := h2 os
  generalize HandSHeadRun.endF (HandSHeadRun.stepQ (HandSHeadRun.denQ HandSHeadRun.tabQ) r.prog w) M r.prog w os = E at h0 h1 h2 ⊢
  cases E with
  | none => cases h1
  | some s =>
    have e0 := Option.some.inj h0
    have e1 := congrArg Prod.fst e0
    have e2 := congrArg Prod.snd e0
    have e3 : obsMG n fa fx fn fs (HandSHeadRun.getT s) = valM fn fs := obsM_two (Option.some.inj h1) (Option.some.inj h2)
    exact congrArg some (Prod.ext e1 (Prod.ext e2 e3))
theorem run0 (w : World) (os : PySem.OsState) : (HandSHeadRun.endF (HandSHeadRun.stepQ (HandSHeadRun.denQ HandSHeadRun.tabQ) Rw.prog w) 40000 Rw.prog w os).map (fun s => (HandSHeadRun.looksF Rw.prog (PySem.W.boot_heap w.params) s.abs, HandSHeadRun.seenQ (PySem.W.view Rw.prog [89]) names (importedModules Rw.prog.main.body) (fun s => PySem.W.xlAt (PySem.W.view Rw.prog [89]) [] s && PySem.W.recOk Rw.toRowW.records s) s.abs)) = some (true, PySem.W.openGood (PySem.W.view Rw.prog [89]) names) := by kernel_rfl
theorem run1 (w : World) (os : PySem.OsState) : (HandSHeadRun.endF (HandSHeadRun.stepQ (HandSHeadRun.denQ HandSHeadRun.tabQ) Rw.prog w) 40000 Rw.prog w os).map (fun s => obsMG 5 fas fxs [] [] (HandSHeadRun.getT s)) = some (valM [] []) := by kernel_rfl
theorem run2 (w : World) (os : PySem.OsState) : (HandSHeadRun.endF (HandSHeadRun.stepQ (HandSHeadRun.denQ HandSHeadRun.tabQ) Rw.prog w) 40000 Rw.prog w os).map (fun s => obsMG 5 [] [] fns fss (HandSHeadRun.getT s)) = some (valM fns fss) := by kernel_rfl
theorem runR (w : World) : HandSHeadRun.RunEq Rw (PySem.W.view Rw.prog [89]) hk obR 40000 names w := run_parts (r := Rw) (q := PySem.W.view Rw.prog [89]) (n := 5) (M := 40000) (loose := names) (fa := fas) (fx := fxs) (fn := fns) (fs := fss) (w := w) (run0 w) (run1 w) (run2 w)
end Mm

set_option maxHeartbeats 4000000
/-! people -/
namespace Mm
open PySem PySem.Spec L2 MM
open PyProof.Rows hiding St
/-! ### what a person is -/
structure PD where
  hears : List Nat
  says : List (List Nat)
structure PD.Ok (d : PD) : Prop where
  n1 : 1 ≤ d.hears.length
  n6 : d.hears.length ≤ 6
  hl : ∀ h ∈ d.hears, h < d.hears.length
  sl : d.says.length = d.hears.length
  sne : ∀ r ∈ d.says, r ≠ []
  slen : ∀ r ∈ d.says, r.length ≤ 1000
  slt : ∀ r ∈ d.says, ∀ x ∈ r, x < d.hears.length
def said0 (d : PD) (w : Nat) : List Nat := (List.range d.hears.length).filter fun o => decide (o ∈ d.says.getD (d.hears.getD w 0) [])
def dou0 (d : PD) (w : Nat) : List Nat := (List.range d.hears.length).filter fun o => decide (o ∈ said0 d w) || decide (o = w)
def perFs (n : Nat) (e mo : Addr) (sw : Option Addr) : List (Str × V) := ("size", vi n) :: ("ears", V.ref e) :: ("mouths", V.ref mo) :: (match sw with
  | none => []
  | some a => [("sure_words", V.ref a)])
def BaseAt (C : Addr) (H : Hp) (p : Addr) (d : PD) (sw : Option Addr) : Prop := ∃ (dx e mo : Addr) (ts : List Addr), H p = some (.ins C dx (perFs d.hears.length e mo sw)) ∧ H e = some (.tup (vn d.hears)) ∧ H mo = some (.tup (ts.map V.ref)) ∧ Paired (fun t r => H t = some (.tup (vn r))) ts d.says
theorem BaseAt.same {C : Addr} {H H' : Hp} {p : Addr} {d : PD} {sw : Option Addr} (h : BaseAt C H p d sw) (s : Same H H') : BaseAt C H' p d sw := by
  obtain ⟨dx, e, mo, ts, h1, h2, h3, h4⟩ := h
  exact ⟨dx, e, mo, ts, s _ _ h1, s _ _ h2, s _ _ h3, paired_map h4 fun _ _ q => s _ _ q⟩
structure PersC (K : PySem.W.Frag) (C : Addr) : Prop where
  cl : Cls K C
  nSize : NoAttr K C "size"
  nEars : NoAttr K C "ears"
  nMouths : NoAttr K C "mouths"
  nSure : NoAttr K C "sure_words"
section
variable {P : Program} {w : World} {K : PySem.W.Frag} {mg : Str → Option Value} {base : Heap}
abbrev s_all_words : Stmt := (top 54)
abbrev N_all_words : List Str := ["size", "words", "word"]
theorem sc_all_words : FnScope N_all_words ["size", "words"] (defScope s_all_words) := ⟨rfl, rfl, rfl, by decide +kernel, rfl, by decide +kernel, by decide +kernel⟩
def sp_all_words (K : PySem.W.Frag) : Sp := fun vs H Q _ => ∃ (n : Nat) (a : Addr) (ws : List Nat), vs = [vi n, .ref a] ∧ SqL K H a (vn ws) ∧ (∀ x ∈ ws, x < n) ∧ Q (.bl true) H
theorem g_all_words (F : Fn K mg "all_words" s_all_words) : G P w K mg base 1 "all_words" ["size", "words"] (sp_all_words K) := by
  refine g_of F sc_all_words (fun _ _ _ _ _ _ us hl => match us, hl with | [_, _], _ => rfl) (fun vs H Q E h => ?_) (fun f cdv A outer s H vs Q E hr h => ?_)
  · obtain ⟨n, a, ws, rfl, _⟩ := h
    rfl
  · obtain ⟨n, a, ws, rfl, hS, hw, k⟩ := h
    refine ⟨_, (pss_cons (ps_for PassesOwn.never rfl (pi_listK (K := K) rfl (pv 1)) (pg_name (i := 2) sc_all_words.nd rfl (Or.inl rfl)) (pss_one (ps_if (PW.pt (pw_or (pt_cmpR op_lt (pv 2) pe_int (nomark _)) (pw_or1 (pt_cmpR op_ge (pv 2) (pv 0) (nomark _))))) (pss_one (ps_ret pe_bl)) pss_nil)))
      (pss_one (ps_ret pe_bl))), ?_⟩
    refine ⟨_, rfl, a, rfl, ⟨_, hS⟩, for_list_w (K := K) (a := a) (xs := vn ws) (fun i σ H' => ∃ v, H' = H ∧ σ = [some (vi n), some (.ref a), v]) ⟨_, rfl, rfl⟩ (fun i σ H' _ ⟨_, e, _⟩ => by rw [e]; exact hS) ?_ ?_⟩
    · rintro i x σ H' hx ⟨v, rfl, rfl⟩ N hN
      obtain ⟨m, hm, rfl⟩ := vn_get hx
      have hlt := hw m (List.mem_of_getElem? hm)
      refine ⟨_, rfl, _, _, rfl, rfl, _, rfl, iteD (fun c => absurd c (by omega)) fun _ => ⟨_, rfl, _, rfl, _, _, rfl, rfl, _, rfl, iteD (fun c => absurd c (by omega)) fun _ => hN _ _ ⟨_, rfl, rfl⟩⟩⟩
    · rintro σ H' ⟨v, rfl, rfl⟩
      exact k
abbrev s_check_person : Stmt := (top 55)
abbrev N_check_person : List Str := ["hears", "says", "size", "row"]
theorem sc_check_person : FnScope N_check_person ["hears", "says"] (defScope s_check_person) := ⟨rfl, rfl, rfl, by decide +kernel, rfl, by decide +kernel, by decide +kernel⟩
def sp_check_person (K : PySem.W.Frag) : Sp := fun vs H Q _ => ∃ (a b : Addr) (d : PD), vs = [.ref a, .ref b] ∧ SqL K H a (vn d.hears) ∧ RowsAt K H b d.says ∧ d.Ok ∧ Q .non H
theorem g_check_person (F : Fn K mg "check_person" s_check_person) (B : Blt mg) (G_all_words : G P w K mg base 1 "all_words" ["size", "words"] (sp_all_words K)) : G P w K mg base 2 "check_person" ["hears", "says"] (sp_check_person K) := by
  refine g_of F sc_check_person (fun _ _ _ _ _ _ us hl => match us, hl with | [_, _], _ => rfl) (fun vs H Q E h => ?_) (fun f cdv A outer s H vs Q E hr h => ?_)
  · obtain ⟨a, b, d, rfl, _⟩ := h
    rfl
  · obtain ⟨a, b, d, rfl, hA, ⟨as, hS, hP⟩, ok, k⟩ := h
    have el : as.length = d.says.length := Paired.length hP
    have n1 := ok.n1
    have n6 := ok.n6
    have sl := ok.sl
    refine ⟨_, (pss_cons (ps_set (i := 2) sc_check_person.nd rfl (Or.inl rfl) (pe_callB (call_len_seqK (K := K) rfl) (by rfl) B.b_len PySem.boot_len (pa_cons (pv 0) pa_nil)))
      (pss_cons (ps_if (PW.pt (pw_or (pt_cmpR op_lt (pv 2) pe_int (nomark _)) (pw_or (pt_cmpR op_gt (pv 2) (pe_gint rfl B.k_GREATEST_SIZE) (nomark _)) (pw_or1 (pt_not (pt_val (pe_g G_all_words (hr.mono (by decide)) (by rfl) (pa_cons (pv 2) (pa_cons (pv 0) pa_nil))))))))) (pss_one ps_never) pss_nil)
      (pss_cons (ps_if (pt_cmpR op_ne (pe_callB (call_len_seqK (K := K) rfl) (by rfl) B.b_len PySem.boot_len (pa_cons (pv 1) pa_nil)) (pv 2) (nomark _)) (pss_one ps_never) pss_nil)
      (pss_one (ps_for PassesOwn.never rfl (pi_listK (K := K) rfl (pv 1)) (pg_name (i := 3) sc_check_person.nd rfl (Or.inl rfl)) (pss_one (ps_if (PW.pt (pw_or (pt_cmpR op_eq (pe_callB (call_len_seqK (K := K) rfl) (by rfl) B.b_len PySem.boot_len (pa_cons (pv 3) pa_nil)) pe_int (nomark _)) (pw_or1 (pt_not (pt_val (pe_g G_all_words (hr.mono (by decide)) (by rfl) (pa_cons (pv 2) (pa_cons (pv 3) pa_nil)))))))) (pss_one ps_never) pss_nil))))))), ?_⟩
    refine ⟨_, rfl, a, _, rfl, .inl hA, ?_⟩
    refine ⟨_, rfl, _, _, rfl, rfl, _, rfl, iteD (fun c => absurd c ?_) fun _ => ⟨_, rfl, _, _, rfl, rfl, _, rfl, iteD (fun c => absurd c ?_) fun _ => ⟨_, rfl, _, rfl, d.hears.length, a, d.hears, ?_, hA, ok.hl, true, rfl, ?_⟩⟩⟩
    · rw [List.length_map]; omega
    · rw [List.length_map]; omega
    · rw [List.length_map]; rfl
    · refine ⟨_, rfl, b, _, rfl, .inl hS, _, rfl, rfl, _, rfl, iteIn (fun c => absurd ?_ c) fun _ => ?_⟩
      · rw [List.length_map, List.length_map, el, sl]
      refine ⟨_, rfl, b, rfl, ⟨_, hS⟩, for_list_w (K := K) (a := b) (xs := as.map V.ref) (fun i σ H' => ∃ v, H' = H ∧ σ = [some (.ref a), some (.ref b), some (vi (vn d.hears).length), v]) ⟨_, rfl, rfl⟩ (fun i σ H' _ ⟨_, e, _⟩ => by rw [e]; exact hS) ?_ ?_⟩
      · rintro i x σ H' hx ⟨v, rfl, rfl⟩ N hN
        obtain ⟨p, hp, rfl⟩ := refs_get hx
        obtain ⟨r, hr', hR⟩ := paired_get hP hp
        have hm := List.mem_of_getElem? hr'
        have hne : r.length ≠ 0 := fun q => ok.sne r hm (List.length_eq_zero_iff.mp q)
        refine ⟨_, rfl, p, _, rfl, .inl hR, rfl, _, rfl, iteI (fun c => absurd c ?_) fun _ => ⟨_, rfl, _, rfl, d.hears.length, p, r, ?_, hR, ok.slt r hm, true, rfl, hN _ _ ⟨_, rfl, rfl⟩⟩⟩
        · rw [List.length_map]; omega
        · rw [List.length_map]; rfl
      · rintro σ H' ⟨v, rfl, rfl⟩
        exact k
abbrev s_Person_init : Stmt := (inClass (top 56) 0)
abbrev N_Person_init : List Str := ["self", "hears", "says", "row"]
theorem sc_Person_init : FnScope N_Person_init ["self", "hears", "says"] (defScope s_Person_init) := ⟨rfl, rfl, rfl, by decide +kernel, rfl, by decide +kernel, by decide +kernel⟩
def sp_Person_init (K : PySem.W.Frag) (C : Addr) : Sp := fun vs H Q _ => ∃ (H0 : Hp) (x dx a b : Addr) (d : PD), vs = [.ref x, .ref a, .ref b] ∧ Same H0 H ∧ H0 x = none ∧ H x = some (.ins C dx []) ∧ SqL K H0 a (vn d.hears) ∧ RowsAt K H0 b d.says ∧ d.Ok ∧
  ∀ H', Same H0 H' → BaseAt C H' x d none → Q .non H'
theorem ok_Person_init {C f : Addr} {fd : FuncData} (F : FunD K "__init__" "Person.__init__" (defArgs s_Person_init) (defBody s_Person_init) (defScope s_Person_init) [] [] f fd) (Pc : PersC K C) (B : Blt mg)
    (G_check_person : G P w K mg base 2 "check_person" ["hears", "says"] (sp_check_person K)) : FnOk P w K mg base CX0 3 f fd ["self", "hears", "says"] (sp_Person_init K C) := by
  refine ok_of F sc_Person_init (fun vs H Q E h => ?_) (fun cdv A outer s H vs Q E hr h => ?_)
  · obtain ⟨H0, x, dx, a, b, d, rfl, _⟩ := h
    rfl
  · obtain ⟨H0, x, dx, a, b, d, rfl, s0, nx, hx, hA, hB, ok, k⟩ := h
    obtain ⟨as, hS, hP⟩ := id hB
    have el : as.length = d.says.length := Paired.length hP
    refine ⟨_, (pss_cons (ps_expr (pe_g G_check_person (hr.mono (by decide)) (by rfl) (pa_cons (pv 1) (pa_cons (pv 2) pa_nil))))
      (pss_cons (ps_fld (pv 0) (pe_callB (call_len_seqK (K := K) rfl) (by rfl) B.b_len PySem.boot_len (pa_cons (pv 1) pa_nil)) rfl)
      (pss_cons (ps_fld (pv 0) (pe_callTy (call_tuple_ofK (K := K) rfl) (by rfl) B.b_tuple (by decide +kernel) (pa_cons (pv 1) pa_nil)) rfl)
      (pss_one (ps_fld (pv 0) (pe_callTy (call_tuple_ofK (K := K) rfl) (by rfl) B.b_tuple (by decide +kernel) (pa_cons (pe_lc (own := [("row", 3)]) rfl sc_Person_init.nd (pi_listK (K := K) rfl (pv 2)) (blkOk_by (N := N_Person_init) (sc := defScope s_Person_init) (by decide +kernel)) (fun _ _ _ _ _ => (pg_name (i := 3) sc_Person_init.nd rfl (Or.inl rfl))) (fun _ _ _ _ _ => pts_nil) (fun _ _ _ _ _ => (pe_callTy (call_tuple_ofK (K := K) rfl) (by rfl) B.b_tuple (by decide +kernel) (pa_cons (pv 3) pa_nil)))) pa_nil)) rfl))))), ?_⟩
    refine ⟨_, rfl, _, rfl, a, b, d, rfl, s0.seq hA, hB.same s0, ok, ?_⟩
    -- self.size = len(hears)
    refine ⟨_, rfl, a, _, rfl, .inl (s0.seq hA), _, rfl, x, C, dx, _, rfl, hx, Pc.cl, Pc.nSize, (by show 0 < 1000; decide), ?_⟩
    have s1 : Same H0 (upd H x (.ins C dx (putF "size" (.int ((vn d.hears).length : Nat)) []))) := same_upd s0 nx
    -- self.ears = tuple(hears)
    refine ⟨_, rfl, a, _, rfl, .inl ⟨s1.seq hA, fun e he => ?_⟩⟩
    have nxe : x ≠ e := fun q => by rw [← q, upd_same] at he; cases he
    refine ⟨_, rfl, x, C, dx, _, rfl, same_new he _ _ upd_same, Pc.cl, Pc.nEars, (by show 1 < 1000; decide), ?_⟩
    generalize hH2 : upd (upd (upd H x (.ins C dx (putF "size" (.int ((vn d.hears).length : Nat)) []))) e (.tup (vn d.hears))) x (.ins C dx (putF "ears" (.ref e) (putF "size" (.int ((vn d.hears).length : Nat)) []))) = H2
    have x2 : H2 x = some (.ins C dx (putF "ears" (.ref e) (putF "size" (.int ((vn d.hears).length : Nat)) []))) := by rw [← hH2, upd_same]
    have e2 : H2 e = some (.tup (vn d.hears)) := by rw [← hH2, upd_ne nxe.symm, upd_same]
    have s2 : Same H0 H2 := by rw [← hH2]; exact same_upd (same_upd s1 (s1.free he)) nx
    -- self.mouths = tuple([tuple(row) for row in says])
    refine ⟨_, rfl, b, rfl, ⟨_, s2.seq hS⟩, fun D hD => blk_w walk_list (fun i H' => ∃ ts : List Addr, LB H2 D H' (ts.map V.ref) ∧ D ∉ ts ∧ Paired (fun t r => H' t = some (.tup (vn r))) ts (d.says.take i)) ⟨[], LB.start hD, List.not_mem_nil, .nil⟩ (fun i H' _ ⟨_, L, _⟩ => (s2.trans L.sm).seq hS) ?_ ?_⟩
    · rintro i y Ha Hb hi ⟨ts, L, nD, hp⟩ ⟨rfl, hy⟩ N hN
      obtain ⟨p, hp', rfl⟩ := refs_get hy
      obtain ⟨r, hr', hR⟩ := paired_get hP hp'
      refine ⟨rfl, ?_⟩
      refine ⟨_, rfl, p, _, rfl, .inl ⟨(s2.trans L.sm).seq hR, fun l hl => ⟨_, (L.next (same_new hl)).at_, small_of (m := 1000) ?_, hN _ ⟨ts ++ [l], ?_, ?_, ?_⟩⟩⟩⟩
      · have := Paired.length hp
        have h6 := ok.n6
        have h7 := ok.sl
        rw [List.length_map, this, List.length_take]
        omega
      · have := (L.next (same_new (o := HO.tup (vn r)) hl)).snoc (.ref l)
        rw [List.map_append]
        exact this
      · have : D ≠ l := ne_of_none L.at_ hl
        simp only [List.mem_append, List.mem_singleton, not_or]
        exact ⟨nD, this⟩
      · rw [take_get hr']
        refine paired_app (paired_mapm hp fun t z htm _ q => ?_) (.cons ?_ .nil)
        · rw [upd_ne (fun e : t = D => nD (e ▸ htm))]
          exact same_new hl _ _ q
        · rw [upd_ne (ne_of_none L.at_ hl).symm, upd_same]
    · rintro H' ⟨ts, L, nD, hp⟩
      rw [take_all (by rw [List.length_map, el])] at hp
      refine ⟨D, _, rfl, .inl ⟨SqL.of L.at_, fun m hm => ?_⟩⟩
      have s3 : Same H2 (upd H' m (.tup (ts.map V.ref))) := same_upd L.sm (L.sm.free hm)
      refine ⟨_, rfl, x, C, dx, _, rfl, s3 _ _ x2, Pc.cl, Pc.nMouths, (by show 2 < 1000; decide), ?_⟩
      have nxm : x ≠ m := ne_of_none (L.sm _ _ x2) hm
      refine k _ (same_upd (s2.trans s3) nx) ⟨dx, e, m, ts, ?_, ?_, ?_, ?_⟩
      · rw [upd_same, List.length_map]
        rfl
      · rw [upd_ne nxe.symm]
        exact s3 _ _ e2
      · rw [upd_ne nxm.symm, upd_same]
      · refine paired_mapm hp fun t z htm _ q => ?_
        have ntx : t ≠ x := ne_of q (L.sm _ _ x2) (by intro z; cases z)
        rw [upd_ne ntx]
        exact same_new hm _ _ q

theorem perFs_no {n : Nat} {e mo : Addr} {sw : Option Addr} {m : Str} (h : (([("size", V.non), ("ears", V.non), ("mouths", V.non), ("sure_words", V.non)] : List (Str × V)).lookup m).isNone = true) : (perFs n e mo sw).lookup m = none := by
  have h' := Option.isNone_iff_eq_none.mp h
  have go : ∀ {k : Str} {v : V} {l : List (Str × V)}, ((k, v) :: l).lookup m = none → (m == k) = false ∧ l.lookup m = none := fun {k v l} q => by
    rw [List.lookup_cons] at q
    cases z : m == k with
    | true => rw [z] at q; cases q
    | false => rw [z] at q; exact ⟨rfl, q⟩
  obtain ⟨h1, h'⟩ := go h'
  obtain ⟨h2, h'⟩ := go h'
  obtain ⟨h3, h'⟩ := go h'
  obtain ⟨h4, h'⟩ := go h'
  cases sw with
  | none => unfold perFs; rw [List.lookup_cons, h1]; show List.lookup m _ = none; rw [List.lookup_cons, h2]; show List.lookup m _ = none; rw [List.lookup_cons, h3]; rfl
  | some a => unfold perFs; rw [List.lookup_cons, h1]; show List.lookup m _ = none; rw [List.lookup_cons, h2]; show List.lookup m _ = none; rw [List.lookup_cons, h3]; show List.lookup m _ = none; rw [List.lookup_cons, h4]; rfl
abbrev s_Person_heard : Stmt := (inClass (top 56) 1)
abbrev N_Person_heard : List Str := ["self", "word"]
theorem sc_Person_heard : FnScope N_Person_heard ["self", "word"] (defScope s_Person_heard) := ⟨rfl, rfl, rfl, by decide +kernel, rfl, by decide +kernel, by decide +kernel⟩
def sp_heard (C : Addr) : Sp := fun vs H Q _ => ∃ (p : Addr) (d : PD) (sw : Option Addr) (x h : Nat), vs = [.ref p, vi x] ∧ BaseAt C H p d sw ∧ d.hears[x]? = some h ∧ Q (vi h) H
theorem ok_Person_heard {C f : Addr} {fd : FuncData} (F : FunD K "heard" "Person.heard" (defArgs s_Person_heard) (defBody s_Person_heard) (defScope s_Person_heard) [] [] f fd) (Pc : PersC K C)
    (G_check_word : G P w K mg base 1 "check_word" ["size", "word"] sp_check_word) : FnOk P w K mg base CX0 2 f fd ["self", "word"] (sp_heard C) := by
  refine ok_of F sc_Person_heard (fun vs H Q E h => ?_) (fun cdv A outer s H vs Q E hr h => ?_)
  · obtain ⟨p, d, sw, x, y, rfl, _⟩ := h
    rfl
  · obtain ⟨p, d, sw, x, y, rfl, ⟨dx, e, mo, ts, hp, he, hmo, hts⟩, hx, k⟩ := h
    refine ⟨_, (pss_cons (ps_expr (pe_g G_check_word (hr.mono (by decide)) (by rfl) (pa_cons (pe_fldK (K := K) rfl (pv 0) rfl) (pa_cons (pv 1) pa_nil))))
      (pss_one (ps_ret (pe_ix (ix_tupK (K := K) rfl) (pe_fldK (K := K) rfl (pv 0) rfl) (pv 1) (fun _ _ => rfl))))), ?_⟩
    refine ⟨_, rfl, p, C, dx, _, _, rfl, hp, Pc.cl, Pc.nSize, rfl, _, rfl, d.hears.length, x, rfl, len_get hx, ?_⟩
    exact ⟨_, rfl, p, C, dx, _, _, rfl, hp, Pc.cl, Pc.nEars, rfl, _, rfl, e, _, _, _, rfl, rfl, SqT.of he, at_of rfl (by rw [List.getElem?_map, hx]; rfl), k⟩
abbrev s_Person_said : Stmt := (inClass (top 56) 2)
abbrev N_Person_said : List Str := ["self", "word", "heard", "out"]
theorem sc_Person_said : FnScope N_Person_said ["self", "word"] (defScope s_Person_said) := ⟨rfl, rfl, rfl, by decide +kernel, rfl, by decide +kernel, by decide +kernel⟩
def sp_said0 (C : Addr) : Sp := fun vs H Q _ => ∃ (p : Addr) (d : PD) (sw : Option Addr) (x : Nat), vs = [.ref p, vi x] ∧ BaseAt C H p d sw ∧ d.Ok ∧ x < d.hears.length ∧ ∀ l H', Same H H' → H l = none → H' l = some (.lst (vn (said0 d x))) → Q (.ref l) H'
theorem ok_Person_said {C f : Addr} {fd : FuncData} (F : FunD K "said" "Person.said" (defArgs s_Person_said) (defBody s_Person_said) (defScope s_Person_said) [] [] f fd) (Pc : PersC K C) (B : Blt mg)
    (G_Pers_heard : GM P w K mg base 2 C "heard" ["self", "word"] (sp_heard C)) : FnOk P w K mg base CX0 3 f fd ["self", "word"] (sp_said0 C) := by
  refine ok_of F sc_Person_said (fun vs H Q E h => ?_) (fun cdv A outer s H vs Q E hr h => ?_)
  · obtain ⟨p, d, sw, x, rfl, _⟩ := h
    rfl
  · obtain ⟨p, d, sw, x, rfl, hB, ok, hx, k⟩ := h
    obtain ⟨dx, e, mo, ts, hp, he, hmo, hts⟩ := id hB
    have hxg : d.hears[x]? = some d.hears[x] := by simp [hx]
    have hlt : d.hears[x] < d.says.length := by rw [ok.sl]; exact ok.hl _ (List.mem_of_getElem? hxg)
    have el : ts.length = d.says.length := Paired.length hts
    have hg : ts[d.hears[x]]? = some (ts[d.hears[x]]'(by omega)) := by simp [el, hlt]
    obtain ⟨r, hr', hR⟩ := paired_get hts hg
    generalize ts[d.hears[x]]'(by omega) = t at hg hR
    have er : d.says.getD (d.hears.getD x 0) [] = r := by
      rw [List.getD_eq_getElem?_getD, List.getD_eq_getElem?_getD, hxg]
      show (d.says[d.hears[x]]?).getD [] = r
      rw [hr']
      rfl
    refine ⟨_, (pss_cons (ps_set (i := 2) sc_Person_said.nd rfl (Or.inr rfl) (pe_ix (ix_tupK (K := K) rfl) (pe_fldK (K := K) rfl (pv 0) rfl) (pe_methG Pc.cl G_Pers_heard (hr.mono (by decide)) (pv 0) (pa_cons (pv 1) pa_nil)) (fun _ _ => rfl)))
      (pss_one (ps_ret (pe_lc (own := [("out", 3)]) rfl sc_Person_said.nd (pi_range1 rfl B.b_range (pa_cons (pe_fldK (K := K) rfl (pv 0) rfl) pa_nil)) (blkOk_by (N := N_Person_said) (sc := defScope s_Person_said) (by decide +kernel)) (fun _ _ _ _ _ => (pg_name (i := 3) sc_Person_said.nd rfl (Or.inl rfl))) (fun _ _ _ _ _ => pts_one (pt_cmpR (op_in_seqK (K := K) rfl) (pv 3) (pv 2) rfl)) (fun _ _ _ _ _ => (pv 3)))))), ?_⟩
    refine ⟨_, rfl, p, C, dx, _, _, rfl, hp, Pc.cl, Pc.nMouths, rfl, _, rfl, p, dx, _, rfl, hp, perFs_no (by decide +kernel), _, rfl, p, d, sw, x, _, rfl, hB, hxg, ?_⟩
    refine ⟨mo, _, _, _, rfl, rfl, SqT.of hmo, at_of rfl (by rw [List.getElem?_map, hg]; rfl), ?_⟩
    have n6 := ok.n6
    refine ⟨_, rfl, p, C, dx, _, _, rfl, hp, Pc.cl, Pc.nSize, rfl, _, rfl, by omega, by omega, fun D hD => blk_w (walk_r0 (n := d.hears.length)) (fun i H' => LB H D H' (vn ((List.range i).filter fun o => decide (o ∈ r)))) (LB.start hD) (fun _ _ _ _ => trivial) ?_ ?_⟩
    · rintro i y Ha Hb hi L ⟨rfl, rfl⟩ N hN
      have hi' : i ≤ 6 := by omega
      refine ⟨rfl, ?_⟩
      refine ⟨_, rfl, _, rfl, t, _, rfl, .inr (SqT.of (L.sm _ _ hR)), rfl, flat_vn r, _, rfl, ?_⟩
      refine iteB (fun c => ?_) (fun c => ?_)
      · have c' : decide (i ∈ r) = true := (inV_vn i r).symm.trans c
        refine ⟨_, rfl, _, L.at_, small_of (Nat.le_trans (filt_len _ _) hi'), hN _ ?_⟩
        rw [filt_yes c']
        exact L.snoc (vi i)
      · have c' : decide (i ∈ r) = false := (inV_vn i r).symm.trans c
        refine hN _ ?_
        rw [filt_no c']
        exact L
    · intro H' L
      refine k D H' L.sm L.nw ?_
      rw [L.at_]
      unfold said0
      rw [er]
end
end Mm

set_option maxHeartbeats 4000000
/-! people of the four classes -/
namespace Mm
open PySem PySem.Spec L2 MM
open PyProof.Rows hiding St
def PAt (C : Addr) (H : Hp) (p : Addr) (d : PD) : Option (List Nat) → Prop
  | none => BaseAt C H p d none
  | some l => ∃ a, BaseAt C H p d (some a) ∧ H a = some (.tup (vn l))
theorem PAt.same {C : Addr} {H H' : Hp} {p : Addr} {d : PD} {su : Option (List Nat)} (h : PAt C H p d su) (s : Same H H') : PAt C H' p d su := by
  cases su with
  | none => exact BaseAt.same h s
  | some l => obtain ⟨a, h1, h2⟩ := h; exact ⟨a, h1.same s, s _ _ h2⟩
theorem PAt.base {C : Addr} {H : Hp} {p : Addr} {d : PD} {su : Option (List Nat)} (h : PAt C H p d su) : ∃ sw, BaseAt C H p d sw := by
  cases su with
  | none => exact ⟨_, h⟩
  | some l => obtain ⟨a, h1, h2⟩ := h; exact ⟨_, h1⟩
theorem BaseAt.ins {C : Addr} {H : Hp} {p : Addr} {d : PD} {sw : Option Addr} (h : BaseAt C H p d sw) : ∃ dx e mo, H p = some (.ins C dx (perFs d.hears.length e mo sw)) := by
  obtain ⟨dx, e, mo, ts, h1, _⟩ := h
  exact ⟨dx, e, mo, h1⟩
def knoR (r0 : PD → List Nat → Nat → List Nat) : PD → List Nat → Nat → List Nat := fun d su x => if x ∈ su then [x] else r0 d su x
def douR (r0 : PD → List Nat → Nat → List Nat) : PD → List Nat → Nat → List Nat := fun d su x => (List.range d.hears.length).filter fun o => decide (o ∈ r0 d su x) || decide (o = x)
def perR : PD → List Nat → Nat → List Nat := fun d _ x => said0 d x
def sp_row (C : Addr) (need : Bool) (r0 : PD → List Nat → Nat → List Nat) : Sp := fun vs H Q _ => ∃ (p : Addr) (d : PD) (su : Option (List Nat)) (x : Nat), vs = [.ref p, vi x] ∧ PAt C H p d su ∧ (need = true → su.isSome = true) ∧ d.Ok ∧ x < d.hears.length ∧
  ∀ l H', Same H H' → H l = none → H' l = some (.lst (vn (r0 d (su.getD []) x))) → Q (.ref l) H'
theorem sp_row_said {C : Addr} {b : Bool} : ∀ vs H Q E, sp_row C b perR vs H Q E → sp_said0 C vs H Q E := by
  rintro vs H Q E ⟨p, d, su, x, h1, h2, h3, h4, h5, h6⟩
  obtain ⟨sw, h2⟩ := h2.base
  exact ⟨p, d, sw, x, h1, h2, h4, h5, h6⟩
theorem sp_row_need {C : Addr} {r0 : PD → List Nat → Nat → List Nat} : ∀ vs H Q E, sp_row C true r0 vs H Q E → sp_row C false r0 vs H Q E := by
  rintro vs H Q E ⟨p, d, su, x, h1, h2, h3, h4, h5, h6⟩
  exact ⟨p, d, su, x, h1, h2, (fun z => nomatch z), h4, h5, h6⟩
def sp_Knower_init (K : PySem.W.Frag) (C : Addr) : Sp := fun vs H Q _ => ∃ (H0 : Hp) (x dx a b c : Addr) (d : PD) (su : List Nat), vs = [.ref x, .ref a, .ref b, .ref c] ∧ Same H0 H ∧ H0 x = none ∧ H x = some (.ins C dx []) ∧ SqL K H0 a (vn d.hears) ∧ RowsAt K H0 b d.says ∧ SqL K H0 c (vn su) ∧ d.Ok ∧
  (∀ x ∈ su, x < d.hears.length) ∧ ∀ H', Same H0 H' → PAt C H' x d (some su) → Q .non H'
/-- what the text's start shows of super -/
structure SupT (P : Program) : Prop where
  file : P.main.file = theFile
  top : (P.main.scope.names.lookup ("super" : Str)).isSome = false
/-- a method of D as it runs for C: what super() finds behind it -/
structure SupX (P : Program) (w : World) (K : PySem.W.Frag) (mg : Str → Option Value) (base : Heap) (k : Nat) (C D : Addr) (m : Str) (ps : List Str) (sp : Sp) : Prop where
  ok : ∃ f2 fd2, SupM K C D m f2 ∧ Binds K fd2 ps [] ∧ FnOk P w K mg base CX0 k f2 fd2 ps sp
theorem SupX.imp {P : Program} {w : World} {K : PySem.W.Frag} {mg : Str → Option Value} {base : Heap} {k : Nat} {C D : Addr} {m : Str} {ps : List Str} {sp sp' : Sp} (F : SupX P w K mg base k C D m ps sp) (h : ∀ vs H Q E, sp' vs H Q E → sp vs H Q E) : SupX P w K mg base k C D m ps sp' := by
  obtain ⟨f, fd, h1, h3, h4⟩ := F.ok
  exact ⟨f, fd, h1, h3, h4.imp h⟩
section
variable {P : Program} {w : World} {K : PySem.W.Frag} {mg : Str → Option Value} {base : Heap}
abbrev s_Knower_init : Stmt := (inClass (top 57) 0)
theorem sc_Knower_init : FnScopeS ["self", "hears", "says", "knows"] ["self", "hears", "says", "knows"] (defScope s_Knower_init) := ⟨rfl, rfl, rfl, by decide +kernel, rfl, by decide +kernel, by decide +kernel, by decide +kernel, by decide +kernel, by decide +kernel⟩
abbrev s_Knower_said : Stmt := (inClass (top 57) 1)
theorem sc_Knower_said : FnScopeS ["self", "word", "outs"] ["self", "word"] (defScope s_Knower_said) := ⟨rfl, rfl, rfl, by decide +kernel, rfl, by decide +kernel, by decide +kernel, by decide +kernel, by decide +kernel, by decide +kernel⟩
abbrev s_Doubter_said : Stmt := (inClass (top 58) 0)
abbrev N_Doubter_said : List Str := ["self", "word", "outs", "out"]
theorem sc_Doubter_said : FnScopeS N_Doubter_said ["self", "word"] (defScope s_Doubter_said) := ⟨rfl, rfl, rfl, by decide +kernel, rfl, by decide +kernel, by decide +kernel, by decide +kernel, by decide +kernel, by decide +kernel⟩
abbrev s_KD_said : Stmt := (inClass (top 59) 0)
theorem sc_KD_said : FnScopeS ["self", "word"] ["self", "word"] (defScope s_KD_said) := ⟨rfl, rfl, rfl, by decide +kernel, rfl, by decide +kernel, by decide +kernel, by decide +kernel, by decide +kernel, by decide +kernel⟩

theorem ok_KD_said {C D f : Addr} {fd : FuncData} {k : Nat} {r0 : PD → List Nat → Nat → List Nat} (F : FunS K "said" "KnowingDoubter.said" s_KD_said D f fd) (B : Blt mg) (ht : SupT P)
    (M : SupX P w K mg base k C D "said" ["self", "word"] (sp_row C true r0)) : FnOk P w K mg base CX0 (k + 1) f fd ["self", "word"] (sp_row C true r0) := by
  obtain ⟨f2, fd2, M, hb2, F2⟩ := M.ok
  refine F.ok sc_KD_said (fun vs H Q E h => ?_) (fun oc od osl cdv cc cl cld csl A outer s H vs Q E lk ep hcf lcc hr h s1 I => ?_)
  · obtain ⟨p, d, su, x, rfl, _⟩ := h
    rfl
  · obtain ⟨p, d, su, x, rfl, hP, hsu, ok, hx, kk⟩ := h
    obtain ⟨sw, hB⟩ := hP.base
    obtain ⟨dx, e, mo, hp⟩ := hB.ins
    obtain ⟨ar, har, han⟩ : ∃ ar : Arg, (fd.params.posonlyargs ++ fd.params.args).head? = some ar ∧ ar.arg = "self" := by rw [ep]; exact ⟨_, rfl, rfl⟩
    refine sup_ret (super_go rfl lk har hcf ht.file ht.top (cellsS_cls sc_KD_said _ _) lcc B.b_super M F2 hb2 hr (by rfl) (by rfl) (by rw [han]; rfl) (by rw [han]; rfl) (pa_cons (pv 1) pa_nil)) I ?_
    refine ⟨p, dx, _, rfl, hp, _, rfl, ?_⟩
    exact ⟨p, d, su, x, rfl, hP, hsu, ok, hx, kk⟩

theorem ok_Knower_said {C D f : Addr} {fd : FuncData} {k : Nat} {r0 : PD → List Nat → Nat → List Nat} (F : FunS K "said" "Knower.said" s_Knower_said D f fd) (Pc : PersC K C) (B : Blt mg) (ht : SupT P)
    (M : SupX P w K mg base k C D "said" ["self", "word"] (sp_row C true r0)) : FnOk P w K mg base CX0 (k + 1) f fd ["self", "word"] (sp_row C true (knoR r0)) := by
  obtain ⟨f2, fd2, M, hb2, F2⟩ := M.ok
  refine F.ok sc_Knower_said (fun vs H Q E h => ?_) (fun oc od osl cdv cc cl cld csl A outer s H vs Q E lk ep hcf lcc hr h s1 I => ?_)
  · obtain ⟨p, d, su, x, rfl, _⟩ := h
    rfl
  · obtain ⟨p, d, su, x, rfl, hP, hsu, ok, hx, kk⟩ := h
    obtain ⟨l, rfl⟩ := Option.isSome_iff_exists.mp (hsu rfl)
    obtain ⟨a, hB, ha⟩ := id hP
    obtain ⟨dx, e, mo, hp⟩ := hB.ins
    obtain ⟨ar, har, han⟩ : ∃ ar : Arg, (fd.params.posonlyargs ++ fd.params.args).head? = some ar ∧ ar.arg = "self" := by rw [ep]; exact ⟨_, rfl, rfl⟩
    refine sup_assign (i := 2) (super_go rfl lk har hcf ht.file ht.top (cellsS_cls sc_Knower_said _ _) lcc B.b_super M F2 hb2 hr (by rfl) (by rfl) (by rw [han]; rfl) (by rw [han]; rfl) (pa_cons (pv 1) pa_nil)) sc_Knower_said.nd rfl (Or.inl rfl) rfl (pss_cons (ps_if (pt_cmpR (op_in_seqK (K := K) rfl) (pv 1) (pe_fldK (K := K) rfl (pv 0) rfl) rfl) (pss_one (ps_ret (pe_lst (pa_cons (pv 1) pa_nil)))) pss_nil)
      (pss_one (ps_ret (pv 2)))) I ?_
    refine ⟨p, dx, _, rfl, hp, _, rfl, ?_⟩
    refine ⟨p, d, some l, x, rfl, hP, hsu, ok, hx, fun r H2 s2 hr2 hR => ?_⟩
    refine ⟨_, rfl, _, rfl, p, C, dx, _, _, rfl, s2 _ _ hp, Pc.cl, Pc.nSure, rfl, a, _, rfl, .inr (SqT.of (s2 _ _ ha)), rfl, flat_vn l, _, rfl, ?_⟩
    refine iteB (fun c => ?_) (fun c => ?_)
    · have c' : x ∈ l := of_decide_eq_true ((inV_vn x l).symm.trans c)
      refine ⟨_, rfl, by show 1 ≤ sizeLine; exact le_of_small (m := 1) (Nat.le_refl _), fun q hq => ?_⟩
      refine kk q _ (same_upd s2 (s2.free hq)) (s2.free hq) ?_
      rw [upd_same]
      unfold knoR
      rw [if_pos (show x ∈ (some l).getD [] from c')]
      rfl
    · have c' : ¬ x ∈ l := of_decide_eq_false ((inV_vn x l).symm.trans c)
      refine ⟨_, rfl, ?_⟩
      refine kk r H2 s2 hr2 ?_
      rw [hR]
      unfold knoR
      rw [if_neg (show ¬ x ∈ (some l).getD [] from c')]
theorem ok_Doubter_said {C D f : Addr} {fd : FuncData} {k : Nat} {b : Bool} {r0 : PD → List Nat → Nat → List Nat} (F : FunS K "said" "Doubter.said" s_Doubter_said D f fd) (Pc : PersC K C) (B : Blt mg) (ht : SupT P)
    (M : SupX P w K mg base k C D "said" ["self", "word"] (sp_row C b r0)) : FnOk P w K mg base CX0 (k + 1) f fd ["self", "word"] (sp_row C b (douR r0)) := by
  obtain ⟨f2, fd2, M, hb2, F2⟩ := M.ok
  refine F.ok sc_Doubter_said (fun vs H Q E h => ?_) (fun oc od osl cdv cc cl cld csl A outer s H vs Q E lk ep hcf lcc hr h s1 I => ?_)
  · obtain ⟨p, d, su, x, rfl, _⟩ := h
    rfl
  · obtain ⟨p, d, su, x, rfl, hP, hsu, ok, hx, kk⟩ := h
    obtain ⟨sw, hB⟩ := hP.base
    obtain ⟨dx, e, mo, hp⟩ := hB.ins
    have n6 := ok.n6
    obtain ⟨ar, har, han⟩ : ∃ ar : Arg, (fd.params.posonlyargs ++ fd.params.args).head? = some ar ∧ ar.arg = "self" := by rw [ep]; exact ⟨_, rfl, rfl⟩
    refine sup_assign (X := cxS P w K mg base N_Doubter_said "Doubter.said" (defScope s_Doubter_said) f cdv cc A outer s H) (i := 2) (super_go rfl lk har hcf ht.file ht.top (cellsS_cls sc_Doubter_said _ _) lcc B.b_super M F2 hb2 hr (by rfl) (by rfl) (by rw [han]; rfl) (by rw [han]; rfl) (pa_cons (pv 1) pa_nil)) sc_Doubter_said.nd rfl (Or.inr rfl) rfl (pss_one (ps_ret (pe_lc (own := [("out", 3)]) rfl sc_Doubter_said.nd (pi_range1 rfl B.b_range (pa_cons (pe_fldK (K := K) rfl (pv 0) rfl) pa_nil)) (blkOk_by (N := N_Doubter_said) (sc := defScope s_Doubter_said) (by decide +kernel)) (fun _ _ _ _ _ => (pg_name (i := 3) sc_Doubter_said.nd rfl (Or.inl rfl))) (fun _ _ _ _ _ => pts_one (PW.pt (pw_or (pt_cmpR (op_in_seqK (K := K) rfl) (pv 3) (pv 2) rfl) (pw_or1 (pt_cmpR op_eq (pv 3) (pv 1) (nomark _)))))) (fun _ _ _ _ _ => (pv 3))))) I ?_
    refine ⟨p, dx, _, rfl, hp, _, rfl, ?_⟩
    refine ⟨p, d, su, x, rfl, hP, hsu, ok, hx, fun r H2 s2 hr2 hR => ?_⟩
    refine ⟨_, rfl, p, C, dx, _, _, rfl, s2 _ _ hp, Pc.cl, Pc.nSize, rfl, _, rfl, by omega, by omega, fun D hD => blk_w (walk_r0 (n := d.hears.length)) (fun i H' => LB H2 D H' (vn ((List.range i).filter fun o => decide (o ∈ r0 d (su.getD []) x) || decide (o = x)))) (LB.start hD) (fun _ _ _ _ => trivial) ?_ ?_⟩
    · rintro i y Ha Hb hi L ⟨rfl, rfl⟩ N hN
      have hi' : i ≤ 6 := by omega
      refine ⟨rfl, ?_⟩
      have hRa : SqL K Hb r (vn (r0 d (su.getD []) x)) := L.sm.seq (SqL.of hR)
      have yes : (decide (i ∈ r0 d (su.getD []) x) || decide (i = x)) = true → ∃ acc, Hb D = some (.lst acc) ∧ acc.length < sizeLine ∧ N (upd Hb D (.lst (acc ++ [vi i]))) := fun c => ⟨_, L.at_, small_of (Nat.le_trans (filt_len _ _) hi'), hN _ (by rw [filt_yes c]; exact L.snoc (vi i))⟩
      refine ⟨_, rfl, _, rfl, r, _, rfl, .inl hRa, rfl, flat_vn _, _, rfl, ?_⟩
      refine iteB (fun c => ?_) (fun c => ?_)
      · have c' : decide (i ∈ r0 d (su.getD []) x) = true := (inV_vn i _).symm.trans c
        exact ⟨_, rfl, yes (by rw [c', Bool.true_or])⟩
      · have c' : decide (i ∈ r0 d (su.getD []) x) = false := (inV_vn i _).symm.trans c
        refine ⟨_, rfl, _, rfl, rfl, _, rfl, ?_⟩
        refine iteI (fun q => ?_) (fun q => ?_)
        · have q' : i = x := by omega
          exact ⟨_, rfl, yes (by rw [c', Bool.false_or]; exact decide_eq_true q')⟩
        · have q' : ¬ i = x := by omega
          refine hN _ ?_
          rw [filt_no (by rw [c', Bool.false_or]; exact decide_eq_false q')]
          exact L
    · intro H' L
      refine kk D H' (s2.trans L.sm) (s2.free L.nw) ?_
      rw [L.at_]
      rfl

theorem ok_Knower_init {C D f : Addr} {fd : FuncData} (F : FunS K "__init__" "Knower.__init__" s_Knower_init D f fd) (Pc : PersC K C) (B : Blt mg) (ht : SupT P)
    (M : SupX P w K mg base 3 C D "__init__" ["self", "hears", "says"] (sp_Person_init K C)) (G_all_words : G P w K mg base 1 "all_words" ["size", "words"] (sp_all_words K)) : FnOk P w K mg base CX0 4 f fd ["self", "hears", "says", "knows"] (sp_Knower_init K C) := by
  obtain ⟨f2, fd2, M, hb2, F2⟩ := M.ok
  refine F.ok sc_Knower_init (fun vs H Q E h => ?_) (fun oc od osl cdv cc cl cld csl A outer s H vs Q E lk ep hcf lcc hr h s1 I => ?_)
  · obtain ⟨H0, x, dx, a, b, c, d, su, rfl, _⟩ := h
    rfl
  · obtain ⟨H0, x, dx, a, b, c, d, su, rfl, s0, nx, hx, hA, hB, hC, ok, hsu, kk⟩ := h
    obtain ⟨ar, har, han⟩ : ∃ ar : Arg, (fd.params.posonlyargs ++ fd.params.args).head? = some ar ∧ ar.arg = "self" := by rw [ep]; exact ⟨_, rfl, rfl⟩
    refine sup_expr (X := cxS P w K mg base ["self", "hears", "says", "knows"] "Knower.__init__" (defScope s_Knower_init) f cdv cc A outer s H) (super_go rfl lk har hcf ht.file ht.top (cellsS_cls sc_Knower_init _ _) lcc B.b_super M F2 hb2 hr (by rfl) (by rfl) (by rw [han]; rfl) (by rw [han]; rfl) (pa_cons (pv 1) (pa_cons (pv 2) pa_nil))) (pss_cons (ps_if (pt_not (pt_val (pe_g G_all_words (hr.mono (by decide)) (by rfl) (pa_cons (pe_fldK (K := K) rfl (pv 0) rfl) (pa_cons (pv 3) pa_nil))))) (pss_one ps_never) pss_nil)
      (pss_one (ps_fld (pv 0) (pe_callTy (call_tuple_ofK (K := K) rfl) (by rfl) B.b_tuple (by decide +kernel) (pa_cons (pv 3) pa_nil)) rfl))) I ?_
    refine ⟨x, dx, _, rfl, hx, _, rfl, _, rfl, ?_⟩
    refine ⟨H0, x, dx, a, b, d, rfl, s0, nx, hx, hA, hB, ok, fun H2 s2 hP => ?_⟩
    obtain ⟨dx2, e, mo, ts, hp, he, hmo, hts⟩ := id hP
    refine ⟨_, rfl, x, C, dx2, _, _, rfl, hp, Pc.cl, Pc.nSize, rfl, _, rfl, d.hears.length, c, su, rfl, s2.seq hC, hsu, true, rfl, ?_⟩
    refine ⟨_, rfl, c, _, rfl, .inl ⟨s2.seq hC, fun q hq => ?_⟩⟩
    have nxq : x ≠ q := ne_of_none hp hq
    have s3 : Same H2 (upd H2 q (.tup (vn su))) := same_new hq
    refine ⟨_, rfl, x, C, dx2, _, rfl, s3 _ _ hp, Pc.cl, Pc.nSure, (by show 3 < 1000; decide), ?_⟩
    refine kk _ (same_upd (s2.trans s3) nx) ⟨q, ⟨dx2, e, mo, ts, ?_, ?_, ?_, ?_⟩, ?_⟩
    · rw [upd_same]
      rfl
    · rw [upd_ne (ne_of he hp (by intro z; cases z))]
      exact s3 _ _ he
    · rw [upd_ne (ne_of hmo hp (by intro z; cases z))]
      exact s3 _ _ hmo
    · refine paired_map hts fun t z q => ?_
      rw [upd_ne (ne_of q hp (by intro z; cases z))]
      exact s3 _ _ q
    · rw [upd_ne nxq.symm, upd_same]
abbrev s_Person_table : Stmt := (inClass (top 56) 3)
abbrev N_Person_table : List Str := ["self", "word"]
theorem sc_Person_table : FnScope N_Person_table ["self"] (defScope s_Person_table) := ⟨rfl, rfl, rfl, by decide +kernel, rfl, by decide +kernel, by decide +kernel⟩
/-- the table of a person whose words are said so -/
def tabR (r0 : PD → List Nat → Nat → List Nat) (d : PD) (su : List Nat) : List (List Nat) := (List.range d.hears.length).map fun x => r0 d su x
def sp_Pers_table (CT C : Addr) (need : Bool) (r0 : PD → List Nat → Nat → List Nat) : Sp := fun vs H Q _ => ∃ (p : Addr) (d : PD) (su : Option (List Nat)), vs = [.ref p] ∧ PAt C H p d su ∧ (need = true → su.isSome = true) ∧ d.Ok ∧ (∀ x, x < d.hears.length → ∀ o ∈ r0 d (su.getD []) x, o < d.hears.length) ∧ (∀ x, x < d.hears.length → (r0 d (su.getD []) x).length ≤ 6) ∧
  ∀ t H', Same H H' → H t = none → TabAt CT H' t ((tabR r0 d (su.getD [])).map maskOf) → Q (.ref t) H'
theorem g_Pers_table {CT C : Addr} {need : Bool} {r0 : PD → List Nat → Nat → List Nat} (F : FnPr K C "table" "Person.table" s_Person_table) (Pc : PersC K C) (Tc : TabC K mg CT) (B : Blt mg)
    (G_Pers_said : GM P w K mg base 6 C "said" ["self", "word"] (sp_row C need r0)) (G_Table_init : GI P w K mg base 3 CT ["self", "rows"] (sp_Table_init K CT)) : GP P w K mg base 7 C "table" (sp_Pers_table CT C need r0) := by
  refine gp_of F sc_Person_table (fun _ _ _ _ _ _ us hl => match us, hl with | [_], _ => rfl) (fun vs H Q E h => ?_) (fun f cdv A outer s H vs Q E hr h => ?_)
  · obtain ⟨p, d, su, rfl, _⟩ := h
    rfl
  · obtain ⟨p, d, su, rfl, hP, hsu, ok, hlt, hle, k⟩ := h
    obtain ⟨sw, hB⟩ := hP.base
    obtain ⟨dx, e, mo, hp⟩ := hB.ins
    have n1 := ok.n1
    have n6 := ok.n6
    refine ⟨_, (pss_one (ps_ret (pe_makeG G_Table_init (hr.mono (by decide)) (by rfl) Tc.mgC (pa_cons (pe_lc (own := [("word", 1)]) rfl sc_Person_table.nd (pi_range1 rfl B.b_range (pa_cons (pe_fldK (K := K) rfl (pv 0) rfl) pa_nil)) (blkOk_by (N := N_Person_table) (sc := defScope s_Person_table) (by decide +kernel)) (fun _ _ _ _ _ => (pg_name (i := 1) sc_Person_table.nd rfl (Or.inl rfl))) (fun _ _ _ _ _ => pts_nil) (fun _ _ _ _ _ => (pe_methG Pc.cl G_Pers_said (hr.mono (by decide)) (pv 0) (pa_cons (pv 1) pa_nil)))) pa_nil)))), ?_⟩
    refine ⟨_, rfl, p, C, dx, _, _, rfl, hp, Pc.cl, Pc.nSize, rfl, _, rfl, by omega, by omega, fun D hD => blk_w (walk_r0 (n := d.hears.length)) (fun i H' => ∃ as : List Addr, LB H D H' (as.map V.ref) ∧ D ∉ as ∧ Paired (fun q r => H' q = some (.lst (vn r))) as ((tabR r0 d (su.getD [])).take i)) ⟨[], LB.start hD, List.not_mem_nil, .nil⟩ (fun _ _ _ _ => trivial) ?_ ?_⟩
    · rintro i y Ha Hb hi ⟨as, L, nD, hp2⟩ ⟨rfl, rfl⟩ N hN
      have hz : (tabR r0 d (su.getD []))[i]? = some (r0 d (su.getD []) i) := by
        unfold tabR
        rw [List.getElem?_map, List.getElem?_range hi]
        rfl
      refine ⟨rfl, ?_⟩
      refine ⟨_, rfl, p, dx, _, rfl, L.sm _ _ hp, perFs_no (by decide +kernel), _, rfl, p, d, su, i, rfl, hP.same L.sm, hsu, ok, hi, fun l H2 s2 hl hL => ⟨_, (L.next s2).at_, small_of (m := 1000) ?_, hN _ ⟨as ++ [l], ?_, ?_, ?_⟩⟩⟩
      · have := Paired.length hp2
        rw [List.length_map, this, List.length_take]
        omega
      · have := (L.next s2).snoc (.ref l)
        rw [List.map_append]
        exact this
      · have : D ≠ l := ne_of_none L.at_ hl
        simp only [List.mem_append, List.mem_singleton, not_or]
        exact ⟨nD, this⟩
      · rw [take_get hz]
        refine paired_app (paired_mapm hp2 fun q z hpm _ e => ?_) (.cons ?_ .nil)
        · rw [upd_ne (fun e : q = D => nD (e ▸ hpm))]
          exact s2 _ _ e
        · rw [upd_ne (ne_of_none L.at_ hl).symm]
          exact hL
    · rintro H' ⟨as, L, nD, hp2⟩
      have hlen : (tabR r0 d (su.getD [])).length = d.hears.length := by unfold tabR; rw [List.length_map, List.length_range]
      rw [take_all hlen] at hp2
      intro t dt ht hdt ne
      refine ⟨H', t, dt, D, tabR r0 d (su.getD []), rfl, ?_, ht, upd_same, ⟨as, SqL.of L.at_, paired_map hp2 fun _ _ e => SqL.of e⟩, ⟨?_, ?_, ?_⟩, fun H2 s2 hT => ?_⟩
      · exact same_upd (same_new hdt) ht
      · rw [hlen]; exact n1
      · rw [hlen]; exact n6
      · intro r hr x hx
        rw [hlen]
        unfold tabR at hr
        obtain ⟨y, hy, rfl⟩ := List.mem_map.mp hr
        exact hlt y (List.mem_range.mp hy) x hx
      · exact ⟨rfl, k t H2 (L.sm.trans s2) (L.sm.free ht) hT⟩
end
end Mm

set_option maxHeartbeats 4000000
/-! more rules -/
namespace Mm
open PySem PySem.Spec L2
open PyProof.Rows hiding St

/-! ### enumerate(text) -/
def IteS (x : Str) : It :=
  ⟨fun i _ => i < x.cps.size, fun i H v H' => ∃ T c, v = .ref T ∧ H T = none ∧ H' = upd H T (.tup [.int (i : Nat), .str ⟨#[c]⟩]) ∧ x.cps[i]? = some c, fun i _ => x.cps.size ≤ i⟩
theorem turn_enumS {P : Program} {w : World} {K : PySem.W.Frag} {elts : List Expr} {kk : Nat} {tpos : Pos} (x : Str) (t : Tok) (e it : Addr) :
    Turn P w K (.Tuple elts kk tpos) (IteS x) [e, it] e (fun i h => (∃ old, IsEnum h e it ((i : Nat) : Int) old) ∧ h.IsStrIter it (strIterType x) x t i ∧ e ≠ it ∧ i ≤ x.cps.size) where
  mem := by simp
  obj := fun i h st b hb => by
    obtain ⟨⟨old, he⟩, ⟨o, ho, hc, hd⟩, _, _⟩ := st
    have e' : b = e ∨ b = it := by simpa using hb
    rcases e' with z | z
    · rw [z]; exact ⟨_, he, fun v q => nomatch q⟩
    · rw [z]; exact ⟨o, ho, fun v q => by rw [hd] at q; cases q⟩
  keep := fun i h h' st k => by
    obtain ⟨⟨old, he⟩, ⟨o, ho, r⟩, hne, hi⟩ := st
    exact ⟨⟨old, k e (by simp) _ he⟩, ⟨o, k it (by simp) o ho, r⟩, hne, hi⟩
  item := by
    intro X hP hw hK hc i pins s σ H E I hf st hg
    subst hP hw hK
    obtain ⟨⟨old, he⟩, hit, hne, hi⟩ := st
    have hel : e < s.heap.objs.size := Heap.lt_size he
    have hil : it < s.heap.objs.size := by obtain ⟨_, q, _⟩ := hit; exact Heap.lt_size q
    refine wpAny_pyNext_enum_itemD (Draws.text (A := X.A.in1) (I.ok.hd hc) it x t) he hit hg hne (fun z => hne (by simpa using z)) fun v h' tk hv ho hit' hT hsz hk => ?_
    obtain ⟨c, u, hcx, rfl⟩ := hv
    refine ⟨_, rfl, wpAny_letOwnedTupleGo_enum (s := { s with heap := h', toks := tk + 1 }) ho fun h'' he' sb => ?_⟩
    have hT2 : h''.get? s.heap.objs.size = some { cls := .type "tuple", data := .seq #[.int i tk, .str ⟨#[c]⟩ u] } := (sb.2 _ (Nat.ne_of_gt hel)).trans hT
    have new : ObjOk X.prog X.w (upd H s.heap.objs.size (.tup [.int (i : Nat), .str ⟨#[c]⟩])) h'' s.heap.objs.size (.tup [.int (i : Nat), .str ⟨#[c]⟩]) :=
      ⟨by show 2 ≤ sizeLine; decide, [.int i tk, .str ⟨#[c]⟩ u], .cons ⟨_, rfl⟩ (.cons ⟨_, rfl⟩ .nil), ⟨_, hT2, rfl, _, rfl⟩⟩
    have I1 : Inv X pins σ (upd H s.heap.objs.size (.tup [.int (i : Nat), .str ⟨#[c]⟩])) { s with heap := h'', toks := tk + 1 } :=
      I.turnedNew (ch := [e, it]) (fun b ob hb q => (sb.2 b (fun z => hb (by simp [z]))).trans (hk b ob (fun z => hb (by simp [z])) (fun z => hb (by simp [z])) q)) hf (Nat.le_refl _) new
    refine ⟨.ref s.heap.objs.size, _, I1, rfl, ⟨_, c, rfl, I.hok.fresh (Nat.le_refl _), rfl, hcx⟩, ⟨⟨.str ⟨#[c]⟩ u, ?_⟩, ?_, hne, hg⟩, fun b hb => ?_⟩
    · have e1 : ((i + 1 : Nat) : Int) = (i : Int) + 1 := by omega
      rw [e1]; exact he'
    · obtain ⟨o, ho2, r⟩ := hit'
      exact ⟨o, (sb.2 it (Ne.symm hne)).trans ho2, r⟩
    · have hb' : b < s.heap.objs.size := by
        have e' : b = e ∨ b = it := by simpa using hb
        rcases e' with z | z
        · rw [z]; exact hel
        · rw [z]; exact hil
      rw [upd_ne (Nat.ne_of_lt hb')]
      exact (hf b hb).1
  done := by
    intro X hP hw hK hc i pins s σ H E I hf st hg
    subst hP hw hK
    obtain ⟨⟨old, he⟩, hit, hne, hi⟩ := st
    obtain ⟨f0, f1, f2, f3, f4, f5⟩ := hf it (by simp)
    have e : i = x.cps.size := Nat.le_antisymm hi hg
    subst e
    exact wpAny_pyNext_enum_endD (Draws.text (A := X.A.in1) (I.ok.hd hc) it x t) he hit fun h' eb => ⟨rfl, I.turned (t' := s.toks) (fun b o hb q => eb b o (fun z => hb (by simp [z])) q) f0 f1 f3 f4 f5⟩
  self := fun A i s Q E st h => let ⟨⟨_, he⟩, _⟩ := st; wpAny_pyIter_enum he h
def iEnumS (ta : TA) : TI := fun σ H R => ta σ H fun vs H1 => ∃ x, vs = [.str x] ∧ R (IteS x) H1
theorem pi_enumS {X : Cx} {e : Expr} {ta : TA} {p pos tpos : Pos} {elts : List Expr} {kk : Nat} (hg : Gl X "enumerate") (hm : X.mg "enumerate" = none) (ha : PA X [e] ta) (hs : starEach [e] X.env = [(false, eval e X.env)] := by rfl) :
    PI X (.Tuple elts kk tpos) (.Call (.Name "enumerate" p) [e] [] pos) (iEnumS ta) := by
  refine ⟨fun pins s σ H R I h => ?_⟩
  refine Call_ (ld_blt I hg hm boot_enumerate (PyProof.Rows.callWith_type1 (thn (ha.run pos pins s σ H _ I h) fun us s1 ⟨vs, H1, I1, r1, q1⟩ => ?_) hs rfl))
  obtain ⟨x, ex, q⟩ := q1
  subst ex
  cases r1 with
  | cons r rr =>
    cases rr
    obtain ⟨t, rfl⟩ := r
    refine call_enumerate_str fun h' he hit hsz hk => wpAny_pyIter_enum he ?_
    have I2 : Inv X pins σ H1 { s1 with heap := h' } := I1.kept (t' := s1.toks) hk
    refine ⟨s1.heap.objs.size + 1, [s1.heap.objs.size + 1, s1.heap.objs.size], _, _, H1, rfl, I2, turn_enumS x t (s1.heap.objs.size + 1) s1.heap.objs.size, ⟨⟨.none, he⟩, hit, Nat.succ_ne_self _, Nat.zero_le _⟩, fun b hb => ?_, q⟩
    have e' : b = s1.heap.objs.size + 1 ∨ b = s1.heap.objs.size := by simpa using hb
    have hle : s1.heap.objs.size ≤ b := by
      rcases e' with z | z
      · rw [z]; exact Nat.le_add_right _ _
      · rw [z]; exact Nat.le_refl _
    exact I1.fpOk hle (I1.hok.fresh hle)
theorem walk_enumS {x : Str} : Walk (IteS x) x.cps.size (fun _ => True) (fun i H v H' => ∃ T c, v = .ref T ∧ H T = none ∧ H' = upd H T (.tup [.int (i : Nat), .str ⟨#[c]⟩]) ∧ x.cps[i]? = some c) :=
  ⟨fun _ _ hi _ => hi, fun _ _ => Nat.le_refl _, fun _ _ _ _ _ _ y => y⟩

/-! ### lists of ints compared -/
section
open PySem.SeqAt
theorem firstLt_map (f : Nat → Nat) (e r : Nat → Bool) (fin : Bool) : ∀ l : List Nat, firstLt e r fin (l.map f) = firstLt (fun j => e (f j)) (fun j => r (f j)) fin l
  | [] => rfl
  | j :: l => by
    rw [List.map_cons]
    cases h : e (f j) with
    | true => rw [firstLt_yes h, firstLt_yes (e := fun j => e (f j)) (j := j) h]; exact firstLt_map f e r fin l
    | false => rw [firstLt_no h, firstLt_no (e := fun j => e (f j)) (j := j) h]
theorem firstLt_lex : ∀ (ns ms : List Nat),
    firstLt (fun j => decide (ns.getD j 0 = ms.getD j 0)) (fun j => decide (ns.getD j 0 < ms.getD j 0)) (decide (ns.length < ms.length)) (List.range (min ns.length ms.length)) = MM.lexN ns ms
  | [], [] => rfl
  | [], b :: ms => by
    show firstLt _ _ _ (List.range (min 0 _)) = true
    rw [Nat.zero_min]
    show decide _ = true
    exact decide_eq_true (by simp)
  | a :: ns, [] => by
    show firstLt _ _ _ (List.range (min _ 0)) = false
    rw [Nat.min_zero]
    show decide _ = false
    exact decide_eq_false (by simp)
  | a :: ns, b :: ms => by
    have e : List.range (min (a :: ns).length (b :: ms).length) = 0 :: (List.range (min ns.length ms.length)).map Nat.succ := by
      rw [List.length_cons, List.length_cons, Nat.succ_min_succ, List.range_succ_eq_map]
    rw [e]
    show _ = (if a = b then MM.lexN ns ms else decide (a < b))
    by_cases h : a = b
    · rw [if_pos h, firstLt_yes (show decide ((a :: ns).getD 0 0 = (b :: ms).getD 0 0) = true from decide_eq_true h), firstLt_map, ← firstLt_lex ns ms]
      have : decide ((a :: ns).length < (b :: ms).length) = decide (ns.length < ms.length) := by simp
      rw [this]
      rfl
    · rw [if_neg h, firstLt_no (show decide ((a :: ns).getD 0 0 = (b :: ms).getD 0 0) = false from decide_eq_false h)]
      rfl
theorem vals_nat {ns : List Nat} {us : List Value} (r : Vals (vn ns) us) {j : Nat} (h : j < us.length) : ∃ t, us[j] = .int ((ns.getD j 0 : Nat) : Int) t := by
  have hl := r.length
  rw [List.length_map] at hl
  have hj : ns[j]? = some (ns[j]'(by omega)) := by simp
  obtain ⟨u, hu, ru⟩ := r.get (i := j) (x := vi (ns[j]'(by omega))) (by rw [List.getElem?_map, hj]; rfl)
  have e : us[j] = u := by
    rw [List.getElem?_eq_getElem h] at hu
    exact Option.some.inj hu
  obtain ⟨t, rfl⟩ := ru
  refine ⟨t, ?_⟩
  rw [e, List.getD_eq_getElem?_getD, hj]
  rfl
def rLtL (K : PySem.W.Frag) : R2 := fun x y H Q => ∃ a b ns ms, x = .ref a ∧ y = .ref b ∧ SqL K H a (vn ns) ∧ SqL K H b (vn ms) ∧ Q (.bl (MM.lexN ns ms)) H
theorem op_lt_lst {X : Cx} (hu : X.A.units < cLine) : OpR X (compareOp .Lt) (rLtL X.K) := by
  intro pins s σ H x y v u Q I rx ry h
  obtain ⟨a, b, ns, ms, rfl, rfl, ha, hb, q⟩ := h
  obtain rfl : v = Value.ref a := rx
  obtain rfl : u = Value.ref b := ry
  obtain ⟨us, r1, p1, z1⟩ := I.list ha
  obtain ⟨ws, r2, p2, z2⟩ := I.list hb
  have l1 := r1.length
  have l2 := r2.length
  rw [List.length_map] at l1 l2
  refine (RcLt.lists (A := X.A) (s := s) (e := fun j => decide (ns.getD j 0 = ms.getD j 0)) (r := fun j => decide (ns.getD j 0 < ms.getD j 0)) p1.isList p2.isList hu (fun j h1 h2 => ?_) (fun j h1 h2 _ => ?_)) X.prog X.w X.xe _ ?_
  · obtain ⟨t1, e1⟩ := vals_nat r1 (j := j) (by simpa using h1)
    obtain ⟨t2, e2⟩ := vals_nat r2 (j := j) (by simpa using h2)
    have e1' : us.toArray[j] = .int ((ns.getD j 0 : Nat) : Int) t1 := by simpa using e1
    have e2' : ws.toArray[j] = .int ((ms.getD j 0 : Nat) : Int) t2 := by simpa using e2
    rw [e1', e2']
    have q := SeqAt.EqAt.int_int (A := X.A.in1) (s := s) ((ns.getD j 0 : Nat) : Int) t1 ((ms.getD j 0 : Nat) : Int) t2
    have e : (((ns.getD j 0 : Nat) : Int) == ((ms.getD j 0 : Nat) : Int)) = decide (ns.getD j 0 = ms.getD j 0) := by
      rw [Bool.eq_iff_iff, beq_iff_eq, decide_eq_true_iff]
      exact Int.ofNat_inj
    rw [e] at q
    exact q
  · obtain ⟨t1, e1⟩ := vals_nat r1 (j := j) (by simpa using h1)
    obtain ⟨t2, e2⟩ := vals_nat r2 (j := j) (by simpa using h2)
    have e1' : us.toArray[j] = .int ((ns.getD j 0 : Nat) : Int) t1 := by simpa using e1
    have e2' : ws.toArray[j] = .int ((ms.getD j 0 : Nat) : Int) t2 := by simpa using e2
    rw [e1', e2']
    intro prog w E Q h
    refine PyProof.Rows.lt_int ?_
    have e : decide (((ns.getD j 0 : Nat) : Int) < ((ms.getD j 0 : Nat) : Int)) = decide (ns.getD j 0 < ms.getD j 0) := by
      rw [Bool.eq_iff_iff]
      simp
    rw [e]
    exact h
  · have e : firstLt (fun j => decide (ns.getD j 0 = ms.getD j 0)) (fun j => decide (ns.getD j 0 < ms.getD j 0)) (decide (us.toArray.size < ws.toArray.size)) (List.range (min us.toArray.size ws.toArray.size)) = MM.lexN ns ms := by
      rw [List.size_toArray, List.size_toArray, ← l1, ← l2]
      exact firstLt_lex ns ms
    rw [e]
    exact ⟨.bl _, H, I, rfl, q⟩
end

/-! ### def f(a, .., **d), called without keywords -/
section
variable {P : Program} {w : World} {K : PySem.W.Frag} {mg : Str → Option Value} {base : Heap} {k : Nat} {f : Addr} {name qual : Str} {params : Arguments} {body : List Stmt} {scope : Scope} {dV kV doc pm cdv ct oc : Value} {an od : Option Addr}
  {osl : Array (Option Value)} {N ps : List Str} {sp : Sp}
theorem fn_kw {pd : Str} (lk : K.lookup f = some ⟨oc, od, .func (PySem.W.fnOf name qual params body scope dV kV doc pm an cdv ct), osl⟩) (hcd : PySem.W.codeIn K cdv qual = true) (S : FnScope N (ps ++ [pd]) scope)
    (hb : ∀ us : List Value, us.length = ps.length → bindArgs (PySem.W.fnOf name qual params body scope dV kV doc pm an cdv ct) ⟨us, []⟩ = ((alloc ({ cls := .type "dict", data := .dict #[] } : Obj) : Sem Addr) >>= fun d => pure (ps.zip us ++ [(pd, Value.ref d)])))
    (hbody : ∀ (A : Around) (outer : List Env) (s : Shared) (H : Hp) (vs : List V) (Q : VK) (E : XK), Room k (A.deeper (envOfC qual scope s.heap.objs.size f cdv)) → sp vs H Q E →
      ∃ t, PSs (cxOf CX0 P w K mg base N qual scope f cdv A outer s H E).nox body t ∧ t { nx := fun _ H' => Q .non H', rt := Q } (start N vs) H) :
    FnR P w K mg base CX0 (k + 1) f (fun vs H Q E => vs.length = ps.length ∧ ∀ d, H d = Option.none → sp (vs ++ [V.ref d]) (upd H d (.dK [])) Q E) := by
  intro A outer s H us vs Q E hr e0 r hsp
  obtain ⟨hl, hq⟩ := hsp
  have hn : H s.heap.objs.size = Option.none := e0.hok.fresh (Nat.le_refl _)
  have hl1 : us.length = ps.length := by rw [← r.length]; exact hl
  refine StX.run_bnd lk hcd S hr e0 (G := fun xs H2 => ∃ d, H d = Option.none ∧ xs = vs ++ [V.ref d] ∧ H2 = upd H d (.dK [])) (fun A' Ex Q' h => ?_) fun s2 H2 xs ⟨d, hd, ex, eH⟩ hr' => ?_
  · rw [hb us hl1]
    refine wpAny_bind (wpAny_alloc (wpAny_pure ?_))
    have e1 := StX.env0_laid (u := .dK []) (o := ({ cls := .type "dict", data := .dict #[] } : Obj)) e0 (dk_empty _ (StX.env0_big e0))
    have un1 := StX.un_laid (fs := frs outer) (s := s) (o := ({ cls := .type "dict", data := .dict #[] } : Obj)) (u := .dK []) hn
    have z := h _ _ (vs ++ [V.ref s.heap.objs.size]) (us ++ [Value.ref s.heap.objs.size]) e1 un1 rfl (fun e s' q => q) (r.append (.cons rfl .nil))
      (by rw [List.length_append, List.length_append, hl] <;> rfl) ⟨_, hn, rfl, rfl⟩
    rw [List.zip_append hl1.symm] at z
    exact z
  · subst ex eH
    obtain ⟨t, h1, h2⟩ := hbody A outer s2 _ _ Q E hr' (hq d hd)
    exact ⟨t, h1.nox, h2⟩
/-- the class at C is made so, whatever its __init__ lays as it binds -/
structure GIR (P : Program) (w : World) (K : PySem.W.Frag) (mg : Str → Option Value) (base : Heap) (k : Nat) (C : Addr) (sp : Sp) : Prop where
  ok : ∃ f, Mk K C f ∧ FnR P w K mg base CX0 k f sp
end
section
variable {X : Cx} {k : Nat} {C : Addr} {x : Str} {sp : Sp} {p pos : Pos} {e : Expr} {es : List Expr} {t : TA}
theorem pe_makeRG (F : GIR X.prog X.w X.K X.mg X.base k C sp) (hr : Room (k + 1) X.A) (hg : Gl X x) (hm : X.mg x = some (.ref C)) (ha : PA X (e :: es) t) (hdb : (x == ("__debug__" : Str)) = false := by decide)
    (he : starEach (e :: es) X.env = (false, eval e X.env) :: starEach es X.env := by rfl) (hpl : (backTo pos (starEach es X.env)).any (·.1) = false := by rfl) :
    PE X (.Call (.Name x p) (e :: es) [] pos) (StX.tMakeR C sp E0 t) := by
  obtain ⟨f, h1, h2⟩ := F.ok
  exact StX.pe_makeR h1 h2 hr hg hm pass0 ha hdb he hpl
end
end Mm

set_option maxHeartbeats 4000000
/-! the cast -/
namespace Mm
open PySem PySem.Spec L2 MM
open PyProof.Rows hiding St
def chr (c : Nat) : Str := ⟨#[c]⟩
theorem chr_inj {a b : Nat} (h : chr a = chr b) : a = b := by
  have h1 : (chr a).cps = (chr b).cps := congrArg Str.cps h
  have h2 : (#[a] : Array Nat) = #[b] := h1
  have h3 : (#[a] : Array Nat).toList = (#[b] : Array Nat).toList := congrArg Array.toList h2
  simpa using h3
theorem chr_iff {a b : Nat} : chr a = chr b ↔ a = b := ⟨chr_inj, fun e => by rw [e]⟩
theorem chr_len (a : Nat) : (chr a).length = 1 := rfl
theorem lets_at {i c : Nat} (h : (Str.ofString "abcdefghijklmnopqrstuvwxyz").cps[i]? = some c) : i < 26 ∧ c = 97 + i := by
  have hz : (Str.ofString "abcdefghijklmnopqrstuvwxyz").cps.size = 26 := by decide +kernel
  have hi : i < 26 := by
    apply Decidable.byContradiction
    intro z
    rw [Array.getElem?_eq_none (by omega)] at h
    cases h
  have q : ∀ j : Fin 26, (Str.ofString "abcdefghijklmnopqrstuvwxyz").cps[j.1]? = some (97 + j.1) := by decide +kernel
  rw [q ⟨i, hi⟩] at h
  exact ⟨hi, (Option.some.inj h).symm⟩
theorem lets_size : (Str.ofString "abcdefghijklmnopqrstuvwxyz").cps.size = 26 := by decide +kernel
theorem lets_mem {l : Nat} (h1 : 97 ≤ l) (h2 : l ≤ 122) : l ∈ (Str.ofString "abcdefghijklmnopqrstuvwxyz").cps.toList := by
  have q : ∀ j : Fin 26, (97 + j.1) ∈ (Str.ofString "abcdefghijklmnopqrstuvwxyz").cps.toList := by decide +kernel
  have := q ⟨l - 97, by omega⟩
  have e : 97 + (l - 97) = l := by omega
  simpa [e] using this
abbrev Ent := Nat × Addr × List Nat
def kvsC (E : List Ent) : List (Key × V) := E.map fun e => (Sum.inr (chr e.1), V.ref e.2.1)
def rosOf (ls : List Nat) : List Nat := (List.range' 97 26).filter fun l => decide (l ∈ ls)
def rosC (E : List Ent) : List Nat := rosOf (E.map (·.1))
abbrev vc (l : Nat) : V := .str (chr l)
def castFs (n : Nat) (fo ro : Addr) : List (Str × V) := [("size", vi n), ("folk", .ref fo), ("roster", .ref ro)]
structure CastAt (CC CT : Addr) (H : Hp) (a fo : Addr) (n : Nat) (E : List Ent) : Prop where
  ins : ∃ dx ro, H a = some (.ins CC dx (castFs n fo ro)) ∧ H ro = some (.lst ((rosC E).map vc))
  folk : H fo = some (.dK (kvsC E))
  tab : ∀ e ∈ E, TabAt CT H e.2.1 e.2.2
  nd : (E.map (·.1)).Nodup
  az : ∀ e ∈ E, 97 ≤ e.1 ∧ e.1 ≤ 122
  few : E.length ≤ 8
theorem CastAt.same {CC CT : Addr} {H H' : Hp} {a fo n : Nat} {E : List Ent} (h : CastAt CC CT H a fo n E) (s : Same H H') : CastAt CC CT H' a fo n E := by
  obtain ⟨dx, ro, h1, h2⟩ := h.ins
  exact ⟨⟨dx, ro, s _ _ h1, s _ _ h2⟩, s _ _ h.folk, fun e he => (h.tab e he).same s, h.nd, h.az, h.few⟩
theorem val_kvs (l : Nat) : ∀ E : List Ent, valV (kvsC E) (.inr (chr l)) = (E.find? fun e => decide (e.1 = l)).map fun e => V.ref e.2.1
  | [] => rfl
  | e :: E => by
    unfold kvsC
    rw [List.map_cons, List.find?_cons]
    by_cases h : e.1 = l
    · rw [valV_pos (p := (Sum.inr (chr e.1), V.ref e.2.1)) (by rw [h]), decide_eq_true h]
      rfl
    · rw [valV_neg (p := (Sum.inr (chr e.1), V.ref e.2.1)) (fun q => h (chr_inj (Sum.inr.inj q))), decide_eq_false h]
      exact val_kvs l E
theorem val_has (l : Nat) (E : List Ent) : (valV (kvsC E) (.inr (chr l))).isSome = decide (l ∈ E.map (·.1)) := by
  rw [val_kvs, Option.isSome_map]
  induction E with
  | nil => rfl
  | cons e E ih =>
    rw [List.find?_cons]
    by_cases h : e.1 = l
    · rw [decide_eq_true h]
      symm
      exact decide_eq_true (by rw [List.map_cons, h]; exact List.mem_cons_self)
    · rw [decide_eq_false h]
      show (E.find? _).isSome = _
      rw [ih, List.map_cons]
      have : (l ∈ e.1 :: E.map (·.1)) ↔ l ∈ E.map (·.1) := by
        rw [List.mem_cons]
        exact ⟨fun q => q.elim (fun z => absurd z.symm h) id, .inr⟩
      exact (decide_eq_decide.mpr this).symm
theorem val_new {l : Nat} {E : List Ent} (h : l ∉ E.map (·.1)) : valV (kvsC E) (.inr (chr l)) = none := by
  have := val_has l E
  rw [decide_eq_false h] at this
  cases z : valV (kvsC E) (.inr (chr l)) with
  | none => rfl
  | some v => rw [z] at this; cases this
theorem val_at {e : Ent} {E : List Ent} (nd : (E.map (·.1)).Nodup) (he : e ∈ E) : valV (kvsC E) (.inr (chr e.1)) = some (.ref e.2.1) := by
  rw [val_kvs]
  induction E with
  | nil => cases he
  | cons x E ih =>
    rw [List.map_cons, List.nodup_cons] at nd
    rw [List.find?_cons]
    rcases List.mem_cons.mp he with q | q
    · subst q
      rw [decide_eq_true rfl]
      rfl
    · by_cases h : x.1 = e.1
      · exact absurd (h ▸ List.mem_map_of_mem q) nd.1
      · rw [decide_eq_false h]
        exact ih nd.2 q
theorem kvs_snoc {l : Nat} {t : Addr} {ms : List Nat} {E : List Ent} (h : l ∉ E.map (·.1)) : putK (kvsC E) (.inr (chr l)) (.ref t) = kvsC (E ++ [(l, t, ms)]) := by
  rw [putK_new _ (val_new h)]
  unfold kvsC
  rw [List.map_append]
  rfl
theorem kvs_len (E : List Ent) : (kvsC E).length = E.length := List.length_map ..
theorem ros_step (p : Nat → Bool) (i : Nat) : (List.range' 97 (i + 1)).filter p = (List.range' 97 i).filter p ++ (if p (97 + i) then [97 + i] else []) := by
  rw [List.range'_concat, List.filter_append, List.filter_cons, List.filter_nil, Nat.one_mul]
structure CastC (K : PySem.W.Frag) (mg : Str → Option Value) (C : Addr) : Prop where
  cl : Cls K C
  mgC : mg "Cast" = some (.ref C)
  nSize : NoAttr K C "size"
  nFolk : NoAttr K C "folk"
  nRoster : NoAttr K C "roster"
/-- a person whose words are said so: whatever the class -/
def Folk (P : Program) (w : World) (K : PySem.W.Frag) (mg : Str → Option Value) (base : Heap) (CT : Addr) (H : Hp) (p : Addr) (n : Nat) (rows : List (List Nat)) : Prop :=
  ∃ (C : Addr) (need : Bool) (r0 : PD → List Nat → Nat → List Nat) (d : PD) (su : Option (List Nat)), PersC K C ∧ GP P w K mg base 7 C "table" (sp_Pers_table CT C need r0) ∧ PAt C H p d su ∧ (need = true → su.isSome = true) ∧ d.Ok ∧
    (∀ x, x < d.hears.length → ∀ o ∈ r0 d (su.getD []) x, o < d.hears.length) ∧ (∀ x, x < d.hears.length → (r0 d (su.getD []) x).length ≤ 6) ∧ d.hears.length = n ∧ rows = tabR r0 d (su.getD [])
theorem Folk.same {P : Program} {w : World} {K : PySem.W.Frag} {mg : Str → Option Value} {base : Heap} {CT : Addr} {H H' : Hp} {p : Addr} {n : Nat} {rows : List (List Nat)} (h : Folk P w K mg base CT H p n rows) (s : Same H H') : Folk P w K mg base CT H' p n rows := by
  obtain ⟨C, need, r0, d, su, h1, h2, h3, h4⟩ := h
  exact ⟨C, need, r0, d, su, h1, h2, h3.same s, h4⟩
theorem TabAt.upd {CT : Addr} {H : Hp} {t a : Addr} {ms : List Nat} {o u : HO} (h : TabAt CT H t ms) (ha : H a = some u) (h1 : ∀ dx m cc, u ≠ .ins CT dx (tabFs ms.length m cc)) (h2 : ∀ xs, u ≠ .tup xs) : TabAt CT (upd H a o) t ms := by
  obtain ⟨dx, m, cc, e1, e2⟩ := h
  refine ⟨dx, m, cc, ?_, ?_⟩
  · rw [upd_ne (ne_of e1 ha (fun z => h1 _ _ _ z.symm))]; exact e1
  · rw [upd_ne (ne_of e2 ha (fun z => h2 _ z.symm))]; exact e2
theorem castFs_ne {CC CT dx dx' : Addr} {n k : Nat} {fo ro m cc : Addr} : HO.ins CC dx (castFs n fo ro) ≠ HO.ins CT dx' (tabFs k m cc) := by
  intro z
  injection z with z1 z2 z3
  injection z3 with z4 z5
  injection z5 with z6 z7
  injection z6 with z8 z9
  exact absurd z8 (by decide)
section
variable {P : Program} {w : World} {K : PySem.W.Frag} {mg : Str → Option Value} {base : Heap}
abbrev s_Cast_put : Stmt := (inClass (top 63) 1)
abbrev N_Cast_put : List Str := ["self", "letter", "person", "sign"]
theorem sc_Cast_put : FnScope N_Cast_put ["self", "letter", "person"] (defScope s_Cast_put) := ⟨rfl, rfl, rfl, by decide +kernel, rfl, by decide +kernel, by decide +kernel⟩
def sp_put (P : Program) (w : World) (K : PySem.W.Frag) (mg : Str → Option Value) (base : Heap) (CC CT : Addr) : Sp := fun vs H Q _ => ∃ (H0 : Hp) (a fo p : Addr) (l n : Nat) (E : List Ent) (rows : List (List Nat)), vs = [.ref a, .str (chr l), .ref p] ∧ Same H0 H ∧ H0 a = none ∧ H0 fo = none ∧ CastAt CC CT H a fo n E ∧
  Folk P w K mg base CT H p n rows ∧ l ∉ E.map (·.1) ∧ E.length < 8 ∧ 97 ≤ l ∧ l ≤ 122 ∧ ∀ H' t, Same H0 H' → CastAt CC CT H' a fo n (E ++ [(l, t, rows.map maskOf)]) → Q .non H'
theorem g_Cast_put {CC CT : Addr} (F : FnM K CC "put" "Cast.put" s_Cast_put) (Cc : CastC K mg CC) (B : Blt mg) (G_check_sizes : G P w K mg base 1 "check_sizes" ["first", "second"] sp_check_sizes) :
    GM P w K mg base 9 CC "put" ["self", "letter", "person"] (sp_put P w K mg base CC CT) := by
  refine gm_of F sc_Cast_put (fun _ _ _ _ _ _ us hl => match us, hl with | [_, _, _], _ => rfl) (fun vs H Q E h => ?_) (fun f cdv A outer s H vs Q E hr h => ?_)
  · obtain ⟨H0, a, fo, p, l, n, E, rows, rfl, _⟩ := h
    rfl
  · obtain ⟨H0, a, fo, p, l, n, E, rows, rfl, s0, na, nfo, hC, ⟨C, need, r0, d, su, Pc, G_Pers_table, hP, hsu, ok, hlt, hle, hn, rfl⟩, hl, he8, h97, h122, k⟩ := h
    obtain ⟨dx, ro, ha, hro⟩ := hC.ins
    obtain ⟨sw, hB⟩ := hP.base
    obtain ⟨dxp, ep, mo, hp⟩ := hB.ins
    have hu := hu_of hr
    refine ⟨_, (pss_cons (ps_if (PW.pt (pw_or (pt_cmpR op_ne (pe_callB call_len_str (by rfl) B.b_len PySem.boot_len (pa_cons (pv 1) pa_nil)) pe_int (nomark _)) (pw_or1 (pt_cmpR op_notIn_sign (pv 1) (pe_gstr rfl B.k_LETTERS) rfl)))) (pss_one ps_never) pss_nil)
      (pss_cons (ps_expr (pe_g G_check_sizes (hr.mono (by decide)) (by rfl) (pa_cons (pe_fldK (K := K) rfl (pv 0) rfl) (pa_cons (pe_fldK (K := K) rfl (pv 2) rfl) pa_nil))))
      (pss_cons (ps_if (PW.pt (pw_and (pt_cmp (pc_dnotin hu (pv 1) (pe_fldK (K := K) rfl (pv 0) rfl))) (pw_and1 (pt_cmpR op_ge (pe_callB call_lenD (by rfl) B.b_len PySem.boot_len (pa_cons (pe_fldK (K := K) rfl (pv 0) rfl) pa_nil)) (pe_gint rfl B.k_MOST_PEOPLE) (nomark _))))) (pss_one ps_never) pss_nil)
      (pss_cons (ps_dput hu (pe_fldK (K := K) rfl (pv 0) rfl) (pv 1) (pe_propG Pc.cl G_Pers_table (hr.mono (by decide)) (pv 2) rfl) rfl)
      (pss_one (ps_fld (pv 0) (pe_lc (own := [("sign", 3)]) rfl sc_Cast_put.nd (pi_str (pe_gstr rfl B.k_LETTERS)) (blkOk_by (N := N_Cast_put) (sc := defScope s_Cast_put) (by decide +kernel)) (fun _ _ _ _ _ => (pg_name (i := 3) sc_Cast_put.nd rfl (Or.inl rfl))) (fun _ _ _ _ _ => pts_one (pt_cmp (pc_din hu (pv 3) (pe_fldK (K := K) rfl (pv 0) rfl)))) (fun _ _ _ _ _ => (pv 3))) rfl)))))), ?_⟩
    refine ⟨_, rfl, chr l, rfl, le_of_small (m := 1) (Nat.le_refl _), rfl, _, rfl, iteIn (fun c => absurd rfl c) fun _ => ?_⟩
    refine ⟨_, rfl, l, _, rfl, rfl, _, rfl, ?_⟩
    rw [decide_eq_true (lets_mem h97 h122)]
    -- check_sizes(self.size, person.size)
    refine ⟨_, rfl, a, CC, dx, _, _, rfl, ha, Cc.cl, Cc.nSize, rfl, _, rfl, p, C, dxp, _, _, rfl, hp, Pc.cl, Pc.nSize, rfl, n, by rw [hn]; rfl, ?_⟩
    have hv := val_new hl
    refine ⟨_, rfl, _, rfl, a, CC, dx, _, _, rfl, ha, Cc.cl, Cc.nFolk, rfl, fo, none, rfl, .inl ⟨kvsC E, .inr (chr l), .inl hC.folk, rfl, hv.symm⟩, _, rfl, ?_⟩
    refine ⟨_, rfl, a, CC, dx, _, _, rfl, ha, Cc.cl, Cc.nFolk, rfl, fo, kvsC E, rfl, hC.folk, _, _, rfl, rfl, _, rfl, iteD (fun c => absurd c ?_) fun _ => ?_⟩
    · rw [kvs_len]; omega
    -- self.folk[letter] = person.table
    refine ⟨_, rfl, p, dxp, _, rfl, hp, p, d, su, rfl, hP, hsu, ok, hlt, hle, fun t H1 s1 ht hT => ?_⟩
    have a1 := s1 _ _ ha
    have f1 := s1 _ _ hC.folk
    have nat : a ≠ t := ne_of_none ha ht
    have nft : fo ≠ t := ne_of_none hC.folk ht
    refine ⟨_, rfl, a, CC, dx, _, _, rfl, a1, Cc.cl, Cc.nFolk, rfl, _, rfl, fo, _, rfl, .inl ⟨kvsC E, .inr (chr l), f1, rfl, by rw [kvs_len]; exact small_of (m := 8) (Nat.le_of_lt he8), rfl⟩, ?_⟩
    rw [kvs_snoc (ms := (tabR r0 d (su.getD [])).map maskOf) hl]
    -- self.roster = [..]
    have naf : a ≠ fo := ne_of ha hC.folk (fun z => nomatch z)
    generalize hE' : E ++ [(l, t, (tabR r0 d (su.getD [])).map maskOf)] = E'
    generalize hH2 : upd H1 fo (.dK (kvsC E')) = H2
    have f2 : H2 fo = some (.dK (kvsC E')) := by rw [← hH2, upd_same]
    have a2 : H2 a = some (.ins CC dx (castFs n fo ro)) := by rw [← hH2, upd_ne naf]; exact a1
    have s2 : Same H0 H2 := by rw [← hH2]; exact same_upd (s0.trans s1) nfo
    have tab2 : ∀ e ∈ E', TabAt CT H2 e.2.1 e.2.2 := by
      intro e he
      rw [← hE'] at he
      rw [← hH2]
      rcases List.mem_append.mp he with q | q
      · exact ((hC.tab e q).same s1).upd f1 (fun _ _ _ z => nomatch z) (fun _ z => nomatch z)
      · rw [List.mem_singleton.mp q]
        exact hT.upd f1 (fun _ _ _ z => nomatch z) (fun _ z => nomatch z)
    refine ⟨_, rfl, fun D hD => blk_w walk_str (fun i H' => LB H2 D H' (((List.range' 97 i).filter fun l => decide (l ∈ E'.map (·.1))).map vc)) (LB.start hD) (fun _ _ _ _ => trivial) ?_ ?_⟩
    · rintro i y Ha Hb hi L ⟨rfl, c, hc, rfl⟩ N hN
      obtain ⟨h26, rfl⟩ := lets_at hc
      refine ⟨rfl, ?_⟩
      refine ⟨_, rfl, _, rfl, a, CC, dx, _, _, rfl, L.sm _ _ a2, Cc.cl, Cc.nFolk, rfl, fo, _, rfl, .inl ⟨kvsC E', .inr (chr (97 + i)), .inl (L.sm _ _ f2), rfl, rfl⟩, _, rfl, ?_⟩
      refine iteB (fun c => ?_) (fun c => ?_) <;> rw [val_has] at c
      · refine ⟨_, rfl, _, L.at_, small_of (m := 26) ?_, hN _ ?_⟩
        · rw [List.length_map]
          have := List.length_filter_le (fun l => decide (l ∈ E'.map (·.1))) (List.range' 97 i)
          rw [List.length_range'] at this
          omega
        · rw [ros_step, c, List.map_append]
          exact L.snoc _
      · refine hN _ ?_
        rw [ros_step, c]
        simpa using L
    · intro H3 L
      rw [lets_size] at L
      refine ⟨_, rfl, a, CC, dx, _, rfl, L.sm _ _ a2, Cc.cl, Cc.nRoster, (by show 3 < 1000; decide), ?_⟩
      have naD : a ≠ D := ne_of_none a2 L.nw
      refine k _ t (same_upd (s2.trans L.sm) na) ?_
      rw [hE']
      refine ⟨⟨dx, D, ?_, ?_⟩, ?_, fun e he => ?_, ?_, fun e he => ?_, ?_⟩
      · rw [upd_same]; rfl
      · rw [upd_ne naD.symm]; exact L.at_
      · rw [upd_ne naf.symm]; exact L.sm _ _ f2
      · exact ((tab2 e he).same L.sm).upd (L.sm _ _ a2) (fun _ _ _ => castFs_ne) (fun _ z => nomatch z)
      · rw [← hE', List.map_append, List.nodup_append]
        refine ⟨hC.nd, by simp, fun x hx y hy => ?_⟩
        have ey : y = l := by simpa using hy
        subst ey
        exact fun q => hl (q ▸ hx)
      · rw [← hE'] at he
        rcases List.mem_append.mp he with q | q
        · exact hC.az e q
        · rw [List.mem_singleton.mp q]; exact ⟨h97, h122⟩
      · rw [← hE', List.length_append, List.length_singleton]; omega
end
end Mm

set_option maxHeartbeats 4000000
/-! the cast, whole -/
namespace Mm
open PySem PySem.Spec L2 MM
open PyProof.Rows hiding St
theorem mem_ros {l : Nat} {ls : List Nat} : l ∈ rosOf ls ↔ (97 ≤ l ∧ l ≤ 122) ∧ l ∈ ls := by
  unfold rosOf
  rw [List.mem_filter, List.mem_range', decide_eq_true_iff]
  constructor
  · rintro ⟨⟨i, h1, h2⟩, h3⟩
    exact ⟨by omega, h3⟩
  · rintro ⟨h1, h3⟩
    exact ⟨⟨l - 97, by omega, by omega⟩, h3⟩
theorem ros_asc (ls : List Nat) : (rosOf ls).Pairwise (· < ·) := List.Pairwise.filter _ (List.pairwise_lt_range')
theorem mem_rosC {l : Nat} {E : List Ent} (h : ∀ e ∈ E, 97 ≤ e.1 ∧ e.1 ≤ 122) : l ∈ rosC E ↔ l ∈ E.map (·.1) := by
  unfold rosC
  rw [mem_ros]
  refine ⟨fun q => q.2, fun q => ⟨?_, q⟩⟩
  obtain ⟨e, he, rfl⟩ := List.mem_map.mp q
  exact h e he
/-- a table's rows are what the model says of l -/
def RowIs (c : CM) (l : Nat) (ms : List Nat) : Prop := ms.length = c.n ∧ ∀ w, w < c.n → ∃ m, ms[w]? = some m ∧ m < 2 ^ 6 ∧ bitsM m = c.R l w
structure ModOf (E : List Ent) (c : CM) : Prop where
  L : c.L = rosC E
  ms : ∀ e ∈ E, RowIs c e.1 e.2.2
def CastIs (CC CT : Addr) (H : Hp) (a : Addr) (c : CM) : Prop := ∃ fo E, CastAt CC CT H a fo c.n E ∧ ModOf E c
theorem CastIs.same {CC CT : Addr} {H H' : Hp} {a : Addr} {c : CM} (h : CastIs CC CT H a c) (s : Same H H') : CastIs CC CT H' a c := by
  obtain ⟨fo, E, h1, h2⟩ := h
  exact ⟨fo, E, h1.same s, h2⟩
theorem ros_len {E : List Ent} (h : ∀ e ∈ E, 97 ≤ e.1 ∧ e.1 ≤ 122) (nd : (E.map (·.1)).Nodup) : (rosC E).length = E.length := by
  have p : (rosC E).Perm (E.map (·.1)) := (List.perm_ext_iff_of_nodup ((ros_asc _).imp (fun q => Nat.ne_of_lt q)) nd).mpr fun x => mem_rosC h
  rw [p.length_eq, List.length_map]
def TabIs (CT : Addr) (H : Hp) (t : Addr) (c : CM) (l : Nat) : Prop := ∃ ms, TabAt CT H t ms ∧ RowIs c l ms
theorem TabIs.same {CT : Addr} {H H' : Hp} {t l : Nat} {c : CM} (h : TabIs CT H t c l) (s : Same H H') : TabIs CT H' t c l := by
  obtain ⟨ms, h1, h2⟩ := h
  exact ⟨ms, h1.same s, h2⟩
section
variable {P : Program} {w : World} {K : PySem.W.Frag} {mg : Str → Option Value} {base : Heap} {CC CT CP : Addr}
abbrev s_Cast_letters : Stmt := (inClass (top 63) 4)
abbrev N_Cast_letters : List Str := ["self"]
theorem sc_Cast_letters : FnScope N_Cast_letters ["self"] (defScope s_Cast_letters) := ⟨rfl, rfl, rfl, by decide +kernel, rfl, by decide +kernel, by decide +kernel⟩
def sp_letters (CC CT : Addr) : Sp := fun vs H Q _ => ∃ (a : Addr) (c : CM), vs = [.ref a] ∧ CastIs CC CT H a c ∧ ∀ l H', Same H H' → H l = none → H' l = some (.lst (c.L.map vc)) → Q (.ref l) H'
theorem g_Cast_letters (F : FnM K CC "letters" "Cast.letters" s_Cast_letters) (Cc : CastC K mg CC) (B : Blt mg) : GM P w K mg base 1 CC "letters" ["self"] (sp_letters CC CT) := by
  refine gm_of F sc_Cast_letters (fun _ _ _ _ _ _ us hl => match us, hl with | [_], _ => rfl) (fun vs H Q E h => ?_) (fun f cdv A outer s H vs Q E hr h => ?_)
  · obtain ⟨a, c, rfl, _⟩ := h
    rfl
  · obtain ⟨a, c, rfl, ⟨fo, E, hC, hM⟩, k⟩ := h
    obtain ⟨dx, ro, ha, hro⟩ := hC.ins
    refine ⟨_, (pss_one (ps_ret (pe_callTy (call_list_ofK (K := K) rfl) (by rfl) B.b_list (by decide +kernel) (pa_cons (pe_fldK (K := K) rfl (pv 0) rfl) pa_nil)))), ?_⟩
    refine ⟨_, rfl, a, CC, dx, _, _, rfl, ha, Cc.cl, Cc.nRoster, rfl, ro, _, rfl, .inl (SqL.of hro), fun l hl => k l _ (same_new hl) hl ?_⟩
    rw [upd_same, hM.L]
abbrev s_Cast_contains : Stmt := (inClass (top 63) 10)
abbrev N_Cast_contains : List Str := ["self", "letter"]
theorem sc_Cast_contains : FnScope N_Cast_contains ["self", "letter"] (defScope s_Cast_contains) := ⟨rfl, rfl, rfl, by decide +kernel, rfl, by decide +kernel, by decide +kernel⟩
def sp_contains (CC CT : Addr) : Sp := fun vs H Q _ => ∃ (a : Addr) (c : CM) (l : Nat), vs = [.ref a, .str (chr l)] ∧ CastIs CC CT H a c ∧ Q (.bl (decide (l ∈ c.L))) H
theorem g_Cast_contains (F : FnM K CC "__contains__" "Cast.__contains__" s_Cast_contains) (Cc : CastC K mg CC) : GM P w K mg base 1 CC "__contains__" ["self", "letter"] (sp_contains CC CT) := by
  refine gm_of F sc_Cast_contains (fun _ _ _ _ _ _ us hl => match us, hl with | [_, _], _ => rfl) (fun vs H Q E h => ?_) (fun f cdv A outer s H vs Q E hr h => ?_)
  · obtain ⟨a, c, l, rfl, _⟩ := h
    rfl
  · obtain ⟨a, c, l, rfl, ⟨fo, E, hC, hM⟩, k⟩ := h
    obtain ⟨dx, ro, ha, hro⟩ := hC.ins
    have hu := hu_of hr
    refine ⟨_, (pss_one (ps_ret (pe_cmp (pc_din hu (pv 1) (pe_fldK (K := K) rfl (pv 0) rfl))))), ?_⟩
    refine ⟨_, rfl, _, rfl, a, CC, dx, _, _, rfl, ha, Cc.cl, Cc.nFolk, rfl, fo, _, rfl, .inl ⟨kvsC E, .inr (chr l), .inl hC.folk, rfl, rfl⟩, ?_⟩
    rw [val_has]
    have e : decide (l ∈ E.map (·.1)) = decide (l ∈ c.L) := decide_eq_decide.mpr (by rw [hM.L]; exact (mem_rosC hC.az).symm)
    rw [e]
    exact k
abbrev s_Cast_getitem : Stmt := (inClass (top 63) 9)
abbrev N_Cast_getitem : List Str := ["self", "letter"]
theorem sc_Cast_getitem : FnScope N_Cast_getitem ["self", "letter"] (defScope s_Cast_getitem) := ⟨rfl, rfl, rfl, by decide +kernel, rfl, by decide +kernel, by decide +kernel⟩
def sp_getitem (CC CT : Addr) : Sp := fun vs H Q _ => ∃ (a : Addr) (c : CM) (l : Nat), vs = [.ref a, .str (chr l)] ∧ CastIs CC CT H a c ∧ l ∈ c.L ∧ ∀ t, TabIs CT H t c l → Q (.ref t) H
theorem g_Cast_getitem (F : FnM K CC "__getitem__" "Cast.__getitem__" s_Cast_getitem) (Cc : CastC K mg CC) : GM P w K mg base 1 CC "__getitem__" ["self", "letter"] (sp_getitem CC CT) := by
  refine gm_of F sc_Cast_getitem (fun _ _ _ _ _ _ us hl => match us, hl with | [_, _], _ => rfl) (fun vs H Q E h => ?_) (fun f cdv A outer s H vs Q E hr h => ?_)
  · obtain ⟨a, c, l, rfl, _⟩ := h
    rfl
  · obtain ⟨a, c, l, rfl, ⟨fo, E, hC, hM⟩, hl, k⟩ := h
    obtain ⟨dx, ro, ha, hro⟩ := hC.ins
    have hu := hu_of hr
    have hl' : l ∈ E.map (·.1) := by rw [← mem_rosC hC.az, ← hM.L]; exact hl
    obtain ⟨e, he, rfl⟩ := List.mem_map.mp hl'
    have hv := val_at hC.nd he
    refine ⟨_, (pss_cons (ps_if (pt_cmp (pc_dnotin hu (pv 1) (pe_fldK (K := K) rfl (pv 0) rfl))) (pss_one ps_never) pss_nil)
      (pss_one (ps_ret (pe_dget hu (pe_fldK (K := K) rfl (pv 0) rfl) (pv 1) (fun _ _ => rfl))))), ?_⟩
    refine ⟨_, rfl, _, rfl, a, CC, dx, _, _, rfl, ha, Cc.cl, Cc.nFolk, rfl, fo, _, rfl, .inl ⟨kvsC E, .inr (chr e.1), .inl hC.folk, rfl, hv.symm⟩, _, rfl, ?_⟩
    refine ⟨_, rfl, a, CC, dx, _, _, rfl, ha, Cc.cl, Cc.nFolk, rfl, _, rfl, fo, _, rfl, .inl ⟨kvsC E, .inr (chr e.1), .inl hC.folk, rfl, hv.symm⟩, ?_⟩
    exact k e.2.1 ⟨e.2.2, hC.tab e he, hM.ms e he⟩
abbrev s_Cast_len : Stmt := (inClass (top 63) 12)
abbrev N_Cast_len : List Str := ["self"]
theorem sc_Cast_len : FnScope N_Cast_len ["self"] (defScope s_Cast_len) := ⟨rfl, rfl, rfl, by decide +kernel, rfl, by decide +kernel, by decide +kernel⟩
def sp_clen (CC CT : Addr) : Sp := fun vs H Q _ => ∃ (a : Addr) (c : CM), vs = [.ref a] ∧ CastIs CC CT H a c ∧ Q (vi c.L.length) H
theorem g_Cast_len (F : FnM K CC "__len__" "Cast.__len__" s_Cast_len) (Cc : CastC K mg CC) (B : Blt mg) : GM P w K mg base 1 CC "__len__" ["self"] (sp_clen CC CT) := by
  refine gm_of F sc_Cast_len (fun _ _ _ _ _ _ us hl => match us, hl with | [_], _ => rfl) (fun vs H Q E h => ?_) (fun f cdv A outer s H vs Q E hr h => ?_)
  · obtain ⟨a, c, rfl, _⟩ := h
    rfl
  · obtain ⟨a, c, rfl, ⟨fo, E, hC, hM⟩, k⟩ := h
    obtain ⟨dx, ro, ha, hro⟩ := hC.ins
    refine ⟨_, (pss_one (ps_ret (pe_callB call_lenD (by rfl) B.b_len PySem.boot_len (pa_cons (pe_fldK (K := K) rfl (pv 0) rfl) pa_nil)))), ?_⟩
    refine ⟨_, rfl, a, CC, dx, _, _, rfl, ha, Cc.cl, Cc.nFolk, rfl, fo, kvsC E, rfl, hC.folk, ?_⟩
    have e : (kvsC E).length = c.L.length := by rw [kvs_len, hM.L, ros_len hC.az hC.nd]
    rw [e]
    exact k
abbrev s_Cast_check_letters : Stmt := (inClass (top 63) 3)
abbrev N_Cast_check_letters : List Str := ["self", "row", "place", "letter"]
theorem sc_Cast_check_letters : FnScope N_Cast_check_letters ["self", "row"] (defScope s_Cast_check_letters) := ⟨rfl, rfl, rfl, by decide +kernel, rfl, by decide +kernel, by decide +kernel⟩
def sp_check_letters (CC CT : Addr) : Sp := fun vs H Q _ => ∃ (a : Addr), vs = [.ref a, .str ""] ∧ Q .non H
theorem g_Cast_check_letters (F : FnM K CC "check_letters" "Cast.check_letters" s_Cast_check_letters) (Cc : CastC K mg CC) (B : Blt mg) : GM P w K mg base 1 CC "check_letters" ["self", "row"] (sp_check_letters CC CT) := by
  refine gm_of F sc_Cast_check_letters (fun _ _ _ _ _ _ us hl => match us, hl with | [_, _], _ => rfl) (fun vs H Q E h => ?_) (fun f cdv A outer s H vs Q E hr h => ?_)
  · obtain ⟨a, rfl, _⟩ := h
    rfl
  · obtain ⟨a, rfl, k⟩ := h
    have hu := hu_of hr
    refine ⟨_, (pss_one (ps_for PassesOwn.never rfl (pi_enumS (by rfl) B.b_enumerate (pa_cons (pv 1) pa_nil)) (pg_tup rfl (pgs_cons (pg_name (i := 2) sc_Cast_check_letters.nd rfl (Or.inl rfl)) (pgs_cons (pg_name (i := 3) sc_Cast_check_letters.nd rfl (Or.inl rfl)) pgs_nil))) (pss_one (ps_if (pt_cmp (pc_dnotin hu (pv 3) (pe_fldK (K := K) rfl (pv 0) rfl))) (pss_one ps_never) pss_nil)))), ?_⟩
    refine ⟨_, rfl, _, rfl, for_w walk_enumS (fun i σ H' => H' = H) rfl (fun _ _ _ _ _ => trivial) ?_ ?_⟩
    · intro i x σ H1 H2 hi
      have z : (Str.ofString "").cps.size = 0 := by decide +kernel
      omega
    · rintro σ H' rfl
      exact k
abbrev s_Cast_init : Stmt := (inClass (top 63) 0)
abbrev N_Cast_init : List Str := ["self", "size", "people", "name", "letter"]
theorem sc_Cast_init : FnScope N_Cast_init ["self", "size", "people"] (defScope s_Cast_init) := ⟨rfl, rfl, rfl, by decide +kernel, rfl, by decide +kernel, by decide +kernel⟩
def sp_Cast_body (CC CT : Addr) : Sp := fun vs H Q _ => ∃ (H0 : Hp) (x dx d : Addr) (n : Nat), vs = [.ref x, vi n, .ref d] ∧ Same H0 H ∧ H0 x = none ∧ H0 d = none ∧ x ≠ d ∧ H x = some (.ins CC dx []) ∧ H d = some (.dK []) ∧ 1 ≤ n ∧ n ≤ 6 ∧
  ∀ H' fo, Same H0 H' → H0 fo = none → CastAt CC CT H' x fo n [] → Q .non H'
def sp_Cast_init (CC CT : Addr) : Sp := fun vs H Q E => vs.length = 2 ∧ ∀ d, H d = none → sp_Cast_body CC CT (vs ++ [V.ref d]) (upd H d (.dK [])) Q E
def FnC (K : PySem.W.Frag) (C : Addr) (qual : Str) (st : Stmt) : Prop := ∃ (f : Addr) (fd : FuncData), Mk K C f ∧ FunD K "__init__" qual (defArgs st) (defBody st) (defScope st) [] [] f fd
theorem g_Cast_init (F : FnC K CC "Cast.__init__" s_Cast_init) (Cc : CastC K mg CC) (B : Blt mg) (G_check_size : G P w K mg base 1 "check_size" ["size"] sp_check_size) : GIR P w K mg base 2 CC (sp_Cast_init CC CT) := by
  obtain ⟨f, fd, hMk, FD⟩ := F
  obtain ⟨oc, od, dV, kV, doc, pm, an, cdv, ct, osl, rfl, lk, hcd, hdv, hkv⟩ := FD.ex
  obtain rfl : dV = .none := hdv.elim (fun z => z.2) fun z => absurd rfl z.1
  refine ⟨f, hMk, ?_⟩
  refine fn_kw (ps := ["self", "size"]) (pd := "people") (sp := sp_Cast_body CC CT) lk hcd sc_Cast_init (fun us hl => match us, hl with | [_, _], _ => rfl) (fun A outer s H vs Q E hr h => ?_)
  · obtain ⟨H0, x, dx, d, n, rfl, s0, nx, nd, nxd, hx, hd, h1, h6, k⟩ := h
    refine ⟨_, (pss_cons (ps_expr (pe_g G_check_size (hr.mono (by decide)) (by rfl) (pa_cons (pv 1) pa_nil)))
      (pss_cons (ps_fld (pv 0) (pv 1) rfl)
      (pss_cons (ps_fld (pv 0) pe_dnewK rfl)
      (pss_cons (ps_fld (pv 0) (pe_lst pa_nil) rfl)
      (pss_one (ps_for PassesOwn.never rfl (pi_listK (K := K) rfl (pe_callB (cr_sortedSK (K := K) rfl) (by rfl) B.b_sorted (by decide +kernel) (pa_cons (pe_lock (pe_lc (own := [("name", 3)]) rfl sc_Cast_init.nd (pi_keys (pv 2)) (blkOk_by (N := N_Cast_init) (sc := defScope s_Cast_init) (by decide +kernel)) (fun _ _ _ _ _ => (pg_name (i := 3) sc_Cast_init.nd rfl (Or.inl rfl))) (fun _ _ _ _ _ => pts_nil) (fun _ _ _ _ _ => pe_never))) pa_nil))) (pg_name (i := 4) sc_Cast_init.nd rfl (Or.inl rfl)) (pss_one ps_never))))))), ?_⟩
    refine ⟨_, rfl, n, rfl, h1, h6, ?_⟩
    -- self.size = size
    refine ⟨_, rfl, _, rfl, x, CC, dx, _, rfl, hx, Cc.cl, Cc.nSize, (by show 0 < 1000; decide), ?_⟩
    generalize hH1 : upd H x (.ins CC dx (putF "size" (vi n) [])) = H1
    have x1 : H1 x = some (.ins CC dx (putF "size" (vi n) [])) := by rw [← hH1, upd_same]
    have d1 : H1 d = some (.dK []) := by rw [← hH1, upd_ne nxd.symm]; exact hd
    have s1 : Same H0 H1 := by rw [← hH1]; exact same_upd s0 nx
    -- self.folk = {}
    refine fun fo hfo => ⟨_, rfl, x, CC, dx, _, rfl, same_new hfo _ _ x1, Cc.cl, Cc.nFolk, (by show 1 < 1000; decide), ?_⟩
    have nxf : x ≠ fo := ne_of_none x1 hfo
    have ndf : d ≠ fo := ne_of_none d1 hfo
    generalize hH2 : upd (upd H1 fo (.dK [])) x (.ins CC dx (putF "folk" (.ref fo) (putF "size" (vi n) []))) = H2
    have x2 : H2 x = some (.ins CC dx (putF "folk" (.ref fo) (putF "size" (vi n) []))) := by rw [← hH2, upd_same]
    have f2 : H2 fo = some (.dK []) := by rw [← hH2, upd_ne nxf.symm, upd_same]
    have d2 : H2 d = some (.dK []) := by rw [← hH2, upd_ne nxd.symm, upd_ne ndf]; exact d1
    have n0f : H0 fo = none := s1.free hfo
    have s2 : Same H0 H2 := by rw [← hH2]; exact same_upd (same_upd s1 n0f) nx
    -- self.roster = []
    refine ⟨by show 0 ≤ sizeLine; exact Nat.zero_le _, fun ro hro => ⟨_, rfl, x, CC, dx, _, rfl, same_new hro _ _ x2, Cc.cl, Cc.nRoster, (by show 2 < 1000; decide), ?_⟩⟩
    have nxr : x ≠ ro := ne_of_none x2 hro
    have nfr : fo ≠ ro := ne_of_none f2 hro
    have ndr : d ≠ ro := ne_of_none d2 hro
    generalize hH3 : upd (upd H2 ro (.lst [])) x (.ins CC dx (putF "roster" (.ref ro) (putF "folk" (.ref fo) (putF "size" (vi n) [])))) = H3
    have x3 : H3 x = some (.ins CC dx (castFs n fo ro)) := by rw [← hH3, upd_same]; rfl
    have f3 : H3 fo = some (.dK []) := by rw [← hH3, upd_ne nxf.symm, upd_ne nfr]; exact f2
    have r3 : H3 ro = some (.lst []) := by rw [← hH3, upd_ne nxr.symm, upd_same]
    have d3 : H3 d = some (.dK []) := by rw [← hH3, upd_ne nxd.symm, upd_ne ndr]; exact d2
    have s3 : Same H0 H3 := by rw [← hH3]; exact same_upd (same_upd s2 (s2.free hro)) nx
    -- for letter in sorted([str(name) for name in people])
    refine ⟨d, _, d3, trivial, fun od => ?_⟩
    refine ⟨_, rfl, d, od, rfl, .inl ⟨[], upd_same, fun D hD => blk_w walk_keys (fun i H' => LB (upd H3 d (.frz od (.dK []))) D H' []) (LB.start hD) (fun _ _ _ L => L.sm _ _ upd_same) ?_ ?_⟩⟩
    · intro i y Ha Hb hi
      exact absurd hi (Nat.not_lt_zero _)
    · intro H' L
      refine ⟨L.sm _ _ upd_same, ?_⟩
      have ndD : D ≠ d := (ne_of_none (H := upd H3 d (.frz od (.dK []))) upd_same L.nw).symm
      generalize hH4 : upd H' d (.dK []) = H4
      have s34 : Same H3 H4 := by
        intro b u hb
        rw [← hH4]
        by_cases hbd : b = d
        · subst hbd
          rw [d3] at hb
          rw [upd_same]
          exact hb
        · rw [upd_ne hbd]
          exact L.sm _ _ (by rw [upd_ne hbd]; exact hb)
      have D4 : H4 D = some (.lst []) := by rw [← hH4, upd_ne ndD]; exact L.at_
      refine ⟨D, [], rfl, SqL.of D4, by decide, fun ys p hperm _ hp => ?_⟩
      obtain rfl : ys = [] := List.Perm.eq_nil hperm
      refine ⟨p, rfl, ⟨[], SqL.of upd_same⟩, for_list_w (K := K) (a := p) (xs := []) (fun i σ H' => H' = upd H4 p (.lst [])) rfl (fun i σ H' _ e => by rw [e]; exact SqL.of upd_same) ?_ ?_⟩
      · intro i y σ H' hy
        simp at hy
      · rintro σ H' rfl
        have s5 : Same H3 (upd H4 p (.lst [])) := same_upd s34 (s34.free hp)
        refine k _ fo (s3.trans s5) n0f ⟨⟨dx, ro, s5 _ _ x3, s5 _ _ r3⟩, s5 _ _ f3, (fun e he => nomatch he), List.nodup_nil, (fun e he => nomatch he), Nat.zero_le _⟩
end
end Mm

set_option maxHeartbeats 4000000
/-! a cast, copied -/
namespace Mm
open PySem PySem.Spec L2 MM
open PyProof.Rows hiding St
section
variable {P : Program} {w : World} {K : PySem.W.Frag} {mg : Str → Option Value} {base : Heap} {CC CT CP : Addr}
theorem rg_ok {n : Nat} (h : n ≤ 6) : RgOk 0 (n : Int) := by
  exact RgOk.of_le (by omega) (by omega) (by omega) (by omega)
theorem rg_vn (n : Nat) : rgV 0 (n : Int) = vn (List.range n) := by
  unfold rgV
  rw [Int.sub_zero, Int.toNat_natCast]
  refine List.map_congr_left fun i _ => ?_
  show V.int (0 + (i : Nat)) = V.int _
  rw [Int.zero_add]
/-- what comes out of a copied table -/
theorem copy_row {c : CM} (ok : c.Ok) {l : Nat} (hl : l ∈ c.L) {ms : List Nat} (hr : RowIs c l ms) {w : Nat} (hw : w < c.n) : said0 ⟨List.range c.n, ms.map bitsM⟩ w = c.R l w := by
  obtain ⟨hlen, h⟩ := hr
  obtain ⟨m, h1, h2, h3⟩ := h w hw
  have e1 : (List.range c.n).getD w 0 = w := by
    rw [List.getD_eq_getElem?_getD, List.getElem?_range hw]
    rfl
  have e2 : (ms.map bitsM).getD w [] = c.R l w := by
    rw [List.getD_eq_getElem?_getD, List.getElem?_map, h1]
    exact h3
  unfold said0
  show (List.range (List.range c.n).length).filter (fun o => decide (o ∈ (ms.map bitsM).getD ((List.range c.n).getD w 0) [])) = _
  rw [e1, e2, List.length_range]
  refine asc_ext (List.Pairwise.filter _ List.pairwise_lt_range) (ok.rasc l hl w hw) fun x => ?_
  rw [List.mem_filter, List.mem_range, decide_eq_true_iff]
  exact ⟨fun q => q.2, fun q => ⟨ok.lt l hl w hw x q, q⟩⟩
theorem copy_ok {c : CM} (ok : c.Ok) {l : Nat} (hl : l ∈ c.L) {ms : List Nat} (hr : RowIs c l ms) : PD.Ok ⟨List.range c.n, ms.map bitsM⟩ := by
  obtain ⟨hlen, h⟩ := hr
  have el : (List.range c.n).length = c.n := List.length_range
  have each : ∀ r ∈ ms.map bitsM, ∃ w, w < c.n ∧ r = c.R l w := by
    intro r hr
    obtain ⟨m, hm, rfl⟩ := List.mem_map.mp hr
    obtain ⟨i, hi, e⟩ := List.getElem_of_mem hm
    have hi' : i < c.n := by omega
    obtain ⟨m', h1, h2, h3⟩ := h i hi'
    rw [List.getElem?_eq_getElem hi, e] at h1
    cases h1
    exact ⟨i, hi', h3⟩
  refine ⟨by rw [el]; exact ok.n1, by rw [el]; exact ok.n6, fun h hh => by rw [el]; exact List.mem_range.mp hh, by rw [List.length_map, el]; exact hlen, ?_, ?_, ?_⟩
  · intro r hr
    obtain ⟨w, hw, rfl⟩ := each r hr
    exact ok.ne l hl w hw
  · intro r hr
    obtain ⟨m, hm, rfl⟩ := List.mem_map.mp hr
    exact Nat.le_trans (bitsL_le m 6 (Nat.le_refl _)) (by decide)
  · intro r hr x hx
    obtain ⟨w, hw, rfl⟩ := each r hr
    rw [el]
    exact ok.lt l hl w hw x hx
theorem row_copied {c : CM} (ok : c.Ok) {l : Nat} (hl : l ∈ c.L) {d : PD} {r0 : PD → List Nat → Nat → List Nat} {su : List Nat} (hn : d.hears.length = c.n) (h : ∀ w, w < c.n → r0 d su w = c.R l w) : RowIs c l ((tabR r0 d su).map maskOf) := by
  unfold tabR
  rw [hn]
  refine ⟨by rw [List.length_map, List.length_map, List.length_range], fun w hw => ⟨maskOf (c.R l w), ?_, ?_, ?_⟩⟩
  · rw [List.getElem?_map, List.getElem?_map, List.getElem?_range hw]
    show some (maskOf (r0 d su w)) = _
    rw [h w hw]
  · exact maskOf_lt fun x hx => Nat.lt_of_lt_of_le (ok.lt l hl w hw x hx) ok.n6
  · exact bitsM_maskOf (ok.rasc l hl w hw) fun x hx => Nat.lt_of_lt_of_le (ok.lt l hl w hw x hx) ok.n6
theorem len_le6 {c : CM} (ok : c.Ok) {l : Nat} (hl : l ∈ c.L) {w : Nat} (hw : w < c.n) : (c.R l w).length ≤ 6 :=
  Nat.le_trans (nodup_lt_length c.n _ ((ok.rasc l hl w hw).imp fun q => Nat.ne_of_lt q) (ok.lt l hl w hw)) ok.n6
theorem paired_mapr {α β γ : Type} {F : α → γ → Prop} {f : β → γ} : ∀ {l : List α} {m : List β}, Paired (fun a b => F a (f b)) l m → Paired F l (m.map f)
  | _, _, .nil => .nil
  | _, _, .cons r t => .cons r (paired_mapr t)
theorem asc_not_take {l : List Nat} {i x : Nat} (h : l.Pairwise (· < ·)) (hx : l[i]? = some x) : x ∉ l.take i := by
  intro hm
  obtain ⟨j, hj, e⟩ := List.getElem_of_mem hm
  rw [List.length_take] at hj
  rw [List.getElem_take] at e
  have hi := len_get hx
  have q := List.pairwise_iff_getElem.mp h j i (by omega) hi (by omega)
  rw [e] at q
  rw [List.getElem?_eq_getElem hi] at hx
  rw [Option.some.inj hx] at q
  exact absurd q (Nat.lt_irrefl _)
abbrev s_Cast_informed : Stmt := (inClass (top 63) 7)
abbrev N_Cast_informed : List Str := ["self", "letters", "words", "word", "plain", "copy", "letter"]
theorem sc_Cast_informed : FnScope N_Cast_informed ["self", "letters"] (defScope s_Cast_informed) := ⟨rfl, rfl, rfl, by decide +kernel, rfl, by decide +kernel, by decide +kernel⟩
def sp_informed (CC CT : Addr) : Sp := fun vs H Q _ => ∃ (a : Addr) (c : CM), vs = [.ref a, .str ""] ∧ CastIs CC CT H a c ∧ c.Ok ∧ ∀ a' H', Same H H' → H a' = none → CastIs CC CT H' a' c → Q (.ref a') H'
theorem g_Cast_informed {CP : Addr} (F : FnM K CC "informed" "Cast.informed" s_Cast_informed) (Cc : CastC K mg CC) (Tc : TabC K mg CT) (Pc : PersC K CP) (hP : mg "Person" = some (.ref CP)) (B : Blt mg)
    (G_Cast_check_letters : GM P w K mg base 1 CC "check_letters" ["self", "row"] (sp_check_letters CC CT)) (G_Person_init : GI P w K mg base 3 CP ["self", "hears", "says"] (sp_Person_init K CP)) (G_Pers_table : GP P w K mg base 7 CP "table" (sp_Pers_table CT CP false perR))
    (G_Cast_init : GIR P w K mg base 2 CC (sp_Cast_init CC CT)) (G_Cast_put : GM P w K mg base 9 CC "put" ["self", "letter", "person"] (sp_put P w K mg base CC CT)) (G_Table_rows : GM P w K mg base 2 CT "rows" ["self"] (sp_Table_rows CT)) : GM P w K mg base 10 CC "informed" ["self", "letters"] (sp_informed CC CT) := by
  refine gm_of F sc_Cast_informed (fun _ _ _ _ _ _ us hl => match us, hl with | [_, _], _ => rfl) (fun vs H Q E h => ?_) (fun f cdv A outer s H vs Q E hr h => ?_)
  · obtain ⟨a, c, rfl, _⟩ := h
    rfl
  · obtain ⟨a, c, rfl, hCI, ok, k⟩ := h
    obtain ⟨fo, E, hC, hM⟩ := id hCI
    obtain ⟨dx, ro, ha, hro⟩ := hC.ins
    have hu := hu_of hr
    refine ⟨_, (pss_cons (ps_expr (pe_methG Cc.cl G_Cast_check_letters (hr.mono (by decide)) (pv 0) (pa_cons (pv 1) pa_nil)))
      (pss_cons (ps_set (i := 2) sc_Cast_informed.nd rfl (Or.inl rfl) (pe_listRg rfl (by rfl) B.b_list (prg_1 (by rfl) B.b_range (pe_fldK (K := K) rfl (pv 0) rfl))))
      (pss_cons (ps_set (i := 4) sc_Cast_informed.nd rfl (Or.inl rfl) (pe_makeG G_Person_init (hr.mono (by decide)) (by rfl) hP (pa_cons (pv 2) (pa_cons (pe_lc (own := [("word", 3)]) rfl sc_Cast_informed.nd (pi_listK (K := K) rfl (pv 2)) (blkOk_by (N := N_Cast_informed) (sc := defScope s_Cast_informed) (by decide +kernel)) (fun _ _ _ _ _ => (pg_name (i := 3) sc_Cast_informed.nd rfl (Or.inl rfl))) (fun _ _ _ _ _ => pts_nil) (fun _ _ _ _ _ => (pe_lst (pa_cons (pv 3) pa_nil)))) pa_nil))))
      (pss_cons (ps_set (i := 5) sc_Cast_informed.nd rfl (Or.inl rfl) (pe_makeRG G_Cast_init (hr.mono (by decide)) (by rfl) Cc.mgC (pa_cons (pe_fldK (K := K) rfl (pv 0) rfl) pa_nil)))
      (pss_cons (ps_for PassesOwn.never rfl (pi_listK (K := K) rfl (pe_fldK (K := K) rfl (pv 0) rfl)) (pg_name (i := 6) sc_Cast_informed.nd rfl (Or.inl rfl)) (pss_one (ps_if (pt_cmpR op_in_sign (pv 6) (pv 1) rfl) (pss_one (ps_expr (pe_methG Cc.cl G_Cast_put (hr.mono (by decide)) (pv 5) (pa_cons (pv 6) (pa_cons (pv 4) pa_nil))))) (pss_one (ps_expr (pe_methG Cc.cl G_Cast_put (hr.mono (by decide)) (pv 5) (pa_cons (pv 6) (pa_cons (pe_makeG G_Person_init (hr.mono (by decide)) (by rfl) hP (pa_cons (pv 2) (pa_cons (pe_meth0G Tc.cl G_Table_rows (hr.mono (by decide)) (pe_dget hu (pe_fldK (K := K) rfl (pv 0) rfl) (pv 6) (fun _ _ => rfl))) pa_nil))) pa_nil))))))))
      (pss_one (ps_ret (pv 5)))))))), ?_⟩
    refine ⟨_, rfl, a, dx, _, rfl, ha, rfl, _, rfl, a, rfl, ?_⟩
    have n1 := ok.n1
    have n6 := ok.n6
    -- words = list(range(self.size))
    refine ⟨_, rfl, a, CC, dx, _, _, rfl, ha, Cc.cl, Cc.nSize, rfl, (c.n : Int), rfl, rg_ok n6, fun wl hwl => ?_⟩
    rw [rg_vn]
    generalize hH1 : upd H wl (.lst (vn (List.range c.n))) = H1
    have s1 : Same H H1 := by rw [← hH1]; exact same_new hwl
    have w1 : H1 wl = some (.lst (vn (List.range c.n))) := by rw [← hH1, upd_same]
    -- plain = Person(words, [[word] for word in words])
    refine ⟨_, rfl, _, rfl, wl, rfl, ⟨_, SqL.of w1⟩, fun D hD => blk_w walk_list (fun i H' => ∃ as : List Addr, LB H1 D H' (as.map V.ref) ∧ D ∉ as ∧ Paired (fun q r => H' q = some (.lst (vn r))) as (((List.range c.n).map fun x => [x]).take i)) ⟨[], LB.start hD, List.not_mem_nil, .nil⟩ (fun i H' _ ⟨_, L, _⟩ => SqL.of (L.sm _ _ w1)) ?_ ?_⟩
    · rintro i y Ha Hb hi ⟨as, L, nD, hp⟩ ⟨rfl, hy⟩ N hN
      obtain ⟨x, hx, rfl⟩ := vn_get hy
      have hz : ((List.range c.n).map fun x => [x])[i]? = some [x] := by rw [List.getElem?_map, hx]; rfl
      refine ⟨rfl, ?_⟩
      refine ⟨_, rfl, by show 1 ≤ sizeLine; exact le_of_small (m := 1) (Nat.le_refl _), fun l hl => ⟨_, (L.next (same_new hl)).at_, small_of (m := 6) ?_, hN _ ⟨as ++ [l], ?_, ?_, ?_⟩⟩⟩
      · have := Paired.length hp
        rw [List.length_map, this, List.length_take, List.length_map, List.length_range]
        omega
      · have := (L.next (same_new (o := HO.lst [vi x]) hl)).snoc (.ref l)
        rw [List.map_append]
        exact this
      · have : D ≠ l := ne_of_none L.at_ hl
        simp only [List.mem_append, List.mem_singleton, not_or]
        exact ⟨nD, this⟩
      · rw [take_get hz]
        refine paired_app (paired_mapm hp fun q z hpm _ e => ?_) (.cons ?_ .nil)
        · rw [upd_ne (fun e : q = D => nD (e ▸ hpm))]
          exact same_new hl _ _ e
        · rw [upd_ne (ne_of_none L.at_ hl).symm, upd_same]
          rfl
    rintro H2 ⟨as, L, nD, hp⟩
    have hlen : ((List.range c.n).map fun x => [x]).length = (vn (List.range c.n)).length := by rw [List.length_map, List.length_map]
    rw [take_all hlen] at hp
    have w2 := L.sm _ _ w1
    refine fun pl dpl hpl hdpl npl => ⟨H2, pl, dpl, wl, D, ⟨List.range c.n, (List.range c.n).map fun x => [x]⟩, rfl, same_upd (same_new hdpl) hpl, hpl, upd_same, SqL.of w2, ⟨as, SqL.of L.at_, paired_map hp fun _ _ e => SqL.of e⟩, ?_, fun H3 s3 _ => ⟨rfl, ?_⟩⟩
    · have el : (List.range c.n).length = c.n := List.length_range
      refine ⟨by rw [el]; exact n1, by rw [el]; exact n6, fun h hh => by rw [el]; exact List.mem_range.mp hh, by rw [List.length_map], ?_, ?_, ?_⟩
      · intro r hr
        obtain ⟨x, _, rfl⟩ := List.mem_map.mp hr
        exact List.cons_ne_nil _ _
      · intro r hr
        obtain ⟨x, _, rfl⟩ := List.mem_map.mp hr
        exact Nat.le_trans (Nat.le_refl 1) (by decide)
      · intro r hr y hy
        obtain ⟨x, hx, rfl⟩ := List.mem_map.mp hr
        rw [List.mem_singleton.mp hy, el]
        exact List.mem_range.mp hx
    have s03 : Same H H3 := s1.trans (L.sm.trans s3)
    -- copy = Cast(self.size)
    refine ⟨_, rfl, a, CC, dx, _, _, rfl, s03 _ _ ha, Cc.cl, Cc.nSize, rfl, fun cp dcp hcp hdcp ncp => ⟨rfl, fun dd hdd => ⟨H3, cp, dcp, dd, c.n, rfl, ?_, hcp, ?_, ?_, ?_, upd_same, n1, n6, fun H4 fo' s4 hfo' hC4 => ⟨rfl, ?_⟩⟩⟩⟩
    · exact same_upd (same_upd (same_new hdcp) hcp) (by
        have z : (upd H3 dcp (.own cp)) dd = none := by
          have ne : dd ≠ cp := fun e => by rw [e, upd_same] at hdd; cases hdd
          rw [upd_ne ne] at hdd
          exact hdd
        have ne : dd ≠ dcp := fun e => by rw [e, upd_same] at z; cases z
        rw [upd_ne ne] at z
        exact z)
    · have ne : dd ≠ cp := fun e => by rw [e, upd_same] at hdd; cases hdd
      rw [upd_ne ne] at hdd
      have ne : dd ≠ dcp := fun e => by rw [e, upd_same] at hdd; cases hdd
      rw [upd_ne ne] at hdd
      exact hdd
    · intro e
      rw [← e, upd_same] at hdd
      cases hdd
    · have ne : cp ≠ dd := fun e => by rw [← e, upd_same] at hdd; cases hdd
      rw [upd_ne ne, upd_same]
    have s04 : Same H H4 := s03.trans s4
    have eL := hM.L
    -- for letter in self.roster
    refine ⟨_, rfl, a, CC, dx, _, _, rfl, s04 _ _ ha, Cc.cl, Cc.nRoster, rfl, ro, rfl, ⟨_, SqL.of (s04 _ _ hro)⟩, for_list_w (K := K) (a := ro) (xs := (rosC E).map vc) (fun i σ H' => ∃ v6 E', σ = [some (.ref a), some (.str ""), some (.ref wl), none, some (.ref pl), some (.ref cp), v6] ∧ Same H3 H' ∧ CastAt CC CT H' cp fo' c.n E' ∧ E'.map (·.1) = c.L.take i ∧ ∀ e ∈ E', RowIs c e.1 e.2.2)
      ⟨_, [], rfl, s4, hC4, rfl, fun e he => nomatch he⟩ (fun i σ H' _ ⟨_, _, _, s5, _⟩ => SqL.of ((s03.trans s5) _ _ hro)) ?_ ?_⟩
    · rintro i y σ H5 hy ⟨v6, E', rfl, s5, hC5, hEL, hER⟩ N hN
      rw [List.getElem?_map] at hy
      obtain ⟨l, hl, rfl⟩ := Option.map_eq_some_iff.mp hy
      rw [← eL] at hl
      have hlL : l ∈ c.L := List.mem_of_getElem? hl
      have s05 : Same H H5 := s03.trans s5
      have e0 : (Str.ofString "").cps.toList = [] := by decide +kernel
      refine ⟨_, rfl, _, rfl, l, _, rfl, rfl, _, rfl, iteD (fun q => absurd q (by rw [e0]; exact List.not_mem_nil)) fun _ => ?_⟩
      obtain ⟨dcx, rox, hcx, hrox⟩ := hC5.ins
      have hl' : l ∈ E.map (·.1) := by rw [← mem_rosC hC.az, ← eL]; exact hlL
      obtain ⟨e, he, rfl⟩ := List.mem_map.mp hl'
      have hv := val_at hC.nd he
      have hT := (hC.tab e he).same s05
      have hRow := hM.ms e he
      obtain ⟨dxt, mt, cct, ht1, ht2⟩ := id hT
      refine ⟨_, rfl, cp, dcx, _, rfl, hcx, rfl, _, rfl, _, rfl, _, rfl, a, CC, dx, _, _, rfl, s05 _ _ ha, Cc.cl, Cc.nFolk, rfl, _, rfl, fo, _, rfl, .inl ⟨kvsC E, .inr (chr e.1), .inl (s05 _ _ hC.folk), rfl, hv.symm⟩, ?_⟩
      refine ⟨e.2.1, dxt, _, rfl, ht1, rfl, e.2.1, e.2.2, rfl, hT, by rw [hRow.1]; omega, ?_, fun rl as H6 s6 hrl hrl6 hp6 => ?_⟩
      · intro m hm
        obtain ⟨i, hi, e'⟩ := List.getElem_of_mem hm
        obtain ⟨m', h1, h2, h3⟩ := hRow.2 i (by rw [← hRow.1]; exact hi)
        rw [List.getElem?_eq_getElem hi, e'] at h1
        cases h1
        exact h2
      have s16 : Same H1 H6 := L.sm.trans (s3.trans (s5.trans s6))
      refine fun p dp hp hdp np => ⟨H6, p, dp, wl, rl, ⟨List.range c.n, e.2.2.map bitsM⟩, rfl, same_upd (same_new hdp) hp, hp, upd_same, SqL.of (s16 _ _ w1), ⟨as, SqL.of hrl6, ?_⟩, copy_ok ok hlL hRow, fun H7 s7 hB => ⟨rfl, ?_⟩⟩
      · exact paired_mapr (paired_map hp6 fun _ _ q => SqL.of q)
      have s37 : Same H3 H7 := s5.trans (s6.trans s7)
      have hrr : ∀ x, x < c.n → perR ⟨List.range c.n, e.2.2.map bitsM⟩ [] x = c.R e.1 x := fun x hx => copy_row ok hlL hRow hx
      have eln : (List.range c.n).length = c.n := List.length_range
      have hnew : e.1 ∉ E'.map (·.1) := by
        rw [hEL]
        exact asc_not_take ok.asc hl
      refine ⟨H3, cp, fo', p, e.1, c.n, E', tabR perR ⟨List.range c.n, e.2.2.map bitsM⟩ [], rfl, s37, hcp, hfo', hC5.same (s6.trans s7), ⟨CP, false, perR, _, none, Pc, G_Pers_table, hB, (fun z => nomatch z), copy_ok ok hlL hRow, ?_, ?_, eln, rfl⟩, hnew, ?_, (hC.az e he).1, (hC.az e he).2, fun H8 t8 s8 hC8 => ?_⟩
      · intro x hx o ho
        rw [eln] at hx ⊢
        have ho' : o ∈ perR ⟨List.range c.n, e.2.2.map bitsM⟩ [] x := ho
        rw [hrr x hx] at ho'
        exact ok.lt _ hlL x hx o ho'
      · intro x hx
        rw [eln] at hx
        show (perR ⟨List.range c.n, e.2.2.map bitsM⟩ [] x).length ≤ 6
        rw [hrr x hx]
        exact len_le6 ok hlL hx
      · have h1 := congrArg List.length hEL
        rw [List.length_map, List.length_take] at h1
        have h2 := ok.few
        have h3 := len_get hl
        omega
      · refine hN _ _ ⟨_, _, rfl, s8, hC8, ?_, ?_⟩
        · rw [List.map_append, hEL, take_get hl]
          rfl
        · intro e' he'
          rcases List.mem_append.mp he' with q | q
          · exact hER e' q
          · rw [List.mem_singleton.mp q]
            exact row_copied ok hlL eln hrr
    · rintro σ H5 ⟨v6, E', rfl, s5, hC5, hEL, hER⟩
      have eL2 : E'.map (·.1) = c.L := by
        rw [hEL]
        refine take_all ?_
        rw [List.length_map, eL]
      refine ⟨_, rfl, k cp H5 (s03.trans s5) (s03.free hcp) ⟨fo', E', hC5, ⟨?_, hER⟩⟩⟩
      unfold rosC
      rw [eL2]
      refine asc_ext ok.asc (ros_asc _) fun x => ?_
      rw [mem_ros]
      exact ⟨fun q => ⟨ok.az x q, q⟩, fun q => q.2⟩
end
end Mm

set_option maxHeartbeats 4000000
/-! more rules: dicts with tuple keys -/
namespace Mm
open PySem PySem.Spec L2
open PyProof.Rows hiding St
section
variable {prog : Program} {w : World} {K : Type} [DecidableEq K] {knd : HeapKind prog w K} {A : Around} {E : Value → Shared → Prop} {s : Shared}
theorem call_dict_dH {o : Addr} {more : List (K × Addr × Value)} {Q : Value → Shared → Prop} (hu : knd.room A.in1.in1) (hoS : (o == sysModules) = false) (ho : s.heap.DictOfH knd o more) (hsz : more.length ≤ sizeLine)
    (hst : ∀ h', (∀ b o, s.heap.get? b = some o → h'.get? b = some o) → ∀ x ∈ more, knd.is h' x.1 x.2.1)
    (hty : ∀ x ∈ more, s.TypeIs (.ref x.2.1) "tuple") (hap : (more.map fun x => knd.hash x.1).Nodup)
    (h : ∀ h', h'.DictOfH knd s.heap.objs.size more → Heap.SameBut s.heap.objs.size (s.heap.push { cls := .type "dict", data := .dict #[] }) h' → Q (.ref s.heap.objs.size) { s with heap := h' }) :
    wpAny (model prog w) A (call (.type "dict") [.ref o]) Q E s := by
  refine callType_codes (Q₁ := fun obj s₁ => obj = .ref s.heap.objs.size ∧ s₁ = { s with heap := s.heap.push { cls := .type "dict", data := .dict #[] } }) F.kt_called_dict (F.kt_typeCall_dict_1 _) F.entry_dict_init (kt_code_dict_new _ ⟨rfl, rfl⟩) ?_
  rintro obj s₁ ⟨rfl, rfl⟩
  have hnew : (s.heap.push { cls := .type "dict", data := .dict #[] }).DictOfH knd s.heap.objs.size [] := Heap.DictOfH.new s.heap
  have ho' : (s.heap.push { cls := .type "dict", data := .dict #[] }).DictOfH knd o more := by
    obtain ⟨ob, es, ep, h1, h2, h3, h4, h5, h6⟩ := ho
    exact ⟨ob, es, ep, Heap.get?_push_of_some _ h1, h2, h3, h4, hst _ fun b o e => Heap.get?_push_of_some _ e, h6⟩
  have hn : (more.map (·.1)).Nodup := ho.nodup
  have hdo : s.heap.objs.size ≠ o := by
    obtain ⟨_, _, _, hg, _⟩ := ho
    exact fun e => absurd (Heap.lt_size hg) (by rw [e]; exact Nat.lt_irrefl _)
  refine ⟨hnew.typeIs, F.args_dict_init_2 _ _, ?_⟩
  unfold Builtin.«dict.__init__»
  refine wpAny_bind ?_
  unfold Builtin.Dict.selfAndRest
  refine wpAny_bind (wpAny_notOrdered_dict hnew.typeIs ?_)
  show wpAny _ _ (pure (s.heap.objs.size, [Value.ref o])) _ _ _
  refine wpAny_pure ?_
  show wpAny _ _ (Builtin.Dict.updateFrom "dict.__init__" s.heap.objs.size (.ref o) [] .none) _ _ _
  unfold Builtin.Dict.updateFrom
  refine wpAny_bind (wpAny_typeOf ho'.typeIs ?_)
  rw [if_neg (by decide)]
  refine wpAny_bind ?_
  unfold Builtin.Dict.merge
  refine wpAny_bind ?_
  unfold Builtin.Dict.readDirectly
  refine wpAny_bind (wpAny_isInstance ho'.typeIs isSubtype_dict_dict ?_)
  simp only [Bool.not_true, Bool.false_eq_true, if_false]
  refine wpAny_bind (wpAny_specialOf ho'.typeIs F.slot_dict_iter.lookup (wpAny_pure ?_))
  simp only [beq_self_eq_true, if_true]
  refine wpAny_bind (wpAny_pure ?_)
  refine wpAny_mergeDict_heap (hsz := by simpa using hsz) hu hdo hoS hnew ho' (.inr ⟨fun x hx => ?_, hap⟩) fun h' hd' _ hs' => ?_
  · obtain ⟨ob, h1, h2⟩ := hty x hx
    exact ⟨ob, Heap.get?_push_of_some _ h1, h2⟩
  show wpAny _ _ (Builtin.Dict.addKeywords s.heap.objs.size [] >>= _) _ _ _
  rw [storedAllH_nil_of_nodup more hn] at hd'
  exact wpAny_bind (wpAny_pure (wpAny_pure ⟨rfl, h h' hd' hs'⟩))
end
/-! ### {k: v}, k a tuple -/
section
variable {X : Cx} {pins : List (Addr × Obj)} {σ : St} {H : Hp} {s : Shared} {A : Around} {E : Value → Shared → Prop}
theorem d_dictSetT {D b : Addr} {kvs : List (List Key × V)} {k : List Key} {v : V} {r : Value} {Q : Unit → Shared → Prop} (hu : A.units < cLine) (I : Inv X pins σ H s) (hD : H D = some (.dT kvs)) (hb : H b = some (.tup (k.map kV))) (hz : kvs.length < sizeLine)
    (rv : RelV v r) (h : ∀ s', Inv X pins σ (upd H D (.dT (putK kvs k v))) s' → Q () s') : wpAny (model X.prog X.w) A (dictSet D (.ref b) r) Q E s := by
  obtain ⟨z, hd, xs, rel, dd⟩ := dt_of I.hok hD
  have hzx : xs.length ≤ sizeLine := by rw [← Paired.length rel]; exact z
  have hl : (putK kvs k v).length ≤ sizeLine := by have := length_putK kvs k v; omega
  refine wpAny_dictSet_heap (hsz := hzx) (knd := tupleKind (mixKind X.prog X.w)) hu (key_of I.hok hb) dd fun h' dd' hs => h _ ?_
  obtain ⟨q, es, ep, hq, h2, h3, h4, _, h5⟩ := dd'
  refine d_write I (by rw [hD]; exact True.intro) hs ⟨q, hq⟩ ⟨hl, hd, _, (rel.put k hb rv).keeps fun c ys ec => ?_, q, es, ep, hq, h2, h3, h4, h5⟩
  rw [upd_ne (ne_of ec hD (fun z => nomatch z))]
  exact ec
def tDispT1 (tk tv : TE) : TE := fun σ H Q => ∀ p, H p = none → tk σ (upd H p (.dT [])) fun x H1 => tv σ H1 fun y H2 => H2 p = some (.dT []) ∧ ∃ k b, x = .ref b ∧ H2 b = some (.tup (k.map kV)) ∧ Q (.ref p) (upd H2 p (.dT [(k, y)]))
theorem pe_dispT1 {k v : Expr} {pos : Pos} {tk tv : TE} (hu : X.A.units + 1 < cLine) (hk : PE X k tk) (hv : PE X v tv) : PE X (.Dict [some k] [v] pos) (tDispT1 tk tv) := by
  refine ⟨fun pins s σ H Q I q => ?_⟩
  have hn := I.hok.fresh (Nat.le_refl s.heap.objs.size)
  have I1 := I.laid (a := s.heap.objs.size) (o := .dT []) (h' := s.heap.push { cls := .type "dict", data := .dict #[] }) (t' := s.toks) (fun _ _ q => Heap.get?_push_of_some _ q) (Nat.le_refl _) (dt_empty s.heap I.big)
  refine wpAny_Dict_any rfl rfl (List.cons_ne_nil _ _) (by show 1 ≤ 15; decide) ?_
  refine pairTrees_cons_walk (thn (hk.run pins _ σ _ _ I1 (q _ hn)) fun u s1 ⟨x, H1, I1, rx, q1⟩ => thn (hv.run pins s1 σ H1 _ I1 q1) fun w2 s2 ⟨y, H2, I2, ry, e, kk, b, ex, hb, q2⟩ => pairTrees_nil_walk ?_)
  subst ex
  obtain rfl : u = Value.ref b := rx
  unfold storeAll
  rw [List.forIn_cons]
  refine wpAny_bind (wpAny_bind (d_dictSetT (Nat.lt_of_le_of_lt (Nat.le_succ _) hu) I2 e hb (by show 0 < sizeLine; rw [sizeLine_eq]; decide) ry fun s3 I3 => wpAny_pure ?_))
  show wpAny _ _ (forIn ([] : List (Value × Value)) PUnit.unit _) _ _ _
  rw [List.forIn_nil]
  exact wpAny_pure ⟨.ref s.heap.objs.size, _, I3, rfl, q2⟩
end
/-! ### {k: v for .. in ..}, k a tuple -/
section
variable {X : Cx}
/-- {k: v for target in iter if ..}, keys tuples: D the new dict -/
def tDcT (wi : TI) (g : TG) (tt : TT) (tk tv : TE) (vs : List Nat) : TE := fun σ H Q => wi σ H fun J H1 => ∀ D, H1 D = none → ∃ W : Nat → Nat → Hp → Prop, (∃ m, W 0 m (upd H1 D (.dT []))) ∧ ∀ i m H, W i m H →
  (J.stop i H ∧ Q (.ref D) H) ∨ (J.go i H ∧ ∃ Nx : Hp → Prop, (∀ H', Nx H' → ∃ m', m' < m ∧ W (i + 1) m' H') ∧ ∀ x H', J.yld i H x H' → g x (wipe σ vs) H' fun σ2 H2 => wipe σ2 vs = wipe σ vs ∧ tt σ2 H2 fun b H3 =>
    if b = true then tk σ2 H3 fun y H4 => tv σ2 H4 fun z H5 => ∃ kvs k b, y = .ref b ∧ H5 b = some (.tup (k.map kV)) ∧ H5 D = some (.dT kvs) ∧ kvs.length < sizeLine ∧ Nx (upd H5 D (.dT (putK kvs k z))) else Nx H3)
theorem dcT_core {pins : List (Addr × Obj)} {s : Shared} {σ : St} {H : Hp} {Q : VK} {kx vx tg iter : Expr} {ifs : List Expr} {scope : Scope} {own : List (Str × Nat)} {pos pos' : Pos} {wi : TI} {g : TG} {tt : TT} {tk tv : TE} {use : Option (Value → Sem Unit)} {Qf : Value → Shared → Prop}
    (hu : X.A.units < cLine) (hc : X.calm = true) (hN : X.N.Nodup) (I : Inv X pins σ H s) (hi : PI X tg iter wi) (ok : BlkOk X.N X.env.scope scope own)
    (hg : ∀ (s : Shared) (H : Hp) (C : Addr) (cl : List (Str × Addr)) (fp : List Addr), PG (X.blk s H scope (compEnvC scope cl C X.env) fp) tg g) (ht : ∀ (s : Shared) (H : Hp) (C : Addr) (cl : List (Str × Addr)) (fp : List Addr), PTs (X.blk s H scope (compEnvC scope cl C X.env) fp) ifs tt)
    (hk : ∀ (s : Shared) (H : Hp) (C : Addr) (cl : List (Str × Addr)) (fp : List Addr), PE (X.blk s H scope (compEnvC scope cl C X.env) fp) kx tk)
    (he : ∀ (s : Shared) (H : Hp) (C : Addr) (cl : List (Str × Addr)) (fp : List Addr), PE (X.blk s H scope (compEnvC scope cl C X.env) fp) vx tv) (hs : ∀ x, foldedSetIterable iter X.env x = pure x)
    (h : tDcT wi g tt tk tv (own.map (·.2)) σ H Q)
    (hRR : ∀ D C s' m H', Inv X pins σ H' s' → Q (.ref D) H' → s'.heap.Ns C m → FpOk X pins H' C → compPost (model X.prog X.w) X.A X.xe use Qf (.ref D) C (.ok .next) s') :
    wpAny (model X.prog X.w) X.A (comprehension (.DictComp kx vx [⟨tg, iter, ifs, 0⟩] scope pos) scope X.env pos' newDict false (eval iter X.env) use) Qf X.xe s := by
  have hfree : ∀ y ∈ scope.names, y.2 = .free → ∃ c, X.env.cells.lookup y.1 = some c := fun y hy e => by
    rcases ok.free y hy e with k | k
    · exact I.ok.has _ (.inl k)
    · exact I.ok.has _ (.inr k)
  refine wpAny_comprehension_free (use := use) rfl hs (closure_ok hfree) ok.kind (fun y hy e => by rw [ok.uniq y hy, e])
    (thn (hi.run pins s σ H _ I h) fun xv s1 hx => thn hx fun itv s2 h2 => ?_)
  obtain ⟨it, fp, tn, J, H2, e, I2, T, st2, f2, q⟩ := h2
  subst e
  refine wpAny_newObj_type (newEnv_comp ?_)
  generalize hD : s2.heap.objs.size = D
  have hDn : H2 D = none := I2.hok.fresh (Nat.le_of_eq hD)
  obtain ⟨W, ⟨m0, w0⟩, turn⟩ := q D hDn
  -- the new list
  generalize hs3 : ({ s2 with heap := s2.heap.push { cls := .type "dict", data := .dict #[] } } : Shared) = s3
  have I3 : Inv X pins σ (upd H2 D (.dT [])) s3 := by
    rw [← hs3]
    refine I2.laid (t' := s2.toks) (fun b o e => Heap.get?_push_of_some _ e) (Nat.le_of_eq hD) ?_
    rw [← hD]
    exact dt_empty s2.heap I2.big
  have h3 : s3.heap = s2.heap.push { cls := .type "dict", data := .dict #[] } := by rw [← hs3]
  have sz : ∀ b ∈ fp, b < s2.heap.objs.size := fun b hb => by
    obtain ⟨o, e, _⟩ := T.obj _ _ st2 b hb
    exact Heap.lt_size e
  have f3 : ∀ b ∈ fp, FpOk X pins (upd H2 D (.dT [])) b ∧ b < s3.heap.objs.size := fun b hb => by
    have hlt := sz b hb
    refine ⟨⟨?_, (f2 b hb).2⟩, by rw [h3, Heap.size_push]; exact Nat.lt_succ_of_lt hlt⟩
    rw [upd_ne (by rw [← hD]; exact Nat.ne_of_lt hlt)]
    exact (f2 b hb).1
  have st3 : tn 0 s3.heap := T.keep _ _ _ st2 fun b _ o e => by rw [h3]; exact Heap.get?_push_of_some _ e
  have I4 := block_start I3 ok hN f3
  have pg := hg s3 (upd H2 D (.dT [])) s3.heap.objs.size (cellsFrom (s3.heap.objs.size + 1) scope.names (cloFrom X.env.cells scope.names [])) fp
  have pt := ht s3 (upd H2 D (.dT [])) s3.heap.objs.size (cellsFrom (s3.heap.objs.size + 1) scope.names (cloFrom X.env.cells scope.names [])) fp
  have pk := hk s3 (upd H2 D (.dT [])) s3.heap.objs.size (cellsFrom (s3.heap.objs.size + 1) scope.names (cloFrom X.env.cells scope.names [])) fp
  have pe := he s3 (upd H2 D (.dT [])) s3.heap.objs.size (cellsFrom (s3.heap.objs.size + 1) scope.names (cloFrom X.env.cells scope.names [])) fp
  show codeAny _ _ (.compStart (.DictComp kx vx [⟨tg, iter, ifs, 0⟩] scope pos) 0 (.ref it) (.ref D) (compEnvC scope (cellsFrom (s3.heap.objs.size + 1) scope.names (cloFrom X.env.cells scope.names [])) s3.heap.objs.size X.env)) (compPost (model X.prog X.w) X.A X.xe use Qf (.ref D) s3.heap.objs.size) { s3 with heap := pushCells (s3.heap.push { cls := .type "dict", data := .dict #[] }) scope.names }
  have nfp : ∀ b ∈ fp, (upd H2 D (.dT [])) b = none := fun b hb => (f3 b hb).1.1
  generalize hce : compEnvC scope (cellsFrom (s3.heap.objs.size + 1) scope.names (cloFrom X.env.cells scope.names [])) s3.heap.objs.size X.env = ce at I4 pg pt pk pe ⊢
  have cL : ce.locals = s3.heap.objs.size := by subst hce; rfl
  generalize hH3 : upd H2 D (.dT []) = H3 at I3 I4 pg pt pk pe w0 nfp f3
  generalize hs4 : ({ s3 with heap := pushCells (s3.heap.push { cls := .type "dict", data := .dict #[] }) scope.names } : Shared) = s4 at I4 ⊢
  have st4 : tn 0 s4.heap := T.keep _ _ _ st3 fun b _ o e => by rw [← hs4]; exact pushCells_keeps _ _ _ _ (Heap.get?_push_of_some _ e)
  have stat : ∀ {σ' : St} {H' : Hp} {s' : Shared}, Inv (X.blk s3 H3 scope ce fp) [] σ' H' s' → (∀ b ∈ fp, H' b = none) → ∀ b ∈ fp, FpOk (X.blk s3 H3 scope ce fp) [] H' b := fun {σ' H' s'} I' hn b hb =>
    ⟨hn b hb, (I'.ok.exf b hb).1, I'.ok.exfs b hb, .inl hb, fun x c e => (I'.ok.exf b hb).2 x c e, fun p hp => absurd (show p ∈ ([] : List (Addr × Obj)) ++ [] from hp) (by simp)⟩
  have loop : codeAny (model X.prog X.w) X.A (.compLoop (.DictComp kx vx [⟨tg, iter, ifs, 0⟩] scope pos) 0 (.ref it) (.ref D) ce) (compPost (model X.prog X.w) X.A X.xe use Qf (.ref D) s3.heap.objs.size) s4 := by
    refine compLoop_anyD (fun n s' => ∃ i H', Inv (X.blk s3 H3 scope ce fp) [] (wipe σ (own.map (·.2))) H' s' ∧ tn i s'.heap ∧ (∀ b ∈ fp, H' b = none) ∧ W i n H') ?_ m0 ⟨0, H3, I4, st4, nfp, w0⟩
    rintro n s5 ⟨i, H5, I5, st5, n5, w5⟩
    rcases turn i n H5 w5 with ⟨stop, qq⟩ | ⟨go, Nx, hNx, step⟩
    · have td := T.done (X.blk s3 H3 scope ce fp) rfl rfl rfl hc i [] s5 _ H5 (fun _ _ => False) I5 (stat I5 n5) st5 stop
      refine thnF td fun r s6 ⟨hr, I6⟩ => ?_
      subst hr
      -- back in the def's context
      have I7 : Inv X pins σ H5 s6 := I3.call' (ch := fp) I6.os I6.base I6.hok I6.bare fun b hb => ⟨(f3 b hb).1.2.2.2.1, (f3 b hb).1.2.1, (f3 b hb).1.2.2.2.2.1, (f3 b hb).1.2.2.2.2.2⟩
      have nC : H5 s3.heap.objs.size = none := by
        have z : H5 ce.locals = none := I6.free
        rw [cL] at z
        exact z
      obtain ⟨m, hn, _⟩ := I6.loc
      have hn : s6.heap.Ns ce.locals m := hn
      rw [cL] at hn
      exact hRR D s3.heap.objs.size s6 m H5 I7 qq hn (I3.fpOk (Nat.le_refl _) nC)
    · have ti := T.item (X.blk s3 H3 scope ce fp) rfl rfl rfl hc i [] s5 _ H5 (fun _ _ => False) I5 (stat I5 n5) st5 go
      refine thnF ti fun r s6 ⟨u, hr, h6⟩ => ?_
      subst hr
      refine thnF h6 fun _ s7 ⟨x, H7, I7, r7, y7, st7, n7⟩ => ?_
      have I7' := I7.pinned (stat I7 n7) (T.obj _ _ st7)
      refine thnF (pg.run _ s7 _ H7 x u _ I7' r7 (step x H7 y7)) fun _ s8 ⟨σ8, H8, I8, hw8, q8⟩ => ?_
      refine thnF (pt.run _ s8 σ8 H8 _ I8 q8) fun b s9 ⟨H9, I9, q9⟩ => ?_
      -- the turn's end
      have fin : ∀ {s' : Shared} {H' : Hp}, Inv (X.blk s3 H3 scope ce fp) ([] ++ pinsAt fp s7.heap) σ8 H' s' → Nx H' → ∃ m, m < n ∧ ∃ i H', Inv (X.blk s3 H3 scope ce fp) [] (wipe σ (own.map (·.2))) H' s' ∧ tn i s'.heap ∧ (∀ b ∈ fp, H' b = none) ∧ W i m H' := fun {s' H'} I' nx => by
        obtain ⟨m', hm, w'⟩ := hNx H' nx
        have pin' : ∀ b ∈ fp, ∀ o, s7.heap.get? b = some o → s'.heap.get? b = some o ∧ H' b = none := fun b hb o e =>
          let z := I'.pin (b, o) (List.mem_append_right _ (List.mem_append_right _ (mem_pinsAt hb e)))
          ⟨z.1, z.2.1⟩
        have hl : (wipe σ (own.map (·.2))).length = σ8.length := by rw [← hw8, wipe_length]
        refine ⟨m', hm, i + 1, H', (I'.unpinned (pins := [])).weak hl (fun j v e => ?_), T.keep _ _ _ st7 fun b hb o e => (pin' b hb o e).1, fun b hb => ?_, w'⟩
        · rw [← hw8] at e
          exact (wipe_some e).1
        · obtain ⟨o, e, _⟩ := T.obj _ _ st7 b hb
          exact (pin' b hb o e).2
      cases b with
      | false =>
        simp only [Bool.false_eq_true, if_false] at q9 ⊢
        exact fin I9 q9
      | true =>
        simp only [if_true] at q9 ⊢
        refine thnF (pk.run _ s9 σ8 H9 _ I9 q9) fun z s10 ⟨yk, H10, I10, r10, q10⟩ => ?_
        refine thnF (pe.run _ s10 σ8 H10 _ I10 q10) fun z2 s11 ⟨yv, H11, I11, r11, kvs, k, b, ek, hb11, hD11, hz11, nx⟩ => ?_
        subst ek
        obtain rfl : z = Value.ref b := r10
        exact d_dictSetT (X := X.blk s3 H3 scope ce fp) hu I11 hD11 hb11 hz11 r11 fun s12 I12 => fin I12 nx
  exact codeAny_compStart_dict loop (T.self X.A 0 _ _ _ st4 loop)
/-- as a value -/
theorem pe_dcT {kx vx tg iter : Expr} {ifs : List Expr} {scope : Scope} {own : List (Str × Nat)} {pos : Pos} {wi : TI} {g : TG} {tt : TT} {tk tv : TE} (hu : X.A.units < cLine) (hc : X.calm = true) (hN : X.N.Nodup) (hi : PI X tg iter wi) (ok : BlkOk X.N X.env.scope scope own)
    (hg : ∀ (s : Shared) (H : Hp) (C : Addr) (cl : List (Str × Addr)) (fp : List Addr), PG (X.blk s H scope (compEnvC scope cl C X.env) fp) tg g) (ht : ∀ (s : Shared) (H : Hp) (C : Addr) (cl : List (Str × Addr)) (fp : List Addr), PTs (X.blk s H scope (compEnvC scope cl C X.env) fp) ifs tt)
    (hk : ∀ (s : Shared) (H : Hp) (C : Addr) (cl : List (Str × Addr)) (fp : List Addr), PE (X.blk s H scope (compEnvC scope cl C X.env) fp) kx tk)
    (he : ∀ (s : Shared) (H : Hp) (C : Addr) (cl : List (Str × Addr)) (fp : List Addr), PE (X.blk s H scope (compEnvC scope cl C X.env) fp) vx tv) (hs : ∀ x, foldedSetIterable iter X.env x = pure x := by intro _; rfl) :
    PE X (.DictComp kx vx [⟨tg, iter, ifs, 0⟩] scope pos) (tDcT wi g tt tk tv (own.map (·.2))) := by
  refine ⟨fun pins s σ H Q I h => ?_⟩
  rw [arm_eval_DictComp]
  refine dcT_core hu hc hN I hi ok hg ht hk he hs h fun D C s' m H' I' q hn f => ⟨m, hn, fun h'' sb => ?_⟩
  obtain ⟨f0, f1, f2, f3, f4, f5⟩ := f
  exact ⟨.ref D, H', I'.turned (t' := s'.toks) (fun b o hb e => (sb.2 b hb).trans e) f0 f1 f3 f4 f5, rfl, q⟩
end
end Mm

set_option maxHeartbeats 40000000
/-! the hashes of states differ (reckoned) -/
namespace Mm
open PySem PySem.Spec L2
def hashT (k : Nat) : Int := reduceHash (Builtin.Tuple.tupleHashOf [hashInt ((k / 36 : Nat) : Int), hashInt ((k / 6 % 6 : Nat) : Int), hashInt ((k % 6 : Nat) : Int)])
/-- all remainders differ: each sets a bit that was not set -/
def bitsOk : List Int → Nat → Bool
  | [], _ => true
  | a :: l, acc => match Nat.testBit acc ((a % 65521).toNat) with
    | true => false
    | false => bitsOk l (acc ||| (1 <<< ((a % 65521).toNat)))
theorem bitsOk_nd : ∀ {l : List Int} {acc : Nat}, bitsOk l acc = true → l.Nodup ∧ ∀ a ∈ l, Nat.testBit acc ((a % 65521).toNat) = false
  | [], _, _ => ⟨List.nodup_nil, fun _ h => absurd h List.not_mem_nil⟩
  | a :: l, acc, h => by
    have h' : (match Nat.testBit acc ((a % 65521).toNat) with
      | true => false
      | false => bitsOk l (acc ||| (1 <<< ((a % 65521).toNat)))) = true := h
    cases e : Nat.testBit acc ((a % 65521).toNat) with
    | true =>
      rw [e] at h'
      cases h'
    | false =>
      rw [e] at h'
      obtain ⟨h1, h2⟩ := bitsOk_nd (show bitsOk l (acc ||| (1 <<< ((a % 65521).toNat))) = true from h')
      refine ⟨List.nodup_cons.mpr ⟨fun m => ?_, h1⟩, fun b hb => ?_⟩
      · have q := h2 a m
        rw [Nat.testBit_or, Nat.testBit_shiftLeft] at q
        simp at q
      · rcases List.mem_cons.mp hb with rfl | hb
        · exact e
        · have q := h2 b hb
          rw [Nat.testBit_or] at q
          exact (Bool.or_eq_false_iff.mp q).1
theorem hashT_bits : bitsOk ((List.range 468).map hashT) 0 = true := by decide +kernel
theorem hashT_nd : ((List.range 468).map hashT).Nodup := (bitsOk_nd hashT_bits).1
end Mm

set_option maxHeartbeats 4000000
/-! dicts of states -/
namespace Mm
open PySem PySem.Spec L2 MM
open PyProof.Rows hiding St
theorem hu0_of {X : Cx} (hu : X.A.units + 1 < cLine) : X.A.units < cLine := Nat.lt_of_le_of_lt (Nat.le_succ _) hu
def kT (t : T3) : List Key := [.inl (t.1 : Int), .inl (t.2.1 : Int), .inl (t.2.2 : Int)]
theorem kT_inj {t u : T3} (h : kT t = kT u) : t = u := by
  unfold kT at h
  injection h with h1 h
  injection h with h2 h
  injection h with h3 _
  have e1 : (t.1 : Int) = u.1 := Sum.inl.inj h1
  have e2 : (t.2.1 : Int) = u.2.1 := Sum.inl.inj h2
  have e3 : (t.2.2 : Int) = u.2.2 := Sum.inl.inj h3
  exact Prod.ext (by omega) (Prod.ext (by simpa using (by omega : t.2.1 = u.2.1)) (by simpa using (by omega : t.2.2 = u.2.2)))
def TupT (H : Hp) (q : Addr) (t : T3) : Prop := H q = some (.tup [vi t.1, vi t.2.1, vi t.2.2])
theorem TupT.key {H : Hp} {q : Addr} {t : T3} (h : TupT H q t) : H q = some (.tup ((kT t).map kV)) := h
theorem TupT.of {H : Hp} {q : Addr} {t : T3} (h : H q = some (.tup ((kT t).map kV))) : TupT H q t := h
def ents (ts : List T3) (f : T3 → V) : List (List Key × V) := ts.map fun t => (kT t, f t)
theorem ents_len (ts : List T3) (f : T3 → V) : (ents ts f).length = ts.length := List.length_map ..
theorem val_ents (u : T3) (f : T3 → V) : ∀ ts : List T3, valV (ents ts f) (kT u) = if u ∈ ts then some (f u) else none
  | [] => by rw [if_neg List.not_mem_nil]; rfl
  | t :: ts => by
    have ih := val_ents u f ts
    unfold ents at ih ⊢
    rw [List.map_cons]
    by_cases h : t = u
    · subst h
      rw [valV_pos (p := (kT t, f t)) rfl, if_pos List.mem_cons_self]
    · rw [valV_neg (p := (kT t, f t)) (fun q => h (kT_inj q)), ih]
      by_cases hm : u ∈ ts
      · rw [if_pos hm, if_pos (List.mem_cons_of_mem _ hm)]
      · rw [if_neg hm, if_neg (fun q => (List.mem_cons.mp q).elim (fun e => h e.symm) hm)]
def addT (ts : List T3) (u : T3) : List T3 := if u ∈ ts then ts else ts ++ [u]
def updT (f : T3 → V) (u : T3) (v : V) : T3 → V := fun t => if t = u then v else f t
theorem mem_addT {ts : List T3} {u t : T3} : t ∈ addT ts u ↔ t ∈ ts ∨ t = u := by
  unfold addT
  by_cases h : u ∈ ts
  · rw [if_pos h]
    exact ⟨.inl, fun q => q.elim id fun e => by rw [e]; exact h⟩
  · rw [if_neg h, List.mem_append, List.mem_singleton]
theorem nd_addT {ts : List T3} {u : T3} (h : ts.Nodup) : (addT ts u).Nodup := by
  unfold addT
  by_cases hm : u ∈ ts
  · rw [if_pos hm]; exact h
  · rw [if_neg hm, List.nodup_append]
    refine ⟨h, by simp, fun a ha b hb => ?_⟩
    rw [List.mem_singleton.mp hb]
    exact fun e => hm (e ▸ ha)
theorem put_ents (ts : List T3) (f : T3 → V) (u : T3) (v : V) : putK (ents ts f) (kT u) v = ents (addT ts u) (updT f u v) := by
  unfold putK addT
  rw [valV_any, val_ents]
  by_cases h : u ∈ ts
  · rw [if_pos h, if_pos h]
    show (if true = true then _ else _) = _
    rw [if_pos rfl]
    unfold ents
    rw [List.map_map]
    refine List.map_congr_left fun t _ => ?_
    show (if kT t = kT u then (kT t, v) else (kT t, f t)) = (kT t, updT f u v t)
    unfold updT
    by_cases e : t = u
    · rw [if_pos (by rw [e]), if_pos e]
    · rw [if_neg (fun q => e (kT_inj q)), if_neg e]
  · rw [if_neg h, if_neg h]
    show (if false = true then _ else _) = _
    rw [if_neg Bool.false_ne_true]
    unfold ents
    rw [List.map_append]
    congr 1
    · refine List.map_congr_left fun t ht => ?_
      show (kT t, f t) = (kT t, updT f u v t)
      unfold updT
      rw [if_neg (fun e => h (by rw [← e]; exact ht))]
    · show [(kT u, v)] = [(kT u, updT f u v u)]
      unfold updT
      rw [if_pos rfl]
/-- states with small parts -/
def Small (ts : List T3) : Prop := ∀ t ∈ ts, t.1 ≤ 12 ∧ t.2.1 < 6 ∧ t.2.2 < 6
def hash3 (a b c : Int) : Int := reduceHash (Builtin.Tuple.tupleHashOf [hashInt a, hashInt b, hashInt c])
theorem hash_st (P : Program) (w : World) (t : T3) : (tupleKind (mixKind P w)).hash (kT t) = hash3 t.1 t.2.1 t.2.2 := by
  have e : (kT t).map (mixKind P w).hash = [hashInt (t.1 : Int), hashInt (t.2.1 : Int), hashInt (t.2.2 : Int)] := rfl
  show reduceHash (Builtin.Tuple.tupleHashOf ((kT t).map (mixKind P w).hash)) = _
  rw [e]
  unfold hash3
  exact Eq.refl _
theorem hashT_eq (k : Nat) : hashT k = hash3 ((k / 36 : Nat) : Int) ((k / 6 % 6 : Nat) : Int) ((k % 6 : Nat) : Int) := by
  unfold hashT hash3
  exact Eq.refl _
theorem hash_code {t : T3} (ht : t.1 ≤ 12 ∧ t.2.1 < 6 ∧ t.2.2 < 6) : hashT (t.1 * 36 + t.2.1 * 6 + t.2.2) = hash3 t.1 t.2.1 t.2.2 := by
  have e1 : (t.1 * 36 + t.2.1 * 6 + t.2.2) / 36 = t.1 := by omega
  have e2 : (t.1 * 36 + t.2.1 * 6 + t.2.2) / 6 % 6 = t.2.1 := by omega
  have e3 : (t.1 * 36 + t.2.1 * 6 + t.2.2) % 6 = t.2.2 := by omega
  rw [hashT_eq, e1, e2, e3]
theorem nd_inj {g : Nat → Int} {n a b : Nat} (h : ((List.range n).map g).Nodup) (ha : a < n) (hb : b < n) (e : g a = g b) : a = b := by
  apply Decidable.byContradiction
  intro ne
  rw [List.Nodup, List.pairwise_map, List.pairwise_iff_getElem] at h
  rcases Nat.lt_or_gt_of_ne ne with lt | lt
  · have := h _ _ (by rw [List.length_range]; exact ha) (by rw [List.length_range]; exact hb) lt
    rw [List.getElem_range, List.getElem_range] at this
    exact this e
  · have := h _ _ (by rw [List.length_range]; exact hb) (by rw [List.length_range]; exact ha) lt
    rw [List.getElem_range, List.getElem_range] at this
    exact this e.symm
theorem st_code {a b : T3} (h1 : a.1 ≤ 12 ∧ a.2.1 < 6 ∧ a.2.2 < 6) (h2 : b.1 ≤ 12 ∧ b.2.1 < 6 ∧ b.2.2 < 6) (key : a.1 * 36 + a.2.1 * 6 + a.2.2 = b.1 * 36 + b.2.1 * 6 + b.2.2) : a = b := by
  obtain ⟨a1, a2, a3⟩ := a
  obtain ⟨b1, b2, b3⟩ := b
  simp only at h1 h2 key
  have e1 : a1 = b1 := by omega
  have e2 : a2 = b2 := by omega
  have e3 : a3 = b3 := by omega
  rw [e1, e2, e3]
theorem hash3_inj {a b : T3} (h1 : a.1 ≤ 12 ∧ a.2.1 < 6 ∧ a.2.2 < 6) (h2 : b.1 ≤ 12 ∧ b.2.1 < 6 ∧ b.2.2 < 6) (q : hash3 a.1 a.2.1 a.2.2 = hash3 b.1 b.2.1 b.2.2) : a = b := by
  have la : a.1 * 36 + a.2.1 * 6 + a.2.2 < 468 := by omega
  have lb : b.1 * 36 + b.2.1 * 6 + b.2.2 < 468 := by omega
  exact st_code h1 h2 (nd_inj hashT_nd la lb ((hash_code h1).trans (q.trans (hash_code h2).symm)))
theorem nd_ents {g : List Key → Int} (f : T3 → V) {ts : List T3} (nd : ts.Nodup) (h : ∀ a ∈ ts, ∀ b ∈ ts, g (kT a) = g (kT b) → a = b) : ((ents ts f).map fun p => g p.1).Nodup := by
  unfold ents
  rw [List.map_map, List.Nodup, List.pairwise_map]
  refine List.Pairwise.imp_of_mem ?_ nd
  intro a b ha hb hab q
  exact hab (h a ha b hb q)
theorem small_hash {P : Program} {w : World} {ts : List T3} {f : T3 → V} (h : Small ts) (nd : ts.Nodup) : ((ents ts f).map fun p => (tupleKind (mixKind P w)).hash p.1).Nodup :=
  nd_ents f nd fun a ha b hb q => hash3_inj (h a ha) (h b hb) ((hash_st P w a).symm.trans (q.trans (hash_st P w b)))
section
variable {X : Cx}
theorem op_lt_lstK {K : PySem.W.Frag} (hK : X.K = K) (hu : X.A.units < cLine) : OpR X (compareOp .Lt) (rLtL K) := by subst hK; exact op_lt_lst hu
theorem kt_mem {H : Hp} : ∀ {kvs : List (List Key × V)} {xs : List (List Key × Addr × Value)}, Paired (fun (p : List Key × V) (q : List Key × Addr × Value) => p.1 = q.1 ∧ H q.2.1 = some (.tup (p.1.map kV)) ∧ RelV p.2 q.2.2) kvs xs → (∀ x ∈ xs, H x.2.1 = some (.tup (x.1.map kV))) ∧ kvs.map (·.1) = xs.map (·.1)
  | _, _, .nil => ⟨(fun x hx => nomatch hx), rfl⟩
  | _, _, .cons r t => by
    obtain ⟨h1, h2⟩ := kt_mem t
    refine ⟨fun x hx => ?_, by rw [List.map_cons, List.map_cons, h2, r.1]⟩
    rcases List.mem_cons.mp hx with e | e
    · subst e; rw [← r.1]; exact r.2.1
    · exact h1 x e
/-- dict(d), a dict of states -/
theorem call_dict_dT (hu : X.A.units + 64 < cLine) : CallR X (.type "dict") (fun xs H Q => ∃ (a : Addr) (ts : List T3) (f : T3 → V), xs = [.ref a] ∧ Rd H a (.dT (ents ts f)) ∧ Small ts ∧ ts.Nodup ∧ ∀ p, H p = none → Q (.ref p) (upd H p (.dT (ents ts f)))) := by
  intro pins s σ H xs us Q I r q
  obtain ⟨a, ts, f, ex, hd, sm, nd, q⟩ := q
  subst ex
  obtain ⟨u, eu, rx⟩ := vals1 r
  subst eu
  cases rx
  obtain ⟨z, lo, xs, rel, dd⟩ := dt_rd I.hok hd
  have hm : (s.heap.objs.size == sysModules) = false := beq_eq_false_iff_ne.mpr (Nat.ne_of_gt I.big)
  obtain ⟨hx1, hx2⟩ := kt_mem rel
  refine call_dict_dH (knd := tupleKind (mixKind X.prog X.w)) (show X.A.in1.in1.units < cLine from Nat.lt_of_le_of_lt (show X.A.units + 1 + 1 ≤ X.A.units + 64 by omega) hu) lo dd (by rw [← Paired.length rel]; exact z) (fun h' hk x hx => key_of (I.hok.kept hk) (hx1 x hx)) (fun x hx => ?_) ?_ fun h' d' hs => ?_
  · obtain ⟨_, its, rv, ob, h1, h2, _⟩ := (show ObjOk X.prog X.w H s.heap x.2.1 (.tup (x.1.map kV)) from I.hok _ _ (hx1 x hx))
    exact ⟨ob, h1, h2⟩
  · have h := small_hash (P := X.prog) (w := X.w) (f := f) sm nd
    have e : ∀ l : List (List Key × V), l.map (fun p => (tupleKind (mixKind X.prog X.w)).hash p.1) = (l.map (·.1)).map (tupleKind (mixKind X.prog X.w)).hash := fun l => by rw [List.map_map]; rfl
    rw [e, hx2, List.map_map] at h
    exact h
  · have hk : ∀ b o, s.heap.get? b = some o → h'.get? b = some o := fun b u e => (hs.2 b (Nat.ne_of_lt (Heap.lt_size e))).trans (Heap.get?_push_of_some _ e)
    obtain ⟨ob, es, ep, h1, h2, h3, h4, h5, h6⟩ := d'
    have hn := I.hok.fresh (Nat.le_refl s.heap.objs.size)
    refine ⟨.ref s.heap.objs.size, upd H s.heap.objs.size (.dT (ents ts f)), I.laid (t' := s.toks) hk (Nat.le_refl _)
      (show ObjOk X.prog X.w _ _ _ (.dT (ents ts f)) from ⟨z, hm, xs, Paired.mapP rel fun p q r => ⟨r.1, ?_, r.2.2⟩, ob, es, ep, h1, h2, h3, h4, h6⟩), rfl, q _ hn⟩
    rw [upd_ne (ne_of_none r.2.1 hn)]
    exact r.2.1
end
end Mm

set_option maxHeartbeats 4000000
/-! patterns, steps -/
namespace Mm
open PySem PySem.Spec L2 MM
open PyProof.Rows hiding St
theorem hu65_of {k : Nat} {A : Around} (r : Room k A) : A.units + 65 < cLine := by have := r.un; omega
def strOf (pat : List Nat) : Str := ⟨pat.toArray⟩
theorem str_at {pat : List Nat} {i c : Nat} : (strOf pat).cps[i]? = some c ↔ pat[i]? = some c := by
  show pat.toArray[i]? = some c ↔ _
  rw [List.getElem?_toArray]
theorem str_size (pat : List Nat) : (strOf pat).cps.size = pat.length := List.size_toArray ..
theorem str_len (pat : List Nat) : (strOf pat).length = pat.length := List.size_toArray ..
theorem starS : Str.ofString "*" = chr 42 := by decide +kernel
theorem quesS : Str.ofString "?" = chr 63 := by decide +kernel
theorem eq_star {c : Nat} : chr c = Str.ofString "*" ↔ c = 42 := by rw [starS, chr_iff]
theorem eq_ques {c : Nat} : chr c = Str.ofString "?" ↔ c = 63 := by rw [quesS, chr_iff]
section
variable {P : Program} {w : World} {K : PySem.W.Frag} {mg : Str → Option Value} {base : Heap} {CC CT CP : Addr}
abbrev s_check_pattern : Stmt := (top 34)
abbrev N_check_pattern : List Str := ["cast", "pattern", "place", "sign"]
theorem sc_check_pattern : FnScope N_check_pattern ["cast", "pattern"] (defScope s_check_pattern) := ⟨rfl, rfl, rfl, by decide +kernel, rfl, by decide +kernel, by decide +kernel⟩
def sp_check_pattern (CC CT : Addr) : Sp := fun vs H Q _ => ∃ (a : Addr) (c : CM) (pat : List Nat), vs = [.ref a, .str (strOf pat)] ∧ CastIs CC CT H a c ∧ PatOk c pat ∧ ∀ H', Same H H' → Q .non H'
theorem g_check_pattern (F : Fn K mg "check_pattern" s_check_pattern) (B : Blt mg) (G_Cast_contains : GM P w K mg base 1 CC "__contains__" ["self", "letter"] (sp_contains CC CT)) : G P w K mg base 2 "check_pattern" ["cast", "pattern"] (sp_check_pattern CC CT) := by
  refine g_of F sc_check_pattern (fun _ _ _ _ _ _ us hl => match us, hl with | [_, _], _ => rfl) (fun vs H Q E h => ?_) (fun f cdv A outer s H vs Q E hr h => ?_)
  · obtain ⟨a, c, pat, rfl, _⟩ := h
    rfl
  · obtain ⟨a, c, pat, rfl, hC, ok, k⟩ := h
    obtain ⟨fo, E', hCA, _⟩ := id hC
    obtain ⟨dx, ro, ha, hro⟩ := hCA.ins
    refine ⟨_, (pss_one (ps_for PassesOwn.never rfl (pi_enumS (by rfl) B.b_enumerate (pa_cons (pv 1) pa_nil)) (pg_tup rfl (pgs_cons (pg_name (i := 2) sc_check_pattern.nd rfl (Or.inl rfl)) (pgs_cons (pg_name (i := 3) sc_check_pattern.nd rfl (Or.inl rfl)) pgs_nil))) (pss_one (ps_if (PW.pt (pw_or (pt_cmpR op_ge (pv 2) (pe_gint rfl B.k_MOST_SIGNS) (nomark _)) (pw_or1 (PW.pt (pw_and (pt_cmpR op_ne (pv 3) pe_str (nomark _)) (pw_and (pt_cmpR op_ne (pv 3) pe_str (nomark _)) (pw_and1 (pt_cmpR (op_notin_own G_Cast_contains (hr.mono (by decide))) (pv 3) (pv 0) rfl)))))))) (pss_one ps_never) pss_nil)))), ?_⟩
    refine ⟨_, rfl, _, rfl, for_w walk_enumS (fun i σ H' => ∃ v1 v2, σ = [some (.ref a), some (.str (strOf pat)), v1, v2] ∧ Same H H') ⟨_, _, rfl, Same.refl H⟩ (fun _ _ _ _ _ => trivial) ?_ ?_⟩
    · rintro i x σ H1 H2 hi ⟨v1, v2, rfl, sm⟩ ⟨T, s, rfl, hT, rfl, hs⟩ N hN
      rw [str_at] at hs
      have hs2 := mem_of_get hs
      have hle := ok.le
      have s2 : Same H (upd H1 T (.tup [.int (i : Nat), vc s])) := sm.trans (same_new hT)
      refine ⟨T, _, rfl, SqT.of upd_same, rfl, _, _, rfl, _, _, rfl, rfl, ?_⟩
      refine ⟨_, rfl, _, _, rfl, rfl, _, rfl, iteD (fun c => absurd c (by omega)) fun _ => ?_⟩
      refine ⟨_, rfl, rfl, _, rfl, iteSn (fun n63 => ?_) fun _ => hN _ _ ⟨_, _, rfl, s2⟩⟩
      refine ⟨_, rfl, rfl, _, rfl, iteSn (fun n42 => ?_) fun _ => hN _ _ ⟨_, _, rfl, s2⟩⟩
      have hL : s ∈ c.L := by
        rcases ok.sg s hs2.1 with e | e | e
        · exact absurd (eq_star.mpr e) n42
        · exact absurd (eq_ques.mpr e) n63
        · exact e
      refine ⟨_, rfl, _, rfl, a, dx, _, rfl, s2 _ _ ha, a, c, s, rfl, hC.same s2, _, rfl, _, rfl, ?_⟩
      rw [decide_eq_true hL]
      exact hN _ _ ⟨_, _, rfl, s2⟩
    · rintro σ H' ⟨v1, v2, rfl, sm⟩
      exact k H' sm
abbrev s_people_at : Stmt := (top 35)
abbrev N_people_at : List Str := ["cast", "sign"]
theorem sc_people_at : FnScope N_people_at ["cast", "sign"] (defScope s_people_at) := ⟨rfl, rfl, rfl, by decide +kernel, rfl, by decide +kernel, by decide +kernel⟩
def sp_people_at (CC CT : Addr) : Sp := fun vs H Q _ => ∃ (a : Addr) (c : CM) (s : Nat), vs = [.ref a, .str (chr s)] ∧ CastIs CC CT H a c ∧ ∀ l H', Same H H' → H l = none → H' l = some (.lst ((people c s).map vc)) → Q (.ref l) H'
theorem g_people_at (F : Fn K mg "people_at" s_people_at) (Cc : CastC K mg CC) (G_Cast_letters : GM P w K mg base 1 CC "letters" ["self"] (sp_letters CC CT)) : G P w K mg base 2 "people_at" ["cast", "sign"] (sp_people_at CC CT) := by
  refine g_of F sc_people_at (fun _ _ _ _ _ _ us hl => match us, hl with | [_, _], _ => rfl) (fun vs H Q E h => ?_) (fun f cdv A outer s H vs Q E hr h => ?_)
  · obtain ⟨a, c, s, rfl, _⟩ := h
    rfl
  · obtain ⟨a, c, s, rfl, hC, k⟩ := h
    obtain ⟨fo, E', hCA, _⟩ := id hC
    obtain ⟨dx, ro, ha, hro⟩ := hCA.ins
    have all : s = 63 ∨ s = 42 → ∃ a_1 dx fs, V.ref a = V.ref a_1 ∧ H a_1 = some (.ins CC dx fs) ∧ fs.lookup ("letters" : Str) = none ∧ sp_letters CC CT [V.ref a] H Q E0 := fun q =>
      ⟨a, dx, _, rfl, ha, rfl, a, c, rfl, hC, fun l H' s2 hl hL => k l H' s2 hl (by rw [hL]; unfold people; rw [if_pos q])⟩
    refine ⟨_, (pss_cons (ps_if (PW.pt (pw_or (pt_cmpR op_eq (pv 1) pe_str (nomark _)) (pw_or1 (pt_cmpR op_eq (pv 1) pe_str (nomark _))))) (pss_one (ps_ret (pe_meth0G Cc.cl G_Cast_letters (hr.mono (by decide)) (pv 0)))) pss_nil)
      (pss_one (ps_ret (pe_lst (pa_cons (pv 1) pa_nil))))), ?_⟩
    refine ⟨_, rfl, rfl, _, rfl, iteS (fun e => ⟨_, rfl, all (.inl (eq_ques.mp e))⟩) fun n63 => ?_⟩
    refine ⟨_, rfl, rfl, _, rfl, iteS (fun e => ⟨_, rfl, all (.inr (eq_star.mp e))⟩) fun n42 => ?_⟩
    refine ⟨_, rfl, by show 1 ≤ sizeLine; exact le_of_small (m := 1) (Nat.le_refl _), fun l hl => k l _ (same_new hl) hl ?_⟩
    rw [upd_same]
    unfold people
    rw [if_neg (fun q => q.elim (fun z => n63 (eq_ques.mpr z)) fun z => n42 (eq_star.mpr z))]
    rfl
abbrev s_check_question : Stmt := (top 37)
abbrev N_check_question : List Str := ["cast", "pattern", "first", "second"]
theorem sc_check_question : FnScope N_check_question ["cast", "pattern", "first", "second"] (defScope s_check_question) := ⟨rfl, rfl, rfl, by decide +kernel, rfl, by decide +kernel, by decide +kernel⟩
def sp_check_question (CC CT : Addr) : Sp := fun vs H Q _ => ∃ (a : Addr) (c : CM) (pat : List Nat) (x y : Nat), vs = [.ref a, .str (strOf pat), vi x, vi y] ∧ CastIs CC CT H a c ∧ PatOk c pat ∧ x < c.n ∧ y < c.n ∧ x ≠ y ∧ ∀ H', Same H H' → Q .non H'
theorem g_check_question (F : Fn K mg "check_question" s_check_question) (Cc : CastC K mg CC) (G_check_pattern : G P w K mg base 2 "check_pattern" ["cast", "pattern"] (sp_check_pattern CC CT)) (G_check_word : G P w K mg base 1 "check_word" ["size", "word"] sp_check_word) :
    G P w K mg base 3 "check_question" ["cast", "pattern", "first", "second"] (sp_check_question CC CT) := by
  refine g_of F sc_check_question (fun _ _ _ _ _ _ us hl => match us, hl with | [_, _, _, _], _ => rfl) (fun vs H Q E h => ?_) (fun f cdv A outer s H vs Q E hr h => ?_)
  · obtain ⟨a, c, pat, x, y, rfl, _⟩ := h
    rfl
  · obtain ⟨a, c, pat, x, y, rfl, hC, ok, hx, hy, ne, k⟩ := h
    obtain ⟨fo, E', hCA, _⟩ := id hC
    obtain ⟨dx, ro, ha, hro⟩ := hCA.ins
    refine ⟨_, (pss_cons (ps_expr (pe_g G_check_pattern (hr.mono (by decide)) (by rfl) (pa_cons (pv 0) (pa_cons (pv 1) pa_nil))))
      (pss_cons (ps_expr (pe_g G_check_word (hr.mono (by decide)) (by rfl) (pa_cons (pe_fldK (K := K) rfl (pv 0) rfl) (pa_cons (pv 2) pa_nil))))
      (pss_cons (ps_expr (pe_g G_check_word (hr.mono (by decide)) (by rfl) (pa_cons (pe_fldK (K := K) rfl (pv 0) rfl) (pa_cons (pv 3) pa_nil))))
      (pss_one (ps_if (pt_cmpR op_eq (pv 2) (pv 3) (nomark _)) (pss_one ps_never) pss_nil))))), ?_⟩
    refine ⟨_, rfl, _, rfl, a, c, pat, rfl, hC, ok, fun H1 s1 => ?_⟩
    refine ⟨_, rfl, a, CC, dx, _, _, rfl, s1 _ _ ha, Cc.cl, Cc.nSize, rfl, _, rfl, c.n, x, rfl, hx, ?_⟩
    refine ⟨_, rfl, a, CC, dx, _, _, rfl, s1 _ _ ha, Cc.cl, Cc.nSize, rfl, _, rfl, c.n, y, rfl, hy, ?_⟩
    exact ⟨_, rfl, _, rfl, rfl, _, rfl, iteI (fun e => absurd e (by omega)) fun _ => k H1 s1⟩
/-! pairs as data -/
def pD (p : Nat × Nat) : PyData := .tuple [.int p.1, .int p.2]
theorem pD_lay (z : Nat × Nat) : (pD z).canLay0 = true := by simp [pD, PyData.canLay0, PyData.canLayAll0]
theorem pD_depth (z : Nat × Nat) : (pD z).depth = 1 := by simp [pD, PyData.depth, PyData.depthAll]
theorem pDs_lay : ∀ zs : List (Nat × Nat), PyData.canLayAll0 (zs.map pD) = true
  | [] => by simp [PyData.canLayAll0]
  | z :: zs => by simp [PyData.canLayAll0, pD_lay z, pDs_lay zs]
theorem pDs_depth : ∀ zs : List (Nat × Nat), PyData.depthAll (zs.map pD) ≤ 1
  | [] => by simp [PyData.depthAll]
  | z :: zs => by
    have h1 := pDs_depth zs
    have h2 := pD_depth z
    simp only [List.map_cons, PyData.depthAll]
    omega
theorem pD_shaped (z : Nat × Nat) : SeqAt.shaped (pD z) = true := by
  have h := pD_depth z
  show ((pD z).canLay0 && decide ((pD z).depth ≤ 64)) = true
  rw [Bool.and_eq_true]
  exact ⟨pD_lay z, decide_eq_true (by omega)⟩
theorem pDs_shaped (zs : List (Nat × Nat)) : SeqAt.shaped (.list (zs.map pD)) = true := by
  have h1 := pDs_depth zs
  have h2 : PyData.depth (.list (zs.map pD)) ≤ 64 := by
    simp only [PyData.depth]
    omega
  show (PyData.canLay0 (.list (zs.map pD)) && decide (PyData.depth (.list (zs.map pD)) ≤ 64)) = true
  rw [Bool.and_eq_true]
  exact ⟨by simp only [PyData.canLay0]; exact pDs_lay zs, decide_eq_true h2⟩
theorem pD_eqv (z w : Nat × Nat) : PyData.eqv (pD z) (pD w) = decide (z = w) := by
  obtain ⟨a, b⟩ := z
  obtain ⟨a', b'⟩ := w
  have e : PyData.eqv (pD (a, b)) (pD (a', b')) = (((a : Int) == (a' : Int)) && (((b : Int) == (b' : Int)) && true)) := by simp only [pD, PyData.eqv, PyData.eqvAll]
  rw [e, Bool.eq_iff_iff]
  simp
  omega
theorem pD_any (ps : List (Nat × Nat)) (p : Nat × Nat) : ((ps.map pD).any fun z => PyData.eqv z (pD p)) = decide (p ∈ ps) := by
  rw [List.any_map, Bool.eq_iff_iff, List.any_eq_true, decide_eq_true_iff]
  constructor
  · rintro ⟨x, hx, e⟩
    have e' : PyData.eqv (pD x) (pD p) = true := e
    rw [pD_eqv] at e'
    rw [← of_decide_eq_true e']
    exact hx
  · intro h
    exact ⟨p, h, by show PyData.eqv (pD p) (pD p) = true; rw [pD_eqv]; exact decide_eq_true rfl⟩
theorem pD_dp {K : PySem.W.Frag} {H : Hp} {q : Addr} {p : Nat × Nat} (h : H q = some (.tup [vi p.1, vi p.2])) : Dp K H (.ref q) (pD p) := .tup (SqT.of h) (.cons (.int _) (.cons (.int _) .nil))
theorem pD_dps {K : PySem.W.Frag} {H : Hp} : ∀ {as : List Addr} {ps : List (Nat × Nat)}, Paired (fun q r => H q = some (.tup r)) as (ps.map fun p => [vi p.1, vi p.2]) → DpAll K H (as.map V.ref) (ps.map pD)
  | [], [], _ => .nil
  | _ :: _, _ :: _, .cons r t => .cons (pD_dp r) (pD_dps t)
abbrev s_spoken : Stmt := (top 38)
abbrev N_spoken : List Str := ["cast", "letter", "low", "high", "table", "found", "one", "other", "pair"]
theorem sc_spoken : FnScope N_spoken ["cast", "letter", "low", "high"] (defScope s_spoken) := ⟨rfl, rfl, rfl, by decide +kernel, rfl, by decide +kernel, by decide +kernel⟩
def addP (ps : List (Nat × Nat)) (p : Nat × Nat) : List (Nat × Nat) := if p ∈ ps then ps else ps ++ [p]
theorem mem_addP {ps : List (Nat × Nat)} {u t : Nat × Nat} : t ∈ addP ps u ↔ t ∈ ps ∨ t = u := by
  unfold addP
  by_cases h : u ∈ ps
  · rw [if_pos h]
    exact ⟨.inl, fun q => q.elim id fun e => by rw [e]; exact h⟩
  · rw [if_neg h, List.mem_append, List.mem_singleton]
/-- a list of new tuples -/
def Tups (H : Hp) (a : Addr) (rows : List (List V)) : Prop := ∃ as : List Addr, H a = some (.lst (as.map V.ref)) ∧ Paired (fun q r => H q = some (.tup r)) as rows
theorem Tups.same {H H' : Hp} {a : Addr} {rows : List (List V)} (h : Tups H a rows) (s : Same H H') : Tups H' a rows := by
  obtain ⟨as, h1, h2⟩ := h
  exact ⟨as, s _ _ h1, paired_map h2 fun _ _ q => s _ _ q⟩
theorem Tups.push {H : Hp} {a q : Addr} {as : List Addr} {rows : List (List V)} {r : List V} (h1 : H a = some (.lst (as.map V.ref))) (h2 : Paired (fun q r => H q = some (.tup r)) as rows) (hq : H q = some (.tup r)) : Tups (upd H a (.lst (as.map V.ref ++ [.ref q]))) a (rows ++ [r]) := by
  refine ⟨as ++ [q], by rw [upd_same, List.map_append]; rfl, paired_app (paired_map h2 fun b z e => ?_) (.cons ?_ .nil)⟩
  · rw [upd_ne (ne_of e h1 (fun z => nomatch z))]; exact e
  · rw [upd_ne (ne_of hq h1 (fun z => nomatch z))]; exact hq
theorem min_vi (x y : Nat) : V.int (if (y : Int) < (x : Int) then (y : Int) else x) = vi (min x y) := by
  show V.int _ = V.int _
  congr 1
  split <;> omega
theorem max_vi (x y : Nat) : V.int (if (y : Int) > (x : Int) then (y : Int) else x) = vi (max x y) := by
  show V.int _ = V.int _
  congr 1
  split <;> omega
def pairOf (x y : Nat) : Nat × Nat := (min x y, max x y)
def sp_spoken (CC CT : Addr) : Sp := fun vs H Q _ => ∃ (a : Addr) (c : CM) (l lo hi : Nat), vs = [.ref a, .str (chr l), vi lo, vi hi] ∧ CastIs CC CT H a c ∧ c.Ok ∧ l ∈ c.L ∧ lo < c.n ∧ hi < c.n ∧
  ∀ r H' (ps : List (Nat × Nat)), Same H H' → H r = none → Tups H' r (ps.map fun p => [vi p.1, vi p.2]) → ps.length ≤ 36 → (∀ p, p ∈ ps ↔ ∃ x ∈ c.R l lo, ∃ y ∈ c.R l hi, p = pairOf x y) → Q (.ref r) H'
theorem g_spoken (F : Fn K mg "spoken" s_spoken) (B : Blt mg) (G_Cast_getitem : GM P w K mg base 1 CC "__getitem__" ["self", "letter"] (sp_getitem CC CT)) (G_Table_getitem : GM P w K mg base 2 CT "__getitem__" ["self", "word"] (sp_Table_getitem CT)) :
    G P w K mg base 4 "spoken" ["cast", "letter", "low", "high"] (sp_spoken CC CT) := by
  refine g_of F sc_spoken (fun _ _ _ _ _ _ us hl => match us, hl with | [_, _, _, _], _ => rfl) (fun vs H Q E h => ?_) (fun f cdv A outer s H vs Q E hr h => ?_)
  · obtain ⟨a, c, l, lo, hi, rfl, _⟩ := h
    rfl
  · obtain ⟨a, c, l, lo, hi, rfl, hC, ok, hl, hlo, hhi, k⟩ := h
    obtain ⟨fo, E', hCA, _⟩ := id hC
    obtain ⟨dx, ro, ha, hro⟩ := hCA.ins
    have hu := hu_of hr
    have hu65 := hu65_of hr
    refine ⟨_, (pss_cons (ps_set (i := 4) sc_spoken.nd rfl (Or.inl rfl) (pe_own_sub G_Cast_getitem (hr.mono (by decide)) (pv 0) (pv 1)))
      (pss_cons (ps_set (i := 5) sc_spoken.nd rfl (Or.inl rfl) (pe_lst pa_nil))
      (pss_cons (ps_for PassesOwn.never rfl (pi_listK (K := K) rfl (pe_own_sub G_Table_getitem (hr.mono (by decide)) (pv 4) (pv 2))) (pg_name (i := 6) sc_spoken.nd rfl (Or.inl rfl)) (pss_one (ps_for PassesOwn.never rfl (pi_listK (K := K) rfl (pe_own_sub G_Table_getitem (hr.mono (by decide)) (pv 4) (pv 3))) (pg_name (i := 7) sc_spoken.nd rfl (Or.inl rfl)) (pss_cons (ps_set (i := 8) sc_spoken.nd rfl (Or.inl rfl) (pe_tup (pa_cons (pe_callB (call_min2 rfl) (by rfl) B.b_min (by decide +kernel) (pa_cons (pe_callTy call_int1 (by rfl) B.b_int (by decide +kernel) (pa_cons (pv 6) pa_nil)) (pa_cons (pe_callTy call_int1 (by rfl) B.b_int (by decide +kernel) (pa_cons (pv 7) pa_nil)) pa_nil))) (pa_cons (pe_callB (call_max2 rfl) (by rfl) B.b_max (by decide +kernel) (pa_cons (pe_callTy call_int1 (by rfl) B.b_int (by decide +kernel) (pa_cons (pv 6) pa_nil)) (pa_cons (pe_callTy call_int1 (by rfl) B.b_int (by decide +kernel) (pa_cons (pv 7) pa_nil)) pa_nil))) pa_nil))))
      (pss_one (ps_if (pt_cmpR (op_notInDK (K := K) rfl hu65) (pv 8) (pv 5) rfl) (pss_one (ps_expr (pe_bm PySem.F.plainAttrs_list PySem.F.slot_list_append PySem.F.type_list_append mt_append (pv 5) (pa_cons (pv 8) pa_nil)))) pss_nil))))))
      (pss_one (ps_ret (pv 5)))))), ?_⟩
    refine ⟨_, rfl, _, rfl, a, dx, _, rfl, ha, a, c, l, rfl, hC, hl, fun t hT => ?_⟩
    obtain ⟨ms, hTA, hlen, hrow⟩ := id hT
    obtain ⟨m1, e1, l1, b1⟩ := hrow lo hlo
    obtain ⟨m2, e2, l2, b2⟩ := hrow hi hhi
    obtain ⟨dxt, mt, cct, ht1, ht2⟩ := id hTA
    refine ⟨by show 0 ≤ sizeLine; exact Nat.zero_le _, fun r hr => ?_⟩
    have s1 : Same H (upd H r (.lst [])) := same_new hr
    refine ⟨_, rfl, _, rfl, t, dxt, _, rfl, s1 _ _ ht1, t, ms, lo, m1, rfl, hTA.same s1, e1, l1, fun q1 H1 sq1 hq1 hQ1 => ⟨q1, rfl, ⟨_, SqL.of hQ1⟩, ?_⟩⟩
    rw [b1] at hQ1
    have r1 : H1 r = some (.lst []) := sq1 _ _ upd_same
    have nq1 : r ≠ q1 := ne_of_none upd_same hq1
    have n1 := len_le6 ok hl hlo
    have n2 := len_le6 ok hl hhi
    refine for_list_w (K := K) (a := q1) (xs := vn (c.R l lo)) (fun i σ H' => ∃ v6 v7 v8 ps, σ = [some (.ref a), some (.str (chr l)), some (vi lo), some (vi hi), some (.ref t), some (.ref r), v6, v7, v8] ∧ Same H H' ∧ H' q1 = some (.lst (vn (c.R l lo))) ∧ Tups H' r (ps.map fun p => [vi p.1, vi p.2]) ∧ ps.length ≤ i * 6 ∧ ∀ p, p ∈ ps ↔ ∃ x ∈ (c.R l lo).take i, ∃ y ∈ c.R l hi, p = pairOf x y)
      ⟨_, _, _, [], rfl, s1.trans sq1, hQ1, ⟨[], r1, .nil⟩, Nat.zero_le _, fun p => ⟨(fun z => nomatch z), fun ⟨x, hx, _⟩ => by simp at hx⟩⟩ (fun i σ H' _ ⟨_, _, _, _, _, _, h, _⟩ => SqL.of h) ?_ ?_
    · rintro i y σ H2 hy ⟨v6, v7, v8, ps, rfl, s2, hq2, hT2, hps, hmem⟩ N hN
      obtain ⟨x, hx, rfl⟩ := vn_get hy
      have hxm := List.mem_of_getElem? hx
      refine ⟨_, rfl, _, rfl, t, dxt, _, rfl, s2 _ _ ht1, t, ms, hi, m2, rfl, hTA.same s2, e2, l2, fun q2 H3 sq3 hq3 hQ3 => ⟨q2, rfl, ⟨_, SqL.of hQ3⟩, ?_⟩⟩
      rw [b2] at hQ3
      have nr2 : r ≠ q2 := by
        obtain ⟨as2, h2, _⟩ := hT2
        exact ne_of_none h2 hq3
      refine for_list_w (K := K) (a := q2) (xs := vn (c.R l hi)) (fun j σ H' => ∃ v7 v8 ps, σ = [some (.ref a), some (.str (chr l)), some (vi lo), some (vi hi), some (.ref t), some (.ref r), some (vi x), v7, v8] ∧ Same H H' ∧ H' q1 = some (.lst (vn (c.R l lo))) ∧ H' q2 = some (.lst (vn (c.R l hi))) ∧ Tups H' r (ps.map fun p => [vi p.1, vi p.2]) ∧ ps.length ≤ i * 6 + j ∧
          ∀ p, p ∈ ps ↔ (∃ x ∈ (c.R l lo).take i, ∃ y ∈ c.R l hi, p = pairOf x y) ∨ ∃ y ∈ (c.R l hi).take j, p = pairOf x y)
        ⟨_, _, ps, rfl, s2.trans sq3, sq3 _ _ hq2, hQ3, hT2.same sq3, hps, fun p => by rw [hmem]; exact ⟨.inl, fun z => z.elim id fun ⟨y, hy, _⟩ => by simp at hy⟩⟩ (fun i σ H' _ ⟨_, _, _, _, _, _, h, _⟩ => SqL.of h) ?_ ?_
      · rintro j z σ H4 hz ⟨v7, v8, ps, rfl, s4, hq41, hq42, hT4, hps4, hmem4⟩ N2 hN2
        obtain ⟨y, hy', rfl⟩ := vn_get hz
        have hj := len_get hy'
        have hi' := len_get hx
        -- pair = (min(..), max(..))
        refine ⟨_, rfl, .inl ⟨_, rfl, _, rfl, .inl ⟨_, rfl, _, _, rfl, _, rfl, .inl ⟨_, rfl, _, rfl, .inl ⟨_, rfl, _, _, rfl, ?_⟩⟩⟩⟩⟩
        rw [min_vi, max_vi]
        refine ⟨by show 2 ≤ sizeLine; exact le_of_small (m := 2) (Nat.le_refl _), fun T hT' => ?_⟩
        have s5 : Same H4 (upd H4 T (.tup [vi (min x y), vi (max x y)])) := same_new hT'
        obtain ⟨as, ha1, ha2⟩ := hT4.same s5
        have tup5 : (upd H4 T (.tup [vi (min x y), vi (max x y)])) T = some (.tup [vi (pairOf x y).1, vi (pairOf x y).2]) := upd_same
        have step : ∀ p, p ∈ addP ps (pairOf x y) ↔ (∃ x ∈ (c.R l lo).take i, ∃ y ∈ c.R l hi, p = pairOf x y) ∨ ∃ y ∈ (c.R l hi).take (j + 1), p = pairOf x y := by
          intro p
          rw [mem_addP, hmem4, take_get hy']
          constructor
          · rintro ((h | ⟨y', h1, h2⟩) | h)
            · exact .inl h
            · exact .inr ⟨y', List.mem_append_left _ h1, h2⟩
            · exact .inr ⟨y, List.mem_append_right _ (List.mem_singleton.mpr rfl), h⟩
          · rintro (h | ⟨y', h1, h2⟩)
            · exact .inl (.inl h)
            · rcases List.mem_append.mp h1 with h1 | h1
              · exact .inl (.inr ⟨y', h1, h2⟩)
              · rw [List.mem_singleton.mp h1] at h2
                exact .inr h2
        refine ⟨_, rfl, _, rfl, pD (pairOf x y), ps.map pD, pD_dp tup5, .lst (SqL.of ha1) (pD_dps ha2), pD_shaped _, pDs_shaped _, _, rfl, ?_⟩
        rw [pD_any]
        by_cases hin : pairOf x y ∈ ps
        · rw [decide_eq_true hin]
          refine hN2 _ _ ⟨_, _, ps, rfl, s4.trans s5, s5 _ _ hq41, s5 _ _ hq42, ⟨as, ha1, ha2⟩, by omega, fun p => ?_⟩
          have := step p
          unfold addP at this
          rw [if_pos hin] at this
          exact this
        · rw [decide_eq_false hin]
          have hlen5 := Paired.length ha2
          rw [List.length_map] at hlen5
          refine ⟨_, rfl, .inl ⟨rfl, _, SqL.of ha1⟩, _, rfl, r, _, _, rfl, rfl, ha1, small_of (m := 1000) ?_, ?_⟩
          · rw [List.length_map, hlen5]; omega
          have nr : ∀ b u, (upd H4 T (.tup [vi (min x y), vi (max x y)])) b = some u → b ≠ r → (upd (upd H4 T (.tup [vi (min x y), vi (max x y)])) r (.lst (as.map V.ref ++ [.ref T]))) b = some u := fun b u e ne => by rw [upd_ne ne]; exact e
          refine hN2 _ _ ⟨_, _, ps ++ [pairOf x y], rfl, ?_, nr _ _ (s5 _ _ hq41) nq1.symm, nr _ _ (s5 _ _ hq42) ?_, ?_, ?_, fun p => ?_⟩
          · exact same_upd (s4.trans s5) hr
          · exact nr2.symm
          · rw [List.map_append]
            exact Tups.push ha1 ha2 tup5
          · rw [List.length_append, List.length_singleton]; omega
          · have := step p
            unfold addP at this
            rw [if_neg hin] at this
            exact this
      · rintro σ H4 ⟨v7, v8, ps, rfl, s4, hq41, hq42, hT4, hps4, hmem4⟩
        have hi' := len_get hx
        rw [List.length_map] at hps4
        refine hN _ _ ⟨_, _, _, ps, rfl, s4, hq41, hT4, by omega, fun p => ?_⟩
        rw [hmem4, take_get hx, take_all (l := c.R l hi) (by rw [List.length_map])]
        constructor
        · rintro (⟨x', h1, h2⟩ | h)
          · exact ⟨x', List.mem_append_left _ h1, h2⟩
          · exact ⟨x, List.mem_append_right _ (List.mem_singleton.mpr rfl), h⟩
        · rintro ⟨x', h1, h2⟩
          rcases List.mem_append.mp h1 with h1 | h1
          · exact .inl ⟨x', h1, h2⟩
          · rw [List.mem_singleton.mp h1] at h2
            exact .inr h2
    · rintro σ H2 ⟨v6, v7, v8, ps, rfl, s2, hq2, hT2, hps, hmem⟩
      rw [List.length_map] at hps
      refine ⟨_, rfl, k r H2 ps s2 hr hT2 (by omega) fun p => ?_⟩
      rw [hmem, take_all (by rw [List.length_map])]
end
end Mm

set_option maxHeartbeats 4000000
/-! steps -/
namespace Mm
open PySem PySem.Spec L2 MM
open PyProof.Rows hiding St
section
variable {P : Program} {w : World} {K : PySem.W.Frag} {mg : Str → Option Value} {base : Heap} {CC CT CP : Addr}
theorem str_atI {pat : List Nat} {p c : Nat} (h : pat[p]? = some c) : atI (strOf pat).cps.toList (p : Int) = some c := atI_nat (by show pat.toArray.toList[p]? = some c; rw [List.toList_toArray]; exact h)
abbrev rowS (e : Str × T3) : List V := [.str e.1, vi e.2.1, vi e.2.2.1, vi e.2.2.2]
abbrev s_steps_from : Stmt := (top 39)
abbrev N_steps_from : List Str := ["cast", "pattern", "place", "low", "high", "sign", "after", "found", "letter", "one", "other"]
theorem sc_steps_from : FnScope N_steps_from ["cast", "pattern", "place", "low", "high"] (defScope s_steps_from) := ⟨rfl, rfl, rfl, by decide +kernel, rfl, by decide +kernel, by decide +kernel⟩
def sp_steps (CC CT : Addr) : Sp := fun vs H Q _ => ∃ (a : Addr) (c : CM) (pat : List Nat) (p lo hi : Nat), vs = [.ref a, .str (strOf pat), vi p, vi lo, vi hi] ∧ CastIs CC CT H a c ∧ c.Ok ∧ PatOk c pat ∧ StOk c pat (p, lo, hi) ∧
  ∀ r H' (es : List (Str × T3)), Same H H' → H r = none → Tups H' r (es.map rowS) → es.length ≤ 400 → (∀ e ∈ es, Step c pat (p, lo, hi) e.2 ∧ e.1.length ≤ 1) → (∀ u, Step c pat (p, lo, hi) u → ∃ z, (z, u) ∈ es) → Q (.ref r) H'
theorem g_steps_from (F : Fn K mg "steps_from" s_steps_from) (B : Blt mg) (G_people_at : G P w K mg base 2 "people_at" ["cast", "sign"] (sp_people_at CC CT)) (G_spoken : G P w K mg base 4 "spoken" ["cast", "letter", "low", "high"] (sp_spoken CC CT)) :
    G P w K mg base 5 "steps_from" ["cast", "pattern", "place", "low", "high"] (sp_steps CC CT) := by
  refine g_of F sc_steps_from (fun _ _ _ _ _ _ us hl => match us, hl with | [_, _, _, _, _], _ => rfl) (fun vs H Q E h => ?_) (fun f cdv A outer s H vs Q E hr h => ?_)
  · obtain ⟨a, c, pat, p, lo, hi, rfl, _⟩ := h
    rfl
  · obtain ⟨a, c, pat, p, lo, hi, rfl, hC, ok, hp, st, k⟩ := h
    have hlen := hp.le
    have hpl : p ≤ pat.length := st.pl
    have hlh : lo ≤ hi := st.le
    have hhi : hi < c.n := st.lt
    refine ⟨_, (pss_cons (ps_if (pt_cmpR op_ge (pv 2) (pe_callB call_len_str (by rfl) B.b_len PySem.boot_len (pa_cons (pv 1) pa_nil)) (nomark _)) (pss_one (ps_ret (pe_lst pa_nil))) pss_nil)
      (pss_cons (ps_set (i := 5) sc_steps_from.nd rfl (Or.inl rfl) (pe_ix ix_str (pv 1) (pv 2) (fun _ _ => rfl)))
      (pss_cons (ps_set (i := 6) sc_steps_from.nd rfl (Or.inl rfl) (pe_op op_add (pv 2) pe_int))
      (pss_cons (ps_set (i := 7) sc_steps_from.nd rfl (Or.inl rfl) (pe_lst pa_nil))
      (pss_cons (ps_if (pt_cmpR op_eq (pv 5) pe_str (nomark _)) (pss_cons (ps_expr (pe_bm PySem.F.plainAttrs_list PySem.F.slot_list_append PySem.F.type_list_append mt_append (pv 7) (pa_cons (pe_tup (pa_cons pe_str (pa_cons (pv 6) (pa_cons (pv 3) (pa_cons (pv 4) pa_nil))))) pa_nil)))
      (pss_one (ps_set (i := 6) sc_steps_from.nd rfl (Or.inl rfl) (pv 2)))) pss_nil)
      (pss_cons (ps_for PassesOwn.never rfl (pi_listK (K := K) rfl (pe_g G_people_at (hr.mono (by decide)) (by rfl) (pa_cons (pv 0) (pa_cons (pv 5) pa_nil)))) (pg_name (i := 8) sc_steps_from.nd rfl (Or.inl rfl)) (pss_one (ps_for PassesOwn.never rfl (pi_listK (K := K) rfl (pe_g G_spoken (hr.mono (by decide)) (by rfl) (pa_cons (pv 0) (pa_cons (pv 8) (pa_cons (pv 3) (pa_cons (pv 4) pa_nil)))))) (pg_tup rfl (pgs_cons (pg_name (i := 9) sc_steps_from.nd rfl (Or.inl rfl)) (pgs_cons (pg_name (i := 10) sc_steps_from.nd rfl (Or.inl rfl)) pgs_nil))) (pss_one (ps_expr (pe_bm PySem.F.plainAttrs_list PySem.F.slot_list_append PySem.F.type_list_append mt_append (pv 7) (pa_cons (pe_tup (pa_cons (pv 8) (pa_cons (pv 6) (pa_cons (pv 9) (pa_cons (pv 10) pa_nil))))) pa_nil)))))))
      (pss_one (ps_ret (pv 7))))))))), ?_⟩
    refine ⟨_, rfl, _, rfl, strOf pat, rfl, by rw [str_len]; exact le_of_small (m := 12) hlen, _, _, rfl, rfl, _, rfl, iteD (fun q => ?_) fun q => ?_⟩ <;> rw [str_len] at q
    · have ep : p = pat.length := by omega
      have no : ∀ u, ¬ Step c pat (p, lo, hi) u := by
        intro u s
        cases s with
        | skip e => have := len_get e; omega
        | say e => have := len_get e; omega
      exact ⟨by show 0 ≤ sizeLine; exact Nat.zero_le _, fun r hr => k r _ [] (same_new hr) hr ⟨[], upd_same, .nil⟩ (Nat.zero_le _) (fun e he => nomatch he) fun u su => absurd su (no u)⟩
    · have hlt : p < pat.length := by omega
      obtain ⟨sg, hsg⟩ : ∃ sg, pat[p]? = some sg := ⟨pat[p], by simp [hlt]⟩
      have hsm := mem_of_get hsg
      have el : (people c sg).length ≤ 8 := by
        unfold people
        split
        · exact ok.few
        · exact Nat.le_trans (Nat.le_refl 1) (by decide)
      refine ⟨_, rfl, _, rfl, strOf pat, (p : Int), sg, rfl, rfl, by rw [str_len]; exact le_of_small (m := 12) hlen, str_atI hsg, ?_⟩
      refine ⟨_, rfl, _, _, rfl, rfl, ?_⟩
      refine ⟨by show 0 ≤ sizeLine; exact Nat.zero_le _, fun r hr => ?_⟩
      have s0 : Same H (upd H r (.lst [])) := same_new hr
      refine ⟨_, rfl, rfl, _, rfl, iteS (fun e => ⟨_, rfl, .inl ⟨rfl, _, SqL.of upd_same⟩, _, rfl, _, rfl, _, rfl, by show 4 ≤ sizeLine; exact le_of_small (m := 4) (Nat.le_refl _), fun T hT => ⟨r, _, _, rfl, rfl, same_new hT _ _ upd_same, by show 0 < sizeLine; rw [sizeLine_eq]; decide, ⟨_, rfl, ?_⟩⟩⟩) fun ne => ?_⟩
      have h42 : sg = 42 := eq_star.mp e
      obtain ⟨aft, haft, h6⟩ : ∃ aft : Nat, aft = (if sg = 42 then p else p + 1) ∧ vi aft = vi p := ⟨p, by rw [if_pos h42], rfl⟩
      obtain ⟨es0, fac, h01, h02, h03⟩ : ∃ es0 : List (Str × T3), (∀ Hc, Hc = upd (upd (upd H r (.lst [])) T (.tup [.str (Str.ofString ""), vi (p + 1), vi lo, vi hi])) r (.lst ([] ++ [V.ref T])) → Same H Hc ∧ Tups Hc r (es0.map rowS)) ∧
          (∀ e ∈ es0, MM.Step c pat (p, lo, hi) e.2 ∧ e.1.length ≤ 1) ∧ (pat[p]? = some 42 → ∃ z, (z, (p + 1, lo, hi)) ∈ es0) ∧ es0.length ≤ 1 := by
        refine ⟨[(Str.ofString "", (p + 1, lo, hi))], fun Hc e => ?_, fun e he => ?_, fun _ => ⟨_, List.mem_singleton.mpr rfl⟩, Nat.le_refl 1⟩
        · subst e
          exact ⟨same_upd (same_upd s0 (s0.free hT)) hr, Tups.push (as := []) (rows := []) (r := rowS (Str.ofString "", (p + 1, lo, hi))) (same_new hT _ _ upd_same) .nil upd_same⟩
        · rw [List.mem_singleton.mp he]
          exact ⟨.skip (by rw [hsg, h42]), Nat.zero_le _⟩
      rotate_left
      have h42 : sg ≠ 42 := fun q => ne (eq_star.mpr q)
      obtain ⟨aft, haft, h6⟩ : ∃ aft : Nat, aft = (if sg = 42 then p else p + 1) ∧ vi aft = V.int ((p : Int) + 1) := ⟨p + 1, by rw [if_neg h42], rfl⟩
      obtain ⟨es0, fac, h01, h02, h03⟩ : ∃ es0 : List (Str × T3), (∀ Hc, Hc = upd H r (.lst []) → Same H Hc ∧ Tups Hc r (es0.map rowS)) ∧
          (∀ e ∈ es0, MM.Step c pat (p, lo, hi) e.2 ∧ e.1.length ≤ 1) ∧ (pat[p]? = some 42 → ∃ z, (z, (p + 1, lo, hi)) ∈ es0) ∧ es0.length ≤ 1 := by
        refine ⟨[], fun Hc e => ?_, (fun e he => nomatch he), fun q => ?_, Nat.zero_le _⟩
        · subst e
          exact ⟨s0, ⟨[], upd_same, .nil⟩⟩
        · rw [hsg] at q
          exact absurd (Option.some.inj q) h42
      rotate_left
      all_goals
        refine ⟨_, rfl, _, rfl, a, c, sg, rfl, hC.same (fac _ rfl).1, fun l H2 s2 hl hL => ⟨l, rfl, ⟨_, SqL.of hL⟩, ?_⟩⟩
        have sH2 : Same H H2 := Same.trans (fac _ rfl).1 s2
        have hT2 : Tups H2 r (es0.map rowS) := Tups.same (fac _ rfl).2 s2
        have nrl : r ≠ l := by
          obtain ⟨as0, q1, _⟩ := (fac _ rfl).2
          exact ne_of_none q1 hl
        refine for_list_w (K := K) (a := l) (xs := (people c sg).map vc) (fun i σ H' => ∃ v8 v9 v10 es, σ = [some (.ref a), some (.str (strOf pat)), some (vi p), some (vi lo), some (vi hi), some (.str (chr sg)), some (vi aft), some (.ref r), v8, v9, v10] ∧ Same H H' ∧ H' l = some (.lst ((people c sg).map vc)) ∧ Tups H' r (es.map rowS) ∧ es.length ≤ 1 + i * 36 ∧
            (∀ e ∈ es, MM.Step c pat (p, lo, hi) e.2 ∧ e.1.length ≤ 1) ∧ (∀ e ∈ es0, e ∈ es) ∧ ∀ l' ∈ (people c sg).take i, ∀ x ∈ c.R l' lo, ∀ y ∈ c.R l' hi, ∃ z, (z, (aft, min x y, max x y)) ∈ es)
          ⟨_, _, _, es0, by rw [h6]; rfl, sH2, hL, hT2, h03, h01, fun e he => he, fun l' hl' => by simp at hl'⟩ (fun i σ H' _ ⟨_, _, _, _, _, _, h, _⟩ => SqL.of h) ?_ ?_
        · rintro i y σ H3 hy ⟨v8, v9, v10, es, rfl, s3, hl3, hT3, hn3, hs3, h03, hc3⟩ N hN
          rw [List.getElem?_map] at hy
          obtain ⟨l', hl', rfl⟩ := Option.map_eq_some_iff.mp hy
          have hlm := List.mem_of_getElem? hl'
          have hlL := people_sub hp hsm.1 hlm
          have hi8 := len_get hl'
          refine ⟨_, rfl, _, rfl, _, rfl, _, rfl, a, c, l', lo, hi, rfl, hC.same s3, ok, hlL, Nat.lt_of_le_of_lt hlh hhi, hhi, fun q H4 ps s4 hq hTq hnq hmq => ?_⟩
          obtain ⟨as4, hq4, hp4⟩ := hTq
          refine ⟨q, rfl, ⟨_, SqL.of hq4⟩, ?_⟩
          have nrq : r ≠ q := by
            obtain ⟨as0, q1, _⟩ := hT3
            exact ne_of_none q1 hq
          have el4 := Paired.length hp4
          rw [List.length_map] at el4
          refine for_list_w (K := K) (a := q) (xs := as4.map V.ref) (fun j σ H' => ∃ v9 v10 es, σ = [some (.ref a), some (.str (strOf pat)), some (vi p), some (vi lo), some (vi hi), some (.str (chr sg)), some (vi aft), some (.ref r), some (vc l'), v9, v10] ∧ Same H H' ∧ H' l = some (.lst ((people c sg).map vc)) ∧ H' q = some (.lst (as4.map V.ref)) ∧ Paired (fun q r => H' q = some (.tup r)) as4 (ps.map fun p => [vi p.1, vi p.2]) ∧ Tups H' r (es.map rowS) ∧ es.length ≤ 1 + i * 36 + j ∧
              (∀ e ∈ es, MM.Step c pat (p, lo, hi) e.2 ∧ e.1.length ≤ 1) ∧ (∀ e ∈ es0, e ∈ es) ∧ (∀ l' ∈ (people c sg).take i, ∀ x ∈ c.R l' lo, ∀ y ∈ c.R l' hi, ∃ z, (z, (aft, min x y, max x y)) ∈ es) ∧ ∀ u ∈ ps.take j, ∃ z, (z, (aft, u.1, u.2)) ∈ es)
            ⟨_, _, es, rfl, s3.trans s4, s4 _ _ hl3, hq4, hp4, hT3.same s4, hn3, hs3, h03, hc3, fun u hu => by simp at hu⟩ (fun i σ H' _ ⟨_, _, _, _, _, _, h, _⟩ => SqL.of h) ?_ ?_
          · rintro j z σ H5 hz ⟨v9, v10, es, rfl, s5, hl5, hq5, hp5, hT5, hn5, hs5, h05, hc5, hd5⟩ N2 hN2
            obtain ⟨qa, hqa, rfl⟩ := refs_get hz
            obtain ⟨rw', hrw, hra⟩ := paired_get hp5 hqa
            rw [List.getElem?_map] at hrw
            obtain ⟨u, hu, rfl⟩ := Option.map_eq_some_iff.mp hrw
            have hum := List.mem_of_getElem? hu
            obtain ⟨x, hx, y, hy', eu⟩ := (hmq u).mp hum
            have hj := len_get hqa
            obtain ⟨as5, hr5, hpr5⟩ := id hT5
            have elr := Paired.length hpr5
            rw [List.length_map] at elr
            have hst : MM.Step c pat (p, lo, hi) (aft, u.1, u.2) := by
              have := MM.Step.say (c := c) (a := lo) (b := hi) hsg hlm hx hy'
              rw [← haft] at this
              rw [eu]
              exact this
            refine ⟨qa, _, rfl, SqT.of hra, rfl, _, _, rfl, _, _, rfl, rfl, ?_⟩
            refine ⟨_, rfl, .inl ⟨rfl, _, SqL.of hr5⟩, _, rfl, _, rfl, _, rfl, _, rfl, by show 4 ≤ sizeLine; exact le_of_small (m := 4) (Nat.le_refl _), fun T2 hT2' => ?_⟩
            have s6 : Same H5 (upd H5 T2 (.tup (rowS (chr l', (aft, u.1, u.2))))) := same_new hT2'
            refine ⟨r, _, _, rfl, rfl, s6 _ _ hr5, small_of (m := 1000) (by rw [List.length_map, elr]; omega), ?_⟩
            have nr : ∀ b w', (upd H5 T2 (.tup (rowS (chr l', (aft, u.1, u.2))))) b = some w' → b ≠ r → (upd (upd H5 T2 (.tup (rowS (chr l', (aft, u.1, u.2))))) r (.lst (as5.map V.ref ++ [.ref T2]))) b = some w' := fun b w' e ne => by rw [upd_ne ne]; exact e
            refine hN2 _ _ ⟨_, _, es ++ [(chr l', (aft, u.1, u.2))], rfl, same_upd (s5.trans s6) hr, nr _ _ (s6 _ _ hl5) nrl.symm, nr _ _ (s6 _ _ hq5) nrq.symm, paired_map hp5 fun b w' e => nr _ _ (s6 _ _ e) (ne_of e hr5 (fun z => nomatch z)), ?_, ?_, ?_, ?_, ?_, ?_⟩
            · rw [List.map_append]
              exact Tups.push (s6 _ _ hr5) (paired_map hpr5 fun _ _ e => s6 _ _ e) upd_same
            · rw [List.length_append, List.length_singleton]; omega
            · intro e he
              rcases List.mem_append.mp he with h | h
              · exact hs5 e h
              · rw [List.mem_singleton.mp h]
                exact ⟨hst, Nat.le_refl 1⟩
            · exact fun e he => List.mem_append_left _ (h05 e he)
            · intro l1 hl1 x1 hx1 y1 hy1
              obtain ⟨z, hz⟩ := hc5 l1 hl1 x1 hx1 y1 hy1
              exact ⟨z, List.mem_append_left _ hz⟩
            · intro u1 hu1
              rw [take_get hu] at hu1
              rcases List.mem_append.mp hu1 with h | h
              · obtain ⟨z, hz⟩ := hd5 u1 h
                exact ⟨z, List.mem_append_left _ hz⟩
              · rw [List.mem_singleton.mp h]
                exact ⟨_, List.mem_append_right _ (List.mem_singleton.mpr rfl)⟩
          · rintro σ H5 ⟨v9, v10, es, rfl, s5, hl5, hq5, hp5, hT5, hn5, hs5, h05, hc5, hd5⟩
            rw [List.length_map, el4] at hn5 hd5
            refine hN _ _ ⟨_, _, _, es, rfl, s5, hl5, hT5, by omega, hs5, h05, fun l1 hl1 x1 hx1 y1 hy1 => ?_⟩
            rw [take_get hl'] at hl1
            rcases List.mem_append.mp hl1 with h | h
            · exact hc5 l1 h x1 hx1 y1 hy1
            · rw [List.mem_singleton.mp h] at hx1 hy1
              have hm := (hmq (pairOf x1 y1)).mpr ⟨x1, hx1, y1, hy1, rfl⟩
              exact hd5 (pairOf x1 y1) (by rw [take_all rfl]; exact hm)
        · rintro σ H3 ⟨v8, v9, v10, es, rfl, s3, hl3, hT3, hn3, hs3, h03', hc3⟩
          rw [List.length_map] at hn3 hc3
          rw [take_all rfl] at hc3
          refine ⟨_, rfl, k r H3 es s3 hr hT3 (by omega) hs3 fun u su => ?_⟩
          cases su with
          | skip e =>
            obtain ⟨z, hz⟩ := h02 e
            exact ⟨z, h03' _ hz⟩
          | @say _ _ _ s' l1 x1 y1 e hl1 hx1 hy1 =>
            rw [hsg] at e
            cases e
            rw [← haft]
            exact hc3 l1 hl1 x1 hx1 y1 hy1
end
end Mm

set_option maxHeartbeats 4000000
/-! [e for .. in .. for .. in .. for .. in ..] -/
namespace Mm
open PySem PySem.Spec L2
open PyProof.Rows hiding St
theorem turn3_0 (elt t0 i0 t1 i1 t2 i2 : Expr) (ifs0 ifs1 ifs2 : List Expr) (scope : Scope) (pos : Pos) (it acc : Value) (env : Env) :
    compTurn (.ListComp elt [⟨t0, i0, ifs0, 0⟩, ⟨t1, i1, ifs1, 0⟩, ⟨t2, i2, ifs2, 0⟩] scope pos) 0 it acc env = (do
      standAt i0.pos
      match ← pyNext it with
      | none => pure (.done .next)
      | some v =>
        letOwnedTupleGo t0 it v
        assign t0 env v
        let mut ok := true
        for c in ifs0 do
          if ok then ok ← isTrue c env (eval c env)
        if ok then
          let x ← eval i1 env
          standAt i1.pos
          let x ← foldedSetIterable i1 env x
          let _ ← runOwn (.compStart (.ListComp elt [⟨t0, i0, ifs0, 0⟩, ⟨t1, i1, ifs1, 0⟩, ⟨t2, i2, ifs2, 0⟩] scope pos) 1 (← holding [x] (pyIter x)) acc env) env
        again (.compLoop (.ListComp elt [⟨t0, i0, ifs0, 0⟩, ⟨t1, i1, ifs1, 0⟩, ⟨t2, i2, ifs2, 0⟩] scope pos) 0 it acc env)) := by rfl
theorem turn3_1 (elt t0 i0 t1 i1 t2 i2 : Expr) (ifs0 ifs1 ifs2 : List Expr) (scope : Scope) (pos : Pos) (it acc : Value) (env : Env) :
    compTurn (.ListComp elt [⟨t0, i0, ifs0, 0⟩, ⟨t1, i1, ifs1, 0⟩, ⟨t2, i2, ifs2, 0⟩] scope pos) 1 it acc env = (do
      standAt i1.pos
      match ← pyNext it with
      | none => pure (.done .next)
      | some v =>
        letOwnedTupleGo t1 it v
        assign t1 env v
        let mut ok := true
        for c in ifs1 do
          if ok then ok ← isTrue c env (eval c env)
        if ok then
          let x ← eval i2 env
          standAt i2.pos
          let x ← foldedSetIterable i2 env x
          let _ ← runOwn (.compStart (.ListComp elt [⟨t0, i0, ifs0, 0⟩, ⟨t1, i1, ifs1, 0⟩, ⟨t2, i2, ifs2, 0⟩] scope pos) 2 (← holding [x] (pyIter x)) acc env) env
        again (.compLoop (.ListComp elt [⟨t0, i0, ifs0, 0⟩, ⟨t1, i1, ifs1, 0⟩, ⟨t2, i2, ifs2, 0⟩] scope pos) 1 it acc env)) := by rfl
theorem turn3_2 (elt t0 i0 t1 i1 t2 i2 : Expr) (ifs0 ifs1 ifs2 : List Expr) (scope : Scope) (pos : Pos) (it acc : Value) (env : Env) :
    compTurn (.ListComp elt [⟨t0, i0, ifs0, 0⟩, ⟨t1, i1, ifs1, 0⟩, ⟨t2, i2, ifs2, 0⟩] scope pos) 2 it acc env = (do
      standAt i2.pos
      match ← pyNext it with
      | none => pure (.done .next)
      | some v =>
        letOwnedTupleGo t2 it v
        assign t2 env v
        let mut ok := true
        for c in ifs2 do
          if ok then ok ← isTrue c env (eval c env)
        if ok then
          (do let _ ← call (.builtin "list.append") [acc, ← eval elt env])
        again (.compLoop (.ListComp elt [⟨t0, i0, ifs0, 0⟩, ⟨t1, i1, ifs1, 0⟩, ⟨t2, i2, ifs2, 0⟩] scope pos) 2 it acc env)) := by rfl
section
variable {prog : Program} {w : World} {A : Around} {R : Result → Shared → Prop} {s : Shared} {elt t0 i0 t1 i1 t2 i2 : Expr} {ifs0 ifs1 ifs2 : List Expr} {scope : Scope} {pos : Pos} {it acc : Value} {env : Env}
theorem loop3_0 (hs : ∀ x, foldedSetIterable i1 env x = pure x) (I : Nat → Shared → Prop)
    (turn : ∀ n s, I n s → wpAny (model prog w) A (pyNext it) (fun r s₁ => match r with
      | none => R (.ok .next) s₁
      | some v => wpAny (model prog w) A (letOwnedTupleGo t0 it v) (fun _ s₁' => wpAny (model prog w) A (assign t0 env v) (fun _ s₂ =>
          wpAny (model prog w) A (forIn ifs0 true fun c r => if r = true then do let ok ← isTrue c env (eval c env); pure (ForInStep.yield ok) else pure (ForInStep.yield r)) (fun ok s₃ =>
            if ok = true then wpAny (model prog w) A (eval i1 env) (fun x s₄ => wpAny (model prog w) A (pyIter x) (fun it1 s₅ =>
              codeAny (model prog w) A (.compStart (.ListComp elt [⟨t0, i0, ifs0, 0⟩, ⟨t1, i1, ifs1, 0⟩, ⟨t2, i2, ifs2, 0⟩] scope pos) 1 it1 acc env) (fun r s' => match r with
                | .ok _ => ∃ m, m < n ∧ I m s'
                | .error _ => False) s₅) (notedBy (model prog w) A env fun e s' => R (.error e) s') s₄) (notedBy (model prog w) A env fun e s' => R (.error e) s') s₃
            else ∃ m, m < n ∧ I m s₃) (notedBy (model prog w) A env fun e s' => R (.error e) s') s₂) (notedBy (model prog w) A env fun e s' => R (.error e) s') s₁') (notedBy (model prog w) A env fun e s' => R (.error e) s') s₁) (notedBy (model prog w) A env fun e s' => R (.error e) s') s)
    (n : Nat) (h : I n s) :
    codeAny (model prog w) A (.compLoop (.ListComp elt [⟨t0, i0, ifs0, 0⟩, ⟨t1, i1, ifs1, 0⟩, ⟨t2, i2, ifs2, 0⟩] scope pos) 0 it acc env) R s := by
  refine codeAny_loop rfl I (fun n s hI => ?_) n h
  show wpAny _ A ((compTurn (.ListComp elt [⟨t0, i0, ifs0, 0⟩, ⟨t1, i1, ifs1, 0⟩, ⟨t2, i2, ifs2, 0⟩] scope pos) 0 it acc env).onRaise (fun x => do noteFrame x env; theTreesLotGoes x)) _ _ s
  refine wpAny_noted ?_
  rw [turn3_0]
  refine wpAny_bind (wpAny_standAt (wpAny_bind (wpAny_mono (turn n s hI) (fun r s₁ h₁ => ?_) fun _ _ h' => h')))
  cases r with
  | none => exact wpAny_pure h₁
  | some v =>
    refine wpAny_bind (wpAny_mono h₁ (fun _ s₁' h₁' => ?_) fun _ _ h' => h')
    refine wpAny_bind (wpAny_mono h₁' (fun _ s₂ h₂ => wpAny_bind (wpAny_mono h₂ (fun ok s₃ h₃ => ?_) fun _ _ h' => h')) fun _ _ h' => h')
    cases ok with
    | false => exact wpAny_pure ⟨rfl, h₃⟩
    | true =>
      refine wpAny_bind (wpAny_mono h₃ (fun x s₄ h₄ => ?_) fun _ _ h' => h')
      refine wpAny_bind (wpAny_standAt (wpAny_bind (wpAny_of_eq (hs x) (wpAny_bind (wpAny_holding (wpAny_mono h₄ (fun it1 s₅ h₅ => ?_) fun _ _ h' => h'))))))
      refine wpAny_bind (wpAny_runOwn ?_)
      rw [Around.mark_none]
      refine codeAny_mono h₅ fun r s' hr => ?_
      cases r with
      | ok f =>
        first
          | exact wpAny_pure ⟨rfl, hr⟩
          | exact wpAny_bind (wpAny_pure (wpAny_pure ⟨rfl, hr⟩))
      | error e => exact hr.elim
theorem loop3_1 (hs : ∀ x, foldedSetIterable i2 env x = pure x) (I : Nat → Shared → Prop)
    (turn : ∀ n s, I n s → wpAny (model prog w) A (pyNext it) (fun r s₁ => match r with
      | none => R (.ok .next) s₁
      | some v => wpAny (model prog w) A (letOwnedTupleGo t1 it v) (fun _ s₁' => wpAny (model prog w) A (assign t1 env v) (fun _ s₂ =>
          wpAny (model prog w) A (forIn ifs1 true fun c r => if r = true then do let ok ← isTrue c env (eval c env); pure (ForInStep.yield ok) else pure (ForInStep.yield r)) (fun ok s₃ =>
            if ok = true then wpAny (model prog w) A (eval i2 env) (fun x s₄ => wpAny (model prog w) A (pyIter x) (fun it1 s₅ =>
              codeAny (model prog w) A (.compStart (.ListComp elt [⟨t0, i0, ifs0, 0⟩, ⟨t1, i1, ifs1, 0⟩, ⟨t2, i2, ifs2, 0⟩] scope pos) 2 it1 acc env) (fun r s' => match r with
                | .ok _ => ∃ m, m < n ∧ I m s'
                | .error _ => False) s₅) (notedBy (model prog w) A env fun e s' => R (.error e) s') s₄) (notedBy (model prog w) A env fun e s' => R (.error e) s') s₃
            else ∃ m, m < n ∧ I m s₃) (notedBy (model prog w) A env fun e s' => R (.error e) s') s₂) (notedBy (model prog w) A env fun e s' => R (.error e) s') s₁') (notedBy (model prog w) A env fun e s' => R (.error e) s') s₁) (notedBy (model prog w) A env fun e s' => R (.error e) s') s)
    (n : Nat) (h : I n s) :
    codeAny (model prog w) A (.compLoop (.ListComp elt [⟨t0, i0, ifs0, 0⟩, ⟨t1, i1, ifs1, 0⟩, ⟨t2, i2, ifs2, 0⟩] scope pos) 1 it acc env) R s := by
  refine codeAny_loop rfl I (fun n s hI => ?_) n h
  show wpAny _ A ((compTurn (.ListComp elt [⟨t0, i0, ifs0, 0⟩, ⟨t1, i1, ifs1, 0⟩, ⟨t2, i2, ifs2, 0⟩] scope pos) 1 it acc env).onRaise (fun x => do noteFrame x env; theTreesLotGoes x)) _ _ s
  refine wpAny_noted ?_
  rw [turn3_1]
  refine wpAny_bind (wpAny_standAt (wpAny_bind (wpAny_mono (turn n s hI) (fun r s₁ h₁ => ?_) fun _ _ h' => h')))
  cases r with
  | none => exact wpAny_pure h₁
  | some v =>
    refine wpAny_bind (wpAny_mono h₁ (fun _ s₁' h₁' => ?_) fun _ _ h' => h')
    refine wpAny_bind (wpAny_mono h₁' (fun _ s₂ h₂ => wpAny_bind (wpAny_mono h₂ (fun ok s₃ h₃ => ?_) fun _ _ h' => h')) fun _ _ h' => h')
    cases ok with
    | false => exact wpAny_pure ⟨rfl, h₃⟩
    | true =>
      refine wpAny_bind (wpAny_mono h₃ (fun x s₄ h₄ => ?_) fun _ _ h' => h')
      refine wpAny_bind (wpAny_standAt (wpAny_bind (wpAny_of_eq (hs x) (wpAny_bind (wpAny_holding (wpAny_mono h₄ (fun it1 s₅ h₅ => ?_) fun _ _ h' => h'))))))
      refine wpAny_bind (wpAny_runOwn ?_)
      rw [Around.mark_none]
      refine codeAny_mono h₅ fun r s' hr => ?_
      cases r with
      | ok f =>
        first
          | exact wpAny_pure ⟨rfl, hr⟩
          | exact wpAny_bind (wpAny_pure (wpAny_pure ⟨rfl, hr⟩))
      | error e => exact hr.elim
theorem loop3_2 (I : Nat → Shared → Prop)
    (turn : ∀ n s, I n s → wpAny (model prog w) A (pyNext it) (fun r s₁ => match r with
      | none => R (.ok .next) s₁
      | some v => wpAny (model prog w) A (letOwnedTupleGo t2 it v) (fun _ s₁' => wpAny (model prog w) A (assign t2 env v) (fun _ s₂ =>
          wpAny (model prog w) A (forIn ifs2 true fun c r => if r = true then do let ok ← isTrue c env (eval c env); pure (ForInStep.yield ok) else pure (ForInStep.yield r)) (fun ok s₃ =>
            if ok = true then wpAny (model prog w) A (eval elt env) (fun x s₄ =>
              wpAny (model prog w) A (call (.builtin "list.append") [acc, x]) (fun _ s₅ => ∃ m, m < n ∧ I m s₅) (notedBy (model prog w) A env fun e s' => R (.error e) s') s₄) (notedBy (model prog w) A env fun e s' => R (.error e) s') s₃
            else ∃ m, m < n ∧ I m s₃) (notedBy (model prog w) A env fun e s' => R (.error e) s') s₂) (notedBy (model prog w) A env fun e s' => R (.error e) s') s₁') (notedBy (model prog w) A env fun e s' => R (.error e) s') s₁) (notedBy (model prog w) A env fun e s' => R (.error e) s') s)
    (n : Nat) (h : I n s) :
    codeAny (model prog w) A (.compLoop (.ListComp elt [⟨t0, i0, ifs0, 0⟩, ⟨t1, i1, ifs1, 0⟩, ⟨t2, i2, ifs2, 0⟩] scope pos) 2 it acc env) R s := by
  refine codeAny_loop rfl I (fun n s hI => ?_) n h
  show wpAny _ A ((compTurn (.ListComp elt [⟨t0, i0, ifs0, 0⟩, ⟨t1, i1, ifs1, 0⟩, ⟨t2, i2, ifs2, 0⟩] scope pos) 2 it acc env).onRaise (fun x => do noteFrame x env; theTreesLotGoes x)) _ _ s
  refine wpAny_noted ?_
  rw [turn3_2]
  refine wpAny_bind (wpAny_standAt (wpAny_bind (wpAny_mono (turn n s hI) (fun r s₁ h₁ => ?_) fun _ _ h' => h')))
  cases r with
  | none => exact wpAny_pure h₁
  | some v =>
    refine wpAny_bind (wpAny_mono h₁ (fun _ s₁' h₁' => ?_) fun _ _ h' => h')
    refine wpAny_bind (wpAny_mono h₁' (fun _ s₂ h₂ => wpAny_bind (wpAny_mono h₂ (fun ok s₃ h₃ => ?_) fun _ _ h' => h')) fun _ _ h' => h')
    cases ok with
    | false => exact wpAny_pure ⟨rfl, h₃⟩
    | true =>
      exact wpAny_bind (wpAny_bind (wpAny_mono h₃ (fun x s₄ h₄ => wpAny_bind (wpAny_mono h₄ (fun _ s₅ h₅ => wpAny_pure (wpAny_pure ⟨rfl, h₅⟩)) fun _ _ h' => h')) fun _ _ h' => h'))
theorem start3_1 (h0 : codeAny (model prog w) A (.compLoop (.ListComp elt [⟨t0, i0, ifs0, 0⟩, ⟨t1, i1, ifs1, 0⟩, ⟨t2, i2, ifs2, 0⟩] scope pos) 1 it acc env) R s)
    (h : wpAny (model prog w) A (pyIter it) (fun it' s' => codeAny (model prog w) A (.compLoop (.ListComp elt [⟨t0, i0, ifs0, 0⟩, ⟨t1, i1, ifs1, 0⟩, ⟨t2, i2, ifs2, 0⟩] scope pos) 1 it' acc env) R s')
      (notedBy (model prog w) A env fun x s' => R (.error x) s') s) :
    codeAny (model prog w) A (.compStart (.ListComp elt [⟨t0, i0, ifs0, 0⟩, ⟨t1, i1, ifs1, 0⟩, ⟨t2, i2, ifs2, 0⟩] scope pos) 1 it acc env) R s := by
  refine codeAny_of_tree ?_
  show wpAny _ _ ((compStart (.ListComp elt [⟨t0, i0, ifs0, 0⟩, ⟨t1, i1, ifs1, 0⟩, ⟨t2, i2, ifs2, 0⟩] scope pos) 1 it acc env).onRaise (fun x => do noteFrame x env; standAt theWindowsPlace)) _ _ s
  refine wpAny_notedAt ?_
  unfold compStart
  show wpAny _ _ (ask >>= _) _ _ s
  refine wpAny_bind (wpAny_askSetting (wpAny_ite ?_))
  split
  · first
      | exact wpAny_bind (wpAny_pure (wpAny_pure (And.intro rfl h0)))
      | exact wpAny_pure (And.intro rfl h0)
  · first
      | exact wpAny_bind (wpAny_rule (wpAny_bind (wpAny_standAt (wpAny_bind (wpAny_mono h (fun it' s' h' => wpAny_pure (And.intro rfl h')) fun _ _ x => x)))))
      | (refine wpAny_bind (wpAny_rule ?_); show wpAny _ _ (standAt i1.pos >>= _) _ _ s; exact wpAny_bind (wpAny_standAt (wpAny_bind (wpAny_mono h (fun it' s' h' => wpAny_pure (And.intro rfl h')) fun _ _ x => x))))
theorem start3_2 (h0 : codeAny (model prog w) A (.compLoop (.ListComp elt [⟨t0, i0, ifs0, 0⟩, ⟨t1, i1, ifs1, 0⟩, ⟨t2, i2, ifs2, 0⟩] scope pos) 2 it acc env) R s)
    (h : wpAny (model prog w) A (pyIter it) (fun it' s' => codeAny (model prog w) A (.compLoop (.ListComp elt [⟨t0, i0, ifs0, 0⟩, ⟨t1, i1, ifs1, 0⟩, ⟨t2, i2, ifs2, 0⟩] scope pos) 2 it' acc env) R s')
      (notedBy (model prog w) A env fun x s' => R (.error x) s') s) :
    codeAny (model prog w) A (.compStart (.ListComp elt [⟨t0, i0, ifs0, 0⟩, ⟨t1, i1, ifs1, 0⟩, ⟨t2, i2, ifs2, 0⟩] scope pos) 2 it acc env) R s := by
  refine codeAny_of_tree ?_
  show wpAny _ _ ((compStart (.ListComp elt [⟨t0, i0, ifs0, 0⟩, ⟨t1, i1, ifs1, 0⟩, ⟨t2, i2, ifs2, 0⟩] scope pos) 2 it acc env).onRaise (fun x => do noteFrame x env; standAt theWindowsPlace)) _ _ s
  refine wpAny_notedAt ?_
  unfold compStart
  show wpAny _ _ (ask >>= _) _ _ s
  refine wpAny_bind (wpAny_askSetting (wpAny_ite ?_))
  split
  · first
      | exact wpAny_bind (wpAny_pure (wpAny_pure (And.intro rfl h0)))
      | exact wpAny_pure (And.intro rfl h0)
  · first
      | exact wpAny_bind (wpAny_rule (wpAny_bind (wpAny_standAt (wpAny_bind (wpAny_mono h (fun it' s' h' => wpAny_pure (And.intro rfl h')) fun _ _ x => x)))))
      | (refine wpAny_bind (wpAny_rule ?_); show wpAny _ _ (standAt i2.pos >>= _) _ _ s; exact wpAny_bind (wpAny_standAt (wpAny_bind (wpAny_mono h (fun it' s' h' => wpAny_pure (And.intro rfl h')) fun _ _ x => x))))
end
section
variable {X : Cx}
/-- the reading: three clauses -/
def tLc3 (wi : TI) (g : TG) (tt : TT) (wi1 : TI) (g1 : TG) (tt1 : TT) (wi2 : TI) (g2 : TG) (tt2 : TT) (te : TE) (vs vs1 vs2 : List Nat) : TE := fun σ H Q => wi σ H fun J H1 => ∀ D, H1 D = none → ∃ W : Nat → Nat → Hp → Prop, (∃ m, W 0 m (upd H1 D (.lst []))) ∧ ∀ i m H, W i m H →
  (J.stop i H ∧ Q (.ref D) H) ∨ (J.go i H ∧ ∃ Nx : Hp → Prop, (∀ H', Nx H' → ∃ m', m' < m ∧ W (i + 1) m' H') ∧ ∀ x H', J.yld i H x H' → g x (wipe σ vs) H' fun σ2 H2 => wipe σ2 vs = wipe σ vs ∧ tt σ2 H2 fun b H3 =>
    if b = true then wi1 σ2 H3 fun J1 H4 => ∃ W1 : Nat → Nat → Hp → Prop, (∃ m, W1 0 m H4) ∧ ∀ j k H, W1 j k H →
      (J1.stop j H ∧ Nx H) ∨ (J1.go j H ∧ ∃ Nx1 : Hp → Prop, (∀ H', Nx1 H' → ∃ k', k' < k ∧ W1 (j + 1) k' H') ∧ ∀ x H', J1.yld j H x H' → g1 x (wipe σ2 vs1) H' fun σ3 H5 => wipe σ3 vs1 = wipe σ2 vs1 ∧ tt1 σ3 H5 fun b H6 =>
        if b = true then wi2 σ3 H6 fun J2 H7 => ∃ W2 : Nat → Nat → Hp → Prop, (∃ m, W2 0 m H7) ∧ ∀ j k H, W2 j k H →
          (J2.stop j H ∧ Nx1 H) ∨ (J2.go j H ∧ ∃ Nx2 : Hp → Prop, (∀ H', Nx2 H' → ∃ k', k' < k ∧ W2 (j + 1) k' H') ∧ ∀ x H', J2.yld j H x H' → g2 x (wipe σ3 vs2) H' fun σ4 H8 => wipe σ4 vs2 = wipe σ3 vs2 ∧ tt2 σ4 H8 fun b H9 =>
            if b = true then te σ4 H9 fun y H10 => ∃ acc, H10 D = some (.lst acc) ∧ acc.length < sizeLine ∧ Nx2 (upd H10 D (.lst (acc ++ [y]))) else Nx2 H9)
        else Nx1 H6)
    else Nx H3)
theorem lc3_core {pins : List (Addr × Obj)} {s : Shared} {σ : St} {H : Hp} {Q : VK} {elt tg iter tg1 iter1 tg2 iter2 : Expr} {ifs ifs1 ifs2 : List Expr} {scope : Scope} {own : List (Str × Nat)} {vs1 vs2 : List Nat} {pos pos' : Pos} {wi wi1 wi2 : TI} {g g1 g2 : TG} {tt tt1 tt2 : TT} {te : TE} {use : Option (Value → Sem Unit)} {Qf : Value → Shared → Prop}
    (hc : X.calm = true) (hN : X.N.Nodup) (I : Inv X pins σ H s) (hi : PI X tg iter wi) (ok : BlkOk X.N X.env.scope scope own) (hv : ∀ i ∈ vs1, i ∈ own.map (·.2)) (hv2 : ∀ i ∈ vs2, i ∈ vs1)
    (hg : ∀ (s : Shared) (H : Hp) (C : Addr) (cl : List (Str × Addr)) (fp : List Addr), PG (X.blk s H scope (compEnvC scope cl C X.env) fp) tg g) (ht : ∀ (s : Shared) (H : Hp) (C : Addr) (cl : List (Str × Addr)) (fp : List Addr), PTs (X.blk s H scope (compEnvC scope cl C X.env) fp) ifs tt)
    (he : ∀ (s : Shared) (H : Hp) (C : Addr) (cl : List (Str × Addr)) (fp : List Addr), PE (X.blk s H scope (compEnvC scope cl C X.env) fp) elt te) (hs : ∀ x, foldedSetIterable iter X.env x = pure x)
    (hi1 : ∀ (s : Shared) (H : Hp) (C : Addr) (cl : List (Str × Addr)) (fp : List Addr), PI (X.blk s H scope (compEnvC scope cl C X.env) fp) tg1 iter1 wi1)
    (hg1 : ∀ (s : Shared) (H : Hp) (C : Addr) (cl : List (Str × Addr)) (fp : List Addr), PG (X.blk s H scope (compEnvC scope cl C X.env) fp) tg1 g1)
    (ht1 : ∀ (s : Shared) (H : Hp) (C : Addr) (cl : List (Str × Addr)) (fp : List Addr), PTs (X.blk s H scope (compEnvC scope cl C X.env) fp) ifs1 tt1)
    (hs1 : ∀ env x, foldedSetIterable iter1 env x = pure x)
    (hi2 : ∀ (s : Shared) (H : Hp) (C : Addr) (cl : List (Str × Addr)) (fp : List Addr), PI (X.blk s H scope (compEnvC scope cl C X.env) fp) tg2 iter2 wi2)
    (hg2 : ∀ (s : Shared) (H : Hp) (C : Addr) (cl : List (Str × Addr)) (fp : List Addr), PG (X.blk s H scope (compEnvC scope cl C X.env) fp) tg2 g2)
    (ht2 : ∀ (s : Shared) (H : Hp) (C : Addr) (cl : List (Str × Addr)) (fp : List Addr), PTs (X.blk s H scope (compEnvC scope cl C X.env) fp) ifs2 tt2)
    (hs2 : ∀ env x, foldedSetIterable iter2 env x = pure x)
    (h : tLc3 wi g tt wi1 g1 tt1 wi2 g2 tt2 te (own.map (·.2)) vs1 vs2 σ H Q)
    (hRR : ∀ D C s' m H', Inv X pins σ H' s' → Q (.ref D) H' → s'.heap.Ns C m → FpOk X pins H' C → compPost (model X.prog X.w) X.A X.xe use Qf (.ref D) C (.ok .next) s') :
    wpAny (model X.prog X.w) X.A (comprehension (.ListComp elt [⟨tg, iter, ifs, 0⟩, ⟨tg1, iter1, ifs1, 0⟩, ⟨tg2, iter2, ifs2, 0⟩] scope pos) scope X.env pos' (newList []) false (eval iter X.env) use) Qf X.xe s := by
  have hfree : ∀ y ∈ scope.names, y.2 = .free → ∃ c, X.env.cells.lookup y.1 = some c := fun y hy e => by
    rcases ok.free y hy e with k | k
    · exact I.ok.has _ (.inl k)
    · exact I.ok.has _ (.inr k)
  refine wpAny_comprehension_free (use := use) rfl hs (closure_ok hfree) ok.kind (fun y hy e => by rw [ok.uniq y hy, e])
    (thn (hi.run pins s σ H _ I h) fun xv s1 hx => thn hx fun itv s2 h2 => ?_)
  obtain ⟨it, fp, tn, J, H2, e, I2, T, st2, f2, q⟩ := h2
  subst e
  refine wpAny_newObj_type (newEnv_comp ?_) (by show 0 ≤ sizeLine; decide)
  generalize hD : s2.heap.objs.size = D
  have hDn : H2 D = none := I2.hok.fresh (Nat.le_of_eq hD)
  obtain ⟨W, ⟨m0, w0⟩, turn⟩ := q D hDn
  -- the new list
  generalize hs3 : ({ s2 with heap := s2.heap.push { cls := .type "list", data := .seq ([] : List Value).toArray } } : Shared) = s3
  have I3 : Inv X pins σ (upd H2 D (.lst [])) s3 := by
    rw [← hs3]
    refine I2.laid (t' := s2.toks) (fun b o e => Heap.get?_push_of_some _ e) (Nat.le_of_eq hD) ⟨Nat.zero_le _, [], 0, .nil, ?_⟩
    rw [← hD]
    exact Heap.get?_push_size _ rfl
  have h3 : s3.heap = s2.heap.push { cls := .type "list", data := .seq ([] : List Value).toArray } := by rw [← hs3]
  have sz : ∀ b ∈ fp, b < s2.heap.objs.size := fun b hb => by
    obtain ⟨o, e, _⟩ := T.obj _ _ st2 b hb
    exact Heap.lt_size e
  have f3 : ∀ b ∈ fp, FpOk X pins (upd H2 D (.lst [])) b ∧ b < s3.heap.objs.size := fun b hb => by
    have hlt := sz b hb
    refine ⟨⟨?_, (f2 b hb).2⟩, by rw [h3, Heap.size_push]; exact Nat.lt_succ_of_lt hlt⟩
    rw [upd_ne (by rw [← hD]; exact Nat.ne_of_lt hlt)]
    exact (f2 b hb).1
  have st3 : tn 0 s3.heap := T.keep _ _ _ st2 fun b _ o e => by rw [h3]; exact Heap.get?_push_of_some _ e
  have I4 := block_start I3 ok hN f3
  have pg := hg s3 (upd H2 D (.lst [])) s3.heap.objs.size (cellsFrom (s3.heap.objs.size + 1) scope.names (cloFrom X.env.cells scope.names [])) fp
  have pt := ht s3 (upd H2 D (.lst [])) s3.heap.objs.size (cellsFrom (s3.heap.objs.size + 1) scope.names (cloFrom X.env.cells scope.names [])) fp
  have pe := he s3 (upd H2 D (.lst [])) s3.heap.objs.size (cellsFrom (s3.heap.objs.size + 1) scope.names (cloFrom X.env.cells scope.names [])) fp
  have pi1 := hi1 s3 (upd H2 D (.lst [])) s3.heap.objs.size (cellsFrom (s3.heap.objs.size + 1) scope.names (cloFrom X.env.cells scope.names [])) fp
  have pg1 := hg1 s3 (upd H2 D (.lst [])) s3.heap.objs.size (cellsFrom (s3.heap.objs.size + 1) scope.names (cloFrom X.env.cells scope.names [])) fp
  have pt1 := ht1 s3 (upd H2 D (.lst [])) s3.heap.objs.size (cellsFrom (s3.heap.objs.size + 1) scope.names (cloFrom X.env.cells scope.names [])) fp
  have pi2 := hi2 s3 (upd H2 D (.lst [])) s3.heap.objs.size (cellsFrom (s3.heap.objs.size + 1) scope.names (cloFrom X.env.cells scope.names [])) fp
  have pg2 := hg2 s3 (upd H2 D (.lst [])) s3.heap.objs.size (cellsFrom (s3.heap.objs.size + 1) scope.names (cloFrom X.env.cells scope.names [])) fp
  have pt2 := ht2 s3 (upd H2 D (.lst [])) s3.heap.objs.size (cellsFrom (s3.heap.objs.size + 1) scope.names (cloFrom X.env.cells scope.names [])) fp
  show codeAny _ _ (.compStart (.ListComp elt [⟨tg, iter, ifs, 0⟩, ⟨tg1, iter1, ifs1, 0⟩, ⟨tg2, iter2, ifs2, 0⟩] scope pos) 0 (.ref it) (.ref D) (compEnvC scope (cellsFrom (s3.heap.objs.size + 1) scope.names (cloFrom X.env.cells scope.names [])) s3.heap.objs.size X.env)) (compPost (model X.prog X.w) X.A X.xe use Qf (.ref D) s3.heap.objs.size) { s3 with heap := pushCells (s3.heap.push { cls := .type "dict", data := .dict #[] }) scope.names }
  have nfp : ∀ b ∈ fp, (upd H2 D (.lst [])) b = none := fun b hb => (f3 b hb).1.1
  generalize hce : compEnvC scope (cellsFrom (s3.heap.objs.size + 1) scope.names (cloFrom X.env.cells scope.names [])) s3.heap.objs.size X.env = ce at I4 pg pt pe pi1 pg1 pt1 pi2 pg2 pt2 ⊢
  have cL : ce.locals = s3.heap.objs.size := by subst hce; rfl
  generalize hH3 : upd H2 D (.lst []) = H3 at I3 I4 pg pt pe pi1 pg1 pt1 pi2 pg2 pt2 w0 nfp f3
  generalize hs4 : ({ s3 with heap := pushCells (s3.heap.push { cls := .type "dict", data := .dict #[] }) scope.names } : Shared) = s4 at I4 ⊢
  have st4 : tn 0 s4.heap := T.keep _ _ _ st3 fun b _ o e => by rw [← hs4]; exact pushCells_keeps _ _ _ _ (Heap.get?_push_of_some _ e)
  have stat : ∀ {σ' : St} {H' : Hp} {s' : Shared}, Inv (X.blk s3 H3 scope ce fp) [] σ' H' s' → (∀ b ∈ fp, H' b = none) → ∀ b ∈ fp, FpOk (X.blk s3 H3 scope ce fp) [] H' b := fun {σ' H' s'} I' hn b hb =>
    ⟨hn b hb, (I'.ok.exf b hb).1, I'.ok.exfs b hb, .inl hb, fun x c e => (I'.ok.exf b hb).2 x c e, fun p hp => absurd (show p ∈ ([] : List (Addr × Obj)) ++ [] from hp) (by simp)⟩
  have loop : codeAny (model X.prog X.w) X.A (.compLoop (.ListComp elt [⟨tg, iter, ifs, 0⟩, ⟨tg1, iter1, ifs1, 0⟩, ⟨tg2, iter2, ifs2, 0⟩] scope pos) 0 (.ref it) (.ref D) ce) (compPost (model X.prog X.w) X.A X.xe use Qf (.ref D) s3.heap.objs.size) s4 := by
    refine loop3_0 (hs1 ce) (fun n s' => ∃ i H', Inv (X.blk s3 H3 scope ce fp) [] (wipe σ (own.map (·.2))) H' s' ∧ tn i s'.heap ∧ (∀ b ∈ fp, H' b = none) ∧ W i n H') ?_ m0 ⟨0, H3, I4, st4, nfp, w0⟩
    rintro n s5 ⟨i, H5, I5, st5, n5, w5⟩
    rcases turn i n H5 w5 with ⟨stop, qq⟩ | ⟨go, Nx, hNx, step⟩
    · have td := T.done (X.blk s3 H3 scope ce fp) rfl rfl rfl hc i [] s5 _ H5 (fun _ _ => False) I5 (stat I5 n5) st5 stop
      refine thnF td fun r s6 ⟨hr, I6⟩ => ?_
      subst hr
      -- back in the def's context
      have I7 : Inv X pins σ H5 s6 := I3.call' (ch := fp) I6.os I6.base I6.hok I6.bare fun b hb => ⟨(f3 b hb).1.2.2.2.1, (f3 b hb).1.2.1, (f3 b hb).1.2.2.2.2.1, (f3 b hb).1.2.2.2.2.2⟩
      have nC : H5 s3.heap.objs.size = none := by
        have z : H5 ce.locals = none := I6.free
        rw [cL] at z
        exact z
      obtain ⟨m, hn, _⟩ := I6.loc
      have hn : s6.heap.Ns ce.locals m := hn
      rw [cL] at hn
      exact hRR D s3.heap.objs.size s6 m H5 I7 qq hn (I3.fpOk (Nat.le_refl _) nC)
    · have ti := T.item (X.blk s3 H3 scope ce fp) rfl rfl rfl hc i [] s5 _ H5 (fun _ _ => False) I5 (stat I5 n5) st5 go
      refine thnF ti fun r s6 ⟨u, hr, h6⟩ => ?_
      subst hr
      refine thnF h6 fun _ s7 ⟨x, H7, I7, r7, y7, st7, n7⟩ => ?_
      have I7' := I7.pinned (stat I7 n7) (T.obj _ _ st7)
      refine thnF (pg.run _ s7 _ H7 x u _ I7' r7 (step x H7 y7)) fun _ s8 ⟨σ8, H8, I8, hw8, q8⟩ => ?_
      refine thnF (pt.run _ s8 σ8 H8 _ I8 q8) fun b s9 ⟨H9, I9, q9⟩ => ?_
      -- the turn's end, from any slots that know what the block knew at its start
      have fin : ∀ {σ9 : St} {s' : Shared} {H' : Hp}, Inv (X.blk s3 H3 scope ce fp) ([] ++ pinsAt fp s7.heap) σ9 H' s' → (wipe σ (own.map (·.2))).length = σ9.length → (∀ (j : Nat) v, (wipe σ (own.map (·.2)))[j]? = some (some v) → σ9[j]? = some (some v)) → Nx H' →
          ∃ m, m < n ∧ ∃ i H', Inv (X.blk s3 H3 scope ce fp) [] (wipe σ (own.map (·.2))) H' s' ∧ tn i s'.heap ∧ (∀ b ∈ fp, H' b = none) ∧ W i m H' := fun {σ9 s' H'} I' hl hk nx => by
        obtain ⟨m', hm, w'⟩ := hNx H' nx
        have pin' : ∀ b ∈ fp, ∀ o, s7.heap.get? b = some o → s'.heap.get? b = some o ∧ H' b = none := fun b hb o e =>
          let z := I'.pin (b, o) (List.mem_append_right _ (List.mem_append_right _ (mem_pinsAt hb e)))
          ⟨z.1, z.2.1⟩
        refine ⟨m', hm, i + 1, H', (I'.unpinned (pins := [])).weak hl hk, T.keep _ _ _ st7 fun b hb o e => (pin' b hb o e).1, fun b hb => ?_, w'⟩
        obtain ⟨o, e, _⟩ := T.obj _ _ st7 b hb
        exact (pin' b hb o e).2
      have hl8 : (wipe σ (own.map (·.2))).length = σ8.length := by rw [← hw8, wipe_length]
      have hk8 : ∀ (j : Nat) v, (wipe σ (own.map (·.2)))[j]? = some (some v) → σ8[j]? = some (some v) := fun j v e => by
        rw [← hw8] at e
        exact (wipe_some e).1
      have hk9 : ∀ (j : Nat) v, (wipe σ (own.map (·.2)))[j]? = some (some v) → (wipe σ8 vs1)[j]? = some (some v) := fun j v e => by
        rw [← hw8] at e
        obtain ⟨e1, e2⟩ := wipe_some e
        rw [wipe_out fun z => e2 (hv j z)]
        exact e1
      cases b with
      | false =>
        simp only [Bool.false_eq_true, if_false] at q9 ⊢
        exact fin I9 hl8 hk8 q9
      | true =>
        simp only [if_true] at q9 ⊢
        refine thnF (pi1.run _ s9 σ8 H9 _ I9 q9) fun xv s10 hx => thnF hx fun itv s11 h11 => ?_
        obtain ⟨it1, fp1, tn1, J1, H11, e1, I11, T1, st11, f11, W1, ⟨m1, w1⟩, turn1⟩ := h11
        subst e1
        -- the inner loop
        have stat1 : ∀ {H' : Hp}, (∀ b ∈ fp1, H' b = none) → ∀ b ∈ fp1, FpOk (X.blk s3 H3 scope ce fp) ([] ++ pinsAt fp s7.heap) H' b := fun hn b hb => ⟨hn b hb, (f11 b hb).2⟩
        have loop1 : codeAny (model X.prog X.w) X.A (.compLoop (.ListComp elt [⟨tg, iter, ifs, 0⟩, ⟨tg1, iter1, ifs1, 0⟩, ⟨tg2, iter2, ifs2, 0⟩] scope pos) 1 (.ref it1) (.ref D) ce)
            (fun r s' => match r with
              | .ok _ => ∃ m, m < n ∧ ∃ i H', Inv (X.blk s3 H3 scope ce fp) [] (wipe σ (own.map (·.2))) H' s' ∧ tn i s'.heap ∧ (∀ b ∈ fp, H' b = none) ∧ W i m H'
              | .error _ => False) s11 := by
          refine loop3_1 (hs2 ce) (fun k s' => ∃ j H', Inv (X.blk s3 H3 scope ce fp) ([] ++ pinsAt fp s7.heap) (wipe σ8 vs1) H' s' ∧ tn1 j s'.heap ∧ (∀ b ∈ fp1, H' b = none) ∧ W1 j k H') ?_ m1 ⟨0, H11, I11.weak (wipe_length _ _) (fun j v e => (wipe_some e).1), st11, fun b hb => (f11 b hb).1, w1⟩
          rintro k s12 ⟨j, H12, I12, st12, n12, w12⟩
          rcases turn1 j k H12 w12 with ⟨stop1, nx1⟩ | ⟨go1, Nx1, hNx1, step1⟩
          · refine thnF (T1.done (X.blk s3 H3 scope ce fp) rfl rfl rfl hc j _ s12 (wipe σ8 vs1) H12 (fun _ _ => False) I12 (stat1 n12) st12 stop1) fun r s13 ⟨hr, I13⟩ => ?_
            subst hr
            exact fin I13 (hl8.trans (wipe_length σ8 vs1).symm) hk9 nx1
          · refine thnF (T1.item (X.blk s3 H3 scope ce fp) rfl rfl rfl hc j _ s12 (wipe σ8 vs1) H12 (fun _ _ => False) I12 (stat1 n12) st12 go1) fun r s13 ⟨u1, hr, h13⟩ => ?_
            subst hr
            refine thnF h13 fun _ s14 ⟨x1, H14, I14, r14, y14, st14, n14⟩ => ?_
            have I14' := I14.pinned (stat1 n14) (T1.obj _ _ st14)
            refine thnF (pg1.run _ s14 (wipe σ8 vs1) H14 x1 u1 _ I14' r14 (step1 x1 H14 y14)) fun _ s15 ⟨σ15, H15, I15, hw15, q15⟩ => ?_
            refine thnF (pt1.run _ s15 σ15 H15 _ I15 q15) fun b1 s16 ⟨H16, I16, q16⟩ => ?_
            have fin1 : ∀ {σ16 : St} {s' : Shared} {H' : Hp}, Inv (X.blk s3 H3 scope ce fp) (([] ++ pinsAt fp s7.heap) ++ pinsAt fp1 s14.heap) σ16 H' s' → (wipe σ8 vs1).length = σ16.length → (∀ (j : Nat) v, (wipe σ8 vs1)[j]? = some (some v) → σ16[j]? = some (some v)) → Nx1 H' → ∃ m, m < k ∧ ∃ j H', Inv (X.blk s3 H3 scope ce fp) ([] ++ pinsAt fp s7.heap) (wipe σ8 vs1) H' s' ∧ tn1 j s'.heap ∧ (∀ b ∈ fp1, H' b = none) ∧ W1 j m H' := fun {σ16 s' H'} I' hl hk nx => by
              obtain ⟨m', hm, w'⟩ := hNx1 H' nx
              have pin' : ∀ b ∈ fp1, ∀ o, s14.heap.get? b = some o → s'.heap.get? b = some o ∧ H' b = none := fun b hb o e =>
                let z := I'.pin (b, o) (List.mem_append_right _ (List.mem_append_right _ (mem_pinsAt hb e)))
                ⟨z.1, z.2.1⟩
              refine ⟨m', hm, j + 1, H', I'.unpinned.weak hl hk, T1.keep _ _ _ st14 fun b hb o e => (pin' b hb o e).1, fun b hb => ?_, w'⟩
              obtain ⟨o, e, _⟩ := T1.obj _ _ st14 b hb
              exact (pin' b hb o e).2
            have hl15 : (wipe σ8 vs1).length = σ15.length := by rw [← hw15, wipe_length]
            have hk15 : ∀ (j : Nat) v, (wipe σ8 vs1)[j]? = some (some v) → σ15[j]? = some (some v) := fun j v e => by
              rw [← hw15] at e
              exact (wipe_some e).1
            have hk16 : ∀ (j : Nat) v, (wipe σ8 vs1)[j]? = some (some v) → (wipe σ15 vs2)[j]? = some (some v) := fun j v e => by
              rw [← hw15] at e
              obtain ⟨e1, e2⟩ := wipe_some e
              rw [wipe_out fun z => e2 (hv2 j z)]
              exact e1
            cases b1 with
            | false =>
              simp only [Bool.false_eq_true, if_false] at q16 ⊢
              exact fin1 I16 hl15 hk15 q16
            | true =>
              simp only [if_true] at q16 ⊢
              refine thnF (pi2.run _ s16 σ15 H16 _ I16 q16) fun xv2 s17 hx2 => thnF hx2 fun itv2 s18 h18 => ?_
              obtain ⟨it2, fp2, tn2, J2, H18, e2, I18, T2, st18, f18, W2, ⟨m2, w2⟩, turn2⟩ := h18
              subst e2
              have stat2 : ∀ {H' : Hp}, (∀ b ∈ fp2, H' b = none) → ∀ b ∈ fp2, FpOk (X.blk s3 H3 scope ce fp) (([] ++ pinsAt fp s7.heap) ++ pinsAt fp1 s14.heap) H' b := fun hn b hb => ⟨hn b hb, (f18 b hb).2⟩
              have loop2 : codeAny (model X.prog X.w) X.A (.compLoop (.ListComp elt [⟨tg, iter, ifs, 0⟩, ⟨tg1, iter1, ifs1, 0⟩, ⟨tg2, iter2, ifs2, 0⟩] scope pos) 2 (.ref it2) (.ref D) ce)
                  (fun r s' => match r with
                    | .ok _ => ∃ m, m < k ∧ ∃ j H', Inv (X.blk s3 H3 scope ce fp) ([] ++ pinsAt fp s7.heap) (wipe σ8 vs1) H' s' ∧ tn1 j s'.heap ∧ (∀ b ∈ fp1, H' b = none) ∧ W1 j m H'
                    | .error _ => False) s18 := by
                refine loop3_2 (fun k2 s' => ∃ j H', Inv (X.blk s3 H3 scope ce fp) (([] ++ pinsAt fp s7.heap) ++ pinsAt fp1 s14.heap) (wipe σ15 vs2) H' s' ∧ tn2 j s'.heap ∧ (∀ b ∈ fp2, H' b = none) ∧ W2 j k2 H') ?_ m2 ⟨0, H18, I18.weak (wipe_length _ _) (fun j v e => (wipe_some e).1), st18, fun b hb => (f18 b hb).1, w2⟩
                rintro k2 s22 ⟨j2, H22, I22, st22, n22, w22⟩
                rcases turn2 j2 k2 H22 w22 with ⟨stop2, nx2⟩ | ⟨go2, Nx2, hNx2, step2⟩
                · refine thnF (T2.done (X.blk s3 H3 scope ce fp) rfl rfl rfl hc j2 _ s22 (wipe σ15 vs2) H22 (fun _ _ => False) I22 (stat2 n22) st22 stop2) fun r s23 ⟨hr, I23⟩ => ?_
                  subst hr
                  exact fin1 I23 (hl15.trans (wipe_length σ15 vs2).symm) hk16 nx2
                · refine thnF (T2.item (X.blk s3 H3 scope ce fp) rfl rfl rfl hc j2 _ s22 (wipe σ15 vs2) H22 (fun _ _ => False) I22 (stat2 n22) st22 go2) fun r s23 ⟨u2, hr, h23⟩ => ?_
                  subst hr
                  refine thnF h23 fun _ s24 ⟨x2, H24, I24, r24, y24, st24, n24⟩ => ?_
                  have I24' := I24.pinned (stat2 n24) (T2.obj _ _ st24)
                  refine thnF (pg2.run _ s24 (wipe σ15 vs2) H24 x2 u2 _ I24' r24 (step2 x2 H24 y24)) fun _ s25 ⟨σ25, H25, I25, hw25, q25⟩ => ?_
                  refine thnF (pt2.run _ s25 σ25 H25 _ I25 q25) fun b2 s26 ⟨H26, I26, q26⟩ => ?_
                  have fin2 : ∀ {s' : Shared} {H' : Hp}, Inv (X.blk s3 H3 scope ce fp) ((([] ++ pinsAt fp s7.heap) ++ pinsAt fp1 s14.heap) ++ pinsAt fp2 s24.heap) σ25 H' s' → Nx2 H' → ∃ m, m < k2 ∧ ∃ j H', Inv (X.blk s3 H3 scope ce fp) (([] ++ pinsAt fp s7.heap) ++ pinsAt fp1 s14.heap) (wipe σ15 vs2) H' s' ∧ tn2 j s'.heap ∧ (∀ b ∈ fp2, H' b = none) ∧ W2 j m H' := fun {s' H'} I' nx => by
                    obtain ⟨m', hm, w'⟩ := hNx2 H' nx
                    have pin' : ∀ b ∈ fp2, ∀ o, s24.heap.get? b = some o → s'.heap.get? b = some o ∧ H' b = none := fun b hb o e =>
                      let z := I'.pin (b, o) (List.mem_append_right _ (List.mem_append_right _ (mem_pinsAt hb e)))
                      ⟨z.1, z.2.1⟩
                    refine ⟨m', hm, j2 + 1, H', I'.unpinned.weak (by rw [← hw25, wipe_length]) (fun j v e => by rw [← hw25] at e; exact (wipe_some e).1), T2.keep _ _ _ st24 fun b hb o e => (pin' b hb o e).1, fun b hb => ?_, w'⟩
                    obtain ⟨o, e, _⟩ := T2.obj _ _ st24 b hb
                    exact (pin' b hb o e).2
                  cases b2 with
                  | false =>
                    simp only [Bool.false_eq_true, if_false] at q26 ⊢
                    exact fin2 I26 q26
                  | true =>
                    simp only [if_true] at q26 ⊢
                    refine thnF (pe.run _ s26 σ25 H26 _ I26 q26) fun z s27 ⟨yv, H27, I27, r27, acc, hD27, hz27, nx⟩ => ?_
                    exact app_ok (X := X.blk s3 H3 scope ce fp) I27 hD27 hz27 r27 fun s28 I28 => fin2 I28 nx
              exact start3_2 loop2 (T2.self X.A 0 _ _ _ st18 loop2)
        exact start3_1 loop1 (T1.self X.A 0 _ _ _ st11 loop1)
  exact codeAny_compStart_list loop (T.self X.A 0 _ _ _ st4 loop)
theorem ps_setLc3 {i : Nat} {y : Str} {py : Pos} {elt tg iter tg1 iter1 tg2 iter2 : Expr} {ifs ifs1 ifs2 : List Expr} {scope : Scope} {own : List (Str × Nat)} {vs1 vs2 : List Nat} {pos spos : Pos} {wi wi1 wi2 : TI} {g g1 g2 : TG} {tt tt1 tt2 : TT} {te : TE} (hc : X.calm = true) (hN : X.N.Nodup) (hy : X.N[i]? = some y) (hyl : X.env.scope.names.lookup y = some .local)
    (hsw : swapsWith (.ListComp elt [⟨tg, iter, ifs, 0⟩, ⟨tg1, iter1, ifs1, 0⟩, ⟨tg2, iter2, ifs2, 0⟩] scope pos) (some (.Name y py)) spos.line X.env = pure true) (hi : PI X tg iter wi) (ok : BlkOk X.N X.env.scope scope own) (hv : ∀ i ∈ vs1, i ∈ own.map (·.2)) (hv2 : ∀ i ∈ vs2, i ∈ vs1)
    (hg : ∀ (s : Shared) (H : Hp) (C : Addr) (cl : List (Str × Addr)) (fp : List Addr), PG (X.blk s H scope (compEnvC scope cl C X.env) fp) tg g) (ht : ∀ (s : Shared) (H : Hp) (C : Addr) (cl : List (Str × Addr)) (fp : List Addr), PTs (X.blk s H scope (compEnvC scope cl C X.env) fp) ifs tt)
    (hi1 : ∀ (s : Shared) (H : Hp) (C : Addr) (cl : List (Str × Addr)) (fp : List Addr), PI (X.blk s H scope (compEnvC scope cl C X.env) fp) tg1 iter1 wi1)
    (hg1 : ∀ (s : Shared) (H : Hp) (C : Addr) (cl : List (Str × Addr)) (fp : List Addr), PG (X.blk s H scope (compEnvC scope cl C X.env) fp) tg1 g1) (ht1 : ∀ (s : Shared) (H : Hp) (C : Addr) (cl : List (Str × Addr)) (fp : List Addr), PTs (X.blk s H scope (compEnvC scope cl C X.env) fp) ifs1 tt1)
    (hi2 : ∀ (s : Shared) (H : Hp) (C : Addr) (cl : List (Str × Addr)) (fp : List Addr), PI (X.blk s H scope (compEnvC scope cl C X.env) fp) tg2 iter2 wi2) (hg2 : ∀ (s : Shared) (H : Hp) (C : Addr) (cl : List (Str × Addr)) (fp : List Addr), PG (X.blk s H scope (compEnvC scope cl C X.env) fp) tg2 g2) (ht2 : ∀ (s : Shared) (H : Hp) (C : Addr) (cl : List (Str × Addr)) (fp : List Addr), PTs (X.blk s H scope (compEnvC scope cl C X.env) fp) ifs2 tt2)
    (he : ∀ (s : Shared) (H : Hp) (C : Addr) (cl : List (Str × Addr)) (fp : List Addr), PE (X.blk s H scope (compEnvC scope cl C X.env) fp) elt te) (hs : ∀ x, foldedSetIterable iter X.env x = pure x := by intro _; rfl) (hs1 : ∀ env x, foldedSetIterable iter1 env x = pure x := by intro _ _; rfl) (hs2 : ∀ env x, foldedSetIterable iter2 env x = pure x := by intro _ _; rfl) :
    PS X (.Assign [.Name y py] (.ListComp elt [⟨tg, iter, ifs, 0⟩, ⟨tg1, iter1, ifs1, 0⟩, ⟨tg2, iter2, ifs2, 0⟩] scope pos) spos) (tAsg (tLc3 wi g tt wi1 g1 tt1 wi2 g2 tt2 te (own.map (·.2)) vs1 vs2) (gName i)) := by
  refine ⟨fun pins s σ H D I h => ?_⟩
  rw [exec_Assign_Name_used _ _ _ _ hsw]
  refine wpAny_bind (wpAny_standAt (wpAny_bind ?_))
  show wpAny _ X.A (do let _ ← comprehension (.ListComp elt [⟨tg, iter, ifs, 0⟩, ⟨tg1, iter1, ifs1, 0⟩, ⟨tg2, iter2, ifs2, 0⟩] scope pos) scope X.env (firstIterPos [⟨tg, iter, ifs, 0⟩, ⟨tg1, iter1, ifs1, 0⟩, ⟨tg2, iter2, ifs2, 0⟩] pos) (newList []) false (eval iter X.env) (some (assign (.Name y py) X.env))) _ _ s
  have h : tLc3 wi g tt wi1 g1 tt1 wi2 g2 tt2 te (own.map (·.2)) vs1 vs2 σ H (fun x H1 => gName i x σ H1 D.nx) := h
  refine wpAny_bind (thn (lc3_core (Qf := fun _ s' => SP X pins D .next s') hc hN I hi ok hv hv2 hg ht he hs hi1 hg1 ht1 hs1 hi2 hg2 ht2 hs2 h fun L C s' m H' I' q hn f => ?_) fun _ s' hq => wpAny_pure (wpAny_pure hq))
  show wpAny _ _ (assign (.Name y py) X.env (.ref L)) _ _ _
  refine wpAny_assign_Name (store_ok2 (v := V.ref L) I' hN hy (.inl hyl) rfl (fun s2 I2 ⟨a, sb, ha⟩ => ?_) (.inr hyl))
  obtain ⟨f0, f1, f2, f3, f4, f5⟩ := f
  have haC : C ≠ a := by
    rcases ha with z | z
    · rw [z]; exact f1
    · exact fun e => f4 y a z e.symm
  refine ⟨m, hn.sameBut sb haC, fun h3 sb3 => ?_⟩
  exact ⟨_, H', I2.turned (t' := s2.toks) (fun b o hb e => (sb3.2 b hb).trans e) f0 f1 f3 f4 f5, q⟩
end
end Mm

set_option maxHeartbeats 4000000
/-! the search for a closed book -/
namespace Mm
open PySem PySem.Spec L2 MM
open PyProof.Rows hiding St
def tru : T3 → V := fun _ => .bl true
theorem upd_tru (u : T3) : updT tru u (.bl true) = tru := by
  funext t
  unfold updT tru
  split <;> rfl
theorem st_few {c : CM} (hc : c.Ok) {pat : List Nat} (hp : PatOk c pat) {ts : List T3} (nd : ts.Nodup) (h : ∀ t ∈ ts, StOk c pat t) : ts.length ≤ 468 := by
  have n6 := hc.n6
  have l12 := hp.le
  refine nodup_map_length (fun t : T3 => t.1 * 36 + t.2.1 * 6 + t.2.2) 468 ts nd (fun a ha b hb e => ?_) fun t ht => ?_
  · have h1 := h a ha; have h2 := h b hb
    exact st_code ⟨Nat.le_trans h1.pl l12, by have := h1.le; have := h1.lt; omega, by have := h1.lt; omega⟩ ⟨Nat.le_trans h2.pl l12, by have := h2.le; have := h2.lt; omega, by have := h2.lt; omega⟩ e
  · have h1 := h t ht
    have := h1.pl; have := h1.le; have := h1.lt
    show t.1 * 36 + t.2.1 * 6 + t.2.2 < 468
    omega
section
variable {P : Program} {w : World} {K : PySem.W.Frag} {mg : Str → Option Value} {base : Heap} {CC CT CP : Addr}
/-- what is known ahead of a turn of the search: the seen, the open -/
structure Fb (c : CM) (pat : List Nat) (x y : Nat) (H : Hp) (sa sd : Addr) (ts st : List T3) (H' : Hp) : Prop where
  sm : Same H H'
  sta : ∃ as : List Addr, H' sa = some (.lst (as.map V.ref)) ∧ Paired (TupT H') as st
  std : H' sd = some (.dT (ents ts tru))
  nd : ts.Nodup
  sub : ∀ t ∈ st, t ∈ ts
  re : ∀ t ∈ ts, Reach c pat (0, x, y) t ∧ t.2.1 ≠ t.2.2
  st0 : (0, x, y) ∈ ts
theorem Fb.same {c : CM} {pat : List Nat} {x y : Nat} {H : Hp} {sa sd : Addr} {ts st : List T3} {H' H2 : Hp} (h : Fb c pat x y H sa sd ts st H') (s : Same H' H2) : Fb c pat x y H sa sd ts st H2 := by
  obtain ⟨as, h1, h2⟩ := h.sta
  exact ⟨h.sm.trans s, ⟨as, s _ _ h1, paired_map h2 fun _ _ q => s _ _ q⟩, s _ _ h.std, h.nd, h.sub, h.re, h.st0⟩
theorem Fb.put {c : CM} {pat : List Nat} {x y : Nat} {H : Hp} {sa sd : Addr} {ts st : List T3} {H' : Hp} {u : T3} (h : Fb c pat x y H sa sd ts st H') (n : H sd = none) (hu : u ∉ ts) (r : Reach c pat (0, x, y) u) (ne : u.2.1 ≠ u.2.2) : Fb c pat x y H sa sd (ts ++ [u]) st (upd H' sd (.dT (ents (ts ++ [u]) tru))) := by
  obtain ⟨as, h1, h2⟩ := h.sta
  refine ⟨same_upd h.sm n, ⟨as, ?_, paired_map h2 fun b z q => ?_⟩, upd_same, ?_, fun t ht => List.mem_append_left _ (h.sub t ht), fun t ht => ?_, List.mem_append_left _ h.st0⟩
  · rw [upd_ne (ne_of h1 h.std (fun z => nomatch z))]; exact h1
  · have q' : H' b = some (.tup [vi z.1, vi z.2.1, vi z.2.2]) := q
    show (upd H' sd _) b = _
    rw [upd_ne (ne_of q' h.std (fun z => nomatch z))]
    exact q'
  · rw [List.nodup_append]
    refine ⟨h.nd, by simp, fun a ha b hb => ?_⟩
    rw [List.mem_singleton.mp hb]
    exact fun e => hu (e ▸ ha)
  · rcases List.mem_append.mp ht with q | q
    · exact h.re t q
    · rw [List.mem_singleton.mp q]; exact ⟨r, ne⟩
theorem Fb.app {c : CM} {pat : List Nat} {x y : Nat} {H : Hp} {sa sd : Addr} {ts st : List T3} {H' : Hp} {u : T3} {as : List Addr} {T : Addr} (h : Fb c pat x y H sa sd ts st H') (n : H sa = none) (h1 : H' sa = some (.lst (as.map V.ref))) (h2 : Paired (TupT H') as st) (hu : u ∈ ts) (hT : TupT H' T u) :
    Fb c pat x y H sa sd ts (st ++ [u]) (upd H' sa (.lst (as.map V.ref ++ [.ref T]))) := by
  have key : ∀ b z, TupT H' b z → TupT (upd H' sa (.lst (as.map V.ref ++ [.ref T]))) b z := fun b z q => by
    have q' : H' b = some (.tup [vi z.1, vi z.2.1, vi z.2.2]) := q
    show (upd H' sa _) b = _
    rw [upd_ne (ne_of q' h1 (fun z => nomatch z))]
    exact q'
  refine ⟨same_upd h.sm n, ⟨as ++ [T], by rw [upd_same, List.map_append]; rfl, paired_app (paired_map h2 key) (.cons (key _ _ hT) .nil)⟩, ?_, h.nd, fun t ht => ?_, h.re, h.st0⟩
  · rw [upd_ne (ne_of h.std h1 (fun z => nomatch z))]; exact h.std
  · rcases List.mem_append.mp ht with q | q
    · exact h.sub t q
    · rw [List.mem_singleton.mp q]; exact hu
theorem paired_last {α β : Type} {F : α → β → Prop} : ∀ {as : List α} {st : List β}, Paired F as st → st ≠ [] → ∃ as' q st' t, as = as' ++ [q] ∧ st = st' ++ [t] ∧ Paired F as' st' ∧ F q t
  | [], [], _, h => absurd rfl h
  | [a], [b], .cons r .nil, _ => ⟨[], a, [], b, rfl, rfl, .nil, r⟩
  | a :: a2 :: as, b :: b2 :: st, .cons r t, _ => by
    obtain ⟨as', q, st', t', e1, e2, h1, h2⟩ := paired_last t (List.cons_ne_nil _ _)
    exact ⟨a :: as', q, b :: st', t', by rw [e1]; rfl, by rw [e2]; rfl, .cons r h1, h2⟩
abbrev s_find_book : Stmt := (top 43)
abbrev N_find_book : List Str := ["cast", "pattern", "first", "second", "states", "seen", "place", "low", "high", "letter", "after", "one", "other", "words", "book", "state"]
theorem sc_find_book : FnScope N_find_book ["cast", "pattern", "first", "second"] (defScope s_find_book) := ⟨rfl, rfl, rfl, by decide +kernel, rfl, by decide +kernel, by decide +kernel⟩
def sp_find_book (CC CT : Addr) : Sp := fun vs H Q _ => ∃ (a : Addr) (c : CM) (pat : List Nat) (x y : Nat), vs = [.ref a, .str (strOf pat), vi x, vi y] ∧ CastIs CC CT H a c ∧ c.Ok ∧ PatOk c pat ∧ x < y ∧ y < c.n ∧
  (Melt c pat x y → ∀ H', Same H H' → Q .non H') ∧ (¬ Melt c pat x y → ∀ r H', Same H H' → Q (.ref r) H')
theorem g_find_book (F : Fn K mg "find_book" s_find_book) (Cc : CastC K mg CC) (B : Blt mg) (G_check_question : G P w K mg base 3 "check_question" ["cast", "pattern", "first", "second"] (sp_check_question CC CT))
    (G_steps_from : G P w K mg base 5 "steps_from" ["cast", "pattern", "place", "low", "high"] (sp_steps CC CT)) : G P w K mg base 6 "find_book" ["cast", "pattern", "first", "second"] (sp_find_book CC CT) := by
  refine g_of F sc_find_book (fun _ _ _ _ _ _ us hl => match us, hl with | [_, _, _, _], _ => rfl) (fun vs H Q E h => ?_) (fun f cdv A outer s H vs Q E hr h => ?_)
  · obtain ⟨a, c, pat, x, y, rfl, _⟩ := h
    rfl
  · obtain ⟨a, c, pat, x, y, rfl, hC, ok, hp, hxy, hy, km, kn⟩ := h
    have hu := hu_of hr
    have hlen := hp.le
    have n6 := ok.n6
    refine ⟨_, (pss_cons (ps_expr (pe_g G_check_question (hr.mono (by decide)) (by rfl) (pa_cons (pv 0) (pa_cons (pv 1) (pa_cons (pv 2) (pa_cons (pv 3) pa_nil))))))
      (pss_cons (ps_set (i := 4) sc_find_book.nd rfl (Or.inl rfl) (pe_lst (pa_cons (pe_tup (pa_cons pe_int (pa_cons (pe_callB (call_min2 rfl) (by rfl) B.b_min (by decide +kernel) (pa_cons (pe_callTy call_int1 (by rfl) B.b_int (by decide +kernel) (pa_cons (pv 2) pa_nil)) (pa_cons (pe_callTy call_int1 (by rfl) B.b_int (by decide +kernel) (pa_cons (pv 3) pa_nil)) pa_nil))) (pa_cons (pe_callB (call_max2 rfl) (by rfl) B.b_max (by decide +kernel) (pa_cons (pe_callTy call_int1 (by rfl) B.b_int (by decide +kernel) (pa_cons (pv 2) pa_nil)) (pa_cons (pe_callTy call_int1 (by rfl) B.b_int (by decide +kernel) (pa_cons (pv 3) pa_nil)) pa_nil))) pa_nil)))) pa_nil)))
      (pss_cons (ps_set (i := 5) sc_find_book.nd rfl (Or.inr rfl) (pe_dispT1 hu (pe_ix (ix_listK (K := K) rfl) (pv 4) pe_int (fun _ _ => rfl)) pe_bl))
      (pss_cons (ps_while PassesOwn.never (pt_cmpR op_gt (pe_callB (call_len_seqK (K := K) rfl) (by rfl) B.b_len PySem.boot_len (pa_cons (pv 4) pa_nil)) pe_int (nomark _)) (pss_cons (ps_asg (pe_bm0 PySem.F.plainAttrs_list PySem.F.slot_list_pop PySem.F.type_list_pop mt_pop (pv 4)) (pg_tup rfl (pgs_cons (pg_name (i := 6) sc_find_book.nd rfl (Or.inl rfl)) (pgs_cons (pg_name (i := 7) sc_find_book.nd rfl (Or.inl rfl)) (pgs_cons (pg_name (i := 8) sc_find_book.nd rfl (Or.inl rfl)) pgs_nil)))))
      (pss_one (ps_for PassesOwn.never rfl (pi_listK (K := K) rfl (pe_g G_steps_from (hr.mono (by decide)) (by rfl) (pa_cons (pv 0) (pa_cons (pv 1) (pa_cons (pv 6) (pa_cons (pv 7) (pa_cons (pv 8) pa_nil))))))) (pg_tup rfl (pgs_cons (pg_name (i := 9) sc_find_book.nd rfl (Or.inl rfl)) (pgs_cons (pg_name (i := 10) sc_find_book.nd rfl (Or.inl rfl)) (pgs_cons (pg_name (i := 11) sc_find_book.nd rfl (Or.inl rfl)) (pgs_cons (pg_name (i := 12) sc_find_book.nd rfl (Or.inl rfl)) pgs_nil))))) (pss_cons (ps_if (pt_cmpR op_eq (pv 11) (pv 12) (nomark _)) (pss_one (ps_ret pe_non)) pss_nil)
      (pss_one (ps_if (pt_cmp (pc_dnotin hu (pe_tup (pa_cons (pv 10) (pa_cons (pv 11) (pa_cons (pv 12) pa_nil)))) (pv 5))) (pss_cons (ps_dput hu (pv 5) (pe_tup (pa_cons (pv 10) (pa_cons (pv 11) (pa_cons (pv 12) pa_nil)))) pe_bl rfl)
      (pss_one (ps_expr (pe_bm PySem.F.plainAttrs_list PySem.F.slot_list_append PySem.F.type_list_append mt_append (pv 4) (pa_cons (pe_tup (pa_cons (pv 10) (pa_cons (pv 11) (pa_cons (pv 12) pa_nil)))) pa_nil))))) pss_nil)))))))
      (pss_cons (ps_set (i := 13) sc_find_book.nd rfl (Or.inr rfl) (pe_listRg rfl (by rfl) B.b_list (prg_1 (by rfl) B.b_range (pe_fldK (K := K) rfl (pv 0) rfl))))
      (pss_cons (ps_setLc3 (i := 14) (own := [("place", 6), ("low", 7), ("high", 8)]) rfl sc_find_book.nd rfl rfl (sw_true rfl rfl rfl (by decide +kernel)) (pi_range1 rfl B.b_range (pa_cons (pe_op op_add (pe_callB call_len_str (by rfl) B.b_len PySem.boot_len (pa_cons (pv 1) pa_nil)) pe_int) pa_nil)) (blkOk_by (N := N_find_book) (sc := defScope s_find_book) (by decide +kernel)) (vs1 := [7, 8]) (by decide) (vs2 := [8]) (by decide) (fun _ _ _ _ _ => (pg_name (i := 6) sc_find_book.nd rfl (Or.inl rfl))) (fun _ _ _ _ _ => pts_nil) (fun _ _ _ _ _ => (pi_listK (K := K) rfl (pv 13))) (fun _ _ _ _ _ => (pg_name (i := 7) sc_find_book.nd rfl (Or.inl rfl))) (fun _ _ _ _ _ => pts_nil) (fun _ _ _ _ _ => (pi_listK (K := K) rfl (pv 13))) (fun _ _ _ _ _ => (pg_name (i := 8) sc_find_book.nd rfl (Or.inl rfl))) (fun _ _ _ _ _ => pts_nil) (fun _ _ _ _ _ => (pe_tup (pa_cons (pv 6) (pa_cons (pv 7) (pa_cons (pv 8) pa_nil))))))
      (pss_one (ps_ret (pe_lc (own := [("state", 15)]) rfl sc_find_book.nd (pi_listK (K := K) rfl (pv 14)) (blkOk_by (N := N_find_book) (sc := defScope s_find_book) (by decide +kernel)) (fun _ _ _ _ _ => (pg_name (i := 15) sc_find_book.nd rfl (Or.inl rfl))) (fun _ _ _ _ _ => pts_one (pt_cmp (pc_din hu (pv 15) (pv 5)))) (fun _ _ _ _ _ => (pv 15))))))))))), ?_⟩
    refine ⟨_, rfl, _, rfl, _, rfl, _, rfl, a, c, pat, x, y, rfl, hC, hp, by omega, hy, by omega, fun H1 s1 => ?_⟩
    -- states = [(0, min, max)]
    refine ⟨_, rfl, .inl ⟨_, rfl, _, rfl, .inl ⟨_, rfl, _, _, rfl, _, rfl, .inl ⟨_, rfl, _, rfl, .inl ⟨_, rfl, _, _, rfl, ?_⟩⟩⟩⟩⟩
    rw [min_vi, max_vi, Nat.min_eq_left (Nat.le_of_lt hxy), Nat.max_eq_right (Nat.le_of_lt hxy)]
    refine ⟨by show 3 ≤ sizeLine; exact le_of_small (m := 3) (Nat.le_refl _), fun T0 hT0 => ⟨by show 1 ≤ sizeLine; exact le_of_small (m := 1) (Nat.le_refl _), fun sa hsa => ?_⟩⟩
    have s2 : Same H (upd (upd H1 T0 (.tup [.int 0, vi x, vi y])) sa (.lst [.ref T0])) := s1.trans ((same_new hT0).trans (same_new hsa))
    generalize hH2 : upd (upd H1 T0 (.tup [.int 0, vi x, vi y])) sa (.lst [.ref T0]) = H2 at s2
    have t2 : TupT H2 T0 (0, x, y) := by rw [← hH2]; exact same_new hsa _ _ upd_same
    have sa2 : H2 sa = some (.lst [.ref T0]) := by rw [← hH2]; exact upd_same
    have nsa : H sa = none := (s1.trans (same_new hT0)).free hsa
    -- seen = {states[0]: True}
    refine fun sd hsd => ⟨_, rfl, sa, _, 0, _, rfl, rfl, SqL.of (same_new hsd _ _ sa2), rfl, upd_same, kT (0, x, y), T0, rfl, same_new hsd _ _ t2, ?_⟩
    rw [upd_upd]
    have nsd : H sd = none := s2.free hsd
    have s3 : Same H (upd H2 sd (.dT (ents [(0, x, y)] tru))) := same_upd s2 nsd
    have fb0 : Fb c pat x y H sa sd [(0, x, y)] [(0, x, y)] (upd H2 sd (.dT (ents [(0, x, y)] tru))) := by
      refine ⟨s3, ⟨[T0], same_new hsd _ _ sa2, .cons (same_new hsd _ _ t2) .nil⟩, upd_same, by simp, fun t ht => ht, fun t ht => ?_, List.mem_singleton.mpr rfl⟩
      rw [List.mem_singleton.mp ht]
      exact ⟨.start, by show x ≠ y; omega⟩
    have sto : ∀ t, Reach c pat (0, x, y) t → StOk c pat t := fun t r => r.ok ok hp ⟨Nat.zero_le _, Nat.le_of_lt hxy, hy⟩
    have few : ∀ {ts st : List T3} {H' : Hp}, Fb c pat x y H sa sd ts st H' → ts.length ≤ 468 := fun fb => st_few ok hp fb.nd fun t ht => sto t (fb.re t ht).1
    refine while_w (fun m σ H' => ∃ v6 v7 v8 v9 v10 v11 v12 ts st, σ = [some (.ref a), some (.str (strOf pat)), some (vi x), some (vi y), some (.ref sa), some (.ref sd), v6, v7, v8, v9, v10, v11, v12, none, none, none] ∧ Fb c pat x y H sa sd ts st H' ∧ (∀ t ∈ ts, t ∉ st → ∀ u, MM.Step c pat t u → u ∈ ts) ∧ m = 2 * (468 - ts.length) + st.length ∧ m ≤ 1000)
      _ ⟨_, _, _, _, _, _, _, _, _, rfl, fb0, fun t ht hn => absurd ht hn, rfl, by show 2 * (468 - 1) + 1 ≤ 1000; decide⟩ ?_ ?_
    · rintro m σ H4 ⟨v6, v7, v8, v9, v10, v11, v12, ts, st, rfl, fb, cl, rfl, hm1000⟩ N hN
      obtain ⟨as, hsta, hpa⟩ := fb.sta
      have ela := Paired.length hpa
      refine ⟨_, rfl, sa, _, rfl, .inl (SqL.of hsta), _, _, rfl, rfl, _, rfl, iteD (fun q => ?_) fun q => ?_⟩ <;> rw [List.length_map, ela] at q
      · have hne : st ≠ [] := fun e => by rw [e] at q; exact absurd q (by decide)
        obtain ⟨as', qa, st', t0, rfl, rfl, hpa', hq0⟩ := paired_last hpa hne
        have ht0 : t0 ∈ ts := fb.sub t0 (List.mem_append_right _ (List.mem_singleton.mpr rfl))
        have hR0 := (fb.re t0 ht0).1
        have hS0 := sto t0 hR0
        -- pop
        refine ⟨_, rfl, .inl ⟨rfl, _, SqL.of hsta⟩, sa, _, .ref qa, rfl, rfl, hsta, ?_, ?_⟩
        · rw [List.map_append, List.length_append, List.map_singleton, List.length_singleton, Nat.add_sub_cancel, List.getElem?_append_right (Nat.le_refl _), Nat.sub_self]
          rfl
        have edl : (List.map V.ref (as' ++ [qa])).dropLast = as'.map V.ref := by rw [List.map_append]; exact List.dropLast_concat
        rw [edl]
        have key : ∀ b z, TupT H4 b z → TupT (upd H4 sa (.lst (as'.map V.ref))) b z := fun b z q => by
          have q' : H4 b = some (.tup [vi z.1, vi z.2.1, vi z.2.2]) := q
          show (upd H4 sa _) b = _
          rw [upd_ne (ne_of q' hsta (fun z => nomatch z))]
          exact q'
        have fb5 : Fb c pat x y H sa sd ts st' (upd H4 sa (.lst (as'.map V.ref))) := by
          refine ⟨same_upd fb.sm nsa, ⟨as', upd_same, paired_map hpa' key⟩, ?_, fb.nd, fun t ht => fb.sub t (List.mem_append_left _ ht), fb.re, fb.st0⟩
          rw [upd_ne (ne_of fb.std hsta (fun z => nomatch z))]
          exact fb.std
        have cl5 : ∀ t ∈ ts, t ∉ st' → t = t0 ∨ ∀ u, MM.Step c pat t u → u ∈ ts := fun t ht hn => by
          by_cases e : t = t0
          · exact .inl e
          · exact .inr (cl t ht fun hm => (List.mem_append.mp hm).elim hn fun z => e (List.mem_singleton.mp z))
        have tq5 := key qa t0 hq0
        generalize upd H4 sa (.lst (as'.map V.ref)) = H5 at fb5 tq5
        have hM : 2 * (468 - ts.length) + st'.length < 2 * (468 - ts.length) + (st' ++ [t0]).length := by rw [List.length_append, List.length_singleton]; omega
        have hMM : 2 * (468 - ts.length) + (st' ++ [t0]).length ≤ 10000 := by omega
        generalize 2 * (468 - ts.length) + (st' ++ [t0]).length = M at hM hMM hm1000 hN
        refine ⟨qa, _, rfl, SqT.of tq5, rfl, _, _, rfl, _, _, rfl, _, _, rfl, rfl, ?_⟩
        -- for .. in steps_from(..)
        refine ⟨_, rfl, _, rfl, _, rfl, _, rfl, _, rfl, a, c, pat, t0.1, t0.2.1, t0.2.2, rfl, hC.same fb5.sm, ok, hp, hS0, fun ql H6 es s6 hql hTq hnes hse hce => ?_⟩
        obtain ⟨as6, hq6, hp6⟩ := hTq
        refine ⟨ql, rfl, ⟨_, SqL.of hq6⟩, ?_⟩
        have nql : sa ≠ ql ∧ sd ≠ ql := by
          obtain ⟨as5, h5, _⟩ := fb5.sta
          exact ⟨ne_of_none h5 hql, ne_of_none fb5.std hql⟩
        have el6 := Paired.length hp6
        rw [List.length_map] at el6
        refine for_list_w (K := K) (a := ql) (xs := as6.map V.ref) (fun j σ H' => ∃ v9 v10 v11 v12 ts st, σ = [some (.ref a), some (.str (strOf pat)), some (vi x), some (vi y), some (.ref sa), some (.ref sd), some (vi t0.1), some (vi t0.2.1), some (vi t0.2.2), v9, v10, v11, v12, none, none, none] ∧ Fb c pat x y H sa sd ts st H' ∧ t0 ∈ ts ∧
            (∀ t ∈ ts, t ∉ st → t = t0 ∨ ∀ u, MM.Step c pat t u → u ∈ ts) ∧ 2 * (468 - ts.length) + st.length < M ∧ (∀ e ∈ es.take j, e.2 ∈ ts) ∧ H' ql = some (.lst (as6.map V.ref)) ∧ Paired (fun q r => H' q = some (.tup r)) as6 (es.map rowS))
          ⟨_, _, _, _, ts, st', rfl, fb5.same s6, ht0, cl5, hM, fun e he => by simp at he, hq6, hp6⟩ (fun i σ H' _ ⟨_, _, _, _, _, _, _, _, _, _, _, _, h, _⟩ => SqL.of h) ?_ ?_
        · rintro j z σ H7 hz ⟨v9, v10, v11, v12, ts, st, rfl, fb7, ht7, cl7, hM7, hd7, hq7, hp7⟩ N2 hN2
          obtain ⟨qe, hqe, rfl⟩ := refs_get hz
          obtain ⟨rw', hrw, hra⟩ := paired_get hp7 hqe
          rw [List.getElem?_map] at hrw
          obtain ⟨e, he, rfl⟩ := Option.map_eq_some_iff.mp hrw
          have hst := (hse e (List.mem_of_getElem? he)).1
          have hR : Reach c pat (0, x, y) e.2 := hR0.step hst
          have hS := sto e.2 hR
          refine ⟨qe, _, rfl, SqT.of hra, rfl, _, _, rfl, _, _, rfl, _, _, rfl, _, _, rfl, rfl, ?_⟩
          -- if one == other: return None
          refine ⟨_, rfl, _, rfl, rfl, _, rfl, iteI (fun q => ?_) fun q => ?_⟩
          · have eq : e.2.2.1 = e.2.2.2 := by omega
            exact km ⟨e.2.1, e.2.2.1, by
              have e3 : e.2 = (e.2.1, e.2.2.1, e.2.2.1) := Prod.ext rfl (Prod.ext rfl eq.symm)
              rw [← e3]; exact hR⟩ H7 fb7.sm
          · have ne : e.2.2.1 ≠ e.2.2.2 := by omega
            -- if (after, one, other) not in seen
            refine ⟨_, rfl, _, rfl, _, rfl, by show 3 ≤ sizeLine; exact le_of_small (m := 3) (Nat.le_refl _), fun T1 hT1 => ?_⟩
            have s8 : Same H7 (upd H7 T1 (.tup [vi e.2.1, vi e.2.2.1, vi e.2.2.2])) := same_new hT1
            have tt1 : TupT (upd H7 T1 (.tup [vi e.2.1, vi e.2.2.1, vi e.2.2.2])) T1 e.2 := upd_same
            have fb8 := fb7.same s8
            refine ⟨_, rfl, sd, _, rfl, .inr ⟨ents ts tru, kT e.2, T1, .inl fb8.std, rfl, tt1.key, rfl⟩, _, rfl, ?_⟩
            rw [val_ents]
            by_cases hin : e.2 ∈ ts
            · rw [if_pos hin]
              refine hN2 _ _ ⟨_, _, _, _, ts, st, rfl, fb8, ht7, cl7, hM7, fun e' he' => ?_, s8 _ _ hq7, paired_map hp7 fun _ _ q => s8 _ _ q⟩
              rw [take_get he] at he'
              rcases List.mem_append.mp he' with q | q
              · exact hd7 e' q
              · rw [List.mem_singleton.mp q]; exact hin
            · rw [if_neg hin]
              generalize upd H7 T1 (.tup [vi e.2.1, vi e.2.2.1, vi e.2.2.2]) = H8 at s8 fb8 tt1
              -- seen[..] = True
              refine ⟨_, rfl, _, rfl, _, rfl, _, rfl, by show 3 ≤ sizeLine; exact le_of_small (m := 3) (Nat.le_refl _), fun T2 hT2 => ?_⟩
              have s9 : Same H8 (upd H8 T2 (.tup [vi e.2.1, vi e.2.2.1, vi e.2.2.2])) := same_new hT2
              have tt2 : TupT (upd H8 T2 (.tup [vi e.2.1, vi e.2.2.1, vi e.2.2.2])) T2 e.2 := upd_same
              have fb9 := fb8.same s9
              generalize upd H8 T2 (.tup [vi e.2.1, vi e.2.2.1, vi e.2.2.2]) = H9 at s9 fb9 tt2
              have l9 := few fb9
              refine ⟨sd, _, rfl, .inr ⟨ents ts tru, kT e.2, T2, fb9.std, rfl, tt2.key, by rw [ents_len]; exact small_of (m := 468) l9, rfl⟩, ?_⟩
              rw [put_ents, upd_tru]
              have ea : addT ts e.2 = ts ++ [e.2] := by unfold addT; rw [if_neg hin]
              rw [ea]
              have fb10 := fb9.put nsd hin hR ne
              have n9 : ∀ b o, H9 b = some o → (∀ kvs, o ≠ .dT kvs) → (upd H9 sd (.dT (ents (ts ++ [e.2]) tru))) b = some o := fun b o hb h => by rw [upd_ne (ne_of hb fb9.std (h _))]; exact hb
              have q10 := n9 _ _ (s9 _ _ (s8 _ _ hq7)) (fun _ z => nomatch z)
              have p10 := paired_map hp7 fun b r q => n9 _ _ (s9 _ _ (s8 _ _ q)) (fun _ z => nomatch z)
              generalize upd H9 sd (.dT (ents (ts ++ [e.2]) tru)) = H10 at fb10 q10 p10
              have l10 := few fb10
              rw [List.length_append, List.length_singleton] at l10
              -- states.append(..)
              obtain ⟨as10, hs10, hp10⟩ := fb10.sta
              refine ⟨_, rfl, .inl ⟨rfl, _, SqL.of hs10⟩, _, rfl, _, rfl, _, rfl, by show 3 ≤ sizeLine; exact le_of_small (m := 3) (Nat.le_refl _), fun T3' hT3 => ?_⟩
              have s11 : Same H10 (upd H10 T3' (.tup [vi e.2.1, vi e.2.2.1, vi e.2.2.2])) := same_new hT3
              have tt3 : TupT (upd H10 T3' (.tup [vi e.2.1, vi e.2.2.1, vi e.2.2.2])) T3' e.2 := upd_same
              have fb11 := fb10.same s11
              have hs11 := s11 _ _ hs10
              have hp11 := paired_map hp10 fun b z (q : TupT H10 b z) => (s11 _ _ q : TupT _ b z)
              generalize upd H10 T3' (.tup [vi e.2.1, vi e.2.2.1, vi e.2.2.2]) = H11 at s11 tt3 fb11 hs11 hp11
              have lst : st.length ≤ 2 * 468 + M := by omega
              have lM : M ≤ 10000 := hMM
              refine ⟨sa, _, _, rfl, rfl, hs11, small_of (m := 20000) (by rw [List.length_map, Paired.length hp11]; omega), ?_⟩
              have fb12 := fb11.app nsa hs11 hp11 (List.mem_append_right _ (List.mem_singleton.mpr rfl)) tt3
              have n11 : ∀ b o, H11 b = some o → b ≠ sa → (upd H11 sa (.lst (as10.map V.ref ++ [.ref T3']))) b = some o := fun b o hb h => by rw [upd_ne h]; exact hb
              refine hN2 _ _ ⟨_, _, _, _, ts ++ [e.2], st ++ [e.2], rfl, fb12, List.mem_append_left _ ht7, fun t ht hn => ?_, ?_, fun e' he' => ?_, n11 _ _ (s11 _ _ q10) nql.1.symm, paired_map p10 fun b r q => n11 _ _ (s11 _ _ q) (ne_of (s11 _ _ q) hs11 (fun z => nomatch z))⟩
              · have hn1 : t ∉ st := fun z => hn (List.mem_append_left _ z)
                rcases List.mem_append.mp ht with q | q
                · rcases cl7 t q hn1 with z | z
                  · exact .inl z
                  · exact .inr fun u su => List.mem_append_left _ (z u su)
                · exact absurd (List.mem_append_right _ q) hn
              · rw [List.length_append, List.length_append, List.length_singleton]
                omega
              · rw [take_get he] at he'
                rcases List.mem_append.mp he' with q | q
                · exact List.mem_append_left _ (hd7 e' q)
                · rw [List.mem_singleton.mp q]; exact List.mem_append_right _ (List.mem_singleton.mpr rfl)
        · rintro σ H7 ⟨v9, v10, v11, v12, ts, st, rfl, fb7, ht7, cl7, hM7, hd7, hq7, hp7⟩
          rw [List.length_map, el6, take_all rfl] at hd7
          refine hN _ _ _ hM7 ⟨_, _, _, _, _, _, _, ts, st, rfl, fb7, fun t ht hn u su => ?_, rfl, ?_⟩
          rcases cl7 t ht hn with z | z
          · rw [z] at su
            obtain ⟨w', hw⟩ := hce u su
            exact hd7 (w', u) hw
          · exact z u su
          omega
      · -- the stack is empty: nothing melts
        have e0 : st = [] := List.length_eq_zero_iff.mp (by omega)
        subst e0
        have nm : ¬ Melt c pat x y := not_melt (fun t => t ∈ ts) fb.st0 (fun t ht u su => cl t ht List.not_mem_nil u su) fun t ht => (fb.re t ht).2
        obtain ⟨fo, E', hCA, _⟩ := id hC
        obtain ⟨dx, ro, ha, hro⟩ := hCA.ins
        have hsd4 := fb.std
        have sm4 := fb.sm
        -- words = list(range(cast.size))
        refine ⟨_, rfl, a, CC, dx, _, _, rfl, sm4 _ _ ha, Cc.cl, Cc.nSize, rfl, (c.n : Int), rfl, rg_ok n6, fun wl hwl => ?_⟩
        rw [rg_vn]
        have s5 : Same H4 (upd H4 wl (.lst (vn (List.range c.n)))) := same_new hwl
        have w5 : (upd H4 wl (.lst (vn (List.range c.n)))) wl = some (.lst (vn (List.range c.n))) := upd_same
        generalize upd H4 wl (.lst (vn (List.range c.n))) = H5 at s5 w5
        -- book = [..]
        refine ⟨_, rfl, strOf pat, rfl, by rw [str_len]; exact le_of_small (m := 12) hlen, _, _, rfl, rfl, _, rfl, by rw [str_len]; omega, by rw [str_len]; omega, fun D hD => ?_⟩
        have en : (((strOf pat).length : Int) + 1).toNat = pat.length + 1 := by rw [str_len]; omega
        rw [en]
        have lb0 : ∃ as : List Addr, LB H5 D (upd H5 D (.lst [])) (as.map V.ref) ∧ as.length ≤ 0 * 36 ∧ ∀ q ∈ as, ∃ t, TupT (upd H5 D (.lst [])) q t := ⟨[], LB.start hD, Nat.zero_le _, fun q hq => nomatch hq⟩
        refine blk_w (walk_r0 (n := pat.length + 1)) (fun i H' => ∃ as : List Addr, LB H5 D H' (as.map V.ref) ∧ as.length ≤ i * 36 ∧ ∀ q ∈ as, ∃ t, TupT H' q t) lb0 (fun _ _ _ _ => trivial) ?_ ?_
        · rintro i z Ha Hb hi ⟨as, L, hla, hqa⟩ ⟨rfl, rfl⟩ N3 hN3
          refine ⟨rfl, ?_⟩
          refine ⟨_, rfl, wl, rfl, ⟨_, SqL.of (L.sm _ _ w5)⟩, blk_w walk_list (fun j H' => ∃ as : List Addr, LB H5 D H' (as.map V.ref) ∧ as.length ≤ i * 36 + j * 6 ∧ ∀ q ∈ as, ∃ t, TupT H' q t) ⟨as, L, hla, hqa⟩ (fun j H' _ ⟨_, L, _⟩ => SqL.of (L.sm _ _ w5)) ?_ ?_⟩
          · rintro j z Hc Hd hj ⟨as, L, hla, hqa⟩ ⟨rfl, hz⟩ N4 hN4
            obtain ⟨lo, hlo, rfl⟩ := vn_get hz
            refine ⟨rfl, ?_⟩
            refine ⟨_, rfl, wl, rfl, ⟨_, SqL.of (L.sm _ _ w5)⟩, blk_w walk_list (fun k H' => ∃ as : List Addr, LB H5 D H' (as.map V.ref) ∧ as.length ≤ i * 36 + j * 6 + k ∧ ∀ q ∈ as, ∃ t, TupT H' q t) ⟨as, L, hla, hqa⟩ (fun j H' _ ⟨_, L, _⟩ => SqL.of (L.sm _ _ w5)) ?_ ?_⟩
            · rintro k2 z He Hf hk ⟨as, L, hla, hqa⟩ ⟨rfl, hz⟩ N5 hN5
              obtain ⟨hi', hhi, rfl⟩ := vn_get hz
              have hj' := len_get hlo
              have hk' := len_get hhi
              rw [List.length_range] at hj' hk'
              refine ⟨rfl, ?_⟩
              refine ⟨_, rfl, _, rfl, _, rfl, by show 3 ≤ sizeLine; exact le_of_small (m := 3) (Nat.le_refl _), fun T hT => ⟨_, (L.next (same_new hT)).at_, small_of (m := 1000) ?_, hN5 _ ⟨as ++ [T], ?_, ?_, ?_⟩⟩⟩
              · rw [List.length_map]; omega
              · have := (L.next (same_new (o := HO.tup [vi i, vi lo, vi hi']) hT)).snoc (.ref T)
                rw [List.map_append]
                exact this
              · rw [List.length_append, List.length_singleton]; omega
              · intro q hq
                have sT : Same Hf (upd Hf T (.tup [vi i, vi lo, vi hi'])) := same_new hT
                have keep : ∀ b t, TupT (upd Hf T (.tup [vi i, vi lo, vi hi'])) b t → TupT (upd (upd Hf T (.tup [vi i, vi lo, vi hi'])) D (.lst (as.map V.ref ++ [.ref T]))) b t := fun b t q => by
                  have q' : (upd Hf T (.tup [vi i, vi lo, vi hi'])) b = some (.tup [vi t.1, vi t.2.1, vi t.2.2]) := q
                  show (upd _ D _) b = _
                  rw [upd_ne (ne_of q' (sT _ _ L.at_) (fun z => nomatch z))]
                  exact q'
                rcases List.mem_append.mp hq with h | h
                · obtain ⟨t, ht⟩ := hqa q h
                  exact ⟨t, keep q t (sT _ _ ht)⟩
                · rw [List.mem_singleton.mp h]
                  exact ⟨(i, lo, hi'), keep T (i, lo, hi') upd_same⟩
            · rintro He ⟨as, L, hla, hqa⟩
              rw [List.length_map, List.length_range] at hla
              exact hN4 _ ⟨as, L, by omega, hqa⟩
          · rintro Hc ⟨as, L, hla, hqa⟩
            rw [List.length_map, List.length_range] at hla
            exact hN3 _ ⟨as, L, by omega, hqa⟩
        · rintro H6 ⟨as, L, hla, hqa⟩
          have s46 : Same H4 H6 := s5.trans L.sm
          -- [state for state in book if state in seen]
          refine ⟨_, rfl, D, rfl, ⟨_, SqL.of L.at_⟩, fun D2 hD2 => blk_w walk_list (fun i H' => ∃ acc, LB H6 D2 H' acc ∧ acc.length ≤ i) ⟨_, LB.start hD2, Nat.le_refl _⟩ (fun i H' _ ⟨_, L2, _⟩ => SqL.of (L2.sm _ _ L.at_)) ?_ ?_⟩
          · rintro i z Ha Hb hi ⟨acc, L2, hl2⟩ ⟨rfl, hz⟩ N3 hN3
            obtain ⟨q, hq, rfl⟩ := refs_get hz
            obtain ⟨t, ht⟩ := hqa q (List.mem_of_getElem? hq)
            have hq' := len_get hq
            refine ⟨rfl, ?_⟩
            refine ⟨_, rfl, _, rfl, sd, _, rfl, .inr ⟨ents ts tru, kT t, q, .inl (L2.sm _ _ (s46 _ _ hsd4)), rfl, L2.sm _ _ ht, rfl⟩, _, rfl, ?_⟩
            refine iteB (fun _ => ⟨_, rfl, _, L2.at_, small_of (m := 1000) (by omega), hN3 _ ⟨_, L2.snoc _, by rw [List.length_append, List.length_singleton]; omega⟩⟩) fun _ => hN3 _ ⟨_, L2, by omega⟩
          · rintro H7 ⟨acc, L2, _⟩
            exact kn nm D2 H7 (sm4.trans (s46.trans L2.sm))
    · rintro σ H1 Q1 Q2 hq ⟨v, e, p, ys, e1, e2, i, j, e3, e4, b, e5, e6⟩
      exact ⟨v, e, p, ys, e1, e2, i, j, e3, e4, b, e5, hq _ _ e6⟩
end
end Mm

set_option maxHeartbeats 4000000
/-! who stays apart from whom -/
namespace MM
/-- rows made pair by pair: what stands in them behind the pairs below (i, i + 1 + j) -/
structure Inc (A : Nat → Nat → Prop) (n i j : Nat) (g : Nat → List Nat) : Prop where
  mem : ∀ x y, x < n → (y ∈ g x ↔ y < n ∧ A x y ∧ (min x y < i ∨ (min x y = i ∧ max x y < i + 1 + j)))
  len : ∀ x, (g x).length ≤ i * 6 + j
structure SymP (A : Nat → Nat → Prop) : Prop where
  sym : ∀ x y, A x y → A y x
  irr : ∀ x, ¬ A x x
theorem Inc.start {A : Nat → Nat → Prop} {n : Nat} (s : SymP A) : Inc A n 0 0 (fun _ => []) := by
  refine ⟨fun x y hx => ⟨(fun h => nomatch h), fun ⟨hy, ha, h⟩ => ?_⟩, fun _ => Nat.zero_le _⟩
  rcases h with h | h
  · omega
  · have : x ≠ y := fun e => s.irr x (by rw [← e] at ha; exact ha)
    omega
def add1 (g : Nat → List Nat) (lo hi : Nat) : Nat → List Nat := fun x => if x = lo then g lo ++ [hi] else g x
theorem Inc.no {A : Nat → Nat → Prop} {n i j : Nat} {g : Nat → List Nat} (s : SymP A) (h : Inc A n i j g) (na : ¬ A i (i + 1 + j)) : Inc A n i (j + 1) g := by
  refine ⟨fun x y hx => ?_, fun x => Nat.le_succ_of_le (h.len x)⟩
  rw [h.mem x y hx]
  refine ⟨fun ⟨h1, h2, h3⟩ => ⟨h1, h2, by omega⟩, fun ⟨h1, h2, h3⟩ => ⟨h1, h2, ?_⟩⟩
  rcases h3 with h3 | ⟨h3, h4⟩
  · exact .inl h3
  · by_cases e : max x y = i + 1 + j
    · exfalso
      by_cases lt : x < y
      · have e1 : x = i := by omega
        have e2 : y = i + 1 + j := by omega
        rw [e1, e2] at h2
        exact na h2
      · have e1 : y = i := by omega
        have e2 : x = i + 1 + j := by omega
        rw [e1, e2] at h2
        exact na (s.sym _ _ h2)
    · exact .inr ⟨h3, by omega⟩
theorem Inc.yes {A : Nat → Nat → Prop} {n i j : Nat} {g : Nat → List Nat} (s : SymP A) (h : Inc A n i j g) (hj : i + 1 + j < n) (a : A i (i + 1 + j)) : Inc A n i (j + 1) (add1 (add1 g i (i + 1 + j)) (i + 1 + j) i) := by
  have ne : i + 1 + j ≠ i := by omega
  have val : ∀ x, add1 (add1 g i (i + 1 + j)) (i + 1 + j) i x = if x = i + 1 + j then g x ++ [i] else if x = i then g x ++ [i + 1 + j] else g x := by
    intro x
    unfold add1
    by_cases e : x = i + 1 + j
    · rw [if_pos e, if_pos e, if_neg ne, e]
    · rw [if_neg e, if_neg e]
      by_cases e2 : x = i
      · rw [if_pos e2, if_pos e2, e2]
      · rw [if_neg e2, if_neg e2]
  refine ⟨fun x y hx => ?_, fun x => ?_⟩
  · rw [val]
    by_cases e : x = i + 1 + j
    · subst e
      rw [if_pos rfl, List.mem_append, List.mem_singleton, h.mem _ y hx]
      constructor
      · rintro (⟨h1, h2, h3⟩ | h3)
        · exact ⟨h1, h2, by omega⟩
        · subst h3
          exact ⟨by omega, s.sym _ _ a, .inr ⟨by omega, by omega⟩⟩
      · rintro ⟨h1, h2, h3⟩
        by_cases e2 : y = i
        · exact .inr e2
        · refine .inl ⟨h1, h2, ?_⟩
          have : y ≠ i + 1 + j := fun q => s.irr _ (by rw [q] at h2; exact h2)
          omega
    · rw [if_neg e]
      by_cases e2 : x = i
      · subst e2
        rw [if_pos rfl, List.mem_append, List.mem_singleton, h.mem _ y hx]
        constructor
        · rintro (⟨h1, h2, h3⟩ | h3)
          · exact ⟨h1, h2, by omega⟩
          · subst h3
            exact ⟨hj, a, .inr ⟨by omega, by omega⟩⟩
        · rintro ⟨h1, h2, h3⟩
          by_cases e3 : y = x + 1 + j
          · exact .inr e3
          · refine .inl ⟨h1, h2, ?_⟩
            omega
      · rw [if_neg e2, h.mem x y hx]
        refine ⟨fun ⟨h1, h2, h3⟩ => ⟨h1, h2, by omega⟩, fun ⟨h1, h2, h3⟩ => ⟨h1, h2, by omega⟩⟩
  · rw [val]
    have := h.len x
    split
    · rw [List.length_append, List.length_singleton]; omega
    · split
      · rw [List.length_append, List.length_singleton]; omega
      · omega
theorem Inc.next {A : Nat → Nat → Prop} {n i j : Nat} {g : Nat → List Nat} (s : SymP A) (h : Inc A n i j g) (hj : n ≤ i + 1 + j) (h6 : j ≤ 6) : Inc A n (i + 1) 0 g := by
  refine ⟨fun x y hx => ?_, fun x => by have := h.len x; omega⟩
  rw [h.mem x y hx]
  refine ⟨fun ⟨h1, h2, h3⟩ => ⟨h1, h2, by omega⟩, fun ⟨h1, h2, h3⟩ => ⟨h1, h2, ?_⟩⟩
  have : x ≠ y := fun e => s.irr x (by rw [← e] at h2; exact h2)
  omega
theorem Inc.fin {A : Nat → Nat → Prop} {n : Nat} {g : Nat → List Nat} (h : Inc A n n 0 g) {x y : Nat} (hx : x < n) : y ∈ g x ↔ y < n ∧ A x y := by
  rw [h.mem x y hx]
  exact ⟨fun ⟨h1, h2, _⟩ => ⟨h1, h2⟩, fun ⟨h1, h2⟩ => ⟨h1, h2, .inl (by omega)⟩⟩
theorem apart_sym (c : CM) (pat : List Nat) : SymP (Apart c pat) := ⟨fun _ _ h => h.comm, fun _ h => h.1 rfl⟩
end MM
namespace Mm
open PySem PySem.Spec L2 MM
open PyProof.Rows hiding St
theorem paired_of_get {α β : Type} {F : α → β → Prop} : ∀ {l : List α} {m : List β}, l.length = m.length → (∀ (i : Nat) (a : α) (b : β), l[i]? = some a → m[i]? = some b → F a b) → Paired F l m
  | [], [], _, _ => .nil
  | [], _ :: _, h, _ => by simp at h
  | _ :: _, [], h, _ => by simp at h
  | a :: l, b :: m, h, f => .cons (f 0 a b rfl rfl) (paired_of_get (by simpa using h) fun i x y hx hy => f (i + 1) x y (by simpa using hx) (by simpa using hy))
theorem ixN_n {n j : Nat} (h : j < n) : ixN n (j : Int) = some j := by
  unfold ixN
  rw [if_pos (by omega), if_pos (by omega), Int.toNat_natCast]
/-- a list of n rows -/
def RW (H : Hp) (R n : Nat) (g : Nat → List Nat) : Prop := ∃ as : List Addr, H R = some (.lst (as.map V.ref)) ∧ R ∉ as ∧ as.length = n ∧ ∀ (i : Nat) (p : Addr), as[i]? = some p → H p = some (.lst (vn (g i)))
theorem RW.same {H H' : Hp} {R n : Nat} {g : Nat → List Nat} (h : RW H R n g) (s : Same H H') : RW H' R n g := by
  obtain ⟨as, h1, h2, h3, h4⟩ := h
  exact ⟨as, s _ _ h1, h2, h3, fun i p hp => s _ _ (h4 i p hp)⟩
theorem row_add {K : PySem.W.Frag} {H0 H : Hp} {R n lo hi iR il ih : Nat} {g : Nat → List Nat} {σ : St} {D : Ends} (s0 : Same H0 H) (nR : H0 R = none) (hW : RW H R n g) (hlo : lo < n) (hl : (g lo).length ≤ 1000)
    (eR : σ[iR]? = some (some (.ref R))) (el : σ[il]? = some (some (vi lo))) (eh : σ[ih]? = some (some (vi hi))) (k : ∀ H', Same H0 H' → RW H' R n (add1 g lo hi) → D.nx σ H') :
    tAsg (tOp rCat (tOp (rIxL K) (tVar iR) (tVar il)) (tLst (tCons (tVar ih) tNil))) (gSub (tVar iR) (tVar il) rSetL) D σ H := by
  obtain ⟨as, h1, h2, h3, h4⟩ := hW
  have hp : as[lo]? = some (as[lo]'(by omega)) := by simp [h3, hlo]
  have hg := h4 lo _ hp
  generalize as[lo]'(by omega) = p at hp hg
  refine ⟨_, eR, _, el, R, _, (lo : Int), .ref p, rfl, rfl, SqL.of h1, atI_nat (by rw [List.getElem?_map, hp]; rfl), _, eh, by show 1 ≤ sizeLine; exact le_of_small (m := 1) (Nat.le_refl _), fun l1 hl1 => ?_⟩
  have s1 : Same H (upd H l1 (.lst [vi hi])) := same_new hl1
  refine ⟨p, l1, vn (g lo), [vi hi], rfl, rfl, s1 _ _ hg, upd_same, le_of_small (m := 2000) (by rw [List.length_map, List.length_singleton]; omega), fun l2 hl2 => ?_⟩
  have s2 : Same H (upd (upd H l1 (.lst [vi hi])) l2 (.lst (vn (g lo) ++ [vi hi]))) := s1.trans (same_new hl2)
  have hl2' : (upd (upd H l1 (.lst [vi hi])) l2 (.lst (vn (g lo) ++ [vi hi]))) l2 = some (.lst (vn (g lo ++ [hi]))) := by rw [upd_same, vn_app]; rfl
  have nR2 : R ≠ l2 := ne_of_none (s1 _ _ h1) hl2
  generalize upd (upd H l1 (.lst [vi hi])) l2 (.lst (vn (g lo) ++ [vi hi])) = H2 at s2 hl2'
  refine ⟨_, eR, _, el, R, as.map V.ref, (lo : Int), lo, rfl, rfl, s2 _ _ h1, by rw [List.length_map, h3]; exact ixN_n hlo, ?_⟩
  refine k _ (same_upd (s0.trans s2) nR) ⟨as.set lo l2, ?_, ?_, by rw [List.length_set]; exact h3, fun i q hq => ?_⟩
  · rw [upd_same, List.map_set]
  · intro hm
    rcases List.mem_or_eq_of_mem_set hm with h | h
    · exact h2 h
    · exact nR2 h
  · rw [List.getElem?_set] at hq
    unfold add1
    by_cases e : lo = i
    · rw [if_pos e, if_pos (by omega)] at hq
      rw [if_pos e.symm, ← Option.some.inj hq, upd_ne nR2.symm]
      exact hl2'
    · rw [if_neg e] at hq
      rw [if_neg (fun z => e z.symm), upd_ne (fun z => h2 (by rw [← z]; exact List.mem_of_getElem? hq))]
      exact s2 _ _ (h4 i q hq)
section
variable {P : Program} {w : World} {K : PySem.W.Frag} {mg : Str → Option Value} {base : Heap} {CC CT CP : Addr}
abbrev s_apart_words : Stmt := (top 44)
abbrev N_apart_words : List Str := ["cast", "pattern", "word", "rows", "low", "high"]
theorem sc_apart_words : FnScope N_apart_words ["cast", "pattern"] (defScope s_apart_words) := ⟨rfl, rfl, rfl, by decide +kernel, rfl, by decide +kernel, by decide +kernel⟩
/-- the masks say who stays apart -/
def ApMs (c : CM) (pat : List Nat) (ms : List Nat) : Prop := ms.length = c.n ∧ ∀ x, x < c.n → ∃ m, ms[x]? = some m ∧ m < 2 ^ c.n ∧ ∀ y, m.testBit y = true ↔ y < c.n ∧ Apart c pat x y
def sp_apart_words (CC CT : Addr) : Sp := fun vs H Q _ => ∃ (a : Addr) (c : CM) (pat : List Nat), vs = [.ref a, .str (strOf pat)] ∧ CastIs CC CT H a c ∧ c.Ok ∧ PatOk c pat ∧ ∀ t ms H', Same H H' → TabAt CT H' t ms → ApMs c pat ms → Q (.ref t) H'
theorem g_apart_words (F : Fn K mg "apart_words" s_apart_words) (Cc : CastC K mg CC) (Tc : TabC K mg CT) (B : Blt mg) (G_check_pattern : G P w K mg base 2 "check_pattern" ["cast", "pattern"] (sp_check_pattern CC CT))
    (G_find_book : G P w K mg base 6 "find_book" ["cast", "pattern", "first", "second"] (sp_find_book CC CT)) (G_Table_init : GI P w K mg base 3 CT ["self", "rows"] (sp_Table_init K CT)) : G P w K mg base 7 "apart_words" ["cast", "pattern"] (sp_apart_words CC CT) := by
  refine g_of F sc_apart_words (fun _ _ _ _ _ _ us hl => match us, hl with | [_, _], _ => rfl) (fun vs H Q E h => ?_) (fun f cdv A outer s H vs Q E hr h => ?_)
  · obtain ⟨a, c, pat, rfl, _⟩ := h
    rfl
  · obtain ⟨a, c, pat, rfl, hC, ok, hp, k⟩ := h
    obtain ⟨fo, E', hCA, _⟩ := id hC
    obtain ⟨dx, ro, ha, hro⟩ := hCA.ins
    have n1 := ok.n1
    have n6 := ok.n6
    have sy := apart_sym c pat
    refine ⟨_, (pss_cons (ps_expr (pe_g G_check_pattern (hr.mono (by decide)) (by rfl) (pa_cons (pv 0) (pa_cons (pv 1) pa_nil))))
      (pss_cons (ps_setLc (i := 3) (own := [("word", 2)]) rfl sc_apart_words.nd rfl rfl (sw_true rfl rfl rfl (by decide +kernel)) (pi_range1 rfl B.b_range (pa_cons (pe_fldK (K := K) rfl (pv 0) rfl) pa_nil)) (blkOk_by (N := N_apart_words) (sc := defScope s_apart_words) (by decide +kernel)) (fun _ _ _ _ _ => (pg_name (i := 2) sc_apart_words.nd rfl (Or.inl rfl))) (fun _ _ _ _ _ => pts_nil) (fun _ _ _ _ _ => (pe_lst pa_nil)))
      (pss_cons (ps_for PassesOwn.never rfl (pi_range1 rfl B.b_range (pa_cons (pe_fldK (K := K) rfl (pv 0) rfl) pa_nil)) (pg_name (i := 4) sc_apart_words.nd rfl (Or.inl rfl)) (pss_one (ps_for PassesOwn.never rfl (pi_range2 rfl B.b_range (pa_cons (pe_op op_add (pv 4) pe_int) (pa_cons (pe_fldK (K := K) rfl (pv 0) rfl) pa_nil))) (pg_name (i := 5) sc_apart_words.nd rfl (Or.inl rfl)) (pss_one (ps_if (pt_cmpR op_notN (pe_g G_find_book (hr.mono (by decide)) (by rfl) (pa_cons (pv 0) (pa_cons (pv 1) (pa_cons (pv 4) (pa_cons (pv 5) pa_nil))))) pe_non (nomark _)) (pss_cons (ps_asg (pe_op op_cat (pe_ix (ix_listK (K := K) rfl) (pv 3) (pv 4) (fun _ _ => rfl)) (pe_lst (pa_cons (pv 5) pa_nil))) (pg_sub (pv 3) (pv 4) set_list))
      (pss_one (ps_asg (pe_op op_cat (pe_ix (ix_listK (K := K) rfl) (pv 3) (pv 5) (fun _ _ => rfl)) (pe_lst (pa_cons (pv 4) pa_nil))) (pg_sub (pv 3) (pv 5) set_list)))) pss_nil)))))
      (pss_one (ps_ret (pe_makeG G_Table_init (hr.mono (by decide)) (by rfl) Tc.mgC (pa_cons (pv 3) pa_nil))))))), ?_⟩
    refine ⟨_, rfl, _, rfl, a, c, pat, rfl, hC, hp, fun H1 s1 => ?_⟩
    -- rows = [[] for word in range(cast.size)]
    refine ⟨_, rfl, a, CC, dx, _, _, rfl, s1 _ _ ha, Cc.cl, Cc.nSize, rfl, _, rfl, by omega, by omega, fun R hR => blk_w (walk_r0 (n := c.n)) (fun i H' => ∃ as : List Addr, LB H1 R H' (as.map V.ref) ∧ R ∉ as ∧ as.length = i ∧ ∀ q ∈ as, H' q = some (.lst [])) ⟨[], LB.start hR, List.not_mem_nil, rfl, fun q hq => nomatch hq⟩ (fun _ _ _ _ => trivial) ?_ ?_⟩
    · rintro i z Ha Hb hi ⟨as, L, nR, hla, hqa⟩ ⟨rfl, rfl⟩ N hN
      refine ⟨rfl, ?_⟩
      refine ⟨by show 0 ≤ sizeLine; exact Nat.zero_le _, fun l hl => ⟨_, (L.next (same_new hl)).at_, small_of (m := 1000) (by rw [List.length_map]; omega), hN _ ⟨as ++ [l], ?_, ?_, by rw [List.length_append, List.length_singleton, hla], fun q hq => ?_⟩⟩⟩
      · have := (L.next (same_new (o := HO.lst []) hl)).snoc (.ref l)
        rw [List.map_append]
        exact this
      · have : R ≠ l := ne_of_none L.at_ hl
        simp only [List.mem_append, List.mem_singleton, not_or]
        exact ⟨nR, this⟩
      · have nRl : R ≠ l := ne_of_none L.at_ hl
        rcases List.mem_append.mp hq with h | h
        · rw [upd_ne (fun e : q = R => nR (e ▸ h))]
          exact same_new hl _ _ (hqa q h)
        · rw [List.mem_singleton.mp h, upd_ne nRl.symm, upd_same]
    · rintro H2 ⟨as, L, nR, hla, hqa⟩
      have s2 : Same H H2 := s1.trans L.sm
      have nR0 : H R = none := s1.free hR
      have w2 : RW H2 R c.n (fun _ => []) := ⟨as, L.at_, nR, hla, fun i p hp => hqa p (List.mem_of_getElem? hp)⟩
      refine ⟨_, rfl, a, CC, dx, _, _, rfl, s2 _ _ ha, Cc.cl, Cc.nSize, rfl, _, rfl, by omega, by omega, ?_⟩
      refine for_w (walk_r0 (n := c.n)) (fun i σ H' => ∃ v2 v4 v5 g, σ = [some (.ref a), some (.str (strOf pat)), v2, some (.ref R), v4, v5] ∧ Same H H' ∧ RW H' R c.n g ∧ Inc (Apart c pat) c.n i 0 g)
        ⟨_, _, _, _, rfl, s2, w2, Inc.start sy⟩ (fun _ _ _ _ _ => trivial) ?_ ?_
      · rintro i z σ Ha Hb hi ⟨v2, v4, v5, g, rfl, s3, w3, i3⟩ ⟨rfl, rfl⟩ N hN
        refine ⟨_, rfl, _, _, rfl, rfl, _, rfl, a, CC, dx, _, _, rfl, s3 _ _ ha, Cc.cl, Cc.nSize, rfl, _, _, rfl, ⟨by omega, by omega, by omega, by omega⟩, ?_⟩
        have en : ((c.n : Int) - ((i : Int) + 1)).toNat = c.n - (i + 1) := by omega
        rw [en]
        refine for_range_w (lo := (i : Int) + 1) (n := c.n - (i + 1)) (fun j σ H' => ∃ v2 v5 g, σ = [some (.ref a), some (.str (strOf pat)), v2, some (.ref R), some (vi i), v5] ∧ Same H H' ∧ RW H' R c.n g ∧ Inc (Apart c pat) c.n i j g)
          ⟨_, _, _, rfl, s3, w3, i3⟩ ?_ ?_
        · rintro j σ H4 hj ⟨v2, v5, g, rfl, s4, w4, i4⟩ N2 hN2
          have hh : i + 1 + j < c.n := by omega
          have l4 : ∀ x, (g x).length ≤ 1000 := fun x => Nat.le_trans (i4.len x) (by omega)
          have eap := apart_lt (c := c) (pat := pat) (show i < i + 1 + j by omega)
          refine ⟨_, rfl, _, rfl, _, rfl, _, rfl, a, c, pat, i, i + 1 + j, rfl, hC.same s4, ok, hp, by omega, hh, fun m H5 s5 => ⟨rfl, _, rfl, ?_⟩, fun nm r H5 s5 => ⟨rfl, _, rfl, ?_⟩⟩
          · rw [decide_eq_true rfl]
            exact hN2 _ _ ⟨_, _, g, rfl, s4.trans s5, w4.same s5, i4.no sy fun q => eap.mp q m⟩
          · rw [decide_eq_false (fun z => nomatch z)]
            refine row_add (K := K) (lo := i) (hi := i + 1 + j) (s4.trans s5) nR0 (w4.same s5) hi (l4 i) rfl rfl rfl fun H6 s6 w6 => ?_
            refine row_add (K := K) (lo := i + 1 + j) (hi := i) s6 nR0 w6 hh ?_ rfl rfl rfl fun H7 s7 w7 => ?_
            · unfold add1
              rw [if_neg (by omega)]
              exact l4 _
            · exact hN2 _ _ ⟨_, _, _, rfl, s7, w7, i4.yes sy hh (eap.mpr nm)⟩
        · rintro σ H4 ⟨v2, v5, g, rfl, s4, w4, i4⟩
          exact hN _ _ ⟨_, _, _, g, rfl, s4, w4, i4.next sy (by omega) (by omega)⟩
      · rintro σ H3 ⟨v2, v4, v5, g, rfl, s3, w3, i3⟩
        obtain ⟨as, h1, h2, h3, h4⟩ := w3
        have hrows : RowsOk ((List.range c.n).map g) := by
          refine ⟨by rw [List.length_map, List.length_range]; exact n1, by rw [List.length_map, List.length_range]; exact n6, fun r hr x hx => ?_⟩
          obtain ⟨y, hy, rfl⟩ := List.mem_map.mp hr
          rw [List.length_map, List.length_range]
          exact ((i3.fin (List.mem_range.mp hy)).mp hx).1
        refine ⟨_, rfl, fun t dt ht hdt nt => ⟨H3, t, dt, R, (List.range c.n).map g, rfl, same_upd (same_new hdt) ht, ht, upd_same, ⟨as, SqL.of h1, ?_⟩, hrows, fun H4 s4 hT => ⟨rfl, ?_⟩⟩⟩
        · refine paired_mapr (paired_of_get (by rw [h3, List.length_range]) fun i p x hp hx => ?_)
          have := h4 i p hp
          have ex : x = i := by
            have hi := len_get hx
            rw [List.length_range] at hi
            rw [List.getElem?_range hi] at hx
            exact (Option.some.inj hx).symm
          rw [ex]
          exact SqL.of this
        · refine k t _ H4 (s3.trans s4) hT ⟨by rw [List.length_map, List.length_map, List.length_range], fun x hx => ⟨maskOf (g x), ?_, ?_, fun y => ?_⟩⟩
          · rw [List.getElem?_map, List.getElem?_map, List.getElem?_range hx]
            rfl
          · exact maskOf_lt fun y hy => ((i3.fin hx).mp hy).1
          · rw [maskOf_bit, decide_eq_true_iff]
            exact i3.fin hx
end
end Mm

set_option maxHeartbeats 4000000
/-! the least row that melts: where nothing melts -/
namespace Mm
open PySem PySem.Spec L2 MM
open PyProof.Rows hiding St
def StrF (f : T3 → V) (L : Nat) : Prop := ∀ t, ∃ z : Str, f t = .str z ∧ z.length ≤ L
theorem StrF.upd {f : T3 → V} {L : Nat} (h : StrF f L) {u : T3} {z : Str} (hz : z.length ≤ L) : StrF (updT f u (.str z)) L := fun t => by
  unfold updT
  split
  · exact ⟨z, rfl, hz⟩
  · exact h t
theorem StrF.mono {f : T3 → V} {L M : Nat} (h : StrF f L) (hl : L ≤ M) : StrF f M := fun t => by
  obtain ⟨z, h1, h2⟩ := h t
  exact ⟨z, h1, Nat.le_trans h2 hl⟩
def tru' : T3 → V := fun _ => .str ""
theorem st_few' {Pd : T3 → Prop} (hsm : ∀ t, Pd t → t.1 ≤ 12 ∧ t.2.1 < 6 ∧ t.2.2 < 6) {ts : List T3} (nd : ts.Nodup) (h : ∀ t ∈ ts, Pd t) : ts.length ≤ 468 :=
  nodup_map_length (fun t : T3 => t.1 * 36 + t.2.1 * 6 + t.2.2) 468 ts nd (fun a ha b hb e => st_code (hsm a (h a ha)) (hsm b (h b hb)) e) fun t ht => by
    have := hsm t (h t ht)
    show t.1 * 36 + t.2.1 * 6 + t.2.2 < 468
    omega
/-- changed at one place only -/
def But (a : Addr) (H H' : Hp) : Prop := ∀ b u, H b = some u → b ≠ a → H' b = some u
theorem But.refl {a : Addr} {H : Hp} : But a H H := fun _ _ h _ => h
theorem But.trans {a : Addr} {H H' H2 : Hp} (h : But a H H') (h' : But a H' H2) : But a H H2 := fun b u e n => h' b u (h b u e n) n
theorem But.of {a : Addr} {H H' : Hp} (h : Same H H') : But a H H' := fun b u e _ => h b u e
theorem But.upd {a : Addr} {H : Hp} {o : HO} : But a H (upd H a o) := fun b u e n => by rw [upd_ne n]; exact e
/-- a dict of states with texts -/
structure DS (H : Hp) (r : Addr) (ts : List T3) (f : T3 → V) (L : Nat) : Prop where
  at_ : H r = some (.dT (ents ts f))
  nd : ts.Nodup
  str : StrF f L
theorem keys_tup {H : Hp} {ts : List T3} {f : T3 → V} {bs : List Addr} (h : IsKeys H (ents ts f) bs) : bs.length = ts.length ∧ ∀ (i : Nat) (b : Addr), bs[i]? = some b → ∃ t, ts[i]? = some t ∧ TupT H b t := by
  have hl := Paired.length h
  rw [ents_len] at hl
  refine ⟨hl.symm, fun i b hb => ?_⟩
  have hi := len_get hb
  have ht : ts[i]? = some (ts[i]'(by omega)) := by simp
  refine ⟨_, ht, ?_⟩
  have he : (ents ts f)[i]? = some (kT (ts[i]'(by omega)), f (ts[i]'(by omega))) := by
    unfold ents
    rw [List.getElem?_map, ht]
    rfl
  obtain ⟨b', hb', q⟩ := paired_get h he
  rw [hb] at hb'
  cases hb'
  exact q
section
variable {P : Program} {w : World} {K : PySem.W.Frag} {mg : Str → Option Value} {base : Heap} {CC CT CP : Addr}
abbrev s_skipped_too : Stmt := (top 40)
abbrev N_skipped_too : List Str := ["cast", "pattern", "layer", "found", "place", "state", "after"]
theorem sc_skipped_too : FnScope N_skipped_too ["cast", "pattern", "layer"] (defScope s_skipped_too) := ⟨rfl, rfl, rfl, by decide +kernel, rfl, by decide +kernel, by decide +kernel⟩
def sp_skip : Sp := fun vs H Q _ => ∃ (cv : V) (la : Addr) (pat : List Nat) (ts : List T3) (f : T3 → V) (L : Nat) (Pd : T3 → Prop), vs = [cv, .str (strOf pat), .ref la] ∧ DS H la ts f L ∧ pat.length ≤ 12 ∧ (∀ t ∈ ts, Pd t) ∧ (∀ p a b, Pd (p, a, b) → pat[p]? = some 42 → Pd (p + 1, a, b)) ∧
  (∀ t, Pd t → t.1 ≤ 12 ∧ t.2.1 < 6 ∧ t.2.2 < 6) ∧ ∀ r H' ts' f', Same H H' → H r = none → DS H' r ts' f' L → (∀ t ∈ ts', Pd t) → Q (.ref r) H'
theorem g_skipped_too (F : Fn K mg "skipped_too" s_skipped_too) (B : Blt mg) : G P w K mg base 1 "skipped_too" ["cast", "pattern", "layer"] sp_skip := by
  refine g_of F sc_skipped_too (fun _ _ _ _ _ _ us hl => match us, hl with | [_, _, _], _ => rfl) (fun vs H Q E h => ?_) (fun f cdv A outer s H vs Q E hr h => ?_)
  · obtain ⟨cv, la, pat, ts, f, L, Pd, rfl, _⟩ := h
    rfl
  · obtain ⟨cv, la, pat, ts, f0, L, Pd, rfl, hla, hlen, hpd, hsk, hsm, k⟩ := h
    have hu := hu_of hr
    have few : ∀ {ts : List T3}, ts.Nodup → (∀ t ∈ ts, Pd t) → ts.length ≤ 468 := fun {ts} nd h => nodup_map_length (fun t : T3 => t.1 * 36 + t.2.1 * 6 + t.2.2) 468 ts nd (fun a ha b hb e => st_code (hsm a (h a ha)) (hsm b (h b hb)) e) fun t ht => by
      have := hsm t (h t ht)
      show t.1 * 36 + t.2.1 * 6 + t.2.2 < 468
      omega
    refine ⟨_, (pss_cons (ps_set (i := 3) sc_skipped_too.nd rfl (Or.inl rfl) (pe_callTy (call_dict_dT hr.units) (by rfl) B.b_dict (by decide +kernel) (pa_cons (pv 2) pa_nil)))
      (pss_cons (ps_for PassesOwn.never rfl (pi_range1 rfl B.b_range (pa_cons (pe_callB call_len_str (by rfl) B.b_len PySem.boot_len (pa_cons (pv 1) pa_nil)) pa_nil)) (pg_name (i := 4) sc_skipped_too.nd rfl (Or.inl rfl)) (pss_one (ps_if (pt_cmpR op_eq (pe_ix ix_str (pv 1) (pv 4) (fun _ _ => rfl)) pe_str (nomark _)) (pss_one (ps_for PassesOwn.never rfl (pi_listK (K := K) rfl (pe_callTy (call_list_dT rfl) (by rfl) B.b_list (by decide +kernel) (pa_cons (pv 3) pa_nil))) (pg_name (i := 5) sc_skipped_too.nd rfl (Or.inl rfl)) (pss_cons (ps_set (i := 6) sc_skipped_too.nd rfl (Or.inl rfl) (pe_tup (pa_cons (pe_op op_add (pv 4) pe_int) (pa_cons (pe_ix (ix_tupK (K := K) rfl) (pv 5) pe_int (fun _ _ => rfl)) (pa_cons (pe_ix (ix_tupK (K := K) rfl) (pv 5) pe_int (fun _ _ => rfl)) pa_nil)))))
      (pss_one (ps_if (PW.pt (pw_and (pt_cmpR op_eq (pe_ix (ix_tupK (K := K) rfl) (pv 5) pe_int (fun _ _ => rfl)) (pv 4) (nomark _)) (pw_and1 (PW.pt (pw_or (pt_cmp (pc_dnotin hu (pv 6) (pv 3))) (pw_or1 (pt_cmpR op_lt_str (pe_dget hu (pv 3) (pv 5) (fun _ _ => rfl)) (pe_dget hu (pv 3) (pv 6) (fun _ _ => rfl)) (nomark _)))))))) (pss_one (ps_dput hu (pv 3) (pv 6) (pe_dget hu (pv 3) (pv 5) (fun _ _ => rfl)) rfl)) pss_nil))))) pss_nil)))
      (pss_one (ps_ret (pv 3))))), ?_⟩
    refine ⟨_, rfl, la, ts, f0, rfl, .inl hla.at_, fun t ht => hsm t (hpd t ht), hla.nd, fun r hr0 => ?_⟩
    have s1 : Same H (upd H r (.dT (ents ts f0))) := same_new hr0
    have d1 : DS (upd H r (.dT (ents ts f0))) r ts f0 L := ⟨upd_same, hla.nd, hla.str⟩
    generalize upd H r (.dT (ents ts f0)) = H1 at s1 d1
    refine ⟨_, rfl, strOf pat, rfl, by rw [str_len]; exact le_of_small (m := 12) hlen, _, rfl, by rw [str_len]; omega, by rw [str_len]; omega, ?_⟩
    have en : (((strOf pat).length : Nat) : Int).toNat = pat.length := by rw [str_len]; omega
    rw [en]
    refine for_w (walk_r0 (n := pat.length)) (fun i σ H' => ∃ v4 v5 v6 ts' f', σ = [some cv, some (.str (strOf pat)), some (.ref la), some (.ref r), v4, v5, v6] ∧ Same H H' ∧ DS H' r ts' f' L ∧ ∀ t ∈ ts', Pd t)
      ⟨_, _, _, ts, f0, rfl, s1, d1, hpd⟩ (fun _ _ _ _ _ => trivial) ?_ ?_
    · rintro i z σ Ha Hb hi ⟨v4, v5, v6, ts1, f1, rfl, s2, d2, hp2⟩ ⟨rfl, rfl⟩ N hN
      obtain ⟨sg, hsg⟩ : ∃ sg, pat[i]? = some sg := ⟨pat[i], by simp [hi]⟩
      refine ⟨_, rfl, _, rfl, strOf pat, (i : Int), sg, rfl, rfl, by rw [str_len]; exact le_of_small (m := 12) hlen, str_atI hsg, rfl, _, rfl, iteS (fun e => ?_) fun ne => ?_⟩
      · have h42 : sg = 42 := eq_star.mp e
        refine ⟨_, rfl, r, ents ts1 f1, rfl, .inl d2.at_, fun l bs hl hk => ?_⟩
        obtain ⟨hbl, hbt⟩ := keys_tup hk
        have s3 : Same Hb (upd Hb l (.lst (bs.map V.ref))) := same_new hl
        have hl3 : (upd Hb l (.lst (bs.map V.ref))) l = some (.lst (bs.map V.ref)) := upd_same
        have nrl : r ≠ l := ne_of_none d2.at_ hl
        have d3 : DS (upd Hb l (.lst (bs.map V.ref))) r ts1 f1 L := ⟨s3 _ _ d2.at_, d2.nd, d2.str⟩
        have hbt3 : ∀ (i : Nat) (b : Addr), bs[i]? = some b → ∃ t, ts1[i]? = some t ∧ TupT (upd Hb l (.lst (bs.map V.ref))) b t := fun i b hb => by
          obtain ⟨t, h1, h2⟩ := hbt i b hb
          exact ⟨t, h1, s3 _ _ h2⟩
        have s03 := s2.trans s3
        generalize upd Hb l (.lst (bs.map V.ref)) = H3 at hl3 d3 hbt3 s03
        refine ⟨l, rfl, ⟨_, SqL.of hl3⟩, for_list_w (K := K) (a := l) (xs := bs.map V.ref) (fun j σ H' => ∃ v5 v6 ts' f', σ = [some cv, some (.str (strOf pat)), some (.ref la), some (.ref r), some (vi i), v5, v6] ∧ Same H H' ∧ H' l = some (.lst (bs.map V.ref)) ∧ DS H' r ts' f' L ∧ (∀ t ∈ ts', Pd t) ∧ (∀ t ∈ ts1, t ∈ ts') ∧
            ∀ (i : Nat) (b : Addr), bs[i]? = some b → ∃ t, ts1[i]? = some t ∧ TupT H' b t)
          ⟨_, _, ts1, f1, rfl, s03, hl3, d3, hp2, fun t ht => ht, hbt3⟩ (fun i σ H' _ ⟨_, _, _, _, _, _, h, _⟩ => SqL.of h) ?_ ?_⟩
        · rintro j z σ H4 hz ⟨v5, v6, ts', f', rfl, s4, hl4, d4, hp4, hs4, hb4⟩ N2 hN2
          obtain ⟨b, hb, rfl⟩ := refs_get hz
          obtain ⟨t, ht1, htt⟩ := hb4 j b hb
          have htm := List.mem_of_getElem? ht1
          have ht' := hs4 t htm
          -- after = (place + 1, state[1], state[2])
          refine ⟨_, rfl, _, _, rfl, rfl, _, rfl, b, _, (1 : Int), _, rfl, rfl, SqT.of htt, rfl, _, rfl, b, _, (2 : Int), _, rfl, rfl, SqT.of htt, rfl, by show 3 ≤ sizeLine; exact le_of_small (m := 3) (Nat.le_refl _), fun T hT => ?_⟩
          have s5 : Same H4 (upd H4 T (.tup [vi (i + 1), vi t.2.1, vi t.2.2])) := same_new hT
          have tt5 : TupT (upd H4 T (.tup [vi (i + 1), vi t.2.1, vi t.2.2])) T (i + 1, t.2.1, t.2.2) := upd_same
          have d5 : DS (upd H4 T (.tup [vi (i + 1), vi t.2.1, vi t.2.2])) r ts' f' L := ⟨s5 _ _ d4.at_, d4.nd, d4.str⟩
          have keep : ∀ σ v5 v6, σ = [some cv, some (.str (strOf pat)), some (.ref la), some (.ref r), some (vi i), v5, v6] → N2 σ (upd H4 T (.tup [vi (i + 1), vi t.2.1, vi t.2.2])) := fun σ v5 v6 e => hN2 _ _ ⟨v5, v6, ts', f', e, s4.trans s5, s5 _ _ hl4, d5, hp4, hs4, fun i b hb => by
            obtain ⟨t, h1, h2⟩ := hb4 i b hb
            exact ⟨t, h1, s5 _ _ h2⟩⟩
          have hb5 : TupT (upd H4 T (.tup [vi (i + 1), vi t.2.1, vi t.2.2])) b t := s5 _ _ htt
          have hall5 : ∀ (i_1 : Nat) (b : Addr), bs[i_1]? = some b → ∃ t', ts1[i_1]? = some t' ∧ TupT (upd H4 T (.tup [vi (i + 1), vi t.2.1, vi t.2.2])) b t' := fun i b hb => by
            obtain ⟨t, h1, h2⟩ := hb4 i b hb
            exact ⟨t, h1, s5 _ _ h2⟩
          have hl5 := s5 _ _ hl4
          have s05 := s4.trans s5
          have dg : DGet (upd H4 T (.tup [vi (i + 1), vi t.2.1, vi t.2.2])) r (.ref b) (some (f' t)) := .inr ⟨ents ts' f', kT t, b, .inl d5.at_, rfl, hb5.key, by rw [val_ents, if_pos ht']⟩
          obtain ⟨z, hz1, hz2⟩ := d5.str t
          have put : t.1 = i → sDPut (tVar 3) (tVar 6) (tDGet (tVar 3) (tVar 5)) ⟨N2, fun _ _ => False, fun _ _ => False, N2⟩ [some cv, some (.str (strOf pat)), some (.ref la), some (.ref r), some (vi i), some (.ref b), some (.ref T)] (upd H4 T (.tup [vi (i + 1), vi t.2.1, vi t.2.2])) := fun ht0 => by
            refine ⟨_, rfl, _, rfl, r, _, rfl, dg, _, rfl, _, rfl, r, _, rfl, .inr ⟨ents ts' f', kT (i + 1, t.2.1, t.2.2), T, d5.at_, rfl, tt5.key, by rw [ents_len]; exact small_of (m := 468) (few d5.nd hp4), rfl⟩, ?_⟩
            rw [put_ents, hz1]
            refine hN2 _ _ ⟨_, _, addT ts' (i + 1, t.2.1, t.2.2), updT f' (i + 1, t.2.1, t.2.2) (.str z), rfl, same_upd s05 hr0, ?_, ⟨upd_same, nd_addT d5.nd, d5.str.upd hz2⟩, fun t' h' => ?_, fun t' h' => mem_addT.mpr (.inl (hs4 t' h')), fun i' b' hb' => ?_⟩
            · rw [upd_ne (ne_of hl5 d5.at_ (fun z => nomatch z))]; exact hl5
            · rcases mem_addT.mp h' with h | h
              · exact hp4 t' h
              · rw [h, ← ht0]
                exact hsk t.1 t.2.1 t.2.2 (hp2 t htm) (by rw [ht0, hsg, h42])
            · obtain ⟨t', h1, h2⟩ := hall5 i' b' hb'
              refine ⟨t', h1, ?_⟩
              have h2' : (upd H4 T (.tup [vi (i + 1), vi t.2.1, vi t.2.2])) b' = some (.tup [vi t'.1, vi t'.2.1, vi t'.2.2]) := h2
              show (upd (upd H4 T (.tup [vi (i + 1), vi t.2.1, vi t.2.2])) r _) b' = _
              rw [upd_ne (ne_of h2' d5.at_ (fun z => nomatch z))]
              exact h2'
          refine ⟨_, rfl, b, _, (0 : Int), _, rfl, rfl, SqT.of hb5, rfl, _, rfl, rfl, _, rfl, iteI (fun c => ?_) fun c => ?_⟩
          · have ht0 : t.1 = i := by omega
            refine ⟨_, rfl, _, rfl, r, _, rfl, .inr ⟨ents ts' f', kT (i + 1, t.2.1, t.2.2), T, .inl d5.at_, rfl, tt5.key, rfl⟩, _, rfl, ?_⟩
            rw [val_ents]
            by_cases hin : (i + 1, t.2.1, t.2.2) ∈ ts'
            · rw [if_pos hin]
              obtain ⟨z2, hz21, hz22⟩ := d5.str (i + 1, t.2.1, t.2.2)
              refine ⟨_, rfl, _, rfl, r, _, rfl, dg, _, rfl, _, rfl, r, _, rfl, .inr ⟨ents ts' f', kT (i + 1, t.2.1, t.2.2), T, .inl d5.at_, rfl, tt5.key, by rw [val_ents, if_pos hin]⟩, z, z2, hz1, hz21, _, rfl, iteB (fun _ => ?_) fun _ => ?_⟩
              · exact put ht0
              · exact keep _ _ _ rfl
            · rw [if_neg hin]
              exact put ht0
          · exact keep _ _ _ rfl
        · rintro σ H4 ⟨v5, v6, ts', f', rfl, s4, hl4, d4, hp4, hs4, hb4⟩
          exact hN _ _ ⟨_, _, _, ts', f', rfl, s4, d4, hp4⟩
      · exact hN _ _ ⟨_, _, _, ts1, f1, rfl, s2, d2, hp2⟩
    · rintro σ H2 ⟨v4, v5, v6, ts', f', rfl, s2, d2, hp2⟩
      exact ⟨_, rfl, k r H2 ts' f' s2 hr0 d2 hp2⟩
end
end Mm

set_option maxHeartbeats 4000000
/-! the next layer; the least row that melts, where nothing melts -/
namespace Mm
open PySem PySem.Spec L2 MM
open PyProof.Rows hiding St
theorem unlock_same {H H' : Hp} {d : Addr} {od : Obj} {u : HO} (h : H d = some u) (s : Same (upd H d (.frz od u)) H') : Same H (upd H' d u) := by
  intro b w e
  by_cases hb : b = d
  · subst hb
    rw [h] at e
    rw [upd_same]
    exact e
  · rw [upd_ne hb]
    exact s b w (by rw [upd_ne hb]; exact e)
theorem SkipsStep {c : CM} {pat : List Nat} {t0 : T3} {p a b : Nat} (h : Reach c pat t0 (p, a, b)) (e : pat[p]? = some 42) : Reach c pat t0 (p + 1, a, b) := h.step (.skip e)
section
variable {P : Program} {w : World} {K : PySem.W.Frag} {mg : Str → Option Value} {base : Heap} {CC CT CP : Addr}
abbrev s_next_layer : Stmt := (top 41)
abbrev N_next_layer : List Str := ["cast", "pattern", "layer", "seen", "found", "state", "letter", "place", "low", "high", "row", "after", "closed"]
theorem sc_next_layer : FnScope N_next_layer ["cast", "pattern", "layer", "seen"] (defScope s_next_layer) := ⟨rfl, rfl, rfl, by decide +kernel, rfl, by decide +kernel, by decide +kernel⟩
def sp_next (CC CT : Addr) : Sp := fun vs H Q _ => ∃ (H0 : Hp) (a la sd : Addr) (c : CM) (pat : List Nat) (t0 : T3) (ts ss : List T3) (f g : T3 → V) (L : Nat), vs = [.ref a, .str (strOf pat), .ref la, .ref sd] ∧ Same H0 H ∧ H0 la = none ∧ H0 sd = none ∧ la ≠ sd ∧ CastIs CC CT H0 a c ∧ c.Ok ∧ PatOk c pat ∧ StOk c pat t0 ∧
  DS H la ts f L ∧ DS H sd ss g L ∧ L ≤ 1000 ∧ (∀ t ∈ ts, Reach c pat t0 t) ∧ ∀ r H' ts' f', Same H H' → H r = none → DS H' r ts' f' (L + 1) → (∀ t ∈ ts', Reach c pat t0 t ∧ t ∉ ss) → Q (.ref r) H'
theorem g_next_layer (F : Fn K mg "next_layer" s_next_layer) (B : Blt mg) (G_steps_from : G P w K mg base 5 "steps_from" ["cast", "pattern", "place", "low", "high"] (sp_steps CC CT)) (G_skipped_too : G P w K mg base 1 "skipped_too" ["cast", "pattern", "layer"] sp_skip) :
    G P w K mg base 6 "next_layer" ["cast", "pattern", "layer", "seen"] (sp_next CC CT) := by
  refine g_of F sc_next_layer (fun _ _ _ _ _ _ us hl => match us, hl with | [_, _, _, _], _ => rfl) (fun vs H Q E h => ?_) (fun f cdv A outer s H vs Q E hr h => ?_)
  · obtain ⟨H0, a, la, sd, c, pat, t0, ts, ss, f, g, L, rfl, _⟩ := h
    rfl
  · obtain ⟨H0, a, la, sd, c, pat, t0, ts, ss, f0, g0, L, rfl, s00, nla, nsd, nls, hC, ok, hp, st0, hla, hsd, hL, hre, k⟩ := h
    have hu := hu_of hr
    have n6 := ok.n6
    have hlen := hp.le
    have sto : ∀ t, Reach c pat t0 t → StOk c pat t := fun t r => r.ok ok hp st0
    have sml : ∀ t, Reach c pat t0 t → t.1 ≤ 12 ∧ t.2.1 < 6 ∧ t.2.2 < 6 := fun t r => by
      have := sto t r
      exact ⟨Nat.le_trans this.pl hlen, by have h1 := this.le; have h2 := this.lt; omega, by have h2 := this.lt; omega⟩
    have few : ∀ {ts : List T3}, ts.Nodup → (∀ t ∈ ts, Reach c pat t0 t) → ts.length ≤ 468 := fun {ts} nd h => st_few' sml nd h
    refine ⟨_, (pss_cons (ps_set (i := 4) sc_next_layer.nd rfl (Or.inl rfl) pe_dnewT)
      (pss_cons (ps_lock (ps_for PassesOwn.never rfl (pi_keys (pv 2)) (pg_name (i := 5) sc_next_layer.nd rfl (Or.inl rfl)) (pss_one (ps_for PassesOwn.never rfl (pi_listK (K := K) rfl (pe_g G_steps_from (hr.mono (by decide)) (by rfl) (pa_cons (pv 0) (pa_cons (pv 1) (pa_cons (pe_ix (ix_tupK (K := K) rfl) (pv 5) pe_int (fun _ _ => rfl)) (pa_cons (pe_ix (ix_tupK (K := K) rfl) (pv 5) pe_int (fun _ _ => rfl)) (pa_cons (pe_ix (ix_tupK (K := K) rfl) (pv 5) pe_int (fun _ _ => rfl)) pa_nil))))))) (pg_tup rfl (pgs_cons (pg_name (i := 6) sc_next_layer.nd rfl (Or.inl rfl)) (pgs_cons (pg_name (i := 7) sc_next_layer.nd rfl (Or.inl rfl)) (pgs_cons (pg_name (i := 8) sc_next_layer.nd rfl (Or.inl rfl)) (pgs_cons (pg_name (i := 9) sc_next_layer.nd rfl (Or.inl rfl)) pgs_nil))))) (pss_cons (ps_set (i := 10) sc_next_layer.nd rfl (Or.inl rfl) (pe_op op_add_str (pe_dget hu (pv 2) (pv 5) (fun _ _ => rfl)) (pv 6)))
      (pss_cons (ps_set (i := 11) sc_next_layer.nd rfl (Or.inl rfl) (pe_tup (pa_cons (pv 7) (pa_cons (pv 8) (pa_cons (pv 9) pa_nil)))))
      (pss_one (ps_if (PW.pt (pw_and (pt_cmpR op_ne (pv 6) pe_str (nomark _)) (pw_and (pt_cmp (pc_dnotin hu (pv 11) (pv 3))) (pw_and1 (PW.pt (pw_or (pt_cmp (pc_dnotin hu (pv 11) (pv 4))) (pw_or1 (pt_cmpR op_lt_str (pv 10) (pe_dget hu (pv 4) (pv 11) (fun _ _ => rfl)) (nomark _))))))))) (pss_one (ps_dput hu (pv 4) (pv 11) (pv 10) rfl)) pss_nil))))))))
      (pss_cons (ps_set (i := 12) sc_next_layer.nd rfl (Or.inr rfl) (pe_g G_skipped_too (hr.mono (by decide)) (by rfl) (pa_cons (pv 0) (pa_cons (pv 1) (pa_cons (pv 4) pa_nil)))))
      (pss_one (ps_ret (pe_lock (pe_dcT (hu0_of hu) (own := [("state", 5)]) rfl sc_next_layer.nd (pi_keys (pv 12)) (blkOk_by (N := N_next_layer) (sc := defScope s_next_layer) (by decide +kernel)) (fun _ _ _ _ _ => (pg_name (i := 5) sc_next_layer.nd rfl (Or.inl rfl))) (fun _ _ _ _ _ => pts_one (pt_cmp (pc_dnotin hu (pv 5) (pv 3)))) (fun _ _ _ _ _ => (pv 5)) (fun _ _ _ _ _ => (pe_dget hu (pv 12) (pv 5) (fun _ _ => rfl)))))))))), ?_⟩
    -- found = {}
    refine fun fd hfd => ?_
    have s1 : Same H (upd H fd (.dT [])) := same_new hfd
    have d1 : DS (upd H fd (.dT [])) fd [] tru' (L + 1) := ⟨upd_same, List.nodup_nil, fun t => ⟨"", rfl, Nat.zero_le _⟩⟩
    have nfa : la ≠ fd := ne_of_none hla.at_ hfd
    have nfs : sd ≠ fd := ne_of_none hsd.at_ hfd
    have nf0 : H fd = none := hfd
    have la1 : (upd H fd (.dT [])) la = some (.dT (ents ts f0)) := s1 _ _ hla.at_
    have sd1 : (upd H fd (.dT [])) sd = some (.dT (ents ss g0)) := s1 _ _ hsd.at_
    generalize upd H fd (.dT []) = H1 at s1 d1 la1 sd1
    have nf00 : H0 fd = none := s00.free hfd
    -- for state in layer
    refine ⟨la, _, la1, trivial, fun od => ?_⟩
    have l0 : Same H0 (upd H1 la (.frz od (.dT (ents ts f0)))) := same_upd (s00.trans s1) nla
    have lla : (upd H1 la (.frz od (.dT (ents ts f0)))) la = some (.frz od (.dT (ents ts f0))) := upd_same
    have lsd : (upd H1 la (.frz od (.dT (ents ts f0)))) sd = some (.dT (ents ss g0)) := by rw [upd_ne nls.symm]; exact sd1
    have lfd : DS (upd H1 la (.frz od (.dT (ents ts f0)))) fd [] tru' (L + 1) := ⟨by rw [upd_ne nfa.symm]; exact d1.at_, d1.nd, d1.str⟩
    have lH : ∀ H' : Hp, But fd (upd H1 la (.frz od (.dT (ents ts f0)))) H' → Same H0 H' := fun H' bu b u e => bu b u (l0 b u e) (ne_of_none e nf00)
    have lU : ∀ H' : Hp, But fd (upd H1 la (.frz od (.dT (ents ts f0)))) H' → Same H (upd H' la (.dT (ents ts f0))) := fun H' bu b u e => by
      by_cases hb : b = la
      · subst hb
        rw [hla.at_] at e
        rw [upd_same]
        exact e
      · rw [upd_ne hb]
        exact bu b u (by rw [upd_ne hb]; exact s1 b u e) (ne_of_none e hfd)
    generalize upd H1 la (.frz od (.dT (ents ts f0))) = HL at l0 lla lsd lfd lH lU
    refine ⟨_, rfl, la, od, rfl, .inr ⟨ents ts f0, lla, ?_⟩⟩
    refine for_w walk_keysT (fun i σ H' => ∃ v5 v6 v7 v8 v9 v10 v11 fts ff, σ = [some (.ref a), some (.str (strOf pat)), some (.ref la), some (.ref sd), some (.ref fd), v5, v6, v7, v8, v9, v10, v11, none] ∧ But fd HL H' ∧ DS H' fd fts ff (L + 1) ∧ ∀ t ∈ fts, Reach c pat t0 t)
      ⟨_, _, _, _, _, _, _, _, _, rfl, But.refl, lfd, fun t ht => nomatch ht⟩ (fun i σ H' _ ⟨_, _, _, _, _, _, _, _, _, _, b, _⟩ => b _ _ lla nfa) ?_ ?_
    · rintro i z σ Ha Hb hi ⟨v5, v6, v7, v8, v9, v10, v11, fts, ff, rfl, bu, dF, hF⟩ ⟨rfl, kk, v, q, hkv, rfl, hq⟩ N hN
      unfold ents at hkv
      rw [List.getElem?_map] at hkv
      obtain ⟨t, ht, ekv⟩ := Option.map_eq_some_iff.mp hkv
      have e1 : kT t = kk := congrArg Prod.fst ekv
      subst e1
      have htt : TupT Hb q t := TupT.of hq
      have hR := hre t (List.mem_of_getElem? ht)
      obtain ⟨z0, hz0, hzl⟩ := hla.str t
      have hqfd : q ≠ fd := ne_of htt.key dF.at_ (fun z => nomatch z)
      -- for .. in steps_from(..)
      refine ⟨_, rfl, _, rfl, _, rfl, q, _, (0 : Int), _, rfl, rfl, SqT.of htt, rfl, _, rfl, q, _, (1 : Int), _, rfl, rfl, SqT.of htt, rfl, _, rfl, q, _, (2 : Int), _, rfl, rfl, SqT.of htt, rfl, a, c, pat, t.1, t.2.1, t.2.2, rfl, hC.same (lH _ bu), ok, hp, sto t hR, fun ql H2 es s2 hql hTq hnes hse hce => ?_⟩
      obtain ⟨as2, hq2, hp2⟩ := hTq
      have nqf : fd ≠ ql := ne_of_none dF.at_ hql
      refine ⟨ql, rfl, ⟨_, SqL.of hq2⟩, for_list_w (K := K) (a := ql) (xs := as2.map V.ref) (fun j σ H' => ∃ v6 v7 v8 v9 v10 v11 fts ff, σ = [some (.ref a), some (.str (strOf pat)), some (.ref la), some (.ref sd), some (.ref fd), some (.ref q), v6, v7, v8, v9, v10, v11, none] ∧ But fd HL H' ∧ DS H' fd fts ff (L + 1) ∧ (∀ t ∈ fts, Reach c pat t0 t) ∧
          H' ql = some (.lst (as2.map V.ref)) ∧ Paired (fun q r => H' q = some (.tup r)) as2 (es.map rowS) ∧ TupT H' q t)
        ⟨_, _, _, _, _, _, fts, ff, rfl, bu.trans (But.of s2), ⟨s2 _ _ dF.at_, dF.nd, dF.str⟩, hF, hq2, hp2, s2 _ _ htt⟩ (fun i σ H' _ ⟨_, _, _, _, _, _, _, _, _, _, _, _, h, _⟩ => SqL.of h) ?_ ?_⟩
      · rintro j z σ H3 hz ⟨v6, v7, v8, v9, v10, v11, fts, ff, rfl, bu3, d3, hF3, hq3, hp3, ht3⟩ N2 hN2
        obtain ⟨qe, hqe, rfl⟩ := refs_get hz
        obtain ⟨rw', hrw, hra⟩ := paired_get hp3 hqe
        rw [List.getElem?_map] at hrw
        obtain ⟨e, he, rfl⟩ := Option.map_eq_some_iff.mp hrw
        obtain ⟨hst, hel⟩ := hse e (List.mem_of_getElem? he)
        have hRe : Reach c pat t0 e.2 := hR.step hst
        refine ⟨qe, _, rfl, SqT.of hra, rfl, _, _, rfl, _, _, rfl, _, _, rfl, _, _, rfl, rfl, ?_⟩
        -- row = layer[state] + letter
        refine ⟨_, rfl, _, rfl, la, _, rfl, .inr ⟨ents ts f0, kT t, q, .inr ⟨od, bu3 _ _ lla nfa⟩, rfl, ht3.key, by rw [val_ents, if_pos (List.mem_of_getElem? ht)]⟩, _, rfl, z0, e.1, hz0, rfl, le_of_small (m := 2000) (by omega), ?_⟩
        -- after = (place, low, high)
        refine ⟨_, rfl, _, rfl, _, rfl, by show 3 ≤ sizeLine; exact le_of_small (m := 3) (Nat.le_refl _), fun T hT => ?_⟩
        have s4 : Same H3 (upd H3 T (.tup [vi e.2.1, vi e.2.2.1, vi e.2.2.2])) := same_new hT
        have tt4 : TupT (upd H3 T (.tup [vi e.2.1, vi e.2.2.1, vi e.2.2.2])) T e.2 := upd_same
        have d4 : DS (upd H3 T (.tup [vi e.2.1, vi e.2.2.1, vi e.2.2.2])) fd fts ff (L + 1) := ⟨s4 _ _ d3.at_, d3.nd, d3.str⟩
        have bu4 : But fd HL (upd H3 T (.tup [vi e.2.1, vi e.2.2.1, vi e.2.2.2])) := bu3.trans (But.of s4)
        have hq4 := s4 _ _ hq3
        have hp4 := paired_map hp3 fun b r (h : H3 b = some (.tup r)) => s4 _ _ h
        have ht4 : TupT (upd H3 T (.tup [vi e.2.1, vi e.2.2.1, vi e.2.2.2])) q t := s4 _ _ ht3
        generalize upd H3 T (.tup [vi e.2.1, vi e.2.2.1, vi e.2.2.2]) = H4 at tt4 d4 bu4 hq4 hp4 ht4
        have hrl : (z0 ++ e.1).length ≤ L + 1 := by
          have : (z0 ++ e.1).length = z0.length + e.1.length := Array.size_append ..
          omega
        refine ⟨_, rfl, rfl, _, rfl, iteSn (fun nl => ?_) fun _ => hN2 _ _ ⟨_, _, _, _, _, _, fts, ff, rfl, bu4, d4, hF3, hq4, hp4, ht4⟩⟩
        refine ⟨_, rfl, _, rfl, sd, _, rfl, .inr ⟨ents ss g0, kT e.2, T, .inl (bu4 _ _ lsd nfs), rfl, tt4.key, rfl⟩, _, rfl, ?_⟩
        rw [val_ents]
        by_cases hss : e.2 ∈ ss
        · rw [if_pos hss]
          exact hN2 _ _ ⟨_, _, _, _, _, _, fts, ff, rfl, bu4, d4, hF3, hq4, hp4, ht4⟩
        rw [if_neg hss]
        have n4 : ∀ b o, H4 b = some o → (∀ kvs, o ≠ .dT kvs) → ∀ u, (upd H4 fd u) b = some o := fun b o hb h u => by rw [upd_ne (ne_of hb d4.at_ (h _))]; exact hb
        have put : sDPut (tVar 4) (tVar 11) (tVar 10) ⟨N2, fun _ _ => False, fun _ _ => False, N2⟩ [some (.ref a), some (.str (strOf pat)), some (.ref la), some (.ref sd), some (.ref fd), some (.ref q), some (.str e.1), some (vi e.2.1), some (vi e.2.2.1), some (vi e.2.2.2), some (.str (z0 ++ e.1)), some (.ref T), none] H4 := by
          refine ⟨_, rfl, _, rfl, _, rfl, fd, _, rfl, .inr ⟨ents fts ff, kT e.2, T, d4.at_, rfl, tt4.key, by rw [ents_len]; exact small_of (m := 468) (few d4.nd hF3), rfl⟩, ?_⟩
          rw [put_ents]
          refine hN2 _ _ ⟨_, _, _, _, _, _, addT fts e.2, updT ff e.2 (.str (z0 ++ e.1)), rfl, bu4.trans But.upd, ⟨upd_same, nd_addT d4.nd, d4.str.upd hrl⟩, fun t' h' => ?_, n4 _ _ hq4 (fun _ z => nomatch z) _, paired_map hp4 fun b r h => n4 _ _ h (fun _ z => nomatch z) _, n4 _ _ ht4.key (fun _ z => nomatch z) _⟩
          rcases mem_addT.mp h' with h | h
          · exact hF3 t' h
          · rw [h]; exact hRe
        refine ⟨_, rfl, _, rfl, fd, _, rfl, .inr ⟨ents fts ff, kT e.2, T, .inl d4.at_, rfl, tt4.key, rfl⟩, _, rfl, ?_⟩
        rw [val_ents]
        by_cases hin : e.2 ∈ fts
        · rw [if_pos hin]
          obtain ⟨z2, hz21, hz22⟩ := d4.str e.2
          refine ⟨_, rfl, _, rfl, _, rfl, fd, _, rfl, .inr ⟨ents fts ff, kT e.2, T, .inl d4.at_, rfl, tt4.key, by rw [val_ents, if_pos hin]⟩, z0 ++ e.1, z2, rfl, hz21, _, rfl, iteB (fun _ => put) fun _ => ?_⟩
          exact hN2 _ _ ⟨_, _, _, _, _, _, fts, ff, rfl, bu4, d4, hF3, hq4, hp4, ht4⟩
        · rw [if_neg hin]
          exact put
      · rintro σ H3 ⟨v6, v7, v8, v9, v10, v11, fts, ff, rfl, bu3, d3, hF3, hq3, hp3, ht3⟩
        exact hN _ _ ⟨_, _, _, _, _, _, _, fts, ff, rfl, bu3, d3, hF3⟩
    · rintro σ H2 ⟨v5, v6, v7, v8, v9, v10, v11, fts, ff, rfl, bu2, d2, hF2⟩
      refine ⟨bu2 _ _ lla nfa, ?_⟩
      have sH3 := lU _ bu2
      have d3 : DS (upd H2 la (.dT (ents ts f0))) fd fts ff (L + 1) := ⟨by rw [upd_ne nfa.symm]; exact d2.at_, d2.nd, d2.str⟩
      generalize upd H2 la (.dT (ents ts f0)) = H3 at sH3 d3
      -- closed = skipped_too(cast, pattern, found)
      refine ⟨_, rfl, _, rfl, _, rfl, .ref a, fd, pat, fts, ff, L + 1, Reach c pat t0, rfl, d3, hlen, hF2, fun p x y h e => SkipsStep h e, sml, fun cl H4 cts cf s4 hcl d4 hF4 => ?_⟩
      have hsd4 := (sH3.trans s4) _ _ hsd.at_
      have ncs : sd ≠ cl := ne_of_none (sH3 _ _ hsd.at_) hcl
      have ncH : H cl = none := sH3.free hcl
      -- the comprehension
      refine ⟨cl, _, d4.at_, trivial, fun od2 => ?_⟩
      have lcl : (upd H4 cl (.frz od2 (.dT (ents cts cf)))) cl = some (.frz od2 (.dT (ents cts cf))) := upd_same
      have lsd2 : (upd H4 cl (.frz od2 (.dT (ents cts cf)))) sd = some (.dT (ents ss g0)) := by rw [upd_ne ncs]; exact hsd4
      have lun : ∀ H', Same (upd H4 cl (.frz od2 (.dT (ents cts cf)))) H' → Same H (upd H' cl (.dT (ents cts cf))) := fun H' s => (sH3.trans s4).trans (unlock_same d4.at_ s)
      generalize upd H4 cl (.frz od2 (.dT (ents cts cf))) = HM at lcl lsd2 lun
      refine ⟨_, rfl, cl, od2, rfl, .inr ⟨ents cts cf, lcl, fun D hD => blk_w walk_keysT (fun i H' => ∃ rts rf, Same HM H' ∧ DS H' D rts rf (L + 1) ∧ ∀ t ∈ rts, Reach c pat t0 t ∧ t ∉ ss) ⟨[], tru', same_new hD, ⟨upd_same, List.nodup_nil, fun t => ⟨"", rfl, Nat.zero_le _⟩⟩, fun t ht => nomatch ht⟩ (fun i H' _ ⟨_, _, s, _⟩ => s _ _ lcl) ?_ ?_⟩⟩
      · rintro i z Ha Hb hi ⟨rts, rf, s5, d5, hF5⟩ ⟨rfl, kk, v, q, hkv, rfl, hq⟩ N hN
        unfold ents at hkv
        rw [List.getElem?_map] at hkv
        obtain ⟨t, ht, ekv⟩ := Option.map_eq_some_iff.mp hkv
        have e1 : kT t = kk := congrArg Prod.fst ekv
        subst e1
        have htm := List.mem_of_getElem? ht
        refine ⟨rfl, ?_⟩
        refine ⟨_, rfl, _, rfl, sd, _, rfl, .inr ⟨ents ss g0, kT t, q, .inl (s5 _ _ lsd2), rfl, hq, rfl⟩, _, rfl, ?_⟩
        rw [val_ents]
        by_cases hss : t ∈ ss
        · rw [if_pos hss]
          exact hN _ ⟨rts, rf, s5, d5, hF5⟩
        · rw [if_neg hss]
          obtain ⟨z, hz1, hz2⟩ := d4.str t
          refine ⟨_, rfl, _, rfl, _, rfl, cl, _, rfl, .inr ⟨ents cts cf, kT t, q, .inr ⟨od2, s5 _ _ lcl⟩, rfl, hq, by rw [val_ents, if_pos htm]⟩, _, kT t, q, rfl, hq, d5.at_, by rw [ents_len]; exact small_of (m := 468) (few d5.nd fun t h => (hF5 t h).1), ?_⟩
          rw [put_ents, hz1]
          refine hN _ ⟨addT rts t, updT rf t (.str z), same_upd s5 hD, ⟨upd_same, nd_addT d5.nd, d5.str.upd hz2⟩, fun t' h' => ?_⟩
          rcases mem_addT.mp h' with h | h
          · exact hF5 t' h
          · rw [h]; exact ⟨hF4 t htm, hss⟩
      · rintro H5 ⟨rts, rf, s5, d5, hF5⟩
        refine ⟨s5 _ _ lcl, ?_⟩
        have nDc : D ≠ cl := (ne_of_none lcl hD).symm
        have hDn : H D = none := by
          cases e : H D with
          | none => rfl
          | some u =>
            have h1 := lun HM (Same.refl HM) D u e
            rw [upd_ne nDc, hD] at h1
            cases h1
        exact k D _ rts rf (lun _ s5) hDn ⟨by rw [upd_ne nDc]; exact d5.at_, d5.nd, d5.str⟩ hF5
end
end Mm

set_option maxHeartbeats 4000000
namespace Mm
open PySem PySem.Spec L2 MM
open PyProof.Rows hiding St
theorem nd_sub_len {α : Type} [DecidableEq α] : ∀ {l r : List α}, l.Nodup → (∀ x ∈ l, x ∈ r) → l.length ≤ r.length
  | [], _, _, _ => Nat.zero_le _
  | a :: l, r, nd, h => by
    rw [List.nodup_cons] at nd
    have ha := h a List.mem_cons_self
    have := nd_sub_len (l := l) (r := r.erase a) nd.2 fun x hx => by
      have ne : x ≠ a := fun e => nd.1 (by rw [← e]; exact hx)
      exact (List.mem_erase_of_ne ne).mpr (h x (List.mem_cons_of_mem _ hx))
    rw [List.length_erase_of_mem ha] at this
    have hp := List.length_pos_of_mem ha
    rw [List.length_cons]
    omega
section
variable {P : Program} {w : World} {K : PySem.W.Frag} {mg : Str → Option Value} {base : Heap} {CC CT CP : Addr}
abbrev s_least_melt : Stmt := (top 42)
abbrev N_least_melt : List Str := ["cast", "pattern", "first", "second", "start", "layer", "seen", "state", "rows", "row"]
theorem sc_least_melt : FnScope N_least_melt ["cast", "pattern", "first", "second"] (defScope s_least_melt) := ⟨rfl, rfl, rfl, by decide +kernel, rfl, by decide +kernel, by decide +kernel⟩
def sp_least (CC CT : Addr) : Sp := fun vs H Q _ => ∃ (a : Addr) (c : CM) (pat : List Nat) (x y : Nat), vs = [.ref a, .str (strOf pat), vi x, vi y] ∧ CastIs CC CT H a c ∧ c.Ok ∧ PatOk c pat ∧ x < y ∧ y < c.n ∧ ¬ Melt c pat x y ∧ ∀ H', Same H H' → Q .non H'
theorem g_least_melt (F : Fn K mg "least_melt" s_least_melt) (B : Blt mg) (G_skipped_too : G P w K mg base 1 "skipped_too" ["cast", "pattern", "layer"] sp_skip) (G_next_layer : G P w K mg base 6 "next_layer" ["cast", "pattern", "layer", "seen"] (sp_next CC CT)) :
    G P w K mg base 7 "least_melt" ["cast", "pattern", "first", "second"] (sp_least CC CT) := by
  refine g_of F sc_least_melt (fun _ _ _ _ _ _ us hl => match us, hl with | [_, _, _, _], _ => rfl) (fun vs H Q E h => ?_) (fun f cdv A outer s H vs Q E hr h => ?_)
  · obtain ⟨a, c, pat, x, y, rfl, _⟩ := h
    rfl
  · obtain ⟨a, c, pat, x, y, rfl, hC, ok, hp, hxy, hy, nm, k⟩ := h
    have hu := hu_of hr
    have n6 := ok.n6
    have hlen := hp.le
    have st0 : StOk c pat (0, x, y) := ⟨Nat.zero_le _, Nat.le_of_lt hxy, hy⟩
    have sto : ∀ t, Reach c pat (0, x, y) t → StOk c pat t := fun t r => r.ok ok hp st0
    have sml : ∀ t, Reach c pat (0, x, y) t → t.1 ≤ 12 ∧ t.2.1 < 6 ∧ t.2.2 < 6 := fun t r => by
      have := sto t r
      exact ⟨Nat.le_trans this.pl hlen, by have h1 := this.le; have h2 := this.lt; omega, by have h2 := this.lt; omega⟩
    have few : ∀ {ts : List T3}, ts.Nodup → (∀ t ∈ ts, Reach c pat (0, x, y) t) → ts.length ≤ 468 := fun {ts} nd h => st_few' sml nd h
    have nemelt : ∀ t, Reach c pat (0, x, y) t → t.2.1 ≠ t.2.2 := fun t r e => nm ⟨t.1, t.2.1, by
      have e3 : t = (t.1, t.2.1, t.2.1) := Prod.ext rfl (Prod.ext rfl e.symm)
      rw [← e3]; exact r⟩
    refine ⟨_, (pss_cons (ps_set (i := 4) sc_least_melt.nd rfl (Or.inl rfl) (pe_tup (pa_cons pe_int (pa_cons (pe_callB (call_min2 rfl) (by rfl) B.b_min (by decide +kernel) (pa_cons (pe_callTy call_int1 (by rfl) B.b_int (by decide +kernel) (pa_cons (pv 2) pa_nil)) (pa_cons (pe_callTy call_int1 (by rfl) B.b_int (by decide +kernel) (pa_cons (pv 3) pa_nil)) pa_nil))) (pa_cons (pe_callB (call_max2 rfl) (by rfl) B.b_max (by decide +kernel) (pa_cons (pe_callTy call_int1 (by rfl) B.b_int (by decide +kernel) (pa_cons (pv 2) pa_nil)) (pa_cons (pe_callTy call_int1 (by rfl) B.b_int (by decide +kernel) (pa_cons (pv 3) pa_nil)) pa_nil))) pa_nil)))))
      (pss_cons (ps_set (i := 5) sc_least_melt.nd rfl (Or.inr rfl) (pe_g G_skipped_too (hr.mono (by decide)) (by rfl) (pa_cons (pv 0) (pa_cons (pv 1) (pa_cons (pe_dispT1 hu (pv 4) pe_str) pa_nil)))))
      (pss_cons (ps_set (i := 6) sc_least_melt.nd rfl (Or.inl rfl) (pe_callTy (call_dict_dT hr.units) (by rfl) B.b_dict (by decide +kernel) (pa_cons (pv 5) pa_nil)))
      (pss_cons (ps_while PassesOwn.never (pt_cmpR op_gt (pe_callB call_len_dT (by rfl) B.b_len PySem.boot_len (pa_cons (pv 5) pa_nil)) pe_int (nomark _)) (pss_cons (ps_lock (ps_setLc (i := 8) (own := [("state", 7)]) rfl sc_least_melt.nd rfl rfl (sw_true rfl rfl rfl (by decide +kernel)) (pi_keys (pv 5)) (blkOk_by (N := N_least_melt) (sc := defScope s_least_melt) (by decide +kernel)) (fun _ _ _ _ _ => (pg_name (i := 7) sc_least_melt.nd rfl (Or.inl rfl))) (fun _ _ _ _ _ => pts_one (PW.pt (pw_and (pt_cmpR op_eq (pe_ix (ix_tupK (K := K) rfl) (pv 7) pe_int (fun _ _ => rfl)) (pe_callB call_len_str (by rfl) B.b_len PySem.boot_len (pa_cons (pv 1) pa_nil)) (nomark _)) (pw_and1 (pt_cmpR op_eq (pe_ix (ix_tupK (K := K) rfl) (pv 7) pe_int (fun _ _ => rfl)) (pe_ix (ix_tupK (K := K) rfl) (pv 7) pe_int (fun _ _ => rfl)) (nomark _)))))) (fun _ _ _ _ _ => pe_never)))
      (pss_cons (ps_if (pt_cmpR op_gt (pe_callB (call_len_seqK (K := K) rfl) (by rfl) B.b_len PySem.boot_len (pa_cons (pv 8) pa_nil)) pe_int (nomark _)) (pss_one (ps_ret pe_never)) pss_nil)
      (pss_cons (ps_set (i := 5) sc_least_melt.nd rfl (Or.inr rfl) (pe_g G_next_layer (hr.mono (by decide)) (by rfl) (pa_cons (pv 0) (pa_cons (pv 1) (pa_cons (pv 5) (pa_cons (pv 6) pa_nil))))))
      (pss_one (ps_lock (ps_for PassesOwn.never rfl (pi_keys (pv 5)) (pg_name (i := 7) sc_least_melt.nd rfl (Or.inl rfl)) (pss_one (ps_dput hu (pv 6) (pv 7) (pe_dget hu (pv 5) (pv 7) (fun _ _ => rfl)) rfl)))))))))
      (pss_one (ps_ret pe_non)))))), ?_⟩
    -- start = (0, min, max)
    refine ⟨_, rfl, .inl ⟨_, rfl, _, rfl, .inl ⟨_, rfl, _, _, rfl, _, rfl, .inl ⟨_, rfl, _, rfl, .inl ⟨_, rfl, _, _, rfl, ?_⟩⟩⟩⟩⟩
    rw [min_vi, max_vi, Nat.min_eq_left (Nat.le_of_lt hxy), Nat.max_eq_right (Nat.le_of_lt hxy)]
    refine ⟨by show 3 ≤ sizeLine; exact le_of_small (m := 3) (Nat.le_refl _), fun T0 hT0 => ?_⟩
    have s1 : Same H (upd H T0 (.tup [.int 0, vi x, vi y])) := same_new hT0
    have t1 : TupT (upd H T0 (.tup [.int 0, vi x, vi y])) T0 (0, x, y) := upd_same
    generalize upd H T0 (.tup [.int 0, vi x, vi y]) = H1 at s1 t1
    -- layer = skipped_too(cast, pattern, {start: ''})
    refine ⟨_, rfl, _, rfl, fun d0 hd0 => ⟨_, rfl, upd_same, kT (0, x, y), T0, rfl, same_new hd0 _ _ t1, ?_⟩⟩
    rw [upd_upd]
    have s2 : Same H1 (upd H1 d0 (.dT [(kT (0, x, y), .str (Str.ofString ""))])) := same_new hd0
    have ds2 : DS (upd H1 d0 (.dT [(kT (0, x, y), .str (Str.ofString ""))])) d0 [(0, x, y)] tru' 0 := ⟨upd_same, by simp, fun t => ⟨"", rfl, Nat.zero_le _⟩⟩
    generalize upd H1 d0 (.dT [(kT (0, x, y), .str (Str.ofString ""))]) = H2 at s2 ds2
    refine ⟨.ref a, d0, pat, [(0, x, y)], tru', 0, Reach c pat (0, x, y), rfl, ds2, hlen, fun t ht => by rw [List.mem_singleton.mp ht]; exact .start, fun p x y h e => SkipsStep h e, sml, fun la H3 lts lf s3 hla3 dl3 hR3 => ?_⟩
    have s03 : Same H H3 := s1.trans (s2.trans s3)
    have nla : H la = none := (s1.trans s2).free hla3
    -- seen = dict(layer)
    refine ⟨_, rfl, la, lts, lf, rfl, .inl dl3.at_, fun t ht => sml t (hR3 t ht), dl3.nd, fun sd hsd => ?_⟩
    have nsd : H sd = none := s03.free hsd
    have nls : la ≠ sd := ne_of_none dl3.at_ hsd
    have s4 : Same H (upd H3 sd (.dT (ents lts lf))) := s03.trans (same_new hsd)
    have dl4 : DS (upd H3 sd (.dT (ents lts lf))) la lts lf 0 := ⟨same_new hsd _ _ dl3.at_, dl3.nd, dl3.str⟩
    have ds4 : DS (upd H3 sd (.dT (ents lts lf))) sd lts lf 0 := ⟨upd_same, dl3.nd, dl3.str⟩
    generalize upd H3 sd (.dT (ents lts lf)) = H4 at s4 dl4 ds4
    refine while_w (fun m σ H' => ∃ v7 v8 v9 la sd lts lf sts sf L, σ = [some (.ref a), some (.str (strOf pat)), some (vi x), some (vi y), some (.ref T0), some (.ref la), some (.ref sd), v7, v8, v9] ∧ Same H H' ∧ H la = none ∧ H sd = none ∧ la ≠ sd ∧ DS H' la lts lf L ∧ DS H' sd sts sf L ∧
        (∀ t ∈ sts, Reach c pat (0, x, y) t) ∧ (∀ t ∈ lts, t ∈ sts) ∧ m = 2 * (468 - sts.length) + (if lts = [] then 0 else 1) ∧ L + m ≤ 1000)
      _ ⟨_, _, _, la, sd, lts, lf, lts, lf, 0, rfl, s4, nla, nsd, nls, dl4, ds4, hR3, fun t ht => ht, rfl, by split <;> omega⟩ ?_ ?_
    · rintro m σ H5 ⟨v7, v8, v9, la, sd, lts, lf, sts, sf, L, rfl, s5, nla, nsd, nls, dl, ds, hRs, hls, hm, hLm⟩ N hN
      refine ⟨_, rfl, la, _, rfl, dl.at_, _, _, rfl, rfl, _, rfl, iteD (fun q => ?_) fun q => ?_⟩ <;> rw [ents_len] at q
      · have hne : lts ≠ [] := fun e => by rw [e] at q; exact absurd q (by decide)
        rw [if_neg hne] at hm
        -- rows = [..]
        refine ⟨la, _, dl.at_, trivial, fun od => ?_⟩
        have lla : (upd H5 la (.frz od (.dT (ents lts lf)))) la = some (.frz od (.dT (ents lts lf))) := upd_same
        have lun : ∀ H', Same (upd H5 la (.frz od (.dT (ents lts lf)))) H' → Same H5 (upd H' la (.dT (ents lts lf))) := fun H' s => unlock_same dl.at_ s
        have nloc : ∀ D, (upd H5 la (.frz od (.dT (ents lts lf)))) D = none → D ≠ la := fun D hD e => by rw [e, lla] at hD; cases hD
        generalize upd H5 la (.frz od (.dT (ents lts lf))) = HL at lla lun nloc
        refine ⟨_, rfl, la, od, rfl, .inr ⟨ents lts lf, lla, fun D hD => blk_w walk_keysT (fun i H' => LB HL D H' []) (LB.start hD) (fun i H' _ Lb => Lb.sm _ _ lla) ?_ ?_⟩⟩
        · rintro i z Ha Hb hi Lb ⟨rfl, kk, v, qa, hkv, rfl, hqa⟩ N3 hN3
          unfold ents at hkv
          rw [List.getElem?_map] at hkv
          obtain ⟨t, ht, ekv⟩ := Option.map_eq_some_iff.mp hkv
          have e1 : kT t = kk := congrArg Prod.fst ekv
          subst e1
          have htt : TupT Hb qa t := TupT.of hqa
          have hRt := hRs t (hls t (List.mem_of_getElem? ht))
          have hne2 := nemelt t hRt
          refine ⟨rfl, ?_⟩
          refine ⟨_, rfl, qa, _, (0 : Int), _, rfl, rfl, SqT.of htt, rfl, _, rfl, strOf pat, rfl, by rw [str_len]; exact le_of_small (m := 12) hlen, rfl, _, rfl, iteI (fun c => ?_) fun c => hN3 _ Lb⟩
          refine ⟨_, rfl, qa, _, (1 : Int), _, rfl, rfl, SqT.of htt, rfl, _, rfl, qa, _, (2 : Int), _, rfl, rfl, SqT.of htt, rfl, rfl, _, rfl, iteI (fun c => absurd c (by omega)) fun c => hN3 _ Lb⟩
        · rintro H6 Lb
          refine ⟨Lb.sm _ _ lla, ?_⟩
          have nDl := nloc D hD
          have s6 : Same H5 (upd H6 la (.dT (ents lts lf))) := lun _ Lb.sm
          have D6 : (upd H6 la (.dT (ents lts lf))) D = some (.lst []) := by rw [upd_ne nDl]; exact Lb.at_
          generalize upd H6 la (.dT (ents lts lf)) = H7 at s6 D6
          refine ⟨_, rfl, D, [], rfl, .inl (SqL.of D6), _, _, rfl, rfl, _, rfl, iteD (fun c => absurd c (by decide)) fun _ => ?_⟩
          have dl7 : DS H7 la lts lf L := ⟨s6 _ _ dl.at_, dl.nd, dl.str⟩
          have ds7 : DS H7 sd sts sf L := ⟨s6 _ _ ds.at_, ds.nd, ds.str⟩
          have s07 := s5.trans s6
          -- layer = next_layer(cast, pattern, layer, seen)
          refine ⟨_, rfl, _, rfl, _, rfl, _, rfl, H, a, la, sd, c, pat, (0, x, y), lts, sts, lf, sf, L, rfl, s07, nla, nsd, nls, hC, ok, hp, st0, dl7, ds7, by omega, fun t ht => hRs t (hls t ht), fun nl H8 nts nf s8 hnl dn hRn => ?_⟩
          have n0l : H nl = none := s07.free hnl
          have nns : nl ≠ sd := (ne_of_none ds7.at_ hnl).symm
          have ds8 : DS H8 sd sts sf (L + 1) := ⟨s8 _ _ ds7.at_, ds7.nd, ds7.str.mono (Nat.le_succ _)⟩
          have s08 := s07.trans s8
          -- for state in layer
          refine ⟨nl, _, dn.at_, trivial, fun od2 => ?_⟩
          have lln : (upd H8 nl (.frz od2 (.dT (ents nts nf)))) nl = some (.frz od2 (.dT (ents nts nf))) := upd_same
          have lds : DS (upd H8 nl (.frz od2 (.dT (ents nts nf)))) sd sts sf (L + 1) := ⟨by rw [upd_ne nns.symm]; exact ds8.at_, ds8.nd, ds8.str⟩
          have l0 : Same H (upd H8 nl (.frz od2 (.dT (ents nts nf)))) := same_upd s08 n0l
          generalize upd H8 nl (.frz od2 (.dT (ents nts nf))) = HM at lln lds l0
          refine ⟨_, rfl, nl, od2, rfl, .inr ⟨ents nts nf, lln, ?_⟩⟩
          refine for_w walk_keysT (fun i σ H' => ∃ v7 v8 v9 sts' sf', σ = [some (.ref a), some (.str (strOf pat)), some (vi x), some (vi y), some (.ref T0), some (.ref nl), some (.ref sd), v7, v8, v9] ∧ Same H H' ∧ H' nl = some (.frz od2 (.dT (ents nts nf))) ∧ DS H' sd sts' sf' (L + 1) ∧ ∀ t, t ∈ sts' ↔ t ∈ sts ∨ t ∈ nts.take i)
            ⟨_, _, _, sts, sf, rfl, l0, lln, lds, fun t => by simp⟩ (fun i σ H' _ ⟨_, _, _, _, _, _, _, h, _⟩ => h) ?_ ?_
          · rintro i z σ Ha Hb hi ⟨v7, v8, v9, sts', sf', rfl, s9, hn9, d9, hm9⟩ ⟨rfl, kk, v, qa, hkv, rfl, hqa⟩ N3 hN3
            unfold ents at hkv
            rw [List.getElem?_map] at hkv
            obtain ⟨t, ht, ekv⟩ := Option.map_eq_some_iff.mp hkv
            have e1 : kT t = kk := congrArg Prod.fst ekv
            subst e1
            have htm := List.mem_of_getElem? ht
            obtain ⟨z, hz1, hz2⟩ := dn.str t
            have hR9 : ∀ t ∈ sts', Reach c pat (0, x, y) t := fun t' h' => by
              rcases (hm9 t').mp h' with h | h
              · exact hRs t' h
              · exact (hRn t' (List.mem_of_mem_take h)).1
            refine ⟨_, rfl, _, rfl, nl, _, rfl, .inr ⟨ents nts nf, kT t, qa, .inr ⟨od2, hn9⟩, rfl, hqa, by rw [val_ents, if_pos htm]⟩, _, rfl, _, rfl, sd, _, rfl, .inr ⟨ents sts' sf', kT t, qa, d9.at_, rfl, hqa, by rw [ents_len]; exact small_of (m := 468) (few d9.nd hR9), rfl⟩, ?_⟩
            rw [put_ents, hz1]
            refine hN3 _ _ ⟨_, _, _, addT sts' t, updT sf' t (.str z), rfl, same_upd s9 nsd, by rw [upd_ne nns]; exact hn9, ⟨upd_same, nd_addT d9.nd, d9.str.upd hz2⟩, fun t' => ?_⟩
            rw [mem_addT, hm9, take_get ht, List.mem_append, List.mem_singleton, or_assoc]
          · rintro σ H9 ⟨v7, v8, v9, sts', sf', rfl, s9, hn9, d9, hm9⟩
            refine ⟨hn9, ?_⟩
            rw [ents_len] at hm9
            rw [take_all rfl] at hm9
            have hR9 : ∀ t ∈ sts', Reach c pat (0, x, y) t := fun t' h' => by
              rcases (hm9 t').mp h' with h | h
              · exact hRs t' h
              · exact (hRn t' h).1
            have few9 := few d9.nd hR9
            have le1 : sts.length ≤ sts'.length := nd_sub_len ds.nd fun t ht => (hm9 t).mpr (.inl ht)
            have le2 : nts ≠ [] → sts.length + 1 ≤ sts'.length := fun hne => by
              obtain ⟨t, r, e⟩ := List.exists_cons_of_ne_nil hne
              have htn : t ∈ nts := by rw [e]; exact List.mem_cons_self
              have := nd_sub_len (l := t :: sts) (r := sts') (List.nodup_cons.mpr ⟨(hRn t htn).2, ds.nd⟩) fun t' h' => by
                rcases List.mem_cons.mp h' with h | h
                · rw [h]; exact (hm9 t).mpr (.inr htn)
                · exact (hm9 t').mpr (.inl h)
              exact this
            have hlt : 2 * (468 - sts'.length) + (if nts = [] then 0 else 1) < m := by
              by_cases e : nts = []
              · rw [if_pos e]; omega
              · rw [if_neg e]
                have := le2 e
                omega
            refine hN _ _ _ hlt ⟨_, _, _, nl, sd, nts, nf, sts', sf', L + 1, rfl, same_upd s9 n0l, n0l, nsd, nns, ⟨upd_same, dn.nd, dn.str⟩, ⟨by rw [upd_ne nns.symm]; exact d9.at_, d9.nd, d9.str⟩, hR9, fun t ht => (hm9 t).mpr (.inr ht), rfl, by omega⟩
      · exact k H5 s5
    · rintro σ H1 Q1 Q2 hq ⟨v, e, p, ys, e1, e2, i, j, e3, e4, b, e5, e6⟩
      exact ⟨v, e, p, ys, e1, e2, i, j, e3, e4, b, e5, hq _ _ e6⟩
end
end Mm

set_option maxHeartbeats 4000000
/-! books: most friends -/
namespace MM
def mdiff (m f : Nat) : Nat := m ^^^ (m &&& f)
theorem mdiff_bit (m f x : Nat) : (mdiff m f).testBit x = (m.testBit x && !f.testBit x) := by
  unfold mdiff
  rw [Nat.testBit_xor, Nat.testBit_and]
  cases m.testBit x <;> cases f.testBit x <;> rfl
theorem mdiff_int (m f : Nat) : (m : Int) - ((m &&& f : Nat) : Int) = (mdiff m f : Nat) := by
  have h := PyProof.Rows.nat_or_add_and (m &&& f) (mdiff m f)
  have e1 : (m &&& f) ||| mdiff m f = m := by
    apply Nat.eq_of_testBit_eq
    intro i
    rw [Nat.testBit_or, Nat.testBit_and, mdiff_bit]
    cases m.testBit i <;> cases f.testBit i <;> rfl
  have e2 : (m &&& f) &&& mdiff m f = 0 := by
    apply Nat.eq_of_testBit_eq
    intro i
    rw [Nat.testBit_and, Nat.testBit_and, mdiff_bit, Nat.zero_testBit]
    cases m.testBit i <;> cases f.testBit i <;> rfl
  rw [e1, e2] at h
  omega
theorem mdiff_lt {m f n : Nat} (h : m < 2 ^ n) : mdiff m f < 2 ^ n := by
  apply Nat.lt_pow_two_of_testBit
  intro i hi
  rw [mdiff_bit]
  have : m.testBit i = false := Nat.testBit_lt_two_pow (Nat.lt_of_lt_of_le h (Nat.pow_le_pow_right (by decide) hi))
  rw [this]
  rfl
theorem and_lt {m f n : Nat} (h : m < 2 ^ n) : m &&& f < 2 ^ n := by
  apply Nat.lt_pow_two_of_testBit
  intro i hi
  rw [Nat.testBit_and]
  have : m.testBit i = false := Nat.testBit_lt_two_pow (Nat.lt_of_lt_of_le h (Nat.pow_le_pow_right (by decide) hi))
  rw [this]
  rfl
theorem filter_lt {t m : Nat → Bool} {p : Nat} : ∀ {l : List Nat}, (∀ x, t x = true → m x = true) → p ∈ l → m p = true → t p = false → (l.filter t).length < (l.filter m).length
  | [], _, h, _, _ => nomatch h
  | a :: l, hs, hp, hm, ht => by
    have le : ∀ l : List Nat, (l.filter t).length ≤ (l.filter m).length := by
      intro l
      induction l with
      | nil => exact Nat.le_refl _
      | cons b l ih =>
        rw [List.filter_cons, List.filter_cons]
        cases e : t b with
        | true => rw [if_pos rfl, if_pos (hs b e)]; simp only [List.length_cons]; omega
        | false =>
          rw [if_neg Bool.false_ne_true]
          split
          · simp only [List.length_cons]; omega
          · exact ih
    rw [List.filter_cons, List.filter_cons]
    rcases List.mem_cons.mp hp with e | e
    · subst e
      rw [ht, hm, if_neg Bool.false_ne_true, if_pos rfl, List.length_cons]
      exact Nat.lt_succ_of_le (le l)
    · have ih := filter_lt (l := l) hs e hm ht
      cases q : t a with
      | true => rw [if_pos rfl, if_pos (hs a q)]; simp only [List.length_cons]; omega
      | false =>
        rw [if_neg Bool.false_ne_true]
        split
        · simp only [List.length_cons]; omega
        · exact ih
theorem bits_fewer {t m p : Nat} (hs : ∀ x, t.testBit x = true → m.testBit x = true) (h6 : p < 6) (hm : m.testBit p = true) (ht : t.testBit p = false) : (bitsM t).length < (bitsM m).length :=
  filter_lt (p := p) hs (List.mem_range.mpr h6) hm ht
theorem bits_none {m : Nat} (h : m < 2 ^ 6) (hz : bitsM m = []) : m = 0 := by
  apply Nat.eq_of_testBit_eq
  intro i
  rw [Nat.zero_testBit]
  cases e : m.testBit i with
  | false => rfl
  | true =>
    have : i ∈ bitsM m := mem_bitsM.mpr ⟨bit_lt h e, e⟩
    rw [hz] at this
    cases this
theorem bits_one {m p q : Nat} (hl : (bitsM m).length ≤ 1) (hp : p ∈ bitsM m) (hq : q ∈ bitsM m) : p = q := by
  cases h : bitsM m with
  | nil => rw [h] at hp; cases hp
  | cons a l =>
    rw [h] at hl hp hq
    cases l with
    | nil => rw [List.mem_singleton.mp hp, List.mem_singleton.mp hq]
    | cons b l => simp at hl
end MM
namespace Mm
open PySem PySem.Spec L2 MM
open PyProof.Rows hiding St
theorem and_inv (m f : Nat) : Builtin.bitAnd (m : Int) (Builtin.bitNot (f : Int)) = ((mdiff m f : Nat) : Int) := by
  rw [PyProof.Rows.bitAnd_not, PyProof.Rows.bitAnd_pp (by omega) (by omega)]
  exact mdiff_int m f
theorem and_nn (m f : Nat) : Builtin.bitAnd (m : Int) (f : Int) = ((m &&& f : Nat) : Int) := by
  rw [PyProof.Rows.bitAnd_pp (by omega) (by omega)]
  rfl
theorem pow_int (p : Nat) : (1 * 2 ^ ((p : Int)).toNat : Int) = ((2 ^ p : Nat) : Int) := by simp
def frOf (fm : List Nat) : Nat → Nat := fun x => fm.getD x 0
/-- what the memory holds is right -/
structure MemP (fr : Nat → Nat) (kvs : List (Key × V)) : Prop where
  nd : (kvs.map (·.1)).Nodup
  ok : ∀ k v, valV kvs k = some v → ∃ m r : Nat, k = .inl (m : Int) ∧ v = vi r ∧ m < 64 ∧ MaxC fr (fun x => m.testBit x = true) r
def MemOk (fr : Nat → Nat) (H : Hp) (ma : Addr) : Prop := ∃ kvs : List (Key × V), H ma = some (.dK kvs) ∧ MemP fr kvs
theorem val_of_mem {kvs : List (Key × V)} {k : Key} (h : k ∈ kvs.map (·.1)) : ∃ v, valV kvs k = some v := by
  cases e : valV kvs k with
  | some v => exact ⟨v, rfl⟩
  | none =>
    have := valV_any k kvs
    rw [e] at this
    obtain ⟨p, hp, e2⟩ := List.mem_map.mp h
    have : (kvs.any fun kv => decide (kv.1 = k)) = true := List.any_eq_true.mpr ⟨p, hp, decide_eq_true e2⟩
    simp_all
def keyN : Key → Nat
  | .inl i => i.toNat
  | .inr _ => 0
theorem MemP.len {fr : Nat → Nat} {kvs : List (Key × V)} (h : MemP fr kvs) : kvs.length ≤ 64 := by
  have h2 := nodup_map_length keyN 64 (kvs.map (·.1)) h.nd (fun a ha b hb e => ?_) fun x hx => ?_
  · rwa [List.length_map] at h2
  · obtain ⟨v, hv⟩ := val_of_mem ha
    obtain ⟨v', hv'⟩ := val_of_mem hb
    obtain ⟨m, _, rfl, _⟩ := h.ok _ _ hv
    obtain ⟨m', _, rfl, _⟩ := h.ok _ _ hv'
    have e' : (m : Int).toNat = (m' : Int).toNat := e
    simp only [Int.toNat_natCast] at e'
    rw [e']
  · obtain ⟨v, hv⟩ := val_of_mem hx
    obtain ⟨m, _, rfl, _, hm, _⟩ := h.ok _ _ hv
    show (m : Int).toNat < 64
    simpa using hm
theorem MemP.put {fr : Nat → Nat} {kvs : List (Key × V)} (h : MemP fr kvs) {m r : Nat} (hm : m < 64) (hr : MaxC fr (fun x => m.testBit x = true) r) : MemP fr (putK kvs (.inl (m : Int)) (vi r)) := by
  refine ⟨?_, fun k v hv => ?_⟩
  · unfold putK
    split
    · have e : (kvs.map fun kv => if kv.1 = Sum.inl (m : Int) then (kv.1, vi r) else kv).map (·.1) = kvs.map (·.1) := by
        rw [List.map_map]
        refine List.map_congr_left fun kv _ => ?_
        show (if kv.1 = Sum.inl (m : Int) then (kv.1, vi r) else kv).1 = kv.1
        split <;> rfl
      rw [e]
      exact h.nd
    · rename_i hn
      rw [List.map_append, List.nodup_append]
      refine ⟨h.nd, by simp, fun a ha b hb => ?_⟩
      have eb : b = Sum.inl (m : Int) := by simpa using hb
      rw [eb]
      intro e
      obtain ⟨p, hp, e2⟩ := List.mem_map.mp ha
      exact hn (List.any_eq_true.mpr ⟨p, hp, decide_eq_true (e2.trans e)⟩)
  · rw [valV_put] at hv
    by_cases e : k = Sum.inl (m : Int)
    · rw [if_pos e] at hv
      cases hv
      exact ⟨m, r, e, rfl, hm, hr⟩
    · rw [if_neg e] at hv
      exact h.ok k v hv
def sp_mf (j : Nat) : Sp := fun vs H Q _ => ∃ (fa ma : Addr) (fm : List Nat) (n m : Nat), vs = [.ref fa, vi m, .ref ma] ∧ H fa = some (.lst (vn fm)) ∧ n ≤ 6 ∧ fm.length = n ∧ Sym (frOf fm) ∧ (∀ f ∈ fm, f < 2 ^ n) ∧ m < 2 ^ n ∧ MemOk (frOf fm) H ma ∧ (bitsM m).length < j ∧
  ∀ r H', But ma H H' → MemOk (frOf fm) H' ma → MaxC (frOf fm) (fun x => m.testBit x = true) r → Q (vi r) H'
section
variable {P : Program} {w : World} {K : PySem.W.Frag} {mg : Str → Option Value} {base : Heap} {CC CT CP : Addr}
abbrev s_most_friends : Stmt := (top 46)
abbrev N_most_friends : List Str := ["friends", "mask", "memory", "pick", "strangers", "member", "many", "best"]
theorem sc_most_friends : FnScope N_most_friends ["friends", "mask", "memory"] (defScope s_most_friends) := ⟨rfl, rfl, rfl, by decide +kernel, rfl, by decide +kernel, by decide +kernel⟩
theorem mf_step {j : Nat} (F : Fn K mg "most_friends" s_most_friends) (B : Blt mg) (G_bits : G P w K mg base 1 "bits" ["mask"] sp_bits) (G_most_friends : G P w K mg base (j + 1) "most_friends" ["friends", "mask", "memory"] (sp_mf j)) :
    G P w K mg base (j + 2) "most_friends" ["friends", "mask", "memory"] (sp_mf (j + 1)) := by
  refine g_of F sc_most_friends (fun _ _ _ _ _ _ us hl => match us, hl with | [_, _, _], _ => rfl) (fun vs H Q E h => ?_) (fun f cdv A outer s H vs Q E hr h => ?_)
  · obtain ⟨fa, ma, fm, n, m, rfl, _⟩ := h
    rfl
  · obtain ⟨fa, ma, fm, n, m, rfl, hfa, n6, hfl, sy, hfm, hm, ⟨kvs, hma, hk⟩, hbl, k⟩ := h
    have hu := hu_of hr
    have m6 : m < 2 ^ 6 := Nat.lt_of_lt_of_le hm (Nat.pow_le_pow_right (by decide) n6)
    refine ⟨_, (pss_cons (ps_if (pt_cmpR op_eq (pv 1) pe_int (nomark _)) (pss_one (ps_ret pe_int)) pss_nil)
      (pss_cons (ps_if (pt_cmp (pc_din hu (pv 1) (pv 2))) (pss_one (ps_ret (pe_dget hu (pv 2) (pv 1) (fun _ _ => rfl)))) pss_nil)
      (pss_cons (ps_set (i := 3) sc_most_friends.nd rfl (Or.inl rfl) (pe_un un_neg pe_int))
      (pss_cons (ps_set (i := 4) sc_most_friends.nd rfl (Or.inl rfl) (pe_un un_neg pe_int))
      (pss_cons (ps_for PassesOwn.never rfl (pi_listK (K := K) rfl (pe_g G_bits (hr.mono (Nat.le_add_left 1 _)) (by rfl) (pa_cons (pv 1) pa_nil))) (pg_name (i := 5) sc_most_friends.nd rfl (Or.inl rfl)) (pss_cons (ps_set (i := 6) sc_most_friends.nd rfl (Or.inl rfl) (pe_callB (call_len_seqK (K := K) rfl) (by rfl) B.b_len PySem.boot_len (pa_cons (pe_g G_bits (hr.mono (Nat.le_add_left 1 _)) (by rfl) (pa_cons (pe_op op_and (pv 1) (pe_un un_inv (pe_ix (ix_listK (K := K) rfl) (pv 0) (pv 5) (fun _ _ => rfl)))) pa_nil)) pa_nil)))
      (pss_one (ps_if (pt_cmpR op_gt (pv 6) (pv 4) (nomark _)) (pss_cons (ps_set (i := 3) sc_most_friends.nd rfl (Or.inl rfl) (pv 5))
      (pss_one (ps_set (i := 4) sc_most_friends.nd rfl (Or.inl rfl) (pv 6)))) pss_nil))))
      (pss_cons (ps_set (i := 7) sc_most_friends.nd rfl (Or.inl rfl) (pe_op op_add pe_int (pe_g G_most_friends hr (by rfl) (pa_cons (pv 0) (pa_cons (pe_op op_and (pv 1) (pe_ix (ix_listK (K := K) rfl) (pv 0) (pv 3) (fun _ _ => rfl))) (pa_cons (pv 2) pa_nil))))))
      (pss_cons (ps_if (pt_cmpR op_gt (pv 4) pe_int (nomark _)) (pss_one (ps_set (i := 7) sc_most_friends.nd rfl (Or.inl rfl) (pe_callB (call_max2 rfl) (by rfl) B.b_max (by decide +kernel) (pa_cons (pe_callTy call_int1 (by rfl) B.b_int (by decide +kernel) (pa_cons (pv 7) pa_nil)) (pa_cons (pe_callTy call_int1 (by rfl) B.b_int (by decide +kernel) (pa_cons (pe_g G_most_friends hr (by rfl) (pa_cons (pv 0) (pa_cons (pe_op op_and (pv 1) (pe_un un_inv (pe_op op_shl pe_int (pv 3)))) (pa_cons (pv 2) pa_nil)))) pa_nil)) pa_nil))))) pss_nil)
      (pss_cons (ps_dput hu (pv 2) (pv 1) (pv 7) rfl)
      (pss_one (ps_ret (pv 7))))))))))), ?_⟩
    refine ⟨_, rfl, rfl, _, rfl, iteI (fun e => ?_) fun ne => ?_⟩
    · have e0 : m = 0 := by omega
      subst e0
      exact k 0 H But.refl ⟨kvs, hma, hk⟩ (MaxC.none fun x hx => by rw [Nat.zero_testBit] at hx; cases hx)
    have m0 : m ≠ 0 := by omega
    have fam : fa ≠ ma := ne_of hfa hma (fun z => nomatch z)
    refine ⟨_, rfl, _, rfl, ma, _, rfl, .inl ⟨kvs, .inl (m : Int), .inl hma, rfl, rfl⟩, _, rfl, ?_⟩
    cases hv : valV kvs (.inl (m : Int)) with
    | some v =>
      obtain ⟨m', r, e1, rfl, _, hmx⟩ := hk.ok _ _ hv
      have em : m' = m := by
        have := Sum.inl.inj e1
        omega
      subst em
      exact ⟨_, rfl, _, rfl, ma, _, rfl, .inl ⟨kvs, .inl (m' : Int), .inl hma, rfl, hv.symm⟩, k r H But.refl ⟨kvs, hma, hk⟩ hmx⟩
    | none =>
      have hbits : ∀ q, q ∈ bitsM m → q < n ∧ m.testBit q = true := fun q hq => ⟨bit_lt hm (mem_bitsM.mp hq).2, (mem_bitsM.mp hq).2⟩
      have hfr : ∀ q, q < n → fm[q]? = some (frOf fm q) ∧ frOf fm q < 2 ^ n := fun q hq => by
        have e : fm[q]? = some (fm[q]'(by omega)) := by simp [hfl, hq]
        have e2 : frOf fm q = fm[q]'(by omega) := by
          unfold frOf
          rw [List.getD_eq_getElem?_getD, e]
          rfl
        rw [e2]
        exact ⟨e, hfm _ (List.getElem_mem _)⟩
      refine ⟨_, rfl, _, rfl, ?_⟩
      refine ⟨_, rfl, m, rfl, m6, fun l H1 s1 hl hL => ⟨l, rfl, ⟨_, SqL.of hL⟩, ?_⟩⟩
      refine for_list_w (K := K) (a := l) (xs := vn (bitsM m)) (fun i σ H' => ∃ pk st v5 v6, σ = [some (.ref fa), some (vi m), some (.ref ma), some (.int pk), some (.int st), v5, v6, none] ∧ Same H H' ∧ H' l = some (.lst (vn (bitsM m))) ∧
          ((i = 0 ∧ pk = -1 ∧ st = -1) ∨ ∃ p : Nat, pk = (p : Int) ∧ p ∈ bitsM m ∧ st = ((bitsM (mdiff m (frOf fm p))).length : Int)) ∧ ∀ q ∈ (bitsM m).take i, ((bitsM (mdiff m (frOf fm q))).length : Int) ≤ st)
        ⟨_, _, _, _, rfl, s1, hL, .inl ⟨rfl, rfl, rfl⟩, fun q hq => by simp at hq⟩ (fun i σ H' _ ⟨_, _, _, _, _, _, h, _⟩ => SqL.of h) ?_ ?_
      · rintro i y σ H2 hy ⟨pk, st, v5, v6, rfl, s2, hL2, hd, hq⟩ N hN
        obtain ⟨q, hqi, rfl⟩ := vn_get hy
        have hqm := List.mem_of_getElem? hqi
        obtain ⟨hqn, hqb⟩ := hbits q hqm
        obtain ⟨eq1, eq2⟩ := hfr q hqn
        refine ⟨_, rfl, _, rfl, _, rfl, fa, _, (q : Int), vi (frOf fm q), rfl, rfl, SqL.of (s2 _ _ hfa), atI_nat (by rw [List.getElem?_map, eq1]; rfl), _, rfl, _, _, rfl, rfl, mdiff m (frOf fm q), congrArg (fun z : Int => [V.int z]) (and_inv m (frOf fm q)), mdiff_lt m6, fun l2 H3 s3 hl2 hL3 => ?_⟩
        refine ⟨l2, _, rfl, .inl (SqL.of hL3), ?_⟩
        rw [List.length_map]
        have sH3 := s2.trans s3
        refine ⟨_, rfl, _, rfl, _, _, rfl, rfl, _, rfl, iteD (fun c => ?_) fun c => ?_⟩
        · refine ⟨_, rfl, _, rfl, hN _ _ ⟨(q : Int), _, _, _, rfl, sH3, s3 _ _ hL2, .inr ⟨q, rfl, hqm, rfl⟩, fun q' hq' => ?_⟩⟩
          rw [take_get hqi] at hq'
          rcases List.mem_append.mp hq' with h | h
          · exact Int.le_trans (hq q' h) (Int.le_of_lt c)
          · rw [List.mem_singleton.mp h]; exact Int.le_refl _
        · refine hN _ _ ⟨pk, st, _, _, rfl, sH3, s3 _ _ hL2, .inr ?_, fun q' hq' => ?_⟩
          · rcases hd with ⟨_, _, e3⟩ | h
            · rw [e3] at c
              exact absurd (by omega) c
            · exact h
          · rw [take_get hqi] at hq'
            rcases List.mem_append.mp hq' with h | h
            · exact hq q' h
            · rw [List.mem_singleton.mp h]; exact Int.not_lt.mp c
      · rintro σ H2 ⟨pk, st, v5, v6, rfl, s2, hL2, hd, hq⟩
        have hne : bitsM m ≠ [] := fun e => m0 (bits_none m6 e)
        have hq' : ∀ q ∈ bitsM m, ((bitsM (mdiff m (frOf fm q))).length : Int) ≤ st := by
          rw [take_all (by rw [List.length_map])] at hq
          exact hq
        rcases hd with ⟨e, _⟩ | ⟨p, rfl, hpm, rfl⟩
        · rw [List.length_map] at e
          exact absurd (List.length_eq_zero_iff.mp e) hne
        obtain ⟨hpn, hpb⟩ := hbits p hpm
        obtain ⟨eq1, eq2⟩ := hfr p hpn
        have hp6 : p < 6 := Nat.lt_of_lt_of_le hpn n6
        have irr : (frOf fm p).testBit p = false := sy.irr p
        have b1 : (bitsM (m &&& frOf fm p)).length < j := by
          have := bits_fewer (t := m &&& frOf fm p) (m := m) (p := p) (fun x hx => by rw [Nat.testBit_and, Bool.and_eq_true] at hx; exact hx.1) hp6 hpb (by rw [Nat.testBit_and, irr, Bool.and_false])
          omega
        have hmT : ∀ x, (m &&& frOf fm p).testBit x = true ↔ m.testBit x = true ∧ (frOf fm p).testBit x = true := fun x => by rw [Nat.testBit_and, Bool.and_eq_true]
        -- best = 1 + most_friends(..)
        refine ⟨_, rfl, _, rfl, _, rfl, _, rfl, fa, _, (p : Int), vi (frOf fm p), rfl, rfl, SqL.of (s2 _ _ hfa), atI_nat (by rw [List.getElem?_map, eq1]; rfl), _, _, rfl, rfl, _, rfl, fa, ma, fm, n, m &&& frOf fm p, congrArg (fun z : Int => [V.ref fa, V.int z, V.ref ma]) (and_nn m (frOf fm p)), s2 _ _ hfa, n6, hfl, sy, hfm, and_lt hm, ⟨kvs, s2 _ _ hma, hk⟩, b1, fun r1 H3 s3 hM3 hX3 => ?_⟩
        have bu3 : But ma H H3 := (But.of s2).trans s3
        refine ⟨_, _, rfl, rfl, ?_⟩
        refine ⟨_, rfl, _, _, rfl, rfl, _, rfl, iteD (fun c => ?_) fun c => ?_⟩
        · have b2 : (bitsM (mdiff m (2 ^ p))).length < j := by
            have := bits_fewer (t := mdiff m (2 ^ p)) (m := m) (p := p) (fun x hx => by rw [mdiff_bit, Bool.and_eq_true] at hx; exact hx.1) hp6 hpb (by rw [mdiff_bit, Nat.testBit_two_pow_self]; simp)
            omega
          have hU : ∀ x, (mdiff m (2 ^ p)).testBit x = true ↔ m.testBit x = true ∧ x ≠ p := fun x => by
            rw [mdiff_bit, Bool.and_eq_true, Nat.testBit_two_pow]
            refine ⟨fun z => ⟨z.1, fun e => ?_⟩, fun z => ⟨z.1, ?_⟩⟩
            · have := z.2
              rw [decide_eq_true e.symm] at this
              cases this
            · rw [decide_eq_false fun e => z.2 e.symm]
              rfl
          have e2 : Builtin.bitAnd (m : Int) (Builtin.bitNot (1 * 2 ^ ((p : Int)).toNat)) = ((mdiff m (2 ^ p) : Nat) : Int) := by rw [pow_int, and_inv]
          obtain ⟨kvs3, hk3, hP3⟩ := hM3
          -- best = max(best, ..)
          refine ⟨_, rfl, .inl ⟨_, rfl, _, rfl, _, rfl, _, rfl, _, _, rfl, rfl, ⟨by omega, by omega, by decide⟩, _, rfl, _, _, rfl, rfl, _, rfl, fa, ma, fm, n, mdiff m (2 ^ p), congrArg (fun z : Int => [V.ref fa, V.int z, V.ref ma]) e2, bu3 _ _ hfa fam, n6, hfl, sy, hfm, mdiff_lt hm, ⟨kvs3, hk3, hP3⟩, b2, fun r2 H4 s4 hM4 hX4 => .inl ⟨_, rfl, _, _, rfl, ?_⟩⟩⟩
          have emax : V.int (if (r2 : Int) > (1 + (r1 : Int)) then (r2 : Int) else 1 + (r1 : Int)) = vi (max (1 + r1) r2) := max_vi (1 + r1) r2
          rw [emax]
          have hX : MaxC (frOf fm) (fun x => m.testBit x = true) (max (1 + r1) r2) := MaxC.two sy hpb hmT hU hX3 hX4
          obtain ⟨kvs4, hk4, hP4⟩ := hM4
          refine ⟨_, rfl, _, rfl, _, rfl, ma, _, rfl, .inl ⟨kvs4, .inl (m : Int), hk4, rfl, small_of (m := 64) hP4.len, rfl⟩, _, rfl, ?_⟩
          exact k (max (1 + r1) r2) _ ((bu3.trans s4).trans But.upd) ⟨_, upd_same, hP4.put (r := max (1 + r1) r2) m6 hX⟩ hX
        · -- all are friends of p
          have hall : ∀ x, m.testBit x = true → x ≠ p → (frOf fm p).testBit x = true := by
            intro x hx hxp
            have hone : (bitsM (mdiff m (frOf fm p))).length ≤ 1 := by omega
            cases e : (frOf fm p).testBit x with
            | true => rfl
            | false =>
              have h1 : x ∈ bitsM (mdiff m (frOf fm p)) := mem_bitsM.mpr ⟨bit_lt m6 hx, by rw [mdiff_bit, hx, e]; rfl⟩
              have h2 : p ∈ bitsM (mdiff m (frOf fm p)) := mem_bitsM.mpr ⟨hp6, by rw [mdiff_bit, hpb, irr]; rfl⟩
              exact absurd (bits_one hone h1 h2) hxp
          have hX : MaxC (frOf fm) (fun x => m.testBit x = true) (1 + r1) := MaxC.one sy hpb hall hmT hX3
          obtain ⟨kvs3, hk3, hP3⟩ := hM3
          refine ⟨_, rfl, _, rfl, _, rfl, ma, _, rfl, .inl ⟨kvs3, .inl (m : Int), hk3, rfl, small_of (m := 64) hP3.len, rfl⟩, _, rfl, ?_⟩
          exact k (1 + r1) _ (bu3.trans But.upd) ⟨_, upd_same, hP3.put (r := 1 + r1) m6 hX⟩ hX
/-- what is never called -/
def sp_no : Sp := fun _ _ _ _ => False
theorem g_never {x : Str} {st : Stmt} {N ps : List Str} (F : Fn K mg x st) (S : FnScope N ps (defScope st))
    (hb : ∀ (kV doc pm : Value) (an : Option Addr) (cdv ct : Value) (us : List Value), us.length = ps.length → bindArgs (PySem.W.fnOf x x (defArgs st) (defBody st) (defScope st) .none kV doc pm an cdv ct) ⟨us, []⟩ = pure (ps.zip us)) : G P w K mg base 1 x ps sp_no :=
  g_of F S hb (fun _ _ _ _ h => h.elim) fun _ _ _ _ _ _ _ _ _ _ h => h.elim
theorem g_mf (F : Fn K mg "most_friends" s_most_friends) (B : Blt mg) (G_bits : G P w K mg base 1 "bits" ["mask"] sp_bits) : ∀ j : Nat, G P w K mg base (j + 1) "most_friends" ["friends", "mask", "memory"] (sp_mf j)
  | 0 => (g_never F sc_most_friends (fun _ _ _ _ _ _ us hl => match us, hl with | [_, _, _], _ => rfl)).imp fun vs H Q E h => by
    obtain ⟨fa, ma, fm, n, m, _, _, _, _, _, _, _, _, hlt, _⟩ := h
    exact Nat.not_lt_zero _ hlt
  | j + 1 => mf_step F B G_bits (g_mf F B G_bits j)
end
end Mm

set_option maxHeartbeats 4000000
/-! books: the first of the greatest -/
namespace Mm
open PySem PySem.Spec L2 MM
open PyProof.Rows hiding St
theorem shr_and (m i : Nat) : Builtin.bitAnd ((m : Int) / 2 ^ ((i : Int)).toNat) 1 = (((m >>> i) % 2 : Nat) : Int) := by
  have e : (m : Int) / 2 ^ ((i : Int)).toNat = ((m >>> i : Nat) : Int) := by
    rw [Nat.shiftRight_eq_div_pow]
    simp
  rw [e, and_one]
theorem bit_mod (m i : Nat) : m.testBit i = decide ((m >>> i) % 2 = 1) := by
  rw [← Nat.testBit_zero, Nat.testBit_shiftRight]
  rfl
def restN (m f i : Nat) : Nat := ((m &&& f) >>> (i + 1)) <<< (i + 1)
theorem rest_bit (m f i x : Nat) : (restN m f i).testBit x = true ↔ i + 1 ≤ x ∧ m.testBit x = true ∧ f.testBit x = true := by
  unfold restN
  rw [Nat.testBit_shiftLeft, Nat.testBit_shiftRight, Bool.and_eq_true, decide_eq_true_iff]
  constructor
  · rintro ⟨h1, h2⟩
    have e : i + 1 + (x - (i + 1)) = x := by omega
    rw [e, Nat.testBit_and, Bool.and_eq_true] at h2
    exact ⟨h1, h2⟩
  · rintro ⟨h1, h2⟩
    have e : i + 1 + (x - (i + 1)) = x := by omega
    rw [e, Nat.testBit_and, Bool.and_eq_true]
    exact ⟨h1, h2⟩
theorem rest_lt {m f i n : Nat} (h : m < 2 ^ n) : restN m f i < 2 ^ n := by
  apply Nat.lt_pow_two_of_testBit
  intro x hx
  cases e : (restN m f i).testBit x with
  | false => rfl
  | true =>
    have h2 := ((rest_bit m f i x).mp e).2.1
    have : m.testBit x = false := Nat.testBit_lt_two_pow (Nat.lt_of_lt_of_le h (Nat.pow_le_pow_right (by decide) hx))
    rw [this] at h2
    cases h2
theorem rest_int (m f i : Nat) : (Builtin.bitAnd (m : Int) (f : Int)) / 2 ^ ((i : Int) + 1).toNat * 2 ^ ((i : Int) + 1).toNat = ((restN m f i : Nat) : Int) := by
  rw [and_nn]
  unfold restN
  have e : ((i : Int) + 1).toNat = i + 1 := by omega
  rw [e, Nat.shiftLeft_eq, Nat.shiftRight_eq_div_pow]
  simp
section
variable {P : Program} {w : World} {K : PySem.W.Frag} {mg : Str → Option Value} {base : Heap} {CC CT CP : Addr}
abbrev s_first_friends : Stmt := (top 47)
abbrev N_first_friends : List Str := ["friends", "memory", "mask", "wanted", "found", "member", "rest"]
theorem sc_first_friends : FnScope N_first_friends ["friends"] (defScope s_first_friends) := ⟨rfl, rfl, rfl, by decide +kernel, rfl, by decide +kernel, by decide +kernel⟩
def sp_ff : Sp := fun vs H Q _ => ∃ (fa : Addr) (fm : List Nat) (n : Nat), vs = [.ref fa] ∧ H fa = some (.lst (vn fm)) ∧ n ≤ 6 ∧ fm.length = n ∧ Sym (frOf fm) ∧ (∀ f ∈ fm, f < 2 ^ n) ∧
  ∀ r H' l, Same H H' → H r = none → H' r = some (.lst (vn l)) → First (frOf fm) n l → Q (.ref r) H'
theorem g_first_friends (F : Fn K mg "first_friends" s_first_friends) (B : Blt mg) (G_most_friends : G P w K mg base 8 "most_friends" ["friends", "mask", "memory"] (sp_mf 7)) : G P w K mg base 9 "first_friends" ["friends"] sp_ff := by
  refine g_of F sc_first_friends (fun _ _ _ _ _ _ us hl => match us, hl with | [_], _ => rfl) (fun vs H Q E h => ?_) (fun f cdv A outer s H vs Q E hr h => ?_)
  · obtain ⟨fa, fm, n, rfl, _⟩ := h
    rfl
  · obtain ⟨fa, fm, n, rfl, hfa, n6, hfl, sy, hfm, k⟩ := h
    have hu := hu_of hr
    have b7 : ∀ m, (bitsM m).length < 7 := fun m => Nat.lt_succ_of_le (bitsL_le m 6 (Nat.le_refl _))
    have hfr : ∀ q, q < n → fm[q]? = some (frOf fm q) ∧ frOf fm q < 2 ^ n := fun q hq => by
      have e : fm[q]? = some (fm[q]'(by omega)) := by simp [hfl, hq]
      have e2 : frOf fm q = fm[q]'(by omega) := by
        unfold frOf
        rw [List.getD_eq_getElem?_getD, e]
        rfl
      rw [e2]
      exact ⟨e, hfm _ (List.getElem_mem _)⟩
    refine ⟨_, (pss_cons (ps_set (i := 1) sc_first_friends.nd rfl (Or.inl rfl) pe_dnewK)
      (pss_cons (ps_set (i := 2) sc_first_friends.nd rfl (Or.inl rfl) (pe_op op_sub (pe_op op_shl pe_int (pe_callB (call_len_seqK (K := K) rfl) (by rfl) B.b_len PySem.boot_len (pa_cons (pv 0) pa_nil))) pe_int))
      (pss_cons (ps_set (i := 3) sc_first_friends.nd rfl (Or.inl rfl) (pe_g G_most_friends (hr.mono (by decide)) (by rfl) (pa_cons (pv 0) (pa_cons (pv 2) (pa_cons (pv 1) pa_nil)))))
      (pss_cons (ps_set (i := 4) sc_first_friends.nd rfl (Or.inl rfl) (pe_lst pa_nil))
      (pss_cons (ps_for PassesOwn.never rfl (pi_range1 rfl B.b_range (pa_cons (pe_callB (call_len_seqK (K := K) rfl) (by rfl) B.b_len PySem.boot_len (pa_cons (pv 0) pa_nil)) pa_nil)) (pg_name (i := 5) sc_first_friends.nd rfl (Or.inl rfl)) (pss_one (ps_if (pt_cmpR op_eq (pe_op op_and (pe_op op_shr (pv 2) (pv 5)) pe_int) pe_int (nomark _)) (pss_cons (ps_set (i := 6) sc_first_friends.nd rfl (Or.inl rfl) (pe_op op_and (pv 2) (pe_ix (ix_listK (K := K) rfl) (pv 0) (pv 5) (fun _ _ => rfl))))
      (pss_cons (ps_set (i := 6) sc_first_friends.nd rfl (Or.inl rfl) (pe_op op_shl (pe_op op_shr (pv 6) (pe_op op_add (pv 5) pe_int)) (pe_op op_add (pv 5) pe_int)))
      (pss_one (ps_if (pt_cmpR op_eq (pe_op op_add pe_int (pe_g G_most_friends (hr.mono (by decide)) (by rfl) (pa_cons (pv 0) (pa_cons (pv 6) (pa_cons (pv 1) pa_nil))))) (pv 3) (nomark _)) (pss_cons (ps_expr (pe_bm PySem.F.plainAttrs_list PySem.F.slot_list_append PySem.F.type_list_append mt_append (pv 4) (pa_cons (pv 5) pa_nil)))
      (pss_cons (ps_set (i := 2) sc_first_friends.nd rfl (Or.inl rfl) (pv 6))
      (pss_one (ps_aug (i := 3) sc_first_friends.nd rfl (Or.inl rfl) pe_int ip_sub)))) pss_nil)))) pss_nil)))
      (pss_one (ps_ret (pv 4)))))))), ?_⟩
    -- memory = {}
    refine fun ma hma => ?_
    have s1 : Same H (upd H ma (.dK [])) := same_new hma
    have m1 : (upd H ma (.dK [])) ma = some (.dK []) := upd_same
    have f1 := s1 _ _ hfa
    have fam : fa ≠ ma := ne_of_none hfa hma
    generalize upd H ma (.dK []) = H1 at s1 m1 f1
    have eln : (vn fm).length = n := by rw [List.length_map, hfl]
    refine ⟨_, rfl, fa, _, rfl, .inl (SqL.of f1), _, _, rfl, rfl, ⟨by omega, by rw [eln]; omega, by decide⟩, _, _, rfl, rfl, ?_⟩
    have emask : V.int (1 * 2 ^ (((vn fm).length : Nat) : Int).toNat - 1) = vi (2 ^ n - 1) := by
      rw [eln]
      show V.int _ = V.int _
      congr 1
      have : 0 < 2 ^ n := Nat.two_pow_pos n
      rw [Int.toNat_natCast, Int.one_mul]
      have e : ((2 ^ n : Nat) : Int) = (2 : Int) ^ n := by simp
      omega
    have hmb : ∀ x, (2 ^ n - 1).testBit x = true ↔ x < n := fun x => by rw [Nat.testBit_two_pow_sub_one, decide_eq_true_iff]
    have hml : 2 ^ n - 1 < 2 ^ n := by have : 0 < 2 ^ n := Nat.two_pow_pos n; omega
    -- wanted = most_friends(friends, mask, memory)
    refine ⟨_, rfl, _, rfl, _, rfl, fa, ma, fm, n, 2 ^ n - 1, congrArg (fun z => [V.ref fa, z, V.ref ma]) emask, f1, n6, hfl, sy, hfm, hml, ⟨[], m1, ⟨List.nodup_nil, fun k v h => nomatch h⟩⟩, b7 _, fun kk H2 bu2 hM2 hX2 => ?_⟩
    have hX : MaxC (frOf fm) (fun x => x < n) kk := hX2.congr hmb
    have s2 : Same H H2 := fun b u e => bu2 b u (s1 b u e) (ne_of_none e hma)
    -- found = []
    refine ⟨by show 0 ≤ sizeLine; exact Nat.zero_le _, fun fd hfd => ?_⟩
    have s3 : Same H2 (upd H2 fd (.lst [])) := same_new hfd
    have d3 : (upd H2 fd (.lst [])) fd = some (.lst (vn [])) := upd_same
    obtain ⟨kvs2, hk2, hP2⟩ := hM2
    have nmf : ma ≠ fd := ne_of_none hk2 hfd
    have hM3 : MemOk (frOf fm) (upd H2 fd (.lst [])) ma := ⟨kvs2, s3 _ _ hk2, hP2⟩
    have nfd : H fd = none := s2.free hfd
    have s03 := s2.trans s3
    generalize upd H2 fd (.lst []) = H3 at s03 d3 hM3
    refine ⟨_, rfl, fa, _, rfl, .inl (SqL.of (s03 _ _ hfa)), _, rfl, by rw [eln]; omega, by rw [eln]; omega, ?_⟩
    have en : (((vn fm).length : Nat) : Int).toNat = n := by rw [eln]; omega
    have emask2 := emask
    rw [en] at emask2 ⊢
    refine for_w (walk_r0 (n := n)) (fun i σ H' => ∃ mask wt found v5 v6, σ = [some (.ref fa), some (.ref ma), some (vi mask), some (.int wt), some (.ref fd), v5, v6] ∧ Same H H' ∧ MemOk (frOf fm) H' ma ∧ H' fd = some (.lst (vn found)) ∧ mask < 2 ^ n ∧ FF (frOf fm) n kk i found mask wt)
      ⟨_, _, [], _, _, by rw [← emask2]; rfl, s03, hM3, d3, hml, FF.start hmb hX⟩ (fun _ _ _ _ _ => trivial) ?_ ?_
    · rintro i z σ Ha Hb hi ⟨mask, wt, found, v5, v6, rfl, sa, hMa, hda, hla, ff⟩ ⟨rfl, rfl⟩ N hN
      obtain ⟨eq1, eq2⟩ := hfr i hi
      have hfl6 : found.length ≤ 6 := by
        have := nodup_lt_length n found ff.cl.nodup ff.ltn
        omega
      refine ⟨_, rfl, _, rfl, _, _, rfl, rfl, by show (0 : Int) ≤ (i : Int); omega, _, _, rfl, rfl, rfl, _, rfl, iteI (fun c => ?_) fun c => ?_⟩ <;> rw [shr_and] at c
      · have hb : mask.testBit i = true := by rw [bit_mod]; exact decide_eq_true (by omega)
        have hrb := fun x => rest_bit mask (frOf fm i) i x
        -- rest
        refine ⟨_, rfl, _, rfl, _, rfl, fa, _, (i : Int), vi (frOf fm i), rfl, rfl, SqL.of (sa _ _ hfa), atI_nat (by rw [List.getElem?_map, eq1]; rfl), _, _, rfl, rfl, ?_⟩
        refine ⟨_, rfl, _, rfl, _, _, rfl, rfl, _, _, rfl, rfl, by show (0 : Int) ≤ (i : Int) + 1; omega, _, rfl, _, _, rfl, rfl, _, _, rfl, rfl, ⟨by show (0 : Int) ≤ (i : Int) + 1; omega, by show (i : Int) + 1 ≤ 1000000; omega, ?_⟩, ?_⟩
        · rw [and_nn]
          have e : ((i : Int) + 1).toNat = i + 1 := by omega
          have e2 : (((mask &&& frOf fm i : Nat) : Int) / 2 ^ ((i : Int) + 1).toNat) = (((mask &&& frOf fm i) / 2 ^ (i + 1) : Nat) : Int) := by rw [e]; simp
          show (((mask &&& frOf fm i : Nat) : Int) / 2 ^ ((i : Int) + 1).toNat).natAbs < 2 ^ 64
          rw [e2, Int.natAbs_natCast]
          have h1 : (mask &&& frOf fm i) < 2 ^ n := and_lt hla
          have h2 : 2 ^ n ≤ 2 ^ 6 := Nat.pow_le_pow_right (by decide) n6
          have h3 := Nat.div_le_self (mask &&& frOf fm i) (2 ^ (i + 1))
          have h4 : (2 : Nat) ^ 6 < 2 ^ 64 := by decide
          omega
        refine ⟨_, rfl, _, rfl, _, rfl, fa, ma, fm, n, restN mask (frOf fm i) i, congrArg (fun z : Int => [V.ref fa, V.int z, V.ref ma]) (rest_int mask (frOf fm i) i), sa _ _ hfa, n6, hfl, sy, hfm, rest_lt hla, hMa, b7 _, fun k1 H5 bu5 hM5 hX5 => ?_⟩
        have nmfd : fd ≠ ma := by
          obtain ⟨kv, e, _⟩ := hMa
          exact ne_of hda e (fun z => nomatch z)
        have s5 : Same H H5 := fun b u e => bu5 b u (sa b u e) (ne_of_none e hma)
        have hd5 := bu5 _ _ hda nmfd
        refine ⟨_, _, rfl, rfl, _, rfl, rfl, _, rfl, iteI (fun c2 => ?_) fun c2 => ?_⟩
        · refine ⟨_, rfl, .inl ⟨rfl, _, SqL.of hd5⟩, _, rfl, fd, _, _, rfl, rfl, hd5, small_of (m := 6) (by rw [List.length_map]; exact hfl6), ?_⟩
          refine ⟨_, rfl, _, rfl, _, _, rfl, rfl, ?_⟩
          obtain ⟨kv5, hk5, hP5⟩ := hM5
          refine hN _ _ ⟨restN mask (frOf fm i) i, wt - 1, found ++ [i], some (vi i), some (V.int (Builtin.bitAnd (mask : Int) (frOf fm i : Nat) / 2 ^ ((i : Int) + 1).toNat * 2 ^ ((i : Int) + 1).toNat)), ?_, same_upd s5 nfd, ⟨kv5, ?_, hP5⟩, ?_, rest_lt hla, ff.take hb hrb hX5 c2⟩
          · rw [show vi (restN mask (frOf fm i) i) = V.int ((restN mask (frOf fm i) i : Nat) : Int) from rfl, ← rest_int]
            rfl
          · rw [upd_ne nmfd.symm]; exact hk5
          · rw [upd_same, vn_app]; rfl
        · exact hN _ _ ⟨mask, wt, found, _, _, rfl, s5, hM5, hd5, hla, ff.skip_few hX hb hrb hX5 c2⟩
      · have hb : mask.testBit i = false := by rw [bit_mod]; exact decide_eq_false (by omega)
        exact hN _ _ ⟨mask, wt, found, _, _, rfl, sa, hMa, hda, hla, ff.skip_out hb⟩
    · rintro σ H4 ⟨mask, wt, found, v5, v6, rfl, sa, hMa, hda, hla, ff⟩
      exact ⟨_, rfl, k fd H4 found sa nfd hda (ff.fin hX)⟩
end
end Mm

set_option maxHeartbeats 4000000
/-! sorted(set(xs)), xs a list of ints -/
namespace Mm
open PySem PySem.Spec L2
open PyProof.Rows hiding St
section
variable {P : Program} {w : World} {A : Around} {E : Value → Shared → Prop} {s : Shared}
set_option maxHeartbeats 3200000 in
theorem call_set_lstI {l : Addr} {items : Array Value} (ns : List Int) {Q : Value → Shared → Prop} (hh : A.handled = none) (hl : s.heap.IsList l items) (hit : IntsAre items.toList ns) (hb : ns.length + 1 < scanBound)
    (h : ∀ (h' : Heap) (tk c : Nat), SetR w h' s.heap.objs.size (fun j => decide (j ∈ ns)) c → c ≤ ns.length → (∀ b o, s.heap.get? b = some o → h'.get? b = some o) → Q (.ref s.heap.objs.size) { s with heap := h', toks := tk }) :
    wpAny (model P w) A (call (.type "set") [.ref l]) Q E s := by
  have hisz : items.size = ns.length := by
    have q := IntsAre.length hit
    rw [Array.length_toList] at q
    exact q
  obtain ⟨c, tl, hmro⟩ := PySem.F.called_set.mro
  have hmade := PySem.F.called_set.made
  have hsub := PySem.F.called_set.sub
  refine wpAny_call (codeAny_of_tree ?_)
  show wpAny _ _ (callAny (.type "set") _) _ _ _
  refine wpAny_pure ⟨Code.quiet_builtin _ (by decide +kernel), codeAny_builtin PySem.F.entry_type_call ?_⟩
  rw [Around.under_plain (weight_type_call_type "set" [.ref l] []) rfl]
  have h1 := PySem.F.called_set.notType
  have h2 := PySem.F.called_set.canCreate
  have hct := PySem.F.typeCall_set_1 (.ref l)
  repeat (any_goals (first | assumption | wp_step))

  refine codeAny_mono (code_set_led1 (.ref l) (E := E) (Q₁ := fun obj s₁ => obj = .ref s.heap.objs.size ∧ s₁ = { s with heap := s.heap.push { cls := .type "set", dict := none, data := .set #[] 0 (.fresh 0 0 (!w.params.followText "set-order")) } }) ⟨rfl, rfl⟩) fun r s₁ hr => ?_
  cases r with
  | error e => exact hr
  | ok fl =>
    cases fl with
    | ret obj =>
      obtain ⟨rfl, rfl⟩ := hr
      have hS : (s.heap.push { cls := .type "set", dict := none, data := .set #[] 0 (.fresh 0 0 (!w.params.followText "set-order")) }).get? s.heap.objs.size = some { cls := .type "set", dict := none, data := .set #[] 0 (.fresh 0 0 (!w.params.followText "set-order")) } := Heap.get?_push_size _ rfl
      have hT : Shared.TypeIs { s with heap := s.heap.push { cls := .type "set", dict := none, data := .set #[] 0 (.fresh 0 0 (!w.params.followText "set-order")) } } (.ref s.heap.objs.size) "set" := ⟨_, hS, rfl⟩
      have hli := PySem.F.called_set.init.lookup
      have hbi := PySem.F.called_set.init.bind (.ref s.heap.objs.size)
      repeat (any_goals (first | assumption | wp_step))

      refine codeAny_mono (codeAny_call_builtin (R := wants (fun r s₂ => r = .none ∧ ∃ h' tk c, s₂ = { s with heap := h', toks := tk } ∧ SetR w h' s.heap.objs.size (fun j => decide (j ∈ ns)) c ∧ c ≤ ns.length ∧
          (∀ b o, s.heap.get? b = some o → h'.get? b = some o)) E) PySem.F.called_set.init.plain PySem.F.entry_set_init (check_set_init_1 hT ?_)) fun r₂ s₂ hr₂ => ?_
      · obtain ⟨ol, hol, hcl, nl, hdl⟩ := hl
        obtain ⟨ocls, odict, odata, oslots⟩ := ol
        simp only at hcl hdl
        subst hcl; subst hdl
        have hol' : (s.heap.push { cls := .type "set", dict := none, data := .set #[] 0 (.fresh 0 0 (!w.params.followText "set-order")) }).get? l = some { cls := .type "list", dict := odict, data := .seq items nl, slots := oslots } := Heap.get?_push_of_some _ hol
        have hsls := PySem.F.sub_list_set
        have hslf := PySem.F.sub_list_frozenset
        have hne : (Value.type "list" == Value.type "dict") = false := by decide
        have hl1 : (s.heap.push { cls := .type "set", dict := none, data := .set #[] 0 (.fresh 0 0 (!w.params.followText "set-order")) }).IsList l items := ⟨_, hol', rfl, nl, rfl⟩
        unfold Builtin.«set.__init__» noKeywords Builtin.Frozenset.updateFrom
        generalize hPI : pyIter = PI
        wp_walk
        subst hPI

        refine wpAny_pyIter_list hl1 ?_
        refine wpAny_bind (wpAny_runValue ?_)
        have hlS : l < s.heap.objs.size := Heap.lt_size hol
        have hh3 : A.in1.in1.in1.handled = none := by simp [hh]
        have hz1 : (s.heap.push { cls := .type "set", dict := none, data := .set #[] 0 (.fresh 0 0 (!w.params.followText "set-order")) }).objs.size = s.heap.objs.size + 1 := Heap.size_push ..
        have hneI : l ≠ (s.heap.push { cls := .type "set", dict := none, data := .set #[] 0 (.fresh 0 0 (!w.params.followText "set-order")) }).objs.size := by
          rw [Heap.size_push]; exact Nat.ne_of_lt (Nat.lt_succ_of_lt hlS)
        have hSf : s.heap.objs.size ∉ [(s.heap.push { cls := .type "set", dict := none, data := .set #[] 0 (.fresh 0 0 (!w.params.followText "set-order")) }).objs.size, l] := by
          rw [Heap.size_push]; simp only [List.mem_cons, List.mem_singleton, List.not_mem_nil, or_false, not_or]
          exact ⟨Nat.ne_of_lt (Nat.lt_succ_self _), Nat.ne_of_gt hlS⟩
        have hval : ∀ (i : Nat) (v : Value), items[i]? = some v → ∃ k t, ns[i]? = some k ∧ v = .int k t := fun i v hv => by
          have hi : i < ns.length := by rw [← hisz]; exact (Array.getElem?_eq_some_iff.mp hv).1
          obtain ⟨t, e⟩ := PyProof.Rows.IntsAre.int_at hit i v (by rw [Array.getElem?_toList]; exact hv)
          refine ⟨ns[i], t, List.getElem?_eq_getElem hi, ?_⟩
          rw [e, List.getD_eq_getElem?_getD, List.getElem?_eq_getElem hi] <;> rfl
        refine set_update_ints ((Walks.list hh3 _ l hneI items).toS) s.heap.objs.size
          hSf ns hisz hb hval (items.size - 0) 0 _ (by omega) (Nat.zero_le _)
          ⟨⟨_, Heap.get?_push_size _ rfl, rfl, rfl⟩, (hl1.push _)⟩ ?hS0 ?hR
        case hS0 =>
          have hget : ((s.heap.push { cls := .type "set", dict := none, data := .set #[] 0 (.fresh 0 0 (!w.params.followText "set-order")) }).push { cls := .type "list_iterator", data := .fields #[.ref l, .int 0 0] }).get? s.heap.objs.size
              = some { cls := .type "set", dict := none, data := .set #[] 0 (.fresh 0 0 (!w.params.followText "set-order")) } := Heap.get?_push_of_some _ hS
          exact ⟨0, Nat.le_refl 0, setR_new_at hget⟩
        case hR =>
          intro s' c' hm hc' hS'
          obtain ⟨h', g2, d', tk', os'⟩ := s'
          have eg : g2 = s.gens := hm.gens
          have ed : d' = s.drawn := hm.drawn
          have eo : os' = s.os := hm.os
          subst eg; subst ed; subst eo
          show wpAny _ _ _ _ _ _
          refine wpAny_pure ?_
          show wpAny _ _ (ret Value.none) _ _ _
          rw [hisz] at hc'
          refine wpAny_pure ⟨rfl, h', tk', c', rfl, hS', hc', fun b o e => ?_⟩
          have hb0 : b < s.heap.objs.size := Heap.lt_size e
          have hb1 : b ≠ s.heap.objs.size := Nat.ne_of_lt hb0
          have hb2 : b ≠ (s.heap.push { cls := .type "set", dict := none, data := .set #[] 0 (.fresh 0 0 (!w.params.followText "set-order")) }).objs.size := by
            rw [Heap.size_push]; exact Nat.ne_of_lt (Nat.lt_succ_of_lt hb0)
          exact hm.heap b o (by simp only [List.mem_cons, List.mem_singleton, List.not_mem_nil, or_false, not_or]; exact ⟨hb1, hb2⟩) (Heap.get?_push_of_some _ (Heap.get?_push_of_some _ e))

      · cases r₂ with
        | error e => exact hr₂
        | ok fl₂ =>
          cases fl₂ with
          | ret r =>
            obtain ⟨rfl, h', tk, c', rfl, hS', hc', hk'⟩ := hr₂
            repeat (any_goals (first | assumption | wp_step))
            exact h _ _ _ hS' hc' hk'
          | _ => exact hr₂.elim
    | _ => exact hr.elim

end
section
variable {X : Cx}
def tSortSetI (K : PySem.W.Frag) (ta : TE) : TE := fun σ H Q => ta σ H fun x H1 => ∃ (l : Addr) (ns : List Int), x = V.ref l ∧ SqL K H1 l (ns.map V.int) ∧ ns.length < 64 ∧ ∀ (ms : List Int) (p : Addr), (∀ k, k ∈ ms → k ∈ ns) → ms.length ≤ ns.length → H1 p = none → Q (.ref p) (upd H1 p (.lst (ms.map V.int)))
theorem pe_sortedSetI {a : Expr} {ta : TE} {p p2 q pos : Pos} (hc : X.calm = true) (hg : Gl X "sorted") (hm : X.mg "sorted" = none) (hg2 : Gl X "set") (hm2 : X.mg "set" = none) (ha : PE X a ta)
    (na : starEach [a] X.env = (false, eval a X.env) :: starEach [] X.env := by rfl) : PE X (.Call (.Name "sorted" p) [.Call (.Name "set" p2) [a] [] q] [] pos) (tSortSetI X.K ta) := by
  refine ⟨fun pins s σ H Q I h => ?_⟩
  refine Call_ (ld_blt I hg hm (by decide +kernel : bootBuiltins "sorted" = some (.builtin "sorted")) ?_)
  refine PyProof.Rows.callWith_builtin1 (PyProof.Rows.args_cons ?_ rfl) rfl rfl
  refine Call_ (ld_blt I hg2 hm2 PyProof.Rows.boot_set ?_)
  refine PyProof.Rows.callWith_type1 (PyProof.Rows.args_cons (thn (ha.run pins s σ H _ I h) fun v s1 ⟨x, H1, I1, r1, q1⟩ => PyProof.Rows.args_nil ?_) na) na rfl
  obtain ⟨l, ns, rfl, hq, h1, q1⟩ := q1
  cases r1
  obtain ⟨its, r, pl, hz⟩ := I1.list hq
  refine call_set_lstI ns (I1.ok.hd hc) pl.isList (by simpa using r.ints) (by unfold scanBound; omega) fun h' tk c hS hcl hk => ?_
  refine PyProof.Rows.args_nil ?_
  have I2 : Inv X pins σ H1 { s1 with heap := h', toks := tk } := I1.kept fun b o e => hk b o e
  refine sorted_set (s := { s1 with heap := h', toks := tk }) hS (I1.ok.hd hc) (by omega) fun s' p out c' ms k g o hp hgp hi hs hmm hl => ?_
  have hlen : (ms.map V.int).length ≤ sizeLine := by rw [List.length_map, hl, sizeLine_eq]; omega
  have hn : H1 p = none := I2.hok.fresh hp
  have J : Inv X pins σ (upd H1 p (.lst (ms.map V.int))) { ({ s1 with heap := h', toks := tk } : Shared) with heap := s'.heap, gens := s'.gens, drawn := s'.drawn, toks := s'.toks } :=
    I2.call (ch := []) (Un.laid k hp hn) (I2.hok.laid k hp ⟨hlen, out.toList, c', vals_of_ints hi, hgp⟩) (by rw [g]; exact I2.bare) (fun _ z => nomatch z)
  have e : s' = { ({ s1 with heap := h', toks := tk } : Shared) with heap := s'.heap, gens := s'.gens, drawn := s'.drawn, toks := s'.toks } := by
    cases s'
    cases s1
    cases o
    rfl
  rw [e]
  exact ⟨.ref p, _, J, rfl, q1 ms p (fun k hk => of_decide_eq_true ((hmm k).mp hk)) (by omega) hn⟩
end
end Mm

set_option maxHeartbeats 4000000
namespace Mm
open PySem PySem.Spec L2 MM
open PyProof.Rows hiding St
/-- a def with defaults -/
structure GD (P : Program) (w : World) (K : PySem.W.Frag) (mg : Str → Option Value) (base : Heap) (k : Nat) (x : Str) (ps : List Str) (dvs : List V) (sp : Sp) : Prop where
  ok : ∃ f fd ds, mg x = some (.ref f) ∧ PySem.W.keepIn K (.ref f) = true ∧ Binds K fd ps ds ∧ Vals dvs ds ∧ FnOk P w K mg base CX0 k f fd ps sp
theorem pe_gD {X : Cx} {k : Nat} {x : Str} {ps : List Str} {dvs : List V} {sp : Sp} {p pos : Pos} {e : Expr} {es : List Expr} {t : TA} (F : GD X.prog X.w X.K X.mg X.base k x ps dvs sp) (hr : Room k X.A) (hg : Gl X x) (ha : PA X (e :: es) t) (hdb : (x == ("__debug__" : Str)) = false := by decide)
    (he : starEach (e :: es) X.env = (false, eval e X.env) :: starEach es X.env := by rfl) (hpl : (backTo pos (starEach es X.env)).any (·.1) = false := by rfl) :
    PE X (.Call (.Name x p) (e :: es) [] pos) (tCall sp dvs E0 t) := by
  obtain ⟨f, fd, ds, h1, h2, h3, h4, h5⟩ := F.ok
  exact pe_call h5 hr hg h1 h2 h3 h4 pass0 ha hdb he hpl
def FnDf (K : PySem.W.Frag) (mg : Str → Option Value) (x : Str) (st : Stmt) (dvs : List V) (kws : List (Str × V)) : Prop :=
  ∃ f fd, mg x = some (.ref f) ∧ FunD K x x (defArgs st) (defBody st) (defScope st) dvs kws f fd
theorem ok_ofD {P : Program} {w : World} {K : PySem.W.Frag} {mg : Str → Option Value} {base : Heap} {x qual : Str} {st : Stmt} {dvs : List V} {kws : List (Str × V)} {f : Addr} {fd : FuncData} {N ps : List Str} {k : Nat} {sp : Sp} (F : FunD K x qual (defArgs st) (defBody st) (defScope st) dvs kws f fd) (S : FnScope N ps (defScope st)) (len : ∀ vs H Q E, sp vs H Q E → vs.length = ps.length)
    (hbody : ∀ (cdv : Value) (A : Around) (outer : List Env) (s : Shared) (H : Hp) (vs : List V) (Q : VK) (E : XK), Room k (A.deeper (envOfC qual (defScope st) s.heap.objs.size f cdv)) → sp vs H Q E →
      ∃ t, PSs (cxOf CX0 P w K mg base N qual (defScope st) f cdv A outer s H E).nox (defBody st) t ∧ t { nx := fun _ H' => Q .non H', rt := Q } (start N vs) H) : FnOk P w K mg base CX0 (k + 1) f fd ps sp :=
  F.ok S len fun cdv A outer s H vs Q E hr h => let ⟨t, h1, h2⟩ := hbody cdv A outer s H vs Q E hr h; ⟨t, h1.nox, h2⟩
/-- friends: who stays apart -/
def ApFr (c : CM) (pat : List Nat) (fr : Nat → Nat) : Prop := ∀ x y, (fr x).testBit y = true ↔ x < c.n ∧ y < c.n ∧ Apart c pat x y
theorem ap_fr {c : CM} {pat ms : List Nat} (h : ApMs c pat ms) : ApFr c pat (frOf ms) := by
  intro x y
  by_cases hx : x < c.n
  · obtain ⟨m, h1, h2, h3⟩ := h.2 x hx
    have e : frOf ms x = m := by
      unfold frOf
      rw [List.getD_eq_getElem?_getD, h1]
      rfl
    rw [e, h3]
    exact ⟨fun z => ⟨hx, z⟩, fun z => z.2⟩
  · have e : frOf ms x = 0 := by
      unfold frOf
      rw [List.getD_eq_getElem?_getD, List.getElem?_eq_none (by rw [h.1]; omega)]
      rfl
    rw [e, Nat.zero_testBit]
    exact ⟨(fun z => nomatch z), fun z => absurd z.1 hx⟩
theorem ap_sym {c : CM} {pat : List Nat} {fr : Nat → Nat} (h : ApFr c pat fr) : Sym fr := by
  refine ⟨fun a b hab => ?_, fun a => ?_⟩
  · have := (h a b).mp hab
    exact (h b a).mpr ⟨this.2.1, this.1, this.2.2.comm⟩
  · cases e : (fr a).testBit a with
    | false => rfl
    | true => exact absurd rfl ((h a a).mp e).2.2.1
section
variable {P : Program} {w : World} {K : PySem.W.Frag} {mg : Str → Option Value} {base : Heap} {CC CT CP : Addr}
abbrev s_greatest_book : Stmt := (top 48)
abbrev N_greatest_book : List Str := ["cast", "pattern"]
theorem sc_greatest_book : FnScope N_greatest_book ["cast", "pattern"] (defScope s_greatest_book) := ⟨rfl, rfl, rfl, by decide +kernel, rfl, by decide +kernel, by decide +kernel⟩
def sp_greatest (CC CT : Addr) : Sp := fun vs H Q _ => ∃ (a : Addr) (c : CM) (pat : List Nat), vs = [.ref a, .str (strOf pat)] ∧ CastIs CC CT H a c ∧ c.Ok ∧ PatOk c pat ∧
  ∀ r H' fr l, Same H H' → H r = none → H' r = some (.lst (vn l)) → First fr c.n l → ApFr c pat fr → Q (.ref r) H'
theorem g_greatest_book (F : Fn K mg "greatest_book" s_greatest_book) (B : Blt mg) (Tc : TabC K mg CT) (G_apart_words : G P w K mg base 7 "apart_words" ["cast", "pattern"] (sp_apart_words CC CT)) (G_first_friends : G P w K mg base 9 "first_friends" ["friends"] sp_ff) :
    G P w K mg base 10 "greatest_book" ["cast", "pattern"] (sp_greatest CC CT) := by
  refine g_of F sc_greatest_book (fun _ _ _ _ _ _ us hl => match us, hl with | [_, _], _ => rfl) (fun vs H Q E h => ?_) (fun f cdv A outer s H vs Q E hr h => ?_)
  · obtain ⟨a, c, pat, rfl, _⟩ := h
    rfl
  · obtain ⟨a, c, pat, rfl, hC, ok, hp, k⟩ := h
    refine ⟨_, (pss_one (ps_ret (pe_g G_first_friends (hr.mono (by decide)) (by rfl) (pa_cons (pe_callTy (call_list_ofK (K := K) rfl) (by rfl) B.b_list (by decide +kernel) (pa_cons (pe_fldK (K := K) rfl (pe_g G_apart_words (hr.mono (by decide)) (by rfl) (pa_cons (pv 0) (pa_cons (pv 1) pa_nil))) rfl) pa_nil)) pa_nil)))), ?_⟩
    refine ⟨_, rfl, _, rfl, a, c, pat, rfl, hC, ok, hp, fun t ms H1 s1 hT hA => ?_⟩
    obtain ⟨dx, m, cc, ht1, ht2⟩ := id hT
    refine ⟨t, CT, dx, _, _, rfl, ht1, Tc.cl, Tc.nMasks, rfl, m, _, rfl, .inr (SqT.of ht2), fun l hl => ?_⟩
    have s2 : Same H1 (upd H1 l (.lst (vn ms))) := same_new hl
    have fr := ap_fr hA
    refine ⟨l, ms, c.n, rfl, upd_same, ok.n6, hA.1, ap_sym fr, fun f hf => ?_, fun r H' bk s3 hr hR hF => k r H' (frOf ms) bk (s1.trans (s2.trans s3)) ((s1.trans s2).free hr) hR hF fr⟩
    obtain ⟨i, hi, e⟩ := List.getElem_of_mem hf
    obtain ⟨m', h1, h2, _⟩ := hA.2 i (by rw [← hA.1]; exact hi)
    rw [List.getElem?_eq_getElem hi, e] at h1
    cases h1
    exact h2
abbrev s_words_of : Stmt := (top 49)
abbrev N_words_of : List Str := ["book", "word"]
theorem sc_words_of : FnScope N_words_of ["book"] (defScope s_words_of) := ⟨rfl, rfl, rfl, by decide +kernel, rfl, by decide +kernel, by decide +kernel⟩
def sp_words_of (K : PySem.W.Frag) : Sp := fun vs H Q _ => ∃ (b : Addr) (bk : List Nat), vs = [.ref b] ∧ SqL K H b (vn bk) ∧ bk.length ≤ 6 ∧ ∀ r H' l, Same H H' → H r = none → H' r = some (.lst (vn l)) → (∀ x ∈ l, x ∈ bk) → Q (.ref r) H'
theorem ints_nat {bk : List Nat} : ∀ {ms : List Int}, (∀ k, k ∈ ms → k ∈ bk.map (fun x : Nat => (x : Int))) → ∃ l : List Nat, ms.map V.int = vn l ∧ ∀ x ∈ l, x ∈ bk
  | [], _ => ⟨[], rfl, fun x hx => nomatch hx⟩
  | m :: ms, h => by
    obtain ⟨l, h1, h2⟩ := ints_nat (ms := ms) fun k hk => h k (List.mem_cons_of_mem _ hk)
    obtain ⟨x, hx, rfl⟩ := List.mem_map.mp (h m List.mem_cons_self)
    exact ⟨x :: l, by rw [List.map_cons, h1]; rfl, fun y hy => (List.mem_cons.mp hy).elim (fun e => by rw [e]; exact hx) (h2 y)⟩
theorem g_words_of (F : Fn K mg "words_of" s_words_of) (B : Blt mg) : G P w K mg base 1 "words_of" ["book"] (sp_words_of K) := by
  refine g_of F sc_words_of (fun _ _ _ _ _ _ us hl => match us, hl with | [_], _ => rfl) (fun vs H Q E h => ?_) (fun f cdv A outer s H vs Q E hr h => ?_)
  · obtain ⟨b, bk, rfl, _⟩ := h
    rfl
  · obtain ⟨b, bk, rfl, hb, hl6, k⟩ := h
    refine ⟨_, (pss_one (ps_ret (pe_sortedSetI rfl (by rfl) B.b_sorted (by rfl) B.b_set (pe_lc (own := [("word", 1)]) rfl sc_words_of.nd (pi_listK (K := K) rfl (pv 0)) (blkOk_by (N := N_words_of) (sc := defScope s_words_of) (by decide +kernel)) (fun _ _ _ _ _ => (pg_name (i := 1) sc_words_of.nd rfl (Or.inl rfl))) (fun _ _ _ _ _ => pts_nil) (fun _ _ _ _ _ => (pe_callTy call_int1 (by rfl) B.b_int (by decide +kernel) (pa_cons (pv 1) pa_nil))))))), ?_⟩
    refine ⟨_, rfl, b, rfl, ⟨_, hb⟩, fun D hD => blk_w walk_list (fun i H' => LB H D H' (vn (bk.take i))) (LB.start hD) (fun i H' _ Lb => Lb.sm.seq hb) ?_ ?_⟩
    · rintro i z Ha Hb hi Lb ⟨rfl, hz⟩ N hN
      obtain ⟨x, hx, rfl⟩ := vn_get hz
      refine ⟨rfl, ?_⟩
      refine ⟨_, rfl, .inl ⟨_, rfl, _, Lb.at_, small_of (m := 6) (by rw [List.length_map, List.length_take]; omega), hN _ ?_⟩⟩
      have := Lb.snoc (vi x)
      rw [take_get hx, vn_app]
      exact this
    · rintro H1 Lb
      rw [take_all (by rw [List.length_map])] at Lb
      refine ⟨D, bk.map (fun x : Nat => (x : Int)), rfl, ?_, by rw [List.length_map]; omega, fun ms p hms hl hp => ?_⟩
      · have e : (bk.map (fun x : Nat => (x : Int))).map V.int = vn bk := by rw [List.map_map]; rfl
        rw [e]
        exact SqL.of Lb.at_
      · obtain ⟨l, h1, h2⟩ := ints_nat hms
        exact k p _ l (same_upd Lb.sm (Lb.sm.free hp)) (Lb.sm.free hp) (by rw [upd_same, h1]) h2
abbrev s_check_book : Stmt := (top 50)
abbrev N_check_book : List Str := ["cast", "pattern", "book"]
theorem sc_check_book : FnScope N_check_book ["cast", "pattern", "book"] (defScope s_check_book) := ⟨rfl, rfl, rfl, by decide +kernel, rfl, by decide +kernel, by decide +kernel⟩
def sp_check_book (K : PySem.W.Frag) (CC CT : Addr) : Sp := fun vs H Q _ => ∃ (a b : Addr) (c : CM) (pat bk : List Nat), vs = [.ref a, .str (strOf pat), .ref b] ∧ CastIs CC CT H a c ∧ PatOk c pat ∧ SqL K H b (vn bk) ∧ (∀ x ∈ bk, x < c.n) ∧ ∀ H', Same H H' → Q .non H'
theorem g_check_book (F : Fn K mg "check_book" s_check_book) (Cc : CastC K mg CC) (G_check_pattern : G P w K mg base 2 "check_pattern" ["cast", "pattern"] (sp_check_pattern CC CT)) (G_check_words : G P w K mg base 2 "check_words" ["size", "words"] (sp_check_words K)) :
    G P w K mg base 3 "check_book" ["cast", "pattern", "book"] (sp_check_book K CC CT) := by
  refine g_of F sc_check_book (fun _ _ _ _ _ _ us hl => match us, hl with | [_, _, _], _ => rfl) (fun vs H Q E h => ?_) (fun f cdv A outer s H vs Q E hr h => ?_)
  · obtain ⟨a, b, c, pat, bk, rfl, _⟩ := h
    rfl
  · obtain ⟨a, b, c, pat, bk, rfl, hC, hp, hb, hlt, k⟩ := h
    obtain ⟨fo, E', hCA, _⟩ := id hC
    obtain ⟨dx, ro, ha, hro⟩ := hCA.ins
    refine ⟨_, (pss_cons (ps_expr (pe_g G_check_pattern (hr.mono (by decide)) (by rfl) (pa_cons (pv 0) (pa_cons (pv 1) pa_nil))))
      (pss_one (ps_expr (pe_g G_check_words (hr.mono (by decide)) (by rfl) (pa_cons (pe_fldK (K := K) rfl (pv 0) rfl) (pa_cons (pv 2) pa_nil)))))), ?_⟩
    refine ⟨_, rfl, _, rfl, a, c, pat, rfl, hC, hp, fun H1 s1 => ?_⟩
    exact ⟨_, rfl, a, CC, dx, _, _, rfl, s1 _ _ ha, Cc.cl, Cc.nSize, rfl, _, rfl, c.n, b, bk, rfl, s1.seq hb, hlt, k H1 s1⟩
abbrev s_clash_in : Stmt := (top 51)
abbrev N_clash_in : List Str := ["cast", "pattern", "book", "words", "low", "high", "row"]
theorem sc_clash_in : FnScope N_clash_in ["cast", "pattern", "book"] (defScope s_clash_in) := ⟨rfl, rfl, rfl, by decide +kernel, rfl, by decide +kernel, by decide +kernel⟩
def sp_clash (K : PySem.W.Frag) (CC CT : Addr) : Sp := fun vs H Q _ => ∃ (a b : Addr) (c : CM) (pat bk : List Nat), vs = [.ref a, .str (strOf pat), .ref b] ∧ CastIs CC CT H a c ∧ c.Ok ∧ PatOk c pat ∧ SqL K H b (vn bk) ∧ bk.length ≤ 6 ∧ (∀ x ∈ bk, x < c.n) ∧
  (∀ x ∈ bk, ∀ y ∈ bk, x < y → ¬ Melt c pat x y) ∧ ∀ H', Same H H' → Q .non H'
theorem g_clash_in (F : Fn K mg "clash_in" s_clash_in) (B : Blt mg) (G_words_of : G P w K mg base 1 "words_of" ["book"] (sp_words_of K)) (G_least_melt : G P w K mg base 7 "least_melt" ["cast", "pattern", "first", "second"] (sp_least CC CT)) :
    G P w K mg base 8 "clash_in" ["cast", "pattern", "book"] (sp_clash K CC CT) := by
  refine g_of F sc_clash_in (fun _ _ _ _ _ _ us hl => match us, hl with | [_, _, _], _ => rfl) (fun vs H Q E h => ?_) (fun f cdv A outer s H vs Q E hr h => ?_)
  · obtain ⟨a, b, c, pat, bk, rfl, _⟩ := h
    rfl
  · obtain ⟨a, b, c, pat, bk, rfl, hC, ok, hp, hb, h6, hlt, hno, k⟩ := h
    refine ⟨_, (pss_cons (ps_set (i := 3) sc_clash_in.nd rfl (Or.inl rfl) (pe_g G_words_of (hr.mono (by decide)) (by rfl) (pa_cons (pv 2) pa_nil)))
      (pss_cons (ps_for PassesOwn.never rfl (pi_listK (K := K) rfl (pv 3)) (pg_name (i := 4) sc_clash_in.nd rfl (Or.inl rfl)) (pss_one (ps_for PassesOwn.never rfl (pi_listK (K := K) rfl (pv 3)) (pg_name (i := 5) sc_clash_in.nd rfl (Or.inl rfl)) (pss_one (ps_if (pt_cmpR op_lt (pv 4) (pv 5) (nomark _)) (pss_cons (ps_set (i := 6) sc_clash_in.nd rfl (Or.inl rfl) (pe_g G_least_melt (hr.mono (by decide)) (by rfl) (pa_cons (pv 0) (pa_cons (pv 1) (pa_cons (pv 4) (pa_cons (pv 5) pa_nil))))))
      (pss_one (ps_if (pt_cmpR op_notN (pv 6) pe_non (nomark _)) (pss_one (ps_ret (pe_tup (pa_cons (pv 4) (pa_cons (pv 5) (pa_cons (pv 6) pa_nil)))))) pss_nil))) pss_nil)))))
      (pss_one (ps_ret pe_non)))), ?_⟩
    refine ⟨_, rfl, b, bk, rfl, hb, h6, fun r H1 l s1 hr hR hm => ?_⟩
    refine ⟨_, rfl, r, rfl, ⟨_, SqL.of hR⟩, for_list_w (K := K) (a := r) (xs := vn l) (fun i σ H' => ∃ v4 v5 v6, σ = [some (.ref a), some (.str (strOf pat)), some (.ref b), some (.ref r), v4, v5, v6] ∧ Same H H' ∧ H' r = some (.lst (vn l))) ⟨_, _, _, rfl, s1, hR⟩ (fun i σ H' _ ⟨_, _, _, _, _, h⟩ => SqL.of h) ?_ ?_⟩
    · rintro i z σ H2 hz ⟨v4, v5, v6, rfl, s2, hR2⟩ N hN
      obtain ⟨lo, hlo, rfl⟩ := vn_get hz
      refine ⟨_, rfl, r, rfl, ⟨_, SqL.of hR2⟩, for_list_w (K := K) (a := r) (xs := vn l) (fun i σ H' => ∃ v5 v6, σ = [some (.ref a), some (.str (strOf pat)), some (.ref b), some (.ref r), some (vi lo), v5, v6] ∧ Same H H' ∧ H' r = some (.lst (vn l))) ⟨_, _, rfl, s2, hR2⟩ (fun i σ H' _ ⟨_, _, _, _, h⟩ => SqL.of h) ?_ ?_⟩
      · rintro j z σ H3 hz ⟨v5, v6, rfl, s3, hR3⟩ N2 hN2
        obtain ⟨hi, hhi, rfl⟩ := vn_get hz
        have ml := hm lo (List.mem_of_getElem? hlo)
        have mh := hm hi (List.mem_of_getElem? hhi)
        refine ⟨_, rfl, _, rfl, _, _, rfl, rfl, _, rfl, iteD (fun c2 => ?_) fun _ => hN2 _ _ ⟨_, _, rfl, s3, hR3⟩⟩
        have lt : lo < hi := by omega
        refine ⟨_, rfl, _, rfl, _, rfl, _, rfl, a, c, pat, lo, hi, rfl, hC.same s3, ok, hp, lt, hlt hi mh, hno lo ml hi mh lt, fun H4 s4 => ?_⟩
        refine ⟨_, rfl, rfl, _, rfl, ?_⟩
        rw [decide_eq_true rfl]
        exact hN2 _ _ ⟨_, _, rfl, s3.trans s4, s4 _ _ hR3⟩
      · rintro σ H3 ⟨v5, v6, rfl, s3, hR3⟩
        exact hN _ _ ⟨_, _, _, rfl, s3, hR3⟩
    · rintro σ H2 ⟨v4, v5, v6, rfl, s2, hR2⟩
      exact k H2 s2
abbrev s_first_clash : Stmt := (top 52)
abbrev N_first_clash : List Str := ["cast", "pattern", "book", "informed"]
theorem sc_first_clash : FnScope N_first_clash ["cast", "pattern", "book", "informed"] (defScope s_first_clash) := ⟨rfl, rfl, rfl, by decide +kernel, rfl, by decide +kernel, by decide +kernel⟩
theorem g_first_clash (F : FnDf K mg "first_clash" s_first_clash [] [("informed", .str "")]) (Cc : CastC K mg CC) (G_check_book : G P w K mg base 3 "check_book" ["cast", "pattern", "book"] (sp_check_book K CC CT)) (G_Cast_informed : GM P w K mg base 10 CC "informed" ["self", "letters"] (sp_informed CC CT))
    (G_clash_in : G P w K mg base 8 "clash_in" ["cast", "pattern", "book"] (sp_clash K CC CT)) : GD P w K mg base 11 "first_clash" ["cast", "pattern", "book", "informed"] [.str ""] (fun vs H Q E => ∃ v, vs = v ++ [.str ""] ∧ sp_clash K CC CT v H Q E) := by
  obtain ⟨f, fd, hmg, FD⟩ := F
  have hB : ∃ ds, Vals (([("informed", V.str "")] : List (Str × V)).map (·.2)) ds ∧ Binds K fd ["cast", "pattern", "book", "informed"] ds := by
    refine FD.binds0 3 (List.cons_ne_nil _ _) rfl (fun D doc pm an cdv ct us ks h1 h2 => ?_)
    match us, h1, ks, h2 with
    | [a, b, c], _, [d], _ => exact ⟨_, _, _, _, _, _, rfl, rfl, rfl⟩
  obtain ⟨ds, hv, hb⟩ := hB
  refine ⟨f, fd, ds, hmg, FD.kp, hb, hv, ?_⟩
  refine ok_ofD FD sc_first_clash (fun vs H Q E h => ?_) (fun cdv A outer s H vs Q E hr h => ?_)
  · obtain ⟨v, rfl, a, b, c, pat, bk, rfl, _⟩ := h
    rfl
  · obtain ⟨v, rfl, a, b, c, pat, bk, rfl, hC, ok, hp, hb2, h6, hlt, hno, k⟩ := h
    obtain ⟨fo, E', hCA, _⟩ := id hC
    obtain ⟨dx, ro, ha, hro⟩ := hCA.ins
    refine ⟨_, (pss_cons (ps_expr (pe_g G_check_book (hr.mono (by decide)) (by rfl) (pa_cons (pv 0) (pa_cons (pv 1) (pa_cons (pv 2) pa_nil)))))
      (pss_one (ps_ret (pe_g G_clash_in (hr.mono (by decide)) (by rfl) (pa_cons (pe_methG Cc.cl G_Cast_informed (hr.mono (by decide)) (pv 0) (pa_cons (pv 3) pa_nil)) (pa_cons (pv 1) (pa_cons (pv 2) pa_nil))))))), ?_⟩
    refine ⟨_, rfl, _, rfl, _, rfl, a, b, c, pat, bk, rfl, hC, hp, hb2, hlt, fun H1 s1 => ?_⟩
    have ha1 := s1 _ _ ha
    refine ⟨_, rfl, a, dx, _, rfl, ha1, rfl, _, rfl, a, c, rfl, hC.same s1, ok, fun a' H2 s2 ha' hC2 => ?_⟩
    exact ⟨_, rfl, _, rfl, a', b, c, pat, bk, rfl, hC2, ok, hp, (s1.trans s2).seq hb2, h6, hlt, hno, fun H3 s3 => k H3 (s1.trans (s2.trans s3))⟩
end
end Mm

set_option maxHeartbeats 4000000
/-! the law: its box -/
namespace Mm
open PySem PySem.Spec L2 MM
open PyProof.Rows hiding St
def BoxAt (H : Hp) (b s : Addr) : Prop := ∃ (ns : List Int) (i : Nat) (d x : Int), H b = some (.lst [.ref s, vi i, .int d, .int x]) ∧ H s = some (.lst (ns.map V.int)) ∧ ns.length ≤ 63 ∧ s ≠ b
theorem BoxAt.same {H H' : Hp} {b s : Addr} (h : BoxAt H b s) (e : Same H H') : BoxAt H' b s := by
  obtain ⟨ns, i, d, x, h1, h2, h3, h4⟩ := h
  exact ⟨ns, i, d, x, e _ _ h1, e _ _ h2, h3, h4⟩
theorem BoxAt.box {H : Hp} {b s : Addr} (h : BoxAt H b s) : ∃ i d x, H b = some (.lst [.ref s, vi i, .int d, .int x]) := by
  obtain ⟨ns, i, d, x, h1, h2, h3, h4⟩ := h
  exact ⟨i, d, x, h1⟩
theorem BoxAt.scr {H : Hp} {b s : Addr} (h : BoxAt H b s) : ∃ u, H s = some u := by
  obtain ⟨ns, i, d, x, h1, h2, h3, h4⟩ := h
  exact ⟨_, h2⟩
theorem BoxAt.ne {H : Hp} {b s p : Addr} {o : HO} (h : BoxAt H b s) (hp : H p = some o) (hn : ∀ i d x, o ≠ .lst [.ref s, vi i, .int d, .int x]) : p ≠ b := by
  obtain ⟨i, d, x, h1⟩ := h.box
  intro e
  rw [e, h1] at hp
  exact hn i d x (Option.some.inj hp).symm
theorem BoxAt.nvn {H : Hp} {b s p : Addr} {l : List Nat} (h : BoxAt H b s) (hp : H p = some (.lst (vn l))) : p ≠ b := h.ne hp fun i d x e => by
  cases l <;> simp [vn] at e
theorem BoxAt.nrefs {H : Hp} {b s p : Addr} {l : List Addr} (h : BoxAt H b s) (hp : H p = some (.lst (l.map V.ref))) : p ≠ b := h.ne hp fun i d x e => by
  match l, e with
  | [], e => simp at e
  | [_], e => simp at e
  | _ :: _ :: _, e => simp at e
/-- the box has moved on, all else that stood stands -/
structure Bx (b s : Addr) (H H' : Hp) : Prop where
  bt : But b H H'
  at0 : BoxAt H b s
  at_ : BoxAt H' b s
theorem Bx.refl {b s : Addr} {H : Hp} (h : BoxAt H b s) : Bx b s H H := ⟨But.refl, h, h⟩
theorem Bx.trans {b s : Addr} {H H' H2 : Hp} (h : Bx b s H H') (h' : Bx b s H' H2) : Bx b s H H2 := ⟨h.bt.trans h'.bt, h.at0, h'.at_⟩
theorem Bx.of {b s : Addr} {H H' : Hp} (h : BoxAt H b s) (e : Same H H') : Bx b s H H' := ⟨But.of e, h, h.same e⟩
theorem Bx.sm {b s : Addr} {H H' H2 : Hp} (h : Bx b s H H') (e : Same H' H2) : Bx b s H H2 := h.trans (.of h.at_ e)
theorem Bx.free {b s l : Addr} {H H' : Hp} (h : Bx b s H H') (hl : H' l = none) : H l = none := by
  cases e : H l with
  | none => rfl
  | some u =>
    by_cases ne : l = b
    · obtain ⟨i, d, x, ho⟩ := h.at_.box
      rw [← ne, hl] at ho
      cases ho
    · rw [h.bt l u e ne] at hl
      cases hl
theorem Bx.new {b s l : Addr} {H H' : Hp} {o : HO} (h : Bx b s H H') (hl : H' l = none) : Bx b s H (upd H' l o) := h.sm (same_new hl)
theorem Bx.updN {b s l : Addr} {H H' : Hp} {o : HO} (h : Bx b s H H') (hl : H l = none) : Bx b s H (upd H' l o) := by
  obtain ⟨ns, i, d, x, h1, h2, h3, h4⟩ := h.at_
  obtain ⟨j, e, y, h5⟩ := h.at0.box
  obtain ⟨u, h6⟩ := h.at0.scr
  have n1 : b ≠ l := ne_of_none h5 hl
  have n2 : s ≠ l := ne_of_none h6 hl
  refine ⟨fun x u e n => ?_, h.at0, ⟨ns, i, d, x, by rw [upd_ne n1]; exact h1, by rw [upd_ne n2]; exact h2, h3, h4⟩⟩
  rw [upd_ne (ne_of_none e hl)]
  exact h.bt x u e n
theorem Bx.keep {b s p : Addr} {H H' : Hp} {o : HO} (h : Bx b s H H') (hp : H p = some o) (hn : ∀ i d x, o ≠ .lst [.ref s, vi i, .int d, .int x]) : H' p = some o := h.bt _ _ hp (h.at0.ne hp hn)
theorem Bx.vn {b s p : Addr} {H H' : Hp} {l : List Nat} (h : Bx b s H H') (hp : H p = some (.lst (vn l))) : H' p = some (.lst (vn l)) := h.bt _ _ hp (h.at0.nvn hp)
theorem Bx.refs {b s p : Addr} {H H' : Hp} {l : List Addr} (h : Bx b s H H') (hp : H p = some (.lst (l.map V.ref))) : H' p = some (.lst (l.map V.ref)) := h.bt _ _ hp (h.at0.nrefs hp)
/-- a list that grows while the box moves on -/
structure LX (b s : Addr) (H0 : Hp) (D : Addr) (H : Hp) (acc : List V) : Prop where
  bx : Bx b s H0 H
  nw : H0 D = none
  at_ : H D = some (.lst acc)
theorem LX.start {b s D : Addr} {H : Hp} (h : BoxAt H b s) (hD : H D = none) : LX b s H D (upd H D (.lst [])) [] := ⟨.of h (same_new hD), hD, upd_same⟩
theorem LX.nb {b s D : Addr} {H0 H : Hp} {acc : List V} (h : LX b s H0 D H acc) : D ≠ b := by
  obtain ⟨j, e, y, h5⟩ := h.bx.at0.box
  exact (ne_of_none h5 h.nw).symm
theorem LX.next {b s D : Addr} {H0 H H' : Hp} {acc : List V} (h : LX b s H0 D H acc) (e : Bx b s H H') : LX b s H0 D H' acc := ⟨h.bx.trans e, h.nw, e.bt _ _ h.at_ h.nb⟩
theorem LX.snoc {b s D : Addr} {H0 H : Hp} {acc : List V} (h : LX b s H0 D H acc) (v : V) : LX b s H0 D (upd H D (.lst (acc ++ [v]))) (acc ++ [v]) := ⟨h.bx.updN h.nw, h.nw, upd_same⟩
section
variable {P : Program} {w : World} {K : PySem.W.Frag} {mg : Str → Option Value} {base : Heap} {CC CT CP : Addr}
abbrev s_law_box : Stmt := (top 65)
abbrev N_law_box : List Str := ["_law_script", "_law_cell"]
theorem sc_law_box : FnScope N_law_box ["_law_script"] (defScope s_law_box) := ⟨rfl, rfl, rfl, by decide +kernel, rfl, by decide +kernel, by decide +kernel⟩
def sp_box (K : PySem.W.Frag) : Sp := fun vs H Q _ => ∃ (s : Addr) (ns : List Int), vs = [.ref s] ∧ SqL K H s (ns.map V.int) ∧ ns.length ≤ 63 ∧ ∀ b s' H', Same H H' → H b = none → BoxAt H' b s' → Q (.ref b) H'
theorem g_law_box (F : Fn K mg "_law_box" s_law_box) (B : Blt mg) : G P w K mg base 1 "_law_box" ["_law_script"] (sp_box K) := by
  refine g_of F sc_law_box (fun _ _ _ _ _ _ us hl => match us, hl with | [_], _ => rfl) (fun vs H Q E h => ?_) (fun f cdv A outer s H vs Q E hr h => ?_)
  · obtain ⟨s, ns, rfl, _⟩ := h
    rfl
  · obtain ⟨s, ns, rfl, hs, h63, k⟩ := h
    refine ⟨_, (pss_one (ps_ret (pe_lst (pa_cons (pe_lc (own := [("_law_cell", 1)]) rfl sc_law_box.nd (pi_listK (K := K) rfl (pe_slice (sl_listK (K := K) rfl) (pv 0) po_none (po_some pe_int))) (blkOk_by (N := N_law_box) (sc := defScope s_law_box) (by decide +kernel)) (fun _ _ _ _ _ => (pg_name (i := 1) sc_law_box.nd rfl (Or.inl rfl))) (fun _ _ _ _ _ => pts_nil) (fun _ _ _ _ _ => (pe_callB call_abs (by rfl) B.b_abs (by decide +kernel) (pa_cons (pe_callTy call_int1 (by rfl) B.b_int (by decide +kernel) (pa_cons (pv 1) pa_nil)) pa_nil)))) (pa_cons pe_int (pa_cons pe_int (pa_cons pe_int pa_nil))))))), ?_⟩
    obtain ⟨cs, ecs, hcl⟩ : ∃ cs : List Int, cutV (ns.map V.int) none (some 63) = cs.map V.int ∧ cs.length ≤ 63 := by
      refine ⟨(ns.drop (HT.sIx (ns.map V.int).length 0 none)).take (HT.sIx (ns.map V.int).length (ns.map V.int).length (some 63) - HT.sIx (ns.map V.int).length 0 none), ?_, ?_⟩
      · unfold cutV
        rw [List.map_take, List.map_drop]
      · rw [List.length_take, List.length_drop]; omega
    refine ⟨_, rfl, (63 : Int), rfl, s, _, rfl, hs, fun q hq => ?_⟩
    rw [ecs]
    have sq : Same H (upd H q (.lst (cs.map V.int))) := same_new hq
    have q1 : (upd H q (.lst (cs.map V.int))) q = some (.lst (cs.map V.int)) := upd_same
    generalize upd H q (.lst (cs.map V.int)) = H1 at sq q1
    refine ⟨q, rfl, ⟨_, SqL.of q1⟩, fun D hD => blk_w walk_list (fun i H' => ∃ ms : List Int, LB H1 D H' (ms.map V.int) ∧ ms.length = i) ⟨[], LB.start hD, rfl⟩ (fun i H' _ ⟨_, Lb, _⟩ => SqL.of (Lb.sm _ _ q1)) ?_ ?_⟩
    · rintro i z Ha Hb hi ⟨ms, Lb, hml⟩ ⟨rfl, hz⟩ N hN
      rw [List.getElem?_map] at hz
      obtain ⟨x, hx, rfl⟩ := Option.map_eq_some_iff.mp hz
      have hi' := len_get hx
      refine ⟨rfl, ?_⟩
      refine ⟨_, rfl, .inl ⟨_, rfl, _, rfl, _, Lb.at_, small_of (m := 63) (by rw [List.length_map]; omega), hN _ ⟨ms ++ [if x < 0 then -x else x], ?_, by rw [List.length_append, List.length_singleton, hml]⟩⟩⟩
      have := Lb.snoc (.int (if x < 0 then -x else x))
      rw [List.map_append]
      exact this
    · rintro H2 ⟨ms, Lb, hml⟩
      rw [List.length_map] at hml
      refine ⟨by show 4 ≤ sizeLine; exact le_of_small (m := 4) (Nat.le_refl _), fun b hb => ?_⟩
      have sb : Same H2 (upd H2 b (.lst [.ref D, .int 0, .int 0, .int 0])) := same_new hb
      have s02 := sq.trans Lb.sm
      exact k b D _ (s02.trans sb) (s02.free hb) ⟨ms, 0, 0, 0, upd_same, sb _ _ Lb.at_, by omega, ne_of_none Lb.at_ hb⟩
abbrev s_law_take : Stmt := (top 66)
abbrev N_law_take : List Str := ["_law_box_here", "_law_many", "_law_digit", "_law_cell"]
theorem sc_law_take : FnScope N_law_take ["_law_box_here", "_law_many"] (defScope s_law_take) := ⟨rfl, rfl, rfl, by decide +kernel, rfl, by decide +kernel, by decide +kernel⟩
def sp_take : Sp := fun vs H Q _ => ∃ (b s : Addr) (m : Nat), vs = [.ref b, vi m] ∧ 0 < m ∧ m ≤ 1000 ∧ BoxAt H b s ∧ ∀ r H', r < m → Bx b s H H' → Q (vi r) H'
theorem mod_vi {d : Int} {m : Nat} (hm : 0 < m) : V.int (d % (m : Int)) = vi (d % (m : Int)).toNat ∧ (d % (m : Int)).toNat < m := by
  have h1 : 0 ≤ d % (m : Int) := Int.emod_nonneg _ (by omega)
  have h2 : d % (m : Int) < m := Int.emod_lt_of_pos _ (by omega)
  refine ⟨?_, by omega⟩
  show V.int _ = V.int _
  congr 1
  omega
theorem g_law_take (F : Fn K mg "_law_take" s_law_take) (B : Blt mg) : G P w K mg base 1 "_law_take" ["_law_box_here", "_law_many"] sp_take := by
  refine g_of F sc_law_take (fun _ _ _ _ _ _ us hl => match us, hl with | [_, _], _ => rfl) (fun vs H Q E h => ?_) (fun f cdv A outer s H vs Q E hr h => ?_)
  · obtain ⟨b, sl, m, rfl, _⟩ := h
    rfl
  · obtain ⟨b, sl, m, rfl, hm, hm2, hBx, k⟩ := h
    have hBx0 := hBx
    obtain ⟨ns, i, d, x, hb, hs, h63, nsb⟩ := hBx
    have hmi : (0 : Int) < (m : Int) := by omega
    have hcd : CDiv 0 (m : Int) := ⟨hmi, by show (m : Int) < 1073741824; omega⟩
    refine ⟨_, (pss_cons (ps_if (pt_cmpR op_gt (pe_ix (ix_listK (K := K) rfl) (pv 0) pe_int (fun _ _ => rfl)) pe_int (nomark _)) (pss_cons (ps_set (i := 2) sc_law_take.nd rfl (Or.inl rfl) (pe_op op_mod (pe_callTy call_int1 (by rfl) B.b_int (by decide +kernel) (pa_cons (pe_ix (ix_listK (K := K) rfl) (pv 0) pe_int (fun _ _ => rfl)) pa_nil)) (pv 1)))
      (pss_cons (ps_asg (pe_op op_fdiv (pe_ix (ix_listK (K := K) rfl) (pv 0) pe_int (fun _ _ => rfl)) (pv 1)) (pg_sub (pv 0) pe_int set_list))
      (pss_one (ps_ret (pv 2))))) pss_nil)
      (pss_cons (ps_set (i := 3) sc_law_take.nd rfl (Or.inl rfl) pe_int)
      (pss_cons (ps_if (pt_cmpR op_lt (pe_ix (ix_listK (K := K) rfl) (pv 0) pe_int (fun _ _ => rfl)) (pe_callB (call_len_seqK (K := K) rfl) (by rfl) B.b_len PySem.boot_len (pa_cons (pe_ix (ix_listK (K := K) rfl) (pv 0) pe_int (fun _ _ => rfl)) pa_nil)) (nomark _)) (pss_cons (ps_set (i := 3) sc_law_take.nd rfl (Or.inl rfl) (pe_ix (ix_listK (K := K) rfl) (pe_ix (ix_listK (K := K) rfl) (pv 0) pe_int (fun _ _ => rfl)) (pe_ix (ix_listK (K := K) rfl) (pv 0) pe_int (fun _ _ => rfl)) (fun _ _ => rfl)))
      (pss_one (ps_asg (pe_op op_add (pe_ix (ix_listK (K := K) rfl) (pv 0) pe_int (fun _ _ => rfl)) pe_int) (pg_sub (pv 0) pe_int set_list)))) pss_nil)
      (pss_cons (ps_if (pt_cmpR op_ge (pv 3) (pe_op op_pow pe_int pe_int) (nomark _)) (pss_cons (ps_asg (pe_op op_fdiv (pv 3) (pv 1)) (pg_sub (pv 0) pe_int set_list))
      (pss_one (ps_ret (pe_op op_mod (pe_callTy call_int1 (by rfl) B.b_int (by decide +kernel) (pa_cons (pv 3) pa_nil)) (pv 1))))) pss_nil)
      (pss_cons (ps_asg (pe_op op_mod (pe_callTy call_int1 (by rfl) B.b_int (by decide +kernel) (pa_cons (pe_op op_add (pe_op op_mul (pe_ix (ix_listK (K := K) rfl) (pv 0) pe_int (fun _ _ => rfl)) pe_int) (pv 3)) pa_nil)) pe_int) (pg_sub (pv 0) pe_int set_list))
      (pss_one (ps_ret (pe_op op_mod (pe_callTy call_int1 (by rfl) B.b_int (by decide +kernel) (pa_cons (pe_op op_fdiv (pe_op op_mod (pe_callTy call_int1 (by rfl) B.b_int (by decide +kernel) (pa_cons (pe_op op_mul (pe_ix (ix_listK (K := K) rfl) (pv 0) pe_int (fun _ _ => rfl)) pe_int) pa_nil)) pe_int) pe_int) pa_nil)) (pv 1))))))))), ?_⟩
    refine ⟨_, rfl, b, _, (2 : Int), _, rfl, rfl, SqL.of hb, rfl, _, _, rfl, rfl, _, rfl, iteD (fun c => ?_) fun c => ?_⟩
    · refine ⟨_, rfl, b, _, (2 : Int), _, rfl, rfl, SqL.of hb, rfl, .inl ⟨_, rfl, _, rfl, _, _, rfl, rfl, hmi, ?_⟩⟩
      refine ⟨_, rfl, b, _, (2 : Int), _, rfl, rfl, SqL.of hb, rfl, _, rfl, _, _, rfl, rfl, hcd, _, rfl, b, _, (2 : Int), 2, rfl, rfl, hb, rfl, ?_⟩
      have e := mod_vi (d := d) hm
      refine ⟨_, rfl, ?_⟩
      show Q (V.int (d % (m : Int))) _
      rw [e.1]
      exact k _ _ e.2 ⟨But.upd, hBx0, ns, i, _, x, upd_same, by rw [upd_ne nsb]; exact hs, h63, nsb⟩
    · have hlen : (ns.map V.int).length = ns.length := List.length_map ..
      refine ⟨_, rfl, b, _, (1 : Int), _, rfl, rfl, SqL.of hb, rfl, ⟨_, rfl, b, _, (0 : Int), _, rfl, rfl, SqL.of hb, rfl, sl, _, rfl, .inl (SqL.of hs), ?_⟩⟩
      refine ⟨_, _, rfl, rfl, _, rfl, iteD (fun c2 => ?_) fun c2 => ?_⟩
      have hi : i < ns.length := by rw [hlen] at c2; omega
      obtain ⟨cv, hcv⟩ : ∃ cv, ns[i]? = some cv := ⟨_, List.getElem?_eq_getElem hi⟩
      have hix : atI (ns.map V.int) (i : Int) = some (V.int cv) := atI_nat (by rw [List.getElem?_map, hcv]; rfl)
      have q1 : (upd H b (.lst [.ref sl, .int ((i : Int) + 1), .int d, .int x])) b = some (.lst [.ref sl, vi (i + 1), .int d, .int x]) := upd_same
      have q2 : (upd H b (.lst [.ref sl, .int ((i : Int) + 1), .int d, .int x])) sl = some (.lst (ns.map V.int)) := by rw [upd_ne nsb]; exact hs
      have q3 : But b H (upd H b (.lst [.ref sl, .int ((i : Int) + 1), .int d, .int x])) := But.upd
      refine ⟨_, rfl, b, _, (0 : Int), _, rfl, rfl, SqL.of hb, rfl, _, rfl, b, _, (1 : Int), _, rfl, rfl, SqL.of hb, rfl, sl, ns.map V.int, (i : Int), .int cv, rfl, rfl, SqL.of hs, hix, ?_⟩
      refine ⟨_, rfl, b, _, (1 : Int), _, rfl, rfl, SqL.of hb, rfl, _, _, rfl, rfl, _, rfl, b, _, (1 : Int), 1, rfl, rfl, hb, rfl, ?_⟩
      rotate_left
      have q1 := hb
      have q2 := hs
      have q3 : But b H H := But.refl
      all_goals
        refine ⟨_, rfl, _, _, rfl, rfl, ⟨by decide, by decide, by decide⟩, _, _, rfl, rfl, _, rfl, iteD (fun c3 => ?_) fun c3 => ?_⟩
        · refine ⟨_, rfl, _, rfl, _, _, rfl, rfl, hcd, _, rfl, b, _, (2 : Int), 2, rfl, rfl, q1, rfl, ?_⟩
          refine ⟨_, rfl, .inl ⟨_, rfl, _, rfl, _, _, rfl, rfl, hmi, ?_⟩⟩
          refine cast (congrArg (fun v => Q v _) (mod_vi hm).1.symm) (k _ _ (mod_vi hm).2 ⟨q3.trans But.upd, hBx0, ns, _, _, x, upd_same, by rw [upd_ne nsb]; exact q2, h63, nsb⟩)
        · refine ⟨_, rfl, b, _, (3 : Int), _, rfl, rfl, SqL.of q1, rfl, _, _, rfl, rfl, .inr ⟨by decide, by decide⟩, _, rfl, _, _, rfl, rfl, .inl ⟨_, rfl, _, _, rfl, rfl, (by decide : (0 : Int) < 2147483647), _, rfl, b, _, (3 : Int), 3, rfl, rfl, q1, rfl, ?_⟩⟩
          refine ⟨_, rfl, b, _, (3 : Int), _, rfl, rfl, SqL.of upd_same, rfl, _, _, rfl, rfl, .inr ⟨by decide, by decide⟩, .inl ⟨_, rfl, _, _, rfl, rfl, (by decide : (0 : Int) < 2147483629), _, _, rfl, rfl, ⟨by decide, by decide⟩, .inl ⟨_, rfl, _, rfl, _, _, rfl, rfl, hmi, ?_⟩⟩⟩
          refine cast (congrArg (fun v => Q v _) (mod_vi hm).1.symm) (k _ _ (mod_vi hm).2 ⟨q3.trans But.upd, hBx0, ns, _, d, _, upd_same, by rw [upd_ne nsb]; exact q2, h63, nsb⟩)
end
end Mm

set_option maxHeartbeats 4000000
/-! the law: letters, words, outs -/
namespace Mm
open PySem PySem.Spec L2 MM
open PyProof.Rows hiding St
theorem str_poolC : Str.ofString "abcdefghijklmnopqrstuvwxyz" = strOf (List.range' 97 26) := by decide +kernel
theorem cut_to (l : List Nat) (i : Nat) : cutS (strOf l) none (some (i : Int)) = strOf (l.take i) := by
  unfold cutS
  rw [HT.sIx_none, HT.sIx_nat, str_len, List.drop_zero, Nat.sub_zero]
  show strOf (List.take (min i l.length) l.toArray.toList) = _
  rw [List.toList_toArray]
  congr 1
  rw [List.take_eq_take_iff]
  omega
theorem cut_from (l : List Nat) (i : Nat) : cutS (strOf l) (some ((i : Int) + 1)) none = strOf (l.drop (i + 1)) := by
  unfold cutS
  have e : ((i : Int) + 1) = ((i + 1 : Nat) : Int) := by omega
  rw [e, HT.sIx_none, HT.sIx_nat, str_len]
  show strOf (List.take (l.length - min (i + 1) l.length) (List.drop (min (i + 1) l.length) l.toArray.toList)) = _
  rw [List.toList_toArray, List.take_of_length_le (by rw [List.length_drop]; omega)]
  congr 1
  by_cases h : i + 1 ≤ l.length
  · rw [Nat.min_eq_left h]
  · rw [Nat.min_eq_right (by omega), List.drop_length, List.drop_eq_nil_of_le (by omega)]
theorem str_app (a b : List Nat) : strOf a ++ strOf b = strOf (a ++ b) := by
  show (⟨a.toArray ++ b.toArray⟩ : Str) = ⟨(a ++ b).toArray⟩
  rw [List.append_toArray]
theorem tyL {K : PySem.W.Frag} {H : Hp} {D : Addr} {xs : List V} (h : H D = some (.lst xs)) : tyV K "list" (.ref D) H := .inl ⟨rfl, _, SqL.of h⟩
section
variable {P : Program} {w : World} {K : PySem.W.Frag} {mg : Str → Option Value} {base : Heap} {CC CT CP : Addr}
abbrev s_law_letters : Stmt := (top 67)
abbrev N_law_letters : List Str := ["_law_box_here", "_law_many", "_law_pool", "_law_found", "_law_k", "_law_at"]
theorem sc_law_letters : FnScope N_law_letters ["_law_box_here", "_law_many"] (defScope s_law_letters) := ⟨rfl, rfl, rfl, by decide +kernel, rfl, by decide +kernel, by decide +kernel⟩
def sp_lets : Sp := fun vs H Q _ => ∃ (b s : Addr) (m : Nat), vs = [.ref b, vi m] ∧ m ≤ 6 ∧ BoxAt H b s ∧ ∀ q H' (fs : List Nat), Bx b s H H' → H q = none → H' q = some (.lst (fs.map vc)) → fs.length = m → fs.Nodup → (∀ l ∈ fs, 97 ≤ l ∧ l ≤ 122) → Q (.ref q) H'
theorem g_law_letters (F : Fn K mg "_law_letters" s_law_letters) (B : Blt mg) (G_law_take : G P w K mg base 1 "_law_take" ["_law_box_here", "_law_many"] sp_take) : G P w K mg base 2 "_law_letters" ["_law_box_here", "_law_many"] sp_lets := by
  refine g_of F sc_law_letters (fun _ _ _ _ _ _ us hl => match us, hl with | [_, _], _ => rfl) (fun vs H Q E h => ?_) (fun f cdv A outer s H vs Q E hr h => ?_)
  · obtain ⟨b, s, m, rfl, _⟩ := h
    rfl
  · obtain ⟨b, sl, m, rfl, hm, hB, k⟩ := h
    refine ⟨_, (pss_cons (ps_set (i := 2) sc_law_letters.nd rfl (Or.inl rfl) pe_str)
      (pss_cons (ps_set (i := 3) sc_law_letters.nd rfl (Or.inl rfl) (pe_lst pa_nil))
      (pss_cons (ps_for PassesOwn.never rfl (pi_range1 rfl B.b_range (pa_cons (pv 1) pa_nil)) (pg_name (i := 4) sc_law_letters.nd rfl (Or.inl rfl)) (pss_cons (ps_set (i := 5) sc_law_letters.nd rfl (Or.inl rfl) (pe_g G_law_take (hr.mono (by decide)) (by rfl) (pa_cons (pv 0) (pa_cons (pe_callB call_len_str (by rfl) B.b_len PySem.boot_len (pa_cons (pv 2) pa_nil)) pa_nil))))
      (pss_cons (ps_expr (pe_bm PySem.F.plainAttrs_list PySem.F.slot_list_append PySem.F.type_list_append mt_append (pv 3) (pa_cons (pe_ix ix_str (pv 2) (pv 5) (fun _ _ => rfl)) pa_nil)))
      (pss_one (ps_set (i := 2) sc_law_letters.nd rfl (Or.inl rfl) (pe_op op_add_str (pe_slice sl_str (pv 2) po_none (po_some (pv 5))) (pe_slice sl_str (pv 2) (po_some (pe_op op_add (pv 5) pe_int)) po_none)))))))
      (pss_one (ps_ret (pv 3)))))), ?_⟩
    refine ⟨Nat.zero_le _, fun D hD => ⟨_, rfl, _, rfl, by omega, by omega, for_w walk_r0 (fun i σ H' => ∃ (v4 v5 : Option V) (fs pool : List Nat), σ = [some (.ref b), some (vi m), some (.str (strOf pool)), some (.ref D), v4, v5] ∧ LX b sl H D H' (fs.map vc) ∧ fs.length = i ∧ (fs ++ pool).Perm (List.range' 97 26)) ?_ (fun _ _ _ _ _ => trivial) ?_ ?_⟩⟩
    · exact ⟨none, none, [], List.range' 97 26, congrArg (fun z => [some (V.ref b), some (vi m), some (V.str z), some (V.ref D), none, none]) str_poolC, LX.start hB hD, rfl, List.Perm.refl _⟩
    · rintro i x σ Ha Hb hi ⟨v4, v5, fs, pool, rfl, Lx, hfl, hp⟩ ⟨rfl, rfl⟩ N hN
      have hlen := hp.length_eq
      rw [List.length_append, List.length_range'] at hlen
      refine ⟨_, rfl, _, rfl, _, rfl, by rw [str_len]; exact le_of_small (m := 26) (by omega), b, sl, pool.length, ?_, by omega, by omega, Lx.bx.at_, fun r H2 hr2 bx => ?_⟩
      · rw [str_len]; rfl
      obtain ⟨c, hc⟩ : ∃ c, pool[r]? = some c := ⟨_, List.getElem?_eq_getElem hr2⟩
      have Lx2 := (Lx.next bx).snoc (vc c)
      refine ⟨_, rfl, tyL (Lx.next bx).at_, _, rfl, _, rfl, strOf pool, (r : Int), c, rfl, rfl, by rw [str_len]; exact le_of_small (m := 26) (by omega), str_atI hc, ?_⟩
      refine ⟨D, _, _, rfl, rfl, (Lx.next bx).at_, small_of (m := 6) (by rw [List.length_map]; omega), ?_⟩
      have hpl : (strOf pool).length ≤ sizeLine := by rw [str_len]; exact le_of_small (m := 26) (by omega)
      refine ⟨_, rfl, _, rfl, (r : Int), rfl, strOf pool, rfl, hpl, _, rfl, _, rfl, _, _, rfl, rfl, _, rfl, strOf pool, rfl, hpl, _, _, rfl, rfl, ?_, ?_⟩
      · exact le_of_small (m := 52) (Nat.le_trans (Nat.add_le_add (cutS_length _ _ _) (cutS_length _ _ _)) (by rw [str_len]; omega))
      · refine hN _ _ ⟨some (vi i), some (vi r), fs ++ [c], pool.take r ++ pool.drop (r + 1), ?_, ?_, by rw [List.length_append, List.length_singleton, hfl], ?_⟩
        · rw [← str_app, ← cut_to, ← cut_from]
          rfl
        · rw [List.map_append]
          exact Lx2
        · refine List.Perm.trans ?_ hp
          have e : pool = pool.take r ++ c :: pool.drop (r + 1) := by
            have h1 := List.take_append_drop r pool
            have h2 : pool.drop r = c :: pool.drop (r + 1) := by
              rw [List.drop_eq_getElem_cons hr2]
              congr 1
              exact (List.getElem?_eq_some_iff.mp hc).2
            rw [h2] at h1
            exact h1.symm
          conv => rhs; rw [e]
          rw [List.append_assoc]
          exact List.Perm.append_left fs (List.perm_middle (l₁ := pool.take r)).symm
    · rintro σ H' ⟨v4, v5, fs, pool, rfl, Lx, hfl, hp⟩
      refine ⟨_, rfl, k D H' fs Lx.bx hD Lx.at_ hfl ?_ fun l hl => ?_⟩
      · have := hp.nodup_iff.mpr List.nodup_range'
        exact (List.nodup_append.mp this).1
      · have := hp.mem_iff.mp (List.mem_append_left pool hl)
        rw [List.mem_range'_1] at this
        omega
end
end Mm

set_option maxHeartbeats 4000000
/-! the law: words, outs -/
namespace Mm
open PySem PySem.Spec L2 MM
open PyProof.Rows hiding St
theorem pow_at {n : Nat} (h : n ≤ 6) : atI [V.int 1, .int 2, .int 4, .int 8, .int 16, .int 32, .int 64] (n : Int) = some (vi (2 ^ n)) := by
  match n, h with
  | 0, _ => rfl
  | 1, _ => rfl
  | 2, _ => rfl
  | 3, _ => rfl
  | 4, _ => rfl
  | 5, _ => rfl
  | 6, _ => rfl
  | n + 7, h => omega
theorem pow_at5 {n : Nat} (h : n ≤ 5) : atI [V.int 1, .int 2, .int 4, .int 8, .int 16, .int 32] (n : Int) = some (vi (2 ^ n)) := by
  match n, h with
  | 0, _ => rfl
  | 1, _ => rfl
  | 2, _ => rfl
  | 3, _ => rfl
  | 4, _ => rfl
  | 5, _ => rfl
  | n + 6, h => omega
theorem bit_on : ∀ n : Fin 7, ∀ m : Fin 64, m.1 < 2 ^ n.1 → m.1 ≠ 0 → ∃ i : Fin 6, i.1 < n.1 ∧ m.1 / 2 ^ i.1 % 2 = 1 := by decide +kernel
theorem pow_le {n : Nat} (h : n ≤ 6) : 2 ≤ 2 ^ n ∨ n = 0 := by
  match n, h with
  | 0, _ => exact .inr rfl
  | n + 1, _ => exact .inl (by rw [Nat.pow_succ]; have := Nat.two_pow_pos n; omega)
theorem pow_up {n : Nat} (h : n ≤ 6) : 2 ^ n ≤ 64 := Nat.pow_le_pow_right (by decide : 0 < 2) h
theorem bit_int {r i : Nat} (h : (1 + (r : Int)) / ((2 ^ i : Nat) : Int) % 2 = 1) : (1 + r) / 2 ^ i % 2 = 1 := by
  have e : (1 + (r : Int)) / ((2 ^ i : Nat) : Int) % 2 = (((1 + r) / 2 ^ i % 2 : Nat) : Int) := by
    rw [Int.natCast_emod, Int.natCast_ediv]
    rfl
  rw [e] at h
  omega
theorem int_bit {r i : Nat} (h : (1 + r) / 2 ^ i % 2 = 1) : (1 + (r : Int)) / ((2 ^ i : Nat) : Int) % 2 = 1 := by
  have e : (1 + (r : Int)) / ((2 ^ i : Nat) : Int) % 2 = (((1 + r) / 2 ^ i % 2 : Nat) : Int) := by
    rw [Int.natCast_emod, Int.natCast_ediv]
    rfl
  rw [e, h]
  rfl
section
variable {P : Program} {w : World} {K : PySem.W.Frag} {mg : Str → Option Value} {base : Heap} {CC CT CP : Addr}
abbrev s_law_words : Stmt := (top 68)
abbrev N_law_words : List Str := ["_law_box_here", "_law_n", "_law_least", "_law_mask", "_law_word"]
theorem sc_law_words : FnScope N_law_words ["_law_box_here", "_law_n", "_law_least"] (defScope s_law_words) := ⟨rfl, rfl, rfl, by decide +kernel, rfl, by decide +kernel, by decide +kernel⟩
def sp_lwords : Sp := fun vs H Q _ => ∃ (b s : Addr) (n : Nat), vs = [.ref b, vi n, .int 1] ∧ 1 ≤ n ∧ n ≤ 6 ∧ BoxAt H b s ∧ ∀ q H' (ws : List Nat), Bx b s H H' → H q = none → H' q = some (.lst (vn ws)) → ws ≠ [] → ws.length ≤ 6 → (∀ x ∈ ws, x < n) → Q (.ref q) H'
theorem g_law_words (F : Fn K mg "_law_words" s_law_words) (B : Blt mg) (G_law_take : G P w K mg base 1 "_law_take" ["_law_box_here", "_law_many"] sp_take) : G P w K mg base 2 "_law_words" ["_law_box_here", "_law_n", "_law_least"] sp_lwords := by
  refine g_of F sc_law_words (fun _ _ _ _ _ _ us hl => match us, hl with | [_, _, _], _ => rfl) (fun vs H Q E h => ?_) (fun f cdv A outer s H vs Q E hr h => ?_)
  · obtain ⟨b, s, m, rfl, _⟩ := h
    rfl
  · obtain ⟨b, sl, n, rfl, hn1, hn6, hB, k⟩ := h
    have hp2 : 2 ≤ 2 ^ n := (pow_le hn6).resolve_right (by omega)
    have hp6 := pow_up hn6
    refine ⟨_, (pss_cons (ps_set (i := 3) sc_law_words.nd rfl (Or.inr rfl) (pe_op op_add (pv 2) (pe_g G_law_take (hr.mono (by decide)) (by rfl) (pa_cons (pv 0) (pa_cons (pe_op op_sub (pe_ix (ix_listK (K := K) rfl) (pe_lst (pa_cons pe_int (pa_cons pe_int (pa_cons pe_int (pa_cons pe_int (pa_cons pe_int (pa_cons pe_int (pa_cons pe_int pa_nil)))))))) (pv 1) (fun _ _ => rfl)) (pv 2)) pa_nil)))))
      (pss_one (ps_ret (pe_lc (own := [("_law_word", 4)]) rfl sc_law_words.nd (pi_range1 rfl B.b_range (pa_cons (pv 1) pa_nil)) (blkOk_by (N := N_law_words) (sc := defScope s_law_words) (by decide +kernel)) (fun _ _ _ _ _ => (pg_name (i := 4) sc_law_words.nd rfl (Or.inl rfl))) (fun _ _ _ _ _ => pts_one (pt_cmpR op_eq (pe_op op_mod (pe_callTy call_int1 (by rfl) B.b_int (by decide +kernel) (pa_cons (pe_op op_fdiv (pv 3) (pe_ix (ix_listK (K := K) rfl) (pe_lst (pa_cons pe_int (pa_cons pe_int (pa_cons pe_int (pa_cons pe_int (pa_cons pe_int (pa_cons pe_int pa_nil))))))) (pv 4) (fun _ _ => rfl))) pa_nil)) pe_int) pe_int (nomark _))) (fun _ _ _ _ _ => (pv 4)))))), ?_⟩
    refine ⟨_, rfl, _, rfl, by show 7 ≤ sizeLine; exact le_of_small (m := 7) (by omega), fun T hT => ⟨_, rfl, T, _, (n : Int), _, rfl, rfl, SqL.of upd_same, pow_at hn6, _, rfl, _, _, rfl, rfl, b, sl, 2 ^ n - 1, ?_, by omega, by omega, hB.same (same_new hT), fun r H2 hr2 bx => ?_⟩⟩
    · show [V.ref b, V.int (((2 ^ n : Nat) : Int) - 1)] = [V.ref b, V.int ((2 ^ n - 1 : Nat) : Int)]
      congr 3
      omega
    have bx2 : Bx b sl H H2 := (Bx.of hB (same_new hT)).trans bx
    refine ⟨_, _, rfl, rfl, ?_⟩
    refine ⟨_, rfl, _, rfl, by omega, by omega, fun D hD => blk_w walk_r0 (fun i H' => LB H2 D H' (vn ((List.range i).filter fun j => decide ((1 + r) / 2 ^ j % 2 = 1)))) (LB.start hD) (fun _ _ _ _ => trivial) ?_ ?_⟩
    · rintro i x Ha Hb hi L ⟨rfl, rfl⟩ N hN
      have hi5 : i ≤ 5 := by omega
      have hpi := Nat.two_pow_pos i
      have hpi6 := pow_up (n := i) (by omega)
      refine ⟨rfl, ?_⟩
      refine ⟨_, rfl, by show 6 ≤ sizeLine; exact le_of_small (m := 6) (by omega), fun T2 hT2 => ⟨_, rfl, T2, _, (i : Int), _, rfl, rfl, SqL.of upd_same, pow_at5 hi5, _, _, rfl, rfl, ⟨by omega, by omega⟩, .inl ⟨_, rfl, _, _, rfl, rfl, (by decide : (0 : Int) < 2), rfl, _, rfl, iteI (fun c => ?_) fun c => ?_⟩⟩⟩
      · have c' : (1 + r) / 2 ^ i % 2 = 1 := bit_int c
        have L2 := L.next (same_new (o := HO.lst [V.int 1, .int 2, .int 4, .int 8, .int 16, .int 32]) hT2)
        refine ⟨_, rfl, _, L2.at_, small_of (Nat.le_trans (filt_len _ _) hi5), hN _ ?_⟩
        rw [filt_yes (decide_eq_true c')]
        exact L2.snoc (vi i)
      · have c' : ¬ (1 + r) / 2 ^ i % 2 = 1 := fun e => c (int_bit e)
        have L2 := L.next (same_new (o := HO.lst [V.int 1, .int 2, .int 4, .int 8, .int 16, .int 32]) hT2)
        refine hN _ ?_
        rw [filt_no (decide_eq_false c')]
        exact L2
    · intro H3 L
      refine k D H3 _ (bx2.sm L.sm) (bx2.free hD) L.at_ ?_ ?_ fun x hx => ?_
      · obtain ⟨i, h1, h2⟩ := bit_on ⟨n, by omega⟩ ⟨1 + r, by omega⟩ (show 1 + r < 2 ^ n by omega) (show 1 + r ≠ 0 by omega)
        intro e
        have : i.1 ∈ (List.range n).filter fun j => decide ((1 + r) / 2 ^ j % 2 = 1) := List.mem_filter.mpr ⟨List.mem_range.mpr h1, decide_eq_true h2⟩
        have e' : (List.range n).filter (fun j => decide ((1 + r) / 2 ^ j % 2 = 1)) = [] := e
        rw [e'] at this
        cases this
      · exact Nat.le_trans (List.length_filter_le _ _) (by rw [List.length_range]; omega)
      · have := (List.mem_filter.mp hx).1
        exact List.mem_range.mp this
abbrev s_law_outs : Stmt := (top 69)
abbrev N_law_outs : List Str := ["_law_box_here", "_law_n", "_law_kind", "_law_outs_here"]
theorem sc_law_outs : FnScope N_law_outs ["_law_box_here", "_law_n"] (defScope s_law_outs) := ⟨rfl, rfl, rfl, by decide +kernel, rfl, by decide +kernel, by decide +kernel⟩
def sp_louts : Sp := fun vs H Q _ => ∃ (b s : Addr) (n : Nat), vs = [.ref b, vi n] ∧ 1 ≤ n ∧ n ≤ 6 ∧ BoxAt H b s ∧ ∀ q H' (ws : List Nat), Bx b s H H' → H q = none → H' q = some (.lst (vn ws)) → ws ≠ [] → ws.length ≤ 6 → (∀ x ∈ ws, x < n) → Q (.ref q) H'
theorem g_law_outs (F : Fn K mg "_law_outs" s_law_outs) (B : Blt mg) (G_law_take : G P w K mg base 1 "_law_take" ["_law_box_here", "_law_many"] sp_take) (G_law_words : G P w K mg base 2 "_law_words" ["_law_box_here", "_law_n", "_law_least"] sp_lwords) : G P w K mg base 3 "_law_outs" ["_law_box_here", "_law_n"] sp_louts := by
  refine g_of F sc_law_outs (fun _ _ _ _ _ _ us hl => match us, hl with | [_, _], _ => rfl) (fun vs H Q E h => ?_) (fun f cdv A outer s H vs Q E hr h => ?_)
  · obtain ⟨b, s, m, rfl, _⟩ := h
    rfl
  · obtain ⟨b, sl, n, rfl, hn1, hn6, hB, k⟩ := h
    refine ⟨_, (pss_cons (ps_set (i := 2) sc_law_outs.nd rfl (Or.inl rfl) (pe_g G_law_take (hr.mono (by decide)) (by rfl) (pa_cons (pv 0) (pa_cons pe_int pa_nil))))
      (pss_cons (ps_if (pt_cmpR op_eq (pv 2) pe_int (nomark _)) (pss_one (ps_ret (pe_g G_law_words (hr.mono (by decide)) (by rfl) (pa_cons (pv 0) (pa_cons (pv 1) (pa_cons pe_int pa_nil)))))) pss_nil)
      (pss_cons (ps_set (i := 3) sc_law_outs.nd rfl (Or.inl rfl) (pe_lst (pa_cons (pe_g G_law_take (hr.mono (by decide)) (by rfl) (pa_cons (pv 0) (pa_cons (pv 1) pa_nil))) pa_nil)))
      (pss_cons (ps_if (pt_cmpR op_eq (pv 2) pe_int (nomark _)) (pss_one (ps_expr (pe_bm PySem.F.plainAttrs_list PySem.F.slot_list_append PySem.F.type_list_append mt_append (pv 3) (pa_cons (pe_g G_law_take (hr.mono (by decide)) (by rfl) (pa_cons (pv 0) (pa_cons (pv 1) pa_nil))) pa_nil)))) pss_nil)
      (pss_one (ps_ret (pv 3))))))), ?_⟩
    refine ⟨_, rfl, b, sl, 4, rfl, by omega, by omega, hB, fun r H2 hr2 bx => ?_⟩
    refine ⟨_, rfl, rfl, _, rfl, iteI (fun c => ?_) fun c => ?_⟩
    · refine ⟨_, rfl, _, rfl, b, sl, n, rfl, hn1, hn6, bx.at_, fun q H3 ws bx2 hq h1 h2 h3 h4 => ?_⟩
      exact k q H3 ws (bx.trans bx2) (bx.free hq) h1 h2 h3 h4
    · refine ⟨_, rfl, _, rfl, b, sl, n, rfl, by omega, by omega, bx.at_, fun r1 H3 hr3 bx2 => ⟨by show 1 ≤ sizeLine; exact le_of_small (m := 1) (by omega), fun D hD => ?_⟩⟩
      have bx3 := bx.trans bx2
      have Lx : LX b sl H D (upd H3 D (.lst (vn [r1]))) (vn [r1]) := ⟨bx3.new hD, bx3.free hD, upd_same⟩
      refine ⟨_, rfl, rfl, _, rfl, iteI (fun c2 => ?_) fun c2 => ?_⟩
      · refine ⟨_, rfl, tyL Lx.at_, _, rfl, _, rfl, b, sl, n, rfl, by omega, by omega, Lx.bx.at_, fun r2 H4 hr4 bx4 => ?_⟩
        have Lx2 := (Lx.next bx4).snoc (vi r2)
        refine ⟨D, _, _, rfl, rfl, (Lx.next bx4).at_, small_of (m := 6) (by rw [List.length_map]; simp), ?_⟩
        refine ⟨_, rfl, k D _ [r1, r2] Lx2.bx Lx2.nw Lx2.at_ (by simp) (by simp) ?_⟩
        intro x hx
        rcases List.mem_cons.mp hx with e | hx
        · omega
        · rw [List.mem_singleton.mp hx]; exact hr4
      · refine ⟨_, rfl, k D _ [r1] Lx.bx Lx.nw Lx.at_ (by simp) (by simp) ?_⟩
        intro x hx
        rw [List.mem_singleton.mp hx]; exact hr3
end
end Mm

set_option maxHeartbeats 4000000
/-! the law: a person -/
namespace Mm
open PySem PySem.Spec L2 MM
open PyProof.Rows hiding St
def Lists (H : Hp) (a : Addr) (rows : List (List Nat)) : Prop := ∃ as : List Addr, H a = some (.lst (as.map V.ref)) ∧ Paired (fun p r => H p = some (.lst (vn r))) as rows
theorem Lists.same {H H' : Hp} {a : Addr} {rows : List (List Nat)} (h : Lists H a rows) (s : Same H H') : Lists H' a rows := by
  obtain ⟨as, h1, h2⟩ := h
  exact ⟨as, s _ _ h1, paired_map h2 fun _ _ q => s _ _ q⟩
theorem Lists.bx {b s : Addr} {H H' : Hp} {a : Addr} {rows : List (List Nat)} (h : Lists H a rows) (e : Bx b s H H') : Lists H' a rows := by
  obtain ⟨as, h1, h2⟩ := h
  exact ⟨as, e.refs h1, paired_map h2 fun _ _ q => e.vn q⟩
theorem Lists.rows {K : PySem.W.Frag} {H : Hp} {a : Addr} {rows : List (List Nat)} (h : Lists H a rows) : RowsAt K H a rows := by
  obtain ⟨as, h1, h2⟩ := h
  exact ⟨as, SqL.of h1, paired_map h2 fun _ _ q => SqL.of q⟩
def rows0 (d : PD) : List (List Nat) := (List.range d.hears.length).map (said0 d)
/-- the same, and where all of it lies -/
def ListsF (F : Addr → Prop) (H : Hp) (a : Addr) (rows : List (List Nat)) : Prop := ∃ as : List Addr, F a ∧ H a = some (.lst (as.map V.ref)) ∧ Paired (fun p r => F p ∧ H p = some (.lst (vn r))) as rows
theorem ListsF.out {F : Addr → Prop} {H : Hp} {a : Addr} {rows : List (List Nat)} (h : ListsF F H a rows) : Lists H a rows := by
  obtain ⟨as, h0, h1, h2⟩ := h
  exact ⟨as, h1, paired_map h2 fun _ _ q => q.2⟩
theorem ListsF.bx {F : Addr → Prop} {b s : Addr} {H H' : Hp} {a : Addr} {rows : List (List Nat)} (h : ListsF F H a rows) (e : Bx b s H H') : ListsF F H' a rows := by
  obtain ⟨as, h0, h1, h2⟩ := h
  exact ⟨as, h0, e.refs h1, paired_map h2 fun _ _ q => ⟨q.1, e.vn q.2⟩⟩
theorem ListsF.upd {D : Addr} {o : HO} {H : Hp} {a : Addr} {rows : List (List Nat)} (h : ListsF (fun p => p ≠ D) H a rows) : ListsF (fun p => p ≠ D) (L2.upd H D o) a rows := by
  obtain ⟨as, h0, h1, h2⟩ := h
  exact ⟨as, h0, by rw [upd_ne h0]; exact h1, paired_map h2 fun _ _ q => ⟨q.1, by rw [upd_ne q.1]; exact q.2⟩⟩
theorem ListsF.imp {F G : Addr → Prop} {H : Hp} {a : Addr} {rows : List (List Nat)} (h : ListsF F H a rows) (e : ∀ p, F p → G p) : ListsF G H a rows := by
  obtain ⟨as, h0, h1, h2⟩ := h
  exact ⟨as, e _ h0, h1, paired_map h2 fun _ _ q => ⟨e _ q.1, q.2⟩⟩
def One (F : Addr → Prop) (H : Hp) (o : Addr) (d : PD) : Prop := ∃ h sa ro : Addr, H o = some (.lst [.ref h, .ref sa, .ref ro]) ∧ F h ∧ H h = some (.lst (vn d.hears)) ∧ ListsF F H sa d.says ∧ ListsF F H ro (rows0 d)
theorem ne_vn_refs_hs {H : Hp} {p D : Addr} {l : List Nat} {as : List Addr} (h : H p = some (.lst (vn l))) (h' : H D = some (.lst (as.map V.ref))) (ne : l ≠ []) : p ≠ D := by
  intro e
  rw [e, h'] at h
  cases l with
  | nil => exact ne rfl
  | cons x l =>
    cases as with
    | nil => injection h with h; injection h with h; cases h
    | cons a as => injection h with h; injection h with h; injection h with h; cases h
section
variable {P : Program} {w : World} {K : PySem.W.Frag} {mg : Str → Option Value} {base : Heap} {CC CT CP : Addr}
abbrev s_law_person : Stmt := (top 70)
abbrev N_law_person : List Str := ["_law_box_here", "_law_n", "_law_hears", "_law_k", "_law_says", "_law_rows", "_law_word", "_law_out"]
theorem sc_law_person : FnScope N_law_person ["_law_box_here", "_law_n"] (defScope s_law_person) := ⟨rfl, rfl, rfl, by decide +kernel, rfl, by decide +kernel, by decide +kernel⟩
def sp_lperson : Sp := fun vs H Q _ => ∃ (b s : Addr) (n : Nat), vs = [.ref b, vi n] ∧ 1 ≤ n ∧ n ≤ 6 ∧ BoxAt H b s ∧ ∀ o H' (d : PD), Bx b s H H' → H o = none → One (fun p => H p = none) H' o d → d.Ok → d.hears.length = n → Q (.ref o) H'
theorem g_law_person (F : Fn K mg "_law_person" s_law_person) (B : Blt mg) (G_law_take : G P w K mg base 1 "_law_take" ["_law_box_here", "_law_many"] sp_take) (G_law_outs : G P w K mg base 3 "_law_outs" ["_law_box_here", "_law_n"] sp_louts) : G P w K mg base 4 "_law_person" ["_law_box_here", "_law_n"] sp_lperson := by
  refine g_of F sc_law_person (fun _ _ _ _ _ _ us hl => match us, hl with | [_, _], _ => rfl) (fun vs H Q E h => ?_) (fun f cdv A outer s H vs Q E hr h => ?_)
  · obtain ⟨b, s, m, rfl, _⟩ := h
    rfl
  · obtain ⟨b, sl, n, rfl, hn1, hn6, hB, k⟩ := h
    refine ⟨_, (pss_cons (ps_set (i := 2) sc_law_person.nd rfl (Or.inr rfl) (pe_listRg rfl (by rfl) B.b_list (prg_1 (by rfl) B.b_range (pv 1))))
      (pss_cons (ps_if (pt_cmpR op_eq (pe_g G_law_take (hr.mono (by decide)) (by rfl) (pa_cons (pv 0) (pa_cons pe_int pa_nil))) pe_int (nomark _)) (pss_one (ps_set (i := 2) sc_law_person.nd rfl (Or.inr rfl) (pe_lc (own := [("_law_k", 3)]) rfl sc_law_person.nd (pi_range1 rfl B.b_range (pa_cons (pv 1) pa_nil)) (blkOk_by (N := N_law_person) (sc := defScope s_law_person) (by decide +kernel)) (fun _ _ _ _ _ => (pg_name (i := 3) sc_law_person.nd rfl (Or.inl rfl))) (fun _ _ _ _ _ => pts_nil) (fun _ _ _ _ _ => (pe_g G_law_take (hr.mono (by decide)) (by rfl) (pa_cons (pv 0) (pa_cons (pv 1) pa_nil))))))) pss_nil)
      (pss_cons (ps_set (i := 4) sc_law_person.nd rfl (Or.inr rfl) (pe_lc (own := [("_law_k", 3)]) rfl sc_law_person.nd (pi_range1 rfl B.b_range (pa_cons (pv 1) pa_nil)) (blkOk_by (N := N_law_person) (sc := defScope s_law_person) (by decide +kernel)) (fun _ _ _ _ _ => (pg_name (i := 3) sc_law_person.nd rfl (Or.inl rfl))) (fun _ _ _ _ _ => pts_nil) (fun _ _ _ _ _ => (pe_g G_law_outs (hr.mono (by decide)) (by rfl) (pa_cons (pv 0) (pa_cons (pv 1) pa_nil))))))
      (pss_cons (ps_set (i := 5) sc_law_person.nd rfl (Or.inl rfl) (pe_lst pa_nil))
      (pss_cons (ps_for PassesOwn.never rfl (pi_range1 rfl B.b_range (pa_cons (pv 1) pa_nil)) (pg_name (i := 6) sc_law_person.nd rfl (Or.inr rfl)) (pss_one (ps_expr (pe_bm PySem.F.plainAttrs_list PySem.F.slot_list_append PySem.F.type_list_append mt_append (pv 5) (pa_cons (pe_lc (own := [("_law_out", 7)]) rfl sc_law_person.nd (pi_range1 rfl B.b_range (pa_cons (pv 1) pa_nil)) (blkOk_by (N := N_law_person) (sc := defScope s_law_person) (by decide +kernel)) (fun _ _ _ _ _ => (pg_name (i := 7) sc_law_person.nd rfl (Or.inl rfl))) (fun _ _ _ _ _ => pts_one (pt_cmpR (op_in_seqK (K := K) rfl) (pv 7) (pe_ix (ix_listK (K := K) rfl) (pv 4) (pe_ix (ix_listK (K := K) rfl) (pv 2) (pv 6) (fun _ _ => rfl)) (fun _ _ => rfl)) rfl)) (fun _ _ _ _ _ => (pv 7))) pa_nil)))))
      (pss_one (ps_ret (pe_lst (pa_cons (pv 2) (pa_cons (pv 4) (pa_cons (pv 5) pa_nil))))))))))), ?_⟩
    refine ⟨_, rfl, (n : Int), rfl, rg_ok hn6, fun h0 hh0 => ?_⟩
    rw [rg_vn]
    have bx0 : Bx b sl H (upd H h0 (.lst (vn (List.range n)))) := (Bx.refl hB).new hh0
    refine ⟨_, rfl, b, sl, 3, rfl, by omega, by omega, bx0.at_, fun r H2 hr2 bx2 => ?_⟩
    have bx02 := bx0.trans bx2
    refine ⟨rfl, _, rfl, iteI (fun c => ?_) fun c => ?_⟩
    refine ⟨_, rfl, _, rfl, by omega, by omega, fun D hD => blk_w walk_r0 (fun i H' => ∃ hs : List Nat, LX b sl H2 D H' (vn hs) ∧ hs.length = i ∧ ∀ x ∈ hs, x < n) ⟨[], LX.start bx2.at_ hD, rfl, fun e he => nomatch he⟩ (fun _ _ _ _ => trivial) ?_ ?_⟩
    · rintro i x Ha Hb hi ⟨hs, Lx, hl, hlt⟩ ⟨rfl, rfl⟩ N hN
      refine ⟨rfl, _, rfl, _, rfl, b, sl, n, rfl, by omega, by omega, Lx.bx.at_, fun r1 H3 hr3 bx3 => ⟨_, (Lx.next bx3).at_, small_of (m := 6) (by rw [List.length_map]; omega), hN _ ⟨hs ++ [r1], ?_, by rw [List.length_append, List.length_singleton, hl], fun x hx => ?_⟩⟩⟩
      · have := (Lx.next bx3).snoc (vi r1)
        rw [vn_app]
        exact this
      · rcases List.mem_append.mp hx with e | e
        · exact hlt x e
        · rw [List.mem_singleton.mp e]; exact hr3
    rintro H3 ⟨hs, Lx, hl, hlt⟩
    have hl : hs.length = n := hl
    have hq := Lx.at_
    have hD0 : H D = none := bx02.free hD
    have bxq := bx02.trans Lx.bx
    rotate_left
    obtain ⟨D, rfl⟩ : ∃ D, D = h0 := ⟨_, rfl⟩
    obtain ⟨H3, rfl⟩ : ∃ H3, H3 = H2 := ⟨_, rfl⟩
    obtain ⟨hs, ehs⟩ : ∃ hs, hs = List.range n := ⟨_, rfl⟩
    have hl : hs.length = n := by rw [ehs, List.length_range]
    have hlt : ∀ x ∈ hs, x < n := fun x hx => by rw [ehs] at hx; exact List.mem_range.mp hx
    have hD0 : H D = none := hh0
    have hq : H3 D = some (.lst (vn hs)) := by rw [ehs]; exact bx2.vn upd_same
    have bxq := bx02
    all_goals
      refine ⟨_, rfl, _, rfl, by omega, by omega, fun D2 hD2 => blk_w walk_r0 (fun i H' => ∃ (as : List Addr) (rs : List (List Nat)), LX b sl H D2 H' (as.map V.ref) ∧ H' D = some (.lst (vn hs)) ∧ Paired (fun p r => H p = none ∧ H' p = some (.lst (vn r))) as rs ∧ rs.length = i ∧ ∀ r ∈ rs, r ≠ [] ∧ r.length ≤ 6 ∧ ∀ x ∈ r, x < n) ⟨[], [], ⟨bxq.new hD2, bxq.free hD2, upd_same⟩, same_new hD2 _ _ hq, .nil, rfl, fun e he => nomatch he⟩ (fun _ _ _ _ => trivial) ?_ ?_⟩
      · rintro i x Ha Hb hi ⟨as, rs, Lx, hq, hp, hrl, hrs⟩ ⟨rfl, rfl⟩ N hN
        have el := Paired.length hp
        refine ⟨rfl, _, rfl, _, rfl, b, sl, n, rfl, hn1, hn6, Lx.bx.at_, fun q Hc ws bx3 hq0 hqw h1 h2 h3 => ⟨_, (Lx.next bx3).at_, small_of (m := 6) (by rw [List.length_map]; omega), hN _ ⟨as ++ [q], rs ++ [ws], ?_, ?_, ?_, by rw [List.length_append, List.length_singleton, hrl], ?_⟩⟩⟩
        · have := (Lx.next bx3).snoc (.ref q)
          rw [List.map_append]
          exact this
        · have nD : D ≠ D2 := ne_vn_refs_hs (bx3.vn hq) (Lx.next bx3).at_ (by intro e; rw [e] at hl; simp at hl; omega)
          rw [upd_ne nD]
          exact bx3.vn hq
        · refine paired_app (paired_mapm hp fun p r hp1 hr1 hh => ?_) (.cons ?_ .nil)
          · have := bx3.vn hh.2
            rw [upd_ne (ne_vn_refs_hs this (Lx.next bx3).at_ (hrs r hr1).1)]
            exact ⟨hh.1, this⟩
          · rw [upd_ne (ne_of_none Lx.at_ hq0).symm]
            exact ⟨Lx.bx.free hq0, hqw⟩
        · intro r hr1
          rcases List.mem_append.mp hr1 with e | e
          · exact hrs r e
          · rw [List.mem_singleton.mp e]; exact ⟨h1, h2, h3⟩
      rintro H4 ⟨as, rs, Lx, hq, hp, hrl, hrs⟩
      have hrl : rs.length = n := hrl
      have ok : PD.Ok ⟨hs, rs⟩ := ⟨by show 1 ≤ hs.length; omega, by show hs.length ≤ 6; omega, fun h hh => by show h < hs.length; rw [hl]; exact hlt h hh, by show rs.length = hs.length; omega, fun r hr1 => (hrs r hr1).1, fun r hr1 => Nat.le_trans (hrs r hr1).2.1 (by omega), fun r hr1 x hx => by show x < hs.length; rw [hl]; exact (hrs r hr1).2.2 x hx⟩
      refine ⟨Nat.zero_le _, fun R hR => ⟨_, rfl, _, rfl, by omega, by omega, for_w walk_r0 (fun i σ H' => ∃ (cs : List Addr) (v3 v6 v7 : Option V), σ = [some (.ref b), some (vi n), some (.ref D), v3, some (.ref D2), some (.ref R), v6, v7] ∧ LB H4 R H' (cs.map V.ref) ∧ R ∉ cs ∧ Paired (fun p r => H p = none ∧ H' p = some (.lst (vn r))) cs ((rows0 ⟨hs, rs⟩).take i)) ⟨[], _, _, _, rfl, LB.start hR, List.not_mem_nil, .nil⟩ (fun _ _ _ _ _ => trivial) ?_ ?_⟩⟩
      · rintro i x σ Ha Hb hi ⟨cs, v3, v6, v7, rfl, L, nR, hc⟩ ⟨rfl, rfl⟩ N hN
        have hi : i < n := hi
        obtain ⟨hv, hhv⟩ : ∃ hv, hs[i]? = some hv := ⟨_, List.getElem?_eq_getElem (by omega)⟩
        have hvn := hlt hv (List.mem_of_getElem? hhv)
        have el := Paired.length hp
        obtain ⟨p, hpa⟩ : ∃ p, as[hv]? = some p := ⟨_, List.getElem?_eq_getElem (by omega)⟩
        obtain ⟨r, hr1, hpr⟩ := L2.paired_get hp hpa
        have e0 : said0 ⟨hs, rs⟩ i = (List.range n).filter fun o => decide (o ∈ r) := by
          unfold said0
          show List.filter _ (List.range hs.length) = _
          rw [hl]
          congr 1
          funext o
          rw [List.getD_eq_getElem?_getD, List.getD_eq_getElem?_getD, hhv]
          show decide (o ∈ (rs[hv]?).getD []) = _
          rw [hr1]
          rfl
        have hz : (rows0 ⟨hs, rs⟩)[i]? = some (said0 ⟨hs, rs⟩ i) := by
          unfold rows0
          rw [List.getElem?_map, List.getElem?_range (show i < hs.length by omega)]
          rfl
        refine ⟨_, rfl, tyL L.at_, _, rfl, _, rfl, by omega, by omega, fun D3 hD3 => blk_w walk_r0 (fun j H' => LB Hb D3 H' (vn ((List.range j).filter fun o => decide (o ∈ r)))) (LB.start hD3) (fun _ _ _ _ => trivial) ?_ ?_⟩
        · rintro j y Hd He hj L3 ⟨rfl, rfl⟩ N2 hN2
          have hj6 : j ≤ 6 := by omega
          have s4 := L.sm.trans L3.sm
          refine ⟨rfl, ?_⟩
          refine ⟨_, rfl, _, rfl, _, rfl, _, rfl, D, vn hs, (i : Int), vi hv, rfl, rfl, SqL.of (s4 _ _ hq), atI_nat (by rw [List.getElem?_map, hhv]; rfl), D2, as.map V.ref, (hv : Int), .ref p, rfl, rfl, SqL.of (s4 _ _ Lx.at_), atI_nat (by rw [List.getElem?_map, hpa]; rfl), p, _, rfl, .inl (SqL.of (s4 _ _ hpr.2)), rfl, flat_vn r, _, rfl, iteB (fun c => ?_) fun c => ?_⟩
          · have c' : decide (j ∈ r) = true := (inV_vn j r).symm.trans c
            refine ⟨_, rfl, _, L3.at_, small_of (Nat.le_trans (filt_len _ _) hj6), hN2 _ ?_⟩
            rw [filt_yes c']
            exact L3.snoc (vi j)
          · have c' : decide (j ∈ r) = false := (inV_vn j r).symm.trans c
            refine hN2 _ ?_
            rw [filt_no c']
            exact L3
        · intro He L3
          have L4 := (L.next L3.sm).snoc (.ref D3)
          have nD3 : D3 ≠ R := (ne_of_none L.at_ hD3).symm
          refine ⟨R, _, _, rfl, rfl, (L.next L3.sm).at_, small_of (m := 6) (by rw [List.length_map, Paired.length hc, List.length_take]; omega), hN _ _ ⟨cs ++ [D3], _, _, _, rfl, ?_, ?_, ?_⟩⟩
          · rw [List.map_append]
            exact L4
          · intro e
            rcases List.mem_append.mp e with e | e
            · exact nR e
            · exact nD3 (List.mem_singleton.mp e).symm
          · rw [take_get hz]
            refine paired_app (paired_mapm hc fun p r hp1 hr1 hh => ?_) (.cons ?_ .nil)
            · rw [upd_ne (fun e : p = R => nR (by rw [← e]; exact hp1))]
              exact ⟨hh.1, L3.sm _ _ hh.2⟩
            · rw [upd_ne nD3, e0]
              exact ⟨Lx.bx.free (L.sm.free hD3), L3.at_⟩
      · rintro σ H5 ⟨cs, v3, v6, v7, rfl, L, nR, hc⟩
        refine ⟨_, rfl, _, rfl, _, rfl, by show 3 ≤ sizeLine; exact le_of_small (m := 3) (by omega), fun o ho => ?_⟩
        have so := same_new (o := HO.lst [.ref D, .ref D2, .ref R]) ho
        have s5 := L.sm.trans so
        refine k o _ ⟨hs, rs⟩ (Lx.bx.sm s5) (Lx.bx.free (L.sm.free ho)) ⟨D, D2, R, upd_same, hD0, s5 _ _ hq, ⟨as, Lx.nw, s5 _ _ Lx.at_, paired_map hp fun _ _ h => ⟨h.1, s5 _ _ h.2⟩⟩, ⟨cs, Lx.bx.free hR, so _ _ L.at_, ?_⟩⟩ ok hl
        have e1 : (rows0 ⟨hs, rs⟩).take (n : Int).toNat = rows0 ⟨hs, rs⟩ := take_all (by unfold rows0; rw [List.length_map, List.length_range]; exact hl)
        rw [e1] at hc
        exact paired_map hc fun _ _ h => ⟨h.1, so _ _ h.2⟩
end
end Mm

set_option maxHeartbeats 4000000
/-! the law: the folk -/
namespace Mm
open PySem PySem.Spec L2 MM
open PyProof.Rows hiding St
abbrev Es := List (Nat × PD)
/-- one of the folk: its letter, what it hears and says, its rows -/
def Four (F : Addr → Prop) (H : Hp) (o : Addr) (l : Nat) (d : PD) : Prop := ∃ h sa ro : Addr, H o = some (.lst [vc l, .ref h, .ref sa, .ref ro]) ∧ F o ∧ F h ∧ H h = some (.lst (vn d.hears)) ∧ ListsF F H sa d.says ∧ ListsF F H ro (rows0 d)
theorem Four.bx {F : Addr → Prop} {b s : Addr} {H H' : Hp} {o : Addr} {l : Nat} {d : PD} (h : Four F H o l d) (e : Bx b s H H') : Four F H' o l d := by
  obtain ⟨a, sa, ro, h1, h2, h3, h4, h5, h6⟩ := h
  exact ⟨a, sa, ro, e.keep h1 (fun i d x q => by injection q with q; injection q with q; cases q), h2, h3, e.vn h4, h5.bx e, h6.bx e⟩
theorem Four.upd {D : Addr} {u : HO} {H : Hp} {o : Addr} {l : Nat} {d : PD} (h : Four (fun p => p ≠ D) H o l d) : Four (fun p => p ≠ D) (L2.upd H D u) o l d := by
  obtain ⟨a, sa, ro, h1, h2, h3, h4, h5, h6⟩ := h
  exact ⟨a, sa, ro, by rw [upd_ne h2]; exact h1, h2, h3, by rw [upd_ne h3]; exact h4, h5.upd, h6.upd⟩
theorem Four.imp {F G : Addr → Prop} {H : Hp} {o : Addr} {l : Nat} {d : PD} (h : Four F H o l d) (e : ∀ p, F p → G p) : Four G H o l d := by
  obtain ⟨a, sa, ro, h1, h2, h3, h4, h5, h6⟩ := h
  exact ⟨a, sa, ro, h1, e _ h2, e _ h3, h4, h5.imp e, h6.imp e⟩
theorem BoxAt.nvc {H : Hp} {b s p : Addr} {l : List Nat} (h : BoxAt H b s) (hp : H p = some (.lst (l.map vc))) : p ≠ b := h.ne hp fun i d x e => by
  cases l <;> simp at e
/-- all of it -/
structure FolkOk (n : Nat) (es : Es) : Prop where
  nd : (es.map (·.1)).Nodup
  az : ∀ e ∈ es, 97 ≤ e.1 ∧ e.1 ≤ 122
  ok : ∀ e ∈ es, e.2.Ok ∧ e.2.hears.length = n
  few : es.length ≤ 6
  n1 : 1 ≤ n
  n6 : n ≤ 6
def FolkL (F : Addr → Prop) (H : Hp) (a : Addr) (es : Es) : Prop := ∃ as : List Addr, H a = some (.lst (as.map V.ref)) ∧ Paired (fun o e => Four F H o e.1 e.2) as es
section
variable {P : Program} {w : World} {K : PySem.W.Frag} {mg : Str → Option Value} {base : Heap} {CC CT CP : Addr}
abbrev s_law_folk : Stmt := (top 71)
abbrev N_law_folk : List Str := ["_law_box_here", "_law_n", "_law_many", "_law_folk_here", "_law_letter", "_law_one"]
theorem sc_law_folk : FnScope N_law_folk ["_law_box_here", "_law_n", "_law_many"] (defScope s_law_folk) := ⟨rfl, rfl, rfl, by decide +kernel, rfl, by decide +kernel, by decide +kernel⟩
def sp_lfolk : Sp := fun vs H Q _ => ∃ (b s : Addr) (n m : Nat), vs = [.ref b, vi n, vi m] ∧ 1 ≤ n ∧ n ≤ 6 ∧ m ≤ 6 ∧ BoxAt H b s ∧ ∀ a H' (es : Es), Bx b s H H' → H a = none → FolkL (fun _ => True) H' a es → FolkOk n es → es.length = m → Q (.ref a) H'
theorem g_law_folk (F : Fn K mg "_law_folk" s_law_folk) (B : Blt mg) (G_law_letters : G P w K mg base 2 "_law_letters" ["_law_box_here", "_law_many"] sp_lets) (G_law_person : G P w K mg base 4 "_law_person" ["_law_box_here", "_law_n"] sp_lperson) : G P w K mg base 5 "_law_folk" ["_law_box_here", "_law_n", "_law_many"] sp_lfolk := by
  refine g_of F sc_law_folk (fun _ _ _ _ _ _ us hl => match us, hl with | [_, _, _], _ => rfl) (fun vs H Q E h => ?_) (fun f cdv A outer s H vs Q E hr h => ?_)
  · obtain ⟨b, s, n, m, rfl, _⟩ := h
    rfl
  · obtain ⟨b, sl, n, m, rfl, hn1, hn6, hm6, hB, k⟩ := h
    refine ⟨_, (pss_cons (ps_set (i := 3) sc_law_folk.nd rfl (Or.inl rfl) (pe_lst pa_nil))
      (pss_cons (ps_for PassesOwn.never rfl (pi_listK (K := K) rfl (pe_g G_law_letters (hr.mono (by decide)) (by rfl) (pa_cons (pv 0) (pa_cons (pv 2) pa_nil)))) (pg_name (i := 4) sc_law_folk.nd rfl (Or.inl rfl)) (pss_cons (ps_set (i := 5) sc_law_folk.nd rfl (Or.inl rfl) (pe_g G_law_person (hr.mono (by decide)) (by rfl) (pa_cons (pv 0) (pa_cons (pv 1) pa_nil))))
      (pss_one (ps_expr (pe_bm PySem.F.plainAttrs_list PySem.F.slot_list_append PySem.F.type_list_append mt_append (pv 3) (pa_cons (pe_lst (pa_cons (pv 4) (pa_cons (pe_ix (ix_listK (K := K) rfl) (pv 5) pe_int (fun _ _ => rfl)) (pa_cons (pe_ix (ix_listK (K := K) rfl) (pv 5) pe_int (fun _ _ => rfl)) (pa_cons (pe_ix (ix_listK (K := K) rfl) (pv 5) pe_int (fun _ _ => rfl)) pa_nil))))) pa_nil))))))
      (pss_one (ps_ret (pv 3))))), ?_⟩
    refine ⟨Nat.zero_le _, fun D hD => ⟨_, rfl, _, rfl, b, sl, m, rfl, hm6, hB.same (same_new hD), fun q H2 fs bx2 hq0 hq hfl hnd haz => ?_⟩⟩
    have Lx0 : LX b sl H D H2 [] := (LX.start hB hD).next bx2
    have nqD : q ≠ D := (ne_of_none upd_same hq0).symm
    refine ⟨q, rfl, ⟨_, SqL.of hq⟩, for_list_w (K := K) (a := q) (xs := fs.map vc) (fun i σ H' => ∃ (as : List Addr) (es : Es) (v4 v5 : Option V), σ = [some (.ref b), some (vi n), some (vi m), some (.ref D), v4, v5] ∧ LX b sl H D H' (as.map V.ref) ∧ H' q = some (.lst (fs.map vc)) ∧ Paired (fun o e => Four (fun p => p ≠ D) H' o e.1 e.2) as es ∧ es.map (·.1) = fs.take i ∧ ∀ e ∈ es, e.2.Ok ∧ e.2.hears.length = n) ⟨[], [], _, _, rfl, Lx0, hq, .nil, rfl, fun e he => nomatch he⟩ (fun i σ H' _ ⟨_, _, _, _, _, _, h, _⟩ => SqL.of h) ?_ ?_⟩
    · rintro i x σ Hb hx ⟨as, es, v4, v5, rfl, Lx, hq, hp, hes, hok⟩ N hN
      rw [List.getElem?_map] at hx
      obtain ⟨l, hl, rfl⟩ := Option.map_eq_some_iff.mp hx
      have hi := len_get hl
      have el := Paired.length hp
      have el2 : es.length = i := by
        have := congrArg List.length hes
        rw [List.length_map, List.length_take] at this
        omega
      refine ⟨_, rfl, _, rfl, b, sl, n, rfl, hn1, hn6, Lx.bx.at_, fun o H3 d bx3 ho0 ho ok hdn => ?_⟩
      have ho0' := ho0
      obtain ⟨ah, sa, ro, ho, hah, h4, h5, h6⟩ := ho
      have Lx3 := Lx.next bx3
      have hq3 : H3 q = some (.lst (fs.map vc)) := bx3.bt _ _ hq (Lx.bx.at_.nvc hq)
      refine ⟨_, rfl, tyL Lx3.at_, _, rfl, _, rfl, o, _, (0 : Int), _, rfl, rfl, SqL.of ho, rfl, _, rfl, o, _, (1 : Int), _, rfl, rfl, SqL.of ho, rfl, _, rfl, o, _, (2 : Int), _, rfl, rfl, SqL.of ho, rfl, by show 4 ≤ sizeLine; exact le_of_small (m := 4) (by omega), fun t ht => ?_⟩
      have sT := same_new (o := HO.lst [vc l, .ref ah, .ref sa, .ref ro]) ht
      have Lx4 := Lx3.next (.of Lx3.bx.at_ sT)
      have ntD : t ≠ D := (ne_of_none Lx3.at_ ht).symm
      have fr : ∀ p, Hb p = none → p ≠ D := fun p hp => (ne_of_none Lx.at_ hp).symm
      refine ⟨D, _, _, rfl, rfl, Lx4.at_, small_of (m := 6) (by rw [List.length_map]; omega), hN _ _ ⟨as ++ [t], es ++ [(l, d)], _, _, rfl, ?_, ?_, ?_, ?_, ?_⟩⟩
      · have := Lx4.snoc (.ref t)
        rw [List.map_append]
        exact this
      · rw [upd_ne nqD]
        exact sT _ _ hq3
      · refine paired_app (paired_mapm hp fun p e hp1 he1 hh => ((hh.bx bx3).bx (.of Lx3.bx.at_ sT)).upd) (.cons ?_ .nil)
        have bT : Bx b sl H3 _ := .of Lx3.bx.at_ sT
        exact Four.upd ⟨ah, sa, ro, upd_same, ntD, fr _ hah, sT _ _ h4, (h5.imp fr).bx bT, (h6.imp fr).bx bT⟩
      · rw [List.map_append, hes, take_get hl]
        rfl
      · intro e he
        rcases List.mem_append.mp he with q1 | q1
        · exact hok e q1
        · rw [List.mem_singleton.mp q1]; exact ⟨ok, hdn⟩
    · rintro σ H' ⟨as, es, v4, v5, rfl, Lx, hq, hp, hes, hok⟩
      have hes' : es.map (·.1) = fs := hes.trans (take_all (by rw [List.length_map]))
      have hlen : es.length = m := by
        have := congrArg List.length hes'
        rw [List.length_map] at this
        omega
      refine ⟨_, rfl, k D H' es Lx.bx hD ⟨as, Lx.at_, paired_map hp fun _ _ h => h.imp fun _ _ => trivial⟩ ⟨hes' ▸ hnd, fun e he => haz _ (hes' ▸ List.mem_map_of_mem he), hok, by omega, hn1, hn6⟩ hlen⟩
end
end Mm

set_option maxHeartbeats 4000000
/-! the law: its own table, its pattern, its stage -/
namespace Mm
open PySem PySem.Spec L2 MM
open PyProof.Rows hiding St
theorem filt_app1 {p : Nat → Bool} {c : Nat} {l : List Nat} : l ++ (if p c then [c] else []) = l ++ [c].filter p := by
  rw [List.filter_cons, List.filter_nil]
section
variable {P : Program} {w : World} {K : PySem.W.Frag} {mg : Str → Option Value} {base : Heap} {CC CT CP : Addr}
abbrev s_law_own : Stmt := (top 72)
abbrev N_law_own : List Str := ["_law_folk_here", "_law_own_here", "_law_letter", "_law_one"]
theorem sc_law_own : FnScope N_law_own ["_law_folk_here"] (defScope s_law_own) := ⟨rfl, rfl, rfl, by decide +kernel, rfl, by decide +kernel, by decide +kernel⟩
def OwnE (H : Hp) (es : Es) (E : List Ent) : Prop := ∀ e ∈ E, ∃ d, (e.1, d) ∈ es ∧ Lists H e.2.1 (rows0 d)
def sp_lown : Sp := fun vs H Q _ => ∃ (a : Addr) (n : Nat) (es : Es), vs = [.ref a] ∧ FolkL (fun _ => True) H a es ∧ FolkOk n es ∧ ∀ O H' (E : List Ent), Same H H' → H O = none → H' O = some (.dK (kvsC E)) → E.map (·.1) = rosOf (es.map (·.1)) → OwnE H' es E → Q (.ref O) H'
theorem g_law_own (F : Fn K mg "_law_own" s_law_own) (B : Blt mg) : G P w K mg base 1 "_law_own" ["_law_folk_here"] sp_lown := by
  refine g_of F sc_law_own (fun _ _ _ _ _ _ us hl => match us, hl with | [_], _ => rfl) (fun vs H Q E h => ?_) (fun f cdv A outer s H vs Q E hr h => ?_)
  · obtain ⟨a, n, es, rfl, _⟩ := h
    rfl
  · obtain ⟨a, n, es, rfl, ⟨as, hA, hp⟩, ok, k⟩ := h
    have hu := hu_of hr
    have el := Paired.length hp
    have few := ok.few
    refine ⟨_, (pss_cons (ps_set (i := 1) sc_law_own.nd rfl (Or.inl rfl) pe_dnewK)
      (pss_cons (ps_for PassesOwn.never rfl (pi_str pe_str) (pg_name (i := 2) sc_law_own.nd rfl (Or.inl rfl)) (pss_one (ps_for PassesOwn.never rfl (pi_listK (K := K) rfl (pv 0)) (pg_name (i := 3) sc_law_own.nd rfl (Or.inl rfl)) (pss_one (ps_if (pt_cmpR op_eq (pe_ix (ix_listK (K := K) rfl) (pv 3) pe_int (fun _ _ => rfl)) (pv 2) (nomark _)) (pss_one (ps_dput hu (pv 1) (pv 2) (pe_ix (ix_listK (K := K) rfl) (pv 3) pe_int (fun _ _ => rfl)) rfl)) pss_nil)))))
      (pss_one (ps_ret (pv 1))))), ?_⟩
    refine fun O hO => ⟨_, rfl, for_w walk_str (fun i σ H' => ∃ (E : List Ent) (v2 v3 : Option V), σ = [some (.ref a), some (.ref O), v2, v3] ∧ Same H H' ∧ H' O = some (.dK (kvsC E)) ∧ E.map (·.1) = (List.range' 97 i).filter (fun l => decide (l ∈ es.map (·.1))) ∧ OwnE H es E) ⟨[], _, _, rfl, same_new hO, upd_same, rfl, fun e he => nomatch he⟩ (fun _ _ _ _ _ => trivial) ?_ ?_⟩
    · rintro i x σ Ha Hb hi ⟨E, v2, v3, rfl, sm, hH, hE, hOw⟩ ⟨rfl, c, hc, rfl⟩ N hN
      obtain ⟨hi26, rfl⟩ := lets_at hc
      refine ⟨_, rfl, a, rfl, ⟨_, SqL.of (sm _ _ hA)⟩, for_list_w (K := K) (a := a) (xs := as.map V.ref) (fun j σ H' => ∃ (E' : List Ent) (v3 : Option V), σ = [some (.ref a), some (.ref O), some (vc (97 + i)), v3] ∧ Same H H' ∧ H' O = some (.dK (kvsC E')) ∧ E'.map (·.1) = E.map (·.1) ++ (if (97 + i) ∈ (es.take j).map (·.1) then [97 + i] else []) ∧ OwnE H es E') ⟨E, _, rfl, sm, hH, by simp, hOw⟩ (fun j σ H' _ ⟨_, _, _, s, _⟩ => SqL.of (s _ _ hA)) ?_ ?_⟩
      · rintro j x σ Hc hx ⟨E', v3, rfl, sm', hH', hE', hOw'⟩ N2 hN2
        obtain ⟨o, ho, rfl⟩ := refs_get hx
        obtain ⟨e, he, h, sa, ro, hF, _, _, hh, hsa, hro⟩ := L2.paired_get hp ho
        have hj := len_get he
        have el' : E'.length ≤ 27 := by
          have := congrArg List.length hE'
          rw [List.length_map, List.length_append, hE] at this
          have h1 := List.length_filter_le (fun l => decide (l ∈ es.map (·.1))) (List.range' 97 i)
          rw [List.length_range'] at h1
          have h2 : (if (97 + i) ∈ (es.take j).map (·.1) then [97 + i] else []).length ≤ 1 := by split <;> simp
          omega
        have nd := ok.nd
        have nin : e.1 ∉ (es.take j).map (·.1) := by
          intro hm
          rw [List.map_take] at hm
          obtain ⟨k2, hk2, hk3⟩ := List.mem_take_iff_getElem.mp hm
          rw [List.length_map] at hk2
          have q1 : (es.map (·.1))[j]? = some e.1 := by rw [List.getElem?_map, he]; rfl
          have q2 : (es.map (·.1))[k2]? = some e.1 := by rw [List.getElem?_eq_getElem (by rw [List.length_map]; omega), hk3]
          have q3 := (List.getElem?_inj (by rw [List.length_map]; omega) nd).mp (q2.trans q1.symm)
          omega
        have et : (es.take (j + 1)).map (·.1) = (es.take j).map (·.1) ++ [e.1] := by rw [take_get he, List.map_append]; rfl
        refine ⟨_, rfl, o, _, (0 : Int), _, rfl, rfl, SqL.of (sm' _ _ hF), rfl, _, rfl, rfl, _, rfl, iteS (fun c => ?_) fun c => ?_⟩
        · have ec : e.1 = 97 + i := chr_inj c
          have nin2 : (97 + i) ∉ E'.map (·.1) := by
            rw [hE', if_neg (by rw [← ec]; exact nin), List.append_nil, hE]
            intro hm
            have := List.mem_range'_1.mp (List.mem_filter.mp hm).1
            omega
          refine ⟨_, rfl, o, _, (3 : Int), _, rfl, rfl, SqL.of (sm' _ _ hF), rfl, _, rfl, _, rfl, O, _, rfl, DPut.k (k := .inr (chr (97 + i))) hH' (small_of (m := 27) (by rw [kvs_len]; exact el')), hN2 _ _ ⟨E' ++ [(97 + i, ro, [])], _, rfl, same_upd sm' hO, ?_, ?_, ?_⟩⟩
          · rw [upd_same, kvs_snoc nin2]
          · rw [List.map_append, hE', if_neg (by rw [← ec]; exact nin), List.append_nil, et, if_pos (by rw [ec]; exact List.mem_append_right _ List.mem_cons_self)]
            rfl
          · intro e' he'
            rcases List.mem_append.mp he' with q | q
            · exact hOw' e' q
            · rw [List.mem_singleton.mp q]
              refine ⟨e.2, ?_, hro.out⟩
              show (97 + i, e.2) ∈ es
              rw [← ec]
              exact List.mem_of_getElem? he
        · have nc : ¬ (97 + i = e.1) := fun z => c (by rw [z])
          refine hN2 _ _ ⟨E', _, rfl, sm', hH', ?_, hOw'⟩
          rw [hE', et]
          have : (97 + i ∈ (es.take j).map (·.1) ++ [e.1]) ↔ (97 + i ∈ (es.take j).map (·.1)) := by
            rw [List.mem_append, List.mem_singleton]
            exact ⟨fun z => z.resolve_right nc, .inl⟩
          simp only [this]
      · rintro σ H' ⟨E', v3, rfl, sm', hH', hE', hOw'⟩
        refine hN _ _ ⟨E', _, _, rfl, sm', hH', ?_, hOw'⟩
        rw [hE', ros_step, hE, List.length_map, el, List.take_length]
        congr 1
        by_cases hm : 97 + i ∈ es.map (·.1)
        · rw [if_pos hm, decide_eq_true hm]; rfl
        · rw [if_neg hm, decide_eq_false hm]; rfl
    · rintro σ H' ⟨E, v2, v3, rfl, sm, hH, hE, hOw⟩
      rw [lets_size] at hE
      refine ⟨_, rfl, k O H' E sm hO hH hE fun e he => ?_⟩
      obtain ⟨d, h1, h2⟩ := hOw e he
      exact ⟨d, h1, h2.same sm⟩
end
end Mm

set_option maxHeartbeats 4000000
/-! the law: flat lists as data; its pattern -/
namespace Mm
open PySem PySem.Spec L2 MM
open PyProof.Rows hiding St
def iD (ns : List Nat) : PyData := .list (ns.map fun n : Nat => .int (n : Int))
def cD (ls : List Nat) : PyData := .list (ls.map fun l : Nat => .str (chr l))
theorem dAll_i {K : PySem.W.Frag} {H : Hp} : ∀ ns : List Nat, DpAll K H (vn ns) (ns.map fun n : Nat => .int (n : Int))
  | [] => .nil
  | n :: ns => .cons (.int _) (dAll_i ns)
theorem dAll_c {K : PySem.W.Frag} {H : Hp} : ∀ ns : List Nat, DpAll K H (ns.map vc) (ns.map fun l : Nat => .str (chr l))
  | [] => .nil
  | n :: ns => .cons (.str _) (dAll_c ns)
theorem dp_i {K : PySem.W.Frag} {H : Hp} {a : Addr} {ns : List Nat} (h : SqL K H a (vn ns)) : Dp K H (.ref a) (iD ns) := .lst h (dAll_i ns)
theorem dp_c {K : PySem.W.Frag} {H : Hp} {a : Addr} {ns : List Nat} (h : SqL K H a (ns.map vc)) : Dp K H (.ref a) (cD ns) := .lst h (dAll_c ns)
theorem lay_i : ∀ ns : List Nat, PyData.canLayAll0 (ns.map fun n : Nat => .int (n : Int)) = true
  | [] => by simp [PyData.canLayAll0]
  | z :: zs => by simp [PyData.canLayAll0, PyData.canLay0, lay_i zs]
theorem chr_ok {z : Nat} (h : z ≤ 122) : PyData.strOk (chr z) = true := by
  have q : ∀ j : Fin 123, PyData.strOk (chr j.1) = true := by decide +kernel
  exact q ⟨z, by omega⟩
theorem lay_c : ∀ ns : List Nat, (∀ l ∈ ns, l ≤ 122) → PyData.canLayAll0 (ns.map fun n : Nat => .str (chr n)) = true
  | [], _ => by simp [PyData.canLayAll0]
  | z :: zs, h => by simp [PyData.canLayAll0, PyData.canLay0, chr_ok (h z List.mem_cons_self), lay_c zs fun l hl => h l (List.mem_cons_of_mem _ hl)]
theorem dep_i : ∀ ns : List Nat, PyData.depthAll (ns.map fun n : Nat => .int (n : Int)) ≤ 1
  | [] => by simp [PyData.depthAll]
  | z :: zs => by
    have h1 := dep_i zs
    simp only [List.map_cons, PyData.depthAll, PyData.depth]
    omega
theorem dep_c : ∀ ns : List Nat, PyData.depthAll (ns.map fun n : Nat => .str (chr n)) ≤ 1
  | [] => by simp [PyData.depthAll]
  | z :: zs => by
    have h1 := dep_c zs
    simp only [List.map_cons, PyData.depthAll, PyData.depth]
    omega
theorem sh_i (ns : List Nat) : SeqAt.shaped (iD ns) = true := by
  have h1 := dep_i ns
  have h2 : PyData.depth (iD ns) ≤ 64 := by
    simp only [iD, PyData.depth]
    omega
  show (PyData.canLay0 (iD ns) && decide (PyData.depth (iD ns) ≤ 64)) = true
  rw [Bool.and_eq_true]
  exact ⟨by simp only [iD, PyData.canLay0]; exact lay_i ns, decide_eq_true h2⟩
theorem sh_c {ns : List Nat} (h : ∀ l ∈ ns, l ≤ 122) : SeqAt.shaped (cD ns) = true := by
  have h1 := dep_c ns
  have h2 : PyData.depth (cD ns) ≤ 64 := by
    simp only [cD, PyData.depth]
    omega
  show (PyData.canLay0 (cD ns) && decide (PyData.depth (cD ns) ≤ 64)) = true
  rw [Bool.and_eq_true]
  exact ⟨by simp only [cD, PyData.canLay0]; exact lay_c ns h, decide_eq_true h2⟩
theorem eqa_i : ∀ a b : List Nat, PyData.eqvAll (a.map fun n : Nat => .int (n : Int)) (b.map fun n : Nat => .int (n : Int)) = decide (a = b)
  | [], [] => by simp [PyData.eqvAll]
  | [], _ :: _ => by simp [PyData.eqvAll]
  | _ :: _, [] => by simp [PyData.eqvAll]
  | x :: a, y :: b => by
    simp only [List.map_cons, PyData.eqvAll, PyData.eqv, eqa_i a b]
    rw [Bool.eq_iff_iff]
    simp
    omega
theorem eqa_c : ∀ a b : List Nat, PyData.eqvAll (a.map fun n : Nat => .str (chr n)) (b.map fun n : Nat => .str (chr n)) = decide (a = b)
  | [], [] => by simp [PyData.eqvAll]
  | [], _ :: _ => by simp [PyData.eqvAll]
  | _ :: _, [] => by simp [PyData.eqvAll]
  | x :: a, y :: b => by
    simp only [List.map_cons, PyData.eqvAll, PyData.eqv, eqa_c a b]
    rw [Bool.eq_iff_iff]
    simp only [Bool.and_eq_true, beq_iff_eq, decide_eq_true_eq, List.cons.injEq, chr_iff]
theorem eqv_i (a b : List Nat) : PyData.eqv (iD a) (iD b) = decide (a = b) := by simp only [iD, PyData.eqv]; exact eqa_i a b
theorem eqv_c (a b : List Nat) : PyData.eqv (cD a) (cD b) = decide (a = b) := by simp only [cD, PyData.eqv]; exact eqa_c a b
/-- == of two such lists -/
theorem rEq_i {K : PySem.W.Frag} {H : Hp} {a b : Addr} {xs ys : List Nat} {Q : VK} (h1 : SqL K H a (vn xs)) (h2 : SqL K H b (vn ys)) (q : Q (.bl (decide (xs = ys))) H) : rEqD K (.ref a) (.ref b) H Q := ⟨_, _, dp_i h1, dp_i h2, sh_i _, sh_i _, by rw [eqv_i]; exact q⟩
theorem rNe_i {K : PySem.W.Frag} {H : Hp} {a b : Addr} {xs ys : List Nat} {Q : VK} (h1 : SqL K H a (vn xs)) (h2 : SqL K H b (vn ys)) (q : Q (.bl (!decide (xs = ys))) H) : rNeD K (.ref a) (.ref b) H Q := ⟨_, _, dp_i h1, dp_i h2, sh_i _, sh_i _, by rw [eqv_i]; exact q⟩
theorem rEq_c {K : PySem.W.Frag} {H : Hp} {a b : Addr} {xs ys : List Nat} {Q : VK} (h1 : SqL K H a (xs.map vc)) (h2 : SqL K H b (ys.map vc)) (hx : ∀ l ∈ xs, l ≤ 122) (hy : ∀ l ∈ ys, l ≤ 122) (q : Q (.bl (decide (xs = ys))) H) : rEqD K (.ref a) (.ref b) H Q := ⟨_, _, dp_c h1, dp_c h2, sh_c hx, sh_c hy, by rw [eqv_c]; exact q⟩
theorem rNe_c {K : PySem.W.Frag} {H : Hp} {a b : Addr} {xs ys : List Nat} {Q : VK} (h1 : SqL K H a (xs.map vc)) (h2 : SqL K H b (ys.map vc)) (hx : ∀ l ∈ xs, l ≤ 122) (hy : ∀ l ∈ ys, l ≤ 122) (q : Q (.bl (!decide (xs = ys))) H) : rNeD K (.ref a) (.ref b) H Q := ⟨_, _, dp_c h1, dp_c h2, sh_c hx, sh_c hy, by rw [eqv_c]; exact q⟩
theorem pat_star (pat : List Nat) : strOf pat ++ Str.ofString "*" = strOf (pat ++ [42]) := by rw [starS]; exact str_app pat [42]
theorem pat_ques (pat : List Nat) : strOf pat ++ Str.ofString "?" = strOf (pat ++ [63]) := by rw [quesS]; exact str_app pat [63]
theorem pat_chr (pat : List Nat) (c : Nat) : strOf pat ++ chr c = strOf (pat ++ [c]) := str_app pat [c]
theorem empS : Str.ofString "" = strOf [] := by decide +kernel
theorem kvs_keys (E : List Ent) : ((kvsC E).map fun kv => kV kv.1) = (E.map (·.1)).map vc := by
  unfold kvsC
  rw [List.map_map, List.map_map]
  rfl
section
variable {P : Program} {w : World} {K : PySem.W.Frag} {mg : Str → Option Value} {base : Heap} {CC CT CP : Addr}
abbrev s_law_pattern : Stmt := (top 73)
abbrev N_law_pattern : List Str := ["_law_box_here", "_law_own_here", "_law_cap", "_law_letters_here", "_law_pattern_here", "_law_k", "_law_kind"]
theorem sc_law_pattern : FnScope N_law_pattern ["_law_box_here", "_law_own_here", "_law_cap"] (defScope s_law_pattern) := ⟨rfl, rfl, rfl, by decide +kernel, rfl, by decide +kernel, by decide +kernel⟩
def sp_lpat : Sp := fun vs H Q _ => ∃ (b s O : Addr) (cap : Nat) (E : List Ent), vs = [.ref b, .ref O, vi cap] ∧ cap ≤ 12 ∧ E.length ≤ 8 ∧ (∀ e ∈ E, 97 ≤ e.1 ∧ e.1 ≤ 122) ∧ H O = some (.dK (kvsC E)) ∧ BoxAt H b s ∧ ∀ H' (pat : List Nat), Bx b s H H' → (∀ s ∈ pat, s = 42 ∨ s = 63 ∨ s ∈ E.map (·.1)) → pat.length ≤ cap → Q (.str (strOf pat)) H'
theorem g_law_pattern (F : Fn K mg "_law_pattern" s_law_pattern) (B : Blt mg) (G_law_take : G P w K mg base 1 "_law_take" ["_law_box_here", "_law_many"] sp_take) : G P w K mg base 2 "_law_pattern" ["_law_box_here", "_law_own_here", "_law_cap"] sp_lpat := by
  refine g_of F sc_law_pattern (fun _ _ _ _ _ _ us hl => match us, hl with | [_, _, _], _ => rfl) (fun vs H Q E h => ?_) (fun f cdv A outer s H vs Q E hr h => ?_)
  · obtain ⟨b, s, O, cap, E, rfl, _⟩ := h
    rfl
  · obtain ⟨b, sl, O, cap, E, rfl, hcap, hE8, haz, hO, hB, k⟩ := h
    refine ⟨_, (pss_cons (ps_set (i := 3) sc_law_pattern.nd rfl (Or.inl rfl) (pe_callTy (call_list_dK rfl) (by rfl) B.b_list (by decide +kernel) (pa_cons (pv 1) pa_nil)))
      (pss_cons (ps_set (i := 4) sc_law_pattern.nd rfl (Or.inl rfl) pe_str)
      (pss_cons (ps_for PassesOwn.never rfl (pi_range1 rfl B.b_range (pa_cons (pe_op op_mod (pe_callTy call_int1 (by rfl) B.b_int (by decide +kernel) (pa_cons (pe_op op_add pe_int (pe_g G_law_take (hr.mono (by decide)) (by rfl) (pa_cons (pv 0) (pa_cons (pe_op op_add (pv 2) pe_int) pa_nil)))) pa_nil)) (pe_op op_add (pv 2) pe_int)) pa_nil)) (pg_name (i := 5) sc_law_pattern.nd rfl (Or.inl rfl)) (pss_cons (ps_set (i := 6) sc_law_pattern.nd rfl (Or.inl rfl) (pe_g G_law_take (hr.mono (by decide)) (by rfl) (pa_cons (pv 0) (pa_cons pe_int pa_nil))))
      (pss_one (ps_if (pt_cmpR op_eq (pv 6) pe_int (nomark _)) (pss_one (ps_set (i := 4) sc_law_pattern.nd rfl (Or.inl rfl) (pe_op op_add_str (pv 4) pe_str))) (pss_one (ps_if (PW.pt (pw_or (pt_cmpR op_eq (pv 6) pe_int (nomark _)) (pw_or1 (pt_cmpR (op_eqDK (K := K) rfl hr.units) (pv 3) (pe_lst pa_nil) (nomark _))))) (pss_one (ps_set (i := 4) sc_law_pattern.nd rfl (Or.inl rfl) (pe_op op_add_str (pv 4) pe_str))) (pss_one (ps_set (i := 4) sc_law_pattern.nd rfl (Or.inl rfl) (pe_op op_add_str (pv 4) (pe_ix (ix_listK (K := K) rfl) (pv 3) (pe_g G_law_take (hr.mono (by decide)) (by rfl) (pa_cons (pv 0) (pa_cons (pe_callB (call_len_seqK (K := K) rfl) (by rfl) B.b_len PySem.boot_len (pa_cons (pv 3) pa_nil)) pa_nil))) (fun _ _ => rfl)))))))))))
      (pss_one (ps_ret (pv 4)))))), ?_⟩
    refine ⟨_, rfl, O, _, rfl, hO, fun lt hlt => ?_⟩
    rw [kvs_keys]
    have bx0 : Bx b sl H (upd H lt (.lst ((E.map (·.1)).map vc))) := (Bx.refl hB).new hlt
    refine ⟨_, rfl, _, rfl, _, _, rfl, rfl, b, sl, cap + 1, rfl, by omega, by omega, bx0.at_, fun r H2 hr2 bx => ⟨_, _, rfl, rfl, .inl ⟨_, rfl, _, rfl, _, _, rfl, rfl, _, _, rfl, rfl, (by omega : (0 : Int) < (cap : Int) + 1), ?_⟩⟩⟩
    have bx2 := bx0.trans bx
    have hlt2 : H2 lt = some (.lst ((E.map (·.1)).map vc)) := bx.bt _ _ upd_same (bx0.at_.nvc upd_same)
    have hm1 : 0 ≤ (1 + (r : Int)) % ((cap : Int) + 1) := Int.emod_nonneg _ (by omega)
    have hm2 : (1 + (r : Int)) % ((cap : Int) + 1) < (cap : Int) + 1 := Int.emod_lt_of_pos _ (by omega)
    refine ⟨_, rfl, by omega, by omega, for_w walk_r0 (fun i σ H' => ∃ (pat : List Nat) (v5 v6 : Option V), σ = [some (.ref b), some (.ref O), some (vi cap), some (.ref lt), some (.str (strOf pat)), v5, v6] ∧ Bx b sl H H' ∧ H' lt = some (.lst ((E.map (·.1)).map vc)) ∧ (∀ s ∈ pat, s = 42 ∨ s = 63 ∨ s ∈ E.map (·.1)) ∧ pat.length = i) ⟨[], none, none, congrArg (fun z => [some (V.ref b), some (V.ref O), some (vi cap), some (V.ref lt), some (V.str z), none, none]) empS, bx2, hlt2, fun e he => (nomatch he), rfl⟩ (fun _ _ _ _ _ => trivial) ?_ ?_⟩
    · rintro i x σ Ha Hb hi ⟨pat, v5, v6, rfl, bx, hlt, hs, hl⟩ ⟨rfl, rfl⟩ N hN
      have hl12 : pat.length < 12 := by omega
      refine ⟨_, rfl, b, sl, 4, rfl, by omega, by omega, bx.at_, fun kd H3 hkd bx3 => ?_⟩
      have hlt3 : H3 lt = some (.lst ((E.map (·.1)).map vc)) := bx3.bt _ _ hlt (bx.at_.nvc hlt)
      have step : ∀ (c : Nat) (H' : Hp) (v5 v6 : Option V) (z : Str), z = strOf (pat ++ [c]) → (c = 42 ∨ c = 63 ∨ c ∈ E.map (·.1)) → Bx b sl H H' → H' lt = some (.lst ((E.map (·.1)).map vc)) → N [some (.ref b), some (.ref O), some (vi cap), some (.ref lt), some (.str z), v5, v6] H' := by
        rintro c H' v5 v6 z rfl hc hb hl'
        refine hN _ _ ⟨pat ++ [c], _, _, rfl, hb, hl', ?_, by rw [List.length_append, List.length_singleton, hl]⟩
        intro s hs'
        rcases List.mem_append.mp hs' with q | q
        · exact hs s q
        · rw [List.mem_singleton.mp q]; exact hc
      refine ⟨_, rfl, rfl, _, rfl, iteI (fun c => ?_) fun c => ?_⟩
      · exact ⟨_, rfl, _, _, rfl, rfl, by rw [str_len]; exact le_of_small (m := 16) (by show pat.length + 1 ≤ 16; omega), step 42 _ _ _ _ (pat_star pat) (.inl rfl) (bx.trans bx3) hlt3⟩
      · refine ⟨_, rfl, rfl, _, rfl, iteI (fun c2 => ?_) fun c2 => ?_⟩
        · refine iteT ?_
          exact ⟨_, rfl, _, _, rfl, rfl, by rw [str_len]; exact le_of_small (m := 16) (by show pat.length + 1 ≤ 16; omega), step 63 _ _ _ _ (pat_ques pat) (.inr (.inl rfl)) (bx.trans bx3) hlt3⟩
        · refine ⟨_, rfl, Nat.zero_le _, fun T hT => ?_⟩
          have bx4 := (bx.trans bx3).new (o := HO.lst []) hT
          have hlt4 := same_new (o := HO.lst []) hT _ _ hlt3
          refine rEq_c (ys := []) (SqL.of hlt4) (SqL.of upd_same) (fun l hl => by obtain ⟨e, he, rfl⟩ := List.mem_map.mp hl; exact (haz e he).2) (fun l hl => nomatch hl) ⟨_, rfl, iteD (fun c3 => ?_) fun c3 => ?_⟩
          · exact ⟨_, rfl, _, _, rfl, rfl, by rw [str_len]; exact le_of_small (m := 16) (by show pat.length + 1 ≤ 16; omega), step 63 _ _ _ _ (pat_ques pat) (.inr (.inl rfl)) bx4 hlt4⟩
          · have hpos : 0 < (E.map (·.1)).length := List.length_pos_iff.mpr c3
            have hlen : (E.map (·.1)).length = E.length := List.length_map ..
            refine ⟨_, rfl, _, rfl, _, rfl, _, rfl, lt, _, rfl, .inl (SqL.of hlt4), b, sl, (E.map (·.1)).length, by rw [List.length_map]; rfl, hpos, by omega, bx4.at_, fun r4 H5 hr5 bx5 => ?_⟩
            have hlt5 : H5 lt = some (.lst ((E.map (·.1)).map vc)) := bx5.bt _ _ hlt4 (bx4.at_.nvc hlt4)
            obtain ⟨l, hl5⟩ : ∃ l, (E.map (·.1))[r4]? = some l := ⟨_, List.getElem?_eq_getElem hr5⟩
            refine ⟨lt, _, (r4 : Int), vc l, rfl, rfl, SqL.of hlt5, atI_nat (by rw [List.getElem?_map, hl5]; rfl), _, _, rfl, rfl, by rw [str_len]; exact le_of_small (m := 16) (by show pat.length + 1 ≤ 16; omega), step l _ _ _ _ (pat_chr pat l) (.inr (.inr (List.mem_of_getElem? hl5))) (bx4.trans bx5) hlt5⟩
    · rintro σ H' ⟨pat, v5, v6, rfl, bx, hlt, hs, hl⟩
      exact ⟨_, rfl, k H' pat bx hs (by omega)⟩
end
end Mm

set_option maxHeartbeats 4000000
/-! the law: its stage -/
namespace Mm
open PySem PySem.Spec L2 MM
open PyProof.Rows hiding St
theorem FolkL.bx {F : Addr → Prop} {b s : Addr} {H H' : Hp} {a : Addr} {es : Es} (h : FolkL F H a es) (e : Bx b s H H') : FolkL F H' a es := by
  obtain ⟨as, h1, h2⟩ := h
  exact ⟨as, e.refs h1, paired_map h2 fun _ _ q => q.bx e⟩
theorem OwnE.bx {b s : Addr} {H H' : Hp} {es : Es} {E : List Ent} (h : OwnE H es E) (e : Bx b s H H') : OwnE H' es E := fun x hx => by
  obtain ⟨d, h1, h2⟩ := h x hx
  exact ⟨d, h1, h2.bx e⟩
theorem OwnE.same {H H' : Hp} {es : Es} {E : List Ent} (h : OwnE H es E) (e : Same H H') : OwnE H' es E := fun x hx => by
  obtain ⟨d, h1, h2⟩ := h x hx
  exact ⟨d, h1, h2.same e⟩
structure OwnAt (H : Hp) (O : Addr) (es : Es) (E : List Ent) : Prop where
  at_ : H O = some (.dK (kvsC E))
  ls : E.map (·.1) = rosOf (es.map (·.1))
  rows : OwnE H es E
def StageAt (H : Hp) (o : Addr) (n : Nat) (es : Es) (pat : List Nat) : Prop := ∃ (a O : Addr) (E : List Ent), H o = some (.lst [vi n, .ref a, .ref O, .str (strOf pat)]) ∧ FolkL (fun _ => True) H a es ∧ OwnAt H O es E
structure StageOk (n : Nat) (es : Es) (pat : List Nat) : Prop where
  ok : FolkOk n es
  n2 : 2 ≤ n
  sg : ∀ s ∈ pat, s = 42 ∨ s = 63 ∨ s ∈ es.map (·.1)
  le : pat.length ≤ 12
  few : (pat.length + 1) * (n * n) ≤ 200
theorem own_len {n : Nat} {es : Es} {E : List Ent} (ok : FolkOk n es) (h : E.map (·.1) = rosOf (es.map (·.1))) : E.length ≤ 6 := by
  have h1 : (rosOf (es.map (·.1))).length ≤ (es.map (·.1)).length := by
    have nd : (rosOf (es.map (·.1))).Nodup := (ros_asc _).imp fun q => Nat.ne_of_lt q
    have p : (rosOf (es.map (·.1))).Perm (es.map (·.1)) := (List.perm_ext_iff_of_nodup nd ok.nd).mpr fun x => by
      rw [mem_ros]
      refine ⟨fun z => z.2, fun z => ⟨?_, z⟩⟩
      obtain ⟨e, he, rfl⟩ := List.mem_map.mp z
      exact ok.az e he
    rw [p.length_eq]
    exact Nat.le_refl _
  have h2 := congrArg List.length h
  have := ok.few
  simp only [List.length_map] at h1 h2
  omega
theorem own_az {es : Es} {E : List Ent} (h : E.map (·.1) = rosOf (es.map (·.1))) : ∀ e ∈ E, 97 ≤ e.1 ∧ e.1 ≤ 122 := fun e he => by
  have : e.1 ∈ rosOf (es.map (·.1)) := h ▸ List.mem_map_of_mem he
  exact (mem_ros.mp this).1
section
variable {P : Program} {w : World} {K : PySem.W.Frag} {mg : Str → Option Value} {base : Heap} {CC CT CP : Addr}
abbrev s_law_stage : Stmt := (top 74)
abbrev N_law_stage : List Str := ["_law_box_here", "_law_n", "_law_many", "_law_kind", "_law_folk_here", "_law_own_here"]
theorem sc_law_stage : FnScope N_law_stage ["_law_box_here"] (defScope s_law_stage) := ⟨rfl, rfl, rfl, by decide +kernel, rfl, by decide +kernel, by decide +kernel⟩
def sp_lstage : Sp := fun vs H Q _ => ∃ (b s : Addr), vs = [.ref b] ∧ BoxAt H b s ∧ ∀ o H' n es pat, Bx b s H H' → H o = none → StageAt H' o n es pat → StageOk n es pat → Q (.ref o) H'
theorem g_law_stage (F : Fn K mg "_law_stage" s_law_stage) (B : Blt mg) (G_law_take : G P w K mg base 1 "_law_take" ["_law_box_here", "_law_many"] sp_take) (G_law_folk : G P w K mg base 5 "_law_folk" ["_law_box_here", "_law_n", "_law_many"] sp_lfolk) (G_law_own : G P w K mg base 1 "_law_own" ["_law_folk_here"] sp_lown) (G_law_pattern : G P w K mg base 2 "_law_pattern" ["_law_box_here", "_law_own_here", "_law_cap"] sp_lpat) : G P w K mg base 6 "_law_stage" ["_law_box_here"] sp_lstage := by
  refine g_of F sc_law_stage (fun _ _ _ _ _ _ us hl => match us, hl with | [_], _ => rfl) (fun vs H Q E h => ?_) (fun f cdv A outer s H vs Q E hr h => ?_)
  · obtain ⟨b, s, rfl, _⟩ := h
    rfl
  · obtain ⟨b, sl, rfl, hB, k⟩ := h
    refine ⟨_, (pss_cons (ps_set (i := 1) sc_law_stage.nd rfl (Or.inl rfl) (pe_op op_add pe_int (pe_g G_law_take (hr.mono (by decide)) (by rfl) (pa_cons (pv 0) (pa_cons pe_int pa_nil)))))
      (pss_cons (ps_set (i := 2) sc_law_stage.nd rfl (Or.inl rfl) pe_int)
      (pss_cons (ps_set (i := 3) sc_law_stage.nd rfl (Or.inl rfl) (pe_g G_law_take (hr.mono (by decide)) (by rfl) (pa_cons (pv 0) (pa_cons pe_int pa_nil))))
      (pss_cons (ps_if (pt_cmpR op_eq (pv 3) pe_int (nomark _)) (pss_cons (ps_set (i := 1) sc_law_stage.nd rfl (Or.inl rfl) (pe_op op_add pe_int (pe_g G_law_take (hr.mono (by decide)) (by rfl) (pa_cons (pv 0) (pa_cons pe_int pa_nil)))))
      (pss_one (ps_set (i := 2) sc_law_stage.nd rfl (Or.inl rfl) pe_int))) pss_nil)
      (pss_cons (ps_if (pt_cmpR op_eq (pv 3) pe_int (nomark _)) (pss_cons (ps_set (i := 1) sc_law_stage.nd rfl (Or.inl rfl) pe_int)
      (pss_one (ps_set (i := 2) sc_law_stage.nd rfl (Or.inl rfl) pe_int))) pss_nil)
      (pss_cons (ps_if (pt_cmpR op_eq (pv 3) pe_int (nomark _)) (pss_cons (ps_set (i := 1) sc_law_stage.nd rfl (Or.inl rfl) pe_int)
      (pss_one (ps_set (i := 2) sc_law_stage.nd rfl (Or.inl rfl) pe_int))) pss_nil)
      (pss_cons (ps_set (i := 4) sc_law_stage.nd rfl (Or.inl rfl) (pe_g G_law_folk (hr.mono (by decide)) (by rfl) (pa_cons (pv 0) (pa_cons (pv 1) (pa_cons (pe_op op_mod (pe_callTy call_int1 (by rfl) B.b_int (by decide +kernel) (pa_cons (pe_op op_add pe_int (pe_g G_law_take (hr.mono (by decide)) (by rfl) (pa_cons (pv 0) (pa_cons (pe_op op_add (pv 2) pe_int) pa_nil)))) pa_nil)) (pe_op op_add (pv 2) pe_int)) pa_nil)))))
      (pss_cons (ps_set (i := 5) sc_law_stage.nd rfl (Or.inl rfl) (pe_g G_law_own (hr.mono (by decide)) (by rfl) (pa_cons (pv 4) pa_nil)))
      (pss_one (ps_ret (pe_lst (pa_cons (pv 1) (pa_cons (pv 4) (pa_cons (pv 5) (pa_cons (pe_g G_law_pattern (hr.mono (by decide)) (by rfl) (pa_cons (pv 0) (pa_cons (pv 5) (pa_cons (pe_ix (ix_listK (K := K) rfl) (pe_lst (pa_cons pe_int (pa_cons pe_int (pa_cons pe_int (pa_cons pe_int (pa_cons pe_int (pa_cons pe_int (pa_cons pe_int pa_nil)))))))) (pv 2) (fun _ _ => rfl)) pa_nil)))) pa_nil))))))))))))))), ?_⟩
    refine ⟨_, rfl, b, sl, 2, rfl, by omega, by omega, hB, fun r0 H1 hr0 bx1 => ⟨_, _, rfl, rfl, ?_⟩⟩
    refine ⟨_, rfl, b, sl, 5, rfl, by omega, by omega, bx1.at_, fun kd H2 hkd bx2 => ?_⟩
    have bx12 := bx1.trans bx2
    refine ⟨_, rfl, rfl, _, rfl, iteI (fun c => ?_) fun c => ?_⟩
    refine ⟨_, rfl, b, sl, 3, rfl, by omega, by omega, bx2.at_, fun r1 Hf hr1 bx3 => ⟨_, _, rfl, rfl, ?_⟩⟩
    refine ⟨_, rfl, rfl, _, rfl, iteI (fun c2 => absurd c2 (by omega)) fun c2 => ?_⟩
    refine ⟨_, rfl, rfl, _, rfl, iteI (fun c3 => absurd c3 (by omega)) fun c3 => ?_⟩
    have bxf := bx12.trans bx3
    obtain ⟨nn, hnn⟩ : ∃ nn, nn = 4 + r1 := ⟨_, rfl⟩
    obtain ⟨mm, hmm⟩ : ∃ mm, mm = 1 := ⟨_, rfl⟩
    obtain ⟨cap, hcap⟩ : ∃ cap, cap = 2 := ⟨_, rfl⟩
    have hn2 : 2 ≤ nn := by omega
    have hn6 : nn ≤ 6 := by omega
    have h200 : (cap + 1) * (nn * nn) ≤ 200 := by
      have : nn * nn ≤ 6 * 6 := Nat.mul_le_mul hn6 hn6
      rw [hcap]; omega
    rotate_left
    refine ⟨_, rfl, rfl, _, rfl, iteI (fun c2 => ?_) fun c2 => ?_⟩
    refine ⟨_, rfl, rfl, _, rfl, iteI (fun c3 => absurd c3 (by omega)) fun c3 => ?_⟩
    obtain ⟨Hf, rfl⟩ : ∃ Hf, Hf = H2 := ⟨_, rfl⟩
    have bxf := bx12
    obtain ⟨nn, hnn⟩ : ∃ nn, nn = 2 := ⟨_, rfl⟩
    obtain ⟨mm, hmm⟩ : ∃ mm, mm = 6 := ⟨_, rfl⟩
    obtain ⟨cap, hcap⟩ : ∃ cap, cap = 2 := ⟨_, rfl⟩
    have hn2 : 2 ≤ nn := by omega
    have hn6 : nn ≤ 6 := by omega
    have h200 : (cap + 1) * (nn * nn) ≤ 200 := by rw [hcap, hnn]; decide
    rotate_left
    refine ⟨_, rfl, rfl, _, rfl, iteI (fun c3 => ?_) fun c3 => ?_⟩
    obtain ⟨Hf, rfl⟩ : ∃ Hf, Hf = H2 := ⟨_, rfl⟩
    have bxf := bx12
    obtain ⟨nn, hnn⟩ : ∃ nn, nn = 2 := ⟨_, rfl⟩
    obtain ⟨mm, hmm⟩ : ∃ mm, mm = 2 := ⟨_, rfl⟩
    obtain ⟨cap, hcap⟩ : ∃ cap, cap = 12 := ⟨_, rfl⟩
    have hn2 : 2 ≤ nn := by omega
    have hn6 : nn ≤ 6 := by omega
    have h200 : (cap + 1) * (nn * nn) ≤ 200 := by rw [hcap, hnn]; decide
    rotate_left
    obtain ⟨Hf, rfl⟩ : ∃ Hf, Hf = H2 := ⟨_, rfl⟩
    have bxf := bx12
    obtain ⟨nn, hnn⟩ : ∃ nn, nn = 2 + r0 := ⟨_, rfl⟩
    obtain ⟨mm, hmm⟩ : ∃ mm, mm = 3 := ⟨_, rfl⟩
    obtain ⟨cap, hcap⟩ : ∃ cap, cap = 3 := ⟨_, rfl⟩
    have hn2 : 2 ≤ nn := by omega
    have hn6 : nn ≤ 6 := by omega
    have h200 : (cap + 1) * (nn * nn) ≤ 200 := by
      have : nn * nn ≤ 3 * 3 := Nat.mul_le_mul (by omega) (by omega)
      rw [hcap]; omega
    rotate_left
    all_goals
      have hc12 : cap ≤ 12 := by omega
      have hm6 : mm ≤ 6 := by omega
      refine ⟨_, rfl, _, rfl, _, rfl, _, rfl, _, _, rfl, rfl, b, sl, mm + 1, by subst hmm; rfl, by omega, by omega, bxf.at_, fun r2 H4 hr4 bx4 => ⟨_, _, rfl, rfl, .inl ⟨_, rfl, _, rfl, _, _, rfl, rfl, _, _, rfl, rfl, by show (0 : Int) < _ + _; omega, ?_⟩⟩⟩
      refine ⟨b, sl, nn, (1 + r2) % (mm + 1), by subst hnn; subst hmm; rfl, by omega, hn6, by have := Nat.mod_lt (1 + r2) (show mm + 1 > 0 by omega); omega, bx4.at_, fun a H5 es bx5 ha hF ok hlen => ?_⟩
      refine ⟨_, rfl, a, nn, es, rfl, hF, ok, fun O H6 E s6 hO hO6 hE hOw => ?_⟩
      have bx6 : Bx b sl H5 H6 := .of bx5.at_ s6
      refine ⟨_, rfl, _, rfl, _, rfl, _, rfl, _, rfl, by show 7 ≤ sizeLine; exact le_of_small (m := 7) (by omega), fun T hT => ⟨_, rfl, T, _, (mm : Int), vi cap, rfl, by subst hmm; rfl, SqL.of upd_same, by subst hmm; subst hcap; rfl, ?_⟩⟩
      have bx7 : Bx b sl H6 (upd H6 T _) := .of bx6.at_ (same_new (o := HO.lst [.int 0, .int 2, .int 12, .int 3, .int 0, .int 0, .int 2]) hT)
      refine ⟨b, sl, O, cap, E, rfl, hc12, by have := own_len ok hE; omega, own_az hE, (same_new hT) _ _ hO6, bx7.at_, fun H8 pat bx8 hs hl => ⟨by show 4 ≤ sizeLine; exact le_of_small (m := 4) (by omega), fun o ho => ?_⟩⟩
      have s9 := same_new (o := HO.lst [vi nn, .ref a, .ref O, .str (strOf pat)]) ho
      have bx9 := Bx.of bx8.at_ s9
      have bx69 := (bx7.trans bx8).trans bx9
      have bxa := (((bxf.trans bx4).trans bx5).trans bx6).trans bx69
      have fin : ∀ H9 : Hp, H9 = upd H8 o (.lst [vi nn, .ref a, .ref O, .str (strOf pat)]) → Q (.ref o) H9 := by
        rintro _ rfl
        refine k o _ nn es pat bxa (((((bxf.trans bx4).trans bx5).trans bx6).trans (bx7.trans bx8)).free ho) ⟨a, O, E, upd_same, (hF.bx bx6).bx bx69, ⟨bx69.keep hO6 (fun _ _ _ e => nomatch e), hE, hOw.bx bx69⟩⟩ ⟨ok, hn2, fun s hs' => ?_, by omega, Nat.le_trans (Nat.mul_le_mul_right _ (by omega)) h200⟩
        rcases hs s hs' with e | e | e
        · exact .inl e
        · exact .inr (.inl e)
        · rw [hE] at e
          exact .inr (.inr (mem_ros.mp e).2)
      exact fin _ (by subst hnn; rfl)
end
end Mm

set_option maxHeartbeats 4000000
/-! the law: what is made of one of the folk, plain -/
namespace Mm
open MM
theorem filt_sum {α : Type} (p q : α → Bool) (hd : ∀ x, p x = true → q x = false) : ∀ l : List α, (l.filter p).length + (l.filter q).length = (l.filter fun x => p x || q x).length
  | [] => rfl
  | x :: l => by
    have ih := filt_sum p q hd l
    rw [List.filter_cons, List.filter_cons, List.filter_cons]
    cases hp : p x with
    | true => rw [hd x hp]; simp; omega
    | false =>
      cases hq : q x with
      | true => simp; omega
      | false => simp; omega
theorem filt_all {α : Type} (p : α → Bool) : ∀ l : List α, (l.filter p).length = l.length → ∀ x ∈ l, p x = true
  | [], _, x, hx => nomatch hx
  | y :: l, h, x, hx => by
    rw [List.filter_cons] at h
    have hle := List.length_filter_le p l
    cases hp : p y with
    | false => rw [hp] at h; simp at h; omega
    | true =>
      rw [hp] at h
      simp at h
      rcases List.mem_cons.mp hx with e | e
      · rw [e]; exact hp
      · exact (List.filter_eq_self.mp (List.filter_eq_self.mpr h)) x e
theorem only_one {w : Nat} {l : List Nat} (hn : l.Pairwise (· < ·)) (hw : w ∈ l) (h : l.filter (fun o => decide (o ≠ w)) = []) : l = [w] := by
  have all : ∀ x ∈ l, x = w := fun x hx => by
    apply Decidable.byContradiction
    intro ne
    have : x ∈ l.filter (fun o => decide (o ≠ w)) := List.mem_filter.mpr ⟨hx, decide_eq_true ne⟩
    rw [h] at this
    cases this
  exact asc_ext hn (List.pairwise_singleton _ _) fun x => ⟨fun hx => List.mem_singleton.mpr (all x hx), fun hx => by rw [List.mem_singleton.mp hx]; exact hw⟩
section
variable (d : PD)
def sure : List Nat := (List.range d.hears.length).filter fun w => decide (said0 d w = [w])
def loose : List Nat := (List.range d.hears.length).filter fun w => decide (w ∈ said0 d w) && !decide (w ∈ sure d)
def doubts : Bool := decide ((sure d).length + (loose d).length = d.hears.length)
def say1 (kd : Nat) (w : Nat) : List Nat := if w ∈ sure d ∧ kd ≠ 2 then List.range d.hears.length else d.says.getD w []
def sayW (kd : Nat) (w : Nat) : List Nat := if w ∈ loose d ∧ doubts d = true ∧ 1 < kd then (said0 d w).filter (fun o => decide (o ≠ w)) else say1 d kd w
def made (kd : Nat) : PD := ⟨List.range d.hears.length, (List.range d.hears.length).map (sayW d kd)⟩
theorem made_len (kd : Nat) : (made d kd).hears.length = d.hears.length := List.length_range
end
section
variable {d : PD}
theorem said0_asc (d : PD) (w : Nat) : (said0 d w).Pairwise (· < ·) := List.Pairwise.filter _ List.pairwise_lt_range
theorem said0_lt {w o : Nat} (h : o ∈ said0 d w) : o < d.hears.length := List.mem_range.mp (List.mem_filter.mp h).1
theorem said0_le {w : Nat} : (said0 d w).length ≤ d.hears.length := Nat.le_trans (List.length_filter_le _ _) (Nat.le_of_eq List.length_range)
theorem mem_said0 {w o : Nat} : o ∈ said0 d w ↔ o < d.hears.length ∧ o ∈ d.says.getD (d.hears.getD w 0) [] := by
  unfold said0
  rw [List.mem_filter, List.mem_range, decide_eq_true_iff]
theorem said0_ne (ok : d.Ok) {w : Nat} (hw : w < d.hears.length) : said0 d w ≠ [] := by
  intro e
  have h1 : d.hears.getD w 0 < d.hears.length := by
    rw [List.getD_eq_getElem?_getD, List.getElem?_eq_getElem hw]
    exact ok.hl _ (List.getElem_mem hw)
  have hs : d.hears.getD w 0 < d.says.length := by rw [ok.sl]; exact h1
  have e2 : d.says.getD (d.hears.getD w 0) [] = d.says[d.hears.getD w 0] := by
    rw [List.getD_eq_getElem?_getD, List.getElem?_eq_getElem hs]; rfl
  have ne := ok.sne _ (List.getElem_mem hs)
  obtain ⟨x, hx⟩ := List.exists_mem_of_ne_nil _ ne
  have hxl := ok.slt _ (List.getElem_mem hs) x hx
  have : x ∈ said0 d w := mem_said0.mpr ⟨hxl, by rw [e2]; exact hx⟩
  rw [e] at this
  cases this
theorem mem_sure {w : Nat} : w ∈ sure d ↔ w < d.hears.length ∧ said0 d w = [w] := by
  unfold sure
  rw [List.mem_filter, List.mem_range, decide_eq_true_iff]
theorem mem_loose {w : Nat} : w ∈ loose d ↔ w < d.hears.length ∧ w ∈ said0 d w ∧ w ∉ sure d := by
  unfold loose
  rw [List.mem_filter, List.mem_range, Bool.and_eq_true, decide_eq_true_iff, Bool.not_eq_true', decide_eq_false_iff_not]
theorem doubts_all (h : doubts d = true) {w : Nat} (hw : w < d.hears.length) : w ∈ sure d ∨ w ∈ loose d := by
  have h1 := of_decide_eq_true h
  have h2 := filt_sum (fun w => decide (said0 d w = [w])) (fun w => decide (w ∈ said0 d w) && !decide (w ∈ sure d)) (fun x hx => by
    by_cases hxn : x < d.hears.length
    · rw [decide_eq_true (mem_sure.mpr ⟨hxn, of_decide_eq_true hx⟩)]; simp
    · have : x ∉ said0 d x := fun q => hxn (said0_lt q)
      rw [decide_eq_false this]; rfl) (List.range d.hears.length)
  have h3 := filt_all _ _ ((h2.symm.trans h1).trans List.length_range.symm) w (List.mem_range.mpr hw)
  rcases Bool.or_eq_true_iff.mp h3 with q | q
  · exact .inl (mem_sure.mpr ⟨hw, of_decide_eq_true q⟩)
  · rw [Bool.and_eq_true, decide_eq_true_iff, Bool.not_eq_true', decide_eq_false_iff_not] at q
    exact .inr (mem_loose.mpr ⟨hw, q⟩)
theorem mem_made {kd w o : Nat} (hw : w < d.hears.length) : o ∈ said0 (made d kd) w ↔ o < d.hears.length ∧ o ∈ sayW d kd w := by
  rw [mem_said0, made_len]
  have e : (made d kd).says.getD ((made d kd).hears.getD w 0) [] = sayW d kd w := by
    have e1 : (made d kd).hears.getD w 0 = w := by
      show (List.range d.hears.length).getD w 0 = w
      rw [List.getD_eq_getElem?_getD, List.getElem?_range hw]; rfl
    rw [e1]
    show ((List.range d.hears.length).map (sayW d kd)).getD w [] = _
    rw [List.getD_eq_getElem?_getD, List.getElem?_map, List.getElem?_range hw]; rfl
  rw [e]
theorem mem_id {w o : Nat} (hid : d.hears = List.range d.hears.length) (hw : w < d.hears.length) : o ∈ said0 d w ↔ o < d.hears.length ∧ o ∈ d.says.getD w [] := by
  rw [mem_said0]
  have e1 : d.hears.getD w 0 = w := by
    rw [hid, List.getD_eq_getElem?_getD, List.getElem?_range hw]; rfl
  rw [e1]
theorem row_asc (d : PD) (r0 : PD → List Nat → Nat → List Nat) (su : List Nat) (x : Nat) (h : ∀ x, (r0 d su x).Pairwise (· < ·)) : (knoR r0 d su x).Pairwise (· < ·) := by
  unfold knoR
  split
  · exact List.pairwise_singleton _ _
  · exact h x
theorem dou_asc (d : PD) (r0 : PD → List Nat → Nat → List Nat) (su : List Nat) (x : Nat) : (douR r0 d su x).Pairwise (· < ·) := List.Pairwise.filter _ List.pairwise_lt_range
theorem mem_dou {kd w o : Nat} {su : List Nat} : o ∈ douR perR (made d kd) su w ↔ o < d.hears.length ∧ (o ∈ said0 (made d kd) w ∨ o = w) := by
  unfold douR perR
  rw [List.mem_filter, List.mem_range, made_len, Bool.or_eq_true, decide_eq_true_iff, decide_eq_true_iff]
theorem say_plain {kd w : Nat} (h1 : ¬ (w ∈ loose d ∧ doubts d = true ∧ 1 < kd)) (h2 : ¬ (w ∈ sure d ∧ kd ≠ 2)) : sayW d kd w = d.says.getD w [] := by
  unfold sayW say1
  rw [if_neg h1, if_neg h2]
/-- a doubter says it again -/
theorem row_loose {kd w : Nat} (hid : d.hears = List.range d.hears.length) (hw : w < d.hears.length) (hl : w ∈ loose d) (hd : doubts d = true) (hk : 1 < kd) {su : List Nat} : douR perR (made d kd) su w = said0 d w := by
  refine asc_ext (dou_asc _ _ _ _) (said0_asc _ _) fun o => ?_
  rw [mem_dou, mem_made hw]
  have e : sayW d kd w = (said0 d w).filter (fun o => decide (o ≠ w)) := by unfold sayW; rw [if_pos ⟨hl, hd, hk⟩]
  rw [e, List.mem_filter, decide_eq_true_iff]
  constructor
  · rintro ⟨h1, ⟨_, h2, _⟩ | h2⟩
    · exact h2
    · rw [h2]; exact (mem_loose.mp hl).2.1
  · intro h
    refine ⟨said0_lt h, ?_⟩
    by_cases ne : o = w
    · exact .inr ne
    · exact .inl ⟨said0_lt h, h, ne⟩
theorem row_plain {kd w : Nat} (hid : d.hears = List.range d.hears.length) (hw : w < d.hears.length) (h1 : ¬ (w ∈ loose d ∧ doubts d = true ∧ 1 < kd)) (h2 : ¬ (w ∈ sure d ∧ kd ≠ 2)) : said0 (made d kd) w = said0 d w := by
  refine asc_ext (said0_asc _ _) (said0_asc _ _) fun o => ?_
  rw [mem_made hw, say_plain h1 h2, mem_id hid hw]
/-- the four of them -/
theorem made_p2 {w : Nat} (hid : d.hears = List.range d.hears.length) (hw : w < d.hears.length) (hd : doubts d = false) : perR (made d 2) [] w = said0 d w :=
  row_plain hid hw (fun z => by rw [hd] at z; exact nomatch z.2.1) (fun z => z.2 rfl)
theorem made_d2 {w : Nat} (hid : d.hears = List.range d.hears.length) (hw : w < d.hears.length) (hd : doubts d = true) : douR perR (made d 2) [] w = said0 d w := by
  by_cases hl : w ∈ loose d
  · exact row_loose hid hw hl hd (by omega)
  · have hs := (doubts_all hd hw).resolve_right hl
    have hs2 := (mem_sure.mp hs).2
    have e : said0 (made d 2) w = said0 d w := row_plain hid hw (fun z => hl z.1) (fun z => z.2 rfl)
    refine asc_ext (dou_asc _ _ _ _) (said0_asc _ _) fun o => ?_
    rw [mem_dou, e, hs2, List.mem_singleton]
    exact ⟨fun z => z.2.elim id id, fun z => ⟨z ▸ hw, .inl z⟩⟩
theorem made_k3 {w : Nat} (hid : d.hears = List.range d.hears.length) (hw : w < d.hears.length) (hd : doubts d = true) : knoR (douR perR) (made d 3) (sure d) w = said0 d w := by
  unfold knoR
  by_cases hs : w ∈ sure d
  · rw [if_pos hs, (mem_sure.mp hs).2]
  · rw [if_neg hs]
    exact row_loose hid hw ((doubts_all hd hw).resolve_left hs) hd (by omega)
theorem made_k1 {kd w : Nat} (hid : d.hears = List.range d.hears.length) (hw : w < d.hears.length) (hk : kd ≤ 1 ∨ doubts d = false) : knoR perR (made d kd) (sure d) w = said0 d w := by
  unfold knoR
  by_cases hs : w ∈ sure d
  · rw [if_pos hs, (mem_sure.mp hs).2]
  · rw [if_neg hs]
    exact row_plain hid hw (fun z => by rcases hk with hk | hk
                                        · exact absurd z.2.2 (by omega)
                                        · rw [hk] at z; exact nomatch z.2.1) (fun z => hs z.1)
theorem made_ok (ok : d.Ok) (hid : d.hears = List.range d.hears.length) (kd : Nat) : (made d kd).Ok := by
  have n1 := ok.n1
  have n6 := ok.n6
  have hrow : ∀ w, w < d.hears.length → sayW d kd w ≠ [] ∧ (sayW d kd w).length ≤ 1000 ∧ ∀ x ∈ sayW d kd w, x < d.hears.length := by
    intro w hw
    have hsw : w < d.says.length := by rw [ok.sl]; exact hw
    unfold sayW
    split
    · rename_i h
      obtain ⟨_, h1, h2⟩ := mem_loose.mp h.1
      refine ⟨fun e => h2 (mem_sure.mpr ⟨hw, only_one (said0_asc _ _) h1 e⟩), ?_, fun x hx => said0_lt (List.mem_filter.mp hx).1⟩
      exact Nat.le_trans (List.length_filter_le _ _) (Nat.le_trans said0_le (by omega))
    · unfold say1
      split
      · refine ⟨fun e => ?_, by rw [List.length_range]; omega, fun x hx => List.mem_range.mp hx⟩
        have h0 : d.hears.length = 0 := by
          have := congrArg List.length e
          rwa [List.length_range] at this
        omega
      · have e2 : d.says.getD w [] = d.says[w] := by
          rw [List.getD_eq_getElem?_getD, List.getElem?_eq_getElem hsw]; rfl
        rw [e2]
        exact ⟨ok.sne _ (List.getElem_mem hsw), ok.slen _ (List.getElem_mem hsw), ok.slt _ (List.getElem_mem hsw)⟩
  refine ⟨by rw [made_len]; exact n1, by rw [made_len]; exact n6, fun h hh => by rw [made_len]; exact List.mem_range.mp hh, ?_, ?_, ?_, ?_⟩
  · show ((List.range d.hears.length).map (sayW d kd)).length = (List.range d.hears.length).length
    rw [List.length_map]
  · intro r hr
    obtain ⟨x, hx, rfl⟩ := List.mem_map.mp hr
    exact (hrow x (List.mem_range.mp hx)).1
  · intro r hr
    obtain ⟨x, hx, rfl⟩ := List.mem_map.mp hr
    exact (hrow x (List.mem_range.mp hx)).2.1
  · intro r hr y hy
    obtain ⟨x, hx, rfl⟩ := List.mem_map.mp hr
    rw [made_len]
    exact (hrow x (List.mem_range.mp hx)).2.2 y hy
end
end Mm

set_option maxHeartbeats 4000000
/-! the law: what is made of one of the folk -/
namespace Mm
open PySem PySem.Spec L2 MM
open PyProof.Rows hiding St
theorem iteDn {p A B : Prop} [Decidable p] (h1 : ¬ p → A) (h2 : p → B) : if (!decide p) = true then A else B := by
  by_cases h : p
  · rw [decide_eq_true h]; exact iteF (h2 h)
  · rw [decide_eq_false h]; exact iteT (h1 h)
/-- the four classes of people -/
structure Ppl (P : Program) (w : World) (K : PySem.W.Frag) (mg : Str → Option Value) (base : Heap) (CT CP CD CN CX : Addr) : Prop where
  pP : PersC K CP
  pD : PersC K CD
  pN : PersC K CN
  pX : PersC K CX
  mP : mg "Person" = some (.ref CP)
  mD : mg "Doubter" = some (.ref CD)
  mN : mg "Knower" = some (.ref CN)
  mX : mg "KnowingDoubter" = some (.ref CX)
  tP : GP P w K mg base 7 CP "table" (sp_Pers_table CT CP false perR)
  tD : GP P w K mg base 7 CD "table" (sp_Pers_table CT CD false (douR perR))
  tN : GP P w K mg base 7 CN "table" (sp_Pers_table CT CN true (knoR perR))
  tX : GP P w K mg base 7 CX "table" (sp_Pers_table CT CX true (knoR (douR perR)))
  iP : GI P w K mg base 3 CP ["self", "hears", "says"] (sp_Person_init K CP)
  iD : GI P w K mg base 3 CD ["self", "hears", "says"] (sp_Person_init K CD)
  iN : GI P w K mg base 4 CN ["self", "hears", "says", "knows"] (sp_Knower_init K CN)
  iX : GI P w K mg base 4 CX ["self", "hears", "says", "knows"] (sp_Knower_init K CX)
theorem folk_of {P : Program} {w : World} {K : PySem.W.Frag} {mg : Str → Option Value} {base : Heap} {CT C p : Addr} {need : Bool} {r0 : PD → List Nat → Nat → List Nat} {H : Hp} {d d2 : PD} {su : Option (List Nat)} (pc : PersC K C) (g : GP P w K mg base 7 C "table" (sp_Pers_table CT C need r0)) (h : PAt C H p d2 su) (hn : need = true → su.isSome = true) (ok : d2.Ok) (el : d2.hears.length = d.hears.length) (hr : ∀ x, x < d.hears.length → r0 d2 (su.getD []) x = said0 d x) : Folk P w K mg base CT H p d.hears.length (rows0 d) := by
  have n6 := ok.n6
  refine ⟨C, need, r0, d2, su, pc, g, h, hn, ok, fun x hx o ho => ?_, fun x hx => ?_, el, ?_⟩
  · rw [hr x (by omega)] at ho
    rw [el]
    exact said0_lt ho
  · rw [hr x (by omega)]
    exact Nat.le_trans said0_le (by omega)
  · unfold rows0 tabR
    rw [el]
    exact (List.map_congr_left fun x hx => hr x (List.mem_range.mp hx)).symm
/-- says, as it is being made anew -/
def curW (d : PD) (kd i : Nat) (x : List Nat) : List (List Nat) := (List.range d.hears.length).map fun w => if w < i then sayW d kd w else if w = i then x else d.says.getD w []
theorem curW_len (d : PD) (kd i : Nat) (x : List Nat) : (curW d kd i x).length = d.hears.length := by unfold curW; rw [List.length_map, List.length_range]
theorem paired_set {α β : Type} {F : α → β → Prop} {a : α} {b : β} (h : F a b) : ∀ {l : List α} {m : List β} {i : Nat}, Paired F l m → Paired F (l.set i a) (m.set i b)
  | _, _, _, .nil => .nil
  | _, _, 0, .cons r t => .cons h t
  | _, _, i + 1, .cons r t => .cons r (paired_set h t)
theorem curW_get (d : PD) (kd i : Nat) (x : List Nat) {j : Nat} (hj : j < d.hears.length) : (curW d kd i x)[j]? = some (if j < i then sayW d kd j else if j = i then x else d.says.getD j []) := by
  unfold curW
  rw [List.getElem?_map, List.getElem?_range hj]
  rfl
theorem ext_to {α : Type} {n : Nat} {l m : List α} (h1 : l.length = n) (h2 : m.length = n) (h : ∀ j, j < n → l[j]? = m[j]?) : l = m := by
  apply List.ext_getElem?
  intro j
  by_cases hj : j < n
  · exact h j hj
  · rw [List.getElem?_eq_none (by omega), List.getElem?_eq_none (by omega)]
theorem curW_set (d : PD) (kd i : Nat) (x y : List Nat) : (curW d kd i x).set i y = curW d kd i y := by
  refine ext_to (n := d.hears.length) (by rw [List.length_set, curW_len]) (curW_len _ _ _ _) fun j hj => ?_
  rw [List.getElem?_set, curW_get _ _ _ _ hj, curW_get _ _ _ _ hj]
  by_cases e : i = j
  · subst e
    rw [if_pos rfl, if_pos (by rw [curW_len]; exact hj), if_neg (Nat.lt_irrefl _), if_pos rfl]
  · rw [if_neg e]
    by_cases e2 : j < i
    · rw [if_pos e2, if_pos e2]
    · rw [if_neg e2, if_neg e2, if_neg (fun z => e z.symm), if_neg (fun z => e z.symm)]
theorem curW_next (d : PD) (kd i : Nat) : curW d kd i (sayW d kd i) = curW d kd (i + 1) (d.says.getD (i + 1) []) := by
  unfold curW
  refine List.map_congr_left fun w _ => ?_
  by_cases e1 : w < i
  · rw [if_pos e1, if_pos (by omega)]
  · rw [if_neg e1]
    by_cases e2 : w = i
    · rw [if_pos e2, if_pos (by omega), e2]
    · rw [if_neg e2, if_neg (by omega)]
      by_cases e3 : w = i + 1
      · rw [if_pos e3, e3]
      · rw [if_neg e3]
structure MadeW (d : PD) (kd : Nat) (D : Addr) (H0 H : Hp) (qs : List Addr) (i : Nat) (x : List Nat) : Prop where
  bt : But D H0 H
  at_ : H D = some (.lst (qs.map V.ref))
  nD : D ∉ qs
  pr : Paired (fun q r => H q = some (.lst (vn r))) qs (curW d kd i x)
theorem MadeW.len {d : PD} {kd : Nat} {D : Addr} {H0 H : Hp} {qs : List Addr} {i : Nat} {x : List Nat} (h : MadeW d kd D H0 H qs i x) : qs.length = d.hears.length := by
  rw [Paired.length h.pr, curW_len]
theorem MadeW.start {d : PD} {kd : Nat} {D : Addr} {H : Hp} {qs : List Addr} (h1 : H D = some (.lst (qs.map V.ref))) (h2 : D ∉ qs) (h3 : d.says.length = d.hears.length) (h4 : Paired (fun q r => H q = some (.lst (vn r))) qs d.says) : MadeW d kd D H H qs 0 (d.says.getD 0 []) := by
  refine ⟨But.refl, h1, h2, ?_⟩
  have e : curW d kd 0 (d.says.getD 0 []) = d.says := by
    refine ext_to (n := d.hears.length) (curW_len _ _ _ _) h3 fun j hj => ?_
    rw [curW_get _ _ _ _ hj, if_neg (Nat.not_lt_zero _), List.getElem?_eq_getElem (by omega)]
    have : d.says.getD j [] = d.says[j] := by rw [List.getD_eq_getElem?_getD, List.getElem?_eq_getElem (by omega)]; rfl
    by_cases e : j = 0
    · rw [if_pos e, ← this, e]
    · rw [if_neg e, this]
  rw [e]
  exact h4
theorem MadeW.new {d : PD} {kd : Nat} {D l : Addr} {H0 H : Hp} {qs : List Addr} {i : Nat} {x : List Nat} {o : HO} (h : MadeW d kd D H0 H qs i x) (hl : H l = none) : MadeW d kd D H0 (upd H l o) qs i x := by
  have s := same_new (o := o) hl
  exact ⟨h.bt.trans (But.of s), s _ _ h.at_, h.nD, paired_map h.pr fun _ _ e => s _ _ e⟩
theorem MadeW.same {d : PD} {kd : Nat} {D : Addr} {H0 H H' : Hp} {qs : List Addr} {i : Nat} {x : List Nat} (h : MadeW d kd D H0 H qs i x) (s : Same H H') : MadeW d kd D H0 H' qs i x :=
  ⟨h.bt.trans (But.of s), s _ _ h.at_, h.nD, paired_map h.pr fun _ _ e => s _ _ e⟩
theorem MadeW.set {d : PD} {kd : Nat} {D l : Addr} {H0 H : Hp} {qs : List Addr} {i : Nat} {x x' : List Nat} (h : MadeW d kd D H0 H qs i x) (hi : i < d.hears.length) (hl : H l = some (.lst (vn x'))) (nl : l ≠ D) : MadeW d kd D H0 (upd H D (.lst ((qs.map V.ref).set i (.ref l)))) (qs.set i l) i x' := by
  refine ⟨h.bt.trans But.upd, by rw [upd_same, List.map_set], fun e => ?_, ?_⟩
  · rcases List.mem_or_eq_of_mem_set e with e | e
    · exact h.nD e
    · exact nl e.symm
  · rw [← curW_set d kd i x x']
    refine paired_set ?_ (paired_mapm h.pr fun q r hq _ e => ?_)
    · rw [upd_ne nl]; exact hl
    · rw [upd_ne (fun z : q = D => h.nD (by rw [← z]; exact hq))]
      exact e
theorem MadeW.put {d : PD} {kd : Nat} {D l : Addr} {H0 H : Hp} {qs : List Addr} {i : Nat} {x x' : List Nat} (h : MadeW d kd D H0 H qs i x) (hi : i < d.hears.length) (hl : H l = none) : MadeW d kd D H0 (upd (upd H l (.lst (vn x'))) D (.lst ((qs.map V.ref).set i (.ref l)))) (qs.set i l) i x' :=
  (h.new hl).set hi upd_same (ne_of_none h.at_ hl).symm
theorem MadeW.eq {d : PD} {kd : Nat} {D : Addr} {H0 H : Hp} {qs : List Addr} {i : Nat} {x y : List Nat} (h : MadeW d kd D H0 H qs i x) (e : x = y) : MadeW d kd D H0 H qs i y := e ▸ h
theorem MadeW.step {d : PD} {kd : Nat} {D : Addr} {H0 H : Hp} {qs : List Addr} {i : Nat} (h : MadeW d kd D H0 H qs i (sayW d kd i)) : MadeW d kd D H0 H qs (i + 1) (d.says.getD (i + 1) []) := ⟨h.bt, h.at_, h.nD, by rw [← curW_next]; exact h.pr⟩
theorem say_same {d : PD} {kd i : Nat} (h : ¬ (i ∈ loose d ∧ doubts d = true ∧ 1 < kd)) : say1 d kd i = sayW d kd i := by
  unfold sayW
  rw [if_neg h]
theorem filt_take_yes {p : Nat → Bool} {l : List Nat} {j x : Nat} (h : l[j]? = some x) (hp : p x = true) : vn ((l.take (j + 1)).filter p) = vn ((l.take j).filter p) ++ [vi x] := by
  rw [take_get h, List.filter_append, List.filter_cons, hp, List.filter_nil, vn_app]
  rfl
theorem filt_take_no {p : Nat → Bool} {l : List Nat} {j x : Nat} (h : l[j]? = some x) (hp : p x = false) : vn ((l.take (j + 1)).filter p) = vn ((l.take j).filter p) := by
  rw [take_get h, List.filter_append, List.filter_cons, hp, List.filter_nil]
  simp
theorem filt_take_len (p : Nat → Bool) (l : List Nat) (j : Nat) : (vn ((l.take j).filter p)).length ≤ l.length := by
  rw [List.length_map]
  refine Nat.le_trans (List.length_filter_le _ _) ?_
  rw [List.length_take]
  omega
theorem range_some {n i x : Nat} (h : (List.range n)[i]? = some x) : i = x ∧ i < n := by
  have hi := len_get h
  rw [List.length_range] at hi
  rw [List.getElem?_range hi] at h
  exact ⟨Option.some.inj h, hi⟩
section
variable {P : Program} {w : World} {K : PySem.W.Frag} {mg : Str → Option Value} {base : Heap} {CC CT CP CD CN CX : Addr}
abbrev s_law_made : Stmt := (top 75)
abbrev N_law_made : List Str := ["_law_one", "_law_kind", "_law_words_here", "_law_row", "_law_says", "_law_word", "_law_sure", "_law_loose", "_law_doubts", "_law_out"]
theorem sc_law_made : FnScope N_law_made ["_law_one", "_law_kind"] (defScope s_law_made) := ⟨rfl, rfl, rfl, by decide +kernel, rfl, by decide +kernel, by decide +kernel⟩
def sp_made (P : Program) (w : World) (K : PySem.W.Frag) (mg : Str → Option Value) (base : Heap) (CT : Addr) : Sp := fun vs H Q _ => ∃ (o : Addr) (kd : Nat) (d : PD), vs = [.ref o, vi kd] ∧ kd ≤ 3 ∧ One (fun _ => True) H o d ∧ d.Ok ∧ ∀ p H', Same H H' → Folk P w K mg base CT H' p d.hears.length (rows0 d) → Q (.ref p) H'
theorem g_law_made (F : FnDf K mg "_law_made" s_law_made [.int 0] []) (B : Blt mg) (Pp : Ppl P w K mg base CT CP CD CN CX) : G P w K mg base 6 "_law_made" ["_law_one", "_law_kind"] (sp_made P w K mg base CT) := by
  obtain ⟨f, fd, hmg, FD⟩ := F
  have hB : Binds K fd ["_law_one", "_law_kind"] [] := by
    obtain ⟨ds, hv, hb⟩ := FD.binds1 (ps := ["_law_one", "_law_kind"]) 2 1 (List.cons_ne_nil _ _) rfl (fun T kV doc pm an cdv ct us its h1 h2 => by
      match us, h1, its, h2 with
      | [a, b], _, [c], _ => exact ⟨_, rfl, rfl⟩)
    cases hv
    exact hb
  refine ⟨f, fd, hmg, FD.kp, hB, ?_⟩
  refine ok_ofD FD sc_law_made (fun vs H Q E h => ?_) (fun cdv A outer s H vs Q E hr h => ?_)
  · obtain ⟨o, kd, d, rfl, _⟩ := h
    rfl
  · obtain ⟨o, kd, d, rfl, hkd, ⟨h, sa, ro, ho, _, hh, ⟨as, _, hsa, hpa⟩, ⟨bs, _, hro, hpb⟩⟩, ok, k⟩ := h
    have hP := Pp.mP
    have hP_Doubter := Pp.mD
    have hP_Knower := Pp.mN
    have hP_KnowingDoubter := Pp.mX
    have G_Person_init := Pp.iP
    have G_Doubter_init := Pp.iD
    have G_Knower_init := Pp.iN
    have G_KnowingDoubter_init := Pp.iX
    have n1 := ok.n1
    have n6 := ok.n6
    have el : (vn d.hears).length = d.hears.length := List.length_map ..
    refine ⟨_, (pss_cons (ps_set (i := 2) sc_law_made.nd rfl (Or.inl rfl) (pe_listRg rfl (by rfl) B.b_list (prg_1 (by rfl) B.b_range (pe_callB (call_len_seqK (K := K) rfl) (by rfl) B.b_len PySem.boot_len (pa_cons (pe_ix (ix_listK (K := K) rfl) (pv 0) pe_int (fun _ _ => rfl)) pa_nil)))))
      (pss_cons (ps_setLc (i := 4) (own := [("_law_row", 3)]) rfl sc_law_made.nd rfl rfl (sw_true rfl rfl rfl (by decide +kernel)) (pi_listK (K := K) rfl (pe_ix (ix_listK (K := K) rfl) (pv 0) pe_int (fun _ _ => rfl))) (blkOk_by (N := N_law_made) (sc := defScope s_law_made) (by decide +kernel)) (fun _ _ _ _ _ => (pg_name (i := 3) sc_law_made.nd rfl (Or.inl rfl))) (fun _ _ _ _ _ => pts_nil) (fun _ _ _ _ _ => (pe_callTy (call_list_ofK (K := K) rfl) (by rfl) B.b_list (by decide +kernel) (pa_cons (pv 3) pa_nil))))
      (pss_cons (ps_if (PW.pt (pw_or (pt_cmpR (op_neDK (K := K) rfl hr.units) (pe_ix (ix_listK (K := K) rfl) (pv 0) pe_int (fun _ _ => rfl)) (pv 2) (nomark _)) (pw_or1 (pt_cmpR op_eq (pv 1) pe_int (nomark _))))) (pss_one (ps_ret (pe_makeG G_Person_init (hr.mono (by decide)) (by rfl) hP (pa_cons (pe_callTy (call_list_ofK (K := K) rfl) (by rfl) B.b_list (by decide +kernel) (pa_cons (pe_ix (ix_listK (K := K) rfl) (pv 0) pe_int (fun _ _ => rfl)) pa_nil)) (pa_cons (pv 4) pa_nil))))) pss_nil)
      (pss_cons (ps_set (i := 6) sc_law_made.nd rfl (Or.inr rfl) (pe_lc (own := [("_law_word", 5)]) rfl sc_law_made.nd (pi_listK (K := K) rfl (pv 2)) (blkOk_by (N := N_law_made) (sc := defScope s_law_made) (by decide +kernel)) (fun _ _ _ _ _ => (pg_name (i := 5) sc_law_made.nd rfl (Or.inl rfl))) (fun _ _ _ _ _ => pts_one (pt_cmpR (op_eqDK (K := K) rfl hr.units) (pe_ix (ix_listK (K := K) rfl) (pe_ix (ix_listK (K := K) rfl) (pv 0) pe_int (fun _ _ => rfl)) (pv 5) (fun _ _ => rfl)) (pe_lst (pa_cons (pv 5) pa_nil)) (nomark _))) (fun _ _ _ _ _ => (pv 5))))
      (pss_cons (ps_setLc (i := 7) (own := [("_law_word", 5)]) rfl sc_law_made.nd rfl rfl (sw_true rfl rfl rfl (by decide +kernel)) (pi_listK (K := K) rfl (pv 2)) (blkOk_by (N := N_law_made) (sc := defScope s_law_made) (by decide +kernel)) (fun _ _ _ _ _ => (pg_name (i := 5) sc_law_made.nd rfl (Or.inl rfl))) (fun _ _ _ _ _ => pts_one (PW.pt (pw_and (pt_cmpR (op_in_seqK (K := K) rfl) (pv 5) (pe_ix (ix_listK (K := K) rfl) (pe_ix (ix_listK (K := K) rfl) (pv 0) pe_int (fun _ _ => rfl)) (pv 5) (fun _ _ => rfl)) rfl) (pw_and1 (pt_cmpR (op_notIn_seqK (K := K) rfl) (pv 5) (pv 6) rfl))))) (fun _ _ _ _ _ => (pv 5)))
      (pss_cons (ps_set (i := 8) sc_law_made.nd rfl (Or.inl rfl) (pe_cmpR op_eq (pe_op op_add (pe_callB (call_len_seqK (K := K) rfl) (by rfl) B.b_len PySem.boot_len (pa_cons (pv 6) pa_nil)) (pe_callB (call_len_seqK (K := K) rfl) (by rfl) B.b_len PySem.boot_len (pa_cons (pv 7) pa_nil))) (pe_callB (call_len_seqK (K := K) rfl) (by rfl) B.b_len PySem.boot_len (pa_cons (pv 2) pa_nil)) (nomark _)))
      (pss_cons (ps_for PassesOwn.never rfl (pi_listK (K := K) rfl (pv 2)) (pg_name (i := 5) sc_law_made.nd rfl (Or.inr rfl)) (pss_cons (ps_if (PW.pt (pw_and (pt_cmpR (op_in_seqK (K := K) rfl) (pv 5) (pv 6) rfl) (pw_and1 (pt_cmpR op_ne (pv 1) pe_int (nomark _))))) (pss_one (ps_asg (pe_callTy (call_list_ofK (K := K) rfl) (by rfl) B.b_list (by decide +kernel) (pa_cons (pv 2) pa_nil)) (pg_sub (pv 4) (pv 5) set_list))) pss_nil)
      (pss_one (ps_if (PW.pt (pw_and (pt_cmpR (op_in_seqK (K := K) rfl) (pv 5) (pv 7) rfl) (pw_and (pt_val (pv 8)) (pw_and1 (pt_cmpR op_gt (pv 1) pe_int (nomark _)))))) (pss_one (ps_asg (pe_lc (own := [("_law_out", 9)]) rfl sc_law_made.nd (pi_listK (K := K) rfl (pe_ix (ix_listK (K := K) rfl) (pe_ix (ix_listK (K := K) rfl) (pv 0) pe_int (fun _ _ => rfl)) (pv 5) (fun _ _ => rfl))) (blkOk_by (N := N_law_made) (sc := defScope s_law_made) (by decide +kernel)) (fun _ _ _ _ _ => (pg_name (i := 9) sc_law_made.nd rfl (Or.inl rfl))) (fun _ _ _ _ _ => pts_one (pt_cmpR op_ne (pv 9) (pv 5) (nomark _))) (fun _ _ _ _ _ => (pv 9))) (pg_sub (pv 4) (pv 5) set_list))) pss_nil))))
      (pss_cons (ps_if (PW.pt (pw_and (pt_cmpR op_eq (pv 1) pe_int (nomark _)) (pw_and1 (pt_not (pt_val (pv 8)))))) (pss_one (ps_ret (pe_makeG G_Person_init (hr.mono (by decide)) (by rfl) hP (pa_cons (pv 2) (pa_cons (pv 4) pa_nil))))) pss_nil)
      (pss_cons (ps_if (pt_cmpR op_eq (pv 1) pe_int (nomark _)) (pss_one (ps_ret (pe_makeG G_Doubter_init (hr.mono (by decide)) (by rfl) hP_Doubter (pa_cons (pv 2) (pa_cons (pv 4) pa_nil))))) pss_nil)
      (pss_cons (ps_if (PW.pt (pw_and (pt_cmpR op_eq (pv 1) pe_int (nomark _)) (pw_and1 (pt_val (pv 8))))) (pss_one (ps_ret (pe_makeG G_KnowingDoubter_init (hr.mono (by decide)) (by rfl) hP_KnowingDoubter (pa_cons (pv 2) (pa_cons (pv 4) (pa_cons (pv 6) pa_nil)))))) pss_nil)
      (pss_one (ps_ret (pe_makeG G_Knower_init (hr.mono (by decide)) (by rfl) hP_Knower (pa_cons (pv 2) (pa_cons (pv 4) (pa_cons (pv 6) pa_nil)))))))))))))))), ?_⟩
    refine ⟨_, rfl, o, _, (0 : Int), _, rfl, rfl, SqL.of ho, rfl, h, _, rfl, .inl (SqL.of hh), _, rfl, ?_⟩
    rw [el]
    refine ⟨rg_ok n6, fun wl hwl => ?_⟩
    rw [rg_vn]
    generalize hH1 : upd H wl (.lst (vn (List.range d.hears.length))) = H1
    have s1 : Same H H1 := by rw [← hH1]; exact same_new hwl
    have w1 : H1 wl = some (.lst (vn (List.range d.hears.length))) := by rw [← hH1, upd_same]
    refine ⟨_, rfl, o, _, (1 : Int), _, rfl, rfl, SqL.of (s1 _ _ ho), rfl, sa, rfl, ⟨_, SqL.of (s1 _ _ hsa)⟩, fun D hD => blk_w walk_list (fun i H' => ∃ qs : List Addr, LB H1 D H' (qs.map V.ref) ∧ D ∉ qs ∧ Paired (fun q r => H' q = some (.lst (vn r))) qs (d.says.take i)) ⟨[], LB.start hD, List.not_mem_nil, .nil⟩ (fun i H' _ ⟨_, L, _⟩ => SqL.of (L.sm _ _ (s1 _ _ hsa))) ?_ ?_⟩
    · rintro i y Ha Hb hi ⟨qs, L, nD, hp⟩ ⟨rfl, hy⟩ N hN
      obtain ⟨p, hp1, rfl⟩ := refs_get hy
      obtain ⟨r, hr1, hr2⟩ := L2.paired_get hpa hp1
      have hil := len_get hr1
      have sl := ok.sl
      refine ⟨rfl, _, rfl, p, _, rfl, .inl (SqL.of (L.sm _ _ (s1 _ _ hr2.2))), fun l hl => ⟨_, (L.next (same_new hl)).at_, small_of (m := 6) ?_, hN _ ⟨qs ++ [l], ?_, ?_, ?_⟩⟩⟩
      · rw [List.length_map, Paired.length hp, List.length_take]
        omega
      · have := (L.next (same_new (o := HO.lst (vn r)) hl)).snoc (.ref l)
        rw [List.map_append]
        exact this
      · have : D ≠ l := ne_of_none L.at_ hl
        simp only [List.mem_append, List.mem_singleton, not_or]
        exact ⟨nD, this⟩
      · rw [take_get hr1]
        refine paired_app (paired_mapm hp fun q z hpm _ e => ?_) (.cons ?_ .nil)
        · rw [upd_ne (fun e : q = D => nD (e ▸ hpm))]
          exact same_new hl _ _ e
        · rw [upd_ne (ne_of_none L.at_ hl).symm, upd_same]
    rintro H2 ⟨qs, L, nD, hp⟩
    have eas : as.length = d.says.length := Paired.length hpa
    rw [take_all (n := (as.map V.ref).length) (by rw [List.length_map, eas])] at hp
    have s12 := s1.trans L.sm
    have w2 := L.sm _ _ w1
    by_cases hid : d.hears = List.range d.hears.length
    · have fP : ∀ (pl : Addr) (H3 : Hp), Same H H3 → BaseAt CP H3 pl d none → Q (.ref pl) H3 := fun pl H3 s hB => k pl H3 s (folk_of (su := none) Pp.pP Pp.tP hB (fun z => nomatch z) ok rfl fun _ _ => rfl)
      refine ⟨_, rfl, o, _, (0 : Int), _, rfl, rfl, SqL.of (s12 _ _ ho), rfl, _, rfl, rNe_i (SqL.of (s12 _ _ hh)) (SqL.of w2) ⟨_, rfl, iteDn (fun c => absurd hid c) fun _ => ?_⟩⟩
      refine ⟨_, rfl, rfl, _, rfl, iteI (fun c => ?_) fun c => ?_⟩
      · refine ⟨_, rfl, o, _, (0 : Int), _, rfl, rfl, SqL.of (s12 _ _ ho), rfl, h, _, rfl, .inl (SqL.of (s12 _ _ hh)), fun h2 hh2 => ⟨_, rfl, ?_⟩⟩
        have s3 := same_new (o := HO.lst (vn d.hears)) hh2
        refine fun pl dpl hpl hdpl npl => ⟨_, pl, dpl, h2, D, d, rfl, same_upd (same_new hdpl) hpl, hpl, upd_same, SqL.of upd_same, ⟨qs, SqL.of (s3 _ _ L.at_), paired_map hp fun _ _ e => SqL.of (s3 _ _ e)⟩, ok, fun H3 s4 hB => ⟨rfl, ?_⟩⟩
        exact fP pl H3 ((s12.trans s3).trans s4) hB
      have hrow : ∀ i, i < d.hears.length → ∃ p, bs[i]? = some p ∧ H p = some (.lst (vn (said0 d i))) := by
        intro i hi
        have hz : (rows0 d)[i]? = some (said0 d i) := by
          unfold rows0
          rw [List.getElem?_map, List.getElem?_range hi]; rfl
        have elb : bs.length = d.hears.length := by
          rw [Paired.length hpb]; unfold rows0; rw [List.length_map, List.length_range]
        obtain ⟨p, hp⟩ : ∃ p, bs[i]? = some p := ⟨_, List.getElem?_eq_getElem (by omega)⟩
        obtain ⟨r, hr1, hr2⟩ := L2.paired_get hpb hp
        rw [hz] at hr1
        rw [← Option.some.inj hr1] at hr2
        exact ⟨p, hp, hr2.2⟩
      -- sure
      refine ⟨_, rfl, wl, rfl, ⟨_, SqL.of w2⟩, fun S hS => blk_w walk_list (fun i H' => LB H2 S H' (vn ((List.range i).filter fun w => decide (said0 d w = [w])))) (LB.start hS) (fun i H' _ L => SqL.of (L.sm _ _ w2)) ?_ ?_⟩
      · rintro i y Ha Hb hi Ls ⟨rfl, hy⟩ N hN
        obtain ⟨x, hx, rfl⟩ := vn_get hy
        have hxn := range_some hx
        obtain ⟨rfl, hin⟩ := hxn
        obtain ⟨p, hp1, hp2⟩ := hrow i hin
        have sb := s12.trans Ls.sm
        refine ⟨rfl, _, rfl, o, _, (2 : Int), _, rfl, rfl, SqL.of (sb _ _ ho), rfl, _, rfl, ro, _, (i : Int), .ref p, rfl, rfl, SqL.of (sb _ _ hro), atI_nat (by rw [List.getElem?_map, hp1]; rfl), _, rfl, by show 1 ≤ sizeLine; exact le_of_small (m := 1) (Nat.le_refl _), fun T hT => ?_⟩
        have sT := same_new (o := HO.lst [vi i]) hT
        refine rEq_i (ys := [i]) (SqL.of (sT _ _ (sb _ _ hp2))) (SqL.of upd_same) ⟨_, rfl, iteD (fun c2 => ?_) fun c2 => ?_⟩
        · have L2' := Ls.next sT
          refine ⟨_, rfl, _, L2'.at_, small_of (m := 6) (Nat.le_trans (filt_len _ _) (by omega)), hN _ ?_⟩
          rw [filt_yes (decide_eq_true c2)]
          exact L2'.snoc (vi i)
        · refine hN _ ?_
          rw [filt_no (decide_eq_false c2)]
          exact Ls.next sT
      rintro H3 Ls
      have es : (List.range (vn (List.range d.hears.length)).length).filter (fun w => decide (said0 d w = [w])) = sure d := by
        rw [List.length_map, List.length_range]; rfl
      rw [es] at Ls
      have s13 := s12.trans Ls.sm
      have w3 := Ls.sm _ _ w2
      -- loose
      refine ⟨_, rfl, wl, rfl, ⟨_, SqL.of w3⟩, fun Z hZ => blk_w walk_list (fun i H' => LB H3 Z H' (vn ((List.range i).filter fun w => decide (w ∈ said0 d w) && !decide (w ∈ sure d)))) (LB.start hZ) (fun i H' _ L => SqL.of (L.sm _ _ w3)) ?_ ?_⟩
      · rintro i y Ha Hb hi Lz ⟨rfl, hy⟩ N hN
        obtain ⟨x, hx, rfl⟩ := vn_get hy
        have hxn := range_some hx
        obtain ⟨rfl, hin⟩ := hxn
        obtain ⟨p, hp1, hp2⟩ := hrow i hin
        have sb := s13.trans Lz.sm
        refine ⟨rfl, _, rfl, _, rfl, o, _, (2 : Int), _, rfl, rfl, SqL.of (sb _ _ ho), rfl, _, rfl, ro, _, (i : Int), .ref p, rfl, rfl, SqL.of (sb _ _ hro), atI_nat (by rw [List.getElem?_map, hp1]; rfl), p, _, rfl, .inl (SqL.of (sb _ _ hp2)), rfl, flat_vn _, _, rfl, iteB (fun c1 => ?_) fun c1 => ?_⟩
        · have c1' : decide (i ∈ said0 d i) = true := (inV_vn i _).symm.trans c1
          refine ⟨_, rfl, _, rfl, S, _, rfl, .inl (SqL.of (Lz.sm _ _ Ls.at_)), rfl, flat_vn _, _, rfl, iteB (fun c2 => ?_) fun c2 => ?_⟩
          · have c2' : (!decide (i ∈ sure d)) = true := by rw [← inV_vn]; exact c2
            refine ⟨_, rfl, _, Lz.at_, small_of (m := 6) (Nat.le_trans (filt_len _ _) (by omega)), hN _ ?_⟩
            rw [filt_yes (p := fun w => decide (w ∈ said0 d w) && !decide (w ∈ sure d)) (by rw [c1', c2']; rfl)]
            exact Lz.snoc (vi i)
          · have c2' : (!decide (i ∈ sure d)) = false := by rw [← inV_vn]; exact c2
            refine hN _ ?_
            rw [filt_no (p := fun w => decide (w ∈ said0 d w) && !decide (w ∈ sure d)) (by rw [c2', Bool.and_false])]
            exact Lz
        · have c1' : decide (i ∈ said0 d i) = false := (inV_vn i _).symm.trans c1
          refine iteF (hN _ ?_)
          rw [filt_no (p := fun w => decide (w ∈ said0 d w) && !decide (w ∈ sure d)) (by rw [c1', Bool.false_and])]
          exact Lz
      rintro H4 Lz
      have ez : (List.range (vn (List.range d.hears.length)).length).filter (fun w => decide (w ∈ said0 d w) && !decide (w ∈ sure d)) = loose d := by
        rw [List.length_map, List.length_range]; rfl
      rw [ez] at Lz
      have s14 := s13.trans Lz.sm
      have w4 := Lz.sm _ _ w3
      have hS4 := Lz.sm _ _ Ls.at_
      have edb : decide (V.int (((vn (sure d)).length : Int) + ((vn (loose d)).length : Int)) = V.int ((vn (List.range d.hears.length)).length : Int)) = doubts d := by
        unfold doubts
        rw [decide_eq_decide, List.length_map, List.length_map, List.length_map, List.length_range]
        exact ⟨fun e => by have := V.int.inj e; omega, fun e => by rw [← e]; congr 1⟩
      refine ⟨_, rfl, S, _, rfl, .inl (SqL.of hS4), _, rfl, Z, _, rfl, .inl (SqL.of Lz.at_), _, _, rfl, rfl, _, rfl, wl, _, rfl, .inl (SqL.of w4), rfl, ?_⟩
      have eqs : qs.length = d.hears.length := by rw [Paired.length hp]; exact ok.sl
      have nwD : wl ≠ D := ne_of_none w1 hD
      have nSD : S ≠ D := (ne_of_none L.at_ hS).symm
      have nZD : Z ≠ D := (ne_of_none (Ls.sm _ _ L.at_) hZ).symm
      have s24 := Ls.sm.trans Lz.sm
      have hD4 := s24 _ _ L.at_
      have hold : ∀ (p : Addr) (u : HO) (H' : Hp), H p = some u → But D H4 H' → H' p = some u := fun p u H' e b => b _ _ (s14 _ _ e) (ne_of_none (s1 _ _ e) hD)
      refine ⟨_, rfl, wl, rfl, ⟨_, SqL.of w4⟩, for_list_w (K := K) (a := wl) (xs := vn (List.range d.hears.length)) (fun i σ H' => ∃ (v3 v5 v9 : Option V) (qs : List Addr), σ = [some (.ref o), some (vi kd), some (.ref wl), v3, some (.ref D), v5, some (.ref S), some (.ref Z), some (.bl (doubts d)), v9] ∧ MadeW d kd D H4 H' qs i (d.says.getD i [])) ⟨_, _, _, qs, by rw [← edb]; rfl, MadeW.start hD4 nD (ok.sl) (paired_map hp fun _ _ e => s24 _ _ e)⟩ (fun i σ H' _ ⟨_, _, _, _, _, W⟩ => SqL.of (W.bt _ _ w4 nwD)) ?_ ?_⟩
      · rintro i x σ Hb hx ⟨v3, v5, v9, qs, rfl, W⟩ N hN
        obtain ⟨x, hx2, rfl⟩ := vn_get hx
        obtain ⟨rfl, hin⟩ := range_some hx2
        obtain ⟨p, hp1, hp2⟩ := hrow i hin
        have eqs := W.len
        refine ⟨_, rfl, _, rfl, S, _, rfl, .inl (SqL.of (W.bt _ _ hS4 nSD)), rfl, flat_vn _, _, rfl, iteB (fun c1 => ?_) fun c1 => iteF ?_⟩
        refine ⟨_, rfl, rfl, _, rfl, iteIn (fun c2 => ?_) fun c2 => ?_⟩
        refine ⟨_, rfl, wl, _, rfl, .inl (SqL.of (W.bt _ _ w4 nwD)), fun l hl => ⟨_, rfl, _, rfl, D, _, (i : Int), i, rfl, rfl, same_new hl _ _ W.at_, by rw [List.length_map]; exact ixN_n (by omega), ?_⟩⟩
        have c1' : i ∈ sure d := of_decide_eq_true ((inV_vn i _).symm.trans c1)
        have W2 := (W.put hin (x' := List.range d.hears.length) hl).eq (y := say1 d kd i) (by unfold say1; rw [if_pos ⟨c1', fun e => c2 (by rw [e]; rfl)⟩])
        obtain ⟨qs2, eqs2⟩ : ∃ q, q = qs.set i l := ⟨_, rfl⟩
        rw [← eqs2] at W2
        rotate_left
        have c2' : kd = 2 := by omega
        have W2 := W.eq (y := say1 d kd i) (by unfold say1; rw [if_neg fun z => z.2 c2'])
        obtain ⟨qs2, eqs2⟩ : ∃ q, q = qs := ⟨_, rfl⟩
        rw [← eqs2] at W2
        rotate_left
        have c1' : ¬ i ∈ sure d := of_decide_eq_false ((inV_vn i _).symm.trans c1)
        have W2 := W.eq (y := say1 d kd i) (by unfold say1; rw [if_neg fun z => c1' z.1])
        obtain ⟨qs2, eqs2⟩ : ∃ q, q = qs := ⟨_, rfl⟩
        rw [← eqs2] at W2
        rotate_left
        all_goals
          have eqs := W2.len
          refine ⟨_, rfl, _, rfl, Z, _, rfl, .inl (SqL.of (W2.bt _ _ Lz.at_ nZD)), rfl, flat_vn _, _, rfl, iteB (fun c1 => ?_) fun c1 => iteF (hN _ _ ⟨_, _, _, qs2, rfl, (W2.eq (say_same fun z => (of_decide_eq_false ((inV_vn i _).symm.trans c1)) z.1)).step⟩)⟩
          have c1' : i ∈ loose d := of_decide_eq_true ((inV_vn i _).symm.trans c1)
          refine ⟨_, rfl, _, rfl, iteB (fun c3 => ?_) fun c3 => iteF (hN _ _ ⟨_, _, _, qs2, rfl, (W2.eq (say_same fun z => by rw [c3] at z; exact nomatch z.2.1)).step⟩)⟩
          refine ⟨_, rfl, _, _, rfl, rfl, _, rfl, iteD (fun c4 => ?_) fun c4 => (hN _ _ ⟨_, _, _, qs2, rfl, (W2.eq (say_same fun z => by have := z.2.2; omega)).step⟩)⟩
          have eW : (said0 d i).filter (fun o => decide (o ≠ i)) = sayW d kd i := by unfold sayW; rw [if_pos ⟨c1', c3, by omega⟩]
          have hpx := hold p _ _ hp2 W2.bt
          refine ⟨_, rfl, o, _, (2 : Int), _, rfl, rfl, SqL.of (hold o _ _ ho W2.bt), rfl, _, rfl, ro, _, (i : Int), .ref p, rfl, rfl, SqL.of (hold ro _ _ hro W2.bt), atI_nat (by rw [List.getElem?_map, hp1]; rfl), p, rfl, ⟨_, SqL.of hpx⟩, fun Y hY => blk_w walk_list (fun j H' => LB _ Y H' (vn (((said0 d i).take j).filter fun o => decide (o ≠ i)))) (LB.start hY) (fun j H' _ L => SqL.of (L.sm _ _ hpx)) ?_ ?_⟩
          · rintro j y Hc Hd hj Ly ⟨rfl, hy⟩ N2 hN2
            obtain ⟨x, hx2, rfl⟩ := vn_get hy
            refine ⟨rfl, _, rfl, _, rfl, rfl, _, rfl, iteIn (fun c5 => ?_) fun c5 => ?_⟩
            · refine ⟨_, rfl, _, Ly.at_, small_of (m := 6) (Nat.le_trans (filt_take_len _ _ _) (Nat.le_trans said0_le (by omega))), hN2 _ ?_⟩
              rw [filt_take_yes hx2 (decide_eq_true (p := x ≠ i) (fun e => c5 (by rw [e])))]
              exact Ly.snoc (vi x)
            · refine hN2 _ ?_
              rw [filt_take_no hx2 (decide_eq_false (p := x ≠ i) (fun z => z (by omega)))]
              exact Ly
          · intro Hd Ly
            have e9 : (said0 d i).take (vn (said0 d i)).length = said0 d i := take_all (by rw [List.length_map])
            rw [e9, eW] at Ly
            have W3 := W2.same Ly.sm
            refine ⟨_, rfl, _, rfl, D, _, (i : Int), i, rfl, rfl, W3.at_, by rw [List.length_map]; exact ixN_n (by omega), hN _ _ ⟨_, _, _, qs2.set i Y, rfl, (W3.set hin Ly.at_ (ne_of_none W2.at_ Ly.nw).symm).step⟩⟩
      · rintro σ H5 ⟨v3, v5, v9, qs, rfl, W⟩
        have hcn : curW d kd (vn (List.range d.hears.length)).length (d.says.getD (vn (List.range d.hears.length)).length []) = (made d kd).says := by
          rw [List.length_map, List.length_range]
          unfold curW
          exact List.map_congr_left fun w hw => by rw [if_pos (List.mem_range.mp hw)]
        have W5 : MadeW d kd D H4 H5 qs (vn (List.range d.hears.length)).length (d.says.getD (vn (List.range d.hears.length)).length []) := W
        have prq := W5.pr
        rw [hcn] at prq
        have ok2 := made_ok ok hid kd
        have w5 : H5 wl = some (.lst (vn (made d kd).hears)) := W.bt _ _ w4 nwD
        have S5 : H5 S = some (.lst (vn (sure d))) := W.bt _ _ hS4 nSD
        have D5 := W.at_
        have s05 : Same H H5 := fun p u e => hold p u H5 e W.bt
        have suL : ∀ x ∈ sure d, x < (made d kd).hears.length := fun x hx => by rw [made_len]; exact (mem_sure.mp hx).1
        have goP : ∀ (pl dpl : Addr), H5 pl = none → H5 dpl = none → dpl ≠ pl → ∀ (C : Addr) (Q2 : VK), (∀ H3, Same H5 H3 → BaseAt C H3 pl (made d kd) none → Q2 .non H3) → sp_Person_init K C [.ref pl, .ref wl, .ref D] (upd (upd H5 dpl (.own pl)) pl (.ins C dpl [])) Q2 E0 := by
          intro pl dpl hpl hdpl npl C Q2 k2
          exact ⟨H5, pl, dpl, wl, D, made d kd, rfl, same_upd (same_new hdpl) hpl, hpl, upd_same, SqL.of w5, ⟨qs, SqL.of D5, paired_map prq fun _ _ e => SqL.of e⟩, ok2, fun H3 s3 hB => k2 H3 s3 hB⟩
        have goK : ∀ (pl dpl : Addr), H5 pl = none → H5 dpl = none → dpl ≠ pl → ∀ (C : Addr) (Q2 : VK), (∀ H3, Same H5 H3 → PAt C H3 pl (made d kd) (some (sure d)) → Q2 .non H3) → sp_Knower_init K C [.ref pl, .ref wl, .ref D, .ref S] (upd (upd H5 dpl (.own pl)) pl (.ins C dpl [])) Q2 E0 := by
          intro pl dpl hpl hdpl npl C Q2 k2
          exact ⟨H5, pl, dpl, wl, D, S, made d kd, sure d, rfl, same_upd (same_new hdpl) hpl, hpl, upd_same, SqL.of w5, ⟨qs, SqL.of D5, paired_map prq fun _ _ e => SqL.of e⟩, SqL.of S5, ok2, suL, fun H3 s3 hB => k2 H3 s3 hB⟩
        have eml := made_len d kd
        refine ⟨_, rfl, rfl, _, rfl, iteI (fun c1 => ?_) fun c1 => iteF ?_⟩
        · have ek : kd = 2 := by omega
          refine ⟨_, rfl, _, rfl, iteBn (fun c2 => ?_) fun c2 => ?_⟩
          · refine ⟨_, rfl, _, rfl, fun pl dpl hpl hdpl npl => goP pl dpl hpl hdpl npl CP _ fun H3 s3 hB => ⟨rfl, ?_⟩⟩
            refine k pl H3 (s05.trans s3) (folk_of (su := none) Pp.pP Pp.tP hB (fun z => nomatch z) ok2 eml fun x hx => ?_)
            subst ek
            exact made_p2 hid hx c2
          · refine ⟨_, rfl, rfl, _, rfl, iteI (fun _ => ?_) fun c3 => absurd c1 c3⟩
            refine ⟨_, rfl, _, rfl, fun pl dpl hpl hdpl npl => goP pl dpl hpl hdpl npl CD _ fun H3 s3 hB => ⟨rfl, ?_⟩⟩
            refine k pl H3 (s05.trans s3) (folk_of (su := none) Pp.pD Pp.tD hB (fun z => nomatch z) ok2 eml fun x hx => ?_)
            subst ek
            exact made_d2 hid hx c2
        · refine ⟨_, rfl, rfl, _, rfl, iteI (fun c3 => absurd c3 c1) fun _ => ?_⟩
          have last : kd ≤ 1 ∨ doubts d = false → ∀ (pl dpl : Addr), H5 pl = none → H5 dpl = none → dpl ≠ pl → sp_Knower_init K CN [.ref pl, .ref wl, .ref D, .ref S] (upd (upd H5 dpl (.own pl)) pl (.ins CN dpl [])) (fun v H3 => v = .non ∧ Q (.ref pl) H3) E0 := by
            intro hk pl dpl hpl hdpl npl
            refine goK pl dpl hpl hdpl npl CN _ fun H3 s3 hB => ⟨rfl, ?_⟩
            exact k pl H3 (s05.trans s3) (folk_of (su := some (sure d)) Pp.pN Pp.tN hB (fun _ => rfl) ok2 eml fun x hx => made_k1 hid hx hk)
          refine ⟨_, rfl, rfl, _, rfl, iteI (fun c4 => ?_) fun c4 => iteF ?_⟩
          · have ek : kd = 3 := by omega
            refine ⟨_, rfl, _, rfl, iteB (fun c2 => ?_) fun c2 => ?_⟩
            · refine ⟨_, rfl, _, rfl, _, rfl, fun pl dpl hpl hdpl npl => goK pl dpl hpl hdpl npl CX _ fun H3 s3 hB => ⟨rfl, ?_⟩⟩
              refine k pl H3 (s05.trans s3) (folk_of (su := some (sure d)) Pp.pX Pp.tX hB (fun _ => rfl) ok2 eml fun x hx => ?_)
              subst ek
              exact made_k3 hid hx c2
            · exact ⟨_, rfl, _, rfl, _, rfl, fun pl dpl hpl hdpl npl => last (.inr c2) pl dpl hpl hdpl npl⟩
          · exact ⟨_, rfl, _, rfl, _, rfl, fun pl dpl hpl hdpl npl => last (.inl (by omega)) pl dpl hpl hdpl npl⟩
    · refine ⟨_, rfl, o, _, (0 : Int), _, rfl, rfl, SqL.of (s12 _ _ ho), rfl, _, rfl, rNe_i (SqL.of (s12 _ _ hh)) (SqL.of w2) ⟨_, rfl, iteDn (fun _ => ?_) fun c => absurd c hid⟩⟩
      refine iteT ?_
      refine ⟨_, rfl, o, _, (0 : Int), _, rfl, rfl, SqL.of (s12 _ _ ho), rfl, h, _, rfl, .inl (SqL.of (s12 _ _ hh)), fun h2 hh2 => ⟨_, rfl, ?_⟩⟩
      have s3 := same_new (o := HO.lst (vn d.hears)) hh2
      refine fun pl dpl hpl hdpl npl => ⟨_, pl, dpl, h2, D, d, rfl, same_upd (same_new hdpl) hpl, hpl, upd_same, SqL.of upd_same, ⟨qs, SqL.of (s3 _ _ L.at_), paired_map hp fun _ _ e => SqL.of (s3 _ _ e)⟩, ok, fun H3 s4 hB => ⟨rfl, ?_⟩⟩
      exact k pl H3 ((s12.trans s3).trans s4) (folk_of (su := none) Pp.pP Pp.tP hB (fun z => nomatch z) ok rfl fun _ _ => rfl)
end
end Mm

set_option maxHeartbeats 4000000
/-! the law: its cast -/
namespace Mm
open PySem PySem.Spec L2 MM
open PyProof.Rows hiding St
def pdOf (es : Es) (l : Nat) : PD := ((es.find? fun e => decide (e.1 = l)).map (·.2)).getD ⟨[], []⟩
theorem pdOf_eq {es : Es} {e : Nat × PD} (nd : (es.map (·.1)).Nodup) (he : e ∈ es) : pdOf es e.1 = e.2 := by
  unfold pdOf
  induction es with
  | nil => cases he
  | cons x E ih =>
    rw [List.map_cons, List.nodup_cons] at nd
    rw [List.find?_cons]
    rcases List.mem_cons.mp he with q | q
    · subst q
      rw [decide_eq_true rfl]
      rfl
    · by_cases h : x.1 = e.1
      · exact absurd (h ▸ List.mem_map_of_mem q) nd.1
      · rw [decide_eq_false h]
        exact ih nd.2 q
/-- the cast that the law means -/
def cOf (n : Nat) (es : Es) : CM := ⟨n, rosOf (es.map (·.1)), fun l w => said0 (pdOf es l) w⟩
theorem cOf_get {n : Nat} {es : Es} (ok : FolkOk n es) {l : Nat} (hl : l ∈ (cOf n es).L) : ∃ d, (l, d) ∈ es ∧ pdOf es l = d ∧ d.Ok ∧ d.hears.length = n := by
  obtain ⟨e, he, rfl⟩ := List.mem_map.mp (mem_ros.mp hl).2
  exact ⟨e.2, he, pdOf_eq ok.nd he, ok.ok e he⟩
theorem cOf_ok {n : Nat} {es : Es} (ok : FolkOk n es) : (cOf n es).Ok := by
  refine ⟨ok.n1, ok.n6, ros_asc _, fun l hl => (mem_ros.mp hl).1, ?_, ?_, ?_, ?_⟩
  · have nd : (rosOf (es.map (·.1))).Nodup := (ros_asc _).imp fun q => Nat.ne_of_lt q
    have p : (rosOf (es.map (·.1))).Perm (es.map (·.1)) := (List.perm_ext_iff_of_nodup nd ok.nd).mpr fun x => by
      rw [mem_ros]
      refine ⟨fun z => z.2, fun z => ⟨?_, z⟩⟩
      obtain ⟨e, he, rfl⟩ := List.mem_map.mp z
      exact ok.az e he
    show (rosOf (es.map (·.1))).length ≤ 8
    rw [p.length_eq, List.length_map]
    have := ok.few
    omega
  · intro l hl w hw
    obtain ⟨d, hd, e, dok, dn⟩ := cOf_get ok hl
    show said0 (pdOf es l) w ≠ []
    rw [e]
    have hw' : w < n := hw
    exact said0_ne dok (by omega)
  · intro l hl w hw o ho
    obtain ⟨d, hd, e, dok, dn⟩ := cOf_get ok hl
    have ho' : o ∈ said0 (pdOf es l) w := ho
    rw [e] at ho'
    have := said0_lt ho'
    show o < n
    omega
  · intro l hl w hw
    exact said0_asc _ _
theorem castNew {CC : Addr} {H3 : Hp} {cp dcp dd : Addr} (hcp : H3 cp = none) (hdcp : H3 dcp = none) (hdd : (upd (upd H3 dcp (.own cp)) cp (.ins CC dcp [])) dd = none) :
    Same H3 (upd (upd (upd H3 dcp (.own cp)) cp (.ins CC dcp [])) dd (.dK [])) ∧ H3 dd = none ∧ cp ≠ dd ∧ (upd (upd (upd H3 dcp (.own cp)) cp (.ins CC dcp [])) dd (.dK [])) cp = some (.ins CC dcp []) := by
  have ne : dd ≠ cp := fun e => by rw [e, upd_same] at hdd; cases hdd
  rw [upd_ne ne] at hdd
  have ne2 : dd ≠ dcp := fun e => by rw [e, upd_same] at hdd; cases hdd
  rw [upd_ne ne2] at hdd
  exact ⟨same_upd (same_upd (same_new hdcp) hcp) hdd, hdd, ne.symm, by rw [upd_ne ne.symm, upd_same]⟩
theorem ListsF.same {F : Addr → Prop} {H H' : Hp} {a : Addr} {rows : List (List Nat)} (h : ListsF F H a rows) (e : Same H H') : ListsF F H' a rows := by
  obtain ⟨as, h0, h1, h2⟩ := h
  exact ⟨as, h0, e _ _ h1, paired_map h2 fun _ _ q => ⟨q.1, e _ _ q.2⟩⟩
section
variable {P : Program} {w : World} {K : PySem.W.Frag} {mg : Str → Option Value} {base : Heap} {CC CT CP CD CN CX : Addr}
abbrev s_law_cast : Stmt := (top 76)
abbrev N_law_cast : List Str := ["_law_n", "_law_folk_here", "_law_cast_here", "_law_one", "_law_kind"]
theorem sc_law_cast : FnScope N_law_cast ["_law_n", "_law_folk_here"] (defScope s_law_cast) := ⟨rfl, rfl, rfl, by decide +kernel, rfl, by decide +kernel, by decide +kernel⟩
def sp_lcast (CC CT : Addr) : Sp := fun vs H Q _ => ∃ (a : Addr) (n : Nat) (es : Es), vs = [vi n, .ref a] ∧ FolkL (fun _ => True) H a es ∧ FolkOk n es ∧ ∀ c H', Same H H' → CastIs CC CT H' c (cOf n es) → Q (.ref c) H'
theorem g_law_cast (F : Fn K mg "_law_cast" s_law_cast) (B : Blt mg) (Cc : CastC K mg CC) (G_Cast_init : GIR P w K mg base 2 CC (sp_Cast_init CC CT)) (G_Cast_put : GM P w K mg base 9 CC "put" ["self", "letter", "person"] (sp_put P w K mg base CC CT)) (G_law_made : G P w K mg base 6 "_law_made" ["_law_one", "_law_kind"] (sp_made P w K mg base CT)) : G P w K mg base 10 "_law_cast" ["_law_n", "_law_folk_here"] (sp_lcast CC CT) := by
  refine g_of F sc_law_cast (fun _ _ _ _ _ _ us hl => match us, hl with | [_, _], _ => rfl) (fun vs H Q E h => ?_) (fun f cdv A outer s H vs Q E hr h => ?_)
  · obtain ⟨a, n, es, rfl, _⟩ := h
    rfl
  · obtain ⟨a, n, es, rfl, ⟨as, hA, hp⟩, ok, k⟩ := h
    have el := Paired.length hp
    have few := ok.few
    refine ⟨_, (pss_cons (ps_set (i := 2) sc_law_cast.nd rfl (Or.inl rfl) (pe_makeRG G_Cast_init (hr.mono (by decide)) (by rfl) Cc.mgC (pa_cons (pv 0) pa_nil)))
      (pss_cons (ps_for PassesOwn.never rfl (pi_listK (K := K) rfl (pv 1)) (pg_name (i := 3) sc_law_cast.nd rfl (Or.inl rfl)) (pss_cons (ps_set (i := 4) sc_law_cast.nd rfl (Or.inl rfl) (pe_op op_mod (pe_callTy call_int1 (by rfl) B.b_int (by decide +kernel) (pa_cons (pe_m1 PySem.F.slot_str_find PySem.F.type_str_find mt_find pe_str (pe_ix (ix_listK (K := K) rfl) (pv 3) pe_int (fun _ _ => rfl))) pa_nil)) pe_int))
      (pss_one (ps_expr (pe_methG Cc.cl G_Cast_put (hr.mono (by decide)) (pv 2) (pa_cons (pe_ix (ix_listK (K := K) rfl) (pv 3) pe_int (fun _ _ => rfl)) (pa_cons (pe_g G_law_made (hr.mono (by decide)) (by rfl) (pa_cons (pe_slice (sl_listK (K := K) rfl) (pv 3) (po_some pe_int) po_none) (pa_cons (pv 4) pa_nil))) pa_nil)))))))
      (pss_one (ps_ret (pv 2))))), ?_⟩
    refine ⟨_, rfl, fun cp dcp hcp hdcp ncp => ⟨rfl, fun dd hdd => ?_⟩⟩
    obtain ⟨q1, q2, q3, q4⟩ := castNew (CC := CC) hcp hdcp hdd
    refine ⟨H, cp, dcp, dd, n, rfl, q1, hcp, q2, q3, q4, upd_same, ok.n1, ok.n6, fun H4 fo s4 hfo hC4 => ⟨rfl, ?_⟩⟩
    refine ⟨_, rfl, a, rfl, ⟨_, SqL.of (s4 _ _ hA)⟩, for_list_w (K := K) (a := a) (xs := as.map V.ref) (fun i σ H' => ∃ (v3 v4 : Option V) (E' : List Ent), σ = [some (vi n), some (.ref a), some (.ref cp), v3, v4] ∧ Same H H' ∧ CastAt CC CT H' cp fo n E' ∧ E'.map (·.1) = (es.map (·.1)).take i ∧ ∀ e ∈ E', RowIs (cOf n es) e.1 e.2.2) ⟨_, _, [], rfl, s4, hC4, rfl, fun e he => nomatch he⟩ (fun i σ H' _ ⟨_, _, _, _, s, _⟩ => SqL.of (s _ _ hA)) ?_ ?_⟩
    · rintro i x σ H5 hx ⟨v3, v4, E', rfl, s5, hC5, hE, hR⟩ N hN
      obtain ⟨o, ho, rfl⟩ := refs_get hx
      obtain ⟨⟨l, d⟩, he, h, sa, ro, hF, _, _, hh, hsa, hro⟩ := L2.paired_get hp ho
      have hi := len_get he
      have hF5 := s5 _ _ hF
      refine ⟨⟨_, rfl⟩, _, rfl, o, _, (0 : Int), _, rfl, rfl, SqL.of hF5, rfl, _, _, rfl, rfl, .inl ⟨_, rfl, _, _, rfl, rfl, (by decide : (0 : Int) < 4), ?_⟩⟩
      generalize Txt.find (Str.ofString "abcdefghijklmnopqrstuvwxyz") (chr l) = fz
      have hm := mod_vi (d := fz) (m := 4) (by decide)
      obtain ⟨dx, ros, hca, hro'⟩ := hC5.ins
      refine ⟨_, rfl, cp, dx, _, rfl, hca, rfl, _, rfl, o, _, (0 : Int), _, rfl, rfl, SqL.of hF5, rfl, _, rfl, 1, rfl, o, _, rfl, SqL.of hF5, fun t ht => ⟨_, rfl, t, (fz % (4 : Nat)).toNat, d, ?_, by omega, ?_, (ok.ok _ (List.mem_of_getElem? he)).1, fun p H6 s6 hFo => ?_⟩⟩
      · show [V.ref t, V.int (fz % 4)] = _
        rw [← hm.1]
        rfl
      · have sT := same_new (o := HO.lst [.ref h, .ref sa, .ref ro]) ht
        exact ⟨h, sa, ro, upd_same, trivial, sT _ _ (s5 _ _ hh), (hsa.same s5).same sT, (hro.same s5).same sT⟩
      · have sT := same_new (o := HO.lst [.ref h, .ref sa, .ref ro]) ht
        have hle : (l, d) ∈ es := List.mem_of_getElem? he
        have hdn := (ok.ok _ hle).2
        have hnew : l ∉ E'.map (·.1) := by
          rw [hE]
          intro hm
          obtain ⟨k2, hk2, hk3⟩ := List.mem_take_iff_getElem.mp hm
          rw [List.length_map] at hk2
          have q1 : (es.map (·.1))[i]? = some l := by rw [List.getElem?_map, he]; rfl
          have q2 : (es.map (·.1))[k2]? = some l := by rw [List.getElem?_eq_getElem (by rw [List.length_map]; omega), hk3]
          have q3 := (List.getElem?_inj (by rw [List.length_map]; omega) ok.nd).mp (q2.trans q1.symm)
          omega
        have hlen : E'.length < 8 := by
          have := congrArg List.length hE
          rw [List.length_map, List.length_take, List.length_map] at this
          omega
        have haz := ok.az _ hle
        have hlL : l ∈ (cOf n es).L := mem_ros.mpr ⟨haz, List.mem_map.mpr ⟨(l, d), hle, rfl⟩⟩
        have s46 := sT.trans s6
        refine ⟨H, cp, fo, p, l, n, E', rows0 d, rfl, s5.trans s46, hcp, hfo, hC5.same s46, hdn ▸ hFo, hnew, hlen, haz.1, haz.2, fun H7 t7 s7 hC7 => hN _ _ ⟨_, _, E' ++ [(l, t7, (rows0 d).map maskOf)], rfl, s7, hC7, ?_, ?_⟩⟩
        · rw [List.map_append, hE, take_get (l := es.map (·.1)) (i := i) (v := l) (by rw [List.getElem?_map, he]; rfl)]
          rfl
        · intro e he'
          rcases List.mem_append.mp he' with q | q
          · exact hR e q
          · rw [List.mem_singleton.mp q]
            refine row_copied (c := cOf n es) (cOf_ok ok) hlL (d := d) (r0 := perR) (su := []) hdn fun w hw => ?_
            show said0 d w = said0 (pdOf es l) w
            rw [pdOf_eq ok.nd hle]
    · rintro σ H5 ⟨v3, v4, E', rfl, s5, hC5, hE, hR⟩
      have e2 : E'.map (·.1) = es.map (·.1) := hE.trans (take_all (by rw [List.length_map, List.length_map, el]))
      refine ⟨_, rfl, k cp H5 s5 ⟨fo, E', hC5, ⟨?_, hR⟩⟩⟩
      show rosOf (es.map (·.1)) = rosOf (E'.map (·.1))
      rw [e2]
end
end Mm

set_option maxHeartbeats 4000000
/-! the law: states -/
namespace Mm
open PySem PySem.Spec L2 MM
open PyProof.Rows hiding St
/-- a list of states -/
def LT (H : Hp) (a : Addr) (ts : List T3) : Prop := ∃ as : List Addr, H a = some (.lst (as.map V.ref)) ∧ Paired (TupT H) as ts
theorem LT.same {H H' : Hp} {a : Addr} {ts : List T3} (h : LT H a ts) (s : Same H H') : LT H' a ts := by
  obtain ⟨as, h1, h2⟩ := h
  exact ⟨as, s _ _ h1, paired_map h2 fun _ _ q => s _ _ q⟩
theorem small_few {ts : List T3} (nd : ts.Nodup) (h : Small ts) : ts.length ≤ 468 := by
  refine nodup_map_length (fun t : T3 => t.1 * 36 + t.2.1 * 6 + t.2.2) 468 ts nd (fun a ha b hb e => st_code (h a ha) (h b hb) e) fun t ht => ?_
  have := h t ht
  show t.1 * 36 + t.2.1 * 6 + t.2.2 < 468
  omega
/-- a dict of states -/
structure DD (H : Hp) (F : Addr) (ts : List T3) (f : T3 → V) : Prop where
  at_ : H F = some (.dT (ents ts f))
  nd : ts.Nodup
  sm : Small ts
theorem DD.few {H : Hp} {F : Addr} {ts : List T3} {f : T3 → V} (h : DD H F ts f) : (ents ts f).length < sizeLine := by
  rw [ents_len]
  exact small_of (m := 468) (small_few h.nd h.sm)
theorem DD.same {H H' : Hp} {F : Addr} {ts : List T3} {f : T3 → V} (h : DD H F ts f) (s : Same H H') : DD H' F ts f := ⟨s _ _ h.at_, h.nd, h.sm⟩
theorem small_add {ts : List T3} {u : T3} (h : Small ts) (hu : u.1 ≤ 12 ∧ u.2.1 < 6 ∧ u.2.2 < 6) : Small (addT ts u) := fun t ht => (mem_addT.mp ht).elim (h t) fun e => e ▸ hu
theorem DD.add {H : Hp} {F : Addr} {ts : List T3} {f : T3 → V} {u : T3} {v : V} (h : DD H F ts f) (hu : u.1 ≤ 12 ∧ u.2.1 < 6 ∧ u.2.2 < 6) : DD (upd H F (.dT (putK (ents ts f) (kT u) v))) F (addT ts u) (updT f u v) := ⟨by rw [upd_same, put_ents], nd_addT h.nd, small_add h.sm hu⟩
/-- list(d) -/
theorem DD.keys {H : Hp} {ts : List T3} {f : T3 → V} {bs : List Addr} (h : IsKeys H (ents ts f) bs) : Paired (TupT H) bs ts := by
  obtain ⟨h1, h2⟩ := keys_tup h
  refine paired_of_get h1 fun i a b ha hb => ?_
  obtain ⟨t, ht, hT⟩ := h2 i a ha
  rw [hb] at ht
  cases ht
  exact hT
theorem DD.lst {H : Hp} {p : Addr} {ts : List T3} {f : T3 → V} {bs : List Addr} (h : IsKeys H (ents ts f) bs) (hp : H p = none) : LT (upd H p (.lst (bs.map V.ref))) p ts := ⟨bs, upd_same, paired_map (DD.keys h) fun _ _ q => same_new hp _ _ q⟩
section
variable {P : Program} {w : World} {K : PySem.W.Frag} {mg : Str → Option Value} {base : Heap} {CC CT CP : Addr}
abbrev s_law_won : Stmt := (top 77)
abbrev N_law_won : List Str := ["_law_pattern_here", "_law_states", "_law_state"]
theorem sc_law_won : FnScope N_law_won ["_law_pattern_here", "_law_states"] (defScope s_law_won) := ⟨rfl, rfl, rfl, by decide +kernel, rfl, by decide +kernel, by decide +kernel⟩
def sp_lwon : Sp := fun vs H Q _ => ∃ (a : Addr) (pat : List Nat) (ts : List T3), vs = [.str (strOf pat), .ref a] ∧ pat.length ≤ 12 ∧ LT H a ts ∧ ∀ b : Bool, (b = true ↔ ∃ y, (pat.length, y, y) ∈ ts) → Q (.bl b) H
theorem g_law_won (F : Fn K mg "_law_won" s_law_won) (B : Blt mg) : G P w K mg base 1 "_law_won" ["_law_pattern_here", "_law_states"] sp_lwon := by
  refine g_of F sc_law_won (fun _ _ _ _ _ _ us hl => match us, hl with | [_, _], _ => rfl) (fun vs H Q E h => ?_) (fun f cdv A outer s H vs Q E hr h => ?_)
  · obtain ⟨a, pat, ts, rfl, _⟩ := h
    rfl
  · obtain ⟨a, pat, ts, rfl, hpat, ⟨as, hA, hp⟩, k⟩ := h
    have el := Paired.length hp
    refine ⟨_, (pss_cons (ps_for PassesOwn.never rfl (pi_listK (K := K) rfl (pv 1)) (pg_name (i := 2) sc_law_won.nd rfl (Or.inl rfl)) (pss_one (ps_if (PW.pt (pw_and (pt_cmpR op_eq (pe_ix (ix_tupK (K := K) rfl) (pv 2) pe_int (fun _ _ => rfl)) (pe_callB call_len_str (by rfl) B.b_len PySem.boot_len (pa_cons (pv 0) pa_nil)) (nomark _)) (pw_and1 (pt_cmpR op_eq (pe_ix (ix_tupK (K := K) rfl) (pv 2) pe_int (fun _ _ => rfl)) (pe_ix (ix_tupK (K := K) rfl) (pv 2) pe_int (fun _ _ => rfl)) (nomark _))))) (pss_one (ps_ret pe_bl)) pss_nil)))
      (pss_one (ps_ret pe_bl))), ?_⟩
    refine ⟨_, rfl, a, rfl, ⟨_, SqL.of hA⟩, for_list_w (K := K) (a := a) (xs := as.map V.ref) (fun i σ H' => ∃ v, H' = H ∧ σ = [some (.str (strOf pat)), some (.ref a), v] ∧ ∀ t ∈ ts.take i, ¬ (t.1 = pat.length ∧ t.2.1 = t.2.2)) ⟨_, rfl, rfl, fun t ht => nomatch ht⟩ (fun i σ H' _ ⟨_, e, _⟩ => by rw [e]; exact SqL.of hA) ?_ ?_⟩
    · rintro i x σ H' hx ⟨v, rfl, rfl, hno⟩ N hN
      obtain ⟨q, hq, rfl⟩ := refs_get hx
      obtain ⟨t, ht, hT⟩ := L2.paired_get hp hq
      have hT' : H' q = some (.tup [vi t.1, vi t.2.1, vi t.2.2]) := hT
      have next : ¬ (t.1 = pat.length ∧ t.2.1 = t.2.2) → ∀ u ∈ ts.take (i + 1), ¬ (u.1 = pat.length ∧ u.2.1 = u.2.2) := by
        intro h u hu
        rw [take_get ht] at hu
        rcases List.mem_append.mp hu with e | e
        · exact hno u e
        · rw [List.mem_singleton.mp e]; exact h
      refine ⟨_, rfl, q, _, (0 : Int), _, rfl, rfl, SqT.of hT', rfl, _, rfl, strOf pat, rfl, by rw [str_len]; exact le_of_small (m := 12) hpat, rfl, _, rfl, iteI (fun c1 => ?_) fun c1 => iteF (hN _ _ ⟨_, rfl, rfl, next fun z => c1 (by rw [str_len]; omega)⟩)⟩
      rw [str_len] at c1
      refine ⟨_, rfl, q, _, (1 : Int), _, rfl, rfl, SqT.of hT', rfl, _, rfl, q, _, (2 : Int), _, rfl, rfl, SqT.of hT', rfl, rfl, _, rfl, iteI (fun c2 => ?_) fun c2 => (hN _ _ ⟨_, rfl, rfl, next fun z => c2 (by omega)⟩)⟩
      refine k true ⟨fun _ => ⟨t.2.1, ?_⟩, fun _ => rfl⟩
      have e : t = (pat.length, t.2.1, t.2.1) := Prod.ext (by simp; omega) (Prod.ext rfl (by simp; omega))
      rw [← e]
      exact List.mem_of_getElem? ht
    · rintro σ H' ⟨v, rfl, rfl, hno⟩
      rw [List.length_map, el, List.take_length] at hno
      exact k false ⟨(fun z => nomatch z), fun ⟨y, hy⟩ => absurd ⟨rfl, rfl⟩ (hno _ hy)⟩
abbrev s_law_open : Stmt := (top 78)
abbrev N_law_open : List Str := ["_law_pattern_here", "_law_states", "_law_found", "_law_place", "_law_state"]
theorem sc_law_open : FnScope N_law_open ["_law_pattern_here", "_law_states"] (defScope s_law_open) := ⟨rfl, rfl, rfl, by decide +kernel, rfl, by decide +kernel, by decide +kernel⟩
def sp_lopen : Sp := fun vs H Q _ => ∃ (a : Addr) (pat : List Nat) (sts : List T3), vs = [.str (strOf pat), .ref a] ∧ pat.length ≤ 12 ∧ LT H a sts ∧ Small sts ∧ ∀ q H' (ts : List T3), Same H H' → H q = none → LT H' q ts → ts.Nodup → Small ts → (∀ t, t ∈ ts ↔ Opened pat sts (pat.length + 1) t) → Q (.ref q) H'
theorem g_law_open (F : Fn K mg "_law_open" s_law_open) (B : Blt mg) : G P w K mg base 1 "_law_open" ["_law_pattern_here", "_law_states"] sp_lopen := by
  refine g_of F sc_law_open (fun _ _ _ _ _ _ us hl => match us, hl with | [_, _], _ => rfl) (fun vs H Q E h => ?_) (fun f cdv A outer s H vs Q E hr h => ?_)
  · obtain ⟨a, pat, ts, rfl, _⟩ := h
    rfl
  · obtain ⟨a, pat, sts, rfl, hpat, ⟨as, hA, hp⟩, hsm, k⟩ := h
    have el := Paired.length hp
    have hu := hu_of hr
    refine ⟨_, (pss_cons (ps_set (i := 2) sc_law_open.nd rfl (Or.inl rfl) pe_dnewT)
      (pss_cons (ps_for PassesOwn.never rfl (pi_range1 rfl B.b_range (pa_cons (pe_op op_add (pe_callB call_len_str (by rfl) B.b_len PySem.boot_len (pa_cons (pv 0) pa_nil)) pe_int) pa_nil)) (pg_name (i := 3) sc_law_open.nd rfl (Or.inl rfl)) (pss_cons (ps_for PassesOwn.never rfl (pi_listK (K := K) rfl (pv 1)) (pg_name (i := 4) sc_law_open.nd rfl (Or.inl rfl)) (pss_one (ps_if (pt_cmpR op_eq (pe_ix (ix_tupK (K := K) rfl) (pv 4) pe_int (fun _ _ => rfl)) (pv 3) (nomark _)) (pss_one (ps_dput hu (pv 2) (pv 4) pe_bl rfl)) pss_nil)))
      (pss_one (ps_if (PW.pt (pw_and (pt_cmpR op_gt (pv 3) pe_int (nomark _)) (pw_and1 (pt_cmpR op_eq (pe_ix ix_str (pv 0) (pe_op op_sub (pv 3) pe_int) (fun _ _ => rfl)) pe_str (nomark _))))) (pss_one (ps_for PassesOwn.never rfl (pi_listK (K := K) rfl (pe_callTy (call_list_dT rfl) (by rfl) B.b_list (by decide +kernel) (pa_cons (pv 2) pa_nil))) (pg_name (i := 4) sc_law_open.nd rfl (Or.inl rfl)) (pss_one (ps_if (pt_cmpR op_eq (pe_ix (ix_tupK (K := K) rfl) (pv 4) pe_int (fun _ _ => rfl)) (pe_op op_sub (pv 3) pe_int) (nomark _)) (pss_one (ps_dput hu (pv 2) (pe_tup (pa_cons (pv 3) (pa_cons (pe_ix (ix_tupK (K := K) rfl) (pv 4) pe_int (fun _ _ => rfl)) (pa_cons (pe_ix (ix_tupK (K := K) rfl) (pv 4) pe_int (fun _ _ => rfl)) pa_nil)))) pe_bl rfl)) pss_nil)))) pss_nil))))
      (pss_one (ps_ret (pe_callTy (call_list_dT rfl) (by rfl) B.b_list (by decide +kernel) (pa_cons (pv 2) pa_nil)))))), ?_⟩
    refine fun D hD => ⟨_, rfl, strOf pat, rfl, by rw [str_len]; exact le_of_small (m := 12) hpat, _, _, rfl, rfl, _, rfl, by rw [str_len]; omega, by rw [str_len]; omega, ?_⟩
    have en : (((strOf pat).length : Int) + 1).toNat = pat.length + 1 := by rw [str_len]; omega
    rw [en]
    refine for_w (walk_r0 (n := pat.length + 1)) (fun m σ H' => ∃ (v3 v4 : Option V) (ts : List T3) (g : T3 → V), σ = [some (.str (strOf pat)), some (.ref a), some (.ref D), v3, v4] ∧ Same H H' ∧ DD H' D ts g ∧ ∀ t, t ∈ ts ↔ Opened pat sts m t) ⟨_, _, [], fun _ => .bl true, rfl, same_new hD, ⟨upd_same, List.nodup_nil, fun t ht => nomatch ht⟩, fun t => ⟨(fun z => nomatch z), fun z => absurd z opened_zero⟩⟩ (fun _ _ _ _ _ => trivial) ?_ ?_
    · rintro m x σ Ha Hb hm ⟨v3, v4, ts, g, rfl, sm, dd, hts⟩ ⟨rfl, rfl⟩ N hN
      refine ⟨_, rfl, a, rfl, ⟨_, SqL.of (sm _ _ hA)⟩, for_list_w (K := K) (a := a) (xs := as.map V.ref) (fun j σ H' => ∃ (v4 : Option V) (ts : List T3) (g : T3 → V), σ = [some (.str (strOf pat)), some (.ref a), some (.ref D), some (vi m), v4] ∧ Same H H' ∧ DD H' D ts g ∧ ∀ t, t ∈ ts ↔ Opened pat sts m t ∨ (t.1 = m ∧ t ∈ sts.take j)) ⟨_, ts, g, rfl, sm, dd, fun t => (hts t).trans ⟨.inl, fun z => z.elim id fun z => nomatch z.2⟩⟩ (fun j σ H' _ ⟨_, _, _, _, s, _⟩ => SqL.of (s _ _ hA)) ?_ ?_⟩
      · rintro j x σ Hc hx ⟨v4, ts, g, rfl, sm, dd, hts⟩ N2 hN2
        obtain ⟨q, hq, rfl⟩ := refs_get hx
        obtain ⟨t, ht, hT⟩ := L2.paired_get hp hq
        have hT' : Hc q = some (.tup [vi t.1, vi t.2.1, vi t.2.2]) := sm _ _ hT
        have htm := List.mem_of_getElem? ht
        refine ⟨_, rfl, q, _, (0 : Int), _, rfl, rfl, SqT.of hT', rfl, _, rfl, rfl, _, rfl, iteI (fun c1 => ?_) fun c1 => hN2 _ _ ⟨_, ts, g, rfl, sm, dd, fun u => (hts u).trans ?_⟩⟩
        · refine ⟨_, rfl, _, rfl, D, _, rfl, DPut.t dd.at_ (TupT.key hT') dd.few, hN2 _ _ ⟨_, _, _, rfl, same_upd sm hD, dd.add (hsm t htm), fun u => ?_⟩⟩
          rw [mem_addT, hts, take_get ht, List.mem_append, List.mem_singleton]
          constructor
          · rintro ((h | h) | h)
            · exact .inl h
            · exact .inr ⟨h.1, .inl h.2⟩
            · exact .inr ⟨by rw [h]; omega, .inr h⟩
          · rintro (h | ⟨h1, h2 | h2⟩)
            · exact .inl (.inl h)
            · exact .inl (.inr ⟨h1, h2⟩)
            · exact .inr h2
        · rw [take_get ht, List.mem_append, List.mem_singleton]
          constructor
          · rintro (h | h)
            · exact .inl h
            · exact .inr ⟨h.1, .inl h.2⟩
          · rintro (h | ⟨h1, h2 | h2⟩)
            · exact .inl h
            · exact .inr ⟨h1, h2⟩
            · exact absurd (by rw [← h1, h2]) c1
      · rintro σ Hc ⟨v4, ts, g, rfl, sm, dd, hts⟩
        rw [List.length_map, el, List.take_length] at hts
        refine ⟨_, rfl, _, _, rfl, rfl, _, rfl, iteD (fun c1 => ?_) fun c1 => iteF (hN _ _ ⟨_, _, ts, g, rfl, sm, dd, fun t => (hts t).trans (Iff.trans ?_ opened_succ.symm)⟩)⟩
        rotate_left
        · refine ⟨fun z => z.elim .inl fun z => .inr (.inl z), fun z => z.elim .inl fun z => z.elim .inr fun z => absurd z.1 (by omega)⟩
        have hm0 : m - 1 < pat.length := by omega
        obtain ⟨sg, hsg⟩ : ∃ sg, pat[m - 1]? = some sg := ⟨_, List.getElem?_eq_getElem hm0⟩
        have hm1 : ((m : Int) - 1) = ((m - 1 : Nat) : Int) := by omega
        refine ⟨_, rfl, _, rfl, _, _, rfl, rfl, strOf pat, _, sg, rfl, rfl, by rw [str_len]; exact le_of_small (m := 12) hpat, by rw [hm1]; exact str_atI hsg, rfl, _, rfl, iteS (fun c2 => ?_) fun c2 => (hN _ _ ⟨_, _, ts, g, rfl, sm, dd, fun t => (hts t).trans (Iff.trans ?_ opened_succ.symm)⟩)⟩
        rotate_left
        · have c2' : sg ≠ 42 := fun e => c2 (eq_star.mpr e)
          refine ⟨fun z => z.elim .inl fun z => .inr (.inl z), fun z => z.elim .inl fun z => z.elim .inr fun z => ?_⟩
          rw [hsg] at z
          exact absurd (Option.some.inj z.2.1) c2'
        have c2' : sg = 42 := eq_star.mp c2
        refine ⟨_, rfl, D, _, rfl, .inl dd.at_, fun p bs hp2 hk => ?_⟩
        obtain ⟨hsnap, hsp⟩ : (upd Hc p (.lst (bs.map V.ref))) p = some (.lst (bs.map V.ref)) ∧ Paired (TupT (upd Hc p (.lst (bs.map V.ref)))) bs ts := ⟨upd_same, paired_map (DD.keys hk) fun _ _ q => same_new hp2 _ _ q⟩
        have elb := Paired.length hsp
        refine ⟨p, rfl, ⟨_, SqL.of hsnap⟩, for_list_w (K := K) (a := p) (xs := bs.map V.ref) (fun j σ H' => ∃ (v4 : Option V) (ts' : List T3) (g : T3 → V), σ = [some (.str (strOf pat)), some (.ref a), some (.ref D), some (vi m), v4] ∧ Same H H' ∧ H' p = some (.lst (bs.map V.ref)) ∧ Paired (TupT H') bs ts ∧ DD H' D ts' g ∧ ∀ t, t ∈ ts' ↔ t ∈ ts ∨ ∃ s ∈ ts.take j, s.1 + 1 = m ∧ t = (m, s.2)) ⟨_, ts, g, rfl, sm.trans (same_new hp2), hsnap, hsp, dd.same (same_new hp2), fun t => ⟨.inl, fun z => z.elim id fun ⟨s, h, _⟩ => nomatch h⟩⟩ (fun j σ H' _ ⟨_, _, _, _, _, h, _⟩ => SqL.of h) ?_ ?_⟩
        · rintro j x σ Hd hx ⟨v4, ts', g', rfl, sm', hsn, hsp, dd', hts'⟩ N2 hN2
          obtain ⟨q, hq, rfl⟩ := refs_get hx
          obtain ⟨t, ht, hT⟩ := L2.paired_get hsp hq
          have hT' : Hd q = some (.tup [vi t.1, vi t.2.1, vi t.2.2]) := hT
          have htm := List.mem_of_getElem? ht
          have hts2 := dd.sm t htm
          refine ⟨_, rfl, q, _, (0 : Int), _, rfl, rfl, SqT.of hT', rfl, _, rfl, _, _, rfl, rfl, rfl, _, rfl, iteI (fun c3 => ?_) fun c3 => hN2 _ _ ⟨_, ts', g', rfl, sm', hsn, hsp, dd', fun u => (hts' u).trans ?_⟩⟩
          · refine ⟨_, rfl, _, rfl, _, rfl, q, _, (1 : Int), _, rfl, rfl, SqT.of hT', rfl, _, rfl, q, _, (2 : Int), _, rfl, rfl, SqT.of hT', rfl, by show 3 ≤ sizeLine; exact le_of_small (m := 3) (Nat.le_refl _), fun T hT2 => ?_⟩
            have sT := same_new (o := HO.tup [vi m, vi t.2.1, vi t.2.2]) hT2
            have ddT := dd'.same sT
            refine ⟨D, _, rfl, DPut.t ddT.at_ (TupT.key (t := (m, t.2)) upd_same) ddT.few, hN2 _ _ ⟨_, _, _, rfl, same_upd (sm'.trans sT) hD, ?_, paired_map hsp fun b z e => ?_, ddT.add (u := (m, t.2)) ⟨by show m ≤ 12; omega, hts2.2.1, hts2.2.2⟩, fun u => ?_⟩⟩
            · rw [upd_ne (ne_of (sT _ _ hsn) ddT.at_ (fun z => nomatch z))]
              exact sT _ _ hsn
            · have e' := sT _ _ e
              show (upd _ D _) b = _
              rw [upd_ne (ne_of e' ddT.at_ (fun z => nomatch z))]
              exact e'
            · rw [mem_addT, hts', take_get ht]
              constructor
              · rintro ((h | ⟨s, h1, h2⟩) | h)
                · exact .inl h
                · exact .inr ⟨s, List.mem_append_left _ h1, h2⟩
                · exact .inr ⟨t, List.mem_append_right _ (List.mem_singleton.mpr rfl), by omega, h⟩
              · rintro (h | ⟨s, h1, h2⟩)
                · exact .inl (.inl h)
                · rcases List.mem_append.mp h1 with h1 | h1
                  · exact .inl (.inr ⟨s, h1, h2⟩)
                  · rw [List.mem_singleton.mp h1] at h2
                    exact .inr h2.2
          · rw [take_get ht]
            constructor
            · rintro (h | ⟨s, h1, h2⟩)
              · exact .inl h
              · exact .inr ⟨s, List.mem_append_left _ h1, h2⟩
            · rintro (h | ⟨s, h1, h2⟩)
              · exact .inl h
              · rcases List.mem_append.mp h1 with h1 | h1
                · exact .inr ⟨s, h1, h2⟩
                · rw [List.mem_singleton.mp h1] at h2
                  exact absurd (by omega) c3
        · rintro σ Hd ⟨v4, ts', g', rfl, sm', hsn, hsp, dd', hts'⟩
          rw [List.length_map, elb, List.take_length] at hts'
          refine hN _ _ ⟨_, _, ts', g', rfl, sm', dd', fun t => (hts' t).trans (Iff.trans ?_ opened_succ.symm)⟩
          constructor
          · rintro (h | ⟨s, h1, h2, h3⟩)
            · exact ((hts t).mp h).elim .inl fun z => .inr (.inl z)
            · refine .inr (.inr ⟨by omega, by rw [hsg, c2'], by rw [h3], ?_⟩)
              have es : s = (m - 1, t.2) := Prod.ext (by show s.1 = m - 1; omega) (by rw [h3])
              rw [← es]
              rcases (hts s).mp h1 with z | z
              · exact z
              · omega
          · rintro (h | h | ⟨h0, h1, h2, h3⟩)
            · exact .inl ((hts t).mpr (.inl h))
            · exact .inl ((hts t).mpr (.inr h))
            · exact .inr ⟨(m - 1, t.2), (hts _).mpr (.inl h3), by show m - 1 + 1 = m; omega, Prod.ext h2 rfl⟩
    · rintro σ H' ⟨v3, v4, ts, g, rfl, sm, dd, hts⟩
      refine ⟨_, rfl, D, _, rfl, .inl dd.at_, fun p bs hp2 hk => k p _ ts (sm.trans (same_new hp2)) (sm.free hp2) (DD.lst hk hp2) dd.nd dd.sm hts⟩
end
end Mm

set_option maxHeartbeats 4000000
/-! the law: what comes after a state -/
namespace Mm
open PySem PySem.Spec L2 MM
open PyProof.Rows hiding St
/-- the law's own table, as it is read -/
def OwnRd (H : Hp) (O : Addr) (c : CM) : Prop := ∃ E : List Ent, Rd H O (.dK (kvsC E)) ∧ E.map (·.1) = c.L ∧ ∀ e ∈ E, Lists H e.2.1 ((List.range c.n).map (c.R e.1))
theorem OwnRd.same {H H' : Hp} {O : Addr} {c : CM} (h : OwnRd H O c) (s : Same H H') : OwnRd H' O c := by
  obtain ⟨E, h1, h2, h3⟩ := h
  refine ⟨E, ?_, h2, fun e he => (h3 e he).same s⟩
  rcases h1 with h1 | ⟨o, h1⟩
  · exact .inl (s _ _ h1)
  · exact .inr ⟨o, s _ _ h1⟩
/-- its row of a word by a letter -/
theorem OwnRd.row {H : Hp} {O : Addr} {c : CM} (ok : c.Ok) (h : OwnRd H O c) {l w : Nat} (hl : l ∈ c.L) (hw : w < c.n) : ∃ (kvs : List (Key × V)) (ad p : Addr) (as : List Addr), Rd H O (.dK kvs) ∧ valV kvs (.inr (chr l)) = some (.ref ad) ∧ H ad = some (.lst (as.map V.ref)) ∧ as[w]? = some p ∧ H p = some (.lst (vn (c.R l w))) := by
  obtain ⟨E, h1, h2, h3⟩ := h
  have nd : (E.map (·.1)).Nodup := by rw [h2]; exact ok.asc.imp fun q => Nat.ne_of_lt q
  rw [← h2] at hl
  obtain ⟨e, he, rfl⟩ := List.mem_map.mp hl
  obtain ⟨as, h4, h5⟩ := h3 e he
  have el : as.length = c.n := by rw [Paired.length h5, List.length_map, List.length_range]
  obtain ⟨p, hp⟩ : ∃ p, as[w]? = some p := ⟨_, List.getElem?_eq_getElem (by omega)⟩
  obtain ⟨r, hr1, hr2⟩ := L2.paired_get h5 hp
  rw [List.getElem?_map, List.getElem?_range hw] at hr1
  rw [← Option.some.inj hr1] at hr2
  exact ⟨_, e.2.1, p, as, h1, val_at nd he, h4, hp, hr2⟩
theorem inV_sign (s l : Nat) : inV (vc s) [V.str (Str.ofString "*"), V.str (Str.ofString "?"), vc l] = decide (s = 42 ∨ s = 63 ∨ s = l) := by
  rw [starS, quesS]
  have e : ∀ a b : Nat, eqV (vc a) (vc b) = decide (b = a) := fun a b => by
    show (chr a == chr b) = _
    rw [Bool.eq_iff_iff, beq_iff_eq, decide_eq_true_iff, chr_iff]
    exact ⟨fun z => z.symm, fun z => z.symm⟩
  show (eqV (vc 42) (vc s) || (eqV (vc 63) (vc s) || (eqV (vc l) (vc s) || false))) = _
  rw [e, e, e, Bool.or_false, Bool.eq_iff_iff]
  simp only [Bool.or_eq_true, decide_eq_true_eq]
def goalW (s p : Nat) : Nat := if s = 42 then p else p + 1
theorem goal_v (s p : Nat) : V.int ((p : Int) + (if (!decide (vc s = V.str (Str.ofString "*"))) = true then 1 else 0)) = vi (goalW s p) := by
  unfold goalW
  by_cases h : s = 42
  · subst h
    have e : vc 42 = V.str (Str.ofString "*") := by rw [starS]
    rw [decide_eq_true e, if_pos rfl]
    show V.int ((p : Int) + 0) = V.int (p : Int)
    rw [Int.add_zero]
  · have e : ¬ vc s = V.str (Str.ofString "*") := fun z => h (eq_star.mp (V.str.inj z))
    rw [decide_eq_false e, if_neg h]
    rfl
section
variable {P : Program} {w : World} {K : PySem.W.Frag} {mg : Str → Option Value} {base : Heap} {CC CT CP : Addr}
abbrev s_law_after : Stmt := (top 79)
abbrev N_law_after : List Str := ["_law_own_here", "_law_pattern_here", "_law_states", "_law_letter", "_law_found", "_law_state", "_law_place", "_law_goal", "_law_one", "_law_other"]
theorem sc_law_after : FnScope N_law_after ["_law_own_here", "_law_pattern_here", "_law_states", "_law_letter"] (defScope s_law_after) := ⟨rfl, rfl, rfl, by decide +kernel, rfl, by decide +kernel, by decide +kernel⟩
def sp_lafter : Sp := fun vs H Q _ => ∃ (O a : Addr) (c : CM) (pat : List Nat) (l : Nat) (t : T3), vs = [.ref O, .str (strOf pat), .ref a, .str (chr l)] ∧ c.Ok ∧ pat.length ≤ 12 ∧ OwnRd H O c ∧ l ∈ c.L ∧ t.1 ≤ pat.length ∧ t.2.1 < c.n ∧ t.2.2 < c.n ∧ LT H a [t] ∧
  ∀ q H' (ts : List T3), Same H H' → H q = none → LT H' q ts → ts.Nodup → Small ts → (∀ u, u ∈ ts ↔ After c pat t l u) → Q (.ref q) H'
theorem g_law_after (F : Fn K mg "_law_after" s_law_after) (B : Blt mg) (G_law_open : G P w K mg base 1 "_law_open" ["_law_pattern_here", "_law_states"] sp_lopen) : G P w K mg base 2 "_law_after" ["_law_own_here", "_law_pattern_here", "_law_states", "_law_letter"] sp_lafter := by
  refine g_of F sc_law_after (fun _ _ _ _ _ _ us hl => match us, hl with | [_, _, _, _], _ => rfl) (fun vs H Q E h => ?_) (fun f cdv A outer s H vs Q E hr h => ?_)
  · obtain ⟨O, a, c, pat, l, t, rfl, _⟩ := h
    rfl
  · obtain ⟨O, a, c, pat, l, t, rfl, ok, hpat, hO, hl, ht0, ht1, ht2, ⟨as, hA, hp⟩, k⟩ := h
    have hu := hu_of hr
    have n6 := ok.n6
    obtain ⟨q, rfl, hT⟩ : ∃ q, as = [q] ∧ TupT H q t := by
      cases hp with
      | cons h t => cases t with
        | nil => exact ⟨_, rfl, h⟩
    obtain ⟨kvs, ad, p1, as1, hRd, hv, had, hp1, hr1⟩ := hO.row ok hl ht1
    obtain ⟨kvs', ad', p2, as2, hRd', hv', had', hp2, hr2⟩ := hO.row ok hl ht2
    have dg : ∀ {H'} {kvs : List (Key × V)} {ad : Addr}, Same H H' → Rd H O (.dK kvs) → valV kvs (.inr (chr l)) = some (.ref ad) → DGet H' O (.str (chr l)) (some (.ref ad)) := fun {H' kvs ad} s h1 h2 => .inl ⟨kvs, .inr (chr l), h1.elim (fun h => .inl (s _ _ h)) (fun ⟨o, h⟩ => .inr ⟨o, s _ _ h⟩), rfl, h2.symm⟩
    refine ⟨_, (pss_cons (ps_set (i := 4) sc_law_after.nd rfl (Or.inl rfl) pe_dnewT)
      (pss_cons (ps_for PassesOwn.never rfl (pi_listK (K := K) rfl (pv 2)) (pg_name (i := 5) sc_law_after.nd rfl (Or.inl rfl)) (pss_cons (ps_set (i := 6) sc_law_after.nd rfl (Or.inl rfl) (pe_ix (ix_tupK (K := K) rfl) (pv 5) pe_int (fun _ _ => rfl)))
      (pss_one (ps_if (PW.pt (pw_and (pt_cmpR op_lt (pv 6) (pe_callB call_len_str (by rfl) B.b_len PySem.boot_len (pa_cons (pv 1) pa_nil)) (nomark _)) (pw_and1 (pt_cmpR (op_in_seqK (K := K) rfl) (pe_ix ix_str (pv 1) (pv 6) (fun _ _ => rfl)) (pe_lst (pa_cons pe_str (pa_cons pe_str (pa_cons (pv 3) pa_nil)))) rfl)))) (pss_cons (ps_set (i := 7) sc_law_after.nd rfl (Or.inl rfl) (pe_op op_add (pv 6) (pe_callTy call_int1 (by rfl) B.b_int (by decide +kernel) (pa_cons (pe_cmpR op_ne (pe_ix ix_str (pv 1) (pv 6) (fun _ _ => rfl)) pe_str (nomark _)) pa_nil))))
      (pss_one (ps_for PassesOwn.never rfl (pi_listK (K := K) rfl (pe_ix (ix_listK (K := K) rfl) (pe_dget hu (pv 0) (pv 3) (fun _ _ => rfl)) (pe_ix (ix_tupK (K := K) rfl) (pv 5) pe_int (fun _ _ => rfl)) (fun _ _ => rfl))) (pg_name (i := 8) sc_law_after.nd rfl (Or.inl rfl)) (pss_one (ps_for PassesOwn.never rfl (pi_listK (K := K) rfl (pe_ix (ix_listK (K := K) rfl) (pe_dget hu (pv 0) (pv 3) (fun _ _ => rfl)) (pe_ix (ix_tupK (K := K) rfl) (pv 5) pe_int (fun _ _ => rfl)) (fun _ _ => rfl))) (pg_name (i := 9) sc_law_after.nd rfl (Or.inl rfl)) (pss_one (ps_dput hu (pv 4) (pe_tup (pa_cons (pv 7) (pa_cons (pv 8) (pa_cons (pv 9) pa_nil)))) pe_bl rfl))))))) pss_nil))))
      (pss_one (ps_ret (pe_g G_law_open (hr.mono (by decide)) (by rfl) (pa_cons (pv 1) (pa_cons (pe_callTy (call_list_dT rfl) (by rfl) B.b_list (by decide +kernel) (pa_cons (pv 4) pa_nil)) pa_nil))))))), ?_⟩
    refine fun D hD => ⟨_, rfl, a, rfl, ⟨_, SqL.of (same_new hD _ _ hA)⟩, for_list_w (K := K) (a := a) (xs := [V.ref q]) (fun j σ H' => ∃ (v5 v6 v7 v8 v9 : Option V) (ts : List T3) (g : T3 → V), σ = [some (.ref O), some (.str (strOf pat)), some (.ref a), some (.str (chr l)), some (.ref D), v5, v6, v7, v8, v9] ∧ Same H H' ∧ DD H' D ts g ∧ (j = 0 → ts = []) ∧ (j = 1 → ∀ u, u ∈ ts ↔ ∃ s, pat[t.1]? = some s ∧ (s = 42 ∨ s = 63 ∨ s = l) ∧ u.1 = goalW s t.1 ∧ u.2.1 ∈ c.R l t.2.1 ∧ u.2.2 ∈ c.R l t.2.2)) ⟨_, _, _, _, _, [], fun _ => .bl true, rfl, same_new hD, ⟨upd_same, List.nodup_nil, fun t ht => nomatch ht⟩, fun _ => rfl, fun e => nomatch e⟩ (fun j σ H' _ ⟨_, _, _, _, _, _, _, _, s, _⟩ => SqL.of (s _ _ hA)) ?_ ?_⟩
    · rintro j x σ Hb hx ⟨v5, v6, v7, v8, v9, ts, g, rfl, sm, dd, h0, _⟩ N hN
      have hj : j = 0 := by have := len_get hx; simp at this; omega
      subst hj
      obtain rfl : ts = [] := h0 rfl
      obtain rfl : V.ref q = x := Option.some.inj hx
      have hT' : Hb q = some (.tup [vi t.1, vi t.2.1, vi t.2.2]) := sm _ _ hT
      have hps : (strOf pat).length ≤ sizeLine := by rw [str_len]; exact le_of_small (m := 12) hpat
      refine ⟨_, rfl, q, _, (0 : Int), _, rfl, rfl, SqT.of hT', rfl, ?_⟩
      refine ⟨_, rfl, _, rfl, _, rfl, hps, _, _, rfl, rfl, _, rfl, iteD (fun c1 => ?_) fun c1 => iteF (hN _ _ ⟨_, _, _, _, _, [], g, rfl, sm, dd, fun e => rfl, fun _ u => ⟨(fun z => nomatch z), fun ⟨s, h, _⟩ => ?_⟩⟩)⟩
      rotate_left
      · rw [str_len] at c1
        exact absurd (mem_of_get h).2 (by omega)
      rw [str_len] at c1
      obtain ⟨sg, hsg⟩ : ∃ sg, pat[t.1]? = some sg := ⟨_, List.getElem?_eq_getElem (by omega)⟩
      refine ⟨_, rfl, _, rfl, strOf pat, (t.1 : Int), sg, rfl, rfl, hps, str_atI hsg, _, rfl, by show 3 ≤ sizeLine; exact le_of_small (m := 3) (Nat.le_refl _), fun Z hZ => ⟨Z, _, rfl, .inl (SqL.of upd_same), rfl, rfl, _, rfl, ?_⟩⟩
      have sZ := same_new (o := HO.lst [V.str (Str.ofString "*"), V.str (Str.ofString "?"), vc l]) hZ
      refine iteB (fun c2 => ?_) fun c2 => (hN _ _ ⟨_, _, _, _, _, [], g, rfl, sm.trans sZ, dd.same sZ, fun e => rfl, fun _ u => ⟨(fun z => nomatch z), fun ⟨s, h, h2, _⟩ => ?_⟩⟩)
      rotate_left
      · have c2' := (inV_sign sg l).symm.trans c2
        rw [hsg] at h
        rw [← Option.some.inj h] at h2
        exact absurd h2 (of_decide_eq_false c2')
      have c2' : sg = 42 ∨ sg = 63 ∨ sg = l := of_decide_eq_true ((inV_sign sg l).symm.trans c2)
      have sm2 := sm.trans sZ
      have dd2 := dd.same sZ
      have hT2 := sZ _ _ hT'
      refine ⟨_, rfl, _, rfl, _, rfl, strOf pat, (t.1 : Int), sg, rfl, rfl, hps, str_atI hsg, rfl, .inr ⟨_, rfl, _, _, rfl, rfl, ?_⟩⟩
      have ev := goal_v sg t.1
      have gle : goalW sg t.1 ≤ 12 := by unfold goalW; split <;> omega
      refine ⟨_, rfl, _, rfl, O, _, rfl, dg sm2 hRd hv, _, rfl, q, _, (1 : Int), _, rfl, rfl, SqT.of hT2, rfl, ad, _, (t.2.1 : Int), .ref p1, rfl, rfl, SqL.of (sm2 _ _ had), atI_nat (by rw [List.getElem?_map, hp1]; rfl), p1, rfl, ⟨_, SqL.of (sm2 _ _ hr1)⟩, for_list_w (K := K) (a := p1) (xs := vn (c.R l t.2.1)) (fun j σ H' => ∃ (v8 v9 : Option V) (ts : List T3) (g : T3 → V), σ = [some (.ref O), some (.str (strOf pat)), some (.ref a), some (.str (chr l)), some (.ref D), some (.ref q), some (vi t.1), some (vi (goalW sg t.1)), v8, v9] ∧ Same H H' ∧ DD H' D ts g ∧ ∀ u, u ∈ ts ↔ u.1 = goalW sg t.1 ∧ u.2.1 ∈ (c.R l t.2.1).take j ∧ u.2.2 ∈ c.R l t.2.2) ⟨_, _, [], g, by rw [← ev]; rfl, sm2, dd2, fun u => ⟨(fun z => nomatch z), fun z => nomatch z.2.1⟩⟩ (fun j σ H' _ ⟨_, _, _, _, _, s, _⟩ => SqL.of (s _ _ hr1)) ?_ ?_⟩
      · rintro j y σ Hc hy ⟨v8, v9, ts, g, rfl, sm3, dd3, hts⟩ N2 hN2
        obtain ⟨x, hx1, rfl⟩ := vn_get hy
        have hxm := List.mem_of_getElem? hx1
        have hxn := ok.lt l hl _ ht1 x hxm
        refine ⟨_, rfl, _, rfl, O, _, rfl, dg sm3 hRd' hv', _, rfl, q, _, (2 : Int), _, rfl, rfl, SqT.of (sm3 _ _ hT), rfl, ad', _, (t.2.2 : Int), .ref p2, rfl, rfl, SqL.of (sm3 _ _ had'), atI_nat (by rw [List.getElem?_map, hp2]; rfl), p2, rfl, ⟨_, SqL.of (sm3 _ _ hr2)⟩, for_list_w (K := K) (a := p2) (xs := vn (c.R l t.2.2)) (fun k σ H' => ∃ (v9 : Option V) (ts : List T3) (g : T3 → V), σ = [some (.ref O), some (.str (strOf pat)), some (.ref a), some (.str (chr l)), some (.ref D), some (.ref q), some (vi t.1), some (vi (goalW sg t.1)), some (vi x), v9] ∧ Same H H' ∧ DD H' D ts g ∧ ∀ u, u ∈ ts ↔ (u.1 = goalW sg t.1 ∧ u.2.1 ∈ (c.R l t.2.1).take j ∧ u.2.2 ∈ c.R l t.2.2) ∨ (u.1 = goalW sg t.1 ∧ u.2.1 = x ∧ u.2.2 ∈ (c.R l t.2.2).take k)) ⟨_, ts, g, rfl, sm3, dd3, fun u => (hts u).trans ⟨.inl, fun z => z.elim id fun z => nomatch z.2.2⟩⟩ (fun j σ H' _ ⟨_, _, _, _, s, _⟩ => SqL.of (s _ _ hr2)) ?_ ?_⟩
        · rintro k2 y2 σ Hd hy2 ⟨v9, ts, g, rfl, sm4, dd4, hts⟩ N3 hN3
          obtain ⟨y, hy1, rfl⟩ := vn_get hy2
          have hyn := ok.lt l hl _ ht2 y (List.mem_of_getElem? hy1)
          refine ⟨_, rfl, _, rfl, _, rfl, _, rfl, by show 3 ≤ sizeLine; exact le_of_small (m := 3) (Nat.le_refl _), fun T hT3 => ?_⟩
          have sT := same_new (o := HO.tup [vi (goalW sg t.1), vi x, vi y]) hT3
          have ddT := dd4.same sT
          refine ⟨D, _, rfl, DPut.t ddT.at_ (TupT.key (t := (goalW sg t.1, x, y)) upd_same) ddT.few, hN3 _ _ ⟨_, _, _, rfl, same_upd (sm4.trans sT) hD, ddT.add (u := (goalW sg t.1, x, y)) ⟨gle, by show x < 6; omega, by show y < 6; omega⟩, fun u => ?_⟩⟩
          rw [mem_addT, hts, take_get hy1, List.mem_append, List.mem_singleton]
          constructor
          · rintro ((h | ⟨h1, h2, h3⟩) | h)
            · exact .inl h
            · exact .inr ⟨h1, h2, .inl h3⟩
            · rw [h]; exact .inr ⟨rfl, rfl, .inr rfl⟩
          · rintro (h | ⟨h1, h2, h3 | h3⟩)
            · exact .inl (.inl h)
            · exact .inl (.inr ⟨h1, h2, h3⟩)
            · exact .inr (Prod.ext h1 (Prod.ext h2 h3))
        · rintro σ Hd ⟨v9, ts, g, rfl, sm4, dd4, hts⟩
          rw [List.length_map, List.take_length] at hts
          refine hN2 _ _ ⟨_, _, ts, g, rfl, sm4, dd4, fun u => (hts u).trans ?_⟩
          rw [take_get hx1, List.mem_append, List.mem_singleton]
          constructor
          · rintro (⟨h1, h2, h3⟩ | ⟨h1, h2, h3⟩)
            · exact ⟨h1, .inl h2, h3⟩
            · exact ⟨h1, .inr h2, h3⟩
          · rintro ⟨h1, h2 | h2, h3⟩
            · exact .inl ⟨h1, h2, h3⟩
            · exact .inr ⟨h1, h2, h3⟩
      · rintro σ Hc ⟨v8, v9, ts, g, rfl, sm3, dd3, hts⟩
        rw [List.length_map, List.take_length] at hts
        refine hN _ _ ⟨_, _, _, _, _, ts, g, rfl, sm3, dd3, (fun e => nomatch e), fun _ u => (hts u).trans ⟨fun z => ⟨sg, hsg, c2', z⟩, fun ⟨s, h1, _, h3⟩ => ?_⟩⟩
        rw [hsg] at h1
        rw [← Option.some.inj h1] at h3
        exact h3
    · rintro σ H' ⟨v5, v6, v7, v8, v9, ts, g, rfl, sm, dd, _, h1⟩
      refine ⟨_, rfl, _, rfl, D, _, rfl, .inl dd.at_, fun p bs hp2 hk => ⟨p, pat, ts, rfl, hpat, DD.lst hk hp2, dd.sm, fun q2 H2 ts2 s2 hq2 hL2 nd2 sm2 hts2 => k q2 H2 ts2 ((sm.trans (same_new hp2)).trans s2) ((sm.trans (same_new hp2)).free hq2) hL2 nd2 sm2 fun u => (hts2 u).trans ?_⟩⟩
      have h1 := h1 rfl
      constructor
      · rintro ⟨a1, s, a2, a3, a4⟩
        obtain ⟨sg, b1, b2, b3, b4, b5⟩ := (h1 s).mp a2
        refine ⟨by omega, sg, b1, b2, ?_, by rw [← a3]; exact b4, by rw [← a3]; exact b5⟩
        unfold goalW at b3
        rw [← b3]
        exact a4
      · rintro ⟨a1, sg, b1, b2, b3, b4, b5⟩
        exact ⟨by omega, (goalW sg t.1, u.2), (h1 _).mpr ⟨sg, b1, b2, rfl, b4, b5⟩, rfl, b3⟩
end
end Mm

set_option maxHeartbeats 4000000
/-! the law: its closed list -/
namespace Mm
open PySem PySem.Spec L2 MM
open PyProof.Rows hiding St
theorem norm_norm (t : T3) : norm (norm t) = norm t := by
  unfold norm
  show (t.1, min (min t.2.1 t.2.2) (max t.2.1 t.2.2), max (min t.2.1 t.2.2) (max t.2.1 t.2.2)) = _
  rw [Nat.min_eq_left (by omega), Nat.max_eq_right (by omega)]
/-- within a turn -/
structure Mid (c : CM) (pat : List Nat) (a b i k : Nat) (t : T3) (ts : List T3) : Prop where
  w : Work c pat a b i ts
  at_ : ts[i]? = some t
  dk : ∀ l ∈ c.L.take k, ∀ u, After c pat t l u → norm u ∈ ts
theorem Mid.start {c : CM} {pat : List Nat} {a b i : Nat} {t : T3} {ts : List T3} (h : Work c pat a b i ts) (ht : ts[i]? = some t) : Mid c pat a b i 0 t ts := ⟨h, ht, fun l hl => nomatch hl⟩
theorem Mid.fin {c : CM} {pat : List Nat} {a b i : Nat} {t : T3} {ts : List T3} (h : Mid c pat a b i c.L.length t ts) : Work c pat a b (i + 1) ts := by
  refine ⟨h.w.nd, h.w.re, h.w.st, h.w.sk, fun j u hj hu l hl v hv => ?_⟩
  by_cases e : j = i
  · subst e
    rw [h.at_] at hu
    rw [← Option.some.inj hu] at hv
    exact h.dk l (by rw [List.take_length]; exact hl) v hv
  · exact h.w.dn j u (by omega) hu l hl v hv
theorem after_skip {c : CM} {pat : List Nat} {t u : T3} {l : Nat} (h : After c pat t l u) (e : pat[u.1]? = some 42) : After c pat t l (u.1 + 1, u.2) := by
  obtain ⟨h0, s, h1, h2, h3, h4, h5⟩ := h
  exact ⟨(mem_of_get e).2, s, h1, h2, h3.succ e, h4, h5⟩
theorem Mid.next {c : CM} {pat : List Nat} {a b i k l : Nat} {t : T3} {ts ts' us : List T3} (h : Mid c pat a b i k t ts) (hl : c.L[k]? = some l) (hus : ∀ u, u ∈ us ↔ After c pat t l u) (nd : ts'.Nodup) (pre : ∃ more, ts' = ts ++ more) (hm : ∀ u, u ∈ ts' ↔ u ∈ ts ∨ ∃ v ∈ us, u = norm v) : Mid c pat a b i (k + 1) t ts' := by
  have hlL := List.mem_of_getElem? hl
  obtain ⟨more, rfl⟩ := pre
  have hti := h.w.re t (List.mem_of_getElem? h.at_)
  have keep : ∀ {j : Nat} {x : T3}, ts[j]? = some x → (ts ++ more)[j]? = some x := fun {j x} e => by rw [List.getElem?_append_left (len_get e)]; exact e
  have hil := len_get h.at_
  refine ⟨⟨nd, fun u hu => ?_, (hm _).mpr (.inl h.w.st), fun p x y hp e => ?_, fun j u hj hu l' hl' v hv => ?_⟩, keep h.at_, fun l' hl' u hu => ?_⟩
  · rcases (hm u).mp hu with q | ⟨v, hv, rfl⟩
    · exact h.w.re u q
    · exact ((hus v).mp hv).reach hlL hti
  · rcases (hm _).mp hp with q | ⟨v, hv, ev⟩
    · exact (hm _).mpr (.inl (h.w.sk p x y q e))
    · have e1 : p = v.1 := congrArg Prod.fst ev
      have e2 : (x, y) = (norm v).2 := congrArg Prod.snd ev
      have ha := after_skip ((hus v).mp hv) (by rw [← e1]; exact e)
      refine (hm _).mpr (.inr ⟨_, (hus _).mpr ha, ?_⟩)
      exact Prod.ext (by show p + 1 = v.1 + 1; omega) e2
  · have hu' : ts[j]? = some u := by
      rw [List.getElem?_append_left (by omega)] at hu
      exact hu
    exact (hm _).mpr (.inl (h.w.dn j u hj hu' l' hl' v hv))
  · rw [take_get hl] at hl'
    rcases List.mem_append.mp hl' with q | q
    · exact (hm _).mpr (.inl (h.dk l' q u hu))
    · rw [List.mem_singleton.mp q] at hu
      exact (hm _).mpr (.inr ⟨u, (hus u).mpr hu, rfl⟩)
theorem work_start {c : CM} {pat : List Nat} {a b : Nat} {ts : List T3} (nd : ts.Nodup) (h : ∀ t, t ∈ ts ↔ Opened pat [(0, a, b)] (pat.length + 1) t) : Work c pat a b 0 ts := by
  refine ⟨nd, fun t ht => ?_, (h _).mpr ⟨Nat.succ_pos _, _, List.mem_singleton.mpr rfl, rfl, .refl⟩, fun p x y hp e => ?_, fun j t hj => absurd hj (Nat.not_lt_zero _)⟩
  · obtain ⟨_, s, hs, e, sk⟩ := (h t).mp ht
    rw [List.mem_singleton.mp hs] at e sk
    have : t = (t.1, a, b) := Prod.ext rfl e.symm
    rw [this]
    exact Skips.reaches .start sk
  · obtain ⟨_, s, hs, e2, sk⟩ := (h _).mp hp
    exact (h _).mpr ⟨Nat.succ_lt_succ (mem_of_get e).2, s, hs, e2, sk.succ e⟩
/-- the two heaps' lists that grow together -/
structure WS (O sa sd : Addr) (H0 H : Hp) (ts : List T3) : Prop where
  bt : But O H0 H
  st : LT H sa ts
  sn : ∃ g, DD H sd ts g
theorem WS.same {O sa sd : Addr} {H0 H H' : Hp} {ts : List T3} (h : WS O sa sd H0 H ts) (s : Same H H') : WS O sa sd H0 H' ts := ⟨h.bt.trans (But.of s), h.st.same s, h.sn.imp fun _ d => d.same s⟩
theorem WS.updO {O sa sd : Addr} {H0 H : Hp} {ts : List T3} {u o : HO} (h : WS O sa sd H0 H ts) (hO : H O = some u) (h1 : ∀ l, u ≠ .lst l) (h2 : ∀ l, u ≠ .tup l) (h3 : ∀ l, u ≠ .dT l) : WS O sa sd H0 (upd H O o) ts := by
  obtain ⟨as, g1, g2⟩ := h.st
  obtain ⟨g, dd⟩ := h.sn
  refine ⟨h.bt.trans But.upd, ⟨as, by rw [upd_ne (ne_of g1 hO fun z => h1 _ z.symm)]; exact g1, paired_map g2 fun q t e => ?_⟩, g, by rw [upd_ne (ne_of dd.at_ hO fun z => h3 _ z.symm)]; exact dd.at_, dd.nd, dd.sm⟩
  have e' : H q = some (.tup [vi t.1, vi t.2.1, vi t.2.2]) := e
  show (upd H O o) q = _
  rw [upd_ne (ne_of e' hO fun z => h2 _ z.symm)]
  exact e'
theorem WS.add {O sa sd T : Addr} {H0 H : Hp} {ts : List T3} {as : List Addr} {g : T3 → V} {u : T3} {v : V} (bt : But O H0 H) (nsa : H0 sa = none) (nsd : H0 sd = none) (h1 : H sa = some (.lst (as.map V.ref))) (h2 : Paired (TupT H) as ts) (dd : DD H sd ts g) (hT : TupT H T u) (nu : u ∉ ts) (hu : u.1 ≤ 12 ∧ u.2.1 < 6 ∧ u.2.2 < 6) :
    WS O sa sd H0 (upd (upd H sd (.dT (putK (ents ts g) (kT u) v))) sa (.lst (as.map V.ref ++ [.ref T]))) (ts ++ [u]) := by
  have nss : sd ≠ sa := ne_of dd.at_ h1 (fun z => nomatch z)
  have kt : ∀ q t, TupT H q t → TupT (upd (upd H sd (.dT (putK (ents ts g) (kT u) v))) sa (.lst (as.map V.ref ++ [.ref T]))) q t := fun q t e => by
    have e' : H q = some (.tup [vi t.1, vi t.2.1, vi t.2.2]) := e
    show (upd (upd H sd _) sa _) q = _
    rw [upd_ne (ne_of e' h1 (fun z => nomatch z)), upd_ne (ne_of e' dd.at_ (fun z => nomatch z))]
    exact e'
  have da := dd.add (v := v) hu
  have ea : addT ts u = ts ++ [u] := by unfold addT; rw [if_neg nu]
  rw [ea] at da
  refine ⟨fun x w e n => ?_, ⟨as ++ [T], by rw [upd_same, List.map_append]; rfl, paired_app (paired_map h2 fun q t e => kt q t e) (.cons (kt _ _ hT) .nil)⟩, _, by rw [upd_ne nss]; exact da.at_, da.nd, da.sm⟩
  rw [upd_ne (ne_of_none e nsa), upd_ne (ne_of_none e nsd)]
  exact bt x w e n
theorem own_rd {H0 H : Hp} {O : Addr} {c : CM} {E : List Ent} (h0 : H0 O = some (.dK (kvsC E))) (hL : E.map (·.1) = c.L) (hr : ∀ e ∈ E, Lists H0 e.2.1 ((List.range c.n).map (c.R e.1))) (bt : But O H0 H) (hO : Rd H O (.dK (kvsC E))) : OwnRd H O c := by
  refine ⟨E, hO, hL, fun e he => ?_⟩
  obtain ⟨as, h1, h2⟩ := hr e he
  exact ⟨as, bt _ _ h1 (ne_of h1 h0 (fun z => nomatch z)), paired_map h2 fun q r e => bt _ _ e (ne_of e h0 (fun z => nomatch z))⟩
section
variable {P : Program} {w : World} {K : PySem.W.Frag} {mg : Str → Option Value} {base : Heap} {CC CT CP : Addr}
abbrev s_law_closed : Stmt := (top 80)
abbrev N_law_closed : List Str := ["_law_own_here", "_law_pattern_here", "_law_first", "_law_second", "_law_states", "_law_seen", "_law_state", "_law_at", "_law_letter", "_law_after_here"]
theorem sc_law_closed : FnScope N_law_closed ["_law_own_here", "_law_pattern_here", "_law_first", "_law_second"] (defScope s_law_closed) := ⟨rfl, rfl, rfl, by decide +kernel, rfl, by decide +kernel, by decide +kernel⟩
/-- the law's own table as it stands -/
def OwnC (H : Hp) (O : Addr) (c : CM) : Prop := ∃ E : List Ent, H O = some (.dK (kvsC E)) ∧ E.map (·.1) = c.L ∧ ∀ e ∈ E, Lists H e.2.1 ((List.range c.n).map (c.R e.1))
def sp_lclosed : Sp := fun vs H Q _ => ∃ (O : Addr) (c : CM) (pat : List Nat) (a b : Nat), vs = [.ref O, .str (strOf pat), vi a, vi b] ∧ c.Ok ∧ PatOk c pat ∧ OwnC H O c ∧ a < b ∧ b < c.n ∧ (pat.length + 1) * (c.n * c.n) ≤ 200 ∧
  ∀ q H' (ts : List T3), Same H H' → H q = none → LT H' q ts → Closed c pat a b ts → Q (.ref q) H'
theorem g_law_closed (F : Fn K mg "_law_closed" s_law_closed) (B : Blt mg) (G_law_open : G P w K mg base 1 "_law_open" ["_law_pattern_here", "_law_states"] sp_lopen) (G_law_after : G P w K mg base 2 "_law_after" ["_law_own_here", "_law_pattern_here", "_law_states", "_law_letter"] sp_lafter) : G P w K mg base 3 "_law_closed" ["_law_own_here", "_law_pattern_here", "_law_first", "_law_second"] sp_lclosed := by
  refine g_of F sc_law_closed (fun _ _ _ _ _ _ us hl => match us, hl with | [_, _, _, _], _ => rfl) (fun vs H Q E h => ?_) (fun f cdv A outer s H vs Q E hr h => ?_)
  · obtain ⟨O, c, pat, a, b, rfl, _⟩ := h
    rfl
  · obtain ⟨O, c, pat, a, b, rfl, ok, hp, ⟨E', hO, hEL, hER⟩, hab, hb, h200, k⟩ := h
    have hu := hu_of hr
    have n6 := ok.n6
    have hpat := hp.le
    refine ⟨_, (pss_cons (ps_set (i := 4) sc_law_closed.nd rfl (Or.inl rfl) (pe_g G_law_open (hr.mono (by decide)) (by rfl) (pa_cons (pv 1) (pa_cons (pe_lst (pa_cons (pe_tup (pa_cons pe_int (pa_cons (pe_callB (call_min2 rfl) (by rfl) B.b_min (by decide +kernel) (pa_cons (pe_callTy call_int1 (by rfl) B.b_int (by decide +kernel) (pa_cons (pv 2) pa_nil)) (pa_cons (pe_callTy call_int1 (by rfl) B.b_int (by decide +kernel) (pa_cons (pv 3) pa_nil)) pa_nil))) (pa_cons (pe_callB (call_max2 rfl) (by rfl) B.b_max (by decide +kernel) (pa_cons (pe_callTy call_int1 (by rfl) B.b_int (by decide +kernel) (pa_cons (pv 2) pa_nil)) (pa_cons (pe_callTy call_int1 (by rfl) B.b_int (by decide +kernel) (pa_cons (pv 3) pa_nil)) pa_nil))) pa_nil)))) pa_nil)) pa_nil))))
      (pss_cons (ps_set (i := 5) sc_law_closed.nd rfl (Or.inl rfl) pe_dnewT)
      (pss_cons (ps_for PassesOwn.never rfl (pi_listK (K := K) rfl (pv 4)) (pg_name (i := 6) sc_law_closed.nd rfl (Or.inl rfl)) (pss_one (ps_dput hu (pv 5) (pv 6) pe_bl rfl)))
      (pss_cons (ps_for PassesOwn.never rfl (pi_range1 rfl B.b_range (pa_cons pe_int pa_nil)) (pg_name (i := 7) sc_law_closed.nd rfl (Or.inl rfl)) (pss_cons (ps_if (pt_cmpR op_ge (pv 7) (pe_callB (call_len_seqK (K := K) rfl) (by rfl) B.b_len PySem.boot_len (pa_cons (pv 4) pa_nil)) (nomark _)) (pss_one ps_break) pss_nil)
      (pss_one (ps_lock (ps_for PassesOwn.never rfl (pi_keys (pv 0)) (pg_name (i := 8) sc_law_closed.nd rfl (Or.inl rfl)) (pss_one (ps_for PassesOwn.never rfl (pi_listK (K := K) rfl (pe_g G_law_after (hr.mono (by decide)) (by rfl) (pa_cons (pv 0) (pa_cons (pv 1) (pa_cons (pe_lst (pa_cons (pe_ix (ix_listK (K := K) rfl) (pv 4) (pv 7) (fun _ _ => rfl)) pa_nil)) (pa_cons (pv 8) pa_nil)))))) (pg_name (i := 6) sc_law_closed.nd rfl (Or.inl rfl)) (pss_cons (ps_set (i := 9) sc_law_closed.nd rfl (Or.inl rfl) (pe_tup (pa_cons (pe_ix (ix_tupK (K := K) rfl) (pv 6) pe_int (fun _ _ => rfl)) (pa_cons (pe_callB (call_min2 rfl) (by rfl) B.b_min (by decide +kernel) (pa_cons (pe_callTy call_int1 (by rfl) B.b_int (by decide +kernel) (pa_cons (pe_ix (ix_tupK (K := K) rfl) (pv 6) pe_int (fun _ _ => rfl)) pa_nil)) (pa_cons (pe_callTy call_int1 (by rfl) B.b_int (by decide +kernel) (pa_cons (pe_ix (ix_tupK (K := K) rfl) (pv 6) pe_int (fun _ _ => rfl)) pa_nil)) pa_nil))) (pa_cons (pe_callB (call_max2 rfl) (by rfl) B.b_max (by decide +kernel) (pa_cons (pe_callTy call_int1 (by rfl) B.b_int (by decide +kernel) (pa_cons (pe_ix (ix_tupK (K := K) rfl) (pv 6) pe_int (fun _ _ => rfl)) pa_nil)) (pa_cons (pe_callTy call_int1 (by rfl) B.b_int (by decide +kernel) (pa_cons (pe_ix (ix_tupK (K := K) rfl) (pv 6) pe_int (fun _ _ => rfl)) pa_nil)) pa_nil))) pa_nil)))))
      (pss_one (ps_if (pt_cmp (pc_dnotin hu (pv 9) (pv 5))) (pss_cons (ps_dput hu (pv 5) (pv 9) pe_bl rfl)
      (pss_one (ps_expr (pe_bm PySem.F.plainAttrs_list PySem.F.slot_list_append PySem.F.type_list_append mt_append (pv 4) (pa_cons (pv 9) pa_nil))))) pss_nil))))))))))
      (pss_one (ps_ret (pv 4))))))), ?_⟩
    refine ⟨_, rfl, _, rfl, .inl ⟨_, rfl, _, rfl, .inl ⟨_, rfl, _, _, rfl, _, rfl, .inl ⟨_, rfl, _, rfl, .inl ⟨_, rfl, _, _, rfl, ?_⟩⟩⟩⟩⟩
    rw [min_vi, max_vi, Nat.min_eq_left (Nat.le_of_lt hab), Nat.max_eq_right (Nat.le_of_lt hab)]
    refine ⟨by show 3 ≤ sizeLine; exact le_of_small (m := 3) (Nat.le_refl _), fun T hT => ⟨by show 1 ≤ sizeLine; exact le_of_small (m := 1) (Nat.le_refl _), fun LL hLL => ?_⟩⟩
    have sT := same_new (o := HO.tup [V.int 0, vi a, vi b]) hT
    have sL := same_new (o := HO.lst [V.ref T]) hLL
    refine ⟨LL, pat, [(0, a, b)], rfl, hpat, ⟨[T], upd_same, .cons (sL _ _ upd_same) .nil⟩, fun t ht => ?_, fun sa H1 ts s1 hsa hLT nd sm hts => ?_⟩
    · rw [List.mem_singleton.mp ht]
      exact ⟨Nat.zero_le _, by show a < 6; omega, by show b < 6; omega⟩
    have s01 := (sT.trans sL).trans s1
    have nsa : H sa = none := (sT.trans sL).free hsa
    have W0 := work_start (c := c) nd hts
    refine fun sd hsd => ?_
    have nsd : H sd = none := s01.free hsd
    obtain ⟨as0, ha0, hp0⟩ := hLT
    have el0 := Paired.length hp0
    have s2 := same_new (o := HO.dT []) hsd
    refine ⟨_, rfl, sa, rfl, ⟨_, SqL.of (s2 _ _ ha0)⟩, for_list_w (K := K) (a := sa) (xs := as0.map V.ref) (fun j σ H' => ∃ (v6 v7 v8 v9 : Option V) (g : T3 → V), σ = [some (.ref O), some (.str (strOf pat)), some (vi a), some (vi b), some (.ref sa), some (.ref sd), v6, v7, v8, v9] ∧ Same H1 H' ∧ DD H' sd (ts.take j) g) ⟨_, _, _, _, fun _ => .bl true, rfl, s2, ⟨upd_same, List.nodup_nil, fun t ht => nomatch ht⟩⟩ (fun j σ H' _ ⟨_, _, _, _, _, _, s, _⟩ => SqL.of (s _ _ ha0)) ?_ ?_⟩
    · rintro j x σ Hb hx ⟨v6, v7, v8, v9, g, rfl, sm1, dd⟩ N hN
      obtain ⟨q, hq, rfl⟩ := refs_get hx
      obtain ⟨t, ht, hTt⟩ := L2.paired_get hp0 hq
      have hT' : TupT Hb q t := sm1 _ _ hTt
      have nin : t ∉ ts.take j := by
        intro hm
        obtain ⟨k2, hk2, hk3⟩ := List.mem_take_iff_getElem.mp hm
        have q2 : ts[k2]? = some t := by rw [List.getElem?_eq_getElem (by omega), hk3]
        have q3 := (List.getElem?_inj (by omega) nd).mp (q2.trans ht.symm)
        omega
      have da := dd.add (v := .bl true) (sm t (List.mem_of_getElem? ht))
      have ea : addT (ts.take j) t = ts.take (j + 1) := by unfold addT; rw [if_neg nin, take_get ht]
      rw [ea] at da
      exact ⟨_, rfl, _, rfl, sd, _, rfl, DPut.t dd.at_ (TupT.key hT') dd.few, hN _ _ ⟨_, _, _, _, _, rfl, same_upd sm1 hsd, da⟩⟩
    rintro σ H2 ⟨v6, v7, v8, v9, g0, rfl, s12, dd0⟩
    rw [List.length_map, el0, List.take_length] at dd0
    have s02 := s01.trans s12
    have WS0 : WS O sa sd H H2 ts := ⟨But.of s02, ⟨as0, s12 _ _ ha0, paired_map hp0 fun _ _ q => s12 _ _ q⟩, g0, dd0⟩
    have fin : ∀ (H' : Hp) (ts : List T3) (i : Nat), WS O sa sd H H' ts → H' O = some (.dK (kvsC E')) → Work c pat a b i ts → ts.length ≤ i → Q (.ref sa) H' := by
      intro H' ts i W hO' Wk hi
      refine k sa H' ts (fun x u e => ?_) nsa W.st (Wk.closed hp hi)
      by_cases ex : x = O
      · rw [ex] at e ⊢
        rw [hO] at e
        rw [hO', e]
      · exact W.bt x u e ex
    refine ⟨_, rfl, by decide, by decide, for_w (walk_r0 (n := 200)) (fun i σ H' => ∃ (v6 v7 v8 v9 : Option V) (ts : List T3), σ = [some (.ref O), some (.str (strOf pat)), some (vi a), some (vi b), some (.ref sa), some (.ref sd), v6, v7, v8, v9] ∧ WS O sa sd H H' ts ∧ H' O = some (.dK (kvsC E')) ∧ Work c pat a b i ts) ⟨_, _, _, _, ts, rfl, WS0, s02 _ _ hO, W0⟩ (fun _ _ _ _ _ => trivial) ?_ ?_⟩
    · rintro i x σ Ha Hb hi ⟨v6, v7, v8, v9, ts, rfl, W, hOb, Wk⟩ ⟨rfl, rfl⟩ N hN
      obtain ⟨as, ha, hpa⟩ := W.st
      have ela := Paired.length hpa
      refine ⟨_, rfl, _, rfl, sa, _, rfl, .inl (SqL.of ha), _, _, rfl, rfl, _, rfl, iteD (fun c1 => ?_) fun c1 => ?_⟩
      · rw [List.length_map] at c1
        exact ⟨_, rfl, fin Hb ts i W hOb Wk (by omega)⟩
      · rw [List.length_map] at c1
        obtain ⟨t, hti⟩ : ∃ t, ts[i]? = some t := ⟨_, List.getElem?_eq_getElem (by omega)⟩
        refine ⟨O, _, hOb, trivial, fun od => ?_⟩
        have WL : WS O sa sd H (upd Hb O (.frz od (.dK (kvsC E')))) ts := W.updO hOb (fun _ z => nomatch z) (fun _ z => nomatch z) (fun _ z => nomatch z)
        have lOb : (upd Hb O (.frz od (.dK (kvsC E')))) O = some (.frz od (.dK (kvsC E'))) := upd_same
        generalize upd Hb O (.frz od (.dK (kvsC E'))) = HL at WL lOb
        refine ⟨_, rfl, O, od, rfl, .inl ⟨kvsC E', lOb, for_w walk_keys (fun k2 σ H' => ∃ (v6 v8 v9 : Option V) (ts : List T3), σ = [some (.ref O), some (.str (strOf pat)), some (vi a), some (vi b), some (.ref sa), some (.ref sd), v6, some (vi i), v8, v9] ∧ WS O sa sd H H' ts ∧ H' O = some (.frz od (.dK (kvsC E'))) ∧ Mid c pat a b i k2 t ts) ⟨_, _, _, ts, rfl, WL, lOb, .start Wk hti⟩ (fun _ _ _ _ ⟨_, _, _, _, _, _, h, _⟩ => h) ?_ ?_⟩⟩
        · rintro k2 x σ Hc Hd hk2 ⟨v6, v8, v9, ts2, rfl, W2, hO2, Md⟩ ⟨rfl, kk, vv, hkv, rfl⟩ N2 hN2
          unfold kvsC at hkv
          rw [List.getElem?_map] at hkv
          obtain ⟨e, he, ekv⟩ := Option.map_eq_some_iff.mp hkv
          have ek : Sum.inr (chr e.1) = kk := congrArg Prod.fst ekv
          subst ek
          have hlk : c.L[k2]? = some e.1 := by rw [← hEL, List.getElem?_map, he]; rfl
          have hlL := List.mem_of_getElem? hlk
          obtain ⟨as2, h1, h2⟩ := W2.st
          obtain ⟨g2, dd2⟩ := W2.sn
          obtain ⟨q1, hq1, hTq⟩ : ∃ q1, as2[i]? = some q1 ∧ TupT Hd q1 t := by
            obtain ⟨q1, hq1⟩ : ∃ q1, as2[i]? = some q1 := ⟨_, List.getElem?_eq_getElem (by rw [Paired.length h2]; exact len_get Md.at_)⟩
            obtain ⟨t2, ht2, hT2⟩ := L2.paired_get h2 hq1
            rw [Md.at_] at ht2
            cases ht2
            exact ⟨q1, hq1, hT2⟩
          have sto := (Md.w.re t (List.mem_of_getElem? Md.at_)).ok ok hp ⟨Nat.zero_le _, Nat.le_of_lt hab, hb⟩
          have hOR : OwnRd Hd O c := own_rd hO hEL hER W2.bt (.inr ⟨od, hO2⟩)
          refine ⟨_, rfl, _, rfl, _, rfl, _, rfl, sa, _, (i : Int), .ref q1, rfl, rfl, SqL.of h1, atI_nat (by rw [List.getElem?_map, hq1]; rfl), by show 1 ≤ sizeLine; exact le_of_small (m := 1) (Nat.le_refl _), fun Z hZ => ⟨_, rfl, ?_⟩⟩
          have sZ := same_new (o := HO.lst [V.ref q1]) hZ
          refine ⟨O, Z, c, pat, e.1, t, rfl, ok, hpat, hOR.same sZ, hlL, sto.pl, Nat.lt_of_le_of_lt sto.le sto.lt, sto.lt, ⟨[q1], upd_same, .cons (sZ _ _ hTq) .nil⟩, fun qa H5 us s5 hqa hLTu ndu smu hus => ?_⟩
          have s25 := sZ.trans s5
          have W5 := W2.same s25
          obtain ⟨asu, hqa1, hpu⟩ := hLTu
          have elu := Paired.length hpu
          have nqs : qa ≠ sa := (ne_of_none (sZ _ _ h1) hqa).symm
          have nqd : qa ≠ sd := (ne_of_none (sZ _ _ dd2.at_) hqa).symm
          refine ⟨qa, rfl, ⟨_, SqL.of hqa1⟩, for_list_w (K := K) (a := qa) (xs := asu.map V.ref) (fun j σ H' => ∃ (v6 v9 : Option V) (ts3 : List T3), σ = [some (.ref O), some (.str (strOf pat)), some (vi a), some (vi b), some (.ref sa), some (.ref sd), v6, some (vi i), some (vc e.1), v9] ∧ WS O sa sd H H' ts3 ∧ H' O = some (.frz od (.dK (kvsC E'))) ∧ H' qa = some (.lst (asu.map V.ref)) ∧ Paired (TupT H') asu us ∧ ts3.Nodup ∧ (∃ more, ts3 = ts2 ++ more) ∧ ∀ u, u ∈ ts3 ↔ u ∈ ts2 ∨ ∃ v ∈ us.take j, u = norm v) ⟨_, _, ts2, rfl, W5, s25 _ _ hO2, hqa1, hpu, Md.w.nd, ⟨[], (List.append_nil _).symm⟩, fun u => ⟨.inl, fun z => z.elim id fun ⟨v, h, _⟩ => nomatch h⟩⟩ (fun j σ H' _ ⟨_, _, _, _, _, _, h, _⟩ => SqL.of h) ?_ ?_⟩
          · rintro j x σ H6 hx ⟨v6, v9, ts3, rfl, W6, hO6, hqa6, hp6, nd6, ⟨more, hmore⟩, hm6⟩ N3 hN3
            obtain ⟨q2, hq2, rfl⟩ := refs_get hx
            obtain ⟨v, hv, hTv⟩ := L2.paired_get hp6 hq2
            have hTv' : H6 q2 = some (.tup [vi v.1, vi v.2.1, vi v.2.2]) := hTv
            have hvs := smu v (List.mem_of_getElem? hv)
            refine ⟨_, rfl, q2, _, (0 : Int), _, rfl, rfl, SqT.of hTv', rfl, _, rfl, q2, _, (1 : Int), _, rfl, rfl, SqT.of hTv', rfl, .inl ⟨_, rfl, _, rfl, q2, _, (2 : Int), _, rfl, rfl, SqT.of hTv', rfl, .inl ⟨_, rfl, _, _, rfl, _, rfl, q2, _, (1 : Int), _, rfl, rfl, SqT.of hTv', rfl, .inl ⟨_, rfl, _, rfl, q2, _, (2 : Int), _, rfl, rfl, SqT.of hTv', rfl, .inl ⟨_, rfl, _, _, rfl, ?_⟩⟩⟩⟩⟩
            rw [min_vi, max_vi]
            refine ⟨by show 3 ≤ sizeLine; exact le_of_small (m := 3) (Nat.le_refl _), fun T2 hT2 => ?_⟩
            have sT2 := same_new (o := HO.tup [vi v.1, vi (min v.2.1 v.2.2), vi (max v.2.1 v.2.2)]) hT2
            have tN : TupT (upd H6 T2 (.tup [vi v.1, vi (min v.2.1 v.2.2), vi (max v.2.1 v.2.2)])) T2 (norm v) := upd_same
            have W7 := W6.same sT2
            have hO7 := sT2 _ _ hO6
            have hqa7 := sT2 _ _ hqa6
            have hp7 := paired_map hp6 fun b z (e : TupT H6 b z) => (sT2 _ _ e : TupT _ b z)
            generalize upd H6 T2 (.tup [vi v.1, vi (min v.2.1 v.2.2), vi (max v.2.1 v.2.2)]) = H7 at tN W7 hO7 hqa7 hp7
            obtain ⟨as7, h71, h72⟩ := W7.st
            obtain ⟨g7, dd7⟩ := W7.sn
            have few7 := small_few dd7.nd dd7.sm
            have mem_next : ∀ u, (u ∈ ts3 ∨ u = norm v) ↔ u ∈ ts2 ∨ ∃ v ∈ us.take (j + 1), u = norm v := by
              intro u
              rw [hm6, take_get hv]
              constructor
              · rintro ((h | ⟨x, h1, h2⟩) | h)
                · exact .inl h
                · exact .inr ⟨x, List.mem_append_left _ h1, h2⟩
                · exact .inr ⟨v, List.mem_append_right _ (List.mem_singleton.mpr rfl), h⟩
              · rintro (h | ⟨x, h1, h2⟩)
                · exact .inl (.inl h)
                · rcases List.mem_append.mp h1 with h1 | h1
                  · exact .inl (.inr ⟨x, h1, h2⟩)
                  · rw [List.mem_singleton.mp h1] at h2
                    exact .inr h2
            refine ⟨_, rfl, _, rfl, sd, _, rfl, .inr ⟨ents ts3 g7, kT (norm v), T2, .inl dd7.at_, rfl, tN.key, rfl⟩, _, rfl, ?_⟩
            rw [val_ents]
            by_cases hin : norm v ∈ ts3
            · rw [if_pos hin]
              refine iteF (hN3 _ _ ⟨_, _, ts3, rfl, W7, hO7, hqa7, hp7, nd6, ⟨more, hmore⟩, fun u => ?_⟩)
              rw [← mem_next]
              exact ⟨.inl, fun z => z.elim id fun e => e ▸ hin⟩
            · rw [if_neg hin]
              have hsn : (norm v).1 ≤ 12 ∧ (norm v).2.1 < 6 ∧ (norm v).2.2 < 6 := ⟨hvs.1, by show min v.2.1 v.2.2 < 6; omega, by show max v.2.1 v.2.2 < 6; omega⟩
              have W8 := WS.add (v := V.bl true) W7.bt nsa nsd h71 h72 dd7 tN hin hsn
              have nss : sa ≠ sd := ne_of h71 dd7.at_ (fun z => nomatch z)
              refine iteT ⟨_, rfl, _, rfl, sd, _, rfl, DPut.t dd7.at_ tN.key dd7.few, ?_⟩
              refine ⟨_, rfl, tyL (by rw [upd_ne nss]; exact h71), _, rfl, sa, _, _, rfl, rfl, by rw [upd_ne nss]; exact h71, small_of (m := 468) (by rw [List.length_map, Paired.length h72]; exact few7), hN3 _ _ ⟨_, _, ts3 ++ [norm v], rfl, W8, ?_, ?_, paired_map hp7 fun b z e => ?_, ?_, ⟨more ++ [norm v], by rw [hmore, List.append_assoc]⟩, fun u => ?_⟩⟩
              · rw [upd_ne (ne_of hO7 h71 (fun z => nomatch z)), upd_ne (ne_of hO7 dd7.at_ (fun z => nomatch z))]
                exact hO7
              · rw [upd_ne nqs, upd_ne nqd]
                exact hqa7
              · have e' : H7 b = some (.tup [vi z.1, vi z.2.1, vi z.2.2]) := e
                show (upd (upd H7 sd _) sa _) b = _
                rw [upd_ne (ne_of e' h71 (fun z => nomatch z)), upd_ne (ne_of e' dd7.at_ (fun z => nomatch z))]
                exact e'
              · have := nd_addT (u := norm v) nd6
                unfold addT at this
                rwa [if_neg hin] at this
              · rw [List.mem_append, List.mem_singleton]
                exact mem_next u
          · rintro σ H6 ⟨v6, v9, ts3, rfl, W6, hO6, hqa6, hp6, nd6, hmore, hm6⟩
            rw [List.length_map, elu, List.take_length] at hm6
            exact hN2 _ _ ⟨_, _, _, ts3, rfl, W6, hO6, Md.next hlk hus nd6 hmore hm6⟩
        · rintro σ Hc ⟨v6, v8, v9, ts2, rfl, W2, hO2, Md⟩
          have ekl : (kvsC E').length = c.L.length := by rw [kvs_len, ← hEL, List.length_map]
          rw [ekl] at Md
          exact ⟨hO2, hN _ _ ⟨_, _, _, _, ts2, rfl, W2.updO hO2 (fun _ z => nomatch z) (fun _ z => nomatch z) (fun _ z => nomatch z), upd_same, Md.fin⟩⟩
    · rintro σ H' ⟨v6, v7, v8, v9, ts, rfl, W, hOb, Wk⟩
      exact ⟨_, rfl, fin H' ts 200 W hOb Wk (Nat.le_trans (Wk.few ok hp (Nat.le_of_lt hab) hb) h200)⟩
end
end Mm

set_option maxHeartbeats 4000000
/-! the law: who stays apart -/
namespace Mm
open PySem PySem.Spec L2 MM
open PyProof.Rows hiding St
theorem OwnC.same {H H' : Hp} {O : Addr} {c : CM} (h : OwnC H O c) (s : Same H H') : OwnC H' O c := by
  obtain ⟨E, h1, h2, h3⟩ := h
  exact ⟨E, s _ _ h1, h2, fun e he => (h3 e he).same s⟩
section
variable {P : Program} {w : World} {K : PySem.W.Frag} {mg : Str → Option Value} {base : Heap} {CC CT CP : Addr}
abbrev s_law_apart : Stmt := (top 81)
abbrev N_law_apart : List Str := ["_law_own_here", "_law_n", "_law_pattern_here", "_law_word", "_law_apart_here", "_law_low", "_law_high"]
theorem sc_law_apart : FnScope N_law_apart ["_law_own_here", "_law_n", "_law_pattern_here"] (defScope s_law_apart) := ⟨rfl, rfl, rfl, by decide +kernel, rfl, by decide +kernel, by decide +kernel⟩
def ApG (c : CM) (pat : List Nat) (g : Nat → List Nat) : Prop := ∀ x, x < c.n → ∀ y, y ∈ g x ↔ y < c.n ∧ Apart c pat x y
def sp_lapart : Sp := fun vs H Q _ => ∃ (O : Addr) (c : CM) (pat : List Nat), vs = [.ref O, vi c.n, .str (strOf pat)] ∧ c.Ok ∧ PatOk c pat ∧ OwnC H O c ∧ (pat.length + 1) * (c.n * c.n) ≤ 200 ∧ ∀ R H' g, Same H H' → RW H' R c.n g → ApG c pat g → (∀ x, (g x).length ≤ 100) → Q (.ref R) H'
theorem g_law_apart (F : Fn K mg "_law_apart" s_law_apart) (B : Blt mg) (G_law_won : G P w K mg base 1 "_law_won" ["_law_pattern_here", "_law_states"] sp_lwon) (G_law_closed : G P w K mg base 3 "_law_closed" ["_law_own_here", "_law_pattern_here", "_law_first", "_law_second"] sp_lclosed) : G P w K mg base 4 "_law_apart" ["_law_own_here", "_law_n", "_law_pattern_here"] sp_lapart := by
  refine g_of F sc_law_apart (fun _ _ _ _ _ _ us hl => match us, hl with | [_, _, _], _ => rfl) (fun vs H Q E h => ?_) (fun f cdv A outer s H vs Q E hr h => ?_)
  · obtain ⟨O, c, pat, rfl, _⟩ := h
    rfl
  · obtain ⟨O, c, pat, rfl, ok, hp, hO, h200, k⟩ := h
    have n1 := ok.n1
    have n6 := ok.n6
    have sy := apart_sym c pat
    refine ⟨_, (pss_cons (ps_setLc (i := 4) (own := [("_law_word", 3)]) rfl sc_law_apart.nd rfl rfl (sw_true rfl rfl rfl (by decide +kernel)) (pi_range1 rfl B.b_range (pa_cons (pv 1) pa_nil)) (blkOk_by (N := N_law_apart) (sc := defScope s_law_apart) (by decide +kernel)) (fun _ _ _ _ _ => (pg_name (i := 3) sc_law_apart.nd rfl (Or.inl rfl))) (fun _ _ _ _ _ => pts_nil) (fun _ _ _ _ _ => (pe_lst pa_nil)))
      (pss_cons (ps_for PassesOwn.never rfl (pi_range1 rfl B.b_range (pa_cons (pv 1) pa_nil)) (pg_name (i := 5) sc_law_apart.nd rfl (Or.inl rfl)) (pss_one (ps_for PassesOwn.never rfl (pi_range2 rfl B.b_range (pa_cons (pe_op op_add (pv 5) pe_int) (pa_cons (pv 1) pa_nil))) (pg_name (i := 6) sc_law_apart.nd rfl (Or.inl rfl)) (pss_one (ps_if (pt_not (pt_val (pe_g G_law_won (hr.mono (by decide)) (by rfl) (pa_cons (pv 2) (pa_cons (pe_g G_law_closed (hr.mono (by decide)) (by rfl) (pa_cons (pv 0) (pa_cons (pv 2) (pa_cons (pv 5) (pa_cons (pv 6) pa_nil))))) pa_nil))))) (pss_cons (ps_asg (pe_op op_cat (pe_ix (ix_listK (K := K) rfl) (pv 4) (pv 5) (fun _ _ => rfl)) (pe_lst (pa_cons (pv 6) pa_nil))) (pg_sub (pv 4) (pv 5) set_list))
      (pss_one (ps_asg (pe_op op_cat (pe_ix (ix_listK (K := K) rfl) (pv 4) (pv 6) (fun _ _ => rfl)) (pe_lst (pa_cons (pv 5) pa_nil))) (pg_sub (pv 4) (pv 6) set_list)))) pss_nil)))))
      (pss_one (ps_ret (pv 4))))), ?_⟩
    refine ⟨_, rfl, _, rfl, by omega, by omega, fun R hR => blk_w (walk_r0 (n := c.n)) (fun i H' => ∃ as : List Addr, LB H R H' (as.map V.ref) ∧ R ∉ as ∧ as.length = i ∧ ∀ q ∈ as, H' q = some (.lst [])) ⟨[], LB.start hR, List.not_mem_nil, rfl, fun q hq => nomatch hq⟩ (fun _ _ _ _ => trivial) ?_ ?_⟩
    · rintro i z Ha Hb hi ⟨as, L, nR, hla, hqa⟩ ⟨rfl, rfl⟩ N hN
      refine ⟨rfl, ?_⟩
      refine ⟨by show 0 ≤ sizeLine; exact Nat.zero_le _, fun l hl => ⟨_, (L.next (same_new hl)).at_, small_of (m := 1000) (by rw [List.length_map]; omega), hN _ ⟨as ++ [l], ?_, ?_, by rw [List.length_append, List.length_singleton, hla], fun q hq => ?_⟩⟩⟩
      · have := (L.next (same_new (o := HO.lst []) hl)).snoc (.ref l)
        rw [List.map_append]
        exact this
      · have : R ≠ l := ne_of_none L.at_ hl
        simp only [List.mem_append, List.mem_singleton, not_or]
        exact ⟨nR, this⟩
      · have nRl : R ≠ l := ne_of_none L.at_ hl
        rcases List.mem_append.mp hq with h | h
        · rw [upd_ne (fun e : q = R => nR (e ▸ h))]
          exact same_new hl _ _ (hqa q h)
        · rw [List.mem_singleton.mp h, upd_ne nRl.symm, upd_same]
    · rintro H2 ⟨as, L, nR, hla, hqa⟩
      have s2 : Same H H2 := L.sm
      have nR0 : H R = none := hR
      have w2 : RW H2 R c.n (fun _ => []) := ⟨as, L.at_, nR, hla, fun i p hp => hqa p (List.mem_of_getElem? hp)⟩
      refine ⟨_, rfl, _, rfl, by omega, by omega, ?_⟩
      refine for_w (walk_r0 (n := c.n)) (fun i σ H' => ∃ v3 v5 v6 g, σ = [some (.ref O), some (vi c.n), some (.str (strOf pat)), v3, some (.ref R), v5, v6] ∧ Same H H' ∧ RW H' R c.n g ∧ Inc (Apart c pat) c.n i 0 g)
        ⟨_, _, _, _, rfl, s2, w2, Inc.start sy⟩ (fun _ _ _ _ _ => trivial) ?_ ?_
      · rintro i z σ Ha Hb hi ⟨v3, v5, v6, g, rfl, s3, w3, i3⟩ ⟨rfl, rfl⟩ N hN
        refine ⟨_, rfl, _, _, rfl, rfl, _, rfl, _, _, rfl, ⟨by omega, by omega, by omega, by omega⟩, ?_⟩
        have en : ((c.n : Int) - ((i : Int) + 1)).toNat = c.n - (i + 1) := by omega
        rw [en]
        refine for_range_w (lo := (i : Int) + 1) (n := c.n - (i + 1)) (fun j σ H' => ∃ v3 v6 g, σ = [some (.ref O), some (vi c.n), some (.str (strOf pat)), v3, some (.ref R), some (vi i), v6] ∧ Same H H' ∧ RW H' R c.n g ∧ Inc (Apart c pat) c.n i j g)
          ⟨_, _, _, rfl, s3, w3, i3⟩ ?_ ?_
        · rintro j σ H4 hj ⟨v3, v6, g, rfl, s4, w4, i4⟩ N2 hN2
          have hh : i + 1 + j < c.n := by omega
          have l4 : ∀ x, (g x).length ≤ 1000 := fun x => Nat.le_trans (i4.len x) (by omega)
          have eap := apart_lt (c := c) (pat := pat) (show i < i + 1 + j by omega)
          refine ⟨_, rfl, _, rfl, _, rfl, _, rfl, _, rfl, O, c, pat, i, i + 1 + j, rfl, ok, hp, hO.same s4, by omega, hh, h200, fun q H5 ts s5 hq hLT hCl => ⟨q, pat, ts, rfl, hp.le, hLT, fun bb hbb => ⟨_, rfl, ?_⟩⟩⟩
          have hw := hCl.won ok hp (by omega) hh
          refine iteBn (fun c1 => ?_) fun c1 => ?_
          · have nm : ¬ Melt c pat i (i + 1 + j) := fun m => by
              have := hbb.mpr (hw.mpr m)
              rw [c1] at this
              cases this
            refine row_add (K := K) (lo := i) (hi := i + 1 + j) (s4.trans s5) nR0 (w4.same s5) hi (l4 i) rfl rfl rfl fun H6 s6 w6 => ?_
            refine row_add (K := K) (lo := i + 1 + j) (hi := i) s6 nR0 w6 hh ?_ rfl rfl rfl fun H7 s7 w7 => ?_
            · unfold add1
              rw [if_neg (by omega)]
              exact l4 _
            · exact hN2 _ _ ⟨_, _, _, rfl, s7, w7, i4.yes sy hh (eap.mpr nm)⟩
          · exact hN2 _ _ ⟨_, _, g, rfl, s4.trans s5, w4.same s5, i4.no sy fun q => eap.mp q (hw.mp (hbb.mp c1))⟩
        · rintro σ H4 ⟨v3, v6, g, rfl, s4, w4, i4⟩
          exact hN _ _ ⟨_, _, _, g, rfl, s4, w4, i4.next sy (by omega) (by omega)⟩
      · rintro σ H3 ⟨v3, v5, v6, g, rfl, s3, w3, i3⟩
        exact ⟨_, rfl, k R H3 g s3 w3 (fun x hx y => i3.fin hx) fun x => Nat.le_trans (i3.len x) (by omega)⟩
end
end Mm

set_option maxHeartbeats 4000000
/-! the law: sets, what is what -/
namespace Mm
open PySem PySem.Spec L2 MM
open PyProof.Rows hiding St
section
variable {P : Program} {w : World} {K : PySem.W.Frag} {mg : Str → Option Value} {base : Heap} {CC CT CP : Addr}
abbrev s_law_is_int : Stmt := (top 83)
abbrev N_law_is_int : List Str := ["_law_value"]
theorem sc_law_is_int : FnScope N_law_is_int ["_law_value"] (defScope s_law_is_int) := ⟨rfl, rfl, rfl, by decide +kernel, rfl, by decide +kernel, by decide +kernel⟩
def sp_lisint : Sp := fun vs H Q _ => ∃ i : Int, vs = [.int i] ∧ Q (.bl true) H
theorem g_law_is_int (F : Fn K mg "_law_is_int" s_law_is_int) (B : Blt mg) : G P w K mg base 1 "_law_is_int" ["_law_value"] sp_lisint := by
  refine g_of F sc_law_is_int (fun _ _ _ _ _ _ us hl => match us, hl with | [_], _ => rfl) (fun vs H Q E h => ?_) (fun f cdv A outer s H vs Q E hr h => ?_)
  · obtain ⟨i, rfl, _⟩ := h
    rfl
  · obtain ⟨i, rfl, k⟩ := h
    refine ⟨_, (pss_one (ps_ret (pe_and (pe_callB (call_isiX (K := K) rfl) (by rfl) B.b_isinstance (by decide +kernel) (pa_cons (pv 0) (pa_cons (pe_bltn (v := V.ty "int") (by rfl) B.b_int (by decide +kernel) rfl) pa_nil))) (pe_one (pe_not (pe_callB (call_isiX (K := K) rfl) (by rfl) B.b_isinstance (by decide +kernel) (pa_cons (pv 0) (pa_cons (pe_bltn (v := V.ty "bool") (by rfl) B.b_bool (by decide +kernel) rfl) pa_nil)))))))), ?_⟩
    refine ⟨_, rfl, .int i, .ty "int", _, _, true, rfl, .ty _, .base (.int i), kit_ty (by decide +kernel), ?_⟩
    exact ⟨_, rfl, iteT ⟨_, rfl, .int i, .ty "bool", _, _, false, rfl, .ty _, .base (.int i), kit_ty (by decide +kernel), _, rfl, k⟩⟩
abbrev s_law_is_words : Stmt := (top 84)
abbrev N_law_is_words : List Str := ["_law_value", "_law_one"]
theorem sc_law_is_words : FnScope N_law_is_words ["_law_value"] (defScope s_law_is_words) := ⟨rfl, rfl, rfl, by decide +kernel, rfl, by decide +kernel, by decide +kernel⟩
def sp_liswords : Sp := fun vs H Q _ => ∃ (a : Addr) (ns : List Nat), vs = [.ref a] ∧ H a = some (.lst (vn ns)) ∧ Q (.bl true) H
theorem g_law_is_words (F : Fn K mg "_law_is_words" s_law_is_words) (B : Blt mg) (G_law_is_int : G P w K mg base 1 "_law_is_int" ["_law_value"] sp_lisint) : G P w K mg base 2 "_law_is_words" ["_law_value"] sp_liswords := by
  refine g_of F sc_law_is_words (fun _ _ _ _ _ _ us hl => match us, hl with | [_], _ => rfl) (fun vs H Q E h => ?_) (fun f cdv A outer s H vs Q E hr h => ?_)
  · obtain ⟨a, ns, rfl, _⟩ := h
    rfl
  · obtain ⟨a, ns, rfl, hA, k⟩ := h
    refine ⟨_, (pss_cons (ps_if (pt_not (pt_val (pe_callB (call_isiX (K := K) rfl) (by rfl) B.b_isinstance (by decide +kernel) (pa_cons (pv 0) (pa_cons (pe_bltn (v := V.ty "list") (by rfl) B.b_list (by decide +kernel) rfl) pa_nil))))) (pss_one (ps_ret pe_bl)) pss_nil)
      (pss_cons (ps_for PassesOwn.never rfl (pi_listK (K := K) rfl (pv 0)) (pg_name (i := 1) sc_law_is_words.nd rfl (Or.inl rfl)) (pss_one (ps_if (pt_not (pt_val (pe_g G_law_is_int (hr.mono (by decide)) (by rfl) (pa_cons (pv 1) pa_nil)))) (pss_one (ps_ret pe_bl)) pss_nil)))
      (pss_one (ps_ret pe_bl)))), ?_⟩
    refine ⟨_, rfl, .ref a, .ty "list", _, _, true, rfl, .ty _, .base (.lst hA), kit_ty (by decide +kernel), _, rfl, ?_⟩
    refine ⟨_, rfl, a, rfl, ⟨_, SqL.of hA⟩, for_list_w (K := K) (a := a) (xs := vn ns) (fun i σ H' => ∃ v, H' = H ∧ σ = [some (.ref a), v]) ⟨_, rfl, rfl⟩ (fun i σ H' _ ⟨_, e, _⟩ => by rw [e]; exact SqL.of hA) ?_ ?_⟩
    · rintro i x σ H' hx ⟨v, rfl, rfl⟩ N hN
      obtain ⟨m, hm, rfl⟩ := vn_get hx
      exact ⟨_, rfl, _, rfl, _, rfl, hN _ _ ⟨_, rfl, rfl⟩⟩
    · rintro σ H' ⟨v, rfl, rfl⟩
      exact k
abbrev s_law_is : Stmt := (top 85)
abbrev N_law_is : List Str := ["_law_value", "_law_due"]
theorem sc_law_is : FnScope N_law_is ["_law_value", "_law_due"] (defScope s_law_is) := ⟨rfl, rfl, rfl, by decide +kernel, rfl, by decide +kernel, by decide +kernel⟩
def sp_lis : Sp := fun vs H Q _ => ∃ a b : Bool, vs = [.bl a, .bl b] ∧ Q (.bl (decide (a = b))) H
theorem g_law_is (F : Fn K mg "_law_is" s_law_is) (B : Blt mg) : G P w K mg base 1 "_law_is" ["_law_value", "_law_due"] sp_lis := by
  refine g_of F sc_law_is (fun _ _ _ _ _ _ us hl => match us, hl with | [_, _], _ => rfl) (fun vs H Q E h => ?_) (fun f cdv A outer s H vs Q E hr h => ?_)
  · obtain ⟨a, b, rfl, _⟩ := h
    rfl
  · obtain ⟨a, b, rfl, k⟩ := h
    refine ⟨_, (pss_cons (ps_if (pt_val (pv 1)) (pss_one (ps_ret (pe_cmpR op_isBl (pv 0) pe_bl (nomark _)))) pss_nil)
      (pss_one (ps_ret (pe_cmpR op_isBl (pv 0) pe_bl (nomark _))))), ?_⟩
    refine ⟨_, rfl, _, rfl, iteB (fun c => ?_) fun c => ?_⟩
    · subst c
      exact ⟨_, rfl, _, _, rfl, rfl, k⟩
    · subst c
      exact ⟨_, rfl, _, _, rfl, rfl, k⟩
abbrev s_law_safe : Stmt := (top 88)
abbrev N_law_safe : List Str := ["_law_apart_here", "_law_words_here", "_law_low", "_law_high"]
theorem sc_law_safe : FnScope N_law_safe ["_law_apart_here", "_law_words_here"] (defScope s_law_safe) := ⟨rfl, rfl, rfl, by decide +kernel, rfl, by decide +kernel, by decide +kernel⟩
def sp_lsafe : Sp := fun vs H Q _ => ∃ (R a : Addr) (n : Nat) (g : Nat → List Nat) (s : List Nat), vs = [.ref R, .ref a] ∧ RW H R n g ∧ H a = some (.lst (vn s)) ∧ (∀ x ∈ s, x < n) ∧ ∀ b : Bool, (b = true ↔ ∀ x ∈ s, ∀ y ∈ s, x < y → y ∈ g x) → Q (.bl b) H
theorem g_law_safe (F : Fn K mg "_law_safe" s_law_safe) (B : Blt mg) : G P w K mg base 1 "_law_safe" ["_law_apart_here", "_law_words_here"] sp_lsafe := by
  refine g_of F sc_law_safe (fun _ _ _ _ _ _ us hl => match us, hl with | [_, _], _ => rfl) (fun vs H Q E h => ?_) (fun f cdv A outer s H vs Q E hr h => ?_)
  · obtain ⟨R, a, n, g, s, rfl, _⟩ := h
    rfl
  · obtain ⟨R, a, n, g, ws, rfl, ⟨as, h1, h2, h3, h4⟩, hA, hlt, k⟩ := h
    refine ⟨_, (pss_cons (ps_for PassesOwn.never rfl (pi_listK (K := K) rfl (pv 1)) (pg_name (i := 2) sc_law_safe.nd rfl (Or.inl rfl)) (pss_one (ps_for PassesOwn.never rfl (pi_listK (K := K) rfl (pv 1)) (pg_name (i := 3) sc_law_safe.nd rfl (Or.inl rfl)) (pss_one (ps_if (PW.pt (pw_and (pt_cmpR op_lt (pv 2) (pv 3) (nomark _)) (pw_and1 (pt_cmpR (op_notIn_seqK (K := K) rfl) (pv 3) (pe_ix (ix_listK (K := K) rfl) (pv 0) (pv 2) (fun _ _ => rfl)) rfl)))) (pss_one (ps_ret pe_bl)) pss_nil)))))
      (pss_one (ps_ret pe_bl))), ?_⟩
    refine ⟨_, rfl, a, rfl, ⟨_, SqL.of hA⟩, for_list_w (K := K) (a := a) (xs := vn ws) (fun i σ H' => ∃ v2 v3, H' = H ∧ σ = [some (.ref R), some (.ref a), v2, v3] ∧ ∀ x ∈ ws.take i, ∀ y ∈ ws, x < y → y ∈ g x) ⟨_, _, rfl, rfl, fun x hx => nomatch hx⟩ (fun i σ H' _ ⟨_, _, e, _⟩ => by rw [e]; exact SqL.of hA) ?_ ?_⟩
    · rintro i x σ H' hx ⟨v2, v3, rfl, rfl, hok⟩ N hN
      obtain ⟨lo, hlo, rfl⟩ := vn_get hx
      refine ⟨_, rfl, a, rfl, ⟨_, SqL.of hA⟩, for_list_w (K := K) (a := a) (xs := vn ws) (fun j σ H'' => ∃ v3, H'' = H' ∧ σ = [some (.ref R), some (.ref a), some (vi lo), v3] ∧ ∀ y ∈ ws.take j, lo < y → y ∈ g lo) ⟨_, rfl, rfl, fun x hx => nomatch hx⟩ (fun i σ H' _ ⟨_, e, _⟩ => by rw [e]; exact SqL.of hA) ?_ ?_⟩
      · rintro j y σ H2 hy ⟨v3, rfl, rfl, hok2⟩ N2 hN2
        obtain ⟨hi, hhi, rfl⟩ := vn_get hy
        have hln := hlt lo (List.mem_of_getElem? hlo)
        obtain ⟨p, hp⟩ : ∃ p, as[lo]? = some p := ⟨_, List.getElem?_eq_getElem (by omega)⟩
        have hpl := h4 lo p hp
        have next : (lo < hi → hi ∈ g lo) → ∀ y ∈ ws.take (j + 1), lo < y → y ∈ g lo := by
          intro h y hy
          rw [take_get hhi] at hy
          rcases List.mem_append.mp hy with e | e
          · exact hok2 y e
          · rw [List.mem_singleton.mp e]; exact h
        refine ⟨_, rfl, _, rfl, _, _, rfl, rfl, _, rfl, iteD (fun c1 => ?_) fun c1 => iteF (hN2 _ _ ⟨_, rfl, rfl, next fun z => absurd (by omega) c1⟩)⟩
        refine ⟨_, rfl, _, rfl, _, rfl, R, _, (lo : Int), .ref p, rfl, rfl, SqL.of h1, atI_nat (by rw [List.getElem?_map, hp]; rfl), p, _, rfl, .inl (SqL.of hpl), rfl, flat_vn _, _, rfl, ?_⟩
        refine iteB (fun c2 => ?_) fun c2 => ?_
        · have c2' : (!decide (hi ∈ g lo)) = true := by rw [← inV_vn]; exact c2
          refine k false ⟨(fun z => nomatch z), fun z => ?_⟩
          have := z lo (List.mem_of_getElem? hlo) hi (List.mem_of_getElem? hhi) (by omega)
          rw [decide_eq_true this] at c2'
          cases c2'
        · have c2' : (!decide (hi ∈ g lo)) = false := by rw [← inV_vn]; exact c2
          rw [Bool.not_eq_false'] at c2'
          exact hN2 _ _ ⟨_, rfl, rfl, next fun _ => of_decide_eq_true c2'⟩
      · rintro σ H2 ⟨v3, rfl, rfl, hok2⟩
        rw [List.length_map, List.take_length] at hok2
        refine hN _ _ ⟨_, _, rfl, rfl, fun x hx => ?_⟩
        rw [take_get hlo] at hx
        rcases List.mem_append.mp hx with e | e
        · exact hok x e
        · rw [List.mem_singleton.mp e]; exact hok2
    · rintro σ H' ⟨v2, v3, rfl, rfl, hok⟩
      rw [List.length_map, List.take_length] at hok
      exact k true ⟨fun _ => hok, fun _ => rfl⟩
abbrev s_law_subsets : Stmt := (top 82)
abbrev N_law_subsets : List Str := ["_law_n", "_law_found", "_law_word", "_law_words_here"]
theorem sc_law_subsets : FnScope N_law_subsets ["_law_n"] (defScope s_law_subsets) := ⟨rfl, rfl, rfl, by decide +kernel, rfl, by decide +kernel, by decide +kernel⟩
def sp_lsub : Sp := fun vs H Q _ => ∃ n : Nat, vs = [vi n] ∧ n ≤ 6 ∧ ∀ R H', Same H H' → H R = none → Lists H' R (subsM n) → Q (.ref R) H'
theorem g_law_subsets (F : Fn K mg "_law_subsets" s_law_subsets) (B : Blt mg) : G P w K mg base 1 "_law_subsets" ["_law_n"] sp_lsub := by
  refine g_of F sc_law_subsets (fun _ _ _ _ _ _ us hl => match us, hl with | [_], _ => rfl) (fun vs H Q E h => ?_) (fun f cdv A outer s H vs Q E hr h => ?_)
  · obtain ⟨n, rfl, _⟩ := h
    rfl
  · obtain ⟨n, rfl, hn6, k⟩ := h
    refine ⟨_, (pss_cons (ps_set (i := 1) sc_law_subsets.nd rfl (Or.inl rfl) (pe_lst (pa_cons (pe_lst pa_nil) pa_nil)))
      (pss_cons (ps_for PassesOwn.never rfl (pi_range1 rfl B.b_range (pa_cons (pv 0) pa_nil)) (pg_name (i := 2) sc_law_subsets.nd rfl (Or.inr rfl)) (pss_one (ps_set (i := 1) sc_law_subsets.nd rfl (Or.inl rfl) (pe_op op_cat (pv 1) (pe_lc (own := [("_law_words_here", 3)]) rfl sc_law_subsets.nd (pi_listK (K := K) rfl (pv 1)) (blkOk_by (N := N_law_subsets) (sc := defScope s_law_subsets) (by decide +kernel)) (fun _ _ _ _ _ => (pg_name (i := 3) sc_law_subsets.nd rfl (Or.inl rfl))) (fun _ _ _ _ _ => pts_nil) (fun _ _ _ _ _ => (pe_op op_cat (pv 3) (pe_lst (pa_cons (pv 2) pa_nil)))))))))
      (pss_one (ps_ret (pv 1))))), ?_⟩
    refine ⟨Nat.zero_le _, fun e0 he0 => ⟨by show 1 ≤ sizeLine; exact le_of_small (m := 1) (Nat.le_refl _), fun F0 hF0 => ?_⟩⟩
    have sE := same_new (o := HO.lst []) he0
    have sF := same_new (o := HO.lst [V.ref e0]) hF0
    refine ⟨_, rfl, _, rfl, by omega, by omega, for_w walk_r0 (fun i σ H' => ∃ (R : Addr) (v2 v3 : Option V), σ = [some (vi n), some (.ref R), v2, v3] ∧ Same H H' ∧ H R = none ∧ Lists H' R (subsM i)) ⟨F0, _, _, rfl, sE.trans sF, sE.free hF0, [e0], upd_same, .cons (sF _ _ upd_same) .nil⟩ (fun _ _ _ _ _ => trivial) ?_ ?_⟩
    · rintro i x σ Ha Hb hi ⟨R, v2, v3, rfl, sm, hR0, as, hR, hp⟩ ⟨rfl, rfl⟩ N hN
      have hi6 : i < 6 := by omega
      have el := Paired.length hp
      have e2 : (subsM i).length ≤ 64 := by rw [subsM_len]; exact Nat.pow_le_pow_right (by decide : 0 < 2) (Nat.le_of_lt hi6)
      refine ⟨_, rfl, _, rfl, R, rfl, ⟨_, SqL.of hR⟩, fun D hD => blk_w walk_list (fun j H' => ∃ cs : List Addr, LB Hb D H' (cs.map V.ref) ∧ D ∉ cs ∧ Paired (fun p r => H' p = some (.lst (vn r))) cs (((subsM i).map fun s => s ++ [i]).take j)) ⟨[], LB.start hD, List.not_mem_nil, .nil⟩ (fun j H' _ ⟨_, L, _⟩ => SqL.of (L.sm _ _ hR)) ?_ ?_⟩
      · rintro j y Hc Hd hj ⟨cs, L, nD, hc⟩ ⟨rfl, hy⟩ N2 hN2
        obtain ⟨p, hp1, rfl⟩ := refs_get hy
        obtain ⟨r, hr1, hr2⟩ := L2.paired_get hp hp1
        have hj := len_get hr1
        have hrlen : r.length ≤ 6 := by
          have hm := mem_subsM.mp (List.mem_of_getElem? hr1)
          exact Nat.le_trans (nodup_lt_length i r (hm.1.imp fun q => Nat.ne_of_lt q) hm.2) (by omega)
        have hz : ((subsM i).map fun s => s ++ [i])[j]? = some (r ++ [i]) := by rw [List.getElem?_map, hr1]; rfl
        refine ⟨rfl, _, rfl, _, rfl, by show 1 ≤ sizeLine; exact le_of_small (m := 1) (Nat.le_refl _), fun l1 hl1 => ?_⟩
        have s1 := same_new (o := HO.lst [vi i]) hl1
        refine ⟨p, l1, vn r, [vi i], rfl, rfl, s1 _ _ (L.sm _ _ hr2), upd_same, le_of_small (m := 10) (by rw [List.length_map, List.length_singleton]; omega), fun l2 hl2 => ?_⟩
        have s2 := s1.trans (same_new (o := HO.lst (vn r ++ [vi i])) hl2)
        have L2' := L.next s2
        refine ⟨_, L2'.at_, small_of (m := 64) ?_, hN2 _ ⟨cs ++ [l2], ?_, ?_, ?_⟩⟩
        · rw [List.length_map, Paired.length hc, List.length_take, List.length_map]
          omega
        · have := L2'.snoc (.ref l2)
          rw [List.map_append]
          exact this
        · have : D ≠ l2 := ne_of_none (s1 _ _ L.at_) hl2
          simp only [List.mem_append, List.mem_singleton, not_or]
          exact ⟨nD, this⟩
        · rw [take_get hz]
          refine paired_app (paired_mapm hc fun q z hpm _ e => ?_) (.cons ?_ .nil)
          · rw [upd_ne (fun e : q = D => nD (e ▸ hpm))]
            exact s2 _ _ e
          · rw [upd_ne (ne_of_none (s1 _ _ L.at_) hl2).symm, upd_same, vn_app]
            rfl
      · rintro Hc ⟨cs, L, nD, hc⟩
        rw [take_all (by rw [List.length_map, List.length_map, el])] at hc
        refine ⟨R, D, as.map V.ref, cs.map V.ref, rfl, rfl, L.sm _ _ hR, L.at_, le_of_small (m := 128) ?_, fun l hl => hN _ _ ⟨l, _, _, rfl, (sm.trans L.sm).trans (same_new hl), (sm.trans L.sm).free hl, as ++ cs, by rw [upd_same, List.map_append], paired_app (paired_map hp fun _ _ e => (L.sm.trans (same_new hl)) _ _ e) (paired_map hc fun _ _ e => same_new hl _ _ e)⟩⟩
        rw [List.length_map, List.length_map, Paired.length hc, el, List.length_map]
        omega
    · rintro σ H' ⟨R, v2, v3, rfl, sm, hR0, hL⟩
      exact ⟨_, rfl, k R H' sm hR0 hL⟩
end
end Mm

set_option maxHeartbeats 4000000
/-! the law: tables, the cast -/
namespace Mm
open PySem PySem.Spec L2 MM
open PyProof.Rows hiding St
section
variable {P : Program} {w : World} {K : PySem.W.Frag} {mg : Str → Option Value} {base : Heap} {CC CT CP : Addr}
abbrev s_law_same : Stmt := (top 86)
abbrev N_law_same : List Str := ["_law_table", "_law_rows", "_law_told", "_law_k"]
theorem sc_law_same : FnScope N_law_same ["_law_table", "_law_rows"] (defScope s_law_same) := ⟨rfl, rfl, rfl, by decide +kernel, rfl, by decide +kernel, by decide +kernel⟩
def sp_lsame (CT : Addr) : Sp := fun vs H Q _ => ∃ (t ro : Addr) (ms : List Nat) (rows : List (List Nat)), vs = [.ref t, .ref ro] ∧ TabAt CT H t ms ∧ Lists H ro rows ∧ ms.length ≤ 6 ∧ (∀ m ∈ ms, m < 2 ^ 6) ∧ rows = ms.map bitsM ∧ ∀ H', Same H H' → Q (.bl true) H'
theorem g_law_same (F : Fn K mg "_law_same" s_law_same) (B : Blt mg) (Tc : TabC K mg CT) (Is : IsiC K CT) (G_law_is_int : G P w K mg base 1 "_law_is_int" ["_law_value"] sp_lisint) (G_law_is_words : G P w K mg base 2 "_law_is_words" ["_law_value"] sp_liswords) (G_Table_rows : GM P w K mg base 2 CT "rows" ["self"] (sp_Table_rows CT)) : G P w K mg base 3 "_law_same" ["_law_table", "_law_rows"] (sp_lsame CT) := by
  refine g_of F sc_law_same (fun _ _ _ _ _ _ us hl => match us, hl with | [_, _], _ => rfl) (fun vs H Q E h => ?_) (fun f cdv A outer s H vs Q E hr h => ?_)
  · obtain ⟨t, ro, ms, rows, rfl, _⟩ := h
    rfl
  · obtain ⟨t, ro, ms, rows, rfl, hT, ⟨bs, hro, hpb⟩, h6, h64, rfl, k⟩ := h
    obtain ⟨dx, m, cc, ht, hm⟩ := id hT
    have elb : bs.length = ms.length := by rw [Paired.length hpb, List.length_map]
    refine ⟨_, (pss_cons (ps_if (PW.pt (pw_or (pt_not (pt_val (pe_callB (call_isiX (K := K) rfl) (by rfl) B.b_isinstance (by decide +kernel) (pa_cons (pv 0) (pa_cons (pe_glob (v := V.ref CT) (by rfl) Tc.mgC rfl) pa_nil))))) (pw_or (pt_not (pt_val (pe_g G_law_is_int (hr.mono (by decide)) (by rfl) (pa_cons (pe_fldK (K := K) rfl (pv 0) rfl) pa_nil)))) (pw_or1 (pt_cmpR op_ne (pe_fldK (K := K) rfl (pv 0) rfl) (pe_callB (call_len_seqK (K := K) rfl) (by rfl) B.b_len PySem.boot_len (pa_cons (pv 1) pa_nil)) (nomark _)))))) (pss_one (ps_ret pe_bl)) pss_nil)
      (pss_cons (ps_set (i := 2) sc_law_same.nd rfl (Or.inl rfl) (pe_meth0G Tc.cl G_Table_rows (hr.mono (by decide)) (pv 0)))
      (pss_cons (ps_if (PW.pt (pw_or (pt_not (pt_val (pe_callB (call_isiX (K := K) rfl) (by rfl) B.b_isinstance (by decide +kernel) (pa_cons (pv 2) (pa_cons (pe_bltn (v := V.ty "list") (by rfl) B.b_list (by decide +kernel) rfl) pa_nil))))) (pw_or1 (pt_cmpR op_ne (pe_callB (call_len_seqK (K := K) rfl) (by rfl) B.b_len PySem.boot_len (pa_cons (pv 2) pa_nil)) (pe_callB (call_len_seqK (K := K) rfl) (by rfl) B.b_len PySem.boot_len (pa_cons (pv 1) pa_nil)) (nomark _))))) (pss_one (ps_ret pe_bl)) pss_nil)
      (pss_cons (ps_for PassesOwn.never rfl (pi_range1 rfl B.b_range (pa_cons (pe_callB (call_len_seqK (K := K) rfl) (by rfl) B.b_len PySem.boot_len (pa_cons (pv 1) pa_nil)) pa_nil)) (pg_name (i := 3) sc_law_same.nd rfl (Or.inl rfl)) (pss_one (ps_if (PW.pt (pw_or (pt_not (pt_val (pe_g G_law_is_words (hr.mono (by decide)) (by rfl) (pa_cons (pe_ix (ix_listK (K := K) rfl) (pv 2) (pv 3) (fun _ _ => rfl)) pa_nil)))) (pw_or1 (pt_cmpR (op_neDK (K := K) rfl hr.units) (pe_ix (ix_listK (K := K) rfl) (pv 2) (pv 3) (fun _ _ => rfl)) (pe_ix (ix_listK (K := K) rfl) (pv 1) (pv 3) (fun _ _ => rfl)) (nomark _))))) (pss_one (ps_ret pe_bl)) pss_nil)))
      (pss_one (ps_ret pe_bl)))))), ?_⟩
    refine ⟨_, rfl, .ref t, .ref CT, .ref CT, _, true, rfl, .own _, .base (.ins ht Tc.cl Is.ha Is.hn Is.htk Is.hm), ?_, _, rfl, ?_⟩
    · show (if ((Value.ref CT) == (Value.ref CT)) = true then some true else _) = some true
      rw [if_pos (by simp)]
    refine ⟨_, rfl, t, CT, dx, _, _, rfl, ht, Tc.cl, Tc.nSize, rfl, _, rfl, _, rfl, ?_⟩
    refine ⟨_, rfl, t, CT, dx, _, _, rfl, ht, Tc.cl, Tc.nSize, rfl, _, rfl, ro, _, rfl, .inl (SqL.of hro), rfl, _, rfl, iteIn (fun c => absurd ?_ c) fun _ => ?_⟩
    · rw [List.length_map, elb]
    refine ⟨_, rfl, t, dx, _, rfl, ht, rfl, t, ms, rfl, hT, by omega, h64, fun l as H1 s1 hl0 hl hp => ?_⟩
    have ela := Paired.length hp
    refine ⟨_, rfl, .ref l, .ty "list", _, _, true, rfl, .ty _, .base (.lst hl), kit_ty (by decide +kernel), _, rfl, ?_⟩
    refine ⟨_, rfl, l, _, rfl, .inl (SqL.of hl), _, rfl, ro, _, rfl, .inl (SqL.of (s1 _ _ hro)), rfl, _, rfl, iteIn (fun c => absurd ?_ c) fun _ => ?_⟩
    · rw [List.length_map, List.length_map, elb, ela]
    refine ⟨_, rfl, ro, _, rfl, .inl (SqL.of (s1 _ _ hro)), _, rfl, by rw [List.length_map]; omega, by rw [List.length_map]; omega, for_w walk_r0 (fun i σ H' => ∃ v3, H' = H1 ∧ σ = [some (.ref t), some (.ref ro), some (.ref l), v3]) ⟨_, rfl, rfl⟩ (fun _ _ _ _ _ => trivial) ?_ ?_⟩
    · rintro i x σ Ha Hb hi ⟨v3, rfl, rfl⟩ ⟨rfl, rfl⟩ N hN
      rw [List.length_map] at hi
      have hi' : i < ms.length := by omega
      obtain ⟨p, hp1⟩ : ∃ p, as[i]? = some p := ⟨_, List.getElem?_eq_getElem (by omega)⟩
      obtain ⟨z, hz1, hz2⟩ := L2.paired_get hp hp1
      obtain ⟨q, hq1⟩ : ∃ q, bs[i]? = some q := ⟨_, List.getElem?_eq_getElem (by omega)⟩
      obtain ⟨r, hr1, hr2⟩ := L2.paired_get hpb hq1
      rw [List.getElem?_map, hz1] at hr1
      obtain rfl : bitsM z = r := Option.some.inj hr1
      refine ⟨_, rfl, _, rfl, l, _, (i : Int), .ref p, rfl, rfl, SqL.of hl, atI_nat (by rw [List.getElem?_map, hp1]; rfl), p, bitsM z, rfl, hz2, _, rfl, ?_⟩
      refine ⟨_, rfl, _, rfl, l, _, (i : Int), .ref p, rfl, rfl, SqL.of hl, atI_nat (by rw [List.getElem?_map, hp1]; rfl), _, rfl, _, rfl, ro, _, (i : Int), .ref q, rfl, rfl, SqL.of (s1 _ _ hro), atI_nat (by rw [List.getElem?_map, hq1]; rfl), rNe_i (SqL.of hz2) (SqL.of (s1 _ _ hr2)) ⟨_, rfl, iteDn (fun c => absurd rfl c) fun _ => hN _ _ ⟨_, rfl, rfl⟩⟩⟩
    · rintro σ H' ⟨v3, rfl, rfl⟩
      exact k _ s1
end
end Mm

set_option maxHeartbeats 4000000
/-! the law: the cast is as it was told -/
namespace Mm
open PySem PySem.Spec L2 MM
open PyProof.Rows hiding St
theorem row_eq {c : CM} {l : Nat} {ms : List Nat} (h : RowIs c l ms) : (List.range c.n).map (c.R l) = ms.map bitsM := by
  refine ext_to (n := c.n) (by rw [List.length_map, List.length_range]) (by rw [List.length_map]; exact h.1) fun j hj => ?_
  obtain ⟨m, h1, _, h3⟩ := h.2 j hj
  rw [List.getElem?_map, List.getElem?_range hj, List.getElem?_map, h1]
  show some (c.R l j) = some (bitsM m)
  rw [h3]
theorem row_64 {c : CM} {l : Nat} {ms : List Nat} (h : RowIs c l ms) : ∀ m ∈ ms, m < 2 ^ 6 := by
  intro m hm
  obtain ⟨i, hi, e'⟩ := List.getElem_of_mem hm
  obtain ⟨m', h1, h2, h3⟩ := h.2 i (by rw [← h.1]; exact hi)
  rw [List.getElem?_eq_getElem hi, e'] at h1
  cases h1
  exact h2
theorem ros_L {c : CM} (ok : c.Ok) : rosOf c.L = c.L := asc_ext (ros_asc _) ok.asc fun x => by
  rw [mem_ros]
  exact ⟨fun z => z.2, fun z => ⟨ok.az x z, z⟩⟩
section
variable {P : Program} {w : World} {K : PySem.W.Frag} {mg : Str → Option Value} {base : Heap} {CC CT CP : Addr}
abbrev s_law_cast_is : Stmt := (top 87)
abbrev N_law_cast_is : List Str := ["_law_cast_here", "_law_own_here", "_law_n", "_law_told", "_law_letter", "_law_due"]
theorem sc_law_cast_is : FnScope N_law_cast_is ["_law_cast_here", "_law_own_here", "_law_n"] (defScope s_law_cast_is) := ⟨rfl, rfl, rfl, by decide +kernel, rfl, by decide +kernel, by decide +kernel⟩
def sp_lcastis (CC CT : Addr) : Sp := fun vs H Q _ => ∃ (a O : Addr) (c : CM), vs = [.ref a, .ref O, vi c.n] ∧ CastIs CC CT H a c ∧ OwnC H O c ∧ c.Ok ∧ ∀ H', Same H H' → Q (.bl true) H'
theorem g_law_cast_is (F : Fn K mg "_law_cast_is" s_law_cast_is) (B : Blt mg) (Cc : CastC K mg CC) (G_Cast_letters : GM P w K mg base 1 CC "letters" ["self"] (sp_letters CC CT)) (G_Cast_contains : GM P w K mg base 1 CC "__contains__" ["self", "letter"] (sp_contains CC CT)) (G_Cast_getitem : GM P w K mg base 1 CC "__getitem__" ["self", "letter"] (sp_getitem CC CT)) (G_Cast_len : GM P w K mg base 1 CC "__len__" ["self"] (sp_clen CC CT))
    (G_law_is : G P w K mg base 1 "_law_is" ["_law_value", "_law_due"] sp_lis) (G_law_same : G P w K mg base 3 "_law_same" ["_law_table", "_law_rows"] (sp_lsame CT)) : G P w K mg base 4 "_law_cast_is" ["_law_cast_here", "_law_own_here", "_law_n"] (sp_lcastis CC CT) := by
  refine g_of F sc_law_cast_is (fun _ _ _ _ _ _ us hl => match us, hl with | [_, _, _], _ => rfl) (fun vs H Q E h => ?_) (fun f cdv A outer s H vs Q E hr h => ?_)
  · obtain ⟨a, O, c, rfl, _⟩ := h
    rfl
  · obtain ⟨a, O, c, rfl, hC, hOC, ok, k⟩ := h
    obtain ⟨E', hO, hEL, hER⟩ := id hOC
    obtain ⟨fo, E2, hCA, hM⟩ := id hC
    obtain ⟨dx, ro, ha, hro⟩ := hCA.ins
    have hu := hu_of hr
    have n6 := ok.n6
    have few := ok.few
    have nd : (E'.map (·.1)).Nodup := by rw [hEL]; exact ok.asc.imp fun q => Nat.ne_of_lt q
    have vhas : ∀ l, (valV (kvsC E') (.inr (chr l))).isSome = decide (l ∈ c.L) := fun l => by rw [val_has, hEL]
    have dg : ∀ (H' : Hp) (l : Nat), Same H H' → DGet H' O (.str (chr l)) (valV (kvsC E') (.inr (chr l))) := fun H' l s => .inl ⟨kvsC E', .inr (chr l), .inl (s _ _ hO), rfl, rfl⟩
    refine ⟨_, (pss_cons (ps_set (i := 3) sc_law_cast_is.nd rfl (Or.inl rfl) (pe_meth0G Cc.cl G_Cast_letters (hr.mono (by decide)) (pv 0)))
      (pss_cons (ps_setLc (i := 5) (own := [("_law_letter", 4)]) rfl sc_law_cast_is.nd rfl rfl (sw_true rfl rfl rfl (by decide +kernel)) (pi_str pe_str) (blkOk_by (N := N_law_cast_is) (sc := defScope s_law_cast_is) (by decide +kernel)) (fun _ _ _ _ _ => (pg_name (i := 4) sc_law_cast_is.nd rfl (Or.inl rfl))) (fun _ _ _ _ _ => pts_one (pt_cmp (pc_din hu (pv 4) (pv 1)))) (fun _ _ _ _ _ => (pv 4)))
      (pss_cons (ps_if (PW.pt (pw_or (pt_not (pt_val (pe_callB (call_isiX (K := K) rfl) (by rfl) B.b_isinstance (by decide +kernel) (pa_cons (pv 3) (pa_cons (pe_bltn (v := V.ty "list") (by rfl) B.b_list (by decide +kernel) rfl) pa_nil))))) (pw_or (pt_cmpR (op_neDK (K := K) rfl hr.units) (pv 3) (pv 5) (nomark _)) (pw_or (pt_cmpR op_ne (pe_callB (call_len_own G_Cast_len (hr.mono (by decide))) (by rfl) B.b_len PySem.boot_len (pa_cons (pv 0) pa_nil)) (pe_callB (call_len_seqK (K := K) rfl) (by rfl) B.b_len PySem.boot_len (pa_cons (pv 5) pa_nil)) (nomark _)) (pw_or1 (pt_cmpR op_ne (pe_fldK (K := K) rfl (pv 0) rfl) (pv 2) (nomark _))))))) (pss_one (ps_ret pe_bl)) pss_nil)
      (pss_cons (ps_expr (pe_bm PySem.F.plainAttrs_list PySem.F.slot_list_append PySem.F.type_list_append mt_append (pv 3) (pa_cons pe_str pa_nil)))
      (pss_cons (ps_for PassesOwn.never rfl (pi_str pe_str) (pg_name (i := 4) sc_law_cast_is.nd rfl (Or.inl rfl)) (pss_cons (ps_if (pt_not (pt_val (pe_g G_law_is (hr.mono (by decide)) (by rfl) (pa_cons (pe_cmpR (op_in_own G_Cast_contains (hr.mono (by decide))) (pv 4) (pv 0) rfl) (pa_cons (pe_cmp (pc_din hu (pv 4) (pv 1))) pa_nil))))) (pss_one (ps_ret pe_bl)) pss_nil)
      (pss_one (ps_if (PW.pt (pw_and (pt_cmp (pc_din hu (pv 4) (pv 1))) (pw_and1 (pt_not (pt_val (pe_g G_law_same (hr.mono (by decide)) (by rfl) (pa_cons (pe_own_sub G_Cast_getitem (hr.mono (by decide)) (pv 0) (pv 4)) (pa_cons (pe_dget hu (pv 1) (pv 4) (fun _ _ => rfl)) pa_nil)))))))) (pss_one (ps_ret pe_bl)) pss_nil))))
      (pss_one (ps_ret pe_bl))))))), ?_⟩
    refine ⟨_, rfl, a, dx, _, rfl, ha, rfl, a, c, rfl, hC, fun l H1 s1 hl0 hl => ?_⟩
    refine ⟨_, rfl, fun D hD => blk_w walk_str (fun i H' => LB H1 D H' (((List.range' 97 i).filter fun l => decide (l ∈ c.L)).map vc)) (LB.start hD) (fun _ _ _ _ => trivial) ?_ ?_⟩
    · rintro i y Ha Hb hi L ⟨rfl, ch, hc, rfl⟩ N hN
      obtain ⟨h26, rfl⟩ := lets_at hc
      refine ⟨rfl, _, rfl, _, rfl, O, _, rfl, dg _ _ (s1.trans L.sm), _, rfl, ?_⟩
      rw [vhas]
      refine iteB (fun c1 => ?_) (fun c1 => ?_)
      · refine ⟨_, rfl, _, L.at_, small_of (m := 26) ?_, hN _ ?_⟩
        · rw [List.length_map]
          have := List.length_filter_le (fun l => decide (l ∈ c.L)) (List.range' 97 i)
          rw [List.length_range'] at this
          omega
        · rw [ros_step, c1, List.map_append]
          exact L.snoc _
      · refine hN _ ?_
        rw [ros_step, c1]
        simpa using L
    rintro H2 L
    rw [lets_size] at L
    have eL : ((List.range' 97 26).filter fun l => decide (l ∈ c.L)) = c.L := ros_L ok
    rw [eL] at L
    have s2 := s1.trans L.sm
    have hl2 := L.sm _ _ hl
    have h122 : ∀ x ∈ c.L, x ≤ 122 := fun x hx => (ok.az x hx).2
    refine ⟨_, rfl, .ref l, .ty "list", _, _, true, rfl, .ty _, .base (.lst hl2), kit_ty (by decide +kernel), _, rfl, ?_⟩
    refine ⟨_, rfl, _, rfl, rNe_c (SqL.of hl2) (SqL.of L.at_) h122 h122 ⟨_, rfl, iteDn (fun z => absurd rfl z) fun _ => ?_⟩⟩
    refine ⟨_, rfl, a, dx, _, rfl, s2 _ _ ha, a, c, rfl, hC.same s2, c.L.length, rfl, by omega, ?_⟩
    refine ⟨_, rfl, D, _, rfl, .inl (SqL.of L.at_), rfl, _, rfl, iteIn (fun z => absurd (by rw [List.length_map]) z) fun _ => ?_⟩
    refine ⟨_, rfl, a, CC, dx, _, _, rfl, s2 _ _ ha, Cc.cl, Cc.nSize, rfl, _, rfl, rfl, _, rfl, iteIn (fun z => absurd rfl z) fun _ => ?_⟩
    refine ⟨_, rfl, tyL hl2, l, _, _, rfl, rfl, hl2, small_of (m := 8) (by rw [List.length_map]; exact few), ?_⟩
    refine ⟨_, rfl, for_w walk_str (fun i σ H' => ∃ v4, σ = [some (.ref a), some (.ref O), some (vi c.n), some (.ref l), v4, some (.ref D)] ∧ Same H H') ⟨_, rfl, same_upd s2 hl0⟩ (fun _ _ _ _ _ => trivial) ?_ ?_⟩
    · rintro i x σ Ha Hb hi ⟨v4, rfl, sm⟩ ⟨rfl, ch, hc, rfl⟩ N hN
      obtain ⟨h26, rfl⟩ := lets_at hc
      refine ⟨_, rfl, _, rfl, a, dx, _, rfl, sm _ _ ha, a, c, 97 + i, rfl, hC.same sm, _, rfl, _, rfl, _, rfl, O, _, rfl, dg _ _ sm, ?_⟩
      rw [vhas]
      refine ⟨_, _, rfl, _, rfl, ?_⟩
      have e1 : decide (id (decide (97 + i ∈ c.L)) = decide (97 + i ∈ c.L)) = true := decide_eq_true rfl
      rw [e1]
      refine ⟨_, rfl, _, rfl, O, _, rfl, dg _ _ sm, _, rfl, ?_⟩
      rw [vhas]
      refine iteB (fun c1 => ?_) fun c1 => iteF (hN _ _ ⟨_, rfl, sm⟩)
      have hlL := of_decide_eq_true c1
      refine ⟨_, rfl, _, rfl, a, dx, _, rfl, sm _ _ ha, a, c, 97 + i, rfl, hC.same sm, hlL, fun t ⟨ms, hT, hR⟩ => ?_⟩
      obtain ⟨e, he, ee⟩ := List.mem_map.mp (show 97 + i ∈ E'.map (·.1) by rw [hEL]; exact hlL)
      have hv := val_at nd he
      have hrow := (hER e he).same sm
      rw [ee] at hv hrow
      refine ⟨_, rfl, _, rfl, O, .ref e.2.1, rfl, by rw [← hv]; exact dg _ _ sm, t, e.2.1, ms, _, rfl, hT, hrow, by rw [hR.1]; exact n6, row_64 hR, row_eq hR, fun H3 s3 => ⟨_, rfl, ?_⟩⟩
      exact hN _ _ ⟨_, rfl, sm.trans s3⟩
    · rintro σ H' ⟨v4, rfl, sm⟩
      exact k H' sm
end
end Mm

set_option maxHeartbeats 4000000
/-! the law -/
namespace Mm
open PySem PySem.Spec L2 MM
open PyProof.Rows hiding St
/-- the law's own friends as masks -/
def frG (n : Nat) (g : Nat → List Nat) (x : Nat) : Nat := if x < n then maskOf (g x) else 0
theorem frG_ap {c : CM} {pat : List Nat} {g : Nat → List Nat} (h : ApG c pat g) : ApFr c pat (frG c.n g) := by
  intro x y
  unfold frG
  by_cases hx : x < c.n
  · rw [if_pos hx, maskOf_bit, decide_eq_true_iff, h x hx]
    exact ⟨fun z => ⟨hx, z⟩, fun z => z.2⟩
  · rw [if_neg hx, Nat.zero_testBit]
    exact ⟨(fun z => nomatch z), fun z => absurd z.1 hx⟩
theorem ap_uniq {c : CM} {pat : List Nat} {f g : Nat → Nat} (h : ApFr c pat f) (h' : ApFr c pat g) : f = g := by
  funext x
  apply Nat.eq_of_testBit_eq
  intro y
  rw [Bool.eq_iff_iff]
  exact (h x y).trans (h' x y).symm
theorem safe_clq {c : CM} {pat : List Nat} {g : Nat → List Nat} (h : ApG c pat g) {s : List Nat} (hs : s ∈ subsM c.n) : (∀ x ∈ s, ∀ y ∈ s, x < y → y ∈ g x) ↔ Clq (frG c.n g) s := by
  have hm := mem_subsM.mp hs
  have ap := frG_ap h
  constructor
  · intro z
    refine List.Pairwise.imp_of_mem ?_ hm.1
    intro x y hx hy lt
    exact ⟨lt, (ap x y).mpr ⟨hm.2 x hx, ((h x (hm.2 x hx) y).mp (z x hx y hy lt)).1, ((h x (hm.2 x hx) y).mp (z x hx y hy lt)).2⟩⟩
  · intro z x hx y hy lt
    have := (ap x y).mp (Clq.friends (ap_sym ap) z x hx y hy (by omega))
    exact (h x (hm.2 x hx) y).mpr this.2
theorem own_c {H : Hp} {O : Addr} {n : Nat} {es : Es} {E : List Ent} (ok : FolkOk n es) (h : OwnAt H O es E) : OwnC H O (cOf n es) := by
  refine ⟨E, h.at_, h.ls, fun e he => ?_⟩
  obtain ⟨d, h1, h2⟩ := h.rows e he
  have e1 : rows0 d = (List.range (cOf n es).n).map ((cOf n es).R e.1) := by
    unfold rows0
    have hn := (ok.ok _ h1).2
    have hn' : d.hears.length = (cOf n es).n := hn
    rw [hn']
    refine List.map_congr_left fun w _ => ?_
    show said0 d w = said0 (pdOf es e.1) w
    rw [pdOf_eq ok.nd h1]
  rw [← e1]
  exact h2
theorem pat_ok {n : Nat} {es : Es} {pat : List Nat} (h : StageOk n es pat) : PatOk (cOf n es) pat := by
  refine ⟨fun s hs => ?_, h.le⟩
  rcases h.sg s hs with e | e | e
  · exact .inl e
  · exact .inr (.inl e)
  · refine .inr (.inr (mem_ros.mpr ⟨?_, e⟩))
    obtain ⟨x, hx, rfl⟩ := List.mem_map.mp e
    exact h.ok.az x hx
section
variable {P : Program} {w : World} {K : PySem.W.Frag} {mg : Str → Option Value} {base : Heap} {CC CT CP : Addr}
abbrev s_law : Stmt := (top 89)
abbrev N_law : List Str := ["_law_script", "_law_box_here", "_law_stage_here", "_law_n", "_law_own_here", "_law_pattern_here", "_law_cast_here", "_law_apart_here", "_law_best", "_law_words_here", "_law_better", "_law_turn", "_law_told"]
theorem sc_law : FnScope N_law ["_law_script"] (defScope s_law) := ⟨rfl, rfl, rfl, by decide +kernel, rfl, by decide +kernel, by decide +kernel⟩
def sp_law (K : PySem.W.Frag) : Sp := fun vs H Q _ => ∃ (s : Addr) (ns : List Int), vs = [.ref s] ∧ SqL K H s (ns.map V.int) ∧ ns.length ≤ 63 ∧ ∀ H', Q (.bl true) H'
theorem ok_law {f : Addr} {fd : FuncData} (F : FunD K "law" "law" (defArgs s_law) (defBody s_law) (defScope s_law) [] [] f fd) (B : Blt mg)
    (G_law_box : G P w K mg base 1 "_law_box" ["_law_script"] (sp_box K)) (G_law_stage : G P w K mg base 6 "_law_stage" ["_law_box_here"] sp_lstage) (G_law_cast : G P w K mg base 10 "_law_cast" ["_law_n", "_law_folk_here"] (sp_lcast CC CT)) (G_law_apart : G P w K mg base 4 "_law_apart" ["_law_own_here", "_law_n", "_law_pattern_here"] sp_lapart) (G_law_subsets : G P w K mg base 1 "_law_subsets" ["_law_n"] sp_lsub)
    (G_law_safe : G P w K mg base 1 "_law_safe" ["_law_apart_here", "_law_words_here"] sp_lsafe) (G_law_is_words : G P w K mg base 2 "_law_is_words" ["_law_value"] sp_liswords) (G_law_cast_is : G P w K mg base 4 "_law_cast_is" ["_law_cast_here", "_law_own_here", "_law_n"] (sp_lcastis CC CT))
    (G_greatest_book : G P w K mg base 10 "greatest_book" ["cast", "pattern"] (sp_greatest CC CT)) (G_first_clash : GD P w K mg base 11 "first_clash" ["cast", "pattern", "book", "informed"] [.str ""] (fun vs H Q E => ∃ v, vs = v ++ [.str ""] ∧ sp_clash K CC CT v H Q E)) :
    FnOk P w K mg base CX0 12 f fd ["_law_script"] (sp_law K) := by
  refine ok_of F sc_law (fun vs H Q E h => ?_) (fun cdv A outer s H vs Q E hr h => ?_)
  · obtain ⟨s, ns, rfl, _⟩ := h
    rfl
  · obtain ⟨sc, ns, rfl, hs, h63, k⟩ := h
    have hu := hu_of hr
    refine ⟨_, (pss_cons (ps_set (i := 1) sc_law.nd rfl (Or.inl rfl) (pe_g G_law_box (hr.mono (by decide)) (by rfl) (pa_cons (pv 0) pa_nil)))
      (pss_cons (ps_set (i := 2) sc_law.nd rfl (Or.inl rfl) (pe_g G_law_stage (hr.mono (by decide)) (by rfl) (pa_cons (pv 1) pa_nil)))
      (pss_cons (ps_set (i := 3) sc_law.nd rfl (Or.inl rfl) (pe_ix (ix_listK (K := K) rfl) (pv 2) pe_int (fun _ _ => rfl)))
      (pss_cons (ps_set (i := 4) sc_law.nd rfl (Or.inl rfl) (pe_ix (ix_listK (K := K) rfl) (pv 2) pe_int (fun _ _ => rfl)))
      (pss_cons (ps_set (i := 5) sc_law.nd rfl (Or.inl rfl) (pe_ix (ix_listK (K := K) rfl) (pv 2) pe_int (fun _ _ => rfl)))
      (pss_cons (ps_set (i := 6) sc_law.nd rfl (Or.inl rfl) (pe_g G_law_cast (hr.mono (by decide)) (by rfl) (pa_cons (pv 3) (pa_cons (pe_ix (ix_listK (K := K) rfl) (pv 2) pe_int (fun _ _ => rfl)) pa_nil))))
      (pss_cons (ps_set (i := 7) sc_law.nd rfl (Or.inl rfl) (pe_g G_law_apart (hr.mono (by decide)) (by rfl) (pa_cons (pv 4) (pa_cons (pv 3) (pa_cons (pv 5) pa_nil)))))
      (pss_cons (ps_set (i := 8) sc_law.nd rfl (Or.inl rfl) (pe_lst (pa_cons pe_int pa_nil)))
      (pss_cons (ps_for PassesOwn.never rfl (pi_listK (K := K) rfl (pe_g G_law_subsets (hr.mono (by decide)) (by rfl) (pa_cons (pv 3) pa_nil))) (pg_name (i := 9) sc_law.nd rfl (Or.inl rfl)) (pss_cons (ps_set (i := 10) sc_law.nd rfl (Or.inl rfl) (pe_or (pe_cmpR op_gt (pe_callB (call_len_seqK (K := K) rfl) (by rfl) B.b_len PySem.boot_len (pa_cons (pv 9) pa_nil)) (pe_callB (call_len_seqK (K := K) rfl) (by rfl) B.b_len PySem.boot_len (pa_cons (pv 8) pa_nil)) (nomark _)) (pe_one (pe_and (pe_cmpR op_eq (pe_callB (call_len_seqK (K := K) rfl) (by rfl) B.b_len PySem.boot_len (pa_cons (pv 9) pa_nil)) (pe_callB (call_len_seqK (K := K) rfl) (by rfl) B.b_len PySem.boot_len (pa_cons (pv 8) pa_nil)) (nomark _)) (pe_one (pe_cmpR (op_lt_lstK (K := K) rfl (hu0_of hu)) (pv 9) (pv 8) (nomark _)))))))
      (pss_one (ps_if (PW.pt (pw_and (pt_val (pv 10)) (pw_and1 (pt_val (pe_g G_law_safe (hr.mono (by decide)) (by rfl) (pa_cons (pv 7) (pa_cons (pv 9) pa_nil))))))) (pss_one (ps_set (i := 8) sc_law.nd rfl (Or.inl rfl) (pv 9))) pss_nil))))
      (pss_cons (ps_for PassesOwn.never rfl (pi_range1 rfl B.b_range (pa_cons pe_int pa_nil)) (pg_name (i := 11) sc_law.nd rfl (Or.inl rfl)) (pss_cons (ps_set (i := 12) sc_law.nd rfl (Or.inl rfl) (pe_g G_greatest_book (hr.mono (by decide)) (by rfl) (pa_cons (pv 6) (pa_cons (pv 5) pa_nil))))
      (pss_cons (ps_if (PW.pt (pw_or (pt_not (pt_val (pe_g G_law_is_words (hr.mono (by decide)) (by rfl) (pa_cons (pv 12) pa_nil)))) (pw_or1 (pt_cmpR (op_neDK (K := K) rfl hr.units) (pv 12) (pv 8) (nomark _))))) (pss_one (ps_ret pe_bl)) pss_nil)
      (pss_one (ps_expr (pe_bm PySem.F.plainAttrs_list PySem.F.slot_list_append PySem.F.type_list_append mt_append (pv 12) (pa_cons (pv 3) pa_nil)))))))
      (pss_cons (ps_if (pt_cmpR op_notN (pe_gD G_first_clash (hr.mono (by decide)) (by rfl) (pa_cons (pv 6) (pa_cons (pv 5) (pa_cons (pv 8) pa_nil)))) pe_non (nomark _)) (pss_one (ps_ret pe_bl)) pss_nil)
      (pss_one (ps_ret (pe_and (pe_cmpR (op_eqDK (K := K) rfl hr.units) (pe_g G_greatest_book (hr.mono (by decide)) (by rfl) (pa_cons (pv 6) (pa_cons pe_str pa_nil))) (pe_listRg rfl (by rfl) B.b_list (prg_1 (by rfl) B.b_range (pv 3))) (nomark _)) (pe_one (pe_g G_law_cast_is (hr.mono (by decide)) (by rfl) (pa_cons (pv 6) (pa_cons (pv 4) (pa_cons (pv 3) pa_nil))))))))))))))))))), ?_⟩
    refine ⟨_, rfl, sc, ns, rfl, hs, h63, fun b sl H1 s1 hb hB => ?_⟩
    refine ⟨_, rfl, b, sl, rfl, hB, fun o H2 n es pat bx2 ho0 ⟨a, O, E', ho, hFk, hOwn⟩ sok => ?_⟩
    have fok := sok.ok
    have cok := cOf_ok fok
    have pok := pat_ok sok
    have hOC := own_c fok hOwn
    have n6 := fok.n6
    have n1 := fok.n1
    refine ⟨_, rfl, o, _, (0 : Int), _, rfl, rfl, SqL.of ho, rfl, _, rfl, o, _, (2 : Int), _, rfl, rfl, SqL.of ho, rfl, _, rfl, o, _, (3 : Int), _, rfl, rfl, SqL.of ho, rfl, ?_⟩
    refine ⟨_, rfl, _, rfl, o, _, (1 : Int), _, rfl, rfl, SqL.of ho, rfl, a, n, es, rfl, hFk, fok, fun ca H3 s3 hC => ?_⟩
    generalize hcdef : cOf n es = c at cok pok hOC hC
    have ecn : c.n = n := by rw [← hcdef]; rfl
    subst ecn
    refine ⟨_, rfl, _, rfl, _, rfl, O, c, pat, rfl, cok, pok, hOC.same s3, sok.few, fun R H4 g s4 hRW hAp hgl => ?_⟩
    refine ⟨by show 1 ≤ sizeLine; exact le_of_small (m := 1) (Nat.le_refl _), fun b0 hb0 => ?_⟩
    have s5 := same_new (o := HO.lst [V.int 0]) hb0
    refine ⟨_, rfl, c.n, rfl, n6, fun S H6 s6 hS0 ⟨as, hS, hpS⟩ => ?_⟩
    have s46 := s5.trans s6
    have hC6 := (hC.same s4).same s46
    have hOC6 := ((hOC.same s3).same s4).same s46
    have hRW6 := hRW.same s46
    have hb06 : H6 b0 = some (.lst (vn [0])) := s6 _ _ upd_same
    have elS := Paired.length hpS
    have ap := frG_ap hAp
    refine ⟨S, rfl, ⟨_, SqL.of hS⟩, for_list_w (K := K) (a := S) (xs := as.map V.ref) (fun i σ H' => ∃ (v9 v10 v11 v12 : Option V) (bb : Addr) (bl : List Nat), σ = [some (.ref sc), some (.ref b), some (.ref o), some (vi c.n), some (.ref O), some (.str (strOf pat)), some (.ref ca), some (.ref R), some (.ref bb), v9, v10, v11, v12] ∧ H' = H6 ∧ H6 bb = some (.lst (vn bl)) ∧ Best (frG c.n g) c.n i bl) ⟨_, _, _, _, b0, [0], rfl, rfl, hb06, Best.start (by omega)⟩ (fun i σ H' _ ⟨_, _, _, _, _, _, _, e, _⟩ => by rw [e]; exact SqL.of hS) ?_ ?_⟩
    · rintro i x σ H' hx ⟨v9, v10, v11, v12, bb, bl, rfl, rfl, hbb, hBest⟩ N hN
      obtain ⟨p, hp, rfl⟩ := refs_get hx
      obtain ⟨r, hr1, hpr⟩ := L2.paired_get hpS hp
      have hrm := List.mem_of_getElem? hr1
      have elr : (vn r).length = r.length := List.length_map ..
      have elb : (vn bl).length = bl.length := List.length_map ..
      refine ⟨_, rfl, p, _, rfl, .inl (SqL.of hpr), _, rfl, bb, _, rfl, .inl (SqL.of hbb), _, _, rfl, rfl, _, rfl, iteD (fun c1 => ?_) fun c1 => ?_⟩
      have hbv : better r bl = true := better_iff.mpr (.inl (by omega))
      rotate_left
      refine ⟨_, rfl, p, _, rfl, .inl (SqL.of hpr), _, rfl, bb, _, rfl, .inl (SqL.of hbb), rfl, _, rfl, iteI (fun c2 => ?_) fun c2 => ?_⟩
      refine ⟨_, rfl, _, rfl, p, bb, r, bl, rfl, rfl, SqL.of hpr, SqL.of hbb, ?_⟩
      have hbv : better r bl = lexN r bl := by
        unfold better
        rw [decide_eq_false (by omega), decide_eq_true (by omega)]
        rfl
      rotate_left
      have hbv : better r bl = false := by
        unfold better
        rw [decide_eq_false (by omega), decide_eq_false (by omega)]
        rfl
      rotate_left
      all_goals
        refine ⟨_, rfl, _, rfl, iteB (fun c3 => ?_) fun c3 => iteF (hN _ _ ⟨_, _, _, _, bb, bl, rfl, rfl, hbb, hBest.keep hr1 fun z => by rw [hbv.trans c3] at z; cases z⟩)⟩
        refine ⟨_, rfl, _, rfl, R, p, c.n, g, r, rfl, hRW6, hpr, (mem_subsM.mp hrm).2, fun bs hbs => ⟨_, rfl, iteB (fun c4 => ?_) fun c4 => ?_⟩⟩
        · exact ⟨_, rfl, hN _ _ ⟨_, _, _, _, p, r, rfl, rfl, hpr, hBest.next hr1 (hbv.trans c3) ((safe_clq hAp hrm).mp (hbs.mp c4))⟩⟩
        · exact hN _ _ ⟨_, _, _, _, bb, bl, rfl, rfl, hbb, hBest.keep hr1 fun _ z => by have := hbs.mpr ((safe_clq hAp hrm).mpr z); rw [c4] at this; cases this⟩
    rintro σ H' ⟨v9, v10, v11, v12, bb, bl, rfl, rfl, hbb, hBest⟩
    rw [List.length_map, elS] at hBest
    have hblm := mem_subsM.mp hBest.mem
    have hbl6 : bl.length ≤ 6 := Nat.le_trans (nodup_lt_length c.n bl (hblm.1.imp fun q => Nat.ne_of_lt q) hblm.2) n6
    have hfin : ∀ {fr : Nat → Nat} {l : List Nat}, First fr c.n l → ApFr c pat fr → l = bl := fun {fr l} hF hA => by
      rw [ap_uniq hA ap] at hF
      exact (hBest.fin hF).symm
    have noMelt : ∀ x ∈ bl, ∀ y ∈ bl, x < y → ¬ Melt c pat x y := fun x hx y hy lt => by
      have := (ap x y).mp (Clq.friends (ap_sym ap) hBest.safe x hx y hy (by omega))
      exact (apart_lt lt).mp this.2.2
    refine ⟨_, rfl, by decide, by decide, for_w (walk_r0 (n := 2)) (fun i σ H'' => ∃ (v9 v10 v11 v12 : Option V), σ = [some (.ref sc), some (.ref b), some (.ref o), some (vi c.n), some (.ref O), some (.str (strOf pat)), some (.ref ca), some (.ref R), some (.ref bb), v9, v10, v11, v12] ∧ Same H' H'') ⟨_, _, _, _, rfl, Same.refl _⟩ (fun _ _ _ _ _ => trivial) ?_ ?_⟩
    · rintro i x σ Ha Hb hi ⟨v9, v10, v11, v12, rfl, sm⟩ ⟨rfl, rfl⟩ N hN
      refine ⟨_, rfl, _, rfl, ca, c, pat, rfl, hC6.same sm, cok, pok, fun r H7 fr l s7 hr0 hl hF hA => ?_⟩
      obtain rfl := hfin hF hA
      have sm7 := sm.trans s7
      refine ⟨_, rfl, r, _, rfl, hl, _, rfl, ?_⟩
      refine ⟨_, rfl, _, rfl, rNe_i (SqL.of hl) (SqL.of (sm7 _ _ hbb)) ⟨_, rfl, iteDn (fun z => absurd rfl z) fun _ => ?_⟩⟩
      refine ⟨_, rfl, tyL hl, _, rfl, r, _, _, rfl, rfl, hl, small_of (m := 6) (by rw [List.length_map]; exact hbl6), hN _ _ ⟨_, _, _, _, rfl, ?_⟩⟩
      exact same_upd sm7 (sm.free hr0)
    · rintro σ Hb ⟨v9, v10, v11, v12, rfl, sm⟩
      refine ⟨_, rfl, _, rfl, _, rfl, [.ref ca, .str (strOf pat), .ref bb], rfl, ca, bb, c, pat, bl, rfl, hC6.same sm, cok, pok, SqL.of (sm _ _ hbb), hbl6, hblm.2, noMelt, fun H7 s7 => ⟨rfl, _, rfl, iteDn (fun z => absurd rfl z) fun _ => ?_⟩⟩
      have sm7 := sm.trans s7
      refine ⟨_, rfl, ca, c, [], by rw [empS]; rfl, hC6.same sm7, cok, ⟨(fun s hs => nomatch hs), Nat.zero_le _⟩, fun r H8 fr l s8 hr0 hl hF hA => ?_⟩
      have el : l = List.range c.n := hF.all fun x y hx hy ne => (hA x y).mpr ⟨hx, hy, ne, not_melt_nil (by omega)⟩
      subst el
      refine ⟨_, rfl, (c.n : Int), rfl, rg_ok n6, fun q hq => ?_⟩
      rw [rg_vn]
      have s9 := same_new (o := HO.lst (vn (List.range c.n))) hq
      refine rEq_i (SqL.of (s9 _ _ hl)) (SqL.of upd_same) ⟨_, rfl, iteD (fun _ => ?_) fun z => absurd rfl z⟩
      have sm9 := (sm7.trans s8).trans s9
      exact ⟨_, rfl, _, rfl, _, rfl, ca, O, c, rfl, hC6.same sm9, hOC6.same sm9, cok, fun H9 _ => k H9⟩
end
end Mm

set_option maxHeartbeats 4000000
/-! the head's facts, joined -/
namespace Mm
open PySem PySem.Spec L2 MM
open PyProof.Rows hiding St
theorem FunS.bindsN {K : PySem.W.Frag} {x qual : Str} {st : Stmt} {D f : Addr} {fd : FuncData} {ps : List Str} (F : FunS K x qual st D f fd)
    (h : ∀ (cc : Addr) (kV doc pm : Value) (an : Option Addr) (cdv ct : Value) (us : List Value), us.length = ps.length → bindArgs (PySem.W.fnX x qual (defArgs st) (defBody st) (defScope st) [(clsN, cc)] .none kV doc pm an cdv ct) ⟨us, []⟩ = pure (ps.zip us)) : Binds K fd ps [] := by
  obtain ⟨oc, od, kV, doc, pm, an, cdv, ct, osl, cc, cl, cld, csl, rfl, _⟩ := F.ex
  exact .all (h cc kV doc pm an cdv ct)
theorem fnIn_ofS {K : PySem.W.Frag} {x qual : Str} {st : Stmt} {D f : Addr} {fd : FuncData} (F : FunS K x qual st D f fd) : PySem.W.fnIn K f = true := by
  obtain ⟨oc, od, kV, doc, pm, an, cdv, ct, osl, cc, cl, cld, csl, rfl, lk, _⟩ := F.ex
  unfold PySem.W.fnIn
  rw [lk]
theorem supT : SupT PySem.Challenge.pw_murmurline_k49_whole_greatest_book := ⟨by kernel_rfl, by kernel_rfl⟩
theorem facts {P : Program} {w : World} {K : PySem.W.Frag} {h : Heap} {mg : Str → Option Value} {f : Addr} (hsupT : SupT P) (X : K.In h) (G : h.Ns mainGlobals mg) (hfa : mg ("law" : Str) = some (.ref f)) (c : SaysM fas fxs fns fss K) :
    ∃ fd : FuncData, (∀ (s : Shared) (v : Value), BindsTo s fd ⟨[v], []⟩ [("_law_script", v)]) ∧ ∀ base : Heap, K.In base → base.Ns mainGlobals mg → FnOk P w K mg base CX0 12 f fd ["_law_script"] (sp_law K) := by
  obtain ⟨fdL, FL⟩ := c.def_ 77 (d := d77) rfl
  have e := hfa.symm.trans (He.glo_ok X G (c.fact 127 (f := .glo "law") rfl))
  cases e
  have bL := FunD.bindsA (ps := ["_law_script"]) FL fun _ _ _ _ _ _ us hl => match us, hl with | [_], _ => rfl
  refine ⟨fdL, fun s v => bL s [v] rfl, fun base _ _ => ?_⟩
  have B : Blt mg := ⟨He.free_ok X G (c.fact 6 (f := .free "len") rfl), He.free_ok X G (c.fact 7 (f := .free "int") rfl), He.free_ok X G (c.fact 8 (f := .free "abs") rfl), He.free_ok X G (c.fact 9 (f := .free "min") rfl), He.free_ok X G (c.fact 10 (f := .free "max") rfl), He.free_ok X G (c.fact 11 (f := .free "str") rfl), He.free_ok X G (c.fact 12 (f := .free "list") rfl), He.free_ok X G (c.fact 13 (f := .free "tuple") rfl), He.free_ok X G (c.fact 14 (f := .free "dict") rfl), He.free_ok X G (c.fact 15 (f := .free "set") rfl), He.free_ok X G (c.fact 16 (f := .free "range") rfl), He.free_ok X G (c.fact 17 (f := .free "sorted") rfl), He.free_ok X G (c.fact 18 (f := .free "enumerate") rfl), He.free_ok X G (c.fact 19 (f := .free "isinstance") rfl), He.free_ok X G (c.fact 20 (f := .free "bool") rfl), He.free_ok X G (c.fact 21 (f := .free "super") rfl), He.int_ok X G (c.fact 22 (f := .int "GREATEST_SIZE" 6) rfl), He.int_ok X G (c.fact 23 (f := .int "MOST_SIGNS" 12) rfl), He.int_ok X G (c.fact 24 (f := .int "MOST_PEOPLE" 8) rfl), He.str_ok X G (c.fact 25 (f := .str "LETTERS" "abcdefghijklmnopqrstuvwxyz") rfl)⟩
  have Tc : TabC K mg (He.ga K "Table") := ⟨(He.cls_ok (c.fact 26 (f := .cls "Table") rfl)), (He.glo_ok X G (c.fact 0 (f := .glo "Table") rfl)), (He.noat_ok (c.fact 38 (f := .noat "Table" "size") rfl)), (He.noat_ok (c.fact 39 (f := .noat "Table" "masks") rfl)), (He.noat_ok (c.fact 40 (f := .noat "Table" "cells") rfl))⟩
  have P_Person : PersC K (He.ga K "Person") := ⟨(He.cls_ok (c.fact 30 (f := .cls "Person") rfl)), (He.noat_ok (c.fact 44 (f := .noat "Person" "size") rfl)), (He.noat_ok (c.fact 45 (f := .noat "Person" "ears") rfl)), (He.noat_ok (c.fact 46 (f := .noat "Person" "mouths") rfl)), (He.noat_ok (c.fact 47 (f := .noat "Person" "sure_words") rfl))⟩
  have P_Doubter : PersC K (He.ga K "Doubter") := ⟨(He.cls_ok (c.fact 32 (f := .cls "Doubter") rfl)), (He.noat_ok (c.fact 48 (f := .noat "Doubter" "size") rfl)), (He.noat_ok (c.fact 49 (f := .noat "Doubter" "ears") rfl)), (He.noat_ok (c.fact 50 (f := .noat "Doubter" "mouths") rfl)), (He.noat_ok (c.fact 51 (f := .noat "Doubter" "sure_words") rfl))⟩
  have P_Knower : PersC K (He.ga K "Knower") := ⟨(He.cls_ok (c.fact 34 (f := .cls "Knower") rfl)), (He.noat_ok (c.fact 52 (f := .noat "Knower" "size") rfl)), (He.noat_ok (c.fact 53 (f := .noat "Knower" "ears") rfl)), (He.noat_ok (c.fact 54 (f := .noat "Knower" "mouths") rfl)), (He.noat_ok (c.fact 55 (f := .noat "Knower" "sure_words") rfl))⟩
  have P_KnowingDoubter : PersC K (He.ga K "KnowingDoubter") := ⟨(He.cls_ok (c.fact 36 (f := .cls "KnowingDoubter") rfl)), (He.noat_ok (c.fact 56 (f := .noat "KnowingDoubter" "size") rfl)), (He.noat_ok (c.fact 57 (f := .noat "KnowingDoubter" "ears") rfl)), (He.noat_ok (c.fact 58 (f := .noat "KnowingDoubter" "mouths") rfl)), (He.noat_ok (c.fact 59 (f := .noat "KnowingDoubter" "sure_words") rfl))⟩
  have Is : IsiC K (He.ga K "Table") := isi_ok (c.more 0 (f := .isi "Table") rfl)
  have hP := (He.glo_ok X G (c.fact 2 (f := .glo "Person") rfl))
  have Cc : CastC K mg (He.ga K "Cast") := ⟨(He.cls_ok (c.fact 28 (f := .cls "Cast") rfl)), (He.glo_ok X G (c.fact 1 (f := .glo "Cast") rfl)), (He.noat_ok (c.fact 41 (f := .noat "Cast" "size") rfl)), (He.noat_ok (c.fact 42 (f := .noat "Cast" "folk") rfl)), (He.noat_ok (c.fact 43 (f := .noat "Cast" "roster") rfl))⟩
  have G_law_box := g_law_box (P := P) (w := w) (base := base) (K := K) (mg := mg)  (F := (by obtain ⟨fd, F⟩ := c.def_ 0 (d := d0) rfl; exact ⟨_, fd, (He.glo_ok X G (c.fact 60 (f := .glo "_law_box") rfl)), F⟩)) (B := B)
  have G_law_take := g_law_take (P := P) (w := w) (base := base) (K := K) (mg := mg)  (F := (by obtain ⟨fd, F⟩ := c.def_ 1 (d := d1) rfl; exact ⟨_, fd, (He.glo_ok X G (c.fact 61 (f := .glo "_law_take") rfl)), F⟩)) (B := B)
  have G_law_letters := g_law_letters (P := P) (w := w) (base := base) (K := K) (mg := mg)  (F := (by obtain ⟨fd, F⟩ := c.def_ 2 (d := d2) rfl; exact ⟨_, fd, (He.glo_ok X G (c.fact 62 (f := .glo "_law_letters") rfl)), F⟩)) (B := B) (G_law_take := G_law_take)
  have G_law_words := g_law_words (P := P) (w := w) (base := base) (K := K) (mg := mg)  (F := (by obtain ⟨fd, F⟩ := c.def_ 3 (d := d3) rfl; exact ⟨_, fd, (He.glo_ok X G (c.fact 63 (f := .glo "_law_words") rfl)), F⟩)) (B := B) (G_law_take := G_law_take)
  have G_law_outs := g_law_outs (P := P) (w := w) (base := base) (K := K) (mg := mg)  (F := (by obtain ⟨fd, F⟩ := c.def_ 4 (d := d4) rfl; exact ⟨_, fd, (He.glo_ok X G (c.fact 64 (f := .glo "_law_outs") rfl)), F⟩)) (B := B) (G_law_take := G_law_take) (G_law_words := G_law_words)
  have G_law_person := g_law_person (P := P) (w := w) (base := base) (K := K) (mg := mg)  (F := (by obtain ⟨fd, F⟩ := c.def_ 5 (d := d5) rfl; exact ⟨_, fd, (He.glo_ok X G (c.fact 65 (f := .glo "_law_person") rfl)), F⟩)) (B := B) (G_law_take := G_law_take) (G_law_outs := G_law_outs)
  have G_law_folk := g_law_folk (P := P) (w := w) (base := base) (K := K) (mg := mg)  (F := (by obtain ⟨fd, F⟩ := c.def_ 6 (d := d6) rfl; exact ⟨_, fd, (He.glo_ok X G (c.fact 66 (f := .glo "_law_folk") rfl)), F⟩)) (B := B) (G_law_letters := G_law_letters) (G_law_person := G_law_person)
  have G_law_own := g_law_own (P := P) (w := w) (base := base) (K := K) (mg := mg)  (F := (by obtain ⟨fd, F⟩ := c.def_ 7 (d := d7) rfl; exact ⟨_, fd, (He.glo_ok X G (c.fact 67 (f := .glo "_law_own") rfl)), F⟩)) (B := B)
  have G_law_pattern := g_law_pattern (P := P) (w := w) (base := base) (K := K) (mg := mg)  (F := (by obtain ⟨fd, F⟩ := c.def_ 8 (d := d8) rfl; exact ⟨_, fd, (He.glo_ok X G (c.fact 68 (f := .glo "_law_pattern") rfl)), F⟩)) (B := B) (G_law_take := G_law_take)
  have G_law_stage := g_law_stage (P := P) (w := w) (base := base) (K := K) (mg := mg)  (F := (by obtain ⟨fd, F⟩ := c.def_ 9 (d := d9) rfl; exact ⟨_, fd, (He.glo_ok X G (c.fact 69 (f := .glo "_law_stage") rfl)), F⟩)) (B := B) (G_law_take := G_law_take) (G_law_folk := G_law_folk) (G_law_own := G_law_own) (G_law_pattern := G_law_pattern)
  have G_check_size := g_check_size (P := P) (w := w) (base := base) (K := K) (mg := mg)  (F := (by obtain ⟨fd, F⟩ := c.def_ 10 (d := d10) rfl; exact ⟨_, fd, (He.glo_ok X G (c.fact 70 (f := .glo "check_size") rfl)), F⟩)) (B := B)
  have G_Cast_init := g_Cast_init (P := P) (w := w) (base := base) (K := K) (mg := mg) (CT := He.ga K "Table") (CC := He.ga K "Cast") (F := (by obtain ⟨fd, F⟩ := c.def_ 11 (d := d11) rfl; exact ⟨_, fd, (He.mkr_ok (c.fact 29 (f := .mkr "Cast") rfl)), F⟩)) (Cc := Cc) (B := B) (G_check_size := G_check_size)
  have G_check_sizes := g_check_sizes (P := P) (w := w) (base := base) (K := K) (mg := mg)  (F := (by obtain ⟨fd, F⟩ := c.def_ 12 (d := d12) rfl; exact ⟨_, fd, (He.glo_ok X G (c.fact 71 (f := .glo "check_sizes") rfl)), F⟩)) 
  have G_Cast_put := g_Cast_put (P := P) (w := w) (base := base) (K := K) (mg := mg) (CT := He.ga K "Table") (CC := He.ga K "Cast") (F := (by obtain ⟨fd, F⟩ := c.def_ 13 (d := d13) rfl; exact ⟨_, fd, (He.meth_ok (c.fact 72 (f := .meth "Cast" "put") rfl)), F⟩)) (Cc := Cc) (B := B) (G_check_sizes := G_check_sizes)
  have G_check_word := g_check_word (P := P) (w := w) (base := base) (K := K) (mg := mg)  (F := (by obtain ⟨fd, F⟩ := c.def_ 14 (d := d14) rfl; exact ⟨_, fd, (He.glo_ok X G (c.fact 73 (f := .glo "check_word") rfl)), F⟩)) 
  have G_all_words := g_all_words (P := P) (w := w) (base := base) (K := K) (mg := mg)  (F := (by obtain ⟨fd, F⟩ := c.def_ 15 (d := d15) rfl; exact ⟨_, fd, (He.glo_ok X G (c.fact 74 (f := .glo "all_words") rfl)), F⟩)) 
  have G_check_person := g_check_person (P := P) (w := w) (base := base) (K := K) (mg := mg)  (F := (by obtain ⟨fd, F⟩ := c.def_ 16 (d := d16) rfl; exact ⟨_, fd, (He.glo_ok X G (c.fact 75 (f := .glo "check_person") rfl)), F⟩)) (B := B) (G_all_words := G_all_words)
  have G_mask_of := g_mask_of (P := P) (w := w) (base := base) (K := K) (mg := mg)  (F := (by obtain ⟨fd, F⟩ := c.def_ 17 (d := d17) rfl; exact ⟨_, fd, (He.glo_ok X G (c.fact 76 (f := .glo "mask_of") rfl)), F⟩)) 
  have G_masks_of := g_masks_of (P := P) (w := w) (base := base) (K := K) (mg := mg)  (F := (by obtain ⟨fd, F⟩ := c.def_ 18 (d := d18) rfl; exact ⟨_, fd, (He.glo_ok X G (c.fact 77 (f := .glo "masks_of") rfl)), F⟩)) (B := B) (G_mask_of := G_mask_of)
  have G_bits := g_bits (P := P) (w := w) (base := base) (K := K) (mg := mg)  (F := (by obtain ⟨fd, F⟩ := c.def_ 19 (d := d19) rfl; exact ⟨_, fd, (He.glo_ok X G (c.fact 78 (f := .glo "bits") rfl)), F⟩)) 
  have G_Table_init := g_Table_init (P := P) (w := w) (base := base) (K := K) (mg := mg)  (F := (by obtain ⟨fd, F⟩ := c.def_ 20 (d := d20) rfl; exact ⟨_, fd, (He.mkr_ok (c.fact 27 (f := .mkr "Table") rfl)), F⟩)) (Tc := Tc) (B := B) (G_check_size := G_check_size) (G_masks_of := G_masks_of) (G_bits := G_bits)
  have hT : SupT P := hsupT
  have H_Person : GM P w K mg base 2 (He.ga K "Person") "heard" ["self", "word"] (sp_heard (He.ga K "Person")) := by
    obtain ⟨fd, F⟩ := c.def_ 21 (d := d21) rfl
    exact ⟨_, fd, (He.meth_ok (c.fact 79 (f := .meth "Person" "heard") rfl)), fnIn_of F, F.bindsN fun _ _ _ _ _ _ us hl => match us, hl with | [_, _], _ => rfl, ok_Person_heard F P_Person G_check_word⟩
  have H_Doubter : GM P w K mg base 2 (He.ga K "Doubter") "heard" ["self", "word"] (sp_heard (He.ga K "Doubter")) := by
    obtain ⟨fd, F⟩ := c.def_ 22 (d := d22) rfl
    exact ⟨_, fd, (He.meth_ok (c.fact 80 (f := .meth "Doubter" "heard") rfl)), fnIn_of F, F.bindsN fun _ _ _ _ _ _ us hl => match us, hl with | [_, _], _ => rfl, ok_Person_heard F P_Doubter G_check_word⟩
  have H_Knower : GM P w K mg base 2 (He.ga K "Knower") "heard" ["self", "word"] (sp_heard (He.ga K "Knower")) := by
    obtain ⟨fd, F⟩ := c.def_ 23 (d := d23) rfl
    exact ⟨_, fd, (He.meth_ok (c.fact 81 (f := .meth "Knower" "heard") rfl)), fnIn_of F, F.bindsN fun _ _ _ _ _ _ us hl => match us, hl with | [_, _], _ => rfl, ok_Person_heard F P_Knower G_check_word⟩
  have H_KnowingDoubter : GM P w K mg base 2 (He.ga K "KnowingDoubter") "heard" ["self", "word"] (sp_heard (He.ga K "KnowingDoubter")) := by
    obtain ⟨fd, F⟩ := c.def_ 24 (d := d24) rfl
    exact ⟨_, fd, (He.meth_ok (c.fact 82 (f := .meth "KnowingDoubter" "heard") rfl)), fnIn_of F, F.bindsN fun _ _ _ _ _ _ us hl => match us, hl with | [_, _], _ => rfl, ok_Person_heard F P_KnowingDoubter G_check_word⟩
  have S_Person : GM P w K mg base 6 (He.ga K "Person") "said" ["self", "word"] (sp_row (He.ga K "Person") false perR) := by
    obtain ⟨fd, F⟩ := c.def_ 25 (d := d25) rfl
    exact ⟨_, fd, (He.meth_ok (c.fact 83 (f := .meth "Person" "said") rfl)), fnIn_of F, F.bindsN (fun _ _ _ _ _ _ us hl => match us, hl with | [_, _], _ => rfl), ((ok_Person_said F P_Person B H_Person).imp sp_row_said).mono (by decide)⟩
  have X_Doubter : SupX P w K mg base 3 (He.ga K "Doubter") (He.ga K "Doubter") "said" ["self", "word"] (sp_row (He.ga K "Doubter") false perR) := by
    obtain ⟨fd, F⟩ := c.def_ 26 (d := d26) rfl
    exact ⟨_, fd, sup_ok (c.more 1 (f := .sup "Doubter" "Doubter" "said") rfl), F.bindsN (fun _ _ _ _ _ _ us hl => match us, hl with | [_, _], _ => rfl), (ok_Person_said F P_Doubter B H_Doubter).imp sp_row_said⟩
  have X_Knower : SupX P w K mg base 3 (He.ga K "Knower") (He.ga K "Knower") "said" ["self", "word"] (sp_row (He.ga K "Knower") true perR) := by
    obtain ⟨fd, F⟩ := c.def_ 27 (d := d27) rfl
    exact ⟨_, fd, sup_ok (c.more 2 (f := .sup "Knower" "Knower" "said") rfl), F.bindsN (fun _ _ _ _ _ _ us hl => match us, hl with | [_, _], _ => rfl), (ok_Person_said F P_Knower B H_Knower).imp sp_row_said⟩
  have X_KD3 : SupX P w K mg base 3 (He.ga K "KnowingDoubter") (He.ga K "Doubter") "said" ["self", "word"] (sp_row (He.ga K "KnowingDoubter") true perR) := by
    obtain ⟨fd, F⟩ := c.def_ 28 (d := d28) rfl
    exact ⟨_, fd, sup_ok (c.more 3 (f := .sup "KnowingDoubter" "Doubter" "said") rfl), F.bindsN (fun _ _ _ _ _ _ us hl => match us, hl with | [_, _], _ => rfl), (ok_Person_said F P_KnowingDoubter B H_KnowingDoubter).imp sp_row_said⟩
  have S_Doubter : GM P w K mg base 6 (He.ga K "Doubter") "said" ["self", "word"] (sp_row (He.ga K "Doubter") false (douR perR)) := by
    obtain ⟨fd, F⟩ := c.sup 0 (d := z0) rfl
    exact ⟨_, fd, (He.meth_ok (c.fact 84 (f := .meth "Doubter" "said") rfl)), fnIn_ofS F, FunS.bindsN F (fun _ _ _ _ _ _ _ us hl => match us, hl with | [_, _], _ => rfl), (ok_Doubter_said F P_Doubter B hT X_Doubter).mono (by decide)⟩
  have S_Knower : GM P w K mg base 6 (He.ga K "Knower") "said" ["self", "word"] (sp_row (He.ga K "Knower") true (knoR perR)) := by
    obtain ⟨fd, F⟩ := c.sup 1 (d := z1) rfl
    exact ⟨_, fd, (He.meth_ok (c.fact 85 (f := .meth "Knower" "said") rfl)), fnIn_ofS F, FunS.bindsN F (fun _ _ _ _ _ _ _ us hl => match us, hl with | [_, _], _ => rfl), (ok_Knower_said F P_Knower B hT X_Knower).mono (by decide)⟩
  have X_KD2 : SupX P w K mg base 4 (He.ga K "KnowingDoubter") (He.ga K "Knower") "said" ["self", "word"] (sp_row (He.ga K "KnowingDoubter") true (douR perR)) := by
    obtain ⟨fd, F⟩ := c.sup 2 (d := z2) rfl
    exact ⟨_, fd, sup_ok (c.more 4 (f := .sup "KnowingDoubter" "Knower" "said") rfl), FunS.bindsN F (fun _ _ _ _ _ _ _ us hl => match us, hl with | [_, _], _ => rfl), ok_Doubter_said F P_KnowingDoubter B hT X_KD3⟩
  have X_KD1 : SupX P w K mg base 5 (He.ga K "KnowingDoubter") (He.ga K "KnowingDoubter") "said" ["self", "word"] (sp_row (He.ga K "KnowingDoubter") true (knoR (douR perR))) := by
    obtain ⟨fd, F⟩ := c.sup 3 (d := z3) rfl
    exact ⟨_, fd, sup_ok (c.more 5 (f := .sup "KnowingDoubter" "KnowingDoubter" "said") rfl), FunS.bindsN F (fun _ _ _ _ _ _ _ us hl => match us, hl with | [_, _], _ => rfl), ok_Knower_said F P_KnowingDoubter B hT X_KD2⟩
  have S_KnowingDoubter : GM P w K mg base 6 (He.ga K "KnowingDoubter") "said" ["self", "word"] (sp_row (He.ga K "KnowingDoubter") true (knoR (douR perR))) := by
    obtain ⟨fd, F⟩ := c.sup 4 (d := z4) rfl
    exact ⟨_, fd, (He.meth_ok (c.fact 86 (f := .meth "KnowingDoubter" "said") rfl)), fnIn_ofS F, FunS.bindsN F (fun _ _ _ _ _ _ _ us hl => match us, hl with | [_, _], _ => rfl), (ok_KD_said F B hT X_KD1).mono (by decide)⟩
  have I_Person : GI P w K mg base 3 (He.ga K "Person") ["self", "hears", "says"] (sp_Person_init K (He.ga K "Person")) := by
    obtain ⟨fd, F⟩ := c.def_ 29 (d := d29) rfl
    exact ⟨_, fd, (He.mkr_ok (c.fact 31 (f := .mkr "Person") rfl)), F.bindsN (fun _ _ _ _ _ _ us hl => match us, hl with | [_, _, _], _ => rfl), ok_Person_init F P_Person B G_check_person⟩
  have I_Doubter : GI P w K mg base 3 (He.ga K "Doubter") ["self", "hears", "says"] (sp_Person_init K (He.ga K "Doubter")) := by
    obtain ⟨fd, F⟩ := c.def_ 30 (d := d30) rfl
    exact ⟨_, fd, (He.mkr_ok (c.fact 33 (f := .mkr "Doubter") rfl)), F.bindsN (fun _ _ _ _ _ _ us hl => match us, hl with | [_, _, _], _ => rfl), ok_Person_init F P_Doubter B G_check_person⟩
  have Y_Knower : SupX P w K mg base 3 (He.ga K "Knower") (He.ga K "Knower") "__init__" ["self", "hears", "says"] (sp_Person_init K (He.ga K "Knower")) := by
    obtain ⟨fd, F⟩ := c.def_ 31 (d := d31) rfl
    exact ⟨_, fd, sup_ok (c.more 6 (f := .sup "Knower" "Knower" "__init__") rfl), F.bindsN (fun _ _ _ _ _ _ us hl => match us, hl with | [_, _, _], _ => rfl), ok_Person_init F P_Knower B G_check_person⟩
  have I_Knower : GI P w K mg base 4 (He.ga K "Knower") ["self", "hears", "says", "knows"] (sp_Knower_init K (He.ga K "Knower")) := by
    obtain ⟨fd, F⟩ := c.sup 5 (d := z5) rfl
    exact ⟨_, fd, (He.mkr_ok (c.fact 35 (f := .mkr "Knower") rfl)), FunS.bindsN F (fun _ _ _ _ _ _ _ us hl => match us, hl with | [_, _, _, _], _ => rfl), ok_Knower_init F P_Knower B hT Y_Knower G_all_words⟩
  have Y_KnowingDoubter : SupX P w K mg base 3 (He.ga K "KnowingDoubter") (He.ga K "Knower") "__init__" ["self", "hears", "says"] (sp_Person_init K (He.ga K "KnowingDoubter")) := by
    obtain ⟨fd, F⟩ := c.def_ 32 (d := d32) rfl
    exact ⟨_, fd, sup_ok (c.more 7 (f := .sup "KnowingDoubter" "Knower" "__init__") rfl), F.bindsN (fun _ _ _ _ _ _ us hl => match us, hl with | [_, _, _], _ => rfl), ok_Person_init F P_KnowingDoubter B G_check_person⟩
  have I_KnowingDoubter : GI P w K mg base 4 (He.ga K "KnowingDoubter") ["self", "hears", "says", "knows"] (sp_Knower_init K (He.ga K "KnowingDoubter")) := by
    obtain ⟨fd, F⟩ := c.sup 6 (d := z6) rfl
    exact ⟨_, fd, (He.mkr_ok (c.fact 37 (f := .mkr "KnowingDoubter") rfl)), FunS.bindsN F (fun _ _ _ _ _ _ _ us hl => match us, hl with | [_, _, _, _], _ => rfl), ok_Knower_init F P_KnowingDoubter B hT Y_KnowingDoubter G_all_words⟩
  have T_Person : GP P w K mg base 7 (He.ga K "Person") "table" (sp_Pers_table (He.ga K "Table") (He.ga K "Person") false perR) := by
    obtain ⟨fd, F⟩ := c.def_ 33 (d := d33) rfl
    exact g_Pers_table ⟨_, _, fd, prop_ok (c.more 8 (f := .prop "Person" "table") rfl), F⟩ P_Person Tc B S_Person G_Table_init
  have T_Doubter : GP P w K mg base 7 (He.ga K "Doubter") "table" (sp_Pers_table (He.ga K "Table") (He.ga K "Doubter") false (douR perR)) := by
    obtain ⟨fd, F⟩ := c.def_ 34 (d := d34) rfl
    exact g_Pers_table ⟨_, _, fd, prop_ok (c.more 9 (f := .prop "Doubter" "table") rfl), F⟩ P_Doubter Tc B S_Doubter G_Table_init
  have T_Knower : GP P w K mg base 7 (He.ga K "Knower") "table" (sp_Pers_table (He.ga K "Table") (He.ga K "Knower") true (knoR perR)) := by
    obtain ⟨fd, F⟩ := c.def_ 35 (d := d35) rfl
    exact g_Pers_table ⟨_, _, fd, prop_ok (c.more 10 (f := .prop "Knower" "table") rfl), F⟩ P_Knower Tc B S_Knower G_Table_init
  have T_KnowingDoubter : GP P w K mg base 7 (He.ga K "KnowingDoubter") "table" (sp_Pers_table (He.ga K "Table") (He.ga K "KnowingDoubter") true (knoR (douR perR))) := by
    obtain ⟨fd, F⟩ := c.def_ 36 (d := d36) rfl
    exact g_Pers_table ⟨_, _, fd, prop_ok (c.more 11 (f := .prop "KnowingDoubter" "table") rfl), F⟩ P_KnowingDoubter Tc B S_KnowingDoubter G_Table_init
  have Pp : Ppl P w K mg base (He.ga K "Table") (He.ga K "Person") (He.ga K "Doubter") (He.ga K "Knower") (He.ga K "KnowingDoubter") := ⟨P_Person, P_Doubter, P_Knower, P_KnowingDoubter, (He.glo_ok X G (c.fact 2 (f := .glo "Person") rfl)), (He.glo_ok X G (c.fact 3 (f := .glo "Doubter") rfl)), (He.glo_ok X G (c.fact 4 (f := .glo "Knower") rfl)), (He.glo_ok X G (c.fact 5 (f := .glo "KnowingDoubter") rfl)), T_Person, T_Doubter, T_Knower, T_KnowingDoubter, I_Person, I_Doubter, I_Knower, I_KnowingDoubter⟩
  have G_Person_init := I_Person
  have G_Pers_table := T_Person
  have G_law_made := g_law_made (P := P) (w := w) (base := base) (K := K) (mg := mg) (CT := He.ga K "Table") (F := (by obtain ⟨fd, F⟩ := c.def_ 37 (d := d37) rfl; exact ⟨_, fd, (He.glo_ok X G (c.fact 87 (f := .glo "_law_made") rfl)), F⟩)) (B := B) (Pp := Pp)
  have G_law_cast := g_law_cast (P := P) (w := w) (base := base) (K := K) (mg := mg) (CT := He.ga K "Table") (CC := He.ga K "Cast") (F := (by obtain ⟨fd, F⟩ := c.def_ 38 (d := d38) rfl; exact ⟨_, fd, (He.glo_ok X G (c.fact 88 (f := .glo "_law_cast") rfl)), F⟩)) (B := B) (Cc := Cc) (G_Cast_init := G_Cast_init) (G_Cast_put := G_Cast_put) (G_law_made := G_law_made)
  have G_law_won := g_law_won (P := P) (w := w) (base := base) (K := K) (mg := mg)  (F := (by obtain ⟨fd, F⟩ := c.def_ 39 (d := d39) rfl; exact ⟨_, fd, (He.glo_ok X G (c.fact 89 (f := .glo "_law_won") rfl)), F⟩)) (B := B)
  have G_law_open := g_law_open (P := P) (w := w) (base := base) (K := K) (mg := mg)  (F := (by obtain ⟨fd, F⟩ := c.def_ 40 (d := d40) rfl; exact ⟨_, fd, (He.glo_ok X G (c.fact 90 (f := .glo "_law_open") rfl)), F⟩)) (B := B)
  have G_law_after := g_law_after (P := P) (w := w) (base := base) (K := K) (mg := mg)  (F := (by obtain ⟨fd, F⟩ := c.def_ 41 (d := d41) rfl; exact ⟨_, fd, (He.glo_ok X G (c.fact 91 (f := .glo "_law_after") rfl)), F⟩)) (B := B) (G_law_open := G_law_open)
  have G_law_closed := g_law_closed (P := P) (w := w) (base := base) (K := K) (mg := mg)  (F := (by obtain ⟨fd, F⟩ := c.def_ 42 (d := d42) rfl; exact ⟨_, fd, (He.glo_ok X G (c.fact 92 (f := .glo "_law_closed") rfl)), F⟩)) (B := B) (G_law_open := G_law_open) (G_law_after := G_law_after)
  have G_law_apart := g_law_apart (P := P) (w := w) (base := base) (K := K) (mg := mg)  (F := (by obtain ⟨fd, F⟩ := c.def_ 43 (d := d43) rfl; exact ⟨_, fd, (He.glo_ok X G (c.fact 93 (f := .glo "_law_apart") rfl)), F⟩)) (B := B) (G_law_won := G_law_won) (G_law_closed := G_law_closed)
  have G_law_subsets := g_law_subsets (P := P) (w := w) (base := base) (K := K) (mg := mg)  (F := (by obtain ⟨fd, F⟩ := c.def_ 44 (d := d44) rfl; exact ⟨_, fd, (He.glo_ok X G (c.fact 94 (f := .glo "_law_subsets") rfl)), F⟩)) (B := B)
  have G_law_safe := g_law_safe (P := P) (w := w) (base := base) (K := K) (mg := mg)  (F := (by obtain ⟨fd, F⟩ := c.def_ 45 (d := d45) rfl; exact ⟨_, fd, (He.glo_ok X G (c.fact 95 (f := .glo "_law_safe") rfl)), F⟩)) (B := B)
  have G_law_is_int := g_law_is_int (P := P) (w := w) (base := base) (K := K) (mg := mg)  (F := (by obtain ⟨fd, F⟩ := c.def_ 46 (d := d46) rfl; exact ⟨_, fd, (He.glo_ok X G (c.fact 96 (f := .glo "_law_is_int") rfl)), F⟩)) (B := B)
  have G_law_is_words := g_law_is_words (P := P) (w := w) (base := base) (K := K) (mg := mg)  (F := (by obtain ⟨fd, F⟩ := c.def_ 47 (d := d47) rfl; exact ⟨_, fd, (He.glo_ok X G (c.fact 97 (f := .glo "_law_is_words") rfl)), F⟩)) (B := B) (G_law_is_int := G_law_is_int)
  have G_Cast_letters := g_Cast_letters (P := P) (w := w) (base := base) (K := K) (mg := mg) (CT := He.ga K "Table") (CC := He.ga K "Cast") (F := (by obtain ⟨fd, F⟩ := c.def_ 48 (d := d48) rfl; exact ⟨_, fd, (He.meth_ok (c.fact 98 (f := .meth "Cast" "letters") rfl)), F⟩)) (Cc := Cc) (B := B)
  have G_Cast_contains := g_Cast_contains (P := P) (w := w) (base := base) (K := K) (mg := mg) (CT := He.ga K "Table") (CC := He.ga K "Cast") (F := (by obtain ⟨fd, F⟩ := c.def_ 49 (d := d49) rfl; exact ⟨_, fd, (He.meth_ok (c.fact 99 (f := .meth "Cast" "__contains__") rfl)), F⟩)) (Cc := Cc)
  have G_Cast_getitem := g_Cast_getitem (P := P) (w := w) (base := base) (K := K) (mg := mg) (CT := He.ga K "Table") (CC := He.ga K "Cast") (F := (by obtain ⟨fd, F⟩ := c.def_ 50 (d := d50) rfl; exact ⟨_, fd, (He.meth_ok (c.fact 100 (f := .meth "Cast" "__getitem__") rfl)), F⟩)) (Cc := Cc)
  have G_Cast_len := g_Cast_len (P := P) (w := w) (base := base) (K := K) (mg := mg) (CT := He.ga K "Table") (CC := He.ga K "Cast") (F := (by obtain ⟨fd, F⟩ := c.def_ 51 (d := d51) rfl; exact ⟨_, fd, (He.meth_ok (c.fact 101 (f := .meth "Cast" "__len__") rfl)), F⟩)) (Cc := Cc) (B := B)
  have G_law_is := g_law_is (P := P) (w := w) (base := base) (K := K) (mg := mg)  (F := (by obtain ⟨fd, F⟩ := c.def_ 52 (d := d52) rfl; exact ⟨_, fd, (He.glo_ok X G (c.fact 102 (f := .glo "_law_is") rfl)), F⟩)) (B := B)
  have G_Table_rows := g_Table_rows (P := P) (w := w) (base := base) (K := K) (mg := mg)  (F := (by obtain ⟨fd, F⟩ := c.def_ 53 (d := d53) rfl; exact ⟨_, fd, (He.meth_ok (c.fact 103 (f := .meth "Table" "rows") rfl)), F⟩)) (Tc := Tc) (B := B) (G_bits := G_bits)
  have G_law_same := g_law_same (P := P) (w := w) (base := base) (K := K) (mg := mg) (CT := He.ga K "Table") (F := (by obtain ⟨fd, F⟩ := c.def_ 54 (d := d54) rfl; exact ⟨_, fd, (He.glo_ok X G (c.fact 104 (f := .glo "_law_same") rfl)), F⟩)) (B := B) (Tc := Tc) (Is := Is) (G_law_is_int := G_law_is_int) (G_law_is_words := G_law_is_words) (G_Table_rows := G_Table_rows)
  have G_law_cast_is := g_law_cast_is (P := P) (w := w) (base := base) (K := K) (mg := mg) (CT := He.ga K "Table") (CC := He.ga K "Cast") (F := (by obtain ⟨fd, F⟩ := c.def_ 55 (d := d55) rfl; exact ⟨_, fd, (He.glo_ok X G (c.fact 105 (f := .glo "_law_cast_is") rfl)), F⟩)) (B := B) (Cc := Cc) (G_Cast_letters := G_Cast_letters) (G_Cast_contains := G_Cast_contains) (G_Cast_getitem := G_Cast_getitem) (G_Cast_len := G_Cast_len) (G_law_is := G_law_is) (G_law_same := G_law_same)
  have G_check_pattern := g_check_pattern (P := P) (w := w) (base := base) (K := K) (mg := mg) (CT := He.ga K "Table") (CC := He.ga K "Cast") (F := (by obtain ⟨fd, F⟩ := c.def_ 56 (d := d56) rfl; exact ⟨_, fd, (He.glo_ok X G (c.fact 106 (f := .glo "check_pattern") rfl)), F⟩)) (B := B) (G_Cast_contains := G_Cast_contains)
  have G_check_question := g_check_question (P := P) (w := w) (base := base) (K := K) (mg := mg) (CT := He.ga K "Table") (CC := He.ga K "Cast") (F := (by obtain ⟨fd, F⟩ := c.def_ 57 (d := d57) rfl; exact ⟨_, fd, (He.glo_ok X G (c.fact 107 (f := .glo "check_question") rfl)), F⟩)) (Cc := Cc) (G_check_pattern := G_check_pattern) (G_check_word := G_check_word)
  have G_people_at := g_people_at (P := P) (w := w) (base := base) (K := K) (mg := mg) (CT := He.ga K "Table") (CC := He.ga K "Cast") (F := (by obtain ⟨fd, F⟩ := c.def_ 58 (d := d58) rfl; exact ⟨_, fd, (He.glo_ok X G (c.fact 108 (f := .glo "people_at") rfl)), F⟩)) (Cc := Cc) (G_Cast_letters := G_Cast_letters)
  have G_Table_getitem := g_Table_getitem (P := P) (w := w) (base := base) (K := K) (mg := mg)  (F := (by obtain ⟨fd, F⟩ := c.def_ 59 (d := d59) rfl; exact ⟨_, fd, (He.meth_ok (c.fact 109 (f := .meth "Table" "__getitem__") rfl)), F⟩)) (Tc := Tc) (G_check_word := G_check_word) (G_bits := G_bits)
  have G_spoken := g_spoken (P := P) (w := w) (base := base) (K := K) (mg := mg) (CT := He.ga K "Table") (CC := He.ga K "Cast") (F := (by obtain ⟨fd, F⟩ := c.def_ 60 (d := d60) rfl; exact ⟨_, fd, (He.glo_ok X G (c.fact 110 (f := .glo "spoken") rfl)), F⟩)) (B := B) (G_Cast_getitem := G_Cast_getitem) (G_Table_getitem := G_Table_getitem)
  have G_steps_from := g_steps_from (P := P) (w := w) (base := base) (K := K) (mg := mg) (CT := He.ga K "Table") (CC := He.ga K "Cast") (F := (by obtain ⟨fd, F⟩ := c.def_ 61 (d := d61) rfl; exact ⟨_, fd, (He.glo_ok X G (c.fact 111 (f := .glo "steps_from") rfl)), F⟩)) (B := B) (G_people_at := G_people_at) (G_spoken := G_spoken)
  have G_find_book := g_find_book (P := P) (w := w) (base := base) (K := K) (mg := mg) (CT := He.ga K "Table") (CC := He.ga K "Cast") (F := (by obtain ⟨fd, F⟩ := c.def_ 62 (d := d62) rfl; exact ⟨_, fd, (He.glo_ok X G (c.fact 112 (f := .glo "find_book") rfl)), F⟩)) (Cc := Cc) (B := B) (G_check_question := G_check_question) (G_steps_from := G_steps_from)
  have G_apart_words := g_apart_words (P := P) (w := w) (base := base) (K := K) (mg := mg) (CT := He.ga K "Table") (CC := He.ga K "Cast") (F := (by obtain ⟨fd, F⟩ := c.def_ 63 (d := d63) rfl; exact ⟨_, fd, (He.glo_ok X G (c.fact 113 (f := .glo "apart_words") rfl)), F⟩)) (Cc := Cc) (Tc := Tc) (B := B) (G_check_pattern := G_check_pattern) (G_find_book := G_find_book) (G_Table_init := G_Table_init)
  have G_most_friends := g_mf (P := P) (w := w) (base := base) (K := K) (mg := mg) (by obtain ⟨fd, F⟩ := c.def_ 64 (d := d64) rfl; exact ⟨_, fd, (He.glo_ok X G (c.fact 114 (f := .glo "most_friends") rfl)), F⟩) B G_bits 7
  have G_first_friends := g_first_friends (P := P) (w := w) (base := base) (K := K) (mg := mg)  (F := (by obtain ⟨fd, F⟩ := c.def_ 65 (d := d65) rfl; exact ⟨_, fd, (He.glo_ok X G (c.fact 115 (f := .glo "first_friends") rfl)), F⟩)) (B := B) (G_most_friends := G_most_friends)
  have G_greatest_book := g_greatest_book (P := P) (w := w) (base := base) (K := K) (mg := mg) (CT := He.ga K "Table") (CC := He.ga K "Cast") (F := (by obtain ⟨fd, F⟩ := c.def_ 66 (d := d66) rfl; exact ⟨_, fd, (He.glo_ok X G (c.fact 116 (f := .glo "greatest_book") rfl)), F⟩)) (B := B) (Tc := Tc) (G_apart_words := G_apart_words) (G_first_friends := G_first_friends)
  have G_check_words := g_check_words (P := P) (w := w) (base := base) (K := K) (mg := mg)  (F := (by obtain ⟨fd, F⟩ := c.def_ 67 (d := d67) rfl; exact ⟨_, fd, (He.glo_ok X G (c.fact 117 (f := .glo "check_words") rfl)), F⟩)) (G_check_word := G_check_word)
  have G_check_book := g_check_book (P := P) (w := w) (base := base) (K := K) (mg := mg) (CT := He.ga K "Table") (CC := He.ga K "Cast") (F := (by obtain ⟨fd, F⟩ := c.def_ 68 (d := d68) rfl; exact ⟨_, fd, (He.glo_ok X G (c.fact 118 (f := .glo "check_book") rfl)), F⟩)) (Cc := Cc) (G_check_pattern := G_check_pattern) (G_check_words := G_check_words)
  have G_Cast_check_letters := g_Cast_check_letters (P := P) (w := w) (base := base) (K := K) (mg := mg) (CT := He.ga K "Table") (CC := He.ga K "Cast") (F := (by obtain ⟨fd, F⟩ := c.def_ 69 (d := d69) rfl; exact ⟨_, fd, (He.meth_ok (c.fact 119 (f := .meth "Cast" "check_letters") rfl)), F⟩)) (Cc := Cc) (B := B)
  have G_Cast_informed := g_Cast_informed (P := P) (w := w) (base := base) (K := K) (mg := mg) (CT := He.ga K "Table") (CC := He.ga K "Cast") (F := (by obtain ⟨fd, F⟩ := c.def_ 70 (d := d70) rfl; exact ⟨_, fd, (He.meth_ok (c.fact 120 (f := .meth "Cast" "informed") rfl)), F⟩)) (Cc := Cc) (Tc := Tc) (Pc := P_Person) (hP := hP) (B := B) (G_Cast_check_letters := G_Cast_check_letters) (G_Person_init := G_Person_init) (G_Pers_table := G_Pers_table) (G_Cast_init := G_Cast_init) (G_Cast_put := G_Cast_put) (G_Table_rows := G_Table_rows)
  have G_words_of := g_words_of (P := P) (w := w) (base := base) (K := K) (mg := mg)  (F := (by obtain ⟨fd, F⟩ := c.def_ 71 (d := d71) rfl; exact ⟨_, fd, (He.glo_ok X G (c.fact 121 (f := .glo "words_of") rfl)), F⟩)) (B := B)
  have G_skipped_too := g_skipped_too (P := P) (w := w) (base := base) (K := K) (mg := mg)  (F := (by obtain ⟨fd, F⟩ := c.def_ 72 (d := d72) rfl; exact ⟨_, fd, (He.glo_ok X G (c.fact 122 (f := .glo "skipped_too") rfl)), F⟩)) (B := B)
  have G_next_layer := g_next_layer (P := P) (w := w) (base := base) (K := K) (mg := mg) (CT := He.ga K "Table") (CC := He.ga K "Cast") (F := (by obtain ⟨fd, F⟩ := c.def_ 73 (d := d73) rfl; exact ⟨_, fd, (He.glo_ok X G (c.fact 123 (f := .glo "next_layer") rfl)), F⟩)) (B := B) (G_steps_from := G_steps_from) (G_skipped_too := G_skipped_too)
  have G_least_melt := g_least_melt (P := P) (w := w) (base := base) (K := K) (mg := mg) (CT := He.ga K "Table") (CC := He.ga K "Cast") (F := (by obtain ⟨fd, F⟩ := c.def_ 74 (d := d74) rfl; exact ⟨_, fd, (He.glo_ok X G (c.fact 124 (f := .glo "least_melt") rfl)), F⟩)) (B := B) (G_skipped_too := G_skipped_too) (G_next_layer := G_next_layer)
  have G_clash_in := g_clash_in (P := P) (w := w) (base := base) (K := K) (mg := mg) (CT := He.ga K "Table") (CC := He.ga K "Cast") (F := (by obtain ⟨fd, F⟩ := c.def_ 75 (d := d75) rfl; exact ⟨_, fd, (He.glo_ok X G (c.fact 125 (f := .glo "clash_in") rfl)), F⟩)) (B := B) (G_words_of := G_words_of) (G_least_melt := G_least_melt)
  have G_first_clash := g_first_clash (P := P) (w := w) (base := base) (K := K) (mg := mg) (CT := He.ga K "Table") (CC := He.ga K "Cast") (F := (by obtain ⟨fd, F⟩ := c.def_ 76 (d := d76) rfl; exact ⟨_, fd, (He.glo_ok X G (c.fact 126 (f := .glo "first_clash") rfl)), F⟩)) (Cc := Cc) (G_check_book := G_check_book) (G_Cast_informed := G_Cast_informed) (G_clash_in := G_clash_in)
  exact ok_law FL B G_law_box G_law_stage G_law_cast G_law_apart G_law_subsets G_law_safe G_law_is_words G_law_cast_is G_greatest_book G_first_clash
end Mm

set_option maxHeartbeats 0
open PySem PySem.W PySem.Calls PyProof.Rows
theorem PySem.Challenge.cw_murmurline_k49_whole_greatest_book_holds : PySem.Challenge.rw_murmurline_k49_whole_greatest_book.Holds := by
  w_on; o_law
  refine HandSHeadRun.head_any (r := OpenLaw.row PySem.Challenge.rw_murmurline_k49_whole_greatest_book) (q := view (OpenLaw.row PySem.Challenge.rw_murmurline_k49_whole_greatest_book).prog [89]) (H := Mm.hk) (ob := Mm.obR) (M := 40000) (loose := Mm.names) (d := HandSHeadRun.topDef (OpenLaw.row PySem.Challenge.rw_murmurline_k49_whole_greatest_book).prog 89) (kwd := []) Mm.obR_eq
    (by kernel_rfl) (fun s => by kernel_rfl) Mm.runR (by kernel_rfl) (by kernel_rfl) (by kernel_rfl) (by rfl) (by first | assumption | decide +kernel) (by decide +kernel) ⟨rfl, rfl, rfl, rfl, rfl, by decide +kernel⟩ ?hw ?hc
  case hw => w_witness2
  case hc =>
    refine L2.walk_ofE (l := PySem.Challenge.rw_murmurline_k49_whole_greatest_book) (n := 63) (k := 12) (x := "_law_script") (CX := L2.CX0) rfl (by decide) (by kernel_rfl) ⟨rfl, by decide, by decide⟩ ?F (fun _ _ _ _ z => z)
    intro w mg fa h Y G hmg0
    obtain ⟨K, KX, c⟩ := Y
    have hmg : mg ("law" : PySem.Str) = some (.ref fa) := by
      have e : (HandSHeadRun.topDef (OpenLaw.row PySem.Challenge.rw_murmurline_k49_whole_greatest_book).prog 89).name = ("law" : PySem.Str) := by kernel_rfl
      rw [← e]
      exact hmg0
    obtain ⟨fd, hb, hF⟩ := Mm.facts (P := (PySem.Challenge.rw_murmurline_k49_whole_greatest_book).prog) (w := w) Mm.supT KX G hmg c
    exact ⟨K, fd, Mm.sp_law K, KX, hb, fun H a ns hl _ hS => ⟨a, ns, rfl, hS, hl, fun _ => rfl⟩, hF⟩
