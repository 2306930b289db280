import PyProof.Rows.All
import Wide.All
import OpenK.AllK
import Wide.FinOn
import HandS.ForMost
import HandS.TupLe
import HandS.SortOrd
import HandS.SortKw
import HandS.Deep
import HandS.Rev
import HandS.TupAny
import HandS.More
import HandS.IsInst
import HandS.Walk
import KE.SortKeyHeap
import KE.KDictKeyed
import KE.KDictCopyH
import KE.KDictSum
import KE.DatumOrd
import KE.GoesEnum
import HandS.WideBits
import HandS.ForExc
import HandS.ExcIs
import HandS.Star
import HandS.ForDict
import HandS.Conv
import HandS.Strs
import HandS.SetFor
import KE.GoesComp
import KE.KAsSuite
import HandS.ReplaceList
import HandS.ReplaceLit
import HandS.ReplaceDef
import HandS.Text
import HandS.Style
import PySem.Challenge.RW_nestsets_k03_whole_texts
set_option Elab.async false
set_option linter.all false
set_option maxRecDepth 100000
set_option maxHeartbeats 4000000
namespace Nk
open PySem

/-! ### sets of numbers as numbers -/
def bits (n : Nat) : List Nat := (List.range n).filter fun k => n.testBit k
theorem bit_lt {n k : Nat} (h : n.testBit k = true) : k < n := by
  have h1 : 2 ^ k ≤ n := Nat.ge_two_pow_of_testBit h
  have h2 : k < 2 ^ k := Nat.lt_two_pow_self
  omega
theorem mem_bits {n k : Nat} : k ∈ bits n ↔ n.testBit k = true := by
  unfold bits
  rw [List.mem_filter, List.mem_range]
  exact ⟨fun h => h.2, fun h => ⟨bit_lt h, h⟩⟩
theorem bits_lt {n k : Nat} (h : k ∈ bits n) : k < n := bit_lt (mem_bits.mp h)
theorem bits_asc (n : Nat) : (bits n).Pairwise (· < ·) := List.Pairwise.filter _ List.pairwise_lt_range
theorem asc_unique : ∀ {l m : List Nat}, l.Pairwise (· < ·) → m.Pairwise (· < ·) → (∀ k, k ∈ l ↔ k ∈ m) → l = m
  | [], [], _, _, _ => rfl
  | [], b :: m, _, _, h => absurd ((h b).mpr List.mem_cons_self) (by simp)
  | a :: l, [], _, _, h => absurd ((h a).mp List.mem_cons_self) (by simp)
  | a :: l, b :: m, hl, hm, h => by
    have h1 := List.pairwise_cons.mp hl
    have h2 := List.pairwise_cons.mp hm
    have e : a = b := by
      rcases List.mem_cons.mp ((h a).mp List.mem_cons_self) with e | e
      · exact e
      · rcases List.mem_cons.mp ((h b).mpr List.mem_cons_self) with e' | e'
        · exact e'.symm
        · have := h1.1 b e'
          have := h2.1 a e
          omega
    subst e
    rw [asc_unique h1.2 h2.2 fun k => ⟨fun q => ?_, fun q => ?_⟩]
    · rcases List.mem_cons.mp ((h k).mp (List.mem_cons_of_mem _ q)) with e | e
      · have := h1.1 k q
        omega
      · exact e
    · rcases List.mem_cons.mp ((h k).mpr (List.mem_cons_of_mem _ q)) with e | e
      · have := h2.1 k q
        omega
      · exact e
theorem bits_of {l : List Nat} {n : Nat} (hl : l.Pairwise (· < ·)) (h : ∀ k, k ∈ l ↔ n.testBit k = true) : l = bits n :=
  asc_unique hl (bits_asc n) fun k => (h k).trans mem_bits.symm
theorem bits_inj {n m : Nat} (h : bits n = bits m) : n = m := by
  refine Nat.eq_of_testBit_eq fun k => ?_
  have q : n.testBit k = true ↔ m.testBit k = true := by rw [← mem_bits, ← mem_bits, h]
  cases e : n.testBit k <;> cases e' : m.testBit k <;> simp_all
theorem bits_zero : bits 0 = [] := rfl
theorem bits_nil {n : Nat} : bits n = [] ↔ n = 0 := ⟨fun h => bits_inj (h.trans bits_zero.symm), fun h => by rw [h, bits_zero]⟩
theorem same_bits {n m : Nat} (h : ∀ k, k ∈ bits n ↔ k ∈ bits m) : n = m := bits_inj (asc_unique (bits_asc n) (bits_asc m) h)

/-- the set of the numbers ks -/
def mk : List Nat → Nat
  | [] => 0
  | k :: ks => 2 ^ k ||| mk ks
theorem testBit_mk {ks : List Nat} {k : Nat} : (mk ks).testBit k = true ↔ k ∈ ks := by
  induction ks with
  | nil => simp [mk]
  | cons a ks ih =>
    rw [mk, Nat.testBit_or, Nat.testBit_two_pow, List.mem_cons, Bool.or_eq_true, ih, decide_eq_true_eq]
    exact ⟨fun h => h.imp (fun e => e.symm) id, fun h => h.imp (fun e => e.symm) id⟩
theorem mem_mk {ks : List Nat} {k : Nat} : k ∈ bits (mk ks) ↔ k ∈ ks := mem_bits.trans testBit_mk
theorem mk_bits (n : Nat) : mk (bits n) = n := same_bits fun _ => mem_mk
theorem mk_congr {ks ls : List Nat} (h : ∀ k, k ∈ ks ↔ k ∈ ls) : mk ks = mk ls := same_bits fun k => by rw [mem_mk, mem_mk, h]
theorem bits_mk_asc {l : List Nat} (h : l.Pairwise (· < ·)) : bits (mk l) = l := (bits_of h fun _ => testBit_mk.symm).symm

/-! ### the order -/
/-- the numbers' order by the greatest place at which they part -/
theorem lt_at {n m k : Nat} (h1 : n.testBit k = false) (h2 : m.testBit k = true) (h : ∀ j, k < j → n.testBit j = m.testBit j) : n < m :=
  by
  have e : n / 2 ^ (k + 1) = m / 2 ^ (k + 1) := by
    refine Nat.eq_of_testBit_eq fun j => ?_
    rw [Nat.testBit_div_two_pow, Nat.testBit_div_two_pow]
    exact h _ (by omega)
  have a : n % 2 ^ (k + 1) < 2 ^ k := by
    refine Nat.lt_pow_two_of_testBit _ fun i hi => ?_
    rw [Nat.testBit_mod_two_pow]
    by_cases q : i < k + 1
    · have e : i = k := by omega
      subst e
      rw [h1, Bool.and_false]
    · simp [q]
  have b : 2 ^ k ≤ m % 2 ^ (k + 1) := by
    refine Nat.ge_two_pow_of_testBit ?_
    rw [Nat.testBit_mod_two_pow, h2]
    simp
  have p1 := Nat.div_add_mod n (2 ^ (k + 1))
  have p2 := Nat.div_add_mod m (2 ^ (k + 1))
  rw [e] at p1
  omega
def lexN : List Nat → List Nat → Bool
  | [], [] => false
  | [], _ :: _ => true
  | _ :: _, [] => false
  | a :: as, b :: bs => if a = b then lexN as bs else decide (a < b)
theorem lex_core : ∀ (as bs : List Nat) (n m : Nat) (P : Nat → Prop), as.Pairwise (· > ·) → bs.Pairwise (· > ·) →
    (∀ k, n.testBit k = true ↔ k ∈ as ∨ P k) → (∀ k, m.testBit k = true ↔ k ∈ bs ∨ P k) → (∀ p, P p → (∀ a ∈ as, a < p) ∧ ∀ b ∈ bs, b < p) → lexN as bs = decide (n < m)
  | [], [], n, m, P, _, _, h1, h2, _ => by
    have e : n = m := Nat.eq_of_testBit_eq fun k => by
      have q : n.testBit k = true ↔ m.testBit k = true := by rw [h1, h2]
      cases e : n.testBit k <;> cases e' : m.testBit k <;> simp_all
    subst e
    simp [lexN]
  | [], b :: bs, n, m, P, _, hb, h1, h2, hP => by
    have q : n < m := by
      refine lt_at (k := b) ?_ ((h2 b).mpr (.inl List.mem_cons_self)) fun j hj => ?_
      · cases e : n.testBit b with
        | false => rfl
        | true =>
          rcases (h1 b).mp e with z | z
          · cases z
          · have := (hP b z).2 b List.mem_cons_self
            omega
      · have q : n.testBit j = true ↔ m.testBit j = true := by
          rw [h1, h2]
          refine ⟨fun z => z.elim (fun z => by cases z) .inr, fun z => z.elim (fun z => ?_) .inr⟩
          rcases List.mem_cons.mp z with e | z
          · omega
          · have := (List.pairwise_cons.mp hb).1 j z
            omega
        cases e : n.testBit j <;> cases e' : m.testBit j <;> simp_all
    simp [lexN, q]
  | a :: as, [], n, m, P, ha, _, h1, h2, hP => by
    have q : m < n := by
      refine lt_at (k := a) ?_ ((h1 a).mpr (.inl List.mem_cons_self)) fun j hj => ?_
      · cases e : m.testBit a with
        | false => rfl
        | true =>
          rcases (h2 a).mp e with z | z
          · cases z
          · have := (hP a z).1 a List.mem_cons_self
            omega
      · have q : m.testBit j = true ↔ n.testBit j = true := by
          rw [h1, h2]
          refine ⟨fun z => z.elim (fun z => by cases z) .inr, fun z => z.elim (fun z => ?_) .inr⟩
          rcases List.mem_cons.mp z with e | z
          · omega
          · have := (List.pairwise_cons.mp ha).1 j z
            omega
        cases e : n.testBit j <;> cases e' : m.testBit j <;> simp_all
    have q' : ¬ n < m := by omega
    simp [lexN, q']
  | a :: as, b :: bs, n, m, P, ha, hb, h1, h2, hP => by
    have pa := List.pairwise_cons.mp ha
    have pb := List.pairwise_cons.mp hb
    by_cases e : a = b
    · subst e
      rw [lexN, if_pos rfl]
      refine lex_core as bs n m (fun k => k = a ∨ P k) pa.2 pb.2 (fun k => ?_) (fun k => ?_) fun p hp => ?_
      · rw [h1, List.mem_cons]
        exact ⟨fun z => z.elim (fun z => z.elim (fun z => .inr (.inl z)) .inl) fun z => .inr (.inr z), fun z => z.elim (fun z => .inl (.inr z)) fun z => z.elim (fun z => .inl (.inl z)) .inr⟩
      · rw [h2, List.mem_cons]
        exact ⟨fun z => z.elim (fun z => z.elim (fun z => .inr (.inl z)) .inl) fun z => .inr (.inr z), fun z => z.elim (fun z => .inl (.inr z)) fun z => z.elim (fun z => .inl (.inl z)) .inr⟩
      · rcases hp with e | hp
        · subst e
          exact ⟨fun x hx => pa.1 x hx, fun x hx => pb.1 x hx⟩
        · exact ⟨fun x hx => (hP p hp).1 x (List.mem_cons_of_mem _ hx), fun x hx => (hP p hp).2 x (List.mem_cons_of_mem _ hx)⟩
    · rw [lexN, if_neg e]
      have key : ∀ (a b : Nat) (as bs : List Nat) (n m : Nat), (∀ x ∈ as, x < a) → (∀ x ∈ bs, x < b) → (∀ k, n.testBit k = true ↔ k ∈ a :: as ∨ P k) → (∀ k, m.testBit k = true ↔ k ∈ b :: bs ∨ P k) → (∀ p, P p → a < p ∧ b < p) → a < b → n < m := by
        intro a b as bs n m pa pb h1 h2 hP q
        refine lt_at (k := b) ?_ ((h2 b).mpr (.inl List.mem_cons_self)) fun j hj => ?_
        · cases e : n.testBit b with
          | false => rfl
          | true =>
            rcases (h1 b).mp e with z | z
            · rcases List.mem_cons.mp z with z | z
              · omega
              · have := pa b z
                omega
            · have := (hP b z).2
              omega
        · have q : n.testBit j = true ↔ m.testBit j = true := by
            rw [h1, h2]
            refine ⟨fun z => z.elim (fun z => ?_) .inr, fun z => z.elim (fun z => ?_) .inr⟩
            · rcases List.mem_cons.mp z with z | z
              · omega
              · have := pa j z
                omega
            · rcases List.mem_cons.mp z with z | z
              · omega
              · have := pb j z
                omega
          cases e : n.testBit j <;> cases e' : m.testBit j <;> simp_all
      have hP' : ∀ p, P p → a < p ∧ b < p := fun p hp => ⟨(hP p hp).1 a List.mem_cons_self, (hP p hp).2 b List.mem_cons_self⟩
      by_cases q : a < b
      · have r := key a b as bs n m pa.1 pb.1 h1 h2 hP' q
        simp [q, r]
      · have r := key b a bs as m n pb.1 pa.1 h2 h1 (fun p hp => ⟨(hP' p hp).2, (hP' p hp).1⟩) (by omega)
        have r' : ¬ n < m := by omega
        simp [q, r']
theorem desc_bits (n : Nat) : (bits n).reverse.Pairwise (· > ·) := List.pairwise_reverse.mpr (bits_asc n)
theorem lex_bits (n m : Nat) : lexN (bits n).reverse (bits m).reverse = decide (n < m) :=
  lex_core _ _ n m (fun _ => False) (desc_bits n) (desc_bits m) (fun k => by rw [List.mem_reverse, mem_bits, or_false]) (fun k => by rw [List.mem_reverse, mem_bits, or_false]) fun p hp => hp.elim

/-! ### the law's own order: by the greatest of what stands in just one -/
theorem gt_of_top {a b x y : Nat} (hx : x ∈ bits a ∧ x ∉ bits b) (hy : y ∈ bits b ∧ y ∉ bits a) (mx : ∀ k, k ∈ bits a → k ∉ bits b → k ≤ x) (my : ∀ k, k ∈ bits b → k ∉ bits a → k ≤ y) : decide (b < a) = decide (y < x) := by
  have key : ∀ {a b x y : Nat}, (x ∈ bits a ∧ x ∉ bits b) → (∀ k, k ∈ bits a → k ∉ bits b → k ≤ x) → (∀ k, k ∈ bits b → k ∉ bits a → k ≤ y) → y < x → b < a := by
    intro a b x y hx mx my q
    refine lt_at (k := x) ?_ (mem_bits.mp hx.1) fun j hj => ?_
    · cases e : b.testBit x with
      | false => rfl
      | true => exact absurd (mem_bits.mpr e) hx.2
    · have q : b.testBit j = true ↔ a.testBit j = true := by
        rw [← mem_bits, ← mem_bits]
        refine ⟨fun z => ?_, fun z => ?_⟩
        · by_cases z' : j ∈ bits a
          · exact z'
          · have := my j z z'
            omega
        · by_cases z' : j ∈ bits b
          · exact z'
          · have := mx j z z'
            omega
      cases e : b.testBit j <;> cases e' : a.testBit j <;> simp_all
  by_cases q : y < x
  · have r := key hx mx my q
    simp [q, r]
  · have ne : x ≠ y := fun e => hx.2 (e ▸ hy.1)
    have r := key hy my mx (by omega)
    have r' : ¬ b < a := by omega
    simp [q, r']
theorem gt_no_mine {a b : Nat} (h : ∀ k, k ∈ bits a → k ∈ bits b) : ¬ b < a := by
  intro q
  have r : a ≤ b := by
    rw [Nat.le_iff_lt_or_eq]
    by_cases e : a = b
    · exact .inr e
    · refine .inl ?_
      have nsub : ∃ k, k ∈ bits b ∧ k ∉ bits a := by
        refine Classical.byContradiction fun hn => e (same_bits fun k => ⟨h k, fun z => ?_⟩)
        exact Classical.byContradiction fun z' => hn ⟨k, z, z'⟩
      have : ∃ k, (k ∈ bits b ∧ k ∉ bits a) ∧ ∀ j, j ∈ bits b → j ∉ bits a → j ≤ k := by
        obtain ⟨k0, hk0⟩ := nsub
        have lem : ∀ (d k : Nat), b - k ≤ d → (k ∈ bits b ∧ k ∉ bits a) → ∃ k, (k ∈ bits b ∧ k ∉ bits a) ∧ ∀ j, j ∈ bits b → j ∉ bits a → j ≤ k := by
          intro d
          induction d with
          | zero =>
            intro k hd hk
            have := bits_lt hk.1
            omega
          | succ d ih =>
            intro k hd hk
            by_cases hz : ∃ j, (j ∈ bits b ∧ j ∉ bits a) ∧ k < j
            · obtain ⟨j, hj, hkj⟩ := hz
              have := bits_lt hj.1
              exact ih j (by omega) hj
            · exact ⟨k, hk, fun j h1 h2 => Nat.le_of_not_lt fun hlt => hz ⟨j, ⟨h1, h2⟩, hlt⟩⟩
        exact lem (b - k0) k0 (Nat.le_refl _) hk0
      obtain ⟨k, hk, mx⟩ := this
      refine lt_at (k := k) ?_ (mem_bits.mp hk.1) fun j hj => ?_
      · cases e : a.testBit k with
        | false => rfl
        | true => exact absurd (mem_bits.mpr e) hk.2
      · have q : a.testBit j = true ↔ b.testBit j = true := by
          rw [← mem_bits, ← mem_bits]
          refine ⟨h j, fun z => ?_⟩
          by_cases z' : j ∈ bits a
          · exact z'
          · have := mx j z z'
            omega
        cases e : a.testBit j <;> cases e' : b.testBit j <;> simp_all
  omega
theorem gt_no_yours {a b : Nat} (h : ∀ k, k ∈ bits b → k ∈ bits a) (hx : ∃ k, k ∈ bits a ∧ k ∉ bits b) : b < a := by
  have q := gt_no_mine h
  have ne : a ≠ b := fun e => by
    obtain ⟨k, h1, h2⟩ := hx
    exact h2 (e ▸ h1)
  omega

/-! ### a member put at its place -/
theorem asc_split (m : Nat) : ∀ {l : List Nat}, l.Pairwise (· < ·) → l = (l.filter fun k => decide (k < m)) ++ l.filter fun k => !decide (k < m)
  | [], _ => rfl
  | a :: l, h => by
    have h1 := List.pairwise_cons.mp h
    by_cases e : a < m
    · have ih := asc_split m h1.2
      simp only [List.filter_cons, e, decide_true, if_true, Bool.not_true, Bool.false_eq_true, if_false, List.cons_append]
      rw [← ih]
    · have all : ∀ x ∈ l, ¬ x < m := fun x hx => by have := h1.1 x hx; omega
      have f1 : l.filter (fun k => decide (k < m)) = [] := List.filter_eq_nil_iff.mpr fun x hx => by simp [all x hx]
      have f2 : l.filter (fun k => !decide (k < m)) = l := List.filter_eq_self.mpr fun x hx => by simp [all x hx]
      simp only [List.filter_cons, e, decide_false, Bool.false_eq_true, if_false, Bool.not_false, if_true, f1, f2, List.nil_append]
def insN (l : List Nat) (m : Nat) : List Nat := l.take (l.filter fun k => decide (k < m)).length ++ m :: l.drop (l.filter fun k => decide (k < m)).length
theorem insN_eq {l : List Nat} (m : Nat) (h : l.Pairwise (· < ·)) : insN l m = (l.filter fun k => decide (k < m)) ++ m :: l.filter fun k => !decide (k < m) := by
  unfold insN
  have e := asc_split m h
  have e1 : l.take (l.filter fun k => decide (k < m)).length = l.filter fun k => decide (k < m) := by
    conv => lhs; rw [e]
    rw [List.filter_append, List.filter_filter]
    simp
  have e2 : l.drop (l.filter fun k => decide (k < m)).length = l.filter fun k => !decide (k < m) := by
    conv => lhs; rw [e]
    rw [List.filter_append, List.filter_filter]
    simp
  rw [e1, e2]
theorem insN_asc {l : List Nat} {m : Nat} (h : l.Pairwise (· < ·)) (hm : m ∉ l) : (insN l m).Pairwise (· < ·) := by
  rw [insN_eq m h, List.pairwise_append, List.pairwise_cons]
  refine ⟨h.filter _, ⟨fun x hx => ?_, h.filter _⟩, fun x hx y hy => ?_⟩
  · obtain ⟨h1, h2⟩ := List.mem_filter.mp hx
    have h3 : ¬ x < m := by simpa using h2
    have h4 : x ≠ m := fun e => hm (e ▸ h1)
    omega
  · obtain ⟨h1, h2⟩ := List.mem_filter.mp hx
    have h3 : x < m := by simpa using h2
    rcases List.mem_cons.mp hy with e | hy
    · omega
    · obtain ⟨h4, h5⟩ := List.mem_filter.mp hy
      have h6 : ¬ y < m := by simpa using h5
      omega
theorem mem_insN {l : List Nat} {m k : Nat} (h : l.Pairwise (· < ·)) : k ∈ insN l m ↔ k ∈ l ∨ k = m := by
  rw [insN_eq m h, List.mem_append, List.mem_cons, List.mem_filter, List.mem_filter]
  by_cases e : k < m
  · have n : k ≠ m := by omega
    simp [e, n]
  · simp only [e, decide_false, Bool.false_eq_true, and_false, false_or, Bool.not_false, and_true]
    exact or_comm

theorem nodup_le : ∀ {l ks : List Nat}, l.Nodup → (∀ k ∈ l, k ∈ ks) → l.length ≤ ks.length
  | [], _, _, _ => Nat.zero_le _
  | a :: l, ks, h, hs => by
    have h1 := List.nodup_cons.mp h
    have ha := hs a List.mem_cons_self
    have ih := nodup_le (ks := ks.erase a) h1.2 fun k hk => (List.mem_erase_of_ne (fun e : k = a => h1.1 (by rw [← e]; exact hk))).mpr (hs k (List.mem_cons_of_mem _ hk))
    rw [List.length_erase_of_mem ha] at ih
    have := List.length_pos_of_mem ha
    rw [List.length_cons]
    omega
theorem asc_len {l ks : List Nat} (h : l.Pairwise (· < ·)) (hs : ∀ k ∈ l, k ∈ ks) : l.length ≤ ks.length :=
  nodup_le (h.imp fun {a b} (q : a < b) => Nat.ne_of_lt q) hs

/-! ### depth -/
def dep (n : Nat) : Nat := (bits n).attach.foldr (fun k d => max (dep k.1 + 1) d) 0
termination_by n
decreasing_by exact bits_lt k.2
theorem foldr_attach {α : Type} (l : List Nat) (f : Nat → α → α) (d : α) : l.attach.foldr (fun k d => f k.1 d) d = l.foldr f d := by
  have h : l.attach.foldr (fun k d => f k.1 d) d = (l.attach.map (·.1)).foldr f d := by rw [List.foldr_map]
  rw [h, List.attach_map_subtype_val]
theorem dep_eq (n : Nat) : dep n = (bits n).foldr (fun k d => max (dep k + 1) d) 0 := by
  rw [dep]
  exact foldr_attach (bits n) (fun k d => max (dep k + 1) d) 0
theorem dep_fold_le (l : List Nat) (d : Nat) : l.foldr (fun k d => max (dep k + 1) d) 0 ≤ d ↔ ∀ k ∈ l, dep k + 1 ≤ d := by
  induction l with
  | nil => simp
  | cons a l ih =>
    rw [List.foldr_cons, Nat.max_le, ih]
    simp
theorem dep_le {n d : Nat} : dep n ≤ d ↔ ∀ k ∈ bits n, dep k + 1 ≤ d := by rw [dep_eq, dep_fold_le]
theorem dep_mem {n k : Nat} (h : k ∈ bits n) : dep k + 1 ≤ dep n := dep_le.mp (Nat.le_refl _) k h
theorem dep_mk {ks : List Nat} {d : Nat} (h : ∀ k ∈ ks, dep k + 1 ≤ d) : dep (mk ks) ≤ d := dep_le.mpr fun k hk => h k (mem_mk.mp hk)
theorem dep_zero : dep 0 = 0 := by rw [dep_eq, bits_zero]; rfl
theorem dep_pos {n d : Nat} (h : dep n ≤ d) (k : Nat) (hk : k ∈ bits n) : dep k ≤ d - 1 := by
  have := dep_mem hk
  omega

/-! ### data -/
def dat (n : Nat) : PyData := .tuple ((bits n).attach.map fun k => dat k.1)
termination_by n
decreasing_by exact bits_lt k.2
theorem dat_eq (n : Nat) : dat n = .tuple ((bits n).map dat) := by
  rw [dat]
  congr 1
  have h : ((bits n).attach.map fun k => dat k.1) = ((bits n).attach.map (·.1)).map dat := by rw [List.map_map]; rfl
  rw [h, List.attach_map_subtype_val]
/-- the rank row's data -/
def rkd (n : Nat) : PyData := .tuple ((bits n).attach.map fun k => rkd k.1).reverse
termination_by n
decreasing_by exact bits_lt k.2
theorem rkd_eq (n : Nat) : rkd n = .tuple ((bits n).reverse.map rkd) := by
  rw [rkd]
  congr 1
  have h : ((bits n).attach.map fun k => rkd k.1) = ((bits n).attach.map (·.1)).map rkd := by rw [List.map_map]; rfl
  rw [h, List.attach_map_subtype_val, List.map_reverse]
theorem allLay {f : Nat → PyData} : ∀ {l : List Nat}, (∀ k ∈ l, (f k).canLay0 = true) → PyData.canLayAll0 (l.map f) = true
  | [], _ => by simp [PyData.canLayAll0]
  | a :: l, h => by
    rw [List.map_cons, PyData.canLayAll0, h a List.mem_cons_self, allLay fun k hk => h k (List.mem_cons_of_mem _ hk)]
    rfl
theorem dat_lay (n : Nat) : (dat n).canLay0 = true := by
  induction n using Nat.strongRecOn with
  | ind n ih =>
    rw [dat_eq, PyData.canLay0]
    exact allLay fun k hk => ih k (bits_lt hk)
theorem rkd_lay (n : Nat) : (rkd n).canLay0 = true := by
  induction n using Nat.strongRecOn with
  | ind n ih =>
    rw [rkd_eq, PyData.canLay0]
    exact allLay fun k hk => ih k (bits_lt (List.mem_reverse.mp hk))
theorem dats_lay (l : List Nat) : PyData.canLayAll0 (l.map dat) = true := allLay fun k _ => dat_lay k
theorem depthAll_le {f : Nat → PyData} {d : Nat} : ∀ {l : List Nat}, (∀ k ∈ l, (f k).depth ≤ d) → PyData.depthAll (l.map f) ≤ d
  | [], _ => by simp [PyData.depthAll]
  | a :: l, h => by
    rw [List.map_cons, PyData.depthAll]
    exact Nat.max_le.mpr ⟨h a List.mem_cons_self, depthAll_le fun k hk => h k (List.mem_cons_of_mem _ hk)⟩
theorem dat_depth (n : Nat) : (dat n).depth ≤ dep n + 1 := by
  induction n using Nat.strongRecOn with
  | ind n ih =>
    rw [dat_eq, PyData.depth]
    have := depthAll_le (f := dat) (d := dep n) (l := bits n) fun k hk => Nat.le_trans (ih k (bits_lt hk)) (dep_mem hk)
    omega
theorem rkd_depth (n : Nat) : (rkd n).depth ≤ dep n + 1 := by
  induction n using Nat.strongRecOn with
  | ind n ih =>
    rw [rkd_eq, PyData.depth]
    have := depthAll_le (f := rkd) (d := dep n) (l := (bits n).reverse) fun k hk => Nat.le_trans (ih k (bits_lt (List.mem_reverse.mp hk))) (dep_mem (List.mem_reverse.mp hk))
    omega
theorem eqvAll_map {f : Nat → PyData} : ∀ {l m : List Nat}, (∀ a ∈ l, ∀ b, PyData.eqv (f a) (f b) = decide (a = b)) → PyData.eqvAll (l.map f) (m.map f) = decide (l = m)
  | [], [], _ => by simp [PyData.eqvAll]
  | [], _ :: _, _ => by simp [PyData.eqvAll]
  | _ :: _, [], _ => by simp [PyData.eqvAll]
  | a :: l, b :: m, h => by
    rw [List.map_cons, List.map_cons, PyData.eqvAll, h a List.mem_cons_self, eqvAll_map fun x hx => h x (List.mem_cons_of_mem _ hx)]
    by_cases e1 : a = b <;> by_cases e2 : l = m <;> simp [e1, e2]
theorem dat_eqv (n m : Nat) : PyData.eqv (dat n) (dat m) = decide (n = m) := by
  induction n using Nat.strongRecOn generalizing m with
  | ind n ih =>
    rw [dat_eq n, dat_eq m, PyData.eqv, eqvAll_map fun a ha b => ih a (bits_lt ha) b]
    by_cases e : n = m
    · subst e; simp
    · have e' : ¬ bits n = bits m := fun z => e (bits_inj z)
      simp [e, e']
theorem rkd_eqv (n m : Nat) : PyData.eqv (rkd n) (rkd m) = decide (n = m) := by
  induction n using Nat.strongRecOn generalizing m with
  | ind n ih =>
    rw [rkd_eq n, rkd_eq m, PyData.eqv, eqvAll_map fun a ha b => ih a (bits_lt (List.mem_reverse.mp ha)) b]
    by_cases e : n = m
    · subst e; simp
    · have e' : ¬ (bits n).reverse = (bits m).reverse := fun z => e (bits_inj (by simpa using congrArg List.reverse z))
      simp [e, e']
theorem dat_inj {n m : Nat} (h : dat n = dat m) : n = m := by
  have q := dat_eqv n m
  rw [h, dat_eqv] at q
  simpa using q
theorem any_dat (l : List Nat) (n : Nat) : ((l.map dat).any fun z => PyData.eqv z (dat n)) = decide (n ∈ l) := by
  induction l with
  | nil => simp
  | cons a l ih =>
    rw [List.map_cons, List.any_cons, ih, dat_eqv]
    by_cases e : a = n
    · subst e; simp
    · have e' : ¬ n = a := fun z => e z.symm
      simp [e, e']
end Nk
namespace Nk
open PySem PySem.Spec PyProof.Rows SrtO Srt

theorem ra_get {h : Heap} : ∀ {vs : List Value} {ds : List PyData} {as : List Addr}, ReadsAll h vs ds as → ∀ {j : Nat} {v : Value}, vs[j]? = some v → ∃ d as', ds[j]? = some d ∧ Reads h v d as'
  | [], _, _, r, j, v, e => by simp at e
  | u :: vs, _, _, r, j, v, e => by
    cases r with
    | cons r1 r2 =>
      cases j with
      | zero =>
        simp at e
        subst e
        exact ⟨_, _, rfl, r1⟩
      | succ j =>
        obtain ⟨d, as', e1, e2⟩ := ra_get r2 (j := j) (v := v) (by simpa using e)
        exact ⟨d, as', by simpa using e1, e2⟩
theorem ra_len {h : Heap} : ∀ {vs : List Value} {ds : List PyData} {as : List Addr}, ReadsAll h vs ds as → vs.length = ds.length
  | [], _, _, r => by cases r; rfl
  | u :: vs, _, _, r => by
    cases r with
    | cons r1 r2 => rw [List.length_cons, List.length_cons, ra_len r2]

/-- u reads as the rank row of n -/
def Rk (h : Heap) (u : Value) (n : Nat) : Prop := ∃ as, Reads h u (rkd n) as
theorem Rk.tup {h : Heap} {u : Value} {n : Nat} (r : Rk h u n) : ∃ a items, u = .ref a ∧ h.IsTuple a items ∧ items.size = (bits n).length ∧ ∀ (j : Nat) (v : Value), items.toList[j]? = some v → ∃ k, (bits n).reverse[j]? = some k ∧ Rk h v k := by
  obtain ⟨as, r⟩ := r
  rw [rkd_eq] at r
  cases r with
  | tuple h1 h2 h3 h4 =>
    refine ⟨_, _, rfl, ⟨_, h1, h2, _, h3⟩, ?_, fun j v e => ?_⟩
    · have l := ra_len h4
      rw [List.length_map, List.length_reverse, Array.length_toList] at l
      exact l
    · obtain ⟨d, as', e1, e2⟩ := ra_get h4 e
      rw [List.getElem?_map] at e1
      cases e3 : (bits n).reverse[j]? with
      | none => rw [e3] at e1; cases e1
      | some k =>
        rw [e3] at e1
        cases e1
        exact ⟨k, rfl, as', e2⟩
theorem Rk.keeps {h h' : Heap} {u : Value} {n : Nat} (k : ∀ b o, h.get? b = some o → h'.get? b = some o) (r : Rk h u n) : Rk h' u n := by
  obtain ⟨as, r⟩ := r
  exact ⟨as, PyProof.Rows.Reads.keeps k r⟩
theorem getD_of {l : List Nat} {j k : Nat} (h : l[j]? = some k) : l.getD j 0 = k := by simp [List.getD, h]
theorem lexAt_lexN (as bs : List Nat) : ∀ (k i : Nat), k = min as.length bs.length - i → i ≤ as.length → i ≤ bs.length →
    Ob.lexAt (fun j => decide (as.getD j 0 = bs.getD j 0)) (fun j => decide (as.getD j 0 < bs.getD j 0)) (decide (as.length < bs.length)) i k = lexN (as.drop i) (bs.drop i)
  | 0, i, hk, h1, h2 => by
    rw [Ob.lexAt_zero]
    by_cases e : i = as.length
    · subst e
      rw [List.drop_length]
      by_cases e' : as.length = bs.length
      · rw [e', List.drop_length]
        simp [lexN]
      · have q : as.length < bs.length := by omega
        rw [List.drop_eq_getElem_cons q]
        simp [lexN, q]
    · have q : i = bs.length := by omega
      subst q
      have q2 : bs.length < as.length := by omega
      rw [List.drop_length, List.drop_eq_getElem_cons q2]
      have q3 : ¬ as.length < bs.length := by omega
      simp [lexN, q3]
  | k + 1, i, hk, h1, h2 => by
    have q1 : i < as.length := by omega
    have q2 : i < bs.length := by omega
    have e1 : as.getD i 0 = as[i] := getD_of (List.getElem?_eq_getElem q1)
    have e2 : bs.getD i 0 = bs[i] := getD_of (List.getElem?_eq_getElem q2)
    rw [Ob.lexAt_succ, List.drop_eq_getElem_cons q1, List.drop_eq_getElem_cons q2, lexN, e1, e2, lexAt_lexN as bs k (i + 1) (by omega) (by omega) (by omega)]
    by_cases e : as[i] = bs[i] <;> simp [e]
theorem lexAt_bits (n m : Nat) : Ob.lexAt (fun j => decide ((bits n).reverse.getD j 0 = (bits m).reverse.getD j 0)) (fun j => decide ((bits n).reverse.getD j 0 < (bits m).reverse.getD j 0))
    (decide ((bits n).reverse.length < (bits m).reverse.length)) 0 (min (bits n).reverse.length (bits m).reverse.length) = decide (n < m) := by
  rw [lexAt_lexN _ _ _ 0 (by omega) (Nat.zero_le _) (Nat.zero_le _), List.drop_zero, List.drop_zero, lex_bits]
theorem rk_eqAt {A : Around} {s : Shared} {u v : Value} {n m : Nat} (hu : Rk s.heap u n) (hv : Rk s.heap v m) (hr : A.units + dep n + 1 < cLine) : SeqAt.EqAt A s u v (decide (n = m)) := by
  obtain ⟨as, ru⟩ := hu
  obtain ⟨bs, rv⟩ := hv
  have h := SeqAt.eqAt_reads (rkd n) (rkd m) A s u v as bs ru rv (rkd_lay n) (rkd_lay m) (by have := rkd_depth n; omega)
  rw [rkd_eqv] at h
  exact h
theorem getElem_toList {items : Array Value} {j : Nat} (h : j < items.size) : items.toList[j]? = some items[j] := by
  rw [Array.getElem?_toList]
  exact Array.getElem?_eq_getElem h
/-- a < b of rank rows -/
theorem rk_lt : ∀ (n m : Nat) (A : Around) (s : Shared) (u v : Value), Rk s.heap u n → Rk s.heap v m → A.units + dep n + 1 < cLine → Ob.RcOp .Lt A s u v (decide (n < m)) := by
  intro n
  induction n using Nat.strongRecOn with
  | ind n ih =>
    intro m A s u v hu hv hr
    obtain ⟨a, xs, rfl, ha, la, ga⟩ := hu.tup
    obtain ⟨b, ys, rfl, hb, lb, gb⟩ := hv.tup
    have h := Ob.RcOp.tuples_lt (A := A) (s := s) ha hb (by omega) (e := fun j => decide ((bits n).reverse.getD j 0 = (bits m).reverse.getD j 0)) (r := fun j => decide ((bits n).reverse.getD j 0 < (bits m).reverse.getD j 0))
      (fun j h1 h2 => by
        obtain ⟨k, ek, rk⟩ := ga j _ (getElem_toList h1)
        obtain ⟨l, el, rl⟩ := gb j _ (getElem_toList h2)
        show SeqAt.EqAt A.in1 s xs[j] ys[j] (decide ((bits n).reverse.getD j 0 = (bits m).reverse.getD j 0))
        rw [getD_of ek, getD_of el]
        have hk : k ∈ bits n := List.mem_reverse.mp (List.mem_of_getElem? ek)
        exact rk_eqAt rk rl (by have := dep_mem hk; show A.units + 1 + dep k + 1 < cLine; omega))
      (fun j h1 h2 _ => by
        obtain ⟨k, ek, rk⟩ := ga j _ (getElem_toList h1)
        obtain ⟨l, el, rl⟩ := gb j _ (getElem_toList h2)
        show Ob.RcOp .Lt A.in1 s xs[j] ys[j] (decide ((bits n).reverse.getD j 0 < (bits m).reverse.getD j 0))
        rw [getD_of ek, getD_of el]
        have hk : k ∈ bits n := List.mem_reverse.mp (List.mem_of_getElem? ek)
        exact ih k (bits_lt hk) l A.in1 s _ _ rk rl (by have := dep_mem hk; show A.units + 1 + dep k + 1 < cLine; omega))
    rw [la, lb, ← List.length_reverse (as := bits n), ← List.length_reverse (as := bits m), lexAt_bits] at h
    exact h

/-! ### the three ways in which list.sort compares such keys -/
section
variable {prog : Program} {w : World} {A : Around} {E : Value → Shared → Prop} {s : Shared}
theorem one_general {u v : Value} {n m : Nat} (hu : Rk s.heap u n) (hv : Rk s.heap v m) (hr : A.units + dep n + 1 < cLine) : wpAny (model prog w) A (oneLt' false u v) (fun r s' => s' = s ∧ r = decide (n < m)) (fun _ _ => False) s :=
  PySem.W.kat_one _ _ (rk_lt n m A s u v hu hv hr prog w _ _ ⟨rfl, rfl⟩)
theorem one_type {u v : Value} {n m : Nat} (hu : Rk s.heap u n) (hv : Rk s.heap v m) (hr : A.units + dep n + 2 < cLine) : wpAny (model prog w) A (oneLt' true u v) (fun r s' => s' = s ∧ r = decide (n < m)) (fun _ _ => False) s := by
  obtain ⟨a, xs, rfl, ha, la, ga⟩ := hu.tup
  obtain ⟨b, ys, rfl, hb, lb, gb⟩ := hv.tup
  obtain ⟨⟨cls, dd, data, sl⟩, ho, hc, k1, hd⟩ := id ha
  obtain ⟨⟨cls2, dd2, data2, sl2⟩, ho2, hc2, k2, hd2⟩ := id hb
  simp only at hc hd hc2 hd2
  subst hc hd hc2 hd2
  rw [oneLt'_eq]
  simp only [if_true]
  refine wpAny_bind (wpAny_cRoomFor (by omega) ?_)
  refine wpAny_bind (wpAny_callSpecialIfBound?_slot ⟨_, ho, rfl⟩ F.slot_tuple_lt ?_)
  refine call_meets F.slot_tuple_lt ⟨_, ho, rfl⟩ F.entry_tuple_lt (F.args_tuple_lt_2 _ _)
    (Ob.tuple_ltAt a b xs ys k1 k2 dd dd2 sl sl2 (fun j => decide ((bits n).reverse.getD j 0 = (bits m).reverse.getD j 0)) (fun j => decide ((bits n).reverse.getD j 0 < (bits m).reverse.getD j 0)))
    ⟨ho, ho2, fun j h1 h2 => ?_, fun j h1 h2 _ => ?_, ?_⟩
  · obtain ⟨k, ek, rk⟩ := ga j _ (getElem_toList h1)
    obtain ⟨l, el, rl⟩ := gb j _ (getElem_toList h2)
    show SeqAt.EqAt A.in1 s xs[j] ys[j] (decide ((bits n).reverse.getD j 0 = (bits m).reverse.getD j 0))
    rw [getD_of ek, getD_of el]
    have hk : k ∈ bits n := List.mem_reverse.mp (List.mem_of_getElem? ek)
    exact rk_eqAt rk rl (by have := dep_mem hk; show A.units + 1 + dep k + 1 < cLine; omega)
  · obtain ⟨k, ek, rk⟩ := ga j _ (getElem_toList h1)
    obtain ⟨l, el, rl⟩ := gb j _ (getElem_toList h2)
    show Ob.RcOp .Lt A.in1 s xs[j] ys[j] (decide ((bits n).reverse.getD j 0 < (bits m).reverse.getD j 0))
    rw [getD_of ek, getD_of el]
    have hk : k ∈ bits n := List.mem_reverse.mp (List.mem_of_getElem? ek)
    exact rk_lt k l A.in1 s _ _ rk rl (by have := dep_mem hk; show A.units + 1 + dep k + 1 < cLine; omega)
  · rw [la, lb, ← List.length_reverse (as := bits n), ← List.length_reverse (as := bits m), lexAt_bits]
    exact wpAny_truthy_bool ⟨rfl, rfl⟩
theorem kat_lex {b : Bool} : ∀ (ps qs : List Nat) (us vs : List Value) (i : Nat), us.length = ps.length → vs.length = qs.length → (b && false) = false →
    (∀ (j : Nat) (u : Value) (k : Nat), us[j]? = some u → ps[j]? = some k → Rk s.heap u k ∧ A.units + dep k + 1 < cLine) → (∀ (j : Nat) (u : Value) (k : Nat), vs[j]? = some u → qs[j]? = some k → Rk s.heap u k) →
    PySem.W.KatLex prog w A false (decide (ps.length < qs.length)) (fun r s' => s' = s ∧ r = lexN ps qs) (us.zip vs) i s
  | [], [], us, vs, i, h1, h2, _, _, _ => by
    have e : us = [] := List.eq_nil_of_length_eq_zero h1
    subst e
    exact PySem.W.kat_nil ⟨rfl, by simp [lexN]⟩
  | [], q :: qs, us, vs, i, h1, h2, _, _, _ => by
    have e : us = [] := List.eq_nil_of_length_eq_zero h1
    subst e
    exact PySem.W.kat_nil ⟨rfl, by simp [lexN]⟩
  | p :: ps, [], us, vs, i, h1, h2, _, _, _ => by
    have e : vs = [] := List.eq_nil_of_length_eq_zero h2
    subst e
    rw [List.zip_nil_right]
    exact PySem.W.kat_nil ⟨rfl, by simp [lexN]⟩
  | p :: ps, q :: qs, u :: us, v :: vs, i, h1, h2, hb, gu, gv => by
    obtain ⟨ru, hr⟩ := gu 0 u p rfl rfl
    have rv := gv 0 v q rfl rfl
    rw [List.zip_cons_cons]
    refine PySem.W.kat_cons (rk_eqAt ru rv hr prog w _ _ ?_)
    have el : decide ((p :: ps).length < (q :: qs).length) = decide (ps.length < qs.length) := by simp
    refine PySem.W.kat_go (fun e => ?_) (fun e => ?_)
    · have epq : p = q := of_decide_eq_true e
      refine PySem.W.kat_yes ?_
      have r := kat_lex (b := b) ps qs us vs (i + 1) (by simpa using h1) (by simpa using h2) hb (fun j x k e1 e2 => gu (j + 1) x k (by simpa using e1) (by simpa using e2)) (fun j x k e1 e2 => gv (j + 1) x k (by simpa using e1) (by simpa using e2))
      rw [el]
      have e2 : lexN (p :: ps) (q :: qs) = lexN ps qs := by rw [lexN, if_pos epq]
      rw [e2]
      exact r
    · have npq : ¬ p = q := of_decide_eq_false e
      refine PySem.W.kat_no ?_
      have e2 : lexN (p :: ps) (q :: qs) = decide (p < q) := by rw [lexN, if_neg npq]
      rw [e2]
      exact one_general ru rv hr
theorem tup_type {u v : Value} {n m : Nat} (hu : Rk s.heap u n) (hv : Rk s.heap v m) (hr : A.units + dep n + 1 < cLine) : wpAny (model prog w) A (keyLt' (tuples' false) u v) (fun r s' => s' = s ∧ r = decide (n < m)) (fun _ _ => False) s := by
  obtain ⟨a, xs, rfl, ha, la, ga⟩ := hu.tup
  obtain ⟨b, ys, rfl, hb, lb, gb⟩ := hv.tup
  obtain ⟨o, ho, hc, k1, hd⟩ := id ha
  obtain ⟨o2, ho2, hc2, k2, hd2⟩ := id hb
  refine PySem.W.kat_lt ho hd ho2 hd2 ?_
  have r := kat_lex (prog := prog) (w := w) (A := A) (s := s) (b := false) (bits n).reverse (bits m).reverse xs.toList ys.toList 0 (by rw [Array.length_toList, la, List.length_reverse]) (by rw [Array.length_toList, lb, List.length_reverse]) rfl
    (fun j u k e1 e2 => by
      obtain ⟨k', ek, rk⟩ := ga j u e1
      rw [e2] at ek
      cases ek
      have hk : k ∈ bits n := List.mem_reverse.mp (List.mem_of_getElem? e2)
      exact ⟨rk, by have := dep_mem hk; omega⟩)
    (fun j u k e1 e2 => by
      obtain ⟨k', ek, rk⟩ := gb j u e1
      rw [e2] at ek
      cases ek
      exact rk)
  rw [lex_bits, List.length_reverse, List.length_reverse, ← la, ← lb] at r
  exact r
end
end Nk
namespace Nk
open PySem PySem.Spec PyProof.Rows SrtO Srt L2

/-! ### questions that change nothing -/
section
variable {M : Model} {A : Around} {E : Value → Shared → Prop} {s : Shared} {α β : Type}
/-- t ends, leaves all as it is, and tells a y of T -/
def Tells (M : Model) (A : Around) (E : Value → Shared → Prop) (s : Shared) {α : Type} (t : Sem α) (T : α → Prop) : Prop := ∀ Q : α → Shared → Prop, (∀ y, T y → Q y s) → wpAny M A t Q E s
theorem Tells.now {T : α → Prop} {y : α} (h : T y) : Tells M A E s (pure y) T := fun _ q => wpAny_pure (q y h)
theorem Tells.on {T : α → Prop} {U : β → Prop} {t : Sem α} {f : α → Sem β} (h : Tells M A E s t T) (g : ∀ y, T y → Tells M A E s (f y) U) : Tells M A E s (t >>= f) U := fun Q q => wpAny_bind (h _ fun y ty => g y ty Q q)
theorem Tells.each {T : β → Prop} {f : α → Sem β} : ∀ l : List α, (∀ v ∈ l, Tells M A E s (f v) T) → Tells M A E s (l.mapM f) fun ys => ys.length = l.length ∧ ∀ y ∈ ys, T y
  | [], _ => by
    rw [List.mapM_nil]
    exact .now ⟨rfl, fun y hy => (by cases hy)⟩
  | v :: l, h => by
    rw [List.mapM_cons]
    refine (h v List.mem_cons_self).on fun y ty => (Tells.each l fun u hu => h u (List.mem_cons_of_mem _ hu)).on fun ys tys => .now ⟨congrArg (· + 1) tys.1, fun z hz => ?_⟩
    rcases List.mem_cons.mp hz with e | hz
    · exact e ▸ ty
    · exact tys.2 z hz
theorem Tells.arr {T : β → Prop} {f : α → Sem β} {l : List α} (h : ∀ v ∈ l, Tells M A E s (f v) T) : Tells M A E s (l.toArray.mapM f) fun ys => ys.size = l.length ∧ ∀ y ∈ ys.toList, T y := by
  have all := (Tells.each l h).on (U := fun ys : Array β => ys.size = l.length ∧ ∀ y ∈ ys.toList, T y) (f := fun ys => pure ys.toArray) fun ys tys => .now tys
  rw [List.mapM_toArray]
  rwa [← map_eq_pure_bind] at all

/-! ### the kind that list.sort finds -/
/-- a tuple -/
def IsT (h : Heap) (v : Value) : Prop := ∃ a items, v = .ref a ∧ h.IsTuple a items
theorem tells_tup {v : Value} (h : IsT s.heap v) : Tells M A E s (typeOf v) (· = .type "tuple") := by
  obtain ⟨a, _, rfl, o, there, isT, _⟩ := h
  exact fun Q q => wpAny_typeOf ⟨o, there, isT⟩ (q _ rfl)
theorem tells_first {v : Value} (h : ∃ a items, v = .ref a ∧ s.heap.IsTuple a items ∧ ∀ x ∈ items.toList, IsT s.heap x) : Tells M A E s (firstOfTuple' v) fun y => ∀ x, y = some x → IsT s.heap x := by
  obtain ⟨a, items, rfl, tup, all⟩ := h
  obtain ⟨_, there, _, _, isS⟩ := id tup
  rw [PySem.W.kas_first_eq]
  refine (tells_tup ⟨a, items, rfl, tup⟩).on fun T e => ?_
  subst e
  refine Tells.on (T := (· = items)) (fun Q q => listItems_at there isS (q _ rfl)) fun its e => .now fun x at0 => ?_
  subst e
  exact all x (Array.mem_toList_iff.mpr (Array.mem_of_getElem? at0))
theorem tells_one {l : List Value} (some_ : 0 < l.length) (h : ∀ v ∈ l, IsT s.heap v) : Tells M A E s (oneTypeOnly' l.toArray) (· = some (.type "tuple")) := by
  rw [oneTypeOnly'_eq]
  refine (Tells.arr fun v hv => tells_tup (h v hv)).on fun ts ⟨size, all⟩ => ?_
  have at0 : ts[0]? = some (.type "tuple") := by
    have z : ts[0]? = some (ts[0]'(by omega)) := Array.getElem?_eq_getElem _
    rw [z, all _ (Array.mem_toList_iff.mpr (Array.getElem_mem _))]
  have same : (ts.all fun x => x == Value.type "tuple") = true := by
    rw [← Array.all_toList, List.all_eq_true]
    intro x hx
    rw [all x hx]
    rfl
  rw [at0]
  exact .now (if_pos same)
theorem rank_kind {vs : List Value} (h2 : 2 ≤ vs.length) (hv : ∀ v ∈ vs, ∃ n, Rk s.heap v n) : Tells M A E s (keyKind' vs.toArray) fun κ => κ = general' ∨ κ = oneType' ∨ κ = tuples' false := by
  have deep : ∀ v ∈ vs, ∃ a items, v = .ref a ∧ s.heap.IsTuple a items ∧ ∀ x ∈ items.toList, IsT s.heap x := fun v hm => by
    obtain ⟨n, r⟩ := hv v hm
    obtain ⟨a, items, e, ht, _, g⟩ := r.tup
    refine ⟨a, items, e, ht, fun x hx => ?_⟩
    obtain ⟨j, hj⟩ := List.getElem?_of_mem hx
    obtain ⟨_, _, rk⟩ := g j x hj
    obtain ⟨b, its, eb, hb, _⟩ := rk.tup
    exact ⟨b, its, eb, hb⟩
  rw [keyKind'_eq]
  refine (Tells.arr fun v hm => tells_first (deep v hm)).on fun fs ⟨size, firsts⟩ => ?_
  split
  · rename_i full
    have full' : ∀ f ∈ fs.toList, f.isSome = true := by
      rw [← Array.all_toList, List.all_eq_true] at full
      exact full
    refine Tells.on (T := fun _ => True) (fun Q q => wpAny_rule (q _ trivial)) fun _ _ => ?_
    have names : fs.filterMap id = (fs.toList.filterMap id).toArray := by
      rw [← Array.toList_inj, Array.toList_filterMap]
    rw [names]
    refine (tells_one (l := fs.toList.filterMap id) ?_ fun v hm => ?_).on fun one e => .now ?_
    · have z : fs.toList.length = vs.length := by rw [Array.length_toList, size]
      revert full' z
      cases fs.toList with
      | nil => intro _ z; rw [List.length_nil] at z; omega
      | cons f fr =>
        intro ok _
        cases f with
        | none => exact absurd (ok none List.mem_cons_self) (by decide)
        | some x => exact Nat.succ_pos _
    · obtain ⟨f, hf, ef⟩ := List.mem_filterMap.mp hm
      exact firsts f hf v ef
    · subst e
      exact .inr (.inr rfl)
  · split
    · exact .now (.inl rfl)
    · refine (tells_one (by omega) fun v hm => ?_).on fun one e => .now ?_
      · obtain ⟨a, items, e, ht, _⟩ := deep v hm
        exact ⟨a, items, e, ht⟩
      · subst e
        exact .inr (.inl rfl)
end

/-! ### the number of a rank row -/
theorem Rk.inj {h : Heap} {u : Value} {n m : Nat} (a : Rk h u n) (b : Rk h u m) : n = m := by
  obtain ⟨as, ra⟩ := a
  obtain ⟨bs, rb⟩ := b
  have e := (SeqAt.readOf_eq (rkd_lay n) ra).symm.trans (SeqAt.readOf_eq (rkd_lay m) rb)
  have q := rkd_eqv n m
  rw [e, rkd_eqv] at q
  simpa using q
open Classical in
noncomputable def kn (h : Heap) (u : Value) : Nat := if x : ∃ n, Rk h u n then x.choose else 0
theorem kn_of {h : Heap} {u : Value} {n : Nat} (r : Rk h u n) : kn h u = n := by
  unfold kn
  have x : ∃ n, Rk h u n := ⟨n, r⟩
  rw [dif_pos x]
  exact x.choose_spec.inj r
noncomputable def ltK (h : Heap) : Keyed → Keyed → Bool := fun p q => decide (kn h p.1 < kn h q.1)
theorem ltK_swo (h : Heap) : Swo (ltK h) := by
  refine ⟨fun x y q => ?_, fun x y z q1 q2 => ?_⟩
  · have := of_decide_eq_true q
    exact decide_eq_false (by omega)
  · have a := of_decide_eq_false q1
    have b := of_decide_eq_false q2
    exact decide_eq_false (by omega)
section
variable {prog : Program} {w : World} {A : Around} {E : Value → Shared → Prop} {s : Shared}
theorem rank_cmp {κ : SortKind} {D : Nat} (hk : κ = general' ∨ κ = oneType' ∨ κ = tuples' false) (hr : A.units + D + 2 < cLine) : SrtO.Cmp prog w A s κ (fun p => ∃ n, Rk s.heap p.1 n ∧ dep n ≤ D) (ltK s.heap) := by
  rintro p q ⟨n, rn, dn⟩ ⟨m, rm, dm⟩
  have e : ltK s.heap p q = decide (n < m) := by unfold ltK; rw [kn_of rn, kn_of rm]
  rw [e]
  rcases hk with rfl | rfl | rfl
  · exact one_general rn rm (by omega)
  · exact one_type rn rm (by omega)
  · exact tup_type rn rm (by omega)

/-- the store of keys is emptied, the list filled anew -/
theorem sort_fill {a kS : Addr} {e e1 : Nat} {keys : Array Value} {st : SortSt} {P : PySem.Fin → Shared → Prop} (nk : s.heap.get? kS = some (seqObj "list" keys e)) (na : s.heap.get? a = some (seqObj "list" #[] e1)) (apart : kS ≠ a) (fits : keys.size ≤ sizeLine) (fits2 : (arrOf st).size ≤ sizeLine) (fine : failedOf st = none)
    (h : ∀ h' tk c, (∀ b o, b ≠ kS → b ≠ a → s.heap.get? b = some o → h'.get? b = some o) → h'.get? a = some (seqObj "list" ((arrOf st).map (·.2)) c) → P (.done (.ret .none)) { s with heap := h', toks := tk }) : wpAny (model prog w) A (ksk_tail a false e1 (.ref kS) st) P E s := by
  have na1 : (s.heap.update kS (Obj.mapSeq fun _ => #[])).get? a = some (seqObj "list" #[] e1) := (Heap.get?_update_other _ _ apart).trans na
  have step1 := fun A2 E2 Q2 => listUpdate_at (M := model prog w) (A := A2) (E := E2) (Q := Q2) (f := fun _ => #[]) nk rfl
  have fits3 : ((arrOf st).map (·.2)).size ≤ sizeLine + 1 := by
    rw [Array.size_map]
    omega
  have step2 := fun A2 E2 Q2 => listUpdate_at (M := model prog w) (A := A2) (E := E2) (Q := Q2) (s := { s with heap := s.heap.update kS (Obj.mapSeq fun _ => #[]) }) (f := fun _ => (arrOf st).map (·.2)) na1 rfl
  have at_ := get?_update_seq na1 fun _ => (arrOf st).map (·.2)
  unfold ksk_tail
  simp only [fine, Bool.false_eq_true, if_false]
  wp_walk using step1 _ _ _, step2 _ _ _, wpAny_letGo
  all_goals first | exact fits3 | skip
  refine h _ s.toks _ (fun b o n1 n2 z => ?_) at_
  exact (Heap.get?_update_other _ _ (Ne.symm n2)).trans ((Heap.get?_update_other _ _ (Ne.symm n1)).trans z)
/-- a key and its item, the key by its number -/
noncomputable def num (h : Heap) (p : Keyed) : Nat × Value := (kn h p.1, p.2)
theorem num_zip {h : Heap} : ∀ {ks vs : List Value} {ns : List Nat}, ks.length = vs.length → ns.length = vs.length → (∀ (i : Nat) (k : Value) (n : Nat), ks[i]? = some k → ns[i]? = some n → Rk h k n) → (ks.zip vs).map (num h) = ns.zip vs
  | [], [], [], _, _, _ => rfl
  | k :: ks, v :: vs, n :: ns, l1, l2, r => by
    rw [List.zip_cons_cons, List.zip_cons_cons, List.map_cons, num_zip (Nat.succ.inj l1) (Nat.succ.inj l2) fun i x m h1 h2 => r (i + 1) x m h1 h2]
    unfold num
    rw [kn_of (r 0 k n rfl rfl)]
  | [], _ :: _, _, l1, _, _ => by cases l1
  | _ :: _, [], _, l1, _, _ => by cases l1
  | [], [], _ :: _, _, l2, _ => by cases l2
  | _ :: _, _ :: _, [], _, l2, _ => by cases l2
/-- the end of list.sort: the keys stand in kS, the list at a is empty -/
theorem sort_end {a kS : Addr} {e e1 D : Nat} {vs : List Value} {keys : Array Value} {ns : List Nat} {P : PySem.Fin → Shared → Prop} (nk : s.heap.get? kS = some (seqObj "list" keys e)) (na : s.heap.get? a = some (seqObj "list" #[] e1)) (apart : kS ≠ a)
    (many : keys.size = vs.length) (many2 : ns.length = vs.length) (rank : ∀ (i : Nat) (k : Value) (n : Nat), keys.toList[i]? = some k → ns[i]? = some n → Rk s.heap k n ∧ dep n ≤ D) (few : vs.length ≤ sizeLine) (room : A.units + D + 2 < cLine)
    (q : ∀ h' tk (ps : List (Nat × Value)) (c : Nat), (∀ b o, b ≠ kS → b ≠ a → s.heap.get? b = some o → h'.get? b = some o) → h'.get? a = some (seqObj "list" (ps.map (·.2)).toArray c) → ps.Perm (ns.zip vs) → ps.Pairwise (fun p q => p.1 ≤ q.1) → P (.done (.ret .none)) { s with heap := h', toks := tk }) :
    wpAny (model prog w) A (ksk_end a false vs.toArray e1 (.ref kS) keys) P E s := by
  have many' : keys.toList.length = vs.length := many
  have ranked : ∀ k ∈ keys.toList, ∃ n, Rk s.heap k n ∧ dep n ≤ D := fun k hk => by
    obtain ⟨i, hi⟩ := List.mem_iff_getElem?.mp hk
    have less : i < ns.length := by
      have := (List.getElem?_eq_some_iff.mp hi).1
      omega
    exact ⟨_, rank i k _ hi (List.getElem?_eq_getElem less)⟩
  have onward : ∀ st : SortSt, Srtd (ltK s.heap) (arrOf st).toList → (arrOf st).toList.Perm (keys.zip vs.toArray).toList → failedOf st = none → wpAny (model prog w) A (ksk_tail a false e1 (.ref kS) st) P E s := fun st inOrder perm fine => by
    rw [ksk_zip] at perm
    have size : (arrOf st).size = vs.length := by
      have := perm.length_eq
      rw [Array.length_toList, List.length_zip] at this
      omega
    refine sort_fill nk na apart (many ▸ few) (size ▸ few) fine fun h' tk c kept at_ => q h' tk ((arrOf st).toList.map (num s.heap)) c kept ?_ ?_ (List.pairwise_map.mpr (inOrder.imp fun {x y} z => Nat.le_of_not_lt (of_decide_eq_false z)))
    · rw [at_, List.map_map]
      congr 2
      rw [← Array.toList_inj, Array.toList_map]
      rfl
    · rw [← num_zip many' many2 fun i k n h1 h2 => (rank i k n h1 h2).1]
      exact perm.map _
  unfold ksk_end
  dsimp only
  rw [if_neg Bool.false_ne_true]
  by_cases short : vs.toArray.size < 2
  · rw [if_pos short, if_pos short]
    have start := onward (SortSt.mk' general' (keys.zip vs.toArray) #[] 7 none) ?_ (List.Perm.refl _) rfl
    · exact wpAny_bind (wpAny_pure (wpAny_bind (m := pure ((), SortSt.mk' general' (keys.zip vs.toArray) #[] 7 none)) (wpAny_pure start)))
    show Srtd (ltK s.heap) (keys.zip vs.toArray).toList
    rw [ksk_zip]
    rw [List.size_toArray] at short
    cases vs with
    | nil => rw [List.zip_nil_right]; exact .nil
    | cons v vs =>
      cases vs with
      | cons _ _ => exact absurd short (by rw [List.length_cons, List.length_cons]; omega)
      | nil =>
        cases keys.toList with
        | nil => exact .nil
        | cons k ks => rw [List.zip_cons_cons, List.zip_nil_right]; exact List.pairwise_singleton _ _
  · rw [if_neg short, if_neg short]
    rw [List.size_toArray] at short
    have kind := rank_kind (M := model prog w) (A := A) (E := E) (s := s) (vs := keys.toList) (by omega) fun v hv => by
      obtain ⟨n, r, _⟩ := ranked v hv
      exact ⟨n, r⟩
    rw [Array.toArray_toList] at kind
    refine wpAny_bind (kind _ fun κ hκ => ?_)
    have all : AllL (fun p : Keyed => ∃ n, Rk s.heap p.1 n ∧ dep n ≤ D) (keys.zip vs.toArray).toList := fun p hp => by
      rw [ksk_zip] at hp
      exact ranked p.1 (List.of_mem_zip (a := p.1) (b := p.2) hp).1
    have run := wpS_sortO (prog := prog) (w := w) (st0 := SortSt.mk' κ (keys.zip vs.toArray) #[] 7 none) (E := E)
      (Q := fun _ st => Srtd (ltK s.heap) (arrOf st).toList ∧ (arrOf st).toList.Perm (keys.zip vs.toArray).toList ∧ failedOf st = none) (ltK_swo s.heap) (rank_cmp hκ room) rfl all rfl rfl fun st h1 h2 h3 => ⟨h1, h2.perm, h3⟩
    refine wpAny_bind (wpAny_mono run ?_ fun _ _ z => z)
    rintro ⟨u, st⟩ s2 ⟨rfl, h1, h2, h3⟩
    cases u
    exact onward st h1 h2 h3
end
end Nk
namespace Nk
open PySem PySem.Spec PyProof.Rows L2

/-! ### nests in the abstract heap -/
/-- sequences stay -/
structure Grow (K : PySem.W.Frag) (H H' : Hp) : Prop where
  tup : ∀ a xs, SqT K H a xs → SqT K H' a xs
theorem Grow.refl {K : PySem.W.Frag} (H : Hp) : Grow K H H := ⟨fun _ _ h => h⟩
theorem Grow.trans {K : PySem.W.Frag} {H H1 H2 : Hp} (a : Grow K H H1) (b : Grow K H1 H2) : Grow K H H2 := ⟨fun c xs h => b.tup c xs (a.tup c xs h)⟩
theorem sqT_same {K : PySem.W.Frag} {H H' : Hp} {a : Addr} {xs : List V} (e : Same H H') (h : SqT K H a xs) : SqT K H' a xs := by
  rcases h with (h | ⟨o, h⟩) | h
  · exact .inl (.inl (e _ _ h))
  · exact .inl (.inr ⟨o, e _ _ h⟩)
  · exact .inr h
theorem Grow.of {K : PySem.W.Frag} {H H' : Hp} (h : Same H H') : Grow K H H' := ⟨fun _ _ q => sqT_same h q⟩
/-- a store at an address that holds no tuple -/
theorem Grow.upd {K : PySem.W.Frag} {H : Hp} {a : Addr} {o : HO} (h : ∀ o', H a = some o' → (∀ xs, o' ≠ .tup xs) ∧ ∀ ob u, o' ≠ .frz ob u) : Grow K H (upd H a o) := by
  refine ⟨fun c xs q => ?_⟩
  rcases q with (q | ⟨ob, q⟩) | q
  · refine .inl (.inl ?_)
    rw [upd_ne (fun e : c = a => (h _ (by rw [← e]; exact q)).1 xs rfl)]
    exact q
  · refine .inl (.inr ⟨ob, ?_⟩)
    rw [upd_ne (fun e : c = a => (h _ (by rw [← e]; exact q)).2 ob _ rfl)]
    exact q
  · exact .inr q
theorem Grow.new {K : PySem.W.Frag} {H : Hp} {a : Addr} {o : HO} (h : H a = none) : Grow K H (L2.upd H a o) := Grow.upd fun o' e => by rw [h] at e; cases e
theorem Grow.lst {K : PySem.W.Frag} {H : Hp} {a : Addr} {xs : List V} {o : HO} (h : H a = some (.lst xs)) : Grow K H (L2.upd H a o) := Grow.upd fun o' e => by
  rw [h] at e
  cases e
  exact ⟨fun _ q => (by cases q), fun _ _ q => (by cases q)⟩

mutual
/-- nested tuples -/
inductive Tp (K : PySem.W.Frag) (H : Hp) : V → PyData → Prop
  | tup {a : Addr} {xs : List V} {ds : List PyData} : SqT K H a xs → TpAll K H xs ds → Tp K H (.ref a) (.tuple ds)
inductive TpAll (K : PySem.W.Frag) (H : Hp) : List V → List PyData → Prop
  | nil : TpAll K H [] []
  | cons {v : V} {vs : List V} {d : PyData} {ds : List PyData} : Tp K H v d → TpAll K H vs ds → TpAll K H (v :: vs) (d :: ds)
end
section
variable {K : PySem.W.Frag} {H H' : Hp}
mutual
theorem Tp.grow (g : Grow K H H') : ∀ {v : V} {d : PyData}, Tp K H v d → Tp K H' v d
  | _, _, .tup h r => .tup (g.tup _ _ h) (TpAll.grow g r)
theorem TpAll.grow (g : Grow K H H') : ∀ {vs : List V} {ds : List PyData}, TpAll K H vs ds → TpAll K H' vs ds
  | _, _, .nil => .nil
  | _, _, .cons h r => .cons (Tp.grow g h) (TpAll.grow g r)
end
mutual
theorem Tp.dp : ∀ {v : V} {d : PyData}, Tp K H v d → Dp K H v d
  | _, _, .tup h r => .tup h (TpAll.dp r)
theorem TpAll.dp : ∀ {vs : List V} {ds : List PyData}, TpAll K H vs ds → DpAll K H vs ds
  | _, _, .nil => .nil
  | _, _, .cons h r => .cons (Tp.dp h) (TpAll.dp r)
end
theorem TpAll.len : ∀ {vs : List V} {ds : List PyData}, TpAll K H vs ds → vs.length = ds.length
  | _, _, .nil => rfl
  | _, _, .cons _ r => by rw [List.length_cons, List.length_cons, TpAll.len r]
theorem TpAll.get : ∀ {vs : List V} {ds : List PyData}, TpAll K H vs ds → ∀ {j : Nat} {v : V}, vs[j]? = some v → ∃ d, ds[j]? = some d ∧ Tp K H v d
  | _, _, .nil, j, v, e => by simp at e
  | _, _, .cons h r, 0, v, e => by
    simp at e
    subst e
    exact ⟨_, rfl, h⟩
  | _, _, .cons h r, j + 1, v, e => by
    obtain ⟨d, e1, e2⟩ := TpAll.get r (j := j) (v := v) (by simpa using e)
    exact ⟨d, by simpa using e1, e2⟩
theorem TpAll.get' : ∀ {vs : List V} {ds : List PyData}, TpAll K H vs ds → ∀ {j : Nat} {d : PyData}, ds[j]? = some d → ∃ v, vs[j]? = some v ∧ Tp K H v d
  | _, _, .nil, j, v, e => by simp at e
  | _, _, .cons h r, 0, v, e => by
    simp at e
    subst e
    exact ⟨_, rfl, h⟩
  | _, _, .cons h r, j + 1, v, e => by
    obtain ⟨d, e1, e2⟩ := TpAll.get' r (j := j) (d := v) (by simpa using e)
    exact ⟨d, by simpa using e1, e2⟩
theorem TpAll.app : ∀ {vs ws : List V} {ds es : List PyData}, TpAll K H vs ds → TpAll K H ws es → TpAll K H (vs ++ ws) (ds ++ es)
  | _, _, _, _, .nil, s => s
  | _, _, _, _, .cons h r, s => .cons h (TpAll.app r s)
theorem TpAll.of {f : Nat → PyData} : ∀ {ps : List (Nat × V)}, (∀ p ∈ ps, Tp K H p.2 (f p.1)) → TpAll K H (ps.map (·.2)) ((ps.map (·.1)).map f)
  | [], _ => .nil
  | p :: ps, h => .cons (h p List.mem_cons_self) (TpAll.of fun q hq => h q (List.mem_cons_of_mem _ hq))
theorem TpAll.pairs {f : Nat → PyData} : ∀ {vs : List V} {ns : List Nat}, TpAll K H vs (ns.map f) → ∃ ps : List (Nat × V), ps.map (·.2) = vs ∧ ps.map (·.1) = ns ∧ ∀ p ∈ ps, Tp K H p.2 (f p.1)
  | [], [], _ => ⟨[], rfl, rfl, fun p h => by cases h⟩
  | [], _ :: _, h => by cases h
  | _ :: _, [], h => by cases h
  | v :: vs, n :: ns, h => by
    cases h with
    | cons h1 h2 =>
      obtain ⟨ps, e1, e2, g⟩ := TpAll.pairs h2
      refine ⟨(n, v) :: ps, by rw [List.map_cons, e1], by rw [List.map_cons, e2], fun p hp => ?_⟩
      rcases List.mem_cons.mp hp with e | hp
      · subst e; exact h1
      · exact g p hp
end
/-- v is the nest whose number is n -/
abbrev Na (K : PySem.W.Frag) (H : Hp) (v : V) (n : Nat) : Prop := Tp K H v (dat n)
abbrev NaAll (K : PySem.W.Frag) (H : Hp) (vs : List V) (ns : List Nat) : Prop := TpAll K H vs (ns.map dat)
theorem Na.tup {K : PySem.W.Frag} {H : Hp} {v : V} {n : Nat} (h : Na K H v n) : ∃ a xs, v = .ref a ∧ SqT K H a xs ∧ NaAll K H xs (bits n) := by
  have h' : Tp K H v (.tuple ((bits n).map dat)) := by rw [← dat_eq]; exact h
  cases h' with
  | tup h1 h2 => exact ⟨_, _, rfl, h1, h2⟩
theorem Na.of {K : PySem.W.Frag} {H : Hp} {a : Addr} {xs : List V} {n : Nat} (h : SqT K H a xs) (r : NaAll K H xs (bits n)) : Na K H (.ref a) n := by
  show Tp K H (.ref a) (dat n)
  rw [dat_eq]
  exact .tup h r
theorem shaped_dat {n : Nat} (h : dep n ≤ 60) : SeqAt.shaped (dat n) = true := by
  have := dat_depth n
  unfold SeqAt.shaped
  rw [dat_lay, Bool.true_and]
  exact decide_eq_true (by omega)
theorem shaped_dats {ns : List Nat} (h : ∀ n ∈ ns, dep n ≤ 60) : SeqAt.shaped (.list (ns.map dat)) = true := by
  have := depthAll_le (f := dat) (d := 61) (l := ns) fun k hk => by have := dat_depth k; have := h k hk; omega
  unfold SeqAt.shaped
  rw [PyData.canLay0, dats_lay, Bool.true_and]
  refine decide_eq_true ?_
  rw [PyData.depth]
  omega

/-! ### operators on nests -/
section
variable {X : Cx}
/-- a == b -/
def rEqN (K : PySem.W.Frag) : R2 := fun x y H Q => ∃ n m, Na K H x n ∧ Na K H y m ∧ dep n ≤ 60 ∧ dep m ≤ 60 ∧ Q (.bl (decide (n = m))) H
theorem op_eqN (hu : X.A.units + 64 < cLine) : OpR X (compareOp .Eq) (rEqN X.K) := by
  intro pins s σ H x y v u Q I rx ry h
  obtain ⟨n, m, h1, h2, d1, d2, q⟩ := h
  refine op_eqD hu pins s σ H x y v u Q I rx ry ⟨_, _, h1.dp, h2.dp, shaped_dat d1, shaped_dat d2, ?_⟩
  rw [dat_eqv]
  exact q
def rNeN (K : PySem.W.Frag) : R2 := fun x y H Q => ∃ n m, Na K H x n ∧ Na K H y m ∧ dep n ≤ 60 ∧ dep m ≤ 60 ∧ Q (.bl (!decide (n = m))) H
theorem op_neN (hu : X.A.units + 64 < cLine) : OpR X (compareOp .NotEq) (rNeN X.K) := by
  intro pins s σ H x y v u Q I rx ry h
  obtain ⟨n, m, h1, h2, d1, d2, q⟩ := h
  refine op_neD hu pins s σ H x y v u Q I rx ry ⟨_, _, h1.dp, h2.dp, shaped_dat d1, shaped_dat d2, ?_⟩
  rw [dat_eqv]
  exact q
/-- a in xs, xs a list or a tuple of nests -/
def rInN (K : PySem.W.Frag) (neg : Bool) : R2 := fun x y H Q => ∃ n a xs ns, Na K H x n ∧ dep n ≤ 60 ∧ y = .ref a ∧ (SqL K H a xs ∨ SqT K H a xs) ∧ NaAll K H xs ns ∧ (∀ k ∈ ns, dep k ≤ 60) ∧
  Q (.bl (if neg then !decide (n ∈ ns) else decide (n ∈ ns))) H
theorem op_inN (hu : X.A.units + 66 < cLine) : OpR X (compareOp .In) (rInN X.K false) := by
  intro pins s σ H x y v u Q I rx ry h
  obtain ⟨n, a, xs, ns, h1, d1, rfl, hs, h2, d2, q⟩ := h
  obtain ⟨as, r1⟩ := Dp.reads I _ x v h1.dp rx
  have hq : Q (.bl ((ns.map dat).any fun z => PyData.eqv z (dat n))) H := by rw [any_dat]; exact q
  have hdn := dat_depth n
  rcases hs with hs | hs
  · obtain ⟨bs, r2⟩ := Dp.reads I (.list (ns.map dat)) (.ref a) u (.lst hs h2.dp) ry
    exact SeqAt.in_list_reads r2 r1 (dats_lay ns) (dat_lay n) (by omega) ⟨.bl _, H, I, rfl, hq⟩
  · obtain ⟨bs, r2⟩ := Dp.reads I (.tuple (ns.map dat)) (.ref a) u (.tup hs h2.dp) ry
    exact SeqAt.in_tuple_reads r2 r1 (dats_lay ns) (dat_lay n) (by omega) ⟨.bl _, H, I, rfl, hq⟩
theorem op_notInN (hu : X.A.units + 66 < cLine) : OpR X (compareOp .NotIn) (rInN X.K true) := by
  intro pins s σ H x y v u Q I rx ry h
  obtain ⟨n, a, xs, ns, h1, d1, rfl, hs, h2, d2, q⟩ := h
  obtain ⟨as, r1⟩ := Dp.reads I _ x v h1.dp rx
  have hq : Q (.bl (!((ns.map dat).any fun z => PyData.eqv z (dat n)))) H := by rw [any_dat]; exact q
  have hdn := dat_depth n
  rcases hs with hs | hs
  · obtain ⟨bs, r2⟩ := Dp.reads I (.list (ns.map dat)) (.ref a) u (.lst hs h2.dp) ry
    exact SeqAt.notIn_list_reads r2 r1 (dats_lay ns) (dat_lay n) (by omega) ⟨.bl _, H, I, rfl, hq⟩
  · obtain ⟨bs, r2⟩ := Dp.reads I (.tuple (ns.map dat)) (.ref a) u (.tup hs h2.dp) ry
    exact SeqAt.notIn_tuple_reads r2 r1 (dats_lay ns) (dat_lay n) (by omega) ⟨.bl _, H, I, rfl, hq⟩
/-- a < b of rank rows -/
def rLtR (K : PySem.W.Frag) : R2 := fun x y H Q => ∃ n m, Tp K H x (rkd n) ∧ Tp K H y (rkd m) ∧ dep n ≤ 60 ∧ Q (.bl (decide (n < m))) H
theorem op_ltR (hu : X.A.units + 64 < cLine) : OpR X (compareOp .Lt) (rLtR X.K) := by
  intro pins s σ H x y v u Q I rx ry h
  obtain ⟨n, m, h1, h2, d1, q⟩ := h
  exact rk_lt n m X.A s v u (Dp.reads I _ x v h1.dp rx) (Dp.reads I _ y u h2.dp ry) (by omega) X.prog X.w _ _ ⟨.bl _, H, I, rfl, q⟩
end

/-! ### dicts whose keys are nests -/
def nk (n : Nat) : NestedKey := .tup ((bits n).attach.map fun k => nk k.1)
termination_by n
decreasing_by exact bits_lt k.2
theorem nk_eq (n : Nat) : nk n = .tup ((bits n).map nk) := by
  rw [nk]
  congr 1
  have h : ((bits n).attach.map fun k => nk k.1) = ((bits n).attach.map (·.1)).map nk := by rw [List.map_map]; rfl
  rw [h, List.attach_map_subtype_val]
theorem map_inj_on {f : Nat → NestedKey} : ∀ {l m : List Nat}, (∀ a ∈ l, ∀ b, f a = f b → a = b) → l.map f = m.map f → l = m
  | [], [], _, _ => rfl
  | [], _ :: _, _, e => by simp at e
  | _ :: _, [], _, e => by simp at e
  | a :: l, b :: m, h, e => by
    rw [List.map_cons, List.map_cons] at e
    injection e with e1 e2
    rw [h a List.mem_cons_self b e1, map_inj_on (fun x hx => h x (List.mem_cons_of_mem _ hx)) e2]
theorem nk_inj {n m : Nat} (h : nk n = nk m) : n = m := by
  induction n using Nat.strongRecOn generalizing m with
  | ind n ih =>
    rw [nk_eq n, nk_eq m] at h
    injection h with h
    exact bits_inj (map_inj_on (fun a ha b e => ih a (bits_lt ha) e) h)
theorem nkAll_depth {d : Nat} : ∀ {l : List Nat}, (∀ k ∈ l, (nk k).depth ≤ d) → NestedKey.depthAll (l.map nk) ≤ d
  | [], _ => by simp [NestedKey.depthAll]
  | a :: l, h => by
    rw [List.map_cons, NestedKey.depthAll]
    exact Nat.max_le.mpr ⟨h a List.mem_cons_self, nkAll_depth fun k hk => h k (List.mem_cons_of_mem _ hk)⟩
theorem nk_depth (n : Nat) : (nk n).depth ≤ dep n + 1 := by
  induction n using Nat.strongRecOn with
  | ind n ih =>
    rw [nk_eq, NestedKey.depth]
    have := nkAll_depth (d := dep n) (l := bits n) fun k hk => Nat.le_trans (ih k (bits_lt hk)) (dep_mem hk)
    omega
theorem nested_all {h : Heap} : ∀ {l : List Nat} {vs : List Value} {as : List Addr}, (∀ k ∈ l, ∀ (v : Value) (bs : List Addr), Reads h v (dat k) bs → NestedIs h (nk k) v) → ReadsAll h vs (l.map dat) as → NestedAll h (l.map nk) vs
  | [], vs, _, _, r => by
    cases r
    exact .nil
  | a :: l, vs, _, g, r => by
    rw [List.map_cons] at r
    cases r with
    | cons r1 r2 => exact .cons (g a List.mem_cons_self _ _ r1) (nested_all (fun k hk => g k (List.mem_cons_of_mem _ hk)) r2)
theorem nested_of {h : Heap} (n : Nat) : ∀ (v : Value) (as : List Addr), Reads h v (dat n) as → NestedIs h (nk n) v := by
  induction n using Nat.strongRecOn with
  | ind n ih =>
    intro v as r
    rw [dat_eq] at r
    rw [nk_eq]
    cases r with
    | tuple h1 h2 h3 h4 => exact .tup h1 h2 h3 (nested_all (fun k hk => ih k (bits_lt hk)) h4)
abbrev trues (xs : List (Nat × Addr)) : List (NestedKey × Addr × Value) := xs.map fun p => (nk p.1, p.2, Value.bool true)
/-- at d a dict: its keys are the nests told, each value True -/
def ND (P : Program) (w : World) (d : Addr) (xs : List (Nat × Addr)) : HO := .ext fun h => (d == sysModules) = false ∧ ∃ o es ep, h.get? d = some o ∧ o.ExactDict ∧ o.data = .dict es ep ∧ es.toList = (trues xs).map (entryOfKey (nestedKind P w))
theorem ND_ok {P : Program} {w : World} {H : Hp} {h : Heap} {d : Addr} {xs : List (Nat × Addr)} (lo : (d == sysModules) = false) {o : Obj} {es : Array DictEntry} {ep : Nat} (e : h.get? d = some o) (c : o.ExactDict) (e2 : o.data = .dict es ep) (e3 : es.toList = (trues xs).map (entryOfKey (nestedKind P w))) :
    ObjOk P w H h d (ND P w d xs) :=
  ⟨⟨lo, o, es, ep, e, c, e2, e3⟩, ⟨o, e⟩, fun h1 h2 ⟨l, o1, es1, ep1, q1, q2⟩ k => ⟨l, o1, es1, ep1, k _ q1, q2⟩⟩
theorem ND_of {P : Program} {w : World} {H : Hp} {h : Heap} {d : Addr} {xs : List (Nat × Addr)} (x : ObjOk P w H h d (ND P w d xs)) : (d == sysModules) = false ∧ ∃ o es ep, h.get? d = some o ∧ o.ExactDict ∧ o.data = .dict es ep ∧ es.toList = (trues xs).map (entryOfKey (nestedKind P w)) := x.1
def putN (xs : List (Nat × Addr)) (n : Nat) (a : Addr) : List (Nat × Addr) := if n ∈ xs.map (·.1) then xs else xs ++ [(n, a)]
theorem at_trues (xs : List (Nat × Addr)) (n : Nat) : (atKey (trues xs) (nk n)).isSome = decide (n ∈ xs.map (·.1)) := by
  induction xs with
  | nil => simp [atKey]
  | cons p xs ih =>
    by_cases e : p.1 = n
    · subst e
      simp [atKey, trues]
    · have e1 : ¬ nk p.1 = nk n := fun z => e (nk_inj z)
      have e2 : ¬ n = p.1 := fun z => e z.symm
      have ih' : (List.find? (fun x => decide (x.1 = nk n)) (trues xs)).isSome = decide (n ∈ xs.map (·.1)) := by
        rw [← ih]
        simp [atKey]
      simp only [atKey, trues, List.map_cons, List.find?_cons, e1, decide_false, Option.isSome_map, List.mem_cons, e2, false_or]
      exact ih'
theorem stored_trues (xs : List (Nat × Addr)) (n : Nat) (a : Addr) : storedH (trues xs) (nk n) a (.bool true) = trues (putN xs n a) := by
  unfold storedH putN
  rw [at_trues]
  by_cases e : n ∈ xs.map (·.1)
  · rw [if_pos (decide_eq_true e), if_pos e]
    refine (List.map_congr_left fun x hx => ?_).trans (List.map_id _)
    obtain ⟨p, _, rfl⟩ := List.mem_map.mp hx
    unfold putAt
    by_cases e' : nk p.1 = nk n
    · rw [if_pos e']; rfl
    · rw [if_neg e']; rfl
  · have e1 : ¬ decide (n ∈ xs.map (·.1)) = true := by simp [e]
    rw [if_neg e1, if_neg e]
    simp [trues]
/-- what the keys are -/
def KeysOk (K : PySem.W.Frag) (H : Hp) (xs : List (Nat × Addr)) : Prop := (∀ p ∈ xs, Na K H (.ref p.2) p.1 ∧ dep p.1 ≤ 7) ∧ (xs.map (·.1)).Nodup
theorem KeysOk.grow {K : PySem.W.Frag} {H H' : Hp} {xs : List (Nat × Addr)} (g : Grow K H H') (h : KeysOk K H xs) : KeysOk K H' xs := ⟨fun p hp => ⟨(h.1 p hp).1.grow g, (h.1 p hp).2⟩, h.2⟩
theorem KeysOk.put {K : PySem.W.Frag} {H : Hp} {xs : List (Nat × Addr)} {n : Nat} {a : Addr} (h : KeysOk K H xs) (r : Na K H (.ref a) n) (d : dep n ≤ 7) : KeysOk K H (putN xs n a) := by
  unfold putN
  by_cases e : n ∈ xs.map (·.1)
  · rw [if_pos e]; exact h
  · rw [if_neg e]
    refine ⟨fun p hp => ?_, ?_⟩
    · rcases List.mem_append.mp hp with hp | hp
      · exact h.1 p hp
      · rw [List.mem_singleton.mp hp]; exact ⟨r, d⟩
    · rw [List.map_append, List.nodup_append]
      refine ⟨h.2, by simp, fun x hx y hy => ?_⟩
      simp at hy
      subst hy
      intro z
      subst z
      exact e hx
theorem mem_putN {xs : List (Nat × Addr)} {n k : Nat} {a : Addr} : k ∈ (putN xs n a).map (·.1) ↔ k ∈ xs.map (·.1) ∨ k = n := by
  unfold putN
  by_cases e : n ∈ xs.map (·.1)
  · rw [if_pos e]
    exact ⟨.inl, fun z => z.elim id fun z => z ▸ e⟩
  · rw [if_neg e, List.map_append, List.mem_append]
    simp
theorem putN_len (xs : List (Nat × Addr)) (n : Nat) (a : Addr) : (putN xs n a).length ≤ xs.length + 1 := by
  unfold putN
  split
  · omega
  · rw [List.length_append]; simp
section
variable {X : Cx} {pos : Pos}
def tDNewN (P : Program) (w : World) : TE := fun _ H Q => ∀ p, H p = none → Q (.ref p) (upd H p (ND P w p []))
theorem pe_dnewN : PE X (.Dict [] [] pos) (tDNewN X.prog X.w) := ⟨fun pins s σ H Q I h =>
  wpAny_Dict_empty ⟨.ref s.heap.objs.size, _, I.laid (a := s.heap.objs.size) (o := ND X.prog X.w s.heap.objs.size []) (t' := s.toks) (fun _ _ q => Heap.get?_push_of_some _ q) (Nat.le_refl _)
    (ND_ok (beq_eq_false_iff_ne.mpr (Ne.symm (Nat.ne_of_lt I.big))) (es := #[]) (ep := 0) (Heap.get?_push_size _ rfl) ⟨rfl, rfl, rfl⟩ rfl rfl), rfl, h _ (I.hok.fresh (Nat.le_refl _))⟩⟩
theorem dictH {pins : List (Addr × Obj)} {σ : L2.St} {H : Hp} {s : Shared} {d : Addr} {xs : List (Nat × Addr)} (I : Inv X pins σ H s) (e : H d = some (ND X.prog X.w d xs)) (k : KeysOk X.K H xs) : (d == sysModules) = false ∧ s.heap.DictOfH (nestedKind X.prog X.w) d (trues xs) := by
  obtain ⟨lo, o, es, ep, e1, c, e2, e3⟩ := ND_of (I.hok d _ e)
  refine ⟨lo, o, es, ep, e1, c, e2, e3, fun x hx => ?_, ?_⟩
  · obtain ⟨p, hp, rfl⟩ := List.mem_map.mp hx
    obtain ⟨r, dp⟩ := k.1 p hp
    obtain ⟨as, rr⟩ := Dp.reads I _ _ _ r.dp (show RelV (.ref p.2) (.ref p.2) from rfl)
    exact ⟨nested_of _ _ _ rr, by have := nk_depth p.1; show (nk p.1).depth ≤ 8; omega⟩
  · have q : (trues xs).map (·.1) = (xs.map (·.1)).map nk := by rw [List.map_map, List.map_map]; rfl
    rw [q]
    exact (List.pairwise_map.mpr (k.2.imp fun {a b} h z => h (nk_inj z)))
/-- d[nest] = True -/
def rSetN (P : Program) (w : World) (K : PySem.W.Frag) : TSet := fun o i v H Q => ∃ d a n xs, o = .ref d ∧ i = .ref a ∧ v = .bl true ∧ H d = some (ND P w d xs) ∧ KeysOk K H xs ∧ Na K H (.ref a) n ∧ dep n ≤ 7 ∧ xs.length ≤ sizeLine ∧ Q (upd H d (ND P w d (putN xs n a)))
theorem set_nd (hu : X.A.units + 16 < cLine) : PSet X (rSetN X.prog X.w X.K) := by
  intro pins s σ H o i v ov iv u Q I ro ri rv h
  obtain ⟨d, a, n, xs, rfl, rfl, rfl, hd, hk, hn, dn, hz, q⟩ := h
  obtain rfl : ov = Value.ref d := ro
  obtain rfl : iv = Value.ref a := ri
  obtain rfl : u = Value.bool true := rv
  obtain ⟨lo, hm⟩ := dictH I hd hk
  obtain ⟨as, rr⟩ := Dp.reads I _ _ _ hn.dp (show RelV (.ref a) (.ref a) from rfl)
  refine wpAny_setItem_heap (hsz := by rw [List.length_map]; exact hz) (knd := nestedKind X.prog X.w) (by show X.A.units + 1 + 8 < cLine; omega) ⟨nested_of _ _ _ rr, by have := nk_depth n; show (nk n).depth ≤ 8; omega⟩ hm fun h' hm' hs => ?_
  rw [stored_trues] at hm'
  obtain ⟨ob, es, ep, e1, c, e2, e3, _, _⟩ := hm'
  exact ⟨_, I.write (x := d) (e := d) (by rw [hd]; exact True.intro) (.inl rfl) (fun b u hb e => (hs.2 b hb).trans e) ⟨_, e1⟩ (ND_ok lo e1 c e2 e3), q⟩
end
end Nk
namespace Nk
open PySem PySem.Spec PyProof.Rows L2

/-! ### records of ours: pinned, changed by us alone, tracked at the end -/
structure Own (X : Cx) (c : Addr) : Prop where
  new : X.s_0.heap.objs.size ≤ c
  loc : c ≠ X.env.locals
  fs : c ∉ X.fs
  cell : ∀ x c', X.env.cells.lookup x = some c' → c' ≠ c
section
variable {X : Cx} {pins : List (Addr × Obj)} {σ : L2.St} {H : Hp} {s : Shared}
theorem Own.of (I : Inv X pins σ H s) {c : Addr} (h : s.heap.objs.size ≤ c) : Own X c := by
  obtain ⟨f0, f1, f2, f3, f4, f5⟩ := I.fpOk (H' := H) (b := c) h (I.hok.fresh h)
  exact ⟨Nat.le_trans I.sz h, f1, f2, f4⟩
theorem pin_lt (I : Inv X pins σ H s) {p : Addr × Obj} (hp : p ∈ X.pn ++ pins) : p.1 < s.heap.objs.size := Heap.lt_size (I.pin p hp).1
theorem pin_add (I : Inv X pins σ H s) {c : Addr} {o : Obj} (w : Own X c) (n : H c = none) (e : s.heap.get? c = some o) (d : ∀ v, o.data ≠ .cell v) : Inv X ((c, o) :: pins) σ H s :=
  I.pins_of fun p hp => by
    rcases List.mem_cons.mp hp with e' | hp
    · subst e'
      exact ⟨e, n, w.loc, w.fs, d⟩
    · exact I.pin p (List.mem_append_right _ hp)
theorem pin_drop (I : Inv X pins σ H s) {pins' : List (Addr × Obj)} (h : ∀ p ∈ pins', p ∈ pins) : Inv X pins' σ H s := I.pins_of fun p hp => I.pin p (List.mem_append_right _ (h p hp))
/-- one's own record changes -/
theorem own_turn (I : Inv X pins σ H s) {c : Addr} {h' : Heap} {t' : Nat} (w : Own X c) (n : H c = none) (hp : ∀ p ∈ X.pn ++ pins, p.1 ≠ c) (k : Heap.SameBut c s.heap h') : Inv X pins σ H { s with heap := h', toks := t' } :=
  I.turned (t' := t') (fun b o hb e => (k.2 b hb).trans e) n w.loc (.inr w.new) w.cell hp
/-- one's own record is tracked from now on -/
theorem own_track (I : Inv X pins σ H s) {c : Addr} {o : HO} (w : Own X c) (n : H c = none) (hp : ∀ p ∈ X.pn ++ pins, p.1 ≠ c) (ok : ObjOk X.prog X.w (upd H c o) s.heap c o) : Inv X pins σ (upd H c o) s := by
  have ne : ∀ b u, H b = some u → b ≠ c := fun b u e => ne_of_none e n
  refine ⟨I.ok, I.os, I.bare, ⟨I.base.keep, I.base.slot, fun b ob e hn hx => ?_, I.base.there, fun b xs e => ?_, fun b ob u e => ?_, fun b ps e => ?_⟩, I.loc, I.cell, ?_, fun x c' e => ?_, fun p hp' => ?_, fun b u e => ?_, I.len⟩
  · have hb : b ≠ c := Nat.ne_of_lt (Nat.lt_of_lt_of_le (Heap.lt_size e) w.new)
    rw [upd_ne hb]
    exact I.base.free b ob e hn hx
  · have q := I.base.tups b xs e
    rw [upd_ne (ne b _ q)]
    exact q
  · have q := I.base.frzs b ob u e
    rw [upd_ne (ne b _ q)]
    exact q
  · obtain ⟨m, q⟩ := I.base.tbls b ps e
    exact ⟨m, by rw [upd_ne (ne b _ q)]; exact q⟩
  · rw [upd_ne (Ne.symm w.loc)]
    exact I.free
  · rw [upd_ne (w.cell x c' e)]
    exact I.freeC x c' e
  · obtain ⟨a1, a2, a3, a4, a5⟩ := I.pin p hp'
    exact ⟨a1, by rw [upd_ne (hp p hp')]; exact a2, a3, a4, a5⟩
  · by_cases hb : b = c
    · subst hb
      rw [upd_same] at e
      cases e
      exact ok
    · rw [upd_ne hb] at e
      exact (I.hok b u e).stay (fun _ _ _ q => q) (fun d q => by rw [upd_ne (ne d _ q)]; exact q) fun d xs q => by rw [upd_ne (ne d _ q)]; exact q
/-- a call under built-ins, two deep -/
theorem run_in2 {k : Nat} {f : Addr} {fd : FuncData} {ps : List Str} {sp : Sp} {u : Value} {v : V} {Q : VK} {E : XK} {E' : Value → Shared → Prop} (F : FnOk X.prog X.w X.K X.mg X.base CX0 k f fd ps sp) (hr : Room (k + 2) X.A) (hb : Binds X.K fd ps [])
    (I : Inv X pins σ H s) (r : RelV v u) (h : sp [v] H Q E) : wpAny (model X.prog X.w) X.A.in1.in1 (call (.ref f) [u]) (EP X pins σ Q) E' s := by
  have many : ([u] ++ ([] : List Value)).length = ps.length := F.len _ _ _ _ h
  have ran := F.run X.A.in1.in1 X.stack s H ⟨[u], []⟩ [u] [v] Q E hr.in1.in1 I.env0.in1.in1 (hb s [u] I.kIn many) (.cons r .nil) h
  refine wpAny_call (codeAny_mono ran fun fin s2 got => ?_)
  match fin, got with
  | .ok (.ret _), got => exact I.after got
  | .ok .next, got => exact False.elim got
  | .ok .brk, got => exact False.elim got
  | .ok .cont, got => exact False.elim got
  | .error _, got => exact False.elim got
end

/-- what a key function for nests of at most D levels promises: the rank row -/
def spRank (K : PySem.W.Frag) (D : Nat) : Sp := fun vs H Q _ => ∃ v n, vs = [v] ∧ Na K H v n ∧ dep n ≤ D ∧ ∀ r H', Same H H' → Tp K H' r (rkd n) → Q r H'

section
variable {X : Cx} {pins : List (Addr × Obj)} {σ : L2.St} {H : Hp} {s : Shared}
/-- for over an array: what holds before each item, and at the end -/
theorem each_item {M : Model} {A : Around} {E : Value → Shared → Prop} {s : Shared} {body : Value → PUnit → Sem (ForInStep PUnit)} {Q : PUnit → Shared → Prop} (J : Nat → Shared → Prop) (vs : List Value) (start : J 0 s)
    (step : ∀ j x s1, vs[j]? = some x → J j s1 → wpAny M A (body x ⟨⟩) (fun r s2 => r = .yield ⟨⟩ ∧ J (j + 1) s2) E s1) (fin : ∀ s1, J vs.length s1 → Q ⟨⟩ s1) : wpAny M A (forIn vs.toArray PUnit.unit body) Q E s := by
  rw [← Array.forIn_toList]
  refine ksk_fold J vs 0 s start (fun j x s1 at_ inv => ?_) fun s1 inv => fin s1 (Nat.zero_add vs.length ▸ inv)
  rw [Nat.zero_add] at inv ⊢
  exact step j x s1 at_ inv
/-- the two records of a sort: the list L, empty, and the store kS of the keys so far -/
abbrev Inv2 (X : Cx) (pins : List (Addr × Obj)) (σ : L2.St) (L kS : Addr) (e1 : Nat) (kA : Array Value) (e : Nat) (H : Hp) (s : Shared) : Prop := Inv X ((L, seqObj "list" #[] e1) :: (kS, seqObj "list" kA e) :: pins) σ H s
section
variable {L kS : Addr} {e1 e : Nat} {kA : Array Value}
theorem Inv2.store (I : Inv2 X pins σ L kS e1 kA e H s) : s.heap.get? kS = some (seqObj "list" kA e) ∧ H kS = none := ⟨(I.pin _ (List.mem_append_right _ (.tail _ (.head _)))).1, (I.pin _ (List.mem_append_right _ (.tail _ (.head _)))).2.1⟩
theorem Inv2.list (I : Inv2 X pins σ L kS e1 kA e H s) : s.heap.get? L = some (seqObj "list" #[] e1) ∧ H L = none := ⟨(I.pin _ (List.mem_append_right _ (.head _))).1, (I.pin _ (List.mem_append_right _ (.head _))).2.1⟩
theorem Inv2.rest (I : Inv2 X pins σ L kS e1 kA e H s) : Inv X pins σ H s := pin_drop I fun _ hp => .tail _ (.tail _ hp)
/-- one key more -/
theorem Inv2.push {A : Around} {E : Value → Shared → Prop} {Q : Unit → Shared → Prop} {v : Value} (I : Inv2 X pins σ L kS e1 kA e H s) (oL : Own X L) (oS : Own X kS) (apart : kS ≠ L) (pS : ∀ p ∈ X.pn ++ pins, p.1 ≠ kS) (fits : kA.size < sizeLine)
    (q : ∀ s2 e2, Inv2 X pins σ L kS e1 (kA.push v) e2 H s2 → Q () s2) : wpAny (model X.prog X.w) A (Builtin.List.listUpdate (.ref kS) (·.push v)) Q E s := by
  obtain ⟨atS, nS⟩ := I.store
  obtain ⟨atL, nL⟩ := I.list
  have same := Heap.SameBut.update s.heap kS (Obj.mapSeq (·.push v))
  have I2 : Inv X pins σ H { s with heap := s.heap.update kS (Obj.mapSeq (·.push v)), toks := s.toks } := own_turn I.rest oS nS pS same
  refine listUpdate_at atS rfl (q _ (if (kA.push v).size == kA.size then e else e + 1) ?_) (Nat.le_of_lt fits) (by rw [Array.size_push]; omega)
  exact pin_add (pin_add I2 oS nS (get?_update_seq atS (·.push v)) fun _ z => (by cases z)) oL nL ((same.2 L (Ne.symm apart)).trans atL) fun _ z => (by cases z)
end
/-- pairs in another order, their values with them -/
theorem zip_order (l : List (Nat × V)) (ws : List Value) (rl : Vals (l.map (·.2)) ws) (rs : List (Nat × Value)) (pr : rs.Perm ((l.map (·.1)).zip ws)) : ∃ ms : List (Nat × V), ms.Perm l ∧ ms.map (·.1) = rs.map (·.1) ∧ Vals (ms.map (·.2)) (rs.map (·.2)) := by
  let T := l.zip ws
  have hlw : l.length = ws.length := by have := rl.length; rw [List.length_map] at this; exact this
  have e0 : (l.map (·.1)).zip ws = T.map fun t => (t.1.1, t.2) := by
    show _ = (l.zip ws).map _
    rw [List.zip_map_left]
    exact List.map_congr_left fun ⟨x, y⟩ _ => rfl
  rw [e0] at pr
  have lift : ∀ (T : List ((Nat × V) × Value)) (rs : List (Nat × Value)), rs.Perm (T.map fun t => (t.1.1, t.2)) → ∃ T' : List ((Nat × V) × Value), T'.Perm T ∧ T'.map (fun t => (t.1.1, t.2)) = rs := by
    intro T rs pr
    generalize hW : (T.map fun t => (t.1.1, t.2)) = W at pr
    induction pr generalizing T with
    | nil => exact ⟨[], by rw [List.map_eq_nil_iff.mp hW], rfl⟩
    | @cons x a b _ ih =>
      match T, hW with
      | t :: T, hW =>
        rw [List.map_cons] at hW
        injection hW with h1 h2
        obtain ⟨T', p1, p2⟩ := ih T h2
        exact ⟨t :: T', p1.cons t, by rw [List.map_cons, p2, h1]⟩
    | swap x y a =>
      match T, hW with
      | t :: u :: T, hW =>
        rw [List.map_cons, List.map_cons] at hW
        injection hW with h1 h2
        injection h2 with h2 h3
        exact ⟨u :: t :: T, List.Perm.swap _ _ _, by rw [List.map_cons, List.map_cons, h1, h2, h3]⟩
    | trans _ _ ih1 ih2 =>
      obtain ⟨T1, p1, e1⟩ := ih2 T hW
      obtain ⟨T2, p2, e2⟩ := ih1 T1 e1
      exact ⟨T2, p2.trans p1, e2⟩
  obtain ⟨T', p1, p2⟩ := lift T rs pr
  have hfst : T.map (·.1) = l := List.map_fst_zip (by omega)
  refine ⟨T'.map (·.1), ?_, ?_, ?_⟩
  · have := p1.map (·.1)
    rw [hfst] at this
    exact this
  · rw [← p2, List.map_map, List.map_map]; rfl
  · rw [← p2, List.map_map, List.map_map]
    have all : ∀ t ∈ T', RelV t.1.2 t.2 := fun t ht => by
      have ht' : t ∈ T := p1.mem_iff.mp ht
      obtain ⟨i, hi⟩ := List.getElem?_of_mem ht'
      have hi' := List.getElem?_zip_eq_some.mp hi
      obtain ⟨u, hu, r⟩ := rl.get (i := i) (x := t.1.2) (by rw [List.getElem?_map, hi'.1]; rfl)
      rw [hi'.2] at hu
      cases hu
      exact r
    have mk : ∀ T' : List ((Nat × V) × Value), (∀ t ∈ T', RelV t.1.2 t.2) → Vals (T'.map ((·.2) ∘ (·.1))) (T'.map ((·.2) ∘ fun t => (t.1.1, t.2))) := by
      intro T' h
      induction T' with
      | nil => exact .nil
      | cons t T' ih => exact .cons (h t List.mem_cons_self) (ih fun u hu => h u (List.mem_cons_of_mem _ hu))
    exact mk T' all
theorem sort_rest {k D : Nat} {f : Addr} {fd : FuncData} (F : FnOk X.prog X.w X.K X.mg X.base CX0 k f fd ["one"] (spRank X.K D)) (hr : Room (k + 2) X.A) (hb : Binds X.K fd ["one"] []) (hD : D ≤ 60)
    {L kS : Addr} {e1 : Nat} {vs : List Value} {ps : List (Nat × V)} {P : PySem.Fin → Shared → Prop} {E : Value → Shared → Prop} (oL : Own X L) (oS : Own X kS) (apart : kS ≠ L) (pL : ∀ p ∈ X.pn ++ pins, p.1 ≠ L) (pS : ∀ p ∈ X.pn ++ pins, p.1 ≠ kS)
    (I : Inv2 X pins σ L kS e1 #[] 0 H s) (few : vs.length ≤ sizeLine) (rel : Vals (ps.map (·.2)) vs) (nests : ∀ p ∈ ps, Na X.K H p.2 p.1 ∧ dep p.1 ≤ D)
    (q : ∀ (H' : Hp) (s' : Shared) (qs : List (Nat × V)), Same H H' → H' L = none → qs.Perm ps → qs.Pairwise (fun p q => p.1 ≤ q.1) → Inv X pins σ (upd H' L (.lst (qs.map (·.2)))) s' → P (.done (.ret .none)) s') :
    wpAny (model X.prog X.w) X.A.in1.in1 (ksk_rest L (.ref f) false vs.toArray e1 (.ref kS)) P E s := by
  have many : ps.length = vs.length := by
    have := rel.length
    rwa [List.length_map] at this
  have un := hr.un
  unfold ksk_rest
  refine wpAny_bind (wpAny_rule (wpAny_bind (each_item (fun j s1 => ∃ (H1 : Hp) (kA : Array Value) (e : Nat) (ks : List V), Inv2 X pins σ L kS e1 kA e H1 s1 ∧ Same H H1 ∧ Vals ks kA.toList ∧ TpAll X.K H1 ks (((ps.take j).map (·.1)).map rkd)) vs
    ⟨H, #[], 0, [], I, Same.refl H, .nil, (by rw [List.take_zero]; exact .nil)⟩ (fun j x s1 at_ inv => ?_) fun s1 inv => ?_)))
  · obtain ⟨H1, kA, e, ks, I1, g, rk, tk⟩ := inv
    have less : j < ps.length := by
      have := (List.getElem?_eq_some_iff.mp at_).1
      omega
    have there : ps[j]? = some ps[j] := List.getElem?_eq_getElem less
    obtain ⟨isN, low⟩ := nests _ (List.getElem_mem less)
    obtain ⟨u, hu, ru⟩ := rel.get (i := j) (x := ps[j].2) (by rw [List.getElem?_map, there]; rfl)
    obtain rfl : x = u := Option.some.inj (at_.symm.trans hu)
    have ran := run_in2 (E' := fun _ _ => False) (Q := fun r H2 => Same H1 H2 ∧ Tp X.K H2 r (rkd ps[j].1)) (E := fun _ _ _ => False) F hr hb I1 ru ⟨_, _, rfl, isN.grow (Grow.of g), low, fun r H2 g2 t => ⟨g2, t⟩⟩
    refine wpAny_bind (wpAny_attempt (wpAny_mono ran (fun w s2 ⟨v, H2, I2, rv, g2, t⟩ => ?_) fun _ _ z => False.elim z))
    have size : kA.size = j := by
      have h1 : ks.length = kA.size := rk.length
      have h2 := tk.len
      rw [List.length_map, List.length_map, List.length_take] at h2
      omega
    refine wpAny_bind (Inv2.push (v := w) I2 oL oS apart pS (by omega) fun s3 e3 I3 => wpAny_pure ⟨rfl, H2, _, e3, ks ++ [v], I3, g.trans g2, ?_, ?_⟩)
    · rw [Array.toList_push]
      exact rk.append (.cons rv .nil)
    · rw [List.take_add_one, there, List.map_append, List.map_append]
      exact (tk.grow (Grow.of g2)).app (.cons t .nil)
  · obtain ⟨H1, kA, e, ks, I1, g, rk, tk⟩ := inv
    rw [← many, List.take_length] at tk
    have size : kA.size = vs.length := by
      have h1 : ks.length = kA.size := rk.length
      have h2 := tk.len
      rw [List.length_map, List.length_map] at h2
      omega
    refine wpAny_bind (listItems_at I1.store.1 rfl (sort_end (ns := ps.map (·.1)) (D := D) I1.store.1 I1.list.1 apart size (by rw [List.length_map]; exact many) (fun i kv n hi hn => ?_) few (by show X.A.units + 1 + 1 + D + 2 < cLine; omega) fun h' t' qs c kept at_ perm order => ?_))
    · have less : i < ks.length := by
        have h1 := rk.length
        have := (List.getElem?_eq_some_iff.mp hi).1
        omega
      obtain ⟨u, hu, ru⟩ := rk.get (List.getElem?_eq_getElem less)
      obtain rfl : kv = u := Option.some.inj (hi.symm.trans hu)
      obtain ⟨d, hd, t⟩ := tk.get (List.getElem?_eq_getElem less)
      rw [List.getElem?_map, hn] at hd
      cases hd
      obtain ⟨p, hp, e⟩ := List.mem_map.mp (List.mem_of_getElem? hn)
      exact ⟨Dp.reads I1 _ _ _ t.dp ru, e ▸ (nests p hp).2⟩
    · obtain ⟨ms, perm2, nums, rv⟩ := zip_order ps vs rel qs perm
      have fits : (ms.map (·.2)).length ≤ sizeLine := by
        rw [List.length_map, perm2.length_eq]
        omega
      have far : ∀ b ∈ [kS, L], FpOk X pins H1 b := fun b hb => by
        rcases List.mem_cons.mp hb with e3 | hb
        · subst e3
          exact ⟨I1.store.2, oS.loc, oS.fs, .inr oS.new, oS.cell, pS⟩
        · rw [List.mem_singleton.mp hb]
          exact ⟨I1.list.2, oL.loc, oL.fs, .inr oL.new, oL.cell, pL⟩
      have I2 : Inv X pins σ H1 { s1 with heap := h', toks := t' } := I1.rest.turnedL (ch := [kS, L]) (fun b o out z => kept b o (fun z2 => out (by rw [z2]; exact .head _)) (fun z2 => out (by rw [z2]; exact .tail _ (.head _))) z) far
      refine q H1 _ ms g I1.list.2 perm2 ?_ (own_track I2 oL I1.list.2 pL ⟨fits, qs.map (·.2), c, rv, at_⟩)
      have sorted := List.pairwise_map.mpr order
      rw [← nums] at sorted
      exact List.pairwise_map.mp sorted
end

/-- pairs with addresses, in another order -/
theorem addr_order (T : List (Nat × Addr)) (rs : List (Nat × V)) (pr : rs.Perm (T.map fun p => (p.1, V.ref p.2))) : ∃ l' : List (Nat × Addr), l'.Perm T ∧ l'.map (fun p => (p.1, V.ref p.2)) = rs := by
  generalize hW : (T.map fun p => (p.1, V.ref p.2)) = W at pr
  induction pr generalizing T with
  | nil => exact ⟨[], by rw [List.map_eq_nil_iff.mp hW], rfl⟩
  | @cons x a b _ ih =>
    match T, hW with
    | t :: T, hW =>
      rw [List.map_cons] at hW
      injection hW with h1 h2
      obtain ⟨T', p1, p2⟩ := ih T h2
      exact ⟨t :: T', p1.cons t, by rw [List.map_cons, p2, h1]⟩
  | swap x y a =>
    match T, hW with
    | t :: u :: T, hW =>
      rw [List.map_cons, List.map_cons] at hW
      injection hW with h1 h2
      injection h2 with h2 h3
      exact ⟨u :: t :: T, List.Perm.swap _ _ _, by rw [List.map_cons, List.map_cons, h1, h2, h3]⟩
  | trans _ _ ih1 ih2 =>
    obtain ⟨T1, p1, e1⟩ := ih2 T hW
    obtain ⟨T2, p2, e2⟩ := ih1 T1 e1
    exact ⟨T2, p2.trans p1, e2⟩
/-- what stands at each place -/
theorem addr_vals : ∀ (xs : List (Nat × Addr)) (l : List Value), l.length = xs.length → (∀ (j : Nat) (v : Value), l[j]? = some v → ∃ p, xs[j]? = some p ∧ v = .ref p.2) → Vals ((xs.map fun p => (p.1, V.ref p.2)).map (·.2)) l := by
  intro xs
  induction xs with
  | nil => intro l hl _; rw [List.eq_nil_of_length_eq_zero hl]; exact .nil
  | cons p xs ih =>
    intro l hl hg
    match l, hl with
    | v :: l, hl =>
      obtain ⟨p', e, ev⟩ := hg 0 v rfl
      have e' : p = p' := by simpa using e
      subst e'
      refine .cons (show RelV (V.ref p.2) v from ev) (ih l (by simpa using hl) fun j u hu => ?_)
      obtain ⟨p', e, ev⟩ := hg (j + 1) u (by simpa using hu)
      exact ⟨p', by simpa using e, ev⟩
section
variable {X : Cx} {pins : List (Addr × Obj)} {σ : L2.St} {H : Hp} {s : Shared}
/-- a new list of vs, sorted by f -/
theorem sort_new {k D : Nat} {f : Addr} {fd : FuncData} (F : FnOk X.prog X.w X.K X.mg X.base CX0 k f fd ["one"] (spRank X.K D)) (hr : Room (k + 2) X.A) (hb : Binds X.K fd ["one"] []) (hD : D ≤ 60)
    {vs : List Value} {ps : List (Nat × V)} {P : PySem.Fin → Shared → Prop} {E : Value → Shared → Prop} (I : Inv X pins σ H s) (few : vs.length ≤ sizeLine) (rel : Vals (ps.map (·.2)) vs) (nests : ∀ p ∈ ps, Na X.K H p.2 p.1 ∧ dep p.1 ≤ D)
    (q : ∀ (H' : Hp) (s' : Shared) (L : Addr) (qs : List (Nat × V)), Same H H' → H' L = none → qs.Perm ps → qs.Pairwise (fun p q => p.1 ≤ q.1) → Inv X pins σ (upd H' L (.lst (qs.map (·.2)))) s' → P (.done (.ret (.ref L))) s') :
    wpAny (model X.prog X.w) X.A.in1 (do
      let l ← newList vs
      let _ ← holding [l] (call (.builtin "list.sort") [l] [(Str.ofString "key", .ref f)])
      ret l) P E s := by
  have high : ∀ {c : Addr}, s.heap.objs.size ≤ c → Own X c ∧ H c = none ∧ ∀ p ∈ X.pn ++ pins, p.1 ≠ c := fun {c} le => ⟨Own.of I le, I.hok.fresh le, fun p hp => Nat.ne_of_lt (Nat.lt_of_lt_of_le (pin_lt I hp) le)⟩
  obtain ⟨oL, nL, pL⟩ := high (Nat.le_refl s.heap.objs.size)
  refine wpAny_bind (wpAny_newList ?_ few)
  have made : (s.heap.push (seqObj "list" vs.toArray 0)).get? s.heap.objs.size = some (seqObj "list" vs.toArray 0) := Heap.get?_push_size _ rfl
  refine wpAny_bind (wpAny_holding (wpAny_call_entry_kw slot_list_sort (s := { s with heap := s.heap.push (seqObj "list" vs.toArray 0) }) ⟨_, made, rfl⟩ entry_list_sort ?_ (ksk_l1 _ _)))
  rw [ksk_t1]
  unfold ksk_tree
  have bare := get?_update_seq made fun _ => #[]
  have same := Heap.SameBut.update (s.heap.push (seqObj "list" vs.toArray 0)) s.heap.objs.size (Obj.mapSeq fun _ => (#[] : Array Value))
  have items := fun A2 E2 Q2 => listItems_at (M := model X.prog X.w) (A := A2) (E := E2) (Q := Q2) (s := { s with heap := s.heap.push (seqObj "list" vs.toArray 0) }) made rfl
  have clear_ := fun A2 E2 Q2 z => listUpdate_at (M := model X.prog X.w) (A := A2) (E := E2) (Q := Q2) (s := { s with heap := s.heap.push (seqObj "list" vs.toArray 0) }) (f := fun _ => #[]) made rfl z (by rw [List.size_toArray]; exact few)
  generalize going : ksk_rest = rest
  wp_walk using items _ _ _, clear_ _ _ _
  subst going
  have I1 : Inv X pins σ H { s with heap := s.heap.push (seqObj "list" vs.toArray 0), toks := s.toks } := I.kept fun _ _ z => Heap.get?_push_of_some _ z
  have I2 := own_turn (t' := s.toks) I1 oL nL pL same
  generalize (s.heap.push (seqObj "list" vs.toArray 0)).update s.heap.objs.size (Obj.mapSeq fun _ => (#[] : Array Value)) = g1 at bare I2 ⊢
  have low : s.heap.objs.size < g1.objs.size := Heap.lt_size bare
  have size : (g1.push (seqObj "tuple" vs.toArray 0)).objs.size = g1.objs.size + 1 := Heap.size_push ..
  obtain ⟨oS, nS, pS⟩ := high (c := (g1.push (seqObj "tuple" vs.toArray 0)).objs.size) (by omega)
  have I3 : Inv X pins σ H { s with heap := (g1.push (seqObj "tuple" vs.toArray 0)).push (seqObj "list" #[] 0), toks := s.toks } := I2.kept fun _ _ z => Heap.get?_push_of_some _ (Heap.get?_push_of_some _ z)
  have I4 := pin_add (pin_add I3 oS nS (Heap.get?_push_size _ rfl) fun _ z => (by cases z)) oL nL (Heap.get?_push_of_some _ (Heap.get?_push_of_some _ bare)) fun _ z => (by cases z)
  exact sort_rest (ps := ps) F hr hb hD oL oS (Nat.ne_of_gt (by rw [size]; omega)) pL pS I4 few rel nests fun H' s2 qs g n perm order Iq => ⟨_, rfl, wpAny_pure (q H' s2 _ qs g n perm order Iq)⟩
end
section
variable {X : Cx}
/-- sorted(found, key=f): found a dict of nests, f gives their rank rows -/
def rSortN (P : Program) (w : World) (K : PySem.W.Frag) (f : Addr) : List V → List V → Hp → VK → Prop := fun vs zs H Q => ∃ d xs, vs = [.ref d] ∧ zs = [.ref f] ∧ H d = some (ND P w d xs) ∧ KeysOk K H xs ∧ xs.length ≤ sizeLine ∧
  ∀ (H' : Hp) (p : Addr) (qs : List (Nat × Addr)), Same H H' → H' p = none → qs.Perm xs → qs.Pairwise (fun p q => p.1 < q.1) → Q (.ref p) (upd H' p (.lst (qs.map fun q => V.ref q.2)))
theorem cr_sortedN {k : Nat} {f : Addr} {fd : FuncData} (hc : X.calm = true) (F : FnOk X.prog X.w X.K X.mg X.base CX0 k f fd ["one"] (spRank X.K 7)) (hr : Room (k + 2) X.A) (hb : Binds X.K fd ["one"] []) :
    CallRK X (.builtin "sorted") [Str.ofString "key"] (rSortN X.prog X.w X.K f) := by
  intro pins s σ H xs0 zs us ws Q I rx rz q
  obtain ⟨d, xs, rfl, rfl, hd, hk, hz, q⟩ := q
  obtain ⟨u, rfl, ru⟩ := vals1 rx
  obtain ⟨g, rfl, rg⟩ := vals1 rz
  obtain rfl : u = Value.ref d := ru
  obtain rfl : g = Value.ref f := rg
  show wpAny (model X.prog X.w) X.A (call (.builtin "sorted") [.ref d] [(Str.ofString "key", .ref f)]) _ _ s
  obtain ⟨lo, ob, es, ep, e1, c1, e2, e3⟩ := ND_of (I.hok d _ hd)
  have hraw : s.heap.DictRaw d es ep := ⟨ob, e1, c1, e2⟩
  have hes : es.size = xs.length := by
    have := congrArg List.length e3
    rw [Array.length_toList, List.length_map, List.length_map] at this
    exact this
  refine call_function_entry_kw kind_sorted plain_sorted entry_sorted (ksk_s1 _ _) ?_
  show wpAny _ _ (collect (.ref d) >>= fun vs => do
      let l ← newList vs
      let _ ← holding [l] (call (.builtin "list.sort") [l] [(Str.ofString "key", .ref f)])
      ret l) _ _ _
  refine wpAny_bind (PySem.W.kdu_collect (A := X.A.in1) (KdlSrc.rawDict (es := es) (ep := ep) lo) (I.ok.hd hc) hraw (hes ▸ hz) fun h' tk acc hkeep hacc => ?_)
  have I1 : Inv X pins σ H { s with heap := h', toks := tk } := I.kept hkeep
  let ps : List (Nat × V) := xs.map fun p => (p.1, V.ref p.2)
  have hlen : acc.toList.length = xs.length := by rw [Array.length_toList, hacc.1, hes]
  have rel : Vals (ps.map (·.2)) acc.toList := by
    have key : ∀ (j : Nat) (v : Value), acc.toList[j]? = some v → ∃ p, xs[j]? = some p ∧ v = .ref p.2 := fun j v e => by
      obtain ⟨hi, ev⟩ := hacc.2 j v (by rw [← Array.getElem?_toList]; exact e)
      have hx : j < xs.length := by omega
      refine ⟨xs[j], List.getElem?_eq_getElem hx, ?_⟩
      have q : es.toList[j]? = ((trues xs).map (entryOfKey (nestedKind X.prog X.w)))[j]? := by rw [e3]
      rw [Array.getElem?_toList, Array.getElem?_eq_getElem hi, List.getElem?_map, List.getElem?_map, List.getElem?_eq_getElem hx] at q
      have q' := Option.some.inj q
      rw [ev, q']
      rfl
    exact addr_vals xs acc.toList hlen key
  refine sort_new (ps := ps) F hr hb (by decide) I1 (by omega) rel (fun p hp => ?_) fun H' s' L qs g n pm sr I' => ⟨_, rfl, .ref L, _, I', rfl, ?_⟩
  · obtain ⟨x, hx, rfl⟩ := List.mem_map.mp hp
    exact hk.1 x hx
  · obtain ⟨l', p1, p2⟩ := addr_order xs qs pm
    have e : qs.map (·.2) = l'.map fun q => V.ref q.2 := by
      rw [← p2, List.map_map]
      rfl
    rw [e]
    have s1 : (l'.map (·.1)).Pairwise (· ≤ ·) := by
      have q1 : (qs.map (·.1)).Pairwise (· ≤ ·) := List.pairwise_map.mpr sr
      rw [← p2, List.map_map] at q1
      exact q1
    have s2 : (l'.map (·.1)).Nodup := ((p1.map (·.1)).nodup_iff).mpr hk.2
    exact q H' L l' g n p1 (List.pairwise_map.mp ((s1.and s2).imp fun {a b} ⟨x, y⟩ => Nat.lt_of_le_of_ne x y))
end
end Nk
namespace Nk
open PySem L2

/-! ### words for the defs -/
/-- a def of the top: its text, its binding, its name -/
structure Df (K : PySem.W.Frag) (mg : Str → Option Value) (x : Str) (st : Stmt) (ps : List Str) (f : Addr) (fd : FuncData) : Prop where
  fn : Fun K x x st f fd
  bd : Binds K fd ps []
  nm : mg x = some (.ref f)
theorem same_new {H : Hp} {p : Addr} (h : H p = none) (o : HO) : Same H (upd H p o) := fun b u q => by rw [upd_ne (ne_of_none q h)]; exact q
theorem same_put {H1 H : Hp} {D : Addr} {o : HO} (g : Same H1 H) (n : H1 D = none) : Same H1 (upd H D o) := fun b u q => by
  rw [upd_ne (ne_of_none q n)]
  exact g b u q
theorem no_calls {P : Program} {w : World} {K : PySem.W.Frag} {mg : Str → Option Value} {base : Heap} {CX : CXT} {f : Addr} {fd : FuncData} {ps : List Str} {sp : Sp} (no : ∀ vs H Q E, ¬ sp vs H Q E) (k : Nat) : FnOk P w K mg base CX k f fd ps sp :=
  ⟨fun vs H Q E h => absurd h (no vs H Q E), fun A outer s H args us vs Q E _ _ _ _ h => absurd h (no vs H Q E)⟩
/-- reversed(a tuple): its items from behind -/
theorem walk_revT {K : PySem.W.Frag} {a : Addr} {xs : List V} : Walk (RT.ItvT K a xs.length) xs.length (fun H => SqT K H a xs) (YAt xs.reverse) where
  goes _ _ less sx := ⟨less, xs, _, sx, List.getElem?_eq_getElem (by omega)⟩
  stops _ _ := Nat.le_refl _
  yields _ _ _ _ less sx y := ⟨y.1, (List.getElem?_reverse less).trans (y.2 xs sx)⟩
theorem lc_revT {K : PySem.W.Frag} {a : Addr} {xs : List V} {g : TG} {tt : TT} {te : TE} {vs : List Nat} {σ : L2.St} {H1 : Hp} {D : Addr} {Qd : Hp → Prop} (Pv : Nat → Hp → Prop) (h0 : Pv 0 (upd H1 D (.lst []))) (hl : ∀ i H, i ≤ xs.length → Pv i H → SqT K H a xs)
    (hs : ∀ i x H, xs.reverse[i]? = some x → Pv i H → g x (wipe σ vs) H fun σ2 H2 => wipe σ2 vs = wipe σ vs ∧ tt σ2 H2 fun b H3 =>
      if b = true then te σ2 H3 fun y H4 => ∃ acc, H4 D = some (.lst acc) ∧ acc.length < sizeLine ∧ Pv (i + 1) (upd H4 D (.lst (acc ++ [y]))) else Pv (i + 1) H3) (hd : ∀ H, Pv xs.length H → Qd H) :
    ∃ W : Nat → Nat → Hp → Prop, (∃ m, W 0 m (upd H1 D (.lst []))) ∧ ∀ i m H, W i m H →
      ((RT.ItvT K a xs.length).stop i H ∧ Qd H) ∨ ((RT.ItvT K a xs.length).go i H ∧ ∃ Nx : Hp → Prop, (∀ H', Nx H' → ∃ m', m' < m ∧ W (i + 1) m' H') ∧ ∀ x H', (RT.ItvT K a xs.length).yld i H x H' → g x (wipe σ vs) H' fun σ2 H2 => wipe σ2 vs = wipe σ vs ∧ tt σ2 H2 fun b H3 =>
        if b = true then te σ2 H3 fun y H4 => ∃ acc, H4 D = some (.lst acc) ∧ acc.length < sizeLine ∧ Nx (upd H4 D (.lst (acc ++ [y]))) else Nx H3) := by
  exact lc_it (walk_revT (K := K) (a := a) (xs := xs)) Pv h0 hl (fun i x H H' _ p y => y.1 ▸ hs i x H y.2 p) hd
theorem small {n : Nat} (h : n ≤ 100000) : n ≤ sizeLine := Nat.le_trans h (by decide)
theorem smaller {n : Nat} (h : n ≤ 100000) : n < sizeLine := Nat.lt_of_le_of_lt h (by decide)
theorem hu16 {A : Around} {k : Nat} (hr : Room k A) : A.units + 16 < cLine := by have := hr.un; omega
theorem hu64 {A : Around} {k : Nat} (hr : Room k A) : A.units + 64 < cLine := by have := hr.un; omega
theorem hu66 {A : Around} {k : Nat} (hr : Room k A) : A.units + 66 < cLine := by have := hr.un; omega
theorem nd_grow {P : Program} {w : World} {K : PySem.W.Frag} {H : Hp} {d : Addr} {ks : List (Nat × Addr)} {o : HO} (h : H d = some (ND P w d ks)) : Grow K H (upd H d o) := Grow.upd fun o' e => by
  rw [h] at e
  cases e
  exact ⟨fun _ z => (by unfold ND at z; cases z), fun _ _ z => (by unfold ND at z; cases z)⟩
/-- a value's length is within the line -/
theorem pe_z {X : Cx} {e : Expr} {te : TE} (he : PE X e te) : PE X e (fun σ H Q => te σ H fun x H1 => (∀ a xs, x = .ref a → (SqT X.K H1 a xs ∨ SqL X.K H1 a xs) → xs.length ≤ sizeLine) → Q x H1) := by
  refine ⟨fun pins s σ H Q I h => ?_⟩
  refine thn (he.run pins s σ H _ I h) fun u s1 ⟨v, H1, I1, r, q⟩ => ⟨v, H1, I1, r, q fun a xs _ hs => ?_⟩
  rcases hs with hs | hs
  · obtain ⟨_, _, _, z⟩ := I1.tuple hs
    exact z
  · obtain ⟨_, _, _, z⟩ := I1.list hs
    exact z
/-- at most D - 1 levels deep: D calls of rank_row are enough -/
def spRk (K : PySem.W.Frag) (D : Nat) : Sp := fun vs H Q _ => ∃ v n, vs = [v] ∧ Na K H v n ∧ dep n < D ∧ ∀ r H', Same H H' → Tp K H' r (rkd n) → Q r H'
end Nk
namespace Nk
open PySem PySem.Spec PyProof.Rows L2

/-! ### walks over a list or a tuple -/
def Sq (K : PySem.W.Frag) (H : Hp) (a : Addr) (xs : List V) : Prop := SqL K H a xs ∨ SqT K H a xs
theorem Sq.same {K : PySem.W.Frag} {H H' : Hp} {a : Addr} {xs : List V} (e : Same H H') (h : Sq K H a xs) : Sq K H' a xs := h.imp (fun z => e.seq z) fun z => sqT_same e z
def iSeq (K : PySem.W.Frag) (tl : TE) : TI := fun σ H R => tl σ H fun x H1 => ∃ a xs, x = .ref a ∧ ((SqL K H1 a xs ∧ R (Itl K a) H1) ∨ (SqT K H1 a xs ∧ R (Itt K a) H1))
/-- an iterator in a new cell -/
theorem new_cell {X : Cx} {tg : Expr} {pins : List (Addr × Obj)} {σ : L2.St} {H : Hp} {s : Shared} {R : It → Hp → Prop} {J : It} {tn : Nat → Heap → Prop} {cell : Obj} (I : Inv X pins σ H s) (T : Turn X.prog X.w X.K tg J [s.heap.objs.size] s.heap.objs.size tn)
    (t0 : tn 0 (s.heap.push cell)) (r : R J H) : PIE X pins σ tg R (.ref s.heap.objs.size) { s with heap := s.heap.push cell } := by
  have only : ∀ b ∈ [s.heap.objs.size], FpOk X pins H b := List.forall_mem_singleton.mpr (I.fpOk (Nat.le_refl _) (I.hok.fresh (Nat.le_refl _)))
  exact ⟨_, _, _, _, _, rfl, I.kept (t' := s.toks) fun _ _ z => Heap.get?_push_of_some _ z, T, t0, only, r⟩
theorem pi_seq {X : Cx} {tg l : Expr} {tl : TE} (hl : PE X l tl) : PI X tg l (iSeq X.K tl) where
  run pins s σ H R I h := by
    apply thn (hl.run pins s σ H _ I h)
    rintro v s1 ⟨_, H1, I1, rel, a, xs, rfl, both⟩
    obtain rfl : v = Value.ref a := rel
    cases both with
    | inl here =>
      obtain ⟨_, _, at_, _⟩ := I1.list here.1
      exact wpAny_pyIter_list at_.isList (new_cell I1 (turn_list a _) ⟨_, Heap.get?_push_size _ rfl, rfl, rfl⟩ here.2)
    | inr here =>
      obtain ⟨_, _, at_, _⟩ := I1.tuple here.1
      exact wpAny_pyIter_tuple at_ (new_cell I1 (turn_tuple a _) ⟨_, Heap.get?_push_size _ rfl, rfl, rfl⟩ here.2)

/-! ### a comprehension that keeps some members -/
section
variable {K : PySem.W.Frag} {a : Addr} {xs : List V} {ns : List Nat} {g : TG} {tt : TT} {te : TE} {vs : List Nat} {σ : L2.St} {H1 : Hp} {D : Addr} {Qd : Hp → Prop}
theorem filt_step (p : Nat → Bool) {i : Nat} {x : V} {k : Nat} {H : Hp} {acc : List V} (hD : H1 D = none) (gg : Same H1 H) (hacc : H D = some (.lst acc)) (tp : Na K H x k) (hk : ns[i]? = some k)
    (tacc : NaAll K H acc ((ns.take i).filter p)) (hp : p k = true) : NaAll K (upd H D (.lst (acc ++ [x]))) (acc ++ [x]) ((ns.take (i + 1)).filter p) := by
  have et : ns.take (i + 1) = ns.take i ++ [k] := by rw [List.take_add_one, hk]; rfl
  rw [et, List.filter_append]
  have e1 : [k].filter p = [k] := by simp [hp]
  rw [e1]
  show TpAll K _ _ (List.map dat _)
  rw [List.map_append]
  exact (TpAll.app tacc (.cons tp .nil)).grow (Grow.lst hacc)
theorem filt_skip (p : Nat → Bool) {i k : Nat} (hk : ns[i]? = some k) (hp : p k = false) : (ns.take (i + 1)).filter p = (ns.take i).filter p := by
  have et : ns.take (i + 1) = ns.take i ++ [k] := by rw [List.take_add_one, hk]; rfl
  rw [et, List.filter_append]
  simp [hp]
/-- what is left of the loop, by the source's own rule -/
def FiltTurn (K : PySem.W.Frag) (xs : List V) (ns : List Nat) (g : TG) (tt : TT) (te : TE) (vs : List Nat) (σ : L2.St) (H1 : Hp) (p : Nat → Bool) : Prop :=
  ∀ (x : V) (k : Nat) (H : Hp) (C : V → Hp → Prop) (N : Hp → Prop), Na K H x k → k ∈ ns → Same H1 H → (p k = true → ∀ H2, Same H H2 → C x H2) → (p k = false → ∀ H2, Same H H2 → N H2) →
    g x (wipe σ vs) H fun σ2 H2 => wipe σ2 vs = wipe σ vs ∧ tt σ2 H2 fun b H3 => if b = true then te σ2 H3 C else N H3
theorem filt_all (p : Nat → Bool) (hx : NaAll K H1 xs ns) (hz : xs.length ≤ sizeLine) (hD : H1 D = none) (ht : FiltTurn K xs ns g tt te vs σ H1 p) :
    ∀ i x H, xs[i]? = some x → (Same H1 H ∧ ∃ acc, H D = some (.lst acc) ∧ acc.length ≤ i ∧ NaAll K H acc ((ns.take i).filter p)) → g x (wipe σ vs) H fun σ2 H2 => wipe σ2 vs = wipe σ vs ∧ tt σ2 H2 fun b H3 =>
      if b = true then te σ2 H3 fun y H4 => ∃ acc, H4 D = some (.lst acc) ∧ acc.length < sizeLine ∧ (Same H1 (upd H4 D (.lst (acc ++ [y]))) ∧ ∃ acc', upd H4 D (.lst (acc ++ [y])) D = some (.lst acc') ∧ acc'.length ≤ i + 1 ∧ NaAll K (upd H4 D (.lst (acc ++ [y]))) acc' ((ns.take (i + 1)).filter p))
      else (Same H1 H3 ∧ ∃ acc, H3 D = some (.lst acc) ∧ acc.length ≤ i + 1 ∧ NaAll K H3 acc ((ns.take (i + 1)).filter p)) := by
  rintro i x H hi ⟨gg, acc, hacc, lacc, tacc⟩
  obtain ⟨d, hd, tp⟩ := hx.get hi
  rw [List.getElem?_map] at hd
  cases hb : ns[i]? with
  | none => rw [hb] at hd; cases hd
  | some k =>
    rw [hb] at hd
    cases hd
    have hil : i < xs.length := (List.getElem?_eq_some_iff.mp hi).1
    have tp' : Na K H x k := tp.grow (Grow.of gg)
    refine ht x k H _ _ tp' (List.mem_of_getElem? hb) gg (fun hp H2 g2 => ⟨acc, g2 _ _ hacc, by omega, same_put (gg.trans g2) hD, acc ++ [x], upd_same, by rw [List.length_append]; simp; omega, filt_step p hD (gg.trans g2) (g2 _ _ hacc) (tp'.grow (Grow.of g2)) hb (tacc.grow (Grow.of g2)) hp⟩) fun hp H2 g2 => ⟨gg.trans g2, acc, g2 _ _ hacc, by omega, ?_⟩
    rw [filt_skip p hb hp]
    exact tacc.grow (Grow.of g2)
theorem filt_end (p : Nat → Bool) (hx : NaAll K H1 xs ns) (hd : ∀ H acc, Same H1 H → H D = some (.lst acc) → NaAll K H acc (ns.filter p) → acc.length ≤ xs.length → Qd H) :
    ∀ H, (Same H1 H ∧ ∃ acc, H D = some (.lst acc) ∧ acc.length ≤ xs.length ∧ NaAll K H acc ((ns.take xs.length).filter p)) → Qd H := by
  rintro H ⟨gg, acc, hacc, lacc, tacc⟩
  have hl : xs.length = ns.length := by
    have := hx.len
    rw [List.length_map] at this
    exact this
  rw [hl, List.take_length] at tacc
  exact hd H acc gg hacc tacc lacc
theorem lcf_tup (p : Nat → Bool) (hs : SqT K H1 a xs) (hx : NaAll K H1 xs ns) (hz : xs.length ≤ sizeLine) (hD : H1 D = none) (ht : FiltTurn K xs ns g tt te vs σ H1 p)
    (hd : ∀ H acc, Same H1 H → H D = some (.lst acc) → NaAll K H acc (ns.filter p) → acc.length ≤ xs.length → Qd H) :
    ∃ W : Nat → Nat → Hp → Prop, (∃ m, W 0 m (upd H1 D (.lst []))) ∧ ∀ i m H, W i m H →
      ((Itt K a).stop i H ∧ Qd H) ∨ ((Itt K a).go i H ∧ ∃ Nx : Hp → Prop, (∀ H', Nx H' → ∃ m', m' < m ∧ W (i + 1) m' H') ∧ ∀ x H', (Itt K a).yld i H x H' → g x (wipe σ vs) H' fun σ2 H2 => wipe σ2 vs = wipe σ vs ∧ tt σ2 H2 fun b H3 =>
        if b = true then te σ2 H3 fun y H4 => ∃ acc, H4 D = some (.lst acc) ∧ acc.length < sizeLine ∧ Nx (upd H4 D (.lst (acc ++ [y]))) else Nx H3) :=
  lc_tup (xs := xs) (Pv := fun i H => Same H1 H ∧ ∃ acc, H D = some (.lst acc) ∧ acc.length ≤ i ∧ NaAll K H acc ((ns.take i).filter p)) ⟨same_new hD _, [], upd_same, Nat.le_refl _, by rw [List.take_zero]; exact .nil⟩ (fun i H _ q => sqT_same q.1 hs) (filt_all p hx hz hD ht) (filt_end p hx hd)
theorem lcf_list (p : Nat → Bool) (hs : SqL K H1 a xs) (hx : NaAll K H1 xs ns) (hz : xs.length ≤ sizeLine) (hD : H1 D = none) (ht : FiltTurn K xs ns g tt te vs σ H1 p)
    (hd : ∀ H acc, Same H1 H → H D = some (.lst acc) → NaAll K H acc (ns.filter p) → acc.length ≤ xs.length → Qd H) :
    ∃ W : Nat → Nat → Hp → Prop, (∃ m, W 0 m (upd H1 D (.lst []))) ∧ ∀ i m H, W i m H →
      ((Itl K a).stop i H ∧ Qd H) ∨ ((Itl K a).go i H ∧ ∃ Nx : Hp → Prop, (∀ H', Nx H' → ∃ m', m' < m ∧ W (i + 1) m' H') ∧ ∀ x H', (Itl K a).yld i H x H' → g x (wipe σ vs) H' fun σ2 H2 => wipe σ2 vs = wipe σ vs ∧ tt σ2 H2 fun b H3 =>
        if b = true then te σ2 H3 fun y H4 => ∃ acc, H4 D = some (.lst acc) ∧ acc.length < sizeLine ∧ Nx (upd H4 D (.lst (acc ++ [y]))) else Nx H3) :=
  lc_list (xs := xs) (Pv := fun i H => Same H1 H ∧ ∃ acc, H D = some (.lst acc) ∧ acc.length ≤ i ∧ NaAll K H acc ((ns.take i).filter p)) ⟨same_new hD _, [], upd_same, Nat.le_refl _, by rw [List.take_zero]; exact .nil⟩ (fun i H _ q => q.1.seq hs) (filt_all p hx hz hD ht) (filt_end p hx hd)
end
/-- a member's test: in, not in -/
theorem ite_bl {b : Bool} {A B : Prop} (h1 : b = true → A) (h2 : b = false → B) : if b = true then A else B := by
  cases b with
  | true => rw [if_pos rfl]; exact h1 rfl
  | false => rw [if_neg Bool.false_ne_true]; exact h2 rfl
theorem for_seq {K : PySem.W.Frag} {H0 H1 : Hp} {a : Addr} {xs : List V} {tb : TS} {g : TG} {D : Ends} {σ : L2.St} (hs : Sq K H0 a xs) (h01 : Same H0 H1) (Pv : Nat → L2.St → Hp → Prop) (h0 : Pv 0 σ H1) (hl : ∀ i σ H, Pv i σ H → Same H0 H)
    (ht : ∀ i x σ H, xs[i]? = some x → Pv i σ H → g x σ H fun σ2 H2 => tb { D with nx := Pv (i + 1), ct := Pv (i + 1), bk := D.nx } σ2 H2) (hd : ∀ σ H, Pv xs.length σ H → D.nx σ H) :
    (SqL K H1 a xs ∧ ∃ W : Nat → Nat → L2.St → Hp → Prop, (∃ m, W 0 m σ H1) ∧ ∀ i m σ H, W i m σ H → ((Itl K a).stop i H ∧ D.nx σ H) ∨ ((Itl K a).go i H ∧ ∃ N : L2.St → Hp → Prop, (∀ σ' H', N σ' H' → ∃ m', m' < m ∧ W (i + 1) m' σ' H') ∧ ∀ x H', (Itl K a).yld i H x H' → g x σ H' fun σ2 H2 => tb { D with nx := N, ct := N, bk := D.nx } σ2 H2)) ∨
    (SqT K H1 a xs ∧ ∃ W : Nat → Nat → L2.St → Hp → Prop, (∃ m, W 0 m σ H1) ∧ ∀ i m σ H, W i m σ H → ((Itt K a).stop i H ∧ D.nx σ H) ∨ ((Itt K a).go i H ∧ ∃ N : L2.St → Hp → Prop, (∀ σ' H', N σ' H' → ∃ m', m' < m ∧ W (i + 1) m' σ' H') ∧ ∀ x H', (Itt K a).yld i H x H' → g x σ H' fun σ2 H2 => tb { D with nx := N, ct := N, bk := D.nx } σ2 H2)) := by
  rcases hs with hs | hs
  · exact .inl ⟨h01.seq hs, for_list (xs := xs) Pv h0 (fun i σ H _ p => (hl i σ H p).seq hs) ht hd⟩
  · exact .inr ⟨sqT_same h01 hs, for_tup (xs := xs) Pv h0 (fun i σ H _ p => sqT_same (hl i σ H p) hs) ht hd⟩
theorem gname_at {i : Nat} {v v' : V} {σ : L2.St} {H : Hp} {Q : L2.St → Hp → Prop} (e : v = v') (h : gName i v' σ H Q) : gName i v σ H Q := by rw [e]; exact h
/-! the operators, the written part named -/
section
variable {X : Cx} {K : PySem.W.Frag}
theorem oeq {k : Nat} (hr : Room k X.A) (hK : X.K = K := by rfl) : OpR X (compareOp .Eq) (rEqN K) := by subst hK; exact op_eqN (hu64 hr)
theorem one' {k : Nat} (hr : Room k X.A) (hK : X.K = K := by rfl) : OpR X (compareOp .NotEq) (rNeN K) := by subst hK; exact op_neN (hu64 hr)
theorem oin {k : Nat} (hr : Room k X.A) (hK : X.K = K := by rfl) : OpR X (compareOp .In) (rInN K false) := by subst hK; exact op_inN (hu66 hr)
theorem onotin {k : Nat} (hr : Room k X.A) (hK : X.K = K := by rfl) : OpR X (compareOp .NotIn) (rInN K true) := by subst hK; exact op_notInN (hu66 hr)
theorem olt {k : Nat} (hr : Room k X.A) (hK : X.K = K := by rfl) : OpR X (compareOp .Lt) (rLtR K) := by subst hK; exact op_ltR (hu64 hr)
/-- in, not in of nests -/
theorem in_turn {K : PySem.W.Frag} {neg : Bool} {H1 : Hp} {b : Addr} {ys : List V} {ms : List Nat} {x : V} {k : Nat} {H : Hp} {Q : VK} (hb : Sq K H1 b ys) (hy : NaAll K H1 ys ms) (hd : ∀ m ∈ ms, dep m ≤ 60) (tp : Na K H x k) (hk : dep k ≤ 60) (g : Same H1 H)
    (q : Q (.bl (if neg then !decide (k ∈ ms) else decide (k ∈ ms))) H) : rInN K neg x (.ref b) H Q := ⟨k, b, ys, ms, tp, hk, rfl, hb.same g, hy.grow (Grow.of g), hd, q⟩
end
/-! ### small words -/
/-- isinstance(b, bool) of a truth -/
theorem call_isb {X : Cx} : CallR X (.builtin "isinstance") (fun xs H Q => ∃ b, xs = [.bl b, .ty "bool"] ∧ Q (.bl true) H) := by
  intro pins s σ H xs us Q I r h
  obtain ⟨b, rfl, q⟩ := h
  exact call_isi pins s σ H _ us Q I r ⟨.bl b, .ty "bool", .type "bool", .type "bool", true, rfl, .ty "bool", .base (.bl b), kit_ty (by decide +kernel), q⟩
theorem skip_ne {x y : V} {A B : Prop} (h : x = y) (hb : B) : if (!decide (x = y)) = true then A else B := by
  rw [decide_eq_true h]
  exact iteF hb
theorem skip_neN {x y : Nat} {A B : Prop} (h : x = y) (hb : B) : if (!decide (x = y)) = true then A else B := by
  rw [decide_eq_true h]
  exact iteF hb
theorem Na.len {K : PySem.W.Frag} {H : Hp} {a : Addr} {xs : List V} {n : Nat} (h : NaAll K H xs (bits n)) : xs.length = (bits n).length := by
  have := h.len
  rw [List.length_map] at this
  exact this
theorem NaAll.ln {K : PySem.W.Frag} {H : Hp} {xs : List V} {ns : List Nat} (h : NaAll K H xs ns) : xs.length = ns.length := by
  have := TpAll.len h
  rw [List.length_map] at this
  exact this
theorem NaAll.cat {K : PySem.W.Frag} {H : Hp} {xs ys : List V} {ns ms : List Nat} (h : NaAll K H xs ns) (h2 : NaAll K H ys ms) : NaAll K H (xs ++ ys) (ns ++ ms) := by
  show TpAll K H _ (List.map dat _)
  rw [List.map_append]
  exact TpAll.app h h2
theorem NaAll.at {K : PySem.W.Frag} {H : Hp} {xs : List V} {ns : List Nat} (h : NaAll K H xs ns) {i : Nat} {x : V} (e : xs[i]? = some x) : ∃ k, ns[i]? = some k ∧ k ∈ ns ∧ Na K H x k := by
  obtain ⟨d, hd, tp⟩ := TpAll.get h e
  rw [List.getElem?_map] at hd
  cases hb : ns[i]? with
  | none => rw [hb] at hd; cases hd
  | some k =>
    rw [hb] at hd
    cases hd
    exact ⟨k, rfl, List.mem_of_getElem? hb, tp⟩
theorem NaAll.at' {K : PySem.W.Frag} {H : Hp} {xs : List V} {ns : List Nat} (h : NaAll K H xs ns) {i k : Nat} (e : ns[i]? = some k) : ∃ x, xs[i]? = some x ∧ Na K H x k := by
  obtain ⟨x, h1, h2⟩ := TpAll.get' h (j := i) (d := dat k) (by rw [List.getElem?_map, e]; rfl)
  exact ⟨x, h1, h2⟩
theorem NaAll.tk {K : PySem.W.Frag} {H : Hp} : ∀ (n : Nat) {xs : List V} {ns : List Nat}, NaAll K H xs ns → NaAll K H (xs.take n) (ns.take n)
  | 0, _, _, _ => .nil
  | n + 1, [], [], _ => .nil
  | n + 1, [], _ :: _, h => by cases h
  | n + 1, _ :: _, [], h => by cases h
  | n + 1, x :: xs, m :: ns, h => by
    cases h with
    | cons h1 h2 => exact .cons h1 (NaAll.tk n h2)
theorem NaAll.dr {K : PySem.W.Frag} {H : Hp} : ∀ (n : Nat) {xs : List V} {ns : List Nat}, NaAll K H xs ns → NaAll K H (xs.drop n) (ns.drop n)
  | 0, _, _, h => h
  | n + 1, [], [], _ => .nil
  | n + 1, [], _ :: _, h => by cases h
  | n + 1, _ :: _, [], h => by cases h
  | n + 1, x :: xs, m :: ns, h => by
    cases h with
    | cons h1 h2 => exact NaAll.dr n h2
theorem NaAll.same {K : PySem.W.Frag} {H H' : Hp} {xs : List V} {ns : List Nat} (h : NaAll K H xs ns) (g : Same H H') : NaAll K H' xs ns := TpAll.grow (Grow.of g) h
theorem Na.same {K : PySem.W.Frag} {H H' : Hp} {x : V} {n : Nat} (h : Na K H x n) (g : Same H H') : Na K H' x n := Tp.grow (Grow.of g) h
/-- members kept of a nest -/
theorem filt_bits (n : Nat) (p : Nat → Bool) : bits (mk ((bits n).filter p)) = (bits n).filter p := bits_mk_asc ((bits_asc n).filter p)
/-- the truths of a comprehension -/
theorem truths {K : PySem.W.Frag} {a : Addr} {xs : List V} {ns : List Nat} {g : TG} {te : TE} {vs : List Nat} {σ : L2.St} {H1 : Hp} {D : Addr} {Qd : Hp → Prop} (p : Nat → Bool) (hs : SqT K H1 a xs) (hx : NaAll K H1 xs ns) (hz : xs.length ≤ sizeLine) (hD : H1 D = none)
    (ht : ∀ (x : V) (k : Nat) (H : Hp) (C : V → Hp → Prop), Na K H x k → k ∈ ns → Same H1 H → (∀ H2, Same H H2 → C (.bl (p k)) H2) → g x (wipe σ vs) H fun σ2 H2 => wipe σ2 vs = wipe σ vs ∧ te σ2 H2 C)
    (hd : ∀ H, Same H1 H → H D = some (.lst ((ns.map p).map V.bl)) → Qd H) :
    ∃ W : Nat → Nat → Hp → Prop, (∃ m, W 0 m (upd H1 D (.lst []))) ∧ ∀ i m H, W i m H →
      ((Itt K a).stop i H ∧ Qd H) ∨ ((Itt K a).go i H ∧ ∃ Nx : Hp → Prop, (∀ H', Nx H' → ∃ m', m' < m ∧ W (i + 1) m' H') ∧ ∀ x H', (Itt K a).yld i H x H' → g x (wipe σ vs) H' fun σ2 H2 => wipe σ2 vs = wipe σ vs ∧ tYes σ2 H2 fun b H3 =>
        if b = true then te σ2 H3 fun y H4 => ∃ acc, H4 D = some (.lst acc) ∧ acc.length < sizeLine ∧ Nx (upd H4 D (.lst (acc ++ [y]))) else Nx H3) := by
  have hl := NaAll.ln hx
  refine lc_tup (xs := xs) (Pv := fun i H => Same H1 H ∧ H D = some (.lst (((ns.take i).map p).map V.bl))) ⟨same_new hD _, upd_same⟩ (fun i H _ q => sqT_same q.1 hs) (fun i x H hi q => ?_) (fun H q => ?_)
  · obtain ⟨gg, hacc⟩ := q
    obtain ⟨k, hb, hk, tp⟩ := NaAll.at hx hi
    have hil : i < xs.length := (List.getElem?_eq_some_iff.mp hi).1
    refine ht x k H _ (Na.same tp gg) hk gg fun H2 g2 => ⟨_, g2 _ _ hacc, ?_, same_put (gg.trans g2) hD, ?_⟩
    · rw [List.length_map, List.length_map, List.length_take]
      omega
    · have et : ns.take (i + 1) = ns.take i ++ [k] := by rw [List.take_add_one, hb]; rfl
      rw [upd_same, et, List.map_append, List.map_append]
      rfl
  · obtain ⟨gg, hacc⟩ := q
    rw [hl, List.take_length] at hacc
    exact hd H gg hacc
end Nk
namespace Nk
open PySem PySem.Spec PyProof.Rows L2

/-! ### max(xs, default=d) of whole numbers -/
theorem dp_ints {K : PySem.W.Frag} {H : Hp} : ∀ ns : List Int, DpAll K H (ns.map V.int) (ns.map PyData.int)
  | [] => .nil
  | n :: ns => .cons (.int n) (dp_ints ns)
theorem maxOf_le (xs : List Int) : ∀ x : Int, PySem.W.maxOf x xs ∈ x :: xs ∧ ∀ y ∈ x :: xs, y ≤ PySem.W.maxOf x xs := by
  induction xs with
  | nil =>
    intro x
    refine ⟨List.mem_cons_self, fun y hy => ?_⟩
    rw [List.mem_singleton.mp hy]
    exact Int.le_refl _
  | cons a xs ih =>
    intro x
    have e : PySem.W.maxOf x (a :: xs) = PySem.W.maxOf (if decide (x < a) = true then a else x) xs := rfl
    rw [e]
    by_cases h : x < a
    · rw [if_pos (decide_eq_true h)]
      obtain ⟨h1, h2⟩ := ih a
      refine ⟨List.mem_cons_of_mem _ h1, fun y hy => ?_⟩
      rcases List.mem_cons.mp hy with rfl | hy
      · have := h2 a List.mem_cons_self
        omega
      · exact h2 y hy
    · rw [if_neg (by simp [h])]
      obtain ⟨h1, h2⟩ := ih x
      refine ⟨?_, fun y hy => ?_⟩
      · rcases List.mem_cons.mp h1 with h1 | h1
        · rw [h1]; exact List.mem_cons_self
        · exact List.mem_cons_of_mem _ (List.mem_cons_of_mem _ h1)
      · rcases List.mem_cons.mp hy with rfl | hy
        · exact h2 y List.mem_cons_self
        · rcases List.mem_cons.mp hy with rfl | hy
          · have := h2 x List.mem_cons_self
            omega
          · exact h2 y (List.mem_cons_of_mem _ hy)
def rMaxDef (K : PySem.W.Frag) : List V → List V → Hp → VK → Prop := fun vs zs H Q => ∃ (a : Addr) (ns : List Int) (d : Int), vs = [.ref a] ∧ zs = [.int d] ∧ SqL K H a (ns.map V.int) ∧ (ns = [] → Q (.int d) H) ∧ ∀ m, m ∈ ns → (∀ y ∈ ns, y ≤ m) → Q (.int m) H
theorem cr_maxDef {X : Cx} (hc : X.calm = true) (hu : X.A.units + 16 < cLine) : CallRK X (.builtin "max") [Str.ofString "default"] (rMaxDef X.K) := by
  intro pins s σ H vs zs us ws Q I r rz h
  obtain ⟨a, ns, d, rfl, rfl, hs, q0, q1⟩ := h
  obtain rfl := Vals.ref1 r
  obtain ⟨w1, rfl, e1⟩ := vals1 rz
  obtain ⟨its, rv, hl, _⟩ := I.list hs
  obtain ⟨as, ra⟩ := Dp.readsAll I _ _ its (dp_ints ns) rv
  refine PySem.W.max_list_datum_default (α := Int) (xs := ns) (I.ok.hd hc) hl.isList ⟨as, ?_⟩ (Nat.lt_of_le_of_lt (?_ : _ ≤ X.A.units + 16) hu) (fun e h' tk k => ⟨.int d, H, I.kept k, e1, q0 e⟩) fun y ys i v h' tk e hi hv k => ?_
  · exact ra
  · show X.A.units + 1 + 0 ≤ X.A.units + 16
    omega
  · obtain ⟨h1, h2⟩ := maxOf_le ys y
    rw [← e] at h1 h2
    obtain ⟨bs, r1⟩ := hv
    generalize PySem.W.maxOf y ys = m at r1 h1 h2
    have r1' : Reads h' v (.int m) bs := r1
    cases r1' with
    | int _ t => exact ⟨.int m, H, I.kept k, ⟨t, rfl⟩, q1 m h1 h2⟩

/-! ### the first place of a nest in a list -/
def rIndexN (K : PySem.W.Frag) : V → List V → Hp → VK → Prop := fun x vs H Q => ∃ (a : Addr) (y : V) (n : Nat) (xs : List V) (ns : List Nat) (j : Nat), x = .ref a ∧ vs = [y] ∧ SqL K H a xs ∧ NaAll K H xs ns ∧ Na K H y n ∧ dep n ≤ 60 ∧ (∀ k ∈ ns, dep k ≤ 60) ∧
  ns[j]? = some n ∧ (∀ m, m < j → ns[m]? ≠ some n) ∧ Q (.int (j : Nat)) H
theorem mt_indexN {X : Cx} (hu : X.A.units + 65 < cLine) : MtR X "list.index" (rIndexN X.K) := by
  intro pins s σ H x xs v us Q I rx rxs h
  obtain ⟨a, y, n, vs, ns, j, rfl, rfl, hs, hx, hy, dn, dx, hj, hno, q⟩ := h
  refine mt_indexD hu pins s σ H _ _ v us Q I rx rxs ⟨a, y, dat n, ns.map dat, j, dat n, rfl, rfl, .lst hs (TpAll.dp hx), hy.dp, shaped_dats dx, shaped_dat dn, by rw [List.getElem?_map, hj]; rfl, by rw [dat_eqv]; simp, fun m z hm hz => ?_, q⟩
  rw [List.getElem?_map] at hz
  cases e : ns[m]? with
  | none => rw [e] at hz; cases hz
  | some k =>
    rw [e] at hz
    cases hz
    rw [dat_eqv]
    refine decide_eq_false fun z => hno m hm ?_
    rw [e, z]

/-! ### the counting nests -/
def cnt : Nat → Nat
  | 0 => 0
  | n + 1 => mk (bits (cnt n) ++ [cnt n])
theorem bits_cnt_succ (n : Nat) : bits (cnt (n + 1)) = bits (cnt n) ++ [cnt n] := by
  refine bits_mk_asc (List.pairwise_append.mpr ⟨bits_asc _, by simp, fun a ha b hb => ?_⟩)
  rw [List.mem_singleton.mp hb]
  exact bits_lt ha
theorem bits_cnt (n : Nat) : bits (cnt n) = (List.range n).map cnt := by
  induction n with
  | zero => rfl
  | succ n ih => rw [bits_cnt_succ, ih, List.range_succ, List.map_append]; rfl
theorem len_cnt (n : Nat) : (bits (cnt n)).length = n := by rw [bits_cnt, List.length_map, List.length_range]
theorem cnt_inj {n m : Nat} (h : cnt n = cnt m) : n = m := by
  have e := len_cnt n
  rw [h, len_cnt] at e
  exact e.symm
theorem mem_cnt {n k : Nat} : k ∈ bits (cnt n) ↔ ∃ i, i < n ∧ cnt i = k := by
  rw [bits_cnt, List.mem_map]
  exact ⟨fun ⟨i, hi, e⟩ => ⟨i, List.mem_range.mp hi, e⟩, fun ⟨i, hi, e⟩ => ⟨i, List.mem_range.mpr hi, e⟩⟩
theorem cnt_lt {i j : Nat} (h : i < j) : cnt i < cnt j := bits_lt (mem_cnt.mpr ⟨i, h, rfl⟩)
theorem dep_cnt (n : Nat) : dep (cnt n) = n := by
  induction n using Nat.strongRecOn with
  | ind n ih =>
    refine Nat.le_antisymm (dep_le.mpr fun k hk => ?_) ?_
    · obtain ⟨i, hi, rfl⟩ := mem_cnt.mp hk
      rw [ih i hi]
      exact hi
    · cases n with
      | zero => exact Nat.zero_le _
      | succ m =>
        have := dep_mem (mem_cnt.mpr ⟨m, Nat.lt_succ_self m, rfl⟩ : cnt m ∈ bits (cnt (m + 1)))
        rw [ih m (Nat.lt_succ_self m)] at this
        exact this
/-- the members of members -/
def joinN (n : Nat) : Nat := mk ((bits n).flatMap bits)
theorem mem_joinN {n k : Nat} : k ∈ bits (joinN n) ↔ ∃ m, m ∈ bits n ∧ k ∈ bits m := by
  unfold joinN
  rw [mem_mk, List.mem_flatMap]
def closedN (n : Nat) : Bool := decide (∀ k ∈ bits (joinN n), k ∈ bits n)
theorem closed_cnt (n : Nat) : closedN (cnt n) = true := by
  refine decide_eq_true fun k hk => ?_
  obtain ⟨m, hm, hk⟩ := mem_joinN.mp hk
  obtain ⟨i, hi, rfl⟩ := mem_cnt.mp hm
  obtain ⟨j, hj, rfl⟩ := mem_cnt.mp hk
  exact mem_cnt.mpr ⟨j, Nat.lt_trans hj hi, rfl⟩
/-- a comprehension of flat values, one for each member -/
theorem flats {K : PySem.W.Frag} {a : Addr} {xs : List V} {ns : List Nat} {g : TG} {te : TE} {vs : List Nat} {σ : L2.St} {H1 : Hp} {D : Addr} {Qd : Hp → Prop} (p : Nat → V) (hs : SqT K H1 a xs) (hx : NaAll K H1 xs ns) (hz : xs.length ≤ sizeLine) (hD : H1 D = none)
    (ht : ∀ (x : V) (k : Nat) (H : Hp) (C : V → Hp → Prop), Na K H x k → k ∈ ns → Same H1 H → (∀ H2, Same H H2 → C (p k) H2) → g x (wipe σ vs) H fun σ2 H2 => wipe σ2 vs = wipe σ vs ∧ te σ2 H2 C)
    (hd : ∀ H, Same H1 H → H D = some (.lst (ns.map p)) → Qd H) :
    ∃ W : Nat → Nat → Hp → Prop, (∃ m, W 0 m (upd H1 D (.lst []))) ∧ ∀ i m H, W i m H →
      ((Itt K a).stop i H ∧ Qd H) ∨ ((Itt K a).go i H ∧ ∃ Nx : Hp → Prop, (∀ H', Nx H' → ∃ m', m' < m ∧ W (i + 1) m' H') ∧ ∀ x H', (Itt K a).yld i H x H' → g x (wipe σ vs) H' fun σ2 H2 => wipe σ2 vs = wipe σ vs ∧ tYes σ2 H2 fun b H3 =>
        if b = true then te σ2 H3 fun y H4 => ∃ acc, H4 D = some (.lst acc) ∧ acc.length < sizeLine ∧ Nx (upd H4 D (.lst (acc ++ [y]))) else Nx H3) := by
  have hl := NaAll.ln hx
  refine lc_tup (xs := xs) (Pv := fun i H => Same H1 H ∧ H D = some (.lst ((ns.take i).map p))) ⟨same_new hD _, upd_same⟩ (fun i H _ q => sqT_same q.1 hs) (fun i x H hi q => ?_) (fun H q => ?_)
  · obtain ⟨gg, hacc⟩ := q
    obtain ⟨k, hb, hk, tp⟩ := NaAll.at hx hi
    have hil : i < xs.length := (List.getElem?_eq_some_iff.mp hi).1
    refine ht x k H _ (Na.same tp gg) hk gg fun H2 g2 => ⟨_, g2 _ _ hacc, ?_, same_put (gg.trans g2) hD, ?_⟩
    · rw [List.length_map, List.length_take]
      omega
    · have et : ns.take (i + 1) = ns.take i ++ [k] := by rw [List.take_add_one, hb]; rfl
      rw [upd_same, et, List.map_append]
      rfl
  · obtain ⟨gg, hacc⟩ := q
    rw [hl, List.take_length] at hacc
    exact hd H gg hacc
/-- a deed that asks two nests and tells a truth -/
def spTruth (K : PySem.W.Frag) (p : Nat → Nat → Bool) : Sp := fun vs H Q _ => ∃ x y a b, vs = [x, y] ∧ Na K H x a ∧ Na K H y b ∧ dep a ≤ 50 ∧ dep b ≤ 50 ∧ ∀ H', Same H H' → Q (.bl (p a b)) H'
/-- a deed that tells a nest -/
def spDeed (K : PySem.W.Frag) (D L : Nat) (f : Nat → Nat → Nat) : Sp := fun vs H Q _ => ∃ x y a b, vs = [x, y] ∧ Na K H x a ∧ Na K H y b ∧ dep a ≤ D ∧ dep b ≤ D ∧ (bits a).length ≤ L ∧ (bits b).length ≤ L ∧ ∀ r H', Same H H' → Na K H' r (f a b) → Q r H'
/-- a deed of one nest that tells a nest -/
def spOne (K : PySem.W.Frag) (D : Nat) (f : Nat → Nat) : Sp := fun vs H Q _ => ∃ x a, vs = [x] ∧ Na K H x a ∧ dep a ≤ D ∧ ((bits a).flatMap bits).length ≤ 90000 ∧ ∀ r H', Same H H' → Na K H' r (f a) → Q r H'
theorem flat_take (l : List Nat) (f : Nat → List Nat) (i : Nat) : ((l.take i).flatMap f).length ≤ (l.flatMap f).length := by
  conv => rhs; rw [← List.take_append_drop i l, List.flatMap_append, List.length_append]
  exact Nat.le_add_right _ _
theorem flat_len {w : Nat} {f : Nat → List Nat} : ∀ {l : List Nat}, (∀ k ∈ l, (f k).length ≤ w) → (l.flatMap f).length ≤ l.length * w
  | [], _ => Nat.zero_le _
  | a :: l, h => by
    rw [List.flatMap_cons, List.length_append, List.length_cons, Nat.succ_mul]
    have := h a List.mem_cons_self
    have := flat_len (l := l) fun k hk => h k (List.mem_cons_of_mem _ hk)
    omega
/-- a deed of one nest that tells a truth -/
def spAsk (K : PySem.W.Frag) (D : Nat) (f : Nat → Bool) : Sp := fun vs H Q _ => ∃ x a, vs = [x] ∧ Na K H x a ∧ dep a ≤ D ∧ ((bits a).flatMap bits).length ≤ 90000 ∧ ∀ H', Same H H' → Q (.bl (f a)) H'
theorem dep_joinN {n d : Nat} (h : dep n ≤ d) : dep (joinN n) ≤ d := dep_mk fun k hk => by
  obtain ⟨m, hm, hk⟩ := List.mem_flatMap.mp hk
  have := dep_mem hm
  have := dep_mem hk
  omega
/-- one + other of two nests -/
theorem cat_read {K : PySem.W.Frag} {H : Hp} {x y : V} {a b : Nat} {Q : VK} (hx : Na K H x a) (hy : Na K H y b) (hl : (bits a).length + (bits b).length ≤ 100000)
    (q : ∀ p H' zs, Same H H' → SqT K H' p zs → NaAll K H' zs (bits a ++ bits b) → Q (.ref p) H') : rCatA K x y H Q := by
  obtain ⟨p, xs, rfl, sx, mx⟩ := hx.tup
  obtain ⟨r, ys, rfl, sy, my⟩ := hy.tup
  have l1 := NaAll.ln mx
  have l2 := NaAll.ln my
  refine ⟨p, r, xs, ys, rfl, rfl, sx, sy, small (by omega), fun e => ?_, fun _ e => ?_, fun _ _ z nz => ?_⟩
  · have e1 : bits a = [] := List.eq_nil_of_length_eq_zero (by rw [← l1, e]; rfl)
    refine q r H ys (Same.refl _) sy ?_
    rw [e1, List.nil_append]
    exact my
  · have e1 : bits b = [] := List.eq_nil_of_length_eq_zero (by rw [← l2, e]; rfl)
    refine q p H xs (Same.refl _) sx ?_
    rw [e1, List.append_nil]
    exact mx
  · exact q z _ (xs ++ ys) (same_new nz _) (SqT.of upd_same) (NaAll.cat (NaAll.same mx (same_new nz _)) (NaAll.same my (same_new nz _)))
theorem ocatA {X : Cx} {K : PySem.W.Frag} (hK : X.K = K := by rfl) : OpR X (binaryOp .Add) (rCatA K) := by subst hK; exact op_catA
theorem otupOf {X : Cx} {K : PySem.W.Frag} (hK : X.K = K := by rfl) : CallR X (.type "tuple") (fun xs H Q => ∃ p ys, xs = [.ref p] ∧ ((SqL K H p ys ∧ ∀ l, H l = none → Q (.ref l) (upd H l (.tup ys))) ∨ (SqT K H p ys ∧ Q (.ref p) H))) := by subst hK; exact call_tuple_of
/-! ### slices -/
theorem cut_drop (xs : List V) (k : Nat) : cutV xs (some (k : Int)) none = xs.drop k := by
  unfold cutV
  rw [HT.sIx_nat, HT.sIx_none]
  by_cases h : k ≤ xs.length
  · rw [Nat.min_eq_left h]
    exact List.take_of_length_le (by rw [List.length_drop]; exact Nat.le_refl _)
  · rw [Nat.min_eq_right (by omega), List.drop_length, List.drop_eq_nil_of_le (by omega), List.take_nil]
theorem cut_take (xs : List V) (k : Nat) : cutV xs none (some (k : Int)) = xs.take k := by
  unfold cutV
  rw [HT.sIx_nat, HT.sIx_none, List.drop_zero, Nat.sub_zero]
  by_cases h : k ≤ xs.length
  · rw [Nat.min_eq_left h]
  · rw [Nat.min_eq_right (by omega), List.take_length, List.take_of_length_le (by omega)]
theorem asc_drop {l : List Nat} (k : Nat) (h : l.Pairwise (· < ·)) : (l.drop k).Pairwise (· < ·) := h.sublist (List.drop_sublist k l)
theorem asc_take {l : List Nat} (k : Nat) (h : l.Pairwise (· < ·)) : (l.take k).Pairwise (· < ·) := h.sublist (List.take_sublist k l)
/-- one[k:] of a nest -/
theorem tail_read {K : PySem.W.Frag} {H : Hp} {x : V} {n k : Nat} {Q : VK} (hx : Na K H x n) (q : ∀ r H', Same H H' → Na K H' r (mk ((bits n).drop k)) → Q r H') : rSlA K x (some (k : Int)) none H Q := by
  obtain ⟨p, xs, rfl, sx, mx⟩ := hx.tup
  have lx := NaAll.ln mx
  refine ⟨p, xs, rfl, sx, fun e => q _ H (Same.refl _) (Na.of sx ?_), fun _ z nz => ?_⟩
  · rw [HT.sIx_nat] at e
    have e0 : min k xs.length = 0 := e.1
    rw [bits_mk_asc (asc_drop k (bits_asc n))]
    by_cases hk : k = 0
    · rw [hk, List.drop_zero]; exact mx
    · have l0 : xs.length = 0 := by omega
      have b0 : bits n = [] := List.eq_nil_of_length_eq_zero (by omega)
      rw [List.eq_nil_of_length_eq_zero l0, b0, List.drop_nil]
      exact .nil
  · rw [cut_drop]
    refine q _ _ (same_new nz _) (Na.of (SqT.of upd_same) ?_)
    rw [bits_mk_asc (asc_drop k (bits_asc n))]
    exact NaAll.same (NaAll.dr k mx) (same_new nz _)
/-! ### small words -/
theorem none_of {H H' : Hp} {a : Addr} (g : Same H H') (n : H' a = none) : H a = none := by
  cases e : H a with
  | none => rfl
  | some u => rw [g _ _ e] at n; cases n
theorem skip_iff {p : Prop} [Decidable p] {A B : Prop} (h : p) (hb : B) : if (!decide p) = true then A else B := by
  rw [decide_eq_true h]
  exact iteF hb
theorem no_iff {p : Prop} [Decidable p] {A B : Prop} (h : ¬ p) (hb : B) : if decide p = true then A else B := by
  rw [decide_eq_false h]
  exact iteF hb
theorem yes_iff {p : Prop} [Decidable p] {A B : Prop} (h : p) (ha : A) : if decide p = true then A else B := by
  rw [decide_eq_true h]
  exact ha
theorem go_iff {p : Prop} [Decidable p] {A B : Prop} (h : ¬ p) (ha : A) : if (!decide p) = true then A else B := by
  rw [decide_eq_false h]
  exact if_pos rfl ▸ ha
/-- isinstance(a whole number, int), (.., bool) -/
theorem call_isn {X : Cx} : CallR X (.builtin "isinstance") (fun xs H Q => ∃ i : Int, (xs = [.int i, .ty "int"] ∧ Q (.bl true) H) ∨ (xs = [.int i, .ty "bool"] ∧ Q (.bl false) H)) := by
  intro pins s σ H xs us Q I r h
  obtain ⟨i, ⟨rfl, q⟩ | ⟨rfl, q⟩⟩ := h
  · exact call_isi pins s σ H _ us Q I r ⟨.int i, .ty "int", .type "int", .type "int", true, rfl, .ty "int", .base (.int i), kit_ty (by decide +kernel), q⟩
  · exact call_isi pins s σ H _ us Q I r ⟨.int i, .ty "bool", .type "int", .type "bool", false, rfl, .ty "bool", .base (.int i), kit_ty (by decide +kernel), q⟩
end Nk
namespace Nk
open PySem PySem.Spec PyProof.Rows L2

/-! ### enumerate(a tuple): over the library's Draws.tuple, begins_tuple and WalksT.enumerateD -/
/-- what a new enumerate holds -/
abbrev enCell (it : Addr) : Obj := { cls := .type "enumerate", data := .fields #[.none, .bool false, .ref it, rawInt 0, .none, .none] }
abbrev tiCell (t : Addr) : Obj := { cls := .type "tuple_iterator", data := .fields #[.ref t, .int 0 0] }
theorem en_meets (t : Addr) (its : Array Value) : Meets (Builtin.«enumerate.__new__» ⟨[.type "enumerate", .ref t], []⟩) fun _ R s =>
    s.heap.IsTuple t its ∧ R (.ok (.ret (.ref (s.heap.push (tiCell t)).objs.size))) { s with heap := (s.heap.push (tiCell t)).push (enCell s.heap.objs.size) } := by
  refine .of_wp fun prog w A R s hs => ?_
  rcases s with ⟨g0, g1, g2, g3, g4⟩
  rcases hs with ⟨ht, hr⟩
  have low := sub_enumerate
  have begin_ : ∀ {A2 : Around} {E2 : Value → Shared → Prop} {Q2 : Value → Shared → Prop}, Q2 (.ref g0.objs.size) ⟨g0.push (tiCell t), g1, g2, g3, g4⟩ → wpAny (model prog w) A2 (pyIter (.ref t)) Q2 E2 ⟨g0, g1, g2, g3, g4⟩ :=
    fun z => wpAny_pyIter_tuple (s := ⟨g0, g1, g2, g3, g4⟩) ht z
  wp_walk using begin_
  refine wpAny_stack_any fun _ => ?_
  apply wpAny_pure
  split
  case' h_1 c _ _ _ _ _ => cases (c == Value.type "enumerate")
  all_goals (wp_walk using begin_; exact ⟨_, rfl, hr⟩)
/-- the iterator at it and the enumerate at e, i items gone -/
def EnAt (a e it : Addr) (i : Nat) (h : Heap) : Prop := (∃ old, IsEnum h e it ((i : Nat) : Int) old) ∧ h.IsTupleIter it a i ∧ e ≠ it ∧ a ≠ it ∧ e ≠ a
theorem en_call {prog : Program} {w : World} {A : Around} {E : Value → Shared → Prop} {s : Shared} {t : Addr} {its : Array Value} {Q : Value → Shared → Prop} (ht : s.heap.IsTuple t its)
    (q : ∀ h', EnAt t (s.heap.objs.size + 1) s.heap.objs.size 0 h' → (∀ b o, s.heap.get? b = some o → h'.get? b = some o) → Q (.ref (s.heap.objs.size + 1)) { s with heap := h' }) :
    wpAny (model prog w) A (call (.type "enumerate") [.ref t]) Q E s := by
  have two : (s.heap.push (tiCell t)).objs.size = s.heap.objs.size + 1 := Heap.size_push ..
  have below : t < s.heap.objs.size := by
    obtain ⟨_, there, _⟩ := ht
    exact Heap.lt_size there
  have cell : IsEnum ((s.heap.push (tiCell t)).push (enCell s.heap.objs.size)) (s.heap.objs.size + 1) s.heap.objs.size 0 .none := two ▸ Heap.get?_push_size (s.heap.push (tiCell t)) rfl
  have first : ((s.heap.push (tiCell t)).push (enCell s.heap.objs.size)).get? s.heap.objs.size = some (tiCell t) := Heap.get?_push_of_some _ (Heap.get?_push_size _ rfl)
  have kept : ∀ b o, s.heap.get? b = some o → ((s.heap.push (tiCell t)).push (enCell s.heap.objs.size)).get? b = some o := fun _ _ z => Heap.get?_push_of_some _ (Heap.get?_push_of_some _ z)
  refine callType_new F.called_enumerate (by decide) (F.typeCall_enumerate_1 _) (F.newCall_enumerate_1 _) (fun o => F.args_object_init_2 o _) F.entry_enumerate_new (en_meets t its) ⟨ht, ?_⟩
  show Shared.TypeIs _ _ _ ∧ Q _ _
  rw [two]
  exact ⟨⟨_, cell, rfl⟩, q _ ⟨⟨_, cell⟩, ⟨_, first, rfl, rfl⟩, Nat.succ_ne_self _, Nat.ne_of_lt below, Ne.symm (Nat.ne_of_lt (Nat.lt_succ_of_lt below))⟩ kept⟩
def Itet (K : PySem.W.Frag) (a : Addr) : It :=
  ⟨fun i H => ∃ xs : List V, SqT K H a xs ∧ i < xs.length, fun i H v H' => ∃ p x, v = .ref p ∧ H p = none ∧ H' = upd H p (.tup [.int (i : Nat), x]) ∧ ∀ xs, SqT K H a xs → xs[i]? = some x, fun i H => ∃ xs : List V, SqT K H a xs ∧ xs.length = i⟩
theorem EnAt.lives {a e it : Addr} {i : Nat} {h : Heap} (st : EnAt a e it i h) : ∀ b ∈ [e, it], ∃ o, h.get? b = some o ∧ ∀ v, o.data ≠ .cell v := by
  obtain ⟨⟨_, h1⟩, ⟨o, h2, _, h3⟩, _⟩ := st
  intro b hb
  simp only [List.mem_cons, List.not_mem_nil, or_false] at hb
  rcases hb with rfl | rfl
  · exact ⟨_, h1, fun _ z => nomatch z⟩
  · refine ⟨o, h2, fun _ z => ?_⟩
    rw [h3] at z
    cases z
theorem EnAt.stays {a e it : Addr} {i : Nat} {h h' : Heap} (st : EnAt a e it i h) (k : ∀ b ∈ [e, it], ∀ o, h.get? b = some o → h'.get? b = some o) : EnAt a e it i h' := by
  obtain ⟨⟨old, h1⟩, h2, rest⟩ := st
  exact ⟨⟨old, k e List.mem_cons_self _ h1⟩, h2.at fun _ z => k it (List.mem_cons_of_mem _ List.mem_cons_self) _ z, rest⟩
theorem turn_enT {P : Program} {w : World} {K : PySem.W.Frag} {elts : List Expr} {kk : Nat} {tpos : Pos} (a e it : Addr) : Turn P w K (.Tuple elts kk tpos) (Itet K a) [e, it] e (EnAt a e it) where
  mem := List.mem_cons_self
  obj := fun _ _ st => st.lives
  keep := fun _ _ _ st k => st.stays k
  self := fun _ _ _ _ _ st z => by
    obtain ⟨⟨_, h1⟩, _⟩ := st
    exact wpAny_pyIter_enum h1 z
  done := by
    rintro X rfl rfl rfl calm i pins s σ H E I free st ⟨xs, sx, len⟩
    obtain ⟨its, rel, tup, _⟩ := I.tuple sx
    have size : its.toArray.size = i := by rw [List.size_toArray, ← rel.length, len]
    refine (WalksT.enumerateD (prog := X.prog) (w := X.w) (A := X.A) (Draws.tuple (show X.A.in1.handled = none from I.ok.hd calm) it a st.2.2.2.1 its.toArray) e st.2.2.1 (by simp [st.2.2.1, st.2.2.2.2]) List.mem_cons_self).done s _ _ ⟨size.symm ▸ st.1, size.symm ▸ st.2.1, tup⟩ fun h' tk same => ⟨rfl, ?_⟩
    exact I.turnedL (ch := [e, it]) same free
  item := by
    rintro X rfl rfl rfl calm i pins s σ H E I free st ⟨xs, sx, less⟩
    obtain ⟨its, rel, tup, _⟩ := I.tuple sx
    have size : i < its.toArray.size := by rw [List.size_toArray, ← rel.length]; exact less
    have W := WalksT.enumerateD (prog := X.prog) (w := X.w) (A := X.A) (Draws.tuple (show X.A.in1.handled = none from I.ok.hd calm) it a st.2.2.2.1 its.toArray) e st.2.2.1 (by simp [st.2.2.1, st.2.2.2.2]) List.mem_cons_self
    refine W.item i s _ _ size ⟨st.1, st.2.1, tup⟩ fun p vals h1 t1 ⟨t, y, at_, ev⟩ new laid mid same1 => ⟨_, rfl, ?_⟩
    have apart := W.apart i p h1 mid
    refine W.go elts kk tpos i p _ _ _ mid fun h2 st2 same2 => ?_
    obtain ⟨u, hu, ru⟩ := rel.get (List.getElem?_eq_getElem less)
    have ey : y = u := by
      rw [List.getElem?_toArray, hu] at at_
      exact (Option.some.inj at_).symm
    subst ey
    have laid2 : h2.IsTuple p vals := laid.at fun o z => same2 p o apart z
    rw [ev] at laid2
    have made : ObjOk X.prog X.w (upd H p (.tup [.int (i : Nat), xs[i]])) h2 p (.tup [.int (i : Nat), xs[i]]) := ⟨(by show 2 ≤ sizeLine; decide), [.int i t, y], .cons ⟨t, rfl⟩ (.cons ru .nil), laid2⟩
    refine ⟨.ref p, _, I.turnedNew (ch := [e, it]) (fun b o out z => same2 b o out (same1 b o out z)) free new made, rfl, ⟨p, xs[i], rfl, I.hok.fresh new, rfl, fun ys sy => ?_⟩, ⟨st2.1, st2.2.1, st.2.2⟩, fun b hb => ?_⟩
    · rw [I.tuple_inj sy sx]
      exact List.getElem?_eq_getElem less
    · rw [upd_ne fun z : b = p => apart (z ▸ hb)]
      exact (free b hb).1
def iEnumT (K : PySem.W.Frag) (ta : TA) : TI := fun σ H R => ta σ H fun vs H1 => ∃ a xs, vs = [.ref a] ∧ SqT K H1 a xs ∧ R (Itet K a) H1
theorem pi_enumT {X : Cx} {e : Expr} {ta : TA} {p pos tpos : Pos} {elts : List Expr} {kk : Nat} (hg : Gl X "enumerate") (hm : X.mg "enumerate" = none) (ha : PA X [e] ta) (hs : starEach [e] X.env = [(false, eval e X.env)] := by rfl) :
    PI X (.Tuple elts kk tpos) (.Call (.Name "enumerate" p) [e] [] pos) (iEnumT X.K ta) where
  run pins s σ H R I h := by
    refine Call_ (ld_blt I hg hm boot_enumerate ?_)
    refine PyProof.Rows.callWith_type1 (thn (ha.run pos pins s σ H _ I h) fun us s1 got => ?_) hs rfl
    rcases got with ⟨_, H1, I1, rel, a, xs, rfl, sx, rest⟩
    rcases rel with _ | ⟨head, _ | _⟩
    obtain rfl : _ = Value.ref a := head
    obtain ⟨its, _, tup, _⟩ := I1.tuple sx
    refine en_call (its := its.toArray) tup fun h' st kept => wpAny_pyIter_enum st.1.choose_spec ?_
    refine ⟨_, _, _, _, H1, rfl, I1.kept (t' := s1.toks) kept, turn_enT a (s1.heap.objs.size + 1) s1.heap.objs.size, st, fun b hb => ?_, rest⟩
    have high : s1.heap.objs.size ≤ b := by
      simp only [List.mem_cons, List.not_mem_nil, or_false] at hb
      exact hb.elim (fun z => z ▸ Nat.le_succ _) fun z => z ▸ Nat.le_refl _
    exact I1.fpOk high (I1.hok.fresh high)
theorem walk_enumT {K : PySem.W.Frag} {a : Addr} {xs : List V} : Walk (Itet K a) xs.length (fun H => SqT K H a xs) (YPair (fun i => some (.int (i : Nat))) (fun i => xs[i]?)) where
  goes _ _ less sx := ⟨xs, sx, less⟩
  stops _ sx := ⟨xs, sx, rfl⟩
  yields i H v H' _ sx y := by
    rcases y with ⟨p, x, ev, free, eH, at_⟩
    exact ⟨p, _, x, ev, free, eH, rfl, at_ xs sx⟩

/-! ### comprehensions over nests that make nests -/
section
variable {K : PySem.W.Frag} {a : Addr} {xs : List V} {ns : List Nat} {g : TG} {tt : TT} {te : TE} {vs : List Nat} {σ : L2.St} {H1 : Hp} {D : Addr} {Qd : Hp → Prop} {J : It} {G : Hp → Prop}
theorem maps_it (w : Walk J xs.length G (YAt xs)) (hG : ∀ H, Same H1 H → G H) (f : Nat → Nat) (hx : NaAll K H1 xs ns) (hz : xs.length ≤ sizeLine) (hD : H1 D = none)
    (ht : ∀ (x : V) (k : Nat) (H : Hp) (C : V → Hp → Prop), Na K H x k → k ∈ ns → Same H1 H → (∀ r H2, Same H H2 → Na K H2 r (f k) → C r H2) → g x (wipe σ vs) H fun σ2 H2 => wipe σ2 vs = wipe σ vs ∧ te σ2 H2 C)
    (hd : ∀ H acc, Same H1 H → H D = some (.lst acc) → NaAll K H acc (ns.map f) → Qd H) :
    ∃ W : Nat → Nat → Hp → Prop, (∃ m, W 0 m (upd H1 D (.lst []))) ∧ ∀ i m H, W i m H →
      (J.stop i H ∧ Qd H) ∨ (J.go i H ∧ ∃ Nx : Hp → Prop, (∀ H', Nx H' → ∃ m', m' < m ∧ W (i + 1) m' H') ∧ ∀ x H', J.yld i H x H' → g x (wipe σ vs) H' fun σ2 H2 => wipe σ2 vs = wipe σ vs ∧ tYes σ2 H2 fun b H3 =>
        if b = true then te σ2 H3 fun y H4 => ∃ acc, H4 D = some (.lst acc) ∧ acc.length < sizeLine ∧ Nx (upd H4 D (.lst (acc ++ [y]))) else Nx H3) := by
  have hl := NaAll.ln hx
  refine lc_it w (Pv := fun i H => Same H1 H ∧ ∃ acc, H D = some (.lst acc) ∧ acc.length = i ∧ NaAll K H acc ((ns.take i).map f)) ⟨same_new hD _, [], upd_same, rfl, .nil⟩ (fun i H _ q => hG H q.1) (fun i x H H' hi q y => ?_) (fun H q => ?_)
  · obtain ⟨gg, acc, hacc, la, ma⟩ := q
    obtain ⟨rfl, hxi⟩ := y
    obtain ⟨k, hb, hk, tp⟩ := NaAll.at hx hxi
    refine ht x k H' _ (Na.same tp gg) hk gg fun r H2 g2 hr => ⟨acc, g2 _ _ hacc, by omega, same_put (gg.trans g2) hD, acc ++ [r], upd_same, by rw [List.length_append, la]; rfl, ?_⟩
    have et : ns.take (i + 1) = ns.take i ++ [k] := by rw [List.take_add_one, hb]; rfl
    rw [et, List.map_append]
    exact (NaAll.cat (NaAll.same ma g2) (.cons hr .nil)).grow (Grow.lst (g2 _ _ hacc))
  · obtain ⟨gg, acc, hacc, la, ma⟩ := q
    rw [hl, List.take_length] at ma
    exact hd H acc gg hacc ma
end

/-! ### how many members there are, within and within -/
inductive Thin (w : Nat) : Nat → Prop
  | mk {n : Nat} : (bits n).length ≤ w → (∀ k, k ∈ bits n → Thin w k) → Thin w n
theorem Thin.len {w n : Nat} (h : Thin w n) : (bits n).length ≤ w := by cases h; assumption
theorem Thin.mem {w n : Nat} (h : Thin w n) : ∀ k, k ∈ bits n → Thin w k := by cases h; assumption
theorem Thin.mono {w u n : Nat} (hw : w ≤ u) (h : Thin w n) : Thin u n := by
  induction h with
  | mk h1 _ ih => exact .mk (Nat.le_trans h1 hw) ih
theorem thin_zero (w : Nat) : Thin w 0 := .mk (Nat.zero_le _) fun k h => by cases h
theorem thin_mk {w : Nat} {ms : List Nat} (hl : ms.length ≤ w) (h : ∀ k ∈ ms, Thin w k) : Thin w (mk ms) :=
  .mk (Nat.le_trans (asc_len (bits_asc _) fun k hk => mem_mk.mp hk) hl) fun k hk => h k (mem_mk.mp hk)
end Nk
namespace Nk

/-! ### all nests of some of l -/
def subsN (l : List Nat) : List Nat := l.foldl (fun acc m => acc ++ acc.map fun s => mk (bits s ++ [m])) [0]
theorem subs_snoc (l : List Nat) (m : Nat) : subsN (l ++ [m]) = subsN l ++ (subsN l).map fun s => mk (bits s ++ [m]) := by
  unfold subsN
  rw [List.foldl_append]
  rfl
theorem subs_len (l : List Nat) : (subsN l).length = 2 ^ l.length := by
  have h : ∀ (l acc : List Nat), (l.foldl (fun acc m => acc ++ acc.map fun s => mk (bits s ++ [m])) acc).length = acc.length * 2 ^ l.length := by
    intro l
    induction l with
    | nil => intro acc; simp
    | cons a l ih =>
      intro acc
      rw [List.foldl_cons, ih, List.length_append, List.length_map, List.length_cons, Nat.pow_succ, Nat.mul_comm (2 ^ l.length) 2, ← Nat.mul_assoc, Nat.mul_comm acc.length 2, Nat.two_mul]
  have := h l [0]
  rw [List.length_singleton, Nat.one_mul] at this
  exact this
theorem mem_subs (l : List Nat) : ∀ i, i ≤ l.length → ∀ s, s ∈ subsN (l.take i) ↔ ∀ k ∈ bits s, k ∈ l.take i := by
  intro i
  induction i with
  | zero =>
    intro _ s
    rw [List.take_zero]
    show s ∈ [0] ↔ _
    rw [List.mem_singleton]
    constructor
    · rintro rfl k hk
      rw [bits_zero] at hk
      exact hk
    · intro h
      refine bits_nil.mp ?_
      cases e : bits s with
      | nil => rfl
      | cons a as =>
        have := h a (by rw [e]; exact List.mem_cons_self)
        cases this
  | succ i ih =>
    intro hi s
    have hi' : i < l.length := hi
    have et : l.take (i + 1) = l.take i ++ [l[i]] := by rw [List.take_add_one, List.getElem?_eq_getElem hi']; rfl
    rw [et, subs_snoc, List.mem_append, ih (Nat.le_of_lt hi')]
    generalize l.take i = A at ih
    generalize l[i] = m
    constructor
    · rintro (h | h) k hk
      · exact List.mem_append_left _ (h k hk)
      · obtain ⟨t, ht, rfl⟩ := List.mem_map.mp h
        rcases List.mem_append.mp (mem_mk.mp hk) with hk | hk
        · exact List.mem_append_left _ ((ih (Nat.le_of_lt hi') t).mp ht k hk)
        · exact List.mem_append_right _ hk
    · intro h
      by_cases hm : m ∈ bits s
      · refine .inr (List.mem_map.mpr ⟨mk ((bits s).filter fun k => decide (k ≠ m)), (ih (Nat.le_of_lt hi') _).mpr fun k hk => ?_, same_bits fun k => ?_⟩)
        · obtain ⟨h1, h2⟩ := List.mem_filter.mp (mem_mk.mp hk)
          rcases List.mem_append.mp (h k h1) with h3 | h3
          · exact h3
          · exact absurd (List.mem_singleton.mp h3) (of_decide_eq_true h2)
        · rw [mem_mk, List.mem_append, mem_mk, List.mem_filter, List.mem_singleton, decide_eq_true_eq]
          constructor
          · rintro (⟨h1, _⟩ | rfl)
            · exact h1
            · exact hm
          · intro h1
            by_cases e : k = m
            · exact .inr e
            · exact .inl ⟨h1, e⟩
      · refine .inl fun k hk => ?_
        rcases List.mem_append.mp (h k hk) with h3 | h3
        · exact h3
        · rw [List.mem_singleton.mp h3] at hk
          exact absurd hk hm
theorem mem_subs_all (l : List Nat) (s : Nat) : s ∈ subsN l ↔ ∀ k ∈ bits s, k ∈ l := by
  have := mem_subs l l.length (Nat.le_refl _) s
  rw [List.take_length] at this
  exact this
def partsN (n : Nat) : Nat := mk (subsN (bits n))
theorem sub_dep {s n : Nat} (h : ∀ k ∈ bits s, k ∈ bits n) : dep s ≤ dep n := dep_le.mpr fun k hk => dep_mem (h k hk)

/-! ### the members told by a number's ones -/
def pick (l : List Nat) (s i : Nat) : List Nat := ((List.range i).filter fun k => s.testBit k).map fun k => l.getD k 0
theorem pick_succ (l : List Nat) (s i : Nat) : pick l s (i + 1) = pick l s i ++ if s.testBit i = true then [l.getD i 0] else [] := by
  unfold pick
  rw [List.range_succ, List.filter_append, List.map_append]
  congr 1
  by_cases h : s.testBit i = true
  · rw [if_pos h]
    simp [h]
  · rw [if_neg h]
    simp [h]
theorem pick_asc {l : List Nat} (h : l.Pairwise (· < ·)) (s : Nat) {i : Nat} (hi : i ≤ l.length) : (pick l s i).Pairwise (· < ·) := by
  unfold pick
  rw [List.pairwise_map]
  refine (List.Pairwise.filter _ (List.pairwise_lt_range (n := i))).imp_of_mem ?_
  intro a b ha hb hab
  have ha' := List.mem_range.mp (List.mem_filter.mp ha).1
  have hb' := List.mem_range.mp (List.mem_filter.mp hb).1
  have e1 : l.getD a 0 = l[a]'(by omega) := by simp [List.getD, List.getElem?_eq_getElem (show a < l.length by omega)]
  have e2 : l.getD b 0 = l[b]'(by omega) := by simp [List.getD, List.getElem?_eq_getElem (show b < l.length by omega)]
  rw [e1, e2]
  exact List.pairwise_iff_getElem.mp h a b (by omega) (by omega) hab
theorem mem_pick {l : List Nat} {s m : Nat} : m ∈ pick l s l.length ↔ ∃ k, l[k]? = some m ∧ s.testBit k = true := by
  unfold pick
  rw [List.mem_map]
  constructor
  · rintro ⟨k, hk, rfl⟩
    obtain ⟨h1, h2⟩ := List.mem_filter.mp hk
    have h1' := List.mem_range.mp h1
    exact ⟨k, by simp [List.getD, List.getElem?_eq_getElem h1'], h2⟩
  · rintro ⟨k, hk, h2⟩
    have h1 := (List.getElem?_eq_some_iff.mp hk).1
    exact ⟨k, List.mem_filter.mpr ⟨List.mem_range.mpr h1, h2⟩, by simp [List.getD, hk]⟩
theorem pick_mem {l : List Nat} {s i m : Nat} (hi : i ≤ l.length) (h : m ∈ pick l s i) : m ∈ l := by
  unfold pick at h
  obtain ⟨k, hk, rfl⟩ := List.mem_map.mp h
  have h1 := List.mem_range.mp (List.mem_filter.mp hk).1
  have : l[k]? = some (l.getD k 0) := by simp [List.getD, List.getElem?_eq_getElem (show k < l.length by omega)]
  exact List.mem_of_getElem? this
theorem parts_eq (n : Nat) : mk ((List.range (2 ^ (bits n).length)).map fun s => mk (pick (bits n) s (bits n).length)) = partsN n := by
  refine mk_congr fun s => ?_
  rw [mem_subs_all, List.mem_map]
  constructor
  · rintro ⟨t, _, rfl⟩ k hk
    exact pick_mem (Nat.le_refl _) (mem_mk.mp hk)
  · intro h
    refine ⟨mk ((List.range (bits n).length).filter fun k => decide ((bits n).getD k 0 ∈ bits s)), List.mem_range.mpr ?_, same_bits fun k => ?_⟩
    · refine Nat.lt_pow_two_of_testBit _ fun i hi => ?_
      cases e : (mk ((List.range (bits n).length).filter fun k => decide ((bits n).getD k 0 ∈ bits s))).testBit i with
      | false => rfl
      | true =>
        have := List.mem_range.mp (List.mem_filter.mp (testBit_mk.mp e)).1
        omega
    · rw [mem_mk, mem_pick]
      constructor
      · rintro ⟨i, hi, ht⟩
        have h2 := of_decide_eq_true (List.mem_filter.mp (testBit_mk.mp ht)).2
        have e : (bits n).getD i 0 = k := by simp [List.getD, hi]
        rw [e] at h2
        exact h2
      · intro hk
        obtain ⟨i, hi⟩ := List.mem_iff_getElem?.mp (h k hk)
        have e : (bits n).getD i 0 = k := by simp [List.getD, hi]
        exact ⟨i, hi, testBit_mk.mpr (List.mem_filter.mpr ⟨List.mem_range.mpr (List.getElem?_eq_some_iff.mp hi).1, decide_eq_true (by rw [e]; exact hk)⟩)⟩

/-! ### all that lies below -/
def belowN (n : Nat) : Nat := mk (bits n ++ (bits n).attach.flatMap fun k => bits (belowN k.1))
termination_by n
decreasing_by exact bits_lt k.2
theorem belowN_eq (n : Nat) : belowN n = mk (bits n ++ (bits n).flatMap fun k => bits (belowN k)) := by
  rw [belowN]
  congr 2
  have h : ((bits n).attach.map fun k => bits (belowN k.1)) = ((bits n).attach.map (·.1)).map fun k => bits (belowN k) := by rw [List.map_map]; rfl
  rw [List.flatMap_def, List.flatMap_def, h, List.attach_map_subtype_val]
theorem mem_below {n k : Nat} : k ∈ bits (belowN n) ↔ k ∈ bits n ∨ ∃ m, m ∈ bits n ∧ k ∈ bits (belowN m) := by
  rw [belowN_eq, mem_mk, List.mem_append, List.mem_flatMap]
theorem below_least {S : Nat → Prop} (hs : ∀ m, S m → ∀ k ∈ bits m, S k) (n : Nat) : (∀ k ∈ bits n, S k) → ∀ k ∈ bits (belowN n), S k := by
  induction n using Nat.strongRecOn with
  | ind n ih =>
    intro h0 k hk
    rcases mem_below.mp hk with hk | ⟨m, hm, hk⟩
    · exact h0 k hk
    · exact ih m (bits_lt hm) (hs m (h0 m hm)) k hk
theorem below_closed (n : Nat) : ∀ m, m ∈ bits (belowN n) → ∀ k, k ∈ bits m → k ∈ bits (belowN n) := by
  induction n using Nat.strongRecOn with
  | ind n ih =>
    intro m hm k hk
    rcases mem_below.mp hm with hm | ⟨j, hj, hm⟩
    · exact mem_below.mpr (.inr ⟨m, hm, mem_below.mpr (.inl hk)⟩)
    · exact mem_below.mpr (.inr ⟨j, hj, ih j (bits_lt hj) m hm k hk⟩)
theorem below_dep {n k : Nat} (h : k ∈ bits (belowN n)) : dep k + 1 ≤ dep n :=
  below_least (S := fun k => dep k + 1 ≤ dep n) (fun m hm k hk => by have := dep_mem hk; omega) n (fun k hk => dep_mem hk) k h
theorem dep_below {n d : Nat} (h : dep n ≤ d) : dep (belowN n) ≤ d := dep_le.mpr fun k hk => by have := below_dep hk; omega
theorem below_thin {w n k : Nat} (t : Thin w n) (h : k ∈ bits (belowN n)) : Thin w k := below_least (S := Thin w) (fun m hm k hk => hm.mem k hk) n (fun k hk => t.mem k hk) k h
def lenB (w : Nat) : Nat → Nat
  | 0 => 0
  | d + 1 => w + w * lenB w d
theorem flat_below {w d : Nat} : ∀ {l : List Nat}, (∀ k ∈ l, (bits (belowN k)).length ≤ d) → l.length ≤ w → (l.flatMap fun k => bits (belowN k)).length ≤ w * d := fun {l} h hl =>
  Nat.le_trans (flat_len h) (Nat.mul_le_mul_right d hl)
theorem below_len {w : Nat} (d : Nat) : ∀ n, Thin w n → dep n ≤ d → (bits n ++ (bits n).flatMap fun k => bits (belowN k)).length ≤ lenB w d := by
  induction d with
  | zero =>
    intro n _ hd
    have e : bits n = [] := by
      cases e : bits n with
      | nil => rfl
      | cons a as =>
        have := dep_mem (n := n) (k := a) (by rw [e]; exact List.mem_cons_self)
        omega
    rw [e]
    exact Nat.le_refl _
  | succ d ih =>
    intro n t hd
    rw [List.length_append]
    have h1 := t.len
    have h2 := flat_below (w := w) (d := lenB w d) (l := bits n) (fun k hk => by
      have h3 := ih k (t.mem k hk) (by have := dep_mem hk; omega)
      refine Nat.le_trans ?_ h3
      rw [belowN_eq]
      exact asc_len (bits_asc _) fun j hj => mem_mk.mp hj) h1
    show _ ≤ w + w * lenB w d
    omega
theorem closed_below (n : Nat) : closedN (belowN n) = true := by
  refine decide_eq_true fun k hk => ?_
  obtain ⟨m, hm, hk⟩ := mem_joinN.mp hk
  exact below_closed n m hm k hk
theorem lenB_4 : lenB 4 8 = 87380 := by decide
end Nk
namespace Nk
open PySem PySem.Spec PyProof.Rows L2

/-! ### data of any kind -/
section
variable {K : PySem.W.Frag} {H H' : Hp}
mutual
theorem dp_same (g : Same H H') : ∀ {v : V} {d : PyData}, Dp K H v d → Dp K H' v d
  | _, _, .non => .non
  | _, _, .bl b => .bl b
  | _, _, .int i => .int i
  | _, _, .str x => .str x
  | _, _, .lst h r => .lst (g.seq h) (dpAll_same g r)
  | _, _, .tup h r => .tup (sqT_same g h) (dpAll_same g r)
theorem dpAll_same (g : Same H H') : ∀ {vs : List V} {ds : List PyData}, DpAll K H vs ds → DpAll K H' vs ds
  | _, _, .nil => .nil
  | _, _, .cons h r => .cons (dp_same g h) (dpAll_same g r)
end
theorem dpAll_len : ∀ {vs : List V} {ds : List PyData}, DpAll K H vs ds → vs.length = ds.length
  | _, _, .nil => rfl
  | _, _, .cons _ r => by rw [List.length_cons, List.length_cons, dpAll_len r]
theorem dpAll_get : ∀ {vs : List V} {ds : List PyData}, DpAll K H vs ds → ∀ {j : Nat} {v : V}, vs[j]? = some v → ∃ d, ds[j]? = some d ∧ Dp K H v d
  | _, _, .nil, j, v, e => by simp at e
  | _, _, .cons h r, 0, v, e => by
    simp at e
    subst e
    exact ⟨_, rfl, h⟩
  | _, _, .cons h r, j + 1, v, e => by
    obtain ⟨d, e1, e2⟩ := dpAll_get r (j := j) (v := v) (by simpa using e)
    exact ⟨d, by simpa using e1, e2⟩
theorem dpAll_app : ∀ {vs ws : List V} {ds es : List PyData}, DpAll K H vs ds → DpAll K H ws es → DpAll K H (vs ++ ws) (ds ++ es)
  | _, _, _, _, .nil, s => s
  | _, _, _, _, .cons h r, s => .cons h (dpAll_app r s)
theorem na_all {ns : List Nat} (h : ∀ k ∈ ns, ∀ v, Dp K H v (dat k) → Na K H v k) : ∀ {vs : List V}, DpAll K H vs (ns.map dat) → NaAll K H vs ns := by
  induction ns with
  | nil =>
    intro vs r
    cases r
    exact .nil
  | cons a ns ih =>
    intro vs r
    cases r with
    | cons r1 r2 => exact .cons (h a List.mem_cons_self _ r1) (ih (fun k hk => h k (List.mem_cons_of_mem _ hk)) r2)
theorem na_of (n : Nat) : ∀ v, Dp K H v (dat n) → Na K H v n := by
  induction n using Nat.strongRecOn with
  | ind n ih =>
    intro v r
    rw [dat_eq] at r
    cases r with
    | tup h1 h2 => exact Na.of h1 (na_all (fun k hk => ih k (bits_lt hk)) h2)
theorem nas_of {ns : List Nat} {vs : List V} (h : DpAll K H vs (ns.map dat)) : NaAll K H vs ns := na_all (fun k _ => na_of k) h
theorem tyx_L {a : Addr} {xs : List V} (h : SqL K H a xs) : TyX K H (.ref a) (.type "list") := by
  rcases h with (h | ⟨o, h⟩) | ⟨o, its, n, e, c, _⟩
  · exact .base (.lst h)
  · exact .base (.frz h)
  · exact .kList e c
theorem tyx_T {a : Addr} {xs : List V} (h : SqT K H a xs) : TyX K H (.ref a) (.type "tuple") := by
  rcases h with (h | ⟨o, h⟩) | ⟨o, its, n, e, c, _⟩
  · exact .base (.tup h)
  · exact .fTuple h
  · exact .kTuple e c
end
def isTu : PyData → Bool
  | .tuple _ => true
  | _ => false
/-- isinstance(data, tuple) -/
theorem call_ist {X : Cx} {K : PySem.W.Frag} (hK : X.K = K := by rfl) : CallR X (.builtin "isinstance") (fun xs H Q => ∃ v d, xs = [v, .ty "tuple"] ∧ Dp K H v d ∧ Q (.bl (isTu d)) H) := by
  subst hK
  intro pins s σ H xs us Q I r h
  obtain ⟨v, d, rfl, hd, q⟩ := h
  cases hd with
  | non => exact call_isi pins s σ H _ us Q I r ⟨_, .ty "tuple", .type "NoneType", .type "tuple", false, rfl, .ty "tuple", .base .non, kit_ty (by decide +kernel), q⟩
  | bl b => exact call_isi pins s σ H _ us Q I r ⟨_, .ty "tuple", .type "bool", .type "tuple", false, rfl, .ty "tuple", .base (.bl b), kit_ty (by decide +kernel), q⟩
  | int i => exact call_isi pins s σ H _ us Q I r ⟨_, .ty "tuple", .type "int", .type "tuple", false, rfl, .ty "tuple", .base (.int i), kit_ty (by decide +kernel), q⟩
  | str x => exact call_isi pins s σ H _ us Q I r ⟨_, .ty "tuple", .type "str", .type "tuple", false, rfl, .ty "tuple", .base (.str x), kit_ty (by decide +kernel), q⟩
  | lst h1 h2 => exact call_isi pins s σ H _ us Q I r ⟨_, .ty "tuple", .type "list", .type "tuple", false, rfl, .ty "tuple", tyx_L h1, kit_ty (by decide +kernel), q⟩
  | tup h1 h2 => exact call_isi pins s σ H _ us Q I r ⟨_, .ty "tuple", .type "tuple", .type "tuple", true, rfl, .ty "tuple", tyx_T h1, kit_ty (by decide +kernel), q⟩
theorem oixT {X : Cx} {K : PySem.W.Frag} (hK : X.K = K := by rfl) : IxR X (rIxT K) := by subst hK; exact ix_tup
theorem oixL {X : Cx} {K : PySem.W.Frag} (hK : X.K = K := by rfl) : IxR X (rIxL K) := by subst hK; exact ix_list
theorem olen {X : Cx} {K : PySem.W.Frag} (hK : X.K = K := by rfl) : CallR X (.builtin "len") (fun xs H Q => ∃ p ys, xs = [.ref p] ∧ (SqL K H p ys ∨ SqT K H p ys) ∧ Q (.int (ys.length : Int)) H) := by subst hK; exact call_len_seq
theorem olist {X : Cx} {K : PySem.W.Frag} (hK : X.K = K := by rfl) : CallR X (.type "list") (fun xs H Q => ∃ p ys, xs = [.ref p] ∧ (SqL K H p ys ∨ SqT K H p ys) ∧ ∀ l, H l = none → Q (.ref l) (upd H l (.lst ys))) := by subst hK; exact call_list_of
/-- one + other of two tuples -/
theorem cat_dp {K : PySem.W.Frag} {H : Hp} {p r : Addr} {xs ys : List V} {ds es : List PyData} {Q : VK} (sx : SqT K H p xs) (mx : DpAll K H xs ds) (sy : SqT K H r ys) (my : DpAll K H ys es) (hl : xs.length + ys.length ≤ 100000)
    (q : ∀ z H' zs, Same H H' → SqT K H' z zs → DpAll K H' zs (ds ++ es) → Q (.ref z) H') : rCatA K (.ref p) (.ref r) H Q := by
  have l1 := dpAll_len mx
  have l2 := dpAll_len my
  refine ⟨p, r, xs, ys, rfl, rfl, sx, sy, small (by omega), fun e => ?_, fun _ e => ?_, fun _ _ z nz => ?_⟩
  · have e1 : ds = [] := List.eq_nil_of_length_eq_zero (by rw [← l1, e]; rfl)
    refine q r H ys (Same.refl _) sy ?_
    rw [e1, List.nil_append]
    exact my
  · have e1 : es = [] := List.eq_nil_of_length_eq_zero (by rw [← l2, e]; rfl)
    refine q p H xs (Same.refl _) sx ?_
    rw [e1, List.append_nil]
    exact mx
  · exact q z _ (xs ++ ys) (same_new nz _) (SqT.of upd_same) (dpAll_app (dpAll_same (same_new nz _) mx) (dpAll_same (same_new nz _) my))

/-! ### which data are nests -/
theorem dats_of : ∀ {ds : List PyData}, (∀ d ∈ ds, ∃ n, d = dat n) → ∃ ns : List Nat, ds = ns.map dat
  | [], _ => ⟨[], rfl⟩
  | d :: ds, h => by
    obtain ⟨n, rfl⟩ := h d List.mem_cons_self
    obtain ⟨ns, rfl⟩ := dats_of fun e he => h e (List.mem_cons_of_mem _ he)
    exact ⟨n :: ns, rfl⟩
theorem le_depthAll : ∀ {ds : List PyData} {d : PyData}, d ∈ ds → d.depth ≤ PyData.depthAll ds
  | e :: ds, d, h => by
    rw [PyData.depthAll]
    rcases List.mem_cons.mp h with rfl | h
    · exact Nat.le_max_left _ _
    · exact Nat.le_trans (le_depthAll h) (Nat.le_max_right _ _)
theorem depthAll_of {k : Nat} : ∀ {ds : List PyData}, (∀ d ∈ ds, d.depth ≤ k) → PyData.depthAll ds ≤ k
  | [], _ => by simp [PyData.depthAll]
  | d :: ds, h => by
    rw [PyData.depthAll]
    exact Nat.max_le.mpr ⟨h d List.mem_cons_self, depthAll_of fun e he => h e (List.mem_cons_of_mem _ he)⟩
theorem dep_lt_depth (n : Nat) : dep n < (dat n).depth := by
  induction n using Nat.strongRecOn with
  | ind n ih =>
    rw [dat_eq, PyData.depth]
    have : dep n ≤ PyData.depthAll ((bits n).map dat) := dep_le.mpr fun k hk => Nat.le_trans (ih k (bits_lt hk)) (le_depthAll (List.mem_map_of_mem hk))
    omega
theorem dat_map_inj : ∀ {l m : List Nat}, l.map dat = m.map dat → l = m
  | [], [], _ => rfl
  | [], _ :: _, e => by simp at e
  | _ :: _, [], e => by simp at e
  | a :: l, b :: m, e => by
    rw [List.map_cons, List.map_cons] at e
    injection e with e1 e2
    rw [dat_inj e1, dat_map_inj e2]
theorem tuple_nest {ns : List Nat} : (∃ m, PyData.tuple (ns.map dat) = dat m) ↔ ns.Pairwise (· < ·) := by
  constructor
  · rintro ⟨m, e⟩
    rw [dat_eq] at e
    injection e with e
    rw [dat_map_inj e]
    exact bits_asc m
  · intro h
    exact ⟨mk ns, by rw [dat_eq, bits_mk_asc h]⟩
theorem nest_mem {ds : List PyData} {m : Nat} (e : PyData.tuple ds = dat m) : ∀ d ∈ ds, ∃ n, d = dat n := by
  rw [dat_eq] at e
  injection e with e
  intro d hd
  rw [e] at hd
  obtain ⟨n, _, rfl⟩ := List.mem_map.mp hd
  exact ⟨n, rfl⟩
theorem pairwise_of_adj : ∀ {l : List Nat}, (∀ i, i + 1 < l.length → l.getD i 0 < l.getD (i + 1) 0) → l.Pairwise (· < ·)
  | [], _ => .nil
  | [a], _ => List.pairwise_singleton _ _
  | a :: b :: l, h => by
    have ih : (b :: l).Pairwise (· < ·) := pairwise_of_adj fun i hi => by
      have := h (i + 1) (by simp only [List.length_cons] at hi ⊢; omega)
      simpa using this
    refine List.pairwise_cons.mpr ⟨fun x hx => ?_, ih⟩
    have hab : a < b := by
      have := h 0 (by simp only [List.length_cons]; omega)
      simpa using this
    rcases List.mem_cons.mp hx with rfl | hx
    · exact hab
    · exact Nat.lt_trans hab ((List.pairwise_cons.mp ih).1 x hx)
theorem adj_of_pairwise {l : List Nat} (h : l.Pairwise (· < ·)) : ∀ i, i + 1 < l.length → l.getD i 0 < l.getD (i + 1) 0 := fun i hi => by
  have e1 : l.getD i 0 = l[i]'(by omega) := by simp [List.getD, List.getElem?_eq_getElem (show i < l.length by omega)]
  have e2 : l.getD (i + 1) 0 = l[i + 1] := by simp [List.getD, List.getElem?_eq_getElem hi]
  rw [e1, e2]
  exact List.pairwise_iff_getElem.mp h i (i + 1) (by omega) hi (by omega)
end Nk
namespace Nk
open PySem PySem.Spec PyProof.Rows L2

/-! ### refusals -/
/-- an own class that is raised; S is what the except clause names -/
structure XC (K : PySem.W.Frag) (mg : Str → Option Value) (x : Str) (D S : Addr) : Prop where
  g : mg x = some (.ref D)
  q : PySem.W.excIn K D [.type "ValueError", .type "Exception", .type "BaseException", .type "object"] "ValueError.__new__" = true
  k : PySem.W.keepIn K (.ref D) = true
  s : PySem.W.subIn K (.ref D) (.type "BaseException") = some true
  t : PySem.W.typeIn K (.ref D) = some (.type "type")
  c : ExcC K D
  m : PySem.W.exmOne K (.ref D) (.ref S) = some true
  v : PySem.W.kitOne K (.ref D) (.type "ValueError") = some true
theorem kit_self {K : PySem.W.Frag} {t : Value} : PySem.W.kitOne K t t = some true := by
  unfold PySem.W.kitOne
  rw [if_pos (beq_self_eq_true t)]
section
variable {X : Cx} {K : PySem.W.Frag} {a D : Addr} {oe : Obj} {pn : List (Addr × Obj)} {cls : Value} {d : Option Addr}
/-- isinstance(e, c) of the error that the suite holds -/
def rIsEC (K : PySem.W.Frag) (cls : Value) (d : Option Addr) (D a : Addr) : List V → Hp → VK → Prop := fun xs H Q => cls = .ref D ∧ d = none ∧ rIsE K D a xs H Q
theorem call_isEC (C : ExcC X.K D) (hz : Zc cls d oe) (hf : ∃ vs, oe.data = .fields vs) : CallR (X.suite a ((a, oe) :: pn)) (.builtin "isinstance") (rIsEC X.K cls d D a) := by
  intro pins s σ H xs us Q I r h
  obtain ⟨rfl, rfl, h⟩ := h
  exact call_isE C hz hf pins s σ H xs us Q I r h
/-- isinstance(e, (c, ..)), the tuple just laid -/
def rIsET (K : PySem.W.Frag) (cls : Value) (d : Option Addr) (D a : Addr) : List V → Hp → VK → Prop := fun xs H Q => cls = .ref D ∧ d = none ∧ ∃ (tp : Addr) (cs : List V) (us : List Value) (b : Bool), xs = [.ref a, .ref tp] ∧ H tp = some (.tup cs) ∧ Paired ClsV cs us ∧ PySem.W.kitAny K (.ref D) us = some b ∧ Q (.bl b) H
theorem held_at {h : Heap} {a D : Addr} {oe : Obj} (hz : Zc (.ref D) none oe) (hf : ∃ vs, oe.data = .fields vs) (e : h.get? a = some oe) : PySem.W.InstAt h a oe D none := by
  rcases oe with ⟨_, _, _, _⟩
  rcases hf with ⟨_, hv⟩
  cases hz.1
  cases hz.2
  cases hv
  exact ⟨e, rfl, rfl, trivial⟩
/-- a tuple of classes as it lies -/
theorem classes_at {X : Cx} {pins : List (Addr × Obj)} {σ : L2.St} {H : Hp} {s : Shared} {tp : Addr} {cs : List V} {ws : List Value} (I : Inv X pins σ H s) (hT : H tp = some (.tup cs)) (k : Paired ClsV cs ws) :
    ∃ dd n sl, s.heap.get? tp = some ⟨.type "tuple", dd, .seq ws.toArray n, sl⟩ := by
  rcases I.hok tp _ hT with ⟨_, its, rel, ⟨oc, od, dt, sl⟩, get, isT, n, isS⟩
  rw [ClsV.all k rel] at isS
  cases isT
  cases isS
  exact ⟨od, n, sl, get⟩
theorem call_isET (C : ExcC X.K D) (hz : Zc cls d oe) (hf : ∃ vs, oe.data = .fields vs) : CallR (X.suite a ((a, oe) :: pn)) (.builtin "isinstance") (rIsET X.K cls d D a) := by
  rintro pins s σ H _ us Q I rel ⟨rfl, rfl, tp, cs, ws, b, rfl, hT, k, kit, q⟩
  rcases rel with _ | ⟨e1, _ | ⟨e2, _ | _⟩⟩
  obtain rfl : _ = Value.ref a := e1
  obtain rfl : _ = Value.ref tp := e2
  obtain ⟨_, _, _, get⟩ := classes_at I hT k
  have pin := (I.pin (a, oe) (List.mem_append_left _ List.mem_cons_self)).1
  refine PySem.W.kia_tup (PySem.W.handS_kitx_exc C.hg C.hk C.hs C.hd C.ha C.hn C.ht C.hm) I.kIn (held_at hz hf pin) get kit (fun z => nomatch z) fun tk => ?_
  exact ⟨.bl b, H, I.kept (t' := tk) fun _ _ z => z, rfl, q⟩
end
/-- f(..), f told by an expression, within a try -/
def tCallF (P : Program) (w : World) (K : PySem.W.Frag) (mg : Str → Option Value) (base : Heap) (k : Nat) (W : WX) (tf : TE) (t : TA) : TE := fun σ H Q => tf σ H fun y H1 => ∃ (f : Addr) (fd : FuncData) (ps : List Str) (sp : Sp), y = V.ref f ∧ FnOk P w K mg base (L2.CX P w) k f fd ps sp ∧ PySem.W.keepIn K (.ref f) = true ∧ Binds K fd ps [] ∧
  t σ H1 fun vs H2 => sp vs H2 Q (WE W σ)
theorem pe_callF {X : Cx} {P : Program} {w : World} {K : PySem.W.Frag} {mg : Str → Option Value} {base : Heap} {k : Nat} {W : WX} {fe e : Expr} {es : List Expr} {pos : Pos} {tf : TE} {t : TA} (hf : PE X fe tf) (hr : Room k X.A) (tk : Takes X W) (ha : PA X (e :: es) t)
    (hP : X.prog = P := by rfl) (hw : X.w = w := by rfl) (hK : X.K = K := by rfl) (hm : X.mg = mg := by rfl) (hb : X.base = base := by rfl)
    (ht : eval (.Call fe (e :: es) [] pos) X.env = (do callWith pos (← eval fe X.env) [] (backTo pos (starEach (e :: es) X.env)) (backToKw pos (keywordEach [] X.env))) := by rfl)
    (he : starEach (e :: es) X.env = (false, eval e X.env) :: starEach es X.env := by rfl) (hpl : (backTo pos (starEach es X.env)).any (·.1) = false := by rfl) : PE X (.Call fe (e :: es) [] pos) (tCallF P w K mg base k W tf t) := by
  subst hP hw hK hm hb
  refine ⟨fun pins s σ H Q I h => ?_⟩
  refine Call_ (thn (hf.run pins s σ H _ I h) fun u s1 ⟨y, H1, I1, ry, f, fd, ps, sp, ey, F, hk, hb, q⟩ => ?_) ht
  subst ey
  obtain rfl : u = Value.ref f := ry
  refine PySem.W.callWith_K (h₀ := X.base) I1.ok.mod.kin hk (thn (ha.run pos pins s1 σ H1 _ I1 q) fun us s2 ⟨vs, H2, I2, r, q2⟩ => ⟨I2.kIn, ?_⟩) he hpl
  exact run_fnS (E := fun σ => WE W σ) F hr hb (passAt tk σ) I2 r q2
end Nk
namespace Nk
def pairN (a b : Nat) : Nat := mk [mk [a], mk [a, b]]
theorem mem_pair {a b k : Nat} : k ∈ bits (pairN a b) ↔ k = mk [a] ∨ k = mk [a, b] := by
  unfold pairN
  rw [mem_mk, List.mem_cons, List.mem_singleton]
theorem mem_one {a k : Nat} : k ∈ bits (mk [a]) ↔ k = a := by rw [mem_mk, List.mem_singleton]
theorem mem_two {a b k : Nat} : k ∈ bits (mk [a, b]) ↔ k = a ∨ k = b := by rw [mem_mk, List.mem_cons, List.mem_singleton]
theorem bits_one (a : Nat) : bits (mk [a]) = [a] := bits_mk_asc (List.pairwise_singleton _ _)
theorem one_inj {a b : Nat} (h : mk [a] = mk [b]) : a = b := mem_one.mp (h ▸ mem_one.mpr rfl : a ∈ bits (mk [b]))
theorem one_two {a b c : Nat} (h : mk [a] = mk [b, c]) : b = a ∧ c = a :=
  ⟨mem_one.mp (h ▸ mem_two.mpr (.inl rfl) : b ∈ bits (mk [a])), mem_one.mp (h ▸ mem_two.mpr (.inr rfl) : c ∈ bits (mk [a]))⟩
theorem pair_inj {a b c d : Nat} (h : pairN a b = pairN c d) : a = c ∧ b = d := by
  have h1 : mk [a] ∈ bits (pairN c d) := h ▸ mem_pair.mpr (.inl rfl)
  have h2 : mk [a, b] ∈ bits (pairN c d) := h ▸ mem_pair.mpr (.inr rfl)
  have h4 : mk [c, d] ∈ bits (pairN a b) := h ▸ mem_pair.mpr (.inr rfl)
  have e : a = c := by
    rcases mem_pair.mp h1 with h1 | h1
    · exact one_inj h1
    · exact (one_two h1).1.symm
  subst e
  refine ⟨rfl, ?_⟩
  rcases mem_pair.mp h2 with h2 | h2
  · have hb := (one_two h2.symm).2
    subst hb
    rcases mem_pair.mp h4 with h4 | h4
    · exact (one_two h4.symm).2.symm
    · have : d ∈ bits (mk [b, b]) := h4 ▸ mem_two.mpr (.inr rfl)
      rcases mem_two.mp this with e | e <;> exact e.symm
  · have hb : b ∈ bits (mk [a, d]) := h2 ▸ mem_two.mpr (.inr rfl)
    rcases mem_two.mp hb with e | e
    · subst e
      have hd : d ∈ bits (mk [b, b]) := h2 ▸ mem_two.mpr (.inr rfl)
      rcases mem_two.mp hd with e | e <;> exact e.symm
    · exact e
def IsPair (n : Nat) : Prop := ∃ a b, n = pairN a b
theorem pair_dep {a b d : Nat} (ha : dep a ≤ d) (hb : dep b ≤ d) : dep (pairN a b) ≤ d + 2 := dep_mk fun k hk => by
  rcases List.mem_cons.mp hk with rfl | hk
  · have : dep (mk [a]) ≤ d + 1 := dep_mk fun j hj => by rw [List.mem_singleton.mp hj]; omega
    omega
  · rw [List.mem_singleton.mp hk]
    have : dep (mk [a, b]) ≤ d + 1 := dep_mk fun j hj => by
      rcases List.mem_cons.mp hj with rfl | hj
      · omega
      · rw [List.mem_singleton.mp hj]; omega
    omega
theorem pair_parts_dep {a b n : Nat} (h : n = pairN a b) : dep a + 2 ≤ dep n ∧ dep b + 2 ≤ dep n := by
  subst h
  have h1 := dep_mem (mem_pair.mpr (.inr rfl) : mk [a, b] ∈ bits (pairN a b))
  have h2 := dep_mem (mem_two.mpr (.inl rfl) : a ∈ bits (mk [a, b]))
  have h3 := dep_mem (mem_two.mpr (.inr rfl) : b ∈ bits (mk [a, b]))
  omega
theorem pair_in_joined {a b n : Nat} (h : n = pairN a b) : a ∈ bits (joinN n) ∧ b ∈ bits (joinN n) := by
  subst h
  exact ⟨mem_joinN.mpr ⟨_, mem_pair.mpr (.inl rfl), mem_one.mpr rfl⟩, mem_joinN.mpr ⟨_, mem_pair.mpr (.inr rfl), mem_two.mpr (.inr rfl)⟩⟩
/-- a nest that has the empty one is no pair -/
theorem not_pair_zero {n : Nat} (h : 0 ∈ bits n) : ¬ IsPair n := by
  rintro ⟨a, b, rfl⟩
  rcases mem_pair.mp h with e | e
  · have : a ∈ bits (mk [a]) := mem_one.mpr rfl
    rw [← e, bits_zero] at this
    cases this
  · have : a ∈ bits (mk [a, b]) := mem_two.mpr (.inl rfl)
    rw [← e, bits_zero] at this
    cases this
end Nk
namespace Nk
open PySem PySem.Spec PyProof.Rows L2

/-! ### comprehensions over known values -/
section
variable {α : Type} {K : PySem.W.Frag} {as : List α} {f : α → V} {g : TG} {tt : TT} {te : TE} {vs : List Nat} {σ : L2.St} {H1 : Hp} {D : Addr} {Qd : Hp → Prop} {J : It} {n : Nat} {G : Hp → Prop} {Y : Nat → Hp → V → Hp → Prop}
theorem comp_val (p : α → Bool) (r : α → V) (w : Walk J n G Y) (hn : n = as.length) (hG : ∀ H, Same H1 H → G H) (hY : ∀ i H x H', i < n → Y i H x H' → H' = H ∧ ∃ a, as[i]? = some a ∧ x = f a) (hz : n ≤ sizeLine) (hD : H1 D = none)
    (ht : ∀ (a : α) (H : Hp) (C : V → Hp → Prop) (N : Hp → Prop), a ∈ as → Same H1 H → (p a = true → ∀ H2, Same H H2 → C (r a) H2) → (p a = false → ∀ H2, Same H H2 → N H2) →
      g (f a) (wipe σ vs) H fun σ2 H2 => wipe σ2 vs = wipe σ vs ∧ tt σ2 H2 fun b H3 => if b = true then te σ2 H3 C else N H3)
    (hd : ∀ H, Same H1 H → H D = some (.lst ((as.filter p).map r)) → Qd H) :
    ∃ W : Nat → Nat → Hp → Prop, (∃ m, W 0 m (upd H1 D (.lst []))) ∧ ∀ i m H, W i m H →
      (J.stop i H ∧ Qd H) ∨ (J.go i H ∧ ∃ Nx : Hp → Prop, (∀ H', Nx H' → ∃ m', m' < m ∧ W (i + 1) m' H') ∧ ∀ x H', J.yld i H x H' → g x (wipe σ vs) H' fun σ2 H2 => wipe σ2 vs = wipe σ vs ∧ tt σ2 H2 fun b H3 =>
        if b = true then te σ2 H3 fun y H4 => ∃ acc, H4 D = some (.lst acc) ∧ acc.length < sizeLine ∧ Nx (upd H4 D (.lst (acc ++ [y]))) else Nx H3) := by
  refine lc_it w (Pv := fun i H => Same H1 H ∧ H D = some (.lst (((as.take i).filter p).map r))) ⟨same_new hD _, upd_same⟩ (fun i H _ q => hG H q.1) (fun i x H H' hi q y => ?_) (fun H q => ?_)
  · obtain ⟨gg, hacc⟩ := q
    obtain ⟨rfl, a, ha, rfl⟩ := hY i H x H' hi y
    have et : as.take (i + 1) = as.take i ++ [a] := by rw [List.take_add_one, ha]; rfl
    refine ht a H' _ _ (List.mem_of_getElem? ha) gg (fun hp H2 g2 => ⟨_, g2 _ _ hacc, ?_, same_put (gg.trans g2) hD, ?_⟩) fun hp H2 g2 => ⟨gg.trans g2, ?_⟩
    · have := List.length_filter_le p (as.take i)
      rw [List.length_map]
      rw [List.length_take] at this
      omega
    · rw [upd_same, et, List.filter_append, List.map_append]
      simp [hp]
    · rw [et, List.filter_append]
      simp only [List.filter_cons, hp, Bool.false_eq_true, if_false, List.filter_nil, List.append_nil]
      exact g2 _ _ hacc
  · obtain ⟨gg, hacc⟩ := q
    rw [hn, List.take_length] at hacc
    exact hd H gg hacc
theorem comp_na (r : α → Nat) (w : Walk J n G Y) (hn : n = as.length) (hG : ∀ H, Same H1 H → G H) (hY : ∀ i H x H', i < n → Y i H x H' → H' = H ∧ ∃ a, as[i]? = some a ∧ x = f a) (hz : n ≤ sizeLine) (hD : H1 D = none)
    (ht : ∀ (a : α) (H : Hp) (C : V → Hp → Prop), a ∈ as → Same H1 H → (∀ v H2, Same H H2 → Na K H2 v (r a) → C v H2) → g (f a) (wipe σ vs) H fun σ2 H2 => wipe σ2 vs = wipe σ vs ∧ te σ2 H2 C)
    (hd : ∀ H acc, Same H1 H → H D = some (.lst acc) → NaAll K H acc (as.map r) → Qd H) :
    ∃ W : Nat → Nat → Hp → Prop, (∃ m, W 0 m (upd H1 D (.lst []))) ∧ ∀ i m H, W i m H →
      (J.stop i H ∧ Qd H) ∨ (J.go i H ∧ ∃ Nx : Hp → Prop, (∀ H', Nx H' → ∃ m', m' < m ∧ W (i + 1) m' H') ∧ ∀ x H', J.yld i H x H' → g x (wipe σ vs) H' fun σ2 H2 => wipe σ2 vs = wipe σ vs ∧ tYes σ2 H2 fun b H3 =>
        if b = true then te σ2 H3 fun y H4 => ∃ acc, H4 D = some (.lst acc) ∧ acc.length < sizeLine ∧ Nx (upd H4 D (.lst (acc ++ [y]))) else Nx H3) := by
  refine lc_it w (Pv := fun i H => Same H1 H ∧ ∃ acc, H D = some (.lst acc) ∧ acc.length = i ∧ NaAll K H acc ((as.take i).map r)) ⟨same_new hD _, [], upd_same, rfl, .nil⟩ (fun i H _ q => hG H q.1) (fun i x H H' hi q y => ?_) (fun H q => ?_)
  · obtain ⟨gg, acc, hacc, la, ma⟩ := q
    obtain ⟨rfl, a, ha, rfl⟩ := hY i H x H' hi y
    refine ht a H' _ (List.mem_of_getElem? ha) gg fun v H2 g2 hv => ⟨acc, g2 _ _ hacc, by omega, same_put (gg.trans g2) hD, acc ++ [v], upd_same, by rw [List.length_append, la]; rfl, ?_⟩
    have et : as.take (i + 1) = as.take i ++ [a] := by rw [List.take_add_one, ha]; rfl
    rw [et, List.map_append]
    exact (NaAll.cat (NaAll.same ma g2) (.cons hv .nil)).grow (Grow.lst (g2 _ _ hacc))
  · obtain ⟨gg, acc, hacc, la, ma⟩ := q
    rw [hn, List.take_length] at ma
    exact hd H acc gg hacc ma
end
theorem y_at {α : Type} {n : Nat} {as : List α} {f : α → V} : ∀ i H x H', i < n → YAt (as.map f) i H x H' → H' = H ∧ ∃ a, as[i]? = some a ∧ x = f a := fun i H x H' _ y => by
  refine ⟨y.1, ?_⟩
  have h := y.2
  rw [List.getElem?_map] at h
  cases e : as[i]? with
  | none => rw [e] at h; cases h
  | some a =>
    rw [e] at h
    exact ⟨a, rfl, (Option.some.inj h).symm⟩
theorem y_fn {n : Nat} {f : Nat → V} : ∀ i H x H', i < n → YFn f i H x H' → H' = H ∧ ∃ a, (List.range n)[i]? = some a ∧ x = f a := fun i H x H' hi y => ⟨y.1, i, List.getElem?_range hi, y.2⟩
/-! ### comprehensions over nests -/
section
variable {α : Type} {K : PySem.W.Frag} {as : List α} {f : α → V} {g : TG} {tt : TT} {te : TE} {vs : List Nat} {σ : L2.St} {H1 : Hp} {D : Addr} {Qd : Hp → Prop} {J : It} {n : Nat} {G : Hp → Prop} {Y : Nat → Hp → V → Hp → Prop}
theorem comp_naF (p : α → Bool) (r : α → Nat) (w : Walk J n G Y) (hn : n = as.length) (hG : ∀ H, Same H1 H → G H) (hY : ∀ i H x H', i < n → Y i H x H' → H' = H ∧ ∃ a, as[i]? = some a ∧ x = f a) (hz : n ≤ sizeLine) (hD : H1 D = none)
    (ht : ∀ (a : α) (H : Hp) (C : V → Hp → Prop) (N : Hp → Prop), a ∈ as → Same H1 H → (p a = true → ∀ v H2, Same H H2 → Na K H2 v (r a) → C v H2) → (p a = false → ∀ H2, Same H H2 → N H2) →
      g (f a) (wipe σ vs) H fun σ2 H2 => wipe σ2 vs = wipe σ vs ∧ tt σ2 H2 fun b H3 => if b = true then te σ2 H3 C else N H3)
    (hd : ∀ H acc, Same H1 H → H D = some (.lst acc) → NaAll K H acc ((as.filter p).map r) → Qd H) :
    ∃ W : Nat → Nat → Hp → Prop, (∃ m, W 0 m (upd H1 D (.lst []))) ∧ ∀ i m H, W i m H →
      (J.stop i H ∧ Qd H) ∨ (J.go i H ∧ ∃ Nx : Hp → Prop, (∀ H', Nx H' → ∃ m', m' < m ∧ W (i + 1) m' H') ∧ ∀ x H', J.yld i H x H' → g x (wipe σ vs) H' fun σ2 H2 => wipe σ2 vs = wipe σ vs ∧ tt σ2 H2 fun b H3 =>
        if b = true then te σ2 H3 fun y H4 => ∃ acc, H4 D = some (.lst acc) ∧ acc.length < sizeLine ∧ Nx (upd H4 D (.lst (acc ++ [y]))) else Nx H3) := by
  refine lc_it w (Pv := fun i H => Same H1 H ∧ ∃ acc, H D = some (.lst acc) ∧ acc.length ≤ i ∧ NaAll K H acc (((as.take i).filter p).map r)) ⟨same_new hD _, [], upd_same, Nat.le_refl _, .nil⟩ (fun i H _ q => hG H q.1) (fun i x H H' hi q y => ?_) (fun H q => ?_)
  · obtain ⟨gg, acc, hacc, la, ma⟩ := q
    obtain ⟨rfl, a, ha, rfl⟩ := hY i H x H' hi y
    have et : as.take (i + 1) = as.take i ++ [a] := by
      rw [List.take_add_one, ha]
      rfl
    refine ht a H' _ _ (List.mem_of_getElem? ha) gg (fun hp v H2 g2 hv => ⟨acc, g2 _ _ hacc, by omega, same_put (gg.trans g2) hD, acc ++ [v], upd_same, by rw [List.length_append, List.length_singleton]; omega, ?_⟩) fun hp H2 g2 => ⟨gg.trans g2, acc, g2 _ _ hacc, by omega, ?_⟩
    · rw [et, List.filter_append, List.map_append, List.filter_cons_of_pos hp, List.filter_nil]
      exact (NaAll.cat (NaAll.same ma g2) (.cons hv .nil)).grow (Grow.lst (g2 _ _ hacc))
    · rw [et, List.filter_append, List.filter_cons_of_neg (by rw [hp]; exact Bool.false_ne_true), List.filter_nil, List.append_nil]
      exact NaAll.same ma g2
  · obtain ⟨gg, acc, hacc, la, ma⟩ := q
    rw [hn, List.take_length] at ma
    exact hd H acc gg hacc ma
theorem maps_val {xs : List V} {ns : List Nat} (w : Walk J xs.length G (YAt xs)) (hG : ∀ H, Same H1 H → G H) (f : Nat → V) (hx : NaAll K H1 xs ns) (hz : xs.length ≤ sizeLine) (hD : H1 D = none)
    (ht : ∀ (x : V) (k : Nat) (H : Hp) (C : V → Hp → Prop), Na K H x k → k ∈ ns → Same H1 H → (∀ H2, Same H H2 → C (f k) H2) → g x (wipe σ vs) H fun σ2 H2 => wipe σ2 vs = wipe σ vs ∧ te σ2 H2 C)
    (hd : ∀ H, Same H1 H → H D = some (.lst (ns.map f)) → Qd H) :
    ∃ W : Nat → Nat → Hp → Prop, (∃ m, W 0 m (upd H1 D (.lst []))) ∧ ∀ i m H, W i m H →
      (J.stop i H ∧ Qd H) ∨ (J.go i H ∧ ∃ Nx : Hp → Prop, (∀ H', Nx H' → ∃ m', m' < m ∧ W (i + 1) m' H') ∧ ∀ x H', J.yld i H x H' → g x (wipe σ vs) H' fun σ2 H2 => wipe σ2 vs = wipe σ vs ∧ tYes σ2 H2 fun b H3 =>
        if b = true then te σ2 H3 fun y H4 => ∃ acc, H4 D = some (.lst acc) ∧ acc.length < sizeLine ∧ Nx (upd H4 D (.lst (acc ++ [y]))) else Nx H3) := by
  have len := NaAll.ln hx
  refine lc_it w (Pv := fun i H => Same H1 H ∧ H D = some (.lst ((ns.take i).map f))) ⟨same_new hD _, upd_same⟩ (fun i H _ q => hG H q.1) (fun i x H H' hi q y => ?_) (fun H q => hd H q.1 (by have h := q.2; rwa [len, List.take_length] at h))
  obtain ⟨gg, hacc⟩ := q
  obtain ⟨rfl, hxi⟩ := y
  obtain ⟨k, hk, mem, tp⟩ := NaAll.at hx hxi
  refine ht x k H' _ (tp.same gg) mem gg fun H2 g2 => ⟨_, g2 _ _ hacc, by rw [List.length_map, List.length_take]; omega, same_put (gg.trans g2) hD, ?_⟩
  rw [upd_same, List.take_add_one, hk, List.map_append]
  rfl
end
end Nk
namespace Nk
open PySem PySem.StrLaws

/-! ### texts as lists of signs -/
def tx (l : List Nat) : Str := ⟨l.toArray⟩
theorem tx_len (l : List Nat) : (tx l).length = l.length := by simp [tx, Str.length]
theorem tx_list (l : List Nat) : (tx l).cps.toList = l := by simp [tx]
theorem tx_of (s : Str) : tx s.cps.toList = s := by simp [tx]
theorem tx_eq {s : Str} {l : List Nat} (h : s.cps.toList = l) : s = tx l := by rw [← h, tx_of]
theorem tx_inj {a b : List Nat} (h : tx a = tx b) : a = b := by rw [← tx_list a, h, tx_list]
theorem tx_app (a b : List Nat) : tx a ++ tx b = tx (a ++ b) := by
  show (⟨a.toArray ++ b.toArray⟩ : Str) = ⟨(a ++ b).toArray⟩
  simp
def joinC : List (List Nat) → List Nat
  | [] => []
  | t :: r => t ++ r.flatMap fun u => 44 :: u
theorem glue_flat (ts : List (List Nat)) : glueL [44] (ts.map tx) = ts.flatMap fun u => 44 :: u := by
  induction ts with
  | nil => rfl
  | cons t ts ih =>
    rw [List.map_cons, glueL, tx_list, ih, List.flatMap_cons]
    rfl
theorem tx_join (ts : List (List Nat)) : Txt.join (tx [44]) (ts.map tx) = tx (joinC ts) := by
  cases ts with
  | nil => rfl
  | cons t ts =>
    refine tx_eq ?_
    show (Builtin.Str.glued (tx [44]) (tx t :: ts.map tx)).cps.toList = _
    rw [glued_list, glueT, tx_list, tx_list, glue_flat]
    rfl
/-- the text of a nest -/
def txl (n : Nat) : List Nat := 123 :: (joinC ((bits n).attach.map fun k => txl k.1) ++ [125])
termination_by n
decreasing_by exact bits_lt k.2
theorem txl_eq (n : Nat) : txl n = 123 :: (joinC ((bits n).map txl) ++ [125]) := by
  rw [txl]
  have h : ((bits n).attach.map fun k => txl k.1) = ((bits n).attach.map (·.1)).map txl := by rw [List.map_map]; rfl
  rw [h, List.attach_map_subtype_val]
/-! ### how a text is read: what is told, and what is left -/
mutual
inductive Ok : List Nat → Nat → List Nat → Prop
  | nil {r : List Nat} : Ok (123 :: 125 :: r) 0 r
  | many {r r' ns : List Nat} : OkM r ns (125 :: r') → Ok (123 :: r) (mk ns) r'
inductive OkM : List Nat → List Nat → List Nat → Prop
  | last {r r1 : List Nat} {n : Nat} : Ok r n r1 → r1.head? ≠ some 44 → OkM r [n] r1
  | more {r r1 r2 ns : List Nat} {n : Nat} : Ok r n (44 :: r1) → OkM r1 ns r2 → OkM r (n :: ns) r2
end
mutual
inductive Bad : List Nat → Prop
  | head {r : List Nat} : r.head? ≠ some 123 → Bad r
  | mem {r : List Nat} : r.head? ≠ some 125 → BadM r → Bad (123 :: r)
  | stop {r r1 ns : List Nat} : r.head? ≠ some 125 → OkM r ns r1 → r1.head? ≠ some 125 → Bad (123 :: r)
inductive BadM : List Nat → Prop
  | here {r : List Nat} : Bad r → BadM r
  | later {r r1 : List Nat} {n : Nat} : Ok r n (44 :: r1) → BadM r1 → BadM r
end
mutual
theorem Ok.suf : ∀ {r n r'}, Ok r n r' → r' <:+ r ∧ r'.length < r.length
  | _, _, _, @Ok.nil r => ⟨⟨[123, 125], rfl⟩, by simp only [List.length_cons]; omega⟩
  | _, _, _, @Ok.many r r' ns h => by
    have g := OkM.suf h
    have h2 := g.2
    rw [List.length_cons] at h2
    exact ⟨(List.suffix_cons 125 r').trans (g.1.trans (List.suffix_cons 123 r)), by rw [List.length_cons]; omega⟩
theorem OkM.suf : ∀ {r ns r'}, OkM r ns r' → r' <:+ r ∧ r'.length < r.length
  | _, _, _, @OkM.last r r1 n h _ => Ok.suf h
  | _, _, _, @OkM.more r r1 r2 ns n h hm => by
    have g1 := Ok.suf h
    have g2 := OkM.suf hm
    have h2 := g1.2
    rw [List.length_cons] at h2
    exact ⟨g2.1.trans ((List.suffix_cons 44 r1).trans g1.1), by omega⟩
end
theorem OkM.stops : ∀ {ns r r'}, OkM r ns r' → r'.head? ≠ some 44
  | _, _, _, .last _ h => h
  | _ :: ns, _, _, .more _ h => OkM.stops (ns := ns) h
theorem head_cases (r : List Nat) (c : Nat) : (∃ t, r = c :: t) ∨ r.head? ≠ some c := by
  cases r with
  | nil => exact .inr (by simp)
  | cons a t =>
    by_cases h : a = c
    · exact .inl ⟨t, by rw [h]⟩
    · exact .inr (by simpa using h)
theorem read_any (N : Nat) : ∀ r : List Nat, r.length ≤ N → ((∃ n r', Ok r n r') ∨ Bad r) ∧ ((∃ ns r', OkM r ns r') ∨ BadM r) := by
  induction N with
  | zero =>
    intro r hr
    have e : r = [] := List.eq_nil_of_length_eq_zero (by omega)
    subst e
    exact ⟨.inr (.head (by simp)), .inr (.here (.head (by simp)))⟩
  | succ N ih =>
    intro r hr
    have one : (∃ n r', Ok r n r') ∨ Bad r := by
      rcases head_cases r 123 with ⟨t, rfl⟩ | h
      · rcases head_cases t 125 with ⟨u, rfl⟩ | h2
        · exact .inl ⟨0, u, .nil⟩
        · rcases (ih t (by rw [List.length_cons] at hr; omega)).2 with ⟨ns, r1, h3⟩ | h3
          · rcases head_cases r1 125 with ⟨u, rfl⟩ | h4
            · exact .inl ⟨_, u, .many h3⟩
            · exact .inr (.stop h2 h3 h4)
          · exact .inr (.mem h2 h3)
      · exact .inr (.head h)
    refine ⟨one, ?_⟩
    rcases one with ⟨n, r1, h⟩ | h
    · rcases head_cases r1 44 with ⟨u, rfl⟩ | h2
      · have g := h.suf.2
        rw [List.length_cons] at g
        rcases (ih u (by omega)).2 with ⟨ns, r2, h3⟩ | h3
        · exact .inl ⟨_, _, .more h h3⟩
        · exact .inr (.later h h3)
      · exact .inl ⟨_, _, .last h h2⟩
    · exact .inr (.here h)
/-! ### how high a text is -/
def hgt : List Nat → Nat
  | [] => 0
  | c :: r => if c = 123 then hgt r + 1 else if c = 125 then hgt r - 1 else hgt r
theorem hgt_open (r : List Nat) : hgt (123 :: r) = hgt r + 1 := by simp [hgt]
theorem hgt_close (r : List Nat) : hgt (125 :: r) = hgt r - 1 := by simp [hgt]
theorem hgt_comma (r : List Nat) : hgt (44 :: r) = hgt r := by simp [hgt]
theorem hgt_cons (c : Nat) (r : List Nat) : hgt (c :: r) ≤ hgt r + 1 ∧ hgt r ≤ hgt (c :: r) + 1 := by
  simp only [hgt]
  split
  · omega
  · split <;> omega
theorem hgt_app {v v' : List Nat} {k : Nat} (h : hgt v' ≤ hgt v + k) : ∀ u : List Nat, hgt (u ++ v') ≤ hgt (u ++ v) + k
  | [] => h
  | c :: u => by
    have ih := hgt_app h u
    simp only [List.cons_append, hgt]
    split
    · omega
    · split <;> omega
mutual
theorem Ok.low : ∀ {r n r'}, Ok r n r' → hgt r' ≤ hgt r ∧ dep n + 1 ≤ hgt r
  | _, _, _, @Ok.nil r => by rw [hgt_open, hgt_close, dep_zero]; omega
  | _, _, _, @Ok.many r r' ns h => by
    have g := OkM.low h
    rw [hgt_close] at g
    rw [hgt_open]
    have : dep (mk ns) ≤ hgt r := dep_mk fun k hk => g.2 k hk
    omega
theorem OkM.low : ∀ {r ns r'}, OkM r ns r' → hgt r' ≤ hgt r ∧ ∀ k ∈ ns, dep k + 1 ≤ hgt r
  | _, _, _, @OkM.last r r1 n h _ => ⟨(Ok.low h).1, fun k hk => by rw [List.mem_singleton.mp hk]; exact (Ok.low h).2⟩
  | _, _, _, @OkM.more r r1 r2 ns n h hm => by
    have g1 := Ok.low h
    have g2 := OkM.low hm
    rw [hgt_comma] at g1
    refine ⟨by omega, fun k hk => ?_⟩
    rcases List.mem_cons.mp hk with rfl | hk
    · exact g1.2
    · have := g2.2 k hk
      omega
end
/-! ### texts that tell a nest -/
mutual
inductive Shows : List Nat → Nat → Prop
  | node {ts : List (List Nat)} {ns : List Nat} : ShowsAll ts ns → Shows (123 :: (joinC ts ++ [125])) (mk ns)
inductive ShowsAll : List (List Nat) → List Nat → Prop
  | nil : ShowsAll [] []
  | cons {t : List Nat} {n : Nat} {ts : List (List Nat)} {ns : List Nat} : Shows t n → ShowsAll ts ns → ShowsAll (t :: ts) (n :: ns)
end
theorem joinC_more (t : List Nat) {ts : List (List Nat)} (h : ts ≠ []) : joinC (t :: ts) = t ++ 44 :: joinC ts := by
  cases ts with
  | nil => exact absurd rfl h
  | cons u us => simp [joinC]
theorem joinC_one (t : List Nat) : joinC [t] = t := by simp [joinC]
theorem ShowsAll.none {ts : List (List Nat)} {ns : List Nat} (h : ShowsAll ts ns) (e : ts = []) : ns = [] := by
  cases h with
  | nil => rfl
  | cons _ _ => cases e
mutual
theorem Shows.ok : ∀ {l n}, Shows l n → ∀ r, Ok (l ++ r) n r
  | _, _, @Shows.node ts ns h, r => by
    rw [List.cons_append, List.append_assoc]
    show Ok (123 :: (joinC ts ++ 125 :: r)) (mk ns) r
    by_cases e : ts = []
    · rw [h.none e, e]
      exact .nil
    · exact .many (ShowsAll.ok h e r)
theorem ShowsAll.ok : ∀ {ts ns}, ShowsAll ts ns → ts ≠ [] → ∀ r, OkM (joinC ts ++ 125 :: r) ns (125 :: r)
  | _, _, .nil, h, _ => absurd rfl h
  | _, _, @ShowsAll.cons t n ts ns h hs, _, r => by
    by_cases e : ts = []
    · rw [hs.none e, e, joinC_one]
      exact .last (Shows.ok h _) (by simp)
    · rw [joinC_more t e, List.append_assoc]
      exact .more (Shows.ok h _) (ShowsAll.ok hs e r)
end
theorem Shows.read {l : List Nat} {n : Nat} (h : Shows l n) : Ok l n [] := by
  have := h.ok []
  rwa [List.append_nil] at this
mutual
theorem Shows.high : ∀ {l n}, Shows l n → ∀ r, hgt (l ++ r) ≤ max (dep n + 1) (hgt r)
  | _, _, @Shows.node ts ns h, r => by
    rw [List.cons_append, List.append_assoc, hgt_open]
    show hgt (joinC ts ++ 125 :: r) + 1 ≤ _
    by_cases e : ts = []
    · rw [e]
      show hgt (125 :: r) + 1 ≤ _
      rw [hgt_close]
      omega
    · have g := ShowsAll.high h (dep (mk ns)) (fun k hk => dep_mem (mem_mk.mpr hk)) e (125 :: r)
      rw [hgt_close] at g
      have pos : 1 ≤ dep (mk ns) := by
        cases h with
        | nil => exact absurd rfl e
        | @cons _ n _ ns _ _ =>
          have := dep_mem (mem_mk.mpr (List.mem_cons_self : n ∈ n :: ns))
          omega
      omega
theorem ShowsAll.high : ∀ {ts ns}, ShowsAll ts ns → ∀ D, (∀ k ∈ ns, dep k + 1 ≤ D) → ts ≠ [] → ∀ r, hgt (joinC ts ++ r) ≤ max D (hgt r)
  | _, _, .nil, _, _, h, _ => absurd rfl h
  | _, _, @ShowsAll.cons t n ts ns h hs, D, hd, _, r => by
    have d := hd n List.mem_cons_self
    by_cases e : ts = []
    · rw [e, joinC_one]
      have := Shows.high h r
      omega
    · rw [joinC_more t e, List.append_assoc, List.cons_append]
      have g1 := Shows.high h (44 :: (joinC ts ++ r))
      rw [hgt_comma] at g1
      have g2 := ShowsAll.high hs D (fun k hk => hd k (List.mem_cons_of_mem _ hk)) e r
      omega
end
theorem showsAll_map {ns : List Nat} (h : ∀ k ∈ ns, Shows (txl k) k) : ShowsAll (ns.map txl) ns := by
  induction ns with
  | nil => exact .nil
  | cons a ns ih => exact .cons (h a List.mem_cons_self) (ih fun k hk => h k (List.mem_cons_of_mem _ hk))
theorem shows_txl (n : Nat) : Shows (txl n) n := by
  induction n using Nat.strongRecOn with
  | ind n ih =>
    have h := Shows.node (showsAll_map (ns := bits n) fun k hk => ih k (bits_lt hk))
    rw [mk_bits, ← txl_eq] at h
    exact h
theorem hgt_txl (n : Nat) : hgt (txl n) ≤ dep n + 1 := by
  have := (shows_txl n).high []
  rw [List.append_nil] at this
  exact Nat.le_trans this (Nat.max_le.mpr ⟨Nat.le_refl _, Nat.zero_le _⟩)
theorem Shows.hgt_le {l : List Nat} {n : Nat} (h : Shows l n) : hgt l ≤ dep n + 1 := by
  have := h.high []
  rw [List.append_nil] at this
  exact Nat.le_trans this (Nat.max_le.mpr ⟨Nat.le_refl _, Nat.zero_le _⟩)
/-! ### how long texts are -/
theorem joinC_len : ∀ ts : List (List Nat), (joinC ts).length ≤ (ts.map fun t => t.length + 1).sum ∧ (ts ≠ [] → (joinC ts).length + 1 = (ts.map fun t => t.length + 1).sum)
  | [] => ⟨Nat.le_refl _, fun h => absurd rfl h⟩
  | t :: r => by
    have e : (r.flatMap fun u => 44 :: u).length = (r.map fun t => t.length + 1).sum := by
      induction r with
      | nil => rfl
      | cons u r ih => rw [List.flatMap_cons, List.length_append, ih, List.map_cons, List.sum_cons, List.length_cons]
    have e2 : (joinC (t :: r)).length + 1 = ((t :: r).map fun t => t.length + 1).sum := by
      rw [joinC, List.length_append, e, List.map_cons, List.sum_cons]
      omega
    exact ⟨by omega, fun _ => e2⟩
theorem sum_sub (f : Nat → Nat) : ∀ {bs ns : List Nat}, bs.Nodup → (∀ k ∈ bs, k ∈ ns) → (bs.map f).sum ≤ (ns.map f).sum
  | [], _, _, _ => Nat.zero_le _
  | b :: bs, ns, nd, hs => by
    have hb := hs b List.mem_cons_self
    have pm : ns.Perm (b :: ns.erase b) := List.perm_cons_erase hb
    have e : (ns.map f).sum = f b + ((ns.erase b).map f).sum := by
      rw [(pm.map f).sum_nat, List.map_cons, List.sum_cons]
    have ih := sum_sub f (bs := bs) (ns := ns.erase b) (List.nodup_cons.mp nd).2 fun k hk => by
      have ne : k ≠ b := fun z => (List.nodup_cons.mp nd).1 (z ▸ hk)
      exact (List.mem_erase_of_ne ne).mpr (hs k (List.mem_cons_of_mem _ hk))
    rw [e, List.map_cons, List.sum_cons]
    omega
theorem txl_two (n : Nat) : 2 ≤ (txl n).length := by
  rw [txl_eq, List.length_cons, List.length_append]
  simp only [List.length_singleton]
  omega
theorem txl_len (n : Nat) : (txl n).length ≤ max 2 (1 + ((bits n).map fun k => (txl k).length + 1).sum) := by
  rw [txl_eq, List.length_cons, List.length_append, List.length_singleton]
  have h := (joinC_len ((bits n).map txl))
  have e : ((bits n).map txl).map (fun t => t.length + 1) = (bits n).map fun k => (txl k).length + 1 := by rw [List.map_map]; rfl
  rw [e] at h
  by_cases z : (bits n).map txl = []
  · rw [z]
    show 0 + 1 + 1 ≤ _
    omega
  · have := h.2 z
    omega
mutual
theorem Ok.shrink : ∀ {r n r'}, Ok r n r' → (txl n).length + r'.length ≤ r.length
  | _, _, _, @Ok.nil r => by
    have := txl_len 0
    rw [bits_zero] at this
    simp only [List.map_nil, List.sum_nil] at this
    rw [List.length_cons, List.length_cons]
    omega
  | _, _, _, @Ok.many r r' ns h => by
    have g := OkM.shrink h
    rw [List.length_cons] at g
    have h1 := txl_len (mk ns)
    have h2 := sum_sub (fun k => (txl k).length + 1) (bs := bits (mk ns)) (ns := ns) ((bits_asc _).imp fun h => Nat.ne_of_lt h) fun k hk => mem_mk.mp hk
    have h3 := h.suf.2
    rw [List.length_cons] at h3 ⊢
    omega
theorem OkM.shrink : ∀ {r ns r'}, OkM r ns r' → (ns.map fun k => (txl k).length + 1).sum + r'.length ≤ r.length + 1
  | _, _, _, @OkM.last r r1 n h _ => by
    have := Ok.shrink h
    simp only [List.map_cons, List.map_nil, List.sum_cons, List.sum_nil]
    omega
  | _, _, _, @OkM.more r r1 r2 ns n h hm => by
    have g1 := Ok.shrink h
    have g2 := OkM.shrink hm
    rw [List.length_cons] at g1
    rw [List.map_cons, List.sum_cons]
    omega
end
end Nk
namespace Nk
open PySem PySem.StrLaws

/-! ### a scan: 0 behind a beginning, 1 behind a comma and at the start, 2 behind a member; d how many are open -/
def acc : Nat → Nat → List Nat → Bool
  | q, d, [] => q == 2 && d == 0
  | q, d, c :: r =>
    if q = 2 then
      if d = 0 then false
      else if c = 125 then acc 2 (d - 1) r
      else if c = 44 then acc 1 d r
      else false
    else if c = 123 then acc 0 (d + 1) r
    else if c = 120 then acc 2 d r
    else if c = 125 ∧ q = 0 ∧ 0 < d then acc 2 (d - 1) r
    else false
theorem acc_open {q d : Nat} {r : List Nat} (h : q ≠ 2) : acc q d (123 :: r) = acc 0 (d + 1) r := by
  rw [acc, if_neg h, if_pos rfl]
theorem acc_x {q d : Nat} {r : List Nat} (h : q ≠ 2) : acc q d (120 :: r) = acc 2 d r := by
  rw [acc, if_neg h, if_neg (by decide), if_pos rfl]
theorem acc_empty {d : Nat} {r : List Nat} : acc 0 (d + 1) (125 :: r) = acc 2 d r := by
  rw [acc, if_neg (by decide), if_neg (by decide), if_neg (by decide), if_pos ⟨rfl, rfl, Nat.succ_pos d⟩]
  rfl
theorem acc_close {d : Nat} {r : List Nat} : acc 2 (d + 1) (125 :: r) = acc 2 d r := by
  rw [acc, if_pos rfl, if_neg (Nat.succ_ne_zero d), if_pos rfl]
  rfl
theorem acc_comma {d : Nat} {r : List Nat} : acc 2 (d + 1) (44 :: r) = acc 1 (d + 1) r := by
  rw [acc, if_pos rfl, if_neg (Nat.succ_ne_zero d), if_neg (by decide), if_pos rfl]
theorem acc_two {d c : Nat} {r : List Nat} (h : c ≠ 125) (h2 : c ≠ 44) : acc 2 d (c :: r) = false := by
  rw [acc, if_pos rfl, if_neg h, if_neg h2]
  split <;> rfl
theorem acc_end {c : Nat} {r : List Nat} : acc 2 0 (c :: r) = false := by
  rw [acc, if_pos rfl, if_pos rfl]
theorem acc_one {d c : Nat} {r : List Nat} (h : c ≠ 123) (h2 : c ≠ 120) : acc 1 d (c :: r) = false := by
  rw [acc, if_neg (by decide), if_neg h, if_neg h2, if_neg (fun z => absurd z.2.1 (by decide))]
theorem acc_zero {d c : Nat} {r : List Nat} (h : c ≠ 123) (h2 : c ≠ 120) (h3 : c ≠ 125) : acc 0 d (c :: r) = false := by
  rw [acc, if_neg (by decide), if_neg h, if_neg h2, if_neg (fun z => h3 z.1)]
theorem acc_nil {q d : Nat} (h : q ≠ 2 ∨ d ≠ 0) : acc q d [] = false := by
  rw [acc]
  rcases h with h | h
  · rw [show (q == 2) = false from beq_eq_false_iff_ne.mpr h]; rfl
  · rw [show (d == 0) = false from beq_eq_false_iff_ne.mpr h, Bool.and_false]
/-- what follows counts for what it tells alone -/
theorem acc_cons {w w' : List Nat} (h : ∀ q d, acc q d w = acc q d w') (c q d : Nat) : acc q d (c :: w) = acc q d (c :: w') := by
  rw [acc, acc, h, h, h, h]
theorem acc_app {w w' : List Nat} (h : ∀ q d, acc q d w = acc q d w') : ∀ (y : List Nat) (q d : Nat), acc q d (y ++ w) = acc q d (y ++ w')
  | [], q, d => h q d
  | c :: y, q, d => acc_cons (acc_app h y) c q d
theorem acc_repl {y z : List Nat} (hy : y ≠ []) (hyz : ∀ q d w, acc q d (y ++ w) = acc q d (z ++ w)) (N : Nat) : ∀ l : List Nat, l.length ≤ N → ∀ q d, acc q d (replL y z l) = acc q d l := by
  induction N with
  | zero =>
    intro l hl q d
    rw [List.eq_nil_of_length_eq_zero (Nat.le_zero.mp hl), replL_nil]
  | succ N ih =>
    intro l hl q d
    cases l with
    | nil => rw [replL_nil]
    | cons c r =>
      by_cases h : (c :: r).take y.length = y
      · have ly : 0 < y.length := List.length_pos_iff.mpr hy
        have e : c :: r = y ++ (c :: r).drop y.length := by
          conv => lhs; rw [← List.take_append_drop y.length (c :: r), h]
        have small : ((c :: r).drop y.length).length ≤ N := by
          rw [List.length_drop]
          omega
        rw [replL_hit hy h, ← hyz, acc_app (ih _ small) y, ← e]
      · rw [replL_miss h]
        exact acc_cons (ih r (by rw [List.length_cons] at hl; omega)) c q d
theorem repl_short {y z : List Nat} (hz : z.length < y.length) (N : Nat) : ∀ l : List Nat, l.length ≤ N → (replL y z l).length ≤ l.length ∧ ((replL y z l).length = l.length → replL y z l = l ∧ ∀ u v, l ≠ u ++ (y ++ v)) := by
  have hy : y ≠ [] := fun e => by rw [e] at hz; cases hz
  induction N with
  | zero =>
    intro l hl
    rw [List.eq_nil_of_length_eq_zero (Nat.le_zero.mp hl), replL_nil]
    exact ⟨Nat.le_refl _, fun _ => ⟨rfl, fun u v e => hy (List.append_eq_nil_iff.mp (List.append_eq_nil_iff.mp e.symm).2).1⟩⟩
  | succ N ih =>
    intro l hl
    cases l with
    | nil =>
      rw [replL_nil]
      exact ⟨Nat.le_refl _, fun _ => ⟨rfl, fun u v e => hy (List.append_eq_nil_iff.mp (List.append_eq_nil_iff.mp e.symm).2).1⟩⟩
    | cons c r =>
      by_cases h : (c :: r).take y.length = y
      · have lh := congrArg List.length h
        rw [List.length_take] at lh
        have small := ih ((c :: r).drop y.length) (by rw [List.length_drop]; omega)
        rw [replL_hit hy h, List.length_append]
        have g := small.1
        rw [List.length_drop] at g
        exact ⟨by omega, fun e => by omega⟩
      · have g := ih r (by rw [List.length_cons] at hl; omega)
        rw [replL_miss h, List.length_cons, List.length_cons]
        refine ⟨by omega, fun e => ?_⟩
        obtain ⟨e1, e2⟩ := g.2 (by omega)
        refine ⟨by rw [e1], fun u v eq => ?_⟩
        cases u with
        | nil =>
          refine h ?_
          rw [List.nil_append] at eq
          rw [eq, List.take_left]
        | cons a u =>
          rw [List.cons_append] at eq
          injection eq with _ eq
          exact e2 u v eq
theorem pass_empty (q d : Nat) (w : List Nat) : acc q d ([123, 125] ++ w) = acc q d ([120] ++ w) := by
  by_cases h : q = 2
  · rw [h]
    exact (acc_two (by decide) (by decide)).trans (acc_two (by decide) (by decide)).symm
  · exact (acc_open h).trans (acc_empty.trans (acc_x h).symm)
theorem pass_one (q d : Nat) (w : List Nat) : acc q d ([123, 120, 125] ++ w) = acc q d ([120] ++ w) := by
  by_cases h : q = 2
  · rw [h]
    exact (acc_two (by decide) (by decide)).trans (acc_two (by decide) (by decide)).symm
  · exact (acc_open h).trans ((acc_x (by decide)).trans (acc_close.trans (acc_x h).symm))
theorem pass_two (q d : Nat) (w : List Nat) : acc q d ([123, 120, 44, 120] ++ w) = acc q d ([123, 120] ++ w) := by
  by_cases h : q = 2
  · rw [h]
    exact (acc_two (by decide) (by decide)).trans (acc_two (by decide) (by decide)).symm
  · exact (acc_open h).trans ((acc_x (by decide)).trans (acc_comma.trans ((acc_x (by decide)).trans ((acc_x (by decide)).symm.trans (acc_open h).symm))))
/-- one round of the three rewritings -/
def rnd (l : List Nat) : List Nat := replL [123, 120, 44, 120] [123, 120] (replL [123, 120, 125] [120] (replL [123, 125] [120] l))
theorem rnd_acc (l : List Nat) (q d : Nat) : acc q d (rnd l) = acc q d l := by
  unfold rnd
  rw [acc_repl (by simp) pass_two _ _ (Nat.le_refl _), acc_repl (by simp) pass_one _ _ (Nat.le_refl _), acc_repl (by simp) pass_empty _ _ (Nat.le_refl _)]
theorem rnd_len (l : List Nat) : (rnd l).length ≤ l.length ∧ ((rnd l).length = l.length → rnd l = l ∧ ∀ u v, l ≠ u ++ ([123, 125] ++ v) ∧ l ≠ u ++ ([123, 120, 125] ++ v) ∧ l ≠ u ++ ([123, 120, 44, 120] ++ v)) := by
  have h1 := repl_short (y := [123, 125]) (z := [120]) (by decide) _ l (Nat.le_refl _)
  have h2 := repl_short (y := [123, 120, 125]) (z := [120]) (by decide) _ (replL [123, 125] [120] l) (Nat.le_refl _)
  have h3 := repl_short (y := [123, 120, 44, 120]) (z := [123, 120]) (by decide) _ (replL [123, 120, 125] [120] (replL [123, 125] [120] l)) (Nat.le_refl _)
  have a3 := h3.1
  have a2 := h2.1
  have a1 := h1.1
  refine ⟨by unfold rnd; omega, fun e => ?_⟩
  unfold rnd at e ⊢
  obtain ⟨e3, f3⟩ := h3.2 (by omega)
  obtain ⟨e2, f2⟩ := h2.2 (by omega)
  obtain ⟨e1, f1⟩ := h1.2 (by omega)
  rw [e3, e2, e1]
  rw [e2, e1] at f3
  rw [e1] at f2
  exact ⟨rfl, fun u v => ⟨f1 u v, f2 u v, f3 u v⟩⟩
theorem redex (l : List Nat) : ∀ q d, acc q d l = true → 123 ∈ l → ∃ u v, l = u ++ ([123, 125] ++ v) ∨ l = u ++ ([123, 120, 125] ++ v) ∨ l = u ++ ([123, 120, 44, 120] ++ v) := by
  induction l with
  | nil => intro q d _ h; cases h
  | cons c r ih =>
    intro q d ha hm
    by_cases hr : 123 ∈ r
    · have next : ∃ q' d', acc q' d' r = true := by
        rw [acc] at ha
        split at ha
        · split at ha
          · cases ha
          · split at ha
            · exact ⟨_, _, ha⟩
            · split at ha
              · exact ⟨_, _, ha⟩
              · cases ha
        · split at ha
          · exact ⟨_, _, ha⟩
          · split at ha
            · exact ⟨_, _, ha⟩
            · split at ha
              · exact ⟨_, _, ha⟩
              · cases ha
      obtain ⟨q', d', h'⟩ := next
      obtain ⟨u, v, h⟩ := ih q' d' h' hr
      refine ⟨c :: u, v, ?_⟩
      rcases h with h | h | h
      · exact .inl (by rw [h]; rfl)
      · exact .inr (.inl (by rw [h]; rfl))
      · exact .inr (.inr (by rw [h]; rfl))
    · obtain rfl : c = 123 := by
        rcases List.mem_cons.mp hm with e | h
        · exact e.symm
        · exact absurd h hr
      have hq : q ≠ 2 := fun e => by
        rw [e, acc_two (by decide) (by decide)] at ha
        cases ha
      rw [acc_open hq] at ha
      cases r with
      | nil => rw [acc_nil (.inl (by decide))] at ha; cases ha
      | cons c2 r2 =>
        have n2 : c2 ≠ 123 := fun e => hr (e ▸ List.mem_cons_self)
        have m2 : 123 ∉ r2 := fun e => hr (List.mem_cons_of_mem _ e)
        by_cases e2 : c2 = 125
        · exact ⟨[], r2, .inl (by rw [e2]; rfl)⟩
        by_cases x2 : c2 = 120
        · subst x2
          rw [acc_x (by decide)] at ha
          cases r2 with
          | nil => rw [acc_nil (.inr (Nat.succ_ne_zero d))] at ha; cases ha
          | cons c3 r3 =>
            by_cases e3 : c3 = 125
            · exact ⟨[], r3, .inr (.inl (by rw [e3]; rfl))⟩
            by_cases x3 : c3 = 44
            · subst x3
              rw [acc_comma] at ha
              cases r3 with
              | nil => rw [acc_nil (.inl (by decide))] at ha; cases ha
              | cons c4 r4 =>
                have n4 : c4 ≠ 123 := fun e => m2 (e ▸ List.mem_cons_of_mem _ List.mem_cons_self)
                by_cases x4 : c4 = 120
                · exact ⟨[], r4, .inr (.inr (by rw [x4]; rfl))⟩
                · rw [acc_one n4 x4] at ha
                  cases ha
            · rw [acc_two e3 x3] at ha
              cases ha
        · rw [acc_zero n2 x2 e2] at ha
          cases ha
theorem fixed {l : List Nat} (h : rnd l = l) : decide (l = [120]) = acc 1 0 l := by
  rw [Bool.eq_iff_iff, decide_eq_true_eq]
  constructor
  · rintro rfl
    rw [acc_x (by decide)]
    rfl
  · intro ha
    have none := ((rnd_len l).2 (by rw [h])).2
    by_cases hm : 123 ∈ l
    · obtain ⟨u, v, z⟩ := redex l 1 0 ha hm
      obtain ⟨n1, n2, n3⟩ := none u v
      rcases z with z | z | z
      · exact absurd z n1
      · exact absurd z n2
      · exact absurd z n3
    · cases l with
      | nil => rw [acc_nil (.inl (by decide))] at ha; cases ha
      | cons c r =>
        have nc : c ≠ 123 := fun e => hm (e ▸ List.mem_cons_self)
        by_cases x : c = 120
        · subst x
          rw [acc_x (by decide)] at ha
          cases r with
          | nil => rfl
          | cons _ _ => rw [acc_end] at ha; cases ha
        · rw [acc_one nc x] at ha
          cases ha
/-! ### the scan and the reading -/
mutual
theorem Ok.scan : ∀ {r n r'}, Ok r n r' → ∀ q d, q ≠ 2 → acc q d r = acc 2 d r'
  | _, _, _, @Ok.nil r, q, d, h => (acc_open h).trans acc_empty
  | _, _, _, @Ok.many r r' ns hm, q, d, h => (acc_open h).trans ((OkM.scan hm 0 d (by decide)).trans acc_close)
theorem OkM.scan : ∀ {r ns r'}, OkM r ns r' → ∀ q d, q ≠ 2 → acc q (d + 1) r = acc 2 (d + 1) r'
  | _, _, _, @OkM.last r r1 n h _, q, d, hq => Ok.scan h q (d + 1) hq
  | _, _, _, @OkM.more r r1 r2 ns n h hm, q, d, hq => (Ok.scan h q (d + 1) hq).trans (acc_comma.trans (OkM.scan hm 1 d (by decide)))
end
theorem acc_same {r : List Nat} (h : r.head? ≠ some 125) (d : Nat) : acc 0 d r = acc 1 d r := by
  cases r with
  | nil => exact (acc_nil (.inl (by decide))).trans (acc_nil (.inl (by decide))).symm
  | cons c r =>
    have hc : c ≠ 125 := fun e => h (by rw [e]; rfl)
    by_cases h1 : c = 123
    · rw [h1, acc_open (by decide), acc_open (by decide)]
    · by_cases h2 : c = 120
      · rw [h2, acc_x (by decide), acc_x (by decide)]
      · rw [acc_zero h1 h2 hc, acc_one h1 h2]
theorem OkM.clean : ∀ {ns r r'}, OkM r ns r' → 120 ∉ r → 120 ∉ r' := fun h hx hm => hx (h.suf.1.subset hm)
mutual
theorem Bad.scan : ∀ {r}, Bad r → 120 ∉ r → ∀ d, acc 1 d r = false
  | _, @Bad.head r h, hx, d => by
    cases r with
    | nil => exact acc_nil (.inl (by decide))
    | cons c r => exact acc_one (fun e => h (by rw [e]; rfl)) fun e => hx (e ▸ List.mem_cons_self)
  | _, @Bad.mem r h hb, hx, d => by
    rw [acc_open (by decide), acc_same h]
    exact BadM.scan hb (fun z => hx (List.mem_cons_of_mem _ z)) d
  | _, @Bad.stop r r1 ns h hm h1, hx, d => by
    rw [acc_open (by decide), acc_same h, OkM.scan hm 1 d (by decide)]
    have h44 := hm.stops
    cases r1 with
    | nil => exact acc_nil (.inr (Nat.succ_ne_zero d))
    | cons c r => exact acc_two (fun e => h1 (by rw [e]; rfl)) fun e => h44 (by rw [e]; rfl)
theorem BadM.scan : ∀ {r}, BadM r → 120 ∉ r → ∀ d, acc 1 (d + 1) r = false
  | _, @BadM.here r h, hx, d => Bad.scan h hx (d + 1)
  | _, @BadM.later r r1 n h hb, hx, d => by
    rw [Ok.scan h 1 (d + 1) (by decide), acc_comma]
    exact BadM.scan hb (fun z => hx ((List.suffix_cons 44 r1).subset z |> fun z => h.suf.1.subset z)) d
end
/-- a text that tells no nest -/
def NoTx (l : List Nat) : Prop := Bad l ∨ ∃ n r', Ok l n r' ∧ r' ≠ []
theorem tx_or (l : List Nat) : (∃ n, Ok l n []) ∨ NoTx l := by
  rcases (read_any _ l (Nat.le_refl _)).1 with ⟨n, r, h⟩ | h
  · cases r with
    | nil => exact .inl ⟨n, h⟩
    | cons c r => exact .inr (.inr ⟨n, _, h, by simp⟩)
  · exact .inr (.inl h)
theorem ok_acc {l : List Nat} {n : Nat} (h : Ok l n []) : acc 1 0 l = true := by
  rw [h.scan 1 0 (by decide)]
  rfl
theorem noTx_acc {l : List Nat} (h : NoTx l) (hx : 120 ∉ l) : acc 1 0 l = false := by
  rcases h with h | ⟨n, r, h, ne⟩
  · exact h.scan hx 0
  · rw [h.scan 1 0 (by decide)]
    cases r with
    | nil => exact absurd rfl ne
    | cons c r => exact acc_end
theorem noTx_of {l : List Nat} (h : acc 1 0 l = false) : NoTx l := by
  rcases tx_or l with ⟨n, z⟩ | z
  · rw [ok_acc z] at h
    cases h
  · exact z
/-! ### signs and edits -/
theorem txl_clean (n : Nat) : 120 ∉ txl n := by
  induction n using Nat.strongRecOn with
  | ind n ih =>
    rw [txl_eq]
    have inner : ∀ ks : List Nat, (∀ k ∈ ks, 120 ∉ txl k) → 120 ∉ joinC (ks.map txl) := by
      intro ks hk hm
      cases ks with
      | nil => cases hm
      | cons a ks =>
        rw [List.map_cons, joinC] at hm
        rcases List.mem_append.mp hm with hm | hm
        · exact hk a List.mem_cons_self hm
        · obtain ⟨u, hu, hm⟩ := List.mem_flatMap.mp hm
          obtain ⟨k, hk2, rfl⟩ := List.mem_map.mp hu
          rcases List.mem_cons.mp hm with e | hm
          · cases e
          · exact hk k (List.mem_cons_of_mem _ hk2) hm
    intro hm
    rcases List.mem_cons.mp hm with e | hm
    · cases e
    · rcases List.mem_append.mp hm with hm | hm
      · exact inner (bits n) (fun k hk => ih k (bits_lt hk)) hm
      · rw [List.mem_singleton] at hm
        cases hm
/-- an edit: at a place a sign is put in, or left out, or another one put in its place -/
def Edit (l l' : List Nat) : Prop := ∃ (a b : Nat) (s : List Nat), a ≤ b ∧ b ≤ a + 1 ∧ s.length ≤ 1 ∧ 120 ∉ s ∧ l' = l.take a ++ (s ++ l.drop b)
theorem Edit.clean {l l' : List Nat} (h : Edit l l') (hx : 120 ∉ l) : 120 ∉ l' := by
  obtain ⟨a, b, s, _, _, _, hs, rfl⟩ := h
  intro hm
  rcases List.mem_append.mp hm with hm | hm
  · exact hx (List.mem_of_mem_take hm)
  · rcases List.mem_append.mp hm with hm | hm
    · exact hs hm
    · exact hx (List.mem_of_mem_drop hm)
theorem Edit.len {l l' : List Nat} (h : Edit l l') : l'.length ≤ l.length + 1 := by
  obtain ⟨a, b, s, h1, h2, h3, _, rfl⟩ := h
  rw [List.length_append, List.length_append, List.length_take, List.length_drop]
  omega
theorem Edit.high {l l' : List Nat} (h : Edit l l') : hgt l' ≤ hgt l + 2 := by
  obtain ⟨a, b, s, h1, h2, h3, _, rfl⟩ := h
  conv => rhs; rw [← List.take_append_drop a l]
  refine hgt_app ?_ _
  have g1 : hgt (l.drop b) ≤ hgt (l.drop a) + 1 := by
    by_cases e : b = a
    · rw [e]; omega
    · obtain rfl : b = a + 1 := by omega
      rw [← List.drop_drop]
      cases l.drop a with
      | nil => exact Nat.zero_le _
      | cons c r => exact (hgt_cons c r).2
  have g2 : hgt (s ++ l.drop b) ≤ hgt (l.drop b) + 1 := by
    cases s with
    | nil => rw [List.nil_append]; omega
    | cons c s =>
      cases s with
      | nil => exact (hgt_cons c _).1
      | cons _ _ => simp only [List.length_cons] at h3; omega
  omega
end Nk
namespace Nk
open PySem PySem.Spec PyProof.Rows L2

/-! ### a loop and a store, a token being out -/
section
variable {X : Cx} {pos : Pos}
theorem pst_set {k : Nat} {nm : Str} {val : Expr} {tv : TE} {p0 : Pos} (nd : X.N.Nodup) (slot : X.N[k]? = some nm) (loc : Loc X.env.scope nm) (hv : PET X val tv) (plain : swapsWith val (some (.Name nm p0)) pos.line X.env = pure false := by rfl)
    (kept : X.fn nm = true ∨ X.env.scope.names.lookup nm = some .local := by first | exact .inl rfl | exact .inr rfl | assumption) : PST X (.Assign [.Name nm p0] val pos) (tAsg tv (gName k)) := by
  intro held t σ H D out inv told
  have worth := hv held t σ H _ out inv told
  refine wpAny_Assign_Name (thn worth fun u t1 z => ?_) plain
  obtain ⟨y, Hy, iy, ry, more⟩ := z
  exact store_ok iy nd slot loc ry (fun t2 i2 => ⟨_, _, i2, more⟩) kept
theorem pst_while {c : Expr} {body : List Stmt} {tc : TT} {tb : TS} (own : PassesOwn (model X.prog X.w) X.A X.env X.xe) (test : PT X c tc) (block : PSsT X body tb) : PST X (.While c body [] pos) (tWhile tc tb) := by
  rintro held t0 σ H D out I ⟨W, ⟨n0, w0⟩, turns⟩
  refine wpAny_While (codeAny_whileLoop (fun n t => 1 ≤ t.toks ∧ ∃ σt Ht, Inv X held σt Ht t ∧ W n σt Ht) (fun n t h => ?_) n0 ⟨out, _, _, I, w0⟩)
  obtain ⟨tok, σt, Ht, It, now⟩ := h
  refine wpAny_passesOwn own (wpAny_with_toks tok (wpAny_mono (test.run held t σt Ht _ It (turns n σt Ht now)) (fun b u q tk => ?_) fun _ _ x _ => x))
  obtain ⟨Hu, Iu, q⟩ := q
  cases b with
  | false =>
    rw [if_neg (by decide)]
    exact wpAny_execs_nil ⟨_, _, Iu, q⟩
  | true =>
    obtain ⟨N, again, q⟩ := q
    rw [if_pos (by decide)]
    refine wpAny_passesOwn own (wpAny_with_toks tk (wpAny_mono (block held u σt Hu _ tk Iu q) (fun f v qf tv => ?_) fun _ _ x _ => x))
    have round : ∀ {σ' H'}, Inv X held σ' H' v → N σ' H' → ∃ m, m < n ∧ 1 ≤ v.toks ∧ ∃ σt Ht, Inv X held σt Ht v ∧ W m σt Ht := fun {σ' H'} I' z => by
      obtain ⟨m, less, wm⟩ := again _ _ z
      exact ⟨m, less, tv, _, _, I', wm⟩
    match f, qf with
    | .next, ⟨_, _, I', z⟩ => exact round I' z
    | .cont, ⟨_, _, I', z⟩ => exact round I' z
    | .brk, z => exact z
    | .ret _, z => exact z
theorem psst_nox {st : List Stmt} {t : TS} (h : PSsT X.nox st t) : PSsT X st t := fun held s σ H D out I told =>
  wpAny_mono (h held s σ H D out (I.wish _) told) (fun _ _ z => SP.unwish z) fun _ _ z => nomatch z
end
/-- a def with a parameter: a token is out when its body begins -/
theorem fun_okT {P : Program} {w : World} {K : PySem.W.Frag} {mg : Str → Option Value} {base : Heap} {x qual : Str} {st : Stmt} {f : Addr} {fd : FuncData} {N ps : List Str} {k : Nat} {sp : Sp} (F : Fun K x qual st f fd) (S : FnScope N ps (defScope st))
    (flat : ∀ y ∈ (defScope st).names, y.2 ≠ .cell) (some_ : 1 ≤ ps.length) (len : ∀ vs H Q E, sp vs H Q E → vs.length = ps.length)
    (body : ∀ (cdv : Value) (A : Around) (outer : List Env) (s : Shared) (H : Hp) (vs : List V) (Q : VK) (E : XK), Room k (A.deeper (envOfC qual (defScope st) s.heap.objs.size f cdv)) → sp vs H Q E →
      ∃ t, PSsT (cxOf CX0 P w K mg base N qual (defScope st) f cdv A outer s H E).nox (defBody st) t ∧ t { nx := fun _ H' => Q .non H', rt := Q } (start N vs) H) : FnOk P w K mg base CX0 (k + 1) f fd ps sp := by
  obtain ⟨_, _, _, _, _, _, cdv, _, _, rfl, found, code⟩ := F.ex
  refine fn_ofT found code S flat some_ len fun A outer s H vs Q E room told => ?_
  obtain ⟨t, h, z⟩ := body cdv A outer s H vs Q E room told
  exact ⟨t, psst_nox h, z⟩
/-! ### replace on lists of signs -/
theorem repl_tx {l y z : List Nat} (hy : 1 ≤ y.length) : Txt.replace (tx l) (tx y) (tx z) = tx (PySem.StrLaws.replL y z l) := by
  refine tx_eq ?_
  rw [PySem.StrLaws.replace_list (by rw [tx_len]; exact hy), tx_list, tx_list, tx_list]
/-! ### cuts of texts -/
theorem cut_tx (l : List Nat) (i j : Nat) : cutS (tx l) (some (i : Int)) (some (j : Int)) = tx ((l.drop i).take (j - i)) := by
  unfold cutS
  rw [HT.sIx_nat, HT.sIx_nat, tx_list, tx_len]
  show tx _ = tx _
  congr 1
  by_cases h : i ≤ l.length
  · rw [Nat.min_eq_left h]
    by_cases h2 : j ≤ l.length
    · rw [Nat.min_eq_left h2]
    · rw [Nat.min_eq_right (by omega), List.take_of_length_le (by rw [List.length_drop]; omega), List.take_of_length_le (by rw [List.length_drop]; omega)]
  · rw [Nat.min_eq_right (by omega : l.length ≤ i), List.drop_of_length_le (Nat.le_refl _), List.drop_of_length_le (by omega), List.take_nil, List.take_nil]
theorem cut_to (l : List Nat) (j : Nat) : cutS (tx l) none (some (j : Int)) = tx (l.take j) := by
  have := cut_tx l 0 j
  rw [List.drop_zero, Nat.sub_zero] at this
  rw [← this]
  unfold cutS
  rw [show HT.sIx (tx l).length 0 (some ((0 : Nat) : Int)) = 0 by rw [HT.sIx_nat, Nat.zero_min]]
  rfl
theorem cut_from (l : List Nat) (i : Nat) : cutS (tx l) (some (i : Int)) none = tx (l.drop i) := by
  unfold cutS
  rw [HT.sIx_nat, HT.sIx_none, tx_list, tx_len]
  show tx _ = tx _
  congr 1
  by_cases h : i ≤ l.length
  · rw [Nat.min_eq_left h, List.take_of_length_le (by rw [List.length_drop]; omega)]
  · rw [Nat.min_eq_right (by omega : l.length ≤ i), List.drop_of_length_le (Nat.le_refl _), List.drop_of_length_le (by omega), List.take_nil]
/-- the sign at a place, as the reading looks for it -/
theorem cut_sign (l : List Nat) (i : Nat) (c : Nat) : decide (V.str (cutS (tx l) (some (i : Int)) (some ((i : Int) + 1))) = V.str (tx [c])) = decide ((l.drop i).head? = some c) := by
  have e : (i : Int) + 1 = ((i + 1 : Nat) : Int) := by omega
  rw [e, cut_tx, Nat.add_sub_cancel_left, decide_eq_decide]
  constructor
  · intro h
    have h2 := tx_inj (V.str.inj h)
    cases z : l.drop i with
    | nil => rw [z] at h2; cases h2
    | cons a r =>
      rw [z] at h2
      injection h2 with h3
      rw [h3]; rfl
  · intro h
    cases z : l.drop i with
    | nil => rw [z] at h; cases h
    | cons a r =>
      rw [z] at h
      obtain rfl : a = c := Option.some.inj h
      rfl
end Nk
namespace Nk
open PySem L2
def topS (i : Nat) : Stmt := PySem.Challenge.pw_nestsets_k03_whole_texts.main.body.getD i (.Pass ⟨0, 0, 0, 0⟩)
abbrev s_SetError : Stmt := topS 1
abbrev s_NoNumber : Stmt := topS 2
abbrev s_NoText : Stmt := topS 3
abbrev s_NoPair : Stmt := topS 4
abbrev s_NoSet : Stmt := topS 5
abbrev s_rank_row : Stmt := topS 7
abbrev s_is_less : Stmt := topS 8
abbrev s_is_nest : Stmt := topS 9
abbrev s_nest : Stmt := topS 10
abbrev s_nest_at : Stmt := topS 12
abbrev s_read : Stmt := topS 13
abbrev s_written : Stmt := topS 15
abbrev s_law_cell : Stmt := topS 17
abbrev s_law_mix : Stmt := topS 18
abbrev s_law_greater : Stmt := topS 19
abbrev s_law_greatest : Stmt := topS 20
abbrev s_law_nest : Stmt := topS 21
abbrev s_law_drawn : Stmt := topS 22
abbrev s_law_some : Stmt := topS 23
abbrev s_law_text : Stmt := topS 24
abbrev s_law_loose : Stmt := topS 25
abbrev s_law_spoilt : Stmt := topS 26
abbrev s_law_is_text : Stmt := topS 27
abbrev s_law_read : Stmt := topS 28
abbrev s_law : Stmt := topS 29
structure Top (K : PySem.W.Frag) (mg : Str → Option Value) (fs : Nat → Addr) (fds : Nat → FuncData) : Prop where
  rank_row : Df K mg "rank_row" s_rank_row ["one"] (fs 7) (fds 7)
  is_less : Df K mg "is_less" s_is_less ["one", "other"] (fs 8) (fds 8)
  is_nest : Df K mg "is_nest" s_is_nest ["thing"] (fs 9) (fds 9)
  nest : Df K mg "nest" s_nest ["some"] (fs 10) (fds 10)
  nest_at : Df K mg "nest_at" s_nest_at ["text", "at"] (fs 12) (fds 12)
  read : Df K mg "read" s_read ["text"] (fs 13) (fds 13)
  written : Df K mg "written" s_written ["one"] (fs 15) (fds 15)
  law_cell : Df K mg "_law_cell" s_law_cell ["_law_script", "_law_k"] (fs 17) (fds 17)
  law_mix : Df K mg "_law_mix" s_law_mix ["_law_cell_here", "_law_prime", "_law_many"] (fs 18) (fds 18)
  law_greater : Df K mg "_law_greater" s_law_greater ["_law_one", "_law_other"] (fs 19) (fds 19)
  law_greatest : Df K mg "_law_greatest" s_law_greatest ["_law_some_here"] (fs 20) (fds 20)
  law_nest : Df K mg "_law_nest" s_law_nest ["_law_some_here"] (fs 21) (fds 21)
  law_drawn : Df K mg "_law_drawn" s_law_drawn ["_law_cell_here", "_law_deep"] (fs 22) (fds 22)
  law_some : Df K mg "_law_some" s_law_some ["_law_script", "_law_k", "_law_many"] (fs 23) (fds 23)
  law_text : Df K mg "_law_text" s_law_text ["_law_one"] (fs 24) (fds 24)
  law_loose : Df K mg "_law_loose" s_law_loose ["_law_one", "_law_cell_here"] (fs 25) (fds 25)
  law_spoilt : Df K mg "_law_spoilt" s_law_spoilt ["_law_text_here", "_law_cell_here"] (fs 26) (fds 26)
  law_is_text : Df K mg "_law_is_text" s_law_is_text ["_law_text_here"] (fs 27) (fds 27)
  law_read : Df K mg "_law_read" s_law_read ["_law_text_here"] (fs 28) (fds 28)
  law : Df K mg "law" s_law ["_law_script"] (fs 29) (fds 29)
  z_tuple : mg "tuple" = none
  z_reversed : mg "reversed" = none
  z_sorted : mg "sorted" = none
  z_len : mg "len" = none
  z_range : mg "range" = none
  z_int : mg "int" = none
  z_isinstance : mg "isinstance" = none
  z_all : mg "all" = none
  z_enumerate : mg "enumerate" = none
  z_list : mg "list" = none
  z_ValueError : mg "ValueError" = none
  g_SetError : mg "SetError" = some (.ref (fs 1))
  g_NoNumber : mg "NoNumber" = some (.ref (fs 2))
  g_NoText : mg "NoText" = some (.ref (fs 3))
  g_NoPair : mg "NoPair" = some (.ref (fs 4))
  g_NoSet : mg "NoSet" = some (.ref (fs 5))
  x_NoText : XC K mg "NoText" (fs 3) (fs 1)
  o_NoNumber : PySem.W.kitOne K (.ref (fs 3)) (.ref (fs 2)) = some false
  o_NoPair : PySem.W.kitOne K (.ref (fs 3)) (.ref (fs 4)) = some false
  o_NoSet : PySem.W.kitOne K (.ref (fs 3)) (.ref (fs 5)) = some false
def spLaw (K : PySem.W.Frag) : Sp := fun vs H Q _ => ∃ (a : Addr) (ns : List Int), vs = [.ref a] ∧ SqL K H a (ns.map V.int) ∧ ns.length ≤ 63 ∧ ∀ H', Q (.bl true) H'
section
variable {P : Program} {w : World} {K : PySem.W.Frag} {mg : Str → Option Value} {base : Heap}
theorem sc_rank_row : FnScope ["one", "member"] ["one"] (defScope s_rank_row) := ⟨rfl, rfl, rfl, by decide +kernel, rfl, by decide +kernel, by decide +kernel⟩
theorem rank_step {D : Nat} {f : Addr} {fd : FuncData} (F : Df K mg "rank_row" s_rank_row ["one"] f fd) (G : FnOk P w K mg base CX0 D f fd ["one"] (spRk K D)) (zt : mg "tuple" = none) (zr : mg "reversed" = none) :
    FnOk P w K mg base CX0 (D + 1) f fd ["one"] (spRk K (D + 1)) := by
  refine F.fn.ok sc_rank_row (fun vs H Q E h => ?_) (fun cdv A outer s H vs Q E hr h => ?_)
  · obtain ⟨v, n, rfl, _⟩ := h
    rfl
  obtain ⟨v, n, rfl, hn, dn, q⟩ := h
  obtain ⟨a, xs, rfl, hs, hx⟩ := hn.tup
  refine ⟨_, pss_one (ps_ret (pe_callTy call_tuple_of rfl zt PyProof.Rows.boot_tuple (pa_cons (pe_lc (own := [("member", 1)]) (g := gName 1) (tt := tYes) rfl sc_rank_row.nd (RT.pi_revA rfl zr (pe_z (pv 0)))
    (blkOk_by (N := ["one", "member"]) (sc := defScope s_rank_row) (by decide +kernel)) (fun _ _ _ _ _ => pg_name (i := 1) sc_rank_row.nd rfl (Or.inl rfl)) (fun _ _ _ _ _ => pts_nil)
    (fun _ _ _ _ _ => pe_call G hr rfl F.nm F.fn.kp F.bd .nil pass0 (pa_cons (pv 1) pa_nil))) pa_nil))), ?_⟩
  refine ⟨_, rfl, fun hz => ⟨a, xs, rfl, .inr ⟨hs, fun D' hD => lc_revT (Pv := fun i H' => Same H H' ∧ ∃ acc, H' D' = some (.lst acc) ∧ acc.length = i ∧ TpAll K H' acc (((bits n).reverse.take i).map rkd)) ⟨same_new hD _, [], upd_same, rfl, by rw [List.take_zero]; exact .nil⟩ (fun i H' _ p => sqT_same p.1 hs) (fun i x H' hi p => ?_) (fun H' p => ?_)⟩⟩⟩
  · obtain ⟨g, acc, hacc, lacc, tacc⟩ := p
    have hxr : NaAll K H xs.reverse (bits n).reverse := by
      have rv : ∀ {vs : List V} {ns : List Nat}, NaAll K H vs ns → NaAll K H vs.reverse ns.reverse := by
        intro vs ns h
        induction vs generalizing ns with
        | nil => cases ns with
          | nil => exact .nil
          | cons _ _ => cases h
        | cons v vs ih => cases ns with
          | nil => cases h
          | cons m ns =>
            cases h with
            | cons h1 h2 =>
              rw [List.reverse_cons, List.reverse_cons]
              show TpAll K H _ (List.map dat (ns.reverse ++ [m]))
              rw [List.map_append]
              exact (ih h2).app (.cons h1 .nil)
      exact rv hx
    obtain ⟨d, hd, tp⟩ := hxr.get hi
    rw [List.getElem?_map] at hd
    cases hb : (bits n).reverse[i]? with
    | none => rw [hb] at hd; cases hd
    | some k =>
      rw [hb] at hd
      cases hd
      have hk : k ∈ bits n := List.mem_reverse.mp (List.mem_of_getElem? hb)
      have hil : i < xs.length := by
        have := (List.getElem?_eq_some_iff.mp hi).1
        rw [List.length_reverse] at this
        exact this
      refine ⟨rfl, ?_⟩
      skip
      refine ⟨_, rfl, x, k, rfl, tp.grow (Grow.of g), by have := dep_mem hk; omega, fun r H2 g2 tr => ⟨acc, g2 _ _ hacc, ?_, same_put (g.trans g2) hD, acc ++ [r], upd_same, by rw [List.length_append, lacc]; rfl, ?_⟩⟩
      · have := hz a xs rfl (.inl hs)
        omega
      · have et : (bits n).reverse.take (i + 1) = (bits n).reverse.take i ++ [k] := by rw [List.take_add_one, hb]; rfl
        rw [et, List.map_append]
        exact ((tacc.grow (Grow.of g2)).app (.cons tr .nil)).grow (Grow.lst (g2 _ _ hacc))
  · obtain ⟨g, acc, hacc, lacc, tacc⟩ := p
    refine ⟨D', acc, rfl, .inl ⟨SqL.of hacc, fun l hl => q _ _ (g.trans (same_new hl _)) ?_⟩⟩
    have el : (bits n).reverse.take xs.length = (bits n).reverse := by
      have := hx.len
      rw [List.length_map] at this
      rw [this]
      exact List.take_of_length_le (by rw [List.length_reverse]; exact Nat.le_refl _)
    rw [el] at tacc
    rw [rkd_eq]
    exact .tup (SqT.of upd_same) (tacc.grow (Grow.new hl))
theorem rank_ok {f : Addr} {fd : FuncData} (F : Df K mg "rank_row" s_rank_row ["one"] f fd) (zt : mg "tuple" = none) (zr : mg "reversed" = none) : ∀ D : Nat, FnOk P w K mg base CX0 D f fd ["one"] (spRk K D)
  | 0 => no_calls (fun vs H Q E h => by obtain ⟨_, _, _, _, d, _⟩ := h; omega) 0
  | D + 1 => rank_step F (rank_ok F zt zr D) zt zr
/-- nest(some): some a tuple of nests, each at most 7 levels deep -/
def spNest (K : PySem.W.Frag) : Sp := fun vs H Q _ => ∃ a xs ns, vs = [.ref a] ∧ SqT K H a xs ∧ NaAll K H xs ns ∧ (∀ k ∈ ns, dep k ≤ 7) ∧ ∀ r H', Same H H' → Na K H' r (mk ns) → Q r H'
theorem sc_nest : FnScope ["some", "found", "one"] ["some"] (defScope s_nest) := ⟨rfl, rfl, rfl, by decide +kernel, rfl, by decide +kernel, by decide +kernel⟩
theorem nest_ok {f g : Addr} {fd gd : FuncData} (F : Df K mg "nest" s_nest ["some"] f fd) (R : Df K mg "rank_row" s_rank_row ["one"] g gd) (zt : mg "tuple" = none) (zr : mg "reversed" = none) (zs : mg "sorted" = none) :
    FnOk P w K mg base CX0 11 f fd ["some"] (spNest K) := by
  have G0 := rank_ok (P := P) (w := w) (base := base) R zt zr 8
  have G : FnOk P w K mg base CX0 8 g gd ["one"] (spRank K 7) := G0.imp fun vs H Q E ⟨v, n, e, hn, d, q⟩ => ⟨v, n, e, hn, by omega, q⟩
  refine F.fn.ok sc_nest (fun vs H Q E h => ?_) (fun cdv A outer s H vs Q E hr h => ?_)
  · obtain ⟨a, xs, ns, rfl, _⟩ := h
    rfl
  obtain ⟨a, xs, ns, rfl, hs, hx, hd7, q⟩ := h
  have hln : xs.length = ns.length := by
    have := hx.len
    rw [List.length_map] at this
    exact this
  refine ⟨_, pss_cons (ps_set (i := 1) sc_nest.nd rfl (Or.inl rfl) pe_dnewN) (pss_cons (ps_for PassesOwn.never rfl (pi_tup (pe_z (pv 0))) (pg_name (i := 2) sc_nest.nd rfl (Or.inl rfl))
      (pss_one (ps_asg pe_bl (pg_sub (pv 1) (pv 2) (set_nd (hu16 hr))))))
    (pss_one (ps_ret (pe_callTy call_tuple_of rfl zt PyProof.Rows.boot_tuple (pa_cons (pe_callBK (cr_sortedN rfl G hr R.bd) rfl zs PyProof.Rows.boot_sorted (pa_cons (pv 1) pa_nil) (pk_cons (pe_glob rfl R.nm (show RelV (.ref g) (.ref g) from rfl)) pk_nil)) pa_nil))))), ?_⟩
  intro d hd
  refine ⟨_, rfl, fun hz => ⟨a, rfl, ⟨xs, sqT_same (same_new hd _) hs⟩, for_tup (K := K) (a := a) (xs := xs) (fun i σ H' => ∃ v ks, σ = [some (.ref a), some (.ref d), v] ∧ Same H H' ∧ H' d = some (ND P w d ks) ∧ KeysOk K H' ks ∧ (∀ k, k ∈ ks.map (·.1) ↔ k ∈ ns.take i) ∧ ks.length ≤ i)
    ⟨none, [], rfl, same_new hd _, upd_same, ⟨fun p hp => (by cases hp), List.nodup_nil⟩, fun k => by simp, Nat.zero_le _⟩ (fun i σ H' _ p => by obtain ⟨_, _, _, g, _⟩ := p; exact sqT_same g hs) ?_ ?_⟩⟩
  · rintro i x σ H' hi ⟨v, ks, rfl, gg, hdd, hk, hm, hl⟩
    obtain ⟨dd, hdt, tp⟩ := hx.get hi
    rw [List.getElem?_map] at hdt
    cases hb : ns[i]? with
    | none => rw [hb] at hdt; cases hdt
    | some k =>
      rw [hb] at hdt
      cases hdt
      have tp' : Na K H' x k := tp.grow (Grow.of gg)
      obtain ⟨b, ys, rfl, hbs, hys⟩ := tp'.tup
      have hlen := hz a xs rfl (.inl (sqT_same (same_new hd _) hs))
      have hi' : i < xs.length := (List.getElem?_eq_some_iff.mp hi).1
      have hk7 := hd7 k (List.mem_of_getElem? hb)
      refine ⟨_, rfl, _, rfl, d, b, k, ks, rfl, rfl, rfl, hdd, hk, tp', hk7, by omega, ?_⟩
      have grw : Grow K H' (upd H' d (ND P w d (putN ks k b))) := nd_grow hdd
      refine ⟨_, putN ks k b, rfl, same_put gg hd, upd_same, (hk.put tp' hk7).grow grw, fun m => ?_, ?_⟩
      · have et : ns.take (i + 1) = ns.take i ++ [k] := by rw [List.take_add_one, hb]; rfl
        rw [mem_putN, hm, et, List.mem_append, List.mem_singleton]
      · have := putN_len ks k b
        omega
  · rintro σ H' ⟨v, ks, rfl, gg, hdd, hk, hm, hl⟩
    have hlen := hz a xs rfl (.inl (sqT_same (same_new hd _) hs))
    refine ⟨_, rfl, d, ks, rfl, rfl, hdd, hk, by omega, fun H2 p qs g2 np pm sr => ⟨p, _, rfl, .inl ⟨SqL.of upd_same, fun l hl2 => q _ _ (gg.trans (g2.trans ((same_new np _).trans (same_new hl2 _)))) ?_⟩⟩⟩
    have eb : qs.map (·.1) = bits (mk ns) := bits_of (List.pairwise_map.mpr sr) fun k => by
      rw [testBit_mk, (pm.map (·.1)).mem_iff, hm, hln, List.take_length]
    have gr : Grow K H' (upd (upd H2 p (.lst (qs.map fun q => V.ref q.2))) l (.tup (qs.map fun q => V.ref q.2))) := (Grow.of g2).trans ((Grow.new np).trans (Grow.new hl2))
    refine Na.of (SqT.of upd_same) ?_
    rw [← eb]
    have e1 : (qs.map fun q => V.ref q.2) = (qs.map fun q => (q.1, V.ref q.2)).map (·.2) := by rw [List.map_map]; rfl
    have e2 : qs.map (·.1) = (qs.map fun q => (q.1, V.ref q.2)).map (·.1) := by rw [List.map_map]; rfl
    rw [e2]
    show TpAll K _ (qs.map fun q => V.ref q.2) _
    generalize upd (upd H2 p (.lst (qs.map fun q => V.ref q.2))) l (.tup (qs.map fun q => V.ref q.2)) = Hf at gr ⊢
    rw [e1]
    refine TpAll.of (f := dat) fun pr hpr => ?_
    obtain ⟨x, hxm, rfl⟩ := List.mem_map.mp hpr
    exact (hk.1 x (pm.mem_iff.mp hxm)).1.grow gr
/-- greater(one, other): at most d - 1 levels deep -/
def spGr (K : PySem.W.Frag) (d : Nat) : Sp := fun vs H Q _ => ∃ x y a b, vs = [x, y] ∧ Na K H x a ∧ Na K H y b ∧ dep a < d ∧ dep b < d ∧ d ≤ 60 ∧ ∀ H', Same H H' → Q (.bl (decide (b < a))) H'
/-- greatest(some): one of them, none is greater -/
def spGt (K : PySem.W.Frag) (d : Nat) : Sp := fun vs H Q _ => ∃ l xs ns, vs = [.ref l] ∧ SqL K H l xs ∧ NaAll K H xs ns ∧ ns ≠ [] ∧ (∀ k ∈ ns, dep k < d) ∧ d ≤ 60 ∧ ∀ x m H', Same H H' → Na K H' x m → m ∈ ns → (∀ k ∈ ns, k ≤ m) → Q x H'
theorem sc_law_greatest : FnScope ["_law_some_here", "_law_found", "_law_one"] ["_law_some_here"] (defScope s_law_greatest) := ⟨rfl, rfl, rfl, by decide +kernel, rfl, by decide +kernel, by decide +kernel⟩
theorem sc_law_greater : FnScope ["_law_one", "_law_other", "_law_mine", "_law_yours", "_law_member"] ["_law_one", "_law_other"] (defScope s_law_greater) := ⟨rfl, rfl, rfl, by decide +kernel, rfl, by decide +kernel, by decide +kernel⟩
theorem greatest_step {d : Nat} {f g : Addr} {fd gd : FuncData} (F : Df K mg "_law_greatest" s_law_greatest ["_law_some_here"] f fd) (R : Df K mg "_law_greater" s_law_greater ["_law_one", "_law_other"] g gd) (G : FnOk P w K mg base CX0 (2 * d) g gd ["_law_one", "_law_other"] (spGr K d)) :
    FnOk P w K mg base CX0 (2 * d + 1) f fd ["_law_some_here"] (spGt K d) := by
  refine F.fn.ok sc_law_greatest (fun vs H Q E h => ?_) (fun cdv A outer s H vs Q E hr h => ?_)
  · obtain ⟨l, xs, ns, rfl, _⟩ := h
    rfl
  obtain ⟨l, xs, ns, rfl, hs, hx, hne, hd, h60, q⟩ := h
  refine ⟨_, pss_cons (ps_set (i := 1) sc_law_greatest.nd rfl (Or.inl rfl) (pe_ix ix_list (pv 0) pe_int (fun _ _ => rfl)))
    (pss_cons (ps_for PassesOwn.never rfl (pi_list (pv 0)) (pg_name (i := 2) sc_law_greatest.nd rfl (Or.inl rfl))
      (pss_one (ps_if (pt_val (pe_call G hr rfl R.nm R.fn.kp R.bd .nil pass0 (pa_cons (pv 2) (pa_cons (pv 1) pa_nil)))) (pss_one (ps_set (i := 1) sc_law_greatest.nd rfl (Or.inl rfl) (pv 2))) pss_nil)))
    (pss_one (ps_ret (pv 1)))), ?_⟩
  obtain ⟨m0, ms, rfl⟩ : ∃ m ms, ns = m :: ms := by
    cases ns with
    | nil => exact absurd rfl hne
    | cons m ms => exact ⟨m, ms, rfl⟩
  obtain ⟨x0, hx0, hn0⟩ := hx.get' (j := 0) (d := dat m0) rfl
  refine ⟨_, rfl, l, xs, 0, x0, rfl, rfl, hs, atI_nat hx0, ?_⟩
  refine ⟨_, rfl, l, rfl, ⟨xs, hs⟩, for_list (K := K) (a := l) (xs := xs) (fun i σ H' => ∃ y v m, σ = [some (.ref l), some y, v] ∧ Same H H' ∧ Na K H' y m ∧ m ∈ m0 :: ms ∧ ∀ k ∈ (m0 :: ms).take i, k ≤ m)
    ⟨x0, none, m0, rfl, Same.refl H, hn0, List.mem_cons_self, fun k hk => (by rw [List.take_zero] at hk; cases hk)⟩ (fun i σ H' _ p => by obtain ⟨_, _, _, _, g, _⟩ := p; exact g.seq hs) ?_ ?_⟩
  · rintro i x σ H' hi ⟨y, v, m, rfl, gg, hy, hm, hmx⟩
    obtain ⟨dd, hdt, tp⟩ := hx.get hi
    rw [List.getElem?_map] at hdt
    cases hb : (m0 :: ms)[i]? with
    | none => rw [hb] at hdt; cases hdt
    | some k =>
      rw [hb] at hdt
      cases hdt
      have hkm : k ∈ m0 :: ms := List.mem_of_getElem? hb
      have et : (m0 :: ms).take (i + 1) = (m0 :: ms).take i ++ [k] := by rw [List.take_add_one, hb]; rfl
      refine ⟨_, rfl, _, rfl, x, y, k, m, rfl, tp.grow (Grow.of gg), hy, hd k hkm, hd m hm, h60, fun H2 g2 => ⟨_, rfl, ?_⟩⟩
      refine ite_bl (fun c => ?_) (fun c => ?_)
      · have c' : m < k := of_decide_eq_true c
        refine ⟨_, rfl, x, _, k, rfl, gg.trans g2, (tp.grow (Grow.of gg)).grow (Grow.of g2), hkm, fun j hj => ?_⟩
        rw [et] at hj
        rcases List.mem_append.mp hj with hj | hj
        · exact Nat.le_trans (hmx j hj) (Nat.le_of_lt c')
        · rw [List.mem_singleton.mp hj]; exact Nat.le_refl _
      · have c' : ¬ m < k := of_decide_eq_false c
        refine ⟨y, _, m, rfl, gg.trans g2, hy.grow (Grow.of g2), hm, fun j hj => ?_⟩
        rw [et] at hj
        rcases List.mem_append.mp hj with hj | hj
        · exact hmx j hj
        · rw [List.mem_singleton.mp hj]; omega
  · rintro σ H' ⟨y, v, m, rfl, gg, hy, hm, hmx⟩
    have hl : xs.length = (m0 :: ms).length := by
      have := hx.len
      rw [List.length_map] at this
      exact this
    rw [hl, List.take_length] at hmx
    exact ⟨y, rfl, q y m H' gg hy hm hmx⟩
theorem greater_step {d : Nat} {f g : Addr} {fd gd : FuncData} (F : Df K mg "_law_greater" s_law_greater ["_law_one", "_law_other"] f fd) (T : Df K mg "_law_greatest" s_law_greatest ["_law_some_here"] g gd)
    (GF : FnOk P w K mg base CX0 (2 * d) f fd ["_law_one", "_law_other"] (spGr K d)) (GT : FnOk P w K mg base CX0 (2 * d + 1) g gd ["_law_some_here"] (spGt K d)) (zl : mg "len" = none) :
    FnOk P w K mg base CX0 (2 * d + 1 + 1) f fd ["_law_one", "_law_other"] (spGr K (d + 1)) := by
  refine F.fn.ok sc_law_greater (fun vs H Q E h => ?_) (fun cdv A outer s H vs Q E hr h => ?_)
  · obtain ⟨x, y, a, b, rfl, _⟩ := h
    rfl
  obtain ⟨x, y, na, nb, rfl, hx, hy, da, db, d60, q⟩ := h
  obtain ⟨a, xs, rfl, sx, mx⟩ := hx.tup
  obtain ⟨b, ys, rfl, sy, my⟩ := hy.tup
  have dA : ∀ k ∈ bits na, dep k < d := fun k hk => by have := dep_mem hk; omega
  have dB : ∀ k ∈ bits nb, dep k < d := fun k hk => by have := dep_mem hk; omega
  refine ⟨_, pss_cons (ps_setLc (i := 2) (own := [("_law_member", 4)]) (g := gName 4) rfl sc_law_greater.nd rfl rfl (sw_true rfl rfl rfl (by decide +kernel)) (pi_tup (pe_z (pv 0))) (blkOk_by (N := ["_law_one", "_law_other", "_law_mine", "_law_yours", "_law_member"]) (sc := defScope s_law_greater) (by decide +kernel))
      (fun _ _ _ _ _ => pg_name (i := 4) sc_law_greater.nd rfl (Or.inl rfl)) (fun _ _ _ _ _ => pts_one (pt_cmpR (onotin (K := K) hr) (pv 4) (pv 1) (by rfl))) (fun _ _ _ _ _ => pv 4))
    (pss_cons (ps_setLc (i := 3) (own := [("_law_member", 4)]) (g := gName 4) rfl sc_law_greater.nd rfl rfl (sw_true rfl rfl rfl (by decide +kernel)) (pi_tup (pe_z (pv 1))) (blkOk_by (N := ["_law_one", "_law_other", "_law_mine", "_law_yours", "_law_member"]) (sc := defScope s_law_greater) (by decide +kernel))
      (fun _ _ _ _ _ => pg_name (i := 4) sc_law_greater.nd rfl (Or.inl rfl)) (fun _ _ _ _ _ => pts_one (pt_cmpR (onotin (K := K) hr) (pv 4) (pv 0) (by rfl))) (fun _ _ _ _ _ => pv 4))
    (pss_cons (ps_if (PW.pt (pw_or (pt_not (pt_truth (pv 2) (by intro _; rfl))) (pw_or1 (pt_not (pt_truth (pv 3) (by intro _; rfl)))))) (pss_one (ps_ret (pe_cmpR op_gt (pe_callB call_len_seq rfl zl PySem.boot_len (pa_cons (pv 2) pa_nil)) pe_int (nomark _)))) pss_nil)
    (pss_one (ps_ret (pe_call GF (hr.mono (by omega)) rfl F.nm F.fn.kp F.bd .nil pass0 (pa_cons (pe_call GT hr rfl T.nm T.fn.kp T.bd .nil pass0 (pa_cons (pv 2) pa_nil)) (pa_cons (pe_call GT hr rfl T.nm T.fn.kp T.bd .nil pass0 (pa_cons (pv 3) pa_nil)) pa_nil))))))), ?_⟩
  refine ⟨_, rfl, fun hz => ⟨a, rfl, ⟨xs, sx⟩, fun D1 n1 => lcf_tup (ns := bits na) (fun k => !decide (k ∈ bits nb)) sx mx (hz a xs rfl (.inl sx)) n1 (fun x k H' C N tp hk gg c1 c2 => ?_) (fun H1 acc1 g1 e1 t1 l1 => ?_)⟩⟩
  · refine ⟨rfl, x, rfl, _, rfl, in_turn (.inr sy) my (fun m hm => by have := dB m hm; omega) tp (by have := dA k hk; omega) gg ⟨_, rfl, ?_⟩⟩
    exact ite_bl (fun c => ⟨x, rfl, c1 c _ (Same.refl _)⟩) (fun c => c2 c _ (Same.refl _))
  refine ⟨_, rfl, fun hz2 => ⟨b, rfl, ⟨ys, sqT_same g1 sy⟩, fun D2 n2 => lcf_tup (ns := bits nb) (fun k => !decide (k ∈ bits na)) (sqT_same g1 sy) (my.grow (Grow.of g1)) (hz2 b ys rfl (.inl (sqT_same g1 sy))) n2 (fun x k H' C N tp hk gg c1 c2 => ?_) (fun H2 acc2 g2 e2 t2 l2 => ?_)⟩⟩
  · refine ⟨rfl, x, rfl, _, rfl, in_turn (.inr (sqT_same g1 sx)) (mx.grow (Grow.of g1)) (fun m hm => by have := dA m hm; omega) tp (by have := dB k hk; omega) gg ⟨_, rfl, ?_⟩⟩
    exact ite_bl (fun c => ⟨x, rfl, c1 c _ (Same.refl _)⟩) (fun c => c2 c _ (Same.refl _))
  have e1' : H2 D1 = some (.lst acc1) := g2 _ _ e1
  have t1' : NaAll K H2 acc1 ((bits na).filter fun k => !decide (k ∈ bits nb)) := t1.grow (Grow.of g2)
  have ln1 : acc1.length = ((bits na).filter fun k => !decide (k ∈ bits nb)).length := by have := t1.len; rw [List.length_map] at this; exact this
  have ln2 : acc2.length = ((bits nb).filter fun k => !decide (k ∈ bits na)).length := by have := t2.len; rw [List.length_map] at this; exact this
  have mm : ∀ k, k ∈ ((bits na).filter fun k => !decide (k ∈ bits nb)) ↔ k ∈ bits na ∧ k ∉ bits nb := fun k => by simp
  have my' : ∀ k, k ∈ ((bits nb).filter fun k => !decide (k ∈ bits na)) ↔ k ∈ bits nb ∧ k ∉ bits na := fun k => by simp
  have stop : ∀ (R : Prop), ((bits na).filter (fun k => !decide (k ∈ bits nb)) = [] ∨ (bits nb).filter (fun k => !decide (k ∈ bits na)) = []) → decide ((0 : Int) < (acc1.length : Int)) = decide (nb < na) := fun _ h => by
    rcases h with h | h
    · have z : ¬ nb < na := gt_no_mine fun k hk => by
        refine Classical.byContradiction fun z => ?_
        have q := (mm k).mpr ⟨hk, z⟩
        rw [h] at q
        cases q
      rw [ln1, h]
      simp [z]
    · by_cases e : (bits na).filter (fun k => !decide (k ∈ bits nb)) = []
      · have z : ¬ nb < na := gt_no_mine fun k hk => by
          refine Classical.byContradiction fun z => ?_
          have q := (mm k).mpr ⟨hk, z⟩
          rw [e] at q
          cases q
        rw [ln1, e]
        simp [z]
      · obtain ⟨k, hk⟩ := List.exists_mem_of_ne_nil _ e
        have z : nb < na := gt_no_yours (fun k hk => by
          refine Classical.byContradiction fun z => ?_
          have q := (my' k).mpr ⟨hk, z⟩
          rw [h] at q
          cases q) ⟨k, (mm k).mp hk⟩
        have lp : 0 < ((bits na).filter fun k => !decide (k ∈ bits nb)).length := List.length_pos_of_mem hk
        rw [ln1]
        simp only [z, decide_true]
        exact decide_eq_true (by omega)
  have final : ∀ {b : Bool} {H' : Hp}, Same H H' → b = decide (nb < na) → Q (.bl b) H' := fun g e => by rw [e]; exact q _ g
  have G2 : Same H H2 := g1.trans g2
  refine ⟨_, rfl, !acc1.isEmpty, .inl ⟨acc1, SqL.of e1', rfl⟩, ?_⟩
  refine ite_bl (fun c => ?_) (fun c => ?_)
  · refine ⟨_, rfl, D1, acc1, rfl, .inl (SqL.of e1'), _, _, rfl, rfl, final G2 (stop True (.inl ?_))⟩
    have hz : acc1 = [] := by simpa using c
    exact List.eq_nil_of_length_eq_zero (by rw [← ln1, hz]; rfl)
  · have ne1 : acc1 ≠ [] := by simpa using c
    refine ⟨_, rfl, !acc2.isEmpty, .inl ⟨acc2, SqL.of e2, rfl⟩, ?_⟩
    refine ite_bl (fun c => ?_) (fun c => ?_)
    · refine ⟨_, rfl, D1, acc1, rfl, .inl (SqL.of e1'), _, _, rfl, rfl, final G2 (stop True (.inr ?_))⟩
      have hz : acc2 = [] := by simpa using c
      exact List.eq_nil_of_length_eq_zero (by rw [← ln2, hz]; rfl)
    · have ne2 : acc2 ≠ [] := by simpa using c
      have n1' : (bits na).filter (fun k => !decide (k ∈ bits nb)) ≠ [] := fun z => ne1 (List.eq_nil_of_length_eq_zero (by rw [ln1, z]; rfl))
      have n2' : (bits nb).filter (fun k => !decide (k ∈ bits na)) ≠ [] := fun z => ne2 (List.eq_nil_of_length_eq_zero (by rw [ln2, z]; rfl))
      refine ⟨_, rfl, D1, acc1, _, rfl, SqL.of e1', t1', n1', fun k hk => dA k ((mm k).mp hk).1, by omega, fun x m H3 g3 hx3 hm3 mx3 => ?_⟩
      refine ⟨_, rfl, D2, acc2, _, rfl, SqL.of (g3 _ _ e2), t2.grow (Grow.of g3), n2', fun k hk => dB k ((my' k).mp hk).1, by omega, fun y m' H4 g4 hy4 hm4 mx4 => ?_⟩
      refine ⟨x, y, m, m', rfl, hx3.grow (Grow.of g4), hy4, dA m ((mm m).mp hm3).1, dB m' ((my' m').mp hm4).1, by omega, fun H5 g5 => final (G2.trans (g3.trans (g4.trans g5))) ?_⟩
      exact (gt_of_top ((mm m).mp hm3) ((my' m').mp hm4) (fun k h1 h2 => mx3 k ((mm k).mpr ⟨h1, h2⟩)) (fun k h1 h2 => mx4 k ((my' k).mpr ⟨h1, h2⟩))).symm
theorem greater_ok {f g : Addr} {fd gd : FuncData} (F : Df K mg "_law_greater" s_law_greater ["_law_one", "_law_other"] f fd) (T : Df K mg "_law_greatest" s_law_greatest ["_law_some_here"] g gd) (zl : mg "len" = none) :
    ∀ d : Nat, FnOk P w K mg base CX0 (2 * d) f fd ["_law_one", "_law_other"] (spGr K d)
  | 0 => no_calls (fun vs H Q E h => by obtain ⟨_, _, _, _, _, _, _, d, _⟩ := h; omega) 0
  | d + 1 => greater_step F T (greater_ok F T zl d) (greatest_step T F (greater_ok F T zl d)) zl
/-- the law's own nest(some): a list or a tuple of nests at most d - 1 levels deep -/
def spLn (K : PySem.W.Frag) (d : Nat) : Sp := fun vs H Q _ => ∃ a xs ns, vs = [.ref a] ∧ Sq K H a xs ∧ NaAll K H xs ns ∧ (∀ k ∈ ns, dep k < d) ∧ d ≤ 60 ∧ ∀ r H', Same H H' → Na K H' r (mk ns) → Q r H'
theorem sc_law_nest : FnScope ["_law_some_here", "_law_found", "_law_one", "_law_at", "_law_other"] ["_law_some_here"] (defScope s_law_nest) := ⟨rfl, rfl, rfl, by decide +kernel, rfl, by decide +kernel, by decide +kernel⟩
theorem law_nest_ok {d : Nat} {f g : Addr} {fd gd : FuncData} (F : Df K mg "_law_nest" s_law_nest ["_law_some_here"] f fd) (R : Df K mg "_law_greater" s_law_greater ["_law_one", "_law_other"] g gd) (G : FnOk P w K mg base CX0 (2 * d) g gd ["_law_one", "_law_other"] (spGr K d))
    (zl : mg "len" = none) (zt : mg "tuple" = none) : FnOk P w K mg base CX0 (2 * d + 1) f fd ["_law_some_here"] (spLn K d) := by
  refine F.fn.ok sc_law_nest (fun vs H Q E h => ?_) (fun cdv A outer s H vs Q E hr h => ?_)
  · obtain ⟨l, xs, ns, rfl, _⟩ := h
    rfl
  obtain ⟨a, xs, ns, rfl, hs, hx, hd, h60, q⟩ := h
  refine ⟨_, pss_cons (ps_set (i := 1) sc_law_nest.nd rfl (Or.inl rfl) (pe_lst pa_nil))
    (pss_cons (ps_for PassesOwn.never rfl (pi_seq (pe_z (pv 0))) (pg_name (i := 2) sc_law_nest.nd rfl (Or.inr rfl))
      (pss_one (ps_if (pt_cmpR (onotin (K := K) hr) (pv 2) (pv 1) (by rfl))
        (pss_cons (ps_set (i := 3) sc_law_nest.nd rfl (Or.inl rfl) (pe_callB call_len_seq rfl zl PySem.boot_len (pa_cons (pe_lc (own := [("_law_other", 4)]) (g := gName 4) rfl sc_law_nest.nd (pi_list (pe_z (pv 1))) (blkOk_by (N := ["_law_some_here", "_law_found", "_law_one", "_law_at", "_law_other"]) (sc := defScope s_law_nest) (by decide +kernel))
            (fun _ _ _ _ _ => pg_name (i := 4) sc_law_nest.nd rfl (Or.inl rfl)) (fun _ _ _ _ _ => pts_one (pt_val (pe_call G hr rfl R.nm R.fn.kp R.bd .nil pass0 (pa_cons (pv 2) (pa_cons (pv 4) pa_nil))))) (fun _ _ _ _ _ => pv 4)) pa_nil)))
        (pss_one (ps_expr (pe_bm PySem.F.plainAttrs_list PySem.F.slot_list_insert PySem.F.type_list_insert mt_insert (pv 1) (pa_cons (pv 3) (pa_cons (pv 2) pa_nil)))))) pss_nil)))
    (pss_one (ps_ret (pe_callTy call_tuple_of rfl zt PyProof.Rows.boot_tuple (pa_cons (pv 1) pa_nil))))), ?_⟩
  refine ⟨(by show 0 ≤ sizeLine; decide), fun F1 nF => ?_⟩
  have s0 : Same H (upd H F1 (.lst [])) := same_new nF _
  have dms : ∀ {ms : List Nat} {i : Nat}, (∀ k, k ∈ ms ↔ k ∈ ns.take i) → ∀ m ∈ ms, dep m < d := fun h m hm => hd m (List.mem_of_mem_take ((h m).mp hm))
  refine ⟨_, rfl, fun hz => ⟨a, xs, rfl, for_seq hs s0 (fun i σ H' => ∃ v1 v2 acc ms, σ = [some (.ref a), some (.ref F1), v1, v2, none] ∧ Same H H' ∧ H' F1 = some (.lst acc) ∧ NaAll K H' acc ms ∧ ms.Pairwise (· < ·) ∧ (∀ k, k ∈ ms ↔ k ∈ ns.take i) ∧ acc.length ≤ i)
    ⟨none, none, [], [], rfl, s0, upd_same, .nil, List.Pairwise.nil, fun k => by simp, Nat.zero_le _⟩ (fun i σ H' p => by obtain ⟨_, _, _, _, _, g, _⟩ := p; exact g) ?_ ?_⟩⟩
  · rintro i x σ H' hi ⟨v1, v2, acc, ms, rfl, gg, hF, hms, hasc, hmem, hl⟩
    obtain ⟨dd, hdt, tp⟩ := hx.get hi
    rw [List.getElem?_map] at hdt
    cases hb : ns[i]? with
    | none => rw [hb] at hdt; cases hdt
    | some m =>
      rw [hb] at hdt
      cases hdt
      have et : ns.take (i + 1) = ns.take i ++ [m] := by rw [List.take_add_one, hb]; rfl
      have dm := hd m (List.mem_of_getElem? hb)
      have tp' : Na K H' x m := tp.grow (Grow.of gg)
      have hxl := hz a xs rfl ((hs.same s0).symm)
      have hil : i < xs.length := (List.getElem?_eq_some_iff.mp hi).1
      refine ⟨_, rfl, _, rfl, in_turn (neg := true) (.inl (SqL.of hF)) hms (fun k hk => by have := dms hmem k hk; omega) tp' (by omega) (Same.refl _) ⟨_, rfl, ?_⟩⟩
      refine ite_bl (fun c => ?_) (fun c => ?_)
      · have nm : m ∉ ms := by simpa using c
        refine ⟨_, rfl, fun hz2 => ⟨F1, rfl, ⟨acc, SqL.of hF⟩, fun D1 n1 => lcf_list (ns := ms) (fun k => decide (k < m)) (SqL.of hF) hms (by omega) n1 (fun y k H2 C N tk hk g2 c1 c2 => ?_) (fun H2 ac2 g2 e2 t2 l2 => ?_)⟩⟩
        · refine ⟨rfl, _, rfl, _, rfl, x, y, m, k, rfl, tp'.grow (Grow.of g2), tk, dm, dms hmem k hk, h60, fun H3 g3 => ⟨_, rfl, ?_⟩⟩
          exact ite_bl (fun c => ⟨y, rfl, c1 c _ g3⟩) (fun c => c2 c _ g3)
        · have ll : ac2.length = (ms.filter fun k => decide (k < m)).length := by have := t2.len; rw [List.length_map] at this; exact this
          have hF2 : H2 F1 = some (.lst acc) := g2 _ _ hF
          have line : (sizeLine : Nat) < 2 ^ 63 := line63
          refine ⟨D1, ac2, rfl, .inl (SqL.of e2), _, rfl, .inl ⟨rfl, acc, SqL.of hF2⟩, _, rfl, _, rfl, F1, acc, _, x, rfl, rfl, hF2, by omega, by omega, by omega, ?_⟩
          have hms2 : NaAll K H2 acc ms := hms.grow (Grow.of g2)
          have tk2 : Na K H2 x m := tp'.grow (Grow.of g2)
          have e0 : ((ac2.length : Int)).toNat = (ms.filter fun k => decide (k < m)).length := by omega
          have lam : acc.length = ms.length := by have := hms.len; rw [List.length_map] at this; exact this
          refine ⟨_, _, _, insN ms m, rfl, same_put (gg.trans g2) nF, upd_same, ?_, insN_asc hasc nm, fun k => ?_, ?_⟩
          · rw [e0]
            have cut : ∀ (n : Nat) (vs : List V) (ls : List Nat), NaAll K H2 vs ls → NaAll K H2 (vs.take n) (ls.take n) ∧ NaAll K H2 (vs.drop n) (ls.drop n) := by
              intro n
              induction n with
              | zero => intro vs ls h; exact ⟨.nil, h⟩
              | succ n ih =>
                intro vs ls h
                cases vs with
                | nil => cases ls with
                  | nil => exact ⟨.nil, .nil⟩
                  | cons _ _ => cases h
                | cons v vs => cases ls with
                  | nil => cases h
                  | cons l ls =>
                    cases h with
                    | cons h1 h2 => exact ⟨.cons h1 (ih vs ls h2).1, (ih vs ls h2).2⟩
            obtain ⟨c1, c2⟩ := cut (ms.filter fun k => decide (k < m)).length acc ms hms2
            have whole : NaAll K H2 (acc.take (ms.filter fun k => decide (k < m)).length ++ [x] ++ acc.drop (ms.filter fun k => decide (k < m)).length) (insN ms m) := by
              unfold insN
              show TpAll K H2 _ (List.map dat _)
              rw [List.map_append, List.map_cons, List.append_assoc]
              exact c1.app (.cons tk2 c2)
            exact whole.grow (Grow.lst hF2)
          · rw [mem_insN hasc, hmem, et, List.mem_append, List.mem_singleton]
          · simp only [List.length_append, List.length_take, List.length_drop, List.length_singleton]
            omega
      · have nm : m ∈ ms := by simpa using c
        refine ⟨_, _, acc, ms, rfl, gg, hF, hms, hasc, fun k => ?_, by omega⟩
        rw [et, List.mem_append, List.mem_singleton, hmem]
        exact ⟨.inl, fun z => z.elim id fun z => z ▸ (hmem m).mp nm⟩
  · rintro σ H' ⟨v1, v2, acc, ms, rfl, gg, hF, hms, hasc, hmem, hl⟩
    have hln : xs.length = ns.length := by
      have := hx.len
      rw [List.length_map] at this
      exact this
    refine ⟨_, rfl, F1, acc, rfl, .inl ⟨SqL.of hF, fun l hl2 => q _ _ (gg.trans (same_new hl2 _)) ?_⟩⟩
    have eb : ms = bits (mk ns) := bits_of hasc fun k => by rw [testBit_mk, hmem, hln, List.take_length]
    rw [eb] at hms
    exact Na.of (SqT.of upd_same) (hms.grow (Grow.new hl2))
/-- mix(cell, prime, many) -/
def spMix : Sp := fun vs H Q _ => ∃ c p m : Int, vs = [.int c, .int p, .int m] ∧ 0 < p ∧ 0 < m ∧ Q (.int (c * 48271 % p % m)) H
theorem sc_law_mix : FnScope ["_law_cell_here", "_law_prime", "_law_many"] ["_law_cell_here", "_law_prime", "_law_many"] (defScope s_law_mix) := ⟨rfl, rfl, rfl, by decide +kernel, rfl, by decide +kernel, by decide +kernel⟩
theorem law_mix_ok {f : Addr} {fd : FuncData} (F : Df K mg "_law_mix" s_law_mix ["_law_cell_here", "_law_prime", "_law_many"] f fd) : FnOk P w K mg base CX0 1 f fd ["_law_cell_here", "_law_prime", "_law_many"] spMix := by
  refine F.fn.ok sc_law_mix (fun vs H Q E h => ?_) (fun cdv A outer s H vs Q E hr h => ?_)
  · obtain ⟨c, p, m, rfl, _⟩ := h
    rfl
  obtain ⟨c, p, m, rfl, hp, hm, q⟩ := h
  refine ⟨_, pss_one (ps_ret (pe_op op_mod (pe_op op_mod (pe_op op_mul (pv 0) pe_int) (pv 1)) (pv 2))), ?_⟩
  exact ⟨_, rfl, _, _, rfl, rfl, .inr ⟨by decide, by decide⟩, _, rfl, _, _, rfl, rfl, hp, _, rfl, _, _, rfl, rfl, hm, q⟩
/-- drawn(cell, deep): some nest of at most so many levels -/
def spDr (K : PySem.W.Frag) (d : Nat) : Sp := fun vs H Q _ => ∃ (c : Int) (m : Nat), vs = [.int c, .int (m : Int)] ∧ m < d ∧ ∀ r n H', Same H H' → Na K H' r n → dep n ≤ m → Thin 3 n → Q r H'
theorem sc_law_drawn : FnScope ["_law_cell_here", "_law_deep", "_law_found", "_law_k", "_law_less"] ["_law_cell_here", "_law_deep"] (defScope s_law_drawn) := ⟨rfl, rfl, rfl, by decide +kernel, rfl, by decide +kernel, by decide +kernel⟩
theorem drawn_step {d : Nat} {f fm fn : Addr} {fd md nd : FuncData} (F : Df K mg "_law_drawn" s_law_drawn ["_law_cell_here", "_law_deep"] f fd) (G : FnOk P w K mg base CX0 (100 + d) f fd ["_law_cell_here", "_law_deep"] (spDr K d))
    (M : Df K mg "_law_mix" s_law_mix ["_law_cell_here", "_law_prime", "_law_many"] fm md) (GM : FnOk P w K mg base CX0 1 fm md ["_law_cell_here", "_law_prime", "_law_many"] spMix)
    (N : Df K mg "_law_nest" s_law_nest ["_law_some_here"] fn nd) (GN : FnOk P w K mg base CX0 100 fn nd ["_law_some_here"] (spLn K 40)) (hd40 : d < 40) (zg : mg "range" = none) (zi : mg "int" = none) :
    FnOk P w K mg base CX0 (100 + d + 1) f fd ["_law_cell_here", "_law_deep"] (spDr K (d + 1)) := by
  refine F.fn.ok sc_law_drawn (fun vs H Q E h => ?_) (fun cdv A outer s H vs Q E hr h => ?_)
  · obtain ⟨c, m, rfl, _⟩ := h
    rfl
  obtain ⟨c, m, rfl, hm, q⟩ := h
  refine ⟨_, pss_cons (ps_set (i := 2) sc_law_drawn.nd rfl (Or.inl rfl) (pe_lst pa_nil))
    (pss_cons (ps_if (pt_cmpR op_gt (pv 1) pe_int (nomark _))
      (pss_one (ps_for PassesOwn.never rfl (pi_range1 rfl zg (pa_cons (pe_call GM (hr.mono (by omega)) rfl M.nm M.fn.kp M.bd .nil pass0 (pa_cons (pv 0) (pa_cons pe_int (pa_cons pe_int pa_nil)))) pa_nil)) (pg_name (i := 3) sc_law_drawn.nd rfl (Or.inl rfl))
        (pss_cons (ps_set (i := 4) sc_law_drawn.nd rfl (Or.inl rfl) (pe_op op_add pe_int (pe_op op_mul (pe_call GM (hr.mono (by omega)) rfl M.nm M.fn.kp M.bd .nil pass0 (pa_cons (pe_op op_add (pv 0) (pv 3)) (pa_cons pe_int (pa_cons pe_int pa_nil))))
            (pe_callTy call_int1 rfl zi PyProof.Rows.boot_int (pa_cons (pe_cmpR op_gt (pv 1) pe_int (nomark _)) pa_nil)))))
        (pss_one (ps_expr (pe_bm PySem.F.plainAttrs_list PySem.F.slot_list_append PySem.F.type_list_append mt_append (pv 2) (pa_cons (pe_call G hr rfl F.nm F.fn.kp F.bd .nil pass0
            (pa_cons (pe_op op_add (pe_op op_add (pe_op op_mul (pv 0) pe_int) (pe_op op_mul pe_int (pv 3))) pe_int) (pa_cons (pe_op op_sub (pv 1) (pv 4)) pa_nil))) pa_nil))))))) pss_nil)
    (pss_one (ps_ret (pe_call GN (hr.mono (by omega)) rfl N.nm N.fn.kp N.bd .nil pass0 (pa_cons (pv 2) pa_nil))))), ?_⟩
  refine ⟨(by show 0 ≤ sizeLine; decide), fun L nL => ?_⟩
  have s0 : Same H (upd H L (.lst [])) := same_new nL _
  have last : ∀ (H' : Hp) (acc : List V) (ms : List Nat), Same H H' → H' L = some (.lst acc) → NaAll K H' acc ms → (∀ k ∈ ms, dep k + 1 ≤ m ∧ Thin 3 k) → ms.length ≤ 3 → spLn K 40 [.ref L] H' Q E0 := fun H' acc ms gg hL hms hdm hl3 =>
    ⟨L, acc, ms, rfl, .inl (SqL.of hL), hms, fun k hk => by have := (hdm k hk).1; omega, by decide, fun r H2 g2 hn => q r _ H2 (gg.trans g2) hn (dep_mk fun k hk => (hdm k hk).1) (thin_mk hl3 fun k hk => (hdm k hk).2)⟩
  refine ⟨_, rfl, _, _, rfl, rfl, _, rfl, ?_⟩
  refine ite_bl (fun c0 => ?_) (fun c0 => ?_)
  · have c0' : (0 : Int) < (m : Int) := of_decide_eq_true c0
    have mb : ∀ c : Int, 0 ≤ c * 48271 % 9973 % 4 ∧ c * 48271 % 9973 % 4 < 4 := fun c => ⟨Int.emod_nonneg _ (by decide), Int.emod_lt_of_pos _ (by decide)⟩
    refine ⟨_, rfl, c, 9973, 4, rfl, by decide, by decide, _, rfl, by have := mb c; omega, by have := mb c; omega, for_range (n := (c * 48271 % 9973 % 4).toNat) (lo := 0) (fun i σ H' => ∃ v1 v2 acc ms, σ = [some (.int c), some (.int m), some (.ref L), v1, v2] ∧ Same H H' ∧ H' L = some (.lst acc) ∧ NaAll K H' acc ms ∧ (∀ k ∈ ms, dep k + 1 ≤ m ∧ Thin 3 k) ∧ ms.length = i ∧ acc.length = i)
      ⟨none, none, [], [], rfl, s0, upd_same, .nil, fun k hk => (by cases hk), rfl, rfl⟩ ?_ ?_⟩
    · rintro i σ H' hi ⟨v1, v2, acc, ms, rfl, gg, hL, hms, hdm, hl1, hl2⟩
      have hi3 : i < 3 + 1 := by have := mb c; omega
      refine ⟨_, rfl, _, rfl, _, _, rfl, rfl, c + (0 + (i : Int)), 9967, 2, rfl, by decide, by decide, ?_⟩
      generalize hx : (c + (0 + (i : Int))) * 48271 % 9967 % 2 = x
      have hx2 : 0 ≤ x ∧ x < 2 := by rw [← hx]; exact ⟨Int.emod_nonneg _ (by decide), Int.emod_lt_of_pos _ (by decide)⟩
      refine ⟨_, rfl, _, _, rfl, rfl, .inr ⟨_, rfl, x, _, rfl, rfl, .inl ⟨by omega, by omega⟩, _, _, rfl, rfl, ?_⟩⟩
      -- less: 1 or 2, at most deep
      obtain ⟨l, hl, l1, lm⟩ : ∃ l : Nat, (1 : Int) + x * (if decide ((1 : Int) < (m : Int)) = true then 1 else 0) = (l : Int) ∧ 1 ≤ l ∧ l ≤ m := by
        by_cases e : (1 : Int) < (m : Int)
        · have e' : decide ((1 : Int) < (m : Int)) = true := decide_eq_true e
          rw [if_pos e', Int.mul_one]
          exact ⟨(1 + x).toNat, by omega, by omega, by omega⟩
        · have e' : ¬ decide ((1 : Int) < (m : Int)) = true := by simp [e]
          rw [if_neg e', Int.mul_zero]
          exact ⟨1, by omega, by omega, by omega⟩
      refine gname_at (congrArg V.int hl) ?_
      refine ⟨_, rfl, .inl ⟨rfl, acc, SqL.of hL⟩, _, rfl, _, _, rfl, rfl, .inr ⟨by decide, by decide⟩, _, rfl, _, _, rfl, rfl, .inl ⟨by decide, by decide⟩, _, _, rfl, rfl, _, _, rfl, rfl, _, rfl, _, rfl, _, _, rfl, rfl, ?_⟩
      refine ⟨c * 3 + 7 * (0 + (i : Int)) + 1, m - l, ?_, by omega, fun r n H2 g2 hn dn ln => ?_⟩
      · have e : (m : Int) - (l : Int) = ((m - l : Nat) : Int) := by omega
        show [V.int (c * 3 + 7 * (0 + (i : Int)) + 1), V.int ((m : Int) - (l : Int))] = _
        rw [e]
      · have hL2 : H2 L = some (.lst acc) := g2 _ _ hL
        refine ⟨L, acc, r, rfl, rfl, hL2, smaller (by omega), ?_⟩
        refine ⟨_, _, acc ++ [r], ms ++ [n], rfl, same_put (gg.trans g2) nL, upd_same, ?_, fun k hk => ?_, by rw [List.length_append, hl1]; rfl, by rw [List.length_append, hl2]; rfl⟩
        · show TpAll K _ _ (List.map dat _)
          rw [List.map_append]
          exact ((hms.grow (Grow.of g2)).app (.cons hn .nil)).grow (Grow.lst hL2)
        · rcases List.mem_append.mp hk with hk | hk
          · exact hdm k hk
          · rw [List.mem_singleton.mp hk]
            exact ⟨by omega, ln⟩
    · rintro σ H' ⟨v1, v2, acc, ms, rfl, gg, hL, hms, hdm, hl1, hl2⟩
      exact ⟨_, rfl, last H' acc ms gg hL hms hdm (by have := mb c; omega)⟩
  · exact ⟨_, rfl, last _ [] [] s0 upd_same .nil (fun k hk => by cases hk) (by decide)⟩
theorem drawn_ok {f fm fn : Addr} {fd md nd : FuncData} (F : Df K mg "_law_drawn" s_law_drawn ["_law_cell_here", "_law_deep"] f fd)
    (M : Df K mg "_law_mix" s_law_mix ["_law_cell_here", "_law_prime", "_law_many"] fm md) (N : Df K mg "_law_nest" s_law_nest ["_law_some_here"] fn nd) (GN : FnOk P w K mg base CX0 100 fn nd ["_law_some_here"] (spLn K 40)) (zg : mg "range" = none) (zi : mg "int" = none) :
    ∀ d : Nat, d ≤ 40 → FnOk P w K mg base CX0 (100 + d) f fd ["_law_cell_here", "_law_deep"] (spDr K d)
  | 0, _ => no_calls (fun vs H Q E h => by obtain ⟨_, _, _, d, _⟩ := h; omega) _
  | d + 1, h => drawn_step F (drawn_ok F M N GN zg zi d (by omega)) M (law_mix_ok M) N GN (by omega) zg zi
/-- some(script, k, many): nests of at most four levels, and the empty one behind them -/
def spSome (K : PySem.W.Frag) : Sp := fun vs H Q _ => ∃ (a : Addr) (k m : Nat) (ns : List Int), vs = [.ref a, .int (k : Int), .int (m : Int)] ∧ SqL K H a (ns.map V.int) ∧ ns.length ≤ 63 ∧ m ≤ 100 ∧
  ∀ r H' xs ms, Same H H' → H' r = some (.lst xs) → NaAll K H' xs (ms ++ [0]) → (∀ n ∈ ms, dep n ≤ 4 ∧ (bits n).length ≤ 3) → ms.length ≤ m → (∀ n ∈ ms, Thin 3 n) → Q (.ref r) H'
theorem sc_law_some : FnScope ["_law_script", "_law_k", "_law_many", "_law_cell_here"] ["_law_script", "_law_k", "_law_many"] (defScope s_law_some) := ⟨rfl, rfl, rfl, by decide +kernel, rfl, by decide +kernel, by decide +kernel⟩
theorem law_some_ok {f g : Addr} {fd gd : FuncData} (F : Df K mg "_law_some" s_law_some ["_law_script", "_law_k", "_law_many"] f fd) (R : Df K mg "_law_drawn" s_law_drawn ["_law_cell_here", "_law_deep"] g gd) (G : FnOk P w K mg base CX0 105 g gd ["_law_cell_here", "_law_deep"] (spDr K 5)) :
    FnOk P w K mg base CX0 106 f fd ["_law_script", "_law_k", "_law_many"] (spSome K) := by
  refine F.fn.ok sc_law_some (fun vs H Q E h => ?_) (fun cdv A outer s H vs Q E hr h => ?_)
  · obtain ⟨c, k, m, ns, rfl, _⟩ := h
    rfl
  obtain ⟨a, k, m, ns, rfl, hS, h63, hm, q⟩ := h
  refine ⟨_, pss_one (ps_ret (pe_op op_cat (pe_lc (own := [("_law_cell_here", 3)]) (g := gName 3) (tt := tYes) rfl sc_law_some.nd (pi_list (pe_slice sl_list (pv 0) (po_some (pv 1)) (po_some (pe_op op_add (pv 1) (pv 2)))))
      (blkOk_by (N := ["_law_script", "_law_k", "_law_many", "_law_cell_here"]) (sc := defScope s_law_some) (by decide +kernel)) (fun _ _ _ _ _ => pg_name (i := 3) sc_law_some.nd rfl (Or.inl rfl)) (fun _ _ _ _ _ => pts_nil)
      (fun _ _ _ _ _ => pe_call G hr rfl R.nm R.fn.kp R.bd .nil pass0 (pa_cons (pv 3) (pa_cons (pe_op op_add pe_int (pe_op op_mod (pv 3) pe_int)) pa_nil))))
    (pe_lst (pa_cons (pe_tup pa_nil) pa_nil)))), ?_⟩
  refine ⟨_, rfl, _, rfl, _, rfl, _, rfl, _, rfl, _, _, rfl, rfl, _, rfl, a, _, rfl, hS, fun p np => ?_⟩
  have ej : (k : Int) + (m : Int) = ((k + m : Nat) : Int) := by omega
  have cut : ∃ cs : List Int, cutV (ns.map V.int) (some (k : Int)) (some ((k : Int) + (m : Int))) = cs.map V.int ∧ cs.length ≤ m := by
    rw [ej]
    unfold cutV
    rw [HT.sIx_nat, HT.sIx_nat]
    refine ⟨(ns.drop (min k (ns.map V.int).length)).take (min (k + m) (ns.map V.int).length - min k (ns.map V.int).length), by rw [List.map_take, List.map_drop], ?_⟩
    rw [List.length_take]
    omega
  obtain ⟨cs, ec, lc⟩ := cut
  rw [ec]
  have s0 : Same H (upd H p (.lst (cs.map V.int))) := same_new np _
  have hp : (upd H p (.lst (cs.map V.int))) p = some (.lst (cs.map V.int)) := upd_same
  generalize upd H p (.lst (cs.map V.int)) = H1 at s0 hp
  refine ⟨p, rfl, ⟨_, SqL.of hp⟩, fun D nD => lc_list (K := K) (a := p) (xs := cs.map V.int) (fun i H' => Same H1 H' ∧ ∃ acc ms, H' D = some (.lst acc) ∧ NaAll K H' acc ms ∧ (∀ n ∈ ms, dep n ≤ 4 ∧ Thin 3 n) ∧ ms.length = i ∧ acc.length = i)
    ⟨same_new nD _, [], [], upd_same, .nil, fun n hn => (by cases hn), rfl, rfl⟩ (fun i H' _ q => q.1.seq (SqL.of hp)) ?_ ?_⟩
  · rintro i x H' hi ⟨gg, acc, ms, hacc, hms, hd, l1, l2⟩
    have hil : i < cs.length := by
      have := (List.getElem?_eq_some_iff.mp hi).1
      rw [List.length_map] at this
      exact this
    obtain ⟨c, rfl⟩ : ∃ c, x = V.int c := by
      rw [List.getElem?_map, List.getElem?_eq_getElem hil] at hi
      exact ⟨_, (Option.some.inj hi).symm⟩
    have cm : 0 ≤ c % 4 ∧ c % 4 < 4 := ⟨Int.emod_nonneg _ (by decide), Int.emod_lt_of_pos _ (by decide)⟩
    have e1 : (1 : Int) + c % 4 = (((1 : Int) + c % 4).toNat : Int) := by omega
    refine ⟨rfl, ?_⟩
    refine ⟨_, rfl, _, rfl, _, _, rfl, rfl, (by show (0 : Int) < 4; decide), _, _, rfl, rfl, ?_⟩
    refine ⟨c, ((1 : Int) + c % 4).toNat, ?_, by omega, fun r n H2 g2 hn dn ln => ?_⟩
    · show [V.int c, V.int (1 + c % 4)] = _
      rw [← e1]
    · have h2 : H2 D = some (.lst acc) := g2 _ _ hacc
      refine ⟨acc, h2, smaller (by omega), same_put (gg.trans g2) nD, acc ++ [r], ms ++ [n], upd_same, ?_, fun k hk => ?_, by rw [List.length_append, l1]; rfl, by rw [List.length_append, l2]; rfl⟩
      · show TpAll K _ _ (List.map dat _)
        rw [List.map_append]
        exact ((hms.grow (Grow.of g2)).app (.cons hn .nil)).grow (Grow.lst h2)
      · rcases List.mem_append.mp hk with hk | hk
        · exact hd k hk
        · rw [List.mem_singleton.mp hk]
          exact ⟨by omega, ln⟩
  · rintro H' ⟨gg, acc, ms, hacc, hms, hd, l1, l2⟩
    rw [List.length_map] at l1 l2
    refine ⟨(by show 0 ≤ sizeLine; decide), fun z nz => ⟨(by show 1 ≤ sizeLine; decide), fun b nb => ?_⟩⟩
    have h2 : (upd H' z (.tup [])) D = some (.lst acc) := same_new nz _ _ _ hacc
    refine ⟨D, b, acc, _, rfl, rfl, same_new nb _ _ _ h2, upd_same, small (by simp only [List.length_singleton]; omega), fun r nr => ?_⟩
    have hz : (upd (upd (upd H' z (.tup [])) b (.lst [.ref z])) r (.lst (acc ++ [.ref z]))) z = some (.tup []) := same_new nr _ _ _ (same_new nb _ _ _ upd_same)
    have g3 : Same H' (upd (upd (upd H' z (.tup [])) b (.lst [.ref z])) r (.lst (acc ++ [.ref z]))) := (same_new nz _).trans ((same_new nb _).trans (same_new nr _))
    refine q r _ (acc ++ [.ref z]) ms (s0.trans (gg.trans g3)) upd_same ?_ (fun n hn => ⟨(hd n hn).1, (hd n hn).2.len⟩) (by omega) fun n hn => (hd n hn).2
    show TpAll K _ _ (List.map dat _)
    rw [List.map_append]
    exact (hms.grow (Grow.of g3)).app (.cons (Na.of (n := 0) (SqT.of hz) .nil) .nil)
section
variable {fs : Nat → Addr} {fds : Nat → FuncData} (T : Top K mg fs fds)
include T
theorem lawnest_ok : FnOk P w K mg base CX0 100 (fs 21) (fds 21) ["_law_some_here"] (spLn K 40) :=
  (law_nest_ok T.law_nest T.law_greater (greater_ok T.law_greater T.law_greatest T.z_len 40) T.z_len T.z_tuple).mono (show 2 * 40 + 1 ≤ 100 by decide)
theorem some_ok : FnOk P w K mg base CX0 106 (fs 23) (fds 23) ["_law_script", "_law_k", "_law_many"] (spSome K) :=
  law_some_ok T.law_some T.law_drawn (drawn_ok T.law_drawn T.law_mix T.law_nest (lawnest_ok T) T.z_range T.z_int 5 (by decide))
end
theorem nestT {fs : Nat → Addr} {fds : Nat → FuncData} (T : Top K mg fs fds) : FnOk P w K mg base CX0 11 (fs 10) (fds 10) ["some"] (spNest K) := nest_ok T.nest T.rank_row T.z_tuple T.z_reversed T.z_sorted
def spCell (K : PySem.W.Frag) : Sp := fun vs H Q _ => ∃ (a : Addr) (ns : List Int) (k : Nat), vs = [.ref a, .int (k : Int)] ∧ SqL K H a (ns.map V.int) ∧ ∀ c, Q (.int c) H
theorem sc_law_cell : FnScope ["_law_script", "_law_k"] ["_law_script", "_law_k"] (defScope s_law_cell) := ⟨rfl, rfl, rfl, by decide +kernel, rfl, by decide +kernel, by decide +kernel⟩
theorem cell_ok {fs : Nat → Addr} {fds : Nat → FuncData} (T : Top K mg fs fds) : FnOk P w K mg base CX0 1 (fs 17) (fds 17) ["_law_script", "_law_k"] (spCell K) := by
  refine T.law_cell.fn.ok sc_law_cell (fun vs H Q E h => ?_) (fun cdv A outer s H vs Q E hr h => ?_)
  · obtain ⟨a, ns, k, rfl, _⟩ := h
    rfl
  obtain ⟨a, ns, k, rfl, hs, q⟩ := h
  refine ⟨_, pss_cons (ps_if (pt_cmpR op_lt (pv 1) (pe_callB call_len_seq rfl T.z_len PySem.boot_len (pa_cons (pv 0) pa_nil)) (nomark _)) (pss_one (ps_ret (pe_ix ix_list (pv 0) (pv 1) (fun _ _ => rfl)))) pss_nil)
    (pss_one (ps_ret pe_int)), ?_⟩
  refine ⟨_, rfl, _, rfl, a, _, rfl, .inl hs, _, _, rfl, rfl, _, rfl, ?_⟩
  refine ite_bl (fun c => ?_) (fun c => q 0)
  have c' : (k : Int) < ((ns.map V.int).length : Int) := of_decide_eq_true c
  rw [List.length_map] at c'
  have hk : k < ns.length := by omega
  exact ⟨_, rfl, _, rfl, a, _, _, .int ns[k], rfl, rfl, hs, atI_nat (by rw [List.getElem?_map, List.getElem?_eq_getElem hk]; rfl), q _⟩
theorem sc_is_less : FnScope ["one", "other"] ["one", "other"] (defScope s_is_less) := ⟨rfl, rfl, rfl, by decide +kernel, rfl, by decide +kernel, by decide +kernel⟩
theorem is_less_ok {fs : Nat → Addr} {fds : Nat → FuncData} (T : Top K mg fs fds) : FnOk P w K mg base CX0 52 (fs 8) (fds 8) ["one", "other"] (spTruth K fun a b => decide (a < b)) := by
  have G := rank_ok (P := P) (w := w) (base := base) T.rank_row T.z_tuple T.z_reversed 51
  refine T.is_less.fn.ok sc_is_less (fun vs H Q E h => ?_) (fun cdv A outer s H vs Q E hr h => ?_)
  · obtain ⟨x, y, a, b, rfl, _⟩ := h
    rfl
  obtain ⟨x, y, a, b, rfl, hx, hy, da, db, q⟩ := h
  refine ⟨_, pss_one (ps_ret (pe_cmpR (olt (K := K) hr) (pe_call G hr rfl T.rank_row.nm T.rank_row.fn.kp T.rank_row.bd .nil pass0 (pa_cons (pv 0) pa_nil)) (pe_call G hr rfl T.rank_row.nm T.rank_row.fn.kp T.rank_row.bd .nil pass0 (pa_cons (pv 1) pa_nil)) (nomark _))), ?_⟩
  exact ⟨_, rfl, x, a, rfl, hx, by omega, fun r H1 g1 h1 => ⟨_, rfl, y, b, rfl, hy.same g1, by omega, fun r2 H2 g2 h2 => ⟨a, b, h1.grow (Grow.of g2), h2, by omega, q H2 (g1.trans g2)⟩⟩⟩
def spIsN (K : PySem.W.Frag) (D : Nat) : Sp := fun vs H Q _ => ∃ v d, vs = [v] ∧ Dp K H v d ∧ d.depth < D ∧ d.depth ≤ 50 ∧ ∀ b H', Same H H' → (b = true ↔ ∃ n, d = dat n) → Q (.bl b) H'
theorem sc_is_nest : FnScope ["thing", "member", "k"] ["thing"] (defScope s_is_nest) := ⟨rfl, rfl, rfl, by decide +kernel, rfl, by decide +kernel, by decide +kernel⟩
theorem is_nest_step {fs : Nat → Addr} {fds : Nat → FuncData} (T : Top K mg fs fds) {D : Nat} (G : FnOk P w K mg base CX0 (52 + D) (fs 9) (fds 9) ["thing"] (spIsN K D)) :
    FnOk P w K mg base CX0 (52 + D + 1) (fs 9) (fds 9) ["thing"] (spIsN K (D + 1)) := by
  have GL := is_less_ok (P := P) (w := w) (base := base) T
  refine T.is_nest.fn.ok sc_is_nest (fun vs H Q E h => ?_) (fun cdv A outer s H vs Q E hr h => ?_)
  · obtain ⟨v, n, rfl, _⟩ := h
    rfl
  obtain ⟨v, d, rfl, hd, dd, d50, q⟩ := h
  refine ⟨_, pss_cons (ps_if (PW.pt (pw_or (pt_not (pt_val (pe_callB (call_ist (K := K)) rfl T.z_isinstance PyProof.Rows.boot_isinstance (pa_cons (pv 0) (pa_cons (pe_bltn (v := .ty "tuple") rfl T.z_tuple PyProof.Rows.boot_tuple rfl) pa_nil))))) (pw_or1 (pt_not (pt_val (pe_callB (cr_all rfl) rfl T.z_all (by decide +kernel) (pa_cons (pe_lc (own := [("member", 1)]) (g := gName 1) (tt := tYes) rfl sc_is_nest.nd (pi_tup (pe_z (pv 0))) (blkOk_by (N := ["thing", "member", "k"]) (sc := defScope s_is_nest) (by decide +kernel)) (fun _ _ _ _ _ => pg_name (i := 1) sc_is_nest.nd rfl (Or.inl rfl)) (fun _ _ _ _ _ => pts_nil) (fun _ _ _ _ _ => pe_call G hr rfl T.is_nest.nm T.is_nest.fn.kp T.is_nest.bd .nil pass0 (pa_cons (pv 1) pa_nil))) pa_nil))))))) (pss_one (ps_ret pe_bl)) pss_nil)
    (pss_one (ps_ret (pe_callB (cr_all rfl) rfl T.z_all (by decide +kernel) (pa_cons (pe_lc (own := [("k", 2)]) (g := gName 2) (tt := tYes) rfl sc_is_nest.nd (pi_range2 rfl T.z_range (pa_cons pe_int (pa_cons (pe_callB call_len_seq rfl T.z_len PySem.boot_len (pa_cons (pv 0) pa_nil)) pa_nil))) (blkOk_by (N := ["thing", "member", "k"]) (sc := defScope s_is_nest) (by decide +kernel)) (fun _ _ _ _ _ => pg_name (i := 2) sc_is_nest.nd rfl (Or.inl rfl)) (fun _ _ _ _ _ => pts_nil) (fun _ _ _ _ _ => pe_call GL (hr.mono (by omega)) rfl T.is_less.nm T.is_less.fn.kp T.is_less.bd .nil pass0 (pa_cons (pe_ix (oixT (K := K)) (pv 0) (pe_op op_sub (pv 2) pe_int) (fun _ _ => rfl)) (pa_cons (pe_ix (oixT (K := K)) (pv 0) (pv 2) (fun _ _ => rfl)) pa_nil)))) pa_nil)))), ?_⟩
  refine ⟨_, rfl, v, d, rfl, hd, _, rfl, ?_⟩
  by_cases ht : isTu d = true
  case neg =>
    have e : isTu d = false := by simpa using ht
    rw [e]
    refine q false H (Same.refl _) ⟨fun z => by (cases z), fun ⟨n, z⟩ => ?_⟩
    rw [z, dat_eq] at e
    cases e
  case pos =>
  rw [ht]
  refine iteF ?_
  cases hd with
  | non => cases ht
  | bl b => cases ht
  | int i => cases ht
  | str x => cases ht
  | lst h1 h2 => cases ht
  | @tup a xs ds hs hx =>
    have lx := dpAll_len hx
    have dm : ∀ d ∈ ds, d.depth < D ∧ d.depth ≤ 50 := fun d hd => by
      have h1 := le_depthAll hd
      rw [PyData.depth] at dd d50
      omega
    refine ⟨_, rfl, fun hz => ⟨a, rfl, ⟨xs, hs⟩, fun A1 nA => lc_it (walk_tup (K := K) (a := a) (xs := xs)) (Pv := fun i H' => Same H H' ∧ ∃ bs : List Bool, H' A1 = some (.lst (bs.map V.bl)) ∧ bs.length = i ∧ ∀ (j : Nat) (b : Bool) (d : PyData), bs[j]? = some b → ds[j]? = some d → (b = true ↔ ∃ n, d = dat n))
      ⟨same_new nA _, [], upd_same, rfl, ?_⟩ (fun i H' _ q => sqT_same q.1 hs) (fun i x H1 H' hi p y => ?_) (fun H1 p => ?_)⟩⟩
    · intro j b d e
      cases e
    · obtain ⟨gg, bs, hA, lb, hb⟩ := p
      obtain ⟨rfl, hxi⟩ := y
      obtain ⟨d, hdi, hxd⟩ := dpAll_get hx hxi
      have hdm := dm d (List.mem_of_getElem? hdi)
      have hzl := hz a xs rfl (.inl hs)
      refine ⟨rfl, _, rfl, x, d, rfl, dp_same gg hxd, hdm.1, hdm.2, fun b H2 g2 hbd => ⟨_, g2 _ _ hA, by rw [List.length_map]; omega, same_put (gg.trans g2) nA, bs ++ [b], ?_, by rw [List.length_append, lb]; rfl, fun j b' d' e1 e2 => ?_⟩⟩
      · rw [upd_same, List.map_append]
        rfl
      · by_cases hj : j < bs.length
        · rw [List.getElem?_append_left hj] at e1
          exact hb j b' d' e1 e2
        · have hj2 : j = i := by
            have h1 := (List.getElem?_eq_some_iff.mp e1).1
            rw [List.length_append, List.length_singleton] at h1
            omega
          subst hj2
          rw [List.getElem?_append_right (by omega), lb, Nat.sub_self] at e1
          rw [hdi] at e2
          cases e1
          cases e2
          exact hbd
    obtain ⟨gg, bs, hA, lb, hb⟩ := p
    have lbd : bs.length = ds.length := by omega
    refine ⟨A1, bs, rfl, SqL.of hA, _, rfl, ?_⟩
    refine ite_bl (fun c => ?_) (fun c => ?_)
    · refine q false H1 gg ⟨fun z => by (cases z), fun ⟨m, e⟩ => ?_⟩
      have all : bs.all id = true := by
        rw [List.all_eq_true]
        intro b hbm
        obtain ⟨j, hj⟩ := List.mem_iff_getElem?.mp hbm
        have hjl := (List.getElem?_eq_some_iff.mp hj).1
        exact (hb j b ds[j] hj (List.getElem?_eq_getElem (by omega))).mpr (nest_mem e _ (List.getElem_mem _))
      rw [all] at c
      cases c
    · have all : bs.all id = true := by simpa using c
      rw [List.all_eq_true] at all
      obtain ⟨ns, rfl⟩ := dats_of (ds := ds) fun d hd => by
        obtain ⟨j, hj⟩ := List.mem_iff_getElem?.mp hd
        have hjl := (List.getElem?_eq_some_iff.mp hj).1
        exact (hb j bs[j] d (List.getElem?_eq_getElem (by omega)) hj).mp (all _ (List.getElem_mem _))
      have mx := NaAll.same (nas_of hx) gg
      have hs1 := sqT_same gg hs
      rw [List.length_map] at lx
      have dns : ∀ k ∈ ns, dep k ≤ 50 := fun k hk => by
        have h1 := (dm (dat k) (List.mem_map_of_mem hk)).2
        have h2 := dep_lt_depth k
        omega
      have hzl := hz a xs rfl (.inl hs)
      have line : (sizeLine : Nat) < 2 ^ 62 := by rw [sizeLine_eq]; decide
      refine ⟨_, rfl, a, xs, rfl, .inr hs1, 1, _, rfl, by omega, fun A2 nA2 => lc_it (walk_range (lo := 1) (n := ((xs.length : Int) - 1).toNat)) (Pv := fun i H' => Same H1 H' ∧ H' A2 = some (.lst (((List.range i).map fun i => decide (ns.getD i 0 < ns.getD (i + 1) 0)).map V.bl)))
        ⟨same_new nA2 _, upd_same⟩ (fun i H' _ q => trivial) (fun i x H2 H' hi p y => ?_) (fun H2 p => ?_)⟩
      · obtain ⟨g2, hA2⟩ := p
        obtain ⟨rfl, rfl⟩ := y
        have hil : i + 1 < xs.length := by omega
        obtain ⟨x0, hx0, hn0⟩ := NaAll.at' mx (i := i) (k := ns.getD i 0) (by simp [List.getD, List.getElem?_eq_getElem (show i < ns.length by omega)])
        obtain ⟨x1, hx1, hn1⟩ := NaAll.at' mx (i := i + 1) (k := ns.getD (i + 1) 0) (by simp [List.getD, List.getElem?_eq_getElem (show i + 1 < ns.length by omega)])
        have m0 : ns.getD i 0 ∈ ns := List.mem_of_getElem? (i := i) (by simp [List.getD, List.getElem?_eq_getElem (show i < ns.length by omega)])
        have m1 : ns.getD (i + 1) 0 ∈ ns := List.mem_of_getElem? (i := i + 1) (by simp [List.getD, List.getElem?_eq_getElem (show i + 1 < ns.length by omega)])
        have hs2 := sqT_same g2 hs1
        refine ⟨rfl, _, rfl, _, rfl, _, _, rfl, rfl, a, xs, _, x0, rfl, rfl, hs2, by rw [show (1 : Int) + (i : Int) - 1 = ((i : Nat) : Int) by omega]; exact atI_nat hx0, ?_⟩
        refine ⟨_, rfl, _, rfl, a, xs, _, x1, rfl, rfl, hs2, by rw [show (1 : Int) + (i : Int) = ((i + 1 : Nat) : Int) by omega]; exact atI_nat hx1, ?_⟩
        refine ⟨x0, x1, _, _, rfl, hn0.same g2, hn1.same g2, dns _ m0, dns _ m1, fun H3 g3 => ⟨_, g3 _ _ hA2, by rw [List.length_map, List.length_map, List.length_range]; omega, same_put (g2.trans g3) nA2, ?_⟩⟩
        rw [upd_same, List.range_succ, List.map_append, List.map_append]
        rfl
      · obtain ⟨g2, hA2⟩ := p
        refine ⟨A2, _, rfl, SqL.of hA2, q _ H2 (gg.trans g2) ?_⟩
        rw [tuple_nest, List.all_map, List.all_eq_true]
        have en : ((xs.length : Int) - 1).toNat = ns.length - 1 := by omega
        rw [en]
        constructor
        · intro h
          refine pairwise_of_adj fun i hi => ?_
          have := h i (List.mem_range.mpr (by omega))
          simpa using this
        · intro h i hi
          have := adj_of_pairwise h i (by have := List.mem_range.mp hi; omega)
          simpa using this
theorem is_nest_ok {fs : Nat → Addr} {fds : Nat → FuncData} (T : Top K mg fs fds) : ∀ D : Nat, FnOk P w K mg base CX0 (52 + D) (fs 9) (fds 9) ["thing"] (spIsN K D)
  | 0 => no_calls (fun vs H Q E h => by obtain ⟨_, _, _, _, d, _⟩ := h; omega) _
  | D + 1 => is_nest_step T (is_nest_ok T D)
/-- written(nest): its text -/
def spWr (K : PySem.W.Frag) (d : Nat) : Sp := fun vs H Q _ => ∃ v n, vs = [v] ∧ Na K H v n ∧ dep n < d ∧ (txl n).length ≤ 100000 ∧ ∀ H', Same H H' → Q (.str (tx (txl n))) H'
theorem txl_members (n : Nat) : ((bits n).map fun k => (txl k).length).sum + (bits n).length ≤ (txl n).length := by
  have h := (joinC_len ((bits n).map txl)).2
  rw [txl_eq, List.length_cons, List.length_append, List.length_singleton]
  have e : (((bits n).map txl).map fun t => t.length + 1).sum = ((bits n).map fun k => (txl k).length).sum + (bits n).length := by
    rw [List.map_map]
    generalize bits n = l
    induction l with
    | nil => rfl
    | cons a l ih =>
      rw [List.map_cons, List.map_cons, List.sum_cons, List.sum_cons, ih, List.length_cons]
      show (txl a).length + 1 + _ = _
      omega
  rw [e] at h
  by_cases z : (bits n).map txl = []
  · rw [List.map_eq_nil_iff.mp z]
    exact Nat.zero_le _
  · have := h z
    omega
theorem txl_member {n k : Nat} (h : k ∈ bits n) : (txl k).length ≤ (txl n).length := by
  have := txl_members n
  have h2 : (txl k).length ≤ ((bits n).map fun k => (txl k).length).sum := by
    obtain ⟨a, b, e⟩ := List.append_of_mem h
    rw [e, List.map_append, List.sum_append, List.map_cons, List.sum_cons]
    omega
  omega
theorem sg_open : Str.ofString "{" = tx [123] := rfl
theorem sg_close : Str.ofString "}" = tx [125] := rfl
theorem sg_comma : Str.ofString "," = tx [44] := rfl
/-- the text of the members, put together -/
theorem glue_ok {ns : List Nat} (h : (ns.map fun k => (txl k).length).sum + ns.length ≤ 100000) : (((ns.map fun k => tx (txl k)).map fun x => x.length).sum + (ns.map fun k => tx (txl k)).length * (tx [44]).length ≤ 16777216) ∧ Txt.join (tx [44]) (ns.map fun k => tx (txl k)) = tx (joinC (ns.map txl)) := by
  constructor
  · rw [List.map_map, List.length_map, tx_len]
    have e : (ns.map ((fun x => x.length) ∘ fun k => tx (txl k))) = ns.map fun k => (txl k).length := List.map_congr_left fun k _ => tx_len _
    rw [e]
    simp only [List.length_singleton]
    omega
  · have e : (ns.map fun k => tx (txl k)) = (ns.map txl).map tx := by
      rw [List.map_map]
      rfl
    rw [e, tx_join]
theorem sc_written : FnScope ["one", "member"] ["one"] (defScope s_written) := ⟨rfl, rfl, rfl, by decide +kernel, rfl, by decide +kernel, by decide +kernel⟩
theorem written_ok {fs : Nat → Addr} {fds : Nat → FuncData} (T : Top K mg fs fds) : ∀ d, FnOk P w K mg base CX0 d (fs 15) (fds 15) ["one"] (spWr K d)
  | 0 => no_calls (fun vs H Q E h => by
    obtain ⟨_, n, _, _, h, _⟩ := h
    exact Nat.not_lt_zero _ h) 0
  | d + 1 => by
    have G := written_ok T d
    refine T.written.fn.ok sc_written (fun vs H Q E h => ?_) (fun cdv A outer s H vs Q E hr h => ?_)
    · obtain ⟨v, n, rfl, _⟩ := h
      rfl
    obtain ⟨v, n, rfl, hv, dn, less, q⟩ := h
    obtain ⟨p, xs, rfl, sx, mx⟩ := hv.tup
    have lx := NaAll.ln mx
    refine ⟨_, pss_one (ps_ret (pe_op op_add_str (pe_op op_add_str pe_str (pe_bm PySem.F.plainAttrs_str PySem.F.slot_str_join PySem.F.type_str_join mt_join pe_str (pa_cons (pe_lc (own := [("member", 1)]) (g := gName 1) (tt := tYes) rfl sc_written.nd (pi_tup (pe_z (pv 0))) (blkOk_by (N := ["one", "member"]) (sc := defScope s_written) (by decide +kernel)) (fun _ _ _ _ _ => pg_name (i := 1) sc_written.nd rfl (Or.inl rfl)) (fun _ _ _ _ _ => pts_nil) (fun _ _ _ _ _ => pe_call G hr rfl T.written.nm T.written.fn.kp T.written.bd .nil pass0 (pa_cons (pv 1) pa_nil))) pa_nil))) pe_str)), ?_⟩
    have tot := txl_members n
    obtain ⟨gl, gj⟩ := glue_ok (ns := bits n) (by omega)
    refine ⟨rfl, _, rfl, fun hz => ⟨p, rfl, ⟨xs, sx⟩, fun D nD => maps_val (K := K) (xs := xs) (ns := bits n) (walk_tup (K := K) (a := p) (xs := xs)) (fun H g => sqT_same g sx) (fun k => V.str (tx (txl k))) mx (hz _ _ rfl (.inl sx)) nD (fun x k He C hk mem ge cy => ?_) (fun He ge hD => ?_)⟩⟩
    · have dk := dep_mem mem
      have lk := txl_member mem
      exact ⟨rfl, _, rfl, x, k, rfl, hk, by omega, by omega, fun H' g => cy H' g⟩
    have e2 : ((bits n).map fun k => V.str (tx (txl k))) = ((bits n).map fun k => tx (txl k)).map V.str := by
      rw [List.map_map]
      rfl
    rw [e2] at hD
    refine ⟨_, D, (bits n).map fun k => tx (txl k), rfl, rfl, .inl (SqL.of hD), gl, ?_⟩
    have lj : (txl n).length = (joinC ((bits n).map txl)).length + 2 := by
      rw [txl_eq, List.length_cons, List.length_append, List.length_singleton]
    rw [sg_open, sg_close, sg_comma, gj]
    refine ⟨_, _, rfl, rfl, ?_, _, _, rfl, rfl, ?_, ?_⟩
    · rw [tx_len, tx_len]
      exact small (by simp only [List.length_singleton]; omega)
    · rw [tx_app, tx_len, tx_len]
      exact small (by simp only [List.length_append, List.length_singleton]; omega)
    · rw [tx_app, tx_app]
      have e : [123] ++ joinC ((bits n).map txl) ++ [125] = txl n := by
        rw [txl_eq]
        rfl
      rw [e]
      exact q _ ge
/-- the law's own text of a nest -/
theorem sc_law_text : FnScope ["_law_one", "_law_member"] ["_law_one"] (defScope s_law_text) := ⟨rfl, rfl, rfl, by decide +kernel, rfl, by decide +kernel, by decide +kernel⟩
theorem law_text_ok {fs : Nat → Addr} {fds : Nat → FuncData} (T : Top K mg fs fds) : ∀ d, FnOk P w K mg base CX0 d (fs 24) (fds 24) ["_law_one"] (spWr K d)
  | 0 => no_calls (fun vs H Q E h => by
    obtain ⟨_, n, _, _, h, _⟩ := h
    exact Nat.not_lt_zero _ h) 0
  | d + 1 => by
    have G := law_text_ok T d
    refine T.law_text.fn.ok sc_law_text (fun vs H Q E h => ?_) (fun cdv A outer s H vs Q E hr h => ?_)
    · obtain ⟨v, n, rfl, _⟩ := h
      rfl
    obtain ⟨v, n, rfl, hv, dn, less, q⟩ := h
    obtain ⟨p, xs, rfl, sx, mx⟩ := hv.tup
    have lx := NaAll.ln mx
    refine ⟨_, pss_one (ps_ret (pe_op op_add_str (pe_op op_add_str pe_str (pe_bm PySem.F.plainAttrs_str PySem.F.slot_str_join PySem.F.type_str_join mt_join pe_str (pa_cons (pe_lc (own := [("_law_member", 1)]) (g := gName 1) (tt := tYes) rfl sc_law_text.nd (pi_tup (pe_z (pv 0))) (blkOk_by (N := ["_law_one", "_law_member"]) (sc := defScope s_law_text) (by decide +kernel)) (fun _ _ _ _ _ => pg_name (i := 1) sc_law_text.nd rfl (Or.inl rfl)) (fun _ _ _ _ _ => pts_nil) (fun _ _ _ _ _ => pe_call G hr rfl T.law_text.nm T.law_text.fn.kp T.law_text.bd .nil pass0 (pa_cons (pv 1) pa_nil))) pa_nil))) pe_str)), ?_⟩
    have tot := txl_members n
    obtain ⟨gl, gj⟩ := glue_ok (ns := bits n) (by omega)
    refine ⟨rfl, _, rfl, fun hz => ⟨p, rfl, ⟨xs, sx⟩, fun D nD => maps_val (K := K) (xs := xs) (ns := bits n) (walk_tup (K := K) (a := p) (xs := xs)) (fun H g => sqT_same g sx) (fun k => V.str (tx (txl k))) mx (hz _ _ rfl (.inl sx)) nD (fun x k He C hk mem ge cy => ?_) (fun He ge hD => ?_)⟩⟩
    · have dk := dep_mem mem
      have lk := txl_member mem
      exact ⟨rfl, _, rfl, x, k, rfl, hk, by omega, by omega, fun H' g => cy H' g⟩
    have e2 : ((bits n).map fun k => V.str (tx (txl k))) = ((bits n).map fun k => tx (txl k)).map V.str := by
      rw [List.map_map]
      rfl
    rw [e2] at hD
    refine ⟨_, D, (bits n).map fun k => tx (txl k), rfl, rfl, .inl (SqL.of hD), gl, ?_⟩
    have lj : (txl n).length = (joinC ((bits n).map txl)).length + 2 := by
      rw [txl_eq, List.length_cons, List.length_append, List.length_singleton]
    rw [sg_open, sg_close, sg_comma, gj]
    refine ⟨_, _, rfl, rfl, ?_, _, _, rfl, rfl, ?_, ?_⟩
    · rw [tx_len, tx_len]
      exact small (by simp only [List.length_singleton]; omega)
    · rw [tx_app, tx_len, tx_len]
      exact small (by simp only [List.length_append, List.length_singleton]; omega)
    · rw [tx_app, tx_app]
      have e : [123] ++ joinC ((bits n).map txl) ++ [125] = txl n := by
        rw [txl_eq]
        rfl
      rw [e]
      exact q _ ge
/-- how long a loose text may be -/
def lim : Nat → Nat
  | 0 => 0
  | d + 1 => 5 * lim d + 7
theorem ShowsAll.snoc : ∀ {ts ns t n}, ShowsAll ts ns → Shows t n → ShowsAll (ts ++ [t]) (ns ++ [n])
  | _, _, _, _, .nil, h => .cons h .nil
  | _, _, _, _, .cons h1 h2, h => .cons h1 (ShowsAll.snoc h2 h)
theorem sum_lim {ts : List (List Nat)} {B : Nat} (h : ∀ t ∈ ts, t.length ≤ B) : (ts.map fun t => t.length).sum ≤ ts.length * B := by
  induction ts with
  | nil => exact Nat.zero_le _
  | cons t ts ih =>
    have h1 := h t List.mem_cons_self
    have h2 := ih fun u hu => h u (List.mem_cons_of_mem _ hu)
    rw [List.map_cons, List.sum_cons, List.length_cons, Nat.succ_mul]
    omega
theorem join_lim {ts : List (List Nat)} {B : Nat} (h : ∀ t ∈ ts, t.length ≤ B) : (joinC ts).length ≤ ts.length * B + ts.length := by
  have h1 := (joinC_len ts).1
  have h2 := sum_lim h
  have e : ∀ l : List (List Nat), (l.map fun t => t.length + 1).sum = (l.map fun t => t.length).sum + l.length := by
    intro l
    induction l with
    | nil => rfl
    | cons t l ih =>
      rw [List.map_cons, List.map_cons, List.sum_cons, List.sum_cons, ih, List.length_cons]
      omega
  rw [e] at h1
  omega
theorem na_rev {K : PySem.W.Frag} {H : Hp} : ∀ {xs : List V} {ns : List Nat}, NaAll K H xs ns → NaAll K H xs.reverse ns.reverse
  | [], [], _ => .nil
  | _ :: _, _ :: _, .cons h r => by
    rw [List.reverse_cons, List.reverse_cons]
    exact NaAll.cat (na_rev r) (.cons h .nil)
/-- a text with members in another order, some twice -/
def spLo (K : PySem.W.Frag) (d : Nat) : Sp := fun vs H Q _ => ∃ v n c, vs = [v, .int c] ∧ Na K H v n ∧ dep n < d ∧ Thin 3 n ∧ lim d ≤ 100000 ∧ ∀ l H', Shows l n → l.length ≤ lim d → Same H H' → Q (.str (tx l)) H'
theorem sc_law_loose : FnScope ["_law_one", "_law_cell_here", "_law_some_here", "_law_member"] ["_law_one", "_law_cell_here"] (defScope s_law_loose) := ⟨rfl, rfl, rfl, by decide +kernel, rfl, by decide +kernel, by decide +kernel⟩
theorem law_loose_ok {fs : Nat → Addr} {fds : Nat → FuncData} (T : Top K mg fs fds) : ∀ d, FnOk P w K mg base CX0 d (fs 25) (fds 25) ["_law_one", "_law_cell_here"] (spLo K d)
  | 0 => no_calls (fun vs H Q E h => by
    obtain ⟨_, n, _, _, _, h, _⟩ := h
    exact Nat.not_lt_zero _ h) 0
  | d + 1 => by
    have G := law_loose_ok T d
    refine T.law_loose.fn.ok sc_law_loose (fun vs H Q E h => ?_) (fun cdv A outer s H vs Q E hr h => ?_)
    · obtain ⟨v, n, c, rfl, _⟩ := h
      rfl
    obtain ⟨v, n, c, rfl, hv, dn, th, ld, q⟩ := h
    obtain ⟨p, xs, rfl, sx, mx⟩ := hv.tup
    have lx := NaAll.ln mx
    have l3 := th.len
    have ld2 : 5 * lim d + 7 ≤ 100000 := ld
    refine ⟨_, pss_cons (ps_set (i := 2) sc_law_loose.nd rfl (Or.inl rfl) (pe_callTy call_list_of rfl T.z_list PyProof.Rows.boot_list (pa_cons (pv 0) pa_nil)))
    (pss_cons (ps_if (pt_cmpR op_eq (pe_op op_mod (pv 1) pe_int) pe_int (nomark _)) (pss_one (ps_set (i := 2) sc_law_loose.nd rfl (Or.inl rfl) (pe_revL (pv 2)))) pss_nil)
    (pss_cons (ps_set (i := 2) sc_law_loose.nd rfl (Or.inl rfl) (pe_op op_cat (pv 2) (pe_slice sl_list (pv 2) po_none (po_some (pe_op op_mod (pv 1) pe_int)))))
    (pss_one (ps_ret (pe_op op_add_str (pe_op op_add_str pe_str (pe_bm PySem.F.plainAttrs_str PySem.F.slot_str_join PySem.F.type_str_join mt_join pe_str (pa_cons (pe_lc (own := [("_law_member", 3)]) (g := gName 3) (tt := tYes) rfl sc_law_loose.nd (pi_list (pe_z (pv 2))) (blkOk_by (N := ["_law_one", "_law_cell_here", "_law_some_here", "_law_member"]) (sc := defScope s_law_loose) (by decide +kernel)) (fun _ _ _ _ _ => pg_name (i := 3) sc_law_loose.nd rfl (Or.inl rfl)) (fun _ _ _ _ _ => pts_nil) (fun _ _ _ _ _ => pe_call G hr rfl T.law_loose.nm T.law_loose.fn.kp T.law_loose.bd .nil pass0 (pa_cons (pv 3) (pa_cons (pe_op op_add (pe_op op_fdiv (pv 1) pe_int) pe_int) pa_nil)))) pa_nil))) pe_str))))), ?_⟩
    refine ⟨_, rfl, p, xs, rfl, .inr sx, fun L nL => ?_⟩
    have sL := same_new nL (.lst xs)
    have hL : (upd H L (.lst xs)) L = some (.lst xs) := upd_same
    have mL := NaAll.same mx sL
    generalize upd H L (.lst xs) = H1 at sL hL mL ⊢
    refine ⟨_, rfl, _, _, rfl, rfl, (by decide : (0 : Int) < 2), rfl, _, rfl, ite_bl (fun c0 => ?even) (fun c0 => ?odd)⟩
    case' even =>
      refine ⟨_, rfl, L, _, rfl, SqL.of hL, fun M nM => ?_⟩
      have sM := same_new nM (.lst xs.reverse)
      have hM : (upd H1 M (.lst xs.reverse)) M = some (.lst xs.reverse) := upd_same
      have mM : NaAll K (upd H1 M (.lst xs.reverse)) xs.reverse (bits n).reverse := na_rev (NaAll.same mL sM)
      have g2 := sL.trans sM
      have same : ∀ k, k ∈ (bits n).reverse ↔ k ∈ bits n := fun k => List.mem_reverse
      have l2 : (bits n).reverse.length ≤ 3 := by
        rw [List.length_reverse]
        exact l3
      generalize upd H1 M (.lst xs.reverse) = H2 at hM mM g2 ⊢
      generalize (bits n).reverse = ks at mM same l2
      generalize xs.reverse = ys at hM mM
      show tSeq _ _ _ [some (.ref p), some (.int c), some (.ref M), none] H2
    case' odd =>
      obtain ⟨M, rfl⟩ : ∃ M, M = L := ⟨L, rfl⟩
      obtain ⟨H2, rfl⟩ : ∃ H2, H2 = H1 := ⟨H1, rfl⟩
      obtain ⟨ys, eys⟩ : ∃ ys, ys = xs := ⟨xs, rfl⟩
      obtain ⟨ks, eks⟩ : ∃ ks, ks = bits n := ⟨_, rfl⟩
      have hM : H2 M = some (.lst ys) := by
        rw [eys]
        exact hL
      have mM : NaAll K H2 ys ks := by
        rw [eys, eks]
        exact mL
      have g2 := sL
      have same : ∀ k, k ∈ ks ↔ k ∈ bits n := fun k => by rw [eks]
      have l2 : ks.length ≤ 3 := by
        rw [eks]
        exact l3
      show tSeq _ _ _ [some (.ref p), some (.int c), some (.ref M), none] H2
    all_goals
      obtain ⟨j, ej, lj⟩ : ∃ j : Nat, c % 3 = (j : Int) ∧ j < 3 := by
        have h1 := Int.emod_nonneg c (show (3 : Int) ≠ 0 by decide)
        have h2 := Int.emod_lt_of_pos c (show (0 : Int) < 3 by decide)
        exact ⟨(c % 3).toNat, by omega, by omega⟩
      have lyk := NaAll.ln mM
      refine ⟨_, rfl, _, rfl, _, rfl, _, _, rfl, rfl, (by decide : (0 : Int) < 3), _, rfl, M, _, rfl, SqL.of hM, fun b nb => ?_⟩
      have ec : cutV ys none (some (c % 3)) = ys.take j := by
        rw [ej]
        unfold cutV
        rw [HT.sIx_none, HT.sIx_nat, List.drop_zero, Nat.sub_zero]
        by_cases h : j ≤ ys.length
        · rw [Nat.min_eq_left h]
        · rw [Nat.min_eq_right (by omega), List.take_of_length_le (Nat.le_refl _), List.take_of_length_le (by omega)]
      rw [ec]
      have sb := same_new nb (.lst (ys.take j))
      refine ⟨M, b, ys, ys.take j, rfl, rfl, sb _ _ hM, upd_same, small (by rw [List.length_take]; omega), fun R nR => ?_⟩
      have sR := same_new nR (.lst (ys ++ ys.take j))
      have hR : (upd (upd H2 b (.lst (ys.take j))) R (.lst (ys ++ ys.take j))) R = some (.lst (ys ++ ys.take j)) := upd_same
      have mR := NaAll.same (NaAll.cat mM (NaAll.tk j mM)) (sb.trans sR)
      have g3 := g2.trans (sb.trans sR)
      have same3 : ∀ k, k ∈ ks ++ ks.take j ↔ k ∈ bits n := fun k => by
        rw [List.mem_append, ← same]
        exact ⟨fun h => h.elim id List.mem_of_mem_take, .inl⟩
      have l3' : (ks ++ ks.take j).length ≤ 5 := by
        rw [List.length_append, List.length_take]
        omega
      generalize upd (upd H2 b (.lst (ys.take j))) R (.lst (ys ++ ys.take j)) = H3 at hR mR g3 ⊢
      generalize ks ++ ks.take j = ls at mR same3 l3'
      generalize ys ++ ys.take j = zs at hR mR
      have lz := NaAll.ln mR
      refine ⟨rfl, _, rfl, fun _ => ⟨R, rfl, ⟨zs, SqL.of hR⟩, fun D nD => lc_it (walk_list (K := K) (a := R) (xs := zs)) (Pv := fun i H' => Same H3 H' ∧ ∃ ts, H' D = some (.lst (ts.map fun t => V.str (tx t))) ∧ ts.length = i ∧ ShowsAll ts (ls.take i) ∧ ∀ t ∈ ts, t.length ≤ lim d)
        ⟨same_new nD _, [], upd_same, rfl, .nil, fun t ht => by cases ht⟩ (fun i H' _ q => SqL.of (q.1 _ _ hR)) (fun i x Ha Hb hi pv y => ?_) (fun Ha pv => ?_)⟩⟩
      · obtain ⟨ga, ts, hD, lt, sh, sm⟩ := pv
        obtain ⟨rfl, hx⟩ := y
        obtain ⟨k, hk, mem, tp⟩ := NaAll.at mR hx
        have kn := (same3 k).mp mem
        have dk := dep_mem kn
        refine ⟨rfl, _, rfl, _, rfl, _, _, rfl, rfl, ⟨by decide, by decide⟩, _, _, rfl, rfl, x, k, _, rfl, tp.same ga, by omega, th.mem k kn, by omega, fun l Hc sl ll gc => ⟨_, gc _ _ hD, small (by rw [List.length_map]; omega), same_put (ga.trans gc) nD, ts ++ [l], ?_, by rw [List.length_append, lt]; rfl, ?_, fun t ht => ?_⟩⟩
        · rw [upd_same, List.map_append]
          rfl
        · rw [List.take_add_one, hk]
          exact sh.snoc sl
        · rcases List.mem_append.mp ht with ht | ht
          · exact sm t ht
          · rw [List.mem_singleton.mp ht]
            exact ll
      · obtain ⟨ga, ts, hD, lt, sh, sm⟩ := pv
        rw [lz, List.take_length] at sh
        have e2 : (ts.map fun t => V.str (tx t)) = (ts.map tx).map V.str := by
          rw [List.map_map]
          rfl
        rw [e2] at hD
        have t5 : ts.length ≤ 5 := by omega
        have b1 := Nat.mul_le_mul_right (lim d) t5
        have b2 := sum_lim sm
        have b3 := join_lim sm
        have b4 : ((ts.map tx).map fun x => x.length).sum = (ts.map fun t => t.length).sum := by
          rw [List.map_map]
          exact congrArg List.sum (List.map_congr_left fun t _ => tx_len t)
        have ell : lim (d + 1) = 5 * lim d + 7 := rfl
        rw [sg_open, sg_close, sg_comma]
        refine ⟨_, D, ts.map tx, rfl, rfl, .inl (SqL.of hD), ?_, ?_⟩
        · rw [b4, List.length_map, tx_len]
          simp only [List.length_singleton]
          omega
        · rw [tx_join]
          refine ⟨_, _, rfl, rfl, ?_, _, _, rfl, rfl, ?_, ?_⟩
          · rw [tx_len, tx_len]
            exact small (by simp only [List.length_singleton]; omega)
          · rw [tx_app, tx_len, tx_len]
            exact small (by simp only [List.length_append, List.length_singleton]; omega)
          · rw [tx_app, tx_app]
            have sn := Shows.node sh
            rw [mk_congr same3, mk_bits] at sn
            refine q _ _ sn ?_ (g3.trans ga)
            rw [List.length_append, List.length_append]
            simp only [List.length_singleton]
            omega
theorem suf_drop {l r : List Nat} (h : r <:+ l) : l.drop (l.length - r.length) = r := (List.suffix_iff_eq_drop.mp h).symm
theorem Ok.head {r r' : List Nat} {n : Nat} (h : Ok r n r') : r.head? = some 123 := by cases h <;> rfl
theorem OkM.head {r ns r' : List Nat} (h : OkM r ns r') : r.head? = some 123 := by
  cases h with
  | last h _ => exact h.head
  | more h _ => exact h.head
theorem fall_iff {p : Prop} [Decidable p] {A B : Prop} (h : ¬ p) (ha : A) : if (!decide p) = true then A else B := by
  rw [decide_eq_false h]
  exact if_pos rfl ▸ ha
/-- the nest that begins at a place, and where it ends; or refused -/
def spAt (K : PySem.W.Frag) (D : Addr) (d : Nat) : Sp := fun vs H Q E => ∃ l r : List Nat, vs = [.str (tx l), .int ((l.length - r.length : Nat) : Int)] ∧ r <:+ l ∧ l.length ≤ 100000 ∧ hgt r < d ∧ hgt r ≤ 7 ∧
  ((∃ n r2, Ok r n r2 ∧ ∀ t v H', Same H H' → H' t = some (.tup [v, .int ((l.length - r2.length : Nat) : Int)]) → Na K H' v n → Q (.ref t) H') ∨ (Bad r ∧ ∀ H', Same H H' → E (.ref D) none H'))
theorem sign_at {l r : List Nat} (h : r <:+ l) (c : Nat) : decide (V.str (cutS (tx l) (some ((l.length - r.length : Nat) : Int)) (some (((l.length - r.length : Nat) : Int) + 1))) = V.str (tx [c])) = decide (r.head? = some c) := by
  rw [cut_sign, suf_drop h]
theorem sign_iff {l r : List Nat} (h : r <:+ l) (c : Nat) : (V.str (cutS (tx l) (some ((l.length - r.length : Nat) : Int)) (some (((l.length - r.length : Nat) : Int) + 1))) = V.str (tx [c])) ↔ r.head? = some c := decide_eq_decide.mp (sign_at h c)
theorem sc_nest_at : FnScope ["text", "at", "members", "more", "member"] ["text", "at"] (defScope s_nest_at) := ⟨rfl, rfl, rfl, by decide +kernel, rfl, by decide +kernel, by decide +kernel⟩
theorem nest_at_ok {fs : Nat → Addr} {fds : Nat → FuncData} (T : Top K mg fs fds) : ∀ d, FnOk P w K mg base (L2.CX P w) (11 + d) (fs 12) (fds 12) ["text", "at"] (spAt K (fs 3) d)
  | 0 => no_calls (fun vs H Q E h => by
    obtain ⟨_, _, _, _, _, h, _⟩ := h
    exact Nat.not_lt_zero _ h) _
  | d + 1 => by
    have G := nest_at_ok T d
    have GN := nestT (P := P) (w := w) (base := base) T
    refine T.nest_at.fn.okX sc_nest_at (fun vs H Q E h => ?_) (fun cdv A outer s H vs Q E hr h => ?_)
    · obtain ⟨l, r, rfl, _⟩ := h
      rfl
    obtain ⟨l, r, rfl, suf, ll, hd, h7, h⟩ := h
    have lr := suf.length_le
    have r11 : Room 11 _ := hr.mono (Nat.le_add_right 11 d)
    have small_ : (tx l).length ≤ sizeLine := by
      rw [tx_len]
      exact small ll
    refine ⟨_, pss_cons (ps_if (pt_cmpR op_ne (pe_slice sl_str (pv 0) (po_some (pv 1)) (po_some (pe_op op_add (pv 1) pe_int))) pe_str (nomark _)) (pss_one (ps_raise rfl (takes_of rfl rfl rfl rfl) (pmk_own PySem.F.excBase_ValueError T.x_NoText.q T.x_NoText.g T.x_NoText.k (raises_own T.x_NoText.s T.x_NoText.t) rfl))) pss_nil)
    (pss_cons (ps_set (i := 2) sc_nest_at.nd rfl (Or.inl rfl) (pe_lst pa_nil))
    (pss_cons (ps_set (i := 1) sc_nest_at.nd rfl (Or.inl rfl) (pe_op op_add (pv 1) pe_int))
    (pss_cons (ps_set (i := 3) sc_nest_at.nd rfl (Or.inl rfl) (pe_cmpR op_ne (pe_slice sl_str (pv 0) (po_some (pv 1)) (po_some (pe_op op_add (pv 1) pe_int))) pe_str (nomark _)))
    (pss_cons (ps_while (passes_of rfl) (pt_truth (pv 3) (by intro _; rfl)) (pss_cons (ps_asg (pe_call G hr rfl T.nest_at.nm T.nest_at.fn.kp T.nest_at.bd .nil (passes_call (takes_of rfl rfl rfl rfl) fun _ _ _ _ h => h) (pa_cons (pv 0) (pa_cons (pv 1) pa_nil))) (pg_tup rfl (pgs_cons (pg_name (i := 4) sc_nest_at.nd rfl (Or.inl rfl)) (pgs_cons (pg_name (i := 1) sc_nest_at.nd rfl (Or.inl rfl)) pgs_nil))))
    (pss_cons (ps_expr (pe_bm PySem.F.plainAttrs_list PySem.F.slot_list_append PySem.F.type_list_append mt_append (pv 2) (pa_cons (pv 4) pa_nil)))
    (pss_cons (ps_set (i := 3) sc_nest_at.nd rfl (Or.inl rfl) (pe_cmpR op_eq (pe_slice sl_str (pv 0) (po_some (pv 1)) (po_some (pe_op op_add (pv 1) pe_int))) pe_str (nomark _)))
    (pss_one (ps_set (i := 1) sc_nest_at.nd rfl (Or.inl rfl) (pe_op op_add (pv 1) (pe_callTy call_int1 rfl T.z_int PyProof.Rows.boot_int (pa_cons (pv 3) pa_nil)))))))))
    (pss_cons (ps_if (pt_cmpR op_ne (pe_slice sl_str (pv 0) (po_some (pv 1)) (po_some (pe_op op_add (pv 1) pe_int))) pe_str (nomark _)) (pss_one (ps_raise rfl (takes_of rfl rfl rfl rfl) (pmk_own PySem.F.excBase_ValueError T.x_NoText.q T.x_NoText.g T.x_NoText.k (raises_own T.x_NoText.s T.x_NoText.t) rfl))) pss_nil)
    (pss_one (ps_ret (pe_tup (pa_cons (pe_call GN r11 rfl T.nest.nm T.nest.fn.kp T.nest.bd .nil pass0 (pa_cons (pe_callTy call_tuple_of rfl T.z_tuple PyProof.Rows.boot_tuple (pa_cons (pv 2) pa_nil)) pa_nil)) (pa_cons (pe_op op_add (pv 1) pe_int) pa_nil)))))))))), ?_⟩
    refine ⟨_, rfl, _, rfl, _, rfl, _, rfl, _, _, rfl, rfl, _, rfl, tx l, rfl, small_, rfl, _, rfl, ?_⟩
    rcases head_cases r 123 with ⟨s, rfl⟩ | c
    case inr =>
      refine fall_iff (fun z => c ((sign_iff suf 123).mp z)) ?_
      rcases h with ⟨n, r2, ok, _⟩ | ⟨_, e⟩
      · exact absurd ok.head c
      · exact e _ (Same.refl _)
    refine skip_iff ((sign_iff suf 123).mpr rfl) ?_
    have sufs : s <:+ l := (List.suffix_cons 123 s).trans suf
    rw [hgt_open] at hd h7
    -- what is left behind the members
    obtain ⟨Fin, hFin⟩ : ∃ Fin : List Nat → List Nat → Prop, ∀ ns r1, Fin ns r1 ↔ ((∃ r2, r1 = 125 :: r2 ∧ ∀ t v H', Same H H' → H' t = some (.tup [v, .int ((l.length - r2.length : Nat) : Int)]) → Na K H' v (mk ns) → Q (.ref t) H') ∨ (r1.head? ≠ some 125 ∧ ∀ H', Same H H' → E (.ref (fs 3)) none H')) := ⟨_, fun _ _ => Iff.rfl⟩
    obtain ⟨Plan, hPlan⟩ : ∃ Plan : List Nat → List Nat → Prop, ∀ ns r1, Plan ns r1 ↔ ((∃ ms r2, OkM r1 ms r2 ∧ Fin (ns ++ ms) r2) ∨ (BadM r1 ∧ ∀ H', Same H H' → E (.ref (fs 3)) none H')) := ⟨_, fun _ _ => Iff.rfl⟩
    have start : (s.head? = some 125 ∧ Fin [] s) ∨ (s.head? ≠ some 125 ∧ Plan [] s) := by
      rcases h with ⟨n, r2, ok, q⟩ | ⟨bad, e⟩
      · cases ok with
        | nil => exact .inl ⟨rfl, (hFin _ _).mpr (.inl ⟨_, rfl, q⟩)⟩
        | many hm => exact .inr ⟨by rw [hm.head]; decide, (hPlan _ _).mpr (.inl ⟨_, _, hm, (hFin _ _).mpr (.inl ⟨_, rfl, q⟩)⟩)⟩
      · cases bad with
        | head z => exact absurd rfl z
        | mem z hb => exact .inr ⟨z, (hPlan _ _).mpr (.inr ⟨hb, e⟩)⟩
        | stop z hm h1 => exact .inr ⟨z, (hPlan _ _).mpr (.inl ⟨_, _, hm, (hFin _ _).mpr (.inr ⟨h1, e⟩)⟩)⟩
    clear h
    refine ⟨(by show 0 ≤ sizeLine; decide), fun M nM => ?_⟩
    have sM := same_new nM (.lst [])
    have e1 : ((l.length - (123 :: s).length : Nat) : Int) + 1 = ((l.length - s.length : Nat) : Int) := by
      have := suf.length_le
      rw [List.length_cons] at this ⊢
      omega
    refine ⟨_, rfl, _, _, rfl, rfl, gname_at (congrArg V.int e1) ?_⟩
    refine ⟨_, rfl, _, rfl, _, rfl, _, rfl, _, _, rfl, rfl, _, rfl, tx l, rfl, small_, rfl, gname_at (congrArg (fun b => V.bl (!b)) (sign_at sufs 125)) ?_⟩
    refine ⟨fun m σ H' => ∃ acc ns r b v4, σ = [some (.str (tx l)), some (.int ((l.length - r.length : Nat) : Int)), some (.ref M), some (.bl b), v4] ∧ Same H H' ∧ H' M = some (.lst acc) ∧ NaAll K H' acc ns ∧ r <:+ l ∧ hgt r ≤ hgt s ∧ (∀ k ∈ ns, dep k + 1 ≤ hgt s) ∧ ns.length + r.length ≤ l.length ∧ m = r.length ∧ ((b = true ∧ Plan ns r) ∨ (b = false ∧ Fin ns r)),
      ⟨s.length, [], [], s, _, none, rfl, sM, upd_same, .nil, sufs, Nat.le_refl _, fun k hk => (by cases hk), (by have := sufs.length_le; rw [List.length_nil]; omega), rfl, ?_⟩, ?_⟩
    · rcases start with ⟨z, f⟩ | ⟨z, f⟩
      · exact .inr ⟨by rw [decide_eq_true z]; rfl, f⟩
      · exact .inl ⟨by rw [decide_eq_false z]; rfl, f⟩
    rintro m σ Ha ⟨acc, ns, r, b, v4, rfl, ga, hM, mA, sr, hr7, dn, ln, rfl, plan⟩
    refine ⟨_, rfl, b, rfl, ?_⟩
    have lr := sr.length_le
    refine ite_bl (fun c => ?_) (fun c => ?_)
    · -- one more member
      have plan : Plan ns r := by
        rcases plan with ⟨_, z⟩ | ⟨z, _⟩
        · exact z
        · rw [c] at z
          cases z
      refine ⟨fun σ' H' => ∃ acc ns r1 b v4, σ' = [some (.str (tx l)), some (.int ((l.length - r1.length : Nat) : Int)), some (.ref M), some (.bl b), v4] ∧ Same H H' ∧ H' M = some (.lst acc) ∧ NaAll K H' acc ns ∧ r1 <:+ l ∧ hgt r1 ≤ hgt s ∧ (∀ k ∈ ns, dep k + 1 ≤ hgt s) ∧ ns.length + r1.length ≤ l.length ∧ r1.length < r.length ∧ ((b = true ∧ Plan ns r1) ∨ (b = false ∧ Fin ns r1)), fun σ' H' z => ?_, ?_⟩
      · obtain ⟨acc, ns, r1, b, v4, z1, z2, z3, z4, z5, z6, z7, z0, z8, z9⟩ := z
        exact ⟨r1.length, z8, acc, ns, r1, b, v4, z1, z2, z3, z4, z5, z6, z7, z0, rfl, z9⟩
      have next : (∃ n r1, Ok r n r1 ∧ ((r1.head? ≠ some 44 ∧ Fin (ns ++ [n]) r1) ∨ ∃ r2, r1 = 44 :: r2 ∧ Plan (ns ++ [n]) r2)) ∨ (Bad r ∧ ∀ H', Same H H' → E (.ref (fs 3)) none H') := by
        rcases (hPlan _ _).mp plan with ⟨ms, r2, hm, f⟩ | ⟨hb, e⟩
        · cases hm with
          | last ok z => exact .inl ⟨_, _, ok, .inl ⟨z, f⟩⟩
          | more ok hm => exact .inl ⟨_, _, ok, .inr ⟨_, rfl, (hPlan _ _).mpr (.inl ⟨_, _, hm, by rw [List.append_assoc]; exact f⟩)⟩⟩
        · cases hb with
          | here z => exact .inr ⟨z, e⟩
          | later ok z => exact .inl ⟨_, _, ok, .inr ⟨_, rfl, (hPlan _ _).mpr (.inr ⟨z, e⟩)⟩⟩
      rcases next with ⟨n, r1, ok, go⟩ | ⟨bad, e⟩
      case inr => exact ⟨_, rfl, _, rfl, l, r, rfl, sr, ll, by omega, by omega, .inr ⟨bad, fun H' g => e _ (ga.trans g)⟩⟩
      have su := ok.suf
      have lo := ok.low
      have s1 : r1 <:+ l := su.1.trans sr
      have l1 := s1.length_le
      have lacc := NaAll.ln mA
      refine ⟨_, rfl, _, rfl, l, r, rfl, sr, ll, by omega, by omega, .inl ⟨n, r1, ok, fun t v Hb gb ht hv => ?_⟩⟩
      refine ⟨t, _, rfl, SqT.of ht, rfl, _, _, rfl, _, _, rfl, rfl, ?_⟩
      have hMb := gb _ _ hM
      refine ⟨_, rfl, .inl ⟨rfl, acc, SqL.of hMb⟩, _, rfl, M, acc, v, rfl, rfl, hMb, smaller (by omega), ?_⟩
      have gc := same_put (o := .lst (acc ++ [v])) (ga.trans gb) nM
      have mC : NaAll K (upd Hb M (.lst (acc ++ [v]))) (acc ++ [v]) (ns ++ [n]) := (NaAll.cat (NaAll.same mA gb) (.cons hv .nil)).grow (Grow.lst hMb)
      have hMc : (upd Hb M (.lst (acc ++ [v]))) M = some (.lst (acc ++ [v])) := upd_same
      generalize upd Hb M (.lst (acc ++ [v])) = Hc at gc mC hMc ⊢
      have dn2 : ∀ k ∈ ns ++ [n], dep k + 1 ≤ hgt s := fun k hk => by
        rcases List.mem_append.mp hk with hk | hk
        · exact dn k hk
        · rw [List.mem_singleton.mp hk]
          omega
      have lns : (ns ++ [n]).length = ns.length + 1 := by
        rw [List.length_append]
        rfl
      refine ⟨_, rfl, _, rfl, _, rfl, _, rfl, _, _, rfl, rfl, _, rfl, tx l, rfl, small_, rfl, gname_at (congrArg V.bl (sign_at s1 44)) ?_⟩
      rcases go with ⟨z, f⟩ | ⟨r2, rfl, f⟩
      · rw [decide_eq_false z]
        refine ⟨_, rfl, _, rfl, .inr ⟨_, rfl, _, _, rfl, rfl, gname_at (congrArg V.int (Int.add_zero _)) ?_⟩⟩
        exact ⟨_, _, r1, false, _, rfl, gc, hMc, mC, s1, by omega, dn2, by omega, su.2, .inr ⟨rfl, f⟩⟩
      · have z : (44 :: r2).head? = some 44 := rfl
        have s2 : r2 <:+ l := (List.suffix_cons 44 r2).trans s1
        have e2 : ((l.length - (44 :: r2).length : Nat) : Int) + 1 = ((l.length - r2.length : Nat) : Int) := by
          rw [List.length_cons] at l1 ⊢
          omega
        rw [decide_eq_true z]
        refine ⟨_, rfl, _, rfl, .inr ⟨_, rfl, _, _, rfl, rfl, gname_at (congrArg V.int e2) ?_⟩⟩
        have w2 := su.2
        rw [hgt_comma] at lo
        rw [List.length_cons] at w2
        exact ⟨_, _, r2, true, _, rfl, gc, hMc, mC, s2, by omega, dn2, by omega, by omega, .inl ⟨rfl, f⟩⟩
    · have fin : Fin ns r := by
        rcases plan with ⟨z, _⟩ | ⟨_, z⟩
        · rw [c] at z
          cases z
        · exact z
      refine ⟨_, rfl, _, rfl, _, rfl, _, rfl, _, _, rfl, rfl, _, rfl, tx l, rfl, small_, rfl, _, rfl, ?_⟩
      rcases (hFin _ _).mp fin with ⟨r2, rfl, q⟩ | ⟨z, e⟩
      case inr => exact fall_iff (fun y => z ((sign_iff sr 125).mp y)) (e _ ga)
      refine skip_iff ((sign_iff sr 125).mpr rfl) ?_
      refine ⟨_, rfl, M, acc, rfl, .inl ⟨SqL.of hM, fun t nt => ?_⟩⟩
      have st := same_new nt (.tup acc)
      refine ⟨t, acc, ns, rfl, SqT.of upd_same, NaAll.same mA st, fun k hk => ?_, fun v Hb gb hv => ?_⟩
      · have := dn k hk
        omega
      have e2 : ((l.length - (125 :: r2).length : Nat) : Int) + 1 = ((l.length - r2.length : Nat) : Int) := by
        rw [List.length_cons] at lr ⊢
        omega
      refine ⟨_, rfl, _, _, rfl, rfl, (by show 2 ≤ sizeLine; decide), fun u nu => ?_⟩
      have sn := same_new nu (.tup [v, .int (((l.length - (125 :: r2).length : Nat) : Int) + 1)])
      refine q u v _ (ga.trans (st.trans (gb.trans sn))) ?_ (hv.same sn)
      rw [← e2]
      exact upd_same
/-- read(text): its nest, or refused -/
def spRd (K : PySem.W.Frag) (D : Addr) : Sp := fun vs H Q E => ∃ l, vs = [.str (tx l)] ∧ l.length ≤ 100000 ∧ hgt l ≤ 7 ∧
  ((∃ n, Ok l n [] ∧ ∀ v H', Same H H' → Na K H' v n → Q v H') ∨ (NoTx l ∧ ∀ H', Same H H' → E (.ref D) none H'))
theorem sc_read : FnScope ["text", "found", "at"] ["text"] (defScope s_read) := ⟨rfl, rfl, rfl, by decide +kernel, rfl, by decide +kernel, by decide +kernel⟩
theorem read_ok {fs : Nat → Addr} {fds : Nat → FuncData} (T : Top K mg fs fds) : FnOk P w K mg base (L2.CX P w) 20 (fs 13) (fds 13) ["text"] (spRd K (fs 3)) := by
  have G := nest_at_ok (P := P) (w := w) (base := base) T 8
  refine T.read.fn.okX sc_read (fun vs H Q E h => ?_) (fun cdv A outer s H vs Q E hr h => ?_)
  · obtain ⟨l, rfl, _⟩ := h
    rfl
  obtain ⟨l, rfl, ll, h7, h⟩ := h
  have small_ : (tx l).length ≤ sizeLine := by
    rw [tx_len]
    exact small ll
  refine ⟨_, pss_cons (ps_asg (pe_call G hr rfl T.nest_at.nm T.nest_at.fn.kp T.nest_at.bd .nil (passes_call (takes_of rfl rfl rfl rfl) fun _ _ _ _ h => h) (pa_cons (pv 0) (pa_cons pe_int pa_nil))) (pg_tup rfl (pgs_cons (pg_name (i := 1) sc_read.nd rfl (Or.inl rfl)) (pgs_cons (pg_name (i := 2) sc_read.nd rfl (Or.inl rfl)) pgs_nil))))
    (pss_cons (ps_if (pt_cmpR op_ne (pv 2) (pe_callB call_len_str rfl T.z_len PySem.boot_len (pa_cons (pv 0) pa_nil)) (nomark _)) (pss_one (ps_raise rfl (takes_of rfl rfl rfl rfl) (pmk_own PySem.F.excBase_ValueError T.x_NoText.q T.x_NoText.g T.x_NoText.k (raises_own T.x_NoText.s T.x_NoText.t) rfl))) pss_nil)
    (pss_one (ps_ret (pv 1)))), ?_⟩
  have args : ([V.str (tx l), .int 0] : List V) = [.str (tx l), .int ((l.length - l.length : Nat) : Int)] := by
    rw [Nat.sub_self]
    rfl
  refine ⟨_, rfl, l, l, args, List.suffix_refl l, ll, by omega, h7, ?_⟩
  have two : (∃ n r, Ok l n r ∧ ((r = [] ∧ ∀ v H', Same H H' → Na K H' v n → Q v H') ∨ (r ≠ [] ∧ ∀ H', Same H H' → E (.ref (fs 3)) none H'))) ∨ (Bad l ∧ ∀ H', Same H H' → E (.ref (fs 3)) none H') := by
    rcases h with ⟨n, ok, q⟩ | ⟨no, e⟩
    · exact .inl ⟨n, [], ok, .inl ⟨rfl, q⟩⟩
    · rcases no with bad | ⟨n, r, ok, z⟩
      · exact .inr ⟨bad, e⟩
      · exact .inl ⟨n, r, ok, .inr ⟨z, e⟩⟩
  rcases two with ⟨n, r, ok, go⟩ | ⟨bad, e⟩
  case inr => exact .inr ⟨bad, e⟩
  refine .inl ⟨n, r, ok, fun t v Ha ga ht hv => ⟨t, _, rfl, SqT.of ht, rfl, _, _, rfl, _, _, rfl, rfl, ?_⟩⟩
  have lr := ok.suf.1.length_le
  refine ⟨_, rfl, _, rfl, tx l, rfl, small_, rfl, _, rfl, ?_⟩
  rcases go with ⟨rfl, q⟩ | ⟨z, e⟩
  · refine skip_iff ?_ ⟨_, rfl, q _ _ ga hv⟩
    rw [tx_len]
    rfl
  · refine fall_iff (fun y => ?_) (e _ ga)
    have y2 := V.int.inj y
    rw [tx_len] at y2
    have : r.length ≠ 0 := fun e0 => z (List.eq_nil_of_length_eq_zero e0)
    omega
/-- what read tells of a text; None for a refusal with NoText alone -/
def spLR (K : PySem.W.Frag) : Sp := fun vs H Q _ => ∃ l, vs = [.str (tx l)] ∧ l.length ≤ 100000 ∧ hgt l ≤ 7 ∧
  ((∃ n, Ok l n [] ∧ ∀ v H', Same H H' → Na K H' v n → Q v H') ∨ (NoTx l ∧ ∀ H', Same H H' → Q .non H'))
theorem sc_law_read : FnScope ["_law_text_here", "_law_found", "e"] ["_law_text_here"] (defScope s_law_read) := ⟨rfl, rfl, rfl, by decide +kernel, rfl, by decide +kernel, by decide +kernel⟩
theorem law_read_ok {fs : Nat → Addr} {fds : Nat → FuncData} (T : Top K mg fs fds) : FnOk P w K mg base CX0 21 (fs 28) (fds 28) ["_law_text_here"] (spLR K) := by
  have GR := read_ok (P := P) (w := w) (base := base) T
  refine T.law_read.fn.ok sc_law_read (fun vs H Q E h => ?_) (fun cdv A outer s H vs Q E hr h => ?_)
  · obtain ⟨l, rfl, _⟩ := h
    rfl
  obtain ⟨l, rfl, ll, h7, h⟩ := h
  refine ⟨_, pss_cons (ps_set (i := 1) sc_law_read.nd rfl (Or.inl rfl) pe_str)
    (pss_cons (ps_try_as (i := 2) rfl rfl sc_law_read.nd rfl rfl ⟨rfl, by decide, .inl T.g_SetError⟩ takes0 (fun W pn xe tk _ => (pss_one (ps_set (i := 1) sc_law_read.nd rfl (Or.inl rfl) (pe_callS GR hr rfl T.read.nm T.read.fn.kp T.read.bd (fun σ => passAt tk σ) (pa_cons (pv 0) pa_nil))))) (fun a oe cls d pn hz hf => (pss_one (ps_if (PW.pt (pw_and (pt_val (pe_callB (call_isEC T.x_NoText.c hz hf) rfl T.z_isinstance PyProof.Rows.boot_isinstance (pa_cons (pv 2) (pa_cons (pe_glob (v := .ref _) rfl T.g_NoText rfl) pa_nil)))) (pw_and (pt_not (pt_val (pe_callB (call_isET T.x_NoText.c hz hf) rfl T.z_isinstance PyProof.Rows.boot_isinstance (pa_cons (pv 2) (pa_cons (pe_tup (pa_cons (pe_glob (v := .ref _) rfl T.g_NoNumber rfl) (pa_cons (pe_glob (v := .ref _) rfl T.g_NoPair rfl) (pa_cons (pe_glob (v := .ref _) rfl T.g_NoSet rfl) pa_nil)))) pa_nil))))) (pw_and1 (pt_val (pe_callB (call_isEC T.x_NoText.c hz hf) rfl T.z_isinstance PyProof.Rows.boot_isinstance (pa_cons (pv 2) (pa_cons (pe_bltn (v := .ty "ValueError") rfl T.z_ValueError (by decide +kernel) rfl) pa_nil)))))))) (pss_one (ps_set (i := 1) sc_law_read.nd rfl (Or.inl rfl) pe_non)) pss_nil))))
    (pss_one (ps_ret (pv 1)))), ?_⟩
  refine ⟨_, rfl, l, rfl, ll, h7, ?_⟩
  rcases h with ⟨n, ok, q⟩ | ⟨no, q⟩
  · exact .inl ⟨n, ok, fun v H1 g1 hv => ⟨_, rfl, q _ _ g1 hv⟩⟩
  · refine .inr ⟨no, fun H1 g1 => ⟨true, T.x_NoText.m, fun _ e ne => ?_, fun z => Bool.noConfusion z⟩⟩
    refine ⟨_, rfl, rfl, rfl, .ref (fs 3), .ref (fs 3), true, rfl, fun u r => r, kit_self, _, rfl, iteT ?_⟩
    refine ⟨_, rfl, (by show 3 ≤ sizeLine; decide), fun t nt => ⟨rfl, rfl, t, _, [.ref (fs 2), .ref (fs 4), .ref (fs 5)], false, rfl, upd_same, .cons (.own _) (.cons (.own _) (.cons (.own _) .nil)), (kitAny_cons T.o_NoNumber (fun _ => kitAny_cons T.o_NoPair (fun _ => kitAny_cons T.o_NoSet (fun _ => kitAny_nil) (fun z => nomatch z)) (fun z => nomatch z)) (fun z => nomatch z)), _, rfl, iteT ?_⟩⟩
    refine ⟨_, rfl, rfl, rfl, .ty "ValueError", .type "ValueError", true, rfl, fun u r => r, T.x_NoText.v, _, rfl, iteT ?_⟩
    exact ⟨_, rfl, q _ (g1.trans (same_new nt _))⟩
/-- spoilt(text, cell): an edit at a place -/
def spSpT : Sp := fun vs H Q _ => ∃ (l : List Nat) (c : Int), vs = [.str (tx l), .int c] ∧ l.length ≤ 40000 ∧ 120 ∉ l ∧ ∀ l', Edit l l' → Q (.str (tx l')) H
theorem sign_pick : ∀ j, j < 10 → (Str.ofString "{},a 1(}{,").cps.toList[j]? = some ((Str.ofString "{},a 1(}{,").cps.toList.getD j 0) ∧ (Str.ofString "{},a 1(}{,").cps.toList.getD j 0 ≠ 120 := by decide +kernel
theorem rest_nat (c : Int) {d : Nat} (h : 0 < d) : ∃ r : Nat, c % (d : Int) = (r : Int) ∧ r < d := by
  have h1 := Int.emod_nonneg c (show (d : Int) ≠ 0 by omega)
  have h2 := Int.emod_lt_of_pos c (show (0 : Int) < d by omega)
  exact ⟨(c % (d : Int)).toNat, (Int.toNat_of_nonneg h1).symm, by omega⟩
theorem sc_law_spoilt : FnScope ["_law_text_here", "_law_cell_here", "_law_at", "_law_sign"] ["_law_text_here", "_law_cell_here"] (defScope s_law_spoilt) := ⟨rfl, rfl, rfl, by decide +kernel, rfl, by decide +kernel, by decide +kernel⟩
theorem law_spoilt_ok {fs : Nat → Addr} {fds : Nat → FuncData} (T : Top K mg fs fds) : FnOk P w K mg base CX0 1 (fs 26) (fds 26) ["_law_text_here", "_law_cell_here"] spSpT := by
  refine T.law_spoilt.fn.ok sc_law_spoilt (fun vs H Q E h => ?_) (fun cdv A outer s H vs Q E hr h => ?_)
  · obtain ⟨l, c, rfl, _⟩ := h
    rfl
  obtain ⟨l, c, rfl, ll, clean, q⟩ := h
  have small_ : (tx l).length ≤ sizeLine := by
    rw [tx_len]
    exact small (by omega)
  refine ⟨_, pss_cons (ps_set (i := 2) sc_law_spoilt.nd rfl (Or.inl rfl) (pe_op op_mod (pe_op op_fdiv (pv 1) pe_int) (pe_op op_add (pe_callB call_len_str rfl T.z_len PySem.boot_len (pa_cons (pv 0) pa_nil)) pe_int)))
    (pss_cons (ps_set (i := 3) sc_law_spoilt.nd rfl (Or.inl rfl) (pe_ix ix_str pe_str (pe_op op_mod (pe_op op_fdiv (pv 1) pe_int) pe_int) (fun _ _ => rfl)))
    (pss_cons (ps_if (pt_cmpR op_eq (pe_op op_mod (pv 1) pe_int) pe_int (nomark _)) (pss_one (ps_ret (pe_op op_add_str (pe_slice sl_str (pv 0) po_none (po_some (pv 2))) (pe_slice sl_str (pv 0) (po_some (pe_op op_add (pv 2) pe_int)) po_none)))) pss_nil)
    (pss_cons (ps_if (pt_cmpR op_eq (pe_op op_mod (pv 1) pe_int) pe_int (nomark _)) (pss_one (ps_ret (pe_op op_add_str (pe_op op_add_str (pe_slice sl_str (pv 0) po_none (po_some (pv 2))) (pe_slice sl_str (pv 0) (po_some (pv 2)) (po_some (pe_op op_add (pv 2) pe_int)))) (pe_slice sl_str (pv 0) (po_some (pv 2)) po_none)))) pss_nil)
    (pss_one (ps_ret (pe_op op_add_str (pe_op op_add_str (pe_slice sl_str (pv 0) po_none (po_some (pv 2))) (pv 3)) (pe_slice sl_str (pv 0) (po_some (pe_op op_sub (pe_op op_add (pv 2) (pe_op op_mod (pv 1) pe_int)) pe_int)) po_none))))))), ?_⟩
  obtain ⟨a, ea, la⟩ := rest_nat (c / 4) (d := l.length + 1) (Nat.succ_pos _)
  have ea' : c / 4 % (((tx l).length : Int) + 1) = (a : Int) := by
    rw [← ea, tx_len]
    rfl
  obtain ⟨j, ej, lj⟩ := rest_nat (c / 512) (d := 10) (by decide)
  obtain ⟨m, em, lm⟩ := rest_nat c (d := 4) (by decide)
  have em' : c % 4 = (m : Int) := em
  obtain ⟨sj, s120⟩ := sign_pick j lj
  refine ⟨_, rfl, _, _, rfl, rfl, ⟨by decide, by decide⟩, _, rfl, tx l, rfl, small_, _, _, rfl, rfl, _, _, rfl, rfl, (by omega), gname_at (congrArg V.int ea') ?_⟩
  refine ⟨_, rfl, _, _, rfl, rfl, ⟨by decide, by decide⟩, _, _, rfl, rfl, (by decide : (0 : Int) < 10), _, _, _, rfl, rfl, (by decide), (show atI _ (c / 512 % ((10 : Nat) : Int)) = some ((Str.ofString "{},a 1(}{,").cps.toList.getD j 0) by rw [ej]; exact atI_nat sj), ?_⟩
  generalize (Str.ofString "{},a 1(}{,").cps.toList.getD j 0 = g at s120
  have one : ∀ (b : Nat) (s : List Nat), a ≤ b → b ≤ a + 1 → s.length ≤ 1 → 120 ∉ s → ∀ x, x = tx (l.take a ++ (s ++ l.drop b)) → Q (.str x) H := fun b s h1 h2 h3 h4 x e => by
    rw [e]
    exact q _ ⟨a, b, s, h1, h2, h3, h4, rfl⟩
  have l2 : (l.take a).length ≤ l.length := by
    rw [List.length_take]
    omega
  have l3 : ∀ b, (l.drop b).length ≤ l.length := fun b => by
    rw [List.length_drop]
    omega
  refine ⟨_, rfl, _, _, rfl, rfl, (by decide : (0 : Int) < 4), rfl, _, rfl, ?_⟩
  have e1 : (a : Int) + 1 = ((a + 1 : Nat) : Int) := by omega
  by_cases c0 : c % 4 = 0
  · refine yes_iff (congrArg V.int c0) ?_
    refine ⟨_, rfl, _, rfl, _, rfl, tx l, rfl, small_, _, rfl, _, rfl, _, _, rfl, rfl, _, rfl, tx l, rfl, small_, ?_⟩
    rw [e1, cut_to, cut_from]
    refine ⟨_, _, rfl, rfl, ?_, one (a + 1) [] (by omega) (by omega) (by decide) (fun z => by cases z) _ ?_⟩
    · have := l3 (a + 1)
      rw [tx_len, tx_len]
      exact small (by omega)
    · rw [tx_app]
      rfl
  refine no_iff (fun z => c0 (V.int.inj z)) ?_
  refine ⟨_, rfl, _, _, rfl, rfl, (by decide : (0 : Int) < 4), rfl, _, rfl, ?_⟩
  by_cases c1 : c % 4 = 1
  · refine yes_iff (congrArg V.int c1) ?_
    refine ⟨_, rfl, _, rfl, _, rfl, tx l, rfl, small_, _, rfl, _, rfl, _, rfl, _, rfl, _, _, rfl, rfl, _, rfl, tx l, rfl, small_, ?_⟩
    rw [e1, cut_to, cut_tx, Nat.add_sub_cancel_left]
    have l1 : ((l.drop a).take 1).length ≤ 1 := by
      rw [List.length_take]
      omega
    refine ⟨_, _, rfl, rfl, ?_, _, rfl, _, rfl, _, rfl, tx l, rfl, small_, ?_⟩
    · rw [tx_len, tx_len]
      exact small (by omega)
    rw [cut_from, tx_app]
    refine ⟨_, _, rfl, rfl, ?_, one a ((l.drop a).take 1) (Nat.le_refl _) (by omega) l1 (fun z => clean (List.mem_of_mem_drop (List.mem_of_mem_take z))) _ ?_⟩
    · have := l3 a
      rw [tx_len, tx_len, List.length_append]
      exact small (by omega)
    · rw [tx_app, List.append_assoc]
  refine no_iff (fun z => c1 (V.int.inj z)) ?_
  have e2 : (a : Int) + c % 4 - 2 = ((a + (m - 2) : Nat) : Int) := by omega
  refine ⟨_, rfl, _, rfl, _, rfl, tx l, rfl, small_, _, rfl, ?_⟩
  rw [cut_to]
  refine ⟨_, _, rfl, rfl, ?_, _, rfl, _, rfl, _, rfl, _, _, rfl, rfl, (by decide : (0 : Int) < 4), _, _, rfl, rfl, _, _, rfl, rfl, _, rfl, tx l, rfl, small_, ?_⟩
  · show (tx (l.take a)).length + (tx [g]).length ≤ sizeLine
    rw [tx_len, tx_len]
    exact small (by simp only [List.length_singleton]; omega)
  rw [e2, cut_from]
  show ∃ i j, V.str (tx (l.take a) ++ tx [g]) = V.str i ∧ _
  rw [tx_app]
  refine ⟨_, _, rfl, rfl, ?_, one (a + (m - 2)) [g] (by omega) (by omega) (Nat.le_refl _) (fun z => s120 (List.mem_singleton.mp z).symm) _ ?_⟩
  · have := l3 (a + (m - 2))
    rw [tx_len, tx_len, List.length_append]
    exact small (by simp only [List.length_singleton]; omega)
  · rw [tx_app, List.append_assoc]
/-- is_text(text): the rewriting tells what the scan tells -/
def spIsT : Sp := fun vs H Q _ => ∃ l : List Nat, vs = [.str (tx l)] ∧ l.length ≤ 100000 ∧ Q (.bl (acc 1 0 l)) H
theorem sg_nil : Str.ofString "{}" = tx [123, 125] := rfl
theorem sg_x : Str.ofString "x" = tx [120] := rfl
theorem sg_one : Str.ofString "{x}" = tx [123, 120, 125] := rfl
theorem sg_two : Str.ofString "{x,x" = tx [123, 120, 44, 120] := rfl
theorem sg_less : Str.ofString "{x" = tx [123, 120] := rfl
theorem sc_law_is_text : FnScope ["_law_text_here", "_law_more", "_law_shorter"] ["_law_text_here"] (defScope s_law_is_text) := ⟨rfl, rfl, rfl, by decide +kernel, rfl, by decide +kernel, by decide +kernel⟩
theorem law_is_text_ok {fs : Nat → Addr} {fds : Nat → FuncData} (T : Top K mg fs fds) : FnOk P w K mg base CX0 1 (fs 27) (fds 27) ["_law_text_here"] spIsT := by
  refine fun_okT T.law_is_text.fn sc_law_is_text (by decide +kernel) (by decide) (fun vs H Q E h => ?_) (fun cdv A outer s H vs Q E hr h => ?_)
  · obtain ⟨l, rfl, _⟩ := h
    rfl
  obtain ⟨l, rfl, ll, q⟩ := h
  refine ⟨_, psst_cons (PST.of (ps_set (i := 1) sc_law_is_text.nd rfl (Or.inl rfl) pe_bl))
    (psst_cons (pst_while PassesOwn.never (pt_truth (pv 1) (by intro _; rfl))
      (psst_cons (pst_set (k := 2) sc_law_is_text.nd rfl (Or.inl rfl) (CwR.pet_replT (CwR.pet_replT (CwR.pet_replC (pv 0)))))
      (psst_cons (PST.of (ps_set (i := 1) sc_law_is_text.nd rfl (Or.inl rfl) (pe_cmpR op_ne (pv 2) (pv 0) (nomark _))))
      (CwR.psst_one (PST.of (ps_set (i := 0) sc_law_is_text.nd rfl (Or.inl rfl) (pv 2)))))))
    (CwR.psst_one (PST.of (ps_ret (pe_cmpR op_eq (pv 0) pe_str (nomark _)))))), ?_⟩
  refine ⟨fun m σ H' => H' = H ∧ ∃ u b v2, σ = [some (.str (tx u)), some (.bl b), v2] ∧ acc 1 0 u = acc 1 0 l ∧ u.length ≤ l.length ∧ (b = false → rnd u = u) ∧ m = u.length + (if b = true then 1 else 0),
    ⟨_, rfl, l, true, none, rfl, rfl, Nat.le_refl _, fun z => (by cases z), rfl⟩, ?_⟩
  rintro m σ H' ⟨rfl, u, b, v2, rfl, ea, lu, fix, rfl⟩
  refine ⟨_, rfl, b, rfl, ?_⟩
  refine ite_bl (fun c => ?_) (fun c => ?_)
  · subst c
    have s1 := repl_short (y := [123, 125]) (z := [120]) (by decide) _ u (Nat.le_refl _)
    have s2 := repl_short (y := [123, 120, 125]) (z := [120]) (by decide) _ (PySem.StrLaws.replL [123, 125] [120] u) (Nat.le_refl _)
    have rl := rnd_len u
    have la := s1.1
    have lb := s2.1
    have lc := rl.1
    refine ⟨fun σ' H1 => H1 = H' ∧ ∃ v2, σ' = [some (.str (tx (rnd u))), some (.bl (!decide (rnd u = u))), v2], fun σ' H1 z => ?_, ?_⟩
    · obtain ⟨rfl, v2, rfl⟩ := z
      by_cases same : rnd u = u
      · refine ⟨u.length, by rw [if_pos rfl]; omega, rfl, u, false, v2, ?_, ea, lu, fun _ => same, rfl⟩
        rw [decide_eq_true same, same]
        rfl
      · refine ⟨(rnd u).length + 1, ?_, rfl, rnd u, true, v2, ?_, (rnd_acc u 1 0).trans ea, by omega, fun z => (by cases z), rfl⟩
        · rw [if_pos rfl]
          have : (rnd u).length ≠ u.length := fun z => same (rl.2 z).1
          omega
        · rw [decide_eq_false same]
          rfl
    · refine ⟨_, rfl, tx u, rfl, ?_, ?_⟩
      · rw [sg_x, tx_len, tx_len]
        simp only [List.length_singleton]
        omega
      rw [sg_nil, sg_x, repl_tx (by decide)]
      refine ⟨_, rfl, ?_, ?_⟩
      · rw [tx_len, tx_len]
        simp only [List.length_singleton]
        omega
      rw [sg_one, repl_tx (by decide)]
      refine ⟨_, rfl, ?_, ?_⟩
      · rw [sg_less, tx_len, tx_len]
        simp only [List.length_cons, List.length_nil]
        omega
      rw [sg_two, sg_less, repl_tx (by decide)]
      have e : decide (V.str (tx (rnd u)) = V.str (tx u)) = decide (rnd u = u) := decide_eq_decide.mpr ⟨fun z => tx_inj (V.str.inj z), fun z => by rw [z]⟩
      refine ⟨_, rfl, _, rfl, rfl, gname_at (congrArg (fun b => V.bl (!b)) e) ?_⟩
      exact ⟨_, rfl, rfl, _, rfl⟩
  · refine ⟨_, rfl, rfl, ?_⟩
    have e : decide (V.str (tx u) = V.str (Str.ofString "x")) = acc 1 0 l := by
      rw [← ea, ← fixed (fix c)]
      exact decide_eq_decide.mpr ⟨fun z => tx_inj (V.str.inj z), fun z => by rw [z]; rfl⟩
    rw [e]
    exact q
end
end Nk
namespace Nk
open PySem L2
section
variable {P : Program} {w : World} {K : PySem.W.Frag} {mg : Str → Option Value} {base : Heap}
theorem sc_law : FnScope ["_law_script", "_law_k", "_law_one", "_law_cell_here", "_law_bad", "_law_found"] ["_law_script"] (defScope s_law) := ⟨rfl, rfl, rfl, by decide +kernel, rfl, by decide +kernel, by decide +kernel⟩
theorem txl_thin : ∀ (d n : Nat), Thin 3 n → dep n < d → (txl n).length ≤ lim d
  | 0, _, _, h => absurd h (Nat.not_lt_zero _)
  | d + 1, n, th, h => by
    have t := txl_len n
    have l3 := th.len
    have s : ((bits n).map fun k => (txl k).length + 1).sum ≤ (bits n).length * (lim d + 1) := by
      have each : ∀ k ∈ bits n, (txl k).length + 1 ≤ lim d + 1 := fun k hk => by
        have := dep_mem hk
        have := txl_thin d k (th.mem k hk) (by omega)
        omega
      generalize bits n = l at each
      induction l with
      | nil => exact Nat.zero_le _
      | cons a l ih =>
        have h1 := each a List.mem_cons_self
        have h2 := ih fun k hk => each k (List.mem_cons_of_mem _ hk)
        rw [List.map_cons, List.sum_cons, List.length_cons, Nat.succ_mul]
        omega
    have s2 := Nat.mul_le_mul_right (lim d + 1) l3
    show _ ≤ 5 * lim d + 7
    omega
/-- the thirteen texts that tell no nest -/
def wrong : List (List Nat) := [[], [123], [125], [123, 125, 44], [123, 125, 123, 125], [123, 44, 125], [123, 123, 125, 44, 125], [123, 44, 123, 125, 125], [32, 123, 125], [123, 125, 32], [120], [123, 120, 125], [123, 125, 125]]
theorem wrong_no : ∀ l ∈ wrong, NoTx l ∧ l.length ≤ 100000 ∧ hgt l ≤ 7 := by
  intro l h
  refine ⟨?_, ?_⟩
  · by_cases e1 : l = [120]
    · rw [e1]
      exact .inl (.head (by decide))
    by_cases e2 : l = [123, 120, 125]
    · rw [e2]
      exact .inl (.mem (by decide) (.here (.head (by decide))))
    have all : ∀ l ∈ wrong, l ≠ [120] → l ≠ [123, 120, 125] → acc 1 0 l = false := by decide +kernel
    exact noTx_of (all l h e1 e2)
  · have all : ∀ l ∈ wrong, l.length ≤ 100000 ∧ hgt l ≤ 7 := by decide +kernel
    exact all l h
theorem law_ok {fs : Nat → Addr} {fds : Nat → FuncData} (T : Top K mg fs fds) : FnOk P w K mg base CX0 121 (fs 29) (fds 29) ["_law_script"] (spLaw K) := by
  have GS := some_ok (P := P) (w := w) (base := base) T
  have GX := cell_ok (P := P) (w := w) (base := base) T
  have GW := written_ok (P := P) (w := w) (base := base) T 8
  have GT := law_text_ok (P := P) (w := w) (base := base) T 8
  have GLo := law_loose_ok (P := P) (w := w) (base := base) T 5
  have GR := read_ok (P := P) (w := w) (base := base) T
  have GSp := law_spoilt_ok (P := P) (w := w) (base := base) T
  have GLR := law_read_ok (P := P) (w := w) (base := base) T
  have GIs := law_is_text_ok (P := P) (w := w) (base := base) T
  have GI := is_nest_ok (P := P) (w := w) (base := base) T 20
  refine T.law.fn.ok sc_law (fun vs H Q E h => ?_) (fun cdv A outer s H vs Q E hr h => ?_)
  · obtain ⟨a, ns, rfl, _⟩ := h
    rfl
  obtain ⟨a, ns, rfl, hS, h63, q⟩ := h
  have r1 : Room 1 _ := hr.mono (by decide)
  have r5 : Room 5 _ := hr.mono (by decide)
  have r8 : Room 8 _ := hr.mono (by decide)
  have r20 : Room 20 _ := hr.mono (by decide)
  have r21 : Room 21 _ := hr.mono (by decide)
  have r72 : Room (52 + 20) _ := hr.mono (by decide)
  have r106 : Room 106 _ := hr.mono (by decide)
  refine ⟨_, pss_cons (ps_for PassesOwn.never rfl (pi_enum rfl T.z_enumerate (pa_cons (pe_call GS r106 rfl T.law_some.nm T.law_some.fn.kp T.law_some.bd .nil pass0 (pa_cons (pv 0) (pa_cons pe_int (pa_cons pe_int pa_nil)))) pa_nil)) (pg_tup rfl (pgs_cons (pg_name (i := 1) sc_law.nd rfl (Or.inl rfl)) (pgs_cons (pg_name (i := 2) sc_law.nd rfl (Or.inl rfl)) pgs_nil))) (pss_cons (ps_set (i := 3) sc_law.nd rfl (Or.inl rfl) (pe_call GX r1 rfl T.law_cell.nm T.law_cell.fn.kp T.law_cell.bd .nil pass0 (pa_cons (pv 0) (pa_cons (pe_op op_add pe_int (pv 1)) pa_nil))))
    (pss_cons (ps_if (PW.pt (pw_or (pt_cmpR op_ne (pe_call GW r8 rfl T.written.nm T.written.fn.kp T.written.bd .nil pass0 (pa_cons (pv 2) pa_nil)) (pe_call GT r8 rfl T.law_text.nm T.law_text.fn.kp T.law_text.bd .nil pass0 (pa_cons (pv 2) pa_nil)) (nomark _)) (pw_or (pt_cmpR (one' (K := K) hr) (pe_call GR r20 rfl T.read.nm T.read.fn.kp T.read.bd .nil passL (pa_cons (pe_call GT r8 rfl T.law_text.nm T.law_text.fn.kp T.law_text.bd .nil pass0 (pa_cons (pv 2) pa_nil)) pa_nil)) (pv 2) (nomark _)) (pw_or1 (pt_cmpR (one' (K := K) hr) (pe_call GR r20 rfl T.read.nm T.read.fn.kp T.read.bd .nil passL (pa_cons (pe_call GLo r5 rfl T.law_loose.nm T.law_loose.fn.kp T.law_loose.bd .nil pass0 (pa_cons (pv 2) (pa_cons (pv 3) pa_nil))) pa_nil)) (pv 2) (nomark _)))))) (pss_one (ps_ret pe_bl)) pss_nil)
    (pss_cons (ps_set (i := 4) sc_law.nd rfl (Or.inl rfl) (pe_call GSp r1 rfl T.law_spoilt.nm T.law_spoilt.fn.kp T.law_spoilt.bd .nil pass0 (pa_cons (pe_call GT r8 rfl T.law_text.nm T.law_text.fn.kp T.law_text.bd .nil pass0 (pa_cons (pv 2) pa_nil)) (pa_cons (pv 3) pa_nil))))
    (pss_cons (ps_set (i := 5) sc_law.nd rfl (Or.inl rfl) (pe_call GLR r21 rfl T.law_read.nm T.law_read.fn.kp T.law_read.bd .nil pass0 (pa_cons (pv 4) pa_nil)))
    (pss_one (ps_if (PW.pt (pw_and (pt_val (pe_call GIs r1 rfl T.law_is_text.nm T.law_is_text.fn.kp T.law_is_text.bd .nil pass0 (pa_cons (pv 4) pa_nil))) (pw_and1 (pt_cmpR op_notIn_sign pe_str (pv 4) (by rfl))))) (pss_one (ps_if (PW.pt (pw_or (pt_not (pt_val (pe_callB (call_ist (K := K)) rfl T.z_isinstance PyProof.Rows.boot_isinstance (pa_cons (pv 5) (pa_cons (pe_bltn (v := .ty "tuple") rfl T.z_tuple PyProof.Rows.boot_tuple rfl) pa_nil))))) (pw_or (pt_not (pt_val (pe_call GI r72 rfl T.is_nest.nm T.is_nest.fn.kp T.is_nest.bd .nil pass0 (pa_cons (pv 5) pa_nil)))) (pw_or1 (pt_cmpR (one' (K := K) hr) (pe_call GR r20 rfl T.read.nm T.read.fn.kp T.read.bd .nil passL (pa_cons (pe_call GT r8 rfl T.law_text.nm T.law_text.fn.kp T.law_text.bd .nil pass0 (pa_cons (pv 5) pa_nil)) pa_nil)) (pv 5) (nomark _)))))) (pss_one (ps_ret pe_bl)) pss_nil)) (pss_one (ps_if (pt_cmpR op_notN (pv 5) pe_non (nomark _)) (pss_one (ps_ret pe_bl)) pss_nil)))))))))
    (pss_cons (ps_for PassesOwn.never rfl (pi_list (pe_lst (pa_cons pe_str (pa_cons pe_str (pa_cons pe_str (pa_cons pe_str (pa_cons pe_str (pa_cons pe_str (pa_cons pe_str (pa_cons pe_str (pa_cons pe_str (pa_cons pe_str (pa_cons pe_str (pa_cons pe_str (pa_cons pe_str pa_nil))))))))))))))) (pg_name (i := 4) sc_law.nd rfl (Or.inl rfl)) (pss_one (ps_if (pt_cmpR op_notN (pe_call GLR r21 rfl T.law_read.nm T.law_read.fn.kp T.law_read.bd .nil pass0 (pa_cons (pv 4) pa_nil)) pe_non (nomark _)) (pss_one (ps_ret pe_bl)) pss_nil)))
    (pss_one (ps_ret pe_bl))), ?_⟩
  refine ⟨_, rfl, a, 0, 6, ns, rfl, hS, h63, by decide, fun L H1 xs ms g1 hL hx hm lm thm => ?_⟩
  have hall : ∀ k ∈ ms ++ [0], dep k ≤ 4 ∧ Thin 3 k := fun k hk => by
    rcases List.mem_append.mp hk with hk | hk
    · exact ⟨(hm k hk).1, thm k hk⟩
    · rw [List.mem_singleton.mp hk]
      exact ⟨by rw [dep_zero]; decide, thin_zero 3⟩
  have l5 : lim 5 = 5467 := rfl
  refine ⟨L, xs, rfl, SqL.of hL, for_it (walk_enum (K := K) (a := L) (xs := xs)) (fun i σ H' => ∃ v1 v2 v3 v4 v5, σ = [some (.ref a), v1, v2, v3, v4, v5] ∧ Same H1 H')
    ⟨_, _, _, _, _, rfl, Same.refl _⟩ (fun i σ H' _ p => by obtain ⟨_, _, _, _, _, _, g⟩ := p; exact SqL.of (g _ _ hL)) ?_ ?_⟩
  · rintro i x σ H' H'' hi ⟨v1, v2, v3, v4, v5, rfl, gg⟩ ⟨Tt, u, y, rfl, nT, rfl, e1, e2⟩
    cases e1
    obtain ⟨n, _, hn, hy⟩ := NaAll.at hx e2
    obtain ⟨dn, th⟩ := hall n hn
    have sT := same_new nT (.tup [.int ((i : Nat) : Int), y])
    refine ⟨Tt, _, rfl, SqT.of upd_same, rfl, _, _, rfl, _, _, rfl, rfl, ?_⟩
    have gT := gg.trans sT
    generalize upd H' Tt (.tup [.int ((i : Nat) : Int), y]) = H2 at sT gT ⊢
    have hy2 := hy.same gT
    have lt := txl_thin 5 n th (by omega)
    have ht := hgt_txl n
    refine ⟨_, rfl, _, rfl, _, _, rfl, rfl, a, ns, 6 + i, congrArg (fun z => [V.ref a, V.int z]) (by omega), (g1.trans gT).seq hS, fun c => ?_⟩
    refine ⟨_, rfl, y, n, rfl, hy2, by omega, by omega, fun H3 g3 => ⟨_, rfl, y, n, rfl, hy2.same g3, by omega, by omega, fun H4 g4 => ⟨rfl, _, rfl, skip_iff rfl ?_⟩⟩⟩
    have hy4 := (hy2.same g3).same g4
    refine ⟨_, rfl, y, n, rfl, hy4, by omega, by omega, fun H5 g5 => ⟨txl n, rfl, by omega, by omega, .inl ⟨n, (shows_txl n).read, fun v H6 g6 hv => ⟨_, rfl, n, n, hv, (hy4.same g5).same g6, by omega, by omega, _, rfl, skip_iff rfl ?_⟩⟩⟩⟩
    have hy6 := (hy4.same g5).same g6
    refine ⟨_, rfl, _, rfl, y, n, c, rfl, hy6, by omega, th, by omega, fun l H7 sh ll g7 => ?_⟩
    have hl := sh.hgt_le
    refine ⟨l, rfl, by omega, by omega, .inl ⟨n, sh.read, fun v2 H8 g8 hv2 => ⟨_, rfl, n, n, hv2, (hy6.same g7).same g8, by omega, by omega, _, rfl, skip_iff rfl ?_⟩⟩⟩
    have hy8 := (hy6.same g7).same g8
    refine ⟨_, rfl, y, n, rfl, hy8, by omega, by omega, fun H9 g9 => ⟨_, rfl, txl n, c, rfl, by omega, txl_clean n, fun l' ed => ?_⟩⟩
    have clean := ed.clean (txl_clean n)
    have le := ed.len
    have he := ed.high
    have G9 := gT.trans (g3.trans (g4.trans (g5.trans (g6.trans (g7.trans (g8.trans g9))))))
    refine ⟨_, rfl, l', rfl, by omega, by omega, ?_⟩
    rcases tx_or l' with ⟨m, ok⟩ | no
    · refine .inl ⟨m, ok, fun v Ha ga hv => ?_⟩
      have lo := ok.low.2
      have sk := ok.shrink
      have dd := dat_depth m
      have tu : isTu (dat m) = true := by
        rw [dat_eq]
        rfl
      refine ⟨_, rfl, l', rfl, by omega, ?_⟩
      rw [ok_acc ok]
      refine ⟨_, rfl, iteT ?_⟩
      refine ⟨_, rfl, 120, tx l', rfl, rfl, _, rfl, fall_iff (by rw [tx_list]; exact clean) ?_⟩
      refine ⟨_, rfl, v, dat m, rfl, hv.dp, _, rfl, ?_⟩
      rw [tu]
      refine iteF ?_
      refine ⟨_, rfl, v, dat m, rfl, hv.dp, by omega, by omega, fun b Hb gb hb => ?_⟩
      obtain rfl : b = true := hb.mpr ⟨m, rfl⟩
      refine ⟨_, rfl, iteF ?_⟩
      have hvb := hv.same gb
      refine ⟨_, rfl, v, m, rfl, hvb, by omega, by omega, fun Hc gc => ⟨txl m, rfl, by omega, by have := hgt_txl m; omega, .inl ⟨m, (shows_txl m).read, fun v3 Hd gd hv3 => ⟨_, rfl, m, m, hv3, (hvb.same gc).same gd, by omega, by omega, _, rfl, skip_iff rfl ?_⟩⟩⟩⟩
      exact ⟨_, _, _, _, _, rfl, G9.trans (ga.trans (gb.trans (gc.trans gd)))⟩
    · refine .inr ⟨no, fun Ha ga => ?_⟩
      refine ⟨_, rfl, l', rfl, by omega, ?_⟩
      rw [noTx_acc no clean]
      refine ⟨_, rfl, iteF ?_⟩
      exact ⟨_, rfl, rfl, _, rfl, skip_iff rfl ⟨_, _, _, _, _, rfl, G9.trans ga⟩⟩
  rintro σ H2 ⟨v1, v2, v3, v4, v5, rfl, gg⟩
  refine ⟨(by show 13 ≤ sizeLine; decide), fun b nb => ?_⟩
  have hb : (upd H2 b (.lst (wrong.map fun l => V.str (tx l)))) b = some (.lst (wrong.map fun l => V.str (tx l))) := upd_same
  have sb := same_new nb (.lst (wrong.map fun l => V.str (tx l)))
  have Gb := gg.trans sb
  refine ⟨b, rfl, ⟨_, SqL.of hb⟩, ?_⟩
  have words : ∀ i x, (wrong.map fun l => V.str (tx l))[i]? = some x → ∃ l, x = V.str (tx l) ∧ NoTx l ∧ l.length ≤ 100000 ∧ hgt l ≤ 7 := fun i x hx => by
    obtain ⟨l, hl, e⟩ := List.mem_map.mp (List.mem_of_getElem? hx)
    exact ⟨l, e.symm, wrong_no l hl⟩
  change ∃ W : Nat → Nat → L2.St → Hp → Prop, (∃ m, W 0 m _ (upd H2 b (.lst (wrong.map fun l => V.str (tx l))))) ∧ _
  generalize upd H2 b (.lst (wrong.map fun l => V.str (tx l))) = H3 at sb hb Gb ⊢
  generalize (wrong.map fun l => V.str (tx l)) = ws at hb words
  refine for_list (K := K) (a := b) (xs := ws) (fun i σ H' => ∃ v4, σ = [some (.ref a), v1, v2, v3, v4, v5] ∧ Same H3 H') ⟨_, rfl, Same.refl _⟩ (fun i σ H' _ p => by obtain ⟨_, _, g⟩ := p; exact SqL.of (g _ _ hb)) ?_ ?_
  · rintro i x σ Ha hi ⟨v4, rfl, ga⟩
    obtain ⟨l, rfl, no, ll, h7⟩ := words i x hi
    refine ⟨_, rfl, l, rfl, ll, h7, .inr ⟨no, fun Hb gb => ?_⟩⟩
    exact ⟨rfl, _, rfl, skip_iff rfl ⟨_, rfl, ga.trans gb⟩⟩
  · rintro σ Ha ⟨v4, rfl, ga⟩
    exact q _
end
theorem all_mk {l : PySem.W.OpenLaw} {w : World} {K : PySem.W.Frag} {h : Heap} {mg : Str → Option Value} {fa : Addr} (X : K.In h) (G : h.Ns mainGlobals mg) (hfa : mg "law" = some (.ref fa))
    {f1 f2 f3 f4 f5 f7 f8 f9 f10 f12 f13 f15 f17 f18 f19 f20 f21 f22 f23 f24 f25 f26 f27 f28 f29 : Addr} {od7 an7 od8 an8 od9 an9 od10 an10 od12 an12 od13 an13 od15 an15 od17 an17 od18 an18 od19 an19 od20 an20 od21 an21 od22 an22 od23 an23 od24 an24 od25 an25 od26 an26 od27 an27 od28 an28 od29 an29 : Option Addr} {sl7 sl8 sl9 sl10 sl12 sl13 sl15 sl17 sl18 sl19 sl20 sl21 sl22 sl23 sl24 sl25 sl26 sl27 sl28 sl29 : Array (Option Value)} {oc7 kV7 dc7 pm7 cd7 ct7 oc8 kV8 dc8 pm8 cd8 ct8 oc9 kV9 dc9 pm9 cd9 ct9 oc10 kV10 dc10 pm10 cd10 ct10 oc12 kV12 dc12 pm12 cd12 ct12 oc13 kV13 dc13 pm13 cd13 ct13 oc15 kV15 dc15 pm15 cd15 ct15 oc17 kV17 dc17 pm17 cd17 ct17 oc18 kV18 dc18 pm18 cd18 ct18 oc19 kV19 dc19 pm19 cd19 ct19 oc20 kV20 dc20 pm20 cd20 ct20 oc21 kV21 dc21 pm21 cd21 ct21 oc22 kV22 dc22 pm22 cd22 ct22 oc23 kV23 dc23 pm23 cd23 ct23 oc24 kV24 dc24 pm24 cd24 ct24 oc25 kV25 dc25 pm25 cd25 ct25 oc26 kV26 dc26 pm26 cd26 ct26 oc27 kV27 dc27 pm27 cd27 ct27 oc28 kV28 dc28 pm28 cd28 ct28 oc29 kV29 dc29 pm29 cd29 ct29 : Value}
    (a7 : PySem.W.nsIn K mainGlobals "rank_row" = some (some (.ref f7))) (l7 : K.lookup f7 = some ⟨oc7, od7, .func (PySem.W.fnOf "rank_row" "rank_row" (defArgs s_rank_row) (defBody s_rank_row) (defScope s_rank_row) .none kV7 dc7 pm7 an7 cd7 ct7), sl7⟩) (c7 : PySem.W.codeIn K cd7 "rank_row" = true) (k7 : PySem.W.keepIn K (.ref f7) = true)
    (a8 : PySem.W.nsIn K mainGlobals "is_less" = some (some (.ref f8))) (l8 : K.lookup f8 = some ⟨oc8, od8, .func (PySem.W.fnOf "is_less" "is_less" (defArgs s_is_less) (defBody s_is_less) (defScope s_is_less) .none kV8 dc8 pm8 an8 cd8 ct8), sl8⟩) (c8 : PySem.W.codeIn K cd8 "is_less" = true) (k8 : PySem.W.keepIn K (.ref f8) = true)
    (a9 : PySem.W.nsIn K mainGlobals "is_nest" = some (some (.ref f9))) (l9 : K.lookup f9 = some ⟨oc9, od9, .func (PySem.W.fnOf "is_nest" "is_nest" (defArgs s_is_nest) (defBody s_is_nest) (defScope s_is_nest) .none kV9 dc9 pm9 an9 cd9 ct9), sl9⟩) (c9 : PySem.W.codeIn K cd9 "is_nest" = true) (k9 : PySem.W.keepIn K (.ref f9) = true)
    (a10 : PySem.W.nsIn K mainGlobals "nest" = some (some (.ref f10))) (l10 : K.lookup f10 = some ⟨oc10, od10, .func (PySem.W.fnOf "nest" "nest" (defArgs s_nest) (defBody s_nest) (defScope s_nest) .none kV10 dc10 pm10 an10 cd10 ct10), sl10⟩) (c10 : PySem.W.codeIn K cd10 "nest" = true) (k10 : PySem.W.keepIn K (.ref f10) = true)
    (a12 : PySem.W.nsIn K mainGlobals "nest_at" = some (some (.ref f12))) (l12 : K.lookup f12 = some ⟨oc12, od12, .func (PySem.W.fnOf "nest_at" "nest_at" (defArgs s_nest_at) (defBody s_nest_at) (defScope s_nest_at) .none kV12 dc12 pm12 an12 cd12 ct12), sl12⟩) (c12 : PySem.W.codeIn K cd12 "nest_at" = true) (k12 : PySem.W.keepIn K (.ref f12) = true)
    (a13 : PySem.W.nsIn K mainGlobals "read" = some (some (.ref f13))) (l13 : K.lookup f13 = some ⟨oc13, od13, .func (PySem.W.fnOf "read" "read" (defArgs s_read) (defBody s_read) (defScope s_read) .none kV13 dc13 pm13 an13 cd13 ct13), sl13⟩) (c13 : PySem.W.codeIn K cd13 "read" = true) (k13 : PySem.W.keepIn K (.ref f13) = true)
    (a15 : PySem.W.nsIn K mainGlobals "written" = some (some (.ref f15))) (l15 : K.lookup f15 = some ⟨oc15, od15, .func (PySem.W.fnOf "written" "written" (defArgs s_written) (defBody s_written) (defScope s_written) .none kV15 dc15 pm15 an15 cd15 ct15), sl15⟩) (c15 : PySem.W.codeIn K cd15 "written" = true) (k15 : PySem.W.keepIn K (.ref f15) = true)
    (a17 : PySem.W.nsIn K mainGlobals "_law_cell" = some (some (.ref f17))) (l17 : K.lookup f17 = some ⟨oc17, od17, .func (PySem.W.fnOf "_law_cell" "_law_cell" (defArgs s_law_cell) (defBody s_law_cell) (defScope s_law_cell) .none kV17 dc17 pm17 an17 cd17 ct17), sl17⟩) (c17 : PySem.W.codeIn K cd17 "_law_cell" = true) (k17 : PySem.W.keepIn K (.ref f17) = true)
    (a18 : PySem.W.nsIn K mainGlobals "_law_mix" = some (some (.ref f18))) (l18 : K.lookup f18 = some ⟨oc18, od18, .func (PySem.W.fnOf "_law_mix" "_law_mix" (defArgs s_law_mix) (defBody s_law_mix) (defScope s_law_mix) .none kV18 dc18 pm18 an18 cd18 ct18), sl18⟩) (c18 : PySem.W.codeIn K cd18 "_law_mix" = true) (k18 : PySem.W.keepIn K (.ref f18) = true)
    (a19 : PySem.W.nsIn K mainGlobals "_law_greater" = some (some (.ref f19))) (l19 : K.lookup f19 = some ⟨oc19, od19, .func (PySem.W.fnOf "_law_greater" "_law_greater" (defArgs s_law_greater) (defBody s_law_greater) (defScope s_law_greater) .none kV19 dc19 pm19 an19 cd19 ct19), sl19⟩) (c19 : PySem.W.codeIn K cd19 "_law_greater" = true) (k19 : PySem.W.keepIn K (.ref f19) = true)
    (a20 : PySem.W.nsIn K mainGlobals "_law_greatest" = some (some (.ref f20))) (l20 : K.lookup f20 = some ⟨oc20, od20, .func (PySem.W.fnOf "_law_greatest" "_law_greatest" (defArgs s_law_greatest) (defBody s_law_greatest) (defScope s_law_greatest) .none kV20 dc20 pm20 an20 cd20 ct20), sl20⟩) (c20 : PySem.W.codeIn K cd20 "_law_greatest" = true) (k20 : PySem.W.keepIn K (.ref f20) = true)
    (a21 : PySem.W.nsIn K mainGlobals "_law_nest" = some (some (.ref f21))) (l21 : K.lookup f21 = some ⟨oc21, od21, .func (PySem.W.fnOf "_law_nest" "_law_nest" (defArgs s_law_nest) (defBody s_law_nest) (defScope s_law_nest) .none kV21 dc21 pm21 an21 cd21 ct21), sl21⟩) (c21 : PySem.W.codeIn K cd21 "_law_nest" = true) (k21 : PySem.W.keepIn K (.ref f21) = true)
    (a22 : PySem.W.nsIn K mainGlobals "_law_drawn" = some (some (.ref f22))) (l22 : K.lookup f22 = some ⟨oc22, od22, .func (PySem.W.fnOf "_law_drawn" "_law_drawn" (defArgs s_law_drawn) (defBody s_law_drawn) (defScope s_law_drawn) .none kV22 dc22 pm22 an22 cd22 ct22), sl22⟩) (c22 : PySem.W.codeIn K cd22 "_law_drawn" = true) (k22 : PySem.W.keepIn K (.ref f22) = true)
    (a23 : PySem.W.nsIn K mainGlobals "_law_some" = some (some (.ref f23))) (l23 : K.lookup f23 = some ⟨oc23, od23, .func (PySem.W.fnOf "_law_some" "_law_some" (defArgs s_law_some) (defBody s_law_some) (defScope s_law_some) .none kV23 dc23 pm23 an23 cd23 ct23), sl23⟩) (c23 : PySem.W.codeIn K cd23 "_law_some" = true) (k23 : PySem.W.keepIn K (.ref f23) = true)
    (a24 : PySem.W.nsIn K mainGlobals "_law_text" = some (some (.ref f24))) (l24 : K.lookup f24 = some ⟨oc24, od24, .func (PySem.W.fnOf "_law_text" "_law_text" (defArgs s_law_text) (defBody s_law_text) (defScope s_law_text) .none kV24 dc24 pm24 an24 cd24 ct24), sl24⟩) (c24 : PySem.W.codeIn K cd24 "_law_text" = true) (k24 : PySem.W.keepIn K (.ref f24) = true)
    (a25 : PySem.W.nsIn K mainGlobals "_law_loose" = some (some (.ref f25))) (l25 : K.lookup f25 = some ⟨oc25, od25, .func (PySem.W.fnOf "_law_loose" "_law_loose" (defArgs s_law_loose) (defBody s_law_loose) (defScope s_law_loose) .none kV25 dc25 pm25 an25 cd25 ct25), sl25⟩) (c25 : PySem.W.codeIn K cd25 "_law_loose" = true) (k25 : PySem.W.keepIn K (.ref f25) = true)
    (a26 : PySem.W.nsIn K mainGlobals "_law_spoilt" = some (some (.ref f26))) (l26 : K.lookup f26 = some ⟨oc26, od26, .func (PySem.W.fnOf "_law_spoilt" "_law_spoilt" (defArgs s_law_spoilt) (defBody s_law_spoilt) (defScope s_law_spoilt) .none kV26 dc26 pm26 an26 cd26 ct26), sl26⟩) (c26 : PySem.W.codeIn K cd26 "_law_spoilt" = true) (k26 : PySem.W.keepIn K (.ref f26) = true)
    (a27 : PySem.W.nsIn K mainGlobals "_law_is_text" = some (some (.ref f27))) (l27 : K.lookup f27 = some ⟨oc27, od27, .func (PySem.W.fnOf "_law_is_text" "_law_is_text" (defArgs s_law_is_text) (defBody s_law_is_text) (defScope s_law_is_text) .none kV27 dc27 pm27 an27 cd27 ct27), sl27⟩) (c27 : PySem.W.codeIn K cd27 "_law_is_text" = true) (k27 : PySem.W.keepIn K (.ref f27) = true)
    (a28 : PySem.W.nsIn K mainGlobals "_law_read" = some (some (.ref f28))) (l28 : K.lookup f28 = some ⟨oc28, od28, .func (PySem.W.fnOf "_law_read" "_law_read" (defArgs s_law_read) (defBody s_law_read) (defScope s_law_read) .none kV28 dc28 pm28 an28 cd28 ct28), sl28⟩) (c28 : PySem.W.codeIn K cd28 "_law_read" = true) (k28 : PySem.W.keepIn K (.ref f28) = true)
    (a29 : PySem.W.nsIn K mainGlobals "law" = some (some (.ref f29))) (l29 : K.lookup f29 = some ⟨oc29, od29, .func (PySem.W.fnOf "law" "law" (defArgs s_law) (defBody s_law) (defScope s_law) .none kV29 dc29 pm29 an29 cd29 ct29), sl29⟩) (c29 : PySem.W.codeIn K cd29 "law" = true) (k29 : PySem.W.keepIn K (.ref f29) = true)
    (z_tuple : PySem.W.nsIn K mainGlobals "tuple" = some none)
    (z_reversed : PySem.W.nsIn K mainGlobals "reversed" = some none)
    (z_sorted : PySem.W.nsIn K mainGlobals "sorted" = some none)
    (z_len : PySem.W.nsIn K mainGlobals "len" = some none)
    (z_range : PySem.W.nsIn K mainGlobals "range" = some none)
    (z_int : PySem.W.nsIn K mainGlobals "int" = some none)
    (z_isinstance : PySem.W.nsIn K mainGlobals "isinstance" = some none)
    (z_all : PySem.W.nsIn K mainGlobals "all" = some none)
    (z_enumerate : PySem.W.nsIn K mainGlobals "enumerate" = some none)
    (z_list : PySem.W.nsIn K mainGlobals "list" = some none)
    (z_ValueError : PySem.W.nsIn K mainGlobals "ValueError" = some none)
    (a1 : PySem.W.nsIn K mainGlobals "SetError" = some (some (.ref f1)))
    (a2 : PySem.W.nsIn K mainGlobals "NoNumber" = some (some (.ref f2)))
    (a3 : PySem.W.nsIn K mainGlobals "NoText" = some (some (.ref f3)))
    (a4 : PySem.W.nsIn K mainGlobals "NoPair" = some (some (.ref f4)))
    (a5 : PySem.W.nsIn K mainGlobals "NoSet" = some (some (.ref f5)))
    (xq : PySem.W.excIn K f3 [.type "ValueError", .type "Exception", .type "BaseException", .type "object"] "ValueError.__new__" = true)
    (xk : PySem.W.keepIn K (.ref f3) = true)
    (xs : PySem.W.subIn K (.ref f3) (.type "BaseException") = some true)
    (xt : PySem.W.typeIn K (.ref f3) = some (.type "type"))
    (xg : PySem.W.findIn K (.ref f3) "__getattribute__" = some (some (.builtin "BaseException.__getattribute__")))
    (xh : PySem.W.findIn K (.ref f3) "__getattr__" = some none)
    (xd : PySem.W.hasDictIn K f3 = true)
    (xa : PySem.W.findIn K (.ref f3) "__class__" = some (some (.builtin "object.__class__")))
    (xn : PySem.W.specialIn K (.builtin "object.__class__") "__get__" = some (some (.builtin "getset_descriptor.__get__")))
    (xu : PySem.W.takesIn K (.builtin "object.__class__") = some true)
    (xm : PySem.W.mroIn K f3 (.type "object") = some true)
    (y1 : PySem.W.subIn K (.ref f1) (.type "BaseException") = some true)
    (y2 : PySem.W.hasDictIn K f1 = true)
    (y3 : PySem.W.typeIn K (.ref f1) = some (.type "type"))
    (y4 : PySem.W.subIn K (.ref f3) (.ref f1) = some true)
    (yv : PySem.W.kitOne K (.ref f3) (.type "ValueError") = some true)
    (o2 : PySem.W.kitOne K (.ref f3) (.ref f2) = some false)
    (o4 : PySem.W.kitOne K (.ref f3) (.ref f4) = some false)
    (o5 : PySem.W.kitOne K (.ref f3) (.ref f5) = some false)
    : ∃ fd : FuncData, (∀ (s : Shared) (v : Value), BindsTo s fd ⟨[v], []⟩ [("_law_script", v)]) ∧ ∀ base : Heap, K.In base → base.Ns mainGlobals mg → FnOk l.prog w K mg base CX0 121 fa fd ["_law_script"] (spLaw K) := by
  have e := hfa.symm.trans (PySem.W.mg_of X G a29)
  cases e
  have F7 := fun_mk (st := s_rank_row) l7 c7 k7
  have b7 := F7.binds (ps := ["one"]) fun _ _ _ _ _ _ us hl => match us, hl with | [_], _ => rfl
  have F8 := fun_mk (st := s_is_less) l8 c8 k8
  have b8 := F8.binds (ps := ["one", "other"]) fun _ _ _ _ _ _ us hl => match us, hl with | [_, _], _ => rfl
  have F9 := fun_mk (st := s_is_nest) l9 c9 k9
  have b9 := F9.binds (ps := ["thing"]) fun _ _ _ _ _ _ us hl => match us, hl with | [_], _ => rfl
  have F10 := fun_mk (st := s_nest) l10 c10 k10
  have b10 := F10.binds (ps := ["some"]) fun _ _ _ _ _ _ us hl => match us, hl with | [_], _ => rfl
  have F12 := fun_mk (st := s_nest_at) l12 c12 k12
  have b12 := F12.binds (ps := ["text", "at"]) fun _ _ _ _ _ _ us hl => match us, hl with | [_, _], _ => rfl
  have F13 := fun_mk (st := s_read) l13 c13 k13
  have b13 := F13.binds (ps := ["text"]) fun _ _ _ _ _ _ us hl => match us, hl with | [_], _ => rfl
  have F15 := fun_mk (st := s_written) l15 c15 k15
  have b15 := F15.binds (ps := ["one"]) fun _ _ _ _ _ _ us hl => match us, hl with | [_], _ => rfl
  have F17 := fun_mk (st := s_law_cell) l17 c17 k17
  have b17 := F17.binds (ps := ["_law_script", "_law_k"]) fun _ _ _ _ _ _ us hl => match us, hl with | [_, _], _ => rfl
  have F18 := fun_mk (st := s_law_mix) l18 c18 k18
  have b18 := F18.binds (ps := ["_law_cell_here", "_law_prime", "_law_many"]) fun _ _ _ _ _ _ us hl => match us, hl with | [_, _, _], _ => rfl
  have F19 := fun_mk (st := s_law_greater) l19 c19 k19
  have b19 := F19.binds (ps := ["_law_one", "_law_other"]) fun _ _ _ _ _ _ us hl => match us, hl with | [_, _], _ => rfl
  have F20 := fun_mk (st := s_law_greatest) l20 c20 k20
  have b20 := F20.binds (ps := ["_law_some_here"]) fun _ _ _ _ _ _ us hl => match us, hl with | [_], _ => rfl
  have F21 := fun_mk (st := s_law_nest) l21 c21 k21
  have b21 := F21.binds (ps := ["_law_some_here"]) fun _ _ _ _ _ _ us hl => match us, hl with | [_], _ => rfl
  have F22 := fun_mk (st := s_law_drawn) l22 c22 k22
  have b22 := F22.binds (ps := ["_law_cell_here", "_law_deep"]) fun _ _ _ _ _ _ us hl => match us, hl with | [_, _], _ => rfl
  have F23 := fun_mk (st := s_law_some) l23 c23 k23
  have b23 := F23.binds (ps := ["_law_script", "_law_k", "_law_many"]) fun _ _ _ _ _ _ us hl => match us, hl with | [_, _, _], _ => rfl
  have F24 := fun_mk (st := s_law_text) l24 c24 k24
  have b24 := F24.binds (ps := ["_law_one"]) fun _ _ _ _ _ _ us hl => match us, hl with | [_], _ => rfl
  have F25 := fun_mk (st := s_law_loose) l25 c25 k25
  have b25 := F25.binds (ps := ["_law_one", "_law_cell_here"]) fun _ _ _ _ _ _ us hl => match us, hl with | [_, _], _ => rfl
  have F26 := fun_mk (st := s_law_spoilt) l26 c26 k26
  have b26 := F26.binds (ps := ["_law_text_here", "_law_cell_here"]) fun _ _ _ _ _ _ us hl => match us, hl with | [_, _], _ => rfl
  have F27 := fun_mk (st := s_law_is_text) l27 c27 k27
  have b27 := F27.binds (ps := ["_law_text_here"]) fun _ _ _ _ _ _ us hl => match us, hl with | [_], _ => rfl
  have F28 := fun_mk (st := s_law_read) l28 c28 k28
  have b28 := F28.binds (ps := ["_law_text_here"]) fun _ _ _ _ _ _ us hl => match us, hl with | [_], _ => rfl
  have F29 := fun_mk (st := s_law) l29 c29 k29
  have b29 := F29.binds (ps := ["_law_script"]) fun _ _ _ _ _ _ us hl => match us, hl with | [_], _ => rfl
  have T : Top K mg (fun i => match i with | 1 => f1 | 2 => f2 | 3 => f3 | 4 => f4 | 5 => f5 | 7 => f7 | 8 => f8 | 9 => f9 | 10 => f10 | 12 => f12 | 13 => f13 | 15 => f15 | 17 => f17 | 18 => f18 | 19 => f19 | 20 => f20 | 21 => f21 | 22 => f22 | 23 => f23 | 24 => f24 | 25 => f25 | 26 => f26 | 27 => f27 | 28 => f28 | 29 => fa | _ => 0) (fun i => match i with | 7 => PySem.W.fnOf "rank_row" "rank_row" (defArgs s_rank_row) (defBody s_rank_row) (defScope s_rank_row) .none kV7 dc7 pm7 an7 cd7 ct7 | 8 => PySem.W.fnOf "is_less" "is_less" (defArgs s_is_less) (defBody s_is_less) (defScope s_is_less) .none kV8 dc8 pm8 an8 cd8 ct8 | 9 => PySem.W.fnOf "is_nest" "is_nest" (defArgs s_is_nest) (defBody s_is_nest) (defScope s_is_nest) .none kV9 dc9 pm9 an9 cd9 ct9 | 10 => PySem.W.fnOf "nest" "nest" (defArgs s_nest) (defBody s_nest) (defScope s_nest) .none kV10 dc10 pm10 an10 cd10 ct10 | 12 => PySem.W.fnOf "nest_at" "nest_at" (defArgs s_nest_at) (defBody s_nest_at) (defScope s_nest_at) .none kV12 dc12 pm12 an12 cd12 ct12 | 13 => PySem.W.fnOf "read" "read" (defArgs s_read) (defBody s_read) (defScope s_read) .none kV13 dc13 pm13 an13 cd13 ct13 | 15 => PySem.W.fnOf "written" "written" (defArgs s_written) (defBody s_written) (defScope s_written) .none kV15 dc15 pm15 an15 cd15 ct15 | 17 => PySem.W.fnOf "_law_cell" "_law_cell" (defArgs s_law_cell) (defBody s_law_cell) (defScope s_law_cell) .none kV17 dc17 pm17 an17 cd17 ct17 | 18 => PySem.W.fnOf "_law_mix" "_law_mix" (defArgs s_law_mix) (defBody s_law_mix) (defScope s_law_mix) .none kV18 dc18 pm18 an18 cd18 ct18 | 19 => PySem.W.fnOf "_law_greater" "_law_greater" (defArgs s_law_greater) (defBody s_law_greater) (defScope s_law_greater) .none kV19 dc19 pm19 an19 cd19 ct19 | 20 => PySem.W.fnOf "_law_greatest" "_law_greatest" (defArgs s_law_greatest) (defBody s_law_greatest) (defScope s_law_greatest) .none kV20 dc20 pm20 an20 cd20 ct20 | 21 => PySem.W.fnOf "_law_nest" "_law_nest" (defArgs s_law_nest) (defBody s_law_nest) (defScope s_law_nest) .none kV21 dc21 pm21 an21 cd21 ct21 | 22 => PySem.W.fnOf "_law_drawn" "_law_drawn" (defArgs s_law_drawn) (defBody s_law_drawn) (defScope s_law_drawn) .none kV22 dc22 pm22 an22 cd22 ct22 | 23 => PySem.W.fnOf "_law_some" "_law_some" (defArgs s_law_some) (defBody s_law_some) (defScope s_law_some) .none kV23 dc23 pm23 an23 cd23 ct23 | 24 => PySem.W.fnOf "_law_text" "_law_text" (defArgs s_law_text) (defBody s_law_text) (defScope s_law_text) .none kV24 dc24 pm24 an24 cd24 ct24 | 25 => PySem.W.fnOf "_law_loose" "_law_loose" (defArgs s_law_loose) (defBody s_law_loose) (defScope s_law_loose) .none kV25 dc25 pm25 an25 cd25 ct25 | 26 => PySem.W.fnOf "_law_spoilt" "_law_spoilt" (defArgs s_law_spoilt) (defBody s_law_spoilt) (defScope s_law_spoilt) .none kV26 dc26 pm26 an26 cd26 ct26 | 27 => PySem.W.fnOf "_law_is_text" "_law_is_text" (defArgs s_law_is_text) (defBody s_law_is_text) (defScope s_law_is_text) .none kV27 dc27 pm27 an27 cd27 ct27 | 28 => PySem.W.fnOf "_law_read" "_law_read" (defArgs s_law_read) (defBody s_law_read) (defScope s_law_read) .none kV28 dc28 pm28 an28 cd28 ct28 | 29 => PySem.W.fnOf "law" "law" (defArgs s_law) (defBody s_law) (defScope s_law) .none kV29 dc29 pm29 an29 cd29 ct29 | _ => PySem.W.fnOf "law" "law" (defArgs s_law) (defBody s_law) (defScope s_law) .none kV29 dc29 pm29 an29 cd29 ct29) :=
    ⟨⟨F7, b7, PySem.W.mg_of X G a7⟩, ⟨F8, b8, PySem.W.mg_of X G a8⟩, ⟨F9, b9, PySem.W.mg_of X G a9⟩, ⟨F10, b10, PySem.W.mg_of X G a10⟩, ⟨F12, b12, PySem.W.mg_of X G a12⟩, ⟨F13, b13, PySem.W.mg_of X G a13⟩, ⟨F15, b15, PySem.W.mg_of X G a15⟩, ⟨F17, b17, PySem.W.mg_of X G a17⟩, ⟨F18, b18, PySem.W.mg_of X G a18⟩, ⟨F19, b19, PySem.W.mg_of X G a19⟩, ⟨F20, b20, PySem.W.mg_of X G a20⟩, ⟨F21, b21, PySem.W.mg_of X G a21⟩, ⟨F22, b22, PySem.W.mg_of X G a22⟩, ⟨F23, b23, PySem.W.mg_of X G a23⟩, ⟨F24, b24, PySem.W.mg_of X G a24⟩, ⟨F25, b25, PySem.W.mg_of X G a25⟩, ⟨F26, b26, PySem.W.mg_of X G a26⟩, ⟨F27, b27, PySem.W.mg_of X G a27⟩, ⟨F28, b28, PySem.W.mg_of X G a28⟩, ⟨F29, b29, PySem.W.mg_of X G a29⟩, PySem.W.mg_none_of X G z_tuple, PySem.W.mg_none_of X G z_reversed, PySem.W.mg_none_of X G z_sorted, PySem.W.mg_none_of X G z_len, PySem.W.mg_none_of X G z_range, PySem.W.mg_none_of X G z_int, PySem.W.mg_none_of X G z_isinstance, PySem.W.mg_none_of X G z_all, PySem.W.mg_none_of X G z_enumerate, PySem.W.mg_none_of X G z_list, PySem.W.mg_none_of X G z_ValueError, PySem.W.mg_of X G a1, PySem.W.mg_of X G a2, PySem.W.mg_of X G a3, PySem.W.mg_of X G a4, PySem.W.mg_of X G a5, ⟨PySem.W.mg_of X G a3, xq, xk, xs, xt, ⟨xg, xh, xs, xd, xa, xn, xu, xm⟩, PySem.W.exm_ref y1 y2 y3 y4, yv⟩, o2, o4, o5⟩
  exact ⟨PySem.W.fnOf "law" "law" (defArgs s_law) (defBody s_law) (defScope s_law) .none kV29 dc29 pm29 an29 cd29 ct29, fun s v => .of_eq rfl, fun base _ _ => law_ok  T⟩
theorem walk {l : PySem.W.OpenLaw} {q : Program} {loose : List Str} {XP : (Str → Option Value) → Heap → Prop} {YP : World → Heap → Prop} {d : DefRec} {K : Params → PySem.W.Frag} (hn : l.most = some 63) (hdf : d.params.defaults = [])
    (hY : ∀ (w : World) (h : Heap), YP w h → (K w.params).In h)
    (F : ∀ (w : World) (mg : Str → Option Value) (fa : Addr) (h : Heap), (K w.params).In h → h.Ns mainGlobals mg → mg d.name = some (.ref fa) →
      ∃ fd : FuncData, (∀ (s : Shared) (u : Value), BindsTo s fd ⟨[u], []⟩ [("_law_script", u)]) ∧ ∀ base : Heap, (K w.params).In base → base.Ns mainGlobals mg → FnOk l.prog w (K w.params) mg base CX0 121 fa fd ["_law_script"] (spLaw (K w.params))) :
    PySem.W.WalkO q loose XP YP l.row.toRowW d [] (fun f vs => PySem.call f vs) :=
  L2.walk_of (n := 63) (k := 121) (x := "_law_script") (CX := fun _ => CX0) (sp := fun w => spLaw (K w.params)) hn (by decide) hdf ⟨rfl, by decide, by decide⟩ hY F (fun _ _ a ns hl _ hS => ⟨a, ns, rfl, hS, hl, fun _ => rfl⟩) fun _ _ _ _ _ z => z
end Nk
open PySem PySem.W PyProof.Rows
set_option maxRecDepth 100000 in
set_option maxHeartbeats 0 in
theorem PySem.Challenge.cw_nestsets_k03_whole_texts_holds : PySem.Challenge.rw_nestsets_k03_whole_texts.Holds := by
  w_on; o_law; k_head; (case hw => w_witness2)
  k_fill
  refine Nk.walk (l := PySem.Challenge.rw_nestsets_k03_whole_texts) rfl rfl (fun w h Y => PySem.W.kIn_of Y) ?F
  case F =>
    intro w mg fa h KX G hmg
    refine' Nk.all_mk KX G hmg ?a7 ?l7 ?c7 ?k7 ?a8 ?l8 ?c8 ?k8 ?a9 ?l9 ?c9 ?k9 ?a10 ?l10 ?c10 ?k10 ?a12 ?l12 ?c12 ?k12 ?a13 ?l13 ?c13 ?k13 ?a15 ?l15 ?c15 ?k15 ?a17 ?l17 ?c17 ?k17 ?a18 ?l18 ?c18 ?k18 ?a19 ?l19 ?c19 ?k19 ?a20 ?l20 ?c20 ?k20 ?a21 ?l21 ?c21 ?k21 ?a22 ?l22 ?c22 ?k22 ?a23 ?l23 ?c23 ?k23 ?a24 ?l24 ?c24 ?k24 ?a25 ?l25 ?c25 ?k25 ?a26 ?l26 ?c26 ?k26 ?a27 ?l27 ?c27 ?k27 ?a28 ?l28 ?c28 ?k28 ?a29 ?l29 ?c29 ?k29 ?z_tuple ?z_reversed ?z_sorted ?z_len ?z_range ?z_int ?z_isinstance ?z_all ?z_enumerate ?z_list ?z_ValueError ?a1 ?a2 ?a3 ?a4 ?a5 ?xq ?xk ?xs ?xt ?xg ?xh ?xd ?xa ?xn ?xu ?xm ?y1 ?y2 ?y3 ?y4 ?yv ?o2 ?o4 ?o5
    (case a7 => k_is)
    (case l7 => k_is)
    (case c7 => k_is)
    (case k7 => k_is)
    (case a8 => k_is)
    (case l8 => k_is)
    (case c8 => k_is)
    (case k8 => k_is)
    (case a9 => k_is)
    (case l9 => k_is)
    (case c9 => k_is)
    (case k9 => k_is)
    (case a10 => k_is)
    (case l10 => k_is)
    (case c10 => k_is)
    (case k10 => k_is)
    (case a12 => k_is)
    (case l12 => k_is)
    (case c12 => k_is)
    (case k12 => k_is)
    (case a13 => k_is)
    (case l13 => k_is)
    (case c13 => k_is)
    (case k13 => k_is)
    (case a15 => k_is)
    (case l15 => k_is)
    (case c15 => k_is)
    (case k15 => k_is)
    (case a17 => k_is)
    (case l17 => k_is)
    (case c17 => k_is)
    (case k17 => k_is)
    (case a18 => k_is)
    (case l18 => k_is)
    (case c18 => k_is)
    (case k18 => k_is)
    (case a19 => k_is)
    (case l19 => k_is)
    (case c19 => k_is)
    (case k19 => k_is)
    (case a20 => k_is)
    (case l20 => k_is)
    (case c20 => k_is)
    (case k20 => k_is)
    (case a21 => k_is)
    (case l21 => k_is)
    (case c21 => k_is)
    (case k21 => k_is)
    (case a22 => k_is)
    (case l22 => k_is)
    (case c22 => k_is)
    (case k22 => k_is)
    (case a23 => k_is)
    (case l23 => k_is)
    (case c23 => k_is)
    (case k23 => k_is)
    (case a24 => k_is)
    (case l24 => k_is)
    (case c24 => k_is)
    (case k24 => k_is)
    (case a25 => k_is)
    (case l25 => k_is)
    (case c25 => k_is)
    (case k25 => k_is)
    (case a26 => k_is)
    (case l26 => k_is)
    (case c26 => k_is)
    (case k26 => k_is)
    (case a27 => k_is)
    (case l27 => k_is)
    (case c27 => k_is)
    (case k27 => k_is)
    (case a28 => k_is)
    (case l28 => k_is)
    (case c28 => k_is)
    (case k28 => k_is)
    (case a29 => k_is)
    (case l29 => k_is)
    (case c29 => k_is)
    (case k29 => k_is)
    (case z_tuple => k_is)
    (case z_reversed => k_is)
    (case z_sorted => k_is)
    (case z_len => k_is)
    (case z_range => k_is)
    (case z_int => k_is)
    (case z_isinstance => k_is)
    (case z_all => k_is)
    (case z_enumerate => k_is)
    (case z_list => k_is)
    (case z_ValueError => k_is)
    (case a1 => k_is)
    (case a2 => k_is)
    (case a3 => k_is)
    (case a4 => k_is)
    (case a5 => k_is)
    (case xq => k_exc)
    (case xk => k_is)
    (case xs => k_is)
    (case xt => k_is)
    (case xg => k_is)
    (case xh => k_is)
    (case xd => k_is)
    (case xa => k_is)
    (case xn => k_is)
    (case xu => k_is)
    (case xm => k_is)
    (case y1 => k_is)
    (case y2 => k_is)
    (case y3 => k_is)
    (case y4 => k_is)
    (case yv => first | k_is | rfl | decide +kernel)
    (case o2 => first | k_is | rfl | decide +kernel)
    (case o4 => first | k_is | rfl | decide +kernel)
    (case o5 => first | k_is | rfl | decide +kernel)
#print axioms PySem.Challenge.cw_nestsets_k03_whole_texts_holds
