import PyProof.Rows.All
import Wide.All
import OpenK.AllK
import Wide.FinOn
import HandS.ForMost
import HandS.TupLe
import HandS.SortOrd
import HandS.SortKw
import HandS.Deep
import HandS.Rev
import HandS.TupAny
import HandS.More
import HandS.IsInst
import HandS.Walk
import KE.SortKeyHeap
import KE.KDictKeyed
import KE.KDictCopyH
import KE.KDictSum
import KE.DatumOrd
import KE.GoesEnum
import HandS.WideBits
import HandS.ForExc
import HandS.ExcIs
import HandS.Star
import HandS.ForDict
import HandS.Conv
import HandS.Strs
import HandS.SetFor
import KE.GoesComp
import KE.KAsSuite
import HandS.ReplaceList
import HandS.ReplaceLit
import HandS.ReplaceDef
import HandS.Text
import HandS.Style
import HandS.Flow
import HandS.TupSets
import KE.SortData
import PySem.Challenge.RW_nestsets_k07_whole_products_and_maps
set_option Elab.async false
set_option linter.all false
set_option maxRecDepth 100000
set_option maxHeartbeats 4000000
namespace Nk
open PySem

/-! ### sets of numbers as numbers -/
def bits (n : Nat) : List Nat := (List.range n).filter fun k => n.testBit k
theorem bit_lt {n k : Nat} (h : n.testBit k = true) : k < n := by
  have h1 : 2 ^ k ≤ n := Nat.ge_two_pow_of_testBit h
  have h2 : k < 2 ^ k := Nat.lt_two_pow_self
  omega
theorem mem_bits {n k : Nat} : k ∈ bits n ↔ n.testBit k = true := by
  unfold bits
  rw [List.mem_filter, List.mem_range]
  exact ⟨fun h => h.2, fun h => ⟨bit_lt h, h⟩⟩
theorem bits_lt {n k : Nat} (h : k ∈ bits n) : k < n := bit_lt (mem_bits.mp h)
theorem bits_asc (n : Nat) : (bits n).Pairwise (· < ·) := List.Pairwise.filter _ List.pairwise_lt_range
theorem asc_unique : ∀ {l m : List Nat}, l.Pairwise (· < ·) → m.Pairwise (· < ·) → (∀ k, k ∈ l ↔ k ∈ m) → l = m
  | [], [], _, _, _ => rfl
  | [], b :: m, _, _, h => absurd ((h b).mpr List.mem_cons_self) (by simp)
  | a :: l, [], _, _, h => absurd ((h a).mp List.mem_cons_self) (by simp)
  | a :: l, b :: m, hl, hm, h => by
    have h1 := List.pairwise_cons.mp hl
    have h2 := List.pairwise_cons.mp hm
    have e : a = b := by
      rcases List.mem_cons.mp ((h a).mp List.mem_cons_self) with e | e
      · exact e
      · rcases List.mem_cons.mp ((h b).mpr List.mem_cons_self) with e' | e'
        · exact e'.symm
        · have := h1.1 b e'
          have := h2.1 a e
          omega
    subst e
    rw [asc_unique h1.2 h2.2 fun k => ⟨fun q => ?_, fun q => ?_⟩]
    · rcases List.mem_cons.mp ((h k).mp (List.mem_cons_of_mem _ q)) with e | e
      · have := h1.1 k q
        omega
      · exact e
    · rcases List.mem_cons.mp ((h k).mpr (List.mem_cons_of_mem _ q)) with e | e
      · have := h2.1 k q
        omega
      · exact e
theorem bits_of {l : List Nat} {n : Nat} (hl : l.Pairwise (· < ·)) (h : ∀ k, k ∈ l ↔ n.testBit k = true) : l = bits n :=
  asc_unique hl (bits_asc n) fun k => (h k).trans mem_bits.symm
theorem bits_inj {n m : Nat} (h : bits n = bits m) : n = m := by
  refine Nat.eq_of_testBit_eq fun k => ?_
  have q : n.testBit k = true ↔ m.testBit k = true := by rw [← mem_bits, ← mem_bits, h]
  cases e : n.testBit k <;> cases e' : m.testBit k <;> simp_all
theorem bits_zero : bits 0 = [] := rfl
theorem bits_nil {n : Nat} : bits n = [] ↔ n = 0 := ⟨fun h => bits_inj (h.trans bits_zero.symm), fun h => by rw [h, bits_zero]⟩
theorem same_bits {n m : Nat} (h : ∀ k, k ∈ bits n ↔ k ∈ bits m) : n = m := bits_inj (asc_unique (bits_asc n) (bits_asc m) h)

/-- the set of the numbers ks -/
def mk : List Nat → Nat
  | [] => 0
  | k :: ks => 2 ^ k ||| mk ks
theorem testBit_mk {ks : List Nat} {k : Nat} : (mk ks).testBit k = true ↔ k ∈ ks := by
  induction ks with
  | nil => simp [mk]
  | cons a ks ih =>
    rw [mk, Nat.testBit_or, Nat.testBit_two_pow, List.mem_cons, Bool.or_eq_true, ih, decide_eq_true_eq]
    exact ⟨fun h => h.imp (fun e => e.symm) id, fun h => h.imp (fun e => e.symm) id⟩
theorem mem_mk {ks : List Nat} {k : Nat} : k ∈ bits (mk ks) ↔ k ∈ ks := mem_bits.trans testBit_mk
theorem mk_bits (n : Nat) : mk (bits n) = n := same_bits fun _ => mem_mk
theorem mk_congr {ks ls : List Nat} (h : ∀ k, k ∈ ks ↔ k ∈ ls) : mk ks = mk ls := same_bits fun k => by rw [mem_mk, mem_mk, h]
theorem bits_mk_asc {l : List Nat} (h : l.Pairwise (· < ·)) : bits (mk l) = l := (bits_of h fun _ => testBit_mk.symm).symm

/-! ### the order -/
/-- the numbers' order by the greatest place at which they part -/
theorem lt_at {n m k : Nat} (h1 : n.testBit k = false) (h2 : m.testBit k = true) (h : ∀ j, k < j → n.testBit j = m.testBit j) : n < m :=
  by
  have e : n / 2 ^ (k + 1) = m / 2 ^ (k + 1) := by
    refine Nat.eq_of_testBit_eq fun j => ?_
    rw [Nat.testBit_div_two_pow, Nat.testBit_div_two_pow]
    exact h _ (by omega)
  have a : n % 2 ^ (k + 1) < 2 ^ k := by
    refine Nat.lt_pow_two_of_testBit _ fun i hi => ?_
    rw [Nat.testBit_mod_two_pow]
    by_cases q : i < k + 1
    · have e : i = k := by omega
      subst e
      rw [h1, Bool.and_false]
    · simp [q]
  have b : 2 ^ k ≤ m % 2 ^ (k + 1) := by
    refine Nat.ge_two_pow_of_testBit ?_
    rw [Nat.testBit_mod_two_pow, h2]
    simp
  have p1 := Nat.div_add_mod n (2 ^ (k + 1))
  have p2 := Nat.div_add_mod m (2 ^ (k + 1))
  rw [e] at p1
  omega
def lexN : List Nat → List Nat → Bool
  | [], [] => false
  | [], _ :: _ => true
  | _ :: _, [] => false
  | a :: as, b :: bs => if a = b then lexN as bs else decide (a < b)
theorem lex_core : ∀ (as bs : List Nat) (n m : Nat) (P : Nat → Prop), as.Pairwise (· > ·) → bs.Pairwise (· > ·) →
    (∀ k, n.testBit k = true ↔ k ∈ as ∨ P k) → (∀ k, m.testBit k = true ↔ k ∈ bs ∨ P k) → (∀ p, P p → (∀ a ∈ as, a < p) ∧ ∀ b ∈ bs, b < p) → lexN as bs = decide (n < m)
  | [], [], n, m, P, _, _, h1, h2, _ => by
    have e : n = m := Nat.eq_of_testBit_eq fun k => by
      have q : n.testBit k = true ↔ m.testBit k = true := by rw [h1, h2]
      cases e : n.testBit k <;> cases e' : m.testBit k <;> simp_all
    subst e
    simp [lexN]
  | [], b :: bs, n, m, P, _, hb, h1, h2, hP => by
    have q : n < m := by
      refine lt_at (k := b) ?_ ((h2 b).mpr (.inl List.mem_cons_self)) fun j hj => ?_
      · cases e : n.testBit b with
        | false => rfl
        | true =>
          rcases (h1 b).mp e with z | z
          · cases z
          · have := (hP b z).2 b List.mem_cons_self
            omega
      · have q : n.testBit j = true ↔ m.testBit j = true := by
          rw [h1, h2]
          refine ⟨fun z => z.elim (fun z => by cases z) .inr, fun z => z.elim (fun z => ?_) .inr⟩
          rcases List.mem_cons.mp z with e | z
          · omega
          · have := (List.pairwise_cons.mp hb).1 j z
            omega
        cases e : n.testBit j <;> cases e' : m.testBit j <;> simp_all
    simp [lexN, q]
  | a :: as, [], n, m, P, ha, _, h1, h2, hP => by
    have q : m < n := by
      refine lt_at (k := a) ?_ ((h1 a).mpr (.inl List.mem_cons_self)) fun j hj => ?_
      · cases e : m.testBit a with
        | false => rfl
        | true =>
          rcases (h2 a).mp e with z | z
          · cases z
          · have := (hP a z).1 a List.mem_cons_self
            omega
      · have q : m.testBit j = true ↔ n.testBit j = true := by
          rw [h1, h2]
          refine ⟨fun z => z.elim (fun z => by cases z) .inr, fun z => z.elim (fun z => ?_) .inr⟩
          rcases List.mem_cons.mp z with e | z
          · omega
          · have := (List.pairwise_cons.mp ha).1 j z
            omega
        cases e : n.testBit j <;> cases e' : m.testBit j <;> simp_all
    have q' : ¬ n < m := by omega
    simp [lexN, q']
  | a :: as, b :: bs, n, m, P, ha, hb, h1, h2, hP => by
    have pa := List.pairwise_cons.mp ha
    have pb := List.pairwise_cons.mp hb
    by_cases e : a = b
    · subst e
      rw [lexN, if_pos rfl]
      refine lex_core as bs n m (fun k => k = a ∨ P k) pa.2 pb.2 (fun k => ?_) (fun k => ?_) fun p hp => ?_
      · rw [h1, List.mem_cons]
        exact ⟨fun z => z.elim (fun z => z.elim (fun z => .inr (.inl z)) .inl) fun z => .inr (.inr z), fun z => z.elim (fun z => .inl (.inr z)) fun z => z.elim (fun z => .inl (.inl z)) .inr⟩
      · rw [h2, List.mem_cons]
        exact ⟨fun z => z.elim (fun z => z.elim (fun z => .inr (.inl z)) .inl) fun z => .inr (.inr z), fun z => z.elim (fun z => .inl (.inr z)) fun z => z.elim (fun z => .inl (.inl z)) .inr⟩
      · rcases hp with e | hp
        · subst e
          exact ⟨fun x hx => pa.1 x hx, fun x hx => pb.1 x hx⟩
        · exact ⟨fun x hx => (hP p hp).1 x (List.mem_cons_of_mem _ hx), fun x hx => (hP p hp).2 x (List.mem_cons_of_mem _ hx)⟩
    · rw [lexN, if_neg e]
      have key : ∀ (a b : Nat) (as bs : List Nat) (n m : Nat), (∀ x ∈ as, x < a) → (∀ x ∈ bs, x < b) → (∀ k, n.testBit k = true ↔ k ∈ a :: as ∨ P k) → (∀ k, m.testBit k = true ↔ k ∈ b :: bs ∨ P k) → (∀ p, P p → a < p ∧ b < p) → a < b → n < m := by
        intro a b as bs n m pa pb h1 h2 hP q
        refine lt_at (k := b) ?_ ((h2 b).mpr (.inl List.mem_cons_self)) fun j hj => ?_
        · cases e : n.testBit b with
          | false => rfl
          | true =>
            rcases (h1 b).mp e with z | z
            · rcases List.mem_cons.mp z with z | z
              · omega
              · have := pa b z
                omega
            · have := (hP b z).2
              omega
        · have q : n.testBit j = true ↔ m.testBit j = true := by
            rw [h1, h2]
            refine ⟨fun z => z.elim (fun z => ?_) .inr, fun z => z.elim (fun z => ?_) .inr⟩
            · rcases List.mem_cons.mp z with z | z
              · omega
              · have := pa j z
                omega
            · rcases List.mem_cons.mp z with z | z
              · omega
              · have := pb j z
                omega
          cases e : n.testBit j <;> cases e' : m.testBit j <;> simp_all
      have hP' : ∀ p, P p → a < p ∧ b < p := fun p hp => ⟨(hP p hp).1 a List.mem_cons_self, (hP p hp).2 b List.mem_cons_self⟩
      by_cases q : a < b
      · have r := key a b as bs n m pa.1 pb.1 h1 h2 hP' q
        simp [q, r]
      · have r := key b a bs as m n pb.1 pa.1 h2 h1 (fun p hp => ⟨(hP' p hp).2, (hP' p hp).1⟩) (by omega)
        have r' : ¬ n < m := by omega
        simp [q, r']
theorem desc_bits (n : Nat) : (bits n).reverse.Pairwise (· > ·) := List.pairwise_reverse.mpr (bits_asc n)
theorem lex_bits (n m : Nat) : lexN (bits n).reverse (bits m).reverse = decide (n < m) :=
  lex_core _ _ n m (fun _ => False) (desc_bits n) (desc_bits m) (fun k => by rw [List.mem_reverse, mem_bits, or_false]) (fun k => by rw [List.mem_reverse, mem_bits, or_false]) fun p hp => hp.elim

/-! ### the law's own order: by the greatest of what stands in just one -/
theorem gt_of_top {a b x y : Nat} (hx : x ∈ bits a ∧ x ∉ bits b) (hy : y ∈ bits b ∧ y ∉ bits a) (mx : ∀ k, k ∈ bits a → k ∉ bits b → k ≤ x) (my : ∀ k, k ∈ bits b → k ∉ bits a → k ≤ y) : decide (b < a) = decide (y < x) := by
  have key : ∀ {a b x y : Nat}, (x ∈ bits a ∧ x ∉ bits b) → (∀ k, k ∈ bits a → k ∉ bits b → k ≤ x) → (∀ k, k ∈ bits b → k ∉ bits a → k ≤ y) → y < x → b < a := by
    intro a b x y hx mx my q
    refine lt_at (k := x) ?_ (mem_bits.mp hx.1) fun j hj => ?_
    · cases e : b.testBit x with
      | false => rfl
      | true => exact absurd (mem_bits.mpr e) hx.2
    · have q : b.testBit j = true ↔ a.testBit j = true := by
        rw [← mem_bits, ← mem_bits]
        refine ⟨fun z => ?_, fun z => ?_⟩
        · by_cases z' : j ∈ bits a
          · exact z'
          · have := my j z z'
            omega
        · by_cases z' : j ∈ bits b
          · exact z'
          · have := mx j z z'
            omega
      cases e : b.testBit j <;> cases e' : a.testBit j <;> simp_all
  by_cases q : y < x
  · have r := key hx mx my q
    simp [q, r]
  · have ne : x ≠ y := fun e => hx.2 (e ▸ hy.1)
    have r := key hy my mx (by omega)
    have r' : ¬ b < a := by omega
    simp [q, r']
theorem gt_no_mine {a b : Nat} (h : ∀ k, k ∈ bits a → k ∈ bits b) : ¬ b < a := by
  intro q
  have r : a ≤ b := by
    rw [Nat.le_iff_lt_or_eq]
    by_cases e : a = b
    · exact .inr e
    · refine .inl ?_
      have nsub : ∃ k, k ∈ bits b ∧ k ∉ bits a := by
        refine Classical.byContradiction fun hn => e (same_bits fun k => ⟨h k, fun z => ?_⟩)
        exact Classical.byContradiction fun z' => hn ⟨k, z, z'⟩
      have : ∃ k, (k ∈ bits b ∧ k ∉ bits a) ∧ ∀ j, j ∈ bits b → j ∉ bits a → j ≤ k := by
        obtain ⟨k0, hk0⟩ := nsub
        have lem : ∀ (d k : Nat), b - k ≤ d → (k ∈ bits b ∧ k ∉ bits a) → ∃ k, (k ∈ bits b ∧ k ∉ bits a) ∧ ∀ j, j ∈ bits b → j ∉ bits a → j ≤ k := by
          intro d
          induction d with
          | zero =>
            intro k hd hk
            have := bits_lt hk.1
            omega
          | succ d ih =>
            intro k hd hk
            by_cases hz : ∃ j, (j ∈ bits b ∧ j ∉ bits a) ∧ k < j
            · obtain ⟨j, hj, hkj⟩ := hz
              have := bits_lt hj.1
              exact ih j (by omega) hj
            · exact ⟨k, hk, fun j h1 h2 => Nat.le_of_not_lt fun hlt => hz ⟨j, ⟨h1, h2⟩, hlt⟩⟩
        exact lem (b - k0) k0 (Nat.le_refl _) hk0
      obtain ⟨k, hk, mx⟩ := this
      refine lt_at (k := k) ?_ (mem_bits.mp hk.1) fun j hj => ?_
      · cases e : a.testBit k with
        | false => rfl
        | true => exact absurd (mem_bits.mpr e) hk.2
      · have q : a.testBit j = true ↔ b.testBit j = true := by
          rw [← mem_bits, ← mem_bits]
          refine ⟨h j, fun z => ?_⟩
          by_cases z' : j ∈ bits a
          · exact z'
          · have := mx j z z'
            omega
        cases e : a.testBit j <;> cases e' : b.testBit j <;> simp_all
  omega
theorem gt_no_yours {a b : Nat} (h : ∀ k, k ∈ bits b → k ∈ bits a) (hx : ∃ k, k ∈ bits a ∧ k ∉ bits b) : b < a := by
  have q := gt_no_mine h
  have ne : a ≠ b := fun e => by
    obtain ⟨k, h1, h2⟩ := hx
    exact h2 (e ▸ h1)
  omega

/-! ### a member put at its place -/
theorem asc_split (m : Nat) : ∀ {l : List Nat}, l.Pairwise (· < ·) → l = (l.filter fun k => decide (k < m)) ++ l.filter fun k => !decide (k < m)
  | [], _ => rfl
  | a :: l, h => by
    have h1 := List.pairwise_cons.mp h
    by_cases e : a < m
    · have ih := asc_split m h1.2
      simp only [List.filter_cons, e, decide_true, if_true, Bool.not_true, Bool.false_eq_true, if_false, List.cons_append]
      rw [← ih]
    · have all : ∀ x ∈ l, ¬ x < m := fun x hx => by have := h1.1 x hx; omega
      have f1 : l.filter (fun k => decide (k < m)) = [] := List.filter_eq_nil_iff.mpr fun x hx => by simp [all x hx]
      have f2 : l.filter (fun k => !decide (k < m)) = l := List.filter_eq_self.mpr fun x hx => by simp [all x hx]
      simp only [List.filter_cons, e, decide_false, Bool.false_eq_true, if_false, Bool.not_false, if_true, f1, f2, List.nil_append]
def insN (l : List Nat) (m : Nat) : List Nat := l.take (l.filter fun k => decide (k < m)).length ++ m :: l.drop (l.filter fun k => decide (k < m)).length
theorem insN_eq {l : List Nat} (m : Nat) (h : l.Pairwise (· < ·)) : insN l m = (l.filter fun k => decide (k < m)) ++ m :: l.filter fun k => !decide (k < m) := by
  unfold insN
  have e := asc_split m h
  have e1 : l.take (l.filter fun k => decide (k < m)).length = l.filter fun k => decide (k < m) := by
    conv => lhs; rw [e]
    rw [List.filter_append, List.filter_filter]
    simp
  have e2 : l.drop (l.filter fun k => decide (k < m)).length = l.filter fun k => !decide (k < m) := by
    conv => lhs; rw [e]
    rw [List.filter_append, List.filter_filter]
    simp
  rw [e1, e2]
theorem insN_asc {l : List Nat} {m : Nat} (h : l.Pairwise (· < ·)) (hm : m ∉ l) : (insN l m).Pairwise (· < ·) := by
  rw [insN_eq m h, List.pairwise_append, List.pairwise_cons]
  refine ⟨h.filter _, ⟨fun x hx => ?_, h.filter _⟩, fun x hx y hy => ?_⟩
  · obtain ⟨h1, h2⟩ := List.mem_filter.mp hx
    have h3 : ¬ x < m := by simpa using h2
    have h4 : x ≠ m := fun e => hm (e ▸ h1)
    omega
  · obtain ⟨h1, h2⟩ := List.mem_filter.mp hx
    have h3 : x < m := by simpa using h2
    rcases List.mem_cons.mp hy with e | hy
    · omega
    · obtain ⟨h4, h5⟩ := List.mem_filter.mp hy
      have h6 : ¬ y < m := by simpa using h5
      omega
theorem mem_insN {l : List Nat} {m k : Nat} (h : l.Pairwise (· < ·)) : k ∈ insN l m ↔ k ∈ l ∨ k = m := by
  rw [insN_eq m h, List.mem_append, List.mem_cons, List.mem_filter, List.mem_filter]
  by_cases e : k < m
  · have n : k ≠ m := by omega
    simp [e, n]
  · simp only [e, decide_false, Bool.false_eq_true, and_false, false_or, Bool.not_false, and_true]
    exact or_comm

theorem nodup_le : ∀ {l ks : List Nat}, l.Nodup → (∀ k ∈ l, k ∈ ks) → l.length ≤ ks.length
  | [], _, _, _ => Nat.zero_le _
  | a :: l, ks, h, hs => by
    have h1 := List.nodup_cons.mp h
    have ha := hs a List.mem_cons_self
    have ih := nodup_le (ks := ks.erase a) h1.2 fun k hk => (List.mem_erase_of_ne (fun e : k = a => h1.1 (by rw [← e]; exact hk))).mpr (hs k (List.mem_cons_of_mem _ hk))
    rw [List.length_erase_of_mem ha] at ih
    have := List.length_pos_of_mem ha
    rw [List.length_cons]
    omega
theorem asc_len {l ks : List Nat} (h : l.Pairwise (· < ·)) (hs : ∀ k ∈ l, k ∈ ks) : l.length ≤ ks.length :=
  nodup_le (h.imp fun {a b} (q : a < b) => Nat.ne_of_lt q) hs

/-! ### depth -/
def dep (n : Nat) : Nat := (bits n).attach.foldr (fun k d => max (dep k.1 + 1) d) 0
termination_by n
decreasing_by exact bits_lt k.2
theorem foldr_attach {α : Type} (l : List Nat) (f : Nat → α → α) (d : α) : l.attach.foldr (fun k d => f k.1 d) d = l.foldr f d := by
  have h : l.attach.foldr (fun k d => f k.1 d) d = (l.attach.map (·.1)).foldr f d := by rw [List.foldr_map]
  rw [h, List.attach_map_subtype_val]
theorem dep_eq (n : Nat) : dep n = (bits n).foldr (fun k d => max (dep k + 1) d) 0 := by
  rw [dep]
  exact foldr_attach (bits n) (fun k d => max (dep k + 1) d) 0
theorem dep_fold_le (l : List Nat) (d : Nat) : l.foldr (fun k d => max (dep k + 1) d) 0 ≤ d ↔ ∀ k ∈ l, dep k + 1 ≤ d := by
  induction l with
  | nil => simp
  | cons a l ih =>
    rw [List.foldr_cons, Nat.max_le, ih]
    simp
theorem dep_le {n d : Nat} : dep n ≤ d ↔ ∀ k ∈ bits n, dep k + 1 ≤ d := by rw [dep_eq, dep_fold_le]
theorem dep_mem {n k : Nat} (h : k ∈ bits n) : dep k + 1 ≤ dep n := dep_le.mp (Nat.le_refl _) k h
theorem dep_mk {ks : List Nat} {d : Nat} (h : ∀ k ∈ ks, dep k + 1 ≤ d) : dep (mk ks) ≤ d := dep_le.mpr fun k hk => h k (mem_mk.mp hk)
theorem dep_zero : dep 0 = 0 := by rw [dep_eq, bits_zero]; rfl
theorem dep_pos {n d : Nat} (h : dep n ≤ d) (k : Nat) (hk : k ∈ bits n) : dep k ≤ d - 1 := by
  have := dep_mem hk
  omega

/-! ### data -/
def dat (n : Nat) : PyData := .tuple ((bits n).attach.map fun k => dat k.1)
termination_by n
decreasing_by exact bits_lt k.2
theorem dat_eq (n : Nat) : dat n = .tuple ((bits n).map dat) := by
  rw [dat]
  congr 1
  have h : ((bits n).attach.map fun k => dat k.1) = ((bits n).attach.map (·.1)).map dat := by rw [List.map_map]; rfl
  rw [h, List.attach_map_subtype_val]
/-- the rank row's data -/
def rkd (n : Nat) : PyData := .tuple ((bits n).attach.map fun k => rkd k.1).reverse
termination_by n
decreasing_by exact bits_lt k.2
theorem rkd_eq (n : Nat) : rkd n = .tuple ((bits n).reverse.map rkd) := by
  rw [rkd]
  congr 1
  have h : ((bits n).attach.map fun k => rkd k.1) = ((bits n).attach.map (·.1)).map rkd := by rw [List.map_map]; rfl
  rw [h, List.attach_map_subtype_val, List.map_reverse]
theorem allLay {f : Nat → PyData} : ∀ {l : List Nat}, (∀ k ∈ l, (f k).canLay0 = true) → PyData.canLayAll0 (l.map f) = true
  | [], _ => by simp [PyData.canLayAll0]
  | a :: l, h => by
    rw [List.map_cons, PyData.canLayAll0, h a List.mem_cons_self, allLay fun k hk => h k (List.mem_cons_of_mem _ hk)]
    rfl
theorem dat_lay (n : Nat) : (dat n).canLay0 = true := by
  induction n using Nat.strongRecOn with
  | ind n ih =>
    rw [dat_eq, PyData.canLay0]
    exact allLay fun k hk => ih k (bits_lt hk)
theorem rkd_lay (n : Nat) : (rkd n).canLay0 = true := by
  induction n using Nat.strongRecOn with
  | ind n ih =>
    rw [rkd_eq, PyData.canLay0]
    exact allLay fun k hk => ih k (bits_lt (List.mem_reverse.mp hk))
theorem dats_lay (l : List Nat) : PyData.canLayAll0 (l.map dat) = true := allLay fun k _ => dat_lay k
theorem depthAll_le {f : Nat → PyData} {d : Nat} : ∀ {l : List Nat}, (∀ k ∈ l, (f k).depth ≤ d) → PyData.depthAll (l.map f) ≤ d
  | [], _ => by simp [PyData.depthAll]
  | a :: l, h => by
    rw [List.map_cons, PyData.depthAll]
    exact Nat.max_le.mpr ⟨h a List.mem_cons_self, depthAll_le fun k hk => h k (List.mem_cons_of_mem _ hk)⟩
theorem dat_depth (n : Nat) : (dat n).depth ≤ dep n + 1 := by
  induction n using Nat.strongRecOn with
  | ind n ih =>
    rw [dat_eq, PyData.depth]
    have := depthAll_le (f := dat) (d := dep n) (l := bits n) fun k hk => Nat.le_trans (ih k (bits_lt hk)) (dep_mem hk)
    omega
theorem rkd_depth (n : Nat) : (rkd n).depth ≤ dep n + 1 := by
  induction n using Nat.strongRecOn with
  | ind n ih =>
    rw [rkd_eq, PyData.depth]
    have := depthAll_le (f := rkd) (d := dep n) (l := (bits n).reverse) fun k hk => Nat.le_trans (ih k (bits_lt (List.mem_reverse.mp hk))) (dep_mem (List.mem_reverse.mp hk))
    omega
theorem eqvAll_map {f : Nat → PyData} : ∀ {l m : List Nat}, (∀ a ∈ l, ∀ b, PyData.eqv (f a) (f b) = decide (a = b)) → PyData.eqvAll (l.map f) (m.map f) = decide (l = m)
  | [], [], _ => by simp [PyData.eqvAll]
  | [], _ :: _, _ => by simp [PyData.eqvAll]
  | _ :: _, [], _ => by simp [PyData.eqvAll]
  | a :: l, b :: m, h => by
    rw [List.map_cons, List.map_cons, PyData.eqvAll, h a List.mem_cons_self, eqvAll_map fun x hx => h x (List.mem_cons_of_mem _ hx)]
    by_cases e1 : a = b <;> by_cases e2 : l = m <;> simp [e1, e2]
theorem dat_eqv (n m : Nat) : PyData.eqv (dat n) (dat m) = decide (n = m) := by
  induction n using Nat.strongRecOn generalizing m with
  | ind n ih =>
    rw [dat_eq n, dat_eq m, PyData.eqv, eqvAll_map fun a ha b => ih a (bits_lt ha) b]
    by_cases e : n = m
    · subst e; simp
    · have e' : ¬ bits n = bits m := fun z => e (bits_inj z)
      simp [e, e']
theorem rkd_eqv (n m : Nat) : PyData.eqv (rkd n) (rkd m) = decide (n = m) := by
  induction n using Nat.strongRecOn generalizing m with
  | ind n ih =>
    rw [rkd_eq n, rkd_eq m, PyData.eqv, eqvAll_map fun a ha b => ih a (bits_lt (List.mem_reverse.mp ha)) b]
    by_cases e : n = m
    · subst e; simp
    · have e' : ¬ (bits n).reverse = (bits m).reverse := fun z => e (bits_inj (by simpa using congrArg List.reverse z))
      simp [e, e']
theorem dat_inj {n m : Nat} (h : dat n = dat m) : n = m := by
  have q := dat_eqv n m
  rw [h, dat_eqv] at q
  simpa using q
theorem any_dat (l : List Nat) (n : Nat) : ((l.map dat).any fun z => PyData.eqv z (dat n)) = decide (n ∈ l) := by
  induction l with
  | nil => simp
  | cons a l ih =>
    rw [List.map_cons, List.any_cons, ih, dat_eqv]
    by_cases e : a = n
    · subst e; simp
    · have e' : ¬ n = a := fun z => e z.symm
      simp [e, e']
end Nk
namespace Nk
open PySem PySem.Spec PyProof.Rows SrtO Srt

theorem ra_get {h : Heap} : ∀ {vs : List Value} {ds : List PyData} {as : List Addr}, ReadsAll h vs ds as → ∀ {j : Nat} {v : Value}, vs[j]? = some v → ∃ d as', ds[j]? = some d ∧ Reads h v d as'
  | [], _, _, r, j, v, e => by simp at e
  | u :: vs, _, _, r, j, v, e => by
    cases r with
    | cons r1 r2 =>
      cases j with
      | zero =>
        simp at e
        subst e
        exact ⟨_, _, rfl, r1⟩
      | succ j =>
        obtain ⟨d, as', e1, e2⟩ := ra_get r2 (j := j) (v := v) (by simpa using e)
        exact ⟨d, as', by simpa using e1, e2⟩
theorem ra_len {h : Heap} : ∀ {vs : List Value} {ds : List PyData} {as : List Addr}, ReadsAll h vs ds as → vs.length = ds.length
  | [], _, _, r => by cases r; rfl
  | u :: vs, _, _, r => by
    cases r with
    | cons r1 r2 => rw [List.length_cons, List.length_cons, ra_len r2]

/-- u reads as the rank row of n -/
def Rk (h : Heap) (u : Value) (n : Nat) : Prop := ∃ as, Reads h u (rkd n) as
theorem Rk.tup {h : Heap} {u : Value} {n : Nat} (r : Rk h u n) : ∃ a items, u = .ref a ∧ h.IsTuple a items ∧ items.size = (bits n).length ∧ ∀ (j : Nat) (v : Value), items.toList[j]? = some v → ∃ k, (bits n).reverse[j]? = some k ∧ Rk h v k := by
  obtain ⟨as, r⟩ := r
  rw [rkd_eq] at r
  cases r with
  | tuple h1 h2 h3 h4 =>
    refine ⟨_, _, rfl, ⟨_, h1, h2, _, h3⟩, ?_, fun j v e => ?_⟩
    · have l := ra_len h4
      rw [List.length_map, List.length_reverse, Array.length_toList] at l
      exact l
    · obtain ⟨d, as', e1, e2⟩ := ra_get h4 e
      rw [List.getElem?_map] at e1
      cases e3 : (bits n).reverse[j]? with
      | none => rw [e3] at e1; cases e1
      | some k =>
        rw [e3] at e1
        cases e1
        exact ⟨k, rfl, as', e2⟩
theorem Rk.keeps {h h' : Heap} {u : Value} {n : Nat} (k : ∀ b o, h.get? b = some o → h'.get? b = some o) (r : Rk h u n) : Rk h' u n := by
  obtain ⟨as, r⟩ := r
  exact ⟨as, PyProof.Rows.Reads.keeps k r⟩
theorem getD_of {l : List Nat} {j k : Nat} (h : l[j]? = some k) : l.getD j 0 = k := by simp [List.getD, h]
theorem lexAt_lexN (as bs : List Nat) : ∀ (k i : Nat), k = min as.length bs.length - i → i ≤ as.length → i ≤ bs.length →
    Ob.lexAt (fun j => decide (as.getD j 0 = bs.getD j 0)) (fun j => decide (as.getD j 0 < bs.getD j 0)) (decide (as.length < bs.length)) i k = lexN (as.drop i) (bs.drop i)
  | 0, i, hk, h1, h2 => by
    rw [Ob.lexAt_zero]
    by_cases e : i = as.length
    · subst e
      rw [List.drop_length]
      by_cases e' : as.length = bs.length
      · rw [e', List.drop_length]
        simp [lexN]
      · have q : as.length < bs.length := by omega
        rw [List.drop_eq_getElem_cons q]
        simp [lexN, q]
    · have q : i = bs.length := by omega
      subst q
      have q2 : bs.length < as.length := by omega
      rw [List.drop_length, List.drop_eq_getElem_cons q2]
      have q3 : ¬ as.length < bs.length := by omega
      simp [lexN, q3]
  | k + 1, i, hk, h1, h2 => by
    have q1 : i < as.length := by omega
    have q2 : i < bs.length := by omega
    have e1 : as.getD i 0 = as[i] := getD_of (List.getElem?_eq_getElem q1)
    have e2 : bs.getD i 0 = bs[i] := getD_of (List.getElem?_eq_getElem q2)
    rw [Ob.lexAt_succ, List.drop_eq_getElem_cons q1, List.drop_eq_getElem_cons q2, lexN, e1, e2, lexAt_lexN as bs k (i + 1) (by omega) (by omega) (by omega)]
    by_cases e : as[i] = bs[i] <;> simp [e]
theorem lexAt_bits (n m : Nat) : Ob.lexAt (fun j => decide ((bits n).reverse.getD j 0 = (bits m).reverse.getD j 0)) (fun j => decide ((bits n).reverse.getD j 0 < (bits m).reverse.getD j 0))
    (decide ((bits n).reverse.length < (bits m).reverse.length)) 0 (min (bits n).reverse.length (bits m).reverse.length) = decide (n < m) := by
  rw [lexAt_lexN _ _ _ 0 (by omega) (Nat.zero_le _) (Nat.zero_le _), List.drop_zero, List.drop_zero, lex_bits]
theorem rk_eqAt {A : Around} {s : Shared} {u v : Value} {n m : Nat} (hu : Rk s.heap u n) (hv : Rk s.heap v m) (hr : A.units + dep n + 1 < cLine) : SeqAt.EqAt A s u v (decide (n = m)) := by
  obtain ⟨as, ru⟩ := hu
  obtain ⟨bs, rv⟩ := hv
  have h := SeqAt.eqAt_reads (rkd n) (rkd m) A s u v as bs ru rv (rkd_lay n) (rkd_lay m) (by have := rkd_depth n; omega)
  rw [rkd_eqv] at h
  exact h
theorem getElem_toList {items : Array Value} {j : Nat} (h : j < items.size) : items.toList[j]? = some items[j] := by
  rw [Array.getElem?_toList]
  exact Array.getElem?_eq_getElem h
/-- a < b of rank rows -/
theorem rk_lt : ∀ (n m : Nat) (A : Around) (s : Shared) (u v : Value), Rk s.heap u n → Rk s.heap v m → A.units + dep n + 1 < cLine → Ob.RcOp .Lt A s u v (decide (n < m)) := by
  intro n
  induction n using Nat.strongRecOn with
  | ind n ih =>
    intro m A s u v hu hv hr
    obtain ⟨a, xs, rfl, ha, la, ga⟩ := hu.tup
    obtain ⟨b, ys, rfl, hb, lb, gb⟩ := hv.tup
    have h := Ob.RcOp.tuples_lt (A := A) (s := s) ha hb (by omega) (e := fun j => decide ((bits n).reverse.getD j 0 = (bits m).reverse.getD j 0)) (r := fun j => decide ((bits n).reverse.getD j 0 < (bits m).reverse.getD j 0))
      (fun j h1 h2 => by
        obtain ⟨k, ek, rk⟩ := ga j _ (getElem_toList h1)
        obtain ⟨l, el, rl⟩ := gb j _ (getElem_toList h2)
        show SeqAt.EqAt A.in1 s xs[j] ys[j] (decide ((bits n).reverse.getD j 0 = (bits m).reverse.getD j 0))
        rw [getD_of ek, getD_of el]
        have hk : k ∈ bits n := List.mem_reverse.mp (List.mem_of_getElem? ek)
        exact rk_eqAt rk rl (by have := dep_mem hk; show A.units + 1 + dep k + 1 < cLine; omega))
      (fun j h1 h2 _ => by
        obtain ⟨k, ek, rk⟩ := ga j _ (getElem_toList h1)
        obtain ⟨l, el, rl⟩ := gb j _ (getElem_toList h2)
        show Ob.RcOp .Lt A.in1 s xs[j] ys[j] (decide ((bits n).reverse.getD j 0 < (bits m).reverse.getD j 0))
        rw [getD_of ek, getD_of el]
        have hk : k ∈ bits n := List.mem_reverse.mp (List.mem_of_getElem? ek)
        exact ih k (bits_lt hk) l A.in1 s _ _ rk rl (by have := dep_mem hk; show A.units + 1 + dep k + 1 < cLine; omega))
    rw [la, lb, ← List.length_reverse (as := bits n), ← List.length_reverse (as := bits m), lexAt_bits] at h
    exact h

/-! ### the three ways in which list.sort compares such keys -/
section
variable {prog : Program} {w : World} {A : Around} {E : Value → Shared → Prop} {s : Shared}
theorem one_general {u v : Value} {n m : Nat} (hu : Rk s.heap u n) (hv : Rk s.heap v m) (hr : A.units + dep n + 1 < cLine) : wpAny (model prog w) A (oneLt' false u v) (fun r s' => s' = s ∧ r = decide (n < m)) (fun _ _ => False) s :=
  PySem.W.kat_one _ _ (rk_lt n m A s u v hu hv hr prog w _ _ ⟨rfl, rfl⟩)
theorem one_type {u v : Value} {n m : Nat} (hu : Rk s.heap u n) (hv : Rk s.heap v m) (hr : A.units + dep n + 2 < cLine) : wpAny (model prog w) A (oneLt' true u v) (fun r s' => s' = s ∧ r = decide (n < m)) (fun _ _ => False) s := by
  obtain ⟨a, xs, rfl, ha, la, ga⟩ := hu.tup
  obtain ⟨b, ys, rfl, hb, lb, gb⟩ := hv.tup
  obtain ⟨⟨cls, dd, data, sl⟩, ho, hc, k1, hd⟩ := id ha
  obtain ⟨⟨cls2, dd2, data2, sl2⟩, ho2, hc2, k2, hd2⟩ := id hb
  simp only at hc hd hc2 hd2
  subst hc hd hc2 hd2
  rw [oneLt'_eq]
  simp only [if_true]
  refine wpAny_bind (wpAny_cRoomFor (by omega) ?_)
  refine wpAny_bind (wpAny_callSpecialIfBound?_slot ⟨_, ho, rfl⟩ F.slot_tuple_lt ?_)
  refine call_meets F.slot_tuple_lt ⟨_, ho, rfl⟩ F.entry_tuple_lt (F.args_tuple_lt_2 _ _)
    (Ob.tuple_ltAt a b xs ys k1 k2 dd dd2 sl sl2 (fun j => decide ((bits n).reverse.getD j 0 = (bits m).reverse.getD j 0)) (fun j => decide ((bits n).reverse.getD j 0 < (bits m).reverse.getD j 0)))
    ⟨ho, ho2, fun j h1 h2 => ?_, fun j h1 h2 _ => ?_, ?_⟩
  · obtain ⟨k, ek, rk⟩ := ga j _ (getElem_toList h1)
    obtain ⟨l, el, rl⟩ := gb j _ (getElem_toList h2)
    show SeqAt.EqAt A.in1 s xs[j] ys[j] (decide ((bits n).reverse.getD j 0 = (bits m).reverse.getD j 0))
    rw [getD_of ek, getD_of el]
    have hk : k ∈ bits n := List.mem_reverse.mp (List.mem_of_getElem? ek)
    exact rk_eqAt rk rl (by have := dep_mem hk; show A.units + 1 + dep k + 1 < cLine; omega)
  · obtain ⟨k, ek, rk⟩ := ga j _ (getElem_toList h1)
    obtain ⟨l, el, rl⟩ := gb j _ (getElem_toList h2)
    show Ob.RcOp .Lt A.in1 s xs[j] ys[j] (decide ((bits n).reverse.getD j 0 < (bits m).reverse.getD j 0))
    rw [getD_of ek, getD_of el]
    have hk : k ∈ bits n := List.mem_reverse.mp (List.mem_of_getElem? ek)
    exact rk_lt k l A.in1 s _ _ rk rl (by have := dep_mem hk; show A.units + 1 + dep k + 1 < cLine; omega)
  · rw [la, lb, ← List.length_reverse (as := bits n), ← List.length_reverse (as := bits m), lexAt_bits]
    exact wpAny_truthy_bool ⟨rfl, rfl⟩
theorem kat_lex {b : Bool} : ∀ (ps qs : List Nat) (us vs : List Value) (i : Nat), us.length = ps.length → vs.length = qs.length → (b && false) = false →
    (∀ (j : Nat) (u : Value) (k : Nat), us[j]? = some u → ps[j]? = some k → Rk s.heap u k ∧ A.units + dep k + 1 < cLine) → (∀ (j : Nat) (u : Value) (k : Nat), vs[j]? = some u → qs[j]? = some k → Rk s.heap u k) →
    PySem.W.KatLex prog w A false (decide (ps.length < qs.length)) (fun r s' => s' = s ∧ r = lexN ps qs) (us.zip vs) i s
  | [], [], us, vs, i, h1, h2, _, _, _ => by
    have e : us = [] := List.eq_nil_of_length_eq_zero h1
    subst e
    exact PySem.W.kat_nil ⟨rfl, by simp [lexN]⟩
  | [], q :: qs, us, vs, i, h1, h2, _, _, _ => by
    have e : us = [] := List.eq_nil_of_length_eq_zero h1
    subst e
    exact PySem.W.kat_nil ⟨rfl, by simp [lexN]⟩
  | p :: ps, [], us, vs, i, h1, h2, _, _, _ => by
    have e : vs = [] := List.eq_nil_of_length_eq_zero h2
    subst e
    rw [List.zip_nil_right]
    exact PySem.W.kat_nil ⟨rfl, by simp [lexN]⟩
  | p :: ps, q :: qs, u :: us, v :: vs, i, h1, h2, hb, gu, gv => by
    obtain ⟨ru, hr⟩ := gu 0 u p rfl rfl
    have rv := gv 0 v q rfl rfl
    rw [List.zip_cons_cons]
    refine PySem.W.kat_cons (rk_eqAt ru rv hr prog w _ _ ?_)
    have el : decide ((p :: ps).length < (q :: qs).length) = decide (ps.length < qs.length) := by simp
    refine PySem.W.kat_go (fun e => ?_) (fun e => ?_)
    · have epq : p = q := of_decide_eq_true e
      refine PySem.W.kat_yes ?_
      have r := kat_lex (b := b) ps qs us vs (i + 1) (by simpa using h1) (by simpa using h2) hb (fun j x k e1 e2 => gu (j + 1) x k (by simpa using e1) (by simpa using e2)) (fun j x k e1 e2 => gv (j + 1) x k (by simpa using e1) (by simpa using e2))
      rw [el]
      have e2 : lexN (p :: ps) (q :: qs) = lexN ps qs := by rw [lexN, if_pos epq]
      rw [e2]
      exact r
    · have npq : ¬ p = q := of_decide_eq_false e
      refine PySem.W.kat_no ?_
      have e2 : lexN (p :: ps) (q :: qs) = decide (p < q) := by rw [lexN, if_neg npq]
      rw [e2]
      exact one_general ru rv hr
theorem tup_type {u v : Value} {n m : Nat} (hu : Rk s.heap u n) (hv : Rk s.heap v m) (hr : A.units + dep n + 1 < cLine) : wpAny (model prog w) A (keyLt' (tuples' false) u v) (fun r s' => s' = s ∧ r = decide (n < m)) (fun _ _ => False) s := by
  obtain ⟨a, xs, rfl, ha, la, ga⟩ := hu.tup
  obtain ⟨b, ys, rfl, hb, lb, gb⟩ := hv.tup
  obtain ⟨o, ho, hc, k1, hd⟩ := id ha
  obtain ⟨o2, ho2, hc2, k2, hd2⟩ := id hb
  refine PySem.W.kat_lt ho hd ho2 hd2 ?_
  have r := kat_lex (prog := prog) (w := w) (A := A) (s := s) (b := false) (bits n).reverse (bits m).reverse xs.toList ys.toList 0 (by rw [Array.length_toList, la, List.length_reverse]) (by rw [Array.length_toList, lb, List.length_reverse]) rfl
    (fun j u k e1 e2 => by
      obtain ⟨k', ek, rk⟩ := ga j u e1
      rw [e2] at ek
      cases ek
      have hk : k ∈ bits n := List.mem_reverse.mp (List.mem_of_getElem? e2)
      exact ⟨rk, by have := dep_mem hk; omega⟩)
    (fun j u k e1 e2 => by
      obtain ⟨k', ek, rk⟩ := gb j u e1
      rw [e2] at ek
      cases ek
      exact rk)
  rw [lex_bits, List.length_reverse, List.length_reverse, ← la, ← lb] at r
  exact r
end
end Nk
namespace Nk
open PySem PySem.Spec PyProof.Rows SrtO Srt L2

/-! ### questions that change nothing -/
section
variable {M : Model} {A : Around} {E : Value → Shared → Prop} {s : Shared} {α β : Type}
/-- t ends, leaves all as it is, and tells a y of T -/
def Tells (M : Model) (A : Around) (E : Value → Shared → Prop) (s : Shared) {α : Type} (t : Sem α) (T : α → Prop) : Prop := ∀ Q : α → Shared → Prop, (∀ y, T y → Q y s) → wpAny M A t Q E s
theorem Tells.now {T : α → Prop} {y : α} (h : T y) : Tells M A E s (pure y) T := fun _ q => wpAny_pure (q y h)
theorem Tells.on {T : α → Prop} {U : β → Prop} {t : Sem α} {f : α → Sem β} (h : Tells M A E s t T) (g : ∀ y, T y → Tells M A E s (f y) U) : Tells M A E s (t >>= f) U := fun Q q => wpAny_bind (h _ fun y ty => g y ty Q q)
theorem Tells.each {T : β → Prop} {f : α → Sem β} : ∀ l : List α, (∀ v ∈ l, Tells M A E s (f v) T) → Tells M A E s (l.mapM f) fun ys => ys.length = l.length ∧ ∀ y ∈ ys, T y
  | [], _ => by
    rw [List.mapM_nil]
    exact .now ⟨rfl, fun y hy => (by cases hy)⟩
  | v :: l, h => by
    rw [List.mapM_cons]
    refine (h v List.mem_cons_self).on fun y ty => (Tells.each l fun u hu => h u (List.mem_cons_of_mem _ hu)).on fun ys tys => .now ⟨congrArg (· + 1) tys.1, fun z hz => ?_⟩
    rcases List.mem_cons.mp hz with e | hz
    · exact e ▸ ty
    · exact tys.2 z hz
theorem Tells.arr {T : β → Prop} {f : α → Sem β} {l : List α} (h : ∀ v ∈ l, Tells M A E s (f v) T) : Tells M A E s (l.toArray.mapM f) fun ys => ys.size = l.length ∧ ∀ y ∈ ys.toList, T y := by
  have all := (Tells.each l h).on (U := fun ys : Array β => ys.size = l.length ∧ ∀ y ∈ ys.toList, T y) (f := fun ys => pure ys.toArray) fun ys tys => .now tys
  rw [List.mapM_toArray]
  rwa [← map_eq_pure_bind] at all

/-! ### the kind that list.sort finds -/
/-- a tuple -/
def IsT (h : Heap) (v : Value) : Prop := ∃ a items, v = .ref a ∧ h.IsTuple a items
theorem tells_tup {v : Value} (h : IsT s.heap v) : Tells M A E s (typeOf v) (· = .type "tuple") := by
  obtain ⟨a, _, rfl, o, there, isT, _⟩ := h
  exact fun Q q => wpAny_typeOf ⟨o, there, isT⟩ (q _ rfl)
theorem tells_first {v : Value} (h : ∃ a items, v = .ref a ∧ s.heap.IsTuple a items ∧ ∀ x ∈ items.toList, IsT s.heap x) : Tells M A E s (firstOfTuple' v) fun y => ∀ x, y = some x → IsT s.heap x := by
  obtain ⟨a, items, rfl, tup, all⟩ := h
  obtain ⟨_, there, _, _, isS⟩ := id tup
  rw [PySem.W.kas_first_eq]
  refine (tells_tup ⟨a, items, rfl, tup⟩).on fun T e => ?_
  subst e
  refine Tells.on (T := (· = items)) (fun Q q => listItems_at there isS (q _ rfl)) fun its e => .now fun x at0 => ?_
  subst e
  exact all x (Array.mem_toList_iff.mpr (Array.mem_of_getElem? at0))
theorem tells_one {l : List Value} (some_ : 0 < l.length) (h : ∀ v ∈ l, IsT s.heap v) : Tells M A E s (oneTypeOnly' l.toArray) (· = some (.type "tuple")) := by
  rw [oneTypeOnly'_eq]
  refine (Tells.arr fun v hv => tells_tup (h v hv)).on fun ts ⟨size, all⟩ => ?_
  have at0 : ts[0]? = some (.type "tuple") := by
    have z : ts[0]? = some (ts[0]'(by omega)) := Array.getElem?_eq_getElem _
    rw [z, all _ (Array.mem_toList_iff.mpr (Array.getElem_mem _))]
  have same : (ts.all fun x => x == Value.type "tuple") = true := by
    rw [← Array.all_toList, List.all_eq_true]
    intro x hx
    rw [all x hx]
    rfl
  rw [at0]
  exact .now (if_pos same)
theorem rank_kind {vs : List Value} (h2 : 2 ≤ vs.length) (hv : ∀ v ∈ vs, ∃ n, Rk s.heap v n) : Tells M A E s (keyKind' vs.toArray) fun κ => κ = general' ∨ κ = oneType' ∨ κ = tuples' false := by
  have deep : ∀ v ∈ vs, ∃ a items, v = .ref a ∧ s.heap.IsTuple a items ∧ ∀ x ∈ items.toList, IsT s.heap x := fun v hm => by
    obtain ⟨n, r⟩ := hv v hm
    obtain ⟨a, items, e, ht, _, g⟩ := r.tup
    refine ⟨a, items, e, ht, fun x hx => ?_⟩
    obtain ⟨j, hj⟩ := List.getElem?_of_mem hx
    obtain ⟨_, _, rk⟩ := g j x hj
    obtain ⟨b, its, eb, hb, _⟩ := rk.tup
    exact ⟨b, its, eb, hb⟩
  rw [keyKind'_eq]
  refine (Tells.arr fun v hm => tells_first (deep v hm)).on fun fs ⟨size, firsts⟩ => ?_
  split
  · rename_i full
    have full' : ∀ f ∈ fs.toList, f.isSome = true := by
      rw [← Array.all_toList, List.all_eq_true] at full
      exact full
    refine Tells.on (T := fun _ => True) (fun Q q => wpAny_rule (q _ trivial)) fun _ _ => ?_
    have names : fs.filterMap id = (fs.toList.filterMap id).toArray := by
      rw [← Array.toList_inj, Array.toList_filterMap]
    rw [names]
    refine (tells_one (l := fs.toList.filterMap id) ?_ fun v hm => ?_).on fun one e => .now ?_
    · have z : fs.toList.length = vs.length := by rw [Array.length_toList, size]
      revert full' z
      cases fs.toList with
      | nil => intro _ z; rw [List.length_nil] at z; omega
      | cons f fr =>
        intro ok _
        cases f with
        | none => exact absurd (ok none List.mem_cons_self) (by decide)
        | some x => exact Nat.succ_pos _
    · obtain ⟨f, hf, ef⟩ := List.mem_filterMap.mp hm
      exact firsts f hf v ef
    · subst e
      exact .inr (.inr rfl)
  · split
    · exact .now (.inl rfl)
    · refine (tells_one (by omega) fun v hm => ?_).on fun one e => .now ?_
      · obtain ⟨a, items, e, ht, _⟩ := deep v hm
        exact ⟨a, items, e, ht⟩
      · subst e
        exact .inr (.inl rfl)
end

/-! ### the number of a rank row -/
theorem Rk.inj {h : Heap} {u : Value} {n m : Nat} (a : Rk h u n) (b : Rk h u m) : n = m := by
  obtain ⟨as, ra⟩ := a
  obtain ⟨bs, rb⟩ := b
  have e := (SeqAt.readOf_eq (rkd_lay n) ra).symm.trans (SeqAt.readOf_eq (rkd_lay m) rb)
  have q := rkd_eqv n m
  rw [e, rkd_eqv] at q
  simpa using q
open Classical in
noncomputable def kn (h : Heap) (u : Value) : Nat := if x : ∃ n, Rk h u n then x.choose else 0
theorem kn_of {h : Heap} {u : Value} {n : Nat} (r : Rk h u n) : kn h u = n := by
  unfold kn
  have x : ∃ n, Rk h u n := ⟨n, r⟩
  rw [dif_pos x]
  exact x.choose_spec.inj r
noncomputable def ltK (h : Heap) : Keyed → Keyed → Bool := fun p q => decide (kn h p.1 < kn h q.1)
theorem ltK_swo (h : Heap) : Swo (ltK h) := by
  refine ⟨fun x y q => ?_, fun x y z q1 q2 => ?_⟩
  · have := of_decide_eq_true q
    exact decide_eq_false (by omega)
  · have a := of_decide_eq_false q1
    have b := of_decide_eq_false q2
    exact decide_eq_false (by omega)
section
variable {prog : Program} {w : World} {A : Around} {E : Value → Shared → Prop} {s : Shared}
theorem rank_cmp {κ : SortKind} {D : Nat} (hk : κ = general' ∨ κ = oneType' ∨ κ = tuples' false) (hr : A.units + D + 2 < cLine) : SrtO.Cmp prog w A s κ (fun p => ∃ n, Rk s.heap p.1 n ∧ dep n ≤ D) (ltK s.heap) := by
  rintro p q ⟨n, rn, dn⟩ ⟨m, rm, dm⟩
  have e : ltK s.heap p q = decide (n < m) := by unfold ltK; rw [kn_of rn, kn_of rm]
  rw [e]
  rcases hk with rfl | rfl | rfl
  · exact one_general rn rm (by omega)
  · exact one_type rn rm (by omega)
  · exact tup_type rn rm (by omega)

/-- the store of keys is emptied, the list filled anew -/
theorem sort_fill {a kS : Addr} {e e1 : Nat} {keys : Array Value} {st : SortSt} {P : PySem.Fin → Shared → Prop} (nk : s.heap.get? kS = some (seqObj "list" keys e)) (na : s.heap.get? a = some (seqObj "list" #[] e1)) (apart : kS ≠ a) (fits : keys.size ≤ sizeLine) (fits2 : (arrOf st).size ≤ sizeLine) (fine : failedOf st = none)
    (h : ∀ h' tk c, (∀ b o, b ≠ kS → b ≠ a → s.heap.get? b = some o → h'.get? b = some o) → h'.get? a = some (seqObj "list" ((arrOf st).map (·.2)) c) → P (.done (.ret .none)) { s with heap := h', toks := tk }) : wpAny (model prog w) A (ksk_tail a false e1 (.ref kS) st) P E s := by
  have na1 : (s.heap.update kS (Obj.mapSeq fun _ => #[])).get? a = some (seqObj "list" #[] e1) := (Heap.get?_update_other _ _ apart).trans na
  have step1 := fun A2 E2 Q2 => listUpdate_at (M := model prog w) (A := A2) (E := E2) (Q := Q2) (f := fun _ => #[]) nk rfl
  have fits3 : ((arrOf st).map (·.2)).size ≤ sizeLine + 1 := by
    rw [Array.size_map]
    omega
  have step2 := fun A2 E2 Q2 => listUpdate_at (M := model prog w) (A := A2) (E := E2) (Q := Q2) (s := { s with heap := s.heap.update kS (Obj.mapSeq fun _ => #[]) }) (f := fun _ => (arrOf st).map (·.2)) na1 rfl
  have at_ := get?_update_seq na1 fun _ => (arrOf st).map (·.2)
  unfold ksk_tail
  simp only [fine, Bool.false_eq_true, if_false]
  wp_walk using step1 _ _ _, step2 _ _ _, wpAny_letGo
  all_goals first | exact fits3 | skip
  refine h _ s.toks _ (fun b o n1 n2 z => ?_) at_
  exact (Heap.get?_update_other _ _ (Ne.symm n2)).trans ((Heap.get?_update_other _ _ (Ne.symm n1)).trans z)
/-- a key and its item, the key by its number -/
noncomputable def num (h : Heap) (p : Keyed) : Nat × Value := (kn h p.1, p.2)
theorem num_zip {h : Heap} : ∀ {ks vs : List Value} {ns : List Nat}, ks.length = vs.length → ns.length = vs.length → (∀ (i : Nat) (k : Value) (n : Nat), ks[i]? = some k → ns[i]? = some n → Rk h k n) → (ks.zip vs).map (num h) = ns.zip vs
  | [], [], [], _, _, _ => rfl
  | k :: ks, v :: vs, n :: ns, l1, l2, r => by
    rw [List.zip_cons_cons, List.zip_cons_cons, List.map_cons, num_zip (Nat.succ.inj l1) (Nat.succ.inj l2) fun i x m h1 h2 => r (i + 1) x m h1 h2]
    unfold num
    rw [kn_of (r 0 k n rfl rfl)]
  | [], _ :: _, _, l1, _, _ => by cases l1
  | _ :: _, [], _, l1, _, _ => by cases l1
  | [], [], _ :: _, _, l2, _ => by cases l2
  | _ :: _, _ :: _, [], _, l2, _ => by cases l2
/-- the end of list.sort: the keys stand in kS, the list at a is empty -/
theorem sort_end {a kS : Addr} {e e1 D : Nat} {vs : List Value} {keys : Array Value} {ns : List Nat} {P : PySem.Fin → Shared → Prop} (nk : s.heap.get? kS = some (seqObj "list" keys e)) (na : s.heap.get? a = some (seqObj "list" #[] e1)) (apart : kS ≠ a)
    (many : keys.size = vs.length) (many2 : ns.length = vs.length) (rank : ∀ (i : Nat) (k : Value) (n : Nat), keys.toList[i]? = some k → ns[i]? = some n → Rk s.heap k n ∧ dep n ≤ D) (few : vs.length ≤ sizeLine) (room : A.units + D + 2 < cLine)
    (q : ∀ h' tk (ps : List (Nat × Value)) (c : Nat), (∀ b o, b ≠ kS → b ≠ a → s.heap.get? b = some o → h'.get? b = some o) → h'.get? a = some (seqObj "list" (ps.map (·.2)).toArray c) → ps.Perm (ns.zip vs) → ps.Pairwise (fun p q => p.1 ≤ q.1) → P (.done (.ret .none)) { s with heap := h', toks := tk }) :
    wpAny (model prog w) A (ksk_end a false vs.toArray e1 (.ref kS) keys) P E s := by
  have many' : keys.toList.length = vs.length := many
  have ranked : ∀ k ∈ keys.toList, ∃ n, Rk s.heap k n ∧ dep n ≤ D := fun k hk => by
    obtain ⟨i, hi⟩ := List.mem_iff_getElem?.mp hk
    have less : i < ns.length := by
      have := (List.getElem?_eq_some_iff.mp hi).1
      omega
    exact ⟨_, rank i k _ hi (List.getElem?_eq_getElem less)⟩
  have onward : ∀ st : SortSt, Srtd (ltK s.heap) (arrOf st).toList → (arrOf st).toList.Perm (keys.zip vs.toArray).toList → failedOf st = none → wpAny (model prog w) A (ksk_tail a false e1 (.ref kS) st) P E s := fun st inOrder perm fine => by
    rw [ksk_zip] at perm
    have size : (arrOf st).size = vs.length := by
      have := perm.length_eq
      rw [Array.length_toList, List.length_zip] at this
      omega
    refine sort_fill nk na apart (many ▸ few) (size ▸ few) fine fun h' tk c kept at_ => q h' tk ((arrOf st).toList.map (num s.heap)) c kept ?_ ?_ (List.pairwise_map.mpr (inOrder.imp fun {x y} z => Nat.le_of_not_lt (of_decide_eq_false z)))
    · rw [at_, List.map_map]
      congr 2
      rw [← Array.toList_inj, Array.toList_map]
      rfl
    · rw [← num_zip many' many2 fun i k n h1 h2 => (rank i k n h1 h2).1]
      exact perm.map _
  unfold ksk_end
  dsimp only
  rw [if_neg Bool.false_ne_true]
  by_cases short : vs.toArray.size < 2
  · rw [if_pos short, if_pos short]
    have start := onward (SortSt.mk' general' (keys.zip vs.toArray) #[] 7 none) ?_ (List.Perm.refl _) rfl
    · exact wpAny_bind (wpAny_pure (wpAny_bind (m := pure ((), SortSt.mk' general' (keys.zip vs.toArray) #[] 7 none)) (wpAny_pure start)))
    show Srtd (ltK s.heap) (keys.zip vs.toArray).toList
    rw [ksk_zip]
    rw [List.size_toArray] at short
    cases vs with
    | nil => rw [List.zip_nil_right]; exact .nil
    | cons v vs =>
      cases vs with
      | cons _ _ => exact absurd short (by rw [List.length_cons, List.length_cons]; omega)
      | nil =>
        cases keys.toList with
        | nil => exact .nil
        | cons k ks => rw [List.zip_cons_cons, List.zip_nil_right]; exact List.pairwise_singleton _ _
  · rw [if_neg short, if_neg short]
    rw [List.size_toArray] at short
    have kind := rank_kind (M := model prog w) (A := A) (E := E) (s := s) (vs := keys.toList) (by omega) fun v hv => by
      obtain ⟨n, r, _⟩ := ranked v hv
      exact ⟨n, r⟩
    rw [Array.toArray_toList] at kind
    refine wpAny_bind (kind _ fun κ hκ => ?_)
    have all : AllL (fun p : Keyed => ∃ n, Rk s.heap p.1 n ∧ dep n ≤ D) (keys.zip vs.toArray).toList := fun p hp => by
      rw [ksk_zip] at hp
      exact ranked p.1 (List.of_mem_zip (a := p.1) (b := p.2) hp).1
    have run := wpS_sortO (prog := prog) (w := w) (st0 := SortSt.mk' κ (keys.zip vs.toArray) #[] 7 none) (E := E)
      (Q := fun _ st => Srtd (ltK s.heap) (arrOf st).toList ∧ (arrOf st).toList.Perm (keys.zip vs.toArray).toList ∧ failedOf st = none) (ltK_swo s.heap) (rank_cmp hκ room) rfl all rfl rfl fun st h1 h2 h3 => ⟨h1, h2.perm, h3⟩
    refine wpAny_bind (wpAny_mono run ?_ fun _ _ z => z)
    rintro ⟨u, st⟩ s2 ⟨rfl, h1, h2, h3⟩
    cases u
    exact onward st h1 h2 h3
end
end Nk
namespace Nk
open PySem PySem.Spec PyProof.Rows L2

/-! ### nests in the abstract heap -/
/-- sequences stay -/
structure Grow (K : PySem.W.Frag) (H H' : Hp) : Prop where
  tup : ∀ a xs, SqT K H a xs → SqT K H' a xs
theorem Grow.refl {K : PySem.W.Frag} (H : Hp) : Grow K H H := ⟨fun _ _ h => h⟩
theorem Grow.trans {K : PySem.W.Frag} {H H1 H2 : Hp} (a : Grow K H H1) (b : Grow K H1 H2) : Grow K H H2 := ⟨fun c xs h => b.tup c xs (a.tup c xs h)⟩
theorem sqT_same {K : PySem.W.Frag} {H H' : Hp} {a : Addr} {xs : List V} (e : Same H H') (h : SqT K H a xs) : SqT K H' a xs := by
  rcases h with (h | ⟨o, h⟩) | h
  · exact .inl (.inl (e _ _ h))
  · exact .inl (.inr ⟨o, e _ _ h⟩)
  · exact .inr h
theorem Grow.of {K : PySem.W.Frag} {H H' : Hp} (h : Same H H') : Grow K H H' := ⟨fun _ _ q => sqT_same h q⟩
/-- a store at an address that holds no tuple -/
theorem Grow.upd {K : PySem.W.Frag} {H : Hp} {a : Addr} {o : HO} (h : ∀ o', H a = some o' → (∀ xs, o' ≠ .tup xs) ∧ ∀ ob u, o' ≠ .frz ob u) : Grow K H (upd H a o) := by
  refine ⟨fun c xs q => ?_⟩
  rcases q with (q | ⟨ob, q⟩) | q
  · refine .inl (.inl ?_)
    rw [upd_ne (fun e : c = a => (h _ (by rw [← e]; exact q)).1 xs rfl)]
    exact q
  · refine .inl (.inr ⟨ob, ?_⟩)
    rw [upd_ne (fun e : c = a => (h _ (by rw [← e]; exact q)).2 ob _ rfl)]
    exact q
  · exact .inr q
theorem Grow.new {K : PySem.W.Frag} {H : Hp} {a : Addr} {o : HO} (h : H a = none) : Grow K H (L2.upd H a o) := Grow.upd fun o' e => by rw [h] at e; cases e
theorem Grow.lst {K : PySem.W.Frag} {H : Hp} {a : Addr} {xs : List V} {o : HO} (h : H a = some (.lst xs)) : Grow K H (L2.upd H a o) := Grow.upd fun o' e => by
  rw [h] at e
  cases e
  exact ⟨fun _ q => (by cases q), fun _ _ q => (by cases q)⟩

mutual
/-- nested tuples -/
inductive Tp (K : PySem.W.Frag) (H : Hp) : V → PyData → Prop
  | tup {a : Addr} {xs : List V} {ds : List PyData} : SqT K H a xs → TpAll K H xs ds → Tp K H (.ref a) (.tuple ds)
inductive TpAll (K : PySem.W.Frag) (H : Hp) : List V → List PyData → Prop
  | nil : TpAll K H [] []
  | cons {v : V} {vs : List V} {d : PyData} {ds : List PyData} : Tp K H v d → TpAll K H vs ds → TpAll K H (v :: vs) (d :: ds)
end
section
variable {K : PySem.W.Frag} {H H' : Hp}
mutual
theorem Tp.grow (g : Grow K H H') : ∀ {v : V} {d : PyData}, Tp K H v d → Tp K H' v d
  | _, _, .tup h r => .tup (g.tup _ _ h) (TpAll.grow g r)
theorem TpAll.grow (g : Grow K H H') : ∀ {vs : List V} {ds : List PyData}, TpAll K H vs ds → TpAll K H' vs ds
  | _, _, .nil => .nil
  | _, _, .cons h r => .cons (Tp.grow g h) (TpAll.grow g r)
end
mutual
theorem Tp.dp : ∀ {v : V} {d : PyData}, Tp K H v d → Dp K H v d
  | _, _, .tup h r => .tup h (TpAll.dp r)
theorem TpAll.dp : ∀ {vs : List V} {ds : List PyData}, TpAll K H vs ds → DpAll K H vs ds
  | _, _, .nil => .nil
  | _, _, .cons h r => .cons (Tp.dp h) (TpAll.dp r)
end
theorem TpAll.len : ∀ {vs : List V} {ds : List PyData}, TpAll K H vs ds → vs.length = ds.length
  | _, _, .nil => rfl
  | _, _, .cons _ r => by rw [List.length_cons, List.length_cons, TpAll.len r]
theorem TpAll.get : ∀ {vs : List V} {ds : List PyData}, TpAll K H vs ds → ∀ {j : Nat} {v : V}, vs[j]? = some v → ∃ d, ds[j]? = some d ∧ Tp K H v d
  | _, _, .nil, j, v, e => by simp at e
  | _, _, .cons h r, 0, v, e => by
    simp at e
    subst e
    exact ⟨_, rfl, h⟩
  | _, _, .cons h r, j + 1, v, e => by
    obtain ⟨d, e1, e2⟩ := TpAll.get r (j := j) (v := v) (by simpa using e)
    exact ⟨d, by simpa using e1, e2⟩
theorem TpAll.get' : ∀ {vs : List V} {ds : List PyData}, TpAll K H vs ds → ∀ {j : Nat} {d : PyData}, ds[j]? = some d → ∃ v, vs[j]? = some v ∧ Tp K H v d
  | _, _, .nil, j, v, e => by simp at e
  | _, _, .cons h r, 0, v, e => by
    simp at e
    subst e
    exact ⟨_, rfl, h⟩
  | _, _, .cons h r, j + 1, v, e => by
    obtain ⟨d, e1, e2⟩ := TpAll.get' r (j := j) (d := v) (by simpa using e)
    exact ⟨d, by simpa using e1, e2⟩
theorem TpAll.app : ∀ {vs ws : List V} {ds es : List PyData}, TpAll K H vs ds → TpAll K H ws es → TpAll K H (vs ++ ws) (ds ++ es)
  | _, _, _, _, .nil, s => s
  | _, _, _, _, .cons h r, s => .cons h (TpAll.app r s)
theorem TpAll.of {f : Nat → PyData} : ∀ {ps : List (Nat × V)}, (∀ p ∈ ps, Tp K H p.2 (f p.1)) → TpAll K H (ps.map (·.2)) ((ps.map (·.1)).map f)
  | [], _ => .nil
  | p :: ps, h => .cons (h p List.mem_cons_self) (TpAll.of fun q hq => h q (List.mem_cons_of_mem _ hq))
theorem TpAll.pairs {f : Nat → PyData} : ∀ {vs : List V} {ns : List Nat}, TpAll K H vs (ns.map f) → ∃ ps : List (Nat × V), ps.map (·.2) = vs ∧ ps.map (·.1) = ns ∧ ∀ p ∈ ps, Tp K H p.2 (f p.1)
  | [], [], _ => ⟨[], rfl, rfl, fun p h => by cases h⟩
  | [], _ :: _, h => by cases h
  | _ :: _, [], h => by cases h
  | v :: vs, n :: ns, h => by
    cases h with
    | cons h1 h2 =>
      obtain ⟨ps, e1, e2, g⟩ := TpAll.pairs h2
      refine ⟨(n, v) :: ps, by rw [List.map_cons, e1], by rw [List.map_cons, e2], fun p hp => ?_⟩
      rcases List.mem_cons.mp hp with e | hp
      · subst e; exact h1
      · exact g p hp
end
/-- v is the nest whose number is n -/
abbrev Na (K : PySem.W.Frag) (H : Hp) (v : V) (n : Nat) : Prop := Tp K H v (dat n)
abbrev NaAll (K : PySem.W.Frag) (H : Hp) (vs : List V) (ns : List Nat) : Prop := TpAll K H vs (ns.map dat)
theorem Na.tup {K : PySem.W.Frag} {H : Hp} {v : V} {n : Nat} (h : Na K H v n) : ∃ a xs, v = .ref a ∧ SqT K H a xs ∧ NaAll K H xs (bits n) := by
  have h' : Tp K H v (.tuple ((bits n).map dat)) := by rw [← dat_eq]; exact h
  cases h' with
  | tup h1 h2 => exact ⟨_, _, rfl, h1, h2⟩
theorem Na.of {K : PySem.W.Frag} {H : Hp} {a : Addr} {xs : List V} {n : Nat} (h : SqT K H a xs) (r : NaAll K H xs (bits n)) : Na K H (.ref a) n := by
  show Tp K H (.ref a) (dat n)
  rw [dat_eq]
  exact .tup h r
theorem shaped_dat {n : Nat} (h : dep n ≤ 60) : SeqAt.shaped (dat n) = true := by
  have := dat_depth n
  unfold SeqAt.shaped
  rw [dat_lay, Bool.true_and]
  exact decide_eq_true (by omega)
theorem shaped_dats {ns : List Nat} (h : ∀ n ∈ ns, dep n ≤ 60) : SeqAt.shaped (.list (ns.map dat)) = true := by
  have := depthAll_le (f := dat) (d := 61) (l := ns) fun k hk => by have := dat_depth k; have := h k hk; omega
  unfold SeqAt.shaped
  rw [PyData.canLay0, dats_lay, Bool.true_and]
  refine decide_eq_true ?_
  rw [PyData.depth]
  omega

/-! ### operators on nests -/
section
variable {X : Cx}
/-- a == b -/
def rEqN (K : PySem.W.Frag) : R2 := fun x y H Q => ∃ n m, Na K H x n ∧ Na K H y m ∧ dep n ≤ 60 ∧ dep m ≤ 60 ∧ Q (.bl (decide (n = m))) H
theorem op_eqN (hu : X.A.units + 64 < cLine) : OpR X (compareOp .Eq) (rEqN X.K) := by
  intro pins s σ H x y v u Q I rx ry h
  obtain ⟨n, m, h1, h2, d1, d2, q⟩ := h
  refine op_eqD hu pins s σ H x y v u Q I rx ry ⟨_, _, h1.dp, h2.dp, shaped_dat d1, shaped_dat d2, ?_⟩
  rw [dat_eqv]
  exact q
def rNeN (K : PySem.W.Frag) : R2 := fun x y H Q => ∃ n m, Na K H x n ∧ Na K H y m ∧ dep n ≤ 60 ∧ dep m ≤ 60 ∧ Q (.bl (!decide (n = m))) H
theorem op_neN (hu : X.A.units + 64 < cLine) : OpR X (compareOp .NotEq) (rNeN X.K) := by
  intro pins s σ H x y v u Q I rx ry h
  obtain ⟨n, m, h1, h2, d1, d2, q⟩ := h
  refine op_neD hu pins s σ H x y v u Q I rx ry ⟨_, _, h1.dp, h2.dp, shaped_dat d1, shaped_dat d2, ?_⟩
  rw [dat_eqv]
  exact q
/-- a in xs, xs a list or a tuple of nests -/
def rInN (K : PySem.W.Frag) (neg : Bool) : R2 := fun x y H Q => ∃ n a xs ns, Na K H x n ∧ dep n ≤ 60 ∧ y = .ref a ∧ (SqL K H a xs ∨ SqT K H a xs) ∧ NaAll K H xs ns ∧ (∀ k ∈ ns, dep k ≤ 60) ∧
  Q (.bl (if neg then !decide (n ∈ ns) else decide (n ∈ ns))) H
theorem op_inN (hu : X.A.units + 66 < cLine) : OpR X (compareOp .In) (rInN X.K false) := by
  intro pins s σ H x y v u Q I rx ry h
  obtain ⟨n, a, xs, ns, h1, d1, rfl, hs, h2, d2, q⟩ := h
  obtain ⟨as, r1⟩ := Dp.reads I _ x v h1.dp rx
  have hq : Q (.bl ((ns.map dat).any fun z => PyData.eqv z (dat n))) H := by rw [any_dat]; exact q
  have hdn := dat_depth n
  rcases hs with hs | hs
  · obtain ⟨bs, r2⟩ := Dp.reads I (.list (ns.map dat)) (.ref a) u (.lst hs h2.dp) ry
    exact SeqAt.in_list_reads r2 r1 (dats_lay ns) (dat_lay n) (by omega) ⟨.bl _, H, I, rfl, hq⟩
  · obtain ⟨bs, r2⟩ := Dp.reads I (.tuple (ns.map dat)) (.ref a) u (.tup hs h2.dp) ry
    exact SeqAt.in_tuple_reads r2 r1 (dats_lay ns) (dat_lay n) (by omega) ⟨.bl _, H, I, rfl, hq⟩
theorem op_notInN (hu : X.A.units + 66 < cLine) : OpR X (compareOp .NotIn) (rInN X.K true) := by
  intro pins s σ H x y v u Q I rx ry h
  obtain ⟨n, a, xs, ns, h1, d1, rfl, hs, h2, d2, q⟩ := h
  obtain ⟨as, r1⟩ := Dp.reads I _ x v h1.dp rx
  have hq : Q (.bl (!((ns.map dat).any fun z => PyData.eqv z (dat n)))) H := by rw [any_dat]; exact q
  have hdn := dat_depth n
  rcases hs with hs | hs
  · obtain ⟨bs, r2⟩ := Dp.reads I (.list (ns.map dat)) (.ref a) u (.lst hs h2.dp) ry
    exact SeqAt.notIn_list_reads r2 r1 (dats_lay ns) (dat_lay n) (by omega) ⟨.bl _, H, I, rfl, hq⟩
  · obtain ⟨bs, r2⟩ := Dp.reads I (.tuple (ns.map dat)) (.ref a) u (.tup hs h2.dp) ry
    exact SeqAt.notIn_tuple_reads r2 r1 (dats_lay ns) (dat_lay n) (by omega) ⟨.bl _, H, I, rfl, hq⟩
/-- a < b of rank rows -/
def rLtR (K : PySem.W.Frag) : R2 := fun x y H Q => ∃ n m, Tp K H x (rkd n) ∧ Tp K H y (rkd m) ∧ dep n ≤ 60 ∧ Q (.bl (decide (n < m))) H
theorem op_ltR (hu : X.A.units + 64 < cLine) : OpR X (compareOp .Lt) (rLtR X.K) := by
  intro pins s σ H x y v u Q I rx ry h
  obtain ⟨n, m, h1, h2, d1, q⟩ := h
  exact rk_lt n m X.A s v u (Dp.reads I _ x v h1.dp rx) (Dp.reads I _ y u h2.dp ry) (by omega) X.prog X.w _ _ ⟨.bl _, H, I, rfl, q⟩
end

/-! ### dicts whose keys are nests -/
def nk (n : Nat) : NestedKey := .tup ((bits n).attach.map fun k => nk k.1)
termination_by n
decreasing_by exact bits_lt k.2
theorem nk_eq (n : Nat) : nk n = .tup ((bits n).map nk) := by
  rw [nk]
  congr 1
  have h : ((bits n).attach.map fun k => nk k.1) = ((bits n).attach.map (·.1)).map nk := by rw [List.map_map]; rfl
  rw [h, List.attach_map_subtype_val]
theorem map_inj_on {f : Nat → NestedKey} : ∀ {l m : List Nat}, (∀ a ∈ l, ∀ b, f a = f b → a = b) → l.map f = m.map f → l = m
  | [], [], _, _ => rfl
  | [], _ :: _, _, e => by simp at e
  | _ :: _, [], _, e => by simp at e
  | a :: l, b :: m, h, e => by
    rw [List.map_cons, List.map_cons] at e
    injection e with e1 e2
    rw [h a List.mem_cons_self b e1, map_inj_on (fun x hx => h x (List.mem_cons_of_mem _ hx)) e2]
theorem nk_inj {n m : Nat} (h : nk n = nk m) : n = m := by
  induction n using Nat.strongRecOn generalizing m with
  | ind n ih =>
    rw [nk_eq n, nk_eq m] at h
    injection h with h
    exact bits_inj (map_inj_on (fun a ha b e => ih a (bits_lt ha) e) h)
theorem nkAll_depth {d : Nat} : ∀ {l : List Nat}, (∀ k ∈ l, (nk k).depth ≤ d) → NestedKey.depthAll (l.map nk) ≤ d
  | [], _ => by simp [NestedKey.depthAll]
  | a :: l, h => by
    rw [List.map_cons, NestedKey.depthAll]
    exact Nat.max_le.mpr ⟨h a List.mem_cons_self, nkAll_depth fun k hk => h k (List.mem_cons_of_mem _ hk)⟩
theorem nk_depth (n : Nat) : (nk n).depth ≤ dep n + 1 := by
  induction n using Nat.strongRecOn with
  | ind n ih =>
    rw [nk_eq, NestedKey.depth]
    have := nkAll_depth (d := dep n) (l := bits n) fun k hk => Nat.le_trans (ih k (bits_lt hk)) (dep_mem hk)
    omega
theorem nested_all {h : Heap} : ∀ {l : List Nat} {vs : List Value} {as : List Addr}, (∀ k ∈ l, ∀ (v : Value) (bs : List Addr), Reads h v (dat k) bs → NestedIs h (nk k) v) → ReadsAll h vs (l.map dat) as → NestedAll h (l.map nk) vs
  | [], vs, _, _, r => by
    cases r
    exact .nil
  | a :: l, vs, _, g, r => by
    rw [List.map_cons] at r
    cases r with
    | cons r1 r2 => exact .cons (g a List.mem_cons_self _ _ r1) (nested_all (fun k hk => g k (List.mem_cons_of_mem _ hk)) r2)
theorem nested_of {h : Heap} (n : Nat) : ∀ (v : Value) (as : List Addr), Reads h v (dat n) as → NestedIs h (nk n) v := by
  induction n using Nat.strongRecOn with
  | ind n ih =>
    intro v as r
    rw [dat_eq] at r
    rw [nk_eq]
    cases r with
    | tuple h1 h2 h3 h4 => exact .tup h1 h2 h3 (nested_all (fun k hk => ih k (bits_lt hk)) h4)
abbrev trues (xs : List (Nat × Addr)) : List (NestedKey × Addr × Value) := xs.map fun p => (nk p.1, p.2, Value.bool true)
/-- at d a dict: its keys are the nests told, each value True -/
def ND (P : Program) (w : World) (d : Addr) (xs : List (Nat × Addr)) : HO := .ext fun h => (d == sysModules) = false ∧ ∃ o es ep, h.get? d = some o ∧ o.ExactDict ∧ o.data = .dict es ep ∧ es.toList = (trues xs).map (entryOfKey (nestedKind P w))
theorem ND_ok {P : Program} {w : World} {H : Hp} {h : Heap} {d : Addr} {xs : List (Nat × Addr)} (lo : (d == sysModules) = false) {o : Obj} {es : Array DictEntry} {ep : Nat} (e : h.get? d = some o) (c : o.ExactDict) (e2 : o.data = .dict es ep) (e3 : es.toList = (trues xs).map (entryOfKey (nestedKind P w))) :
    ObjOk P w H h d (ND P w d xs) :=
  ⟨⟨lo, o, es, ep, e, c, e2, e3⟩, ⟨o, e⟩, fun h1 h2 ⟨l, o1, es1, ep1, q1, q2⟩ k => ⟨l, o1, es1, ep1, k _ q1, q2⟩⟩
theorem ND_of {P : Program} {w : World} {H : Hp} {h : Heap} {d : Addr} {xs : List (Nat × Addr)} (x : ObjOk P w H h d (ND P w d xs)) : (d == sysModules) = false ∧ ∃ o es ep, h.get? d = some o ∧ o.ExactDict ∧ o.data = .dict es ep ∧ es.toList = (trues xs).map (entryOfKey (nestedKind P w)) := x.1
def putN (xs : List (Nat × Addr)) (n : Nat) (a : Addr) : List (Nat × Addr) := if n ∈ xs.map (·.1) then xs else xs ++ [(n, a)]
theorem at_trues (xs : List (Nat × Addr)) (n : Nat) : (atKey (trues xs) (nk n)).isSome = decide (n ∈ xs.map (·.1)) := by
  induction xs with
  | nil => simp [atKey]
  | cons p xs ih =>
    by_cases e : p.1 = n
    · subst e
      simp [atKey, trues]
    · have e1 : ¬ nk p.1 = nk n := fun z => e (nk_inj z)
      have e2 : ¬ n = p.1 := fun z => e z.symm
      have ih' : (List.find? (fun x => decide (x.1 = nk n)) (trues xs)).isSome = decide (n ∈ xs.map (·.1)) := by
        rw [← ih]
        simp [atKey]
      simp only [atKey, trues, List.map_cons, List.find?_cons, e1, decide_false, Option.isSome_map, List.mem_cons, e2, false_or]
      exact ih'
theorem stored_trues (xs : List (Nat × Addr)) (n : Nat) (a : Addr) : storedH (trues xs) (nk n) a (.bool true) = trues (putN xs n a) := by
  unfold storedH putN
  rw [at_trues]
  by_cases e : n ∈ xs.map (·.1)
  · rw [if_pos (decide_eq_true e), if_pos e]
    refine (List.map_congr_left fun x hx => ?_).trans (List.map_id _)
    obtain ⟨p, _, rfl⟩ := List.mem_map.mp hx
    unfold putAt
    by_cases e' : nk p.1 = nk n
    · rw [if_pos e']; rfl
    · rw [if_neg e']; rfl
  · have e1 : ¬ decide (n ∈ xs.map (·.1)) = true := by simp [e]
    rw [if_neg e1, if_neg e]
    simp [trues]
/-- what the keys are -/
def KeysOk (K : PySem.W.Frag) (H : Hp) (xs : List (Nat × Addr)) : Prop := (∀ p ∈ xs, Na K H (.ref p.2) p.1 ∧ dep p.1 ≤ 7) ∧ (xs.map (·.1)).Nodup
theorem KeysOk.grow {K : PySem.W.Frag} {H H' : Hp} {xs : List (Nat × Addr)} (g : Grow K H H') (h : KeysOk K H xs) : KeysOk K H' xs := ⟨fun p hp => ⟨(h.1 p hp).1.grow g, (h.1 p hp).2⟩, h.2⟩
theorem KeysOk.put {K : PySem.W.Frag} {H : Hp} {xs : List (Nat × Addr)} {n : Nat} {a : Addr} (h : KeysOk K H xs) (r : Na K H (.ref a) n) (d : dep n ≤ 7) : KeysOk K H (putN xs n a) := by
  unfold putN
  by_cases e : n ∈ xs.map (·.1)
  · rw [if_pos e]; exact h
  · rw [if_neg e]
    refine ⟨fun p hp => ?_, ?_⟩
    · rcases List.mem_append.mp hp with hp | hp
      · exact h.1 p hp
      · rw [List.mem_singleton.mp hp]; exact ⟨r, d⟩
    · rw [List.map_append, List.nodup_append]
      refine ⟨h.2, by simp, fun x hx y hy => ?_⟩
      simp at hy
      subst hy
      intro z
      subst z
      exact e hx
theorem mem_putN {xs : List (Nat × Addr)} {n k : Nat} {a : Addr} : k ∈ (putN xs n a).map (·.1) ↔ k ∈ xs.map (·.1) ∨ k = n := by
  unfold putN
  by_cases e : n ∈ xs.map (·.1)
  · rw [if_pos e]
    exact ⟨.inl, fun z => z.elim id fun z => z ▸ e⟩
  · rw [if_neg e, List.map_append, List.mem_append]
    simp
theorem putN_len (xs : List (Nat × Addr)) (n : Nat) (a : Addr) : (putN xs n a).length ≤ xs.length + 1 := by
  unfold putN
  split
  · omega
  · rw [List.length_append]; simp
section
variable {X : Cx} {pos : Pos}
def tDNewN (P : Program) (w : World) : TE := fun _ H Q => ∀ p, H p = none → Q (.ref p) (upd H p (ND P w p []))
theorem pe_dnewN : PE X (.Dict [] [] pos) (tDNewN X.prog X.w) := ⟨fun pins s σ H Q I h =>
  wpAny_Dict_empty ⟨.ref s.heap.objs.size, _, I.laid (a := s.heap.objs.size) (o := ND X.prog X.w s.heap.objs.size []) (t' := s.toks) (fun _ _ q => Heap.get?_push_of_some _ q) (Nat.le_refl _)
    (ND_ok (beq_eq_false_iff_ne.mpr (Ne.symm (Nat.ne_of_lt I.big))) (es := #[]) (ep := 0) (Heap.get?_push_size _ rfl) ⟨rfl, rfl, rfl⟩ rfl rfl), rfl, h _ (I.hok.fresh (Nat.le_refl _))⟩⟩
theorem dictH {pins : List (Addr × Obj)} {σ : L2.St} {H : Hp} {s : Shared} {d : Addr} {xs : List (Nat × Addr)} (I : Inv X pins σ H s) (e : H d = some (ND X.prog X.w d xs)) (k : KeysOk X.K H xs) : (d == sysModules) = false ∧ s.heap.DictOfH (nestedKind X.prog X.w) d (trues xs) := by
  obtain ⟨lo, o, es, ep, e1, c, e2, e3⟩ := ND_of (I.hok d _ e)
  refine ⟨lo, o, es, ep, e1, c, e2, e3, fun x hx => ?_, ?_⟩
  · obtain ⟨p, hp, rfl⟩ := List.mem_map.mp hx
    obtain ⟨r, dp⟩ := k.1 p hp
    obtain ⟨as, rr⟩ := Dp.reads I _ _ _ r.dp (show RelV (.ref p.2) (.ref p.2) from rfl)
    exact ⟨nested_of _ _ _ rr, by have := nk_depth p.1; show (nk p.1).depth ≤ 8; omega⟩
  · have q : (trues xs).map (·.1) = (xs.map (·.1)).map nk := by rw [List.map_map, List.map_map]; rfl
    rw [q]
    exact (List.pairwise_map.mpr (k.2.imp fun {a b} h z => h (nk_inj z)))
/-- d[nest] = True -/
def rSetN (P : Program) (w : World) (K : PySem.W.Frag) : TSet := fun o i v H Q => ∃ d a n xs, o = .ref d ∧ i = .ref a ∧ v = .bl true ∧ H d = some (ND P w d xs) ∧ KeysOk K H xs ∧ Na K H (.ref a) n ∧ dep n ≤ 7 ∧ xs.length ≤ sizeLine ∧ Q (upd H d (ND P w d (putN xs n a)))
theorem set_nd (hu : X.A.units + 16 < cLine) : PSet X (rSetN X.prog X.w X.K) := by
  intro pins s σ H o i v ov iv u Q I ro ri rv h
  obtain ⟨d, a, n, xs, rfl, rfl, rfl, hd, hk, hn, dn, hz, q⟩ := h
  obtain rfl : ov = Value.ref d := ro
  obtain rfl : iv = Value.ref a := ri
  obtain rfl : u = Value.bool true := rv
  obtain ⟨lo, hm⟩ := dictH I hd hk
  obtain ⟨as, rr⟩ := Dp.reads I _ _ _ hn.dp (show RelV (.ref a) (.ref a) from rfl)
  refine wpAny_setItem_heap (hsz := by rw [List.length_map]; exact hz) (knd := nestedKind X.prog X.w) (by show X.A.units + 1 + 8 < cLine; omega) ⟨nested_of _ _ _ rr, by have := nk_depth n; show (nk n).depth ≤ 8; omega⟩ hm fun h' hm' hs => ?_
  rw [stored_trues] at hm'
  obtain ⟨ob, es, ep, e1, c, e2, e3, _, _⟩ := hm'
  exact ⟨_, I.write (x := d) (e := d) (by rw [hd]; exact True.intro) (.inl rfl) (fun b u hb e => (hs.2 b hb).trans e) ⟨_, e1⟩ (ND_ok lo e1 c e2 e3), q⟩
end
end Nk
namespace Nk
open PySem PySem.Spec PyProof.Rows L2

/-! ### records of ours: pinned, changed by us alone, tracked at the end -/
structure Own (X : Cx) (c : Addr) : Prop where
  new : X.s_0.heap.objs.size ≤ c
  loc : c ≠ X.env.locals
  fs : c ∉ X.fs
  cell : ∀ x c', X.env.cells.lookup x = some c' → c' ≠ c
section
variable {X : Cx} {pins : List (Addr × Obj)} {σ : L2.St} {H : Hp} {s : Shared}
theorem Own.of (I : Inv X pins σ H s) {c : Addr} (h : s.heap.objs.size ≤ c) : Own X c := by
  obtain ⟨f0, f1, f2, f3, f4, f5⟩ := I.fpOk (H' := H) (b := c) h (I.hok.fresh h)
  exact ⟨Nat.le_trans I.sz h, f1, f2, f4⟩
theorem pin_lt (I : Inv X pins σ H s) {p : Addr × Obj} (hp : p ∈ X.pn ++ pins) : p.1 < s.heap.objs.size := Heap.lt_size (I.pin p hp).1
theorem pin_add (I : Inv X pins σ H s) {c : Addr} {o : Obj} (w : Own X c) (n : H c = none) (e : s.heap.get? c = some o) (d : ∀ v, o.data ≠ .cell v) : Inv X ((c, o) :: pins) σ H s :=
  I.pins_of fun p hp => by
    rcases List.mem_cons.mp hp with e' | hp
    · subst e'
      exact ⟨e, n, w.loc, w.fs, d⟩
    · exact I.pin p (List.mem_append_right _ hp)
theorem pin_drop (I : Inv X pins σ H s) {pins' : List (Addr × Obj)} (h : ∀ p ∈ pins', p ∈ pins) : Inv X pins' σ H s := I.pins_of fun p hp => I.pin p (List.mem_append_right _ (h p hp))
/-- one's own record changes -/
theorem own_turn (I : Inv X pins σ H s) {c : Addr} {h' : Heap} {t' : Nat} (w : Own X c) (n : H c = none) (hp : ∀ p ∈ X.pn ++ pins, p.1 ≠ c) (k : Heap.SameBut c s.heap h') : Inv X pins σ H { s with heap := h', toks := t' } :=
  I.turned (t' := t') (fun b o hb e => (k.2 b hb).trans e) n w.loc (.inr w.new) w.cell hp
/-- one's own record is tracked from now on -/
theorem own_track (I : Inv X pins σ H s) {c : Addr} {o : HO} (w : Own X c) (n : H c = none) (hp : ∀ p ∈ X.pn ++ pins, p.1 ≠ c) (ok : ObjOk X.prog X.w (upd H c o) s.heap c o) : Inv X pins σ (upd H c o) s := by
  have ne : ∀ b u, H b = some u → b ≠ c := fun b u e => ne_of_none e n
  refine ⟨I.ok, I.os, I.bare, ⟨I.base.keep, I.base.slot, fun b ob e hn hx => ?_, I.base.there, fun b xs e => ?_, fun b ob u e => ?_, fun b ps e => ?_⟩, I.loc, I.cell, ?_, fun x c' e => ?_, fun p hp' => ?_, fun b u e => ?_, I.len⟩
  · have hb : b ≠ c := Nat.ne_of_lt (Nat.lt_of_lt_of_le (Heap.lt_size e) w.new)
    rw [upd_ne hb]
    exact I.base.free b ob e hn hx
  · have q := I.base.tups b xs e
    rw [upd_ne (ne b _ q)]
    exact q
  · have q := I.base.frzs b ob u e
    rw [upd_ne (ne b _ q)]
    exact q
  · obtain ⟨m, q⟩ := I.base.tbls b ps e
    exact ⟨m, by rw [upd_ne (ne b _ q)]; exact q⟩
  · rw [upd_ne (Ne.symm w.loc)]
    exact I.free
  · rw [upd_ne (w.cell x c' e)]
    exact I.freeC x c' e
  · obtain ⟨a1, a2, a3, a4, a5⟩ := I.pin p hp'
    exact ⟨a1, by rw [upd_ne (hp p hp')]; exact a2, a3, a4, a5⟩
  · by_cases hb : b = c
    · subst hb
      rw [upd_same] at e
      cases e
      exact ok
    · rw [upd_ne hb] at e
      exact (I.hok b u e).stay (fun _ _ _ q => q) (fun d q => by rw [upd_ne (ne d _ q)]; exact q) fun d xs q => by rw [upd_ne (ne d _ q)]; exact q
/-- a call under built-ins, two deep -/
theorem run_in2 {k : Nat} {f : Addr} {fd : FuncData} {ps : List Str} {sp : Sp} {u : Value} {v : V} {Q : VK} {E : XK} {E' : Value → Shared → Prop} (F : FnOk X.prog X.w X.K X.mg X.base CX0 k f fd ps sp) (hr : Room (k + 2) X.A) (hb : Binds X.K fd ps [])
    (I : Inv X pins σ H s) (r : RelV v u) (h : sp [v] H Q E) : wpAny (model X.prog X.w) X.A.in1.in1 (call (.ref f) [u]) (EP X pins σ Q) E' s := by
  have many : ([u] ++ ([] : List Value)).length = ps.length := F.len _ _ _ _ h
  have ran := F.run X.A.in1.in1 X.stack s H ⟨[u], []⟩ [u] [v] Q E hr.in1.in1 I.env0.in1.in1 (hb s [u] I.kIn many) (.cons r .nil) h
  refine wpAny_call (codeAny_mono ran fun fin s2 got => ?_)
  match fin, got with
  | .ok (.ret _), got => exact I.after got
  | .ok .next, got => exact False.elim got
  | .ok .brk, got => exact False.elim got
  | .ok .cont, got => exact False.elim got
  | .error _, got => exact False.elim got
end

/-- what a key function for nests of at most D levels promises: the rank row -/
def spRank (K : PySem.W.Frag) (D : Nat) : Sp := fun vs H Q _ => ∃ v n, vs = [v] ∧ Na K H v n ∧ dep n ≤ D ∧ ∀ r H', Same H H' → Tp K H' r (rkd n) → Q r H'

section
variable {X : Cx} {pins : List (Addr × Obj)} {σ : L2.St} {H : Hp} {s : Shared}
/-- for over an array: what holds before each item, and at the end -/
theorem each_item {M : Model} {A : Around} {E : Value → Shared → Prop} {s : Shared} {body : Value → PUnit → Sem (ForInStep PUnit)} {Q : PUnit → Shared → Prop} (J : Nat → Shared → Prop) (vs : List Value) (start : J 0 s)
    (step : ∀ j x s1, vs[j]? = some x → J j s1 → wpAny M A (body x ⟨⟩) (fun r s2 => r = .yield ⟨⟩ ∧ J (j + 1) s2) E s1) (fin : ∀ s1, J vs.length s1 → Q ⟨⟩ s1) : wpAny M A (forIn vs.toArray PUnit.unit body) Q E s := by
  rw [← Array.forIn_toList]
  refine ksk_fold J vs 0 s start (fun j x s1 at_ inv => ?_) fun s1 inv => fin s1 (Nat.zero_add vs.length ▸ inv)
  rw [Nat.zero_add] at inv ⊢
  exact step j x s1 at_ inv
/-- the two records of a sort: the list L, empty, and the store kS of the keys so far -/
abbrev Inv2 (X : Cx) (pins : List (Addr × Obj)) (σ : L2.St) (L kS : Addr) (e1 : Nat) (kA : Array Value) (e : Nat) (H : Hp) (s : Shared) : Prop := Inv X ((L, seqObj "list" #[] e1) :: (kS, seqObj "list" kA e) :: pins) σ H s
section
variable {L kS : Addr} {e1 e : Nat} {kA : Array Value}
theorem Inv2.store (I : Inv2 X pins σ L kS e1 kA e H s) : s.heap.get? kS = some (seqObj "list" kA e) ∧ H kS = none := ⟨(I.pin _ (List.mem_append_right _ (.tail _ (.head _)))).1, (I.pin _ (List.mem_append_right _ (.tail _ (.head _)))).2.1⟩
theorem Inv2.list (I : Inv2 X pins σ L kS e1 kA e H s) : s.heap.get? L = some (seqObj "list" #[] e1) ∧ H L = none := ⟨(I.pin _ (List.mem_append_right _ (.head _))).1, (I.pin _ (List.mem_append_right _ (.head _))).2.1⟩
theorem Inv2.rest (I : Inv2 X pins σ L kS e1 kA e H s) : Inv X pins σ H s := pin_drop I fun _ hp => .tail _ (.tail _ hp)
/-- one key more -/
theorem Inv2.push {A : Around} {E : Value → Shared → Prop} {Q : Unit → Shared → Prop} {v : Value} (I : Inv2 X pins σ L kS e1 kA e H s) (oL : Own X L) (oS : Own X kS) (apart : kS ≠ L) (pS : ∀ p ∈ X.pn ++ pins, p.1 ≠ kS) (fits : kA.size < sizeLine)
    (q : ∀ s2 e2, Inv2 X pins σ L kS e1 (kA.push v) e2 H s2 → Q () s2) : wpAny (model X.prog X.w) A (Builtin.List.listUpdate (.ref kS) (·.push v)) Q E s := by
  obtain ⟨atS, nS⟩ := I.store
  obtain ⟨atL, nL⟩ := I.list
  have same := Heap.SameBut.update s.heap kS (Obj.mapSeq (·.push v))
  have I2 : Inv X pins σ H { s with heap := s.heap.update kS (Obj.mapSeq (·.push v)), toks := s.toks } := own_turn I.rest oS nS pS same
  refine listUpdate_at atS rfl (q _ (if (kA.push v).size == kA.size then e else e + 1) ?_) (Nat.le_of_lt fits) (by rw [Array.size_push]; omega)
  exact pin_add (pin_add I2 oS nS (get?_update_seq atS (·.push v)) fun _ z => (by cases z)) oL nL ((same.2 L (Ne.symm apart)).trans atL) fun _ z => (by cases z)
end
/-- pairs in another order, their values with them -/
theorem zip_order (l : List (Nat × V)) (ws : List Value) (rl : Vals (l.map (·.2)) ws) (rs : List (Nat × Value)) (pr : rs.Perm ((l.map (·.1)).zip ws)) : ∃ ms : List (Nat × V), ms.Perm l ∧ ms.map (·.1) = rs.map (·.1) ∧ Vals (ms.map (·.2)) (rs.map (·.2)) := by
  let T := l.zip ws
  have hlw : l.length = ws.length := by have := rl.length; rw [List.length_map] at this; exact this
  have e0 : (l.map (·.1)).zip ws = T.map fun t => (t.1.1, t.2) := by
    show _ = (l.zip ws).map _
    rw [List.zip_map_left]
    exact List.map_congr_left fun ⟨x, y⟩ _ => rfl
  rw [e0] at pr
  have lift : ∀ (T : List ((Nat × V) × Value)) (rs : List (Nat × Value)), rs.Perm (T.map fun t => (t.1.1, t.2)) → ∃ T' : List ((Nat × V) × Value), T'.Perm T ∧ T'.map (fun t => (t.1.1, t.2)) = rs := by
    intro T rs pr
    generalize hW : (T.map fun t => (t.1.1, t.2)) = W at pr
    induction pr generalizing T with
    | nil => exact ⟨[], by rw [List.map_eq_nil_iff.mp hW], rfl⟩
    | @cons x a b _ ih =>
      match T, hW with
      | t :: T, hW =>
        rw [List.map_cons] at hW
        injection hW with h1 h2
        obtain ⟨T', p1, p2⟩ := ih T h2
        exact ⟨t :: T', p1.cons t, by rw [List.map_cons, p2, h1]⟩
    | swap x y a =>
      match T, hW with
      | t :: u :: T, hW =>
        rw [List.map_cons, List.map_cons] at hW
        injection hW with h1 h2
        injection h2 with h2 h3
        exact ⟨u :: t :: T, List.Perm.swap _ _ _, by rw [List.map_cons, List.map_cons, h1, h2, h3]⟩
    | trans _ _ ih1 ih2 =>
      obtain ⟨T1, p1, e1⟩ := ih2 T hW
      obtain ⟨T2, p2, e2⟩ := ih1 T1 e1
      exact ⟨T2, p2.trans p1, e2⟩
  obtain ⟨T', p1, p2⟩ := lift T rs pr
  have hfst : T.map (·.1) = l := List.map_fst_zip (by omega)
  refine ⟨T'.map (·.1), ?_, ?_, ?_⟩
  · have := p1.map (·.1)
    rw [hfst] at this
    exact this
  · rw [← p2, List.map_map, List.map_map]; rfl
  · rw [← p2, List.map_map, List.map_map]
    have all : ∀ t ∈ T', RelV t.1.2 t.2 := fun t ht => by
      have ht' : t ∈ T := p1.mem_iff.mp ht
      obtain ⟨i, hi⟩ := List.getElem?_of_mem ht'
      have hi' := List.getElem?_zip_eq_some.mp hi
      obtain ⟨u, hu, r⟩ := rl.get (i := i) (x := t.1.2) (by rw [List.getElem?_map, hi'.1]; rfl)
      rw [hi'.2] at hu
      cases hu
      exact r
    have mk : ∀ T' : List ((Nat × V) × Value), (∀ t ∈ T', RelV t.1.2 t.2) → Vals (T'.map ((·.2) ∘ (·.1))) (T'.map ((·.2) ∘ fun t => (t.1.1, t.2))) := by
      intro T' h
      induction T' with
      | nil => exact .nil
      | cons t T' ih => exact .cons (h t List.mem_cons_self) (ih fun u hu => h u (List.mem_cons_of_mem _ hu))
    exact mk T' all
theorem sort_rest {k D : Nat} {f : Addr} {fd : FuncData} (F : FnOk X.prog X.w X.K X.mg X.base CX0 k f fd ["one"] (spRank X.K D)) (hr : Room (k + 2) X.A) (hb : Binds X.K fd ["one"] []) (hD : D ≤ 60)
    {L kS : Addr} {e1 : Nat} {vs : List Value} {ps : List (Nat × V)} {P : PySem.Fin → Shared → Prop} {E : Value → Shared → Prop} (oL : Own X L) (oS : Own X kS) (apart : kS ≠ L) (pL : ∀ p ∈ X.pn ++ pins, p.1 ≠ L) (pS : ∀ p ∈ X.pn ++ pins, p.1 ≠ kS)
    (I : Inv2 X pins σ L kS e1 #[] 0 H s) (few : vs.length ≤ sizeLine) (rel : Vals (ps.map (·.2)) vs) (nests : ∀ p ∈ ps, Na X.K H p.2 p.1 ∧ dep p.1 ≤ D)
    (q : ∀ (H' : Hp) (s' : Shared) (qs : List (Nat × V)), Same H H' → H' L = none → qs.Perm ps → qs.Pairwise (fun p q => p.1 ≤ q.1) → Inv X pins σ (upd H' L (.lst (qs.map (·.2)))) s' → P (.done (.ret .none)) s') :
    wpAny (model X.prog X.w) X.A.in1.in1 (ksk_rest L (.ref f) false vs.toArray e1 (.ref kS)) P E s := by
  have many : ps.length = vs.length := by
    have := rel.length
    rwa [List.length_map] at this
  have un := hr.un
  unfold ksk_rest
  refine wpAny_bind (wpAny_rule (wpAny_bind (each_item (fun j s1 => ∃ (H1 : Hp) (kA : Array Value) (e : Nat) (ks : List V), Inv2 X pins σ L kS e1 kA e H1 s1 ∧ Same H H1 ∧ Vals ks kA.toList ∧ TpAll X.K H1 ks (((ps.take j).map (·.1)).map rkd)) vs
    ⟨H, #[], 0, [], I, Same.refl H, .nil, (by rw [List.take_zero]; exact .nil)⟩ (fun j x s1 at_ inv => ?_) fun s1 inv => ?_)))
  · obtain ⟨H1, kA, e, ks, I1, g, rk, tk⟩ := inv
    have less : j < ps.length := by
      have := (List.getElem?_eq_some_iff.mp at_).1
      omega
    have there : ps[j]? = some ps[j] := List.getElem?_eq_getElem less
    obtain ⟨isN, low⟩ := nests _ (List.getElem_mem less)
    obtain ⟨u, hu, ru⟩ := rel.get (i := j) (x := ps[j].2) (by rw [List.getElem?_map, there]; rfl)
    obtain rfl : x = u := Option.some.inj (at_.symm.trans hu)
    have ran := run_in2 (E' := fun _ _ => False) (Q := fun r H2 => Same H1 H2 ∧ Tp X.K H2 r (rkd ps[j].1)) (E := fun _ _ _ => False) F hr hb I1 ru ⟨_, _, rfl, isN.grow (Grow.of g), low, fun r H2 g2 t => ⟨g2, t⟩⟩
    refine wpAny_bind (wpAny_attempt (wpAny_mono ran (fun w s2 ⟨v, H2, I2, rv, g2, t⟩ => ?_) fun _ _ z => False.elim z))
    have size : kA.size = j := by
      have h1 : ks.length = kA.size := rk.length
      have h2 := tk.len
      rw [List.length_map, List.length_map, List.length_take] at h2
      omega
    refine wpAny_bind (Inv2.push (v := w) I2 oL oS apart pS (by omega) fun s3 e3 I3 => wpAny_pure ⟨rfl, H2, _, e3, ks ++ [v], I3, g.trans g2, ?_, ?_⟩)
    · rw [Array.toList_push]
      exact rk.append (.cons rv .nil)
    · rw [List.take_add_one, there, List.map_append, List.map_append]
      exact (tk.grow (Grow.of g2)).app (.cons t .nil)
  · obtain ⟨H1, kA, e, ks, I1, g, rk, tk⟩ := inv
    rw [← many, List.take_length] at tk
    have size : kA.size = vs.length := by
      have h1 : ks.length = kA.size := rk.length
      have h2 := tk.len
      rw [List.length_map, List.length_map] at h2
      omega
    refine wpAny_bind (listItems_at I1.store.1 rfl (sort_end (ns := ps.map (·.1)) (D := D) I1.store.1 I1.list.1 apart size (by rw [List.length_map]; exact many) (fun i kv n hi hn => ?_) few (by show X.A.units + 1 + 1 + D + 2 < cLine; omega) fun h' t' qs c kept at_ perm order => ?_))
    · have less : i < ks.length := by
        have h1 := rk.length
        have := (List.getElem?_eq_some_iff.mp hi).1
        omega
      obtain ⟨u, hu, ru⟩ := rk.get (List.getElem?_eq_getElem less)
      obtain rfl : kv = u := Option.some.inj (hi.symm.trans hu)
      obtain ⟨d, hd, t⟩ := tk.get (List.getElem?_eq_getElem less)
      rw [List.getElem?_map, hn] at hd
      cases hd
      obtain ⟨p, hp, e⟩ := List.mem_map.mp (List.mem_of_getElem? hn)
      exact ⟨Dp.reads I1 _ _ _ t.dp ru, e ▸ (nests p hp).2⟩
    · obtain ⟨ms, perm2, nums, rv⟩ := zip_order ps vs rel qs perm
      have fits : (ms.map (·.2)).length ≤ sizeLine := by
        rw [List.length_map, perm2.length_eq]
        omega
      have far : ∀ b ∈ [kS, L], FpOk X pins H1 b := fun b hb => by
        rcases List.mem_cons.mp hb with e3 | hb
        · subst e3
          exact ⟨I1.store.2, oS.loc, oS.fs, .inr oS.new, oS.cell, pS⟩
        · rw [List.mem_singleton.mp hb]
          exact ⟨I1.list.2, oL.loc, oL.fs, .inr oL.new, oL.cell, pL⟩
      have I2 : Inv X pins σ H1 { s1 with heap := h', toks := t' } := I1.rest.turnedL (ch := [kS, L]) (fun b o out z => kept b o (fun z2 => out (by rw [z2]; exact .head _)) (fun z2 => out (by rw [z2]; exact .tail _ (.head _))) z) far
      refine q H1 _ ms g I1.list.2 perm2 ?_ (own_track I2 oL I1.list.2 pL ⟨fits, qs.map (·.2), c, rv, at_⟩)
      have sorted := List.pairwise_map.mpr order
      rw [← nums] at sorted
      exact List.pairwise_map.mp sorted
end

/-- pairs with addresses, in another order -/
theorem addr_order (T : List (Nat × Addr)) (rs : List (Nat × V)) (pr : rs.Perm (T.map fun p => (p.1, V.ref p.2))) : ∃ l' : List (Nat × Addr), l'.Perm T ∧ l'.map (fun p => (p.1, V.ref p.2)) = rs := by
  generalize hW : (T.map fun p => (p.1, V.ref p.2)) = W at pr
  induction pr generalizing T with
  | nil => exact ⟨[], by rw [List.map_eq_nil_iff.mp hW], rfl⟩
  | @cons x a b _ ih =>
    match T, hW with
    | t :: T, hW =>
      rw [List.map_cons] at hW
      injection hW with h1 h2
      obtain ⟨T', p1, p2⟩ := ih T h2
      exact ⟨t :: T', p1.cons t, by rw [List.map_cons, p2, h1]⟩
  | swap x y a =>
    match T, hW with
    | t :: u :: T, hW =>
      rw [List.map_cons, List.map_cons] at hW
      injection hW with h1 h2
      injection h2 with h2 h3
      exact ⟨u :: t :: T, List.Perm.swap _ _ _, by rw [List.map_cons, List.map_cons, h1, h2, h3]⟩
  | trans _ _ ih1 ih2 =>
    obtain ⟨T1, p1, e1⟩ := ih2 T hW
    obtain ⟨T2, p2, e2⟩ := ih1 T1 e1
    exact ⟨T2, p2.trans p1, e2⟩
/-- what stands at each place -/
theorem addr_vals : ∀ (xs : List (Nat × Addr)) (l : List Value), l.length = xs.length → (∀ (j : Nat) (v : Value), l[j]? = some v → ∃ p, xs[j]? = some p ∧ v = .ref p.2) → Vals ((xs.map fun p => (p.1, V.ref p.2)).map (·.2)) l := by
  intro xs
  induction xs with
  | nil => intro l hl _; rw [List.eq_nil_of_length_eq_zero hl]; exact .nil
  | cons p xs ih =>
    intro l hl hg
    match l, hl with
    | v :: l, hl =>
      obtain ⟨p', e, ev⟩ := hg 0 v rfl
      have e' : p = p' := by simpa using e
      subst e'
      refine .cons (show RelV (V.ref p.2) v from ev) (ih l (by simpa using hl) fun j u hu => ?_)
      obtain ⟨p', e, ev⟩ := hg (j + 1) u (by simpa using hu)
      exact ⟨p', by simpa using e, ev⟩
section
variable {X : Cx} {pins : List (Addr × Obj)} {σ : L2.St} {H : Hp} {s : Shared}
/-- a new list of vs, sorted by f -/
theorem sort_new {k D : Nat} {f : Addr} {fd : FuncData} (F : FnOk X.prog X.w X.K X.mg X.base CX0 k f fd ["one"] (spRank X.K D)) (hr : Room (k + 2) X.A) (hb : Binds X.K fd ["one"] []) (hD : D ≤ 60)
    {vs : List Value} {ps : List (Nat × V)} {P : PySem.Fin → Shared → Prop} {E : Value → Shared → Prop} (I : Inv X pins σ H s) (few : vs.length ≤ sizeLine) (rel : Vals (ps.map (·.2)) vs) (nests : ∀ p ∈ ps, Na X.K H p.2 p.1 ∧ dep p.1 ≤ D)
    (q : ∀ (H' : Hp) (s' : Shared) (L : Addr) (qs : List (Nat × V)), Same H H' → H' L = none → qs.Perm ps → qs.Pairwise (fun p q => p.1 ≤ q.1) → Inv X pins σ (upd H' L (.lst (qs.map (·.2)))) s' → P (.done (.ret (.ref L))) s') :
    wpAny (model X.prog X.w) X.A.in1 (do
      let l ← newList vs
      let _ ← holding [l] (call (.builtin "list.sort") [l] [(Str.ofString "key", .ref f)])
      ret l) P E s := by
  have high : ∀ {c : Addr}, s.heap.objs.size ≤ c → Own X c ∧ H c = none ∧ ∀ p ∈ X.pn ++ pins, p.1 ≠ c := fun {c} le => ⟨Own.of I le, I.hok.fresh le, fun p hp => Nat.ne_of_lt (Nat.lt_of_lt_of_le (pin_lt I hp) le)⟩
  obtain ⟨oL, nL, pL⟩ := high (Nat.le_refl s.heap.objs.size)
  refine wpAny_bind (wpAny_newList ?_ few)
  have made : (s.heap.push (seqObj "list" vs.toArray 0)).get? s.heap.objs.size = some (seqObj "list" vs.toArray 0) := Heap.get?_push_size _ rfl
  refine wpAny_bind (wpAny_holding (wpAny_call_entry_kw slot_list_sort (s := { s with heap := s.heap.push (seqObj "list" vs.toArray 0) }) ⟨_, made, rfl⟩ entry_list_sort ?_ (ksk_l1 _ _)))
  rw [ksk_t1]
  unfold ksk_tree
  have bare := get?_update_seq made fun _ => #[]
  have same := Heap.SameBut.update (s.heap.push (seqObj "list" vs.toArray 0)) s.heap.objs.size (Obj.mapSeq fun _ => (#[] : Array Value))
  have items := fun A2 E2 Q2 => listItems_at (M := model X.prog X.w) (A := A2) (E := E2) (Q := Q2) (s := { s with heap := s.heap.push (seqObj "list" vs.toArray 0) }) made rfl
  have clear_ := fun A2 E2 Q2 z => listUpdate_at (M := model X.prog X.w) (A := A2) (E := E2) (Q := Q2) (s := { s with heap := s.heap.push (seqObj "list" vs.toArray 0) }) (f := fun _ => #[]) made rfl z (by rw [List.size_toArray]; exact few)
  generalize going : ksk_rest = rest
  wp_walk using items _ _ _, clear_ _ _ _
  subst going
  have I1 : Inv X pins σ H { s with heap := s.heap.push (seqObj "list" vs.toArray 0), toks := s.toks } := I.kept fun _ _ z => Heap.get?_push_of_some _ z
  have I2 := own_turn (t' := s.toks) I1 oL nL pL same
  generalize (s.heap.push (seqObj "list" vs.toArray 0)).update s.heap.objs.size (Obj.mapSeq fun _ => (#[] : Array Value)) = g1 at bare I2 ⊢
  have low : s.heap.objs.size < g1.objs.size := Heap.lt_size bare
  have size : (g1.push (seqObj "tuple" vs.toArray 0)).objs.size = g1.objs.size + 1 := Heap.size_push ..
  obtain ⟨oS, nS, pS⟩ := high (c := (g1.push (seqObj "tuple" vs.toArray 0)).objs.size) (by omega)
  have I3 : Inv X pins σ H { s with heap := (g1.push (seqObj "tuple" vs.toArray 0)).push (seqObj "list" #[] 0), toks := s.toks } := I2.kept fun _ _ z => Heap.get?_push_of_some _ (Heap.get?_push_of_some _ z)
  have I4 := pin_add (pin_add I3 oS nS (Heap.get?_push_size _ rfl) fun _ z => (by cases z)) oL nL (Heap.get?_push_of_some _ (Heap.get?_push_of_some _ bare)) fun _ z => (by cases z)
  exact sort_rest (ps := ps) F hr hb hD oL oS (Nat.ne_of_gt (by rw [size]; omega)) pL pS I4 few rel nests fun H' s2 qs g n perm order Iq => ⟨_, rfl, wpAny_pure (q H' s2 _ qs g n perm order Iq)⟩
end
section
variable {X : Cx}
/-- sorted(found, key=f): found a dict of nests, f gives their rank rows -/
def rSortN (P : Program) (w : World) (K : PySem.W.Frag) (f : Addr) : List V → List V → Hp → VK → Prop := fun vs zs H Q => ∃ d xs, vs = [.ref d] ∧ zs = [.ref f] ∧ H d = some (ND P w d xs) ∧ KeysOk K H xs ∧ xs.length ≤ sizeLine ∧
  ∀ (H' : Hp) (p : Addr) (qs : List (Nat × Addr)), Same H H' → H' p = none → qs.Perm xs → qs.Pairwise (fun p q => p.1 < q.1) → Q (.ref p) (upd H' p (.lst (qs.map fun q => V.ref q.2)))
theorem cr_sortedN {k : Nat} {f : Addr} {fd : FuncData} (hc : X.calm = true) (F : FnOk X.prog X.w X.K X.mg X.base CX0 k f fd ["one"] (spRank X.K 7)) (hr : Room (k + 2) X.A) (hb : Binds X.K fd ["one"] []) :
    CallRK X (.builtin "sorted") [Str.ofString "key"] (rSortN X.prog X.w X.K f) := by
  intro pins s σ H xs0 zs us ws Q I rx rz q
  obtain ⟨d, xs, rfl, rfl, hd, hk, hz, q⟩ := q
  obtain ⟨u, rfl, ru⟩ := vals1 rx
  obtain ⟨g, rfl, rg⟩ := vals1 rz
  obtain rfl : u = Value.ref d := ru
  obtain rfl : g = Value.ref f := rg
  show wpAny (model X.prog X.w) X.A (call (.builtin "sorted") [.ref d] [(Str.ofString "key", .ref f)]) _ _ s
  obtain ⟨lo, ob, es, ep, e1, c1, e2, e3⟩ := ND_of (I.hok d _ hd)
  have hraw : s.heap.DictRaw d es ep := ⟨ob, e1, c1, e2⟩
  have hes : es.size = xs.length := by
    have := congrArg List.length e3
    rw [Array.length_toList, List.length_map, List.length_map] at this
    exact this
  refine call_function_entry_kw kind_sorted plain_sorted entry_sorted (ksk_s1 _ _) ?_
  show wpAny _ _ (collect (.ref d) >>= fun vs => do
      let l ← newList vs
      let _ ← holding [l] (call (.builtin "list.sort") [l] [(Str.ofString "key", .ref f)])
      ret l) _ _ _
  refine wpAny_bind (PySem.W.kdu_collect (A := X.A.in1) (KdlSrc.rawDict (es := es) (ep := ep) lo) (I.ok.hd hc) hraw (hes ▸ hz) fun h' tk acc hkeep hacc => ?_)
  have I1 : Inv X pins σ H { s with heap := h', toks := tk } := I.kept hkeep
  let ps : List (Nat × V) := xs.map fun p => (p.1, V.ref p.2)
  have hlen : acc.toList.length = xs.length := by rw [Array.length_toList, hacc.1, hes]
  have rel : Vals (ps.map (·.2)) acc.toList := by
    have key : ∀ (j : Nat) (v : Value), acc.toList[j]? = some v → ∃ p, xs[j]? = some p ∧ v = .ref p.2 := fun j v e => by
      obtain ⟨hi, ev⟩ := hacc.2 j v (by rw [← Array.getElem?_toList]; exact e)
      have hx : j < xs.length := by omega
      refine ⟨xs[j], List.getElem?_eq_getElem hx, ?_⟩
      have q : es.toList[j]? = ((trues xs).map (entryOfKey (nestedKind X.prog X.w)))[j]? := by rw [e3]
      rw [Array.getElem?_toList, Array.getElem?_eq_getElem hi, List.getElem?_map, List.getElem?_map, List.getElem?_eq_getElem hx] at q
      have q' := Option.some.inj q
      rw [ev, q']
      rfl
    exact addr_vals xs acc.toList hlen key
  refine sort_new (ps := ps) F hr hb (by decide) I1 (by omega) rel (fun p hp => ?_) fun H' s' L qs g n pm sr I' => ⟨_, rfl, .ref L, _, I', rfl, ?_⟩
  · obtain ⟨x, hx, rfl⟩ := List.mem_map.mp hp
    exact hk.1 x hx
  · obtain ⟨l', p1, p2⟩ := addr_order xs qs pm
    have e : qs.map (·.2) = l'.map fun q => V.ref q.2 := by
      rw [← p2, List.map_map]
      rfl
    rw [e]
    have s1 : (l'.map (·.1)).Pairwise (· ≤ ·) := by
      have q1 : (qs.map (·.1)).Pairwise (· ≤ ·) := List.pairwise_map.mpr sr
      rw [← p2, List.map_map] at q1
      exact q1
    have s2 : (l'.map (·.1)).Nodup := ((p1.map (·.1)).nodup_iff).mpr hk.2
    exact q H' L l' g n p1 (List.pairwise_map.mp ((s1.and s2).imp fun {a b} ⟨x, y⟩ => Nat.lt_of_le_of_ne x y))
end
end Nk
namespace Nk
open PySem L2

/-! ### words for the defs -/
/-- a def of the top: its text, its binding, its name -/
structure Df (K : PySem.W.Frag) (mg : Str → Option Value) (x : Str) (st : Stmt) (ps : List Str) (f : Addr) (fd : FuncData) : Prop where
  fn : Fun K x x st f fd
  bd : Binds K fd ps []
  nm : mg x = some (.ref f)
theorem same_new {H : Hp} {p : Addr} (h : H p = none) (o : HO) : Same H (upd H p o) := fun b u q => by rw [upd_ne (ne_of_none q h)]; exact q
theorem same_put {H1 H : Hp} {D : Addr} {o : HO} (g : Same H1 H) (n : H1 D = none) : Same H1 (upd H D o) := fun b u q => by
  rw [upd_ne (ne_of_none q n)]
  exact g b u q
theorem no_calls {P : Program} {w : World} {K : PySem.W.Frag} {mg : Str → Option Value} {base : Heap} {CX : CXT} {f : Addr} {fd : FuncData} {ps : List Str} {sp : Sp} (no : ∀ vs H Q E, ¬ sp vs H Q E) (k : Nat) : FnOk P w K mg base CX k f fd ps sp :=
  ⟨fun vs H Q E h => absurd h (no vs H Q E), fun A outer s H args us vs Q E _ _ _ _ h => absurd h (no vs H Q E)⟩
/-- reversed(a tuple): its items from behind -/
theorem walk_revT {K : PySem.W.Frag} {a : Addr} {xs : List V} : Walk (RT.ItvT K a xs.length) xs.length (fun H => SqT K H a xs) (YAt xs.reverse) where
  goes _ _ less sx := ⟨less, xs, _, sx, List.getElem?_eq_getElem (by omega)⟩
  stops _ _ := Nat.le_refl _
  yields _ _ _ _ less sx y := ⟨y.1, (List.getElem?_reverse less).trans (y.2 xs sx)⟩
theorem lc_revT {K : PySem.W.Frag} {a : Addr} {xs : List V} {g : TG} {tt : TT} {te : TE} {vs : List Nat} {σ : L2.St} {H1 : Hp} {D : Addr} {Qd : Hp → Prop} (Pv : Nat → Hp → Prop) (h0 : Pv 0 (upd H1 D (.lst []))) (hl : ∀ i H, i ≤ xs.length → Pv i H → SqT K H a xs)
    (hs : ∀ i x H, xs.reverse[i]? = some x → Pv i H → g x (wipe σ vs) H fun σ2 H2 => wipe σ2 vs = wipe σ vs ∧ tt σ2 H2 fun b H3 =>
      if b = true then te σ2 H3 fun y H4 => ∃ acc, H4 D = some (.lst acc) ∧ acc.length < sizeLine ∧ Pv (i + 1) (upd H4 D (.lst (acc ++ [y]))) else Pv (i + 1) H3) (hd : ∀ H, Pv xs.length H → Qd H) :
    ∃ W : Nat → Nat → Hp → Prop, (∃ m, W 0 m (upd H1 D (.lst []))) ∧ ∀ i m H, W i m H →
      ((RT.ItvT K a xs.length).stop i H ∧ Qd H) ∨ ((RT.ItvT K a xs.length).go i H ∧ ∃ Nx : Hp → Prop, (∀ H', Nx H' → ∃ m', m' < m ∧ W (i + 1) m' H') ∧ ∀ x H', (RT.ItvT K a xs.length).yld i H x H' → g x (wipe σ vs) H' fun σ2 H2 => wipe σ2 vs = wipe σ vs ∧ tt σ2 H2 fun b H3 =>
        if b = true then te σ2 H3 fun y H4 => ∃ acc, H4 D = some (.lst acc) ∧ acc.length < sizeLine ∧ Nx (upd H4 D (.lst (acc ++ [y]))) else Nx H3) := by
  exact lc_it (walk_revT (K := K) (a := a) (xs := xs)) Pv h0 hl (fun i x H H' _ p y => y.1 ▸ hs i x H y.2 p) hd
theorem small {n : Nat} (h : n ≤ 100000) : n ≤ sizeLine := Nat.le_trans h (by decide)
theorem smaller {n : Nat} (h : n ≤ 100000) : n < sizeLine := Nat.lt_of_le_of_lt h (by decide)
theorem hu16 {A : Around} {k : Nat} (hr : Room k A) : A.units + 16 < cLine := by have := hr.un; omega
theorem hu64 {A : Around} {k : Nat} (hr : Room k A) : A.units + 64 < cLine := by have := hr.un; omega
theorem hu66 {A : Around} {k : Nat} (hr : Room k A) : A.units + 66 < cLine := by have := hr.un; omega
theorem nd_grow {P : Program} {w : World} {K : PySem.W.Frag} {H : Hp} {d : Addr} {ks : List (Nat × Addr)} {o : HO} (h : H d = some (ND P w d ks)) : Grow K H (upd H d o) := Grow.upd fun o' e => by
  rw [h] at e
  cases e
  exact ⟨fun _ z => (by unfold ND at z; cases z), fun _ _ z => (by unfold ND at z; cases z)⟩
/-- a value's length is within the line -/
theorem pe_z {X : Cx} {e : Expr} {te : TE} (he : PE X e te) : PE X e (fun σ H Q => te σ H fun x H1 => (∀ a xs, x = .ref a → (SqT X.K H1 a xs ∨ SqL X.K H1 a xs) → xs.length ≤ sizeLine) → Q x H1) := by
  refine ⟨fun pins s σ H Q I h => ?_⟩
  refine thn (he.run pins s σ H _ I h) fun u s1 ⟨v, H1, I1, r, q⟩ => ⟨v, H1, I1, r, q fun a xs _ hs => ?_⟩
  rcases hs with hs | hs
  · obtain ⟨_, _, _, z⟩ := I1.tuple hs
    exact z
  · obtain ⟨_, _, _, z⟩ := I1.list hs
    exact z
/-- at most D - 1 levels deep: D calls of rank_row are enough -/
def spRk (K : PySem.W.Frag) (D : Nat) : Sp := fun vs H Q _ => ∃ v n, vs = [v] ∧ Na K H v n ∧ dep n < D ∧ ∀ r H', Same H H' → Tp K H' r (rkd n) → Q r H'
end Nk
namespace Nk
open PySem PySem.Spec PyProof.Rows L2

/-! ### walks over a list or a tuple -/
def Sq (K : PySem.W.Frag) (H : Hp) (a : Addr) (xs : List V) : Prop := SqL K H a xs ∨ SqT K H a xs
theorem Sq.same {K : PySem.W.Frag} {H H' : Hp} {a : Addr} {xs : List V} (e : Same H H') (h : Sq K H a xs) : Sq K H' a xs := h.imp (fun z => e.seq z) fun z => sqT_same e z
def iSeq (K : PySem.W.Frag) (tl : TE) : TI := fun σ H R => tl σ H fun x H1 => ∃ a xs, x = .ref a ∧ ((SqL K H1 a xs ∧ R (Itl K a) H1) ∨ (SqT K H1 a xs ∧ R (Itt K a) H1))
/-- an iterator in a new cell -/
theorem new_cell {X : Cx} {tg : Expr} {pins : List (Addr × Obj)} {σ : L2.St} {H : Hp} {s : Shared} {R : It → Hp → Prop} {J : It} {tn : Nat → Heap → Prop} {cell : Obj} (I : Inv X pins σ H s) (T : Turn X.prog X.w X.K tg J [s.heap.objs.size] s.heap.objs.size tn)
    (t0 : tn 0 (s.heap.push cell)) (r : R J H) : PIE X pins σ tg R (.ref s.heap.objs.size) { s with heap := s.heap.push cell } := by
  have only : ∀ b ∈ [s.heap.objs.size], FpOk X pins H b := List.forall_mem_singleton.mpr (I.fpOk (Nat.le_refl _) (I.hok.fresh (Nat.le_refl _)))
  exact ⟨_, _, _, _, _, rfl, I.kept (t' := s.toks) fun _ _ z => Heap.get?_push_of_some _ z, T, t0, only, r⟩
theorem pi_seq {X : Cx} {tg l : Expr} {tl : TE} (hl : PE X l tl) : PI X tg l (iSeq X.K tl) where
  run pins s σ H R I h := by
    apply thn (hl.run pins s σ H _ I h)
    rintro v s1 ⟨_, H1, I1, rel, a, xs, rfl, both⟩
    obtain rfl : v = Value.ref a := rel
    cases both with
    | inl here =>
      obtain ⟨_, _, at_, _⟩ := I1.list here.1
      exact wpAny_pyIter_list at_.isList (new_cell I1 (turn_list a _) ⟨_, Heap.get?_push_size _ rfl, rfl, rfl⟩ here.2)
    | inr here =>
      obtain ⟨_, _, at_, _⟩ := I1.tuple here.1
      exact wpAny_pyIter_tuple at_ (new_cell I1 (turn_tuple a _) ⟨_, Heap.get?_push_size _ rfl, rfl, rfl⟩ here.2)

/-! ### a comprehension that keeps some members -/
section
variable {K : PySem.W.Frag} {a : Addr} {xs : List V} {ns : List Nat} {g : TG} {tt : TT} {te : TE} {vs : List Nat} {σ : L2.St} {H1 : Hp} {D : Addr} {Qd : Hp → Prop}
theorem filt_step (p : Nat → Bool) {i : Nat} {x : V} {k : Nat} {H : Hp} {acc : List V} (hD : H1 D = none) (gg : Same H1 H) (hacc : H D = some (.lst acc)) (tp : Na K H x k) (hk : ns[i]? = some k)
    (tacc : NaAll K H acc ((ns.take i).filter p)) (hp : p k = true) : NaAll K (upd H D (.lst (acc ++ [x]))) (acc ++ [x]) ((ns.take (i + 1)).filter p) := by
  have et : ns.take (i + 1) = ns.take i ++ [k] := by rw [List.take_add_one, hk]; rfl
  rw [et, List.filter_append]
  have e1 : [k].filter p = [k] := by simp [hp]
  rw [e1]
  show TpAll K _ _ (List.map dat _)
  rw [List.map_append]
  exact (TpAll.app tacc (.cons tp .nil)).grow (Grow.lst hacc)
theorem filt_skip (p : Nat → Bool) {i k : Nat} (hk : ns[i]? = some k) (hp : p k = false) : (ns.take (i + 1)).filter p = (ns.take i).filter p := by
  have et : ns.take (i + 1) = ns.take i ++ [k] := by rw [List.take_add_one, hk]; rfl
  rw [et, List.filter_append]
  simp [hp]
/-- what is left of the loop, by the source's own rule -/
def FiltTurn (K : PySem.W.Frag) (xs : List V) (ns : List Nat) (g : TG) (tt : TT) (te : TE) (vs : List Nat) (σ : L2.St) (H1 : Hp) (p : Nat → Bool) : Prop :=
  ∀ (x : V) (k : Nat) (H : Hp) (C : V → Hp → Prop) (N : Hp → Prop), Na K H x k → k ∈ ns → Same H1 H → (p k = true → ∀ H2, Same H H2 → C x H2) → (p k = false → ∀ H2, Same H H2 → N H2) →
    g x (wipe σ vs) H fun σ2 H2 => wipe σ2 vs = wipe σ vs ∧ tt σ2 H2 fun b H3 => if b = true then te σ2 H3 C else N H3
theorem filt_all (p : Nat → Bool) (hx : NaAll K H1 xs ns) (hz : xs.length ≤ sizeLine) (hD : H1 D = none) (ht : FiltTurn K xs ns g tt te vs σ H1 p) :
    ∀ i x H, xs[i]? = some x → (Same H1 H ∧ ∃ acc, H D = some (.lst acc) ∧ acc.length ≤ i ∧ NaAll K H acc ((ns.take i).filter p)) → g x (wipe σ vs) H fun σ2 H2 => wipe σ2 vs = wipe σ vs ∧ tt σ2 H2 fun b H3 =>
      if b = true then te σ2 H3 fun y H4 => ∃ acc, H4 D = some (.lst acc) ∧ acc.length < sizeLine ∧ (Same H1 (upd H4 D (.lst (acc ++ [y]))) ∧ ∃ acc', upd H4 D (.lst (acc ++ [y])) D = some (.lst acc') ∧ acc'.length ≤ i + 1 ∧ NaAll K (upd H4 D (.lst (acc ++ [y]))) acc' ((ns.take (i + 1)).filter p))
      else (Same H1 H3 ∧ ∃ acc, H3 D = some (.lst acc) ∧ acc.length ≤ i + 1 ∧ NaAll K H3 acc ((ns.take (i + 1)).filter p)) := by
  rintro i x H hi ⟨gg, acc, hacc, lacc, tacc⟩
  obtain ⟨d, hd, tp⟩ := hx.get hi
  rw [List.getElem?_map] at hd
  cases hb : ns[i]? with
  | none => rw [hb] at hd; cases hd
  | some k =>
    rw [hb] at hd
    cases hd
    have hil : i < xs.length := (List.getElem?_eq_some_iff.mp hi).1
    have tp' : Na K H x k := tp.grow (Grow.of gg)
    refine ht x k H _ _ tp' (List.mem_of_getElem? hb) gg (fun hp H2 g2 => ⟨acc, g2 _ _ hacc, by omega, same_put (gg.trans g2) hD, acc ++ [x], upd_same, by rw [List.length_append]; simp; omega, filt_step p hD (gg.trans g2) (g2 _ _ hacc) (tp'.grow (Grow.of g2)) hb (tacc.grow (Grow.of g2)) hp⟩) fun hp H2 g2 => ⟨gg.trans g2, acc, g2 _ _ hacc, by omega, ?_⟩
    rw [filt_skip p hb hp]
    exact tacc.grow (Grow.of g2)
theorem filt_end (p : Nat → Bool) (hx : NaAll K H1 xs ns) (hd : ∀ H acc, Same H1 H → H D = some (.lst acc) → NaAll K H acc (ns.filter p) → acc.length ≤ xs.length → Qd H) :
    ∀ H, (Same H1 H ∧ ∃ acc, H D = some (.lst acc) ∧ acc.length ≤ xs.length ∧ NaAll K H acc ((ns.take xs.length).filter p)) → Qd H := by
  rintro H ⟨gg, acc, hacc, lacc, tacc⟩
  have hl : xs.length = ns.length := by
    have := hx.len
    rw [List.length_map] at this
    exact this
  rw [hl, List.take_length] at tacc
  exact hd H acc gg hacc tacc lacc
theorem lcf_tup (p : Nat → Bool) (hs : SqT K H1 a xs) (hx : NaAll K H1 xs ns) (hz : xs.length ≤ sizeLine) (hD : H1 D = none) (ht : FiltTurn K xs ns g tt te vs σ H1 p)
    (hd : ∀ H acc, Same H1 H → H D = some (.lst acc) → NaAll K H acc (ns.filter p) → acc.length ≤ xs.length → Qd H) :
    ∃ W : Nat → Nat → Hp → Prop, (∃ m, W 0 m (upd H1 D (.lst []))) ∧ ∀ i m H, W i m H →
      ((Itt K a).stop i H ∧ Qd H) ∨ ((Itt K a).go i H ∧ ∃ Nx : Hp → Prop, (∀ H', Nx H' → ∃ m', m' < m ∧ W (i + 1) m' H') ∧ ∀ x H', (Itt K a).yld i H x H' → g x (wipe σ vs) H' fun σ2 H2 => wipe σ2 vs = wipe σ vs ∧ tt σ2 H2 fun b H3 =>
        if b = true then te σ2 H3 fun y H4 => ∃ acc, H4 D = some (.lst acc) ∧ acc.length < sizeLine ∧ Nx (upd H4 D (.lst (acc ++ [y]))) else Nx H3) :=
  lc_tup (xs := xs) (Pv := fun i H => Same H1 H ∧ ∃ acc, H D = some (.lst acc) ∧ acc.length ≤ i ∧ NaAll K H acc ((ns.take i).filter p)) ⟨same_new hD _, [], upd_same, Nat.le_refl _, by rw [List.take_zero]; exact .nil⟩ (fun i H _ q => sqT_same q.1 hs) (filt_all p hx hz hD ht) (filt_end p hx hd)
theorem lcf_list (p : Nat → Bool) (hs : SqL K H1 a xs) (hx : NaAll K H1 xs ns) (hz : xs.length ≤ sizeLine) (hD : H1 D = none) (ht : FiltTurn K xs ns g tt te vs σ H1 p)
    (hd : ∀ H acc, Same H1 H → H D = some (.lst acc) → NaAll K H acc (ns.filter p) → acc.length ≤ xs.length → Qd H) :
    ∃ W : Nat → Nat → Hp → Prop, (∃ m, W 0 m (upd H1 D (.lst []))) ∧ ∀ i m H, W i m H →
      ((Itl K a).stop i H ∧ Qd H) ∨ ((Itl K a).go i H ∧ ∃ Nx : Hp → Prop, (∀ H', Nx H' → ∃ m', m' < m ∧ W (i + 1) m' H') ∧ ∀ x H', (Itl K a).yld i H x H' → g x (wipe σ vs) H' fun σ2 H2 => wipe σ2 vs = wipe σ vs ∧ tt σ2 H2 fun b H3 =>
        if b = true then te σ2 H3 fun y H4 => ∃ acc, H4 D = some (.lst acc) ∧ acc.length < sizeLine ∧ Nx (upd H4 D (.lst (acc ++ [y]))) else Nx H3) :=
  lc_list (xs := xs) (Pv := fun i H => Same H1 H ∧ ∃ acc, H D = some (.lst acc) ∧ acc.length ≤ i ∧ NaAll K H acc ((ns.take i).filter p)) ⟨same_new hD _, [], upd_same, Nat.le_refl _, by rw [List.take_zero]; exact .nil⟩ (fun i H _ q => q.1.seq hs) (filt_all p hx hz hD ht) (filt_end p hx hd)
end
/-- a member's test: in, not in -/
theorem ite_bl {b : Bool} {A B : Prop} (h1 : b = true → A) (h2 : b = false → B) : if b = true then A else B := by
  cases b with
  | true => rw [if_pos rfl]; exact h1 rfl
  | false => rw [if_neg Bool.false_ne_true]; exact h2 rfl
theorem for_seq {K : PySem.W.Frag} {H0 H1 : Hp} {a : Addr} {xs : List V} {tb : TS} {g : TG} {D : Ends} {σ : L2.St} (hs : Sq K H0 a xs) (h01 : Same H0 H1) (Pv : Nat → L2.St → Hp → Prop) (h0 : Pv 0 σ H1) (hl : ∀ i σ H, Pv i σ H → Same H0 H)
    (ht : ∀ i x σ H, xs[i]? = some x → Pv i σ H → g x σ H fun σ2 H2 => tb { D with nx := Pv (i + 1), ct := Pv (i + 1), bk := D.nx } σ2 H2) (hd : ∀ σ H, Pv xs.length σ H → D.nx σ H) :
    (SqL K H1 a xs ∧ ∃ W : Nat → Nat → L2.St → Hp → Prop, (∃ m, W 0 m σ H1) ∧ ∀ i m σ H, W i m σ H → ((Itl K a).stop i H ∧ D.nx σ H) ∨ ((Itl K a).go i H ∧ ∃ N : L2.St → Hp → Prop, (∀ σ' H', N σ' H' → ∃ m', m' < m ∧ W (i + 1) m' σ' H') ∧ ∀ x H', (Itl K a).yld i H x H' → g x σ H' fun σ2 H2 => tb { D with nx := N, ct := N, bk := D.nx } σ2 H2)) ∨
    (SqT K H1 a xs ∧ ∃ W : Nat → Nat → L2.St → Hp → Prop, (∃ m, W 0 m σ H1) ∧ ∀ i m σ H, W i m σ H → ((Itt K a).stop i H ∧ D.nx σ H) ∨ ((Itt K a).go i H ∧ ∃ N : L2.St → Hp → Prop, (∀ σ' H', N σ' H' → ∃ m', m' < m ∧ W (i + 1) m' σ' H') ∧ ∀ x H', (Itt K a).yld i H x H' → g x σ H' fun σ2 H2 => tb { D with nx := N, ct := N, bk := D.nx } σ2 H2)) := by
  rcases hs with hs | hs
  · exact .inl ⟨h01.seq hs, for_list (xs := xs) Pv h0 (fun i σ H _ p => (hl i σ H p).seq hs) ht hd⟩
  · exact .inr ⟨sqT_same h01 hs, for_tup (xs := xs) Pv h0 (fun i σ H _ p => sqT_same (hl i σ H p) hs) ht hd⟩
theorem gname_at {i : Nat} {v v' : V} {σ : L2.St} {H : Hp} {Q : L2.St → Hp → Prop} (e : v = v') (h : gName i v' σ H Q) : gName i v σ H Q := by rw [e]; exact h
/-! the operators, the written part named -/
section
variable {X : Cx} {K : PySem.W.Frag}
theorem oeq {k : Nat} (hr : Room k X.A) (hK : X.K = K := by rfl) : OpR X (compareOp .Eq) (rEqN K) := by subst hK; exact op_eqN (hu64 hr)
theorem one' {k : Nat} (hr : Room k X.A) (hK : X.K = K := by rfl) : OpR X (compareOp .NotEq) (rNeN K) := by subst hK; exact op_neN (hu64 hr)
theorem oin {k : Nat} (hr : Room k X.A) (hK : X.K = K := by rfl) : OpR X (compareOp .In) (rInN K false) := by subst hK; exact op_inN (hu66 hr)
theorem onotin {k : Nat} (hr : Room k X.A) (hK : X.K = K := by rfl) : OpR X (compareOp .NotIn) (rInN K true) := by subst hK; exact op_notInN (hu66 hr)
theorem olt {k : Nat} (hr : Room k X.A) (hK : X.K = K := by rfl) : OpR X (compareOp .Lt) (rLtR K) := by subst hK; exact op_ltR (hu64 hr)
/-- in, not in of nests -/
theorem in_turn {K : PySem.W.Frag} {neg : Bool} {H1 : Hp} {b : Addr} {ys : List V} {ms : List Nat} {x : V} {k : Nat} {H : Hp} {Q : VK} (hb : Sq K H1 b ys) (hy : NaAll K H1 ys ms) (hd : ∀ m ∈ ms, dep m ≤ 60) (tp : Na K H x k) (hk : dep k ≤ 60) (g : Same H1 H)
    (q : Q (.bl (if neg then !decide (k ∈ ms) else decide (k ∈ ms))) H) : rInN K neg x (.ref b) H Q := ⟨k, b, ys, ms, tp, hk, rfl, hb.same g, hy.grow (Grow.of g), hd, q⟩
end
/-! ### small words -/
/-- isinstance(b, bool) of a truth -/
theorem call_isb {X : Cx} : CallR X (.builtin "isinstance") (fun xs H Q => ∃ b, xs = [.bl b, .ty "bool"] ∧ Q (.bl true) H) := by
  intro pins s σ H xs us Q I r h
  obtain ⟨b, rfl, q⟩ := h
  exact call_isi pins s σ H _ us Q I r ⟨.bl b, .ty "bool", .type "bool", .type "bool", true, rfl, .ty "bool", .base (.bl b), kit_ty (by decide +kernel), q⟩
theorem skip_ne {x y : V} {A B : Prop} (h : x = y) (hb : B) : if (!decide (x = y)) = true then A else B := by
  rw [decide_eq_true h]
  exact iteF hb
theorem skip_neN {x y : Nat} {A B : Prop} (h : x = y) (hb : B) : if (!decide (x = y)) = true then A else B := by
  rw [decide_eq_true h]
  exact iteF hb
theorem Na.len {K : PySem.W.Frag} {H : Hp} {a : Addr} {xs : List V} {n : Nat} (h : NaAll K H xs (bits n)) : xs.length = (bits n).length := by
  have := h.len
  rw [List.length_map] at this
  exact this
theorem NaAll.ln {K : PySem.W.Frag} {H : Hp} {xs : List V} {ns : List Nat} (h : NaAll K H xs ns) : xs.length = ns.length := by
  have := TpAll.len h
  rw [List.length_map] at this
  exact this
theorem NaAll.cat {K : PySem.W.Frag} {H : Hp} {xs ys : List V} {ns ms : List Nat} (h : NaAll K H xs ns) (h2 : NaAll K H ys ms) : NaAll K H (xs ++ ys) (ns ++ ms) := by
  show TpAll K H _ (List.map dat _)
  rw [List.map_append]
  exact TpAll.app h h2
theorem NaAll.at {K : PySem.W.Frag} {H : Hp} {xs : List V} {ns : List Nat} (h : NaAll K H xs ns) {i : Nat} {x : V} (e : xs[i]? = some x) : ∃ k, ns[i]? = some k ∧ k ∈ ns ∧ Na K H x k := by
  obtain ⟨d, hd, tp⟩ := TpAll.get h e
  rw [List.getElem?_map] at hd
  cases hb : ns[i]? with
  | none => rw [hb] at hd; cases hd
  | some k =>
    rw [hb] at hd
    cases hd
    exact ⟨k, rfl, List.mem_of_getElem? hb, tp⟩
theorem NaAll.at' {K : PySem.W.Frag} {H : Hp} {xs : List V} {ns : List Nat} (h : NaAll K H xs ns) {i k : Nat} (e : ns[i]? = some k) : ∃ x, xs[i]? = some x ∧ Na K H x k := by
  obtain ⟨x, h1, h2⟩ := TpAll.get' h (j := i) (d := dat k) (by rw [List.getElem?_map, e]; rfl)
  exact ⟨x, h1, h2⟩
theorem NaAll.tk {K : PySem.W.Frag} {H : Hp} : ∀ (n : Nat) {xs : List V} {ns : List Nat}, NaAll K H xs ns → NaAll K H (xs.take n) (ns.take n)
  | 0, _, _, _ => .nil
  | n + 1, [], [], _ => .nil
  | n + 1, [], _ :: _, h => by cases h
  | n + 1, _ :: _, [], h => by cases h
  | n + 1, x :: xs, m :: ns, h => by
    cases h with
    | cons h1 h2 => exact .cons h1 (NaAll.tk n h2)
theorem NaAll.dr {K : PySem.W.Frag} {H : Hp} : ∀ (n : Nat) {xs : List V} {ns : List Nat}, NaAll K H xs ns → NaAll K H (xs.drop n) (ns.drop n)
  | 0, _, _, h => h
  | n + 1, [], [], _ => .nil
  | n + 1, [], _ :: _, h => by cases h
  | n + 1, _ :: _, [], h => by cases h
  | n + 1, x :: xs, m :: ns, h => by
    cases h with
    | cons h1 h2 => exact NaAll.dr n h2
theorem NaAll.same {K : PySem.W.Frag} {H H' : Hp} {xs : List V} {ns : List Nat} (h : NaAll K H xs ns) (g : Same H H') : NaAll K H' xs ns := TpAll.grow (Grow.of g) h
theorem Na.same {K : PySem.W.Frag} {H H' : Hp} {x : V} {n : Nat} (h : Na K H x n) (g : Same H H') : Na K H' x n := Tp.grow (Grow.of g) h
/-- members kept of a nest -/
theorem filt_bits (n : Nat) (p : Nat → Bool) : bits (mk ((bits n).filter p)) = (bits n).filter p := bits_mk_asc ((bits_asc n).filter p)
/-- the truths of a comprehension -/
theorem truths {K : PySem.W.Frag} {a : Addr} {xs : List V} {ns : List Nat} {g : TG} {te : TE} {vs : List Nat} {σ : L2.St} {H1 : Hp} {D : Addr} {Qd : Hp → Prop} (p : Nat → Bool) (hs : SqT K H1 a xs) (hx : NaAll K H1 xs ns) (hz : xs.length ≤ sizeLine) (hD : H1 D = none)
    (ht : ∀ (x : V) (k : Nat) (H : Hp) (C : V → Hp → Prop), Na K H x k → k ∈ ns → Same H1 H → (∀ H2, Same H H2 → C (.bl (p k)) H2) → g x (wipe σ vs) H fun σ2 H2 => wipe σ2 vs = wipe σ vs ∧ te σ2 H2 C)
    (hd : ∀ H, Same H1 H → H D = some (.lst ((ns.map p).map V.bl)) → Qd H) :
    ∃ W : Nat → Nat → Hp → Prop, (∃ m, W 0 m (upd H1 D (.lst []))) ∧ ∀ i m H, W i m H →
      ((Itt K a).stop i H ∧ Qd H) ∨ ((Itt K a).go i H ∧ ∃ Nx : Hp → Prop, (∀ H', Nx H' → ∃ m', m' < m ∧ W (i + 1) m' H') ∧ ∀ x H', (Itt K a).yld i H x H' → g x (wipe σ vs) H' fun σ2 H2 => wipe σ2 vs = wipe σ vs ∧ tYes σ2 H2 fun b H3 =>
        if b = true then te σ2 H3 fun y H4 => ∃ acc, H4 D = some (.lst acc) ∧ acc.length < sizeLine ∧ Nx (upd H4 D (.lst (acc ++ [y]))) else Nx H3) := by
  have hl := NaAll.ln hx
  refine lc_tup (xs := xs) (Pv := fun i H => Same H1 H ∧ H D = some (.lst (((ns.take i).map p).map V.bl))) ⟨same_new hD _, upd_same⟩ (fun i H _ q => sqT_same q.1 hs) (fun i x H hi q => ?_) (fun H q => ?_)
  · obtain ⟨gg, hacc⟩ := q
    obtain ⟨k, hb, hk, tp⟩ := NaAll.at hx hi
    have hil : i < xs.length := (List.getElem?_eq_some_iff.mp hi).1
    refine ht x k H _ (Na.same tp gg) hk gg fun H2 g2 => ⟨_, g2 _ _ hacc, ?_, same_put (gg.trans g2) hD, ?_⟩
    · rw [List.length_map, List.length_map, List.length_take]
      omega
    · have et : ns.take (i + 1) = ns.take i ++ [k] := by rw [List.take_add_one, hb]; rfl
      rw [upd_same, et, List.map_append, List.map_append]
      rfl
  · obtain ⟨gg, hacc⟩ := q
    rw [hl, List.take_length] at hacc
    exact hd H gg hacc
end Nk
namespace Nk
open PySem PySem.Spec PyProof.Rows L2

/-! ### max(xs, default=d) of whole numbers -/
theorem dp_ints {K : PySem.W.Frag} {H : Hp} : ∀ ns : List Int, DpAll K H (ns.map V.int) (ns.map PyData.int)
  | [] => .nil
  | n :: ns => .cons (.int n) (dp_ints ns)
theorem maxOf_le (xs : List Int) : ∀ x : Int, PySem.W.maxOf x xs ∈ x :: xs ∧ ∀ y ∈ x :: xs, y ≤ PySem.W.maxOf x xs := by
  induction xs with
  | nil =>
    intro x
    refine ⟨List.mem_cons_self, fun y hy => ?_⟩
    rw [List.mem_singleton.mp hy]
    exact Int.le_refl _
  | cons a xs ih =>
    intro x
    have e : PySem.W.maxOf x (a :: xs) = PySem.W.maxOf (if decide (x < a) = true then a else x) xs := rfl
    rw [e]
    by_cases h : x < a
    · rw [if_pos (decide_eq_true h)]
      obtain ⟨h1, h2⟩ := ih a
      refine ⟨List.mem_cons_of_mem _ h1, fun y hy => ?_⟩
      rcases List.mem_cons.mp hy with rfl | hy
      · have := h2 a List.mem_cons_self
        omega
      · exact h2 y hy
    · rw [if_neg (by simp [h])]
      obtain ⟨h1, h2⟩ := ih x
      refine ⟨?_, fun y hy => ?_⟩
      · rcases List.mem_cons.mp h1 with h1 | h1
        · rw [h1]; exact List.mem_cons_self
        · exact List.mem_cons_of_mem _ (List.mem_cons_of_mem _ h1)
      · rcases List.mem_cons.mp hy with rfl | hy
        · exact h2 y List.mem_cons_self
        · rcases List.mem_cons.mp hy with rfl | hy
          · have := h2 x List.mem_cons_self
            omega
          · exact h2 y (List.mem_cons_of_mem _ hy)
def rMaxDef (K : PySem.W.Frag) : List V → List V → Hp → VK → Prop := fun vs zs H Q => ∃ (a : Addr) (ns : List Int) (d : Int), vs = [.ref a] ∧ zs = [.int d] ∧ SqL K H a (ns.map V.int) ∧ (ns = [] → Q (.int d) H) ∧ ∀ m, m ∈ ns → (∀ y ∈ ns, y ≤ m) → Q (.int m) H
theorem cr_maxDef {X : Cx} (hc : X.calm = true) (hu : X.A.units + 16 < cLine) : CallRK X (.builtin "max") [Str.ofString "default"] (rMaxDef X.K) := by
  intro pins s σ H vs zs us ws Q I r rz h
  obtain ⟨a, ns, d, rfl, rfl, hs, q0, q1⟩ := h
  obtain rfl := Vals.ref1 r
  obtain ⟨w1, rfl, e1⟩ := vals1 rz
  obtain ⟨its, rv, hl, _⟩ := I.list hs
  obtain ⟨as, ra⟩ := Dp.readsAll I _ _ its (dp_ints ns) rv
  refine PySem.W.max_list_datum_default (α := Int) (xs := ns) (I.ok.hd hc) hl.isList ⟨as, ?_⟩ (Nat.lt_of_le_of_lt (?_ : _ ≤ X.A.units + 16) hu) (fun e h' tk k => ⟨.int d, H, I.kept k, e1, q0 e⟩) fun y ys i v h' tk e hi hv k => ?_
  · exact ra
  · show X.A.units + 1 + 0 ≤ X.A.units + 16
    omega
  · obtain ⟨h1, h2⟩ := maxOf_le ys y
    rw [← e] at h1 h2
    obtain ⟨bs, r1⟩ := hv
    generalize PySem.W.maxOf y ys = m at r1 h1 h2
    have r1' : Reads h' v (.int m) bs := r1
    cases r1' with
    | int _ t => exact ⟨.int m, H, I.kept k, ⟨t, rfl⟩, q1 m h1 h2⟩

/-! ### the first place of a nest in a list -/
def rIndexN (K : PySem.W.Frag) : V → List V → Hp → VK → Prop := fun x vs H Q => ∃ (a : Addr) (y : V) (n : Nat) (xs : List V) (ns : List Nat) (j : Nat), x = .ref a ∧ vs = [y] ∧ SqL K H a xs ∧ NaAll K H xs ns ∧ Na K H y n ∧ dep n ≤ 60 ∧ (∀ k ∈ ns, dep k ≤ 60) ∧
  ns[j]? = some n ∧ (∀ m, m < j → ns[m]? ≠ some n) ∧ Q (.int (j : Nat)) H
theorem mt_indexN {X : Cx} (hu : X.A.units + 65 < cLine) : MtR X "list.index" (rIndexN X.K) := by
  intro pins s σ H x xs v us Q I rx rxs h
  obtain ⟨a, y, n, vs, ns, j, rfl, rfl, hs, hx, hy, dn, dx, hj, hno, q⟩ := h
  refine mt_indexD hu pins s σ H _ _ v us Q I rx rxs ⟨a, y, dat n, ns.map dat, j, dat n, rfl, rfl, .lst hs (TpAll.dp hx), hy.dp, shaped_dats dx, shaped_dat dn, by rw [List.getElem?_map, hj]; rfl, by rw [dat_eqv]; simp, fun m z hm hz => ?_, q⟩
  rw [List.getElem?_map] at hz
  cases e : ns[m]? with
  | none => rw [e] at hz; cases hz
  | some k =>
    rw [e] at hz
    cases hz
    rw [dat_eqv]
    refine decide_eq_false fun z => hno m hm ?_
    rw [e, z]

/-! ### the counting nests -/
def cnt : Nat → Nat
  | 0 => 0
  | n + 1 => mk (bits (cnt n) ++ [cnt n])
theorem bits_cnt_succ (n : Nat) : bits (cnt (n + 1)) = bits (cnt n) ++ [cnt n] := by
  refine bits_mk_asc (List.pairwise_append.mpr ⟨bits_asc _, by simp, fun a ha b hb => ?_⟩)
  rw [List.mem_singleton.mp hb]
  exact bits_lt ha
theorem bits_cnt (n : Nat) : bits (cnt n) = (List.range n).map cnt := by
  induction n with
  | zero => rfl
  | succ n ih => rw [bits_cnt_succ, ih, List.range_succ, List.map_append]; rfl
theorem len_cnt (n : Nat) : (bits (cnt n)).length = n := by rw [bits_cnt, List.length_map, List.length_range]
theorem cnt_inj {n m : Nat} (h : cnt n = cnt m) : n = m := by
  have e := len_cnt n
  rw [h, len_cnt] at e
  exact e.symm
theorem mem_cnt {n k : Nat} : k ∈ bits (cnt n) ↔ ∃ i, i < n ∧ cnt i = k := by
  rw [bits_cnt, List.mem_map]
  exact ⟨fun ⟨i, hi, e⟩ => ⟨i, List.mem_range.mp hi, e⟩, fun ⟨i, hi, e⟩ => ⟨i, List.mem_range.mpr hi, e⟩⟩
theorem cnt_lt {i j : Nat} (h : i < j) : cnt i < cnt j := bits_lt (mem_cnt.mpr ⟨i, h, rfl⟩)
theorem dep_cnt (n : Nat) : dep (cnt n) = n := by
  induction n using Nat.strongRecOn with
  | ind n ih =>
    refine Nat.le_antisymm (dep_le.mpr fun k hk => ?_) ?_
    · obtain ⟨i, hi, rfl⟩ := mem_cnt.mp hk
      rw [ih i hi]
      exact hi
    · cases n with
      | zero => exact Nat.zero_le _
      | succ m =>
        have := dep_mem (mem_cnt.mpr ⟨m, Nat.lt_succ_self m, rfl⟩ : cnt m ∈ bits (cnt (m + 1)))
        rw [ih m (Nat.lt_succ_self m)] at this
        exact this
/-- the members of members -/
def joinN (n : Nat) : Nat := mk ((bits n).flatMap bits)
theorem mem_joinN {n k : Nat} : k ∈ bits (joinN n) ↔ ∃ m, m ∈ bits n ∧ k ∈ bits m := by
  unfold joinN
  rw [mem_mk, List.mem_flatMap]
def closedN (n : Nat) : Bool := decide (∀ k ∈ bits (joinN n), k ∈ bits n)
theorem closed_cnt (n : Nat) : closedN (cnt n) = true := by
  refine decide_eq_true fun k hk => ?_
  obtain ⟨m, hm, hk⟩ := mem_joinN.mp hk
  obtain ⟨i, hi, rfl⟩ := mem_cnt.mp hm
  obtain ⟨j, hj, rfl⟩ := mem_cnt.mp hk
  exact mem_cnt.mpr ⟨j, Nat.lt_trans hj hi, rfl⟩
/-- a comprehension of flat values, one for each member -/
theorem flats {K : PySem.W.Frag} {a : Addr} {xs : List V} {ns : List Nat} {g : TG} {te : TE} {vs : List Nat} {σ : L2.St} {H1 : Hp} {D : Addr} {Qd : Hp → Prop} (p : Nat → V) (hs : SqT K H1 a xs) (hx : NaAll K H1 xs ns) (hz : xs.length ≤ sizeLine) (hD : H1 D = none)
    (ht : ∀ (x : V) (k : Nat) (H : Hp) (C : V → Hp → Prop), Na K H x k → k ∈ ns → Same H1 H → (∀ H2, Same H H2 → C (p k) H2) → g x (wipe σ vs) H fun σ2 H2 => wipe σ2 vs = wipe σ vs ∧ te σ2 H2 C)
    (hd : ∀ H, Same H1 H → H D = some (.lst (ns.map p)) → Qd H) :
    ∃ W : Nat → Nat → Hp → Prop, (∃ m, W 0 m (upd H1 D (.lst []))) ∧ ∀ i m H, W i m H →
      ((Itt K a).stop i H ∧ Qd H) ∨ ((Itt K a).go i H ∧ ∃ Nx : Hp → Prop, (∀ H', Nx H' → ∃ m', m' < m ∧ W (i + 1) m' H') ∧ ∀ x H', (Itt K a).yld i H x H' → g x (wipe σ vs) H' fun σ2 H2 => wipe σ2 vs = wipe σ vs ∧ tYes σ2 H2 fun b H3 =>
        if b = true then te σ2 H3 fun y H4 => ∃ acc, H4 D = some (.lst acc) ∧ acc.length < sizeLine ∧ Nx (upd H4 D (.lst (acc ++ [y]))) else Nx H3) := by
  have hl := NaAll.ln hx
  refine lc_tup (xs := xs) (Pv := fun i H => Same H1 H ∧ H D = some (.lst ((ns.take i).map p))) ⟨same_new hD _, upd_same⟩ (fun i H _ q => sqT_same q.1 hs) (fun i x H hi q => ?_) (fun H q => ?_)
  · obtain ⟨gg, hacc⟩ := q
    obtain ⟨k, hb, hk, tp⟩ := NaAll.at hx hi
    have hil : i < xs.length := (List.getElem?_eq_some_iff.mp hi).1
    refine ht x k H _ (Na.same tp gg) hk gg fun H2 g2 => ⟨_, g2 _ _ hacc, ?_, same_put (gg.trans g2) hD, ?_⟩
    · rw [List.length_map, List.length_take]
      omega
    · have et : ns.take (i + 1) = ns.take i ++ [k] := by rw [List.take_add_one, hb]; rfl
      rw [upd_same, et, List.map_append]
      rfl
  · obtain ⟨gg, hacc⟩ := q
    rw [hl, List.take_length] at hacc
    exact hd H gg hacc
/-- a deed that asks two nests and tells a truth -/
def spTruth (K : PySem.W.Frag) (p : Nat → Nat → Bool) : Sp := fun vs H Q _ => ∃ x y a b, vs = [x, y] ∧ Na K H x a ∧ Na K H y b ∧ dep a ≤ 50 ∧ dep b ≤ 50 ∧ ∀ H', Same H H' → Q (.bl (p a b)) H'
/-- a deed that tells a nest -/
def spDeed (K : PySem.W.Frag) (D L : Nat) (f : Nat → Nat → Nat) : Sp := fun vs H Q _ => ∃ x y a b, vs = [x, y] ∧ Na K H x a ∧ Na K H y b ∧ dep a ≤ D ∧ dep b ≤ D ∧ (bits a).length ≤ L ∧ (bits b).length ≤ L ∧ ∀ r H', Same H H' → Na K H' r (f a b) → Q r H'
/-- a deed of one nest that tells a nest -/
def spOne (K : PySem.W.Frag) (D : Nat) (f : Nat → Nat) : Sp := fun vs H Q _ => ∃ x a, vs = [x] ∧ Na K H x a ∧ dep a ≤ D ∧ ((bits a).flatMap bits).length ≤ 90000 ∧ ∀ r H', Same H H' → Na K H' r (f a) → Q r H'
theorem flat_take (l : List Nat) (f : Nat → List Nat) (i : Nat) : ((l.take i).flatMap f).length ≤ (l.flatMap f).length := by
  conv => rhs; rw [← List.take_append_drop i l, List.flatMap_append, List.length_append]
  exact Nat.le_add_right _ _
theorem flat_len {w : Nat} {f : Nat → List Nat} : ∀ {l : List Nat}, (∀ k ∈ l, (f k).length ≤ w) → (l.flatMap f).length ≤ l.length * w
  | [], _ => Nat.zero_le _
  | a :: l, h => by
    rw [List.flatMap_cons, List.length_append, List.length_cons, Nat.succ_mul]
    have := h a List.mem_cons_self
    have := flat_len (l := l) fun k hk => h k (List.mem_cons_of_mem _ hk)
    omega
/-- a deed of one nest that tells a truth -/
def spAsk (K : PySem.W.Frag) (D : Nat) (f : Nat → Bool) : Sp := fun vs H Q _ => ∃ x a, vs = [x] ∧ Na K H x a ∧ dep a ≤ D ∧ ((bits a).flatMap bits).length ≤ 90000 ∧ ∀ H', Same H H' → Q (.bl (f a)) H'
theorem dep_joinN {n d : Nat} (h : dep n ≤ d) : dep (joinN n) ≤ d := dep_mk fun k hk => by
  obtain ⟨m, hm, hk⟩ := List.mem_flatMap.mp hk
  have := dep_mem hm
  have := dep_mem hk
  omega
/-- one + other of two nests -/
theorem cat_read {K : PySem.W.Frag} {H : Hp} {x y : V} {a b : Nat} {Q : VK} (hx : Na K H x a) (hy : Na K H y b) (hl : (bits a).length + (bits b).length ≤ 100000)
    (q : ∀ p H' zs, Same H H' → SqT K H' p zs → NaAll K H' zs (bits a ++ bits b) → Q (.ref p) H') : rCatA K x y H Q := by
  obtain ⟨p, xs, rfl, sx, mx⟩ := hx.tup
  obtain ⟨r, ys, rfl, sy, my⟩ := hy.tup
  have l1 := NaAll.ln mx
  have l2 := NaAll.ln my
  refine ⟨p, r, xs, ys, rfl, rfl, sx, sy, small (by omega), fun e => ?_, fun _ e => ?_, fun _ _ z nz => ?_⟩
  · have e1 : bits a = [] := List.eq_nil_of_length_eq_zero (by rw [← l1, e]; rfl)
    refine q r H ys (Same.refl _) sy ?_
    rw [e1, List.nil_append]
    exact my
  · have e1 : bits b = [] := List.eq_nil_of_length_eq_zero (by rw [← l2, e]; rfl)
    refine q p H xs (Same.refl _) sx ?_
    rw [e1, List.append_nil]
    exact mx
  · exact q z _ (xs ++ ys) (same_new nz _) (SqT.of upd_same) (NaAll.cat (NaAll.same mx (same_new nz _)) (NaAll.same my (same_new nz _)))
theorem ocatA {X : Cx} {K : PySem.W.Frag} (hK : X.K = K := by rfl) : OpR X (binaryOp .Add) (rCatA K) := by subst hK; exact op_catA
theorem otupOf {X : Cx} {K : PySem.W.Frag} (hK : X.K = K := by rfl) : CallR X (.type "tuple") (fun xs H Q => ∃ p ys, xs = [.ref p] ∧ ((SqL K H p ys ∧ ∀ l, H l = none → Q (.ref l) (upd H l (.tup ys))) ∨ (SqT K H p ys ∧ Q (.ref p) H))) := by subst hK; exact call_tuple_of
/-! ### slices -/
theorem cut_drop (xs : List V) (k : Nat) : cutV xs (some (k : Int)) none = xs.drop k := by
  unfold cutV
  rw [HT.sIx_nat, HT.sIx_none]
  by_cases h : k ≤ xs.length
  · rw [Nat.min_eq_left h]
    exact List.take_of_length_le (by rw [List.length_drop]; exact Nat.le_refl _)
  · rw [Nat.min_eq_right (by omega), List.drop_length, List.drop_eq_nil_of_le (by omega), List.take_nil]
theorem cut_take (xs : List V) (k : Nat) : cutV xs none (some (k : Int)) = xs.take k := by
  unfold cutV
  rw [HT.sIx_nat, HT.sIx_none, List.drop_zero, Nat.sub_zero]
  by_cases h : k ≤ xs.length
  · rw [Nat.min_eq_left h]
  · rw [Nat.min_eq_right (by omega), List.take_length, List.take_of_length_le (by omega)]
theorem asc_drop {l : List Nat} (k : Nat) (h : l.Pairwise (· < ·)) : (l.drop k).Pairwise (· < ·) := h.sublist (List.drop_sublist k l)
theorem asc_take {l : List Nat} (k : Nat) (h : l.Pairwise (· < ·)) : (l.take k).Pairwise (· < ·) := h.sublist (List.take_sublist k l)
/-- one[k:] of a nest -/
theorem tail_read {K : PySem.W.Frag} {H : Hp} {x : V} {n k : Nat} {Q : VK} (hx : Na K H x n) (q : ∀ r H', Same H H' → Na K H' r (mk ((bits n).drop k)) → Q r H') : rSlA K x (some (k : Int)) none H Q := by
  obtain ⟨p, xs, rfl, sx, mx⟩ := hx.tup
  have lx := NaAll.ln mx
  refine ⟨p, xs, rfl, sx, fun e => q _ H (Same.refl _) (Na.of sx ?_), fun _ z nz => ?_⟩
  · rw [HT.sIx_nat] at e
    have e0 : min k xs.length = 0 := e.1
    rw [bits_mk_asc (asc_drop k (bits_asc n))]
    by_cases hk : k = 0
    · rw [hk, List.drop_zero]; exact mx
    · have l0 : xs.length = 0 := by omega
      have b0 : bits n = [] := List.eq_nil_of_length_eq_zero (by omega)
      rw [List.eq_nil_of_length_eq_zero l0, b0, List.drop_nil]
      exact .nil
  · rw [cut_drop]
    refine q _ _ (same_new nz _) (Na.of (SqT.of upd_same) ?_)
    rw [bits_mk_asc (asc_drop k (bits_asc n))]
    exact NaAll.same (NaAll.dr k mx) (same_new nz _)
/-! ### small words -/
theorem none_of {H H' : Hp} {a : Addr} (g : Same H H') (n : H' a = none) : H a = none := by
  cases e : H a with
  | none => rfl
  | some u => rw [g _ _ e] at n; cases n
theorem skip_iff {p : Prop} [Decidable p] {A B : Prop} (h : p) (hb : B) : if (!decide p) = true then A else B := by
  rw [decide_eq_true h]
  exact iteF hb
theorem no_iff {p : Prop} [Decidable p] {A B : Prop} (h : ¬ p) (hb : B) : if decide p = true then A else B := by
  rw [decide_eq_false h]
  exact iteF hb
theorem yes_iff {p : Prop} [Decidable p] {A B : Prop} (h : p) (ha : A) : if decide p = true then A else B := by
  rw [decide_eq_true h]
  exact ha
theorem go_iff {p : Prop} [Decidable p] {A B : Prop} (h : ¬ p) (ha : A) : if (!decide p) = true then A else B := by
  rw [decide_eq_false h]
  exact if_pos rfl ▸ ha
/-- isinstance(a whole number, int), (.., bool) -/
theorem call_isn {X : Cx} : CallR X (.builtin "isinstance") (fun xs H Q => ∃ i : Int, (xs = [.int i, .ty "int"] ∧ Q (.bl true) H) ∨ (xs = [.int i, .ty "bool"] ∧ Q (.bl false) H)) := by
  intro pins s σ H xs us Q I r h
  obtain ⟨i, ⟨rfl, q⟩ | ⟨rfl, q⟩⟩ := h
  · exact call_isi pins s σ H _ us Q I r ⟨.int i, .ty "int", .type "int", .type "int", true, rfl, .ty "int", .base (.int i), kit_ty (by decide +kernel), q⟩
  · exact call_isi pins s σ H _ us Q I r ⟨.int i, .ty "bool", .type "int", .type "bool", false, rfl, .ty "bool", .base (.int i), kit_ty (by decide +kernel), q⟩
end Nk
namespace Nk
open PySem PySem.Spec PyProof.Rows L2

/-! ### enumerate(a tuple): over the library's Draws.tuple, begins_tuple and WalksT.enumerateD -/
/-- what a new enumerate holds -/
abbrev enCell (it : Addr) : Obj := { cls := .type "enumerate", data := .fields #[.none, .bool false, .ref it, rawInt 0, .none, .none] }
abbrev tiCell (t : Addr) : Obj := { cls := .type "tuple_iterator", data := .fields #[.ref t, .int 0 0] }
theorem en_meets (t : Addr) (its : Array Value) : Meets (Builtin.«enumerate.__new__» ⟨[.type "enumerate", .ref t], []⟩) fun _ R s =>
    s.heap.IsTuple t its ∧ R (.ok (.ret (.ref (s.heap.push (tiCell t)).objs.size))) { s with heap := (s.heap.push (tiCell t)).push (enCell s.heap.objs.size) } := by
  refine .of_wp fun prog w A R s hs => ?_
  rcases s with ⟨g0, g1, g2, g3, g4⟩
  rcases hs with ⟨ht, hr⟩
  have low := sub_enumerate
  have begin_ : ∀ {A2 : Around} {E2 : Value → Shared → Prop} {Q2 : Value → Shared → Prop}, Q2 (.ref g0.objs.size) ⟨g0.push (tiCell t), g1, g2, g3, g4⟩ → wpAny (model prog w) A2 (pyIter (.ref t)) Q2 E2 ⟨g0, g1, g2, g3, g4⟩ :=
    fun z => wpAny_pyIter_tuple (s := ⟨g0, g1, g2, g3, g4⟩) ht z
  wp_walk using begin_
  refine wpAny_stack_any fun _ => ?_
  apply wpAny_pure
  split
  case' h_1 c _ _ _ _ _ => cases (c == Value.type "enumerate")
  all_goals (wp_walk using begin_; exact ⟨_, rfl, hr⟩)
/-- the iterator at it and the enumerate at e, i items gone -/
def EnAt (a e it : Addr) (i : Nat) (h : Heap) : Prop := (∃ old, IsEnum h e it ((i : Nat) : Int) old) ∧ h.IsTupleIter it a i ∧ e ≠ it ∧ a ≠ it ∧ e ≠ a
theorem en_call {prog : Program} {w : World} {A : Around} {E : Value → Shared → Prop} {s : Shared} {t : Addr} {its : Array Value} {Q : Value → Shared → Prop} (ht : s.heap.IsTuple t its)
    (q : ∀ h', EnAt t (s.heap.objs.size + 1) s.heap.objs.size 0 h' → (∀ b o, s.heap.get? b = some o → h'.get? b = some o) → Q (.ref (s.heap.objs.size + 1)) { s with heap := h' }) :
    wpAny (model prog w) A (call (.type "enumerate") [.ref t]) Q E s := by
  have two : (s.heap.push (tiCell t)).objs.size = s.heap.objs.size + 1 := Heap.size_push ..
  have below : t < s.heap.objs.size := by
    obtain ⟨_, there, _⟩ := ht
    exact Heap.lt_size there
  have cell : IsEnum ((s.heap.push (tiCell t)).push (enCell s.heap.objs.size)) (s.heap.objs.size + 1) s.heap.objs.size 0 .none := two ▸ Heap.get?_push_size (s.heap.push (tiCell t)) rfl
  have first : ((s.heap.push (tiCell t)).push (enCell s.heap.objs.size)).get? s.heap.objs.size = some (tiCell t) := Heap.get?_push_of_some _ (Heap.get?_push_size _ rfl)
  have kept : ∀ b o, s.heap.get? b = some o → ((s.heap.push (tiCell t)).push (enCell s.heap.objs.size)).get? b = some o := fun _ _ z => Heap.get?_push_of_some _ (Heap.get?_push_of_some _ z)
  refine callType_new F.called_enumerate (by decide) (F.typeCall_enumerate_1 _) (F.newCall_enumerate_1 _) (fun o => F.args_object_init_2 o _) F.entry_enumerate_new (en_meets t its) ⟨ht, ?_⟩
  show Shared.TypeIs _ _ _ ∧ Q _ _
  rw [two]
  exact ⟨⟨_, cell, rfl⟩, q _ ⟨⟨_, cell⟩, ⟨_, first, rfl, rfl⟩, Nat.succ_ne_self _, Nat.ne_of_lt below, Ne.symm (Nat.ne_of_lt (Nat.lt_succ_of_lt below))⟩ kept⟩
def Itet (K : PySem.W.Frag) (a : Addr) : It :=
  ⟨fun i H => ∃ xs : List V, SqT K H a xs ∧ i < xs.length, fun i H v H' => ∃ p x, v = .ref p ∧ H p = none ∧ H' = upd H p (.tup [.int (i : Nat), x]) ∧ ∀ xs, SqT K H a xs → xs[i]? = some x, fun i H => ∃ xs : List V, SqT K H a xs ∧ xs.length = i⟩
theorem EnAt.lives {a e it : Addr} {i : Nat} {h : Heap} (st : EnAt a e it i h) : ∀ b ∈ [e, it], ∃ o, h.get? b = some o ∧ ∀ v, o.data ≠ .cell v := by
  obtain ⟨⟨_, h1⟩, ⟨o, h2, _, h3⟩, _⟩ := st
  intro b hb
  simp only [List.mem_cons, List.not_mem_nil, or_false] at hb
  rcases hb with rfl | rfl
  · exact ⟨_, h1, fun _ z => nomatch z⟩
  · refine ⟨o, h2, fun _ z => ?_⟩
    rw [h3] at z
    cases z
theorem EnAt.stays {a e it : Addr} {i : Nat} {h h' : Heap} (st : EnAt a e it i h) (k : ∀ b ∈ [e, it], ∀ o, h.get? b = some o → h'.get? b = some o) : EnAt a e it i h' := by
  obtain ⟨⟨old, h1⟩, h2, rest⟩ := st
  exact ⟨⟨old, k e List.mem_cons_self _ h1⟩, h2.at fun _ z => k it (List.mem_cons_of_mem _ List.mem_cons_self) _ z, rest⟩
theorem turn_enT {P : Program} {w : World} {K : PySem.W.Frag} {elts : List Expr} {kk : Nat} {tpos : Pos} (a e it : Addr) : Turn P w K (.Tuple elts kk tpos) (Itet K a) [e, it] e (EnAt a e it) where
  mem := List.mem_cons_self
  obj := fun _ _ st => st.lives
  keep := fun _ _ _ st k => st.stays k
  self := fun _ _ _ _ _ st z => by
    obtain ⟨⟨_, h1⟩, _⟩ := st
    exact wpAny_pyIter_enum h1 z
  done := by
    rintro X rfl rfl rfl calm i pins s σ H E I free st ⟨xs, sx, len⟩
    obtain ⟨its, rel, tup, _⟩ := I.tuple sx
    have size : its.toArray.size = i := by rw [List.size_toArray, ← rel.length, len]
    refine (WalksT.enumerateD (prog := X.prog) (w := X.w) (A := X.A) (Draws.tuple (show X.A.in1.handled = none from I.ok.hd calm) it a st.2.2.2.1 its.toArray) e st.2.2.1 (by simp [st.2.2.1, st.2.2.2.2]) List.mem_cons_self).done s _ _ ⟨size.symm ▸ st.1, size.symm ▸ st.2.1, tup⟩ fun h' tk same => ⟨rfl, ?_⟩
    exact I.turnedL (ch := [e, it]) same free
  item := by
    rintro X rfl rfl rfl calm i pins s σ H E I free st ⟨xs, sx, less⟩
    obtain ⟨its, rel, tup, _⟩ := I.tuple sx
    have size : i < its.toArray.size := by rw [List.size_toArray, ← rel.length]; exact less
    have W := WalksT.enumerateD (prog := X.prog) (w := X.w) (A := X.A) (Draws.tuple (show X.A.in1.handled = none from I.ok.hd calm) it a st.2.2.2.1 its.toArray) e st.2.2.1 (by simp [st.2.2.1, st.2.2.2.2]) List.mem_cons_self
    refine W.item i s _ _ size ⟨st.1, st.2.1, tup⟩ fun p vals h1 t1 ⟨t, y, at_, ev⟩ new laid mid same1 => ⟨_, rfl, ?_⟩
    have apart := W.apart i p h1 mid
    refine W.go elts kk tpos i p _ _ _ mid fun h2 st2 same2 => ?_
    obtain ⟨u, hu, ru⟩ := rel.get (List.getElem?_eq_getElem less)
    have ey : y = u := by
      rw [List.getElem?_toArray, hu] at at_
      exact (Option.some.inj at_).symm
    subst ey
    have laid2 : h2.IsTuple p vals := laid.at fun o z => same2 p o apart z
    rw [ev] at laid2
    have made : ObjOk X.prog X.w (upd H p (.tup [.int (i : Nat), xs[i]])) h2 p (.tup [.int (i : Nat), xs[i]]) := ⟨(by show 2 ≤ sizeLine; decide), [.int i t, y], .cons ⟨t, rfl⟩ (.cons ru .nil), laid2⟩
    refine ⟨.ref p, _, I.turnedNew (ch := [e, it]) (fun b o out z => same2 b o out (same1 b o out z)) free new made, rfl, ⟨p, xs[i], rfl, I.hok.fresh new, rfl, fun ys sy => ?_⟩, ⟨st2.1, st2.2.1, st.2.2⟩, fun b hb => ?_⟩
    · rw [I.tuple_inj sy sx]
      exact List.getElem?_eq_getElem less
    · rw [upd_ne fun z : b = p => apart (z ▸ hb)]
      exact (free b hb).1
def iEnumT (K : PySem.W.Frag) (ta : TA) : TI := fun σ H R => ta σ H fun vs H1 => ∃ a xs, vs = [.ref a] ∧ SqT K H1 a xs ∧ R (Itet K a) H1
theorem pi_enumT {X : Cx} {e : Expr} {ta : TA} {p pos tpos : Pos} {elts : List Expr} {kk : Nat} (hg : Gl X "enumerate") (hm : X.mg "enumerate" = none) (ha : PA X [e] ta) (hs : starEach [e] X.env = [(false, eval e X.env)] := by rfl) :
    PI X (.Tuple elts kk tpos) (.Call (.Name "enumerate" p) [e] [] pos) (iEnumT X.K ta) where
  run pins s σ H R I h := by
    refine Call_ (ld_blt I hg hm boot_enumerate ?_)
    refine PyProof.Rows.callWith_type1 (thn (ha.run pos pins s σ H _ I h) fun us s1 got => ?_) hs rfl
    rcases got with ⟨_, H1, I1, rel, a, xs, rfl, sx, rest⟩
    rcases rel with _ | ⟨head, _ | _⟩
    obtain rfl : _ = Value.ref a := head
    obtain ⟨its, _, tup, _⟩ := I1.tuple sx
    refine en_call (its := its.toArray) tup fun h' st kept => wpAny_pyIter_enum st.1.choose_spec ?_
    refine ⟨_, _, _, _, H1, rfl, I1.kept (t' := s1.toks) kept, turn_enT a (s1.heap.objs.size + 1) s1.heap.objs.size, st, fun b hb => ?_, rest⟩
    have high : s1.heap.objs.size ≤ b := by
      simp only [List.mem_cons, List.not_mem_nil, or_false] at hb
      exact hb.elim (fun z => z ▸ Nat.le_succ _) fun z => z ▸ Nat.le_refl _
    exact I1.fpOk high (I1.hok.fresh high)
theorem walk_enumT {K : PySem.W.Frag} {a : Addr} {xs : List V} : Walk (Itet K a) xs.length (fun H => SqT K H a xs) (YPair (fun i => some (.int (i : Nat))) (fun i => xs[i]?)) where
  goes _ _ less sx := ⟨xs, sx, less⟩
  stops _ sx := ⟨xs, sx, rfl⟩
  yields i H v H' _ sx y := by
    rcases y with ⟨p, x, ev, free, eH, at_⟩
    exact ⟨p, _, x, ev, free, eH, rfl, at_ xs sx⟩

/-! ### comprehensions over nests that make nests -/
section
variable {K : PySem.W.Frag} {a : Addr} {xs : List V} {ns : List Nat} {g : TG} {tt : TT} {te : TE} {vs : List Nat} {σ : L2.St} {H1 : Hp} {D : Addr} {Qd : Hp → Prop} {J : It} {G : Hp → Prop}
theorem maps_it (w : Walk J xs.length G (YAt xs)) (hG : ∀ H, Same H1 H → G H) (f : Nat → Nat) (hx : NaAll K H1 xs ns) (hz : xs.length ≤ sizeLine) (hD : H1 D = none)
    (ht : ∀ (x : V) (k : Nat) (H : Hp) (C : V → Hp → Prop), Na K H x k → k ∈ ns → Same H1 H → (∀ r H2, Same H H2 → Na K H2 r (f k) → C r H2) → g x (wipe σ vs) H fun σ2 H2 => wipe σ2 vs = wipe σ vs ∧ te σ2 H2 C)
    (hd : ∀ H acc, Same H1 H → H D = some (.lst acc) → NaAll K H acc (ns.map f) → Qd H) :
    ∃ W : Nat → Nat → Hp → Prop, (∃ m, W 0 m (upd H1 D (.lst []))) ∧ ∀ i m H, W i m H →
      (J.stop i H ∧ Qd H) ∨ (J.go i H ∧ ∃ Nx : Hp → Prop, (∀ H', Nx H' → ∃ m', m' < m ∧ W (i + 1) m' H') ∧ ∀ x H', J.yld i H x H' → g x (wipe σ vs) H' fun σ2 H2 => wipe σ2 vs = wipe σ vs ∧ tYes σ2 H2 fun b H3 =>
        if b = true then te σ2 H3 fun y H4 => ∃ acc, H4 D = some (.lst acc) ∧ acc.length < sizeLine ∧ Nx (upd H4 D (.lst (acc ++ [y]))) else Nx H3) := by
  have hl := NaAll.ln hx
  refine lc_it w (Pv := fun i H => Same H1 H ∧ ∃ acc, H D = some (.lst acc) ∧ acc.length = i ∧ NaAll K H acc ((ns.take i).map f)) ⟨same_new hD _, [], upd_same, rfl, .nil⟩ (fun i H _ q => hG H q.1) (fun i x H H' hi q y => ?_) (fun H q => ?_)
  · obtain ⟨gg, acc, hacc, la, ma⟩ := q
    obtain ⟨rfl, hxi⟩ := y
    obtain ⟨k, hb, hk, tp⟩ := NaAll.at hx hxi
    refine ht x k H' _ (Na.same tp gg) hk gg fun r H2 g2 hr => ⟨acc, g2 _ _ hacc, by omega, same_put (gg.trans g2) hD, acc ++ [r], upd_same, by rw [List.length_append, la]; rfl, ?_⟩
    have et : ns.take (i + 1) = ns.take i ++ [k] := by rw [List.take_add_one, hb]; rfl
    rw [et, List.map_append]
    exact (NaAll.cat (NaAll.same ma g2) (.cons hr .nil)).grow (Grow.lst (g2 _ _ hacc))
  · obtain ⟨gg, acc, hacc, la, ma⟩ := q
    rw [hl, List.take_length] at ma
    exact hd H acc gg hacc ma
end

/-! ### how many members there are, within and within -/
inductive Thin (w : Nat) : Nat → Prop
  | mk {n : Nat} : (bits n).length ≤ w → (∀ k, k ∈ bits n → Thin w k) → Thin w n
theorem Thin.len {w n : Nat} (h : Thin w n) : (bits n).length ≤ w := by cases h; assumption
theorem Thin.mem {w n : Nat} (h : Thin w n) : ∀ k, k ∈ bits n → Thin w k := by cases h; assumption
theorem Thin.mono {w u n : Nat} (hw : w ≤ u) (h : Thin w n) : Thin u n := by
  induction h with
  | mk h1 _ ih => exact .mk (Nat.le_trans h1 hw) ih
theorem thin_zero (w : Nat) : Thin w 0 := .mk (Nat.zero_le _) fun k h => by cases h
theorem thin_mk {w : Nat} {ms : List Nat} (hl : ms.length ≤ w) (h : ∀ k ∈ ms, Thin w k) : Thin w (mk ms) :=
  .mk (Nat.le_trans (asc_len (bits_asc _) fun k hk => mem_mk.mp hk) hl) fun k hk => h k (mem_mk.mp hk)
end Nk
namespace Nk

/-! ### all nests of some of l -/
def subsN (l : List Nat) : List Nat := l.foldl (fun acc m => acc ++ acc.map fun s => mk (bits s ++ [m])) [0]
theorem subs_snoc (l : List Nat) (m : Nat) : subsN (l ++ [m]) = subsN l ++ (subsN l).map fun s => mk (bits s ++ [m]) := by
  unfold subsN
  rw [List.foldl_append]
  rfl
theorem subs_len (l : List Nat) : (subsN l).length = 2 ^ l.length := by
  have h : ∀ (l acc : List Nat), (l.foldl (fun acc m => acc ++ acc.map fun s => mk (bits s ++ [m])) acc).length = acc.length * 2 ^ l.length := by
    intro l
    induction l with
    | nil => intro acc; simp
    | cons a l ih =>
      intro acc
      rw [List.foldl_cons, ih, List.length_append, List.length_map, List.length_cons, Nat.pow_succ, Nat.mul_comm (2 ^ l.length) 2, ← Nat.mul_assoc, Nat.mul_comm acc.length 2, Nat.two_mul]
  have := h l [0]
  rw [List.length_singleton, Nat.one_mul] at this
  exact this
theorem mem_subs (l : List Nat) : ∀ i, i ≤ l.length → ∀ s, s ∈ subsN (l.take i) ↔ ∀ k ∈ bits s, k ∈ l.take i := by
  intro i
  induction i with
  | zero =>
    intro _ s
    rw [List.take_zero]
    show s ∈ [0] ↔ _
    rw [List.mem_singleton]
    constructor
    · rintro rfl k hk
      rw [bits_zero] at hk
      exact hk
    · intro h
      refine bits_nil.mp ?_
      cases e : bits s with
      | nil => rfl
      | cons a as =>
        have := h a (by rw [e]; exact List.mem_cons_self)
        cases this
  | succ i ih =>
    intro hi s
    have hi' : i < l.length := hi
    have et : l.take (i + 1) = l.take i ++ [l[i]] := by rw [List.take_add_one, List.getElem?_eq_getElem hi']; rfl
    rw [et, subs_snoc, List.mem_append, ih (Nat.le_of_lt hi')]
    generalize l.take i = A at ih
    generalize l[i] = m
    constructor
    · rintro (h | h) k hk
      · exact List.mem_append_left _ (h k hk)
      · obtain ⟨t, ht, rfl⟩ := List.mem_map.mp h
        rcases List.mem_append.mp (mem_mk.mp hk) with hk | hk
        · exact List.mem_append_left _ ((ih (Nat.le_of_lt hi') t).mp ht k hk)
        · exact List.mem_append_right _ hk
    · intro h
      by_cases hm : m ∈ bits s
      · refine .inr (List.mem_map.mpr ⟨mk ((bits s).filter fun k => decide (k ≠ m)), (ih (Nat.le_of_lt hi') _).mpr fun k hk => ?_, same_bits fun k => ?_⟩)
        · obtain ⟨h1, h2⟩ := List.mem_filter.mp (mem_mk.mp hk)
          rcases List.mem_append.mp (h k h1) with h3 | h3
          · exact h3
          · exact absurd (List.mem_singleton.mp h3) (of_decide_eq_true h2)
        · rw [mem_mk, List.mem_append, mem_mk, List.mem_filter, List.mem_singleton, decide_eq_true_eq]
          constructor
          · rintro (⟨h1, _⟩ | rfl)
            · exact h1
            · exact hm
          · intro h1
            by_cases e : k = m
            · exact .inr e
            · exact .inl ⟨h1, e⟩
      · refine .inl fun k hk => ?_
        rcases List.mem_append.mp (h k hk) with h3 | h3
        · exact h3
        · rw [List.mem_singleton.mp h3] at hk
          exact absurd hk hm
theorem mem_subs_all (l : List Nat) (s : Nat) : s ∈ subsN l ↔ ∀ k ∈ bits s, k ∈ l := by
  have := mem_subs l l.length (Nat.le_refl _) s
  rw [List.take_length] at this
  exact this
def partsN (n : Nat) : Nat := mk (subsN (bits n))
theorem sub_dep {s n : Nat} (h : ∀ k ∈ bits s, k ∈ bits n) : dep s ≤ dep n := dep_le.mpr fun k hk => dep_mem (h k hk)

/-! ### the members told by a number's ones -/
def pick (l : List Nat) (s i : Nat) : List Nat := ((List.range i).filter fun k => s.testBit k).map fun k => l.getD k 0
theorem pick_succ (l : List Nat) (s i : Nat) : pick l s (i + 1) = pick l s i ++ if s.testBit i = true then [l.getD i 0] else [] := by
  unfold pick
  rw [List.range_succ, List.filter_append, List.map_append]
  congr 1
  by_cases h : s.testBit i = true
  · rw [if_pos h]
    simp [h]
  · rw [if_neg h]
    simp [h]
theorem pick_asc {l : List Nat} (h : l.Pairwise (· < ·)) (s : Nat) {i : Nat} (hi : i ≤ l.length) : (pick l s i).Pairwise (· < ·) := by
  unfold pick
  rw [List.pairwise_map]
  refine (List.Pairwise.filter _ (List.pairwise_lt_range (n := i))).imp_of_mem ?_
  intro a b ha hb hab
  have ha' := List.mem_range.mp (List.mem_filter.mp ha).1
  have hb' := List.mem_range.mp (List.mem_filter.mp hb).1
  have e1 : l.getD a 0 = l[a]'(by omega) := by simp [List.getD, List.getElem?_eq_getElem (show a < l.length by omega)]
  have e2 : l.getD b 0 = l[b]'(by omega) := by simp [List.getD, List.getElem?_eq_getElem (show b < l.length by omega)]
  rw [e1, e2]
  exact List.pairwise_iff_getElem.mp h a b (by omega) (by omega) hab
theorem mem_pick {l : List Nat} {s m : Nat} : m ∈ pick l s l.length ↔ ∃ k, l[k]? = some m ∧ s.testBit k = true := by
  unfold pick
  rw [List.mem_map]
  constructor
  · rintro ⟨k, hk, rfl⟩
    obtain ⟨h1, h2⟩ := List.mem_filter.mp hk
    have h1' := List.mem_range.mp h1
    exact ⟨k, by simp [List.getD, List.getElem?_eq_getElem h1'], h2⟩
  · rintro ⟨k, hk, h2⟩
    have h1 := (List.getElem?_eq_some_iff.mp hk).1
    exact ⟨k, List.mem_filter.mpr ⟨List.mem_range.mpr h1, h2⟩, by simp [List.getD, hk]⟩
theorem pick_mem {l : List Nat} {s i m : Nat} (hi : i ≤ l.length) (h : m ∈ pick l s i) : m ∈ l := by
  unfold pick at h
  obtain ⟨k, hk, rfl⟩ := List.mem_map.mp h
  have h1 := List.mem_range.mp (List.mem_filter.mp hk).1
  have : l[k]? = some (l.getD k 0) := by simp [List.getD, List.getElem?_eq_getElem (show k < l.length by omega)]
  exact List.mem_of_getElem? this
theorem parts_eq (n : Nat) : mk ((List.range (2 ^ (bits n).length)).map fun s => mk (pick (bits n) s (bits n).length)) = partsN n := by
  refine mk_congr fun s => ?_
  rw [mem_subs_all, List.mem_map]
  constructor
  · rintro ⟨t, _, rfl⟩ k hk
    exact pick_mem (Nat.le_refl _) (mem_mk.mp hk)
  · intro h
    refine ⟨mk ((List.range (bits n).length).filter fun k => decide ((bits n).getD k 0 ∈ bits s)), List.mem_range.mpr ?_, same_bits fun k => ?_⟩
    · refine Nat.lt_pow_two_of_testBit _ fun i hi => ?_
      cases e : (mk ((List.range (bits n).length).filter fun k => decide ((bits n).getD k 0 ∈ bits s))).testBit i with
      | false => rfl
      | true =>
        have := List.mem_range.mp (List.mem_filter.mp (testBit_mk.mp e)).1
        omega
    · rw [mem_mk, mem_pick]
      constructor
      · rintro ⟨i, hi, ht⟩
        have h2 := of_decide_eq_true (List.mem_filter.mp (testBit_mk.mp ht)).2
        have e : (bits n).getD i 0 = k := by simp [List.getD, hi]
        rw [e] at h2
        exact h2
      · intro hk
        obtain ⟨i, hi⟩ := List.mem_iff_getElem?.mp (h k hk)
        have e : (bits n).getD i 0 = k := by simp [List.getD, hi]
        exact ⟨i, hi, testBit_mk.mpr (List.mem_filter.mpr ⟨List.mem_range.mpr (List.getElem?_eq_some_iff.mp hi).1, decide_eq_true (by rw [e]; exact hk)⟩)⟩

/-! ### all that lies below -/
def belowN (n : Nat) : Nat := mk (bits n ++ (bits n).attach.flatMap fun k => bits (belowN k.1))
termination_by n
decreasing_by exact bits_lt k.2
theorem belowN_eq (n : Nat) : belowN n = mk (bits n ++ (bits n).flatMap fun k => bits (belowN k)) := by
  rw [belowN]
  congr 2
  have h : ((bits n).attach.map fun k => bits (belowN k.1)) = ((bits n).attach.map (·.1)).map fun k => bits (belowN k) := by rw [List.map_map]; rfl
  rw [List.flatMap_def, List.flatMap_def, h, List.attach_map_subtype_val]
theorem mem_below {n k : Nat} : k ∈ bits (belowN n) ↔ k ∈ bits n ∨ ∃ m, m ∈ bits n ∧ k ∈ bits (belowN m) := by
  rw [belowN_eq, mem_mk, List.mem_append, List.mem_flatMap]
theorem below_least {S : Nat → Prop} (hs : ∀ m, S m → ∀ k ∈ bits m, S k) (n : Nat) : (∀ k ∈ bits n, S k) → ∀ k ∈ bits (belowN n), S k := by
  induction n using Nat.strongRecOn with
  | ind n ih =>
    intro h0 k hk
    rcases mem_below.mp hk with hk | ⟨m, hm, hk⟩
    · exact h0 k hk
    · exact ih m (bits_lt hm) (hs m (h0 m hm)) k hk
theorem below_closed (n : Nat) : ∀ m, m ∈ bits (belowN n) → ∀ k, k ∈ bits m → k ∈ bits (belowN n) := by
  induction n using Nat.strongRecOn with
  | ind n ih =>
    intro m hm k hk
    rcases mem_below.mp hm with hm | ⟨j, hj, hm⟩
    · exact mem_below.mpr (.inr ⟨m, hm, mem_below.mpr (.inl hk)⟩)
    · exact mem_below.mpr (.inr ⟨j, hj, ih j (bits_lt hj) m hm k hk⟩)
theorem below_dep {n k : Nat} (h : k ∈ bits (belowN n)) : dep k + 1 ≤ dep n :=
  below_least (S := fun k => dep k + 1 ≤ dep n) (fun m hm k hk => by have := dep_mem hk; omega) n (fun k hk => dep_mem hk) k h
theorem dep_below {n d : Nat} (h : dep n ≤ d) : dep (belowN n) ≤ d := dep_le.mpr fun k hk => by have := below_dep hk; omega
theorem below_thin {w n k : Nat} (t : Thin w n) (h : k ∈ bits (belowN n)) : Thin w k := below_least (S := Thin w) (fun m hm k hk => hm.mem k hk) n (fun k hk => t.mem k hk) k h
def lenB (w : Nat) : Nat → Nat
  | 0 => 0
  | d + 1 => w + w * lenB w d
theorem flat_below {w d : Nat} : ∀ {l : List Nat}, (∀ k ∈ l, (bits (belowN k)).length ≤ d) → l.length ≤ w → (l.flatMap fun k => bits (belowN k)).length ≤ w * d := fun {l} h hl =>
  Nat.le_trans (flat_len h) (Nat.mul_le_mul_right d hl)
theorem below_len {w : Nat} (d : Nat) : ∀ n, Thin w n → dep n ≤ d → (bits n ++ (bits n).flatMap fun k => bits (belowN k)).length ≤ lenB w d := by
  induction d with
  | zero =>
    intro n _ hd
    have e : bits n = [] := by
      cases e : bits n with
      | nil => rfl
      | cons a as =>
        have := dep_mem (n := n) (k := a) (by rw [e]; exact List.mem_cons_self)
        omega
    rw [e]
    exact Nat.le_refl _
  | succ d ih =>
    intro n t hd
    rw [List.length_append]
    have h1 := t.len
    have h2 := flat_below (w := w) (d := lenB w d) (l := bits n) (fun k hk => by
      have h3 := ih k (t.mem k hk) (by have := dep_mem hk; omega)
      refine Nat.le_trans ?_ h3
      rw [belowN_eq]
      exact asc_len (bits_asc _) fun j hj => mem_mk.mp hj) h1
    show _ ≤ w + w * lenB w d
    omega
theorem closed_below (n : Nat) : closedN (belowN n) = true := by
  refine decide_eq_true fun k hk => ?_
  obtain ⟨m, hm, hk⟩ := mem_joinN.mp hk
  exact below_closed n m hm k hk
theorem lenB_4 : lenB 4 8 = 87380 := by decide
end Nk
namespace Nk
open PySem PySem.Spec PyProof.Rows L2

/-! ### data of any kind -/
section
variable {K : PySem.W.Frag} {H H' : Hp}
mutual
theorem dp_same (g : Same H H') : ∀ {v : V} {d : PyData}, Dp K H v d → Dp K H' v d
  | _, _, .non => .non
  | _, _, .bl b => .bl b
  | _, _, .int i => .int i
  | _, _, .str x => .str x
  | _, _, .lst h r => .lst (g.seq h) (dpAll_same g r)
  | _, _, .tup h r => .tup (sqT_same g h) (dpAll_same g r)
theorem dpAll_same (g : Same H H') : ∀ {vs : List V} {ds : List PyData}, DpAll K H vs ds → DpAll K H' vs ds
  | _, _, .nil => .nil
  | _, _, .cons h r => .cons (dp_same g h) (dpAll_same g r)
end
theorem dpAll_len : ∀ {vs : List V} {ds : List PyData}, DpAll K H vs ds → vs.length = ds.length
  | _, _, .nil => rfl
  | _, _, .cons _ r => by rw [List.length_cons, List.length_cons, dpAll_len r]
theorem dpAll_get : ∀ {vs : List V} {ds : List PyData}, DpAll K H vs ds → ∀ {j : Nat} {v : V}, vs[j]? = some v → ∃ d, ds[j]? = some d ∧ Dp K H v d
  | _, _, .nil, j, v, e => by simp at e
  | _, _, .cons h r, 0, v, e => by
    simp at e
    subst e
    exact ⟨_, rfl, h⟩
  | _, _, .cons h r, j + 1, v, e => by
    obtain ⟨d, e1, e2⟩ := dpAll_get r (j := j) (v := v) (by simpa using e)
    exact ⟨d, by simpa using e1, e2⟩
theorem dpAll_app : ∀ {vs ws : List V} {ds es : List PyData}, DpAll K H vs ds → DpAll K H ws es → DpAll K H (vs ++ ws) (ds ++ es)
  | _, _, _, _, .nil, s => s
  | _, _, _, _, .cons h r, s => .cons h (dpAll_app r s)
theorem na_all {ns : List Nat} (h : ∀ k ∈ ns, ∀ v, Dp K H v (dat k) → Na K H v k) : ∀ {vs : List V}, DpAll K H vs (ns.map dat) → NaAll K H vs ns := by
  induction ns with
  | nil =>
    intro vs r
    cases r
    exact .nil
  | cons a ns ih =>
    intro vs r
    cases r with
    | cons r1 r2 => exact .cons (h a List.mem_cons_self _ r1) (ih (fun k hk => h k (List.mem_cons_of_mem _ hk)) r2)
theorem na_of (n : Nat) : ∀ v, Dp K H v (dat n) → Na K H v n := by
  induction n using Nat.strongRecOn with
  | ind n ih =>
    intro v r
    rw [dat_eq] at r
    cases r with
    | tup h1 h2 => exact Na.of h1 (na_all (fun k hk => ih k (bits_lt hk)) h2)
theorem nas_of {ns : List Nat} {vs : List V} (h : DpAll K H vs (ns.map dat)) : NaAll K H vs ns := na_all (fun k _ => na_of k) h
theorem tyx_L {a : Addr} {xs : List V} (h : SqL K H a xs) : TyX K H (.ref a) (.type "list") := by
  rcases h with (h | ⟨o, h⟩) | ⟨o, its, n, e, c, _⟩
  · exact .base (.lst h)
  · exact .base (.frz h)
  · exact .kList e c
theorem tyx_T {a : Addr} {xs : List V} (h : SqT K H a xs) : TyX K H (.ref a) (.type "tuple") := by
  rcases h with (h | ⟨o, h⟩) | ⟨o, its, n, e, c, _⟩
  · exact .base (.tup h)
  · exact .fTuple h
  · exact .kTuple e c
end
def isTu : PyData → Bool
  | .tuple _ => true
  | _ => false
/-- isinstance(data, tuple) -/
theorem call_ist {X : Cx} {K : PySem.W.Frag} (hK : X.K = K := by rfl) : CallR X (.builtin "isinstance") (fun xs H Q => ∃ v d, xs = [v, .ty "tuple"] ∧ Dp K H v d ∧ Q (.bl (isTu d)) H) := by
  subst hK
  intro pins s σ H xs us Q I r h
  obtain ⟨v, d, rfl, hd, q⟩ := h
  cases hd with
  | non => exact call_isi pins s σ H _ us Q I r ⟨_, .ty "tuple", .type "NoneType", .type "tuple", false, rfl, .ty "tuple", .base .non, kit_ty (by decide +kernel), q⟩
  | bl b => exact call_isi pins s σ H _ us Q I r ⟨_, .ty "tuple", .type "bool", .type "tuple", false, rfl, .ty "tuple", .base (.bl b), kit_ty (by decide +kernel), q⟩
  | int i => exact call_isi pins s σ H _ us Q I r ⟨_, .ty "tuple", .type "int", .type "tuple", false, rfl, .ty "tuple", .base (.int i), kit_ty (by decide +kernel), q⟩
  | str x => exact call_isi pins s σ H _ us Q I r ⟨_, .ty "tuple", .type "str", .type "tuple", false, rfl, .ty "tuple", .base (.str x), kit_ty (by decide +kernel), q⟩
  | lst h1 h2 => exact call_isi pins s σ H _ us Q I r ⟨_, .ty "tuple", .type "list", .type "tuple", false, rfl, .ty "tuple", tyx_L h1, kit_ty (by decide +kernel), q⟩
  | tup h1 h2 => exact call_isi pins s σ H _ us Q I r ⟨_, .ty "tuple", .type "tuple", .type "tuple", true, rfl, .ty "tuple", tyx_T h1, kit_ty (by decide +kernel), q⟩
theorem oixT {X : Cx} {K : PySem.W.Frag} (hK : X.K = K := by rfl) : IxR X (rIxT K) := by subst hK; exact ix_tup
theorem oixL {X : Cx} {K : PySem.W.Frag} (hK : X.K = K := by rfl) : IxR X (rIxL K) := by subst hK; exact ix_list
theorem olen {X : Cx} {K : PySem.W.Frag} (hK : X.K = K := by rfl) : CallR X (.builtin "len") (fun xs H Q => ∃ p ys, xs = [.ref p] ∧ (SqL K H p ys ∨ SqT K H p ys) ∧ Q (.int (ys.length : Int)) H) := by subst hK; exact call_len_seq
theorem olist {X : Cx} {K : PySem.W.Frag} (hK : X.K = K := by rfl) : CallR X (.type "list") (fun xs H Q => ∃ p ys, xs = [.ref p] ∧ (SqL K H p ys ∨ SqT K H p ys) ∧ ∀ l, H l = none → Q (.ref l) (upd H l (.lst ys))) := by subst hK; exact call_list_of
/-- one + other of two tuples -/
theorem cat_dp {K : PySem.W.Frag} {H : Hp} {p r : Addr} {xs ys : List V} {ds es : List PyData} {Q : VK} (sx : SqT K H p xs) (mx : DpAll K H xs ds) (sy : SqT K H r ys) (my : DpAll K H ys es) (hl : xs.length + ys.length ≤ 100000)
    (q : ∀ z H' zs, Same H H' → SqT K H' z zs → DpAll K H' zs (ds ++ es) → Q (.ref z) H') : rCatA K (.ref p) (.ref r) H Q := by
  have l1 := dpAll_len mx
  have l2 := dpAll_len my
  refine ⟨p, r, xs, ys, rfl, rfl, sx, sy, small (by omega), fun e => ?_, fun _ e => ?_, fun _ _ z nz => ?_⟩
  · have e1 : ds = [] := List.eq_nil_of_length_eq_zero (by rw [← l1, e]; rfl)
    refine q r H ys (Same.refl _) sy ?_
    rw [e1, List.nil_append]
    exact my
  · have e1 : es = [] := List.eq_nil_of_length_eq_zero (by rw [← l2, e]; rfl)
    refine q p H xs (Same.refl _) sx ?_
    rw [e1, List.append_nil]
    exact mx
  · exact q z _ (xs ++ ys) (same_new nz _) (SqT.of upd_same) (dpAll_app (dpAll_same (same_new nz _) mx) (dpAll_same (same_new nz _) my))

/-! ### which data are nests -/
theorem dats_of : ∀ {ds : List PyData}, (∀ d ∈ ds, ∃ n, d = dat n) → ∃ ns : List Nat, ds = ns.map dat
  | [], _ => ⟨[], rfl⟩
  | d :: ds, h => by
    obtain ⟨n, rfl⟩ := h d List.mem_cons_self
    obtain ⟨ns, rfl⟩ := dats_of fun e he => h e (List.mem_cons_of_mem _ he)
    exact ⟨n :: ns, rfl⟩
theorem le_depthAll : ∀ {ds : List PyData} {d : PyData}, d ∈ ds → d.depth ≤ PyData.depthAll ds
  | e :: ds, d, h => by
    rw [PyData.depthAll]
    rcases List.mem_cons.mp h with rfl | h
    · exact Nat.le_max_left _ _
    · exact Nat.le_trans (le_depthAll h) (Nat.le_max_right _ _)
theorem depthAll_of {k : Nat} : ∀ {ds : List PyData}, (∀ d ∈ ds, d.depth ≤ k) → PyData.depthAll ds ≤ k
  | [], _ => by simp [PyData.depthAll]
  | d :: ds, h => by
    rw [PyData.depthAll]
    exact Nat.max_le.mpr ⟨h d List.mem_cons_self, depthAll_of fun e he => h e (List.mem_cons_of_mem _ he)⟩
theorem dep_lt_depth (n : Nat) : dep n < (dat n).depth := by
  induction n using Nat.strongRecOn with
  | ind n ih =>
    rw [dat_eq, PyData.depth]
    have : dep n ≤ PyData.depthAll ((bits n).map dat) := dep_le.mpr fun k hk => Nat.le_trans (ih k (bits_lt hk)) (le_depthAll (List.mem_map_of_mem hk))
    omega
theorem dat_map_inj : ∀ {l m : List Nat}, l.map dat = m.map dat → l = m
  | [], [], _ => rfl
  | [], _ :: _, e => by simp at e
  | _ :: _, [], e => by simp at e
  | a :: l, b :: m, e => by
    rw [List.map_cons, List.map_cons] at e
    injection e with e1 e2
    rw [dat_inj e1, dat_map_inj e2]
theorem tuple_nest {ns : List Nat} : (∃ m, PyData.tuple (ns.map dat) = dat m) ↔ ns.Pairwise (· < ·) := by
  constructor
  · rintro ⟨m, e⟩
    rw [dat_eq] at e
    injection e with e
    rw [dat_map_inj e]
    exact bits_asc m
  · intro h
    exact ⟨mk ns, by rw [dat_eq, bits_mk_asc h]⟩
theorem nest_mem {ds : List PyData} {m : Nat} (e : PyData.tuple ds = dat m) : ∀ d ∈ ds, ∃ n, d = dat n := by
  rw [dat_eq] at e
  injection e with e
  intro d hd
  rw [e] at hd
  obtain ⟨n, _, rfl⟩ := List.mem_map.mp hd
  exact ⟨n, rfl⟩
theorem pairwise_of_adj : ∀ {l : List Nat}, (∀ i, i + 1 < l.length → l.getD i 0 < l.getD (i + 1) 0) → l.Pairwise (· < ·)
  | [], _ => .nil
  | [a], _ => List.pairwise_singleton _ _
  | a :: b :: l, h => by
    have ih : (b :: l).Pairwise (· < ·) := pairwise_of_adj fun i hi => by
      have := h (i + 1) (by simp only [List.length_cons] at hi ⊢; omega)
      simpa using this
    refine List.pairwise_cons.mpr ⟨fun x hx => ?_, ih⟩
    have hab : a < b := by
      have := h 0 (by simp only [List.length_cons]; omega)
      simpa using this
    rcases List.mem_cons.mp hx with rfl | hx
    · exact hab
    · exact Nat.lt_trans hab ((List.pairwise_cons.mp ih).1 x hx)
theorem adj_of_pairwise {l : List Nat} (h : l.Pairwise (· < ·)) : ∀ i, i + 1 < l.length → l.getD i 0 < l.getD (i + 1) 0 := fun i hi => by
  have e1 : l.getD i 0 = l[i]'(by omega) := by simp [List.getD, List.getElem?_eq_getElem (show i < l.length by omega)]
  have e2 : l.getD (i + 1) 0 = l[i + 1] := by simp [List.getD, List.getElem?_eq_getElem hi]
  rw [e1, e2]
  exact List.pairwise_iff_getElem.mp h i (i + 1) (by omega) hi (by omega)
end Nk
namespace Nk
open PySem PySem.Spec PyProof.Rows L2

/-! ### refusals -/
/-- an own class that is raised; S is what the except clause names -/
structure XC (K : PySem.W.Frag) (mg : Str → Option Value) (x : Str) (D S : Addr) : Prop where
  g : mg x = some (.ref D)
  q : PySem.W.excIn K D [.type "ValueError", .type "Exception", .type "BaseException", .type "object"] "ValueError.__new__" = true
  k : PySem.W.keepIn K (.ref D) = true
  s : PySem.W.subIn K (.ref D) (.type "BaseException") = some true
  t : PySem.W.typeIn K (.ref D) = some (.type "type")
  c : ExcC K D
  m : PySem.W.exmOne K (.ref D) (.ref S) = some true
  v : PySem.W.kitOne K (.ref D) (.type "ValueError") = some true
theorem kit_self {K : PySem.W.Frag} {t : Value} : PySem.W.kitOne K t t = some true := by
  unfold PySem.W.kitOne
  rw [if_pos (beq_self_eq_true t)]
section
variable {X : Cx} {K : PySem.W.Frag} {a D : Addr} {oe : Obj} {pn : List (Addr × Obj)} {cls : Value} {d : Option Addr}
/-- isinstance(e, c) of the error that the suite holds -/
def rIsEC (K : PySem.W.Frag) (cls : Value) (d : Option Addr) (D a : Addr) : List V → Hp → VK → Prop := fun xs H Q => cls = .ref D ∧ d = none ∧ rIsE K D a xs H Q
theorem call_isEC (C : ExcC X.K D) (hz : Zc cls d oe) (hf : ∃ vs, oe.data = .fields vs) : CallR (X.suite a ((a, oe) :: pn)) (.builtin "isinstance") (rIsEC X.K cls d D a) := by
  intro pins s σ H xs us Q I r h
  obtain ⟨rfl, rfl, h⟩ := h
  exact call_isE C hz hf pins s σ H xs us Q I r h
/-- isinstance(e, (c, ..)), the tuple just laid -/
def rIsET (K : PySem.W.Frag) (cls : Value) (d : Option Addr) (D a : Addr) : List V → Hp → VK → Prop := fun xs H Q => cls = .ref D ∧ d = none ∧ ∃ (tp : Addr) (cs : List V) (us : List Value) (b : Bool), xs = [.ref a, .ref tp] ∧ H tp = some (.tup cs) ∧ Paired ClsV cs us ∧ PySem.W.kitAny K (.ref D) us = some b ∧ Q (.bl b) H
theorem held_at {h : Heap} {a D : Addr} {oe : Obj} (hz : Zc (.ref D) none oe) (hf : ∃ vs, oe.data = .fields vs) (e : h.get? a = some oe) : PySem.W.InstAt h a oe D none := by
  rcases oe with ⟨_, _, _, _⟩
  rcases hf with ⟨_, hv⟩
  cases hz.1
  cases hz.2
  cases hv
  exact ⟨e, rfl, rfl, trivial⟩
/-- a tuple of classes as it lies -/
theorem classes_at {X : Cx} {pins : List (Addr × Obj)} {σ : L2.St} {H : Hp} {s : Shared} {tp : Addr} {cs : List V} {ws : List Value} (I : Inv X pins σ H s) (hT : H tp = some (.tup cs)) (k : Paired ClsV cs ws) :
    ∃ dd n sl, s.heap.get? tp = some ⟨.type "tuple", dd, .seq ws.toArray n, sl⟩ := by
  rcases I.hok tp _ hT with ⟨_, its, rel, ⟨oc, od, dt, sl⟩, get, isT, n, isS⟩
  rw [ClsV.all k rel] at isS
  cases isT
  cases isS
  exact ⟨od, n, sl, get⟩
theorem call_isET (C : ExcC X.K D) (hz : Zc cls d oe) (hf : ∃ vs, oe.data = .fields vs) : CallR (X.suite a ((a, oe) :: pn)) (.builtin "isinstance") (rIsET X.K cls d D a) := by
  rintro pins s σ H _ us Q I rel ⟨rfl, rfl, tp, cs, ws, b, rfl, hT, k, kit, q⟩
  rcases rel with _ | ⟨e1, _ | ⟨e2, _ | _⟩⟩
  obtain rfl : _ = Value.ref a := e1
  obtain rfl : _ = Value.ref tp := e2
  obtain ⟨_, _, _, get⟩ := classes_at I hT k
  have pin := (I.pin (a, oe) (List.mem_append_left _ List.mem_cons_self)).1
  refine PySem.W.kia_tup (PySem.W.handS_kitx_exc C.hg C.hk C.hs C.hd C.ha C.hn C.ht C.hm) I.kIn (held_at hz hf pin) get kit (fun z => nomatch z) fun tk => ?_
  exact ⟨.bl b, H, I.kept (t' := tk) fun _ _ z => z, rfl, q⟩
end
/-- f(..), f told by an expression, within a try -/
def tCallF (P : Program) (w : World) (K : PySem.W.Frag) (mg : Str → Option Value) (base : Heap) (k : Nat) (W : WX) (tf : TE) (t : TA) : TE := fun σ H Q => tf σ H fun y H1 => ∃ (f : Addr) (fd : FuncData) (ps : List Str) (sp : Sp), y = V.ref f ∧ FnOk P w K mg base (L2.CX P w) k f fd ps sp ∧ PySem.W.keepIn K (.ref f) = true ∧ Binds K fd ps [] ∧
  t σ H1 fun vs H2 => sp vs H2 Q (WE W σ)
theorem pe_callF {X : Cx} {P : Program} {w : World} {K : PySem.W.Frag} {mg : Str → Option Value} {base : Heap} {k : Nat} {W : WX} {fe e : Expr} {es : List Expr} {pos : Pos} {tf : TE} {t : TA} (hf : PE X fe tf) (hr : Room k X.A) (tk : Takes X W) (ha : PA X (e :: es) t)
    (hP : X.prog = P := by rfl) (hw : X.w = w := by rfl) (hK : X.K = K := by rfl) (hm : X.mg = mg := by rfl) (hb : X.base = base := by rfl)
    (ht : eval (.Call fe (e :: es) [] pos) X.env = (do callWith pos (← eval fe X.env) [] (backTo pos (starEach (e :: es) X.env)) (backToKw pos (keywordEach [] X.env))) := by rfl)
    (he : starEach (e :: es) X.env = (false, eval e X.env) :: starEach es X.env := by rfl) (hpl : (backTo pos (starEach es X.env)).any (·.1) = false := by rfl) : PE X (.Call fe (e :: es) [] pos) (tCallF P w K mg base k W tf t) := by
  subst hP hw hK hm hb
  refine ⟨fun pins s σ H Q I h => ?_⟩
  refine Call_ (thn (hf.run pins s σ H _ I h) fun u s1 ⟨y, H1, I1, ry, f, fd, ps, sp, ey, F, hk, hb, q⟩ => ?_) ht
  subst ey
  obtain rfl : u = Value.ref f := ry
  refine PySem.W.callWith_K (h₀ := X.base) I1.ok.mod.kin hk (thn (ha.run pos pins s1 σ H1 _ I1 q) fun us s2 ⟨vs, H2, I2, r, q2⟩ => ⟨I2.kIn, ?_⟩) he hpl
  exact run_fnS (E := fun σ => WE W σ) F hr hb (passAt tk σ) I2 r q2
end Nk
namespace Nk
def pairN (a b : Nat) : Nat := mk [mk [a], mk [a, b]]
theorem mem_pair {a b k : Nat} : k ∈ bits (pairN a b) ↔ k = mk [a] ∨ k = mk [a, b] := by
  unfold pairN
  rw [mem_mk, List.mem_cons, List.mem_singleton]
theorem mem_one {a k : Nat} : k ∈ bits (mk [a]) ↔ k = a := by rw [mem_mk, List.mem_singleton]
theorem mem_two {a b k : Nat} : k ∈ bits (mk [a, b]) ↔ k = a ∨ k = b := by rw [mem_mk, List.mem_cons, List.mem_singleton]
theorem bits_one (a : Nat) : bits (mk [a]) = [a] := bits_mk_asc (List.pairwise_singleton _ _)
theorem one_inj {a b : Nat} (h : mk [a] = mk [b]) : a = b := mem_one.mp (h ▸ mem_one.mpr rfl : a ∈ bits (mk [b]))
theorem one_two {a b c : Nat} (h : mk [a] = mk [b, c]) : b = a ∧ c = a :=
  ⟨mem_one.mp (h ▸ mem_two.mpr (.inl rfl) : b ∈ bits (mk [a])), mem_one.mp (h ▸ mem_two.mpr (.inr rfl) : c ∈ bits (mk [a]))⟩
theorem pair_inj {a b c d : Nat} (h : pairN a b = pairN c d) : a = c ∧ b = d := by
  have h1 : mk [a] ∈ bits (pairN c d) := h ▸ mem_pair.mpr (.inl rfl)
  have h2 : mk [a, b] ∈ bits (pairN c d) := h ▸ mem_pair.mpr (.inr rfl)
  have h4 : mk [c, d] ∈ bits (pairN a b) := h ▸ mem_pair.mpr (.inr rfl)
  have e : a = c := by
    rcases mem_pair.mp h1 with h1 | h1
    · exact one_inj h1
    · exact (one_two h1).1.symm
  subst e
  refine ⟨rfl, ?_⟩
  rcases mem_pair.mp h2 with h2 | h2
  · have hb := (one_two h2.symm).2
    subst hb
    rcases mem_pair.mp h4 with h4 | h4
    · exact (one_two h4.symm).2.symm
    · have : d ∈ bits (mk [b, b]) := h4 ▸ mem_two.mpr (.inr rfl)
      rcases mem_two.mp this with e | e <;> exact e.symm
  · have hb : b ∈ bits (mk [a, d]) := h2 ▸ mem_two.mpr (.inr rfl)
    rcases mem_two.mp hb with e | e
    · subst e
      have hd : d ∈ bits (mk [b, b]) := h2 ▸ mem_two.mpr (.inr rfl)
      rcases mem_two.mp hd with e | e <;> exact e.symm
    · exact e
def IsPair (n : Nat) : Prop := ∃ a b, n = pairN a b
theorem pair_dep {a b d : Nat} (ha : dep a ≤ d) (hb : dep b ≤ d) : dep (pairN a b) ≤ d + 2 := dep_mk fun k hk => by
  rcases List.mem_cons.mp hk with rfl | hk
  · have : dep (mk [a]) ≤ d + 1 := dep_mk fun j hj => by rw [List.mem_singleton.mp hj]; omega
    omega
  · rw [List.mem_singleton.mp hk]
    have : dep (mk [a, b]) ≤ d + 1 := dep_mk fun j hj => by
      rcases List.mem_cons.mp hj with rfl | hj
      · omega
      · rw [List.mem_singleton.mp hj]; omega
    omega
theorem pair_parts_dep {a b n : Nat} (h : n = pairN a b) : dep a + 2 ≤ dep n ∧ dep b + 2 ≤ dep n := by
  subst h
  have h1 := dep_mem (mem_pair.mpr (.inr rfl) : mk [a, b] ∈ bits (pairN a b))
  have h2 := dep_mem (mem_two.mpr (.inl rfl) : a ∈ bits (mk [a, b]))
  have h3 := dep_mem (mem_two.mpr (.inr rfl) : b ∈ bits (mk [a, b]))
  omega
theorem pair_in_joined {a b n : Nat} (h : n = pairN a b) : a ∈ bits (joinN n) ∧ b ∈ bits (joinN n) := by
  subst h
  exact ⟨mem_joinN.mpr ⟨_, mem_pair.mpr (.inl rfl), mem_one.mpr rfl⟩, mem_joinN.mpr ⟨_, mem_pair.mpr (.inr rfl), mem_two.mpr (.inr rfl)⟩⟩
/-- a nest that has the empty one is no pair -/
theorem not_pair_zero {n : Nat} (h : 0 ∈ bits n) : ¬ IsPair n := by
  rintro ⟨a, b, rfl⟩
  rcases mem_pair.mp h with e | e
  · have : a ∈ bits (mk [a]) := mem_one.mpr rfl
    rw [← e, bits_zero] at this
    cases this
  · have : a ∈ bits (mk [a, b]) := mem_two.mpr (.inl rfl)
    rw [← e, bits_zero] at this
    cases this
end Nk
namespace Nk
open PySem PySem.Spec PyProof.Rows L2

/-! ### comprehensions over known values -/
section
variable {α : Type} {K : PySem.W.Frag} {as : List α} {f : α → V} {g : TG} {tt : TT} {te : TE} {vs : List Nat} {σ : L2.St} {H1 : Hp} {D : Addr} {Qd : Hp → Prop} {J : It} {n : Nat} {G : Hp → Prop} {Y : Nat → Hp → V → Hp → Prop}
theorem comp_val (p : α → Bool) (r : α → V) (w : Walk J n G Y) (hn : n = as.length) (hG : ∀ H, Same H1 H → G H) (hY : ∀ i H x H', i < n → Y i H x H' → H' = H ∧ ∃ a, as[i]? = some a ∧ x = f a) (hz : n ≤ sizeLine) (hD : H1 D = none)
    (ht : ∀ (a : α) (H : Hp) (C : V → Hp → Prop) (N : Hp → Prop), a ∈ as → Same H1 H → (p a = true → ∀ H2, Same H H2 → C (r a) H2) → (p a = false → ∀ H2, Same H H2 → N H2) →
      g (f a) (wipe σ vs) H fun σ2 H2 => wipe σ2 vs = wipe σ vs ∧ tt σ2 H2 fun b H3 => if b = true then te σ2 H3 C else N H3)
    (hd : ∀ H, Same H1 H → H D = some (.lst ((as.filter p).map r)) → Qd H) :
    ∃ W : Nat → Nat → Hp → Prop, (∃ m, W 0 m (upd H1 D (.lst []))) ∧ ∀ i m H, W i m H →
      (J.stop i H ∧ Qd H) ∨ (J.go i H ∧ ∃ Nx : Hp → Prop, (∀ H', Nx H' → ∃ m', m' < m ∧ W (i + 1) m' H') ∧ ∀ x H', J.yld i H x H' → g x (wipe σ vs) H' fun σ2 H2 => wipe σ2 vs = wipe σ vs ∧ tt σ2 H2 fun b H3 =>
        if b = true then te σ2 H3 fun y H4 => ∃ acc, H4 D = some (.lst acc) ∧ acc.length < sizeLine ∧ Nx (upd H4 D (.lst (acc ++ [y]))) else Nx H3) := by
  refine lc_it w (Pv := fun i H => Same H1 H ∧ H D = some (.lst (((as.take i).filter p).map r))) ⟨same_new hD _, upd_same⟩ (fun i H _ q => hG H q.1) (fun i x H H' hi q y => ?_) (fun H q => ?_)
  · obtain ⟨gg, hacc⟩ := q
    obtain ⟨rfl, a, ha, rfl⟩ := hY i H x H' hi y
    have et : as.take (i + 1) = as.take i ++ [a] := by rw [List.take_add_one, ha]; rfl
    refine ht a H' _ _ (List.mem_of_getElem? ha) gg (fun hp H2 g2 => ⟨_, g2 _ _ hacc, ?_, same_put (gg.trans g2) hD, ?_⟩) fun hp H2 g2 => ⟨gg.trans g2, ?_⟩
    · have := List.length_filter_le p (as.take i)
      rw [List.length_map]
      rw [List.length_take] at this
      omega
    · rw [upd_same, et, List.filter_append, List.map_append]
      simp [hp]
    · rw [et, List.filter_append]
      simp only [List.filter_cons, hp, Bool.false_eq_true, if_false, List.filter_nil, List.append_nil]
      exact g2 _ _ hacc
  · obtain ⟨gg, hacc⟩ := q
    rw [hn, List.take_length] at hacc
    exact hd H gg hacc
theorem comp_na (r : α → Nat) (w : Walk J n G Y) (hn : n = as.length) (hG : ∀ H, Same H1 H → G H) (hY : ∀ i H x H', i < n → Y i H x H' → H' = H ∧ ∃ a, as[i]? = some a ∧ x = f a) (hz : n ≤ sizeLine) (hD : H1 D = none)
    (ht : ∀ (a : α) (H : Hp) (C : V → Hp → Prop), a ∈ as → Same H1 H → (∀ v H2, Same H H2 → Na K H2 v (r a) → C v H2) → g (f a) (wipe σ vs) H fun σ2 H2 => wipe σ2 vs = wipe σ vs ∧ te σ2 H2 C)
    (hd : ∀ H acc, Same H1 H → H D = some (.lst acc) → NaAll K H acc (as.map r) → Qd H) :
    ∃ W : Nat → Nat → Hp → Prop, (∃ m, W 0 m (upd H1 D (.lst []))) ∧ ∀ i m H, W i m H →
      (J.stop i H ∧ Qd H) ∨ (J.go i H ∧ ∃ Nx : Hp → Prop, (∀ H', Nx H' → ∃ m', m' < m ∧ W (i + 1) m' H') ∧ ∀ x H', J.yld i H x H' → g x (wipe σ vs) H' fun σ2 H2 => wipe σ2 vs = wipe σ vs ∧ tYes σ2 H2 fun b H3 =>
        if b = true then te σ2 H3 fun y H4 => ∃ acc, H4 D = some (.lst acc) ∧ acc.length < sizeLine ∧ Nx (upd H4 D (.lst (acc ++ [y]))) else Nx H3) := by
  refine lc_it w (Pv := fun i H => Same H1 H ∧ ∃ acc, H D = some (.lst acc) ∧ acc.length = i ∧ NaAll K H acc ((as.take i).map r)) ⟨same_new hD _, [], upd_same, rfl, .nil⟩ (fun i H _ q => hG H q.1) (fun i x H H' hi q y => ?_) (fun H q => ?_)
  · obtain ⟨gg, acc, hacc, la, ma⟩ := q
    obtain ⟨rfl, a, ha, rfl⟩ := hY i H x H' hi y
    refine ht a H' _ (List.mem_of_getElem? ha) gg fun v H2 g2 hv => ⟨acc, g2 _ _ hacc, by omega, same_put (gg.trans g2) hD, acc ++ [v], upd_same, by rw [List.length_append, la]; rfl, ?_⟩
    have et : as.take (i + 1) = as.take i ++ [a] := by rw [List.take_add_one, ha]; rfl
    rw [et, List.map_append]
    exact (NaAll.cat (NaAll.same ma g2) (.cons hv .nil)).grow (Grow.lst (g2 _ _ hacc))
  · obtain ⟨gg, acc, hacc, la, ma⟩ := q
    rw [hn, List.take_length] at ma
    exact hd H acc gg hacc ma
end
theorem y_at {α : Type} {n : Nat} {as : List α} {f : α → V} : ∀ i H x H', i < n → YAt (as.map f) i H x H' → H' = H ∧ ∃ a, as[i]? = some a ∧ x = f a := fun i H x H' _ y => by
  refine ⟨y.1, ?_⟩
  have h := y.2
  rw [List.getElem?_map] at h
  cases e : as[i]? with
  | none => rw [e] at h; cases h
  | some a =>
    rw [e] at h
    exact ⟨a, rfl, (Option.some.inj h).symm⟩
theorem y_fn {n : Nat} {f : Nat → V} : ∀ i H x H', i < n → YFn f i H x H' → H' = H ∧ ∃ a, (List.range n)[i]? = some a ∧ x = f a := fun i H x H' hi y => ⟨y.1, i, List.getElem?_range hi, y.2⟩
/-! ### comprehensions over nests -/
section
variable {α : Type} {K : PySem.W.Frag} {as : List α} {f : α → V} {g : TG} {tt : TT} {te : TE} {vs : List Nat} {σ : L2.St} {H1 : Hp} {D : Addr} {Qd : Hp → Prop} {J : It} {n : Nat} {G : Hp → Prop} {Y : Nat → Hp → V → Hp → Prop}
theorem comp_naF (p : α → Bool) (r : α → Nat) (w : Walk J n G Y) (hn : n = as.length) (hG : ∀ H, Same H1 H → G H) (hY : ∀ i H x H', i < n → Y i H x H' → H' = H ∧ ∃ a, as[i]? = some a ∧ x = f a) (hz : n ≤ sizeLine) (hD : H1 D = none)
    (ht : ∀ (a : α) (H : Hp) (C : V → Hp → Prop) (N : Hp → Prop), a ∈ as → Same H1 H → (p a = true → ∀ v H2, Same H H2 → Na K H2 v (r a) → C v H2) → (p a = false → ∀ H2, Same H H2 → N H2) →
      g (f a) (wipe σ vs) H fun σ2 H2 => wipe σ2 vs = wipe σ vs ∧ tt σ2 H2 fun b H3 => if b = true then te σ2 H3 C else N H3)
    (hd : ∀ H acc, Same H1 H → H D = some (.lst acc) → NaAll K H acc ((as.filter p).map r) → Qd H) :
    ∃ W : Nat → Nat → Hp → Prop, (∃ m, W 0 m (upd H1 D (.lst []))) ∧ ∀ i m H, W i m H →
      (J.stop i H ∧ Qd H) ∨ (J.go i H ∧ ∃ Nx : Hp → Prop, (∀ H', Nx H' → ∃ m', m' < m ∧ W (i + 1) m' H') ∧ ∀ x H', J.yld i H x H' → g x (wipe σ vs) H' fun σ2 H2 => wipe σ2 vs = wipe σ vs ∧ tt σ2 H2 fun b H3 =>
        if b = true then te σ2 H3 fun y H4 => ∃ acc, H4 D = some (.lst acc) ∧ acc.length < sizeLine ∧ Nx (upd H4 D (.lst (acc ++ [y]))) else Nx H3) := by
  refine lc_it w (Pv := fun i H => Same H1 H ∧ ∃ acc, H D = some (.lst acc) ∧ acc.length ≤ i ∧ NaAll K H acc (((as.take i).filter p).map r)) ⟨same_new hD _, [], upd_same, Nat.le_refl _, .nil⟩ (fun i H _ q => hG H q.1) (fun i x H H' hi q y => ?_) (fun H q => ?_)
  · obtain ⟨gg, acc, hacc, la, ma⟩ := q
    obtain ⟨rfl, a, ha, rfl⟩ := hY i H x H' hi y
    have et : as.take (i + 1) = as.take i ++ [a] := by
      rw [List.take_add_one, ha]
      rfl
    refine ht a H' _ _ (List.mem_of_getElem? ha) gg (fun hp v H2 g2 hv => ⟨acc, g2 _ _ hacc, by omega, same_put (gg.trans g2) hD, acc ++ [v], upd_same, by rw [List.length_append, List.length_singleton]; omega, ?_⟩) fun hp H2 g2 => ⟨gg.trans g2, acc, g2 _ _ hacc, by omega, ?_⟩
    · rw [et, List.filter_append, List.map_append, List.filter_cons_of_pos hp, List.filter_nil]
      exact (NaAll.cat (NaAll.same ma g2) (.cons hv .nil)).grow (Grow.lst (g2 _ _ hacc))
    · rw [et, List.filter_append, List.filter_cons_of_neg (by rw [hp]; exact Bool.false_ne_true), List.filter_nil, List.append_nil]
      exact NaAll.same ma g2
  · obtain ⟨gg, acc, hacc, la, ma⟩ := q
    rw [hn, List.take_length] at ma
    exact hd H acc gg hacc ma
theorem maps_val {xs : List V} {ns : List Nat} (w : Walk J xs.length G (YAt xs)) (hG : ∀ H, Same H1 H → G H) (f : Nat → V) (hx : NaAll K H1 xs ns) (hz : xs.length ≤ sizeLine) (hD : H1 D = none)
    (ht : ∀ (x : V) (k : Nat) (H : Hp) (C : V → Hp → Prop), Na K H x k → k ∈ ns → Same H1 H → (∀ H2, Same H H2 → C (f k) H2) → g x (wipe σ vs) H fun σ2 H2 => wipe σ2 vs = wipe σ vs ∧ te σ2 H2 C)
    (hd : ∀ H, Same H1 H → H D = some (.lst (ns.map f)) → Qd H) :
    ∃ W : Nat → Nat → Hp → Prop, (∃ m, W 0 m (upd H1 D (.lst []))) ∧ ∀ i m H, W i m H →
      (J.stop i H ∧ Qd H) ∨ (J.go i H ∧ ∃ Nx : Hp → Prop, (∀ H', Nx H' → ∃ m', m' < m ∧ W (i + 1) m' H') ∧ ∀ x H', J.yld i H x H' → g x (wipe σ vs) H' fun σ2 H2 => wipe σ2 vs = wipe σ vs ∧ tYes σ2 H2 fun b H3 =>
        if b = true then te σ2 H3 fun y H4 => ∃ acc, H4 D = some (.lst acc) ∧ acc.length < sizeLine ∧ Nx (upd H4 D (.lst (acc ++ [y]))) else Nx H3) := by
  have len := NaAll.ln hx
  refine lc_it w (Pv := fun i H => Same H1 H ∧ H D = some (.lst ((ns.take i).map f))) ⟨same_new hD _, upd_same⟩ (fun i H _ q => hG H q.1) (fun i x H H' hi q y => ?_) (fun H q => hd H q.1 (by have h := q.2; rwa [len, List.take_length] at h))
  obtain ⟨gg, hacc⟩ := q
  obtain ⟨rfl, hxi⟩ := y
  obtain ⟨k, hk, mem, tp⟩ := NaAll.at hx hxi
  refine ht x k H' _ (tp.same gg) mem gg fun H2 g2 => ⟨_, g2 _ _ hacc, by rw [List.length_map, List.length_take]; omega, same_put (gg.trans g2) hD, ?_⟩
  rw [upd_same, List.take_add_one, hk, List.map_append]
  rfl
end
end Nk
namespace Nk
open PySem PySem.Spec PyProof.Rows L2

/-! ### tuples all the way down: what a set asks of them -/
/-- at most so many levels of tuples, nothing else -/
def tupd : Nat → NestedKey → Bool
  | n + 1, .tup ks => ks.all (tupd n)
  | _, _ => false
theorem tupd_nest : ∀ (d n : Nat), dep n < d → tupd d (nk n) = true
  | 0, _, h => absurd h (Nat.not_lt_zero _)
  | d + 1, n, h => by
    rw [nk_eq, tupd, List.all_eq_true]
    intro x hx
    obtain ⟨k, hk, rfl⟩ := List.mem_map.mp hx
    exact tupd_nest d k (by have := dep_mem hk; omega)
theorem nested_items {h : Heap} : ∀ {ks : List NestedKey} {vs : List Value}, NestedAll h ks vs → ∀ v ∈ vs, ∃ k ∈ ks, NestedIs h k v
  | _, [], _, v, hv => by cases hv
  | [], _ :: _, r, _, _ => by cases r
  | k :: ks, u :: vs, r, v, hv => by
    cases r with
    | cons r1 r2 =>
      rcases List.mem_cons.mp hv with rfl | hv
      · exact ⟨k, List.mem_cons_self, r1⟩
      · obtain ⟨k', hk, rd⟩ := nested_items r2 v hv
        exact ⟨k', List.mem_cons_of_mem _ hk, rd⟩
section
variable {P : Program} {w : World} {A : Around} {E : Value → Shared → Prop} {s : Shared}
/-- a tuple's items, each of which is a tuple of one level less -/
theorem tupd_open {m : Nat} {k : NestedKey} {v : Value} (t : tupd (m + 1) k = true) (r : NestedIs s.heap k v) : ∃ a o items n, v = .ref a ∧ s.heap.get? a = some o ∧ o.cls = .type "tuple" ∧ o.data = .seq items n ∧ ∀ x ∈ items.toList, ∃ k', tupd m k' = true ∧ NestedIs s.heap k' x := by
  cases r with
  | tup h1 h2 h3 h4 =>
    rw [tupd, List.all_eq_true] at t
    refine ⟨_, _, _, _, rfl, h1, h2, h3, fun x hx => ?_⟩
    obtain ⟨k', hk, rd⟩ := nested_items h4 x hx
    exact ⟨k', t k' hk, rd⟩
  | _ => cases t
/-- a walk over items that never ends early -/
theorem walk_list_on {f : Value → Option Bool × Unit → Sem (ForInStep (Option Bool × Unit))} {l : List Value} {Q : Option Bool × Unit → Shared → Prop} (step : ∀ v ∈ l, ∀ Q : ForInStep (Option Bool × Unit) → Shared → Prop, Q (.yield (none, ())) s → wpAny (model P w) A (f v (none, ())) Q E s) (q : Q (none, ()) s) : wpAny (model P w) A (forIn l (none, ()) f) Q E s := by
  refine wpAny_forIn_list f (fun rest b t => b = (none, ()) ∧ t = s ∧ ∀ v ∈ rest, v ∈ l) Q ?_ ?_ _ _ ⟨rfl, rfl, fun v hv => hv⟩
  · rintro x rest b t ⟨rfl, rfl, all⟩
    exact step x (all x List.mem_cons_self) _ ⟨rfl, rfl, fun v hv => all v (List.mem_cons_of_mem _ hv)⟩
  · rintro b t ⟨rfl, rfl, _⟩
    exact q
theorem walk_on {f : Value → Option Bool × Unit → Sem (ForInStep (Option Bool × Unit))} {items : Array Value} {Q : Option Bool × Unit → Shared → Prop} (step : ∀ v ∈ items.toList, ∀ Q : ForInStep (Option Bool × Unit) → Shared → Prop, Q (.yield (none, ())) s → wpAny (model P w) A (f v (none, ())) Q E s) (q : Q (none, ()) s) : wpAny (model P w) A (forIn items (none, ()) f) Q E s := by
  rw [← Array.forIn_toList]
  exact walk_list_on step q
/-- such a tuple's hash hangs on its value alone -/
theorem by_value : ∀ (m fuel : Nat) (d : NestedKey) (v : Value), tupd m d = true → m ≤ fuel → NestedIs s.heap d v → Tells (model P w) A E s (hashByValue fuel v) (· = true)
  | 0, _, d, _, t, _, _ => by
    rw [tupd] at t
    · cases t
    · intro n ds h
      cases h
  | m + 1, 0, _, _, _, z, _ => absurd z (Nat.not_succ_le_zero m)
  | m + 1, fuel + 1, d, v, t, z, r => by
    intro Q q
    obtain ⟨a, o, items, k, rfl, h1, h2, h3, each⟩ := tupd_open t r
    have kind : s.TypeIs (.ref a) "tuple" := ⟨o, h1, h2⟩
    unfold hashByValue
    refine wpAny_bind (wpAny_specialOf kind F.slot_tuple_hash.lookup ?_)
    show wpAny _ _ (seqItems? (.ref a) >>= _) _ _ s
    refine wpAny_bind (wpAny_seqItems h1 h3 (wpAny_bind (walk_on (fun x hx Q' q' => ?_) ?_)))
    · obtain ⟨d', t', r'⟩ := each x hx
      refine wpAny_bind (by_value m fuel d' x t' (by omega) r' _ fun y ey => ?_)
      rw [ey]
      exact wpAny_pure q'
    · exact wpAny_pure (q _ rfl)
/-- nothing in such a tuple is of a class of the program's -/
theorem no_class : ∀ (m depth : Nat) (d : NestedKey) (v : Value), tupd m d = true → m ≤ depth → NestedIs s.heap d v → Tells (model P w) A E s (ofAClassStatement depth v) (· = false)
  | 0, _, d, _, t, _, _ => by
    rw [tupd] at t
    · cases t
    · intro n ds h
      cases h
  | m + 1, 0, _, _, _, z, _ => absurd z (Nat.not_succ_le_zero m)
  | m + 1, depth + 1, d, v, t, z, r => by
    intro Q q
    obtain ⟨a, o, items, k, rfl, h1, h2, h3, each⟩ := tupd_open t r
    have kind : s.TypeIs (.ref a) "tuple" := ⟨o, h1, h2⟩
    have under : (("tuple" : String) == "tuple") = true := by decide
    unfold ofAClassStatement
    refine wpAny_bind (wpAny_typeOf kind ?_)
    dsimp only
    rw [under]
    refine wpAny_bind (wpAny_pure ?_)
    show wpAny _ _ (seqItems? (.ref a) >>= _) _ _ s
    refine wpAny_bind (wpAny_seqItems h1 h3 (wpAny_bind (walk_on (fun x hx Q' q' => ?_) ?_)))
    · obtain ⟨d', t', r'⟩ := each x hx
      refine wpAny_bind (no_class m depth d' x t' (by omega) r' _ fun y ey => ?_)
      rw [ey]
      exact wpAny_pure q'
    · exact wpAny_pure (q _ rfl)
end
end Nk
namespace Nk
open PySem PySem.Spec PyProof.Rows L2

/-! ### the way through a table, from any step on -/
abbrev spot (t : SetTable) (h : Int) (c : Nat) : SetTable.Probe := nth t.mask (runAt t.mask (SetTable.bits h % (t.mask + 1)) (SetTable.bits h)) c
theorem nth_dummy (m : Nat) : ∀ (n : Nat) (p : SetTable.Probe), p.dummy = none → (nth m p n).dummy = none
  | 0, _, h => h
  | n + 1, p, h => nth_dummy m n (adv m p) (by unfold adv; split <;> exact h)
theorem spot_far (t : SetTable) (h : Int) (c q : Nat) : nth t.mask (spot t h c) q = spot t h (c + q) := (nth_add t.mask c _ q).symm
/-- what a probe that begins at the step c finds -/
theorem probe_at {t : SetTable} {hs : List Int} (T : TabOk t hs) (f : Nat → Int) (h : Int) {c K : Nat} (less : c ≤ K) (lim : K < 10 * SetTable.turns t.mask) (full : ∀ q, q < K → way t.mask h q ∈ t.place.toList) (gap : way t.mask h K ∉ t.place.toList) :
    (∃ q i, c ≤ q ∧ q < K ∧ t.place.toList[i]? = some (way t.mask h q) ∧ f i = h ∧ (∀ q' i', c ≤ q' → q' < q → t.place.toList[i']? = some (way t.mask h q') → f i' ≠ h) ∧ t.probe f h (spot t h c) = some (.candidate (way t.mask h q) i (spot t h (q + 1)))) ∨
    ((∀ q' i', c ≤ q' → q' < K → t.place.toList[i']? = some (way t.mask h q') → f i' ≠ h) ∧ t.probe f h (spot t h c) = some (.empty (way t.mask h K) none)) := by
  obtain ⟨n, rfl⟩ : ∃ n, K = c + n := ⟨K - c, by omega⟩
  have sh : ∀ q, (nth t.mask (spot t h c) q).j = way t.mask h (c + q) := fun q => congrArg SetTable.Probe.j (spot_far t h c q)
  have found := go_spec t T.ris T.dm f h (10 * SetTable.turns t.mask) n (spot t h c) (nth_dummy _ _ _ rfl) (by omega) (fun q hq => by rw [sh]; exact full _ (by omega)) (by rw [sh]; exact gap)
  have back : ∀ {q'}, c ≤ q' → c + (q' - c) = q' := fun z => by omega
  rcases found with ⟨q, i, hq, at_, eh, no, e⟩ | ⟨no, e⟩
  · rw [sh] at at_
    rw [sh, spot_far] at e
    refine .inl ⟨c + q, i, by omega, by omega, at_, eh, fun q' i' z1 z2 z3 => no (q' - c) i' (by omega) ?_, e⟩
    rw [sh, back z1]
    exact z3
  · rw [sh] at e
    refine .inr ⟨fun q' i' z1 z2 z3 => no (q' - c) i' (by omega) ?_, e⟩
    rw [sh, back z1]
    exact z3
/-! ### a set of nested tuples -/
/-- the tuple at x has the key k -/
def KeyAt (h : Heap) (k : NestedKey) (x : Addr) : Prop := (NestedIs h k (.ref x) ∧ k.depth ≤ 8) ∧ tupd 8 k = true
theorem KeyAt.stay {h h' : Heap} {k : NestedKey} {x : Addr} (a : KeyAt h k x) (keep : ∀ b o vs n, h.get? b = some o → o.data = .seq vs n → h'.get? b = some o) : KeyAt h' k x := ⟨⟨NestedIs.at keep _ _ a.1.1, a.1.2⟩, a.2⟩
theorem KeyAt.aside {h h' : Heap} {k : NestedKey} {x S : Addr} {o : Obj} {es : Array (Int × Value)} {ep : Nat} {t : SetTable} (a : KeyAt h k x) (at_ : h.get? S = some o) (isS : o.data = .set es ep t) (but : Heap.SameBut S h h') : KeyAt h' k x :=
  a.stay fun b ob vs n hb hd => (but.2 b (fun z => by rw [z, at_] at hb; rw [← Option.some.inj hb, isS] at hd; cases hd)).trans hb
abbrev row (w : World) (p : NestedKey × Addr) : Int × Value := (p.1.hash w, .ref p.2)
structure NSet (P : Program) (w : World) (h : Heap) (S : Addr) (L : List (NestedKey × Addr)) (es : Array (Int × Value)) (ep : Nat) (t : SetTable) : Prop where
  obj : ∃ o, h.get? S = some o ∧ o.ExactSet ∧ o.data = .set es ep t
  rows : es.toList = L.map (row w)
  tab : TabOk t (L.map fun p => p.1.hash w)
  nd : (L.map (·.1)).Nodup
  keys : ∀ p ∈ L, KeyAt h p.1 p.2
  plain : t.plain = true
  led : w.params.followText "set-order" = true ∨ t.led = true
  room : L.length * 5 < t.mask * 3
section
variable {P : Program} {w : World} {A : Around} {E : Value → Shared → Prop} {s : Shared} {S : Addr} {L : List (NestedKey × Addr)} {es : Array (Int × Value)} {ep : Nat} {t : SetTable}
theorem NSet.size {h : Heap} (R : NSet P w h S L es ep t) : es.size = L.length := by
  rw [← Array.length_toList, R.rows, List.length_map]
theorem NSet.fits {h : Heap} (R : NSet P w h S L es ep t) : t.fits es.size = true := by
  have a := R.tab.sz
  have b := R.room
  rw [List.length_map] at a
  simp only [SetTable.fits, SetTable.fill, R.tab.dm, R.size, Bool.and_eq_true, beq_iff_eq, decide_eq_true_eq]
  refine ⟨a, ?_⟩
  show t.place.size + 0 ≤ t.mask
  omega
theorem NSet.at_ {h : Heap} (R : NSet P w h S L es ep t) {i : Nat} {p : NestedKey × Addr} (e : L[i]? = some p) : es[i]? = some (row w p) := by
  rw [← Array.getElem?_toList, R.rows, List.getElem?_map, e]
  rfl
theorem NSet.whole {h : Heap} (R : NSet P w h S L es ep t) : ¬ t.gaveWay = true := by
  simp only [SetTable.gaveWay, mask_odd R.tab.mok]
  decide
/-- a search among such tuples shows nothing -/
theorem unseen {k : NestedKey} {x : Addr} (hx : KeyAt s.heap k x) {ys : List Value} (all : ∀ y ∈ ys, ∃ k' z, y = .ref z ∧ KeyAt s.heap k' z) {Q : Bool → Shared → Prop} (q : Q false s) : wpAny (model P w) A (searchCouldBeSeen (.ref x) ys) Q E s := by
  unfold searchCouldBeSeen
  refine wpAny_bind (walk_list_on (fun y hy Q' q' => ?_) (wpAny_pure q))
  obtain ⟨k', z, rfl, hz⟩ := all y hy
  dsimp only
  split
  · exact wpAny_pure q'
  · refine wpAny_bind ((nestedKind P w).quiet hx.1 (wp_if_neg (by decide) (wpAny_bind ((nestedKind P w).quiet hz.1 (wp_if_neg (by decide) ?_)))))
    refine wpAny_bind (no_class 8 8 _ _ hx.2 (Nat.le_refl _) hx.1.1 _ fun b eb => ?_)
    subst eb
    refine wp_if_neg (by decide) (wpAny_bind (no_class 8 8 _ _ hz.2 (Nat.le_refl _) hz.1.1 _ fun b eb => ?_))
    subst eb
    exact wp_if_neg (by decide) (wpAny_pure q')
/-- the search for k, no entry of which has been passed -/
theorem seek (R : NSet P w s.heap S L es ep t) {k : NestedKey} {x : Addr} (hx : KeyAt s.heap k x) (deep : A.units + 8 < cLine) {K : Nat} (lim : K < 10 * SetTable.turns t.mask) (gap : way t.mask (k.hash w) K ∉ t.place.toList) (full : ∀ q, q < K → way t.mask (k.hash w) q ∈ t.place.toList)
    {Q : SetFound → Shared → Prop} (yes : k ∈ L.map (·.1) → Q (.there none) s) (no : k ∉ L.map (·.1) → Q (.free (way t.mask (k.hash w) K) false) s) :
    ∀ (n c f : Nat) (st : Option SetTable.Probe), K = c + n → n < f → st.getD (t.probeStart (k.hash w)) = spot t (k.hash w) c → (∀ (i : Nat) (p : NestedKey × Addr), L[i]? = some p → p.1 = k → ∃ q, c ≤ q ∧ q < K ∧ t.place.toList[i]? = some (way t.mask (k.hash w) q)) →
      wpAny (model P w) A (setSearchFrom S (.ref x) (k.hash w) true f st) Q E s := by
  intro n
  induction n using Nat.strongRecOn with
  | ind n ih =>
    intro c f st en nf est ahead
    obtain ⟨g, rfl⟩ : ∃ g, f = g + 1 := ⟨f - 1, by omega⟩
    obtain ⟨o, at_, _, isS⟩ := R.obj
    rw [setSearchFrom_succ]
    refine wpAny_bind (wpAny_setState_of at_ isS R.fits (wp_if_neg R.whole ?_))
    have hashes : ∀ (i : Nat) (p : NestedKey × Addr), L[i]? = some p → (fun i => (es[i]?.map (·.1)).getD 0) i = p.1.hash w := fun i p hp => by
      show (es[i]?.map (·.1)).getD 0 = _
      rw [R.at_ hp]
      rfl
    have len : t.place.toList.length = L.length := by
      have := R.tab.sz
      rw [List.length_map] at this
      rw [Array.length_toList, this]
    rw [est]
    rcases probe_at R.tab (fun i => (es[i]?.map (·.1)).getD 0) (k.hash w) (c := c) (K := K) (by omega) lim full gap with ⟨q, i, h1, h2, at2, eh, before, e⟩ | ⟨none_, e⟩
    · rw [e]
      have less : i < L.length := len ▸ (List.getElem?_eq_some_iff.mp at2).1
      obtain ⟨p, hp⟩ : ∃ p, L[i]? = some p := ⟨_, List.getElem?_eq_getElem less⟩
      have mem := List.mem_of_getElem? hp
      have live : t.slot (way t.mask (k.hash w) q) = .live i := slot_live R.tab.ris at2
      have ask : wpAny (model P w) A (searchRest S (.ref x) (k.hash w) true g es t (way t.mask (k.hash w) q) i (spot t (k.hash w) (q + 1))) Q E s := by
        unfold searchRest
        rw [R.at_ hp]
        refine wpAny_bind (wpAny_holding ((nestedKind P w).eqBool deep (R.keys p mem).1 hx.1 (wpAny_bind (wpAny_setState_of at_ isS R.fits ?_))))
        by_cases eq : p.1 = k
        · rw [decide_eq_true eq]
          exact wp_if_pos (by decide) (wpAny_pure (yes (List.mem_map.mpr ⟨p, mem, eq⟩)))
        · rw [decide_eq_false eq]
          refine wp_if_neg (by decide) ?_
          rw [sameMem]
          dsimp only
          simp only [if_true, live, R.at_ hp]
          refine wpAny_bind (wpAny_isSame_ref_self (wpAny_bind (wpAny_pure ?_)))
          refine wp_if_neg (by decide) (ih (K - (q + 1)) (by omega) (q + 1) g _ (by omega) (by omega) rfl fun i2 p2 hp2 e2 => ?_)
          obtain ⟨q2, a1, a2, a3⟩ := ahead i2 p2 hp2 e2
          refine ⟨q2, Nat.lt_of_le_of_ne (Nat.le_of_not_lt fun z => ?_) fun z => ?_, a2, a3⟩
          · exact before q2 i2 a1 z a3 ((hashes i2 p2 hp2).trans (congrArg (NestedKey.hash w) e2))
          · rw [← z] at a3
            have both := (slot_live R.tab.ris a3).symm.trans live
            injection both with both
            rw [both, hp] at hp2
            exact eq (Option.some.inj hp2 ▸ e2)
      by_cases lit : t.led = true
      · exact wp_if_neg (by rw [lit]; decide) ask
      · refine wp_if_pos (by simp [lit]) (wpAny_bind (unseen hx (fun y hy => ?_) (wp_if_neg (by decide) ask)))
        obtain ⟨en, hen, rfl⟩ := List.mem_map.mp hy
        have inn : en ∈ es.toList := by
          have both : en ∈ es ∧ en.1 = k.hash w := by simpa using hen
          exact Array.mem_toList_iff.mpr both.1
        rw [R.rows] at inn
        obtain ⟨p2, hp2, rfl⟩ := List.mem_map.mp inn
        exact ⟨p2.1, p2.2, rfl, R.keys p2 hp2⟩
    · rw [e]
      refine wpAny_pure (no fun mem => ?_)
      obtain ⟨p, hp, ek⟩ := List.mem_map.mp mem
      obtain ⟨i, hi⟩ := List.getElem?_of_mem hp
      obtain ⟨q, a1, a2, a3⟩ := ahead i p hi ek
      exact none_ q i a1 a2 a3 ((hashes i p hi).trans (congrArg (NestedKey.hash w) ek))
theorem seek_all (R : NSet P w s.heap S L es ep t) {k : NestedKey} {x : Addr} (hx : KeyAt s.heap k x) (deep : A.units + 8 < cLine) {Q : SetFound → Shared → Prop} (yes : k ∈ L.map (·.1) → Q (.there none) s)
    (no : ∀ K, k ∉ L.map (·.1) → way t.mask (k.hash w) K ∉ t.place.toList → (∀ q, q < K → way t.mask (k.hash w) q ∈ t.place.toList) → Q (.free (way t.mask (k.hash w) K) false) s) : wpAny (model P w) A (setSearch S (.ref x) (k.hash w) true) Q E s := by
  obtain ⟨K, lim, gap, full⟩ := R.tab.first (by have := R.room; rw [List.length_map]; omega) (k.hash w)
  have few : K < 100000 := by
    refine Nat.lt_trans lim ?_
    unfold SetTable.turns
    rcases R.tab.mok with e | e | e <;> rw [e] <;> decide
  refine seek R hx deep lim gap full yes (fun z => no K z gap full) K 0 100000 none (Nat.zero_add K).symm few rfl fun i p hp ek => ?_
  have eh : (L.map fun p => p.1.hash w)[i]? = some (k.hash w) := by
    rw [List.getElem?_map, hp]
    exact congrArg (fun k => some (NestedKey.hash w k)) ek
  have less : i < t.place.toList.length := by
    have a := (List.getElem?_eq_some_iff.mp hp).1
    have b := R.tab.sz
    rw [List.length_map] at b
    rw [Array.length_toList, b]
    exact a
  obtain ⟨q, hq, eq⟩ := R.tab.before gap eh (List.getElem?_eq_getElem less)
  exact ⟨q, Nat.zero_le _, hq, (List.getElem?_eq_getElem less).trans (congrArg some eq.symm)⟩
end
end Nk
namespace Nk
open PySem PySem.Spec PyProof.Rows L2

/-! ### items in another order -/
theorem range_some {α : Type} (L : List α) : (List.range L.length).map (fun i => L[i]?) = L.map some := by
  refine List.ext_getElem (by simp) fun i h1 h2 => ?_
  rw [List.length_map, List.length_range] at h1
  simp
theorem pick_range {α : Type} (L : List α) : (List.range L.length).filterMap (fun i => L[i]?) = L := by
  have e : (List.range L.length).filterMap (fun i => L[i]?) = ((List.range L.length).map fun i => L[i]?).filterMap id := by rw [List.filterMap_map]; rfl
  rw [e, range_some, List.filterMap_map]
  simp
theorem pick_same {α β : Type} {f g : α → Option β} : ∀ {l : List α}, (∀ i ∈ l, f i = g i) → l.filterMap f = l.filterMap g
  | [], _ => rfl
  | a :: l, h => by
    rw [List.filterMap_cons, List.filterMap_cons, h a List.mem_cons_self, pick_same fun i hi => h i (List.mem_cons_of_mem _ hi)]
theorem turned {α β : Type} {L : List α} {es : Array β} {f : α → β} (rows : es.toList = L.map f) {l : List Nat} (pm : l.Perm (List.range L.length)) : ∃ L2 : List α, L2.Perm L ∧ l.filterMap (fun i => es[i]?) = L2.map f ∧ ∀ (g : β → Int), l.map (fun i => ((es.map g).getD i 0)) = L2.map fun p => g (f p) := by
  have at_ : ∀ i, es[i]? = (L[i]?).map f := fun i => by rw [← Array.getElem?_toList, rows, List.getElem?_map]
  refine ⟨l.filterMap fun i => L[i]?, ?_, ?_, fun g => ?_⟩
  · have := pm.filterMap fun i => L[i]?
    rwa [pick_range] at this
  · rw [List.map_filterMap]
    exact pick_same fun i _ => at_ i
  · rw [List.map_filterMap, ← List.filterMap_eq_map]
    refine pick_same fun i hi => ?_
    have less := List.mem_range.mp (pm.mem_iff.mp hi)
    rw [List.getElem?_eq_getElem less]
    have e : (es.map g)[i]? = some (g (f L[i])) := by
      rw [Array.getElem?_map, at_, List.getElem?_eq_getElem less]
      rfl
    refine congrArg some ?_
    dsimp only
    rw [Array.getD_eq_getD_getElem?, e]
    rfl
section
variable {P : Program} {w : World} {A : Around} {E : Value → Shared → Prop} {s : Shared} {S : Addr} {L : List (NestedKey × Addr)} {es : Array (Int × Value)} {ep : Nat} {t : SetTable}
/-- five of them: the table is laid anew -/
theorem relay5 {o : Obj} (at_ : s.heap.get? S = some o) (ex : o.ExactSet) (isS : o.data = .set es ep t) (rows : es.toList = L.map (row w)) (five : L.length = 5) (sz : t.place.size = es.size) (dm : t.dummies = #[]) (mask : es.size ≤ t.mask) (nd : (L.map (·.1)).Nodup) (keys : ∀ p ∈ L, KeyAt s.heap p.1 p.2)
    (plain : t.plain = true) (led : w.params.followText "set-order" = true ∨ t.led = true) {Q : Unit → Shared → Prop} (q : ∀ h' L' es' ep' t', Heap.SameBut S s.heap h' → NSet P w h' S L' es' ep' t' → L'.Perm L → Q () { s with heap := h' }) : wpAny (model P w) A (setRelay S (SetTable.grown 5)) Q E s := by
  have size : es.size = 5 := by rw [← Array.length_toList, rows, List.length_map, five]
  have fits : t.fits es.size = true := by
    simp only [SetTable.fits, SetTable.fill, dm, Bool.and_eq_true, beq_iff_eq, decide_eq_true_eq]
    refine ⟨sz, ?_⟩
    show t.place.size + 0 ≤ t.mask
    omega
  obtain ⟨t', order, e, pm, T, em, el, epl, ed⟩ := relaid_ok t (hs := es.map (·.1)) (wanted := SetTable.grown 5) (M := 31) (by rw [size_20]) (.inr (.inl rfl)) (by rw [Array.size_map, size]; decide)
  rw [Array.size_map, size, ← five] at pm
  obtain ⟨L2, p2, r2, g2⟩ := turned rows pm
  rw [g2 (·.1)] at T
  have r3 : (order.filterMap (es[·]?)).toList = L2.map (row w) := by rw [Array.toList_filterMap]; exact r2
  have size2 : (order.filterMap (es[·]?)).size = es.size := by rw [← Array.length_toList, r3, List.length_map, p2.length_eq, five, size]
  rw [setRelay_eq]
  refine wpAny_bind (wpAny_setState_of at_ isS fits (wp_if_neg (by rw [size_20, sizeLine_eq]; decide) ?_))
  rw [e]
  refine wpAny_bind (wp_if_neg (by rw [size2]; simp) (wpAny_pure ?_))
  refine wpAny_storeSet_of at_ isS ?_ (by rw [size2, size, sizeLine_eq]; decide)
  have but : Heap.SameBut S s.heap (s.heap.update S (Obj.putSet (order.filterMap (es[·]?)) t')) := Heap.SameBut.update ..
  refine q _ L2 _ (ep + 1) t' but ⟨⟨_, store_at at_ isS, ⟨ex.1, ex.2.1, ex.2.2⟩, rfl⟩, r3, T, (p2.map (·.1)).nodup_iff.mpr nd, fun p hp => (keys p (p2.mem_iff.mp hp)).aside at_ isS but, epl.trans plain, el ▸ led, ?_⟩ p2
  rw [p2.length_eq, five, em]
  decide
/-- one more is put in -/
theorem put_in (R : NSet P w s.heap S L es ep t) {k : NestedKey} {x : Addr} (hx : KeyAt s.heap k x) (deep : A.units + 8 < cLine) (few : L.length ≤ 7)
    {Q : Bool → Shared → Prop} (q : ∀ b h' L' es' ep' t', Heap.SameBut S s.heap h' → NSet P w h' S L' es' ep' t' → (k ∈ L.map (·.1) → L' = L) → (k ∉ L.map (·.1) → L'.Perm ((k, x) :: L)) → Q b { s with heap := h' }) :
    wpAny (model P w) A (setAddHashed S (.ref x) (k.hash w)) Q E s := by
  obtain ⟨o, at_, ex, isS⟩ := R.obj
  unfold setAddHashed
  refine wpAny_holding ?_
  rw [show (100000 : Nat) = 99999 + 1 from rfl, setAddHashedIn_succ]
  refine wpAny_bind (wpAny_setState_of at_ isS R.fits (wp_if_neg (by simp [byScan, Value.scannable]) ?_))
  refine wpAny_bind (seek_all R hx deep (fun mem => wpAny_pure (q false _ L es ep t (Heap.SameBut.refl S s.heap) R (fun _ => rfl) fun z => absurd mem z)) fun K new gap full => ?_)
  refine wpAny_bind (wpAny_setState_of at_ isS R.fits ?_)
  obtain ⟨e1, _, T, em, el, epl, _, _, ef⟩ := R.tab.put gap full
  generalize way t.mask (k.hash w) K = j at *
  obtain ⟨t1, p1, et⟩ : ∃ t1 p1, t.put j = (t1, p1) := ⟨_, _, rfl⟩
  rw [et] at e1 T em el epl ef
  dsimp only
  rw [et]
  dsimp only at e1 T em el epl ef ⊢
  subst e1
  generalize SetTable.below t.place j = c at *
  have pl1 : t1.plain = true := epl.trans R.plain
  rw [pl1]
  refine wpAny_bind (by_value 8 8 _ _ hx.2 (Nat.le_refl _) hx.1.1 _ fun b eb => ?_)
  subst eb
  simp only [if_true, Bool.not_false, Bool.true_and]
  obtain ⟨L1, eL1⟩ : ∃ L1, L1 = L.take c ++ (k, x) :: L.drop c := ⟨_, rfl⟩
  have pm : L1.Perm ((k, x) :: L) := by
    rw [eL1]
    have := List.perm_middle (a := (k, x)) (l₁ := L.take c) (l₂ := L.drop c)
    rwa [List.take_append_drop] at this
  have rows1 : (SetTable.insertAt es c (k.hash w, .ref x)).toList = L1.map (row w) := by
    rw [SetTable.toList_insertAt, R.rows, eL1, List.map_append, List.map_cons, List.map_take, List.map_drop]
  have T1 : TabOk t1 (L1.map fun p => p.1.hash w) := by
    rw [eL1, List.map_append, List.map_cons, List.map_take, List.map_drop]
    exact T
  have size1 : (SetTable.insertAt es c (k.hash w, .ref x)).size = L.length + 1 := by
    rw [← Array.length_toList, rows1, List.length_map, pm.length_eq, List.length_cons]
  generalize SetTable.insertAt es c (k.hash w, .ref x) = es1 at rows1 size1 ⊢
  have nd1 : (L1.map (·.1)).Nodup := (pm.map (·.1)).nodup_iff.mpr (List.nodup_cons.mpr ⟨new, R.nd⟩)
  refine wpAny_bind (wpAny_storeSet_of at_ isS ?_ (by rw [size1, sizeLine_eq]; omega))
  have but : Heap.SameBut S s.heap (s.heap.update S (Obj.putSet es1 t1)) := Heap.SameBut.update ..
  have at1 := store_at (es' := es1) (t' := t1) at_ isS
  generalize s.heap.update S (Obj.putSet es1 t1) = h1 at but at1 ⊢
  have keys1 : ∀ p ∈ L1, KeyAt h1 p.1 p.2 := fun p hp => by
    rcases List.mem_cons.mp (pm.mem_iff.mp hp) with rfl | hp
    · exact hx.aside at_ isS but
    · exact (R.keys p hp).aside at_ isS but
  have led1 : w.params.followText "set-order" = true ∨ t1.led = true := el ▸ R.led
  have len1 : L1.length = L.length + 1 := pm.length_eq
  rw [List.length_map] at ef
  have room := R.room
  by_cases tight : t1.tooFull = true
  · have t5 : (L.length + 1) * 5 ≥ t1.mask * 3 := by
      have z := tight
      unfold SetTable.tooFull at z
      rw [decide_eq_true_eq, ef] at z
      exact z
    have five : L.length = 4 := by
      rcases R.tab.mok with e | e | e <;> rw [em, e] at t5 <;> rw [e] at room <;> omega
    have place1 : t1.place.size = es1.size := by
      rw [T1.sz, List.length_map, len1, size1]
    have size4 : es.size = 4 := R.size.trans five
    rw [tight, size4]
    refine wpAny_bind ?_
    refine relay5 (s := { s with heap := h1 }) at1 ⟨ex.1, ex.2.1, ex.2.2⟩ rfl rows1 (by omega) place1 T1.dm (by rw [size1, em]; omega) nd1 keys1 pl1 led1 fun h2 L2 es2 ep2 t2 but2 R2 pm2 => ?_
    exact wpAny_pure (q true h2 L2 es2 ep2 t2 (but.trans but2) R2 (fun z => absurd z new) fun _ => pm2.trans pm)
  · have loose : t1.tooFull = false := by simpa using tight
    rw [loose]
    refine wp_if_neg (by decide) (wpAny_pure ?_)
    refine (q true h1 L1 es1 (ep + 1) t1 but ⟨⟨_, at1, ⟨ex.1, ex.2.1, ex.2.2⟩, rfl⟩, rows1, T1, nd1, keys1, pl1, led1, ?_⟩ (fun z => absurd z new) fun _ => pm)
    have z := tight
    unfold SetTable.tooFull at z
    rw [decide_eq_true_eq, ef] at z
    rw [len1]
    omega
end
end Nk
namespace Nk
open PySem PySem.Spec PyProof.Rows L2

/-! ### set(a list of nested tuples) -/
/-- what a set has got of the first i items -/
structure Has (ks : List (NestedKey × Addr)) (i : Nat) (L : List (NestedKey × Addr)) : Prop where
  part : ∀ p ∈ L, p ∈ ks.take i
  full : ∀ p ∈ ks.take i, p.1 ∈ L.map (·.1)
  few : L.length ≤ i
theorem Has.step {ks L L' : List (NestedKey × Addr)} {i : Nat} {p : NestedKey × Addr} (g : Has ks i L) (at_ : ks[i]? = some p) (old : p.1 ∈ L.map (·.1) → L' = L) (new : p.1 ∉ L.map (·.1) → L'.Perm (p :: L)) : Has ks (i + 1) L' := by
  have et : ks.take (i + 1) = ks.take i ++ [p] := by
    rw [List.take_add_one, at_]
    rfl
  by_cases mem : p.1 ∈ L.map (·.1)
  · rw [old mem]
    refine ⟨fun q hq => ?_, fun q hq => ?_, Nat.le_succ_of_le g.few⟩
    · rw [et]
      exact List.mem_append_left _ (g.part q hq)
    · rw [et] at hq
      rcases List.mem_append.mp hq with z | z
      · exact g.full q z
      · rw [List.mem_singleton.mp z]
        exact mem
  · have pm := new mem
    refine ⟨fun q hq => ?_, fun q hq => ?_, ?_⟩
    · rw [et]
      rcases List.mem_cons.mp (pm.mem_iff.mp hq) with z | z
      · exact List.mem_append_right _ (List.mem_singleton.mpr z)
      · exact List.mem_append_left _ (g.part q z)
    · rw [(pm.map (·.1)).mem_iff]
      rw [et] at hq
      rcases List.mem_append.mp hq with z | z
      · exact List.mem_cons_of_mem _ (g.full q z)
      · rw [List.mem_singleton.mp z]
        exact List.mem_cons_self
    · have a := pm.length_eq
      have b := g.few
      rw [List.length_cons] at a
      omega
abbrev emptySet (w : World) : Obj := { cls := .type "set", dict := none, data := .set #[] 0 (.fresh 0 0 (!w.params.followText "set-order")) }
section
variable {P : Program} {w : World} {A : Around} {E : Value → Shared → Prop} {s : Shared} {S : Addr} {L : List (NestedKey × Addr)} {es : Array (Int × Value)} {ep : Nat} {t : SetTable}
theorem NSet.stay {h h' : Heap} (R : NSet P w h S L es ep t) (here : ∀ o, h.get? S = some o → h'.get? S = some o) (keys : ∀ p ∈ L, KeyAt h' p.1 p.2) : NSet P w h' S L es ep t := by
  obtain ⟨o, a, r⟩ := R.obj
  exact ⟨⟨o, here o a, r⟩, R.rows, R.tab, R.nd, keys, R.plain, R.led, R.room⟩
theorem nset_none {h : Heap} (at_ : h.get? S = some (emptySet w)) : NSet P w h S [] #[] 0 (.fresh 0 0 (!w.params.followText "set-order")) := by
  refine ⟨⟨_, at_, ⟨rfl, rfl, rfl⟩, rfl⟩, rfl, ⟨.nil, rfl, rfl, .inl rfl, fun x hx => (by cases hx), fun i h j hi => (by cases hi)⟩, .nil, fun p hp => (by cases hp), rfl, ?_, (by show 0 * 5 < 7 * 3; decide)⟩
  show _ ∨ (!w.params.followText "set-order") = true
  by_cases f : w.params.followText "set-order" = true
  · exact .inl f
  · exact .inr (by simp [f])
theorem fill {I : Addr} {fp wr : List Addr} {G : Array GenState → Array GenState → Prop} {n : Nat} {V0 : Nat → Value → Prop} {St : Nat → Shared → Prop} {R : Result → Shared → Prop} (W : WalksS P w A.in1 I fp wr G n V0 St) (far : S ∉ fp) {ks : List (NestedKey × Addr)} (hn : n = ks.length) (few : ks.length ≤ 8)
    (vals : ∀ i v, V0 i v → ∃ p, ks[i]? = some p ∧ v = .ref p.2) {h0 : Heap} (keys : ∀ p ∈ ks, KeyAt h0 p.1 p.2) (new : h0.get? S = none) (fresh : ∀ b ∈ wr, h0.get? b = none) (deep : A.in1.units + 8 < cLine) :
    ∀ (m i : Nat) (s : Shared), i + m = n → St i s → (∀ b o, h0.get? b = some o → s.heap.get? b = some o) → (∃ L es ep t, NSet P w s.heap S L es ep t ∧ Has ks i L) →
      (∀ s' L es ep t, Moved (S :: wr) G s s' → NSet P w s'.heap S L es ep t → Has ks n L → (∀ b o, h0.get? b = some o → s'.heap.get? b = some o) → R (.ok (.ret .none)) s') →
      codeAny (model P w) A (.builtin "set.update.loop" ⟨[.ref S, .ref I], []⟩) R s := by
  have out : S ∉ wr := fun z => far (W.sub _ z)
  have more : ∀ b ∈ wr, b ∈ S :: wr := fun b hb => List.mem_cons_of_mem _ hb
  have carry : ∀ {s s' : Shared}, Moved wr G s s' → (∀ b o, h0.get? b = some o → s.heap.get? b = some o) → ∀ b o, h0.get? b = some o → s'.heap.get? b = some o := fun mv kp b o e =>
    mv.heap b o (fun hb => by rw [fresh b hb] at e; cases e) (kp b o e)
  have still : ∀ {h : Heap} {L : List (NestedKey × Addr)} {i : Nat}, Has ks i L → (∀ b o, h0.get? b = some o → h.get? b = some o) → ∀ p ∈ L, KeyAt h p.1 p.2 := fun g kp p hp => (keys p (List.mem_of_mem_take (g.part p hp))).stay fun b o _ _ e _ => kp b o e
  intro m
  induction m with
  | zero =>
    rintro i s rfl st kp ⟨L, es, ep, t, N, g⟩ fin
    apply codeAny_builtin F.entry_set_update_loop
    rw [Around.under_plainId F.plain_set_update_loop]
    change wpAny (model P w) A.in1 (pyNext (.ref I) >>= _) _ _ _
    refine wpAny_bind (W.done s _ _ st fun s' mv => ?_)
    have kp' := carry mv kp
    exact wpAny_pure (fin s' L es ep t (mv.mono more) (N.stay (fun o e => mv.heap S o out e) (still g kp')) g kp')
  | succ m ih =>
    rintro i s em st kp ⟨L, es, ep, t, N, g⟩ fin
    have less : i < n := by omega
    apply codeAny_builtin F.entry_set_update_loop
    rw [Around.under_plainId F.plain_set_update_loop]
    change wpAny (model P w) A.in1 (pyNext (.ref I) >>= _) _ _ _
    refine wpAny_bind (W.item i s _ _ less st fun v s1 hv st1 mv => ?_)
    obtain ⟨p, hp, rfl⟩ := vals i v hv
    have kp1 := carry mv kp
    have N1 : NSet P w s1.heap S L es ep t := N.stay (fun o e => mv.heap S o out e) (still g kp1)
    have key : KeyAt s1.heap p.1 p.2 := (keys p (List.mem_of_getElem? hp)).stay fun b o _ _ e _ => kp1 b o e
    show wpAny _ A.in1 (holding [Value.ref p.2] (setAdd S (.ref p.2)) >>= _) _ _ s1
    refine wpAny_bind (wpAny_holding ?_)
    unfold setAdd
    refine wpAny_holding (wpAny_bind ((nestedKind P w).pyHash deep key.1 ?_))
    refine put_in (s := { s1 with toks := s1.toks + p.1.draws }) N1 key deep (by have := g.few; omega) fun b h2 L2 es2 ep2 t2 but N2 old fresh2 => ?_
    have g2 := g.step hp old fresh2
    have kp2 : ∀ b o, h0.get? b = some o → h2.get? b = some o := fun b o e => (but.2 b (fun z => by rw [z, new] at e; cases e)).trans (kp1 b o e)
    refine wpAny_pure ⟨plainId_quiet F.plain_set_update_loop _, ih (i + 1) _ (by omega) (W.frame _ s1 _ _ st1 (Nat.le_add_right _ _) fun b hb o e => (but.2 b fun z => far (z ▸ hb)).trans e) kp2 ⟨L2, es2, ep2, t2, N2, g2⟩ fun s3 L3 es3 ep3 t3 mv3 N3 g3 kp3 => ?_⟩
    exact fin s3 L3 es3 ep3 t3 (Moved.trans W.gtrans ((mv.mono more).then_heap (Nat.le_add_right _ _) fun b o hb e => (but.2 b fun z => hb (z ▸ List.mem_cons_self)).trans e) mv3) N3 g3 kp3
end
end Nk
namespace Nk
open PySem PySem.Spec PyProof.Rows L2

section
variable {P : Program} {w : World} {A : Around} {E : Value → Shared → Prop} {s : Shared}
/-- what set.__init__ leaves behind -/
def Laid (P : Program) (w : World) (s : Shared) (ks : List (NestedKey × Addr)) (r : Value) (s2 : Shared) : Prop := r = .none ∧ ∃ h' tk L es ep t, s2 = { s with heap := h', toks := tk } ∧ NSet P w h' s.heap.objs.size L es ep t ∧ Has ks ks.length L ∧ ∀ b o, s.heap.get? b = some o → h'.get? b = some o
theorem init_tups {l : Addr} {items : Array Value} {ks : List (NestedKey × Addr)} (calm : A.handled = none) (lst : s.heap.IsList l items) (vals : items.toList = ks.map fun p => .ref p.2) (keys : ∀ p ∈ ks, KeyAt s.heap p.1 p.2) (few : ks.length ≤ 8) (deep : A.units + 12 < cLine) :
    wpAny (model P w) A.in1.in1 (Builtin.«set.__init__» ⟨[.ref s.heap.objs.size, .ref l], []⟩)
      (fun fin s2 => match fin with
        | .done f => wants (Laid P w s ks) E (.ok f) s2
        | .again c => c.quiet = true ∧ codeAny (model P w) A.in1 c (wants (Laid P w s ks) E) s2)
      (fun e s2 => wants (Laid P w s ks) E (.error e) s2) { s with heap := s.heap.push (emptySet w) } := by
  have two : (s.heap.push (emptySet w)).objs.size = s.heap.objs.size + 1 := Heap.size_push ..
  have cell : (s.heap.push (emptySet w)).get? s.heap.objs.size = some (emptySet w) := Heap.get?_push_size _ rfl
  have lst2 : (s.heap.push (emptySet w)).IsList l items := lst.push _
  have low : l < s.heap.objs.size := by
    obtain ⟨_, z, _⟩ := lst
    exact Heap.lt_size z
  have no1 := F.sub_list_set
  have no2 := F.sub_list_frozenset
  have no3 : (Value.type "list" == Value.type "dict") = false := by decide
  have many : items.size = ks.length := by rw [← Array.length_toList, vals, List.length_map]
  have absent : ∀ b, s.heap.objs.size ≤ b → s.heap.get? b = none := fun b hb => by
    cases z : s.heap.get? b with
    | none => rfl
    | some o => exact absurd (Heap.lt_size z) (Nat.not_lt.mpr hb)
  obtain ⟨⟨lc, ld, lt, ls⟩, there, isL, ln, isS⟩ := id lst2
  cases isL
  cases isS
  unfold Builtin.«set.__init__» noKeywords Builtin.Frozenset.updateFrom
  generalize walk : pyIter = W
  wp_walk
  subst walk
  refine wpAny_pyIter_list lst2 (wpAny_bind (wpAny_runValue ?_))
  have apart : l ≠ (s.heap.push (emptySet w)).objs.size := by
    rw [two]
    exact Nat.ne_of_lt (Nat.lt_succ_of_lt low)
  have far : s.heap.objs.size ∉ [(s.heap.push (emptySet w)).objs.size, l] := by
    simp only [two, List.mem_cons, List.not_mem_nil, or_false, not_or]
    exact ⟨Nat.ne_of_lt (Nat.lt_succ_self _), Ne.symm (Nat.ne_of_lt low)⟩
  refine fill (Walks.list (by simp [calm]) (s.heap.push (emptySet w)).objs.size l apart items).toS far (ks := ks) many few (fun i v hv => ?_) (h0 := s.heap) keys (absent _ (Nat.le_refl _)) (fun b hb => absent b (by rw [List.mem_singleton.mp hb, two]; omega)) (by show A.units + 1 + 1 + 1 + 8 < cLine; omega) items.size 0 _ (Nat.zero_add _)
    ⟨⟨_, Heap.get?_push_size _ rfl, rfl, rfl⟩, lst2.push _⟩ (fun b o e => Heap.get?_push_of_some _ (Heap.get?_push_of_some _ e)) ⟨[], #[], 0, _, nset_none (Heap.get?_push_of_some _ cell), ⟨fun p hp => (by cases hp), fun p hp => (by rw [List.take_zero] at hp; cases hp), Nat.le_refl _⟩⟩ fun s' L es ep t mv N g kp => ?_
  · have z : items.toList[i]? = some v := by rw [Array.getElem?_toList]; exact hv
    rw [vals, List.getElem?_map] at z
    cases e : ks[i]? with
    | none => rw [e] at z; cases z
    | some p =>
      rw [e] at z
      exact ⟨p, rfl, (Option.some.inj z).symm⟩
  · obtain ⟨h', g2, d', tk', os'⟩ := s'
    obtain rfl : g2 = s.gens := mv.gens
    obtain rfl : d' = s.drawn := mv.drawn
    obtain rfl : os' = s.os := mv.os
    rw [many] at g
    show wpAny _ _ _ _ _ _
    refine wpAny_pure ?_
    show wpAny _ _ (ret Value.none) _ _ _
    exact wpAny_pure ⟨rfl, h', tk', L, es, ep, t, rfl, N, g, kp⟩
theorem set_of_tups {l : Addr} {items : Array Value} {ks : List (NestedKey × Addr)} {Q : Value → Shared → Prop} (calm : A.handled = none) (lst : s.heap.IsList l items) (vals : items.toList = ks.map fun p => .ref p.2) (keys : ∀ p ∈ ks, KeyAt s.heap p.1 p.2) (few : ks.length ≤ 8) (deep : A.units + 12 < cLine)
    (q : ∀ h' tk L es ep t, NSet P w h' s.heap.objs.size L es ep t → Has ks ks.length L → (∀ b o, s.heap.get? b = some o → h'.get? b = some o) → Q (.ref s.heap.objs.size) { s with heap := h', toks := tk }) :
    wpAny (model P w) A (call (.type "set") [.ref l]) Q E s := by
  have C := F.called_set
  obtain ⟨_, _, chain⟩ := C.mro
  have f1 := C.made
  have f2 := C.sub
  have f3 := C.notType
  have f4 := C.canCreate
  have f5 := F.typeCall_set_1 (.ref l)
  apply wpAny_call
  apply codeAny_of_tree
  show wpAny _ _ (callAny (.type "set") _) _ _ _
  apply wpAny_pure
  refine ⟨Code.quiet_builtin _ (by decide +kernel), codeAny_builtin F.entry_type_call ?_⟩
  rw [Around.under_plain (weight_type_call_type "set" [.ref l] []) rfl]
  repeat (any_goals (first | assumption | wp_step))
  have cell : (s.heap.push (emptySet w)).get? s.heap.objs.size = some (emptySet w) := Heap.get?_push_size _ rfl
  have kind : Shared.TypeIs { s with heap := s.heap.push (emptySet w) } (.ref s.heap.objs.size) "set" := ⟨_, cell, rfl⟩
  have g1 := C.init.lookup
  have g2 := C.init.bind (.ref s.heap.objs.size)
  refine codeAny_mono (code_set_led1 (.ref l) (E := E) (Q₁ := fun o s1 => o = .ref s.heap.objs.size ∧ s1 = { s with heap := s.heap.push (emptySet w) }) ⟨rfl, rfl⟩) fun made s1 is => ?_
  match made, is with
  | .error _, z => exact z
  | .ok .next, z => exact False.elim z
  | .ok .brk, z => exact False.elim z
  | .ok .cont, z => exact False.elim z
  | .ok (.ret v), ⟨ev, es⟩ =>
    subst ev es
    repeat (any_goals (first | assumption | wp_step))
    refine codeAny_mono (codeAny_call_builtin (R := wants (Laid P w s ks) E) C.init.plain F.entry_set_init (check_set_init_1 kind ?_)) fun done s2 was => ?_
    · exact init_tups calm lst vals keys few deep
    · match done, was with
      | .error _, z => exact z
      | .ok .next, z => exact False.elim z
      | .ok .brk, z => exact False.elim z
      | .ok .cont, z => exact False.elim z
      | .ok (.ret r), ⟨er, h', tk, L, es, ep, t, e2, N, g, same⟩ =>
        subst er e2
        repeat (any_goals (first | assumption | wp_step))
        exact q _ _ _ _ _ _ N g same
end
end Nk
namespace Nk
open PySem PySem.Spec PyProof.Rows L2

/-! ### set(..) and sorted(..) of pairs of nests, as rules -/
abbrev Pr := Nat × Nat
def pk (p : Pr) : NestedKey := .tup [nk p.1, nk p.2]
def pd (p : Pr) : PyData := .tuple [dat p.1, dat p.2]
theorem pk_inj {p q : Pr} (h : pk p = pk q) : p = q := by
  unfold pk at h
  injection h with h
  injection h with h1 h2
  injection h2 with h2 _
  exact Prod.ext (nk_inj h1) (nk_inj h2)
/-- v is a tuple of two nests -/
def PaAt (K : PySem.W.Frag) (H : Hp) (p : Pr) (v : V) : Prop := Tp K H v (pd p) ∧ dep p.1 ≤ 6 ∧ dep p.2 ≤ 6
abbrev keyed (L : List (Pr × Addr)) : List (NestedKey × Addr) := L.map fun q => (pk q.1, q.2)
def SetP (P : Program) (w : World) (a : Addr) (L : List (Pr × Addr)) : HO := .ext fun h => ∃ es ep t, (∃ o, h.get? a = some o ∧ o.ExactSet ∧ o.data = .set es ep t) ∧ es.toList = (keyed L).map (row w) ∧ TabOk t ((keyed L).map fun p => p.1.hash w) ∧ (L.map (·.1)).Nodup ∧ t.plain = true ∧ (w.params.followText "set-order" = true ∨ t.led = true) ∧ (keyed L).length * 5 < t.mask * 3
theorem setP_ok {P : Program} {w : World} {H : Hp} {h : Heap} {a : Addr} {L : List (Pr × Addr)} {es : Array (Int × Value)} {ep : Nat} {t : SetTable} (R : NSet P w h a (keyed L) es ep t) : ObjOk P w H h a (SetP P w a L) := by
  have nd : (L.map (·.1)).Nodup := by
    have z := R.nd
    rw [List.map_map] at z
    exact List.Pairwise.of_map (S := (· ≠ ·)) pk (fun x y ne e => ne (congrArg pk e)) (by rw [List.map_map]; exact z)
  obtain ⟨o, at_, r⟩ := R.obj
  refine ⟨⟨es, ep, t, ⟨o, at_, r⟩, R.rows, R.tab, nd, R.plain, R.led, R.room⟩, ⟨o, at_⟩, ?_⟩
  rintro h1 h2 ⟨es', ep', t', ⟨o', at', r'⟩, rest⟩ keep
  exact ⟨es', ep', t', ⟨o', keep o' at', r'⟩, rest⟩
theorem lifted {α β : Type} {f : α → β} {ks : List α} : ∀ {L : List β}, (∀ p ∈ L, p ∈ ks.map f) → ∃ L0 : List α, L0.map f = L ∧ ∀ q ∈ L0, q ∈ ks
  | [], _ => ⟨[], rfl, fun q hq => by cases hq⟩
  | p :: L, h => by
    obtain ⟨q, hq, e⟩ := List.mem_map.mp (h p List.mem_cons_self)
    obtain ⟨L0, e0, sub⟩ := lifted (L := L) fun r hr => h r (List.mem_cons_of_mem _ hr)
    refine ⟨q :: L0, by rw [List.map_cons, e, e0], fun r hr => ?_⟩
    rcases List.mem_cons.mp hr with rfl | hr
    · exact hq
    · exact sub r hr
theorem perm_back {α β : Type} {f : α → β} : ∀ {vs : List β} {L : List α}, vs.Perm (L.map f) → ∃ L1 : List α, L1.Perm L ∧ vs = L1.map f
  | [], L, h => by
    have e := List.map_eq_nil_iff.mp (List.nil_perm.mp h)
    exact ⟨[], by rw [e], rfl⟩
  | v :: vs, L, h => by
    obtain ⟨p, hp, e⟩ := List.mem_map.mp (h.mem_iff.mp List.mem_cons_self)
    obtain ⟨B, C, eL⟩ := List.append_of_mem hp
    have pL : L.Perm (p :: (B ++ C)) := by
      rw [eL]
      exact List.perm_middle
    have h2 := h.trans (pL.map f)
    rw [List.map_cons, e] at h2
    obtain ⟨L1, p1, e1⟩ := perm_back h2.cons_inv
    exact ⟨p :: L1, (p1.cons p).trans pL.symm, by rw [List.map_cons, e, e1]⟩
theorem refs_vals {α : Type} {f : α → Addr} : ∀ L : List α, Vals (L.map fun q => V.ref (f q)) (L.map fun q => Value.ref (f q))
  | [] => .nil
  | _ :: L => .cons rfl (refs_vals L)
theorem vals_refs {α : Type} {f : α → Addr} : ∀ {L : List α} {us : List Value}, Vals (L.map fun q => V.ref (f q)) us → us = L.map fun q => Value.ref (f q)
  | [], _, .nil => rfl
  | q :: L, _, .cons r t => by
    cases r
    rw [vals_refs t, List.map_cons]
section
variable {X : Cx} {pins : List (Addr × Obj)} {σ : L2.St} {H : Hp} {s : Shared}
theorem PaAt.reads (I : Inv X pins σ H s) {p : Pr} {a : Addr} (h : PaAt X.K H p (.ref a)) : ∃ as, Reads s.heap (.ref a) (pd p) as := Dp.reads I _ _ _ h.1.dp (show RelV (.ref a) (.ref a) from rfl)
theorem key_of {h : Heap} {p : Pr} {a : Addr} {as : List Addr} (r : Reads h (.ref a) (pd p) as) (d1 : dep p.1 ≤ 6) (d2 : dep p.2 ≤ 6) : KeyAt h (pk p) a := by
  have n1 := nk_depth p.1
  have n2 := nk_depth p.2
  refine ⟨⟨?_, ?_⟩, ?_⟩
  · unfold pd at r
    cases r with
    | tuple h1 h2 h3 h4 =>
      refine .tup h1 h2 h3 ?_
      generalize Array.toList _ = l at h4 ⊢
      cases h4 with
      | cons r1 r2 =>
        cases r2 with
        | cons r3 r4 =>
          cases r4
          exact .cons (nested_of _ _ _ r1) (.cons (nested_of _ _ _ r3) .nil)
  · show NestedKey.depthAll [nk p.1, nk p.2] + 1 ≤ 8
    simp only [NestedKey.depthAll]
    omega
  · show [nk p.1, nk p.2].all (tupd 7) = true
    rw [List.all_eq_true]
    intro x hx
    rcases List.mem_cons.mp hx with rfl | hx
    · exact tupd_nest 7 _ (by omega)
    · rw [List.mem_singleton.mp hx]
      exact tupd_nest 7 _ (by omega)
/-- set(xs), xs a list of pairs -/
theorem cr_setP (calm : X.calm = true) (hu : X.A.units + 64 < cLine) : CallR X (.type "set") (fun xs H Q => ∃ (a : Addr) (ks : List (Pr × Addr)), xs = [.ref a] ∧ SqL X.K H a (ks.map fun q => V.ref q.2) ∧ (∀ q ∈ ks, PaAt X.K H q.1 (.ref q.2)) ∧ ks.length ≤ 8 ∧
    ∀ p L, H p = none → (∀ q ∈ L, q ∈ ks) → (∀ q ∈ ks, q.1 ∈ L.map (·.1)) → (L.map (·.1)).Nodup → L.length ≤ ks.length → Q (.ref p) (upd H p (SetP X.prog X.w p L))) := by
  rintro pins s σ H _ us Q I rel ⟨a, ks, rfl, sq, at_, few, q⟩
  obtain rfl := Vals.ref1 rel
  obtain ⟨its, vals, lst, _⟩ := I.list sq
  refine set_of_tups (P := X.prog) (w := X.w) (ks := keyed ks) (I.ok.hd calm) lst.isList ?_ (fun p hp => ?_) (by rw [List.length_map]; exact few) (by omega) fun h' tk L es ep t N g same => ?_
  · rw [List.toList_toArray, List.map_map]
    exact vals_refs vals
  · obtain ⟨k, hk, rfl⟩ := List.mem_map.mp hp
    obtain ⟨as, r⟩ := PaAt.reads I (at_ k hk)
    exact key_of r (at_ k hk).2.1 (at_ k hk).2.2
  obtain ⟨L0, rfl, sub⟩ := lifted (f := fun q : Pr × Addr => (pk q.1, q.2)) (ks := ks) fun p hp => List.mem_of_mem_take (g.part p hp)
  have ok := setP_ok (H := upd H s.heap.objs.size (SetP X.prog X.w s.heap.objs.size L0)) N
  have nd : (L0.map (·.1)).Nodup := by
    obtain ⟨_, _, _, _, _, _, nd, _⟩ := ok.1
    exact nd
  refine ⟨.ref _, _, I.laid (t' := tk) same (Nat.le_refl _) ok, rfl, q _ L0 (I.hok.fresh (Nat.le_refl _)) sub (fun k hk => ?_) nd (by have z := g.few; rwa [List.length_map, List.length_map] at z)⟩
  have z := g.full (pk k.1, k.2) (by rw [List.take_length]; exact List.mem_map_of_mem hk)
  rw [List.map_map] at z
  obtain ⟨k2, h2, e2⟩ := List.mem_map.mp z
  exact List.mem_map.mpr ⟨k2, h2, pk_inj e2⟩
end
/-! ### sorted -/
theorem reads_none {h : Heap} : ∀ (n : Nat) (v : Value) (as : List Addr), Reads h v (dat n) as → as = [] := by
  intro n
  induction n using Nat.strongRecOn with
  | ind n ih =>
    intro v as r
    rw [dat_eq] at r
    cases r with
    | tuple _ _ _ h4 =>
      have all : ∀ (l : List Nat) (vs : List Value) (as : List Addr), (∀ k ∈ l, k ∈ bits n) → ReadsAll h vs (l.map dat) as → as = [] := by
        intro l
        induction l with
        | nil =>
          intro vs as _ r
          cases r
          rfl
        | cons k l ihl =>
          intro vs as sub r
          rw [List.map_cons] at r
          cases r with
          | cons r1 r2 => rw [ih k (bits_lt (sub k List.mem_cons_self)) _ _ r1, ihl _ _ (fun j hj => sub j (List.mem_cons_of_mem _ hj)) r2, List.nil_append]
      exact all _ _ _ (fun k hk => hk) h4
theorem reads_pair {h : Heap} {p : Pr} {v : Value} {as : List Addr} (r : Reads h v (pd p) as) : as = [] := by
  unfold pd at r
  cases r with
  | tuple _ _ _ h4 =>
    generalize Array.toList _ = l at h4
    cases h4 with
    | cons r1 r2 =>
      cases r2 with
      | cons r3 r4 =>
        cases r4
        rw [reads_none _ _ _ r1, reads_none _ _ _ r3]
        rfl
theorem alike_nests : ∀ n m : Nat, W.alike (dat n) (dat m) = true := by
  intro n
  induction n using Nat.strongRecOn with
  | ind n ih =>
    intro m
    rw [dat_eq n, dat_eq m, W.alike]
    have all : ∀ l ms : List Nat, (∀ k ∈ l, k ∈ bits n) → W.alikeAll (l.map dat) (ms.map dat) = true := by
      intro l
      induction l with
      | nil => intro ms _; rw [List.map_nil, W.alikeAll]
      | cons k l ihl =>
        intro ms sub
        cases ms with
        | nil => rw [List.map_cons, List.map_nil, W.alikeAll]
        | cons j ms => rw [List.map_cons, List.map_cons, W.alikeAll, ih k (bits_lt (sub k List.mem_cons_self)), ihl ms fun i hi => sub i (List.mem_cons_of_mem _ hi), Bool.and_self]
    exact all _ _ fun k hk => hk
theorem alike_pairs (p q : Pr) : W.alike (pd p) (pd q) = true := by
  unfold pd
  rw [W.alike, W.alikeAll, W.alikeAll, W.alikeAll, alike_nests, alike_nests]
  rfl
theorem pd_depth (p : Pr) : (pd p).depth ≤ max (dep p.1) (dep p.2) + 2 := by
  have h1 := dat_depth p.1
  have h2 := dat_depth p.2
  show PyData.depthAll [dat p.1, dat p.2] + 1 ≤ _
  simp only [PyData.depthAll]
  omega
theorem each_refs {α : Type} {f : α → Addr} : ∀ L : List α, W.EachIs (fun v q => v = Value.ref (f q)) (L.map fun q => Value.ref (f q)) L
  | [] => .nil
  | _ :: L => .cons rfl (each_refs L)
theorem refs_each {α : Type} {f : α → Addr} : ∀ {L : List α} {vs : List Value}, W.EachIs (fun v q => v = Value.ref (f q)) vs L → vs = L.map fun q => Value.ref (f q)
  | [], _, .nil => rfl
  | _ :: _, _, .cons e r => by rw [e, refs_each r, List.map_cons]
section
variable {P : Program} {w : World} {A : Around} {E : Value → Shared → Prop} {s : Shared}
theorem sorted_pairs {a : Addr} {L : List (Pr × Addr)} {es : Array (Int × Value)} {ep : Nat} {t : SetTable} {Q : Value → Shared → Prop} (N : NSet P w s.heap a (keyed L) es ep t) (calm : A.handled = none) (few : L.length ≤ 8) (rd : ∀ q ∈ L, (∃ as, Reads s.heap (.ref q.2) (pd q.1) as) ∧ dep q.1.1 ≤ 6 ∧ dep q.1.2 ≤ 6) (hu : A.units + 20 < cLine)
    (fin : ∀ s' p c (M : List (Pr × Addr)), M.Perm L → (∀ b o, s.heap.get? b = some o → s'.heap.get? b = some o) → s'.gens = s.gens → s'.os = s.os → s.heap.objs.size ≤ p → s'.heap.get? p = some (seqObj "list" (M.map fun q => Value.ref q.2).toArray c) → Q (.ref p) s') :
    wpAny (model P w) A (call (.builtin "sorted") [.ref a]) Q E s := by
  obtain ⟨o, at_, ex, isS⟩ := N.obj
  have size : es.size = L.length := by rw [N.size, List.length_map]
  apply Calls.call_function_entry kind_sorted plain_sorted entry_sorted (args_sorted1 _)
  unfold Builtin.«sorted»
  apply wpAny_bind (m := checkCount "sorted" 1 1 _)
  apply wpAny_pure
  refine wpAny_bind (collect_set (A := A.in1) calm ⟨o, at_, ex.1, isS⟩ N.fits (by rw [size]; unfold scanBound; omega) N.tab.ris N.led fun s1 vs old grow gens os pm => ?_)
  have ev : es.toList.map (·.2) = L.map fun q => Value.ref q.2 := by
    rw [N.rows, List.map_map, List.map_map]
    rfl
  rw [ev] at pm
  obtain ⟨L1, p1, rfl⟩ := perm_back pm
  have few1 : L1.length ≤ 8 := by rw [p1.length_eq]; exact few
  refine wpAny_bind (wpAny_newList ?_ (by rw [List.length_map, sizeLine_eq]; omega))
  have cell : (s1.heap.push (seqObj "list" (L1.map fun q => Value.ref q.2).toArray 0)).get? s1.heap.objs.size = some (seqObj "list" (L1.map fun q => Value.ref q.2).toArray 0) := Heap.get?_push_size _ rfl
  have reads : ∀ M : List (Pr × Addr), (∀ q ∈ M, q ∈ L) → W.EachIs (fun v q => ∃ as, Reads (s1.heap.push (seqObj "list" (L1.map fun q => Value.ref q.2).toArray 0)) v (pd q.1) as ∧ s1.heap.objs.size ∉ as) (M.map fun q => Value.ref q.2) M := by
    intro M
    induction M with
    | nil => intro _; exact .nil
    | cons q M ih =>
      intro sub
      obtain ⟨⟨as, r⟩, _⟩ := rd q (sub q List.mem_cons_self)
      obtain rfl := reads_pair r
      exact .cons ⟨[], PyProof.Rows.Reads.keeps (fun b u e => Heap.get?_push_of_some _ (old b u e)) r, fun z => by cases z⟩ (ih fun k hk => sub k (List.mem_cons_of_mem _ hk))
  refine wpAny_bind (wpAny_holding (W.list_sort_data (s := { s1 with heap := s1.heap.push (seqObj "list" (L1.map fun q => Value.ref q.2).toArray 0) }) (enc := fun q : Pr × Addr => pd q.1) cell (each_refs L1) (reads L1 fun q hq => p1.mem_iff.mp hq) ?_ (.inl fun d hd => ?_) (by rw [sizeLine_eq]; omega) (fun q hq => ?_) fun out len each => ?_))
  · intro d hd d' hd'
    obtain ⟨q, _, rfl⟩ := List.mem_map.mp hd
    obtain ⟨q', _, rfl⟩ := List.mem_map.mp hd'
    exact alike_pairs _ _
  · obtain ⟨q, _, rfl⟩ := List.mem_map.mp hd
    exact ⟨_, _, rfl⟩
  · have d := pd_depth q.1
    have e := (rd q (p1.mem_iff.mp hq)).2
    show A.units + 1 + 1 + (pd q.1).depth < cLine
    omega
  obtain rfl := refs_each each
  obtain ⟨c, hc⟩ := sortedHeap_at (vs := L1.map fun q => Value.ref q.2) (out := ((L1.mergeSort (W.dataLe false fun q : Pr × Addr => pd q.1)).map fun q => Value.ref q.2).toArray) cell
  refine wpAny_pure ⟨_, rfl, fin _ s1.heap.objs.size c _ ((List.mergeSort_perm _ _).trans p1) (fun b u e => ?_) gens os grow hc⟩
  have z := old b u e
  have less := Heap.lt_size z
  exact (sortedHeap_old (Nat.ne_of_lt less) (by rw [size_push']; exact Nat.lt_succ_of_lt less)).trans (Heap.get?_push_of_some _ z)
end
section
variable {X : Cx}
/-- sorted(a set of pairs) -/
theorem cr_sortedP' (calm : X.calm = true) (hu : X.A.units + 64 < cLine) : CallR X (.builtin "sorted") (fun xs H Q => ∃ (a : Addr) (L : List (Pr × Addr)), xs = [.ref a] ∧ H a = some (SetP X.prog X.w a L) ∧ (∀ q ∈ L, PaAt X.K H q.1 (.ref q.2)) ∧ L.length ≤ 8 ∧
    ∀ (p : Addr) (M : List (Pr × Addr)), H p = none → M.Perm L → Q (.ref p) (upd H p (.lst (M.map fun q => V.ref q.2)))) := by
  rintro pins s σ H _ us Q I rel ⟨a, L, rfl, set_, at_, few, q⟩
  obtain rfl := Vals.ref1 rel
  obtain ⟨es, ep, t, obj, rows, tab, nd, plain, led, room⟩ := (I.hok a _ set_).1
  have rd : ∀ k ∈ L, (∃ as, Reads s.heap (.ref k.2) (pd k.1) as) ∧ dep k.1.1 ≤ 6 ∧ dep k.1.2 ≤ 6 := fun k hk => ⟨PaAt.reads I (at_ k hk), (at_ k hk).2⟩
  have N : NSet X.prog X.w s.heap a (keyed L) es ep t := by
    refine ⟨obj, rows, tab, ?_, fun p hp => ?_, plain, led, room⟩
    · rw [List.map_map]
      have z := List.Pairwise.map (S := (· ≠ ·)) pk (fun x y ne e => ne (pk_inj e)) nd
      rw [List.map_map] at z
      exact z
    · obtain ⟨k, hk, rfl⟩ := List.mem_map.mp hp
      obtain ⟨⟨as, r⟩, d1, d2⟩ := rd k hk
      exact key_of r d1 d2
  refine sorted_pairs N (I.ok.hd calm) few rd (by omega) fun s' p c M pm keep gens os grow at2 => ?_
  have new : H p = none := I.hok.fresh grow
  have len : (M.map fun k => V.ref k.2).length ≤ sizeLine := by
    rw [List.length_map, pm.length_eq, sizeLine_eq]
    omega
  have J := I.call' (s' := s') (ch := []) os (Un.laid keep grow new) (I.hok.laid keep grow (o := .lst (M.map fun k => V.ref k.2)) ⟨len, _, c, refs_vals (f := fun k : Pr × Addr => k.2) M, at2⟩) (by rw [gens]; exact I.bare) fun _ z => nomatch z
  exact ⟨.ref p, _, J, rfl, q p M new pm⟩
end
end Nk
namespace Nk
open PySem PySem.Spec PyProof.Rows L2

/-! ### pairs, products and maps, in plain words -/
abbrev pr (p : Pr) : Nat := pairN p.1 p.2
theorem pr_inj {p q : Pr} (h : pr p = pr q) : p = q := Prod.ext (pair_inj h).1 (pair_inj h).2
theorem len_mk {l : List Nat} (nd : l.Nodup) : (bits (mk l)).length = l.length :=
  ((List.perm_ext_iff_of_nodup ((bits_asc _).imp fun h => Nat.ne_of_lt h) nd).mpr fun k => mem_mk).length_eq
theorem mk_len_le : ∀ l : List Nat, (bits (mk l)).length ≤ l.length ∧ ((bits (mk l)).length = l.length → l.Nodup)
  | [] => ⟨Nat.le_of_eq (len_mk List.nodup_nil), fun _ => List.nodup_nil⟩
  | a :: l => by
    have ih := mk_len_le l
    by_cases h : a ∈ l
    · have e : mk (a :: l) = mk l := mk_congr fun k => by
        rw [List.mem_cons]
        exact ⟨fun z => z.elim (fun z => z ▸ h) id, .inr⟩
      rw [e, List.length_cons]
      exact ⟨by omega, fun z => by omega⟩
    · have e : (bits (mk (a :: l))).Perm (a :: bits (mk l)) := by
        refine (List.perm_ext_iff_of_nodup ((bits_asc _).imp fun h => Nat.ne_of_lt h) (List.nodup_cons.mpr ⟨fun z => h (mem_mk.mp z), (bits_asc _).imp fun h => Nat.ne_of_lt h⟩)).mpr fun k => ?_
        rw [mem_mk, List.mem_cons, List.mem_cons, mem_mk]
      rw [e.length_eq, List.length_cons, List.length_cons]
      exact ⟨by omega, fun z => List.nodup_cons.mpr ⟨h, ih.2 (by omega)⟩⟩
/-- all pairs of members -/
def prods (n m : Nat) : List Nat := (bits n).flatMap fun a => (bits m).map fun b => pairN a b
theorem mem_prods {n m k : Nat} : k ∈ prods n m ↔ ∃ a b, a ∈ bits n ∧ b ∈ bits m ∧ k = pairN a b := by
  unfold prods
  rw [List.mem_flatMap]
  constructor
  · rintro ⟨a, ha, h⟩
    obtain ⟨b, hb, rfl⟩ := List.mem_map.mp h
    exact ⟨a, b, ha, hb, rfl⟩
  · rintro ⟨a, b, ha, hb, rfl⟩
    exact ⟨a, ha, List.mem_map.mpr ⟨b, hb, rfl⟩⟩
theorem prods_nodup (n m : Nat) : (prods n m).Nodup := by
  have nb : (bits m).Nodup := (bits_asc _).imp fun h => Nat.ne_of_lt h
  have na : (bits n).Nodup := (bits_asc _).imp fun h => Nat.ne_of_lt h
  unfold prods
  generalize bits n = l at na
  induction l with
  | nil => exact List.nodup_nil
  | cons a l ih =>
    obtain ⟨h1, h2⟩ := List.nodup_cons.mp na
    rw [List.flatMap_cons, List.nodup_append]
    refine ⟨List.pairwise_map.mpr (nb.imp fun ne e => ne (pair_inj e).2), ih h2, fun x hx y hy e => ?_⟩
    obtain ⟨b, _, rfl⟩ := List.mem_map.mp hx
    obtain ⟨c, hc, hy⟩ := List.mem_flatMap.mp hy
    obtain ⟨d, _, rfl⟩ := List.mem_map.mp hy
    exact h1 ((pair_inj e).1 ▸ hc)
theorem prods_len (n m : Nat) : (prods n m).length = (bits n).length * (bits m).length := by
  unfold prods
  induction bits n with
  | nil => rw [List.flatMap_nil, List.length_nil, Nat.zero_mul]
  | cons a l ih => rw [List.flatMap_cons, List.length_append, ih, List.length_map, List.length_cons, Nat.succ_mul, Nat.add_comm]
open Classical in
/-- the two parts of a pair -/
noncomputable def part (k : Nat) : Option Pr := if h : ∃ p : Pr, k = pr p then some h.choose else none
theorem part_pair (p : Pr) : part (pr p) = some p := by
  unfold part
  have h : ∃ q : Pr, pr p = pr q := ⟨p, rfl⟩
  rw [dif_pos h]
  exact congrArg some (pr_inj h.choose_spec).symm
theorem part_none {k : Nat} (h : ¬ IsPair k) : part k = none := by
  unfold part
  rw [dif_neg]
  rintro ⟨p, e⟩
  exact h ⟨p.1, p.2, e⟩
theorem part_some {k : Nat} {p : Pr} (h : part k = some p) : k = pr p := by
  unfold part at h
  split at h
  · rename_i z
    rw [← Option.some.inj h]
    exact z.choose_spec
  · cases h
/-- m is a map of h into t -/
def IsMap (m h t : Nat) : Prop := (∀ k ∈ bits m, IsPair k) ∧ (∀ a b, pairN a b ∈ bits m → a ∈ bits h ∧ b ∈ bits t) ∧ mk (((bits m).filterMap part).map (·.1)) = h ∧ (bits m).length = (bits h).length
theorem not_map {m h t k : Nat} (hk : k ∈ bits m) (no : ¬ IsPair k) : ¬ IsMap m h t := fun z => no (z.1 k hk)
theorem map_iff {ps : List Pr} (nd : ps.Nodup) (h t : Nat) : IsMap (mk (ps.map pr)) h t ↔ (∀ p ∈ ps, p.1 ∈ bits h ∧ p.2 ∈ bits t) ∧ mk (ps.map (·.1)) = h ∧ ps.length = (bits h).length := by
  have e1 : mk (((bits (mk (ps.map pr))).filterMap part).map (·.1)) = mk (ps.map (·.1)) := mk_congr fun k => by
    simp only [List.mem_map, List.mem_filterMap, mem_mk]
    constructor
    · rintro ⟨p, ⟨_, ⟨q, hq, rfl⟩, e⟩, rfl⟩
      rw [part_pair] at e
      exact ⟨q, hq, by rw [Option.some.inj e]⟩
    · rintro ⟨p, hp, rfl⟩
      exact ⟨p, ⟨pr p, ⟨p, hp, rfl⟩, part_pair p⟩, rfl⟩
  have e2 : (bits (mk (ps.map pr))).length = ps.length := by
    rw [len_mk (List.pairwise_map.mpr (nd.imp fun ne e => ne (pr_inj e))), List.length_map]
  unfold IsMap
  rw [e1, e2]
  constructor
  · rintro ⟨_, h2, h3, h4⟩
    exact ⟨fun p hp => h2 p.1 p.2 (mem_mk.mpr (List.mem_map.mpr ⟨p, hp, rfl⟩)), h3, h4⟩
  · rintro ⟨h2, h3, h4⟩
    refine ⟨fun k hk => ?_, fun a b hab => ?_, h3, h4⟩
    · obtain ⟨p, _, rfl⟩ := List.mem_map.mp (mem_mk.mp hk)
      exact ⟨p.1, p.2, rfl⟩
    · obtain ⟨p, hp, e⟩ := List.mem_map.mp (mem_mk.mp hab)
      obtain ⟨e1, e2⟩ := pair_inj (a := p.1) (b := p.2) e
      rw [← e1, ← e2]
      exact h2 p hp
/-! ### None or a pair -/
/-- v is None, or a tuple of two nests -/
def OpAt (K : PySem.W.Frag) (H : Hp) : Option Pr → V → Prop
  | none, v => v = .non
  | some p, v => Tp K H v (pd p)
def sdat : Option Pr → PyData
  | none => .none
  | some p => pd p
theorem OpAt.grow {K : PySem.W.Frag} {H H' : Hp} (g : Grow K H H') : ∀ {o : Option Pr} {v : V}, OpAt K H o v → OpAt K H' o v
  | none, _, h => h
  | some _, _, h => Tp.grow g h
theorem OpAt.dp {K : PySem.W.Frag} {H : Hp} : ∀ {o : Option Pr} {v : V}, OpAt K H o v → Dp K H v (sdat o)
  | none, _, h => by
    cases h
    exact .non
  | some _, _, h => Tp.dp h
inductive OpAll (K : PySem.W.Frag) (H : Hp) : List (Option Pr) → List V → Prop
  | nil : OpAll K H [] []
  | cons {o : Option Pr} {v : V} {os : List (Option Pr)} {vs : List V} : OpAt K H o v → OpAll K H os vs → OpAll K H (o :: os) (v :: vs)
theorem OpAll.grow {K : PySem.W.Frag} {H H' : Hp} (g : Grow K H H') : ∀ {os : List (Option Pr)} {vs : List V}, OpAll K H os vs → OpAll K H' os vs
  | _, _, .nil => .nil
  | _, _, .cons h r => .cons (h.grow g) (OpAll.grow g r)
theorem OpAll.snoc {K : PySem.W.Frag} {H : Hp} {o : Option Pr} {v : V} (h : OpAt K H o v) : ∀ {os : List (Option Pr)} {vs : List V}, OpAll K H os vs → OpAll K H (os ++ [o]) (vs ++ [v])
  | _, _, .nil => .cons h .nil
  | _, _, .cons h1 r => .cons h1 (OpAll.snoc h r)
theorem OpAll.len {K : PySem.W.Frag} {H : Hp} : ∀ {os : List (Option Pr)} {vs : List V}, OpAll K H os vs → vs.length = os.length
  | _, _, .nil => rfl
  | _, _, .cons _ r => by rw [List.length_cons, List.length_cons, OpAll.len r]
theorem OpAll.dp {K : PySem.W.Frag} {H : Hp} : ∀ {os : List (Option Pr)} {vs : List V}, OpAll K H os vs → DpAll K H vs (os.map sdat)
  | _, _, .nil => .nil
  | _, _, .cons h r => .cons h.dp (OpAll.dp r)
theorem OpAll.tp {K : PySem.W.Frag} {H : Hp} : ∀ {ps : List Pr} {vs : List V}, OpAll K H (ps.map some) vs → TpAll K H vs (ps.map pd)
  | [], _, .nil => .nil
  | _ :: _, _, .cons h r => .cons h (OpAll.tp r)
theorem sdat_lay (o : Option Pr) : (sdat o).canLay0 = true := by
  cases o with
  | none => rfl
  | some p =>
    show (PyData.tuple [dat p.1, dat p.2]).canLay0 = true
    simp only [PyData.canLay0, PyData.canLayAll0, dat_lay, Bool.and_self]
theorem sdat_shaped {os : List (Option Pr)} (h : ∀ p, some p ∈ os → dep p.1 ≤ 50 ∧ dep p.2 ≤ 50) : SeqAt.shaped (.list (os.map sdat)) = true := by
  have both : PyData.canLayAll0 (os.map sdat) = true ∧ PyData.depthAll (os.map sdat) ≤ 60 := by
    induction os with
    | nil => exact ⟨rfl, by decide⟩
    | cons o os ih =>
      obtain ⟨i1, i2⟩ := ih fun p hp => h p (List.mem_cons_of_mem _ hp)
      rw [List.map_cons, PyData.canLayAll0, PyData.depthAll, i1, sdat_lay]
      refine ⟨rfl, Nat.max_le.mpr ⟨?_, i2⟩⟩
      cases o with
      | none => exact Nat.zero_le _
      | some p =>
        have a := pd_depth p
        have b := h p List.mem_cons_self
        show (pd p).depth ≤ 60
        omega
  unfold SeqAt.shaped
  rw [PyData.canLay0, both.1, Bool.true_and]
  refine decide_eq_true ?_
  rw [PyData.depth]
  omega
theorem any_none (os : List (Option Pr)) : ((os.map sdat).any fun z => PyData.eqv z .none) = os.any (·.isNone) := by
  rw [List.any_map]
  congr 1
  funext o
  cases o with
  | none => rfl
  | some p => rfl
theorem oinD {X : Cx} {K : PySem.W.Frag} {k : Nat} (hr : Room k X.A) (hK : X.K = K := by rfl) : OpR X (compareOp .In) (rInD K) := by subst hK; exact op_inD (by have := hu66 hr; omega)
/-- a pair's tuple, opened -/
theorem pd_open {K : PySem.W.Frag} {H : Hp} {v : V} {p : Pr} (h : Tp K H v (pd p)) : ∃ a x y, v = .ref a ∧ SqT K H a [x, y] ∧ Na K H x p.1 ∧ Na K H y p.2 := by
  unfold pd at h
  cases h with
  | tup hs r =>
    cases r with
    | cons h1 r =>
      cases r with
      | cons h2 r =>
        cases r
        exact ⟨_, _, _, rfl, hs, h1, h2⟩
theorem pd_of {K : PySem.W.Frag} {H : Hp} {a : Addr} {x y : V} {p : Pr} (hs : SqT K H a [x, y]) (h1 : Na K H x p.1) (h2 : Na K H y p.2) : Tp K H (.ref a) (pd p) := .tup hs (.cons h1 (.cons h2 .nil))
/-! ### comprehensions over nests and pairs -/
section
variable {K : PySem.W.Frag} {g : TG} {tt : TT} {te : TE} {vs : List Nat} {σ : L2.St} {H1 : Hp} {D : Addr} {Qd : Hp → Prop} {J : It} {G : Hp → Prop}
theorem maps_na {xs : List V} {ns : List Nat} (w : Walk J xs.length G (YAt xs)) (hG : ∀ H, Same H1 H → G H) (r : Nat → Nat) (hx : NaAll K H1 xs ns) (hz : xs.length ≤ sizeLine) (hD : H1 D = none)
    (ht : ∀ (x : V) (k : Nat) (H : Hp) (C : V → Hp → Prop), Na K H x k → k ∈ ns → Same H1 H → (∀ v H2, Same H H2 → Na K H2 v (r k) → C v H2) → g x (wipe σ vs) H fun σ2 H2 => wipe σ2 vs = wipe σ vs ∧ te σ2 H2 C)
    (hd : ∀ H acc, Same H1 H → H D = some (.lst acc) → NaAll K H acc (ns.map r) → Qd H) :
    ∃ W : Nat → Nat → Hp → Prop, (∃ m, W 0 m (upd H1 D (.lst []))) ∧ ∀ i m H, W i m H →
      (J.stop i H ∧ Qd H) ∨ (J.go i H ∧ ∃ Nx : Hp → Prop, (∀ H', Nx H' → ∃ m', m' < m ∧ W (i + 1) m' H') ∧ ∀ x H', J.yld i H x H' → g x (wipe σ vs) H' fun σ2 H2 => wipe σ2 vs = wipe σ vs ∧ tYes σ2 H2 fun b H3 =>
        if b = true then te σ2 H3 fun y H4 => ∃ acc, H4 D = some (.lst acc) ∧ acc.length < sizeLine ∧ Nx (upd H4 D (.lst (acc ++ [y]))) else Nx H3) := by
  have len := NaAll.ln hx
  refine lc_it w (Pv := fun i H => Same H1 H ∧ ∃ acc, H D = some (.lst acc) ∧ acc.length = i ∧ NaAll K H acc ((ns.take i).map r)) ⟨same_new hD _, [], upd_same, rfl, .nil⟩ (fun i H _ q => hG H q.1) (fun i x H H' hi q y => ?_) (fun H q => ?_)
  · obtain ⟨gg, acc, hacc, la, ma⟩ := q
    obtain ⟨rfl, hxi⟩ := y
    obtain ⟨k, hk, mem, tp⟩ := NaAll.at hx hxi
    refine ht x k H' _ (tp.same gg) mem gg fun v H2 g2 hv => ⟨acc, g2 _ _ hacc, by omega, same_put (gg.trans g2) hD, acc ++ [v], upd_same, by rw [List.length_append, la]; rfl, ?_⟩
    rw [List.take_add_one, hk, List.map_append]
    exact (NaAll.cat (NaAll.same ma g2) (.cons hv .nil)).grow (Grow.lst (g2 _ _ hacc))
  · obtain ⟨gg, acc, hacc, _, ma⟩ := q
    rw [len, List.take_length] at ma
    exact hd H acc gg hacc ma
/-- .. that give None or a pair's tuple -/
theorem maps_op {xs : List V} {ns : List Nat} (w : Walk J xs.length G (YAt xs)) (hG : ∀ H, Same H1 H → G H) (r : Nat → Option Pr) (hx : NaAll K H1 xs ns) (hz : xs.length ≤ sizeLine) (hD : H1 D = none)
    (ht : ∀ (x : V) (k : Nat) (H : Hp) (C : V → Hp → Prop), Na K H x k → k ∈ ns → Same H1 H → (∀ v H2, Same H H2 → OpAt K H2 (r k) v → C v H2) → g x (wipe σ vs) H fun σ2 H2 => wipe σ2 vs = wipe σ vs ∧ te σ2 H2 C)
    (hd : ∀ H acc, Same H1 H → H D = some (.lst acc) → OpAll K H (ns.map r) acc → Qd H) :
    ∃ W : Nat → Nat → Hp → Prop, (∃ m, W 0 m (upd H1 D (.lst []))) ∧ ∀ i m H, W i m H →
      (J.stop i H ∧ Qd H) ∨ (J.go i H ∧ ∃ Nx : Hp → Prop, (∀ H', Nx H' → ∃ m', m' < m ∧ W (i + 1) m' H') ∧ ∀ x H', J.yld i H x H' → g x (wipe σ vs) H' fun σ2 H2 => wipe σ2 vs = wipe σ vs ∧ tYes σ2 H2 fun b H3 =>
        if b = true then te σ2 H3 fun y H4 => ∃ acc, H4 D = some (.lst acc) ∧ acc.length < sizeLine ∧ Nx (upd H4 D (.lst (acc ++ [y]))) else Nx H3) := by
  have len := NaAll.ln hx
  refine lc_it w (Pv := fun i H => Same H1 H ∧ ∃ acc, H D = some (.lst acc) ∧ acc.length = i ∧ OpAll K H ((ns.take i).map r) acc) ⟨same_new hD _, [], upd_same, rfl, .nil⟩ (fun i H _ q => hG H q.1) (fun i x H H' hi q y => ?_) (fun H q => ?_)
  · obtain ⟨gg, acc, hacc, la, ma⟩ := q
    obtain ⟨rfl, hxi⟩ := y
    obtain ⟨k, hk, mem, tp⟩ := NaAll.at hx hxi
    refine ht x k H' _ (tp.same gg) mem gg fun v H2 g2 hv => ⟨acc, g2 _ _ hacc, by omega, same_put (gg.trans g2) hD, acc ++ [v], upd_same, by rw [List.length_append, la]; rfl, ?_⟩
    rw [List.take_add_one, hk, List.map_append]
    exact ((ma.grow (Grow.of g2)).snoc hv).grow (Grow.lst (g2 _ _ hacc))
  · obtain ⟨gg, acc, hacc, _, ma⟩ := q
    rw [len, List.take_length] at ma
    exact hd H acc gg hacc ma
/-- a walk over tuples of two nests: the values that p lets through -/
theorem maps_pd (p : Pr → Bool) (r : Pr → V) {xs : List V} {ps : List Pr} (w : Walk J xs.length G (YAt xs)) (hG : ∀ H, Same H1 H → G H) (hx : TpAll K H1 xs (ps.map pd)) (hz : xs.length ≤ sizeLine) (hD : H1 D = none)
    (ht : ∀ (a : Addr) (x y : V) (q : Pr) (H : Hp) (C : V → Hp → Prop) (N : Hp → Prop), SqT K H a [x, y] → Na K H x q.1 → Na K H y q.2 → q ∈ ps → Same H1 H → (p q = true → ∀ H2, Same H H2 → C (r q) H2) → (p q = false → ∀ H2, Same H H2 → N H2) →
      g (.ref a) (wipe σ vs) H fun σ2 H2 => wipe σ2 vs = wipe σ vs ∧ tt σ2 H2 fun b H3 => if b = true then te σ2 H3 C else N H3)
    (hd : ∀ H, Same H1 H → H D = some (.lst ((ps.filter p).map r)) → Qd H) :
    ∃ W : Nat → Nat → Hp → Prop, (∃ m, W 0 m (upd H1 D (.lst []))) ∧ ∀ i m H, W i m H →
      (J.stop i H ∧ Qd H) ∨ (J.go i H ∧ ∃ Nx : Hp → Prop, (∀ H', Nx H' → ∃ m', m' < m ∧ W (i + 1) m' H') ∧ ∀ x H', J.yld i H x H' → g x (wipe σ vs) H' fun σ2 H2 => wipe σ2 vs = wipe σ vs ∧ tt σ2 H2 fun b H3 =>
        if b = true then te σ2 H3 fun y H4 => ∃ acc, H4 D = some (.lst acc) ∧ acc.length < sizeLine ∧ Nx (upd H4 D (.lst (acc ++ [y]))) else Nx H3) := by
  have len := TpAll.len hx
  rw [List.length_map] at len
  refine lc_it w (Pv := fun i H => Same H1 H ∧ H D = some (.lst (((ps.take i).filter p).map r))) ⟨same_new hD _, upd_same⟩ (fun i H _ q => hG H q.1) (fun i x H H' hi q y => ?_) (fun H q => ?_)
  · obtain ⟨gg, hacc⟩ := q
    obtain ⟨rfl, hxi⟩ := y
    obtain ⟨d, hdi, tp⟩ := TpAll.get hx hxi
    rw [List.getElem?_map] at hdi
    cases eq : ps[i]? with
    | none => rw [eq] at hdi; cases hdi
    | some q =>
      rw [eq] at hdi
      cases hdi
      obtain ⟨a, x1, y1, rfl, hs, h1, h2⟩ := pd_open (tp.grow (Grow.of gg))
      have et : ps.take (i + 1) = ps.take i ++ [q] := by
        rw [List.take_add_one, eq]
        rfl
      refine ht a x1 y1 q H' _ _ hs h1 h2 (List.mem_of_getElem? eq) gg (fun hp H2 g2 => ⟨_, g2 _ _ hacc, ?_, same_put (gg.trans g2) hD, ?_⟩) fun hp H2 g2 => ⟨gg.trans g2, ?_⟩
      · have := List.length_filter_le p (ps.take i)
        rw [List.length_take] at this
        rw [List.length_map]
        omega
      · rw [upd_same, et, List.filter_append, List.map_append, List.filter_cons_of_pos hp, List.filter_nil]
        rfl
      · rw [et, List.filter_append, List.filter_cons_of_neg (by rw [hp]; exact Bool.false_ne_true), List.filter_nil, List.append_nil]
        exact g2 _ _ hacc
  · obtain ⟨gg, hacc⟩ := q
    rw [len, List.take_length] at hacc
    exact hd H gg hacc
/-- .. and new nests, one for each -/
theorem maps_pn (r : Pr → Nat) {xs : List V} {ps : List Pr} (w : Walk J xs.length G (YAt xs)) (hG : ∀ H, Same H1 H → G H) (hx : TpAll K H1 xs (ps.map pd)) (hz : xs.length ≤ sizeLine) (hD : H1 D = none)
    (ht : ∀ (a : Addr) (x y : V) (q : Pr) (H : Hp) (C : V → Hp → Prop), SqT K H a [x, y] → Na K H x q.1 → Na K H y q.2 → q ∈ ps → Same H1 H → (∀ v H2, Same H H2 → Na K H2 v (r q) → C v H2) → g (.ref a) (wipe σ vs) H fun σ2 H2 => wipe σ2 vs = wipe σ vs ∧ te σ2 H2 C)
    (hd : ∀ H acc, Same H1 H → H D = some (.lst acc) → NaAll K H acc (ps.map r) → Qd H) :
    ∃ W : Nat → Nat → Hp → Prop, (∃ m, W 0 m (upd H1 D (.lst []))) ∧ ∀ i m H, W i m H →
      (J.stop i H ∧ Qd H) ∨ (J.go i H ∧ ∃ Nx : Hp → Prop, (∀ H', Nx H' → ∃ m', m' < m ∧ W (i + 1) m' H') ∧ ∀ x H', J.yld i H x H' → g x (wipe σ vs) H' fun σ2 H2 => wipe σ2 vs = wipe σ vs ∧ tYes σ2 H2 fun b H3 =>
        if b = true then te σ2 H3 fun y H4 => ∃ acc, H4 D = some (.lst acc) ∧ acc.length < sizeLine ∧ Nx (upd H4 D (.lst (acc ++ [y]))) else Nx H3) := by
  have len := TpAll.len hx
  rw [List.length_map] at len
  refine lc_it w (Pv := fun i H => Same H1 H ∧ ∃ acc, H D = some (.lst acc) ∧ acc.length = i ∧ NaAll K H acc ((ps.take i).map r)) ⟨same_new hD _, [], upd_same, rfl, .nil⟩ (fun i H _ q => hG H q.1) (fun i x H H' hi q y => ?_) (fun H q => ?_)
  · obtain ⟨gg, acc, hacc, la, ma⟩ := q
    obtain ⟨rfl, hxi⟩ := y
    obtain ⟨d, hdi, tp⟩ := TpAll.get hx hxi
    rw [List.getElem?_map] at hdi
    cases eq : ps[i]? with
    | none => rw [eq] at hdi; cases hdi
    | some q =>
      rw [eq] at hdi
      cases hdi
      obtain ⟨a, x1, y1, rfl, hs, h1, h2⟩ := pd_open (tp.grow (Grow.of gg))
      refine ht a x1 y1 q H' _ hs h1 h2 (List.mem_of_getElem? eq) gg fun v H2 g2 hv => ⟨acc, g2 _ _ hacc, by omega, same_put (gg.trans g2) hD, acc ++ [v], upd_same, by rw [List.length_append, la]; rfl, ?_⟩
      rw [List.take_add_one, eq, List.map_append]
      exact (NaAll.cat (NaAll.same ma g2) (.cons hv .nil)).grow (Grow.lst (g2 _ _ hacc))
  · obtain ⟨gg, acc, hacc, _, ma⟩ := q
    rw [len, List.take_length] at ma
    exact hd H acc gg hacc ma
/-- .. how many are let through, each by a new value -/
theorem maps_many (p : Pr → Bool) {xs : List V} {ps : List Pr} (w : Walk J xs.length G (YAt xs)) (hG : ∀ H, Same H1 H → G H) (hx : TpAll K H1 xs (ps.map pd)) (hz : xs.length ≤ sizeLine) (hD : H1 D = none)
    (ht : ∀ (a : Addr) (x y : V) (q : Pr) (H : Hp) (C : V → Hp → Prop) (N : Hp → Prop), SqT K H a [x, y] → Na K H x q.1 → Na K H y q.2 → q ∈ ps → Same H1 H → (p q = true → ∀ v H2, Same H H2 → C v H2) → (p q = false → ∀ H2, Same H H2 → N H2) →
      g (.ref a) (wipe σ vs) H fun σ2 H2 => wipe σ2 vs = wipe σ vs ∧ tt σ2 H2 fun b H3 => if b = true then te σ2 H3 C else N H3)
    (hd : ∀ H acc, Same H1 H → H D = some (.lst acc) → acc.length = (ps.filter p).length → Qd H) :
    ∃ W : Nat → Nat → Hp → Prop, (∃ m, W 0 m (upd H1 D (.lst []))) ∧ ∀ i m H, W i m H →
      (J.stop i H ∧ Qd H) ∨ (J.go i H ∧ ∃ Nx : Hp → Prop, (∀ H', Nx H' → ∃ m', m' < m ∧ W (i + 1) m' H') ∧ ∀ x H', J.yld i H x H' → g x (wipe σ vs) H' fun σ2 H2 => wipe σ2 vs = wipe σ vs ∧ tt σ2 H2 fun b H3 =>
        if b = true then te σ2 H3 fun y H4 => ∃ acc, H4 D = some (.lst acc) ∧ acc.length < sizeLine ∧ Nx (upd H4 D (.lst (acc ++ [y]))) else Nx H3) := by
  have len := TpAll.len hx
  rw [List.length_map] at len
  refine lc_it w (Pv := fun i H => Same H1 H ∧ ∃ acc, H D = some (.lst acc) ∧ acc.length = ((ps.take i).filter p).length) ⟨same_new hD _, [], upd_same, rfl⟩ (fun i H _ q => hG H q.1) (fun i x H H' hi q y => ?_) (fun H q => ?_)
  · obtain ⟨gg, acc, hacc, la⟩ := q
    obtain ⟨rfl, hxi⟩ := y
    obtain ⟨d, hdi, tp⟩ := TpAll.get hx hxi
    rw [List.getElem?_map] at hdi
    cases eq : ps[i]? with
    | none => rw [eq] at hdi; cases hdi
    | some q =>
      rw [eq] at hdi
      cases hdi
      obtain ⟨a, x1, y1, rfl, hs, h1, h2⟩ := pd_open (tp.grow (Grow.of gg))
      have et : ps.take (i + 1) = ps.take i ++ [q] := by
        rw [List.take_add_one, eq]
        rfl
      refine ht a x1 y1 q H' _ _ hs h1 h2 (List.mem_of_getElem? eq) gg (fun hp v H2 g2 => ⟨acc, g2 _ _ hacc, ?_, same_put (gg.trans g2) hD, acc ++ [v], upd_same, ?_⟩) fun hp H2 g2 => ⟨gg.trans g2, acc, g2 _ _ hacc, ?_⟩
      · have := List.length_filter_le p (ps.take i)
        rw [List.length_take] at this
        omega
      · rw [et, List.filter_append, List.filter_cons_of_pos hp, List.filter_nil, List.length_append, List.length_append, la]
        rfl
      · rw [et, List.filter_append, List.filter_cons_of_neg (by rw [hp]; exact Bool.false_ne_true), List.filter_nil, List.append_nil]
        exact la
  · obtain ⟨gg, acc, hacc, la⟩ := q
    rw [len, List.take_length] at la
    exact hd H acc gg hacc la
end
/-- a list of tuples of two nests -/
theorem PaAt.all {K : PySem.W.Frag} {H : Hp} : ∀ {M : List (Pr × Addr)}, (∀ q ∈ M, PaAt K H q.1 (.ref q.2)) → TpAll K H (M.map fun q => V.ref q.2) ((M.map (·.1)).map pd)
  | [], _ => .nil
  | q :: M, h => .cons (h q List.mem_cons_self).1 (PaAt.all fun r hr => h r (List.mem_cons_of_mem _ hr))
theorem PaAt.same {K : PySem.W.Frag} {H H' : Hp} {p : Pr} {v : V} (h : PaAt K H p v) (g : Same H H') : PaAt K H' p v := ⟨h.1.grow (Grow.of g), h.2⟩
end Nk
namespace Nk
open PySem L2
def topS (i : Nat) : Stmt := PySem.Challenge.pw_nestsets_k07_whole_products_and_maps.main.body.getD i (.Pass ⟨0, 0, 0, 0⟩)
abbrev s_SetError : Stmt := topS 1
abbrev s_NoPair : Stmt := topS 2
abbrev s_rank_row : Stmt := topS 4
abbrev s_nest : Stmt := topS 5
abbrev s_pair : Stmt := topS 7
abbrev s_split : Stmt := topS 8
abbrev s_product : Stmt := topS 9
abbrev s_is_map : Stmt := topS 10
abbrev s_value : Stmt := topS 11
abbrev s_law_cell : Stmt := topS 13
abbrev s_law_mix : Stmt := topS 14
abbrev s_law_greater : Stmt := topS 15
abbrev s_law_greatest : Stmt := topS 16
abbrev s_law_nest : Stmt := topS 17
abbrev s_law_drawn : Stmt := topS 18
abbrev s_law_some : Stmt := topS 19
abbrev s_law_value : Stmt := topS 20
abbrev s_law_is_map : Stmt := topS 21
abbrev s_law : Stmt := topS 22
structure Top (K : PySem.W.Frag) (mg : Str → Option Value) (fs : Nat → Addr) (fds : Nat → FuncData) : Prop where
  rank_row : Df K mg "rank_row" s_rank_row ["one"] (fs 4) (fds 4)
  nest : Df K mg "nest" s_nest ["some"] (fs 5) (fds 5)
  pair : Df K mg "pair" s_pair ["one", "other"] (fs 7) (fds 7)
  split : Df K mg "split" s_split ["one"] (fs 8) (fds 8)
  product : Df K mg "product" s_product ["one", "other"] (fs 9) (fds 9)
  is_map : Df K mg "is_map" s_is_map ["one", "here", "there"] (fs 10) (fds 10)
  value : Df K mg "value" s_value ["one", "here"] (fs 11) (fds 11)
  law_cell : Df K mg "_law_cell" s_law_cell ["_law_script", "_law_k"] (fs 13) (fds 13)
  law_mix : Df K mg "_law_mix" s_law_mix ["_law_cell_here", "_law_prime", "_law_many"] (fs 14) (fds 14)
  law_greater : Df K mg "_law_greater" s_law_greater ["_law_one", "_law_other"] (fs 15) (fds 15)
  law_greatest : Df K mg "_law_greatest" s_law_greatest ["_law_some_here"] (fs 16) (fds 16)
  law_nest : Df K mg "_law_nest" s_law_nest ["_law_some_here"] (fs 17) (fds 17)
  law_drawn : Df K mg "_law_drawn" s_law_drawn ["_law_cell_here", "_law_deep"] (fs 18) (fds 18)
  law_some : Df K mg "_law_some" s_law_some ["_law_script", "_law_k", "_law_many"] (fs 19) (fds 19)
  law_value : Df K mg "_law_value" s_law_value ["_law_one", "_law_here"] (fs 20) (fds 20)
  law_is_map : Df K mg "_law_is_map" s_law_is_map ["_law_pairs", "_law_one", "_law_other", "_law_strange"] (fs 21) (fds 21)
  law : Df K mg "law" s_law ["_law_script"] (fs 22) (fds 22)
  z_tuple : mg "tuple" = none
  z_reversed : mg "reversed" = none
  z_sorted : mg "sorted" = none
  z_len : mg "len" = none
  z_range : mg "range" = none
  z_int : mg "int" = none
  z_isinstance : mg "isinstance" = none
  z_bool : mg "bool" = none
  z_all : mg "all" = none
  z_enumerate : mg "enumerate" = none
  z_list : mg "list" = none
  z_set : mg "set" = none
  z_ValueError : mg "ValueError" = none
  g_SetError : mg "SetError" = some (.ref (fs 1))
  g_NoPair : mg "NoPair" = some (.ref (fs 2))
  x_NoPair : XC K mg "NoPair" (fs 2) (fs 1)
def spLaw (K : PySem.W.Frag) : Sp := fun vs H Q _ => ∃ (a : Addr) (ns : List Int), vs = [.ref a] ∧ SqL K H a (ns.map V.int) ∧ ns.length ≤ 63 ∧ ∀ H', Q (.bl true) H'
section
variable {P : Program} {w : World} {K : PySem.W.Frag} {mg : Str → Option Value} {base : Heap}
theorem sc_rank_row : FnScope ["one", "member"] ["one"] (defScope s_rank_row) := ⟨rfl, rfl, rfl, by decide +kernel, rfl, by decide +kernel, by decide +kernel⟩
theorem rank_step {D : Nat} {f : Addr} {fd : FuncData} (F : Df K mg "rank_row" s_rank_row ["one"] f fd) (G : FnOk P w K mg base CX0 D f fd ["one"] (spRk K D)) (zt : mg "tuple" = none) (zr : mg "reversed" = none) :
    FnOk P w K mg base CX0 (D + 1) f fd ["one"] (spRk K (D + 1)) := by
  refine F.fn.ok sc_rank_row (fun vs H Q E h => ?_) (fun cdv A outer s H vs Q E hr h => ?_)
  · obtain ⟨v, n, rfl, _⟩ := h
    rfl
  obtain ⟨v, n, rfl, hn, dn, q⟩ := h
  obtain ⟨a, xs, rfl, hs, hx⟩ := hn.tup
  refine ⟨_, pss_one (ps_ret (pe_callTy call_tuple_of rfl zt PyProof.Rows.boot_tuple (pa_cons (pe_lc (own := [("member", 1)]) (g := gName 1) (tt := tYes) rfl sc_rank_row.nd (RT.pi_revA rfl zr (pe_z (pv 0)))
    (blkOk_by (N := ["one", "member"]) (sc := defScope s_rank_row) (by decide +kernel)) (fun _ _ _ _ _ => pg_name (i := 1) sc_rank_row.nd rfl (Or.inl rfl)) (fun _ _ _ _ _ => pts_nil)
    (fun _ _ _ _ _ => pe_call G hr rfl F.nm F.fn.kp F.bd .nil pass0 (pa_cons (pv 1) pa_nil))) pa_nil))), ?_⟩
  refine ⟨_, rfl, fun hz => ⟨a, xs, rfl, .inr ⟨hs, fun D' hD => lc_revT (Pv := fun i H' => Same H H' ∧ ∃ acc, H' D' = some (.lst acc) ∧ acc.length = i ∧ TpAll K H' acc (((bits n).reverse.take i).map rkd)) ⟨same_new hD _, [], upd_same, rfl, by rw [List.take_zero]; exact .nil⟩ (fun i H' _ p => sqT_same p.1 hs) (fun i x H' hi p => ?_) (fun H' p => ?_)⟩⟩⟩
  · obtain ⟨g, acc, hacc, lacc, tacc⟩ := p
    have hxr : NaAll K H xs.reverse (bits n).reverse := by
      have rv : ∀ {vs : List V} {ns : List Nat}, NaAll K H vs ns → NaAll K H vs.reverse ns.reverse := by
        intro vs ns h
        induction vs generalizing ns with
        | nil => cases ns with
          | nil => exact .nil
          | cons _ _ => cases h
        | cons v vs ih => cases ns with
          | nil => cases h
          | cons m ns =>
            cases h with
            | cons h1 h2 =>
              rw [List.reverse_cons, List.reverse_cons]
              show TpAll K H _ (List.map dat (ns.reverse ++ [m]))
              rw [List.map_append]
              exact (ih h2).app (.cons h1 .nil)
      exact rv hx
    obtain ⟨d, hd, tp⟩ := hxr.get hi
    rw [List.getElem?_map] at hd
    cases hb : (bits n).reverse[i]? with
    | none => rw [hb] at hd; cases hd
    | some k =>
      rw [hb] at hd
      cases hd
      have hk : k ∈ bits n := List.mem_reverse.mp (List.mem_of_getElem? hb)
      have hil : i < xs.length := by
        have := (List.getElem?_eq_some_iff.mp hi).1
        rw [List.length_reverse] at this
        exact this
      refine ⟨rfl, ?_⟩
      skip
      refine ⟨_, rfl, x, k, rfl, tp.grow (Grow.of g), by have := dep_mem hk; omega, fun r H2 g2 tr => ⟨acc, g2 _ _ hacc, ?_, same_put (g.trans g2) hD, acc ++ [r], upd_same, by rw [List.length_append, lacc]; rfl, ?_⟩⟩
      · have := hz a xs rfl (.inl hs)
        omega
      · have et : (bits n).reverse.take (i + 1) = (bits n).reverse.take i ++ [k] := by rw [List.take_add_one, hb]; rfl
        rw [et, List.map_append]
        exact ((tacc.grow (Grow.of g2)).app (.cons tr .nil)).grow (Grow.lst (g2 _ _ hacc))
  · obtain ⟨g, acc, hacc, lacc, tacc⟩ := p
    refine ⟨D', acc, rfl, .inl ⟨SqL.of hacc, fun l hl => q _ _ (g.trans (same_new hl _)) ?_⟩⟩
    have el : (bits n).reverse.take xs.length = (bits n).reverse := by
      have := hx.len
      rw [List.length_map] at this
      rw [this]
      exact List.take_of_length_le (by rw [List.length_reverse]; exact Nat.le_refl _)
    rw [el] at tacc
    rw [rkd_eq]
    exact .tup (SqT.of upd_same) (tacc.grow (Grow.new hl))
theorem rank_ok {f : Addr} {fd : FuncData} (F : Df K mg "rank_row" s_rank_row ["one"] f fd) (zt : mg "tuple" = none) (zr : mg "reversed" = none) : ∀ D : Nat, FnOk P w K mg base CX0 D f fd ["one"] (spRk K D)
  | 0 => no_calls (fun vs H Q E h => by obtain ⟨_, _, _, _, d, _⟩ := h; omega) 0
  | D + 1 => rank_step F (rank_ok F zt zr D) zt zr
/-- nest(some): some a tuple of nests, each at most 7 levels deep -/
def spNest (K : PySem.W.Frag) : Sp := fun vs H Q _ => ∃ a xs ns, vs = [.ref a] ∧ SqT K H a xs ∧ NaAll K H xs ns ∧ (∀ k ∈ ns, dep k ≤ 7) ∧ ∀ r H', Same H H' → Na K H' r (mk ns) → Q r H'
theorem sc_nest : FnScope ["some", "found", "one"] ["some"] (defScope s_nest) := ⟨rfl, rfl, rfl, by decide +kernel, rfl, by decide +kernel, by decide +kernel⟩
theorem nest_ok {f g : Addr} {fd gd : FuncData} (F : Df K mg "nest" s_nest ["some"] f fd) (R : Df K mg "rank_row" s_rank_row ["one"] g gd) (zt : mg "tuple" = none) (zr : mg "reversed" = none) (zs : mg "sorted" = none) :
    FnOk P w K mg base CX0 11 f fd ["some"] (spNest K) := by
  have G0 := rank_ok (P := P) (w := w) (base := base) R zt zr 8
  have G : FnOk P w K mg base CX0 8 g gd ["one"] (spRank K 7) := G0.imp fun vs H Q E ⟨v, n, e, hn, d, q⟩ => ⟨v, n, e, hn, by omega, q⟩
  refine F.fn.ok sc_nest (fun vs H Q E h => ?_) (fun cdv A outer s H vs Q E hr h => ?_)
  · obtain ⟨a, xs, ns, rfl, _⟩ := h
    rfl
  obtain ⟨a, xs, ns, rfl, hs, hx, hd7, q⟩ := h
  have hln : xs.length = ns.length := by
    have := hx.len
    rw [List.length_map] at this
    exact this
  refine ⟨_, pss_cons (ps_set (i := 1) sc_nest.nd rfl (Or.inl rfl) pe_dnewN) (pss_cons (ps_for PassesOwn.never rfl (pi_tup (pe_z (pv 0))) (pg_name (i := 2) sc_nest.nd rfl (Or.inl rfl))
      (pss_one (ps_asg pe_bl (pg_sub (pv 1) (pv 2) (set_nd (hu16 hr))))))
    (pss_one (ps_ret (pe_callTy call_tuple_of rfl zt PyProof.Rows.boot_tuple (pa_cons (pe_callBK (cr_sortedN rfl G hr R.bd) rfl zs PyProof.Rows.boot_sorted (pa_cons (pv 1) pa_nil) (pk_cons (pe_glob rfl R.nm (show RelV (.ref g) (.ref g) from rfl)) pk_nil)) pa_nil))))), ?_⟩
  intro d hd
  refine ⟨_, rfl, fun hz => ⟨a, rfl, ⟨xs, sqT_same (same_new hd _) hs⟩, for_tup (K := K) (a := a) (xs := xs) (fun i σ H' => ∃ v ks, σ = [some (.ref a), some (.ref d), v] ∧ Same H H' ∧ H' d = some (ND P w d ks) ∧ KeysOk K H' ks ∧ (∀ k, k ∈ ks.map (·.1) ↔ k ∈ ns.take i) ∧ ks.length ≤ i)
    ⟨none, [], rfl, same_new hd _, upd_same, ⟨fun p hp => (by cases hp), List.nodup_nil⟩, fun k => by simp, Nat.zero_le _⟩ (fun i σ H' _ p => by obtain ⟨_, _, _, g, _⟩ := p; exact sqT_same g hs) ?_ ?_⟩⟩
  · rintro i x σ H' hi ⟨v, ks, rfl, gg, hdd, hk, hm, hl⟩
    obtain ⟨dd, hdt, tp⟩ := hx.get hi
    rw [List.getElem?_map] at hdt
    cases hb : ns[i]? with
    | none => rw [hb] at hdt; cases hdt
    | some k =>
      rw [hb] at hdt
      cases hdt
      have tp' : Na K H' x k := tp.grow (Grow.of gg)
      obtain ⟨b, ys, rfl, hbs, hys⟩ := tp'.tup
      have hlen := hz a xs rfl (.inl (sqT_same (same_new hd _) hs))
      have hi' : i < xs.length := (List.getElem?_eq_some_iff.mp hi).1
      have hk7 := hd7 k (List.mem_of_getElem? hb)
      refine ⟨_, rfl, _, rfl, d, b, k, ks, rfl, rfl, rfl, hdd, hk, tp', hk7, by omega, ?_⟩
      have grw : Grow K H' (upd H' d (ND P w d (putN ks k b))) := nd_grow hdd
      refine ⟨_, putN ks k b, rfl, same_put gg hd, upd_same, (hk.put tp' hk7).grow grw, fun m => ?_, ?_⟩
      · have et : ns.take (i + 1) = ns.take i ++ [k] := by rw [List.take_add_one, hb]; rfl
        rw [mem_putN, hm, et, List.mem_append, List.mem_singleton]
      · have := putN_len ks k b
        omega
  · rintro σ H' ⟨v, ks, rfl, gg, hdd, hk, hm, hl⟩
    have hlen := hz a xs rfl (.inl (sqT_same (same_new hd _) hs))
    refine ⟨_, rfl, d, ks, rfl, rfl, hdd, hk, by omega, fun H2 p qs g2 np pm sr => ⟨p, _, rfl, .inl ⟨SqL.of upd_same, fun l hl2 => q _ _ (gg.trans (g2.trans ((same_new np _).trans (same_new hl2 _)))) ?_⟩⟩⟩
    have eb : qs.map (·.1) = bits (mk ns) := bits_of (List.pairwise_map.mpr sr) fun k => by
      rw [testBit_mk, (pm.map (·.1)).mem_iff, hm, hln, List.take_length]
    have gr : Grow K H' (upd (upd H2 p (.lst (qs.map fun q => V.ref q.2))) l (.tup (qs.map fun q => V.ref q.2))) := (Grow.of g2).trans ((Grow.new np).trans (Grow.new hl2))
    refine Na.of (SqT.of upd_same) ?_
    rw [← eb]
    have e1 : (qs.map fun q => V.ref q.2) = (qs.map fun q => (q.1, V.ref q.2)).map (·.2) := by rw [List.map_map]; rfl
    have e2 : qs.map (·.1) = (qs.map fun q => (q.1, V.ref q.2)).map (·.1) := by rw [List.map_map]; rfl
    rw [e2]
    show TpAll K _ (qs.map fun q => V.ref q.2) _
    generalize upd (upd H2 p (.lst (qs.map fun q => V.ref q.2))) l (.tup (qs.map fun q => V.ref q.2)) = Hf at gr ⊢
    rw [e1]
    refine TpAll.of (f := dat) fun pr hpr => ?_
    obtain ⟨x, hxm, rfl⟩ := List.mem_map.mp hpr
    exact (hk.1 x (pm.mem_iff.mp hxm)).1.grow gr
/-- greater(one, other): at most d - 1 levels deep -/
def spGr (K : PySem.W.Frag) (d : Nat) : Sp := fun vs H Q _ => ∃ x y a b, vs = [x, y] ∧ Na K H x a ∧ Na K H y b ∧ dep a < d ∧ dep b < d ∧ d ≤ 60 ∧ ∀ H', Same H H' → Q (.bl (decide (b < a))) H'
/-- greatest(some): one of them, none is greater -/
def spGt (K : PySem.W.Frag) (d : Nat) : Sp := fun vs H Q _ => ∃ l xs ns, vs = [.ref l] ∧ SqL K H l xs ∧ NaAll K H xs ns ∧ ns ≠ [] ∧ (∀ k ∈ ns, dep k < d) ∧ d ≤ 60 ∧ ∀ x m H', Same H H' → Na K H' x m → m ∈ ns → (∀ k ∈ ns, k ≤ m) → Q x H'
theorem sc_law_greatest : FnScope ["_law_some_here", "_law_found", "_law_one"] ["_law_some_here"] (defScope s_law_greatest) := ⟨rfl, rfl, rfl, by decide +kernel, rfl, by decide +kernel, by decide +kernel⟩
theorem sc_law_greater : FnScope ["_law_one", "_law_other", "_law_mine", "_law_yours", "_law_member"] ["_law_one", "_law_other"] (defScope s_law_greater) := ⟨rfl, rfl, rfl, by decide +kernel, rfl, by decide +kernel, by decide +kernel⟩
theorem greatest_step {d : Nat} {f g : Addr} {fd gd : FuncData} (F : Df K mg "_law_greatest" s_law_greatest ["_law_some_here"] f fd) (R : Df K mg "_law_greater" s_law_greater ["_law_one", "_law_other"] g gd) (G : FnOk P w K mg base CX0 (2 * d) g gd ["_law_one", "_law_other"] (spGr K d)) :
    FnOk P w K mg base CX0 (2 * d + 1) f fd ["_law_some_here"] (spGt K d) := by
  refine F.fn.ok sc_law_greatest (fun vs H Q E h => ?_) (fun cdv A outer s H vs Q E hr h => ?_)
  · obtain ⟨l, xs, ns, rfl, _⟩ := h
    rfl
  obtain ⟨l, xs, ns, rfl, hs, hx, hne, hd, h60, q⟩ := h
  refine ⟨_, pss_cons (ps_set (i := 1) sc_law_greatest.nd rfl (Or.inl rfl) (pe_ix ix_list (pv 0) pe_int (fun _ _ => rfl)))
    (pss_cons (ps_for PassesOwn.never rfl (pi_list (pv 0)) (pg_name (i := 2) sc_law_greatest.nd rfl (Or.inl rfl))
      (pss_one (ps_if (pt_val (pe_call G hr rfl R.nm R.fn.kp R.bd .nil pass0 (pa_cons (pv 2) (pa_cons (pv 1) pa_nil)))) (pss_one (ps_set (i := 1) sc_law_greatest.nd rfl (Or.inl rfl) (pv 2))) pss_nil)))
    (pss_one (ps_ret (pv 1)))), ?_⟩
  obtain ⟨m0, ms, rfl⟩ : ∃ m ms, ns = m :: ms := by
    cases ns with
    | nil => exact absurd rfl hne
    | cons m ms => exact ⟨m, ms, rfl⟩
  obtain ⟨x0, hx0, hn0⟩ := hx.get' (j := 0) (d := dat m0) rfl
  refine ⟨_, rfl, l, xs, 0, x0, rfl, rfl, hs, atI_nat hx0, ?_⟩
  refine ⟨_, rfl, l, rfl, ⟨xs, hs⟩, for_list (K := K) (a := l) (xs := xs) (fun i σ H' => ∃ y v m, σ = [some (.ref l), some y, v] ∧ Same H H' ∧ Na K H' y m ∧ m ∈ m0 :: ms ∧ ∀ k ∈ (m0 :: ms).take i, k ≤ m)
    ⟨x0, none, m0, rfl, Same.refl H, hn0, List.mem_cons_self, fun k hk => (by rw [List.take_zero] at hk; cases hk)⟩ (fun i σ H' _ p => by obtain ⟨_, _, _, _, g, _⟩ := p; exact g.seq hs) ?_ ?_⟩
  · rintro i x σ H' hi ⟨y, v, m, rfl, gg, hy, hm, hmx⟩
    obtain ⟨dd, hdt, tp⟩ := hx.get hi
    rw [List.getElem?_map] at hdt
    cases hb : (m0 :: ms)[i]? with
    | none => rw [hb] at hdt; cases hdt
    | some k =>
      rw [hb] at hdt
      cases hdt
      have hkm : k ∈ m0 :: ms := List.mem_of_getElem? hb
      have et : (m0 :: ms).take (i + 1) = (m0 :: ms).take i ++ [k] := by rw [List.take_add_one, hb]; rfl
      refine ⟨_, rfl, _, rfl, x, y, k, m, rfl, tp.grow (Grow.of gg), hy, hd k hkm, hd m hm, h60, fun H2 g2 => ⟨_, rfl, ?_⟩⟩
      refine ite_bl (fun c => ?_) (fun c => ?_)
      · have c' : m < k := of_decide_eq_true c
        refine ⟨_, rfl, x, _, k, rfl, gg.trans g2, (tp.grow (Grow.of gg)).grow (Grow.of g2), hkm, fun j hj => ?_⟩
        rw [et] at hj
        rcases List.mem_append.mp hj with hj | hj
        · exact Nat.le_trans (hmx j hj) (Nat.le_of_lt c')
        · rw [List.mem_singleton.mp hj]; exact Nat.le_refl _
      · have c' : ¬ m < k := of_decide_eq_false c
        refine ⟨y, _, m, rfl, gg.trans g2, hy.grow (Grow.of g2), hm, fun j hj => ?_⟩
        rw [et] at hj
        rcases List.mem_append.mp hj with hj | hj
        · exact hmx j hj
        · rw [List.mem_singleton.mp hj]; omega
  · rintro σ H' ⟨y, v, m, rfl, gg, hy, hm, hmx⟩
    have hl : xs.length = (m0 :: ms).length := by
      have := hx.len
      rw [List.length_map] at this
      exact this
    rw [hl, List.take_length] at hmx
    exact ⟨y, rfl, q y m H' gg hy hm hmx⟩
theorem greater_step {d : Nat} {f g : Addr} {fd gd : FuncData} (F : Df K mg "_law_greater" s_law_greater ["_law_one", "_law_other"] f fd) (T : Df K mg "_law_greatest" s_law_greatest ["_law_some_here"] g gd)
    (GF : FnOk P w K mg base CX0 (2 * d) f fd ["_law_one", "_law_other"] (spGr K d)) (GT : FnOk P w K mg base CX0 (2 * d + 1) g gd ["_law_some_here"] (spGt K d)) (zl : mg "len" = none) :
    FnOk P w K mg base CX0 (2 * d + 1 + 1) f fd ["_law_one", "_law_other"] (spGr K (d + 1)) := by
  refine F.fn.ok sc_law_greater (fun vs H Q E h => ?_) (fun cdv A outer s H vs Q E hr h => ?_)
  · obtain ⟨x, y, a, b, rfl, _⟩ := h
    rfl
  obtain ⟨x, y, na, nb, rfl, hx, hy, da, db, d60, q⟩ := h
  obtain ⟨a, xs, rfl, sx, mx⟩ := hx.tup
  obtain ⟨b, ys, rfl, sy, my⟩ := hy.tup
  have dA : ∀ k ∈ bits na, dep k < d := fun k hk => by have := dep_mem hk; omega
  have dB : ∀ k ∈ bits nb, dep k < d := fun k hk => by have := dep_mem hk; omega
  refine ⟨_, pss_cons (ps_setLc (i := 2) (own := [("_law_member", 4)]) (g := gName 4) rfl sc_law_greater.nd rfl rfl (sw_true rfl rfl rfl (by decide +kernel)) (pi_tup (pe_z (pv 0))) (blkOk_by (N := ["_law_one", "_law_other", "_law_mine", "_law_yours", "_law_member"]) (sc := defScope s_law_greater) (by decide +kernel))
      (fun _ _ _ _ _ => pg_name (i := 4) sc_law_greater.nd rfl (Or.inl rfl)) (fun _ _ _ _ _ => pts_one (pt_cmpR (onotin (K := K) hr) (pv 4) (pv 1) (by rfl))) (fun _ _ _ _ _ => pv 4))
    (pss_cons (ps_setLc (i := 3) (own := [("_law_member", 4)]) (g := gName 4) rfl sc_law_greater.nd rfl rfl (sw_true rfl rfl rfl (by decide +kernel)) (pi_tup (pe_z (pv 1))) (blkOk_by (N := ["_law_one", "_law_other", "_law_mine", "_law_yours", "_law_member"]) (sc := defScope s_law_greater) (by decide +kernel))
      (fun _ _ _ _ _ => pg_name (i := 4) sc_law_greater.nd rfl (Or.inl rfl)) (fun _ _ _ _ _ => pts_one (pt_cmpR (onotin (K := K) hr) (pv 4) (pv 0) (by rfl))) (fun _ _ _ _ _ => pv 4))
    (pss_cons (ps_if (PW.pt (pw_or (pt_not (pt_truth (pv 2) (by intro _; rfl))) (pw_or1 (pt_not (pt_truth (pv 3) (by intro _; rfl)))))) (pss_one (ps_ret (pe_cmpR op_gt (pe_callB call_len_seq rfl zl PySem.boot_len (pa_cons (pv 2) pa_nil)) pe_int (nomark _)))) pss_nil)
    (pss_one (ps_ret (pe_call GF (hr.mono (by omega)) rfl F.nm F.fn.kp F.bd .nil pass0 (pa_cons (pe_call GT hr rfl T.nm T.fn.kp T.bd .nil pass0 (pa_cons (pv 2) pa_nil)) (pa_cons (pe_call GT hr rfl T.nm T.fn.kp T.bd .nil pass0 (pa_cons (pv 3) pa_nil)) pa_nil))))))), ?_⟩
  refine ⟨_, rfl, fun hz => ⟨a, rfl, ⟨xs, sx⟩, fun D1 n1 => lcf_tup (ns := bits na) (fun k => !decide (k ∈ bits nb)) sx mx (hz a xs rfl (.inl sx)) n1 (fun x k H' C N tp hk gg c1 c2 => ?_) (fun H1 acc1 g1 e1 t1 l1 => ?_)⟩⟩
  · refine ⟨rfl, x, rfl, _, rfl, in_turn (.inr sy) my (fun m hm => by have := dB m hm; omega) tp (by have := dA k hk; omega) gg ⟨_, rfl, ?_⟩⟩
    exact ite_bl (fun c => ⟨x, rfl, c1 c _ (Same.refl _)⟩) (fun c => c2 c _ (Same.refl _))
  refine ⟨_, rfl, fun hz2 => ⟨b, rfl, ⟨ys, sqT_same g1 sy⟩, fun D2 n2 => lcf_tup (ns := bits nb) (fun k => !decide (k ∈ bits na)) (sqT_same g1 sy) (my.grow (Grow.of g1)) (hz2 b ys rfl (.inl (sqT_same g1 sy))) n2 (fun x k H' C N tp hk gg c1 c2 => ?_) (fun H2 acc2 g2 e2 t2 l2 => ?_)⟩⟩
  · refine ⟨rfl, x, rfl, _, rfl, in_turn (.inr (sqT_same g1 sx)) (mx.grow (Grow.of g1)) (fun m hm => by have := dA m hm; omega) tp (by have := dB k hk; omega) gg ⟨_, rfl, ?_⟩⟩
    exact ite_bl (fun c => ⟨x, rfl, c1 c _ (Same.refl _)⟩) (fun c => c2 c _ (Same.refl _))
  have e1' : H2 D1 = some (.lst acc1) := g2 _ _ e1
  have t1' : NaAll K H2 acc1 ((bits na).filter fun k => !decide (k ∈ bits nb)) := t1.grow (Grow.of g2)
  have ln1 : acc1.length = ((bits na).filter fun k => !decide (k ∈ bits nb)).length := by have := t1.len; rw [List.length_map] at this; exact this
  have ln2 : acc2.length = ((bits nb).filter fun k => !decide (k ∈ bits na)).length := by have := t2.len; rw [List.length_map] at this; exact this
  have mm : ∀ k, k ∈ ((bits na).filter fun k => !decide (k ∈ bits nb)) ↔ k ∈ bits na ∧ k ∉ bits nb := fun k => by simp
  have my' : ∀ k, k ∈ ((bits nb).filter fun k => !decide (k ∈ bits na)) ↔ k ∈ bits nb ∧ k ∉ bits na := fun k => by simp
  have stop : ∀ (R : Prop), ((bits na).filter (fun k => !decide (k ∈ bits nb)) = [] ∨ (bits nb).filter (fun k => !decide (k ∈ bits na)) = []) → decide ((0 : Int) < (acc1.length : Int)) = decide (nb < na) := fun _ h => by
    rcases h with h | h
    · have z : ¬ nb < na := gt_no_mine fun k hk => by
        refine Classical.byContradiction fun z => ?_
        have q := (mm k).mpr ⟨hk, z⟩
        rw [h] at q
        cases q
      rw [ln1, h]
      simp [z]
    · by_cases e : (bits na).filter (fun k => !decide (k ∈ bits nb)) = []
      · have z : ¬ nb < na := gt_no_mine fun k hk => by
          refine Classical.byContradiction fun z => ?_
          have q := (mm k).mpr ⟨hk, z⟩
          rw [e] at q
          cases q
        rw [ln1, e]
        simp [z]
      · obtain ⟨k, hk⟩ := List.exists_mem_of_ne_nil _ e
        have z : nb < na := gt_no_yours (fun k hk => by
          refine Classical.byContradiction fun z => ?_
          have q := (my' k).mpr ⟨hk, z⟩
          rw [h] at q
          cases q) ⟨k, (mm k).mp hk⟩
        have lp : 0 < ((bits na).filter fun k => !decide (k ∈ bits nb)).length := List.length_pos_of_mem hk
        rw [ln1]
        simp only [z, decide_true]
        exact decide_eq_true (by omega)
  have final : ∀ {b : Bool} {H' : Hp}, Same H H' → b = decide (nb < na) → Q (.bl b) H' := fun g e => by rw [e]; exact q _ g
  have G2 : Same H H2 := g1.trans g2
  refine ⟨_, rfl, !acc1.isEmpty, .inl ⟨acc1, SqL.of e1', rfl⟩, ?_⟩
  refine ite_bl (fun c => ?_) (fun c => ?_)
  · refine ⟨_, rfl, D1, acc1, rfl, .inl (SqL.of e1'), _, _, rfl, rfl, final G2 (stop True (.inl ?_))⟩
    have hz : acc1 = [] := by simpa using c
    exact List.eq_nil_of_length_eq_zero (by rw [← ln1, hz]; rfl)
  · have ne1 : acc1 ≠ [] := by simpa using c
    refine ⟨_, rfl, !acc2.isEmpty, .inl ⟨acc2, SqL.of e2, rfl⟩, ?_⟩
    refine ite_bl (fun c => ?_) (fun c => ?_)
    · refine ⟨_, rfl, D1, acc1, rfl, .inl (SqL.of e1'), _, _, rfl, rfl, final G2 (stop True (.inr ?_))⟩
      have hz : acc2 = [] := by simpa using c
      exact List.eq_nil_of_length_eq_zero (by rw [← ln2, hz]; rfl)
    · have ne2 : acc2 ≠ [] := by simpa using c
      have n1' : (bits na).filter (fun k => !decide (k ∈ bits nb)) ≠ [] := fun z => ne1 (List.eq_nil_of_length_eq_zero (by rw [ln1, z]; rfl))
      have n2' : (bits nb).filter (fun k => !decide (k ∈ bits na)) ≠ [] := fun z => ne2 (List.eq_nil_of_length_eq_zero (by rw [ln2, z]; rfl))
      refine ⟨_, rfl, D1, acc1, _, rfl, SqL.of e1', t1', n1', fun k hk => dA k ((mm k).mp hk).1, by omega, fun x m H3 g3 hx3 hm3 mx3 => ?_⟩
      refine ⟨_, rfl, D2, acc2, _, rfl, SqL.of (g3 _ _ e2), t2.grow (Grow.of g3), n2', fun k hk => dB k ((my' k).mp hk).1, by omega, fun y m' H4 g4 hy4 hm4 mx4 => ?_⟩
      refine ⟨x, y, m, m', rfl, hx3.grow (Grow.of g4), hy4, dA m ((mm m).mp hm3).1, dB m' ((my' m').mp hm4).1, by omega, fun H5 g5 => final (G2.trans (g3.trans (g4.trans g5))) ?_⟩
      exact (gt_of_top ((mm m).mp hm3) ((my' m').mp hm4) (fun k h1 h2 => mx3 k ((mm k).mpr ⟨h1, h2⟩)) (fun k h1 h2 => mx4 k ((my' k).mpr ⟨h1, h2⟩))).symm
theorem greater_ok {f g : Addr} {fd gd : FuncData} (F : Df K mg "_law_greater" s_law_greater ["_law_one", "_law_other"] f fd) (T : Df K mg "_law_greatest" s_law_greatest ["_law_some_here"] g gd) (zl : mg "len" = none) :
    ∀ d : Nat, FnOk P w K mg base CX0 (2 * d) f fd ["_law_one", "_law_other"] (spGr K d)
  | 0 => no_calls (fun vs H Q E h => by obtain ⟨_, _, _, _, _, _, _, d, _⟩ := h; omega) 0
  | d + 1 => greater_step F T (greater_ok F T zl d) (greatest_step T F (greater_ok F T zl d)) zl
/-- the law's own nest(some): a list or a tuple of nests at most d - 1 levels deep -/
def spLn (K : PySem.W.Frag) (d : Nat) : Sp := fun vs H Q _ => ∃ a xs ns, vs = [.ref a] ∧ Sq K H a xs ∧ NaAll K H xs ns ∧ (∀ k ∈ ns, dep k < d) ∧ d ≤ 60 ∧ ∀ r H', Same H H' → Na K H' r (mk ns) → Q r H'
theorem sc_law_nest : FnScope ["_law_some_here", "_law_found", "_law_one", "_law_at", "_law_other"] ["_law_some_here"] (defScope s_law_nest) := ⟨rfl, rfl, rfl, by decide +kernel, rfl, by decide +kernel, by decide +kernel⟩
theorem law_nest_ok {d : Nat} {f g : Addr} {fd gd : FuncData} (F : Df K mg "_law_nest" s_law_nest ["_law_some_here"] f fd) (R : Df K mg "_law_greater" s_law_greater ["_law_one", "_law_other"] g gd) (G : FnOk P w K mg base CX0 (2 * d) g gd ["_law_one", "_law_other"] (spGr K d))
    (zl : mg "len" = none) (zt : mg "tuple" = none) : FnOk P w K mg base CX0 (2 * d + 1) f fd ["_law_some_here"] (spLn K d) := by
  refine F.fn.ok sc_law_nest (fun vs H Q E h => ?_) (fun cdv A outer s H vs Q E hr h => ?_)
  · obtain ⟨l, xs, ns, rfl, _⟩ := h
    rfl
  obtain ⟨a, xs, ns, rfl, hs, hx, hd, h60, q⟩ := h
  refine ⟨_, pss_cons (ps_set (i := 1) sc_law_nest.nd rfl (Or.inl rfl) (pe_lst pa_nil))
    (pss_cons (ps_for PassesOwn.never rfl (pi_seq (pe_z (pv 0))) (pg_name (i := 2) sc_law_nest.nd rfl (Or.inr rfl))
      (pss_one (ps_if (pt_cmpR (onotin (K := K) hr) (pv 2) (pv 1) (by rfl))
        (pss_cons (ps_set (i := 3) sc_law_nest.nd rfl (Or.inl rfl) (pe_callB call_len_seq rfl zl PySem.boot_len (pa_cons (pe_lc (own := [("_law_other", 4)]) (g := gName 4) rfl sc_law_nest.nd (pi_list (pe_z (pv 1))) (blkOk_by (N := ["_law_some_here", "_law_found", "_law_one", "_law_at", "_law_other"]) (sc := defScope s_law_nest) (by decide +kernel))
            (fun _ _ _ _ _ => pg_name (i := 4) sc_law_nest.nd rfl (Or.inl rfl)) (fun _ _ _ _ _ => pts_one (pt_val (pe_call G hr rfl R.nm R.fn.kp R.bd .nil pass0 (pa_cons (pv 2) (pa_cons (pv 4) pa_nil))))) (fun _ _ _ _ _ => pv 4)) pa_nil)))
        (pss_one (ps_expr (pe_bm PySem.F.plainAttrs_list PySem.F.slot_list_insert PySem.F.type_list_insert mt_insert (pv 1) (pa_cons (pv 3) (pa_cons (pv 2) pa_nil)))))) pss_nil)))
    (pss_one (ps_ret (pe_callTy call_tuple_of rfl zt PyProof.Rows.boot_tuple (pa_cons (pv 1) pa_nil))))), ?_⟩
  refine ⟨(by show 0 ≤ sizeLine; decide), fun F1 nF => ?_⟩
  have s0 : Same H (upd H F1 (.lst [])) := same_new nF _
  have dms : ∀ {ms : List Nat} {i : Nat}, (∀ k, k ∈ ms ↔ k ∈ ns.take i) → ∀ m ∈ ms, dep m < d := fun h m hm => hd m (List.mem_of_mem_take ((h m).mp hm))
  refine ⟨_, rfl, fun hz => ⟨a, xs, rfl, for_seq hs s0 (fun i σ H' => ∃ v1 v2 acc ms, σ = [some (.ref a), some (.ref F1), v1, v2, none] ∧ Same H H' ∧ H' F1 = some (.lst acc) ∧ NaAll K H' acc ms ∧ ms.Pairwise (· < ·) ∧ (∀ k, k ∈ ms ↔ k ∈ ns.take i) ∧ acc.length ≤ i)
    ⟨none, none, [], [], rfl, s0, upd_same, .nil, List.Pairwise.nil, fun k => by simp, Nat.zero_le _⟩ (fun i σ H' p => by obtain ⟨_, _, _, _, _, g, _⟩ := p; exact g) ?_ ?_⟩⟩
  · rintro i x σ H' hi ⟨v1, v2, acc, ms, rfl, gg, hF, hms, hasc, hmem, hl⟩
    obtain ⟨dd, hdt, tp⟩ := hx.get hi
    rw [List.getElem?_map] at hdt
    cases hb : ns[i]? with
    | none => rw [hb] at hdt; cases hdt
    | some m =>
      rw [hb] at hdt
      cases hdt
      have et : ns.take (i + 1) = ns.take i ++ [m] := by rw [List.take_add_one, hb]; rfl
      have dm := hd m (List.mem_of_getElem? hb)
      have tp' : Na K H' x m := tp.grow (Grow.of gg)
      have hxl := hz a xs rfl ((hs.same s0).symm)
      have hil : i < xs.length := (List.getElem?_eq_some_iff.mp hi).1
      refine ⟨_, rfl, _, rfl, in_turn (neg := true) (.inl (SqL.of hF)) hms (fun k hk => by have := dms hmem k hk; omega) tp' (by omega) (Same.refl _) ⟨_, rfl, ?_⟩⟩
      refine ite_bl (fun c => ?_) (fun c => ?_)
      · have nm : m ∉ ms := by simpa using c
        refine ⟨_, rfl, fun hz2 => ⟨F1, rfl, ⟨acc, SqL.of hF⟩, fun D1 n1 => lcf_list (ns := ms) (fun k => decide (k < m)) (SqL.of hF) hms (by omega) n1 (fun y k H2 C N tk hk g2 c1 c2 => ?_) (fun H2 ac2 g2 e2 t2 l2 => ?_)⟩⟩
        · refine ⟨rfl, _, rfl, _, rfl, x, y, m, k, rfl, tp'.grow (Grow.of g2), tk, dm, dms hmem k hk, h60, fun H3 g3 => ⟨_, rfl, ?_⟩⟩
          exact ite_bl (fun c => ⟨y, rfl, c1 c _ g3⟩) (fun c => c2 c _ g3)
        · have ll : ac2.length = (ms.filter fun k => decide (k < m)).length := by have := t2.len; rw [List.length_map] at this; exact this
          have hF2 : H2 F1 = some (.lst acc) := g2 _ _ hF
          have line : (sizeLine : Nat) < 2 ^ 63 := line63
          refine ⟨D1, ac2, rfl, .inl (SqL.of e2), _, rfl, .inl ⟨rfl, acc, SqL.of hF2⟩, _, rfl, _, rfl, F1, acc, _, x, rfl, rfl, hF2, by omega, by omega, by omega, ?_⟩
          have hms2 : NaAll K H2 acc ms := hms.grow (Grow.of g2)
          have tk2 : Na K H2 x m := tp'.grow (Grow.of g2)
          have e0 : ((ac2.length : Int)).toNat = (ms.filter fun k => decide (k < m)).length := by omega
          have lam : acc.length = ms.length := by have := hms.len; rw [List.length_map] at this; exact this
          refine ⟨_, _, _, insN ms m, rfl, same_put (gg.trans g2) nF, upd_same, ?_, insN_asc hasc nm, fun k => ?_, ?_⟩
          · rw [e0]
            have cut : ∀ (n : Nat) (vs : List V) (ls : List Nat), NaAll K H2 vs ls → NaAll K H2 (vs.take n) (ls.take n) ∧ NaAll K H2 (vs.drop n) (ls.drop n) := by
              intro n
              induction n with
              | zero => intro vs ls h; exact ⟨.nil, h⟩
              | succ n ih =>
                intro vs ls h
                cases vs with
                | nil => cases ls with
                  | nil => exact ⟨.nil, .nil⟩
                  | cons _ _ => cases h
                | cons v vs => cases ls with
                  | nil => cases h
                  | cons l ls =>
                    cases h with
                    | cons h1 h2 => exact ⟨.cons h1 (ih vs ls h2).1, (ih vs ls h2).2⟩
            obtain ⟨c1, c2⟩ := cut (ms.filter fun k => decide (k < m)).length acc ms hms2
            have whole : NaAll K H2 (acc.take (ms.filter fun k => decide (k < m)).length ++ [x] ++ acc.drop (ms.filter fun k => decide (k < m)).length) (insN ms m) := by
              unfold insN
              show TpAll K H2 _ (List.map dat _)
              rw [List.map_append, List.map_cons, List.append_assoc]
              exact c1.app (.cons tk2 c2)
            exact whole.grow (Grow.lst hF2)
          · rw [mem_insN hasc, hmem, et, List.mem_append, List.mem_singleton]
          · simp only [List.length_append, List.length_take, List.length_drop, List.length_singleton]
            omega
      · have nm : m ∈ ms := by simpa using c
        refine ⟨_, _, acc, ms, rfl, gg, hF, hms, hasc, fun k => ?_, by omega⟩
        rw [et, List.mem_append, List.mem_singleton, hmem]
        exact ⟨.inl, fun z => z.elim id fun z => z ▸ (hmem m).mp nm⟩
  · rintro σ H' ⟨v1, v2, acc, ms, rfl, gg, hF, hms, hasc, hmem, hl⟩
    have hln : xs.length = ns.length := by
      have := hx.len
      rw [List.length_map] at this
      exact this
    refine ⟨_, rfl, F1, acc, rfl, .inl ⟨SqL.of hF, fun l hl2 => q _ _ (gg.trans (same_new hl2 _)) ?_⟩⟩
    have eb : ms = bits (mk ns) := bits_of hasc fun k => by rw [testBit_mk, hmem, hln, List.take_length]
    rw [eb] at hms
    exact Na.of (SqT.of upd_same) (hms.grow (Grow.new hl2))
/-- mix(cell, prime, many) -/
def spMix : Sp := fun vs H Q _ => ∃ c p m : Int, vs = [.int c, .int p, .int m] ∧ 0 < p ∧ 0 < m ∧ Q (.int (c * 48271 % p % m)) H
theorem sc_law_mix : FnScope ["_law_cell_here", "_law_prime", "_law_many"] ["_law_cell_here", "_law_prime", "_law_many"] (defScope s_law_mix) := ⟨rfl, rfl, rfl, by decide +kernel, rfl, by decide +kernel, by decide +kernel⟩
theorem law_mix_ok {f : Addr} {fd : FuncData} (F : Df K mg "_law_mix" s_law_mix ["_law_cell_here", "_law_prime", "_law_many"] f fd) : FnOk P w K mg base CX0 1 f fd ["_law_cell_here", "_law_prime", "_law_many"] spMix := by
  refine F.fn.ok sc_law_mix (fun vs H Q E h => ?_) (fun cdv A outer s H vs Q E hr h => ?_)
  · obtain ⟨c, p, m, rfl, _⟩ := h
    rfl
  obtain ⟨c, p, m, rfl, hp, hm, q⟩ := h
  refine ⟨_, pss_one (ps_ret (pe_op op_mod (pe_op op_mod (pe_op op_mul (pv 0) pe_int) (pv 1)) (pv 2))), ?_⟩
  exact ⟨_, rfl, _, _, rfl, rfl, .inr ⟨by decide, by decide⟩, _, rfl, _, _, rfl, rfl, hp, _, rfl, _, _, rfl, rfl, hm, q⟩
/-- drawn(cell, deep): some nest of at most so many levels -/
def spDr (K : PySem.W.Frag) (d : Nat) : Sp := fun vs H Q _ => ∃ (c : Int) (m : Nat), vs = [.int c, .int (m : Int)] ∧ m < d ∧ ∀ r n H', Same H H' → Na K H' r n → dep n ≤ m → Thin 3 n → Q r H'
theorem sc_law_drawn : FnScope ["_law_cell_here", "_law_deep", "_law_found", "_law_k", "_law_less"] ["_law_cell_here", "_law_deep"] (defScope s_law_drawn) := ⟨rfl, rfl, rfl, by decide +kernel, rfl, by decide +kernel, by decide +kernel⟩
theorem drawn_step {d : Nat} {f fm fn : Addr} {fd md nd : FuncData} (F : Df K mg "_law_drawn" s_law_drawn ["_law_cell_here", "_law_deep"] f fd) (G : FnOk P w K mg base CX0 (100 + d) f fd ["_law_cell_here", "_law_deep"] (spDr K d))
    (M : Df K mg "_law_mix" s_law_mix ["_law_cell_here", "_law_prime", "_law_many"] fm md) (GM : FnOk P w K mg base CX0 1 fm md ["_law_cell_here", "_law_prime", "_law_many"] spMix)
    (N : Df K mg "_law_nest" s_law_nest ["_law_some_here"] fn nd) (GN : FnOk P w K mg base CX0 100 fn nd ["_law_some_here"] (spLn K 40)) (hd40 : d < 40) (zg : mg "range" = none) (zi : mg "int" = none) :
    FnOk P w K mg base CX0 (100 + d + 1) f fd ["_law_cell_here", "_law_deep"] (spDr K (d + 1)) := by
  refine F.fn.ok sc_law_drawn (fun vs H Q E h => ?_) (fun cdv A outer s H vs Q E hr h => ?_)
  · obtain ⟨c, m, rfl, _⟩ := h
    rfl
  obtain ⟨c, m, rfl, hm, q⟩ := h
  refine ⟨_, pss_cons (ps_set (i := 2) sc_law_drawn.nd rfl (Or.inl rfl) (pe_lst pa_nil))
    (pss_cons (ps_if (pt_cmpR op_gt (pv 1) pe_int (nomark _))
      (pss_one (ps_for PassesOwn.never rfl (pi_range1 rfl zg (pa_cons (pe_call GM (hr.mono (by omega)) rfl M.nm M.fn.kp M.bd .nil pass0 (pa_cons (pv 0) (pa_cons pe_int (pa_cons pe_int pa_nil)))) pa_nil)) (pg_name (i := 3) sc_law_drawn.nd rfl (Or.inl rfl))
        (pss_cons (ps_set (i := 4) sc_law_drawn.nd rfl (Or.inl rfl) (pe_op op_add pe_int (pe_op op_mul (pe_call GM (hr.mono (by omega)) rfl M.nm M.fn.kp M.bd .nil pass0 (pa_cons (pe_op op_add (pv 0) (pv 3)) (pa_cons pe_int (pa_cons pe_int pa_nil))))
            (pe_callTy call_int1 rfl zi PyProof.Rows.boot_int (pa_cons (pe_cmpR op_gt (pv 1) pe_int (nomark _)) pa_nil)))))
        (pss_one (ps_expr (pe_bm PySem.F.plainAttrs_list PySem.F.slot_list_append PySem.F.type_list_append mt_append (pv 2) (pa_cons (pe_call G hr rfl F.nm F.fn.kp F.bd .nil pass0
            (pa_cons (pe_op op_add (pe_op op_add (pe_op op_mul (pv 0) pe_int) (pe_op op_mul pe_int (pv 3))) pe_int) (pa_cons (pe_op op_sub (pv 1) (pv 4)) pa_nil))) pa_nil))))))) pss_nil)
    (pss_one (ps_ret (pe_call GN (hr.mono (by omega)) rfl N.nm N.fn.kp N.bd .nil pass0 (pa_cons (pv 2) pa_nil))))), ?_⟩
  refine ⟨(by show 0 ≤ sizeLine; decide), fun L nL => ?_⟩
  have s0 : Same H (upd H L (.lst [])) := same_new nL _
  have last : ∀ (H' : Hp) (acc : List V) (ms : List Nat), Same H H' → H' L = some (.lst acc) → NaAll K H' acc ms → (∀ k ∈ ms, dep k + 1 ≤ m ∧ Thin 3 k) → ms.length ≤ 3 → spLn K 40 [.ref L] H' Q E0 := fun H' acc ms gg hL hms hdm hl3 =>
    ⟨L, acc, ms, rfl, .inl (SqL.of hL), hms, fun k hk => by have := (hdm k hk).1; omega, by decide, fun r H2 g2 hn => q r _ H2 (gg.trans g2) hn (dep_mk fun k hk => (hdm k hk).1) (thin_mk hl3 fun k hk => (hdm k hk).2)⟩
  refine ⟨_, rfl, _, _, rfl, rfl, _, rfl, ?_⟩
  refine ite_bl (fun c0 => ?_) (fun c0 => ?_)
  · have c0' : (0 : Int) < (m : Int) := of_decide_eq_true c0
    have mb : ∀ c : Int, 0 ≤ c * 48271 % 9973 % 4 ∧ c * 48271 % 9973 % 4 < 4 := fun c => ⟨Int.emod_nonneg _ (by decide), Int.emod_lt_of_pos _ (by decide)⟩
    refine ⟨_, rfl, c, 9973, 4, rfl, by decide, by decide, _, rfl, by have := mb c; omega, by have := mb c; omega, for_range (n := (c * 48271 % 9973 % 4).toNat) (lo := 0) (fun i σ H' => ∃ v1 v2 acc ms, σ = [some (.int c), some (.int m), some (.ref L), v1, v2] ∧ Same H H' ∧ H' L = some (.lst acc) ∧ NaAll K H' acc ms ∧ (∀ k ∈ ms, dep k + 1 ≤ m ∧ Thin 3 k) ∧ ms.length = i ∧ acc.length = i)
      ⟨none, none, [], [], rfl, s0, upd_same, .nil, fun k hk => (by cases hk), rfl, rfl⟩ ?_ ?_⟩
    · rintro i σ H' hi ⟨v1, v2, acc, ms, rfl, gg, hL, hms, hdm, hl1, hl2⟩
      have hi3 : i < 3 + 1 := by have := mb c; omega
      refine ⟨_, rfl, _, rfl, _, _, rfl, rfl, c + (0 + (i : Int)), 9967, 2, rfl, by decide, by decide, ?_⟩
      generalize hx : (c + (0 + (i : Int))) * 48271 % 9967 % 2 = x
      have hx2 : 0 ≤ x ∧ x < 2 := by rw [← hx]; exact ⟨Int.emod_nonneg _ (by decide), Int.emod_lt_of_pos _ (by decide)⟩
      refine ⟨_, rfl, _, _, rfl, rfl, .inr ⟨_, rfl, x, _, rfl, rfl, .inl ⟨by omega, by omega⟩, _, _, rfl, rfl, ?_⟩⟩
      -- less: 1 or 2, at most deep
      obtain ⟨l, hl, l1, lm⟩ : ∃ l : Nat, (1 : Int) + x * (if decide ((1 : Int) < (m : Int)) = true then 1 else 0) = (l : Int) ∧ 1 ≤ l ∧ l ≤ m := by
        by_cases e : (1 : Int) < (m : Int)
        · have e' : decide ((1 : Int) < (m : Int)) = true := decide_eq_true e
          rw [if_pos e', Int.mul_one]
          exact ⟨(1 + x).toNat, by omega, by omega, by omega⟩
        · have e' : ¬ decide ((1 : Int) < (m : Int)) = true := by simp [e]
          rw [if_neg e', Int.mul_zero]
          exact ⟨1, by omega, by omega, by omega⟩
      refine gname_at (congrArg V.int hl) ?_
      refine ⟨_, rfl, .inl ⟨rfl, acc, SqL.of hL⟩, _, rfl, _, _, rfl, rfl, .inr ⟨by decide, by decide⟩, _, rfl, _, _, rfl, rfl, .inl ⟨by decide, by decide⟩, _, _, rfl, rfl, _, _, rfl, rfl, _, rfl, _, rfl, _, _, rfl, rfl, ?_⟩
      refine ⟨c * 3 + 7 * (0 + (i : Int)) + 1, m - l, ?_, by omega, fun r n H2 g2 hn dn ln => ?_⟩
      · have e : (m : Int) - (l : Int) = ((m - l : Nat) : Int) := by omega
        show [V.int (c * 3 + 7 * (0 + (i : Int)) + 1), V.int ((m : Int) - (l : Int))] = _
        rw [e]
      · have hL2 : H2 L = some (.lst acc) := g2 _ _ hL
        refine ⟨L, acc, r, rfl, rfl, hL2, smaller (by omega), ?_⟩
        refine ⟨_, _, acc ++ [r], ms ++ [n], rfl, same_put (gg.trans g2) nL, upd_same, ?_, fun k hk => ?_, by rw [List.length_append, hl1]; rfl, by rw [List.length_append, hl2]; rfl⟩
        · show TpAll K _ _ (List.map dat _)
          rw [List.map_append]
          exact ((hms.grow (Grow.of g2)).app (.cons hn .nil)).grow (Grow.lst hL2)
        · rcases List.mem_append.mp hk with hk | hk
          · exact hdm k hk
          · rw [List.mem_singleton.mp hk]
            exact ⟨by omega, ln⟩
    · rintro σ H' ⟨v1, v2, acc, ms, rfl, gg, hL, hms, hdm, hl1, hl2⟩
      exact ⟨_, rfl, last H' acc ms gg hL hms hdm (by have := mb c; omega)⟩
  · exact ⟨_, rfl, last _ [] [] s0 upd_same .nil (fun k hk => by cases hk) (by decide)⟩
theorem drawn_ok {f fm fn : Addr} {fd md nd : FuncData} (F : Df K mg "_law_drawn" s_law_drawn ["_law_cell_here", "_law_deep"] f fd)
    (M : Df K mg "_law_mix" s_law_mix ["_law_cell_here", "_law_prime", "_law_many"] fm md) (N : Df K mg "_law_nest" s_law_nest ["_law_some_here"] fn nd) (GN : FnOk P w K mg base CX0 100 fn nd ["_law_some_here"] (spLn K 40)) (zg : mg "range" = none) (zi : mg "int" = none) :
    ∀ d : Nat, d ≤ 40 → FnOk P w K mg base CX0 (100 + d) f fd ["_law_cell_here", "_law_deep"] (spDr K d)
  | 0, _ => no_calls (fun vs H Q E h => by obtain ⟨_, _, _, d, _⟩ := h; omega) _
  | d + 1, h => drawn_step F (drawn_ok F M N GN zg zi d (by omega)) M (law_mix_ok M) N GN (by omega) zg zi
/-- some(script, k, many): nests of at most four levels, and the empty one behind them -/
def spSome (K : PySem.W.Frag) : Sp := fun vs H Q _ => ∃ (a : Addr) (k m : Nat) (ns : List Int), vs = [.ref a, .int (k : Int), .int (m : Int)] ∧ SqL K H a (ns.map V.int) ∧ ns.length ≤ 63 ∧ m ≤ 100 ∧
  ∀ r H' xs ms, Same H H' → H' r = some (.lst xs) → NaAll K H' xs (ms ++ [0]) → (∀ n ∈ ms, dep n ≤ 4 ∧ (bits n).length ≤ 3) → ms.length ≤ m → (∀ n ∈ ms, Thin 3 n) → Q (.ref r) H'
theorem sc_law_some : FnScope ["_law_script", "_law_k", "_law_many", "_law_cell_here"] ["_law_script", "_law_k", "_law_many"] (defScope s_law_some) := ⟨rfl, rfl, rfl, by decide +kernel, rfl, by decide +kernel, by decide +kernel⟩
theorem law_some_ok {f g : Addr} {fd gd : FuncData} (F : Df K mg "_law_some" s_law_some ["_law_script", "_law_k", "_law_many"] f fd) (R : Df K mg "_law_drawn" s_law_drawn ["_law_cell_here", "_law_deep"] g gd) (G : FnOk P w K mg base CX0 105 g gd ["_law_cell_here", "_law_deep"] (spDr K 5)) :
    FnOk P w K mg base CX0 106 f fd ["_law_script", "_law_k", "_law_many"] (spSome K) := by
  refine F.fn.ok sc_law_some (fun vs H Q E h => ?_) (fun cdv A outer s H vs Q E hr h => ?_)
  · obtain ⟨c, k, m, ns, rfl, _⟩ := h
    rfl
  obtain ⟨a, k, m, ns, rfl, hS, h63, hm, q⟩ := h
  refine ⟨_, pss_one (ps_ret (pe_op op_cat (pe_lc (own := [("_law_cell_here", 3)]) (g := gName 3) (tt := tYes) rfl sc_law_some.nd (pi_list (pe_slice sl_list (pv 0) (po_some (pv 1)) (po_some (pe_op op_add (pv 1) (pv 2)))))
      (blkOk_by (N := ["_law_script", "_law_k", "_law_many", "_law_cell_here"]) (sc := defScope s_law_some) (by decide +kernel)) (fun _ _ _ _ _ => pg_name (i := 3) sc_law_some.nd rfl (Or.inl rfl)) (fun _ _ _ _ _ => pts_nil)
      (fun _ _ _ _ _ => pe_call G hr rfl R.nm R.fn.kp R.bd .nil pass0 (pa_cons (pv 3) (pa_cons (pe_op op_add pe_int (pe_op op_mod (pv 3) pe_int)) pa_nil))))
    (pe_lst (pa_cons (pe_tup pa_nil) pa_nil)))), ?_⟩
  refine ⟨_, rfl, _, rfl, _, rfl, _, rfl, _, rfl, _, _, rfl, rfl, _, rfl, a, _, rfl, hS, fun p np => ?_⟩
  have ej : (k : Int) + (m : Int) = ((k + m : Nat) : Int) := by omega
  have cut : ∃ cs : List Int, cutV (ns.map V.int) (some (k : Int)) (some ((k : Int) + (m : Int))) = cs.map V.int ∧ cs.length ≤ m := by
    rw [ej]
    unfold cutV
    rw [HT.sIx_nat, HT.sIx_nat]
    refine ⟨(ns.drop (min k (ns.map V.int).length)).take (min (k + m) (ns.map V.int).length - min k (ns.map V.int).length), by rw [List.map_take, List.map_drop], ?_⟩
    rw [List.length_take]
    omega
  obtain ⟨cs, ec, lc⟩ := cut
  rw [ec]
  have s0 : Same H (upd H p (.lst (cs.map V.int))) := same_new np _
  have hp : (upd H p (.lst (cs.map V.int))) p = some (.lst (cs.map V.int)) := upd_same
  generalize upd H p (.lst (cs.map V.int)) = H1 at s0 hp
  refine ⟨p, rfl, ⟨_, SqL.of hp⟩, fun D nD => lc_list (K := K) (a := p) (xs := cs.map V.int) (fun i H' => Same H1 H' ∧ ∃ acc ms, H' D = some (.lst acc) ∧ NaAll K H' acc ms ∧ (∀ n ∈ ms, dep n ≤ 4 ∧ Thin 3 n) ∧ ms.length = i ∧ acc.length = i)
    ⟨same_new nD _, [], [], upd_same, .nil, fun n hn => (by cases hn), rfl, rfl⟩ (fun i H' _ q => q.1.seq (SqL.of hp)) ?_ ?_⟩
  · rintro i x H' hi ⟨gg, acc, ms, hacc, hms, hd, l1, l2⟩
    have hil : i < cs.length := by
      have := (List.getElem?_eq_some_iff.mp hi).1
      rw [List.length_map] at this
      exact this
    obtain ⟨c, rfl⟩ : ∃ c, x = V.int c := by
      rw [List.getElem?_map, List.getElem?_eq_getElem hil] at hi
      exact ⟨_, (Option.some.inj hi).symm⟩
    have cm : 0 ≤ c % 4 ∧ c % 4 < 4 := ⟨Int.emod_nonneg _ (by decide), Int.emod_lt_of_pos _ (by decide)⟩
    have e1 : (1 : Int) + c % 4 = (((1 : Int) + c % 4).toNat : Int) := by omega
    refine ⟨rfl, ?_⟩
    refine ⟨_, rfl, _, rfl, _, _, rfl, rfl, (by show (0 : Int) < 4; decide), _, _, rfl, rfl, ?_⟩
    refine ⟨c, ((1 : Int) + c % 4).toNat, ?_, by omega, fun r n H2 g2 hn dn ln => ?_⟩
    · show [V.int c, V.int (1 + c % 4)] = _
      rw [← e1]
    · have h2 : H2 D = some (.lst acc) := g2 _ _ hacc
      refine ⟨acc, h2, smaller (by omega), same_put (gg.trans g2) nD, acc ++ [r], ms ++ [n], upd_same, ?_, fun k hk => ?_, by rw [List.length_append, l1]; rfl, by rw [List.length_append, l2]; rfl⟩
      · show TpAll K _ _ (List.map dat _)
        rw [List.map_append]
        exact ((hms.grow (Grow.of g2)).app (.cons hn .nil)).grow (Grow.lst h2)
      · rcases List.mem_append.mp hk with hk | hk
        · exact hd k hk
        · rw [List.mem_singleton.mp hk]
          exact ⟨by omega, ln⟩
  · rintro H' ⟨gg, acc, ms, hacc, hms, hd, l1, l2⟩
    rw [List.length_map] at l1 l2
    refine ⟨(by show 0 ≤ sizeLine; decide), fun z nz => ⟨(by show 1 ≤ sizeLine; decide), fun b nb => ?_⟩⟩
    have h2 : (upd H' z (.tup [])) D = some (.lst acc) := same_new nz _ _ _ hacc
    refine ⟨D, b, acc, _, rfl, rfl, same_new nb _ _ _ h2, upd_same, small (by simp only [List.length_singleton]; omega), fun r nr => ?_⟩
    have hz : (upd (upd (upd H' z (.tup [])) b (.lst [.ref z])) r (.lst (acc ++ [.ref z]))) z = some (.tup []) := same_new nr _ _ _ (same_new nb _ _ _ upd_same)
    have g3 : Same H' (upd (upd (upd H' z (.tup [])) b (.lst [.ref z])) r (.lst (acc ++ [.ref z]))) := (same_new nz _).trans ((same_new nb _).trans (same_new nr _))
    refine q r _ (acc ++ [.ref z]) ms (s0.trans (gg.trans g3)) upd_same ?_ (fun n hn => ⟨(hd n hn).1, (hd n hn).2.len⟩) (by omega) fun n hn => (hd n hn).2
    show TpAll K _ _ (List.map dat _)
    rw [List.map_append]
    exact (hms.grow (Grow.of g3)).app (.cons (Na.of (n := 0) (SqT.of hz) .nil) .nil)
section
variable {fs : Nat → Addr} {fds : Nat → FuncData} (T : Top K mg fs fds)
include T
theorem lawnest_ok : FnOk P w K mg base CX0 100 (fs 17) (fds 17) ["_law_some_here"] (spLn K 40) :=
  (law_nest_ok T.law_nest T.law_greater (greater_ok T.law_greater T.law_greatest T.z_len 40) T.z_len T.z_tuple).mono (show 2 * 40 + 1 ≤ 100 by decide)
theorem some_ok : FnOk P w K mg base CX0 106 (fs 19) (fds 19) ["_law_script", "_law_k", "_law_many"] (spSome K) :=
  law_some_ok T.law_some T.law_drawn (drawn_ok T.law_drawn T.law_mix T.law_nest (lawnest_ok T) T.z_range T.z_int 5 (by decide))
end
theorem nestT {fs : Nat → Addr} {fds : Nat → FuncData} (T : Top K mg fs fds) : FnOk P w K mg base CX0 11 (fs 5) (fds 5) ["some"] (spNest K) := nest_ok T.nest T.rank_row T.z_tuple T.z_reversed T.z_sorted
def spCell (K : PySem.W.Frag) : Sp := fun vs H Q _ => ∃ (a : Addr) (ns : List Int) (k : Nat), vs = [.ref a, .int (k : Int)] ∧ SqL K H a (ns.map V.int) ∧ ∀ c, Q (.int c) H
theorem sc_law_cell : FnScope ["_law_script", "_law_k"] ["_law_script", "_law_k"] (defScope s_law_cell) := ⟨rfl, rfl, rfl, by decide +kernel, rfl, by decide +kernel, by decide +kernel⟩
theorem cell_ok {fs : Nat → Addr} {fds : Nat → FuncData} (T : Top K mg fs fds) : FnOk P w K mg base CX0 1 (fs 13) (fds 13) ["_law_script", "_law_k"] (spCell K) := by
  refine T.law_cell.fn.ok sc_law_cell (fun vs H Q E h => ?_) (fun cdv A outer s H vs Q E hr h => ?_)
  · obtain ⟨a, ns, k, rfl, _⟩ := h
    rfl
  obtain ⟨a, ns, k, rfl, hs, q⟩ := h
  refine ⟨_, pss_cons (ps_if (pt_cmpR op_lt (pv 1) (pe_callB call_len_seq rfl T.z_len PySem.boot_len (pa_cons (pv 0) pa_nil)) (nomark _)) (pss_one (ps_ret (pe_ix ix_list (pv 0) (pv 1) (fun _ _ => rfl)))) pss_nil)
    (pss_one (ps_ret pe_int)), ?_⟩
  refine ⟨_, rfl, _, rfl, a, _, rfl, .inl hs, _, _, rfl, rfl, _, rfl, ?_⟩
  refine ite_bl (fun c => ?_) (fun c => q 0)
  have c' : (k : Int) < ((ns.map V.int).length : Int) := of_decide_eq_true c
  rw [List.length_map] at c'
  have hk : k < ns.length := by omega
  exact ⟨_, rfl, _, rfl, a, _, _, .int ns[k], rfl, rfl, hs, atI_nat (by rw [List.getElem?_map, List.getElem?_eq_getElem hk]; rfl), q _⟩
/-- pair(one, other) -/
def spPair (K : PySem.W.Frag) (D : Nat) : Sp := fun vs H Q _ => ∃ x y a b, vs = [x, y] ∧ Na K H x a ∧ Na K H y b ∧ dep a ≤ D ∧ dep b ≤ D ∧ ∀ r H', Same H H' → Na K H' r (pairN a b) → Q r H'
theorem sc_pair : FnScope ["one", "other"] ["one", "other"] (defScope s_pair) := ⟨rfl, rfl, rfl, by decide +kernel, rfl, by decide +kernel, by decide +kernel⟩
theorem pair_ok {fs : Nat → Addr} {fds : Nat → FuncData} (T : Top K mg fs fds) : FnOk P w K mg base CX0 12 (fs 7) (fds 7) ["one", "other"] (spPair K 6) := by
  have GN := nestT (P := P) (w := w) (base := base) T
  refine T.pair.fn.ok sc_pair (fun vs H Q E h => ?_) (fun cdv A outer s H vs Q E hr h => ?_)
  · obtain ⟨x, y, a, b, rfl, _⟩ := h
    rfl
  obtain ⟨x, y, a, b, rfl, hx, hy, da, db, q⟩ := h
  refine ⟨_, pss_one (ps_ret (pe_call GN hr rfl T.nest.nm T.nest.fn.kp T.nest.bd .nil pass0 (pa_cons (pe_tup (pa_cons (pe_tup (pa_cons (pv 0) pa_nil)) (pa_cons (pe_call GN hr rfl T.nest.nm T.nest.fn.kp T.nest.bd .nil pass0 (pa_cons (pe_tup (pa_cons (pv 0) (pa_cons (pv 1) pa_nil))) pa_nil)) pa_nil))) pa_nil))), ?_⟩
  refine ⟨_, rfl, (by show 1 ≤ sizeLine; decide), fun t1 n1 => ?_⟩
  have s1 := same_new n1 (.tup [x])
  refine ⟨_, rfl, _, rfl, (by show 2 ≤ sizeLine; decide), fun t2 n2 => ?_⟩
  have s2 := same_new n2 (.tup [x, y])
  have G2 := s1.trans s2
  refine ⟨t2, [x, y], [a, b], rfl, SqT.of upd_same, .cons (hx.same G2) (.cons (hy.same G2) .nil), fun k hk => ?_, fun r H1 g1 hr1 => ?_⟩
  · rcases List.mem_cons.mp hk with rfl | hk
    · omega
    · rw [List.mem_singleton.mp hk]; omega
  refine ⟨(by show 2 ≤ sizeLine; decide), fun t3 n3 => ?_⟩
  have s3 := same_new n3 (.tup [.ref t1, r])
  have G3 := s2.trans (g1.trans s3)
  have h1 : Na K _ (.ref t1) (mk [a]) := Na.of (SqT.of (G3 _ _ upd_same)) (by rw [bits_one]; exact .cons (hx.same (s1.trans G3)) .nil)
  refine ⟨t3, [.ref t1, r], [mk [a], mk [a, b]], rfl, SqT.of upd_same, .cons h1 (.cons (hr1.same s3) .nil), fun k hk => ?_, fun r2 H2 g2 hr2 => q r2 H2 (s1.trans (G3.trans g2)) hr2⟩
  rcases List.mem_cons.mp hk with rfl | hk
  · exact dep_mk fun j hj => by rw [List.mem_singleton.mp hj]; omega
  · rw [List.mem_singleton.mp hk]
    exact dep_mk fun j hj => by
      rcases List.mem_cons.mp hj with rfl | hj
      · omega
      · rw [List.mem_singleton.mp hj]; omega
/-- split(one): a pair's parts, or None -/
def spSplit (K : PySem.W.Frag) : Sp := fun vs H Q _ => ∃ v n, vs = [v] ∧ Na K H v n ∧ dep n ≤ 8 ∧ (∀ a b r x y H', n = pairN a b → Same H H' → H' r = some (.tup [x, y]) → Na K H' x a → Na K H' y b → Q (.ref r) H') ∧ (¬ IsPair n → ∀ H', Same H H' → Q .non H')
theorem sc_split : FnScope ["one", "alone", "part", "member", "last"] ["one"] (defScope s_split) := ⟨rfl, rfl, rfl, by decide +kernel, rfl, by decide +kernel, by decide +kernel⟩
theorem split_ok {fs : Nat → Addr} {fds : Nat → FuncData} (T : Top K mg fs fds) : FnOk P w K mg base CX0 13 (fs 8) (fds 8) ["one"] (spSplit K) := by
  have GP := pair_ok (P := P) (w := w) (base := base) T
  refine T.split.fn.ok sc_split (fun vs H Q E h => ?_) (fun cdv A outer s H vs Q E hr h => ?_)
  · obtain ⟨x, a, rfl, _⟩ := h
    rfl
  obtain ⟨v, n, rfl, hn, d8, qy, qn⟩ := h
  obtain ⟨p, xs, rfl, sx, mx⟩ := hn.tup
  have lx := NaAll.ln mx
  refine ⟨_, pss_cons (ps_setLc (i := 1) (own := [("member", 3)]) (g := gName 3) rfl sc_split.nd rfl rfl (sw_true rfl rfl rfl (by decide +kernel)) (pi_tup (pe_z (pv 0))) (blkOk_by (N := ["one", "alone", "part", "member", "last"]) (sc := defScope s_split) (by decide +kernel)) (fun _ _ _ _ _ => pg_name (i := 3) sc_split.nd rfl (Or.inl rfl)) (fun _ _ _ _ _ => pts_one (pt_cmpR op_eq (pe_callB (olen (K := K)) rfl T.z_len PySem.boot_len (pa_cons (pv 3) pa_nil)) pe_int (nomark _))) (fun _ _ _ _ _ => pv 3))
    (pss_cons (ps_for PassesOwn.never rfl (pi_list (pe_z (pv 1))) (pg_name (i := 2) sc_split.nd rfl (Or.inl rfl)) (pss_one (ps_for PassesOwn.never rfl (pi_tup (pe_z (pv 0))) (pg_name (i := 3) sc_split.nd rfl (Or.inl rfl)) (pss_one (ps_for PassesOwn.never rfl (pi_tup (pe_z (pv 3))) (pg_name (i := 4) sc_split.nd rfl (Or.inl rfl)) (pss_one (ps_if (pt_cmpR (oeq (K := K) hr) (pe_call GP hr rfl T.pair.nm T.pair.fn.kp T.pair.bd .nil pass0 (pa_cons (pe_ix ix_tup (pv 2) pe_int (fun _ _ => rfl)) (pa_cons (pv 4) pa_nil))) (pv 0) (nomark _)) (pss_one (ps_ret (pe_tup (pa_cons (pe_ix ix_tup (pv 2) pe_int (fun _ _ => rfl)) (pa_cons (pv 4) pa_nil))))) pss_nil)))))))
    (pss_one (ps_ret pe_non))), ?_⟩
  refine ⟨_, rfl, fun hz => ⟨p, rfl, ⟨xs, sx⟩, fun A1 nA => lcf_tup (ns := bits n) (fun k => decide (V.int ((bits k).length : Int) = V.int 1)) sx mx (hz p xs rfl (.inl sx)) nA (fun x k H' C N tp hk gg c1 c2 => ?_) (fun H1 al g1 hA mal lal => ?_)⟩⟩
  · obtain ⟨b, ys, rfl, sy, my⟩ := tp.tup
    have ly := NaAll.ln my
    refine ⟨rfl, _, rfl, b, ys, rfl, .inr sy, rfl, _, rfl, ?_⟩
    rw [ly]
    exact ite_bl (fun c => ⟨_, rfl, c1 c _ (Same.refl _)⟩) (fun c => c2 c _ (Same.refl _))
  obtain ⟨ks, eks⟩ : ∃ ks, (bits n).filter (fun k => decide (V.int ((bits k).length : Int) = V.int 1)) = ks := ⟨_, rfl⟩
  rw [eks] at mal
  have hks : ∀ k ∈ ks, k ∈ bits n ∧ (bits k).length = 1 := fun k hk => by
    rw [← eks] at hk
    obtain ⟨h1, h2⟩ := List.mem_filter.mp hk
    have h3 := V.int.inj (of_decide_eq_true h2)
    exact ⟨h1, by omega⟩
  have lal2 := NaAll.ln mal
  have sx1 := sqT_same g1 sx
  have mx1 := NaAll.same mx g1
  have hn1 := hn.same g1
  refine ⟨_, rfl, fun _ => ⟨A1, rfl, ⟨al, SqL.of hA⟩, for_list (K := K) (a := A1) (xs := al) (fun i σ H' => ∃ v2 v3 v4, σ = [some (.ref p), some (.ref A1), v2, v3, v4] ∧ Same H1 H' ∧ ∀ k ∈ ks.take i, ∀ a, bits k = [a] → ∀ m ∈ bits n, ∀ l ∈ bits m, pairN a l ≠ n)
    ⟨_, _, _, rfl, Same.refl _, fun k hk => (by rw [List.take_zero] at hk; cases hk)⟩ (fun i σ H' _ p => by obtain ⟨_, _, _, _, g, _⟩ := p; exact SqL.of (g _ _ hA)) ?_ ?_⟩⟩
  · rintro i x σ H2 hi ⟨v2, v3, v4, rfl, g2, no⟩
    obtain ⟨k, hk, hk', hxk⟩ := NaAll.at mal hi
    obtain ⟨kn, k1⟩ := hks k hk'
    obtain ⟨a, ea⟩ : ∃ a, bits k = [a] := by
      cases e : bits k with
      | nil => rw [e] at k1; cases k1
      | cons a as =>
        rw [e, List.length_cons] at k1
        have : as = [] := List.eq_nil_of_length_eq_zero (by omega)
        exact ⟨a, by rw [this]⟩
    have et : ks.take (i + 1) = ks.take i ++ [k] := by rw [List.take_add_one, hk]; rfl
    obtain ⟨b, ys, rfl, sy, my⟩ := hxk.tup
    rw [ea] at my
    obtain ⟨xa, hxa, hna⟩ := NaAll.at' my (i := 0) (k := a) rfl
    have dk := dep_mem kn
    have da := dep_mem (show a ∈ bits k by rw [ea]; exact List.mem_cons_self)
    refine ⟨_, rfl, fun _ => ⟨p, rfl, ⟨xs, sqT_same g2 sx1⟩, for_tup (K := K) (a := p) (xs := xs) (fun j σ H' => ∃ v3 v4, σ = [some (.ref p), some (.ref A1), some (.ref b), v3, v4] ∧ Same H1 H' ∧ ∀ m ∈ (bits n).take j, ∀ l ∈ bits m, pairN a l ≠ n)
      ⟨_, _, rfl, g2, fun k hk => (by rw [List.take_zero] at hk; cases hk)⟩ (fun i σ H' _ p => by obtain ⟨_, _, _, g, _⟩ := p; exact sqT_same g sx1) ?_ ?_⟩⟩
    · rintro j y σ H3 hj ⟨v3, v4, rfl, g3, no2⟩
      obtain ⟨m, hm, hm', hym⟩ := NaAll.at mx1 hj
      have et2 : (bits n).take (j + 1) = (bits n).take j ++ [m] := by rw [List.take_add_one, hm]; rfl
      obtain ⟨c, zs, rfl, sz, mz⟩ := hym.tup
      have lz := NaAll.ln mz
      have dm := dep_mem hm'
      refine ⟨_, rfl, fun _ => ⟨c, rfl, ⟨zs, sqT_same g3 sz⟩, for_tup (K := K) (a := c) (xs := zs) (fun u σ H' => ∃ v4, σ = [some (.ref p), some (.ref A1), some (.ref b), some (.ref c), v4] ∧ Same H1 H' ∧ ∀ l ∈ (bits m).take u, pairN a l ≠ n)
        ⟨_, rfl, g3, fun k hk => (by rw [List.take_zero] at hk; cases hk)⟩ (fun i σ H' _ p => by obtain ⟨_, _, g, _⟩ := p; exact sqT_same g sz) ?_ ?_⟩⟩
      · rintro u z σ H4 hu ⟨v4, rfl, g4, no3⟩
        obtain ⟨l, hl, hl', hzl⟩ := NaAll.at mz hu
        have et3 : (bits m).take (u + 1) = (bits m).take u ++ [l] := by rw [List.take_add_one, hl]; rfl
        have dl := dep_mem hl'
        refine ⟨_, rfl, b, ys, 0, xa, rfl, rfl, sqT_same g4 sy, atI_nat hxa, _, rfl, xa, z, a, l, rfl, hna.same g4, hzl.same g4, by omega, by omega, fun r H5 g5 hr5 => ?_⟩
        have hn5 := hn1.same (g4.trans g5)
        refine ⟨_, rfl, pairN a l, n, hr5, hn5, ?_, by omega, _, rfl, ?_⟩
        · have := pair_dep (a := a) (b := l) (d := 6) (by omega) (by omega)
          omega
        refine ite_bl (fun cc => ?_) (fun cc => ?_)
        · have e : pairN a l = n := of_decide_eq_true cc
          refine ⟨_, rfl, b, ys, 0, xa, rfl, rfl, sqT_same (g4.trans g5) sy, atI_nat hxa, _, rfl, (by show 2 ≤ sizeLine; decide), fun t nt => ?_⟩
          have st := same_new nt (.tup [xa, z])
          exact qy a l t xa z _ e.symm (g1.trans (g4.trans (g5.trans st))) upd_same (hna.same (g4.trans (g5.trans st))) (hzl.same (g4.trans (g5.trans st)))
        · have e : ¬ pairN a l = n := of_decide_eq_false cc
          refine ⟨_, rfl, g4.trans g5, fun l' hl2 => ?_⟩
          rw [et3] at hl2
          rcases List.mem_append.mp hl2 with hl2 | hl2
          · exact no3 l' hl2
          · rw [List.mem_singleton.mp hl2]; exact e
      · rintro σ H4 ⟨v4, rfl, g4, no3⟩
        rw [lz, List.take_length] at no3
        refine ⟨_, _, rfl, g4, fun m' hm2 => ?_⟩
        rw [et2] at hm2
        rcases List.mem_append.mp hm2 with hm2 | hm2
        · exact no2 m' hm2
        · rw [List.mem_singleton.mp hm2]; exact no3
    · rintro σ H3 ⟨v3, v4, rfl, g3, no2⟩
      rw [lx, List.take_length] at no2
      refine ⟨_, _, _, rfl, g3, fun k' hk2 a' ea' => ?_⟩
      rw [et] at hk2
      rcases List.mem_append.mp hk2 with hk2 | hk2
      · exact no k' hk2 a' ea'
      · rw [List.mem_singleton.mp hk2, ea] at ea'
        cases ea'
        exact no2
  · rintro σ H2 ⟨v2, v3, v4, rfl, g2, no⟩
    rw [lal2, List.take_length] at no
    refine qn (fun ⟨a, b, e⟩ => ?_) H2 (g1.trans g2)
    have hk : mk [a] ∈ ks := by
      rw [← eks]
      refine List.mem_filter.mpr ⟨by rw [e]; exact mem_pair.mpr (.inl rfl), ?_⟩
      rw [bits_one]
      rfl
    exact no (mk [a]) hk a (bits_one a) (mk [a, b]) (by rw [e]; exact mem_pair.mpr (.inr rfl)) b (mem_two.mpr (.inr rfl)) e.symm
/-- product(one, other): all pairs of members -/
def spProd (K : PySem.W.Frag) : Sp := fun vs H Q _ => ∃ x y n m, vs = [x, y] ∧ Na K H x n ∧ Na K H y m ∧ dep n ≤ 5 ∧ dep m ≤ 5 ∧ (bits n).length ≤ 10 ∧ (bits m).length ≤ 10 ∧ ∀ r H', Same H H' → Na K H' r (mk (prods n m)) → Q r H'
theorem sc_product : FnScope ["one", "other", "found", "mine", "yours"] ["one", "other"] (defScope s_product) := ⟨rfl, rfl, rfl, by decide +kernel, rfl, by decide +kernel, by decide +kernel⟩
theorem product_ok {fs : Nat → Addr} {fds : Nat → FuncData} (T : Top K mg fs fds) : FnOk P w K mg base CX0 13 (fs 9) (fds 9) ["one", "other"] (spProd K) := by
  have GP := pair_ok (P := P) (w := w) (base := base) T
  have GN := nestT (P := P) (w := w) (base := base) T
  refine T.product.fn.ok sc_product (fun vs H Q E h => ?_) (fun cdv A outer s H vs Q E hr h => ?_)
  · obtain ⟨x, y, n, m, rfl, _⟩ := h
    rfl
  obtain ⟨x, y, n, m, rfl, hx, hy, dn, dm, ln, lm, q⟩ := h
  obtain ⟨p, xs, rfl, sx, mx⟩ := hx.tup
  obtain ⟨b, ys, rfl, sy, my⟩ := hy.tup
  have lx := NaAll.ln mx
  have ly := NaAll.ln my
  have r11 : Room 11 _ := hr.mono (by decide)
  refine ⟨_, pss_cons (ps_set (i := 2) sc_product.nd rfl (Or.inl rfl) (pe_lst pa_nil))
    (pss_cons (ps_for PassesOwn.never rfl (pi_tup (pe_z (pv 0))) (pg_name (i := 3) sc_product.nd rfl (Or.inr rfl)) (pss_one (ps_expr (pe_bm PySem.F.plainAttrs_list PySem.F.slot_list_extend PySem.F.type_list_extend mt_extend (pv 2) (pa_cons (pe_lc (own := [("yours", 4)]) (g := gName 4) (tt := tYes) rfl sc_product.nd (pi_tup (pe_z (pv 1))) (blkOk_by (N := ["one", "other", "found", "mine", "yours"]) (sc := defScope s_product) (by decide +kernel)) (fun _ _ _ _ _ => pg_name (i := 4) sc_product.nd rfl (Or.inl rfl)) (fun _ _ _ _ _ => pts_nil) (fun _ _ _ _ _ => pe_call GP hr rfl T.pair.nm T.pair.fn.kp T.pair.bd .nil pass0 (pa_cons (pv 3) (pa_cons (pv 4) pa_nil)))) pa_nil)))))
    (pss_one (ps_ret (pe_call GN r11 rfl T.nest.nm T.nest.fn.kp T.nest.bd .nil pass0 (pa_cons (pe_callTy call_tuple_of rfl T.z_tuple PyProof.Rows.boot_tuple (pa_cons (pv 2) pa_nil)) pa_nil))))), ?_⟩
  refine ⟨(by show 0 ≤ sizeLine; decide), fun F nF => ?_⟩
  have sF := same_new nF (.lst [])
  refine ⟨_, rfl, fun _ => ⟨p, rfl, ⟨xs, sqT_same sF sx⟩, for_tup (K := K) (a := p) (xs := xs) (fun i σ H' => ∃ v3 acc, σ = [some (.ref p), some (.ref b), some (.ref F), v3, none] ∧ Same H H' ∧ H' F = some (.lst acc) ∧ NaAll K H' acc (((bits n).take i).flatMap fun a => (bits m).map fun c => pairN a c) ∧ acc.length ≤ 10 * i)
    ⟨none, [], rfl, sF, upd_same, by rw [List.take_zero]; exact .nil, Nat.le_refl _⟩ (fun i σ H' _ z => by obtain ⟨_, _, _, g, _⟩ := z; exact sqT_same g sx) ?_ ?_⟩⟩
  · rintro i x σ H1 hi ⟨v3, acc, rfl, g1, hF, mF, lF⟩
    obtain ⟨k, hk, mem, tp⟩ := NaAll.at mx hi
    have dk := dep_mem mem
    have less : i < xs.length := (List.getElem?_eq_some_iff.mp hi).1
    refine ⟨_, rfl, .inl ⟨rfl, acc, SqL.of hF⟩, _, rfl, fun _ => ⟨b, rfl, ⟨ys, sqT_same g1 sy⟩, fun D nD => maps_na (K := K) (xs := ys) (ns := bits m) (walk_tup (K := K) (a := b) (xs := ys)) (fun H g => sqT_same (g1.trans g) sy) (fun c => pairN k c) (NaAll.same my g1) (small (by omega)) nD (fun z c Ha C hz mc ga cy => ?_) (fun Ha acc2 ga hD ma => ?_)⟩⟩
    · have dc := dep_mem mc
      exact ⟨rfl, _, rfl, _, rfl, x, z, k, c, rfl, (tp.same g1).same ga, hz, by omega, by omega, fun r Hb gb hr => cy r Hb gb hr⟩
    · have l2 := NaAll.ln ma
      rw [List.length_map] at l2
      refine ⟨F, D, acc, acc2, rfl, rfl, ga _ _ hF, hD, small (by omega), ?_⟩
      refine ⟨_, acc ++ acc2, rfl, same_put (g1.trans ga) nF, upd_same, ?_, by rw [List.length_append]; omega⟩
      rw [List.take_add_one, hk, List.flatMap_append]
      have e : (some k).toList.flatMap (fun a => (bits m).map fun c => pairN a c) = (bits m).map fun c => pairN k c := by
        show ([k] : List Nat).flatMap _ = _
        rw [List.flatMap_cons, List.flatMap_nil, List.append_nil]
      rw [e]
      exact (NaAll.cat (NaAll.same mF ga) ma).grow (Grow.lst (ga _ _ hF))
  · rintro σ H1 ⟨v3, acc, rfl, g1, hF, mF, lF⟩
    rw [lx, List.take_length] at mF
    refine ⟨_, rfl, F, acc, rfl, .inl ⟨SqL.of hF, fun t nt => ?_⟩⟩
    have st := same_new nt (.tup acc)
    refine ⟨t, acc, prods n m, rfl, SqT.of upd_same, NaAll.same mF st, fun k hk => ?_, fun r H2 g2 hr2 => q r H2 (g1.trans (st.trans g2)) hr2⟩
    obtain ⟨a, c, ha, hc, rfl⟩ := mem_prods.mp hk
    have da := dep_mem ha
    have dc := dep_mem hc
    exact Nat.le_trans (pair_dep (d := 4) (by omega) (by omega)) (by decide)
theorem parts_some {l : List Nat} (h : ∀ k ∈ l, IsPair k) : l.map part = (l.filterMap part).map some := by
  induction l with
  | nil => rfl
  | cons k l ih =>
    obtain ⟨a, b, e⟩ := h k List.mem_cons_self
    have e2 : part k = some (a, b) := by
      rw [e]
      exact part_pair (a, b)
    rw [List.map_cons, List.filterMap_cons_some e2, List.map_cons, ih fun j hj => h j (List.mem_cons_of_mem _ hj), e2]
/-- is_map(one, here, there) -/
def spMap (K : PySem.W.Frag) : Sp := fun vs H Q _ => ∃ x y z m h t, vs = [x, y, z] ∧ Na K H x m ∧ Na K H y h ∧ Na K H z t ∧ dep m ≤ 9 ∧ dep h ≤ 9 ∧ dep t ≤ 9 ∧ ∀ b H', Same H H' → (b = true ↔ IsMap m h t) → Q (.bl b) H'
theorem sc_is_map : FnScope ["one", "here", "there", "some", "member", "mine", "yours"] ["one", "here", "there"] (defScope s_is_map) := ⟨rfl, rfl, rfl, by decide +kernel, rfl, by decide +kernel, by decide +kernel⟩
theorem is_map_ok {fs : Nat → Addr} {fds : Nat → FuncData} (T : Top K mg fs fds) : FnOk P w K mg base CX0 14 (fs 10) (fds 10) ["one", "here", "there"] (spMap K) := by
  have GS := split_ok (P := P) (w := w) (base := base) T
  have GN := nestT (P := P) (w := w) (base := base) T
  refine T.is_map.fn.ok sc_is_map (fun vs H Q E h => ?_) (fun cdv A outer s H vs Q E hr h => ?_)
  · obtain ⟨x, y, z, m, h, t, rfl, _⟩ := h
    rfl
  obtain ⟨x, y, z, m, h, t, rfl, hx, hy, hz, dm, dh, dt, q⟩ := h
  obtain ⟨p, xs, rfl, sx, mx⟩ := hx.tup
  obtain ⟨b, ys, rfl, sy, my⟩ := hy.tup
  obtain ⟨c, zs, rfl, sz, mz⟩ := hz.tup
  have lx := NaAll.ln mx
  have ly := NaAll.ln my
  have r11 : Room 11 _ := hr.mono (by decide)
  have dh9 : ∀ k ∈ bits h, dep k ≤ 60 := fun k hk => by have := dep_mem hk; omega
  have dt9 : ∀ k ∈ bits t, dep k ≤ 60 := fun k hk => by have := dep_mem hk; omega
  refine ⟨_, pss_cons (ps_setLc (i := 3) (own := [("member", 4)]) (g := gName 4) (tt := tYes) rfl sc_is_map.nd rfl rfl (sw_true rfl rfl rfl (by decide +kernel)) (pi_tup (pe_z (pv 0))) (blkOk_by (N := ["one", "here", "there", "some", "member", "mine", "yours"]) (sc := defScope s_is_map) (by decide +kernel)) (fun _ _ _ _ _ => pg_name (i := 4) sc_is_map.nd rfl (Or.inl rfl)) (fun _ _ _ _ _ => pts_nil) (fun _ _ _ _ _ => pe_call GS hr rfl T.split.nm T.split.fn.kp T.split.bd .nil pass0 (pa_cons (pv 4) pa_nil)))
    (pss_cons (ps_if (pt_cmpR (oinD (K := K) hr) pe_non (pv 3) (by rfl)) (pss_one (ps_ret pe_bl)) pss_nil)
    (pss_cons (ps_if (pt_not (pt_val (pe_callB (cr_all rfl) rfl T.z_all (by decide +kernel) (pa_cons (pe_lc (own := [("mine", 5), ("yours", 6)]) (g := gTup K 2 (gCons (gName 5) (gCons (gName 6) gNil))) (tt := tYes) rfl sc_is_map.nd (pi_list (pe_z (pv 3))) (blkOk_by (N := ["one", "here", "there", "some", "member", "mine", "yours"]) (sc := defScope s_is_map) (by decide +kernel)) (fun _ _ _ _ _ => pg_tup rfl (pgs_cons (pg_name (i := 5) sc_is_map.nd rfl (Or.inl rfl)) (pgs_cons (pg_name (i := 6) sc_is_map.nd rfl (Or.inl rfl)) pgs_nil))) (fun _ _ _ _ _ => pts_nil) (fun _ _ _ _ _ => pe_and (pe_cmpR (oin (K := K) hr) (pv 5) (pv 1) (by rfl)) (pe_one (pe_cmpR (oin (K := K) hr) (pv 6) (pv 2) (by rfl))))) pa_nil)))) (pss_one (ps_ret pe_bl)) pss_nil)
    (pss_one (ps_ret (pe_and (pe_cmpR (oeq (K := K) hr) (pe_call GN r11 rfl T.nest.nm T.nest.fn.kp T.nest.bd .nil pass0 (pa_cons (pe_callTy call_tuple_of rfl T.z_tuple PyProof.Rows.boot_tuple (pa_cons (pe_lc (own := [("mine", 5), ("yours", 6)]) (g := gTup K 2 (gCons (gName 5) (gCons (gName 6) gNil))) (tt := tYes) rfl sc_is_map.nd (pi_list (pe_z (pv 3))) (blkOk_by (N := ["one", "here", "there", "some", "member", "mine", "yours"]) (sc := defScope s_is_map) (by decide +kernel)) (fun _ _ _ _ _ => pg_tup rfl (pgs_cons (pg_name (i := 5) sc_is_map.nd rfl (Or.inl rfl)) (pgs_cons (pg_name (i := 6) sc_is_map.nd rfl (Or.inl rfl)) pgs_nil))) (fun _ _ _ _ _ => pts_nil) (fun _ _ _ _ _ => pv 5)) pa_nil)) pa_nil)) (pv 1) (nomark _)) (pe_one (pe_cmpR op_eq (pe_callB call_len_seq rfl T.z_len PySem.boot_len (pa_cons (pv 3) pa_nil)) (pe_callB call_len_seq rfl T.z_len PySem.boot_len (pa_cons (pv 1) pa_nil)) (nomark _)))))))), ?_⟩
  refine ⟨_, rfl, fun len => ⟨p, rfl, ⟨xs, sx⟩, fun D nD => maps_op (K := K) (xs := xs) (ns := bits m) (walk_tup (K := K) (a := p) (xs := xs)) (fun H g => sqT_same g sx) part mx (len _ _ rfl (.inl sx)) nD (fun x k Ha C hk mem ga cy => ?_) (fun Ha acc ga hD ma => ?_)⟩⟩
  · have dk := dep_mem mem
    refine ⟨rfl, _, rfl, x, k, rfl, hk, by omega, fun a1 b1 r x1 y1 Hb e gb hr1 h1 h2 => cy (.ref r) Hb gb ?_, fun no Hb gb => cy .non Hb gb ?_⟩
    · rw [e]
      show OpAt K Hb (part (pr (a1, b1))) _
      rw [part_pair]
      exact pd_of (SqT.of hr1) h1 h2
    · rw [part_none no]
      rfl
  have parts50 : ∀ q : Pr, some q ∈ (bits m).map part → dep q.1 + 2 ≤ 8 ∧ dep q.2 + 2 ≤ 8 := fun q hq => by
    obtain ⟨k, hk, e⟩ := List.mem_map.mp hq
    have dk := dep_mem hk
    have := pair_parts_dep (part_some e)
    omega
  refine ⟨_, rfl, .none, _, .non, .lst (SqL.of hD) ma.dp, rfl, sdat_shaped (fun q hq => by have := parts50 q hq; omega), _, rfl, ?_⟩
  rw [any_none]
  refine ite_bl (fun c0 => ?_) (fun c0 => ?_)
  · refine q false Ha ga ⟨fun z => (by cases z), fun z => ?_⟩
    obtain ⟨o, ho, no⟩ := List.any_eq_true.mp c0
    obtain ⟨k, hk, rfl⟩ := List.mem_map.mp ho
    obtain ⟨a1, b1, e⟩ := z.1 k hk
    rw [e] at no
    have e3 : part (pairN a1 b1) = some (a1, b1) := part_pair (a1, b1)
    rw [e3] at no
    cases no
  have allP : ∀ k ∈ bits m, IsPair k := fun k hk => Classical.byContradiction fun no => by
    have : ((bits m).map part).any (·.isNone) = true := List.any_eq_true.mpr ⟨part k, List.mem_map_of_mem hk, by rw [part_none no]; rfl⟩
    rw [c0] at this
    cases this
  obtain ⟨ps, eps⟩ : ∃ ps, ps = (bits m).filterMap part := ⟨_, rfl⟩
  have parts8 : ∀ q ∈ ps, dep q.1 ≤ 6 ∧ dep q.2 ≤ 6 := fun q hq => by
    rw [eps] at hq
    obtain ⟨k, hk, e⟩ := List.mem_filterMap.mp hq
    have := parts50 q (List.mem_map.mpr ⟨k, hk, e⟩)
    omega
  have lm : ps.length = (bits m).length := by
    have e := congrArg List.length (parts_some allP)
    rw [List.length_map, List.length_map, ← eps] at e
    exact e.symm
  rw [parts_some allP, ← eps] at ma
  have mp := ma.tp
  refine ⟨_, rfl, fun len2 => ⟨D, rfl, ⟨acc, SqL.of hD⟩, fun D2 nD2 => maps_pd (K := K) (xs := acc) (ps := ps) (fun _ => true) (fun q => V.bl (decide (q.1 ∈ bits h) && decide (q.2 ∈ bits t))) (walk_list (K := K) (a := D) (xs := acc)) (fun H g => SqL.of (g _ _ hD)) mp (len2 _ _ rfl (.inr (SqL.of hD))) nD2 (fun a1 x1 y1 q1 Hb C N hs h1 h2 mem gb cy _ => ?_) (fun Hb gb hD2 => ?_)⟩⟩
  · have d8 := parts8 q1 mem
    refine ⟨a1, _, rfl, hs, rfl, _, _, rfl, _, _, rfl, rfl, rfl, ?_⟩
    refine ⟨_, rfl, _, rfl, q1.1, b, ys, bits h, h1, by omega, rfl, .inr (sqT_same (ga.trans gb) sy), NaAll.same my (ga.trans gb), dh9, _, rfl, ite_bl (fun c1 => ?_) (fun c1 => ?_)⟩
    · refine ⟨_, rfl, _, rfl, q1.2, c, zs, bits t, h2, by omega, rfl, .inr (sqT_same (ga.trans gb) sz), NaAll.same mz (ga.trans gb), dt9, ?_⟩
      have z := cy rfl Hb (Same.refl _)
      have c2 : decide (q1.1 ∈ bits h) = true := c1
      rw [c2, Bool.true_and] at z
      exact z
    · have z := cy rfl Hb (Same.refl _)
      have c2 : decide (q1.1 ∈ bits h) = false := c1
      rw [c2, Bool.false_and] at z
      exact z
  have Gb := ga.trans gb
  have hDb := gb _ _ hD
  have mpb : TpAll K Hb acc (ps.map pd) := TpAll.grow (Grow.of gb) mp
  have psm : ∀ q, q ∈ ps ↔ pr q ∈ bits m := fun q => by
    rw [eps]
    constructor
    · intro hq
      obtain ⟨k, hk, e⟩ := List.mem_filterMap.mp hq
      exact part_some e ▸ hk
    · intro hq
      exact List.mem_filterMap.mpr ⟨pr q, hq, part_pair q⟩
  have e1 : (ps.filter fun _ => true).map (fun q : Pr => V.bl (decide (q.1 ∈ bits h) && decide (q.2 ∈ bits t))) = (ps.map fun q : Pr => (decide (q.1 ∈ bits h) && decide (q.2 ∈ bits t))).map V.bl := by
    rw [List.filter_eq_self.mpr fun _ _ => rfl, List.map_map]
    rfl
  rw [e1] at hD2
  refine ⟨D2, _, rfl, SqL.of hD2, _, rfl, ?_⟩
  have allQ : (ps.map fun q : Pr => (decide (q.1 ∈ bits h) && decide (q.2 ∈ bits t))).all id = true ↔ ∀ a1 b1, pairN a1 b1 ∈ bits m → a1 ∈ bits h ∧ b1 ∈ bits t := by
    rw [List.all_eq_true]
    constructor
    · intro z a1 b1 mem
      have := z _ (List.mem_map.mpr ⟨(a1, b1), (psm (a1, b1)).mpr mem, rfl⟩)
      simpa using this
    · intro z x hx
      obtain ⟨q1, hq, rfl⟩ := List.mem_map.mp hx
      have := z q1.1 q1.2 ((psm q1).mp hq)
      simpa using this
  refine ite_bl (fun c1 => ?_) (fun c1 => ?_)
  · refine q false Hb Gb ⟨fun z => (by cases z), fun z => ?_⟩
    have := allQ.mpr z.2.1
    rw [this] at c1
    cases c1
  have good := allQ.mp (by simpa using c1)
  refine ⟨_, rfl, fun len3 => ⟨D, rfl, ⟨acc, SqL.of hDb⟩, fun D3 nD3 => maps_pn (K := K) (xs := acc) (ps := ps) (fun q => q.1) (walk_list (K := K) (a := D) (xs := acc)) (fun H g => SqL.of (g _ _ hDb)) mpb (len3 _ _ rfl (.inr (SqL.of hDb))) nD3 (fun a1 x1 y1 q1 Hd C hs h1 h2 mem gd cy => ⟨a1, _, rfl, hs, rfl, _, _, rfl, _, _, rfl, rfl, rfl, _, rfl, cy x1 Hd (Same.refl _) h1⟩) (fun Hc acc3 gc hD3 m3 => ?_)⟩⟩
  refine ⟨D3, acc3, rfl, .inl ⟨SqL.of hD3, fun u nu => ?_⟩⟩
  have su := same_new nu (.tup acc3)
  refine ⟨u, acc3, ps.map (·.1), rfl, SqT.of upd_same, NaAll.same m3 su, fun k hk => ?_, fun r Hd gd hr2 => ?_⟩
  · obtain ⟨q1, hq, rfl⟩ := List.mem_map.mp hk
    have := parts8 q1 hq
    omega
  have Gd := Gb.trans (gc.trans (su.trans gd))
  have dm2 : dep (mk (ps.map (·.1))) ≤ 9 := dep_mk fun k hk => by
    obtain ⟨q1, hq, rfl⟩ := List.mem_map.mp hk
    have := parts8 q1 hq
    omega
  refine ⟨_, rfl, _, h, hr2, hy.same Gd, by omega, by omega, _, rfl, ite_bl (fun c2 => ?_) (fun c2 => ?_)⟩
  · have e2 : mk (ps.map (·.1)) = h := of_decide_eq_true c2
    have la : acc.length = (bits m).length := by
      have := TpAll.len mp
      rw [List.length_map] at this
      omega
    refine ⟨_, rfl, D, acc, rfl, .inl (SqL.of ((gc.trans (su.trans gd)) _ _ hDb)), _, rfl, b, ys, rfl, .inr (sqT_same Gd sy), rfl, q _ _ Gd ?_⟩
    rw [decide_eq_true_eq, la, ly]
    constructor
    · intro z
      have := V.int.inj z
      exact ⟨allP, good, by rw [← eps]; exact e2, by omega⟩
    · intro z
      rw [z.2.2.2]
  · have e2 : ¬ mk (ps.map (·.1)) = h := of_decide_eq_false c2
    refine q false _ Gd ⟨fun z => (by cases z), fun z => ?_⟩
    exact absurd (by rw [eps]; exact z.2.2.1) e2
/-- value(one, here): the value of a map, or refused -/
def spVal (K : PySem.W.Frag) (D : Addr) : Sp := fun vs H Q E => ∃ x y m a, vs = [x, y] ∧ Na K H x m ∧ Na K H y a ∧ dep m ≤ 9 ∧ dep a ≤ 9 ∧
  ((∃ b, pairN a b ∈ bits m ∧ (∀ c, pairN a c ∈ bits m → c = b) ∧ ∀ v H', Same H H' → Na K H' v b → Q v H') ∨ ((∀ b, pairN a b ∉ bits m) ∧ ∀ H', Same H H' → E (.ref D) none H'))
theorem sc_value : FnScope ["one", "here", "member", "found"] ["one", "here"] (defScope s_value) := ⟨rfl, rfl, rfl, by decide +kernel, rfl, by decide +kernel, by decide +kernel⟩
theorem value_ok {fs : Nat → Addr} {fds : Nat → FuncData} (T : Top K mg fs fds) : FnOk P w K mg base (L2.CX P w) 14 (fs 11) (fds 11) ["one", "here"] (spVal K (fs 2)) := by
  have GS := split_ok (P := P) (w := w) (base := base) T
  refine T.value.fn.okX sc_value (fun vs H Q E h => ?_) (fun cdv A outer s H vs Q E hr h => ?_)
  · obtain ⟨x, y, m, a, rfl, _⟩ := h
    rfl
  obtain ⟨x, y, m, a, rfl, hx, hy, dm, da, h⟩ := h
  obtain ⟨p, xs, rfl, sx, mx⟩ := hx.tup
  have lx := NaAll.ln mx
  refine ⟨_, pss_cons (ps_for (passes_of rfl) rfl (pi_tup (pe_z (pv 0))) (pg_name (i := 2) sc_value.nd rfl (Or.inl rfl)) (pss_cons (ps_set (i := 3) sc_value.nd rfl (Or.inl rfl) (pe_call GS hr rfl T.split.nm T.split.fn.kp T.split.bd .nil pass0 (pa_cons (pv 2) pa_nil)))
    (pss_one (ps_if (PW.pt (pw_and (pt_cmpR op_notN (pv 3) pe_non (nomark _)) (pw_and1 (pt_cmpR (oeq (K := K) hr) (pe_ix ix_tup (pv 3) pe_int (fun _ _ => rfl)) (pv 1) (nomark _))))) (pss_one (ps_ret (pe_ix ix_tup (pv 3) pe_int (fun _ _ => rfl)))) pss_nil))))
    (pss_one (ps_raise rfl (takes_of rfl rfl rfl rfl) (pmk_own PySem.F.excBase_ValueError T.x_NoPair.q T.x_NoPair.g T.x_NoPair.k (raises_own T.x_NoPair.s T.x_NoPair.t) rfl))), ?_⟩
  refine ⟨_, rfl, fun _ => ⟨p, rfl, ⟨xs, sx⟩, for_tup (K := K) (a := p) (xs := xs) (fun i σ H' => ∃ v2 v3, σ = [some (.ref p), some y, v2, v3] ∧ Same H H' ∧ ∀ k ∈ (bits m).take i, ∀ b, k ≠ pairN a b)
    ⟨none, none, rfl, Same.refl _, fun k hk => (by rw [List.take_zero] at hk; cases hk)⟩ (fun i σ H' _ z => by obtain ⟨_, _, _, g, _⟩ := z; exact sqT_same g sx) ?_ ?_⟩⟩
  · rintro i x σ H1 hi ⟨v2, v3, rfl, g1, no⟩
    obtain ⟨k, hk, mem, tp⟩ := NaAll.at mx hi
    have dk := dep_mem mem
    have et : (bits m).take (i + 1) = (bits m).take i ++ [k] := by
      rw [List.take_add_one, hk]
      rfl
    have more : (∀ b, k ≠ pairN a b) → ∀ j ∈ (bits m).take (i + 1), ∀ b, j ≠ pairN a b := fun z j hj => by
      rw [et] at hj
      rcases List.mem_append.mp hj with hj | hj
      · exact no j hj
      · rw [List.mem_singleton.mp hj]
        exact z
    refine ⟨_, rfl, x, k, rfl, tp.same g1, by omega, fun a1 b1 r x1 y1 Hb e gb hr1 h1 h2 => ?_, fun none_ Hb gb => ?_⟩
    · have pd1 := pair_parts_dep e
      refine ⟨_, rfl, rfl, _, rfl, go_iff (fun z => by cases z) ?_⟩
      refine ⟨_, rfl, r, [x1, y1], 0, x1, rfl, rfl, SqT.of hr1, rfl, _, rfl, a1, a, h1, hy.same (g1.trans gb), by omega, by omega, _, rfl, ite_bl (fun c => ?_) (fun c => ?_)⟩
      · have ea : a1 = a := of_decide_eq_true c
        refine ⟨_, rfl, r, [x1, y1], 1, y1, rfl, rfl, SqT.of hr1, rfl, ?_⟩
        rcases h with ⟨b, hb, one, q⟩ | ⟨none_, _⟩
        · have eb : b1 = b := one b1 (by rw [← ea, ← e]; exact mem)
          rw [eb] at h2
          exact q y1 _ (g1.trans gb) h2
        · exact absurd (by rw [← ea, ← e]; exact mem) (none_ b1)
      · have ea : ¬ a1 = a := of_decide_eq_false c
        exact ⟨_, _, rfl, g1.trans gb, more fun b z => ea (pair_inj (e.symm.trans z)).1⟩
    · exact ⟨_, rfl, rfl, _, rfl, skip_iff rfl ⟨_, _, rfl, g1.trans gb, more fun b z => none_ ⟨a, b, z⟩⟩⟩
  · rintro σ H1 ⟨v2, v3, rfl, g1, no⟩
    rw [lx, List.take_length] at no
    rcases h with ⟨b, hb, _, _⟩ | ⟨_, e⟩
    · exact absurd rfl (no _ hb b)
    · exact e _ g1
/-- what value tells; None for a refusal with NoPair -/
def spLV (K : PySem.W.Frag) : Sp := fun vs H Q _ => ∃ x y m a, vs = [x, y] ∧ Na K H x m ∧ Na K H y a ∧ dep m ≤ 9 ∧ dep a ≤ 9 ∧
  ((∃ b, pairN a b ∈ bits m ∧ (∀ c, pairN a c ∈ bits m → c = b) ∧ ∀ v H', Same H H' → Na K H' v b → Q v H') ∨ ((∀ b, pairN a b ∉ bits m) ∧ ∀ H', Same H H' → Q .non H'))
theorem sc_law_value : FnScope ["_law_one", "_law_here", "_law_found", "e"] ["_law_one", "_law_here"] (defScope s_law_value) := ⟨rfl, rfl, rfl, by decide +kernel, rfl, by decide +kernel, by decide +kernel⟩
theorem law_value_ok {fs : Nat → Addr} {fds : Nat → FuncData} (T : Top K mg fs fds) : FnOk P w K mg base CX0 15 (fs 20) (fds 20) ["_law_one", "_law_here"] (spLV K) := by
  have GV := value_ok (P := P) (w := w) (base := base) T
  refine T.law_value.fn.ok sc_law_value (fun vs H Q E h => ?_) (fun cdv A outer s H vs Q E hr h => ?_)
  · obtain ⟨x, y, m, a, rfl, _⟩ := h
    rfl
  obtain ⟨x, y, m, a, rfl, hx, hy, dm, da, h⟩ := h
  refine ⟨_, pss_cons (ps_set (i := 2) sc_law_value.nd rfl (Or.inl rfl) pe_str)
    (pss_cons (ps_try_as (i := 3) rfl rfl sc_law_value.nd rfl rfl ⟨rfl, by decide, .inl T.g_SetError⟩ takes0 (fun W pn xe tk _ => (pss_one (ps_set (i := 2) sc_law_value.nd rfl (Or.inl rfl) (pe_callS GV hr rfl T.value.nm T.value.fn.kp T.value.bd (fun σ => passAt tk σ) (pa_cons (pv 0) (pa_cons (pv 1) pa_nil)))))) (fun a oe cls d pn hz hf => (pss_one (ps_if (PW.pt (pw_and (pt_val (pe_callB (call_isEC T.x_NoPair.c hz hf) rfl T.z_isinstance PyProof.Rows.boot_isinstance (pa_cons (pv 3) (pa_cons (pe_glob (v := .ref _) rfl T.g_NoPair rfl) pa_nil)))) (pw_and1 (pt_val (pe_callB (call_isEC T.x_NoPair.c hz hf) rfl T.z_isinstance PyProof.Rows.boot_isinstance (pa_cons (pv 3) (pa_cons (pe_bltn (v := .ty "ValueError") rfl T.z_ValueError (by decide +kernel) rfl) pa_nil))))))) (pss_one (ps_set (i := 2) sc_law_value.nd rfl (Or.inl rfl) pe_non)) pss_nil))))
    (pss_one (ps_ret (pv 2)))), ?_⟩
  refine ⟨_, rfl, _, rfl, x, y, m, a, rfl, hx, hy, dm, da, ?_⟩
  rcases h with ⟨b, hb, one, q⟩ | ⟨no, q⟩
  · exact .inl ⟨b, hb, one, fun v H1 g1 hv => ⟨_, rfl, q _ _ g1 hv⟩⟩
  · refine .inr ⟨no, fun H1 g1 => ⟨true, T.x_NoPair.m, fun _ e ne => ?_, fun z => Bool.noConfusion z⟩⟩
    refine ⟨_, rfl, rfl, rfl, .ref (fs 2), .ref (fs 2), true, rfl, fun u r => r, kit_self, _, rfl, iteT ?_⟩
    refine ⟨_, rfl, rfl, rfl, .ty "ValueError", .type "ValueError", true, rfl, fun u r => r, T.x_NoPair.v, _, rfl, iteT ?_⟩
    exact ⟨_, rfl, q _ g1⟩
/-- the law's own is_map, of pairs of nests -/
def spLM (K : PySem.W.Frag) : Sp := fun vs H Q _ => ∃ (a S : Addr) (M : List (Pr × Addr)) (y z : V) (n t : Nat) (ss : List V), vs = [.ref a, y, z, .ref S] ∧ SqL K H a (M.map fun q => V.ref q.2) ∧ (∀ q ∈ M, PaAt K H q.1 (.ref q.2)) ∧ M.length ≤ 8 ∧ Na K H y n ∧ Na K H z t ∧ dep n ≤ 9 ∧ dep t ≤ 9 ∧ SqL K H S ss ∧
  ∀ b H', Same H H' → (b = true ↔ ss = [] ∧ (∀ p ∈ M.map (·.1), p.1 ∈ bits n ∧ p.2 ∈ bits t) ∧ mk ((M.map (·.1)).map (·.1)) = n ∧ (M.map (·.1)).length = (bits n).length) → Q (.bl b) H'
theorem sc_law_is_map : FnScope ["_law_pairs", "_law_one", "_law_other", "_law_strange", "_law_firsts", "_law_inside", "_law_mine", "_law_yours"] ["_law_pairs", "_law_one", "_law_other", "_law_strange"] (defScope s_law_is_map) := ⟨rfl, rfl, rfl, by decide +kernel, rfl, by decide +kernel, by decide +kernel⟩
theorem law_is_map_ok {fs : Nat → Addr} {fds : Nat → FuncData} (T : Top K mg fs fds) : FnOk P w K mg base CX0 101 (fs 21) (fds 21) ["_law_pairs", "_law_one", "_law_other", "_law_strange"] (spLM K) := by
  have GL := lawnest_ok (P := P) (w := w) (base := base) T
  refine T.law_is_map.fn.ok sc_law_is_map (fun vs H Q E h => ?_) (fun cdv A outer s H vs Q E hr h => ?_)
  · obtain ⟨a, S, M, y, z, n, t, ss, rfl, _⟩ := h
    rfl
  obtain ⟨a, S, M, y, z, n, t, ss, rfl, hA, at_, few, hy, hz, dn, dt, hS, q⟩ := h
  obtain ⟨b, ys, rfl, sy, my⟩ := hy.tup
  obtain ⟨c, zs, rfl, sz, mz⟩ := hz.tup
  have ly := NaAll.ln my
  have hp := PaAt.all at_
  have dps : ∀ p ∈ M.map (·.1), dep p.1 ≤ 6 ∧ dep p.2 ≤ 6 := fun p hp => by
    obtain ⟨k, hk, rfl⟩ := List.mem_map.mp hp
    exact (at_ k hk).2
  have lM : (M.map fun q => V.ref q.2).length = (M.map (·.1)).length := by rw [List.length_map, List.length_map]
  have lM2 : (M.map (·.1)).length ≤ 8 := by rw [List.length_map]; exact few
  generalize M.map (·.1) = ps at hp dps lM lM2 q
  generalize (M.map fun q => V.ref q.2) = vs at hA hp lM
  have line : vs.length ≤ sizeLine := small (by omega)
  have dn9 : ∀ k ∈ bits n, dep k ≤ 60 := fun k hk => by have := dep_mem hk; omega
  have dt9 : ∀ k ∈ bits t, dep k ≤ 60 := fun k hk => by have := dep_mem hk; omega
  refine ⟨_, pss_cons (ps_setLc (i := 4) (own := [("_law_mine", 6), ("_law_yours", 7)]) (g := gTup K 2 (gCons (gName 6) (gCons (gName 7) gNil))) (tt := tYes) rfl sc_law_is_map.nd rfl rfl (sw_true rfl rfl rfl (by decide +kernel)) (pi_list (pe_z (pv 0))) (blkOk_by (N := ["_law_pairs", "_law_one", "_law_other", "_law_strange", "_law_firsts", "_law_inside", "_law_mine", "_law_yours"]) (sc := defScope s_law_is_map) (by decide +kernel)) (fun _ _ _ _ _ => pg_tup rfl (pgs_cons (pg_name (i := 6) sc_law_is_map.nd rfl (Or.inl rfl)) (pgs_cons (pg_name (i := 7) sc_law_is_map.nd rfl (Or.inl rfl)) pgs_nil))) (fun _ _ _ _ _ => pts_nil) (fun _ _ _ _ _ => pv 6))
    (pss_cons (ps_setLc (i := 5) (own := [("_law_mine", 6), ("_law_yours", 7)]) (g := gTup K 2 (gCons (gName 6) (gCons (gName 7) gNil))) rfl sc_law_is_map.nd rfl rfl (sw_true rfl rfl rfl (by decide +kernel)) (pi_list (pe_z (pv 0))) (blkOk_by (N := ["_law_pairs", "_law_one", "_law_other", "_law_strange", "_law_firsts", "_law_inside", "_law_mine", "_law_yours"]) (sc := defScope s_law_is_map) (by decide +kernel)) (fun _ _ _ _ _ => pg_tup rfl (pgs_cons (pg_name (i := 6) sc_law_is_map.nd rfl (Or.inl rfl)) (pgs_cons (pg_name (i := 7) sc_law_is_map.nd rfl (Or.inl rfl)) pgs_nil))) (fun _ _ _ _ _ => pts_one (PW.pt (pw_and (pt_cmpR (oin (K := K) hr) (pv 6) (pv 1) (by rfl)) (pw_and1 (pt_cmpR (oin (K := K) hr) (pv 7) (pv 2) (by rfl)))))) (fun _ _ _ _ _ => pe_tup (pa_cons (pv 6) (pa_cons (pv 7) pa_nil))))
    (pss_one (ps_ret (pe_and (pe_notT (pv 3)) (pe_and (pe_cmpR op_eq (pe_callB call_len_seq rfl T.z_len PySem.boot_len (pa_cons (pv 5) pa_nil)) (pe_callB call_len_seq rfl T.z_len PySem.boot_len (pa_cons (pv 0) pa_nil)) (nomark _)) (pe_and (pe_cmpR (oeq (K := K) hr) (pe_call GL hr rfl T.law_nest.nm T.law_nest.fn.kp T.law_nest.bd .nil pass0 (pa_cons (pv 4) pa_nil)) (pv 1) (nomark _)) (pe_one (pe_cmpR op_eq (pe_callB call_len_seq rfl T.z_len PySem.boot_len (pa_cons (pv 4) pa_nil)) (pe_callB call_len_seq rfl T.z_len PySem.boot_len (pa_cons (pv 1) pa_nil)) (nomark _))))))))), ?_⟩
  refine ⟨_, rfl, fun _ => ⟨a, rfl, ⟨vs, hA⟩, fun D nD => maps_pn (K := K) (xs := vs) (ps := ps) (fun q => q.1) (walk_list (K := K) (a := a) (xs := vs)) (fun H g => g.seq hA) hp line nD (fun a1 x1 y1 q1 Hd C hs h1 h2 mem gd cy => ⟨a1, _, rfl, hs, rfl, _, _, rfl, _, _, rfl, rfl, rfl, _, rfl, cy x1 Hd (Same.refl _) h1⟩) (fun Ha fi ga hD mf => ?_)⟩⟩
  refine ⟨_, rfl, fun _ => ⟨a, rfl, ⟨vs, ga.seq hA⟩, fun D2 nD2 => maps_many (K := K) (xs := vs) (ps := ps) (fun q => decide (q.1 ∈ bits n) && decide (q.2 ∈ bits t)) (walk_list (K := K) (a := a) (xs := vs)) (fun H g => (ga.trans g).seq hA) (TpAll.grow (Grow.of ga) hp) line nD2 (fun a1 x1 y1 q1 Hd C N hs h1 h2 mem gd cy cn => ?_) (fun Hb ins gb hD2 li => ?_)⟩⟩
  · have d6 := dps q1 mem
    refine ⟨a1, _, rfl, hs, rfl, _, _, rfl, _, _, rfl, rfl, rfl, _, rfl, _, rfl, q1.1, b, ys, bits n, h1, by omega, rfl, .inr (sqT_same (ga.trans gd) sy), NaAll.same my (ga.trans gd), dn9, _, rfl, ite_bl (fun c1 => ?_) (fun c1 => ?_)⟩
    · have c1' : decide (q1.1 ∈ bits n) = true := c1
      refine ⟨_, rfl, _, rfl, q1.2, c, zs, bits t, h2, by omega, rfl, .inr (sqT_same (ga.trans gd) sz), NaAll.same mz (ga.trans gd), dt9, _, rfl, ite_bl (fun c2 => ?_) (fun c2 => ?_)⟩
      · have c2' : decide (q1.2 ∈ bits t) = true := c2
        exact ⟨_, rfl, _, rfl, (by show 2 ≤ sizeLine; decide), fun u nu => cy (by rw [c1', c2']; rfl) _ _ (same_new nu _)⟩
      · have c2' : decide (q1.2 ∈ bits t) = false := c2
        exact cn (by rw [c1', c2']; rfl) _ (Same.refl _)
    · have c1' : decide (q1.1 ∈ bits n) = false := c1
      exact cn (by rw [c1']; rfl) _ (Same.refl _)
  have Gb := ga.trans gb
  have all : ins.length = vs.length ↔ ∀ p ∈ ps, p.1 ∈ bits n ∧ p.2 ∈ bits t := by
    rw [li, lM, List.length_filter_eq_length_iff]
    constructor
    · intro z p hp
      have := z p hp
      simpa using this
    · intro z p hp
      have := z p hp
      simpa using this
  refine ⟨_, rfl, !ss.isEmpty, .inl ⟨ss, Gb.seq hS, rfl⟩, _, rfl, ite_bl (fun c0 => ?_) (fun c0 => ?_)⟩
  · have e0 : ss = [] := by
      rw [Bool.not_not, List.isEmpty_iff] at c0
      exact c0
    refine ⟨_, rfl, D2, ins, rfl, .inl (SqL.of hD2), _, rfl, a, vs, rfl, .inl (Gb.seq hA), rfl, _, rfl, ite_bl (fun c1 => ?_) (fun c1 => ?_)⟩
    · have e1 : ins.length = vs.length := by
        have := V.int.inj (of_decide_eq_true c1)
        omega
      have d7 : ∀ k ∈ ps.map (·.1), dep k ≤ 6 := fun k hk => by
        obtain ⟨p, hp, rfl⟩ := List.mem_map.mp hk
        exact (dps p hp).1
      refine ⟨_, rfl, D, fi, ps.map (·.1), rfl, .inl (SqL.of (gb _ _ hD)), NaAll.same mf gb, fun k hk => (by have := d7 k hk; omega), by decide, fun r Hc gc hr2 => ?_⟩
      have dm : dep (mk (ps.map (·.1))) ≤ 7 := dep_mk fun k hk => by have := d7 k hk; omega
      have Gc := Gb.trans gc
      refine ⟨_, rfl, _, n, hr2, hy.same Gc, by omega, by omega, _, rfl, ite_bl (fun c2 => ?_) (fun c2 => ?_)⟩
      · have e2 : mk (ps.map (·.1)) = n := of_decide_eq_true c2
        have lf := NaAll.ln mf
        rw [List.length_map] at lf
        refine ⟨_, rfl, D, fi, rfl, .inl (SqL.of ((gb.trans gc) _ _ hD)), _, rfl, b, ys, rfl, .inr (sqT_same Gc sy), rfl, q _ _ Gc ?_⟩
        rw [decide_eq_true_eq, lf, ly]
        constructor
        · intro z
          have := V.int.inj z
          exact ⟨e0, all.mp e1, e2, by omega⟩
        · intro z
          rw [z.2.2.2]
      · have e2 : ¬ mk (ps.map (·.1)) = n := of_decide_eq_false c2
        exact q false _ Gc ⟨fun z => (by cases z), fun z => absurd z.2.2.1 e2⟩
    · refine q false _ Gb ⟨fun z => (by cases z), fun z => ?_⟩
      have := all.mpr z.2.1
      rw [this] at c1
      exact absurd rfl (of_decide_eq_false c1)
  · refine q false _ Gb ⟨fun z => (by cases z), fun z => ?_⟩
    rw [z.1] at c0
    cases c0
end
end Nk
namespace Nk
open PySem L2
section
variable {P : Program} {w : World} {K : PySem.W.Frag} {mg : Str → Option Value} {base : Heap}
theorem ix_mod (z : Int) {d : Nat} (h : 0 < d) : ∃ r : Nat, z % (d : Int) = (r : Int) ∧ r < d := by
  have h1 := Int.emod_nonneg z (show (d : Int) ≠ 0 by omega)
  have h2 := Int.emod_lt_of_pos z (show (0 : Int) < d by omega)
  exact ⟨(z % (d : Int)).toNat, (Int.toNat_of_nonneg h1).symm, by omega⟩
theorem cutm_take {α : Type} (f : α → V) (M : List α) (j : Nat) : cutV (M.map f) none (some (j : Int)) = (M.take j).map f := by
  unfold cutV
  rw [HT.sIx_none, HT.sIx_nat, List.drop_zero, Nat.sub_zero, List.map_take]
  by_cases h : j ≤ (M.map f).length
  · rw [Nat.min_eq_left h]
  · rw [Nat.min_eq_right (by omega), List.take_of_length_le (Nat.le_refl _), List.take_of_length_le (by omega)]
theorem cutm_drop {α : Type} (f : α → V) (M : List α) (j : Nat) : cutV (M.map f) (some (j : Int)) none = (M.drop j).map f := by
  unfold cutV
  rw [HT.sIx_none, HT.sIx_nat, List.map_drop, List.take_of_length_le (by rw [List.length_drop]; omega)]
  by_cases h : j ≤ (M.map f).length
  · rw [Nat.min_eq_left h]
  · rw [Nat.min_eq_right (by omega), List.drop_of_length_le (Nat.le_refl _), List.drop_of_length_le (by omega)]
theorem zero_no_pair : ¬ IsPair 0 := by
  rintro ⟨a, b, e⟩
  have h : mk [a] ∈ bits (pairN a b) := mem_pair.mpr (.inl rfl)
  rw [← e, bits_zero] at h
  cases h
theorem one_first : ∀ {ps : List Pr}, (ps.map (·.1)).Nodup → ∀ {q1 q2 : Pr}, q1 ∈ ps → q2 ∈ ps → q1.1 = q2.1 → q1 = q2
  | [], _, _, _, h, _, _ => by cases h
  | q :: ps, nd, q1, q2, h1, h2, e => by
    obtain ⟨no, nd⟩ := List.nodup_cons.mp nd
    rcases List.mem_cons.mp h1 with e1 | i1
    · rcases List.mem_cons.mp h2 with e2 | i2
      · rw [e1, e2]
      · exact (no (List.mem_map.mpr ⟨q2, i2, by rw [← e, e1]⟩)).elim
    · rcases List.mem_cons.mp h2 with e2 | i2
      · exact (no (List.mem_map.mpr ⟨q1, i1, by rw [e, e2]⟩)).elim
      · exact one_first nd i1 i2 e
theorem one_new {H : Hp} {p t : Addr} {n : Nat} (hx : Na K H (.ref p) n) (nt : H t = none) : Na K (upd H t (.tup [.ref p])) (.ref t) (mk [n]) := by
  refine Na.of (SqT.of upd_same) ?_
  rw [bits_one]
  exact .cons (hx.same (same_new nt _)) .nil
def deep5 : Nat := mk [mk [mk [mk [mk [0]]]]]
theorem dep_one (k : Nat) : dep (mk [k]) = dep k + 1 := by
  have h1 := dep_mem (mem_mk.mpr (List.mem_cons_self : k ∈ [k]))
  have h2 : dep (mk [k]) ≤ dep k + 1 := dep_mk fun j hj => by rw [List.mem_singleton.mp hj]; exact Nat.le_refl _
  omega
theorem deep5_dep : dep deep5 = 5 := by
  unfold deep5
  rw [dep_one, dep_one, dep_one, dep_one, dep_one, dep_zero]
theorem sc_law : FnScope ["_law_script", "_law_one", "_law_other", "_law_due", "_law_mine", "_law_rows", "_law_cell_here", "_law_some_here", "_law_strange", "_law_at", "_law_more", "_law_far", "_law_kept", "_law_made", "_law_found", "_law_yours", "_law_k"] ["_law_script"] (defScope s_law) := ⟨rfl, rfl, rfl, by decide +kernel, rfl, by decide +kernel, by decide +kernel⟩
theorem law_ok {fs : Nat → Addr} {fds : Nat → FuncData} (T : Top K mg fs fds) : FnOk P w K mg base CX0 121 (fs 22) (fds 22) ["_law_script"] (spLaw K) := by
  have GS := some_ok (P := P) (w := w) (base := base) T
  have GL := lawnest_ok (P := P) (w := w) (base := base) T
  have GX := cell_ok (P := P) (w := w) (base := base) T
  have GM := law_mix_ok (P := P) (w := w) (base := base) T.law_mix
  have GP := pair_ok (P := P) (w := w) (base := base) T
  have GPr := product_ok (P := P) (w := w) (base := base) T
  have GI := is_map_ok (P := P) (w := w) (base := base) T
  have GV := law_value_ok (P := P) (w := w) (base := base) T
  have GLM := law_is_map_ok (P := P) (w := w) (base := base) T
  refine T.law.fn.ok sc_law (fun vs H Q E h => ?_) (fun cdv A outer s H vs Q E hr h => ?_)
  · obtain ⟨a, ns, rfl, _⟩ := h
    rfl
  obtain ⟨a, ns, rfl, hS, h63, q⟩ := h
  have r1 : Room 1 _ := hr.mono (by decide)
  have r12 : Room 12 _ := hr.mono (by decide)
  have r13 : Room 13 _ := hr.mono (by decide)
  have r14 : Room 14 _ := hr.mono (by decide)
  have r15 : Room 15 _ := hr.mono (by decide)
  have r100 : Room 100 _ := hr.mono (by decide)
  have r101 : Room 101 _ := hr.mono (by decide)
  have r106 : Room 106 _ := hr.mono (by decide)
  refine ⟨_, pss_cons (ps_set (i := 1) sc_law.nd rfl (Or.inl rfl) (pe_call GL r100 rfl T.law_nest.nm T.law_nest.fn.kp T.law_nest.bd .nil pass0 (pa_cons (pe_call GS r106 rfl T.law_some.nm T.law_some.fn.kp T.law_some.bd .nil pass0 (pa_cons (pv 0) (pa_cons pe_int (pa_cons pe_int pa_nil)))) pa_nil)))
    (pss_cons (ps_set (i := 2) sc_law.nd rfl (Or.inr rfl) (pe_call GL r100 rfl T.law_nest.nm T.law_nest.fn.kp T.law_nest.bd .nil pass0 (pa_cons (pe_call GS r106 rfl T.law_some.nm T.law_some.fn.kp T.law_some.bd .nil pass0 (pa_cons (pv 0) (pa_cons pe_int (pa_cons pe_int pa_nil)))) pa_nil)))
    (pss_cons (ps_set (i := 3) sc_law.nd rfl (Or.inl rfl) (pe_lst pa_nil))
    (pss_cons (ps_for PassesOwn.never rfl (pi_tup (pe_z (pv 1))) (pg_name (i := 4) sc_law.nd rfl (Or.inr rfl)) (pss_one (ps_expr (pe_bm PySem.F.plainAttrs_list PySem.F.slot_list_extend PySem.F.type_list_extend mt_extend (pv 3) (pa_cons (pe_lc (own := [("_law_yours", 15)]) (g := gName 15) (tt := tYes) rfl sc_law.nd (pi_tup (pe_z (pv 2))) (blkOk_by (N := ["_law_script", "_law_one", "_law_other", "_law_due", "_law_mine", "_law_rows", "_law_cell_here", "_law_some_here", "_law_strange", "_law_at", "_law_more", "_law_far", "_law_kept", "_law_made", "_law_found", "_law_yours", "_law_k"]) (sc := defScope s_law) (by decide +kernel)) (fun _ _ _ _ _ => pg_name (i := 15) sc_law.nd rfl (Or.inl rfl)) (fun _ _ _ _ _ => pts_nil) (fun _ _ _ _ _ => pe_call GP r12 rfl T.pair.nm T.pair.fn.kp T.pair.bd .nil pass0 (pa_cons (pv 4) (pa_cons (pv 15) pa_nil)))) pa_nil)))))
    (pss_cons (ps_if (PW.pt (pw_or (pt_cmpR (one' (K := K) hr) (pe_call GPr r13 rfl T.product.nm T.product.fn.kp T.product.bd .nil pass0 (pa_cons (pv 1) (pa_cons (pv 2) pa_nil))) (pe_call GL r100 rfl T.law_nest.nm T.law_nest.fn.kp T.law_nest.bd .nil pass0 (pa_cons (pv 3) pa_nil)) (nomark _)) (pw_or1 (pt_cmpR op_ne (pe_callB call_len_seq rfl T.z_len PySem.boot_len (pa_cons (pe_call GPr r13 rfl T.product.nm T.product.fn.kp T.product.bd .nil pass0 (pa_cons (pv 1) (pa_cons (pv 2) pa_nil))) pa_nil)) (pe_op op_mul (pe_callB call_len_seq rfl T.z_len PySem.boot_len (pa_cons (pv 1) pa_nil)) (pe_callB call_len_seq rfl T.z_len PySem.boot_len (pa_cons (pv 2) pa_nil))) (nomark _))))) (pss_one (ps_ret pe_bl)) pss_nil)
    (pss_cons (ps_setLc (i := 5) (own := [("_law_k", 16), ("_law_mine", 4)]) (g := gTup K 2 (gCons (gName 16) (gCons (gName 4) gNil))) (tt := tYes) rfl sc_law.nd rfl rfl (sw_true rfl rfl rfl (by decide +kernel)) (pi_enumT rfl T.z_enumerate (pa_cons (pv 1) pa_nil)) (blkOk_by (N := ["_law_script", "_law_one", "_law_other", "_law_due", "_law_mine", "_law_rows", "_law_cell_here", "_law_some_here", "_law_strange", "_law_at", "_law_more", "_law_far", "_law_kept", "_law_made", "_law_found", "_law_yours", "_law_k"]) (sc := defScope s_law) (by decide +kernel)) (fun _ _ _ _ _ => pg_tup rfl (pgs_cons (pg_name (i := 16) sc_law.nd rfl (Or.inl rfl)) (pgs_cons (pg_name (i := 4) sc_law.nd rfl (Or.inl rfl)) pgs_nil))) (fun _ _ _ _ _ => pts_nil) (fun _ _ _ _ _ => pe_tup (pa_cons (pv 4) (pa_cons (pe_ix (oixT (K := K)) (pv 2) (pe_call GM r1 rfl T.law_mix.nm T.law_mix.fn.kp T.law_mix.bd .nil pass0 (pa_cons (pe_op op_add (pe_call GX r1 rfl T.law_cell.nm T.law_cell.fn.kp T.law_cell.bd .nil pass0 (pa_cons (pv 0) (pa_cons pe_int pa_nil))) (pv 16)) (pa_cons pe_int (pa_cons (pe_callB (olen (K := K)) rfl T.z_len PySem.boot_len (pa_cons (pv 2) pa_nil)) pa_nil)))) (fun _ _ => rfl)) pa_nil))))
    (pss_cons (ps_for PassesOwn.never rfl (pi_list (pe_op op_cat (pe_lst (pa_cons pe_non pa_nil)) (pe_callTy call_list_of rfl T.z_list PyProof.Rows.boot_list (pa_cons (pe_slice sl_list (pv 0) (po_some pe_int) (po_some pe_int)) pa_nil)))) (pg_name (i := 6) sc_law.nd rfl (Or.inl rfl)) (pss_cons (ps_set (i := 7) sc_law.nd rfl (Or.inl rfl) (pe_callTy call_list_of rfl T.z_list PyProof.Rows.boot_list (pa_cons (pv 5) pa_nil)))
    (pss_cons (ps_set (i := 8) sc_law.nd rfl (Or.inl rfl) (pe_lst pa_nil))
    (pss_cons (ps_if (pt_cmpR op_notN (pv 6) pe_non (nomark _)) (pss_cons (ps_set (i := 9) sc_law.nd rfl (Or.inl rfl) (pe_op op_mod (pv 6) (pe_callB call_len_seq rfl T.z_len PySem.boot_len (pa_cons (pv 7) pa_nil))))
    (pss_cons (ps_set (i := 10) sc_law.nd rfl (Or.inl rfl) (pe_lst (pa_cons (pe_tup (pa_cons (pe_ix ix_tup (pe_ix ix_list (pv 7) (pv 9) (fun _ _ => rfl)) pe_int (fun _ _ => rfl)) (pa_cons (pe_ix ix_tup (pv 2) (pe_op op_mod (pv 6) (pe_callB call_len_seq rfl T.z_len PySem.boot_len (pa_cons (pv 2) pa_nil))) (fun _ _ => rfl)) pa_nil))) (pa_cons (pe_tup (pa_cons (pe_ix ix_tup (pv 2) (pe_un un_neg pe_int) (fun _ _ => rfl)) (pa_cons (pe_ix ix_tup (pe_ix ix_list (pv 7) (pv 9) (fun _ _ => rfl)) pe_int (fun _ _ => rfl)) pa_nil))) (pa_cons (pe_tup (pa_cons (pe_ix ix_tup (pe_ix ix_list (pv 7) (pv 9) (fun _ _ => rfl)) pe_int (fun _ _ => rfl)) (pa_cons (pe_ix ix_tup (pv 1) pe_int (fun _ _ => rfl)) pa_nil))) pa_nil)))))
    (pss_cons (ps_set (i := 11) sc_law.nd rfl (Or.inl rfl) (pe_op op_cat (pe_op op_cat (pe_slice sl_list (pv 7) po_none (po_some (pv 9))) (pe_lst (pa_cons (pe_tup (pa_cons (pe_ix ix_tup (pe_ix ix_list (pv 7) (pv 9) (fun _ _ => rfl)) pe_int (fun _ _ => rfl)) (pa_cons (pv 2) pa_nil))) pa_nil))) (pe_slice sl_list (pv 7) (po_some (pe_op op_add (pv 9) pe_int)) po_none)))
    (pss_cons (ps_set (i := 7) sc_law.nd rfl (Or.inl rfl) (pe_ix ix_list (pe_lst (pa_cons (pe_op op_cat (pe_slice sl_list (pv 7) po_none (po_some (pv 9))) (pe_slice sl_list (pv 7) (po_some (pe_op op_add (pv 9) pe_int)) po_none)) (pa_cons (pe_op op_cat (pv 7) (pe_lst (pa_cons (pe_ix ix_list (pv 10) (pe_op op_mod (pe_op op_fdiv (pv 6) pe_int) pe_int) (fun _ _ => rfl)) pa_nil))) (pa_cons (pv 7) (pa_cons (pv 11) pa_nil))))) (pe_op op_mod (pe_op op_fdiv (pv 6) pe_int) pe_int) (fun _ _ => rfl)))
    (pss_one (ps_set (i := 8) sc_law.nd rfl (Or.inl rfl) (pe_ix ix_list (pe_lst (pa_cons (pe_lst pa_nil) (pa_cons (pe_lst (pa_cons (pe_tup pa_nil) pa_nil)) pa_nil))) (pe_callTy call_int1 rfl T.z_int PyProof.Rows.boot_int (pa_cons (pe_cmpR op_eq (pe_op op_mod (pe_op op_fdiv (pv 6) pe_int) pe_int) pe_int (nomark _)) pa_nil)) (fun _ _ => rfl)))))))) pss_nil)
    (pss_cons (ps_set (i := 12) sc_law.nd rfl (Or.inl rfl) (pe_callB (cr_sortedP' rfl (hu64 hr)) rfl T.z_sorted PyProof.Rows.boot_sorted (pa_cons (pe_callTy (cr_setP rfl (hu64 hr)) rfl T.z_set PyProof.Rows.boot_set (pa_cons (pv 7) pa_nil)) pa_nil)))
    (pss_cons (ps_set (i := 13) sc_law.nd rfl (Or.inl rfl) (pe_call GL r100 rfl T.law_nest.nm T.law_nest.fn.kp T.law_nest.bd .nil pass0 (pa_cons (pe_op op_cat (pe_lc (own := [("_law_mine", 4), ("_law_yours", 15)]) (g := gTup K 2 (gCons (gName 4) (gCons (gName 15) gNil))) (tt := tYes) rfl sc_law.nd (pi_list (pe_z (pv 12))) (blkOk_by (N := ["_law_script", "_law_one", "_law_other", "_law_due", "_law_mine", "_law_rows", "_law_cell_here", "_law_some_here", "_law_strange", "_law_at", "_law_more", "_law_far", "_law_kept", "_law_made", "_law_found", "_law_yours", "_law_k"]) (sc := defScope s_law) (by decide +kernel)) (fun _ _ _ _ _ => pg_tup rfl (pgs_cons (pg_name (i := 4) sc_law.nd rfl (Or.inl rfl)) (pgs_cons (pg_name (i := 15) sc_law.nd rfl (Or.inl rfl)) pgs_nil))) (fun _ _ _ _ _ => pts_nil) (fun _ _ _ _ _ => pe_call GP r12 rfl T.pair.nm T.pair.fn.kp T.pair.bd .nil pass0 (pa_cons (pv 4) (pa_cons (pv 15) pa_nil)))) (pv 8)) pa_nil)))
    (pss_cons (ps_set (i := 14) sc_law.nd rfl (Or.inl rfl) (pe_call GI r14 rfl T.is_map.nm T.is_map.fn.kp T.is_map.bd .nil pass0 (pa_cons (pv 13) (pa_cons (pv 1) (pa_cons (pv 2) pa_nil)))))
    (pss_cons (ps_if (PW.pt (pw_or (pt_not (pt_val (pe_callB call_isb rfl T.z_isinstance PyProof.Rows.boot_isinstance (pa_cons (pv 14) (pa_cons (pe_bltn (v := .ty "bool") rfl T.z_bool PyProof.Rows.boot_bool rfl) pa_nil))))) (pw_or1 (pt_cmpR op_ne (pv 14) (pe_call GLM r101 rfl T.law_is_map.nm T.law_is_map.fn.kp T.law_is_map.bd .nil pass0 (pa_cons (pv 12) (pa_cons (pv 1) (pa_cons (pv 2) (pa_cons (pv 8) pa_nil))))) (nomark _))))) (pss_one (ps_ret pe_bl)) pss_nil)
    (pss_cons (ps_for PassesOwn.never rfl (pi_list (pe_z (pv 12))) (pg_tup rfl (pgs_cons (pg_name (i := 4) sc_law.nd rfl (Or.inr rfl)) (pgs_cons (pg_name (i := 15) sc_law.nd rfl (Or.inl rfl)) pgs_nil))) (pss_one (ps_if (PW.pt (pw_and (pt_truth (pv 14) (by intro _; rfl)) (pw_and1 (pt_cmpR (one' (K := K) hr) (pe_call GV r15 rfl T.law_value.nm T.law_value.fn.kp T.law_value.bd .nil pass0 (pa_cons (pv 13) (pa_cons (pv 4) pa_nil))) (pv 15) (nomark _))))) (pss_one (ps_ret pe_bl)) pss_nil)))
    (pss_one (ps_if (PW.pt (pw_and (pt_truth (pv 14) (by intro _; rfl)) (pw_and1 (pt_cmpR op_notN (pe_call GV r15 rfl T.law_value.nm T.law_value.fn.kp T.law_value.bd .nil pass0 (pa_cons (pv 13) (pa_cons (pe_tup (pa_cons (pe_tup (pa_cons (pe_tup (pa_cons (pe_tup (pa_cons (pe_tup (pa_cons (pe_tup pa_nil) pa_nil)) pa_nil)) pa_nil)) pa_nil)) pa_nil)) pa_nil))) pe_non (nomark _))))) (pss_one (ps_ret pe_bl)) pss_nil)))))))))))
    (pss_one (ps_ret pe_bl)))))))), ?_⟩
  -- the two nests
  refine ⟨_, rfl, a, 0, 4, ns, rfl, hS, h63, by decide, fun L1 H1 xs1 ms1 g1 hL1 hx1 hm1 lm1 thm1 => ?_⟩
  have deep1 : ∀ k ∈ ms1 ++ [0], dep k ≤ 4 := fun k hk => by
    rcases List.mem_append.mp hk with hk | hk
    · exact (hm1 k hk).1
    · rw [List.mem_singleton.mp hk, dep_zero]
      decide
  refine ⟨L1, xs1, ms1 ++ [0], rfl, .inl (SqL.of hL1), hx1, fun k hk => (by have := deep1 k hk; omega), by decide, fun x1 H2 g2 hx => ?_⟩
  obtain ⟨n, en⟩ : ∃ n, n = mk (ms1 ++ [0]) := ⟨_, rfl⟩
  rw [← en] at hx
  have n4 : ∀ k ∈ bits n, dep k ≤ 4 := fun k hk => deep1 k (mem_mk.mp (en ▸ hk))
  have n0 : 0 ∈ bits n := by
    rw [en]
    exact mem_mk.mpr (List.mem_append_right _ (List.mem_singleton.mpr rfl))
  have ln : (bits n).length ≤ 5 := by
    rw [en]
    have := (mk_len_le (ms1 ++ [0])).1
    rw [List.length_append, List.length_singleton] at this
    omega
  have dn : dep n ≤ 5 := by
    rw [en]
    exact dep_mk fun k hk => by have := deep1 k hk; omega
  clear en deep1 hx1 hL1 hm1 lm1 thm1
  refine ⟨_, rfl, a, 4, 3, ns, rfl, (g1.trans g2).seq hS, h63, by decide, fun L2 H3 xs2 ms2 g3 hL2 hx2 hm2 lm2 thm2 => ?_⟩
  have deep2 : ∀ k ∈ ms2 ++ [0], dep k ≤ 4 := fun k hk => by
    rcases List.mem_append.mp hk with hk | hk
    · exact (hm2 k hk).1
    · rw [List.mem_singleton.mp hk, dep_zero]
      decide
  refine ⟨L2, xs2, ms2 ++ [0], rfl, .inl (SqL.of hL2), hx2, fun k hk => (by have := deep2 k hk; omega), by decide, fun x2 H4 g4 hy => ?_⟩
  obtain ⟨m, em⟩ : ∃ m, m = mk (ms2 ++ [0]) := ⟨_, rfl⟩
  rw [← em] at hy
  have m4 : ∀ k ∈ bits m, dep k ≤ 4 := fun k hk => deep2 k (mem_mk.mp (em ▸ hk))
  have m0 : 0 ∈ bits m := by
    rw [em]
    exact mem_mk.mpr (List.mem_append_right _ (List.mem_singleton.mpr rfl))
  have lm : (bits m).length ≤ 5 := by
    rw [em]
    have := (mk_len_le (ms2 ++ [0])).1
    rw [List.length_append, List.length_singleton] at this
    omega
  have dm : dep m ≤ 5 := by
    rw [em]
    exact dep_mk fun k hk => by have := deep2 k hk; omega
  clear em deep2 hx2 hL2 hm2 lm2 thm2
  have hx4 := hx.same (g3.trans g4)
  have G4 := g1.trans (g2.trans (g3.trans g4))
  have hS4 := G4.seq hS
  clear hx g1 g2 g3 g4 G4
  obtain ⟨p, xs, rfl, sx, mx⟩ := hx4.tup
  obtain ⟨b, ys, rfl, sy, my⟩ := hy.tup
  have lx := NaAll.ln mx
  have ly := NaAll.ln my
  have px : 0 < xs.length := lx ▸ List.length_pos_of_mem n0
  have py : 0 < ys.length := ly ▸ List.length_pos_of_mem m0
  -- what is due of the product
  refine ⟨(by show 0 ≤ sizeLine; decide), fun F nF => ?_⟩
  have sF := same_new nF (.lst [])
  refine ⟨_, rfl, fun _ => ⟨p, rfl, ⟨xs, sqT_same sF sx⟩, for_tup (K := K) (a := p) (xs := xs) (fun i σ H' => ∃ v4 acc, σ = [some (.ref a), some (.ref p), some (.ref b), some (.ref F), v4, none, none, none, none, none, none, none, none, none, none, none, none] ∧ Same H4 H' ∧ H' F = some (.lst acc) ∧ NaAll K H' acc (((bits n).take i).flatMap fun a => (bits m).map fun c => pairN a c) ∧ acc.length ≤ 10 * i)
    ⟨none, [], rfl, sF, upd_same, by rw [List.take_zero]; exact .nil, Nat.le_refl _⟩ (fun i σ H' _ z => by obtain ⟨_, _, _, g, _⟩ := z; exact sqT_same g sx) ?_ ?_⟩⟩
  · rintro i x σ H1 hi ⟨v4, acc, rfl, g1, hF, mF, lF⟩
    obtain ⟨k, hk, mem, tp⟩ := NaAll.at mx hi
    have dk := n4 k mem
    have less : i < xs.length := (List.getElem?_eq_some_iff.mp hi).1
    refine ⟨_, rfl, .inl ⟨rfl, acc, SqL.of hF⟩, _, rfl, fun _ => ⟨b, rfl, ⟨ys, sqT_same g1 sy⟩, fun D nD => maps_na (K := K) (xs := ys) (ns := bits m) (walk_tup (K := K) (a := b) (xs := ys)) (fun H g => sqT_same (g1.trans g) sy) (fun c => pairN k c) (NaAll.same my g1) (small (by omega)) nD (fun z c Ha C hz mc ga cy => ?_) (fun Ha acc2 ga hD ma => ?_)⟩⟩
    · have dc := m4 c mc
      exact ⟨rfl, _, rfl, _, rfl, x, z, k, c, rfl, (tp.same g1).same ga, hz, by omega, by omega, fun r Hb gb hr => cy r Hb gb hr⟩
    · have l2 := NaAll.ln ma
      rw [List.length_map] at l2
      refine ⟨F, D, acc, acc2, rfl, rfl, ga _ _ hF, hD, small (by omega), ?_⟩
      refine ⟨_, acc ++ acc2, rfl, same_put (g1.trans ga) nF, upd_same, ?_, by rw [List.length_append]; omega⟩
      rw [List.take_add_one, hk, List.flatMap_append]
      have e : (some k).toList.flatMap (fun a => (bits m).map fun c => pairN a c) = (bits m).map fun c => pairN k c := by
        show ([k] : List Nat).flatMap _ = _
        rw [List.flatMap_cons, List.flatMap_nil, List.append_nil]
      rw [e]
      exact (NaAll.cat (NaAll.same mF ga) ma).grow (Grow.lst (ga _ _ hF))
  rintro σ H5 ⟨v4, due, rfl, g5, hF, mF, _⟩
  rw [lx, List.take_length] at mF
  have hx5 := hx4.same g5
  have hy5 := hy.same g5
  have dprod : ∀ k ∈ prods n m, dep k ≤ 6 := fun k hk => by
    obtain ⟨a1, c1, ha, hc, rfl⟩ := mem_prods.mp hk
    exact pair_dep (n4 a1 ha) (m4 c1 hc)
  have dprod2 : dep (mk (prods n m)) ≤ 7 := dep_mk fun k hk => by have := dprod k hk; omega
  refine ⟨_, rfl, _, rfl, .ref p, .ref b, n, m, rfl, hx5, hy5, dn, dm, by omega, by omega, fun r1 H6 g6 hr1 => ?_⟩
  refine ⟨_, rfl, F, due, prods n m, rfl, .inl (SqL.of (g6 _ _ hF)), NaAll.same mF g6, fun k hk => (by have := dprod k hk; omega), by decide, fun r2 H7 g7 hr2 => ?_⟩
  refine ⟨_, _, hr1.same g7, hr2, by omega, by omega, _, rfl, skip_iff rfl ?_⟩
  have G7 := g5.trans (g6.trans g7)
  refine ⟨_, rfl, _, rfl, .ref p, .ref b, n, m, rfl, hx4.same G7, hy.same G7, dn, dm, by omega, by omega, fun r3 H8 g8 hr3 => ?_⟩
  have G8 := G7.trans g8
  obtain ⟨p3, xs3, rfl, s3, m3⟩ := hr3.tup
  have l3 := NaAll.ln m3
  have many : xs3.length = xs.length * ys.length := by rw [l3, len_mk (prods_nodup n m), prods_len, lx, ly]
  refine ⟨p3, xs3, rfl, .inr s3, _, rfl, p, xs, rfl, .inr (sqT_same G8 sx), _, rfl, b, ys, rfl, .inr (sqT_same G8 sy), _, _, rfl, rfl, .inl ⟨by omega, by omega⟩, rfl, _, rfl, skip_iff (congrArg V.int ?_) ?_⟩
  · rw [many]
    exact Int.natCast_mul _ _
  -- the rows
  have sx8 := sqT_same G8 sx
  have sy8 := sqT_same G8 sy
  have hS8 := G8.seq hS4
  refine ⟨_, rfl, p, xs, rfl, sx8, fun R0 nR0 => lc_it (walk_enumT (K := K) (a := p) (xs := xs)) (Pv := fun i H' => Same H8 H' ∧ ∃ M : List (Pr × Addr), H' R0 = some (.lst (M.map fun q => V.ref q.2)) ∧ M.length = i ∧ ∀ q ∈ M, Tp K H' (.ref q.2) (pd q.1) ∧ q.1.1 ∈ bits n ∧ q.1.2 ∈ bits m)
    ⟨same_new nR0 _, [], upd_same, rfl, fun q hq => (by cases hq)⟩ (fun i H' _ z => sqT_same z.1 sx8) (fun i x Ha Hb hi pv y => ?_) (fun H9 pv => ?_)⟩
  · obtain ⟨ga, M, hR, lM, atM⟩ := pv
    obtain ⟨Tt, u, y, rfl, nT, rfl, e1, e2⟩ := y
    cases e1
    obtain ⟨k, _, mem, tp⟩ := NaAll.at mx e2
    have sT := same_new nT (.tup [.int ((i : Nat) : Int), y])
    have gT := ga.trans sT
    refine ⟨Tt, _, rfl, SqT.of upd_same, rfl, _, _, rfl, _, _, rfl, rfl, rfl, ?_⟩
    have hR2 := sT _ _ hR
    generalize upd Ha Tt (.tup [.int ((i : Nat) : Int), y]) = Hc at sT gT hR2 ⊢
    refine ⟨_, rfl, _, rfl, _, rfl, a, ns, 8, rfl, gT.seq hS8, fun c => ?_⟩
    obtain ⟨jk, ejk, ljk⟩ := ix_mod ((c + ((i : Nat) : Int)) * 48271 % 9949) (d := ys.length) py
    obtain ⟨yk, hyk⟩ : ∃ y, ys[jk]? = some y := ⟨_, List.getElem?_eq_getElem ljk⟩
    obtain ⟨kb, _, mkb, tkb⟩ := NaAll.at my hyk
    refine ⟨_, rfl, _, _, rfl, rfl, _, rfl, b, ys, rfl, .inr (sqT_same gT sy8), _, 9949, _, rfl, by decide, by omega, b, ys, _, yk, rfl, rfl, sqT_same gT sy8, (by rw [ejk]; exact atI_nat hyk), (by show 2 ≤ sizeLine; decide), fun v nv => ?_⟩
    have sv := same_new nv (.tup [y, yk])
    have gv := gT.trans sv
    have hR3 := sv _ _ hR2
    have tv : Tp K (upd Hc v (.tup [y, yk])) (.ref v) (pd (k, kb)) := pd_of (p := (k, kb)) (SqT.of upd_same) (tp.same (G8.trans gv)) (tkb.same (G8.trans gv))
    generalize upd Hc v (.tup [y, yk]) = Hd at sv gv hR3 tv ⊢
    refine ⟨_, hR3, smaller (by rw [List.length_map]; omega), same_put gv nR0, M ++ [((k, kb), v)], ?_, by rw [List.length_append, lM]; rfl, fun q hq => ?_⟩
    · rw [upd_same, List.map_append]
      rfl
    · have grw := Grow.lst (K := K) (o := .lst (M.map (fun q => V.ref q.2) ++ [.ref v])) hR3
      rcases List.mem_append.mp hq with hq | hq
      · obtain ⟨z1, z2⟩ := atM q hq
        exact ⟨((z1.grow (Grow.of sT)).grow (Grow.of sv)).grow grw, z2⟩
      · rw [List.mem_singleton.mp hq]
        exact ⟨tv.grow grw, mem, mkb⟩
  obtain ⟨g9, M0, hR, lM0, at0⟩ := pv
  have G9 := G8.trans g9
  have hS9 := g9.seq hS8
  have pM : 0 < M0.length := by omega
  have lM5 : M0.length ≤ 5 := by omega
  -- none, and the cells
  refine ⟨(by show 1 ≤ sizeLine; decide), fun z1 nz1 => ?_⟩
  have sz1 := same_new nz1 (.lst [.non])
  refine ⟨_, rfl, 9, rfl, 15, rfl, a, _, rfl, sz1.seq hS9, fun z2 nz2 => ?_⟩
  have cut : ∃ cs : List Int, cutV (ns.map V.int) (some (9 : Int)) (some (15 : Int)) = cs.map V.int ∧ cs.length < 64 := by
    refine ⟨(ns.drop (min 9 (ns.map V.int).length)).take (min 15 (ns.map V.int).length - min 9 (ns.map V.int).length), ?_, ?_⟩
    · show cutV (ns.map V.int) (some ((9 : Nat) : Int)) (some ((15 : Nat) : Int)) = _
      unfold cutV
      rw [HT.sIx_nat, HT.sIx_nat, List.map_take, List.map_drop]
    · rw [List.length_take]
      omega
  obtain ⟨cs, ec, lc⟩ := cut
  rw [ec]
  have sz2 := same_new nz2 (.lst (cs.map V.int))
  refine ⟨z2, _, rfl, .inl (SqL.of upd_same), fun z3 nz3 => ?_⟩
  have sz3 := same_new nz3 (.lst (cs.map V.int))
  refine ⟨z1, z3, [.non], cs.map V.int, rfl, rfl, sz3 _ _ (sz2 _ _ upd_same), upd_same, small (by rw [List.length_map]; simp only [List.length_singleton]; omega), fun z4 nz4 => ?_⟩
  have sz4 := same_new nz4 (.lst ([.non] ++ cs.map V.int))
  have hz4 : (upd (upd (upd (upd H9 z1 (.lst [.non])) z2 (.lst (cs.map V.int))) z3 (.lst (cs.map V.int))) z4 (.lst ([.non] ++ cs.map V.int))) z4 = some (.lst ([.non] ++ cs.map V.int)) := upd_same
  have g10 := sz1.trans (sz2.trans (sz3.trans sz4))
  generalize upd (upd (upd (upd H9 z1 (.lst [.non])) z2 (.lst (cs.map V.int))) z3 (.lst (cs.map V.int))) z4 (.lst ([.non] ++ cs.map V.int)) = H10 at hz4 g10 ⊢
  clear sz1 sz2 sz3 sz4
  have G10 := G9.trans g10
  have hR10 := g10 _ _ hR
  have at10 : ∀ q ∈ M0, Tp K H10 (.ref q.2) (pd q.1) ∧ q.1.1 ∈ bits n ∧ q.1.2 ∈ bits m := fun q hq => ⟨(at0 q hq).1.grow (Grow.of g10), (at0 q hq).2⟩
  refine ⟨z4, rfl, ⟨_, SqL.of hz4⟩, for_list (K := K) (a := z4) (xs := [.non] ++ cs.map V.int) (fun i σ H' => ∃ v4 v6 v7 v8 v9 v10 v11 v12 v13 v14 v15 v16, σ = [some (.ref a), some (.ref p), some (.ref b), some (.ref F), v4, some (.ref R0), v6, v7, v8, v9, v10, v11, v12, v13, v14, v15, v16] ∧ Same H10 H')
    ⟨v4, none, none, none, none, none, none, none, none, none, none, none, rfl, Same.refl _⟩ (fun i σ H' _ z => by obtain ⟨_, _, _, _, _, _, _, _, _, _, _, _, _, g⟩ := z; exact SqL.of (g _ _ hz4)) (fun i x σ Ha hi z => ?_) (fun σ H' z => by obtain ⟨_, _, _, _, _, _, _, _, _, _, _, _, rfl, g⟩ := z; exact q _)⟩
  obtain ⟨v4, v6, v7, v8, v9, v10, v11, v12, v13, v14, v15, v16, rfl, ga⟩ := z
  have item : x = .non ∨ ∃ c : Int, x = .int c := by
    rcases List.mem_cons.mp (List.mem_of_getElem? hi) with e | e
    · exact .inl e
    · obtain ⟨c, _, e⟩ := List.mem_map.mp e
      exact .inr ⟨c, e.symm⟩
  refine ⟨_, rfl, R0, _, rfl, .inl (SqL.of (ga _ _ hR10)), fun S7 n7 => ?_⟩
  have s7 := same_new n7 (.lst (M0.map fun q => V.ref q.2))
  refine ⟨(by show 0 ≤ sizeLine; decide), fun S8 n8 => ?_⟩
  have s8 := same_new n8 (.lst [])
  have f_S7 : (upd (upd Ha S7 (.lst (M0.map fun q => V.ref q.2))) S8 (.lst [])) S7 = some (.lst (M0.map fun q => V.ref q.2)) := s8 _ _ upd_same
  have f_S8 : (upd (upd Ha S7 (.lst (M0.map fun q => V.ref q.2))) S8 (.lst [])) S8 = some (.lst []) := upd_same
  have gb := ga.trans (s7.trans s8)
  generalize upd (upd Ha S7 (.lst (M0.map fun q => V.ref q.2))) S8 (.lst []) = Hb at f_S7 f_S8 gb ⊢
  clear s7 s8
  refine ⟨_, rfl, rfl, _, rfl, ite_bl (fun c0 => ?isint) (fun c0 => ?isnon)⟩
  case' isint =>
    obtain ⟨c, rfl⟩ : ∃ c : Int, x = .int c := by
      rcases item with rfl | z
      · cases c0
      · exact z
    obtain ⟨j, ej, lj⟩ := ix_mod c (d := M0.length) (by omega)
    have ej' : c % ((M0.map fun q => V.ref q.2).length : Int) = (j : Int) := by rw [List.length_map]; exact ej
    refine ⟨_, rfl, _, rfl, S7, _, rfl, .inl (SqL.of f_S7), _, _, rfl, rfl, (by rw [List.length_map]; omega), gname_at (congrArg V.int ej') ?_⟩
    obtain ⟨⟨⟨a1, b1⟩, A⟩, hq⟩ : ∃ q, M0[j]? = some q := ⟨_, List.getElem?_eq_getElem lj⟩
    have hsel : (M0.map fun q => V.ref q.2)[j]? = some (.ref A) := by rw [List.getElem?_map, hq]; rfl
    obtain ⟨tpA, ha1, hb1⟩ := at10 _ (List.mem_of_getElem? hq)
    obtain ⟨A2, x1, y1, eA, sA, tx1, ty1⟩ := pd_open tpA
    obtain rfl : A = A2 := V.ref.inj eA
    have sy10 := sqT_same G10 sy
    have sx10 := sqT_same G10 sx
    obtain ⟨jk, ejk, ljk⟩ := ix_mod c (d := ys.length) py
    obtain ⟨yk, hyk⟩ : ∃ y, ys[jk]? = some y := ⟨_, List.getElem?_eq_getElem ljk⟩
    obtain ⟨kb, _, mkb, tkb⟩ := NaAll.at my hyk
    obtain ⟨ys0, yl, eys⟩ : ∃ ys0 yl, ys = ys0 ++ [yl] := ⟨_, _, (List.dropLast_concat_getLast (List.ne_nil_of_length_pos py)).symm⟩
    have hyl : ys[ys0.length]? = some yl := by rw [eys]; simp
    have lastY : atI ys (-1) = some yl := by rw [eys]; exact atI_last ys0 yl
    obtain ⟨kl, _, mkl, tkl⟩ := NaAll.at my hyl
    obtain ⟨x0, hx0⟩ : ∃ x, xs[0]? = some x := ⟨_, List.getElem?_eq_getElem px⟩
    obtain ⟨k0, _, mk0, tk0⟩ := NaAll.at mx hx0
    have d1 := n4 a1 ha1
    have d2 := m4 b1 hb1
    have d3 := m4 kb mkb
    have d4 := m4 kl mkl
    have d5 := n4 k0 mk0
    refine ⟨_, rfl, _, rfl, S7, _, _, .ref A, rfl, rfl, SqL.of f_S7, atI_nat hsel, A, [x1, y1], 0, x1, rfl, rfl, sqT_same gb sA, rfl, _, rfl, _, rfl, _, rfl, b, ys, rfl, .inr (sqT_same gb sy10), _, _, rfl, rfl, (by omega), b, ys, _, yk, rfl, rfl, sqT_same gb sy10, (by rw [ejk]; exact atI_nat hyk), (by show 2 ≤ sizeLine; decide), fun t1 nt1 => ?_⟩
    have s_ := same_new nt1 (.tup [x1, yk])
    have f_t1 : (upd Hb t1 (.tup [x1, yk])) t1 = some (.tup [x1, yk]) := upd_same
    generalize upd Hb t1 (.tup [x1, yk]) = K1 at s_ f_t1 ⊢
    have f_S7 := s_ _ _ f_S7
    have f_S8 := s_ _ _ f_S8
    replace gb := gb.trans s_
    clear s_
    refine ⟨_, rfl, 1, rfl, b, ys, -1, yl, rfl, rfl, sqT_same gb sy10, lastY, _, rfl, _, rfl, S7, _, _, .ref A, rfl, rfl, SqL.of f_S7, atI_nat hsel, A, [x1, y1], 1, y1, rfl, rfl, sqT_same gb sA, rfl, (by show 2 ≤ sizeLine; decide), fun t2 nt2 => ?_⟩
    have s_ := same_new nt2 (.tup [yl, y1])
    have f_t2 : (upd K1 t2 (.tup [yl, y1])) t2 = some (.tup [yl, y1]) := upd_same
    generalize upd K1 t2 (.tup [yl, y1]) = K2 at s_ f_t2 ⊢
    have f_S7 := s_ _ _ f_S7
    have f_S8 := s_ _ _ f_S8
    have f_t1 := s_ _ _ f_t1
    replace gb := gb.trans s_
    clear s_
    refine ⟨_, rfl, _, rfl, S7, _, _, .ref A, rfl, rfl, SqL.of f_S7, atI_nat hsel, A, [x1, y1], 1, y1, rfl, rfl, sqT_same gb sA, rfl, _, rfl, p, xs, 0, x0, rfl, rfl, sqT_same gb sx10, atI_nat hx0, (by show 2 ≤ sizeLine; decide), fun t3 nt3 => ?_⟩
    have s_ := same_new nt3 (.tup [y1, x0])
    have f_t3 : (upd K2 t3 (.tup [y1, x0])) t3 = some (.tup [y1, x0]) := upd_same
    generalize upd K2 t3 (.tup [y1, x0]) = K3 at s_ f_t3 ⊢
    have f_S7 := s_ _ _ f_S7
    have f_S8 := s_ _ _ f_S8
    have f_t1 := s_ _ _ f_t1
    have f_t2 := s_ _ _ f_t2
    replace gb := gb.trans s_
    clear s_
    refine ⟨(by show 3 ≤ sizeLine; decide), fun l10 n10 => ?_⟩
    have s_ := same_new n10 (.lst [.ref t1, .ref t2, .ref t3])
    have f_l10 : (upd K3 l10 (.lst [.ref t1, .ref t2, .ref t3])) l10 = some (.lst [.ref t1, .ref t2, .ref t3]) := upd_same
    generalize upd K3 l10 (.lst [.ref t1, .ref t2, .ref t3]) = K4 at s_ f_l10 ⊢
    have f_S7 := s_ _ _ f_S7
    have f_S8 := s_ _ _ f_S8
    have f_t1 := s_ _ _ f_t1
    have f_t2 := s_ _ _ f_t2
    have f_t3 := s_ _ _ f_t3
    replace gb := gb.trans s_
    clear s_
    refine ⟨_, rfl, _, rfl, _, rfl, S7, _, rfl, SqL.of f_S7, fun p1 np1 => ?_⟩
    rw [cutm_take]
    generalize eTk : (M0.take j).map (fun q => V.ref q.2) = tk
    have s_ := same_new np1 (.lst tk)
    have f_p1 : (upd K4 p1 (.lst tk)) p1 = some (.lst tk) := upd_same
    generalize upd K4 p1 (.lst tk) = K5 at s_ f_p1 ⊢
    have f_S7 := s_ _ _ f_S7
    have f_S8 := s_ _ _ f_S8
    have f_t1 := s_ _ _ f_t1
    have f_t2 := s_ _ _ f_t2
    have f_t3 := s_ _ _ f_t3
    have f_l10 := s_ _ _ f_l10
    replace gb := gb.trans s_
    clear s_
    refine ⟨_, rfl, _, rfl, S7, _, _, .ref A, rfl, rfl, SqL.of f_S7, atI_nat hsel, A, [x1, y1], 0, x1, rfl, rfl, sqT_same gb sA, rfl, _, rfl, (by show 2 ≤ sizeLine; decide), fun t4 nt4 => ?_⟩
    have s_ := same_new nt4 (.tup [x1, .ref b])
    have f_t4 : (upd K5 t4 (.tup [x1, .ref b])) t4 = some (.tup [x1, .ref b]) := upd_same
    generalize upd K5 t4 (.tup [x1, .ref b]) = K6 at s_ f_t4 ⊢
    have f_S7 := s_ _ _ f_S7
    have f_S8 := s_ _ _ f_S8
    have f_t1 := s_ _ _ f_t1
    have f_t2 := s_ _ _ f_t2
    have f_t3 := s_ _ _ f_t3
    have f_l10 := s_ _ _ f_l10
    have f_p1 := s_ _ _ f_p1
    replace gb := gb.trans s_
    clear s_
    refine ⟨(by show 1 ≤ sizeLine; decide), fun l4 nl4 => ?_⟩
    have s_ := same_new nl4 (.lst [.ref t4])
    have f_l4 : (upd K6 l4 (.lst [.ref t4])) l4 = some (.lst [.ref t4]) := upd_same
    generalize upd K6 l4 (.lst [.ref t4]) = K7 at s_ f_l4 ⊢
    have f_S7 := s_ _ _ f_S7
    have f_S8 := s_ _ _ f_S8
    have f_t1 := s_ _ _ f_t1
    have f_t2 := s_ _ _ f_t2
    have f_t3 := s_ _ _ f_t3
    have f_l10 := s_ _ _ f_l10
    have f_p1 := s_ _ _ f_p1
    have f_t4 := s_ _ _ f_t4
    replace gb := gb.trans s_
    clear s_
    have ltk : tk.length ≤ 8 := by rw [← eTk, List.length_map, List.length_take]; omega
    refine ⟨p1, l4, tk, _, rfl, rfl, f_p1, f_l4, small (by simp only [List.length_singleton]; omega), fun c1 nc1 => ?_⟩
    have s_ := same_new nc1 (.lst (tk ++ [.ref t4]))
    have f_c1 : (upd K7 c1 (.lst (tk ++ [.ref t4]))) c1 = some (.lst (tk ++ [.ref t4])) := upd_same
    generalize upd K7 c1 (.lst (tk ++ [.ref t4])) = K8 at s_ f_c1 ⊢
    have f_S7 := s_ _ _ f_S7
    have f_S8 := s_ _ _ f_S8
    have f_t1 := s_ _ _ f_t1
    have f_t2 := s_ _ _ f_t2
    have f_t3 := s_ _ _ f_t3
    have f_l10 := s_ _ _ f_l10
    have f_p1 := s_ _ _ f_p1
    have f_t4 := s_ _ _ f_t4
    have f_l4 := s_ _ _ f_l4
    replace gb := gb.trans s_
    clear s_
    refine ⟨_, rfl, _, rfl, _, _, rfl, rfl, _, rfl, S7, _, rfl, SqL.of f_S7, fun p2 np2 => ?_⟩
    have ej1 : (j : Int) + 1 = ((j + 1 : Nat) : Int) := by omega
    rw [ej1, cutm_drop]
    generalize eDr : (M0.drop (j + 1)).map (fun q => V.ref q.2) = dr
    have s_ := same_new np2 (.lst dr)
    have f_p2 : (upd K8 p2 (.lst dr)) p2 = some (.lst dr) := upd_same
    generalize upd K8 p2 (.lst dr) = K9 at s_ f_p2 ⊢
    have f_S7 := s_ _ _ f_S7
    have f_S8 := s_ _ _ f_S8
    have f_t1 := s_ _ _ f_t1
    have f_t2 := s_ _ _ f_t2
    have f_t3 := s_ _ _ f_t3
    have f_l10 := s_ _ _ f_l10
    have f_p1 := s_ _ _ f_p1
    have f_t4 := s_ _ _ f_t4
    have f_l4 := s_ _ _ f_l4
    have f_c1 := s_ _ _ f_c1
    replace gb := gb.trans s_
    clear s_
    have ldr : dr.length ≤ 8 := by rw [← eDr, List.length_map, List.length_drop]; omega
    refine ⟨c1, p2, _, dr, rfl, rfl, f_c1, f_p2, small (by rw [List.length_append]; simp only [List.length_singleton]; omega), fun f11 nf11 => ?_⟩
    have s_ := same_new nf11 (.lst (tk ++ [.ref t4] ++ dr))
    have f_f11 : (upd K9 f11 (.lst (tk ++ [.ref t4] ++ dr))) f11 = some (.lst (tk ++ [.ref t4] ++ dr)) := upd_same
    generalize upd K9 f11 (.lst (tk ++ [.ref t4] ++ dr)) = K10 at s_ f_f11 ⊢
    have f_S7 := s_ _ _ f_S7
    have f_S8 := s_ _ _ f_S8
    have f_t1 := s_ _ _ f_t1
    have f_t2 := s_ _ _ f_t2
    have f_t3 := s_ _ _ f_t3
    have f_l10 := s_ _ _ f_l10
    have f_p1 := s_ _ _ f_p1
    have f_t4 := s_ _ _ f_t4
    have f_l4 := s_ _ _ f_l4
    have f_c1 := s_ _ _ f_c1
    have f_p2 := s_ _ _ f_p2
    replace gb := gb.trans s_
    clear s_
    refine ⟨_, rfl, _, rfl, _, rfl, S7, _, rfl, SqL.of f_S7, fun q1 nq1 => ?_⟩
    rw [cutm_take, eTk]
    have s_ := same_new nq1 (.lst tk)
    have f_q1 : (upd K10 q1 (.lst tk)) q1 = some (.lst tk) := upd_same
    generalize upd K10 q1 (.lst tk) = K11 at s_ f_q1 ⊢
    have f_S7 := s_ _ _ f_S7
    have f_S8 := s_ _ _ f_S8
    have f_t1 := s_ _ _ f_t1
    have f_t2 := s_ _ _ f_t2
    have f_t3 := s_ _ _ f_t3
    have f_l10 := s_ _ _ f_l10
    have f_p1 := s_ _ _ f_p1
    have f_t4 := s_ _ _ f_t4
    have f_l4 := s_ _ _ f_l4
    have f_c1 := s_ _ _ f_c1
    have f_p2 := s_ _ _ f_p2
    have f_f11 := s_ _ _ f_f11
    replace gb := gb.trans s_
    clear s_
    refine ⟨_, rfl, _, rfl, _, _, rfl, rfl, _, rfl, S7, _, rfl, SqL.of f_S7, fun q2 nq2 => ?_⟩
    rw [ej1, cutm_drop, eDr]
    have s_ := same_new nq2 (.lst dr)
    have f_q2 : (upd K11 q2 (.lst dr)) q2 = some (.lst dr) := upd_same
    generalize upd K11 q2 (.lst dr) = K12 at s_ f_q2 ⊢
    have f_S7 := s_ _ _ f_S7
    have f_S8 := s_ _ _ f_S8
    have f_t1 := s_ _ _ f_t1
    have f_t2 := s_ _ _ f_t2
    have f_t3 := s_ _ _ f_t3
    have f_l10 := s_ _ _ f_l10
    have f_p1 := s_ _ _ f_p1
    have f_t4 := s_ _ _ f_t4
    have f_l4 := s_ _ _ f_l4
    have f_c1 := s_ _ _ f_c1
    have f_p2 := s_ _ _ f_p2
    have f_f11 := s_ _ _ f_f11
    have f_q1 := s_ _ _ f_q1
    replace gb := gb.trans s_
    clear s_
    refine ⟨q1, q2, tk, dr, rfl, rfl, f_q1, f_q2, small (by omega), fun A0 nA0 => ?_⟩
    have s_ := same_new nA0 (.lst (tk ++ dr))
    have f_A0 : (upd K12 A0 (.lst (tk ++ dr))) A0 = some (.lst (tk ++ dr)) := upd_same
    generalize upd K12 A0 (.lst (tk ++ dr)) = K13 at s_ f_A0 ⊢
    have f_S7 := s_ _ _ f_S7
    have f_S8 := s_ _ _ f_S8
    have f_t1 := s_ _ _ f_t1
    have f_t2 := s_ _ _ f_t2
    have f_t3 := s_ _ _ f_t3
    have f_l10 := s_ _ _ f_l10
    have f_p1 := s_ _ _ f_p1
    have f_t4 := s_ _ _ f_t4
    have f_l4 := s_ _ _ f_l4
    have f_c1 := s_ _ _ f_c1
    have f_p2 := s_ _ _ f_p2
    have f_f11 := s_ _ _ f_f11
    have f_q1 := s_ _ _ f_q1
    have f_q2 := s_ _ _ f_q2
    replace gb := gb.trans s_
    clear s_
    obtain ⟨e3, ee3, le3⟩ := ix_mod (c / 7) (d := 3) (by decide)
    obtain ⟨pq, t, xa, ya, hpq, f_t, txa, tya, dpq1, dpq2⟩ : ∃ (pq : Pr) (t : Addr) (xa ya : V), [V.ref t1, .ref t2, .ref t3][e3]? = some (.ref t) ∧ K13 t = some (.tup [xa, ya]) ∧ Na K H10 xa pq.1 ∧ Na K H10 ya pq.2 ∧ dep pq.1 ≤ 4 ∧ dep pq.2 ≤ 4 := by
      match e3, le3 with
      | 0, _ => exact ⟨(a1, kb), t1, x1, yk, rfl, f_t1, tx1, tkb.same G10, d1, d3⟩
      | 1, _ => exact ⟨(kl, b1), t2, yl, y1, rfl, f_t2, tkl.same G10, ty1, d4, d2⟩
      | 2, _ => exact ⟨(b1, k0), t3, y1, x0, rfl, f_t3, ty1, tk0.same G10, d2, d5⟩
    refine ⟨_, rfl, _, rfl, _, rfl, _, _, rfl, rfl, ⟨by decide, by decide⟩, _, _, rfl, rfl, (by decide : (0 : Int) < 3), l10, _, _, .ref t, rfl, rfl, SqL.of f_l10, (show atI _ (c / 7 % ((3 : Nat) : Int)) = _ by rw [ee3]; exact atI_nat hpq), (by show 1 ≤ sizeLine; decide), fun l5 nl5 => ?_⟩
    have s_ := same_new nl5 (.lst [.ref t])
    have f_l5 : (upd K13 l5 (.lst [.ref t])) l5 = some (.lst [.ref t]) := upd_same
    generalize upd K13 l5 (.lst [.ref t]) = K14 at s_ f_l5 ⊢
    have f_S7 := s_ _ _ f_S7
    have f_S8 := s_ _ _ f_S8
    have f_t1 := s_ _ _ f_t1
    have f_t2 := s_ _ _ f_t2
    have f_t3 := s_ _ _ f_t3
    have f_l10 := s_ _ _ f_l10
    have f_p1 := s_ _ _ f_p1
    have f_t4 := s_ _ _ f_t4
    have f_l4 := s_ _ _ f_l4
    have f_c1 := s_ _ _ f_c1
    have f_p2 := s_ _ _ f_p2
    have f_f11 := s_ _ _ f_f11
    have f_q1 := s_ _ _ f_q1
    have f_q2 := s_ _ _ f_q2
    have f_A0 := s_ _ _ f_A0
    have f_t := s_ _ _ f_t
    replace gb := gb.trans s_
    clear s_
    have lrw : (M0.map fun q => V.ref q.2).length ≤ 8 := by rw [List.length_map]; omega
    refine ⟨S7, l5, _, _, rfl, rfl, f_S7, f_l5, small (by simp only [List.length_singleton]; omega), fun A1 nA1 => ?_⟩
    have s_ := same_new nA1 (.lst ((M0.map fun q => V.ref q.2) ++ [.ref t]))
    have f_A1 : (upd K14 A1 (.lst ((M0.map fun q => V.ref q.2) ++ [.ref t]))) A1 = some (.lst ((M0.map fun q => V.ref q.2) ++ [.ref t])) := upd_same
    generalize upd K14 A1 (.lst ((M0.map fun q => V.ref q.2) ++ [.ref t])) = K15 at s_ f_A1 ⊢
    have f_S7 := s_ _ _ f_S7
    have f_S8 := s_ _ _ f_S8
    have f_t1 := s_ _ _ f_t1
    have f_t2 := s_ _ _ f_t2
    have f_t3 := s_ _ _ f_t3
    have f_l10 := s_ _ _ f_l10
    have f_p1 := s_ _ _ f_p1
    have f_t4 := s_ _ _ f_t4
    have f_l4 := s_ _ _ f_l4
    have f_c1 := s_ _ _ f_c1
    have f_p2 := s_ _ _ f_p2
    have f_f11 := s_ _ _ f_f11
    have f_q1 := s_ _ _ f_q1
    have f_q2 := s_ _ _ f_q2
    have f_A0 := s_ _ _ f_A0
    have f_t := s_ _ _ f_t
    have f_l5 := s_ _ _ f_l5
    replace gb := gb.trans s_
    clear s_
    refine ⟨_, rfl, _, rfl, (by show 4 ≤ sizeLine; decide), fun l6 nl6 => ?_⟩
    have s_ := same_new nl6 (.lst [.ref A0, .ref A1, .ref S7, .ref f11])
    have f_l6 : (upd K15 l6 (.lst [.ref A0, .ref A1, .ref S7, .ref f11])) l6 = some (.lst [.ref A0, .ref A1, .ref S7, .ref f11]) := upd_same
    generalize upd K15 l6 (.lst [.ref A0, .ref A1, .ref S7, .ref f11]) = K16 at s_ f_l6 ⊢
    have f_S7 := s_ _ _ f_S7
    have f_S8 := s_ _ _ f_S8
    have f_t1 := s_ _ _ f_t1
    have f_t2 := s_ _ _ f_t2
    have f_t3 := s_ _ _ f_t3
    have f_l10 := s_ _ _ f_l10
    have f_p1 := s_ _ _ f_p1
    have f_t4 := s_ _ _ f_t4
    have f_l4 := s_ _ _ f_l4
    have f_c1 := s_ _ _ f_c1
    have f_p2 := s_ _ _ f_p2
    have f_f11 := s_ _ _ f_f11
    have f_q1 := s_ _ _ f_q1
    have f_q2 := s_ _ _ f_q2
    have f_A0 := s_ _ _ f_A0
    have f_t := s_ _ _ f_t
    have f_l5 := s_ _ _ f_l5
    have f_A1 := s_ _ _ f_A1
    replace gb := gb.trans s_
    clear s_
    obtain ⟨r, er, lr⟩ := ix_mod (c / 5) (d := 4) (by decide)
    have er' : c / 5 % 4 = (r : Int) := er
    have all0 : ∀ q ∈ M0, PaAt K K16 q.1 (.ref q.2) := fun q hq => ⟨(at10 q hq).1.grow (Grow.of gb), by have := n4 _ (at10 q hq).2.1; omega, by have := m4 _ (at10 q hq).2.2; omega⟩
    have new1 : PaAt K K16 pq (.ref t) := ⟨pd_of (SqT.of f_t) (txa.same gb) (tya.same gb), by omega, by omega⟩
    have new4 : PaAt K K16 (a1, m) (.ref t4) := ⟨pd_of (p := (a1, m)) (SqT.of f_t4) (tx1.same gb) (hy.same (G10.trans gb)), by show dep a1 ≤ 6; omega, by show dep m ≤ 6; omega⟩
    obtain ⟨S7f, Mf, hS7, f7, paf, lenf⟩ : ∃ (S7f : Addr) (Mf : List (Pr × Addr)), [V.ref A0, .ref A1, .ref S7, .ref f11][r]? = some (.ref S7f) ∧ K16 S7f = some (.lst (Mf.map fun q => V.ref q.2)) ∧ (∀ q ∈ Mf, PaAt K K16 q.1 (.ref q.2)) ∧ Mf.length ≤ 6 := by
      match r, lr with
      | 0, _ =>
        refine ⟨A0, M0.take j ++ M0.drop (j + 1), rfl, by rw [List.map_append, eTk, eDr]; exact f_A0, fun q hq => ?_, by rw [List.length_append, List.length_take, List.length_drop]; omega⟩
        rcases List.mem_append.mp hq with z | z
        · exact all0 q (List.mem_of_mem_take z)
        · exact all0 q (List.mem_of_mem_drop z)
      | 1, _ =>
        refine ⟨A1, M0 ++ [(pq, t)], rfl, by rw [List.map_append]; exact f_A1, fun q hq => ?_, by rw [List.length_append, List.length_singleton]; omega⟩
        rcases List.mem_append.mp hq with z | z
        · exact all0 q z
        · rw [List.mem_singleton.mp z]
          exact new1
      | 2, _ => exact ⟨S7, M0, rfl, f_S7, all0, by omega⟩
      | 3, _ =>
        refine ⟨f11, M0.take j ++ [((a1, m), t4)] ++ M0.drop (j + 1), rfl, by rw [List.map_append, List.map_append, eTk, eDr]; exact f_f11, fun q hq => ?_, by rw [List.length_append, List.length_append, List.length_take, List.length_drop, List.length_singleton]; omega⟩
        rcases List.mem_append.mp hq with z | z
        · rcases List.mem_append.mp z with z | z
          · exact all0 q (List.mem_of_mem_take z)
          · rw [List.mem_singleton.mp z]
            exact new4
        · exact all0 q (List.mem_of_mem_drop z)
    refine ⟨_, rfl, _, _, rfl, rfl, ⟨by decide, by decide⟩, _, _, rfl, rfl, (by decide : (0 : Int) < 4), l6, _, _, .ref S7f, rfl, rfl, SqL.of f_l6, (show atI _ (c / 5 % ((4 : Nat) : Int)) = _ by rw [er]; exact atI_nat hS7), ?_⟩
    obtain ⟨gc, egc⟩ : ∃ g : Same K16 K16, g = Same.refl _ := ⟨_, rfl⟩
    clear egc
    refine ⟨(by show 0 ≤ sizeLine; decide), fun u0 nu0 => ?_⟩
    have s_ := same_new nu0 (.lst [])
    have f_u0 : (upd K16 u0 (.lst [])) u0 = some (.lst []) := upd_same
    generalize upd K16 u0 (.lst []) = K17 at s_ f_u0 ⊢
    replace gc := gc.trans s_
    clear s_
    refine ⟨(by show 0 ≤ sizeLine; decide), fun u1 nu1 => ?_⟩
    have s_ := same_new nu1 (.tup [])
    have f_u1 : (upd K17 u1 (.tup [])) u1 = some (.tup []) := upd_same
    generalize upd K17 u1 (.tup []) = K18 at s_ f_u1 ⊢
    have f_u0 := s_ _ _ f_u0
    replace gc := gc.trans s_
    clear s_
    refine ⟨(by show 1 ≤ sizeLine; decide), fun u2 nu2 => ?_⟩
    have s_ := same_new nu2 (.lst [.ref u1])
    have f_u2 : (upd K18 u2 (.lst [.ref u1])) u2 = some (.lst [.ref u1]) := upd_same
    generalize upd K18 u2 (.lst [.ref u1]) = K19 at s_ f_u2 ⊢
    have f_u0 := s_ _ _ f_u0
    have f_u1 := s_ _ _ f_u1
    replace gc := gc.trans s_
    clear s_
    refine ⟨(by show 2 ≤ sizeLine; decide), fun u3 nu3 => ?_⟩
    have s_ := same_new nu3 (.lst [.ref u0, .ref u2])
    have f_u3 : (upd K19 u3 (.lst [.ref u0, .ref u2])) u3 = some (.lst [.ref u0, .ref u2]) := upd_same
    generalize upd K19 u3 (.lst [.ref u0, .ref u2]) = K20 at s_ f_u3 ⊢
    have f_u0 := s_ _ _ f_u0
    have f_u1 := s_ _ _ f_u1
    have f_u2 := s_ _ _ f_u2
    replace gc := gc.trans s_
    clear s_
    obtain ⟨S8f, ssf, zsf, hS8, f8, nzf, ezf⟩ : ∃ (S8f : Addr) (ssf : List V) (zsf : List Nat), atI [V.ref u0, .ref u2] (if decide (V.int (c / 5 % 4) = V.int 2) = true then 1 else 0) = some (.ref S8f) ∧ K20 S8f = some (.lst ssf) ∧ NaAll K K20 ssf zsf ∧ (zsf = [] ∨ zsf = [0]) := by
      by_cases e : V.int (c / 5 % 4) = V.int 2
      · rw [decide_eq_true e]
        exact ⟨u2, [.ref u1], [0], rfl, f_u2, .cons (Na.of (n := 0) (SqT.of f_u1) .nil) .nil, .inr rfl⟩
      · rw [decide_eq_false e]
        exact ⟨u0, [], [], rfl, f_u0, .nil, .inl rfl⟩
    refine ⟨_, rfl, _, _, rfl, rfl, ⟨by decide, by decide⟩, _, _, rfl, rfl, (by decide : (0 : Int) < 4), rfl, .inr ⟨_, rfl, u3, _, _, .ref S8f, rfl, rfl, SqL.of f_u3, hS8, ?_⟩⟩
    replace f7 := gc _ _ f7
    replace paf : ∀ q ∈ Mf, PaAt K K20 q.1 (.ref q.2) := fun q hq => (paf q hq).same gc
    have gf := gb.trans gc
    clear gc gb
    clear f_u0 f_u1 f_u2 f_u3 hS8
    generalize K20 = Hf at *
  case' isnon =>
    obtain rfl : x = .non := by
      rcases item with z | ⟨c, rfl⟩
      · exact z
      · cases c0
    obtain ⟨S7f, eS7⟩ : ∃ z, z = S7 := ⟨_, rfl⟩
    obtain ⟨S8f, eS8⟩ : ∃ z, z = S8 := ⟨_, rfl⟩
    obtain ⟨Mf, eMf⟩ : ∃ z, z = M0 := ⟨_, rfl⟩
    have f7 : Hb S7f = some (.lst (Mf.map fun q => V.ref q.2)) := by rw [eS7, eMf]; exact f_S7
    obtain ⟨ssf, ess⟩ : ∃ z : List V, z = [] := ⟨_, rfl⟩
    have f8 : Hb S8f = some (.lst ssf) := by rw [eS8, ess]; exact f_S8
    obtain ⟨zsf, ezs⟩ : ∃ z : List Nat, z = [] := ⟨_, rfl⟩
    have nzf : NaAll K Hb ssf zsf := by rw [ess, ezs]; exact .nil
    have ezf : zsf = [] ∨ zsf = [0] := .inl ezs
    have gf := gb
    have paf : ∀ q ∈ Mf, PaAt K Hb q.1 (.ref q.2) := fun q hq => by
      rw [eMf] at hq
      exact ⟨(at10 q hq).1.grow (Grow.of gb), by have := n4 _ (at10 q hq).2.1; omega, by have := m4 _ (at10 q hq).2.2; omega⟩
    have lenf : Mf.length ≤ 6 := by rw [eMf]; omega
    rw [← eS7, ← eS8]
    generalize Hb = Hf at *
  all_goals
    refine ⟨_, rfl, S7f, Mf, rfl, SqL.of f7, paf, by omega, fun Sx L nx sub full nd le => ?_⟩
    generalize eS : SetP _ _ Sx L = oS
    have s_ := same_new nx oS
    refine ⟨Sx, L, rfl, upd_same.trans (congrArg some eS.symm), fun q hq => (paf q (sub q hq)).same s_, by omega, fun Kp Mk nk pm => ?_⟩
    have sk := s_.trans (same_new nk (.lst (Mk.map fun q => V.ref q.2)))
    have fK : (upd (upd Hf Sx oS) Kp (.lst (Mk.map fun q => V.ref q.2))) Kp = some (.lst (Mk.map fun q => V.ref q.2)) := upd_same
    generalize upd (upd Hf Sx oS) Kp (.lst (Mk.map fun q => V.ref q.2)) = H11 at sk fK ⊢
    clear s_ eS
    have lenK : Mk.length ≤ 6 := by rw [pm.length_eq]; omega
    have ndK : (Mk.map (·.1)).Nodup := (pm.map (·.1)).nodup_iff.mpr nd
    have paK : ∀ q ∈ Mk, PaAt K H11 q.1 (.ref q.2) := fun q hq => (paf q (sub q (pm.mem_iff.mp hq))).same sk
    have f8k := sk _ _ f8
    have nzk := NaAll.same nzf sk
    have g11 := gf.trans sk
    have allK := PaAt.all paK
    have dps : ∀ q ∈ Mk.map (·.1), dep q.1 ≤ 6 ∧ dep q.2 ≤ 6 := fun q hq => by
      obtain ⟨k, hk, rfl⟩ := List.mem_map.mp hq
      exact (paK k hk).2
    have lps : (Mk.map (·.1)).length ≤ 6 := by rw [List.length_map]; exact lenK
    have fK2 := fK
    have lenR : (Mk.map fun q : Pr × Addr => V.ref q.2).length = (Mk.map (·.1)).length := by rw [List.length_map, List.length_map]
    generalize eW : (Mk.map fun q : Pr × Addr => V.ref q.2) = ws at fK2 allK lenR
    generalize eP : Mk.map (·.1) = ps at allK dps lps ndK lenR
    refine ⟨_, rfl, fun _ => ⟨Kp, rfl, ⟨ws, SqL.of fK2⟩, fun D nD => maps_pn (K := K) (xs := ws) (ps := ps) pr (walk_list (K := K) (a := Kp) (xs := ws)) (fun H g => SqL.of (g _ _ fK2)) allK (small (by omega)) nD (fun a1 x1 y1 q1 Hd C hs h1 h2 mem gd cy => ⟨a1, _, rfl, hs, rfl, _, _, rfl, _, _, rfl, rfl, rfl, _, rfl, _, rfl, x1, y1, q1.1, q1.2, rfl, h1, h2, (dps q1 mem).1, (dps q1 mem).2, fun r He ge hr => cy r He ge hr⟩) (fun Hm acc gm hD ma => ?_)⟩⟩
    have lacc := NaAll.ln ma
    rw [List.length_map] at lacc
    have lss := NaAll.ln nzk
    have lzs : zsf.length ≤ 1 := by rcases ezf with e | e <;> rw [e] <;> decide
    refine ⟨_, rfl, D, S8f, acc, ssf, rfl, rfl, hD, gm _ _ f8k, small (by omega), fun Z nZ => ?_⟩
    have sZ := same_new nZ (.lst (acc ++ ssf))
    have fZ : (upd Hm Z (.lst (acc ++ ssf))) Z = some (.lst (acc ++ ssf)) := upd_same
    have mZ := NaAll.same (NaAll.cat ma (NaAll.same nzk gm)) sZ
    have gz := gm.trans sZ
    generalize upd Hm Z (.lst (acc ++ ssf)) = Hz at fZ mZ gz ⊢
    have dms : ∀ k ∈ ps.map pr ++ zsf, dep k ≤ 8 := fun k hk => by
      rcases List.mem_append.mp hk with hk | hk
      · obtain ⟨q1, hq, rfl⟩ := List.mem_map.mp hk
        exact pair_dep (dps q1 hq).1 (dps q1 hq).2
      · have e : k = 0 := by
          rcases ezf with e | e
          · rw [e] at hk; cases hk
          · rw [e] at hk; exact List.mem_singleton.mp hk
        rw [e, dep_zero]
        decide
    refine ⟨Z, _, _, rfl, .inl (SqL.of fZ), mZ, fun k hk => (by have := dms k hk; omega), by decide, fun v Hv gv hv => ?_⟩
    obtain ⟨m2, em2⟩ : ∃ m2, m2 = mk (ps.map pr ++ zsf) := ⟨_, rfl⟩
    rw [← em2] at hv
    have dm2 : dep m2 ≤ 9 := by
      rw [em2]
      exact dep_mk fun k hk => by have := dms k hk; omega
    have Gv := G10.trans (g11.trans (gz.trans gv))
    have g11v := gz.trans gv
    refine ⟨_, rfl, _, rfl, _, rfl, v, .ref p, .ref b, m2, n, m, rfl, hv, hx4.same Gv, hy.same Gv, dm2, by omega, by omega, fun fb Ho go hfb => ?_⟩
    have g11o := g11v.trans go
    have fKo := g11o _ _ fK
    have paKo : ∀ q ∈ Mk, PaAt K Ho q.1 (.ref q.2) := fun q hq => (paK q hq).same g11o
    have Go := G10.trans (g11.trans g11o)
    refine ⟨_, rfl, fb, rfl, true, rfl, iteF ?_⟩
    refine ⟨_, rfl, _, rfl, _, rfl, _, rfl, _, rfl, Kp, S8f, Mk, .ref p, .ref b, n, m, ssf, rfl, SqL.of fKo, paKo, by omega, hx4.same Go, hy.same Go, by omega, by omega, SqL.of (g11o _ _ f8k), fun fb2 Hq gq hfb2 => ?_⟩
    rw [eP] at hfb2
    have same_ : IsMap m2 n m ↔ ssf = [] ∧ (∀ p ∈ ps, p.1 ∈ bits n ∧ p.2 ∈ bits m) ∧ mk (ps.map (·.1)) = n ∧ ps.length = (bits n).length := by
      rcases ezf with e | e
      · have e2 : ssf = [] := List.eq_nil_of_length_eq_zero (by rw [lss, e]; rfl)
        rw [em2, e, List.append_nil, map_iff ndK]
        exact ⟨fun z => ⟨e2, z⟩, fun z => z.2⟩
      · refine ⟨fun z => absurd z (not_map (k := 0) ?_ zero_no_pair), fun z => ?_⟩
        · rw [em2, e]
          exact mem_mk.mpr (List.mem_append_right _ (List.mem_singleton.mpr rfl))
        · rw [z.1, e] at lss
          cases lss
    refine ⟨rfl, _, rfl, skip_iff (congrArg V.bl (Bool.eq_iff_iff.mpr (hfb.trans (same_.trans hfb2.symm)))) ?_⟩
    have found : fb = true → (∀ k ∈ bits m2, ∃ q ∈ ps, k = pr q) ∧ (∀ q ∈ ps, q.1 ∈ bits n ∧ q.2 ∈ bits m) ∧ (ps.map (·.1)).Nodup := fun z => by
      obtain ⟨s1, s2, s3, s4⟩ := same_.mp (hfb.mp z)
      have e : zsf = [] := List.eq_nil_of_length_eq_zero (by rw [← lss, s1]; rfl)
      refine ⟨fun k hk => ?_, s2, (mk_len_le _).2 (by rw [s3, List.length_map]; exact s4.symm)⟩
      rw [em2, e, List.append_nil] at hk
      obtain ⟨q1, hq, rfl⟩ := List.mem_map.mp (mem_mk.mp hk)
      exact ⟨q1, hq, rfl⟩
    have g11q := g11o.trans gq
    have fKq : Hq Kp = some (.lst ws) := g11q _ _ fK2
    have hvq := (hv.same go).same gq
    refine ⟨_, rfl, fun _ => ⟨Kp, rfl, ⟨ws, SqL.of fKq⟩, for_list (K := K) (a := Kp) (xs := ws) (fun i σ H' => ∃ w4 w6 w9 w10 w11 w15 w16, σ = [some (.ref a), some (.ref p), some (.ref b), some (.ref F), w4, some (.ref R0), w6, some (.ref S7f), some (.ref S8f), w9, w10, w11, some (.ref Kp), some v, some (.bl fb), w15, w16] ∧ Same Hq H')
      ⟨_, _, _, _, _, _, _, rfl, Same.refl _⟩ (fun i σ H' _ z => by obtain ⟨_, _, _, _, _, _, _, _, g⟩ := z; exact SqL.of (g _ _ fKq)) (fun i2 x2 σ Hr hi2 z => ?_) (fun σ Hr z => ?_)⟩⟩
    · obtain ⟨w4, w6, w9, w10, w11, w15, w16, rfl, gr⟩ := z
      obtain ⟨d2, hd2, tp2⟩ := TpAll.get allK hi2
      rw [List.getElem?_map] at hd2
      cases eq2 : ps[i2]? with
      | none => rw [eq2] at hd2; cases hd2
      | some q1 =>
        rw [eq2] at hd2
        cases hd2
        have mem2 := List.mem_of_getElem? eq2
        obtain ⟨A9, x9, y9, rfl, hs9, t9, u9⟩ := pd_open (tp2.grow (Grow.of (g11q.trans gr)))
        have d9 := dps q1 mem2
        refine ⟨A9, _, rfl, hs9, rfl, _, _, rfl, _, _, rfl, rfl, ?_⟩
        refine ⟨_, rfl, fb, rfl, ite_bl (fun cf => ?_) (fun cf => iteF ⟨_, _, _, _, _, _, _, rfl, gr⟩)⟩
        obtain ⟨f1, f2, f3⟩ := found cf
        have in2 : pairN q1.1 q1.2 ∈ bits m2 := by
          rw [em2]
          exact mem_mk.mpr (List.mem_append_left _ (List.mem_map.mpr ⟨q1, mem2, rfl⟩))
        refine ⟨_, rfl, _, rfl, v, x9, m2, q1.1, rfl, hvq.same gr, t9, dm2, by omega, .inl ⟨q1.2, in2, fun c9 hc9 => ?_, fun v9' Hs gs hv9 => ⟨_, rfl, q1.2, q1.2, hv9, u9.same gs, by omega, by omega, _, rfl, skip_iff rfl ⟨_, _, _, _, _, _, _, rfl, gr.trans gs⟩⟩⟩⟩
        obtain ⟨q2, hq2, e2⟩ := f1 _ hc9
        obtain ⟨ea, eb⟩ := pair_inj (a := q1.1) (b := c9) e2
        rw [eb, one_first f3 hq2 mem2 ea.symm]
    · obtain ⟨w4, w6, w9, w10, w11, w15, w16, rfl, gr⟩ := z
      have gfin := g11.trans (g11q.trans gr)
      refine ⟨_, rfl, fb, rfl, ite_bl (fun cf => ?_) (fun cf => iteF ⟨_, _, _, _, _, _, _, _, _, _, _, _, rfl, gfin⟩)⟩
      obtain ⟨f1, f2, f3⟩ := found cf
      refine ⟨_, rfl, (by show 0 ≤ sizeLine; decide), fun t0 nt0 => ?_⟩
      have e0 := same_new nt0 (.tup [])
      have h0 : Na K (upd Hr t0 (.tup [])) (.ref t0) 0 := Na.of (SqT.of upd_same) .nil
      generalize upd Hr t0 (.tup []) = J0 at e0 h0 ⊢
      refine ⟨(by show 1 ≤ sizeLine; decide), fun t1 nt1 => ?_⟩
      have e1 := same_new nt1 (.tup [.ref t0])
      have h1 := one_new h0 nt1
      generalize upd J0 t1 (.tup [.ref t0]) = J1 at e1 h1 ⊢
      refine ⟨(by show 1 ≤ sizeLine; decide), fun t2 nt2 => ?_⟩
      have e2 := same_new nt2 (.tup [.ref t1])
      have h2 := one_new h1 nt2
      generalize upd J1 t2 (.tup [.ref t1]) = J2 at e2 h2 ⊢
      refine ⟨(by show 1 ≤ sizeLine; decide), fun t3 nt3 => ?_⟩
      have e3 := same_new nt3 (.tup [.ref t2])
      have h3 := one_new h2 nt3
      generalize upd J2 t3 (.tup [.ref t2]) = J3 at e3 h3 ⊢
      refine ⟨(by show 1 ≤ sizeLine; decide), fun t4 nt4 => ?_⟩
      have e4 := same_new nt4 (.tup [.ref t3])
      have h4 := one_new h3 nt4
      generalize upd J3 t4 (.tup [.ref t3]) = J4 at e4 h4 ⊢
      refine ⟨(by show 1 ≤ sizeLine; decide), fun t5 nt5 => ?_⟩
      have e5 := same_new nt5 (.tup [.ref t4])
      have h5 := one_new h4 nt5
      generalize upd J4 t5 (.tup [.ref t4]) = J5 at e5 h5 ⊢
      have ge := e0.trans (e1.trans (e2.trans (e3.trans (e4.trans e5))))
      refine ⟨v, .ref t5, m2, deep5, rfl, (hvq.same gr).same ge, h5, dm2, by have := deep5_dep; omega, .inr ⟨fun c9 hc9 => ?_, fun Hs gs => ⟨rfl, _, rfl, skip_iff rfl ⟨_, _, _, _, _, _, _, _, _, _, _, _, rfl, gfin.trans (ge.trans gs)⟩⟩⟩⟩
      obtain ⟨q2, hq2, e9⟩ := f1 _ hc9
      have ea := (pair_inj (a := deep5) (b := c9) e9).1
      have := n4 _ (f2 q2 hq2).1
      rw [← ea] at this
      have := deep5_dep
      omega
end
theorem all_mk {l : PySem.W.OpenLaw} {w : World} {K : PySem.W.Frag} {h : Heap} {mg : Str → Option Value} {fa : Addr} (X : K.In h) (G : h.Ns mainGlobals mg) (hfa : mg "law" = some (.ref fa))
    {f1 f2 f4 f5 f7 f8 f9 f10 f11 f13 f14 f15 f16 f17 f18 f19 f20 f21 f22 : Addr} {od4 an4 od5 an5 od7 an7 od8 an8 od9 an9 od10 an10 od11 an11 od13 an13 od14 an14 od15 an15 od16 an16 od17 an17 od18 an18 od19 an19 od20 an20 od21 an21 od22 an22 : Option Addr} {sl4 sl5 sl7 sl8 sl9 sl10 sl11 sl13 sl14 sl15 sl16 sl17 sl18 sl19 sl20 sl21 sl22 : Array (Option Value)} {oc4 kV4 dc4 pm4 cd4 ct4 oc5 kV5 dc5 pm5 cd5 ct5 oc7 kV7 dc7 pm7 cd7 ct7 oc8 kV8 dc8 pm8 cd8 ct8 oc9 kV9 dc9 pm9 cd9 ct9 oc10 kV10 dc10 pm10 cd10 ct10 oc11 kV11 dc11 pm11 cd11 ct11 oc13 kV13 dc13 pm13 cd13 ct13 oc14 kV14 dc14 pm14 cd14 ct14 oc15 kV15 dc15 pm15 cd15 ct15 oc16 kV16 dc16 pm16 cd16 ct16 oc17 kV17 dc17 pm17 cd17 ct17 oc18 kV18 dc18 pm18 cd18 ct18 oc19 kV19 dc19 pm19 cd19 ct19 oc20 kV20 dc20 pm20 cd20 ct20 oc21 kV21 dc21 pm21 cd21 ct21 oc22 kV22 dc22 pm22 cd22 ct22 : Value}
    (a4 : PySem.W.nsIn K mainGlobals "rank_row" = some (some (.ref f4))) (l4 : K.lookup f4 = some ⟨oc4, od4, .func (PySem.W.fnOf "rank_row" "rank_row" (defArgs s_rank_row) (defBody s_rank_row) (defScope s_rank_row) .none kV4 dc4 pm4 an4 cd4 ct4), sl4⟩) (c4 : PySem.W.codeIn K cd4 "rank_row" = true) (k4 : PySem.W.keepIn K (.ref f4) = true)
    (a5 : PySem.W.nsIn K mainGlobals "nest" = some (some (.ref f5))) (l5 : K.lookup f5 = some ⟨oc5, od5, .func (PySem.W.fnOf "nest" "nest" (defArgs s_nest) (defBody s_nest) (defScope s_nest) .none kV5 dc5 pm5 an5 cd5 ct5), sl5⟩) (c5 : PySem.W.codeIn K cd5 "nest" = true) (k5 : PySem.W.keepIn K (.ref f5) = true)
    (a7 : PySem.W.nsIn K mainGlobals "pair" = some (some (.ref f7))) (l7 : K.lookup f7 = some ⟨oc7, od7, .func (PySem.W.fnOf "pair" "pair" (defArgs s_pair) (defBody s_pair) (defScope s_pair) .none kV7 dc7 pm7 an7 cd7 ct7), sl7⟩) (c7 : PySem.W.codeIn K cd7 "pair" = true) (k7 : PySem.W.keepIn K (.ref f7) = true)
    (a8 : PySem.W.nsIn K mainGlobals "split" = some (some (.ref f8))) (l8 : K.lookup f8 = some ⟨oc8, od8, .func (PySem.W.fnOf "split" "split" (defArgs s_split) (defBody s_split) (defScope s_split) .none kV8 dc8 pm8 an8 cd8 ct8), sl8⟩) (c8 : PySem.W.codeIn K cd8 "split" = true) (k8 : PySem.W.keepIn K (.ref f8) = true)
    (a9 : PySem.W.nsIn K mainGlobals "product" = some (some (.ref f9))) (l9 : K.lookup f9 = some ⟨oc9, od9, .func (PySem.W.fnOf "product" "product" (defArgs s_product) (defBody s_product) (defScope s_product) .none kV9 dc9 pm9 an9 cd9 ct9), sl9⟩) (c9 : PySem.W.codeIn K cd9 "product" = true) (k9 : PySem.W.keepIn K (.ref f9) = true)
    (a10 : PySem.W.nsIn K mainGlobals "is_map" = some (some (.ref f10))) (l10 : K.lookup f10 = some ⟨oc10, od10, .func (PySem.W.fnOf "is_map" "is_map" (defArgs s_is_map) (defBody s_is_map) (defScope s_is_map) .none kV10 dc10 pm10 an10 cd10 ct10), sl10⟩) (c10 : PySem.W.codeIn K cd10 "is_map" = true) (k10 : PySem.W.keepIn K (.ref f10) = true)
    (a11 : PySem.W.nsIn K mainGlobals "value" = some (some (.ref f11))) (l11 : K.lookup f11 = some ⟨oc11, od11, .func (PySem.W.fnOf "value" "value" (defArgs s_value) (defBody s_value) (defScope s_value) .none kV11 dc11 pm11 an11 cd11 ct11), sl11⟩) (c11 : PySem.W.codeIn K cd11 "value" = true) (k11 : PySem.W.keepIn K (.ref f11) = true)
    (a13 : PySem.W.nsIn K mainGlobals "_law_cell" = some (some (.ref f13))) (l13 : K.lookup f13 = some ⟨oc13, od13, .func (PySem.W.fnOf "_law_cell" "_law_cell" (defArgs s_law_cell) (defBody s_law_cell) (defScope s_law_cell) .none kV13 dc13 pm13 an13 cd13 ct13), sl13⟩) (c13 : PySem.W.codeIn K cd13 "_law_cell" = true) (k13 : PySem.W.keepIn K (.ref f13) = true)
    (a14 : PySem.W.nsIn K mainGlobals "_law_mix" = some (some (.ref f14))) (l14 : K.lookup f14 = some ⟨oc14, od14, .func (PySem.W.fnOf "_law_mix" "_law_mix" (defArgs s_law_mix) (defBody s_law_mix) (defScope s_law_mix) .none kV14 dc14 pm14 an14 cd14 ct14), sl14⟩) (c14 : PySem.W.codeIn K cd14 "_law_mix" = true) (k14 : PySem.W.keepIn K (.ref f14) = true)
    (a15 : PySem.W.nsIn K mainGlobals "_law_greater" = some (some (.ref f15))) (l15 : K.lookup f15 = some ⟨oc15, od15, .func (PySem.W.fnOf "_law_greater" "_law_greater" (defArgs s_law_greater) (defBody s_law_greater) (defScope s_law_greater) .none kV15 dc15 pm15 an15 cd15 ct15), sl15⟩) (c15 : PySem.W.codeIn K cd15 "_law_greater" = true) (k15 : PySem.W.keepIn K (.ref f15) = true)
    (a16 : PySem.W.nsIn K mainGlobals "_law_greatest" = some (some (.ref f16))) (l16 : K.lookup f16 = some ⟨oc16, od16, .func (PySem.W.fnOf "_law_greatest" "_law_greatest" (defArgs s_law_greatest) (defBody s_law_greatest) (defScope s_law_greatest) .none kV16 dc16 pm16 an16 cd16 ct16), sl16⟩) (c16 : PySem.W.codeIn K cd16 "_law_greatest" = true) (k16 : PySem.W.keepIn K (.ref f16) = true)
    (a17 : PySem.W.nsIn K mainGlobals "_law_nest" = some (some (.ref f17))) (l17 : K.lookup f17 = some ⟨oc17, od17, .func (PySem.W.fnOf "_law_nest" "_law_nest" (defArgs s_law_nest) (defBody s_law_nest) (defScope s_law_nest) .none kV17 dc17 pm17 an17 cd17 ct17), sl17⟩) (c17 : PySem.W.codeIn K cd17 "_law_nest" = true) (k17 : PySem.W.keepIn K (.ref f17) = true)
    (a18 : PySem.W.nsIn K mainGlobals "_law_drawn" = some (some (.ref f18))) (l18 : K.lookup f18 = some ⟨oc18, od18, .func (PySem.W.fnOf "_law_drawn" "_law_drawn" (defArgs s_law_drawn) (defBody s_law_drawn) (defScope s_law_drawn) .none kV18 dc18 pm18 an18 cd18 ct18), sl18⟩) (c18 : PySem.W.codeIn K cd18 "_law_drawn" = true) (k18 : PySem.W.keepIn K (.ref f18) = true)
    (a19 : PySem.W.nsIn K mainGlobals "_law_some" = some (some (.ref f19))) (l19 : K.lookup f19 = some ⟨oc19, od19, .func (PySem.W.fnOf "_law_some" "_law_some" (defArgs s_law_some) (defBody s_law_some) (defScope s_law_some) .none kV19 dc19 pm19 an19 cd19 ct19), sl19⟩) (c19 : PySem.W.codeIn K cd19 "_law_some" = true) (k19 : PySem.W.keepIn K (.ref f19) = true)
    (a20 : PySem.W.nsIn K mainGlobals "_law_value" = some (some (.ref f20))) (l20 : K.lookup f20 = some ⟨oc20, od20, .func (PySem.W.fnOf "_law_value" "_law_value" (defArgs s_law_value) (defBody s_law_value) (defScope s_law_value) .none kV20 dc20 pm20 an20 cd20 ct20), sl20⟩) (c20 : PySem.W.codeIn K cd20 "_law_value" = true) (k20 : PySem.W.keepIn K (.ref f20) = true)
    (a21 : PySem.W.nsIn K mainGlobals "_law_is_map" = some (some (.ref f21))) (l21 : K.lookup f21 = some ⟨oc21, od21, .func (PySem.W.fnOf "_law_is_map" "_law_is_map" (defArgs s_law_is_map) (defBody s_law_is_map) (defScope s_law_is_map) .none kV21 dc21 pm21 an21 cd21 ct21), sl21⟩) (c21 : PySem.W.codeIn K cd21 "_law_is_map" = true) (k21 : PySem.W.keepIn K (.ref f21) = true)
    (a22 : PySem.W.nsIn K mainGlobals "law" = some (some (.ref f22))) (l22 : K.lookup f22 = some ⟨oc22, od22, .func (PySem.W.fnOf "law" "law" (defArgs s_law) (defBody s_law) (defScope s_law) .none kV22 dc22 pm22 an22 cd22 ct22), sl22⟩) (c22 : PySem.W.codeIn K cd22 "law" = true) (k22 : PySem.W.keepIn K (.ref f22) = true)
    (z_tuple : PySem.W.nsIn K mainGlobals "tuple" = some none)
    (z_reversed : PySem.W.nsIn K mainGlobals "reversed" = some none)
    (z_sorted : PySem.W.nsIn K mainGlobals "sorted" = some none)
    (z_len : PySem.W.nsIn K mainGlobals "len" = some none)
    (z_range : PySem.W.nsIn K mainGlobals "range" = some none)
    (z_int : PySem.W.nsIn K mainGlobals "int" = some none)
    (z_isinstance : PySem.W.nsIn K mainGlobals "isinstance" = some none)
    (z_bool : PySem.W.nsIn K mainGlobals "bool" = some none)
    (z_all : PySem.W.nsIn K mainGlobals "all" = some none)
    (z_enumerate : PySem.W.nsIn K mainGlobals "enumerate" = some none)
    (z_list : PySem.W.nsIn K mainGlobals "list" = some none)
    (z_set : PySem.W.nsIn K mainGlobals "set" = some none)
    (z_ValueError : PySem.W.nsIn K mainGlobals "ValueError" = some none)
    (a1 : PySem.W.nsIn K mainGlobals "SetError" = some (some (.ref f1)))
    (a2 : PySem.W.nsIn K mainGlobals "NoPair" = some (some (.ref f2)))
    (xq : PySem.W.excIn K f2 [.type "ValueError", .type "Exception", .type "BaseException", .type "object"] "ValueError.__new__" = true)
    (xk : PySem.W.keepIn K (.ref f2) = true)
    (xs : PySem.W.subIn K (.ref f2) (.type "BaseException") = some true)
    (xt : PySem.W.typeIn K (.ref f2) = some (.type "type"))
    (xg : PySem.W.findIn K (.ref f2) "__getattribute__" = some (some (.builtin "BaseException.__getattribute__")))
    (xh : PySem.W.findIn K (.ref f2) "__getattr__" = some none)
    (xd : PySem.W.hasDictIn K f2 = true)
    (xa : PySem.W.findIn K (.ref f2) "__class__" = some (some (.builtin "object.__class__")))
    (xn : PySem.W.specialIn K (.builtin "object.__class__") "__get__" = some (some (.builtin "getset_descriptor.__get__")))
    (xu : PySem.W.takesIn K (.builtin "object.__class__") = some true)
    (xm : PySem.W.mroIn K f2 (.type "object") = some true)
    (y1 : PySem.W.subIn K (.ref f1) (.type "BaseException") = some true)
    (y2 : PySem.W.hasDictIn K f1 = true)
    (y3 : PySem.W.typeIn K (.ref f1) = some (.type "type"))
    (y4 : PySem.W.subIn K (.ref f2) (.ref f1) = some true)
    (yv : PySem.W.kitOne K (.ref f2) (.type "ValueError") = some true)
    : ∃ fd : FuncData, (∀ (s : Shared) (v : Value), BindsTo s fd ⟨[v], []⟩ [("_law_script", v)]) ∧ ∀ base : Heap, K.In base → base.Ns mainGlobals mg → FnOk l.prog w K mg base CX0 121 fa fd ["_law_script"] (spLaw K) := by
  have e := hfa.symm.trans (PySem.W.mg_of X G a22)
  cases e
  have F4 := fun_mk (st := s_rank_row) l4 c4 k4
  have b4 := F4.binds (ps := ["one"]) fun _ _ _ _ _ _ us hl => match us, hl with | [_], _ => rfl
  have F5 := fun_mk (st := s_nest) l5 c5 k5
  have b5 := F5.binds (ps := ["some"]) fun _ _ _ _ _ _ us hl => match us, hl with | [_], _ => rfl
  have F7 := fun_mk (st := s_pair) l7 c7 k7
  have b7 := F7.binds (ps := ["one", "other"]) fun _ _ _ _ _ _ us hl => match us, hl with | [_, _], _ => rfl
  have F8 := fun_mk (st := s_split) l8 c8 k8
  have b8 := F8.binds (ps := ["one"]) fun _ _ _ _ _ _ us hl => match us, hl with | [_], _ => rfl
  have F9 := fun_mk (st := s_product) l9 c9 k9
  have b9 := F9.binds (ps := ["one", "other"]) fun _ _ _ _ _ _ us hl => match us, hl with | [_, _], _ => rfl
  have F10 := fun_mk (st := s_is_map) l10 c10 k10
  have b10 := F10.binds (ps := ["one", "here", "there"]) fun _ _ _ _ _ _ us hl => match us, hl with | [_, _, _], _ => rfl
  have F11 := fun_mk (st := s_value) l11 c11 k11
  have b11 := F11.binds (ps := ["one", "here"]) fun _ _ _ _ _ _ us hl => match us, hl with | [_, _], _ => rfl
  have F13 := fun_mk (st := s_law_cell) l13 c13 k13
  have b13 := F13.binds (ps := ["_law_script", "_law_k"]) fun _ _ _ _ _ _ us hl => match us, hl with | [_, _], _ => rfl
  have F14 := fun_mk (st := s_law_mix) l14 c14 k14
  have b14 := F14.binds (ps := ["_law_cell_here", "_law_prime", "_law_many"]) fun _ _ _ _ _ _ us hl => match us, hl with | [_, _, _], _ => rfl
  have F15 := fun_mk (st := s_law_greater) l15 c15 k15
  have b15 := F15.binds (ps := ["_law_one", "_law_other"]) fun _ _ _ _ _ _ us hl => match us, hl with | [_, _], _ => rfl
  have F16 := fun_mk (st := s_law_greatest) l16 c16 k16
  have b16 := F16.binds (ps := ["_law_some_here"]) fun _ _ _ _ _ _ us hl => match us, hl with | [_], _ => rfl
  have F17 := fun_mk (st := s_law_nest) l17 c17 k17
  have b17 := F17.binds (ps := ["_law_some_here"]) fun _ _ _ _ _ _ us hl => match us, hl with | [_], _ => rfl
  have F18 := fun_mk (st := s_law_drawn) l18 c18 k18
  have b18 := F18.binds (ps := ["_law_cell_here", "_law_deep"]) fun _ _ _ _ _ _ us hl => match us, hl with | [_, _], _ => rfl
  have F19 := fun_mk (st := s_law_some) l19 c19 k19
  have b19 := F19.binds (ps := ["_law_script", "_law_k", "_law_many"]) fun _ _ _ _ _ _ us hl => match us, hl with | [_, _, _], _ => rfl
  have F20 := fun_mk (st := s_law_value) l20 c20 k20
  have b20 := F20.binds (ps := ["_law_one", "_law_here"]) fun _ _ _ _ _ _ us hl => match us, hl with | [_, _], _ => rfl
  have F21 := fun_mk (st := s_law_is_map) l21 c21 k21
  have b21 := F21.binds (ps := ["_law_pairs", "_law_one", "_law_other", "_law_strange"]) fun _ _ _ _ _ _ us hl => match us, hl with | [_, _, _, _], _ => rfl
  have F22 := fun_mk (st := s_law) l22 c22 k22
  have b22 := F22.binds (ps := ["_law_script"]) fun _ _ _ _ _ _ us hl => match us, hl with | [_], _ => rfl
  have T : Top K mg (fun i => match i with | 1 => f1 | 2 => f2 | 4 => f4 | 5 => f5 | 7 => f7 | 8 => f8 | 9 => f9 | 10 => f10 | 11 => f11 | 13 => f13 | 14 => f14 | 15 => f15 | 16 => f16 | 17 => f17 | 18 => f18 | 19 => f19 | 20 => f20 | 21 => f21 | 22 => fa | _ => 0) (fun i => match i with | 4 => PySem.W.fnOf "rank_row" "rank_row" (defArgs s_rank_row) (defBody s_rank_row) (defScope s_rank_row) .none kV4 dc4 pm4 an4 cd4 ct4 | 5 => PySem.W.fnOf "nest" "nest" (defArgs s_nest) (defBody s_nest) (defScope s_nest) .none kV5 dc5 pm5 an5 cd5 ct5 | 7 => PySem.W.fnOf "pair" "pair" (defArgs s_pair) (defBody s_pair) (defScope s_pair) .none kV7 dc7 pm7 an7 cd7 ct7 | 8 => PySem.W.fnOf "split" "split" (defArgs s_split) (defBody s_split) (defScope s_split) .none kV8 dc8 pm8 an8 cd8 ct8 | 9 => PySem.W.fnOf "product" "product" (defArgs s_product) (defBody s_product) (defScope s_product) .none kV9 dc9 pm9 an9 cd9 ct9 | 10 => PySem.W.fnOf "is_map" "is_map" (defArgs s_is_map) (defBody s_is_map) (defScope s_is_map) .none kV10 dc10 pm10 an10 cd10 ct10 | 11 => PySem.W.fnOf "value" "value" (defArgs s_value) (defBody s_value) (defScope s_value) .none kV11 dc11 pm11 an11 cd11 ct11 | 13 => PySem.W.fnOf "_law_cell" "_law_cell" (defArgs s_law_cell) (defBody s_law_cell) (defScope s_law_cell) .none kV13 dc13 pm13 an13 cd13 ct13 | 14 => PySem.W.fnOf "_law_mix" "_law_mix" (defArgs s_law_mix) (defBody s_law_mix) (defScope s_law_mix) .none kV14 dc14 pm14 an14 cd14 ct14 | 15 => PySem.W.fnOf "_law_greater" "_law_greater" (defArgs s_law_greater) (defBody s_law_greater) (defScope s_law_greater) .none kV15 dc15 pm15 an15 cd15 ct15 | 16 => PySem.W.fnOf "_law_greatest" "_law_greatest" (defArgs s_law_greatest) (defBody s_law_greatest) (defScope s_law_greatest) .none kV16 dc16 pm16 an16 cd16 ct16 | 17 => PySem.W.fnOf "_law_nest" "_law_nest" (defArgs s_law_nest) (defBody s_law_nest) (defScope s_law_nest) .none kV17 dc17 pm17 an17 cd17 ct17 | 18 => PySem.W.fnOf "_law_drawn" "_law_drawn" (defArgs s_law_drawn) (defBody s_law_drawn) (defScope s_law_drawn) .none kV18 dc18 pm18 an18 cd18 ct18 | 19 => PySem.W.fnOf "_law_some" "_law_some" (defArgs s_law_some) (defBody s_law_some) (defScope s_law_some) .none kV19 dc19 pm19 an19 cd19 ct19 | 20 => PySem.W.fnOf "_law_value" "_law_value" (defArgs s_law_value) (defBody s_law_value) (defScope s_law_value) .none kV20 dc20 pm20 an20 cd20 ct20 | 21 => PySem.W.fnOf "_law_is_map" "_law_is_map" (defArgs s_law_is_map) (defBody s_law_is_map) (defScope s_law_is_map) .none kV21 dc21 pm21 an21 cd21 ct21 | 22 => PySem.W.fnOf "law" "law" (defArgs s_law) (defBody s_law) (defScope s_law) .none kV22 dc22 pm22 an22 cd22 ct22 | _ => PySem.W.fnOf "law" "law" (defArgs s_law) (defBody s_law) (defScope s_law) .none kV22 dc22 pm22 an22 cd22 ct22) :=
    ⟨⟨F4, b4, PySem.W.mg_of X G a4⟩, ⟨F5, b5, PySem.W.mg_of X G a5⟩, ⟨F7, b7, PySem.W.mg_of X G a7⟩, ⟨F8, b8, PySem.W.mg_of X G a8⟩, ⟨F9, b9, PySem.W.mg_of X G a9⟩, ⟨F10, b10, PySem.W.mg_of X G a10⟩, ⟨F11, b11, PySem.W.mg_of X G a11⟩, ⟨F13, b13, PySem.W.mg_of X G a13⟩, ⟨F14, b14, PySem.W.mg_of X G a14⟩, ⟨F15, b15, PySem.W.mg_of X G a15⟩, ⟨F16, b16, PySem.W.mg_of X G a16⟩, ⟨F17, b17, PySem.W.mg_of X G a17⟩, ⟨F18, b18, PySem.W.mg_of X G a18⟩, ⟨F19, b19, PySem.W.mg_of X G a19⟩, ⟨F20, b20, PySem.W.mg_of X G a20⟩, ⟨F21, b21, PySem.W.mg_of X G a21⟩, ⟨F22, b22, PySem.W.mg_of X G a22⟩, PySem.W.mg_none_of X G z_tuple, PySem.W.mg_none_of X G z_reversed, PySem.W.mg_none_of X G z_sorted, PySem.W.mg_none_of X G z_len, PySem.W.mg_none_of X G z_range, PySem.W.mg_none_of X G z_int, PySem.W.mg_none_of X G z_isinstance, PySem.W.mg_none_of X G z_bool, PySem.W.mg_none_of X G z_all, PySem.W.mg_none_of X G z_enumerate, PySem.W.mg_none_of X G z_list, PySem.W.mg_none_of X G z_set, PySem.W.mg_none_of X G z_ValueError, PySem.W.mg_of X G a1, PySem.W.mg_of X G a2, ⟨PySem.W.mg_of X G a2, xq, xk, xs, xt, ⟨xg, xh, xs, xd, xa, xn, xu, xm⟩, PySem.W.exm_ref y1 y2 y3 y4, yv⟩⟩
  exact ⟨PySem.W.fnOf "law" "law" (defArgs s_law) (defBody s_law) (defScope s_law) .none kV22 dc22 pm22 an22 cd22 ct22, fun s v => .of_eq rfl, fun base _ _ => law_ok  T⟩
theorem walk {l : PySem.W.OpenLaw} {q : Program} {loose : List Str} {XP : (Str → Option Value) → Heap → Prop} {YP : World → Heap → Prop} {d : DefRec} {K : Params → PySem.W.Frag} (hn : l.most = some 63) (hdf : d.params.defaults = [])
    (hY : ∀ (w : World) (h : Heap), YP w h → (K w.params).In h)
    (F : ∀ (w : World) (mg : Str → Option Value) (fa : Addr) (h : Heap), (K w.params).In h → h.Ns mainGlobals mg → mg d.name = some (.ref fa) →
      ∃ fd : FuncData, (∀ (s : Shared) (u : Value), BindsTo s fd ⟨[u], []⟩ [("_law_script", u)]) ∧ ∀ base : Heap, (K w.params).In base → base.Ns mainGlobals mg → FnOk l.prog w (K w.params) mg base CX0 121 fa fd ["_law_script"] (spLaw (K w.params))) :
    PySem.W.WalkO q loose XP YP l.row.toRowW d [] (fun f vs => PySem.call f vs) :=
  L2.walk_of (n := 63) (k := 121) (x := "_law_script") (CX := fun _ => CX0) (sp := fun w => spLaw (K w.params)) hn (by decide) hdf ⟨rfl, by decide, by decide⟩ hY F (fun _ _ a ns hl _ hS => ⟨a, ns, rfl, hS, hl, fun _ => rfl⟩) fun _ _ _ _ _ z => z
end Nk
open PySem PySem.W PyProof.Rows
set_option maxRecDepth 100000 in
set_option maxHeartbeats 0 in
theorem PySem.Challenge.cw_nestsets_k07_whole_products_and_maps_holds : PySem.Challenge.rw_nestsets_k07_whole_products_and_maps.Holds := by
  w_on; o_law; k_head; (case hw => w_witness2)
  k_fill
  refine Nk.walk (l := PySem.Challenge.rw_nestsets_k07_whole_products_and_maps) rfl rfl (fun w h Y => PySem.W.kIn_of Y) ?F
  case F =>
    intro w mg fa h KX G hmg
    refine' Nk.all_mk KX G hmg ?a4 ?l4 ?c4 ?k4 ?a5 ?l5 ?c5 ?k5 ?a7 ?l7 ?c7 ?k7 ?a8 ?l8 ?c8 ?k8 ?a9 ?l9 ?c9 ?k9 ?a10 ?l10 ?c10 ?k10 ?a11 ?l11 ?c11 ?k11 ?a13 ?l13 ?c13 ?k13 ?a14 ?l14 ?c14 ?k14 ?a15 ?l15 ?c15 ?k15 ?a16 ?l16 ?c16 ?k16 ?a17 ?l17 ?c17 ?k17 ?a18 ?l18 ?c18 ?k18 ?a19 ?l19 ?c19 ?k19 ?a20 ?l20 ?c20 ?k20 ?a21 ?l21 ?c21 ?k21 ?a22 ?l22 ?c22 ?k22 ?z_tuple ?z_reversed ?z_sorted ?z_len ?z_range ?z_int ?z_isinstance ?z_bool ?z_all ?z_enumerate ?z_list ?z_set ?z_ValueError ?a1 ?a2 ?xq ?xk ?xs ?xt ?xg ?xh ?xd ?xa ?xn ?xu ?xm ?y1 ?y2 ?y3 ?y4 ?yv
    (case a4 => k_is)
    (case l4 => k_is)
    (case c4 => k_is)
    (case k4 => k_is)
    (case a5 => k_is)
    (case l5 => k_is)
    (case c5 => k_is)
    (case k5 => k_is)
    (case a7 => k_is)
    (case l7 => k_is)
    (case c7 => k_is)
    (case k7 => k_is)
    (case a8 => k_is)
    (case l8 => k_is)
    (case c8 => k_is)
    (case k8 => k_is)
    (case a9 => k_is)
    (case l9 => k_is)
    (case c9 => k_is)
    (case k9 => k_is)
    (case a10 => k_is)
    (case l10 => k_is)
    (case c10 => k_is)
    (case k10 => k_is)
    (case a11 => k_is)
    (case l11 => k_is)
    (case c11 => k_is)
    (case k11 => k_is)
    (case a13 => k_is)
    (case l13 => k_is)
    (case c13 => k_is)
    (case k13 => k_is)
    (case a14 => k_is)
    (case l14 => k_is)
    (case c14 => k_is)
    (case k14 => k_is)
    (case a15 => k_is)
    (case l15 => k_is)
    (case c15 => k_is)
    (case k15 => k_is)
    (case a16 => k_is)
    (case l16 => k_is)
    (case c16 => k_is)
    (case k16 => k_is)
    (case a17 => k_is)
    (case l17 => k_is)
    (case c17 => k_is)
    (case k17 => k_is)
    (case a18 => k_is)
    (case l18 => k_is)
    (case c18 => k_is)
    (case k18 => k_is)
    (case a19 => k_is)
    (case l19 => k_is)
    (case c19 => k_is)
    (case k19 => k_is)
    (case a20 => k_is)
    (case l20 => k_is)
    (case c20 => k_is)
    (case k20 => k_is)
    (case a21 => k_is)
    (case l21 => k_is)
    (case c21 => k_is)
    (case k21 => k_is)
    (case a22 => k_is)
    (case l22 => k_is)
    (case c22 => k_is)
    (case k22 => k_is)
    (case z_tuple => k_is)
    (case z_reversed => k_is)
    (case z_sorted => k_is)
    (case z_len => k_is)
    (case z_range => k_is)
    (case z_int => k_is)
    (case z_isinstance => k_is)
    (case z_bool => k_is)
    (case z_all => k_is)
    (case z_enumerate => k_is)
    (case z_list => k_is)
    (case z_set => k_is)
    (case z_ValueError => k_is)
    (case a1 => k_is)
    (case a2 => k_is)
    (case xq => k_exc)
    (case xk => k_is)
    (case xs => k_is)
    (case xt => k_is)
    (case xg => k_is)
    (case xh => k_is)
    (case xd => k_is)
    (case xa => k_is)
    (case xn => k_is)
    (case xu => k_is)
    (case xm => k_is)
    (case y1 => k_is)
    (case y2 => k_is)
    (case y3 => k_is)
    (case y4 => k_is)
    (case yv => first | k_is | rfl | decide +kernel)
#print axioms PySem.Challenge.cw_nestsets_k07_whole_products_and_maps_holds
