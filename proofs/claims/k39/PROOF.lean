import PyProof.Rows.All
import Wide.All
import OpenK.AllK
import Wide.FinOn
import HandS.ForMost
import HandS.Exc
import HandS.ExcOwn
import HandS.ExcInit
import HandS.WordsExc
import HandS.TryOnly
import HandS.TryMany
import HandS.Star
import HandS.Style
import HandS.Conv
import HandS.IsInst
import HandS.Deep
import HandS.TupAny
import HandS.DictTup
import HandS.WideBits
import HandS.Walk
import HandS.Defaults
import HandS.More
import HandS.Zip
import KE.GoesEnum
import KE.GoesMore
import KE.SortData
import PyProof.ReprRoads
import HandS.ExcField
import KE.KDictWalk
import KE.KDictCopyH
import KE.KDictZip
import PySem.Challenge.RW_botheven_k39_whole_rows_of_both_even_lot
/-! ## M1 -/
section
set_option linter.all false
namespace BE
/-! ### spans of numbers by xor -/
inductive Span (L : List Nat) : Nat → Prop
  | zero : Span L 0
  | add {x a : Nat} : Span L x → a ∈ L → Span L (x ^^^ a)
theorem span_mem {L : List Nat} {a : Nat} (h : a ∈ L) : Span L a := by
  have q := Span.add Span.zero h
  rw [Nat.zero_xor] at q
  exact q
theorem span_xor {L : List Nat} {x y : Nat} (hx : Span L x) (hy : Span L y) : Span L (x ^^^ y) := by
  induction hy with
  | zero => rw [Nat.xor_zero]; exact hx
  | add _ ha ih => rw [← Nat.xor_assoc]; exact Span.add ih ha
theorem span_sub {L M : List Nat} (h : ∀ a ∈ L, Span M a) {x : Nat} (hx : Span L x) : Span M x := by
  induction hx with
  | zero => exact .zero
  | add _ ha ih => exact span_xor ih (h _ ha)
theorem span_mono {L M : List Nat} (h : ∀ a ∈ L, a ∈ M) {x : Nat} (hx : Span L x) : Span M x := span_sub (fun a ha => span_mem (h a ha)) hx
theorem span_congr {L M : List Nat} (h : ∀ a, a ∈ L ↔ a ∈ M) (x : Nat) : Span L x ↔ Span M x := ⟨span_mono fun a ha => (h a).1 ha, span_mono fun a ha => (h a).2 ha⟩
theorem span_nil {x : Nat} (h : Span [] x) : x = 0 := by
  induction h with
  | zero => rfl
  | add _ ha _ => cases ha
/-- what is closed and has the base has the span -/
theorem span_ind {L : List Nat} {C : Nat → Prop} (h0 : C 0) (hx : ∀ x y, C x → C y → C (x ^^^ y)) (hL : ∀ a ∈ L, C a) {x : Nat} (h : Span L x) : C x := by
  induction h with
  | zero => exact h0
  | add _ ha ih => exact hx _ _ ih (hL _ ha)
theorem span_cons {a : Nat} {L : List Nat} {x : Nat} (h : Span (a :: L) x) : Span L x ∨ Span L (x ^^^ a) := by
  induction h with
  | zero => exact .inl .zero
  | @add x b _ hb ih =>
    rcases List.mem_cons.mp hb with rfl | hb
    · rcases ih with ih | ih
      · refine .inr ?_
        rw [Nat.xor_assoc, Nat.xor_self, Nat.xor_zero]
        exact ih
      · exact .inl ih
    · rcases ih with ih | ih
      · exact .inl (Span.add ih hb)
      · refine .inr ?_
        have e : x ^^^ b ^^^ a = x ^^^ a ^^^ b := by rw [Nat.xor_assoc, Nat.xor_comm b a, ← Nat.xor_assoc]
        rw [e]
        exact Span.add ih hb
theorem span_snoc {a : Nat} {L : List Nat} {x : Nat} (h : Span (L ++ [a]) x) : Span L x ∨ Span L (x ^^^ a) :=
  span_cons (span_mono (fun b hb => by
    rcases List.mem_append.mp hb with h | h
    · exact List.mem_cons_of_mem _ h
    · rw [List.mem_singleton.mp h]; exact List.mem_cons_self) h)
theorem span_app {L M : List Nat} {x : Nat} (h : Span (L ++ M) x) : ∃ y, Span L y ∧ Span M (x ^^^ y) := by
  induction h with
  | zero => exact ⟨0, .zero, .zero⟩
  | @add x a _ ha ih =>
    obtain ⟨y, h1, h2⟩ := ih
    rcases List.mem_append.mp ha with ha | ha
    · refine ⟨y ^^^ a, Span.add h1 ha, ?_⟩
      have e : x ^^^ a ^^^ (y ^^^ a) = x ^^^ y := by
        rw [Nat.xor_assoc, Nat.xor_comm y a, ← Nat.xor_assoc a a y, Nat.xor_self, Nat.zero_xor]
      rw [e]
      exact h2
    · refine ⟨y, h1, ?_⟩
      have e : x ^^^ a ^^^ y = x ^^^ y ^^^ a := by rw [Nat.xor_assoc, Nat.xor_comm a y, ← Nat.xor_assoc]
      rw [e]
      exact Span.add h2 ha
theorem xor_cancel {x a : Nat} : x ^^^ a ^^^ a = x := by rw [Nat.xor_assoc, Nat.xor_self, Nat.xor_zero]
theorem xor_eq_zero {a b : Nat} (h : a ^^^ b = 0) : a = b := by
  have q : a ^^^ b ^^^ b = 0 ^^^ b := by rw [h]
  rw [xor_cancel, Nat.zero_xor] at q
  exact q

/-! ### independence: combos -/
def combos : List Nat → List Nat → List Nat
  | acc, [] => acc
  | acc, a :: L => combos (acc ++ acc.map (· ^^^ a)) L
/-- independent: none is a sum of those ahead -/
def Indep (L : List Nat) : Prop := ∀ i a, L[i]? = some a → ¬ Span (L.take i) a
theorem indep_nil : Indep [] := fun i a h => by simp at h
theorem indep_snoc {L : List Nat} {a : Nat} (h : Indep L) (ha : ¬ Span L a) : Indep (L ++ [a]) := fun i b hb => by
  by_cases hi : i < L.length
  · rw [List.getElem?_append_left hi] at hb
    rw [List.take_append_of_le_length (by omega)]
    exact h i b hb
  · have e : i = L.length := by
      have := (List.getElem?_eq_some_iff.mp hb).1
      simp at this
      omega
    subst e
    rw [List.getElem?_append_right (Nat.le_refl _)] at hb
    simp at hb
    subst hb
    rw [List.take_left]
    exact ha
theorem indep_init {L : List Nat} {a : Nat} (h : Indep (L ++ [a])) : Indep L ∧ ¬ Span L a := by
  refine ⟨fun i b hb => ?_, ?_⟩
  · have hi := (List.getElem?_eq_some_iff.mp hb).1
    have := h i b (by rw [List.getElem?_append_left hi]; exact hb)
    rw [List.take_append_of_le_length (by omega)] at this
    exact this
  · have := h L.length a (by simp)
    rw [List.take_left] at this
    exact this
/-- the acc's part and a list's combinations -/
theorem mem_combos {L : List Nat} : ∀ {acc : List Nat} {x : Nat}, x ∈ combos acc L ↔ ∃ y ∈ acc, Span L (x ^^^ y) := by
  induction L with
  | nil =>
    intro acc x
    constructor
    · intro h
      exact ⟨x, h, by rw [Nat.xor_self]; exact .zero⟩
    · rintro ⟨y, hy, h⟩
      rw [xor_eq_zero (span_nil h)]
      exact hy
  | cons a L ih =>
    intro acc x
    show x ∈ combos (acc ++ acc.map (· ^^^ a)) L ↔ _
    rw [ih]
    constructor
    · rintro ⟨y, hy, h⟩
      rcases List.mem_append.mp hy with hy | hy
      · exact ⟨y, hy, span_mono (fun _ q => List.mem_cons_of_mem _ q) h⟩
      · obtain ⟨z, hz, rfl⟩ := List.mem_map.mp hy
        refine ⟨z, hz, ?_⟩
        have q := Span.add (span_mono (fun _ q => List.mem_cons_of_mem a q) h) (List.mem_cons_self (a := a) (l := L))
        rw [← Nat.xor_assoc, xor_cancel] at q
        exact q
    · rintro ⟨y, hy, h⟩
      rcases span_cons h with h | h
      · exact ⟨y, List.mem_append_left _ hy, h⟩
      · exact ⟨y ^^^ a, List.mem_append_right _ (List.mem_map.mpr ⟨y, hy, rfl⟩), by rw [← Nat.xor_assoc]; exact h⟩
theorem mem_combos0 {L : List Nat} {x : Nat} : x ∈ combos [0] L ↔ Span L x := by
  rw [mem_combos]
  constructor
  · rintro ⟨y, hy, h⟩
    rw [List.mem_singleton.mp hy, Nat.xor_zero] at h
    exact h
  · intro h
    exact ⟨0, List.mem_singleton.mpr rfl, by rw [Nat.xor_zero]; exact h⟩
theorem combos_snoc {L : List Nat} {a : Nat} : ∀ {acc : List Nat}, combos acc (L ++ [a]) = combos acc L ++ (combos acc L).map (· ^^^ a) := by
  induction L with
  | nil => intro acc; rfl
  | cons b L ih => intro acc; exact ih
theorem combos_len {L : List Nat} : ∀ {acc : List Nat}, (combos acc L).length = acc.length * 2 ^ L.length := by
  induction L with
  | nil => intro acc; simp [combos]
  | cons b L ih =>
    intro acc
    show (combos (acc ++ acc.map (· ^^^ b)) L).length = _
    rw [ih, List.length_append, List.length_map, List.length_cons, Nat.pow_succ]
    rw [← Nat.two_mul, Nat.mul_comm 2, Nat.mul_assoc, Nat.mul_comm 2]
theorem snoc_ind {α : Type} {C : List α → Prop} (h0 : C []) (h : ∀ L a, C L → C (L ++ [a])) : ∀ L, C L := by
  intro L
  have q : ∀ n, ∀ L : List α, L.length = n → C L := by
    intro n
    induction n with
    | zero => intro L hL; rw [List.length_eq_zero_iff.mp hL]; exact h0
    | succ n ih =>
      intro L hL
      have hne : L ≠ [] := by intro e; rw [e] at hL; cases hL
      have e := List.dropLast_concat_getLast hne
      rw [← e]
      exact h _ _ (ih _ (by rw [List.length_dropLast, hL]; rfl))
  exact q _ L rfl
theorem nodup_map {α β : Type} {f : α → β} (hf : ∀ x y, f x = f y → x = y) {l : List α} (h : l.Nodup) : (l.map f).Nodup := by
  show (l.map f).Pairwise (· ≠ ·)
  rw [List.pairwise_map]
  exact List.Pairwise.imp (fun hne e => hne (hf _ _ e)) h
theorem combos_nodup : ∀ (L : List Nat), Indep L → (combos [0] L).Nodup := by
  refine snoc_ind ?_ ?_
  · intro _
    show [0].Nodup
    simp
  · intro L a ih h
    obtain ⟨h1, h2⟩ := indep_init h
    rw [combos_snoc, List.nodup_append]
    refine ⟨ih h1, ?_, ?_⟩
    · refine nodup_map (fun x y e => ?_) (ih h1)
      have q : x ^^^ a ^^^ a = y ^^^ a ^^^ a := by rw [show x ^^^ a = y ^^^ a from e]
      rw [xor_cancel, xor_cancel] at q
      exact q
    · intro x hx y hy e
      obtain ⟨z, hz, rfl⟩ := List.mem_map.mp hy
      subst e
      have s1 := mem_combos0.mp hx
      have s2 := mem_combos0.mp hz
      have q := span_xor s1 s2
      have e2 : z ^^^ a ^^^ z = a := by rw [Nat.xor_comm z a, xor_cancel]
      rw [e2] at q
      exact h2 q

/-! ### numbered_bits: the sum of the items at the places where number has a 1 -/
def nb : List Nat → Nat → Nat
  | [], _ => 0
  | r :: rs, i => (if i.testBit 0 then r else 0) ^^^ nb rs (i / 2)
theorem nb_zero : ∀ L : List Nat, nb L 0 = 0
  | [] => rfl
  | r :: rs => by
    show (if Nat.testBit 0 0 then r else 0) ^^^ nb rs (0 / 2) = 0
    rw [Nat.zero_div, nb_zero rs]
    simp
theorem xor4 (a b c d : Nat) : a ^^^ b ^^^ (c ^^^ d) = a ^^^ c ^^^ (b ^^^ d) := by
  rw [Nat.xor_assoc, ← Nat.xor_assoc b c d, Nat.xor_comm b c, Nat.xor_assoc c b d, ← Nat.xor_assoc]
theorem nb_xor : ∀ (L : List Nat) (i j : Nat), nb L (i ^^^ j) = nb L i ^^^ nb L j
  | [], _, _ => by simp [nb]
  | r :: rs, i, j => by
    show (if (i ^^^ j).testBit 0 then r else 0) ^^^ nb rs ((i ^^^ j) / 2) = (if i.testBit 0 then r else 0) ^^^ nb rs (i / 2) ^^^ ((if j.testBit 0 then r else 0) ^^^ nb rs (j / 2))
    have e : (i ^^^ j) / 2 = i / 2 ^^^ j / 2 := Nat.xor_div_two
    rw [e, nb_xor rs, xor4, Nat.testBit_xor]
    congr 1
    cases i.testBit 0 <;> cases j.testBit 0 <;> simp
theorem nb_two_pow : ∀ (L : List Nat) (j a : Nat), L[j]? = some a → nb L (2 ^ j) = a
  | [], j, a, h => by simp at h
  | r :: rs, 0, a, h => by
    have e : r = a := by simpa using h
    subst e
    show (if Nat.testBit (2 ^ 0) 0 then r else 0) ^^^ nb rs (2 ^ 0 / 2) = r
    have e2 : 2 ^ 0 / 2 = 0 := by decide
    rw [e2, nb_zero]
    simp
  | r :: rs, j + 1, a, h => by
    show (if Nat.testBit (2 ^ (j + 1)) 0 then r else 0) ^^^ nb rs (2 ^ (j + 1) / 2) = a
    have e2 : 2 ^ (j + 1) / 2 = 2 ^ j := by rw [Nat.pow_succ, Nat.mul_div_cancel _ (by omega)]
    rw [e2, nb_two_pow rs j a (by simpa using h), Nat.testBit_two_pow]
    simp
theorem nb_span : ∀ (L : List Nat) (i : Nat), Span L (nb L i)
  | [], _ => .zero
  | r :: rs, i => by
    refine span_xor ?_ (span_mono (fun _ q => List.mem_cons_of_mem _ q) (nb_span rs (i / 2)))
    cases i.testBit 0
    · exact .zero
    · exact span_mem List.mem_cons_self
theorem span_nb {L : List Nat} {x : Nat} (h : Span L x) : ∃ i, i < 2 ^ L.length ∧ nb L i = x := by
  induction h with
  | zero => exact ⟨0, Nat.two_pow_pos _, nb_zero L⟩
  | @add x a _ ha ih =>
    obtain ⟨i, hi, e⟩ := ih
    obtain ⟨j, hj, ej⟩ := List.getElem_of_mem ha
    refine ⟨i ^^^ 2 ^ j, Nat.xor_lt_two_pow hi (Nat.pow_lt_pow_right (by omega) hj), ?_⟩
    rw [nb_xor, e, nb_two_pow L j a (by rw [List.getElem?_eq_getElem hj, ej])]
/-- one more item taken -/
theorem nb_take : ∀ (L : List Nat) (j a i : Nat), L[j]? = some a → nb (L.take (j + 1)) i = nb (L.take j) i ^^^ (if i.testBit j then a else 0)
  | [], j, a, i, h => by simp at h
  | r :: rs, 0, a, i, h => by
    have e : r = a := by simpa using h
    subst e
    show (if i.testBit 0 then r else 0) ^^^ nb [] (i / 2) = 0 ^^^ _
    simp [nb]
  | r :: rs, j + 1, a, i, h => by
    show (if i.testBit 0 then r else 0) ^^^ nb (rs.take (j + 1)) (i / 2) = (if i.testBit 0 then r else 0) ^^^ nb (rs.take j) (i / 2) ^^^ _
    rw [nb_take rs j a (i / 2) (by simpa using h), Nat.testBit_div_two, Nat.xor_assoc]

/-! ### reduced bases: the greatest figures rise, each stands in its own item alone -/
structure Ech (L : List Nat) : Prop where
  pos : ∀ a ∈ L, a ≠ 0
  rise : L.Pairwise fun (a b : Nat) => a.log2 < b.log2
  own : ∀ (i j a b : Nat), L[i]? = some a → L[j]? = some b → i ≠ j → a.testBit b.log2 = false
theorem testBit_log2 {a : Nat} (h : a ≠ 0) : a.testBit a.log2 = true := Nat.testBit_log2 h
theorem lt_log2 {a : Nat} : a < 2 ^ (a.log2 + 1) := Nat.lt_log2_self
/-- a figure that stands in one item alone tells whether it is taken -/
theorem nb_bit : ∀ (L : List Nat) (j a t i : Nat), L[j]? = some a → a.testBit t = true → (∀ k b, L[k]? = some b → k ≠ j → b.testBit t = false) → (nb L i).testBit t = i.testBit j
  | [], j, a, t, i, h, _, _ => by simp at h
  | r :: rs, 0, a, t, i, h, ht, ho => by
    have e : r = a := by simpa using h
    subst e
    have z : ∀ (M : List Nat) (n : Nat), (∀ b ∈ M, b.testBit t = false) → (nb M n).testBit t = false := by
      intro M
      induction M with
      | nil => intro n _; simp [nb]
      | cons b M ih =>
        intro n hb
        show ((if n.testBit 0 then b else 0) ^^^ nb M (n / 2)).testBit t = false
        rw [Nat.testBit_xor, ih _ fun c hc => hb c (List.mem_cons_of_mem _ hc)]
        have := hb b List.mem_cons_self
        cases n.testBit 0 <;> simp [this]
    show ((if i.testBit 0 then r else 0) ^^^ nb rs (i / 2)).testBit t = i.testBit 0
    rw [Nat.testBit_xor, z rs _ fun b hb => by
      obtain ⟨k, hk, ek⟩ := List.getElem_of_mem hb
      exact ho (k + 1) b (by simp [hk, ek]) (by omega)]
    cases i.testBit 0 <;> simp [ht]
  | r :: rs, j + 1, a, t, i, h, ht, ho => by
    show ((if i.testBit 0 then r else 0) ^^^ nb rs (i / 2)).testBit t = i.testBit (j + 1)
    rw [Nat.testBit_xor, nb_bit rs j a t (i / 2) (by simpa using h) ht (fun k b hk hne => ho (k + 1) b (by simpa using hk) (by omega)), Nat.testBit_div_two]
    have := ho 0 r (by simp) (by omega)
    cases i.testBit 0 <;> simp [this]
theorem nb_lt : ∀ (L : List Nat) (d t i : Nat), (∀ k b, L[k]? = some b → k < d → b < 2 ^ t) → i < 2 ^ d → nb L i < 2 ^ t
  | [], _, t, _, _, _ => Nat.two_pow_pos t
  | r :: rs, 0, t, i, _, hi => by
    have e : i = 0 := by simpa using hi
    subst e
    rw [nb_zero]
    exact Nat.two_pow_pos t
  | r :: rs, d + 1, t, i, h, hi => by
    refine Nat.xor_lt_two_pow ?_ (nb_lt rs d t (i / 2) (fun k b hk hd => h (k + 1) b (by simpa using hk) (by omega)) (by rw [Nat.pow_succ] at hi; omega))
    have := h 0 r (by simp) (by omega)
    cases i.testBit 0
    · exact Nat.two_pow_pos t
    · exact this
theorem testBit_of_lt {x t k : Nat} (h : x < 2 ^ t) (hk : t ≤ k) : x.testBit k = false :=
  Nat.testBit_lt_two_pow (Nat.lt_of_lt_of_le h (Nat.pow_le_pow_right (by omega) hk))
theorem lt_of_testBit : ∀ (d : Nat) {x y : Nat}, x.testBit d = false → y.testBit d = true → (∀ k, d < k → x.testBit k = y.testBit k) → x < y
  | 0, x, y, hx, hy, h => by
    have e : x / 2 = y / 2 := Nat.eq_of_testBit_eq fun k => by
      rw [Nat.testBit_div_two, Nat.testBit_div_two]
      exact h (k + 1) (by omega)
    rw [Nat.testBit_zero] at hx hy
    have h1 : ¬ x % 2 = 1 := of_decide_eq_false hx
    have h2 : y % 2 = 1 := of_decide_eq_true hy
    omega
  | d + 1, x, y, hx, hy, h => by
    have q := lt_of_testBit d (x := x / 2) (y := y / 2) (by rw [Nat.testBit_div_two]; exact hx) (by rw [Nat.testBit_div_two]; exact hy) fun k hk => by
      rw [Nat.testBit_div_two, Nat.testBit_div_two]
      exact h (k + 1) (by omega)
    omega
/-- the numbers rise with their numbers -/
theorem nb_mono {L : List Nat} (E : Ech L) {i j : Nat} (hij : i < j) (hj : j < 2 ^ L.length) : nb L i < nb L j := by
  have hne : i ^^^ j ≠ 0 := fun e => by
    have := xor_eq_zero e
    omega
  let d := (i ^^^ j).log2
  have hd : (i ^^^ j) < 2 ^ (d + 1) := lt_log2
  have hdb : (i ^^^ j).testBit d = true := testBit_log2 hne
  have hib : i < 2 ^ L.length := Nat.lt_trans hij hj
  have hdl : d < L.length := by
    have q : (i ^^^ j) < 2 ^ L.length := Nat.xor_lt_two_pow hib hj
    rcases Nat.lt_or_ge d L.length with h | h
    · exact h
    · have := testBit_of_lt q h
      rw [this] at hdb
      cases hdb
  have same : ∀ k, d < k → i.testBit k = j.testBit k := fun k hk => by
    have q := testBit_of_lt hd (show d + 1 ≤ k from hk)
    rw [Nat.testBit_xor] at q
    cases h1 : i.testBit k <;> cases h2 : j.testBit k <;> simp [h1, h2] at q ⊢
  have hbit : i.testBit d = false ∧ j.testBit d = true := by
    rw [Nat.testBit_xor] at hdb
    cases h1 : i.testBit d <;> cases h2 : j.testBit d <;> simp [h1, h2] at hdb ⊢
    have := lt_of_testBit d h2 h1 (fun k hk => (same k hk).symm)
    omega
  have ha : L[d]? = some L[d] := List.getElem?_eq_getElem hdl
  have ta : L[d].testBit L[d].log2 = true := testBit_log2 (E.pos _ (List.getElem_mem hdl))
  have own : ∀ k b, L[k]? = some b → k ≠ d → b.testBit L[d].log2 = false := fun k b hk hne => E.own k d b L[d] hk ha hne
  refine lt_of_testBit L[d].log2 ?_ ?_ fun k hk => ?_
  · rw [nb_bit L d L[d] _ i ha ta own]
    exact hbit.1
  · rw [nb_bit L d L[d] _ j ha ta own]
    exact hbit.2
  · have q : nb L (i ^^^ j) < 2 ^ (L[d].log2 + 1) := by
      refine nb_lt L (d + 1) _ _ (fun k b hk hkd => ?_) hd
      obtain ⟨hkl, e⟩ := List.getElem?_eq_some_iff.mp hk
      subst e
      rcases Nat.lt_or_ge k d with h | h
      · have r := (List.pairwise_iff_getElem.mp E.rise) k d hkl hdl h
        exact Nat.lt_of_lt_of_le lt_log2 (Nat.pow_le_pow_right (by omega) (by omega))
      · have e : k = d := by omega
        subst e
        exact lt_log2
    rw [nb_xor] at q
    have z := testBit_of_lt q (show L[d].log2 + 1 ≤ k from hk)
    rw [Nat.testBit_xor] at z
    cases h1 : (nb L i).testBit k <;> cases h2 : (nb L j).testBit k <;> simp [h1, h2] at z ⊢
/-- all of them, in order -/
def allNb (L : List Nat) : List Nat := (List.range (2 ^ L.length)).map (nb L)
theorem allNb_rise {L : List Nat} (E : Ech L) : (allNb L).Pairwise (· < ·) := by
  show ((List.range (2 ^ L.length)).map (nb L)).Pairwise (· < ·)
  rw [List.pairwise_map, List.pairwise_iff_getElem]
  intro i j hi hj hij
  rw [List.getElem_range, List.getElem_range]
  exact nb_mono E hij (by simpa using hj)
theorem mem_allNb {L : List Nat} {x : Nat} : x ∈ allNb L ↔ Span L x := by
  constructor
  · intro h
    obtain ⟨i, _, rfl⟩ := List.mem_map.mp h
    exact nb_span L i
  · intro h
    obtain ⟨i, hi, e⟩ := span_nb h
    exact List.mem_map.mpr ⟨i, List.mem_range.mpr hi, e⟩
/-- rising rows with the same members are one -/
theorem rise_eq : ∀ {l₁ l₂ : List Nat}, l₁.Pairwise (· < ·) → l₂.Pairwise (· < ·) → (∀ x, x ∈ l₁ ↔ x ∈ l₂) → l₁ = l₂
  | [], [], _, _, _ => rfl
  | [], b :: l₂, _, _, h => by have := (h b).2 List.mem_cons_self; cases this
  | a :: l₁, [], _, _, h => by have := (h a).1 List.mem_cons_self; cases this
  | a :: l₁, b :: l₂, h1, h2, h => by
    obtain ⟨a1, p1⟩ := List.pairwise_cons.mp h1
    obtain ⟨b2, p2⟩ := List.pairwise_cons.mp h2
    have e : a = b := by
      rcases List.mem_cons.mp ((h a).1 List.mem_cons_self) with e | m
      · exact e
      · rcases List.mem_cons.mp ((h b).2 List.mem_cons_self) with e | m'
        · exact e.symm
        · have := b2 a m
          have := a1 b m'
          omega
    subst e
    have q : ∀ x, x ∈ l₁ ↔ x ∈ l₂ := fun x => by
      constructor
      · intro hx
        rcases List.mem_cons.mp ((h x).1 (List.mem_cons_of_mem _ hx)) with e | m
        · have := a1 x hx
          omega
        · exact m
      · intro hx
        rcases List.mem_cons.mp ((h x).2 (List.mem_cons_of_mem _ hx)) with e | m
        · have := b2 x hx
          omega
        · exact m
    rw [rise_eq p1 p2 q]
theorem two_pow_inj {a b : Nat} (h : 2 ^ a = 2 ^ b) : a = b := (Nat.pow_right_inj (by omega)).mp h
/-- two reduced bases of one span number alike -/
theorem ech_same {L M : List Nat} (E : Ech L) (F : Ech M) (h : ∀ x, Span L x ↔ Span M x) : L.length = M.length ∧ ∀ i, i < 2 ^ L.length → nb L i = nb M i := by
  have q : allNb L = allNb M := rise_eq (allNb_rise E) (allNb_rise F) fun x => by rw [mem_allNb, mem_allNb]; exact h x
  have hl : L.length = M.length := two_pow_inj (by have := congrArg List.length q; simpa [allNb] using this)
  refine ⟨hl, fun i hi => ?_⟩
  have q2 := congrArg (fun l => l[i]?) q
  simp only [allNb] at q2
  rw [List.getElem?_map, List.getElem?_map, List.getElem?_range hi, List.getElem?_range (by rw [← hl]; exact hi)] at q2
  simpa using q2
/-- an independent list has as many items as a reduced base of the same span -/
theorem indep_len {L M : List Nat} (I : Indep L) (E : Ech M) (h : ∀ x, Span L x ↔ Span M x) : L.length = M.length := by
  have p : (combos [0] L).Perm (allNb M) := by
    refine (List.perm_ext_iff_of_nodup (combos_nodup L I) ?_).2 fun x => by rw [mem_combos0, mem_allNb]; exact h x
    exact List.Pairwise.imp (fun h => Nat.ne_of_lt h) (allNb_rise E)
  have q := p.length_eq
  rw [combos_len] at q
  simp [allNb] at q
  exact two_pow_inj q
end BE
end
/-! ## M2 -/
section
set_option linter.all false
namespace BE
/-! ### reduced_bits -/
def clear (ps : List (Nat × Nat)) (b : Nat) : Nat := ps.foldl (fun b p => if b &&& p.1 ≠ 0 then b ^^^ p.2 else b) b
def redFix (b g : Nat) (p : Nat × Nat) : Nat × Nat := if p.2 &&& g ≠ 0 then (p.1, p.2 ^^^ b) else p
def redStep (ps : List (Nat × Nat)) (row : Nat) : List (Nat × Nat) :=
  if clear ps row = 0 then ps else ps.map (redFix (clear ps row) (2 ^ (clear ps row).log2)) ++ [(2 ^ (clear ps row).log2, clear ps row)]
def redAll (rows : List Nat) : List (Nat × Nat) := rows.foldl redStep []
structure RK (ps : List (Nat × Nat)) : Prop where
  head : ∀ p ∈ ps, p.2 ≠ 0 ∧ p.1 = 2 ^ p.2.log2
  own : ps.Pairwise fun p q => p.2.testBit q.2.log2 = false ∧ q.2.testBit p.2.log2 = false
theorem and_pow_ne {b t : Nat} : (b &&& 2 ^ t ≠ 0) ↔ b.testBit t = true := by
  constructor
  · intro h
    cases e : b.testBit t
    · refine absurd (Nat.eq_of_testBit_eq fun i => ?_) h
      rw [Nat.testBit_and, Nat.testBit_two_pow, Nat.zero_testBit]
      by_cases c : t = i
      · subst c; rw [e]; rfl
      · rw [decide_eq_false c, Bool.and_false]
    · rfl
  · intro h z
    have q : (b &&& 2 ^ t).testBit t = true := by rw [Nat.testBit_and, Nat.testBit_two_pow, h]; simp
    rw [z, Nat.zero_testBit] at q
    cases q
theorem clear_cons (p : Nat × Nat) (ps : List (Nat × Nat)) (b : Nat) : clear (p :: ps) b = clear ps (if b &&& p.1 ≠ 0 then b ^^^ p.2 else b) := rfl
theorem clear_out : ∀ {ps : List (Nat × Nat)} {b t : Nat}, (∀ p ∈ ps, p.2.testBit t = false) → (clear ps b).testBit t = b.testBit t
  | [], _, _, _ => rfl
  | p :: ps, b, t, h => by
    rw [clear_cons, clear_out fun q hq => h q (List.mem_cons_of_mem _ hq)]
    have := h p List.mem_cons_self
    split
    · rw [Nat.testBit_xor, this]; simp
    · rfl
theorem clear_in : ∀ {ps : List (Nat × Nat)} {b : Nat}, RK ps → ∀ p ∈ ps, (clear ps b).testBit p.2.log2 = false
  | [], _, _, _, h => by cases h
  | p :: ps, b, R, q, hq => by
    obtain ⟨h1, h2⟩ := List.pairwise_cons.mp R.own
    have hp := R.head p List.mem_cons_self
    have R' : RK ps := ⟨fun x hx => R.head x (List.mem_cons_of_mem _ hx), h2⟩
    rcases List.mem_cons.mp hq with rfl | hq
    · rw [clear_cons, clear_out fun x hx => (h1 x hx).2]
      by_cases c : b.testBit q.2.log2 = true
      · rw [if_pos (by rw [hp.2]; exact and_pow_ne.mpr c), Nat.testBit_xor, c, testBit_log2 hp.1]
        rfl
      · rw [if_neg (by rw [hp.2]; exact fun z => c (and_pow_ne.mp z))]
        simpa using c
    · rw [clear_cons]
      exact clear_in R' q hq
theorem clear_span : ∀ (ps : List (Nat × Nat)) (b : Nat), Span (ps.map (·.2)) (b ^^^ clear ps b)
  | [], b => by show Span [] (b ^^^ b); rw [Nat.xor_self]; exact .zero
  | p :: ps, b => by
    rw [clear_cons]
    have ih := clear_span ps (if b &&& p.1 ≠ 0 then b ^^^ p.2 else b)
    have ih' := span_mono (M := (p :: ps).map (·.2)) (fun a ha => List.mem_cons_of_mem _ ha) ih
    by_cases c : b &&& p.1 ≠ 0
    · rw [if_pos c] at ih' ⊢
      have q := Span.add ih' (a := p.2) (by simp)
      have e : b ^^^ p.2 ^^^ clear ps (b ^^^ p.2) ^^^ p.2 = b ^^^ clear ps (b ^^^ p.2) := by
        rw [Nat.xor_assoc b, Nat.xor_comm p.2, ← Nat.xor_assoc, xor_cancel]
      rw [e] at q
      exact q
    · rw [if_neg c] at ih' ⊢
      exact ih'
theorem redFix_fst (b g : Nat) (p : Nat × Nat) : (redFix b g p).1 = p.1 := by unfold redFix; split <;> rfl
theorem log2_xor_small {v b : Nat} (hv : v ≠ 0) (hb : b ≠ 0) (hc : b.testBit v.log2 = false) (h : v.testBit b.log2 = true) : v ^^^ b ≠ 0 ∧ (v ^^^ b).log2 = v.log2 := by
  have h1 : b.log2 < v.log2 := by
    rcases Nat.lt_trichotomy b.log2 v.log2 with h1 | h1 | h1
    · exact h1
    · rw [← h1, testBit_log2 hb] at hc; cases hc
    · rw [testBit_of_lt (lt_log2 (a := v)) h1] at h; cases h
  have t : (v ^^^ b).testBit v.log2 = true := by rw [Nat.testBit_xor, testBit_log2 hv, hc]; rfl
  have nz : v ^^^ b ≠ 0 := fun e => by rw [e] at t; simp at t
  refine ⟨nz, ?_⟩
  have lo := Nat.ge_two_pow_of_testBit t
  have hi : v ^^^ b < 2 ^ (v.log2 + 1) := Nat.xor_lt_two_pow lt_log2 (Nat.lt_of_lt_of_le lt_log2 (Nat.pow_le_pow_right (by omega) (by omega)))
  have e1 : (v ^^^ b).log2 < v.log2 + 1 := (Nat.log2_lt nz).mpr hi
  have e2 : v.log2 ≤ (v ^^^ b).log2 := (Nat.le_log2 nz).mpr lo
  omega
theorem redFix_log {b : Nat} {p : Nat × Nat} (hp : p.2 ≠ 0) (hb : b ≠ 0) (hc : b.testBit p.2.log2 = false) : (redFix b (2 ^ b.log2) p).2 ≠ 0 ∧ (redFix b (2 ^ b.log2) p).2.log2 = p.2.log2 := by
  unfold redFix
  split
  · rename_i h
    exact log2_xor_small hp hb hc (and_pow_ne.mp h)
  · exact ⟨hp, rfl⟩
theorem redFix_bit {b t : Nat} {p : Nat × Nat} (h : b.testBit t = false) : (redFix b (2 ^ b.log2) p).2.testBit t = p.2.testBit t := by
  unfold redFix
  split
  · show (p.2 ^^^ b).testBit t = _
    rw [Nat.testBit_xor, h]; simp
  · rfl
theorem redFix_off {b : Nat} {p : Nat × Nat} (hb : b ≠ 0) : (redFix b (2 ^ b.log2) p).2.testBit b.log2 = false := by
  unfold redFix
  split
  · rename_i h
    show (p.2 ^^^ b).testBit _ = _
    rw [Nat.testBit_xor, and_pow_ne.mp h, testBit_log2 hb]; rfl
  · rename_i h
    have := fun z => h (and_pow_ne.mpr z)
    simpa using this
theorem redStep_ok {ps : List (Nat × Nat)} (R : RK ps) (row : Nat) : RK (redStep ps row) := by
  unfold redStep
  split
  · exact R
  · rename_i hb
    have hc := clear_in (b := row) R
    refine ⟨fun p hp => ?_, ?_⟩
    · rcases List.mem_append.mp hp with hp | hp
      · obtain ⟨q, hq, rfl⟩ := List.mem_map.mp hp
        have := redFix_log (R.head q hq).1 hb (hc q hq)
        refine ⟨this.1, ?_⟩
        rw [redFix_fst, this.2]
        exact (R.head q hq).2
      · rw [List.mem_singleton.mp hp]
        exact ⟨hb, rfl⟩
    · rw [List.pairwise_append]
      refine ⟨?_, List.pairwise_singleton _ _, ?_⟩
      · rw [List.pairwise_map]
        refine List.Pairwise.imp_of_mem ?_ R.own
        intro p q hp hq h
        rw [(redFix_log (R.head p hp).1 hb (hc p hp)).2, (redFix_log (R.head q hq).1 hb (hc q hq)).2, redFix_bit (hc q hq), redFix_bit (hc p hp)]
        exact h
      · intro p hp q hq
        obtain ⟨r, hr, rfl⟩ := List.mem_map.mp hp
        rw [List.mem_singleton.mp hq]
        refine ⟨redFix_off hb, ?_⟩
        show (clear ps row).testBit _ = false
        rw [(redFix_log (R.head r hr).1 hb (hc r hr)).2]
        exact hc r hr
theorem redStep_span (ps : List (Nat × Nat)) (row x : Nat) : Span ((redStep ps row).map (·.2)) x ↔ Span (ps.map (·.2) ++ [row]) x := by
  have cs := clear_span ps row
  unfold redStep
  split
  · rename_i hb
    rw [hb, Nat.xor_zero] at cs
    constructor
    · exact span_mono fun a ha => List.mem_append_left _ ha
    · refine span_sub fun a ha => ?_
      rcases List.mem_append.mp ha with ha | ha
      · exact span_mem ha
      · rw [List.mem_singleton.mp ha]; exact cs
  · rename_i hb
    have e : (ps.map (redFix (clear ps row) (2 ^ (clear ps row).log2)) ++ [(2 ^ (clear ps row).log2, clear ps row)]).map (fun q : Nat × Nat => q.2) = (ps.map fun p => (redFix (clear ps row) (2 ^ (clear ps row).log2) p).2) ++ [clear ps row] := by
      rw [List.map_append, List.map_map]; rfl
    rw [e]
    constructor
    · refine span_sub fun a ha => ?_
      have cb : Span (ps.map (·.2) ++ [row]) (clear ps row) := by
        have q := span_xor (span_mem (L := ps.map (·.2) ++ [row]) (a := row) (by simp)) (span_mono (M := ps.map (·.2) ++ [row]) (fun a ha => List.mem_append_left _ ha) cs)
        rw [← Nat.xor_assoc, Nat.xor_self, Nat.zero_xor] at q
        exact q
      rcases List.mem_append.mp ha with ha | ha
      · obtain ⟨p, hp, rfl⟩ := List.mem_map.mp ha
        have hp2 : Span (ps.map (·.2) ++ [row]) p.2 := span_mem (List.mem_append_left _ (List.mem_map.mpr ⟨p, hp, rfl⟩))
        unfold redFix
        split
        · exact span_xor hp2 cb
        · exact hp2
      · rw [List.mem_singleton.mp ha]; exact cb
    · have nb' : ∀ p ∈ ps, Span ((ps.map fun p => (redFix (clear ps row) (2 ^ (clear ps row).log2) p).2) ++ [clear ps row]) p.2 := fun p hp => by
        have h1 : Span ((ps.map fun p => (redFix (clear ps row) (2 ^ (clear ps row).log2) p).2) ++ [clear ps row]) (redFix (clear ps row) (2 ^ (clear ps row).log2) p).2 := span_mem (List.mem_append_left _ (List.mem_map.mpr ⟨p, hp, rfl⟩))
        have h2 : Span ((ps.map fun p => (redFix (clear ps row) (2 ^ (clear ps row).log2) p).2) ++ [clear ps row]) (clear ps row) := span_mem (List.mem_append_right _ (List.mem_singleton.mpr rfl))
        have e : (redFix (clear ps row) (2 ^ (clear ps row).log2) p).2 = p.2 ∨ (redFix (clear ps row) (2 ^ (clear ps row).log2) p).2 = p.2 ^^^ clear ps row := by
          unfold redFix; split
          · exact .inr rfl
          · exact .inl rfl
        rcases e with e | e
        · rw [e] at h1; exact h1
        · rw [e] at h1
          have q := span_xor h1 h2
          rw [xor_cancel] at q
          exact q
      refine span_sub fun a ha => ?_
      rcases List.mem_append.mp ha with ha | ha
      · obtain ⟨p, hp, rfl⟩ := List.mem_map.mp ha
        exact nb' p hp
      · rw [List.mem_singleton.mp ha]
        have q := span_xor (span_sub (M := (ps.map fun p => (redFix (clear ps row) (2 ^ (clear ps row).log2) p).2) ++ [clear ps row]) (fun a ha => by
          obtain ⟨p, hp, rfl⟩ := List.mem_map.mp ha
          exact nb' p hp) cs) (span_mem (List.mem_append_right _ (List.mem_singleton.mpr rfl)))
        rw [xor_cancel] at q
        exact q
theorem redAll_snoc (rows : List Nat) (row : Nat) : redAll (rows ++ [row]) = redStep (redAll rows) row := by
  unfold redAll; rw [List.foldl_append]; rfl
theorem redAll_ok : ∀ rows : List Nat, RK (redAll rows) := by
  refine snoc_ind ⟨(fun p hp => by cases hp), List.Pairwise.nil⟩ fun L a ih => ?_
  rw [redAll_snoc]
  exact redStep_ok ih a
theorem redAll_span : ∀ (rows : List Nat) (x : Nat), Span ((redAll rows).map (·.2)) x ↔ Span rows x := by
  refine snoc_ind (fun x => Iff.rfl) fun L a ih x => ?_
  rw [redAll_snoc, redStep_span]
  constructor
  · refine span_sub fun b hb => ?_
    rcases List.mem_append.mp hb with hb | hb
    · exact span_mono (fun _ h => List.mem_append_left _ h) ((ih b).1 (span_mem hb))
    · exact span_mem (List.mem_append_right _ hb)
  · refine span_sub fun b hb => ?_
    rcases List.mem_append.mp hb with hb | hb
    · exact span_mono (fun _ h => List.mem_append_left _ h) ((ih b).2 (span_mem hb))
    · exact span_mem (List.mem_append_right _ hb)
theorem redStep_len (ps : List (Nat × Nat)) (row : Nat) : (redStep ps row).length ≤ ps.length + 1 := by
  unfold redStep
  split
  · omega
  · simp
theorem redAll_len : ∀ rows : List Nat, (redAll rows).length ≤ rows.length := by
  refine snoc_ind (by simp [redAll]) fun L a ih => ?_
  rw [redAll_snoc]
  have := redStep_len (redAll L) a
  simp
  omega
/-- the value at a figure -/
def lookP (ps : List (Nat × Nat)) (f : Nat) : Nat := ((ps.find? fun p => p.1 == f).map (·.2)).getD 0
theorem RK.look {ps : List (Nat × Nat)} (R : RK ps) {p : Nat × Nat} (hp : p ∈ ps) : lookP ps p.1 = p.2 := by
  induction ps with
  | nil => cases hp
  | cons q ps ih =>
    obtain ⟨h1, h2⟩ := List.pairwise_cons.mp R.own
    have R' : RK ps := ⟨fun x hx => R.head x (List.mem_cons_of_mem _ hx), h2⟩
    rcases List.mem_cons.mp hp with rfl | hp
    · simp [lookP]
    · have hne : q.1 ≠ p.1 := fun e => by
        rw [(R.head q List.mem_cons_self).2, (R.head p (List.mem_cons_of_mem _ hp)).2] at e
        have e2 := two_pow_inj e
        have t := (h1 p hp).2
        rw [e2, testBit_log2 (R.head p (List.mem_cons_of_mem _ hp)).1] at t
        cases t
      have hb : (q.1 == p.1) = false := by simpa using hne
      have := ih R' hp
      unfold lookP at this ⊢
      rw [List.find?_cons, hb]
      exact this
/-- the base, its figures rising -/
theorem RK.ech {ps : List (Nat × Nat)} (R : RK ps) {fs : List Nat} (hp : fs.Perm (ps.map (·.1))) (hs : fs.Pairwise (· ≤ ·)) :
    Ech (fs.map (lookP ps)) ∧ ∀ x, Span (fs.map (lookP ps)) x ↔ Span (ps.map (·.2)) x := by
  have mem : ∀ f ∈ fs, ∃ p ∈ ps, p.1 = f := fun f hf => by
    obtain ⟨p, hp', e⟩ := List.mem_map.mp (hp.mem_iff.mp hf)
    exact ⟨p, hp', e⟩
  have nd1 : (ps.map (·.1)).Nodup := by
    show (ps.map (·.1)).Pairwise (· ≠ ·)
    rw [List.pairwise_map]
    refine List.Pairwise.imp_of_mem ?_ R.own
    intro p q hp hq h e
    rw [(R.head p hp).2, (R.head q hq).2] at e
    have t := h.1
    rw [← two_pow_inj e, testBit_log2 (R.head p hp).1] at t
    cases t
  have nd : fs.Nodup := hp.nodup_iff.mpr nd1
  have val : ∀ f ∈ fs, lookP ps f ≠ 0 ∧ f = 2 ^ (lookP ps f).log2 := fun f hf => by
    obtain ⟨p, hp', rfl⟩ := mem f hf
    rw [R.look hp']
    exact R.head p hp'
  have ow : ∀ f ∈ fs, ∀ g ∈ fs, f ≠ g → (lookP ps f).testBit (lookP ps g).log2 = false := fun f hf g hg hne => by
    obtain ⟨p, hp', rfl⟩ := mem f hf
    obtain ⟨q, hq', rfl⟩ := mem g hg
    rw [R.look hp', R.look hq']
    obtain ⟨i, hi, rfl⟩ := List.getElem_of_mem hp'
    obtain ⟨j, hj, rfl⟩ := List.getElem_of_mem hq'
    have pw := List.pairwise_iff_getElem.mp R.own
    rcases Nat.lt_trichotomy i j with h | h | h
    · exact (pw i j hi hj h).1
    · subst h; exact absurd rfl hne
    · exact (pw j i hj hi h).2
  refine ⟨⟨fun a ha => ?_, ?_, fun i j a b ha hb hne => ?_⟩, span_congr fun a => ?_⟩
  · obtain ⟨f, hf, rfl⟩ := List.mem_map.mp ha
    exact (val f hf).1
  · rw [List.pairwise_map]
    refine List.Pairwise.imp_of_mem ?_ (List.Pairwise.and hs nd)
    intro f g hf hg h
    have h1 := (val f hf).2
    have h2 := (val g hg).2
    have lt : f < g := Nat.lt_of_le_of_ne h.1 h.2
    rw [h1, h2] at lt
    exact (Nat.pow_lt_pow_iff_right (by omega)).mp lt
  · rw [List.getElem?_map] at ha hb
    cases ef : fs[i]? with
    | none => rw [ef] at ha; cases ha
    | some f =>
      cases eg : fs[j]? with
      | none => rw [eg] at hb; cases hb
      | some g =>
        rw [ef] at ha
        rw [eg] at hb
        obtain ⟨hi, ei⟩ := List.getElem?_eq_some_iff.mp ef
        obtain ⟨hj, ej⟩ := List.getElem?_eq_some_iff.mp eg
        cases ha
        cases hb
        refine ow f (ei ▸ List.getElem_mem hi) g (ej ▸ List.getElem_mem hj) fun e => hne ?_
        exact (List.getElem_inj nd).mp (by rw [ei, ej, e])
  · constructor
    · intro ha
      obtain ⟨f, hf, rfl⟩ := List.mem_map.mp ha
      obtain ⟨p, hp', rfl⟩ := mem f hf
      rw [R.look hp']
      exact List.mem_map.mpr ⟨p, hp', rfl⟩
    · intro ha
      obtain ⟨p, hp', rfl⟩ := List.mem_map.mp ha
      exact List.mem_map.mpr ⟨p.1, hp.mem_iff.mpr (List.mem_map.mpr ⟨p, hp', rfl⟩), R.look hp'⟩
end BE
end
/-! ## M3 -/
section
set_option linter.all false
namespace BE
/-! ### sums of truths -/
theorem bx4 (a b c d : Bool) : ((a ^^ b) ^^ (c ^^ d)) = ((a ^^ c) ^^ (b ^^ d)) := by revert a b c d; decide
def xs : Nat → (Nat → Bool) → Bool
  | 0, _ => false
  | m + 1, f => xs m f ^^ f m
theorem xs_congr : ∀ {m : Nat} {f g : Nat → Bool}, (∀ k, k < m → f k = g k) → xs m f = xs m g
  | 0, _, _, _ => rfl
  | m + 1, f, g, h => by
    show (xs m f ^^ f m) = (xs m g ^^ g m)
    rw [xs_congr fun k hk => h k (by omega), h m (by omega)]
theorem xs_xor : ∀ (m : Nat) (f g : Nat → Bool), xs m (fun k => f k ^^ g k) = (xs m f ^^ xs m g)
  | 0, _, _ => rfl
  | m + 1, f, g => by
    show (xs m (fun k => f k ^^ g k) ^^ (f m ^^ g m)) = (xs m f ^^ f m ^^ (xs m g ^^ g m))
    rw [xs_xor m f g]
    cases xs m f <;> cases xs m g <;> cases f m <;> cases g m <;> rfl
theorem xs_false : ∀ (m : Nat) {f : Nat → Bool}, (∀ k, k < m → f k = false) → xs m f = false
  | 0, _, _ => rfl
  | m + 1, f, h => by
    show (xs m f ^^ f m) = false
    rw [xs_false m fun k hk => h k (by omega), h m (by omega)]
    rfl
theorem xs_one : ∀ (m : Nat) {f : Nat → Bool} {j : Nat}, j < m → (∀ k, k < m → k ≠ j → f k = false) → xs m f = f j
  | 0, _, _, h, _ => by omega
  | m + 1, f, j, hj, h => by
    show (xs m f ^^ f m) = f j
    by_cases e : j = m
    · subst e
      rw [xs_false j fun k hk => h k (by omega) (by omega)]
      simp
    · rw [xs_one m (by omega) fun k hk hne => h k (by omega) hne, h m (by omega) (by omega)]
      simp
/-- the sum over a list -/
def xl (L : List Nat) (f : Nat → Bool) : Bool := L.foldr (fun k b => f k ^^ b) false
theorem xl_cons (k : Nat) (L : List Nat) (f : Nat → Bool) : xl (k :: L) f = (f k ^^ xl L f) := rfl
theorem xl_congr : ∀ {L : List Nat} {f g : Nat → Bool}, (∀ k ∈ L, f k = g k) → xl L f = xl L g
  | [], _, _, _ => rfl
  | k :: L, f, g, h => by
    rw [xl_cons, xl_cons, h k List.mem_cons_self, xl_congr fun j hj => h j (List.mem_cons_of_mem _ hj)]
theorem xl_perm {L M : List Nat} (p : L.Perm M) (f : Nat → Bool) : xl L f = xl M f := by
  induction p with
  | nil => rfl
  | cons x _ ih => rw [xl_cons, xl_cons, ih]
  | swap x y l =>
    rw [xl_cons, xl_cons, xl_cons, xl_cons]
    cases f x <;> cases f y <;> simp
  | trans _ _ h1 h2 => exact h1.trans h2
theorem xl_app (L M : List Nat) (f : Nat → Bool) : xl (L ++ M) f = (xl L f ^^ xl M f) := by
  induction L with
  | nil => show xl M f = (false ^^ xl M f); simp
  | cons k L ih => rw [List.cons_append, xl_cons, xl_cons, ih]; cases f k <;> cases xl L f <;> cases xl M f <;> rfl
/-- the parity of how many items are in -/
theorem xl_count : ∀ (L : List Nat) (f : Nat → Bool), xl L f = decide ((L.filter f).length % 2 = 1)
  | [], _ => rfl
  | k :: L, f => by
    rw [xl_cons, xl_count L f, List.filter_cons]
    cases e : f k
    · simp
    · simp only [if_true, List.length_cons]
      rcases Nat.mod_two_eq_zero_or_one (L.filter f).length with h | h
      · rw [h, show ((L.filter f).length + 1) % 2 = 1 by omega]; rfl
      · rw [h, show ((L.filter f).length + 1) % 2 = 0 by omega]; rfl
/-- over what is in, ahead of m -/
theorem xl_range (m : Nat) (x f : Nat → Bool) : xl ((List.range m).filter x) f = xs m fun k => x k && f k := by
  induction m with
  | zero => rfl
  | succ m ih =>
    rw [List.range_succ, List.filter_append, xl_app, ih]
    show _ = (xs m (fun k => x k && f k) ^^ (x m && f m))
    congr 1
    cases e : x m
    · simp [e, xl]
    · simp [e, xl]

/-! ### the package's bits -/
section
variable (m : Nat)
def tieBit (k : Nat) : Nat := 2 ^ (m - 1 - k)
def bitsOf (lot : List Nat) : Nat := (lot.map (tieBit m)).sum
def lotOfBits (b : Nat) : List Nat := (List.range m).filter fun k => b.testBit (m - 1 - k)
/-- whether the tie k is in the lot with such bits -/
def sel (b k : Nat) : Bool := b.testBit (m - 1 - k)
end
theorem sel_xor (m a b k : Nat) : sel m (a ^^^ b) k = (sel m a k ^^ sel m b k) := Nat.testBit_xor ..
theorem sel_zero (m k : Nat) : sel m 0 k = false := Nat.zero_testBit _
theorem sel_ext {m a b : Nat} (ha : a < 2 ^ m) (hb : b < 2 ^ m) (h : ∀ k, k < m → sel m a k = sel m b k) : a = b := by
  refine Nat.eq_of_testBit_eq fun i => ?_
  rcases Nat.lt_or_ge i m with hi | hi
  · have q := h (m - 1 - i) (by omega)
    unfold sel at q
    rw [show m - 1 - (m - 1 - i) = i by omega] at q
    exact q
  · rw [testBit_of_lt ha hi, testBit_of_lt hb hi]
theorem bitsOf_nil (m : Nat) : bitsOf m [] = 0 := rfl
theorem bitsOf_cons (m k : Nat) (L : List Nat) : bitsOf m (k :: L) = 2 ^ (m - 1 - k) + bitsOf m L := by
  unfold bitsOf; rw [List.map_cons, List.sum_cons]; rfl
theorem bitsOf_lt : ∀ {m b : Nat} {L : List Nat}, L.Pairwise (· < ·) → (∀ k ∈ L, b ≤ k ∧ k < m) → bitsOf m L < 2 ^ (m - b)
  | m, b, [], _, _ => by rw [bitsOf_nil]; exact Nat.two_pow_pos _
  | m, b, k :: L, h, hb => by
    obtain ⟨h1, h2⟩ := List.pairwise_cons.mp h
    have hk := hb k List.mem_cons_self
    have q := bitsOf_lt (m := m) (b := k + 1) h2 fun j hj => ⟨h1 j hj, (hb j (List.mem_cons_of_mem _ hj)).2⟩
    rw [bitsOf_cons]
    have e : 2 ^ (m - k) = 2 ^ (m - 1 - k) + 2 ^ (m - 1 - k) := by
      rw [show m - k = m - 1 - k + 1 by omega, Nat.pow_succ]; omega
    have e2 : m - (k + 1) = m - 1 - k := by omega
    rw [e2] at q
    have e3 : 2 ^ (m - k) ≤ 2 ^ (m - b) := Nat.pow_le_pow_right (by omega) (by omega)
    omega
theorem sel_bitsOf : ∀ {m : Nat} {L : List Nat} (j : Nat), L.Pairwise (· < ·) → (∀ k ∈ L, k < m) → j < m → sel m (bitsOf m L) j = decide (j ∈ L)
  | m, [], j, _, _, _ => by rw [bitsOf_nil, sel_zero]; simp
  | m, k :: L, j, h, hb, hj => by
    obtain ⟨h1, h2⟩ := List.pairwise_cons.mp h
    have hk := hb k List.mem_cons_self
    have q := bitsOf_lt (m := m) (b := k + 1) h2 fun j hj => ⟨h1 j hj, hb j (List.mem_cons_of_mem _ hj)⟩
    rw [show m - (k + 1) = m - 1 - k by omega] at q
    have ih := sel_bitsOf j h2 (fun i hi => hb i (List.mem_cons_of_mem _ hi)) hj
    rw [bitsOf_cons, show 2 ^ (m - 1 - k) + bitsOf m L = 2 ^ (m - 1 - k) ||| bitsOf m L by have := Nat.two_pow_add_eq_or_of_lt q 1; rw [Nat.mul_one] at this; exact this]
    show ((2 ^ (m - 1 - k) ||| bitsOf m L).testBit (m - 1 - j)) = _
    rw [Nat.testBit_or, Nat.testBit_two_pow]
    have ih' : (bitsOf m L).testBit (m - 1 - j) = decide (j ∈ L) := ih
    rw [ih']
    by_cases e : j = k
    · subst e; simp
    · have e2 : ¬ m - 1 - k = m - 1 - j := by omega
      simp [e, e2]
theorem mem_lotOfBits {m b k : Nat} : k ∈ lotOfBits m b ↔ k < m ∧ sel m b k = true := by
  unfold lotOfBits
  rw [List.mem_filter, List.mem_range]
  rfl
theorem range_rise (m : Nat) : (List.range m).Pairwise (· < ·) := List.pairwise_lt_range
theorem lotOfBits_rise (m b : Nat) : (lotOfBits m b).Pairwise (· < ·) := List.Pairwise.filter _ (range_rise m)
theorem lotOfBits_lt {m b k : Nat} (h : k ∈ lotOfBits m b) : k < m := (mem_lotOfBits.mp h).1
/-- a rising lot is the lot of its bits -/
theorem lotOfBits_bitsOf {m : Nat} {L : List Nat} (h : L.Pairwise (· < ·)) (hb : ∀ k ∈ L, k < m) : lotOfBits m (bitsOf m L) = L := by
  refine rise_eq (lotOfBits_rise _ _) h fun k => ?_
  rw [mem_lotOfBits]
  constructor
  · rintro ⟨h1, h2⟩
    rw [sel_bitsOf k h hb h1] at h2
    exact of_decide_eq_true h2
  · intro hk
    refine ⟨hb k hk, ?_⟩
    rw [sel_bitsOf k h hb (hb k hk)]
    exact decide_eq_true hk
theorem bitsOf_lt' {m : Nat} {L : List Nat} (h : L.Pairwise (· < ·)) (hb : ∀ k ∈ L, k < m) : bitsOf m L < 2 ^ m := by
  have := bitsOf_lt (m := m) (b := 0) h fun k hk => ⟨Nat.zero_le _, hb k hk⟩
  simpa using this
theorem bitsOf_lotOfBits {m b : Nat} (h : b < 2 ^ m) : bitsOf m (lotOfBits m b) = b := by
  have r := lotOfBits_rise m b
  refine sel_ext (bitsOf_lt' r fun k hk => lotOfBits_lt hk) h fun k hk => ?_
  rw [sel_bitsOf k r (fun k hk => lotOfBits_lt hk) hk]
  by_cases e : sel m b k = true
  · rw [e]; exact decide_eq_true (mem_lotOfBits.mpr ⟨hk, e⟩)
  · have e' : sel m b k = false := by simpa using e
    rw [e']
    exact decide_eq_false fun z => e (mem_lotOfBits.mp z).2

/-! ### webs -/
abbrev Ties := List (Nat × Nat)
def aOf (ts : Ties) (k : Nat) : Nat := (ts.getD k (0, 0)).1
def bOf (ts : Ties) (k : Nat) : Nat := (ts.getD k (0, 0)).2
/-- p is an end of the tie k -/
def inc (ts : Ties) (k p : Nat) : Bool := decide (aOf ts k = p) || decide (bOf ts k = p)
structure Web (n : Nat) (ts : Ties) : Prop where
  pos : 1 ≤ n
  ok : ∀ t ∈ ts, t.1 < t.2 ∧ t.2 < n
  joined : ∀ S : Nat → Bool, S 0 = true → (∀ t ∈ ts, S t.1 = S t.2) → ∀ p, p < n → S p = true
theorem Web.tie {n : Nat} {ts : Ties} (W : Web n ts) {k : Nat} (h : k < ts.length) : aOf ts k < bOf ts k ∧ bOf ts k < n := by
  have e : ts.getD k (0, 0) = ts[k] := by simp [h]
  unfold aOf bOf
  rw [e]
  exact W.ok _ (List.getElem_mem h)
theorem Web.joined' {n : Nat} {ts : Ties} (W : Web n ts) (S : Nat → Bool) (h0 : S 0 = true) (h : ∀ k, k < ts.length → S (aOf ts k) = S (bOf ts k)) : ∀ p, p < n → S p = true :=
  W.joined S h0 fun t ht => by
    obtain ⟨k, hk, e⟩ := List.getElem_of_mem ht
    have q := h k hk
    have e2 : ts.getD k (0, 0) = ts[k] := by simp [hk]
    unfold aOf bOf at q
    rw [e2, e] at q
    exact q
theorem inc_xor {n : Nat} {ts : Ties} (W : Web n ts) {k : Nat} (h : k < ts.length) (p : Nat) : inc ts k p = (decide (aOf ts k = p) ^^ decide (bOf ts k = p)) := by
  have := (W.tie h).1
  unfold inc
  by_cases e1 : aOf ts k = p <;> by_cases e2 : bOf ts k = p <;> simp [e1, e2] <;> omega
/-- a cut, by its sides; even at each place -/
def Cut (ts : Ties) (s x : Nat → Bool) : Prop := ∀ k, k < ts.length → x k = (s (aOf ts k) ^^ s (bOf ts k))
def bd (ts : Ties) (x : Nat → Bool) (p : Nat) : Bool := xs ts.length fun k => x k && inc ts k p
def Even (ts : Ties) (x : Nat → Bool) : Prop := ∀ p, bd ts x p = false
structure Both (ts : Ties) (x : Nat → Bool) : Prop where
  cut : ∃ s, Cut ts s x
  even : Even ts x
theorem bd_congr {ts : Ties} {x y : Nat → Bool} (h : ∀ k, k < ts.length → x k = y k) (p : Nat) : bd ts x p = bd ts y p := xs_congr fun k hk => by rw [h k hk]
theorem bd_xor (ts : Ties) (x y : Nat → Bool) (p : Nat) : bd ts (fun k => x k ^^ y k) p = (bd ts x p ^^ bd ts y p) := by
  unfold bd
  rw [← xs_xor]
  refine xs_congr fun k _ => ?_
  show ((x k ^^ y k) && inc ts k p) = _
  cases x k <;> cases y k <;> cases inc ts k p <;> rfl
theorem Both.congr {ts : Ties} {x y : Nat → Bool} (h : ∀ k, k < ts.length → x k = y k) (B : Both ts x) : Both ts y := by
  obtain ⟨⟨s, hs⟩, he⟩ := B
  exact ⟨⟨s, fun k hk => by rw [← h k hk]; exact hs k hk⟩, fun p => by rw [← bd_congr h p]; exact he p⟩
theorem both_iff {ts : Ties} {x y : Nat → Bool} (h : ∀ k, k < ts.length → x k = y k) : Both ts x ↔ Both ts y := ⟨Both.congr h, Both.congr fun k hk => (h k hk).symm⟩
theorem Both.zero (ts : Ties) : Both ts fun _ => false := ⟨⟨fun _ => false, fun _ _ => rfl⟩, fun p => xs_false _ fun _ _ => rfl⟩
theorem Both.xor {ts : Ties} {x y : Nat → Bool} (hx : Both ts x) (hy : Both ts y) : Both ts fun k => x k ^^ y k := by
  obtain ⟨⟨s, hs⟩, h1⟩ := hx
  obtain ⟨⟨t, ht⟩, h2⟩ := hy
  refine ⟨⟨fun p => s p ^^ t p, fun k hk => ?_⟩, fun p => by rw [bd_xor, h1 p, h2 p]; rfl⟩
  show (x k ^^ y k) = _
  rw [hs k hk, ht k hk]
  exact bx4 ..
/-- the both-even lots, as the package's bits -/
def V (ts : Ties) (x : Nat) : Prop := x < 2 ^ ts.length ∧ Both ts (sel ts.length x)

/-! ### lot_parities -/
def lotPar (ts : Ties) (lot : List Nat) : Nat := lot.foldl (fun f k => f ^^^ 2 ^ aOf ts k ^^^ 2 ^ bOf ts k) 0
theorem lotPar_bit' (ts : Ties) (p : Nat) : ∀ (lot : List Nat) (f : Nat), (lot.foldl (fun f k => f ^^^ 2 ^ aOf ts k ^^^ 2 ^ bOf ts k) f).testBit p = (f.testBit p ^^ xl lot fun k => decide (aOf ts k = p) ^^ decide (bOf ts k = p))
  | [], f => by simp [xl]
  | k :: lot, f => by
    rw [List.foldl_cons, lotPar_bit' ts p lot, xl_cons, Nat.testBit_xor, Nat.testBit_xor, Nat.testBit_two_pow, Nat.testBit_two_pow]
    cases f.testBit p <;> cases decide (aOf ts k = p) <;> cases decide (bOf ts k = p) <;> simp
theorem lotPar_bit (ts : Ties) (lot : List Nat) (p : Nat) : (lotPar ts lot).testBit p = xl lot fun k => decide (aOf ts k = p) ^^ decide (bOf ts k = p) := by
  unfold lotPar; rw [lotPar_bit']; simp
theorem lotPar_inc {n : Nat} {ts : Ties} (W : Web n ts) {lot : List Nat} (hb : ∀ k ∈ lot, k < ts.length) (p : Nat) : (lotPar ts lot).testBit p = xl lot fun k => inc ts k p := by
  rw [lotPar_bit]
  exact xl_congr fun k hk => (inc_xor W (hb k hk) p).symm
/-- the parities of a lot told by bits -/
def Dd (ts : Ties) (x : Nat) : Nat := lotPar ts (lotOfBits ts.length x)
theorem Dd_bit {n : Nat} {ts : Ties} (W : Web n ts) (x p : Nat) : (Dd ts x).testBit p = bd ts (sel ts.length x) p := by
  unfold Dd
  rw [lotPar_inc W (fun k hk => lotOfBits_lt hk)]
  exact xl_range ..
theorem Dd_xor {n : Nat} {ts : Ties} (W : Web n ts) (x y : Nat) : Dd ts (x ^^^ y) = Dd ts x ^^^ Dd ts y := Nat.eq_of_testBit_eq fun p => by
  rw [Nat.testBit_xor, Dd_bit W, Dd_bit W, Dd_bit W, ← bd_xor]
  exact bd_congr (fun k _ => sel_xor ..) p
theorem Dd_zero {n : Nat} {ts : Ties} (W : Web n ts) (x : Nat) : Dd ts x = 0 ↔ Even ts (sel ts.length x) := by
  constructor
  · intro h p
    rw [← Dd_bit W, h]
    exact Nat.zero_testBit _
  · intro h
    refine Nat.eq_of_testBit_eq fun p => ?_
    rw [Dd_bit W, h p]
    exact (Nat.zero_testBit _).symm
theorem Dd_lot {ts : Ties} {lot : List Nat} (h : lot.Pairwise (· < ·)) (hb : ∀ k ∈ lot, k < ts.length) : Dd ts (bitsOf ts.length lot) = lotPar ts lot := by
  unfold Dd; rw [lotOfBits_bitsOf h hb]

/-! ### stars -/
def starAt (ts : Ties) (p : Nat) : List Nat := (List.range ts.length).filter fun k => inc ts k p
def star (ts : Ties) (p : Nat) : Nat := bitsOf ts.length (starAt ts p)
theorem starAt_rise (ts : Ties) (p : Nat) : (starAt ts p).Pairwise (· < ·) := List.Pairwise.filter _ (range_rise _)
theorem starAt_lt {ts : Ties} {p k : Nat} (h : k ∈ starAt ts p) : k < ts.length := List.mem_range.mp (List.mem_filter.mp h).1
theorem star_sel {ts : Ties} {p k : Nat} (hk : k < ts.length) : sel ts.length (star ts p) k = inc ts k p := by
  unfold star
  rw [sel_bitsOf k (starAt_rise ts p) (fun _ h => starAt_lt h) hk]
  by_cases e : inc ts k p = true
  · rw [e]; exact decide_eq_true (List.mem_filter.mpr ⟨List.mem_range.mpr hk, e⟩)
  · have e' : inc ts k p = false := by simpa using e
    rw [e']
    exact decide_eq_false fun z => e (List.mem_filter.mp z).2
theorem star_lt (ts : Ties) (p : Nat) : star ts p < 2 ^ ts.length := bitsOf_lt' (starAt_rise ts p) fun _ h => starAt_lt h
theorem Dd_star (ts : Ties) (p : Nat) : Dd ts (star ts p) = lotPar ts (starAt ts p) := Dd_lot (starAt_rise ts p) fun _ h => starAt_lt h
/-- the stars of the places 1 .. j -/
def starsTo (ts : Ties) (j : Nat) : List Nat := (List.range j).map fun i => star ts (i + 1)
theorem starsTo_succ (ts : Ties) (j : Nat) : starsTo ts (j + 1) = starsTo ts j ++ [star ts (j + 1)] := by
  unfold starsTo; rw [List.range_succ, List.map_append]; rfl
/-- what the stars make: cuts of places among 1 .. j -/
theorem span_stars {n : Nat} {ts : Ties} (W : Web n ts) {j x : Nat} (h : Span (starsTo ts j) x) : x < 2 ^ ts.length ∧ ∃ s : Nat → Bool, (∀ p, s p = true → 1 ≤ p ∧ p ≤ j) ∧ Cut ts s (sel ts.length x) := by
  refine span_ind (C := fun x => x < 2 ^ ts.length ∧ ∃ s : Nat → Bool, (∀ p, s p = true → 1 ≤ p ∧ p ≤ j) ∧ Cut ts s (sel ts.length x)) ?_ ?_ ?_ h
  · exact ⟨Nat.two_pow_pos _, fun _ => false, (fun p h => by cases h), fun k _ => sel_zero _ _⟩
  · rintro x y ⟨hx, s, hs, cs⟩ ⟨hy, t, ht, ct⟩
    refine ⟨Nat.xor_lt_two_pow hx hy, fun p => s p ^^ t p, fun p hp0 => ?_, fun k hk => ?_⟩
    · have hp : (s p ^^ t p) = true := hp0
      cases e : s p
      · rw [e] at hp
        exact ht p (by simpa using hp)
      · exact hs p e
    · rw [sel_xor, cs k hk, ct k hk]
      exact bx4 ..
  · intro a ha
    obtain ⟨i, hi, rfl⟩ := List.mem_map.mp ha
    have hi := List.mem_range.mp hi
    refine ⟨star_lt _ _, fun p => decide (p = i + 1), fun p hp => ?_, fun k hk => ?_⟩
    · have := of_decide_eq_true hp
      omega
    · rw [star_sel hk, inc_xor W hk]
/-- each cut of places of 1 .. j is made of the stars -/
theorem stars_span {n : Nat} {ts : Ties} (W : Web n ts) : ∀ (j : Nat) {s : Nat → Bool} {x : Nat}, (∀ p, s p = true → 1 ≤ p ∧ p ≤ j) → x < 2 ^ ts.length → Cut ts s (sel ts.length x) → Span (starsTo ts j) x
  | 0, s, x, hs, hx, hc => by
    have e : x = 0 := sel_ext hx (Nat.two_pow_pos _) fun k hk => by
      rw [hc k hk, sel_zero]
      have z : ∀ p, s p = false := fun p => by
        cases e : s p
        · rfl
        · have := hs p e
          omega
      rw [z, z]; rfl
    rw [e]
    exact .zero
  | j + 1, s, x, hs, hx, hc => by
    rw [starsTo_succ]
    by_cases e : s (j + 1) = true
    · have q := stars_span W j (s := fun p => s p ^^ decide (p = j + 1)) (x := x ^^^ star ts (j + 1)) (fun p hp => by
        by_cases e2 : p = j + 1
        · subst e2
          have : (s (j + 1) ^^ decide (j + 1 = j + 1)) = true := hp
          rw [e] at this
          simp at this
        · have : (s p ^^ decide (p = j + 1)) = true := hp
          rw [decide_eq_false e2] at this
          have := hs p (by simpa using this)
          omega) (Nat.xor_lt_two_pow hx (star_lt _ _)) (fun k hk => by
        rw [sel_xor, hc k hk, star_sel hk, inc_xor W hk]
        exact bx4 ..)
      have q2 := Span.add (span_mono (M := starsTo ts j ++ [star ts (j + 1)]) (fun a ha => List.mem_append_left _ ha) q) (List.mem_append_right _ (List.mem_singleton.mpr rfl))
      rw [xor_cancel] at q2
      exact q2
    · exact span_mono (fun a ha => List.mem_append_left _ ha) (stars_span W j (s := s) (fun p hp => by
        have := hs p hp
        have : p ≠ j + 1 := fun z => e (z ▸ hp)
        omega) hx hc)
/-- a star is no sum of those ahead of it -/
theorem star_new {n : Nat} {ts : Ties} (W : Web n ts) {j : Nat} (hj : j + 1 < n) : ¬ Span (starsTo ts j) (star ts (j + 1)) := fun h => by
  obtain ⟨_, s, hs, hc⟩ := span_stars W h
  have q := W.joined' (fun p => !(s p ^^ decide (p = j + 1))) (by
    have e : s 0 = false := by
      cases e : s 0
      · rfl
      · have := hs 0 e
        omega
    show (!(s 0 ^^ decide (0 = j + 1))) = true
    rw [e]
    simp) (fun k hk => by
    have h1 := hc k hk
    rw [star_sel hk, inc_xor W hk] at h1
    show (!(s (aOf ts k) ^^ decide (aOf ts k = j + 1))) = (!(s (bOf ts k) ^^ decide (bOf ts k = j + 1)))
    revert h1
    cases s (aOf ts k) <;> cases s (bOf ts k) <;> cases decide (aOf ts k = j + 1) <;> cases decide (bOf ts k = j + 1) <;> simp) (j + 1) hj
  have e : s (j + 1) = false := by
    cases e : s (j + 1)
    · rfl
    · have := hs _ e
      omega
  have q' : (!(s (j + 1) ^^ decide (j + 1 = j + 1))) = true := q
  rw [e] at q'
  simp at q'

/-! ### parity_rows -/
abbrev Pr := Nat × Nat
def parLeft (pairs : List Pr) (c : Pr) : Pr := pairs.foldl (fun c q => if c.1 ^^^ q.1 < c.1 then (c.1 ^^^ q.1, c.2 ^^^ q.2) else c) c
def parStep (ts : Ties) (st : List Pr × List Nat) (p : Nat) : List Pr × List Nat :=
  if (parLeft st.1 (lotPar ts (starAt ts p), star ts p)).1 = 0 then (st.1, st.2 ++ [(parLeft st.1 (lotPar ts (starAt ts p), star ts p)).2]) else (st.1 ++ [parLeft st.1 (lotPar ts (starAt ts p), star ts p)], st.2)
def parTo (ts : Ties) : Nat → List Pr × List Nat
  | 0 => ([], [])
  | j + 1 => parStep ts (parTo ts j) (j + 1)
def parRows (n : Nat) (ts : Ties) : List Nat := (parTo ts (n - 1)).2
theorem xor_lt_iff {p o : Nat} (ho : o ≠ 0) : (p ^^^ o < p) ↔ p.testBit o.log2 = true := by
  have above : ∀ k, o.log2 < k → (p ^^^ o).testBit k = p.testBit k := fun k hk => by
    rw [Nat.testBit_xor, testBit_of_lt (lt_log2 (a := o)) hk]; simp
  constructor
  · intro h
    cases e : p.testBit o.log2
    · have := lt_of_testBit o.log2 (x := p) (y := p ^^^ o) e (by rw [Nat.testBit_xor, e, testBit_log2 ho]; rfl) (fun k hk => (above k hk).symm)
      omega
    · rfl
  · intro e
    exact lt_of_testBit o.log2 (by rw [Nat.testBit_xor, e, testBit_log2 ho]; rfl) e above
/-- the pairs' parities: each one's greatest figure stands in none behind -/
def Tri (os : List Nat) : Prop := os.Pairwise fun a b => b.testBit a.log2 = false
theorem tri_zero : ∀ {os : List Nat}, (∀ o ∈ os, o ≠ 0) → Tri os → ∀ {x : Nat}, Span os x → (∀ o ∈ os, x.testBit o.log2 = false) → x = 0
  | [], _, _, x, h, _ => span_nil h
  | o :: os, h0, T, x, h, hx => by
    obtain ⟨t1, t2⟩ := List.pairwise_cons.mp T
    have z : ∀ y, Span os y → y.testBit o.log2 = false := fun y hy =>
      span_ind (C := fun y => y.testBit o.log2 = false) (Nat.zero_testBit _) (fun a b ha hb => by rw [Nat.testBit_xor, ha, hb]; rfl) t1 hy
    rcases span_cons h with h | h
    · exact tri_zero (fun a ha => h0 a (List.mem_cons_of_mem _ ha)) t2 h fun a ha => hx a (List.mem_cons_of_mem _ ha)
    · have q := z _ h
      rw [Nat.testBit_xor, hx o List.mem_cons_self, testBit_log2 (h0 o List.mem_cons_self)] at q
      cases q
theorem parLeft_cons (q : Pr) (pairs : List Pr) (c : Pr) : parLeft (q :: pairs) c = parLeft pairs (if c.1 ^^^ q.1 < c.1 then (c.1 ^^^ q.1, c.2 ^^^ q.2) else c) := rfl
theorem parLeft_out : ∀ {pairs : List Pr} {c : Pr} {t : Nat}, (∀ q ∈ pairs, q.1.testBit t = false) → (parLeft pairs c).1.testBit t = c.1.testBit t
  | [], _, _, _ => rfl
  | q :: pairs, c, t, h => by
    rw [parLeft_cons, parLeft_out fun r hr => h r (List.mem_cons_of_mem _ hr)]
    split
    · show (c.1 ^^^ q.1).testBit t = _
      rw [Nat.testBit_xor, h q List.mem_cons_self]; simp
    · rfl
theorem parLeft_in : ∀ {pairs : List Pr} {c : Pr}, (∀ q ∈ pairs, q.1 ≠ 0) → Tri (pairs.map (·.1)) → ∀ q ∈ pairs, (parLeft pairs c).1.testBit q.1.log2 = false
  | [], _, _, _, _, h => by cases h
  | q :: pairs, c, h0, T, r, hr => by
    obtain ⟨t1, t2⟩ := List.pairwise_cons.mp T
    have t1' : ∀ x ∈ pairs, x.1.testBit q.1.log2 = false := fun x hx => t1 _ (List.mem_map.mpr ⟨x, hx, rfl⟩)
    have hq := h0 q List.mem_cons_self
    rw [parLeft_cons]
    rcases List.mem_cons.mp hr with rfl | hr
    · rw [parLeft_out t1']
      by_cases e : c.1 ^^^ r.1 < c.1
      · rw [if_pos e]
        show (c.1 ^^^ r.1).testBit _ = false
        rw [Nat.testBit_xor, (xor_lt_iff hq).mp e, testBit_log2 hq]; rfl
      · rw [if_neg e]
        have := fun z => e ((xor_lt_iff hq).mpr z)
        simpa using this
    · exact parLeft_in (fun x hx => h0 x (List.mem_cons_of_mem _ hx)) t2 r hr
/-- what is taken off is a sum of pairs -/
theorem parLeft_span {n : Nat} {ts : Ties} (W : Web n ts) : ∀ (pairs : List Pr) (c : Pr), (∀ q ∈ pairs, q.1 = Dd ts q.2) → c.1 = Dd ts c.2 → (parLeft pairs c).1 = Dd ts (parLeft pairs c).2 ∧ Span (pairs.map (·.2)) (c.2 ^^^ (parLeft pairs c).2)
  | [], c, _, hc => ⟨hc, by show Span [] (c.2 ^^^ c.2); rw [Nat.xor_self]; exact .zero⟩
  | q :: pairs, c, h, hc => by
    rw [parLeft_cons]
    have hq := h q List.mem_cons_self
    have h' := fun x hx => h x (List.mem_cons_of_mem q hx)
    by_cases e : c.1 ^^^ q.1 < c.1
    · rw [if_pos e]
      obtain ⟨i1, i2⟩ := parLeft_span W pairs (c.1 ^^^ q.1, c.2 ^^^ q.2) h' (by show c.1 ^^^ q.1 = Dd ts (c.2 ^^^ q.2); rw [Dd_xor W, hc, hq])
      refine ⟨i1, ?_⟩
      have i3 := Span.add (span_mono (M := (q :: pairs).map (·.2)) (fun a ha => List.mem_cons_of_mem _ ha) i2) (a := q.2) (by simp)
      have e2 : ∀ z : Nat, c.2 ^^^ q.2 ^^^ z ^^^ q.2 = c.2 ^^^ z := fun z => by rw [Nat.xor_assoc c.2, Nat.xor_comm q.2, ← Nat.xor_assoc, xor_cancel]
      have i4 : Span ((q :: pairs).map (·.2)) (c.2 ^^^ q.2 ^^^ (parLeft pairs (c.1 ^^^ q.1, c.2 ^^^ q.2)).2 ^^^ q.2) := i3
      rw [e2] at i4
      exact i4
    · rw [if_neg e]
      obtain ⟨i1, i2⟩ := parLeft_span W pairs c h' hc
      exact ⟨i1, span_mono (fun a ha => List.mem_cons_of_mem _ ha) i2⟩
structure ParInv (ts : Ties) (j : Nat) (st : List Pr × List Nat) : Prop where
  a1 : ∀ q ∈ st.1, Span (starsTo ts j) q.2 ∧ q.1 = Dd ts q.2 ∧ q.1 ≠ 0
  b1 : ∀ f ∈ st.2, Span (starsTo ts j) f ∧ Dd ts f = 0
  c1 : ∀ a ∈ starsTo ts j, Span (st.1.map (·.2) ++ st.2) a
  t1 : Tri (st.1.map (·.1))
  i1 : ∀ y, Span (st.1.map (·.2)) y → Dd ts y = 0 → y = 0
  f1 : Indep st.2
  l1 : st.2.length ≤ j
  l2 : st.1.length ≤ j
theorem parTo_ok {n : Nat} {ts : Ties} (W : Web n ts) : ∀ j, j + 1 ≤ n → ParInv ts j (parTo ts j)
  | 0, _ => ⟨(fun q h => by cases h), (fun q h => by cases h), (fun a h => by cases h), List.Pairwise.nil, fun y h _ => span_nil h, indep_nil, Nat.le_refl _, Nat.le_refl _⟩
  | j + 1, hj => by
    have I := parTo_ok W j (by omega)
    have h1 : ∀ q ∈ (parTo ts j).1, q.1 = Dd ts q.2 := fun q hq => (I.a1 q hq).2.1
    have h0 : ∀ q ∈ (parTo ts j).1, q.1 ≠ 0 := fun q hq => (I.a1 q hq).2.2
    have L := parLeft_span W (parTo ts j).1 (lotPar ts (starAt ts (j + 1)), star ts (j + 1)) h1 (Dd_star ts (j + 1)).symm
    have Lin := parLeft_in (c := (lotPar ts (starAt ts (j + 1)), star ts (j + 1))) h0 I.t1
    revert L Lin
    show _ → _ → ParInv ts (j + 1) (parStep ts (parTo ts j) (j + 1))
    unfold parStep
    generalize hc : parLeft (parTo ts j).1 (lotPar ts (starAt ts (j + 1)), star ts (j + 1)) = c
    intro L Lin
    obtain ⟨L1, L2⟩ := L
    have L2' : Span ((parTo ts j).1.map (·.2)) (star ts (j + 1) ^^^ c.2) := L2
    have up : ∀ {x}, Span (starsTo ts j) x → Span (starsTo ts (j + 1)) x := fun h => by rw [starsTo_succ]; exact span_mono (fun a ha => List.mem_append_left _ ha) h
    have pairsStar : ∀ {x}, Span ((parTo ts j).1.map (·.2)) x → Span (starsTo ts j) x := fun h => span_sub (fun a ha => by
      obtain ⟨q, hq, rfl⟩ := List.mem_map.mp ha
      exact (I.a1 q hq).1) h
    have foundStar : ∀ {x}, Span (parTo ts j).2 x → Span (starsTo ts j) x := fun h => span_sub (fun a ha => (I.b1 a ha).1) h
    have cStar : Span (starsTo ts (j + 1)) c.2 := by
      have q := span_xor (span_mem (L := starsTo ts (j + 1)) (a := star ts (j + 1)) (by rw [starsTo_succ]; simp)) (up (pairsStar L2'))
      rw [← Nat.xor_assoc, Nat.xor_self, Nat.zero_xor] at q
      exact q
    have cNew : ¬ Span (starsTo ts j) c.2 := fun h => by
      have q := span_xor (pairsStar L2') h
      rw [xor_cancel] at q
      exact star_new W (by omega) q
    have starOf : ∀ M : List Nat, (∀ a ∈ (parTo ts j).1.map (·.2), a ∈ M) → (∀ a ∈ (parTo ts j).2, a ∈ M) → c.2 ∈ M → ∀ a ∈ starsTo ts (j + 1), Span M a := fun M m1 m2 m3 a ha => by
      rw [starsTo_succ] at ha
      rcases List.mem_append.mp ha with ha | ha
      · exact span_mono (fun b hb => (List.mem_append.mp hb).elim (m1 b) (m2 b)) (I.c1 a ha)
      · rw [List.mem_singleton.mp ha]
        have q := span_xor (span_mono m1 L2') (span_mem m3)
        rw [xor_cancel] at q
        exact q
    by_cases e : c.1 = 0
    · rw [if_pos e]
      refine ⟨fun q hq => ⟨up (I.a1 q hq).1, (I.a1 q hq).2⟩, fun f hf => ?_, ?_, I.t1, I.i1, indep_snoc I.f1 fun h => cNew (foundStar h), ?_, ?_⟩
      · rcases List.mem_append.mp hf with hf | hf
        · exact ⟨up (I.b1 f hf).1, (I.b1 f hf).2⟩
        · rw [List.mem_singleton.mp hf]
          exact ⟨cStar, by rw [← L1]; exact e⟩
      · exact starOf _ (fun a ha => List.mem_append_left _ ha) (fun a ha => List.mem_append_right _ (List.mem_append_left _ ha)) (List.mem_append_right _ (List.mem_append_right _ (List.mem_singleton.mpr rfl)))
      · have := I.l1
        show ((parTo ts j).2 ++ [c.2]).length ≤ _
        simp; omega
      · have := I.l2
        show (parTo ts j).1.length ≤ _
        omega
    · rw [if_neg e]
      refine ⟨fun q hq => ?_, fun f hf => ⟨up (I.b1 f hf).1, (I.b1 f hf).2⟩, ?_, ?_, fun y hy hd => ?_, I.f1, ?_, ?_⟩
      · rcases List.mem_append.mp hq with hq | hq
        · exact ⟨up (I.a1 q hq).1, (I.a1 q hq).2⟩
        · rw [List.mem_singleton.mp hq]
          exact ⟨cStar, L1, e⟩
      · refine starOf _ (fun a ha => List.mem_append_left _ ?_) (fun a ha => List.mem_append_right _ ha) (List.mem_append_left _ ?_)
        · show a ∈ ((parTo ts j).1 ++ [c]).map (·.2)
          rw [List.map_append]; exact List.mem_append_left _ ha
        · show c.2 ∈ ((parTo ts j).1 ++ [c]).map (·.2)
          rw [List.map_append]; simp
      · show Tri (((parTo ts j).1 ++ [c]).map (·.1))
        rw [List.map_append]
        refine List.pairwise_append.mpr ⟨I.t1, List.pairwise_singleton _ _, fun a ha b hb => ?_⟩
        obtain ⟨q, hq, rfl⟩ := List.mem_map.mp ha
        rw [List.mem_singleton.mp hb]
        exact Lin q hq
      · have hy' : Span ((parTo ts j).1.map (·.2) ++ [c.2]) y := by
          have e : ((parTo ts j).1 ++ [c]).map (·.2) = (parTo ts j).1.map (·.2) ++ [c.2] := by rw [List.map_append]; rfl
          rw [← e]; exact hy
        rcases span_snoc hy' with h | h
        · exact I.i1 y h hd
        · exfalso
          -- Dd of the rest is c's own
          have d1 : Dd ts (y ^^^ c.2) = c.1 := by rw [Dd_xor W, hd, Nat.zero_xor, L1]
          have d2 : ∀ z, Span ((parTo ts j).1.map (·.2)) z → Span ((parTo ts j).1.map (·.1)) (Dd ts z) := fun z hz => by
            refine span_ind (C := fun z => Span ((parTo ts j).1.map (·.1)) (Dd ts z)) ?_ ?_ ?_ hz
            · have e0 : Dd ts 0 = 0 := (Dd_zero W 0).mpr fun p => xs_false _ fun k _ => by rw [sel_zero]; rfl
              rw [e0]; exact .zero
            · intro a b ha hb
              rw [Dd_xor W]; exact span_xor ha hb
            · intro a ha
              obtain ⟨q, hq, rfl⟩ := List.mem_map.mp ha
              rw [← h1 q hq]
              exact span_mem (List.mem_map.mpr ⟨q, hq, rfl⟩)
          have d3 := d2 _ h
          rw [d1] at d3
          refine e (tri_zero ?_ I.t1 d3 ?_)
          · intro o ho
            obtain ⟨q, hq, rfl⟩ := List.mem_map.mp ho
            exact h0 q hq
          · intro o ho
            obtain ⟨q, hq, rfl⟩ := List.mem_map.mp ho
            exact Lin q hq
      · have := I.l1
        show (parTo ts j).2.length ≤ _
        omega
      · have := I.l2
        show ((parTo ts j).1 ++ [c]).length ≤ _
        simp; omega
/-- parity_rows finds an independent list that makes just the both-even lots -/
theorem parRows_ok {n : Nat} {ts : Ties} (W : Web n ts) : (∀ x, Span (parRows n ts) x ↔ V ts x) ∧ Indep (parRows n ts) ∧ (parRows n ts).length ≤ n - 1 := by
  have hn := W.pos
  have I := parTo_ok W (n - 1) (by omega)
  refine ⟨fun x => ⟨fun h => ?_, fun h => ?_⟩, I.f1, I.l1⟩
  · have q : Span (starsTo ts (n - 1)) x ∧ Dd ts x = 0 := by
      refine span_ind (C := fun x => Span (starsTo ts (n - 1)) x ∧ Dd ts x = 0) ?_ ?_ I.b1 h
      · exact ⟨.zero, (Dd_zero W 0).mpr fun p => xs_false _ fun k _ => by rw [sel_zero]; rfl⟩
      · rintro x y ⟨h1, h2⟩ ⟨h3, h4⟩
        exact ⟨span_xor h1 h3, by rw [Dd_xor W, h2, h4]; rfl⟩
    obtain ⟨q1, s, _, q2⟩ := span_stars W q.1
    exact ⟨q1, ⟨s, q2⟩, (Dd_zero W x).mp q.2⟩
  · obtain ⟨hx, ⟨s, hs⟩, he⟩ := h
    have z : Span (starsTo ts (n - 1)) x := by
      refine stars_span W (n - 1) (s := fun p => decide (p < n) && (s p ^^ s 0)) (fun p hp => ?_) hx fun k hk => ?_
      · have hp' : (decide (p < n) && (s p ^^ s 0)) = true := hp
        rw [Bool.and_eq_true] at hp'
        have h1 := of_decide_eq_true hp'.1
        have h2 : p ≠ 0 := fun e => by
          subst e
          have := hp'.2
          simp at this
        omega
      · rw [hs k hk]
        have := W.tie hk
        show _ = ((decide (aOf ts k < n) && (s (aOf ts k) ^^ s 0)) ^^ (decide (bOf ts k < n) && (s (bOf ts k) ^^ s 0)))
        rw [decide_eq_true (show aOf ts k < n by omega), decide_eq_true this.2]
        cases s (aOf ts k) <;> cases s (bOf ts k) <;> cases s 0 <;> rfl
    have z2 : Span ((parTo ts (n - 1)).1.map (·.2) ++ (parTo ts (n - 1)).2) x := span_sub I.c1 z
    obtain ⟨y, hy1, hy2⟩ := span_app z2
    have d : Dd ts (x ^^^ y) = 0 := span_ind (C := fun z => Dd ts z = 0) ((Dd_zero W 0).mpr fun p => xs_false _ fun k _ => by rw [sel_zero]; rfl) (fun a b ha hb => by rw [Dd_xor W, ha, hb]; rfl) (fun a ha => (I.b1 a ha).2) hy2
    have dx : Dd ts x = 0 := (Dd_zero W x).mpr he
    rw [Dd_xor W, dx, Nat.zero_xor] at d
    have y0 := I.i1 y hy1 d
    rw [y0, Nat.xor_zero] at hy2
    exact hy2
end BE
end
/-! ## M4 -/
section
set_option linter.all false
namespace BE
theorem RK.keys {ps : List (Nat × Nat)} (R : RK ps) : (ps.map (·.1)).Nodup := by
  show (ps.map (·.1)).Pairwise (· ≠ ·)
  rw [List.pairwise_map]
  refine List.Pairwise.imp_of_mem ?_ R.own
  intro p q hp hq h e
  rw [(R.head p hp).2, (R.head q hq).2] at e
  have t := h.1
  rw [← two_pow_inj e, testBit_log2 (R.head p hp).1] at t
  cases t
theorem span_lt {m : Nat} {L : List Nat} (h : ∀ a ∈ L, a < 2 ^ m) {x : Nat} (hx : Span L x) : x < 2 ^ m :=
  span_ind (C := fun x => x < 2 ^ m) (Nat.two_pow_pos m) (fun _ _ a b => Nat.xor_lt_two_pow a b) h hx
theorem clear_lt {m : Nat} {ps : List (Nat × Nat)} (h : ∀ a ∈ ps.map (·.2), a < 2 ^ m) {b : Nat} (hb : b < 2 ^ m) : clear ps b < 2 ^ m := by
  have h1 := span_lt h (clear_span ps b)
  have h2 := Nat.xor_lt_two_pow hb h1
  rw [← Nat.xor_assoc, Nat.xor_self, Nat.zero_xor] at h2
  exact h2
theorem redAll_lt {m : Nat} {rows : List Nat} (h : ∀ a ∈ rows, a < 2 ^ m) : ∀ a ∈ (redAll rows).map (·.2), a < 2 ^ m := fun a ha =>
  span_lt h ((redAll_span rows a).mp (span_mem ha))
theorem clear_snoc (ps : List (Nat × Nat)) (p : Nat × Nat) (b : Nat) : clear (ps ++ [p]) b = if clear ps b &&& p.1 ≠ 0 then clear ps b ^^^ p.2 else clear ps b := by
  unfold clear; rw [List.foldl_append]; rfl
end BE
end
/-! ## M5 -/
section
set_option linter.all false
namespace BE
/-! ### first_tree -/
def treeStep (ts : Ties) (st : List Nat × List Nat) (k : Nat) : List Nat × List Nat :=
  if st.2.getD (aOf ts k) 0 = st.2.getD (bOf ts k) 0 then st
  else (st.1 ++ [k], st.2.map fun h => if h = st.2.getD (bOf ts k) 0 then st.2.getD (aOf ts k) 0 else h)
def treeTo (n : Nat) (ts : Ties) : Nat → List Nat × List Nat
  | 0 => ([], List.range n)
  | k + 1 => treeStep ts (treeTo n ts k) k
def treeOf (n : Nat) (ts : Ties) : List Nat := (treeTo n ts ts.length).1
structure TreeInv (n : Nat) (ts : Ties) (j : Nat) (st : List Nat × List Nat) : Prop where
  len : st.2.length = n
  lt : ∀ t ∈ st.1, t < j
  few : st.1.length ≤ j
  same : ∀ k, k < j → st.2.getD (aOf ts k) 0 = st.2.getD (bOf ts k) 0
  closed : ∀ S : Nat → Bool, (∀ t ∈ st.1, S (aOf ts t) = S (bOf ts t)) → ∀ p q, p < n → q < n → st.2.getD p 0 = st.2.getD q 0 → S p = S q
  side : ∀ x : Nat → Bool, ∃ s : Nat → Bool, ∀ t ∈ st.1, x t = (s (aOf ts t) ^^ s (bOf ts t))
theorem getD_map {L : List Nat} {f : Nat → Nat} {p : Nat} (h : p < L.length) : (L.map f).getD p 0 = f (L.getD p 0) := by
  simp [List.getD, h]
theorem getD_range {n p : Nat} (h : p < n) : (List.range n).getD p 0 = p := by simp [List.getD, h]
theorem treeTo_ok {n : Nat} {ts : Ties} (W : Web n ts) : ∀ j, j ≤ ts.length → TreeInv n ts j (treeTo n ts j)
  | 0, _ => {
    len := List.length_range
    lt := fun t ht => by cases ht
    few := Nat.le_refl _
    same := fun k hk => absurd hk (Nat.not_lt_zero _)
    closed := fun S _ p q hp hq e => by
      have e' : (List.range n).getD p 0 = (List.range n).getD q 0 := e
      rw [getD_range hp, getD_range hq] at e'
      rw [e']
    side := fun x => ⟨fun _ => false, fun t ht => by cases ht⟩ }
  | j + 1, hj => by
    have I := treeTo_ok W j (by omega)
    have ht := W.tie (k := j) (by omega)
    show TreeInv n ts (j + 1) (treeStep ts (treeTo n ts j) j)
    generalize treeTo n ts j = st at I
    obtain ⟨fd, hm⟩ := st
    have hl : hm.length = n := I.len
    unfold treeStep
    by_cases c : hm.getD (aOf ts j) 0 = hm.getD (bOf ts j) 0
    · rw [if_pos c]
      refine { len := I.len, lt := fun t h => Nat.lt_succ_of_lt (I.lt t h), few := Nat.le_succ_of_le I.few, same := fun k hk => ?_, closed := I.closed, side := I.side }
      rcases Nat.lt_succ_iff_lt_or_eq.mp hk with h | h
      · exact I.same k h
      · rw [h]; exact c
    · rw [if_neg c]
      have g : ∀ p, p < n → (hm.map fun h => if h = hm.getD (bOf ts j) 0 then hm.getD (aOf ts j) 0 else h).getD p 0 = if hm.getD p 0 = hm.getD (bOf ts j) 0 then hm.getD (aOf ts j) 0 else hm.getD p 0 := fun p hp => getD_map (f := fun h => if h = hm.getD (bOf ts j) 0 then hm.getD (aOf ts j) 0 else h) (by omega)
      refine { len := by rw [List.length_map]; exact hl, lt := fun t h => ?_, few := by have := I.few; simp at this ⊢; omega, same := fun k hk => ?_, closed := fun S hS p q hp hq e => ?_, side := fun x => ?_ }
      · rcases List.mem_append.mp h with h | h
        · exact Nat.lt_succ_of_lt (I.lt t h)
        · rw [List.mem_singleton.mp h]; exact Nat.lt_succ_self _
      · have hk2 := W.tie (k := k) (by omega)
        show (hm.map _).getD _ 0 = (hm.map _).getD _ 0
        rw [g _ (by omega), g _ (by omega)]
        rcases Nat.lt_succ_iff_lt_or_eq.mp hk with h | h
        · have e : hm.getD (aOf ts k) 0 = hm.getD (bOf ts k) 0 := I.same k h
          rw [e]
        · subst h
          rw [if_neg c, if_pos rfl]
      · have S1 : ∀ t ∈ fd, S (aOf ts t) = S (bOf ts t) := fun t h => hS t (List.mem_append_left _ h)
        have S2 : S (aOf ts j) = S (bOf ts j) := hS j (List.mem_append_right _ List.mem_cons_self)
        have C := I.closed S S1
        have e' : (hm.map fun h => if h = hm.getD (bOf ts j) 0 then hm.getD (aOf ts j) 0 else h).getD p 0 = (hm.map fun h => if h = hm.getD (bOf ts j) 0 then hm.getD (aOf ts j) 0 else h).getD q 0 := e
        rw [g _ hp, g _ hq] at e'
        by_cases c1 : hm.getD p 0 = hm.getD (bOf ts j) 0 <;> by_cases c2 : hm.getD q 0 = hm.getD (bOf ts j) 0
        · rw [C p _ hp (by omega) c1, C q _ hq (by omega) c2]
        · rw [if_pos c1, if_neg c2] at e'
          rw [C p _ hp (by omega) c1, ← S2]
          exact C _ _ (by omega) hq e'
        · rw [if_neg c1, if_pos c2] at e'
          rw [C q _ hq (by omega) c2, ← S2]
          exact C _ _ hp (by omega) e'
        · rw [if_neg c1, if_neg c2] at e'
          exact C _ _ hp hq e'
      · obtain ⟨s, hs⟩ := I.side x
        by_cases h : x j = (s (aOf ts j) ^^ s (bOf ts j))
        · refine ⟨s, fun t ht => ?_⟩
          rcases List.mem_append.mp ht with ht | ht
          · exact hs t ht
          · rw [List.mem_singleton.mp ht]; exact h
        · refine ⟨fun p => s p ^^ decide (hm.getD p 0 = hm.getD (bOf ts j) 0), fun t ht => ?_⟩
          rcases List.mem_append.mp ht with ht | ht
          · have e := I.same t (I.lt t ht)
            have e' : hm.getD (aOf ts t) 0 = hm.getD (bOf ts t) 0 := e
            rw [hs t ht]
            show _ = ((s (aOf ts t) ^^ decide (hm.getD (aOf ts t) 0 = hm.getD (bOf ts j) 0)) ^^ (s (bOf ts t) ^^ decide (hm.getD (bOf ts t) 0 = hm.getD (bOf ts j) 0)))
            rw [e']
            generalize s (aOf ts t) = u
            generalize s (bOf ts t) = v
            generalize decide (hm.getD (bOf ts t) 0 = hm.getD (bOf ts j) 0) = d
            revert u v d; decide
          · rw [List.mem_singleton.mp ht]
            show _ = ((s (aOf ts j) ^^ decide (hm.getD (aOf ts j) 0 = hm.getD (bOf ts j) 0)) ^^ (s (bOf ts j) ^^ decide (hm.getD (bOf ts j) 0 = hm.getD (bOf ts j) 0)))
            rw [decide_eq_false c, decide_eq_true (rfl : hm.getD (bOf ts j) 0 = hm.getD (bOf ts j) 0)]
            revert h
            generalize x j = y
            generalize s (aOf ts j) = u
            generalize s (bOf ts j) = v
            revert y u v; decide
/-- what is closed under the tree's ties is all or nothing -/
theorem tree_all {n : Nat} {ts : Ties} (W : Web n ts) {S : Nat → Bool} (hS : ∀ t ∈ treeOf n ts, S (aOf ts t) = S (bOf ts t)) {p q : Nat} (hp : p < n) (hq : q < n) : S p = S q := by
  have I := treeTo_ok W ts.length (Nat.le_refl _)
  have h : ∀ r, r < n → (treeTo n ts ts.length).2.getD r 0 = (treeTo n ts ts.length).2.getD 0 0 := fun r hr => by
    have z := W.joined' (fun r => decide ((treeTo n ts ts.length).2.getD r 0 = (treeTo n ts ts.length).2.getD 0 0)) (decide_eq_true rfl) (fun k hk => by
      show decide _ = decide _
      rw [I.same k hk]) r hr
    exact of_decide_eq_true z
  exact I.closed S hS p q hp hq ((h p hp).trans (h q hq).symm)
/-- the sum over a way of a cut's ties -/
def dlt (ts : Ties) (s : Nat → Bool) (t : Nat) : Bool := s (aOf ts t) ^^ s (bOf ts t)
/-- a way of tree ties from one to other -/
structure Way (n : Nat) (ts : Ties) (one other : Nat) (w : List Nat) : Prop where
  tree : ∀ t ∈ w, t ∈ treeOf n ts
  ends : ∀ s : Nat → Bool, xl w (dlt ts s) = (s one ^^ s other)
theorem Way.nil (n : Nat) (ts : Ties) (p : Nat) : Way n ts p p [] := ⟨(fun t h => by cases h), fun s => (Bool.xor_self _).symm⟩
theorem Way.snoc {n : Nat} {ts : Ties} {one p g t : Nat} {w : List Nat} (H : Way n ts one p w) (ht : t ∈ treeOf n ts) (h : (aOf ts t = p ∧ bOf ts t = g) ∨ (aOf ts t = g ∧ bOf ts t = p)) : Way n ts one g (w ++ [t]) := by
  refine ⟨fun u hu => ?_, fun s => ?_⟩
  · rcases List.mem_append.mp hu with hu | hu
    · exact H.tree u hu
    · rw [List.mem_singleton.mp hu]; exact ht
  · rw [xl_app, H.ends]
    have e : xl [t] (dlt ts s) = (s p ^^ s g) := by
      show (dlt ts s t ^^ false) = _
      unfold dlt
      rcases h with ⟨h1, h2⟩ | ⟨h1, h2⟩
      · rw [h1, h2, Bool.xor_false]
      · rw [h1, h2, Bool.xor_false, Bool.xor_comm]
    rw [e]
    generalize s one = a
    generalize s p = b
    generalize s g = c
    revert a b c; decide
structure Round (n : Nat) (ts : Ties) (c : Nat) (r : List Nat) : Prop where
  ex : ∃ w, r.Perm (c :: w) ∧ Way n ts (aOf ts c) (bOf ts c) w
structure Rounds (n : Nat) (ts : Ties) (j : Nat) (rs : List (List Nat)) : Prop where
  each : ∀ r ∈ rs, ∃ c, c < ts.length ∧ Round n ts c r
  all : ∀ c, c < j → c ∉ treeOf n ts → ∃ r ∈ rs, Round n ts c r
/-- a lot is a cut iff it meets each round evenly -/
theorem Rounds.cut {n : Nat} {ts : Ties} (W : Web n ts) {rs : List (List Nat)} (R : Rounds n ts ts.length rs) (x : Nat → Bool) : (∀ r ∈ rs, xl r x = false) ↔ ∃ s, Cut ts s x := by
  constructor
  · intro h
    obtain ⟨s, hs⟩ := (treeTo_ok W ts.length (Nat.le_refl _)).side x
    refine ⟨s, fun c hc => ?_⟩
    by_cases ht : c ∈ treeOf n ts
    · exact hs c ht
    · obtain ⟨r, hr, ⟨w, p, wy⟩⟩ := R.all c hc ht
      have h1 := h r hr
      rw [xl_perm p, xl_cons, xl_congr (g := dlt ts s) (fun t hw => hs t (wy.tree t hw)), wy.ends] at h1
      revert h1
      generalize x c = y
      generalize s (aOf ts c) = u
      generalize s (bOf ts c) = v
      revert y u v; decide
  · intro ⟨s, hs⟩ r hr
    obtain ⟨c, hc, ⟨w, p, wy⟩⟩ := R.each r hr
    have lt : ∀ t ∈ w, t < ts.length := fun t ht => (treeTo_ok W ts.length (Nat.le_refl _)).lt t (wy.tree t ht)
    rw [xl_perm p, xl_cons, xl_congr (g := dlt ts s) (fun t hw => hs t (lt t hw)), wy.ends, hs c hc]
    exact Bool.xor_self _
/-! ### counting what is still out -/
def cnt : Nat → (Nat → Bool) → Nat
  | 0, _ => 0
  | k + 1, f => cnt k f + if f k then 1 else 0
theorem cnt_congr : ∀ {n : Nat} {f g : Nat → Bool}, (∀ k, k < n → f k = g k) → cnt n f = cnt n g
  | 0, _, _, _ => rfl
  | n + 1, f, g, h => by
    unfold cnt
    rw [cnt_congr (fun k hk => h k (Nat.lt_succ_of_lt hk)), h n (Nat.lt_succ_self _)]
theorem cnt_le : ∀ (n : Nat) (f : Nat → Bool), cnt n f ≤ n
  | 0, _ => Nat.le_refl _
  | n + 1, f => by
    unfold cnt
    have := cnt_le n f
    split <;> omega
theorem cnt_off : ∀ {n : Nat} {f : Nat → Bool} {g : Nat}, g < n → f g = true → cnt n (fun k => f k && !decide (k = g)) + 1 = cnt n f
  | 0, _, _, h, _ => absurd h (Nat.not_lt_zero _)
  | n + 1, f, g, h, hf => by
    unfold cnt
    by_cases e : g = n
    · subst e
      have e1 : cnt g (fun k => f k && !decide (k = g)) = cnt g f := cnt_congr fun k hk => by
        have : ¬ k = g := by omega
        simp [this]
      rw [e1, hf]
      simp
    · have ih := cnt_off (n := n) (f := f) (g := g) (by omega) hf
      have : ¬ n = g := fun z => e z.symm
      simp only [this, decide_false, Bool.not_false, Bool.and_true]
      omega
end BE
end
/-! ## M6 -/
section
set_option linter.all false
namespace BE
/-- the first tie of a lot told by bits -/
theorem lot_first {m b : Nat} (h0 : b ≠ 0) (hb : b < 2 ^ m) : ∃ r, lotOfBits m b = (m - 1 - b.log2) :: r := by
  have hl : b.log2 < m := (Nat.log2_lt h0).mpr hb
  have hk : m - 1 - b.log2 ∈ lotOfBits m b := by
    rw [mem_lotOfBits]
    refine ⟨by omega, ?_⟩
    unfold sel
    rw [show m - 1 - (m - 1 - b.log2) = b.log2 by omega]
    exact testBit_log2 h0
  have hr := lotOfBits_rise m b
  cases e : lotOfBits m b with
  | nil => rw [e] at hk; cases hk
  | cons h r =>
    rw [e] at hk hr
    have hh : h ∈ lotOfBits m b := by rw [e]; exact List.mem_cons_self
    obtain ⟨h1, h2⟩ := mem_lotOfBits.mp hh
    have h3 : m - 1 - h ≤ b.log2 := by
      rcases Nat.lt_or_ge b.log2 (m - 1 - h) with z | z
      · have := testBit_of_lt (x := b) (t := b.log2 + 1) (k := m - 1 - h) lt_log2 z
        unfold sel at h2
        rw [this] at h2; cases h2
      · exact z
    rcases List.mem_cons.mp hk with z | z
    · exact ⟨r, by rw [z]⟩
    · have := (List.pairwise_cons.mp hr).1 _ z
      omega
/-- the figures of the number -/
theorem num_bit {bs : List Nat} (E : Ech bs.reverse) {i j a : Nat} (hj : bs[j]? = some a) : (nb bs.reverse i).testBit a.log2 = i.testBit (bs.length - 1 - j) := by
  obtain ⟨hl, e⟩ := List.getElem?_eq_some_iff.mp hj
  have hr : bs.reverse[bs.length - 1 - j]? = some a := by
    rw [List.getElem?_reverse (by omega), show bs.length - 1 - (bs.length - 1 - j) = j by omega]
    exact hj
  have h0 : a ≠ 0 := E.pos a (List.mem_of_getElem? hr)
  exact nb_bit bs.reverse (bs.length - 1 - j) a a.log2 i hr (testBit_log2 h0) fun k b hb hne => E.own k _ b a hb hr hne
theorem half_step (i b j : Nat) (h : j < b) : i / 2 ^ (b - (j + 1)) = 2 * (i / 2 ^ (b - j)) + (if i.testBit (b - 1 - j) then 1 else 0) := by
  have e : b - j = (b - (j + 1)) + 1 := by omega
  have e2 : b - 1 - j = b - (j + 1) := by omega
  rw [e, Nat.pow_succ, ← Nat.div_div_eq_div_mul, e2, Nat.testBit_eq_decide_div_mod_eq]
  generalize i / 2 ^ (b - (j + 1)) = y
  by_cases h : y % 2 = 1
  · rw [decide_eq_true h]; simp; omega
  · rw [decide_eq_false h]; simp; omega
end BE
end
/-! ## M7 -/
section
set_option linter.all false
namespace BE
/-- each place but 0 hangs on an earlier one: a web -/
theorem web_of {n : Nat} {ts : Ties} (h1 : 1 ≤ n) (h2 : ∀ t ∈ ts, t.1 < t.2 ∧ t.2 < n) (h3 : ∀ p, 1 ≤ p → p < n → ∃ t ∈ ts, t.1 < t.2 ∧ t.2 = p) : Web n ts := by
  refine ⟨h1, h2, fun S h0 hS p => ?_⟩
  induction p using Nat.strongRecOn with
  | _ p ih =>
    intro hp
    rcases Nat.eq_zero_or_pos p with z | z
    · rw [z]; exact h0
    · obtain ⟨t, ht, a, b⟩ := h3 p z hp
      rw [← b, ← hS t ht]
      exact ih t.1 (by omega) (by omega)
theorem two_ne {o k n : Nat} (ho : o < n) (hk : k + 1 < n) : (o + 1 + k) % n ≠ o := by
  intro h
  rcases Nat.lt_or_ge (o + 1 + k) n with z | z
  · rw [Nat.mod_eq_of_lt z] at h; omega
  · rw [Nat.mod_eq_sub_mod z, Nat.mod_eq_of_lt (by omega)] at h; omega
end BE
end
/-! ## M8 -/
section
set_option linter.all false
namespace BE
/-! ### the law's masks: tie k is bit k -/
abbrev tb (x : Nat) : Nat → Bool := fun k => x.testBit k
/-! #### rows and the turned mask -/
def valL : List Nat → Nat
  | [] => 0
  | b :: u => 2 ^ u.length * b + valL u
theorem valL_lt : ∀ {u : List Nat}, (∀ b ∈ u, b < 2) → valL u < 2 ^ u.length
  | [], _ => by simp [valL]
  | b :: u, h => by
    have h1 := valL_lt (u := u) fun c hc => h c (List.mem_cons_of_mem _ hc)
    have h2 := h b List.mem_cons_self
    show 2 ^ u.length * b + valL u < 2 ^ (u.length + 1)
    rw [Nat.pow_succ]
    have : 2 ^ u.length * b ≤ 2 ^ u.length * 1 := Nat.mul_le_mul_left _ (by omega)
    omega
theorem valL_bit : ∀ {u : List Nat}, (∀ b ∈ u, b < 2) → ∀ k, k < u.length → (valL u).testBit (u.length - 1 - k) = decide (u.getD k 0 = 1)
  | [], _, k, hk => absurd hk (Nat.not_lt_zero _)
  | b :: u, h, k, hk => by
    have h0 := fun c hc => h c (List.mem_cons_of_mem _ hc)
    have h1 := valL_lt (u := u) h0
    have h2 := h b List.mem_cons_self
    show (2 ^ u.length * b + valL u).testBit (u.length + 1 - 1 - k) = _
    rw [Nat.testBit_two_pow_mul_add _ h1]
    cases k with
    | zero =>
      rw [if_neg (by omega), show u.length + 1 - 1 - 0 - u.length = 0 by omega, Nat.testBit_zero]
      show _ = decide (b = 1)
      exact decide_eq_decide.mpr (by omega)
    | succ k =>
      have hk' : k < u.length := by simpa using hk
      rw [if_pos (by omega), show u.length + 1 - 1 - (k + 1) = u.length - 1 - k by omega, valL_bit h0 k hk']
      rfl
def rowOf (m x : Nat) : List Nat := (List.range m).map fun k => x / 2 ^ k % 2
theorem rowOf_len (m x : Nat) : (rowOf m x).length = m := by unfold rowOf; rw [List.length_map, List.length_range]
theorem rowOf_two {m x b : Nat} (h : b ∈ rowOf m x) : b < 2 := by
  obtain ⟨k, _, e⟩ := List.mem_map.mp h
  have := Nat.mod_lt (x / 2 ^ k) (show 0 < 2 by omega)
  omega
theorem rowOf_get {m x k : Nat} (h : k < m) : (rowOf m x).getD k 0 = x / 2 ^ k % 2 := by
  unfold rowOf
  simp [List.getD, h]
/-- the mask's ties as the package's bits -/
def rv (m x : Nat) : Nat := valL (rowOf m x)
theorem rv_lt (m x : Nat) : rv m x < 2 ^ m := by
  have := valL_lt (u := rowOf m x) fun _ => rowOf_two
  rw [rowOf_len] at this
  exact this
theorem rv_sel {m x k : Nat} (h : k < m) : sel m (rv m x) k = x.testBit k := by
  have := valL_bit (u := rowOf m x) (fun _ => rowOf_two) k (by rw [rowOf_len]; exact h)
  rw [rowOf_len, rowOf_get h] at this
  unfold sel rv
  rw [this, Nat.testBit_eq_decide_div_mod_eq]
theorem rv_tb {m x j : Nat} (h : j < m) : (rv m x).testBit j = x.testBit (m - 1 - j) := by
  have := rv_sel (m := m) (x := x) (k := m - 1 - j) (by omega)
  unfold sel at this
  rw [show m - 1 - (m - 1 - j) = j by omega] at this
  exact this
theorem eq_of_tb {m x y : Nat} (hx : x < 2 ^ m) (hy : y < 2 ^ m) (h : ∀ k, k < m → x.testBit k = y.testBit k) : x = y := by
  refine Nat.eq_of_testBit_eq fun k => ?_
  rcases Nat.lt_or_ge k m with z | z
  · exact h k z
  · rw [testBit_of_lt hx z, testBit_of_lt hy z]
theorem rv_rv {m x : Nat} (h : x < 2 ^ m) : rv m (rv m x) = x :=
  eq_of_tb (rv_lt m _) h fun k hk => by rw [rv_tb hk, rv_tb (by omega), show m - 1 - (m - 1 - k) = k by omega]
theorem rv_xor (m x y : Nat) : rv m (x ^^^ y) = rv m x ^^^ rv m y :=
  eq_of_tb (rv_lt m _) (Nat.xor_lt_two_pow (rv_lt m x) (rv_lt m y)) fun k hk => by rw [Nat.testBit_xor, rv_tb hk, rv_tb hk, rv_tb hk, Nat.testBit_xor]
theorem rv_zero (m : Nat) : rv m 0 = 0 := eq_of_tb (rv_lt m _) (Nat.two_pow_pos m) fun k hk => by rw [rv_tb hk, Nat.zero_testBit, Nat.zero_testBit]
theorem rv_inj {m x y : Nat} (hx : x < 2 ^ m) (hy : y < 2 ^ m) (h : rv m x = rv m y) : x = y := by rw [← rv_rv hx, h, rv_rv hy]
theorem rv_span (m : Nat) {L : List Nat} {x : Nat} (h : Span L x) : Span (L.map (rv m)) (rv m x) :=
  span_ind (C := fun x => Span (L.map (rv m)) (rv m x)) (by rw [rv_zero]; exact .zero) (fun x y a b => by rw [rv_xor]; exact span_xor a b) (fun a ha => span_mem (List.mem_map.mpr ⟨a, ha, rfl⟩)) h
/-- the lot of a mask -/
def maskLot (m x : Nat) : List Nat := (List.range m).filter fun k => x.testBit k
theorem maskLot_rv (m x : Nat) : lotOfBits m (rv m x) = maskLot m x := by
  unfold lotOfBits maskLot
  refine List.filter_congr fun k hk => ?_
  exact rv_sel (List.mem_range.mp hk)
theorem filter_more {k m : Nat} {p : Nat → Bool} (h : k ≤ m) (h2 : ∀ j, k ≤ j → p j = false) : (List.range m).filter p = (List.range k).filter p := by
  obtain ⟨d, rfl⟩ := Nat.le.dest h
  induction d with
  | zero => rfl
  | succ d ih =>
    rw [show k + (d + 1) = (k + d) + 1 by omega, List.range_succ, List.filter_append, ih (by omega), List.filter_cons, h2 (k + d) (by omega)]
    simp
/-! #### the even masks -/
structure EvS (n : Nat) (ts : Ties) (T : Nat → Option Nat) (base : List Nat) (proc : Nat → Bool) : Prop where
  t0 : T 0 = some 0
  tr : ∀ p x, T p = some x → p < n ∧ x < 2 ^ ts.length ∧ (∀ k, x.testBit k = true → proc k = true) ∧ ∀ q, bd ts (tb x) q = (decide (q = 0) ^^ decide (q = p))
  bs : ∀ c ∈ base, c < 2 ^ ts.length ∧ Even ts (tb c) ∧ ∀ k, c.testBit k = true → proc k = true
  pe : ∀ k, k < ts.length → proc k = true → (T (aOf ts k)).isSome = true ∧ (T (bOf ts k)).isSome = true
  sp : ∀ x, x < 2 ^ ts.length → Even ts (tb x) → (∀ k, x.testBit k = true → proc k = true) → Span base x
theorem bd_one {n : Nat} {ts : Ties} (W : Web n ts) {k : Nat} (hk : k < ts.length) (q : Nat) : bd ts (tb (2 ^ k)) q = (decide (q = aOf ts k) ^^ decide (q = bOf ts k)) := by
  unfold bd
  rw [xs_one ts.length hk]
  · show ((2 ^ k).testBit k && inc ts k q) = _
    rw [Nat.testBit_two_pow_self, Bool.true_and, inc_xor W hk]
    congr 1
    · exact decide_eq_decide.mpr eq_comm
    · exact decide_eq_decide.mpr eq_comm
  · intro j _ hj
    show ((2 ^ k).testBit j && inc ts j q) = false
    rw [Nat.testBit_two_pow_of_ne (fun e => hj e.symm), Bool.false_and]
theorem tb_xor (x y : Nat) : tb (x ^^^ y) = fun k => tb x k ^^ tb y k := funext fun k => Nat.testBit_xor ..
theorem evs_start {n : Nat} {ts : Ties} (W : Web n ts) : EvS n ts (fun p => if p = 0 then some 0 else none) [] (fun _ => false) := by
  refine ⟨rfl, fun p x h => ?_, fun c hc => (by cases hc), fun k _ h => (by cases h), fun x hx _ h => ?_⟩
  · by_cases e : p = 0
    · subst e
      have : x = 0 := by simpa using h.symm
      subst this
      refine ⟨W.pos, Nat.two_pow_pos _, fun k hk => ?_, fun q => ?_⟩
      · rw [Nat.zero_testBit] at hk; cases hk
      · rw [Bool.xor_self]
        exact xs_false _ fun k _ => by show ((0 : Nat).testBit k && _) = false; rw [Nat.zero_testBit, Bool.false_and]
    · rw [if_neg e] at h; cases h
  · have : x = 0 := Nat.eq_of_testBit_eq fun k => by
      rw [Nat.zero_testBit]
      cases e : x.testBit k with
      | false => rfl
      | true => cases h k e
    rw [this]; exact .zero
def more (proc : Nat → Bool) (k : Nat) : Nat → Bool := fun j => proc j || decide (j = k)
theorem more_of {proc : Nat → Bool} {k j : Nat} (h : proc j = true) : more proc k j = true := by unfold more; rw [h]; rfl
theorem more_self (proc : Nat → Bool) (k : Nat) : more proc k k = true := by unfold more; simp
theorem pow_bit {k j : Nat} (h : (2 ^ k).testBit j = true) : j = k := by
  rw [Nat.testBit_two_pow] at h
  exact (of_decide_eq_true h).symm
/-- both ends known: a round -/
theorem evs_both {n : Nat} {ts : Ties} (W : Web n ts) {T : Nat → Option Nat} {base : List Nat} {proc : Nat → Bool} (E : EvS n ts T base proc) {k x y : Nat} (hk : k < ts.length) (hp : proc k = false) (ha : T (aOf ts k) = some x) (hb : T (bOf ts k) = some y) :
    EvS n ts T (base ++ [x ^^^ y ^^^ 2 ^ k]) (more proc k) := by
  obtain ⟨_, x1, x2, x3⟩ := E.tr _ _ ha
  obtain ⟨_, y1, y2, y3⟩ := E.tr _ _ hb
  have cl : x ^^^ y ^^^ 2 ^ k < 2 ^ ts.length := Nat.xor_lt_two_pow (Nat.xor_lt_two_pow x1 y1) (Nat.pow_lt_pow_right (by omega) hk)
  have ce : Even ts (tb (x ^^^ y ^^^ 2 ^ k)) := fun q => by
    rw [tb_xor, bd_xor, tb_xor, bd_xor, x3, y3, bd_one W hk]
    generalize decide (q = 0) = a
    generalize decide (q = aOf ts k) = b
    generalize decide (q = bOf ts k) = c
    revert a b c; decide
  have cs : ∀ j, (x ^^^ y ^^^ 2 ^ k).testBit j = true → more proc k j = true := fun j hj => by
    rw [Nat.testBit_xor, Nat.testBit_xor] at hj
    cases e1 : x.testBit j with
    | true => exact more_of (x2 j e1)
    | false =>
      cases e2 : y.testBit j with
      | true => exact more_of (y2 j e2)
      | false =>
        rw [e1, e2] at hj
        rw [show j = k from pow_bit (by simpa using hj)]
        exact more_self _ _
  have ck : (x ^^^ y ^^^ 2 ^ k).testBit k = true := by
    rw [Nat.testBit_xor, Nat.testBit_xor, Nat.testBit_two_pow_self]
    have e1 : x.testBit k = false := by
      cases e : x.testBit k with
      | false => rfl
      | true => rw [x2 k e] at hp; cases hp
    have e2 : y.testBit k = false := by
      cases e : y.testBit k with
      | false => rfl
      | true => rw [y2 k e] at hp; cases hp
    rw [e1, e2]; rfl
  refine ⟨E.t0, fun p z h => ?_, fun c hc => ?_, fun j hj h => ?_, fun z z1 z2 z3 => ?_⟩
  · obtain ⟨g1, g2, g3, g4⟩ := E.tr p z h
    exact ⟨g1, g2, fun j hj => more_of (g3 j hj), g4⟩
  · rcases List.mem_append.mp hc with g | g
    · obtain ⟨g1, g2, g3⟩ := E.bs c g
      exact ⟨g1, g2, fun j hj => more_of (g3 j hj)⟩
    · rw [List.mem_singleton.mp g]; exact ⟨cl, ce, cs⟩
  · by_cases e : j = k
    · subst e; rw [ha, hb]; exact ⟨rfl, rfl⟩
    · refine E.pe j hj ?_
      unfold more at h
      rw [decide_eq_false e, Bool.or_false] at h
      exact h
  · have old : ∀ v, v < 2 ^ ts.length → Even ts (tb v) → (∀ j, v.testBit j = true → more proc k j = true) → v.testBit k = false → Span (base ++ [x ^^^ y ^^^ 2 ^ k]) v := fun v v1 v2 v3 v4 => by
      refine span_mono (fun a ha => List.mem_append_left _ ha) (E.sp v v1 v2 fun j hj => ?_)
      have := v3 j hj
      unfold more at this
      by_cases e : j = k
      · subst e; rw [v4] at hj; cases hj
      · rw [decide_eq_false e, Bool.or_false] at this
        exact this
    cases zk : z.testBit k with
    | false => exact old z z1 z2 z3 zk
    | true =>
      have h1 := old (z ^^^ (x ^^^ y ^^^ 2 ^ k)) (Nat.xor_lt_two_pow z1 cl) (fun q => by rw [tb_xor, bd_xor, z2 q, ce q]; rfl) (fun j hj => by
        rw [Nat.testBit_xor] at hj
        cases e : z.testBit j with
        | true => exact z3 j e
        | false => rw [e, Bool.false_xor] at hj; exact cs j hj) (by rw [Nat.testBit_xor, zk, ck]; rfl)
      have h2 := span_xor h1 (span_mem (L := base ++ [x ^^^ y ^^^ 2 ^ k]) (List.mem_append_right _ List.mem_cons_self))
      rw [xor_cancel] at h2
      exact h2
/-- one end new -/
theorem evs_new {n : Nat} {ts : Ties} (W : Web n ts) {T : Nat → Option Nat} {base : List Nat} {proc : Nat → Bool} (E : EvS n ts T base proc) {k x p g : Nat} (hk : k < ts.length) (hp : proc k = false)
    (hpg : (aOf ts k = p ∧ bOf ts k = g) ∨ (aOf ts k = g ∧ bOf ts k = p)) (ha : T p = some x) (hb : T g = none) :
    EvS n ts (fun q => if q = g then some (x ^^^ 2 ^ k) else T q) base (more proc k) := by
  obtain ⟨x0, x1, x2, x3⟩ := E.tr _ _ ha
  have tie := W.tie hk
  have hgn : g < n := by rcases hpg with ⟨_, h⟩ | ⟨h, _⟩ <;> omega
  have hg0 : g ≠ 0 := fun e => by rw [e, E.t0] at hb; cases hb
  have hpne : p ≠ g := fun e => by rw [e, hb] at ha; cases ha
  have pk : 2 ^ k < 2 ^ ts.length := Nat.pow_lt_pow_right (by omega) hk
  refine ⟨by rw [if_neg (fun e => hg0 e.symm)]; exact E.t0, fun q z h => ?_, fun c hc => ?_, fun j hj h => ?_, fun z z1 z2 z3 => ?_⟩
  · by_cases e : q = g
    · subst e
      rw [if_pos rfl] at h
      have e2 := (Option.some.inj h).symm
      subst e2
      refine ⟨hgn, Nat.xor_lt_two_pow x1 pk, fun j hj => ?_, fun r => ?_⟩
      · rw [Nat.testBit_xor] at hj
        cases e1 : x.testBit j with
        | true => exact more_of (x2 j e1)
        | false =>
          rw [e1] at hj
          rw [show j = k from pow_bit (by simpa using hj)]
          exact more_self _ _
      · rw [tb_xor, bd_xor, x3, bd_one W hk]
        rcases hpg with ⟨h1, h2⟩ | ⟨h1, h2⟩
        · rw [h1, h2]
          generalize decide (r = 0) = a
          generalize decide (r = p) = b
          generalize decide (r = q) = c
          revert a b c; decide
        · rw [h1, h2]
          generalize decide (r = 0) = a
          generalize decide (r = p) = b
          generalize decide (r = q) = c
          revert a b c; decide
    · rw [if_neg e] at h
      obtain ⟨g1, g2, g3, g4⟩ := E.tr q z h
      exact ⟨g1, g2, fun j hj => more_of (g3 j hj), g4⟩
  · obtain ⟨g1, g2, g3⟩ := E.bs c hc
    exact ⟨g1, g2, fun j hj => more_of (g3 j hj)⟩
  · have up : ∀ q, (T q).isSome = true → (if q = g then some (x ^^^ 2 ^ k) else T q).isSome = true := fun q hq => by
      by_cases e : q = g
      · rw [if_pos e]; rfl
      · rw [if_neg e]; exact hq
    by_cases e : j = k
    · subst e
      have up2 : (if g = g then some (x ^^^ 2 ^ j) else T g).isSome = true := by rw [if_pos rfl]; rfl
      have up3 := up p (by rw [ha]; rfl)
      rcases hpg with ⟨h1, h2⟩ | ⟨h1, h2⟩
      · rw [h1, h2]; exact ⟨up3, up2⟩
      · rw [h1, h2]; exact ⟨up2, up3⟩
    · have hj2 : proc j = true := by
        unfold more at h
        rw [decide_eq_false e, Bool.or_false] at h
        exact h
      have := E.pe j hj hj2
      exact ⟨up _ this.1, up _ this.2⟩
  · -- the tie k is not in z: its end g is met by no other
    have zk : z.testBit k = false := by
      have h1 := z2 g
      unfold bd at h1
      rw [xs_one ts.length hk] at h1
      · have : inc ts k g = true := by
          unfold inc
          rcases hpg with ⟨_, h⟩ | ⟨h, _⟩ <;> simp [h]
        have h1' : (z.testBit k && inc ts k g) = false := h1
        rw [this, Bool.and_true] at h1'
        exact h1'
      · intro j hj hjk
        show (z.testBit j && inc ts j g) = false
        cases e : z.testBit j with
        | false => rfl
        | true =>
          have := z3 j e
          unfold more at this
          rw [decide_eq_false hjk, Bool.or_false] at this
          have h2 := E.pe j hj this
          rw [Bool.true_and]
          unfold inc
          have n1 : ¬ aOf ts j = g := fun q => by rw [q, hb] at h2; cases h2.1
          have n2 : ¬ bOf ts j = g := fun q => by rw [q, hb] at h2; cases h2.2
          simp [n1, n2]
    refine E.sp z z1 z2 fun j hj => ?_
    have := z3 j hj
    unfold more at this
    by_cases e : j = k
    · subst e; rw [zk] at hj; cases hj
    · rw [decide_eq_false e, Bool.or_false] at this
      exact this
/-- the end: all ties done -/
theorem evs_end {n : Nat} {ts : Ties} {T : Nat → Option Nat} {base : List Nat} {proc : Nat → Bool} (E : EvS n ts T base proc) (h : ∀ k, k < ts.length → proc k = true) (x : Nat) :
    Span base x ↔ x < 2 ^ ts.length ∧ Even ts (tb x) := by
  constructor
  · intro hx
    refine ⟨span_lt (fun a ha => (E.bs a ha).1) hx, ?_⟩
    exact span_ind (C := fun x => Even ts (tb x)) (fun p => xs_false _ fun k _ => by show ((0 : Nat).testBit k && _) = false; rw [Nat.zero_testBit, Bool.false_and])
      (fun x y a b p => by rw [tb_xor, bd_xor, a p, b p]; rfl) (fun a ha => (E.bs a ha).2.1) hx
  · intro ⟨h1, h2⟩
    refine E.sp x h1 h2 fun k hk => h k ?_
    rcases Nat.lt_or_ge k ts.length with z | z
    · exact z
    · rw [testBit_of_lt h1 z] at hk; cases hk
/-- some tie hangs on what is known -/
theorem evs_go {n : Nat} {ts : Ties} (W : Web n ts) {T : Nat → Option Nat} {base : List Nat} {proc : Nat → Bool} (E : EvS n ts T base proc) {R : List Nat} (hR : ∀ k ∈ R, k < ts.length) (hRp : ∀ k, k < ts.length → proc k = false → k ∈ R)
    (hno : ∀ k ∈ R, T (aOf ts k) = none ∧ T (bOf ts k) = none) : R = [] := by
  cases R with
  | nil => rfl
  | cons k R =>
    have S := W.joined' (fun p => (T p).isSome) (by show (T 0).isSome = true; rw [E.t0]; rfl) fun j hj => by
      show (T (aOf ts j)).isSome = (T (bOf ts j)).isSome
      cases e : proc j with
      | true => rw [(E.pe j hj e).1, (E.pe j hj e).2]
      | false =>
        obtain ⟨h1, h2⟩ := hno j (hRp j hj e)
        rw [h1, h2]
    have hk := hR k List.mem_cons_self
    have := S (aOf ts k) (by have := W.tie hk; omega)
    rw [(hno k List.mem_cons_self).1] at this
    cases this
end BE
end
/-! ## M9 -/
section
set_option linter.all false
namespace BE
theorem map_rv_rv {m : Nat} : ∀ {L : List Nat}, (∀ a ∈ L, a < 2 ^ m) → (L.map (rv m)).map (rv m) = L
  | [], _ => rfl
  | a :: L, h => by
    rw [List.map_cons, List.map_cons, rv_rv (h a List.mem_cons_self), map_rv_rv fun b hb => h b (List.mem_cons_of_mem _ hb)]
theorem stars_lt (ts : Ties) (j : Nat) : ∀ a ∈ starsTo ts j, a < 2 ^ ts.length := fun a ha => by
  obtain ⟨i, _, e⟩ := List.mem_map.mp ha
  rw [← e]; exact star_lt ts _
theorem mem_cuts {n : Nat} {ts : Ties} (W : Web n ts) {x : Nat} : x ∈ combos [0] ((starsTo ts (n - 1)).map (rv ts.length)) ↔ x < 2 ^ ts.length ∧ ∃ s, Cut ts s (tb x) := by
  rw [mem_combos0]
  constructor
  · intro h
    have hx : x < 2 ^ ts.length := span_lt (fun a ha => by obtain ⟨b, _, e⟩ := List.mem_map.mp ha; rw [← e]; exact rv_lt _ _) h
    have h1 := rv_span ts.length h
    rw [map_rv_rv (stars_lt ts _)] at h1
    obtain ⟨_, s, _, hs⟩ := span_stars W h1
    exact ⟨hx, s, fun k hk => by rw [← hs k hk, rv_sel hk]⟩
  · rintro ⟨hx, s, hs⟩
    have h1 : Span (starsTo ts (n - 1)) (rv ts.length x) := by
      refine stars_span W (n - 1) (s := fun p => (s p ^^ s 0) && decide (p < n)) (fun p hp => ?_) (rv_lt _ _) fun k hk => ?_
      · have h2 : ((s p ^^ s 0) && decide (p < n)) = true := hp
        rw [Bool.and_eq_true] at h2
        have h3 := of_decide_eq_true h2.2
        rcases Nat.eq_zero_or_pos p with z | z
        · rw [z, Bool.xor_self] at h2; exact absurd h2.1 (by decide)
        · omega
      · have ht := W.tie hk
        rw [rv_sel hk, show x.testBit k = (s (aOf ts k) ^^ s (bOf ts k)) from hs k hk]
        show _ = (((s (aOf ts k) ^^ s 0) && decide (aOf ts k < n)) ^^ ((s (bOf ts k) ^^ s 0) && decide (bOf ts k < n)))
        rw [decide_eq_true (show aOf ts k < n by omega), decide_eq_true ht.2]
        generalize s (aOf ts k) = a
        generalize s (bOf ts k) = b
        generalize s 0 = c
        revert a b c; decide
    have h2 := rv_span ts.length h1
    rw [rv_rv hx] at h2
    exact h2
theorem stars_indep {n : Nat} {ts : Ties} (W : Web n ts) : ∀ j, j + 1 ≤ n → Indep (starsTo ts j)
  | 0, _ => indep_nil
  | j + 1, h => by
    rw [starsTo_succ]
    exact indep_snoc (stars_indep W j (by omega)) (star_new W (by omega))
theorem cuts_nodup {n : Nat} {ts : Ties} (W : Web n ts) : (combos [0] ((starsTo ts (n - 1)).map (rv ts.length))).Nodup := by
  refine combos_nodup _ fun i a ha hs => ?_
  have hI := stars_indep W (n - 1) (by have := W.pos; omega)
  rw [List.getElem?_map] at ha
  obtain ⟨b, hb, rfl⟩ := Option.map_eq_some_iff.mp ha
  have hlt := stars_lt ts (n - 1)
  rw [← List.map_take] at hs
  have h1 := rv_span ts.length hs
  rw [map_rv_rv (fun c hc => hlt c (List.mem_of_mem_take hc)), rv_rv (hlt b (List.mem_of_getElem? hb))] at h1
  exact hI i b hb h1
theorem V_rv {ts : Ties} {x : Nat} : V ts (rv ts.length x) ↔ (∃ s, Cut ts s (tb x)) ∧ Even ts (tb x) := by
  have e : Both ts (sel ts.length (rv ts.length x)) ↔ Both ts (tb x) := both_iff fun k hk => rv_sel hk
  constructor
  · intro h
    have := e.mp h.2
    exact ⟨this.cut, this.even⟩
  · intro ⟨h1, h2⟩
    exact ⟨rv_lt _ _, e.mpr ⟨h1, h2⟩⟩
/-- what the sorted masks are -/
theorem due_eq {ts : Ties} {bs ms : List Nat} (E : Ech bs.reverse) (S : ∀ x, Span bs.reverse x ↔ V ts x) (hm : ∀ x, x ∈ ms ↔ x < 2 ^ ts.length ∧ V ts (rv ts.length x)) (hp : ms.Pairwise fun x y => rv ts.length x < rv ts.length y) :
    ms.map (maskLot ts.length) = (allNb bs.reverse).map (lotOfBits ts.length) := by
  have e : ms.map (rv ts.length) = allNb bs.reverse := by
    refine rise_eq (by rw [List.pairwise_map]; exact hp) (allNb_rise E) fun x => ?_
    rw [mem_allNb, S]
    constructor
    · intro h
      obtain ⟨y, hy, rfl⟩ := List.mem_map.mp h
      exact ((hm y).mp hy).2
    · intro h
      refine List.mem_map.mpr ⟨rv ts.length x, (hm _).mpr ⟨rv_lt _ _, ?_⟩, rv_rv h.1⟩
      rw [rv_rv h.1]; exact h
  rw [← e, List.map_map]
  exact List.map_congr_left fun x _ => (maskLot_rv _ _).symm
/-- of two rows the one with the lesser value comes first -/
def rowLt : List Nat → List Nat → Prop
  | a :: u, b :: v => a < b ∨ (a = b ∧ rowLt u v)
  | _, _ => False
theorem row_of_val : ∀ {u v : List Nat}, (∀ b ∈ u, b < 2) → (∀ b ∈ v, b < 2) → u.length = v.length → valL u < valL v → rowLt u v
  | [], [], _, _, _, h => absurd h (Nat.lt_irrefl _)
  | [], _ :: _, _, _, h, _ => by simp at h
  | _ :: _, [], _, _, h, _ => by simp at h
  | a :: u, b :: v, hu, hv, hl, h => by
    have hl' : u.length = v.length := by simpa using hl
    have h1 := valL_lt (u := u) fun c hc => hu c (List.mem_cons_of_mem _ hc)
    have h2 := valL_lt (u := v) fun c hc => hv c (List.mem_cons_of_mem _ hc)
    have h' : 2 ^ u.length * a + valL u < 2 ^ v.length * b + valL v := h
    rw [← hl'] at h' h2
    rcases Nat.lt_trichotomy a b with z | z | z
    · exact .inl z
    · subst z
      exact .inr ⟨rfl, row_of_val (fun c hc => hu c (List.mem_cons_of_mem _ hc)) (fun c hc => hv c (List.mem_cons_of_mem _ hc)) hl' (by omega)⟩
    · have : 2 ^ u.length * (b + 1) ≤ 2 ^ u.length * a := Nat.mul_le_mul_left _ (by omega)
      rw [Nat.mul_add] at this
      omega
end BE
end
/-! ## M10 -/
section
set_option linter.all false
namespace BE
/-! ### the doubled path: ties in pairs -/
structure Prs (m : Nat) (PL : List (List Nat)) : Prop where
  two : ∀ L ∈ PL, ∃ i j, L = [i, j] ∧ i < j ∧ j < m
  ord : PL.Pairwise fun L M => L.headD 0 < M.headD 0
  dis : ∀ L ∈ PL, ∀ M ∈ PL, ∀ k, k ∈ L → k ∈ M → L = M
  all : ∀ k, k < m → ∃ L ∈ PL, k ∈ L
theorem log2_of {x t : Nat} (h : x.testBit t = true) (h2 : ∀ k, t < k → x.testBit k = false) : x.log2 = t := by
  have h0 : x ≠ 0 := fun e => by rw [e, Nat.zero_testBit] at h; cases h
  have h3 := testBit_log2 h0
  rcases Nat.lt_trichotomy x.log2 t with z | z | z
  · have := testBit_of_lt (lt_log2 (a := x)) z
    rw [this] at h; cases h
  · exact z
  · rw [h2 _ z] at h3; cases h3
section
variable {m : Nat} {PL : List (List Nat)} (P : Prs m PL)
include P
theorem Prs.nodup : PL.Nodup := P.ord.imp fun h e => by rw [e] at h; exact Nat.lt_irrefl _ h
theorem Prs.bit {L : List Nat} (hL : L ∈ PL) {k : Nat} (hk : k < m) : sel m (bitsOf m L) k = decide (k ∈ L) := by
  obtain ⟨i, j, rfl, h1, h2⟩ := P.two L hL
  refine sel_bitsOf k (by simp [h1]) (fun a ha => ?_) hk
  simp only [List.mem_cons, List.not_mem_nil, or_false] at ha
  omega
theorem Prs.lt {L : List Nat} (hL : L ∈ PL) : bitsOf m L < 2 ^ m := by
  obtain ⟨i, j, rfl, h1, h2⟩ := P.two L hL
  refine bitsOf_lt' (by simp [h1]) fun a ha => ?_
  simp only [List.mem_cons, List.not_mem_nil, or_false] at ha
  omega
theorem Prs.log {L : List Nat} (hL : L ∈ PL) : (bitsOf m L).log2 = m - 1 - L.headD 0 ∧ L.headD 0 < m ∧ L.headD 0 ∈ L := by
  obtain ⟨i, j, e, h1, h2⟩ := P.two L hL
  have hi : L.headD 0 = i := by rw [e]; rfl
  rw [hi]
  refine ⟨log2_of ?_ fun k hk => ?_, by omega, by rw [e]; simp⟩
  · have := P.bit hL (k := i) (by omega)
    unfold sel at this
    rw [this, e]; simp
  · rcases Nat.lt_or_ge k m with z | z
    · have := P.bit hL (k := m - 1 - k) (by omega)
      unfold sel at this
      rw [show m - 1 - (m - 1 - k) = k by omega] at this
      rw [this, e]
      refine decide_eq_false fun hm => ?_
      simp only [List.mem_cons, List.not_mem_nil, or_false] at hm
      omega
    · exact testBit_of_lt (P.lt hL) z
theorem Prs.ne {L : List Nat} (hL : L ∈ PL) : bitsOf m L ≠ 0 := fun e => by
  obtain ⟨_, h2, h3⟩ := P.log hL
  have := P.bit hL h2
  rw [e, sel_zero, decide_eq_true h3] at this
  cases this
theorem Prs.ech : Ech ((PL.map (bitsOf m)).reverse) := by
  rw [← List.map_reverse]
  refine ⟨fun a ha => ?_, ?_, fun i j a b ha hb hij => ?_⟩
  · obtain ⟨L, hL, rfl⟩ := List.mem_map.mp ha
    exact P.ne (List.mem_reverse.mp hL)
  · rw [List.pairwise_map, List.pairwise_reverse]
    refine List.Pairwise.imp_of_mem ?_ P.ord
    intro L M hL hM h
    obtain ⟨e1, a1, _⟩ := P.log hL
    obtain ⟨e2, a2, _⟩ := P.log hM
    rw [e1, e2]
    omega
  · rw [List.getElem?_map] at ha hb
    obtain ⟨L, hL, rfl⟩ := Option.map_eq_some_iff.mp ha
    obtain ⟨M, hM, rfl⟩ := Option.map_eq_some_iff.mp hb
    have hL2 := List.mem_reverse.mp (List.mem_of_getElem? hL)
    have hM2 := List.mem_reverse.mp (List.mem_of_getElem? hM)
    obtain ⟨e2, a2, a3⟩ := P.log hM2
    have hne : L ≠ M := fun e => by
      subst e
      obtain ⟨hi, e1⟩ := List.getElem?_eq_some_iff.mp hL
      obtain ⟨hj, e3⟩ := List.getElem?_eq_some_iff.mp hM
      have nd : PL.reverse.Nodup := (List.reverse_perm PL).nodup_iff.mpr P.nodup
      exact hij ((List.getElem_inj nd).mp (e1.trans e3.symm))
    have := P.bit hL2 a2
    unfold sel at this
    rw [e2, this]
    exact decide_eq_false fun z => hne (P.dis L hL2 M hM2 _ z a3)
theorem Prs.span (x : Nat) : Span (PL.map (bitsOf m)) x ↔ x < 2 ^ m ∧ ∀ L ∈ PL, ∀ i ∈ L, ∀ j ∈ L, sel m x i = sel m x j := by
  have ltm : ∀ L ∈ PL, ∀ k ∈ L, k < m := fun L hL k hk => by
    obtain ⟨i, j, rfl, h1, h2⟩ := P.two L hL
    simp only [List.mem_cons, List.not_mem_nil, or_false] at hk
    omega
  constructor
  · intro h
    refine span_ind (C := fun x => x < 2 ^ m ∧ ∀ L ∈ PL, ∀ i ∈ L, ∀ j ∈ L, sel m x i = sel m x j) ⟨Nat.two_pow_pos m, fun _ _ _ _ _ _ => by rw [sel_zero, sel_zero]⟩ (fun x y hx hy => ⟨Nat.xor_lt_two_pow hx.1 hy.1, fun L hL i hi j hj => by rw [sel_xor, sel_xor, hx.2 L hL i hi j hj, hy.2 L hL i hi j hj]⟩) (fun a ha => ?_) h
    obtain ⟨M, hM, rfl⟩ := List.mem_map.mp ha
    refine ⟨P.lt hM, fun L hL i hi j hj => ?_⟩
    rw [P.bit hM (ltm L hL i hi), P.bit hM (ltm L hL j hj)]
    refine decide_eq_decide.mpr ⟨fun z => ?_, fun z => ?_⟩
    · rw [P.dis M hM L hL i z hi]; exact hj
    · rw [P.dis M hM L hL j z hj]; exact hi
  · intro ⟨hx, he⟩
    have go : ∀ (Q : List (List Nat)), (∀ L ∈ Q, L ∈ PL) → ∀ x, x < 2 ^ m → (∀ L ∈ PL, ∀ i ∈ L, ∀ j ∈ L, sel m x i = sel m x j) → (∀ k, k < m → sel m x k = true → ∃ L ∈ Q, k ∈ L) → Span (Q.map (bitsOf m)) x := by
      intro Q
      induction Q with
      | nil =>
        intro _ x hx _ hs
        have : x = 0 := sel_ext hx (Nat.two_pow_pos m) fun k hk => by
          rw [sel_zero]
          cases e : sel m x k with
          | false => rfl
          | true => obtain ⟨L, hL, _⟩ := hs k hk e; cases hL
        rw [this]; exact .zero
      | cons L Q ih =>
        intro hQ x hx he hs
        have hL := hQ L List.mem_cons_self
        obtain ⟨i, j, eL, h1, h2⟩ := P.two L hL
        have hiL : i ∈ L := by rw [eL]; simp
        have up : ∀ y, Span (Q.map (bitsOf m)) y → Span ((L :: Q).map (bitsOf m)) y := fun y hy => span_mono (fun a ha => List.mem_cons_of_mem _ ha) hy
        cases e : sel m x i with
        | false =>
          refine up _ (ih (fun M hM => hQ M (List.mem_cons_of_mem _ hM)) x hx he fun k hk hs2 => ?_)
          obtain ⟨M, hM, hkM⟩ := hs k hk hs2
          rcases List.mem_cons.mp hM with z | z
          · rw [z] at hkM
            rw [he L hL k hkM i hiL, e] at hs2
            cases hs2
          · exact ⟨M, z, hkM⟩
        | true =>
          have h3 := ih (fun M hM => hQ M (List.mem_cons_of_mem _ hM)) (x ^^^ bitsOf m L) (Nat.xor_lt_two_pow hx (P.lt hL)) (fun M hM a ha b hb => by
            rw [sel_xor, sel_xor, he M hM a ha b hb, P.bit hL (ltm M hM a ha), P.bit hL (ltm M hM b hb)]
            congr 1
            refine decide_eq_decide.mpr ⟨fun z => ?_, fun z => ?_⟩
            · rw [P.dis L hL M hM a z ha]; exact hb
            · rw [P.dis L hL M hM b z hb]; exact ha) (fun k hk hs2 => by
            rw [sel_xor, P.bit hL hk] at hs2
            by_cases z : k ∈ L
            · rw [he L hL k z i hiL, e, decide_eq_true z] at hs2; cases hs2
            · rw [decide_eq_false z, Bool.xor_false] at hs2
              obtain ⟨M, hM, hkM⟩ := hs k hk hs2
              rcases List.mem_cons.mp hM with y | y
              · rw [y] at hkM; exact absurd hkM z
              · exact ⟨M, y, hkM⟩)
          have h4 := span_xor (up _ h3) (span_mem (L := (L :: Q).map (bitsOf m)) (a := bitsOf m L) List.mem_cons_self)
          rw [xor_cancel] at h4
          exact h4
    exact go PL (fun _ h => h) x hx he fun k hk _ => P.all k hk
end
/-- what the law gathers: the lots at the places of the number's figures -/
def gath : List (List Nat) → Nat → List Nat
  | [], _ => []
  | L :: R, num => (if num.testBit 0 then L else []) ++ gath R (num / 2)
theorem gath_take : ∀ (R : List (List Nat)) (j num : Nat) (L : List Nat), R[j]? = some L → gath (R.take (j + 1)) num = gath (R.take j) num ++ (if num.testBit j then L else [])
  | [], j, num, L, h => by simp at h
  | M :: R, 0, num, L, h => by
    have e : M = L := by simpa using h
    subst e
    simp [gath]
  | M :: R, j + 1, num, L, h => by
    show (if num.testBit 0 then M else []) ++ gath (R.take (j + 1)) (num / 2) = ((if num.testBit 0 then M else []) ++ gath (R.take j) (num / 2)) ++ _
    rw [gath_take R j (num / 2) L (by simpa using h), Nat.testBit_div_two, List.append_assoc]
theorem mem_gath {k : Nat} : ∀ {R : List (List Nat)} {num : Nat}, k ∈ gath R num ↔ ∃ t L, R[t]? = some L ∧ num.testBit t = true ∧ k ∈ L
  | [], num => by simp [gath]
  | M :: R, num => by
    show k ∈ (if num.testBit 0 then M else []) ++ gath R (num / 2) ↔ _
    rw [List.mem_append, mem_gath (R := R)]
    constructor
    · rintro (h | ⟨t, L, h1, h2, h3⟩)
      · by_cases c : num.testBit 0 = true
        · rw [if_pos c] at h; exact ⟨0, M, rfl, c, h⟩
        · rw [if_neg c] at h; cases h
      · rw [Nat.testBit_div_two] at h2
        exact ⟨t + 1, L, by simpa using h1, h2, h3⟩
    · rintro ⟨t, L, h1, h2, h3⟩
      cases t with
      | zero =>
        have e : M = L := by simpa using h1
        subst e
        exact .inl (by rw [if_pos h2]; exact h3)
      | succ t => exact .inr ⟨t, L, by simpa using h1, by rw [Nat.testBit_div_two]; exact h2, h3⟩
theorem gath_nodup : ∀ {R : List (List Nat)} {num : Nat}, (∀ L ∈ R, L.Nodup) → R.Pairwise (fun L M => ∀ k, k ∈ L → k ∉ M) → (gath R num).Nodup
  | [], _, _, _ => List.nodup_nil
  | M :: R, num, hn, hd => by
    obtain ⟨h1, h2⟩ := List.pairwise_cons.mp hd
    show ((if num.testBit 0 then M else []) ++ gath R (num / 2)).Nodup
    refine List.nodup_append.mpr ⟨?_, gath_nodup (fun L hL => hn L (List.mem_cons_of_mem _ hL)) h2, fun a ha b hb e => ?_⟩
    · split
      · exact hn M List.mem_cons_self
      · exact List.nodup_nil
    · subst e
      obtain ⟨t, L, g1, g2, g3⟩ := mem_gath.mp hb
      by_cases c : num.testBit 0 = true
      · rw [if_pos c] at ha
        exact h1 L (List.mem_of_getElem? g1) a ha g3
      · rw [if_neg c] at ha; cases ha
theorem gath_few : ∀ {R : List (List Nat)} {num c : Nat}, (∀ L ∈ R, L.length ≤ c) → (gath R num).length ≤ R.length * c
  | [], _, _, _ => by simp [gath]
  | M :: R, num, c, h => by
    have ih := gath_few (R := R) (num := num / 2) (c := c) fun L hL => h L (List.mem_cons_of_mem _ hL)
    have hM := h M List.mem_cons_self
    show ((if num.testBit 0 then M else []) ++ gath R (num / 2)).length ≤ (R.length + 1) * c
    rw [List.length_append, Nat.succ_mul]
    split
    · omega
    · simp; omega
/-- gathered and sorted: the lot of the number -/
theorem Prs.due {m : Nat} {PL : List (List Nat)} (P : Prs m PL) {num : Nat} {S : List Nat} (hp : S.Perm (gath PL.reverse num)) (hs : S.Pairwise (· ≤ ·)) : S = lotOfBits m (nb (PL.map (bitsOf m)).reverse num) := by
  have dj : PL.reverse.Pairwise fun L M => ∀ k, k ∈ L → k ∉ M := by
    rw [List.pairwise_reverse]
    refine List.Pairwise.imp_of_mem ?_ P.ord
    intro L M hL hM h k hk hk2
    have := P.dis L hL M hM k hk2 hk
    rw [this] at h
    exact Nat.lt_irrefl _ h
  have nd : S.Nodup := hp.nodup_iff.mpr (gath_nodup (fun L hL => by
    obtain ⟨i, j, rfl, h1, _⟩ := P.two L (List.mem_reverse.mp hL)
    simp
    omega) dj)
  refine rise_eq ((hs.and nd).imp fun h => Nat.lt_of_le_of_ne h.1 h.2) (lotOfBits_rise _ _) fun k => ?_
  rw [hp.mem_iff, mem_gath, mem_lotOfBits]
  have ltm : ∀ L ∈ PL, ∀ k ∈ L, k < m := fun L hL k hk => by
    obtain ⟨i, j, rfl, h1, h2⟩ := P.two L hL
    simp only [List.mem_cons, List.not_mem_nil, or_false] at hk
    omega
  have key : ∀ (t0 : Nat) (L0 : List Nat), PL.reverse[t0]? = some L0 → k ∈ L0 → sel m (nb (PL.map (bitsOf m)).reverse num) k = num.testBit t0 := fun t0 L0 h0 hk0 => by
    have hL0 := List.mem_reverse.mp (List.mem_of_getElem? h0)
    have hkm := ltm L0 hL0 k hk0
    rw [← List.map_reverse]
    unfold sel
    refine nb_bit _ t0 (bitsOf m L0) _ num (by rw [List.getElem?_map, h0]; rfl) ?_ fun t b hb hne => ?_
    · have := P.bit hL0 hkm
      unfold sel at this
      rw [this]; exact decide_eq_true hk0
    · rw [List.getElem?_map] at hb
      obtain ⟨M, hM, rfl⟩ := Option.map_eq_some_iff.mp hb
      have hM2 := List.mem_reverse.mp (List.mem_of_getElem? hM)
      have := P.bit hM2 hkm
      unfold sel at this
      rw [this]
      refine decide_eq_false fun z => ?_
      have e := P.dis M hM2 L0 hL0 k z hk0
      subst e
      obtain ⟨hi, e1⟩ := List.getElem?_eq_some_iff.mp hM
      obtain ⟨hj, e3⟩ := List.getElem?_eq_some_iff.mp h0
      have ndr : PL.reverse.Nodup := (List.reverse_perm PL).nodup_iff.mpr P.nodup
      exact hne ((List.getElem_inj ndr).mp (e1.trans e3.symm))
  constructor
  · rintro ⟨t, L, h1, h2, h3⟩
    exact ⟨ltm L (List.mem_reverse.mp (List.mem_of_getElem? h1)) k h3, by rw [key t L h1 h3]; exact h2⟩
  · rintro ⟨h1, h2⟩
    obtain ⟨L, hL, hk⟩ := P.all k h1
    obtain ⟨t, ht⟩ := List.getElem?_of_mem (List.mem_reverse.mpr hL)
    exact ⟨t, L, ht, by rw [← key t L ht hk]; exact h2, hk⟩
/-! ### the ties of an edge -/
def occ (ts : Ties) (i : Nat) (e : Nat × Nat) : List Nat := (List.range i).filter fun k => decide (ts.getD k (0, 0) = e)
theorem occ_succ (ts : Ties) (i : Nat) (e : Nat × Nat) : occ ts (i + 1) e = occ ts i e ++ if ts.getD i (0, 0) = e then [i] else [] := by
  unfold occ
  rw [List.range_succ, List.filter_append, List.filter_cons, List.filter_nil]
  by_cases h : ts.getD i (0, 0) = e
  · rw [if_pos h, if_pos (decide_eq_true h)]
  · rw [if_neg h, if_neg (by simpa using h)]
theorem mem_occ {ts : Ties} {i k : Nat} {e : Nat × Nat} : k ∈ occ ts i e ↔ k < i ∧ ts.getD k (0, 0) = e := by
  unfold occ
  rw [List.mem_filter, List.mem_range, decide_eq_true_iff]
theorem occ_len (ts : Ties) (e : Nat × Nat) : ∀ i, i ≤ ts.length → (occ ts i e).length = (ts.take i).count e
  | 0, _ => rfl
  | i + 1, h => by
    have hi : i < ts.length := h
    have hg : ts[i]? = some ts[i] := List.getElem?_eq_getElem hi
    have hgd : ts.getD i (0, 0) = ts[i] := by simp [List.getD, hi]
    rw [occ_succ, List.length_append, occ_len ts e i (by omega), List.take_succ, hg, List.count_append, hgd]
    by_cases c : ts[i] = e
    · rw [if_pos c]; simp [c]
    · rw [if_neg c]; simp [c]
def pathE (n : Nat) : List (Nat × Nat) := (List.range (n - 1)).map fun k => (k, k + 1)
theorem path_nodup (n : Nat) : (pathE n).Nodup := nodup_map (fun x y h => by simpa using congrArg Prod.fst h) List.nodup_range
theorem mem_path {n : Nat} {e : Nat × Nat} : e ∈ pathE n ↔ e.1 < n - 1 ∧ e.2 = e.1 + 1 := by
  unfold pathE
  rw [List.mem_map]
  constructor
  · rintro ⟨k, hk, rfl⟩; exact ⟨List.mem_range.mp hk, rfl⟩
  · rintro ⟨h1, h2⟩; exact ⟨e.1, List.mem_range.mpr h1, by rw [← h2]⟩
section
variable {n : Nat} {ts : Ties} (D : ts.Perm (pathE n ++ pathE n)) (hn : 2 ≤ n)
include D hn
theorem dbl_web : Web n ts := by
  have mem : ∀ e, e ∈ ts ↔ e ∈ pathE n := fun e => by rw [D.mem_iff]; simp
  refine web_of (by omega) (fun t ht => ?_) fun p h1 h2 => ?_
  · have := mem_path.mp ((mem t).mp ht)
    omega
  · exact ⟨(p - 1, p), (mem _).mpr (mem_path.mpr ⟨by show p - 1 < n - 1; omega, by show p = p - 1 + 1; omega⟩), by show p - 1 < p; omega, rfl⟩
theorem dbl_two {e : Nat × Nat} (he : e ∈ ts) : ∃ i j, occ ts ts.length e = [i, j] ∧ i < j ∧ j < ts.length := by
  have hc : (occ ts ts.length e).length = 2 := by
    rw [occ_len ts e _ (Nat.le_refl _), List.take_length, D.count_eq, List.count_append]
    have hm : e ∈ pathE n := by
      have := D.mem_iff.mp he
      simpa using this
    have hone : (pathE n).count e = 1 := by rw [List.Nodup.count (path_nodup n), if_pos hm]
    rw [hone]
  have hr : (occ ts ts.length e).Pairwise (· < ·) := List.Pairwise.filter _ (range_rise _)
  match hl : occ ts ts.length e, hc with
  | [i, j], _ =>
    rw [hl] at hr
    have hj : j ∈ occ ts ts.length e := by rw [hl]; simp
    exact ⟨i, j, rfl, by simpa using hr, (mem_occ.mp hj).1⟩
theorem dbl_prs {es : List (Nat × Nat)} (hes : ∀ e, e ∈ es ↔ e ∈ ts) (ho : es.Pairwise fun a b => (occ ts ts.length a).headD 0 < (occ ts ts.length b).headD 0) : Prs ts.length (es.map (occ ts ts.length)) := by
  refine ⟨fun L hL => ?_, by rw [List.pairwise_map]; exact ho, fun L hL M hM k h1 h2 => ?_, fun k hk => ?_⟩
  · obtain ⟨e, he, rfl⟩ := List.mem_map.mp hL
    have hc : (occ ts ts.length e).length = 2 := by
      rw [occ_len ts e _ (Nat.le_refl _), List.take_length, D.count_eq, List.count_append]
      have hm : e ∈ pathE n := by
        have := D.mem_iff.mp ((hes e).mp he)
        simpa using this
      have hone : (pathE n).count e = 1 := by rw [List.Nodup.count (path_nodup n), if_pos hm]
      rw [hone]
    have hr : (occ ts ts.length e).Pairwise (· < ·) := List.Pairwise.filter _ (range_rise _)
    match hl : occ ts ts.length e, hc with
    | [i, j], _ =>
      rw [hl] at hr
      have hj : j ∈ occ ts ts.length e := by rw [hl]; simp
      exact ⟨i, j, rfl, by simpa using hr, (mem_occ.mp hj).1⟩
  · obtain ⟨e, he, rfl⟩ := List.mem_map.mp hL
    obtain ⟨g, hg, rfl⟩ := List.mem_map.mp hM
    rw [← (mem_occ.mp h1).2, ← (mem_occ.mp h2).2]
  · have hm : ts.getD k (0, 0) ∈ ts := by
      have : ts.getD k (0, 0) = ts[k] := by simp [List.getD, hk]
      rw [this]; exact List.getElem_mem hk
    exact ⟨_, List.mem_map.mpr ⟨ts.getD k (0, 0), (hes _).mpr hm, rfl⟩, mem_occ.mpr ⟨hk, rfl⟩⟩
theorem dbl_V {es : List (Nat × Nat)} (hes : ∀ e, e ∈ es ↔ e ∈ ts) (P : Prs ts.length (es.map (occ ts ts.length))) (x : Nat) :
    V ts x ↔ x < 2 ^ ts.length ∧ ∀ L ∈ es.map (occ ts ts.length), ∀ i ∈ L, ∀ j ∈ L, sel ts.length x i = sel ts.length x j := by
  have W := dbl_web D hn
  have path : ∀ k, k < ts.length → aOf ts k < n - 1 ∧ bOf ts k = aOf ts k + 1 := fun k hk => by
    have hm : ts.getD k (0, 0) ∈ ts := by
      have : ts.getD k (0, 0) = ts[k] := by simp [List.getD, hk]
      rw [this]; exact List.getElem_mem hk
    have h2 : ts.getD k (0, 0) ∈ pathE n := by have := D.mem_iff.mp hm; simpa using this
    exact mem_path.mp h2
  have same : ∀ L ∈ es.map (occ ts ts.length), ∀ i ∈ L, ∀ j ∈ L, ts.getD i (0, 0) = ts.getD j (0, 0) := fun L hL i hi j hj => by
    obtain ⟨e, he, rfl⟩ := List.mem_map.mp hL
    rw [(mem_occ.mp hi).2, (mem_occ.mp hj).2]
  constructor
  · rintro ⟨hx, hB⟩
    refine ⟨hx, fun L hL i hi j hj => ?_⟩
    obtain ⟨s, hs⟩ := hB.cut
    have hi2 : i < ts.length := by obtain ⟨e, _, rfl⟩ := List.mem_map.mp hL; exact (mem_occ.mp hi).1
    have hj2 : j < ts.length := by obtain ⟨e, _, rfl⟩ := List.mem_map.mp hL; exact (mem_occ.mp hj).1
    rw [hs i hi2, hs j hj2]
    have e := same L hL i hi j hj
    unfold aOf bOf
    rw [e]
  · rintro ⟨hx, he⟩
    -- the value on an edge
    have val : ∀ i j, i < ts.length → j < ts.length → aOf ts i = aOf ts j → sel ts.length x i = sel ts.length x j := fun i j hi hj e => by
      have e2 : ts.getD i (0, 0) = ts.getD j (0, 0) := by
        have h1 := (path i hi).2
        have h2 := (path j hj).2
        unfold aOf bOf at *
        exact Prod.ext e (by rw [h1, h2, e])
      obtain ⟨L, hL, hiL⟩ := P.all i hi
      obtain ⟨g, hg, rfl⟩ := List.mem_map.mp hL
      exact he _ hL i hiL j (mem_occ.mpr ⟨hj, by rw [← e2]; exact (mem_occ.mp hiL).2⟩)
    refine ⟨hx, ⟨fun q => xs q fun p => (List.range ts.length).any fun k => decide (aOf ts k = p) && sel ts.length x k, fun k hk => ?_⟩, fun q => ?_⟩
    · rw [(path k hk).2]
      show _ = (xs (aOf ts k) _ ^^ (xs (aOf ts k) _ ^^ _))
      rw [← Bool.xor_assoc, Bool.xor_self, Bool.false_xor]
      cases e : sel ts.length x k with
      | true => exact (List.any_eq_true.mpr ⟨k, List.mem_range.mpr hk, by simp [e]⟩).symm
      | false =>
        refine Eq.symm (List.any_eq_false.mpr fun j hj => ?_)
        by_cases c : aOf ts j = aOf ts k
        · rw [val j k (List.mem_range.mp hj) hk c, e]; simp
        · simp [c]
    · -- each pair meets q twice
      have pm : (List.range ts.length).Perm (es.map (occ ts ts.length)).flatten := by
        have nd2 : (es.map (occ ts ts.length)).flatten.Nodup := by
          have gen : ∀ Q : List (List Nat), (∀ L ∈ Q, L.Nodup) → Q.Pairwise (fun L M => ∀ k, k ∈ L → k ∉ M) → Q.flatten.Nodup := by
            intro Q
            induction Q with
            | nil => intro _ _; exact List.nodup_nil
            | cons L Q ih =>
              intro h1 h2
              obtain ⟨g1, g2⟩ := List.pairwise_cons.mp h2
              rw [List.flatten_cons]
              refine List.nodup_append.mpr ⟨h1 L List.mem_cons_self, ih (fun M hM => h1 M (List.mem_cons_of_mem _ hM)) g2, fun a ha b hb e => ?_⟩
              subst e
              obtain ⟨M, hM, hk⟩ := List.mem_flatten.mp hb
              exact g1 M hM a ha hk
          refine gen _ (fun L hL => ?_) ?_
          · obtain ⟨i, j, rfl, h1, _⟩ := P.two L hL
            simp
            omega
          · refine List.Pairwise.imp_of_mem ?_ P.ord
            intro L M hL hM h k hk hk2
            have := P.dis L hL M hM k hk hk2
            rw [this] at h
            exact Nat.lt_irrefl _ h
        refine (List.perm_ext_iff_of_nodup List.nodup_range nd2).mpr fun k => ?_
        rw [List.mem_range, List.mem_flatten]
        constructor
        · intro hk
          obtain ⟨L, hL, hkL⟩ := P.all k hk
          exact ⟨L, hL, hkL⟩
        · rintro ⟨L, hL, hkL⟩
          obtain ⟨e, _, rfl⟩ := List.mem_map.mp hL
          exact (mem_occ.mp hkL).1
      have e1 : bd ts (sel ts.length x) q = xl (List.range ts.length) fun k => sel ts.length x k && inc ts k q := by
        have := xl_range ts.length (fun _ => true) fun k => sel ts.length x k && inc ts k q
        rw [show (List.range ts.length).filter (fun _ => true) = List.range ts.length from List.filter_eq_self.mpr fun _ _ => rfl] at this
        rw [this]
        rfl
      rw [e1, xl_perm pm]
      have gen : ∀ Q : List (List Nat), (∀ L ∈ Q, L ∈ es.map (occ ts ts.length)) → xl Q.flatten (fun k => sel ts.length x k && inc ts k q) = false := by
        intro Q
        induction Q with
        | nil => intro _; rfl
        | cons L Q ih =>
          intro h
          rw [List.flatten_cons, xl_app, ih fun M hM => h M (List.mem_cons_of_mem _ hM), Bool.xor_false]
          have hL := h L List.mem_cons_self
          obtain ⟨i, j, eL, h1, h2⟩ := P.two L hL
          have hi : i ∈ L := by rw [eL]; simp
          have hj : j ∈ L := by rw [eL]; simp
          have ev := he L hL i hi j hj
          have ei : inc ts i q = inc ts j q := by
            have := same L hL i hi j hj
            unfold inc aOf bOf
            rw [this]
          rw [eL]
          show ((sel ts.length x i && inc ts i q) ^^ ((sel ts.length x j && inc ts j q) ^^ false)) = false
          rw [ev, ei, Bool.xor_false, Bool.xor_self]
      exact gen _ fun _ h => h
end
end BE
end
/-! ## R1 -/
section
set_option Elab.async false
set_option linter.all false
set_option maxRecDepth 100000
set_option maxHeartbeats 4000000
/-! rules of my own over the layer -/
namespace R
open PySem PySem.Spec PyProof.Rows L2

/-! ### data in tuples -/
mutual
inductive Tp (H : Hp) : V → PyData → Prop
  | non : Tp H .non .none
  | bl (b : Bool) : Tp H (.bl b) (.bool b)
  | int (i : Int) : Tp H (.int i) (.int i)
  | str (x : Str) : Tp H (.str x) (.str x)
  | tup {a : Addr} {xs : List V} {ds : List PyData} : H a = some (.tup xs) → Tps H xs ds → Tp H (.ref a) (.tuple ds)
inductive Tps (H : Hp) : List V → List PyData → Prop
  | nil : Tps H [] []
  | cons {v : V} {vs : List V} {d : PyData} {ds : List PyData} : Tp H v d → Tps H vs ds → Tps H (v :: vs) (d :: ds)
end
/-- tuples stay -/
def KT (H H' : Hp) : Prop := ∀ b xs, H b = some (.tup xs) → H' b = some (.tup xs)
theorem KT.refl (H : Hp) : KT H H := fun _ _ e => e
theorem KT.trans {H H1 H2 : Hp} (a : KT H H1) (b : KT H1 H2) : KT H H2 := fun c xs e => b c xs (a c xs e)
theorem kt_same {H H' : Hp} (s : Same H H') : KT H H' := fun b xs e => s b _ e
theorem kt_new {H : Hp} {p : Addr} (o : HO) (n : H p = none) : KT H (upd H p o) := fun b xs e => by rw [upd_ne (ne_of_none e n)]; exact e
theorem kt_lst {H : Hp} {p : Addr} {ys : List V} (o : HO) (n : H p = some (.lst ys)) : KT H (upd H p o) := fun b xs e => by rw [upd_ne (ne_of e n (by intro z; cases z))]; exact e
theorem kt_dK {H : Hp} {p : Addr} {ys : List (L2.Key × V)} (o : HO) (n : H p = some (.dK ys)) : KT H (upd H p o) := fun b xs e => by rw [upd_ne (ne_of e n (by intro z; cases z))]; exact e
theorem same_new {H : Hp} {p : Addr} (o : HO) (n : H p = none) : Same H (upd H p o) := fun b u e => by rw [upd_ne (ne_of_none e n)]; exact e
theorem same_upd {H H' : Hp} {p : Addr} (o : HO) (s : Same H H') (n : H p = none) : Same H (upd H' p o) := fun b u e => by rw [upd_ne (ne_of_none e n)]; exact s b u e
mutual
theorem Tp.mono {H H' : Hp} (k : KT H H') : ∀ {d : PyData} {v : V}, Tp H v d → Tp H' v d
  | .none, _, h => by cases h; exact .non
  | .bool b, _, h => by cases h; exact .bl b
  | .int i, _, h => by cases h; exact .int i
  | .str x, _, h => by cases h; exact .str x
  | .list _, _, h => by cases h
  | .dict _, _, h => by cases h
  | .tuple ds, _, h => by
    cases h with
    | tup e t => exact .tup (k _ _ e) (Tps.mono k t)
theorem Tps.mono {H H' : Hp} (k : KT H H') : ∀ {ds : List PyData} {vs : List V}, Tps H vs ds → Tps H' vs ds
  | [], _, h => by cases h; exact .nil
  | d :: ds, _, h => by
    cases h with
    | cons a t => exact .cons (Tp.mono k a) (Tps.mono k t)
end
mutual
theorem Tp.dp {K : PySem.W.Frag} {H : Hp} : ∀ {d : PyData} {v : V}, Tp H v d → Dp K H v d
  | .none, _, h => by cases h; exact .non
  | .bool b, _, h => by cases h; exact .bl b
  | .int i, _, h => by cases h; exact .int i
  | .str x, _, h => by cases h; exact .str x
  | .list _, _, h => by cases h
  | .dict _, _, h => by cases h
  | .tuple ds, _, h => by
    cases h with
    | tup e t => exact .tup (SqT.of e) (Tps.dp t)
theorem Tps.dp {K : PySem.W.Frag} {H : Hp} : ∀ {ds : List PyData} {vs : List V}, Tps H vs ds → DpAll K H vs ds
  | [], _, h => by cases h; exact .nil
  | d :: ds, _, h => by
    cases h with
    | cons a t => exact .cons (Tp.dp a) (Tps.dp t)
end
theorem Tps.length {H : Hp} : ∀ {ds : List PyData} {vs : List V}, Tps H vs ds → vs.length = ds.length
  | [], _, h => by cases h; rfl
  | d :: ds, _, h => by
    cases h with
    | cons a t => rw [List.length_cons, List.length_cons, Tps.length t]
theorem Tps.get {H : Hp} : ∀ {ds : List PyData} {vs : List V} {i : Nat} {x : V}, Tps H vs ds → vs[i]? = some x → ∃ d, ds[i]? = some d ∧ Tp H x d
  | [], _, i, x, h, e => by cases h; simp at e
  | d :: ds, _, 0, x, h, e => by
    cases h with
    | cons a t => simp at e; subst e; exact ⟨d, rfl, a⟩
  | d :: ds, _, i + 1, x, h, e => by
    cases h with
    | cons a t =>
      obtain ⟨d', h1, h2⟩ := Tps.get t (by simpa using e)
      exact ⟨d', by simpa using h1, h2⟩
theorem Tps.snoc {H : Hp} : ∀ {ds : List PyData} {vs : List V} {d : PyData} {v : V}, Tps H vs ds → Tp H v d → Tps H (vs ++ [v]) (ds ++ [d])
  | [], _, d, v, h, a => by cases h; exact .cons a .nil
  | _ :: ds, _, d, v, h, a => by
    cases h with
    | cons b t => exact .cons b (Tps.snoc t a)
theorem Tp.int_inv {H : Hp} {v : V} {i : Int} (h : Tp H v (.int i)) : v = .int i := by cases h; rfl
theorem Tp.tup_inv {H : Hp} {v : V} {ds : List PyData} (h : Tp H v (.tuple ds)) : ∃ a xs, v = .ref a ∧ H a = some (.tup xs) ∧ Tps H xs ds := by
  cases h with
  | tup e t => exact ⟨_, _, rfl, e, t⟩
/-- a lot, a row: a tuple of numbers -/
def natD (k : Nat) : PyData := .int (k : Int)
def natV (k : Nat) : V := .int (k : Int)
def lotD (L : List Nat) : PyData := .tuple (L.map natD)
theorem tps_nats {H : Hp} : ∀ {L : List Nat} {vs : List V}, Tps H vs (L.map natD) → vs = L.map natV
  | [], _, h => by cases h; rfl
  | k :: L, _, h => by
    cases h with
    | cons a t => rw [Tp.int_inv a, tps_nats t]; rfl
theorem nats_tps {H : Hp} : ∀ (L : List Nat), Tps H (L.map natV) (L.map natD)
  | [] => .nil
  | k :: L => .cons (.int _) (nats_tps L)
theorem lot_inv {H : Hp} {v : V} {L : List Nat} (h : Tp H v (lotD L)) : ∃ a, v = .ref a ∧ H a = some (.tup (L.map natV)) := by
  obtain ⟨a, xs, e, h1, h2⟩ := Tp.tup_inv h
  exact ⟨a, e, by rw [← tps_nats h2]; exact h1⟩
theorem lot_tp {H : Hp} {a : Addr} {L : List Nat} (h : H a = some (.tup (L.map natV))) : Tp H (.ref a) (lotD L) := .tup h (nats_tps L)

/-! ### repr of data -/
theorem call_reprD {X : Cx} (hg : X.A.guards = some []) (hu : X.A.units + 64 < cLine) : CallR X (.builtin "repr") (fun xs H Q => ∃ (a : Addr) (d : PyData), xs = [.ref a] ∧ Dp X.K H (.ref a) d ∧ d.showable = true ∧ d.hasDict = false ∧ d.depth ≤ 60 ∧ d.shown.length ≤ sizeLine ∧ Q (.str d.shown) H) := by
  intro pins s σ H xs us Q I r h
  obtain ⟨a, d, rfl, hd, h1, h2, h3, h4, q⟩ := h
  obtain ⟨u, rfl, ru⟩ := vals1 r
  obtain ⟨as, rd⟩ := Dp.reads I d _ u hd ru
  obtain rfl : u = Value.ref a := ru
  exact repr_of_reads' rd h1 (fun z => by rw [h2] at z; cases z) hg (by omega) (fun _ _ e => e) (fun h' u tk k => ⟨.str d.shown, H, I.kept (t' := tk) k, ⟨u, rfl⟩, q⟩) h4

/-! ### x in a tuple, items of any depth -/
theorem op_inTD {X : Cx} (hu : X.A.units + 65 < cLine) : OpR X (compareOp .In) (fun x y H Q => ∃ d ds, Dp X.K H x d ∧ Dp X.K H y (.tuple ds) ∧ SeqAt.shaped d = true ∧ SeqAt.shaped (.tuple ds) = true ∧ Q (.bl (ds.any fun z => PyData.eqv z d)) H) := by
  intro pins s σ H x y v u Q I rx ry h
  obtain ⟨d, ds, hd, he, sd, se, q⟩ := h
  obtain ⟨as, r1⟩ := Dp.reads I d x v hd rx
  obtain ⟨bs, r2⟩ := Dp.reads I (.tuple ds) y u he ry
  exact SeqAt.in_tuple_reads r2 r1 (SeqAt.canLay_of_shaped se) (SeqAt.canLay_of_shaped sd) (room_in_shaped sd hu) ⟨.bl _, H, I, rfl, q⟩
end R
end
/-! ## R2 -/
section
set_option Elab.async false
set_option linter.all false
set_option maxRecDepth 100000
set_option maxHeartbeats 4000000
namespace R
open PySem PySem.Spec PyProof.Rows L2
/-! ### enumerate(tuple) -/
section
open PySem.W
variable {prog : Program} {w : World} {A : Around} {E : Value → Shared → Prop} {s : Shared}
theorem enumT_new (t : Addr) (items : Array Value) :
    Meets (Builtin.«enumerate.__new__» ⟨[.type "enumerate", .ref t], []⟩) (fun _ R z => z.heap.IsTuple t items ∧
      R (.ok (.ret (.ref (z.heap.push { cls := .type "tuple_iterator", data := .fields #[.ref t, .int 0 0] }).objs.size)))
        { z with heap := (z.heap.push { cls := .type "tuple_iterator", data := .fields #[.ref t, .int 0 0] }).push { cls := .type "enumerate", data := .fields #[.none, .bool false, .ref z.heap.objs.size, rawInt 0, .none, .none] } }) :=
  .of_wp fun pr wo Ar Re z hz => by
    obtain ⟨hp, g, d, tk, os⟩ := z; obtain ⟨h1, hz⟩ := hz
    have hsub := sub_enumerate
    have q2 : ∀ {A2 : Around} {E2 : Value → Shared → Prop} {Q2 : Value → Shared → Prop}, Q2 (.ref hp.objs.size) ⟨hp.push { cls := .type "tuple_iterator", data := .fields #[.ref t, .int 0 0] }, g, d, tk, os⟩ → wpAny (model pr wo) A2 (pyIter (.ref t)) Q2 E2 ⟨hp, g, d, tk, os⟩ :=
      fun q => (begins_tuple t items).iter pr wo _ _ ⟨hp, g, d, tk, os⟩ _ h1 q
    have hT : ∀ {k : Nat}, Shared.TypeIs ⟨hp, g, d, k, os⟩ (.ref t) "tuple" := fun {k} => let ⟨o, a, b, _⟩ := h1; ⟨o, a, b⟩
    wp_walk using q2
    refine wpAny_stack_any fun st => wpAny_pure ?_
    split
    · rename_i cc _ _ _ _ _
      cases (cc == Value.type "enumerate") <;> (wp_walk using q2; exact ⟨_, rfl, hz⟩)
    · (wp_walk using q2); exact ⟨_, rfl, hz⟩
theorem call_enumT {t : Addr} {items : Array Value} {Q : Value → Shared → Prop} (hL : s.heap.IsTuple t items)
    (h : ∀ h', IsEnum h' (s.heap.objs.size + 1) s.heap.objs.size 0 .none → h'.IsTupleIter s.heap.objs.size t 0 → (∀ b o, s.heap.get? b = some o → h'.get? b = some o) → Q (.ref (s.heap.objs.size + 1)) { s with heap := h' }) :
    wpAny (model prog w) A (call (.type "enumerate") [.ref t]) Q E s := by
  refine callType_new F.called_enumerate (by decide) (F.typeCall_enumerate_1 _) (F.newCall_enumerate_1 _) (fun ob => F.args_object_init_2 ob _) F.entry_enumerate_new (enumT_new t items) ⟨hL, ?_⟩
  have z1 : (s.heap.push { cls := .type "tuple_iterator", data := .fields #[.ref t, .int 0 0] }).objs.size = s.heap.objs.size + 1 := Heap.size_push ..
  show _ ∧ _
  rw [z1]
  have en : IsEnum ((s.heap.push { cls := .type "tuple_iterator", data := .fields #[.ref t, .int 0 0] }).push { cls := .type "enumerate", data := .fields #[.none, .bool false, .ref s.heap.objs.size, rawInt 0, .none, .none] }) (s.heap.objs.size + 1) s.heap.objs.size 0 .none := by
    have := Heap.get?_push_size (s.heap.push { cls := .type "tuple_iterator", data := .fields #[.ref t, .int 0 0] }) (o := { cls := .type "enumerate", data := .fields #[.none, .bool false, .ref s.heap.objs.size, rawInt 0, .none, .none] }) rfl
    rw [z1] at this; exact this
  exact ⟨⟨_, en, rfl⟩, h _ en ⟨_, Heap.get?_push_of_some _ (Heap.get?_push_size _ rfl), rfl, rfl⟩ fun b o x => Heap.get?_push_of_some _ (Heap.get?_push_of_some _ x)⟩
end
/-- the tuple at a, each item in a new pair with its place -/
def IteT (K : PySem.W.Frag) (a : Addr) (n : Nat) : It :=
  ⟨fun i H => i < n ∧ ∃ xs : List V, SqT K H a xs ∧ xs.length = n, fun i H v H' => ∃ T x, v = .ref T ∧ H T = none ∧ H' = upd H T (.tup [.int (i : Nat), x]) ∧ ∀ xs, SqT K H a xs → xs[i]? = some x, fun i H => i = n ∧ ∃ xs : List V, SqT K H a xs ∧ xs.length = n⟩
theorem turn_enumT {P : Program} {w : World} {K : PySem.W.Frag} {elts : List Expr} {kk : Nat} {tpos : Pos} (a e it : Addr) (n : Nat) (ha : a ≠ it) (he : a ≠ e) :
    Turn P w K (.Tuple elts kk tpos) (IteT K a n) [e, it] e (fun i h => (∃ old, IsEnum h e it ((i : Nat) : Int) old) ∧ h.IsTupleIter it a i ∧ e ≠ it) where
  mem := List.mem_cons_self ..
  obj := fun i h st b hb => by
    obtain ⟨⟨old, h1⟩, ⟨o, h2, h3, h4⟩, _⟩ := st
    rcases List.mem_cons.mp hb with z | hb
    · subst z; exact ⟨_, h1, fun v q => nomatch q⟩
    · exact ⟨o, by rw [List.mem_singleton.mp hb]; exact h2, fun v q => by rw [h4] at q; cases q⟩
  keep := fun i h h' st k => let ⟨⟨old, h1⟩, h2, h3⟩ := st; ⟨⟨old, k e (List.mem_cons_self ..) _ h1⟩, h2.at fun o q => k it (by simp) o q, h3⟩
  item := by
    intro X e1 e2 e3 hc i pins s σ H E I hf st go
    subst e1 e2 e3
    obtain ⟨⟨old, hE⟩, hI, hne⟩ := st
    obtain ⟨hlt, xs, hq, hn⟩ := go
    obtain ⟨its, rv, tp, hz⟩ := I.tuple hq
    have hl : its.length = n := by rw [← rv.length]; exact hn
    have hel : e < s.heap.objs.size := Heap.lt_size hE
    have hil : it < s.heap.objs.size := by obtain ⟨_, q, _⟩ := hI; exact Heap.lt_size q
    have D := Draws.tuple (prog := X.prog) (w := X.w) (A := X.A.in1) (I.ok.hd hc) it a ha its.toArray
    refine wpAny_pyNext_enum_itemD D hE ⟨hI, tp⟩ (by rw [List.size_toArray, hl]; exact hlt) hne (fun q => ?_) fun u h' tk hu ho st' hT hsz hk => ?_
    · rcases List.mem_cons.mp q with q | q
      · exact hne q
      · exact he (List.mem_singleton.mp q).symm
    have hu' : its[i]? = some u := by simpa using hu
    obtain ⟨x, hx, ru⟩ : ∃ x, xs[i]? = some x ∧ RelV x u := by
      have hi : i < xs.length := by omega
      obtain ⟨u', e1, e2⟩ := rv.get (List.getElem?_eq_getElem hi)
      rw [hu'] at e1
      cases e1
      exact ⟨_, List.getElem?_eq_getElem hi, e2⟩
    refine ⟨_, rfl, wpAny_letOwnedTupleGo_enum (s := { s with heap := h', toks := tk + 1 }) ho fun h'' he' sb => ?_⟩
    have hT2 : h''.get? s.heap.objs.size = some { cls := .type "tuple", data := .seq #[.int i tk, u] } := (sb.2 _ (Nat.ne_of_gt hel)).trans hT
    have new : ObjOk X.prog X.w (upd H s.heap.objs.size (.tup [.int (i : Nat), x])) h'' s.heap.objs.size (.tup [.int (i : Nat), x]) :=
      ⟨by show 2 ≤ sizeLine; decide, [.int i tk, u], .cons ⟨_, rfl⟩ (.cons ru .nil), ⟨_, hT2, rfl, _, rfl⟩⟩
    have I1 : Inv X pins σ (upd H s.heap.objs.size (.tup [.int (i : Nat), x])) { s with heap := h'', toks := tk + 1 } :=
      I.turnedNew (ch := [e, it]) (fun b ob hb q => (sb.2 b fun z => hb (z ▸ List.mem_cons_self ..)).trans (hk b ob (fun z => hb (z ▸ List.mem_cons_self ..)) (fun z => hb (by simp [z])) q)) hf (Nat.le_refl _) new
    refine ⟨.ref s.heap.objs.size, _, I1, rfl, ⟨_, x, rfl, I.hok.fresh (Nat.le_refl _), rfl, fun ys hy => by rw [I.tuple_inj hy hq]; exact hx⟩, ⟨⟨u, ?_⟩, st'.1.at fun o q => (sb.2 it hne.symm).trans q, hne⟩, fun b hb => ?_⟩
    · rw [show ((i + 1 : Nat) : Int) = (i : Int) + 1 by omega]; exact he'
    · have hbl : b < s.heap.objs.size := by
        rcases List.mem_cons.mp hb with z | z
        · rw [z]; exact hel
        · rw [List.mem_singleton.mp z]; exact hil
      rw [upd_ne (Nat.ne_of_lt hbl)]
      exact (hf b hb).1
  done := by
    intro X e1 e2 e3 hc i pins s σ H E I hf st go
    subst e1 e2 e3
    obtain ⟨⟨old, hE⟩, hI, hne⟩ := st
    obtain ⟨hi, xs, hq, hn⟩ := go
    obtain ⟨its, rv, tp, hz⟩ := I.tuple hq
    have hl : its.toArray.size = i := by rw [List.size_toArray, ← rv.length, hn, hi]
    obtain ⟨f0, f1, f2, f3, f4, f5⟩ := hf it (by simp)
    have D := Draws.tuple (prog := X.prog) (w := X.w) (A := X.A.in1) (I.ok.hd hc) it a ha its.toArray
    exact wpAny_pyNext_enum_endD D hE ⟨by rw [hl]; exact hI, tp⟩ fun h' eb => ⟨rfl, I.turned (t' := s.toks) (fun b o hb q => eb b o hb q) f0 f1 f3 f4 f5⟩
  self := fun A i s Q E st h => let ⟨⟨_, h1⟩, _⟩ := st; wpAny_pyIter_enum h1 h
def iEnumT (K : PySem.W.Frag) (ta : TA) : TI := fun σ H R => ta σ H fun vs H1 => ∃ a xs, vs = [.ref a] ∧ SqT K H1 a xs ∧ R (IteT K a xs.length) H1
theorem pi_enumT {X : Cx} {e : Expr} {ta : TA} {p pos tpos : Pos} {elts : List Expr} {kk : Nat} (hg : Gl X "enumerate") (hm : X.mg "enumerate" = none) (ha : PA X [e] ta) (hs : starEach [e] X.env = [(false, eval e X.env)] := by rfl) :
    PI X (.Tuple elts kk tpos) (.Call (.Name "enumerate" p) [e] [] pos) (iEnumT X.K ta) := by
  refine ⟨fun pins s σ H Rr I h => ?_⟩
  refine Call_ (ld_blt I hg hm boot_enumerate (PyProof.Rows.callWith_type1 (thn (ha.run pos pins s σ H _ I h) fun us s1 ⟨vs, H1, I1, r1, a, xs, ex, hq, q⟩ => ?_) hs rfl))
  subst ex
  obtain ⟨u, rfl, ru⟩ := vals1 r1
  obtain rfl : u = Value.ref a := ru
  obtain ⟨its, rv, tp, hz⟩ := I1.tuple hq
  refine call_enumT tp fun h' he hit hk => wpAny_pyIter_enum he ?_
  have I2 : Inv X pins σ H1 { s1 with heap := h' } := I1.kept (t' := s1.toks) hk
  have al : a < s1.heap.objs.size := tp.lt
  refine ⟨s1.heap.objs.size + 1, [s1.heap.objs.size + 1, s1.heap.objs.size], _, _, H1, rfl, I2, turn_enumT a (s1.heap.objs.size + 1) s1.heap.objs.size xs.length (Nat.ne_of_lt al) (Nat.ne_of_lt (Nat.lt_succ_of_lt al)), ⟨⟨.none, he⟩, hit, Nat.succ_ne_self _⟩, fun b hb => ?_, q⟩
  have hle : s1.heap.objs.size ≤ b := by
    rcases List.mem_cons.mp hb with z | z
    · rw [z]; exact Nat.le_add_right _ _
    · rw [List.mem_singleton.mp z]; exact Nat.le_refl _
  exact I1.fpOk hle (I1.hok.fresh hle)
theorem walk_enumT {K : PySem.W.Frag} {a : Addr} {xs : List V} : Walk (IteT K a xs.length) xs.length (fun H => SqT K H a xs) (YPair (fun i => some (.int (i : Nat))) (fun i => xs[i]?)) := by
  refine ⟨fun i _ hi q => ⟨hi, xs, q, rfl⟩, fun _ q => ⟨rfl, xs, q, rfl⟩, fun i H v H' _ q y => ?_⟩
  obtain ⟨T, x, h1, h2, h3, h4⟩ := y
  exact ⟨T, .int (i : Nat), x, h1, h2, h3, rfl, h4 xs q⟩
end R
end
/-! ## R3 -/
section
set_option Elab.async false
set_option linter.all false
set_option maxRecDepth 100000
set_option maxHeartbeats 4000000
namespace R
open PySem PySem.Spec PyProof.Rows L2
/-! ### defs that are called where no guard stands (repr asks it) -/
structure FnG (P : Program) (w : World) (K : PySem.W.Frag) (mg : Str → Option Value) (base : Heap) (CX : CXT) (k : Nat) (f : Addr) (fd : FuncData) (ps : List Str) (sp : Sp) : Prop where
  len : ∀ vs H Q E, sp vs H Q E → vs.length = ps.length
  run : ∀ (A : Around) (outer : List Env) (s : Shared) (H : Hp) (args : Args) (us : List Value) (vs : List V) (Q : VK) (E : XK), A.guards = some [] → Room k A → Env0 P w K mg base A outer s H →
    BindsTo s fd args (ps.zip us) → Vals vs us → sp vs H Q E → codeAny (model P w) A (.call (.ref f) args) (CR CX outer P w H s Q E) s
section
variable {P : Program} {w : World} {K : PySem.W.Frag} {mg : Str → Option Value} {base : Heap} {f : Addr} {N ps : List Str} {k : Nat} {sp : Sp}
/-- Fun.ok with the guards told -/
theorem okG {x qual : Str} {st : Stmt} {fd : FuncData} (F : Fun K x qual st f fd) (S : FnScope N ps (defScope st)) (len : ∀ vs H Q E, sp vs H Q E → vs.length = ps.length)
    (hbody : ∀ (cdv : Value) (A : Around) (outer : List Env) (s : Shared) (H : Hp) (vs : List V) (Q : VK) (E : XK), (A.deeper (envOfC qual (defScope st) s.heap.objs.size f cdv)).guards = some [] → Room k (A.deeper (envOfC qual (defScope st) s.heap.objs.size f cdv)) → sp vs H Q E →
      ∃ t, PSs (cxOf CX0 P w K mg base N qual (defScope st) f cdv A outer s H E).nox (defBody st) t ∧ t { nx := fun _ H' => Q .non H', rt := Q } (start N vs) H) : FnG P w K mg base CX0 (k + 1) f fd ps sp := by
  obtain ⟨oc, od, kV, doc, pm, an, cdv, ct, osl, rfl, lk, hcd⟩ := F.ex
  refine ⟨len, fun A outer s H args us vs Q E hg hr e0 hb r hsp => ?_⟩
  have old : ∀ b o, base.get? b = some o → s.heap.get? b = some o := fun b o e => (e0.bs b o e).1
  have KX : K.In s.heap := e0.mod.kin.keeps old
  have kinds : ∀ y ∈ ps.zip us, (defScope st).names.lookup y.1 = some .local ∨ ((defScope st).names.lookup y.1 = some .cell ∧ ((cellsFrom (s.heap.objs.size + 1) (defScope st).names []).lookup y.1).isSome = true) := fun ⟨n, v⟩ hy =>
    (S.par n (List.of_mem_zip hy).1).imp id fun q => ⟨q, PySem.W.cellsFrom_some _ _ _ (.inl q)⟩
  refine codeAny_call_function hr.depth (KX _ _ lk) rfl S.co S.gen rfl (PySem.W.codeRec_of KX hcd) (hb _ _ _ _ ?_)
  refine wpAny_newFunctionEnv_cells S.kind kinds fun env he s1 x => ?_
  subst he
  refine ⟨(e0.mod.nolimit.keeps old).keeps x.toInCall.keep, codeAny_func ?_⟩
  obtain ⟨t, ht, hq⟩ := hbody cdv A outer s H vs Q E hg (hr.deeper _) hsp
  have I : Inv (cxOf CX0 P w K mg base N qual (defScope st) f cdv A outer s H E) [] (start N vs) H s1 := inv_start S hr.hd e0 (len _ _ _ _ hsp) r x
  refine wpAny_mono (ht.nox.run [] s1 (start N vs) H _ I hq) (fun fl s' hs => ?_) fun _ _ z => z
  match fl, hs with
  | .ret u, ⟨v, σ', H', J, rv, q⟩ => exact ⟨v, H', J.os, J.bare, J.base, J.hok, rv, q⟩
  | .next, ⟨σ', H', J, q⟩ => exact ⟨V.non, H', J.os, J.bare, J.base, J.hok, rfl, q⟩
  | .brk, ⟨_, _, _, q⟩ => exact q.elim
  | .cont, ⟨_, _, _, q⟩ => exact q.elim
end
section
variable {X : Cx} {CX : CXT} {k : Nat} {f : Addr} {fd : FuncData} {ps : List Str} {sp : Sp} {E : XK} {x : Str} {p pos : Pos} {e : Expr} {es : List Expr} {t : TA}
theorem pe_callG (F : FnG X.prog X.w X.K X.mg X.base CX0 k f fd ps sp) (hg : X.A.guards = some []) (hr : Room k X.A) (hgl : Gl X x) (hm : X.mg x = some (.ref f)) (hk : PySem.W.keepIn X.K (.ref f) = true) (hb : Binds X.K fd ps [])
    (ha : PA X (e :: es) t) (hdb : (x == ("__debug__" : Str)) = false := by decide) (he : starEach (e :: es) X.env = (false, eval e X.env) :: starEach es X.env := by rfl) (hpl : (backTo pos (starEach es X.env)).any (·.1) = false := by rfl) :
    PE X (.Call (.Name x p) (e :: es) [] pos) (fun σ H Q => t σ H fun vs H1 => sp vs H1 Q E0) := by
  refine ⟨fun pins s σ H Q I h => ?_⟩
  refine wpAny_Call_Name_kw (ld_glob I hgl hm ?_ hdb)
  refine PySem.W.callWith_K (h₀ := X.base) I.ok.mod.kin hk (thn (ha.run pos pins s σ H _ I h) fun us s1 ⟨vs, H1, I1, r, q⟩ => ⟨I1.kIn, ?_⟩) he hpl
  have hl : us.length = ps.length := by rw [← r.length]; exact F.len _ _ _ _ q
  have bb : BindsTo s1 fd ⟨us, []⟩ (ps.zip us) := by
    have z := hb s1 us I1.kIn (by rw [List.append_nil]; exact hl)
    rw [List.append_nil] at z
    exact z
  refine wpAny_call (codeAny_mono (F.run X.A X.stack s1 H1 ⟨us, []⟩ us vs Q E0 hg hr I1.env0 bb r q) fun rr s' hq => ?_)
  match rr, hq with
  | .error _, hq => exact hq.elim
  | .ok (.ret u), hq => exact I1.after hq
  | .ok .next, hq => exact False.elim hq
  | .ok .brk, hq => exact False.elim hq
  | .ok .cont, hq => exact False.elim hq
end
/-- the head, the law's def one of these -/
theorem law_callG {P : Program} {w : World} {K : PySem.W.Frag} {mg mb : Str → Option Value} {k : Nat} {fa a : Addr} {fd : FuncData} {x : Str} {sp : Sp} {s₁ : Shared} {vs : List Value} {ns : List Int}
    (KX : K.In s₁.heap) (hns : s₁.heap.Ns mainGlobals mg) (hb : s₁.heap.Ns builtinsNs mb) (hbb : ∀ x : Str, x ≠ "__name__" → mb x = bootBuiltins x) (hlim : s₁.heap.NoLimit) (hg : s₁.gens = #[])
    (ha : s₁.heap.get? a = some { cls := .type "list", data := .seq vs.toArray }) (hi : IntsAre vs ns) (hl : ns.length ≤ sizeLine) (hr : Room k callerA)
    (F : ∀ base : Heap, K.In base → base.Ns mainGlobals mg → FnG P w K mg base CX0 k fa fd [x] sp) (hbind : ∀ (s : Shared) (u : Value), BindsTo s fd ⟨[u], []⟩ [(x, u)])
    (hsp : ∀ H : Hp, Only H → SqL K H a (ns.map V.int) → sp [.ref a] H (fun v _ => v = .bl true) fun _ _ _ => False) :
    codeAny (model P w) callerA (.call (.ref fa) ⟨[.ref a], []⟩) (fun r s' => r = .ok (.ret (.bool true)) ∧ OldK s₁.heap s'.heap ∧ s'.os = s₁.os ∧ AllBare s'.gens) s₁ := by
  have rv := vals_ints hi
  have core : ∀ H : Hp, Only H → SqL K H a (ns.map V.int) → HOk P w H s₁.heap → (∀ b, H b ≠ none → b = a ∧ K.lookup a = none) →
      codeAny (model P w) callerA (.call (.ref fa) ⟨[.ref a], []⟩) (fun r s' => r = .ok (.ret (.bool true)) ∧ OldK s₁.heap s'.heap ∧ s'.os = s₁.os ∧ AllBare s'.gens) s₁ := by
    intro H hO hS hok hA
    have notA : ∀ {b : Addr}, b ≠ a ∨ K.lookup a ≠ none → H b = none := fun {b} z => by
      cases q : H b with
      | none => rfl
      | some u =>
        obtain ⟨q1, q2⟩ := hA b (by rw [q]; simp)
        exact z.elim (fun y => absurd q1 y) fun y => absurd q2 y
    have nsK : ∀ {b : Addr} {m : Str → Option Value}, s₁.heap.Ns b m → (hidT s₁.heap H).Ns b m := fun {b m} ⟨o, es, ep, e, d, r⟩ => ⟨o, es, ep, hidT_get e (notA (.inl fun z => by
      rw [z, ha] at e
      rw [← Option.some.inj e] at d
      cases d)), d, r⟩
    have hKb : K.In (hidT s₁.heap H) := fun b o e => hidT_get (KX b o e) (by
      by_cases z : b = a
      · exact notA (.inr (by rw [← z, e]; simp))
      · exact notA (.inl z))
    have hM : Mod K mg (hidT s₁.heap H) := ⟨hKb, nsK hns, ⟨mb, nsK hb, hbb⟩, let ⟨mc, h1, h2⟩ := hlim; ⟨mc, nsK h1, h2⟩⟩
    have env : Env0 P w K mg (hidT s₁.heap H) callerA [] s₁ H := ⟨rfl, hM, fun b o e => of_hidT e, Nat.le_of_eq (hidT_size _ _), trivial, fun b z => absurd (show b ∈ ([] : List Addr) from z) (by simp), hok, .of_eq hg⟩
    refine codeAny_mono ((F _ hKb (nsK hns)).run callerA [] s₁ H ⟨[.ref a], []⟩ [.ref a] [.ref a] _ _ rfl hr env (hbind s₁ (.ref a)) (.cons rfl .nil) (hsp H hO hS)) fun r s' h => ?_
    match r, h with
    | .error _, h => exact h.elim
    | .ok .next, h => exact False.elim h
    | .ok .brk, h => exact False.elim h
    | .ok .cont, h => exact False.elim h
    | .ok (.ret u), ⟨v, H', os, bare, un, hok', rr, q⟩ =>
      have q1 : v = .bl true := q
      subst q1
      obtain rfl : u = Value.bool true := rr
      refine ⟨rfl, OldK.of_keep fun b o e => ?_, os, bare⟩
      rcases hO b with z | ⟨ob, xs, z⟩
      · exact un.keep b o e z (fun y => absurd (show b ∈ ([] : List Addr) from y) (by simp)) (by simp)
      · obtain ⟨g1, _⟩ := hok b _ z
        obtain ⟨g2, _⟩ := hok' b _ (un.frzs b ob _ z)
        exact g2.trans (g1.symm.trans e)
  cases hk : K.lookup a with
  | some o =>
    have e := (KX a o hk).symm.trans ha
    cases e
    exact core (fun _ => none) (fun _ => .inl rfl) (.inr ⟨_, vs.toArray, _, hk, rfl, rfl, rfl, by rw [List.size_toArray, hi.length]; exact hl, by simpa using rv⟩) (fun b u (z : (none : Option HO) = some u) => by cases z) fun b z => absurd rfl z
  | none =>
    have only : ∀ {b : Addr} {u : HO}, (if b = a then some (HO.frz { cls := .type "list", data := .seq vs.toArray } (.lst (ns.map V.int))) else none) = some u → b = a ∧ HO.frz { cls := .type "list", data := .seq vs.toArray } (.lst (ns.map V.int)) = u := fun {b u} z => by
      by_cases c : b = a
      · rw [if_pos c] at z; exact ⟨c, Option.some.inj z⟩
      · rw [if_neg c] at z; cases z
    refine core (fun b => if b = a then some (.frz { cls := .type "list", data := .seq vs.toArray } (.lst (ns.map V.int))) else none) (fun b => ?_) (.inl (.inr ⟨{ cls := .type "list", data := .seq vs.toArray }, if_pos rfl⟩)) (fun b u z => ?_) fun b z => ?_
    · by_cases c : b = a
      · exact .inr ⟨_, _, if_pos c⟩
      · exact .inl (if_neg c)
    · obtain ⟨c, rfl⟩ := only z
      subst c
      exact ⟨ha, by rw [List.length_map]; exact hl, vs, _, rv, ha⟩
    · by_cases c : b = a
      · exact ⟨c, hk⟩
      · exact absurd (if_neg c) z
theorem walk_ofG {l : PySem.W.OpenLaw} {n k : Nat} {q : Program} {loose : List Str} {XP : (Str → Option Value) → Heap → Prop} {YP : World → Heap → Prop} {d : DefRec} {K : Params → PySem.W.Frag} {sp : PySem.W.Frag → Sp} {x : Str}
    (hn : l.most = some n) (hn2 : n ≤ sizeLine) (hdf : d.params.defaults = []) (hr : Room k callerA) (hY : ∀ (w : World) (h : Heap), YP w h → (K w.params).In h)
    (F : ∀ (w : World) (mg : Str → Option Value) (fa : Addr) (h : Heap), (K w.params).In h → h.Ns mainGlobals mg → mg d.name = some (.ref fa) →
      ∃ fd : FuncData, (∀ (s : Shared) (u : Value), BindsTo s fd ⟨[u], []⟩ [(x, u)]) ∧ ∀ base : Heap, (K w.params).In base → base.Ns mainGlobals mg → FnG l.prog w (K w.params) mg base CX0 k fa fd [x] (sp (K w.params)))
    (hsp : ∀ (K : PySem.W.Frag) (H : Hp) (a : Addr) (ns : List Int), ns.length ≤ n → SqL K H a (ns.map V.int) → sp K [.ref a] H (fun v _ => v = .bl true) fun _ _ _ => False) :
    PySem.W.WalkO q loose XP YP l.row.toRowW d [] (fun f vs => PySem.call f vs) := by
  refine Att.attach_call hn hdf fun w s₀ s₁ mg mb fa o pm cd doc a vs ns G Y ho hd hcd hmg hobj hints hlen hg => ?_
  obtain ⟨fd, hb, hF⟩ := F w mg fa _ (hY w _ Y) G.T.g hmg
  exact law_callG (hY w _ Y) G.T.g G.T.b G.T.builtins G.T.nolimit hg hobj hints (Nat.le_trans hlen hn2) hr hF hb fun H _ hS => hsp _ H a ns hlen hS
end R
end
/-! ## R4 -/
section
set_option Elab.async false
set_option linter.all false
set_option maxRecDepth 100000
set_option maxHeartbeats 4000000
namespace R
open PySem PySem.Spec PyProof.Rows L2
section
variable {X : Cx} {CX : CXT} {k : Nat} {f : Addr} {fd : FuncData} {ps ks : List Str} {sp : Sp} {E : XK} {x : Str} {p pos : Pos} {kws : List Keyword} {tk : TA} {g : List Value → List Value → List Value} {gV : List V → List V → List V}
/-- f(k = v, ..) -/
theorem pe_callW (F : FnOk X.prog X.w X.K X.mg X.base CX k f fd ps sp) (hr : Room k X.A) (hgl : Gl X x) (hm : X.mg x = some (.ref f)) (hk : PySem.W.keepIn X.K (.ref f) = true) (hb : KBn X.K fd ps 0 ks g gV) (hx : Passes CX X E)
    (hkw : PK X kws tk) (hall : (backToKw pos (keywordEach kws X.env)).all (·.1.isSome) = true := by rfl) (hks : (backToKw pos (keywordEach kws X.env)).filterMap (·.1) = ks := by rfl) (hdb : (x == ("__debug__" : Str)) = false := by decide)
    (hpl : ((backTo pos (starEach [] X.env)).any (·.1) || (backToKw pos (keywordEach kws X.env)).any (·.1.isNone)) = false := by rfl) :
    PE X (.Call (.Name x p) [] kws pos) (fun σ H Q => tk σ H fun zs H2 => zs.length = ks.length ∧ sp (gV [] zs) H2 Q E) := by
  refine ⟨fun pins s σ H Q I hw => ?_⟩
  refine wpAny_Call_Name_kw (ld_glob I hgl hm ?_ hdb)
  refine PySem.W.callWith_KW0 (h₀ := X.base) I.ok.mod.kin hk hall (thn (hkw.run pos pins s σ H _ I hw) fun ws s2 ⟨zs, H2, I2, rz, l2, q2⟩ => ⟨I2.kIn, ?_⟩) hpl
  rw [hks]
  exact run_fnN (us := []) (vs := []) F hr hb hx I2 .nil rz rfl l2 q2
end

/-! ### B.__init__(self, ..), B a class of the text over ValueError without __init__ of its own -/
structure BaseC (K : PySem.W.Frag) (B : Addr) (mc : Value) : Prop where
  ga : PySem.W.specialIn K (.ref B) "__getattribute__" = some (some (.builtin "type.__getattribute__"))
  rd : PySem.W.readsIn K B mc = true
  fi : PySem.W.findCls K (.ref B) mc "__init__" = some (.val (.builtin "ValueError.__init__"))
theorem pe_binit {X : Cx} {B : Addr} {mc : Value} {x : Str} {e : Expr} {es : List Expr} {ta : TA} {p1 p2 pos : Pos} {pl : Sem Bool} (hgl : Gl X x) (hm : X.mg x = some (.ref B)) (T : BaseC X.K B mc) (ha : PA X (e :: es) ta)
    (hc : eval (.Call (.Attribute (.Name x p1) "__init__" p2) (e :: es) [] pos) X.env = (do
      let ov ← eval (.Name x p1) X.env
      standAt p2.atName
      let (f, first) ← holding [ov] (getMethod ov "__init__" pl)
      callWith pos f first (backTo pos (starEach (e :: es) X.env)) (backToKw pos (keywordEach [] X.env))) := by rfl)
    (hdb : (x == ("__debug__" : Str)) = false := by decide) (he : starEach (e :: es) X.env = (false, eval e X.env) :: starEach es X.env := by rfl) (hpl : (backTo pos (starEach es X.env)).any (·.1) = false := by rfl) :
    PE X (.Call (.Attribute (.Name x p1) "__init__" p2) (e :: es) [] pos) (tVeI X.K ta) := by
  refine ⟨fun pins s σ H Q I hw => ?_⟩
  refine PySem.W.methodCall_KW (ld_glob I hgl hm ?_ hdb) hc
  refine PySem.W.method_cls I.kIn T.ga (PySem.W.cls_value I.kIn T.rd T.fi (by decide +kernel) ?_)
  show wpAny _ _ (callWith pos (Value.builtin "ValueError.__init__") [] (backTo pos (starEach (e :: es) X.env)) []) _ _ _
  refine PyProof.Rows.callWith_method1 (thn (ha.run pos pins _ σ H _ (I.tok _) hw) fun us s1 ⟨vs, H1, I1, r1, a, C, ws, ev, hl, TC, ea, q⟩ => ?_) he hpl
  subst ev
  cases r1 with
  | @cons _ u0 _ ur ra rw' =>
    obtain rfl : u0 = Value.ref a := ra
    have hz : ur.length ≤ sizeLine := by rw [← Paired.length rw', sizeLine_eq]; omega
    exact oinit_ok TC I1 ea hz fun s' J => ⟨.non, H1, J, rfl, q⟩

/-! ### C(), an exception of a class of the text whose __init__ leaves no attribute -/
section
variable {X : Cx} {p pos : Pos}
theorem mk_bare {pins : List (Addr × Obj)} {σ : L2.St} {H1 H2 : Hp} {Q : XK} {hp hp2 h2 : Heap} {g1 g2 : Array GenState} {d1 d2 : Drawn} {t1 t2 : Nat} {os1 os2 : OsState} {a C : Addr} (T : Raises X (.ref C)) (I1 : Inv X pins σ H1 ⟨hp, g1, d1, t1, os1⟩)
    (ha : hp.objs.size ≤ a) (kk : ∀ b o, hp.get? b = some o → hp2.get? b = some o) (un : Un (frs X.stack) [] (upd H1 a (exo a C none)) H2 hp2 h2) (hok : HOk X.prog X.w H2 h2) (ho : os2 = os1) (hb : AllBare g2)
    (ea : H2 a = some (exo a C none)) (q : Q (.ref C) none (del H2 a)) : MkP X pins σ Q (.ref a) ⟨h2, g2, d2, t2, os2⟩ := by
  obtain ⟨t0, hoe⟩ := exo_at hok ea
  have na1 : H1 a = none := I1.hok.fresh ha
  obtain ⟨G, gOn, gOff⟩ := restrict h2 fun b => decide (b ≠ a)
  have gk : ∀ b, b ≠ a → G.get? b = h2.get? b := fun b z => gOn b (decide_eq_true z)
  have ga : G.get? a = none := gOff a (by simp)
  have ne : ∀ {b : Addr} {o : Obj}, hp.get? b = some o → b ≠ a := fun {b o} z => Nat.ne_of_lt (Nat.lt_of_lt_of_le (Heap.lt_size z) ha)
  have hid : ∀ {b : Addr} {o : Obj}, hp.get? b = some o → H1 b = none → upd H1 a (exo a C none) b = none := fun {b o} z n => by rw [upd_ne (ne z)]; exact n
  have tr : ∀ {b : Addr} {u : HO}, H1 b = some u → upd H1 a (exo a C none) b = some u := fun {b u} z => by rw [upd_ne (ne_of_none z na1)]; exact z
  have Uf : Un (frs X.stack) [] H1 (del H2 a) hp G := {
    keep := fun b o z n hf hx => (gk b (ne z)).trans (un.keep b o (kk b o z) (hid z n) hf hx)
    slot := fun b o z n hf hx => let ⟨sl, y⟩ := un.slot b o (kk b o z) (hid z n) hf hx; ⟨sl, (gk b (ne z)).trans y⟩
    free := fun b o z n hx => (del_ne (ne z)).trans (un.free b o (kk b o z) (hid z n) hx)
    there := fun b o z hx => let ⟨o', y⟩ := un.there b o (kk b o z) hx; ⟨o', (gk b (ne z)).trans y⟩
    tups := fun b l z => (del_ne (ne_of_none z na1)).trans (un.tups b l (tr z))
    frzs := fun b o v z => (del_ne (ne_of_none z na1)).trans (un.frzs b o v (tr z))
    tbls := fun b l z => let ⟨m, y⟩ := un.tbls b l (tr z); ⟨m, (del_ne (ne_of_none z na1)).trans y⟩ }
  have hok3 : HOk X.prog X.w (del H2 a) G := fun b o z => by
    have hba : b ≠ a := fun e => by rw [e, del_same] at z; cases z
    rw [del_ne hba] at z
    refine (hok b o z).stay (fun c v hc y => (gk c ?_).trans y) (fun c hc => (del_ne (at_ne ea hc exo_own)).trans hc) fun c l hc => (del_ne (at_ne ea hc exo_tup)).trans hc
    rcases hc with hc | hc
    · rw [hc]; exact hba
    · exact at_ne ea hc exo_own
  have J : Inv X pins σ (del H2 a) ⟨G, g2, d2, t2, os2⟩ := I1.call' (ch := []) ho Uf hok3 hb (fun b z => absurd z (by simp))
  refine ⟨a, _, _, ⟨G, g2, d2, t2, os2⟩, _, .ref C, none, rfl, J, fun b o z => ?_, ga, hoe, ⟨rfl, rfl⟩, rfl, rfl, del_same, rfl, hb, T, q⟩
  by_cases hba : b = a
  · have z' : G.get? b = some o := z
    rw [hba, ga] at z'
    cases z'
  · exact (gk b hba).symm.trans z
theorem pmk_bare {CX : CXT} {x : Str} {C fI : Addr} {k : Nat} {fd : FuncData} {sp : Sp} (T : OexC X.K C) (iC : PySem.W.findIn X.K (.ref C) "__init__" = some (some (.ref fI))) (tI : PySem.W.typeIn X.K (.ref fI) = some (.type "function"))
    (F1 : FnOk X.prog X.w X.K X.mg X.base CX k fI fd ["self"] sp) (hr : Room (k + 1) X.A) (hb : Binds X.K fd ["self"] []) (hx : Passes CX X (fun _ _ _ => False)) (hgl : Gl X x) (hm : X.mg x = some (.ref C)) (hdb : (x == ("__debug__" : Str)) = false := by decide) :
    PMk X (.Call (.Name x p) [] [] pos) (fun σ H Q => ∀ a, H a = none → sp [.ref a] (upd H a (exo a C none)) (fun v H2 => v = .non ∧ H2 a = some (exo a C none) ∧ Q (.ref C) none (del H2 a)) fun _ _ _ => False) := by
  intro pins s σ H Q I hw
  obtain ⟨nm, qn, N, bs, bm, sn, sub, ab, col, dd, k0, k1, k2, k3, k5, hC, hbm⟩ := T.cls
  refine wpAny_Call_Name_kw (ld_glob I hgl hm ?_ hdb)
  refine PySem.W.callWith_K0 I.kIn T.kC ?_
  show wpAny _ _ (call (.ref C) []) _ _ _
  obtain ⟨hp, g, dr, tk, os⟩ := s
  have hsz : hp.objs.size ≤ hp.objs.size + 1 := Nat.le_succ _
  have hq := hw (hp.objs.size + 1) (I.hok.fresh hsz)
  have kk : ∀ b o, hp.get? b = some o → ((hp.push (PySem.W.kdv_tup [])).push (PySem.HandSPX.excO C hp.objs.size)).get? b = some o := fun b o e => Heap.get?_push_of_some _ (Heap.get?_push_of_some _ e)
  have hat : ((hp.push (PySem.W.kdv_tup [])).push (PySem.HandSPX.excO C hp.objs.size)).get? (hp.objs.size + 1) = some (PySem.HandSPX.excO C hp.objs.size) := by heap_get
  have I2 : Inv X pins σ (upd H (hp.objs.size + 1) (exo (hp.objs.size + 1) C none)) ⟨(hp.push (PySem.W.kdv_tup [])).push (PySem.HandSPX.excO C hp.objs.size), g, dr, tk, os⟩ :=
    I.laid (t' := tk) (a := hp.objs.size + 1) (h' := (hp.push (PySem.W.kdv_tup [])).push (PySem.HandSPX.excO C hp.objs.size)) kk hsz (exo_ok hat)
  refine wpAny_call (PySem.HandSPX.call_own F.excBase_ValueError (fun Y => PySem.HandSPX.refsVE_contains Y bm hbm) (I.kIn _ _ hC) (PySem.W.looks_findIn I.kIn iC) (fun self => PySem.W.bind_fn I.kIn self tI) (by show 0 ≤ sizeLine; exact Nat.zero_le _)
    (codeAny_mono (F1.run _ X.stack _ _ ⟨[Value.ref (hp.objs.size + 1)], []⟩ [Value.ref (hp.objs.size + 1)] _ _ (fun _ _ _ => False) (hr.make C [] []) (I2.env0.make C [] []) (hb _ [Value.ref (hp.objs.size + 1)] I2.kIn rfl) (show Vals [V.ref (hp.objs.size + 1)] [Value.ref (hp.objs.size + 1)] from .cons rfl .nil) hq) fun r s' hr' => ?_))
  match r, hr' with
  | .error er, hr' => exact hx pins σ _ _ er s' I2 hr'
  | .ok .next, hr' => exact False.elim hr'
  | .ok .brk, hr' => exact False.elim hr'
  | .ok .cont, hr' => exact False.elim hr'
  | .ok (.ret u), ⟨v, H2, os2, bare2, un2, hok2, rv, ev, ea, q2⟩ =>
    subst ev
    obtain ⟨h2, g2, d2, t2, os'⟩ := s'
    exact ⟨rv, mk_bare (raises_own T.exC T.tyC) I hsz kk un2 hok2 os2 bare2 ea q2⟩
end
end R
end
/-! ## R5 -/
section
set_option Elab.async false
set_option linter.all false
set_option maxRecDepth 100000
set_option maxHeartbeats 4000000
namespace R
open PySem PySem.Spec PyProof.Rows L2
/-! ### try: .. except x1: .. except x2 as n: .. (more clauses behind: never reached) -/
def wTwo (K : PySem.W.Frag) (c1 c2 : Value) (i : Nat) (t1 t2 : Addr → Value → Option Addr → TS) (D : Ends) : WX := fun cls d σ H =>
  (PySem.W.exmOne K cls c1 = some true ∧ ∀ a, H a = none → t1 a cls d D σ H) ∨
  (PySem.W.exmOne K cls c1 = some false ∧ PySem.W.exmOne K cls c2 = some true ∧ ∀ a, H a = none →
    t2 a cls d { nx := fun σ' H' => D.nx (σ'.set i none) H', rt := D.rt, bk := fun σ' H' => D.bk (σ'.set i none) H', ct := fun σ' H' => D.ct (σ'.set i none) H' } (σ.set i (some (.ref a))) H)
section
variable {X : Cx} {x1 x2 n : Str} {c1 c2 : Value} {i : Nat} {body suite1 suite2 : List Stmt} {b1 b2 : Stmt} {np1 np2 pos ps1 ps2 : Pos} {tb : WX → TS} {t1 t2 : Addr → Value → Option Addr → TS} {more : List ExceptHandler}
theorem ps_try_two (hs : X.stack = X.env :: X.outer) (hf : X.env.frame = some X.env.locals) (hN : X.N.Nodup) (hi : X.N[i]? = some n) (hln : X.env.kindOf n = some .local) (hc1 : Names X x1 c1) (hc2 : Names X x2 c2)
    (hb : ∀ (W : WX) (pn : List (Addr × Obj)) (xe : Value → Shared → Prop), Takes (X.tr pn xe) W → PassesOwn (model X.prog X.w) X.A X.env xe → PSs (X.tr pn xe) body (tb W))
    (hs1 : ∀ (a : Addr) (oe : Obj) (cls : Value) (d : Option Addr) (pn : List (Addr × Obj)), Zc cls d oe → (∃ vs, oe.data = .fields vs) → PSs (X.suite a ((a, oe) :: pn)) (b1 :: suite1) (t1 a cls d))
    (hs2 : ∀ (a : Addr) (oe : Obj) (cls : Value) (d : Option Addr) (pn : List (Addr × Obj)), Zc cls d oe → (∃ vs, oe.data = .fields vs) → PSs (X.suite a ((a, oe) :: pn)) (b2 :: suite2) (t2 a cls d)) :
    PS X (.Try body (.ExceptHandler (some (.Name x1 np1)) none (b1 :: suite1) ps1 :: .ExceptHandler (some (.Name x2 np2)) (some n) (b2 :: suite2) ps2 :: more) [] [] pos) (fun D σ H => tb (wTwo X.K c1 c2 i t1 t2 D) D σ H) := by
  refine ⟨fun pins s σ H D I hw => ?_⟩
  have ok := I.ok
  have hfr : X.A.frames = some (X.env :: X.outer) := ok.frames.trans (congrArg some hs)
  refine wpAny_Try_except ?_
  let hds : List ExceptHandler := .ExceptHandler (some (.Name x1 np1)) none (b1 :: suite1) ps1 :: .ExceptHandler (some (.Name x2 np2)) (some n) (b2 :: suite2) ps2 :: more
  refine wpAny_mono ((hb (wTwo X.K c1 c2 i t1 t2 D) (X.pn ++ pins) (fun e z1 => wpAny (model X.prog X.w) X.A (noteFrame e X.env) (fun _ z2 => wpAny (model X.prog X.w) X.A (setFlight e none) (fun _ z3 =>
    wpAny (model X.prog X.w) X.A (handleBy e X.env hds) (SP X pins D) X.xe z3) X.xe z2) X.xe z1) (fun u s' xx => ?_) PassesOwn.looking).run [] s σ H D (I.toTry _) hw) (fun fl z1 hz => ?_) (fun e z1 he => he)
  · obtain ⟨a, B, sI, pins', σ', H', cls, d, rfl, J', nb, up, sky, na, os, ag, w⟩ := xx
    have J : Inv X pins σ' H' sI := J'.ofTry ok
    have sky2 : Sky B (X.env :: X.outer) a (Zc cls d) X.env.locals s'.heap := hs ▸ sky
    show wpAny (model X.prog X.w) X.A (noteFrame (.ref a) X.env) _ _ _
    refine Sky.land Zc.steady hfr hf sky2 fun h3 fl3 up3 => ?_
    have J3 : Inv X pins σ' H' { s' with heap := h3 } := J.landed nb fl3.1 (up.trans up3) os ag
    obtain ⟨oe3, vs3, he3, hz3, hd3⟩ := fl3.there
    have nfr : a ∉ frs (X.env :: X.outer) := fun hm => by
      obtain ⟨_, o', e', hnf⟩ := fl3.2.2.1.mem hm
      rw [he3] at e'
      cases e'
      exact hnf _ hd3
    have nL : a ≠ X.env.locals := fun z => nfr (List.mem_filterMap.mpr ⟨X.env, List.mem_cons_self, hf.trans (congrArg some z.symm)⟩)
    have nF : a ∉ X.fs := fun hm => let ⟨e, he, q⟩ := List.mem_filterMap.mp hm; nfr (List.mem_filterMap.mpr ⟨e, List.mem_cons_of_mem _ he, q⟩)
    have S3 := J3.suite he3 hd3 na nL nF
    have LT : PySem.W.Looks (model X.prog X.w) h3 (typeOf (.ref a)) cls := fun A Q E s k q => wpAny_typeOf_ref (k _ _ he3) (by rw [hz3.1]; exact q)
    have named : ∀ {x : Str} {c : Value} {np : Pos}, Names X x c → ∀ {Q : Value → Shared → Prop} {E : Value → Shared → Prop}, Q c { s' with heap := h3 } → wpAny (model X.prog X.w) (X.A.mark (some (.ref a))) (eval (.Name x np) X.env) Q E { s' with heap := h3 } := fun {x c np} hc {Q E} q => by
      obtain ⟨hgl, hdbg, hm | ⟨hm, hv, hnn⟩⟩ := hc
      · exact ld_glob (X := X.suite a ((a, oe3) :: (X.pn ++ pins))) S3 hgl hm q hdbg
      · exact ld_blt (X := X.suite a ((a, oe3) :: (X.pn ++ pins))) S3 hgl hm hv q hnn hdbg
    refine wpAny_handleBy_cons (codeAny_handlers_test ?_) (by intro q; cases q)
    rcases w with ⟨m1, yes⟩ | ⟨m1, m2, yes⟩
    · refine named hc1 ((PySem.W.exm_one (M := model X.prog X.w) J3.kIn LT m1).here ?_)
      refine codeAny_handlers_suite ?_
      refine HandSPX.lands_againZ fl3 fun h4 fl4 up4 => ?_
      have J4 : Inv X pins σ' H' { s' with heap := h4 } := J.landed nb fl4.1 ((up.trans up3).trans up4) os ag
      obtain ⟨oe4, vs4, he4, hz4, hd4⟩ := fl4.there
      refine wpAny_mono ((hs1 a oe4 cls d (X.pn ++ pins) hz4 ⟨_, hd4⟩).run [] _ _ H' _ (J4.suite he4 hd4 na nL nF) (yes a na)) (fun fl z6 hz => ?_) (fun _ _ z => False.elim z)
      match fl, hz with
      | .next, ⟨_, _, S6, q6⟩ => exact ⟨_, _, S6.unsuite ok, q6⟩
      | .brk, ⟨_, _, S6, q6⟩ => exact ⟨_, _, S6.unsuite ok, q6⟩
      | .cont, ⟨_, _, S6, q6⟩ => exact ⟨_, _, S6.unsuite ok, q6⟩
      | .ret u, ⟨_, _, _, S6, r6, q6⟩ => exact ⟨_, _, _, S6.unsuite ok, r6, q6⟩
    · refine named hc1 ((PySem.W.exm_one (M := model X.prog X.w) J3.kIn LT m1).here ?_)
      show wpAny _ X.A (handleBy (.ref a) X.env (.ExceptHandler (some (.Name x2 np2)) (some n) (b2 :: suite2) ps2 :: more)) _ _ _
      refine wpAny_handleBy_cons (codeAny_handlers_test ?_) (by intro q; cases q)
      refine named hc2 ((PySem.W.exm_one (M := model X.prog X.w) J3.kIn LT m2).here ?_)
      refine codeAny_handlers_suite_as ?_
      refine HandSPX.lands_againZ fl3 fun h4 fl4 up4 => ?_
      have J4 : Inv X pins σ' H' { s' with heap := h4 } := J.landed nb fl4.1 ((up.trans up3).trans up4) os ag
      obtain ⟨oe4, vs4, he4, hz4, hd4⟩ := fl4.there
      refine store_ok (X := X.suite a ((a, oe4) :: (X.pn ++ pins))) (v := .ref a) (J4.suite he4 hd4 na nL nF) hN hi (.inl hln) rfl (fun s5 S5 => ?_) (.inr hln)
      refine wpAny_mono ((hs2 a oe4 cls d (X.pn ++ pins) hz4 ⟨_, hd4⟩).run [] s5 _ H' _ S5 (yes a na)) (fun fl z6 hz => ?_) (fun _ _ z => False.elim z)
      have bye : ∀ {σ6 : L2.St} {H6 : Hp} {Q : Shared → Prop}, Inv (X.suite a ((a, oe4) :: (X.pn ++ pins))) [] σ6 H6 z6 → (∀ s7, Inv X pins (σ6.set i none) H6 s7 → Q s7) →
          wpAny (model X.prog X.w) X.A (do bindName X.env n .none; unbindBehindTheSuite X.env n ps2) (fun _ s7 => Q s7) X.xe z6 := fun {σ6 H6 Q} S6 hq => gone_ok (S6.unsuite ok) hN hi hln hq
      match fl, hz with
      | .next, ⟨_, _, S6, q6⟩ => exact bye S6 fun s7 J7 => ⟨_, _, J7, q6⟩
      | .brk, ⟨_, _, S6, q6⟩ => exact bye S6 fun s7 J7 => ⟨_, _, J7, q6⟩
      | .cont, ⟨_, _, S6, q6⟩ => exact bye S6 fun s7 J7 => ⟨_, _, J7, q6⟩
      | .ret u, ⟨_, _, _, S6, r6, q6⟩ => exact bye S6 fun s7 J7 => ⟨_, _, _, J7, r6, q6⟩
  · match fl, hz with
    | .next, ⟨σ', H', J', q⟩ => exact wpAny_execs_nil ⟨σ', H', J'.ofTry ok, q⟩
    | .brk, ⟨σ', H', J', q⟩ => exact ⟨σ', H', J'.ofTry ok, q⟩
    | .cont, ⟨σ', H', J', q⟩ => exact ⟨σ', H', J'.ofTry ok, q⟩
    | .ret u, ⟨v, σ', H', J', r, q⟩ => exact ⟨v, σ', H', J'.ofTry ok, r, q⟩
end
end R
end
/-! ## R6 -/
section
set_option Elab.async false
set_option linter.all false
set_option maxRecDepth 100000
set_option maxHeartbeats 4000000
namespace R
open PySem PySem.Spec PyProof.Rows L2
/-! ### sorted of a list of data -/
theorem each_of {P : V → PyData → Prop} : ∀ {xs : List V} {us : List Value} (ds : List PyData), Vals xs us → xs.length = ds.length → PySem.W.EachIs (fun v (b : V × PyData) => RelV b.1 v) us (xs.zip ds)
  | _, _, [], .nil, _ => .nil
  | _, _, _ :: ds, .cons r t, h => .cons r (each_of (P := P) ds t (by simpa using h))
  | _, _, [], .cons _ _, h => by simp at h
  | _, _, _ :: _, .nil, h => by simp at h
theorem each_vals : ∀ {us : List Value} {bs : List (V × PyData)}, PySem.W.EachIs (fun v (b : V × PyData) => RelV b.1 v) us bs → Vals (bs.map (·.1)) us
  | _, _, .nil => .nil
  | _, _, .cons r t => .cons r (each_vals t)
theorem each_reads {h : Heap} : ∀ {xs : List V} {us : List Value} {ds : List PyData} {as : List Addr}, Vals xs us → ReadsAll h us ds as → PySem.W.EachIs (fun v (b : V × PyData) => ∃ as, Reads h v b.2 as) us (xs.zip ds)
  | _, _, _, _, .nil, .nil => .nil
  | _, _, _, _, .cons _ t, .cons q qs => .cons ⟨_, q⟩ (each_reads t qs)
theorem zip_snd {α β : Type} : ∀ {xs : List α} {ds : List β}, xs.length = ds.length → (xs.zip ds).map (·.2) = ds
  | [], [], _ => rfl
  | _ :: xs, d :: ds, h => by
    show d :: (xs.zip ds).map (·.2) = _
    rw [zip_snd (by simpa using h)]
  | [], _ :: _, h => by simp at h
  | _ :: _, [], h => by simp at h
theorem cr_sortedD {X : Cx} (hu : X.A.units + 64 < cLine) : CallR X (.builtin "sorted") (fun vs H Q => ∃ (a : Addr) (xs : List V) (ds : List PyData), vs = [V.ref a] ∧ SqL X.K H a xs ∧ DpAll X.K H xs ds ∧ PySem.W.AllAlike ds ∧ PySem.W.Sortable ds ∧ (∀ d ∈ ds, d.depth ≤ 60) ∧
    ∀ (zs : List (V × PyData)) (p : Addr), zs.Perm (xs.zip ds) → zs.Pairwise (fun x y => PySem.W.dataLt y.2 x.2 = false) → H p = none → Q (.ref p) (upd H p (.lst (zs.map (·.1))))) := by
  intro pins s σ H vs us Q I r h
  obtain ⟨a, xs, ds, rfl, hs, hd, hal, hso, hdp, q⟩ := h
  obtain ⟨u, rfl, ru⟩ := vals1 r
  obtain rfl : u = Value.ref a := ru
  obtain ⟨its, rv, pl, hz⟩ := I.list hs
  obtain ⟨as, hr⟩ := Dp.readsAll I ds xs its hd rv
  have hl : xs.length = ds.length := rv.length.trans (SeqAt.ReadsAll.length ds its as hr)
  have e2 := zip_snd hl
  refine PySem.W.sorted_data (R := fun v (b : V × PyData) => RelV b.1 v) (enc := fun b : V × PyData => b.2) (bs := xs.zip ds) pl.isList (each_of (P := fun _ _ => True) ds rv hl) (each_reads rv hr) (by rw [e2]; exact hal) (by rw [e2]; exact hso) (by rw [List.length_zip, hl, Nat.min_self, ← hl]; exact hz) (fun b hb => ?_) fun out ho eo => ?_
  · have hm : b.2 ∈ ds := by rw [← e2]; exact List.mem_map.mpr ⟨b, hb, rfl⟩
    have := hdp b.2 hm
    omega
  · have tot : PySem.W.TotalLe (PySem.W.dataLe false fun b : V × PyData => b.2) := PySem.W.sortLe_total (PyProof.Rows.listOrd PyProof.Rows.itemOrd) false fun b : V × PyData => PySem.W.keyToks b.2
    obtain ⟨ec, hc⟩ := sortedAll_at s.heap its out.toArray
    have hn : H (s.heap.objs.size + 1) = none := I.hok.fresh (Nat.le_succ _)
    have lz : ((xs.zip ds).mergeSort (PySem.W.dataLe false fun b : V × PyData => b.2)).length = xs.length := by rw [List.length_mergeSort, List.length_zip, hl, Nat.min_self]
    refine ⟨.ref (s.heap.objs.size + 1), _, I.laid (t' := s.toks) (h' := sortedAll s.heap its out.toArray) (a := s.heap.objs.size + 1) (o := .lst (((xs.zip ds).mergeSort (PySem.W.dataLe false fun b : V × PyData => b.2)).map (·.1))) (fun b o e => sortedAll_old e) (Nat.le_succ _) ⟨?_, out, ec, each_vals eo, hc⟩, rfl, q _ _ (List.mergeSort_perm _ _) ?_ hn⟩
    · rw [List.length_map, lz]; exact hz
    · refine List.Pairwise.imp ?_ (PySem.W.sort_pairwise tot _)
      intro x y hxy
      rw [PySem.W.dataLe_eq] at hxy
      simpa using hxy
/-! ### list(d.values()), d a dict whose keys are tuples -/
def valuesO (p d : Addr) : HO := .ext fun h => h.IsValuesView p d
theorem mt_valuesT {X : Cx} : MtR X "dict.values" (fun x xs H Q => ∃ (a : Addr) (kvs : List (List L2.Key × V)), x = .ref a ∧ xs = [] ∧ H a = some (.dT kvs) ∧ ∀ p, H p = none → Q (.ref p) (upd H p (valuesO p a))) := by
  intro pins s σ H x xs v us Q I rx rxs h
  obtain ⟨a, kvs, rfl, rfl, ha, q⟩ := h
  cases rx
  cases rxs
  obtain ⟨z, hd, ws, rel, o, es, ep, ho, hx, hdat, hr⟩ := dt_of I.hok ha
  refine call_meetsIn PySem.F.slot_dict_values (Heap.DictRaw.typeIs (es := es) (ep := ep) ⟨o, ho, hx, hdat⟩) PySem.F.entry_dict_values (PySem.F.args_dict_values_1 _) (meets_dict_values_raw a hd) ⟨⟨es, ep, o, ho, hx, hdat⟩, ?_⟩
  have nw : (s.heap.push { cls := .type "dict_values", data := .fields #[.ref a] }).get? s.heap.objs.size = some { cls := .type "dict_values", data := .fields #[.ref a] } := Heap.get?_push_size _ rfl
  refine ⟨.ref s.heap.objs.size, _, I.laid (t' := s.toks) (o := valuesO s.heap.objs.size a) (fun b u e => Heap.get?_push_of_some _ e) (Nat.le_refl _) ?_, rfl, q _ (I.hok.fresh (Nat.le_refl _))⟩
  exact ⟨⟨_, nw, rfl, rfl⟩, ⟨_, nw⟩, fun h1 h2 ⟨o, ho, r⟩ k => ⟨o, k o ho, r⟩⟩
theorem call_list_vals {X : Cx} (hc : X.calm = true) : CallR X (.type "list") (fun xs H Q => ∃ (p a : Addr) (kvs : List (List L2.Key × V)), xs = [V.ref p] ∧ H p = some (valuesO p a) ∧ H a = some (.dT kvs) ∧ ∀ q, H q = none → Q (.ref q) (upd H q (.lst (kvs.map (·.2))))) := by
  intro pins s σ H xs us Q I r h
  obtain ⟨p, a, kvs, rfl, hp, ha, q⟩ := h
  obtain ⟨u, rfl, ru⟩ := vals1 r
  obtain rfl : u = Value.ref p := ru
  have view : s.heap.IsValuesView p a := (show ObjOk X.prog X.w H s.heap p (valuesO p a) from I.hok p _ hp).1
  obtain ⟨z, hs, ks, pr, o, es, ep, ho, hx, hdt, he, hn⟩ := (show ObjOk X.prog X.w H s.heap a (.dT kvs) from I.hok a _ ha)
  have l1 : es.size = ks.length := size_of_entries he
  have l2 : kvs.length = ks.length := Paired.length pr
  refine PySem.W.kdl_call (KdlSrc.rawValues (r := p) (d := a) (es := es) (ep := ep)) (I.ok.hd hc) ⟨view, o, ho, hx, hdt⟩ (by omega) fun h' tk acc' c' kp e it => ?_
  have rv : Vals (kvs.map (·.2)) acc'.toList := by
    have len : (kvs.map (·.2)).length = acc'.toList.length := by
      have e1 : acc'.toList.length = es.size := (Array.length_toList (xs := acc')).trans it.1
      rw [List.length_map, e1]; omega
    have key : ∀ (l : List V) (m : List Value), l.length = m.length → (∀ (j : Nat) (x : V) (v : Value), l[j]? = some x → m[j]? = some v → RelV x v) → Vals l m := by
      intro l
      induction l with
      | nil =>
        intro m hm _
        cases m with
        | nil => exact .nil
        | cons _ _ => cases hm
      | cons x l ih =>
        intro m hm hj
        cases m with
        | nil => cases hm
        | cons v m => exact .cons (hj 0 x v rfl rfl) (ih m (by simpa using hm) fun j y w h1 h2 => hj (j + 1) y w h1 h2)
    refine key _ _ len fun j x v h1 h2 => ?_
    obtain ⟨hi, hv⟩ := it.2 j v (by rw [← Array.getElem?_toList]; exact h2)
    rw [List.getElem?_map] at h1
    obtain ⟨kv, hkv, rfl⟩ := Option.map_eq_some_iff.mp h1
    obtain ⟨w', hw, r1⟩ : ∃ w', ks[j]? = some w' ∧ RelV kv.2 w'.2.2 := by
      have gen : ∀ {l : List (List L2.Key × V)} {m : List (List L2.Key × Addr × Value)}, Paired (fun (p : List L2.Key × V) (q : List L2.Key × Addr × Value) => p.1 = q.1 ∧ H q.2.1 = some (.tup (p.1.map kV)) ∧ RelV p.2 q.2.2) l m → ∀ (j : Nat) (kv : List L2.Key × V), l[j]? = some kv → ∃ w', m[j]? = some w' ∧ RelV kv.2 w'.2.2 := by
        intro l m pm
        induction pm with
        | nil => intro j kv e; simp at e
        | cons r _ ih =>
          intro j kv e
          cases j with
          | zero => simp at e; subst e; exact ⟨_, rfl, r.2.2⟩
          | succ j => exact ih j kv (by simpa using e)
      exact gen pr j kv hkv
    have qe := entry_at he j
    rw [hw, Array.getElem?_eq_getElem hi] at qe
    have qe2 : es[j] = entryOfKey (tupleKind (mixKind X.prog X.w)) w' := Option.some.inj qe
    rw [hv, qe2]
    exact r1
  refine ⟨.ref s.heap.objs.size, _, I.laid (t' := tk) (o := .lst (kvs.map (·.2))) kp (Nat.le_refl _) ?_, rfl, q _ (I.hok.fresh (Nat.le_refl _))⟩
  exact ⟨by rw [List.length_map]; exact z, acc'.toList, c', rv, by rw [Array.toArray_toList]; exact e⟩
end R
end
/-! ## R7 -/
section
set_option Elab.async false
set_option linter.all false
set_option maxRecDepth 100000
set_option maxHeartbeats 4000000
/-! list(enumerate(tuple)) -/
namespace R
open PySem PySem.Spec PyProof.Rows L2 PySem.W
open Builtin Builtin.Str
section
variable {prog : Program} {w : World} {A : Around} {E : Value → Shared → Prop} {s : Shared}
theorem enum_next_heldD {e it T : Addr} {fp : List Addr} {n i : Nat} {P : Nat → Value → Prop} {St : Nat → Heap → Prop} {old : Value} {f : Bool} {oT : Obj} {Q : Value → Shared → Prop}
    (D : Draws prog w A it fp n P St) (he : IsEnumHeld s.heap e it i old T f) (hT : s.heap.get? T = some oT) (hTe : T ≠ e) (hTi : T ≠ it) (hst : St i s.heap) (hlt : i < n) (hne : e ≠ it) (hef : e ∉ fp)
    (hQ : ∀ x h' tk, P i x → IsEnumHeld h' e it ((i : Int) + 1) old T true → St (i + 1) h' →
      h'.get? s.heap.objs.size = some { cls := .type "tuple", data := .seq #[.int i tk, x] } → h'.objs.size = s.heap.objs.size + 1 →
      (∀ b o, b ≠ e → b ≠ it → s.heap.get? b = some o → h'.get? b = some o) → Q (.ref s.heap.objs.size) { s with heap := h', toks := tk + 1 }) :
    wpAny (model prog w) A (Builtin.«enumerate.__next__» ⟨[.ref e], []⟩) (fun fin s' => ∃ v, fin = .done (.ret v) ∧ Q v s') E s := by
  obtain ⟨hp, g, d, tk₀, os⟩ := s
  show wpAny _ _ (field (.ref e) 2 >>= _) _ _ _
  refine wpAny_bind (wpAny_field he rfl (x := .ref it) rfl ?_)
  refine wpAny_bind (D.item i _ _ _ hlt hst fun x h1 tk hPx hit1 hs1 => ?_)
  replace hs1 : Heap.SameBut it hp h1 := hs1
  have he1 : IsEnumHeld h1 e it i old T f := (hs1.2 e hne).trans he
  show wpAny _ _ (field (.ref e) 3 >>= _) _ _ ⟨h1, g, d, tk, os⟩
  refine wpAny_bind (wpAny_field he1 rfl (x := rawInt i) rfl ?_)
  show wpAny _ _ (field (.ref e) 4 >>= _) _ _ ⟨h1, g, d, tk, os⟩
  refine wpAny_bind (wpAny_field he1 rfl (x := .none) rfl ?_)
  show wpAny _ _ (mkInt i >>= _) _ _ ⟨h1, g, d, tk, os⟩
  refine wpAny_bind (wpAny_mkInt ?_)
  show wpAny _ _ (setField (.ref e) 3 (rawInt ((i : Int) + 1)) >>= _) _ _ ⟨h1, g, d, tk + 1, os⟩
  refine wpAny_bind (wpAny_setField_rec he1 (by simp) fun h2 he2 hs2 => ?_)
  replace hs2 : Heap.SameBut e h1 h2 := hs2
  replace he2 : IsEnumHeld h2 e it ((i : Int) + 1) old T f := he2
  show wpAny _ _ (setField (.ref e) 4 .none >>= _) _ _ ⟨h2, g, d, tk + 1, os⟩
  refine wpAny_bind (wpAny_setField_rec he2 (by simp) fun h3 he3 hs3 => ?_)
  replace hs3 : Heap.SameBut e h2 h3 := hs3
  replace he3 : IsEnumHeld h3 e it ((i : Int) + 1) old T f := he3
  show wpAny _ _ (newTuple [.int i tk, x] >>= _) _ _ ⟨h3, g, d, tk + 1, os⟩
  refine wpAny_bind (wpAny_newTuple ?_)
  have he4 : IsEnumHeld (h3.push { cls := .type "tuple", data := .seq #[.int i tk, x] }) e it ((i : Int) + 1) old T f := Heap.get?_push_of_some _ he3
  generalize hh4 : h3.push { cls := .type "tuple", data := .seq #[.int i tk, x] } = h4 at he4
  have hsz : h3.objs.size = hp.objs.size := by rw [hs3.1, hs2.1, hs1.1]
  have hel : e < hp.objs.size := Heap.lt_size he
  have ht4 : h4.get? hp.objs.size = some { cls := .type "tuple", data := .seq #[.int i tk, x] } := by rw [← hh4, ← hsz]; exact Heap.get?_push_size _ rfl
  have hz4 : h4.objs.size = hp.objs.size + 1 := by rw [← hh4, Heap.size_push, hsz]
  have hk4 : ∀ b o, b ≠ e → b ≠ it → hp.get? b = some o → h4.get? b = some o := fun b o hbe hbi hb => by
    rw [← hh4]; exact Heap.get?_push_of_some _ (hs3.extBut b o hbe (hs2.extBut b o hbe (hs1.extBut b o hbi hb)))
  have hit4 : St (i + 1) h4 := D.frame _ _ _ hit1 fun b hb o y => by
    have hbe : b ≠ e := fun q => hef (q ▸ hb)
    rw [← hh4]; exact Heap.get?_push_of_some _ (hs3.extBut b o hbe (hs2.extBut b o hbe y))
  show wpAny _ _ (Builtin.SmallTypes.ownedTupleIsFree (.ref e) >>= _) _ _ ⟨h4, g, d, tk + 1, os⟩
  rw [hsz]
  clear hh4 he3 hs3 he2 hs2 he1 hs1 hit1 hsz h3 h2 h1
  refine wpAny_bind (wpAny_tupleHeld_enum (s := ⟨h4, g, d, tk + 1, os⟩) he4 (hk4 T oT hTe hTi hT) fun h5 he5 hs5 => ?_)
  replace hs5 : Heap.SameBut e h4 h5 := hs5
  simp only [Bool.false_eq_true, if_false]
  refine wpAny_pure ⟨_, rfl, hQ x h5 tk hPx he5 (D.frame _ _ _ hit4 fun b hb o y => hs5.extBut b o (fun q => hef (q ▸ hb)) y) (hs5.extBut _ _ (Nat.ne_of_gt hel) ht4) ?_ fun b o hbe hbi hb => hs5.extBut b o hbe (hk4 b o hbe hbi hb)⟩
  show h5.objs.size = hp.objs.size + 1
  rw [hs5.1, hz4]
theorem pyNext_enum_heldD {e it T : Addr} {fp : List Addr} {n i : Nat} {P : Nat → Value → Prop} {St : Nat → Heap → Prop} {old : Value} {f : Bool} {oT : Obj} {Q : Option Value → Shared → Prop}
    (D : Draws prog w A.in1 it fp n P St) (he : IsEnumHeld s.heap e it i old T f) (hT : s.heap.get? T = some oT) (hTe : T ≠ e) (hTi : T ≠ it) (hst : St i s.heap) (hlt : i < n) (hne : e ≠ it) (hef : e ∉ fp)
    (hQ : ∀ x h' tk, P i x → IsEnumHeld h' e it ((i : Int) + 1) old T true → St (i + 1) h' →
      h'.get? s.heap.objs.size = some { cls := .type "tuple", data := .seq #[.int i tk, x] } → h'.objs.size = s.heap.objs.size + 1 →
      (∀ b o, b ≠ e → b ≠ it → s.heap.get? b = some o → h'.get? b = some o) → Q (some (.ref s.heap.objs.size)) { s with heap := h', toks := tk + 1 }) :
    wpAny (model prog w) A (pyNext (.ref e)) Q E s := by
  have hTy : s.TypeIs (.ref e) "enumerate" := ⟨_, he, rfl⟩
  unfold pyNext
  exact wpAny_bind (wpAny_attempt (wpAny_callSpecial?_slot (name := Str.ofString "__next__") hTy F.slot_enumerate_next
    (wpAny_call_entry F.slot_enumerate_next hTy F.entry_enumerate_next
      (enum_next_heldD D he hT hTe hTi hst hlt hne hef fun x h' tk a b c d k q => wpAny_pure (hQ x h' tk a b c d k q)) (F.args_enumerate_next_1 _))))
theorem pyNext_enum_endH {e it T : Addr} {fp : List Addr} {n : Nat} {P : Nat → Value → Prop} {St : Nat → Heap → Prop} {i : Int} {old : Value} {f : Bool} {Q : Option Value → Shared → Prop}
    (D : Draws prog w A.in1 it fp n P St) (he : IsEnumHeld s.heap e it i old T f) (hst : St n s.heap)
    (hQ : ∀ h', Heap.ExtBut it s.heap h' → Q none { s with heap := h' }) : wpAny (model prog w) A (pyNext (.ref e)) Q E s := by
  have hT : s.TypeIs (.ref e) "enumerate" := ⟨_, he, rfl⟩
  unfold pyNext
  refine wpAny_bind (wpAny_attempt (wpAny_callSpecial?_slot (name := Str.ofString "__next__") hT F.slot_enumerate_next
    (wpAny_call_entry F.slot_enumerate_next hT F.entry_enumerate_next ?_ (F.args_enumerate_next_1 _))))
  show wpAny _ _ (field (.ref e) 2 >>= _) _ _ _
  refine wpAny_bind (wpAny_field he rfl (x := .ref it) rfl ?_)
  refine wpAny_bind (D.done _ _ _ hst fun h' x he' hx' => ?_)
  obtain ⟨o, ho, hc⟩ := hx'
  refine wpAny_bind (wpAny_isInstance (T := "StopIteration") (b := true) ⟨o, ho, hc⟩ isSubtype_stop ?_)
  exact wpAny_pure (hQ _ he')
/-- the enumerate at e before turn i -/
def EnSt (h : Heap) (e it a : Addr) (items : Array Value) (i : Nat) : Prop :=
  ((∃ old, IsEnum h e it ((i : Nat) : Int) old) ∨ ∃ old T f oT, IsEnumHeld h e it ((i : Nat) : Int) old T f ∧ h.get? T = some oT ∧ oT.cls = .type "tuple" ∧ T ≠ e ∧ T ≠ it) ∧ h.IsTupleIter it a i ∧ h.IsTuple a items ∧ e ≠ it ∧ e ≠ a ∧ a ≠ it
/-- the tuples that stand in acc -/
def EnOut (base : Nat) (h : Heap) (items : Array Value) (acc : Array Value) (i : Nat) : Prop :=
  acc.size = i ∧ ∀ j v, acc[j]? = some v → ∃ T t x, v = .ref T ∧ (base ≤ T ∧ items[j]? = some x) ∧ h.get? T = some { cls := .type "tuple", data := .seq #[.int (j : Nat) t, x] }
theorem EnOut.keep {base : Nat} {h h' : Heap} {items acc : Array Value} {i : Nat} (o : EnOut base h items acc i) (k : ∀ (b : Addr) (ob : Obj), ob.cls = .type "tuple" → h.get? b = some ob → h'.get? b = some ob) : EnOut base h' items acc i :=
  ⟨o.1, fun j v hj => let ⟨T, t, x, e1, e2, e3⟩ := o.2 j v hj; ⟨T, t, x, e1, e2, k _ _ rfl e3⟩⟩
theorem en_loop {R : Result → Shared → Prop} {base : Nat} {e it a : Addr} {items : Array Value} (hh : A.handled = none) (hn : items.size ≤ sizeLine) (S : Addr) (hSe : S ≠ e) (hSi : S ≠ it) (hSa : S ≠ a) (res : Value) :
    ∀ (k i : Nat) (s : Shared) (acc : Array Value) (c : Nat), items.size - i = k → i ≤ items.size → EnSt s.heap e it a items i → s.heap.get? S = some { cls := .type "list", dict := none, data := .seq acc c, slots := #[] } → base ≤ s.heap.objs.size → EnOut base s.heap items acc i →
    (∀ h' tk acc' c', (∀ b o, b ≠ S → b ≠ e → b ≠ it → s.heap.get? b = some o → h'.get? b = some o) → h'.get? S = some { cls := .type "list", dict := none, data := .seq acc' c', slots := #[] } → EnOut base h' items acc' items.size → R (.ok (.ret res)) { s with heap := h', toks := tk }) →
    codeAny (model prog w) A (.builtin "list.extend.loop" ⟨[.ref S, .ref e, res], []⟩) R s := by
  intro k
  induction k with
  | zero =>
    intro i s acc c hk hi hst hS hbs hacc hR
    have hin : i = items.size := by omega
    subst hin
    refine codeAny_builtin F.entry_extend_loop ?_
    rw [Around.under_plainId F.plain_extend_loop _]
    show wpAny _ A.in1 (pyNext (.ref e) >>= _) _ _ s
    obtain ⟨hE, hI, hT, h1, h2, h3⟩ := hst
    have D := Draws.tuple (prog := prog) (w := w) (A := A.in1.in1) hh it a h3 items
    have fin : ∀ h', Heap.ExtBut it s.heap h' → R (.ok (.ret res)) { s with heap := h' } := fun h' x =>
      hR h' s.toks acc c (fun b o _ _ hb q => x b o hb q) (x S _ hSi hS) (hacc.keep fun b ob hc q => x b ob (fun z => by
        obtain ⟨o, ho, hcl, _⟩ := hI
        rw [z] at q
        rw [ho] at q
        cases q
        rw [hcl] at hc
        exact absurd hc (by decide)) q)
    rcases hE with ⟨old, hE⟩ | ⟨old, T, f, oT, hE, hT1, hTc, hT2, hT3⟩
    · refine wpAny_bind (wpAny_pyNext_enum_endD D hE ⟨hI, hT⟩ fun h' x => wpAny_pure (fin h' x))
    · refine wpAny_bind (pyNext_enum_endH D hE ⟨hI, hT⟩ fun h' x => wpAny_pure (fin h' x))
  | succ k ih =>
    intro i s acc c hk hi hst hS hbs hacc hR
    have hlt : i < items.size := by omega
    refine codeAny_builtin F.entry_extend_loop ?_
    rw [Around.under_plainId F.plain_extend_loop _]
    show wpAny _ A.in1 (pyNext (.ref e) >>= _) _ _ s
    obtain ⟨hE, hI, hTup, h1, h2, h3⟩ := hst
    have D := Draws.tuple (prog := prog) (w := w) (A := A.in1.in1) hh it a h3 items
    have hef : e ∉ [it, a] := by simp only [List.mem_cons, List.not_mem_nil, or_false, not_or]; exact ⟨h1, h2⟩
    have nT : s.heap.objs.size ≠ e := by
      rcases hE with ⟨old, hE⟩ | ⟨old, T, f, oT, hE, _⟩ <;> exact Nat.ne_of_gt (Heap.lt_size hE)
    have nI : s.heap.objs.size ≠ it := by obtain ⟨o, ho, _⟩ := hI; exact Nat.ne_of_gt (Heap.lt_size ho)
    have nS : s.heap.objs.size ≠ S := Nat.ne_of_gt (Heap.lt_size hS)
    have stp : ∀ (x : Value) (h' : Heap) (tk : Nat), items[i]? = some x → ((∃ old, IsEnum h' e it (((i + 1 : Nat) : Nat) : Int) old) ∨ ∃ old T f oT, IsEnumHeld h' e it (((i + 1 : Nat) : Nat) : Int) old T f ∧ h'.get? T = some oT ∧ oT.cls = .type "tuple" ∧ T ≠ e ∧ T ≠ it) → h'.IsTupleIter it a (i + 1) ∧ h'.IsTuple a items →
        h'.get? s.heap.objs.size = some { cls := .type "tuple", data := .seq #[.int i tk, x] } → (∀ b o, b ≠ e → b ≠ it → s.heap.get? b = some o → h'.get? b = some o) →
        h'.objs.size = s.heap.objs.size + 1 → wpAny (model prog w) A.in1 (updateSeq S (·.push (.ref s.heap.objs.size)) >>= fun _ => again (.builtin "list.extend.loop" ⟨[.ref S, .ref e, res], []⟩))
          (fun fin s' => match fin with | .done f => R (.ok f) s' | .again c' => c'.quiet = true ∧ codeAny (model prog w) A c' R s') (fun e s' => R (.error e) s') { s with heap := h', toks := tk + 1 } := by
      intro x h' tk hx hE' hI' hN hK hZ
      have hS' := hK S _ hSe hSi hS
      refine wpAny_bind ?_
      have oth : ∀ b o, b ≠ S → h'.get? b = some o → (h'.update S (Obj.mapSeq (·.push (.ref s.heap.objs.size)))).get? b = some o := fun b o hb q => (Heap.get?_update_other _ _ (Ne.symm hb)).trans q
      have up : ∀ (b : Addr) (ob : Obj), ob.cls = .type "tuple" → s.heap.get? b = some ob → h'.get? b = some ob := fun b ob hc q => hK b ob (fun z => by
          rw [z] at q
          rcases hE with ⟨old, hE⟩ | ⟨old, T, f, oT, hE, _⟩ <;> (rw [hE] at q; cases q; exact absurd (show Value.type "enumerate" = Value.type "tuple" from hc) (by decide))) (fun z => by
          obtain ⟨o, ho, hcl, _⟩ := hI
          rw [z, ho] at q
          cases q
          rw [hcl] at hc
          exact absurd hc (by decide)) q
      have up2 : ∀ (b : Addr) (ob : Obj), ob.cls = .type "tuple" → h'.get? b = some ob → (h'.update S (Obj.mapSeq (·.push (.ref s.heap.objs.size)))).get? b = some ob := fun b ob hc q => oth b ob (fun z => by
          rw [z, hS'] at q
          cases q
          exact absurd (show Value.type "list" = Value.type "tuple" from hc) (by decide)) q
      refine wpAny_updateSeq hS' rfl (wpAny_pure ⟨plainId_quiet F.plain_extend_loop _, ih (i + 1) _ (acc.push (.ref s.heap.objs.size)) _ (by omega) hlt ⟨?_, ?_, ?_, h1, h2, h3⟩ (Heap.get?_update_self _ hS' rfl) (by show base ≤ (h'.update _ _).objs.size; rw [Heap.size_update]; omega) ⟨by rw [Array.size_push, hacc.1], fun j v hj => ?_⟩ fun h'' tk' acc' c' hk'' hS'' hacc' => ?_⟩)
        (by rw [hacc.1]; omega) (by show (acc.push _).size ≤ sizeLine + 1; rw [Array.size_push, hacc.1]; omega)
      · rcases hE' with ⟨old, q⟩ | ⟨old, T, f, oT, q, q2, q3, q4, q5⟩
        · exact .inl ⟨old, oth _ _ (Ne.symm hSe) q⟩
        · exact .inr ⟨old, T, f, oT, oth _ _ (Ne.symm hSe) q, up2 _ _ q3 q2, q3, q4, q5⟩
      · exact hI'.1.at fun o q => oth _ _ (Ne.symm hSi) q
      · exact hI'.2.at fun o q => oth _ _ (Ne.symm hSa) q
      · rw [Array.getElem?_push] at hj
        split at hj
        · rename_i q
          cases hj
          have qi : j = i := by rw [q, hacc.1]
          subst qi
          exact ⟨_, tk, x, rfl, ⟨hbs, hx⟩, up2 _ _ rfl hN⟩
        · obtain ⟨T, t, y, e1, e2, e3⟩ := hacc.2 j v hj
          exact ⟨T, t, y, e1, e2, up2 _ _ rfl (up _ _ rfl e3)⟩
      · exact hR h'' tk' acc' c' (fun b o hb hbe hbi q => hk'' b o hb hbe hbi (oth b o hb (hK b o hbe hbi q))) hS'' hacc'
    have ci : (((i + 1 : Nat) : Nat) : Int) = (i : Int) + 1 := by omega
    rcases hE with ⟨old, hE⟩ | ⟨old, T, f, oT, hE, hT1, hTc, hT2, hT3⟩
    · refine wpAny_bind (wpAny_pyNext_enum_itemD D hE ⟨hI, hTup⟩ hlt h1 hef fun x h' tk hx hout hI' hN hZ hK => ?_)
      exact stp x h' tk hx (.inr ⟨x, s.heap.objs.size, false, _, by rw [ci]; exact hout, hN, rfl, nT, nI⟩) hI' hN hK hZ
    · refine wpAny_bind (pyNext_enum_heldD D hE hT1 hT2 hT3 ⟨hI, hTup⟩ hlt h1 hef fun x h' tk hx hout hI' hN hZ hK => ?_)
      exact stp x h' tk hx (.inr ⟨old, T, true, oT, by rw [ci]; exact hout, hK T oT hT2 hT3 hT1, hTc, hT2, hT3⟩) hI' hN hK hZ
theorem enum_no_len : typeLookup (.type "enumerate") "__len__" = pure none := by rw [typeLookup_type, builtinLookup_eq_fast]; kernel_rfl
theorem enum_no_hint : typeLookup (.type "enumerate") "__length_hint__" = pure none := by rw [typeLookup_type, builtinLookup_eq_fast]; kernel_rfl
theorem en_extend {R : Result → Shared → Prop} {base : Nat} {e it a : Addr} {items : Array Value} (hh : A.handled = none) (hn : items.size ≤ sizeLine) (S : Addr) (hSe : S ≠ e) (hSi : S ≠ it) (hSa : S ≠ a) (res : Value) (c₀ : Nat)
    (hbs : base ≤ s.heap.objs.size) (hst : EnSt s.heap e it a items 0) (hE0 : ∃ old, IsEnum s.heap e it 0 old) (hS : s.heap.get? S = some { cls := .type "list", data := .seq #[] c₀ })
    (hR : ∀ h' tk acc' c', (∀ b o, b ≠ S → b ≠ e → b ≠ it → s.heap.get? b = some o → h'.get? b = some o) → h'.get? S = some { cls := .type "list", dict := none, data := .seq acc' c', slots := #[] } → EnOut base h' items acc' items.size → R (.ok (.ret res)) { s with heap := h', toks := tk }) :
    wpAny (model prog w) A.in1 (Builtin.List.listExtendWith (.ref S) (.ref e) res)
      (fun fin s' => match fin with | .done f => R (.ok f) s' | .again c' => c'.quiet = true ∧ codeAny (model prog w) A c' R s') (fun e s' => R (.error e) s') s := by
  obtain ⟨old0, hE0⟩ := hE0
  have hT : ∀ {tk : Nat}, Shared.TypeIs { s with toks := tk } (.ref e) "enumerate" := fun {tk} => ⟨_, hE0, rfl⟩
  unfold Builtin.List.listExtendWith
  refine wpAny_bind (wpAny_typeOf (T := "enumerate") ⟨_, hE0, rfl⟩ ?_)
  have h1 : Builtin.List.listSameRef (.ref S) (.ref e) = false := by simp [Builtin.List.listSameRef, hSe]
  have h2 : (Value.type "enumerate" == Value.type "list") = false := by decide
  have h3 : (Value.type "enumerate" == Value.type "tuple") = false := by decide
  simp only [h1, h2, h3, Bool.or_false, Bool.false_eq_true, if_false]
  refine wpAny_bind (wpAny_pyIter_enum hE0 ?_)
  refine wpAny_bind (wpAny_holding ?_)
  unfold Builtin.List.listLengthHint
  refine wpAny_bind (wpAny_specialOf (T := "enumerate") ⟨_, hE0, rfl⟩ enum_no_len ?_)
  show wpAny _ A.in1 (specialOf (Value.ref e) (Str.ofString "__length_hint__") >>= _) _ _ _
  refine wpAny_bind (wpAny_specialOf (T := "enumerate") ⟨_, hE0, rfl⟩ enum_no_hint ?_)
  refine wpAny_pure ?_
  show wpAny _ A.in1 (rule "list.extend.makes-room" >>= fun _ => Builtin.List.listTouch (.ref S) >>= fun _ =>
    again (.builtin "list.extend.loop" ⟨[.ref S, .ref e, res], []⟩)) _ _ _
  refine wpAny_bind (wpAny_rule ?_)
  refine wpAny_bind ?_
  show wpAny _ A.in1 (updateSeq S (·.push .none) >>= fun _ => updateSeq S (·.pop)) _ _ _
  refine wpAny_bind (wpAny_updateSeq hS rfl ?_)
  have hS₂ := Heap.get?_update_self (Obj.mapSeq (·.push Value.none)) hS rfl
  refine wpAny_updateSeq (hz := by seq_fits) hS₂ rfl ?_
  have hS₃ := Heap.get?_update_self (Obj.mapSeq (·.pop)) hS₂ rfl
  have oth : ∀ b o, b ≠ S → s.heap.get? b = some o → ((s.heap.update S (Obj.mapSeq (·.push Value.none))).update S (Obj.mapSeq (·.pop))).get? b = some o :=
    fun b o hb e => (Heap.get?_update_other _ _ (Ne.symm hb)).trans ((Heap.get?_update_other _ _ (Ne.symm hb)).trans e)
  obtain ⟨_, hI, hTup, g1, g2, g3⟩ := hst
  refine wpAny_pure ⟨plainId_quiet F.plain_extend_loop _, en_loop hh hn S hSe hSi hSa res items.size 0 _ _ _ rfl (Nat.zero_le _)
    ⟨.inl ⟨old0, oth _ _ (Ne.symm hSe) hE0⟩, hI.at fun o q => oth _ _ (Ne.symm hSi) q, hTup.at fun o q => oth _ _ (Ne.symm hSa) q, g1, g2, g3⟩ hS₃ (by show base ≤ ((s.heap.update _ _).update _ _).objs.size; rw [Heap.size_update, Heap.size_update]; exact hbs) ⟨rfl, fun j v h => by simp at h⟩ fun h' tk acc' c' hk hS' hacc => ?_⟩
  exact hR h' tk acc' c' (fun b o hb hbe hbi q => hk b o hb hbe hbi (oth b o hb q)) hS' hacc
theorem en_call {Q : Value → Shared → Prop} {base : Nat} {e it a : Addr} {items : Array Value} (hh : A.handled = none) (hn : items.size ≤ sizeLine) (hbs : base ≤ s.heap.objs.size) (hst : EnSt s.heap e it a items 0) (hE0 : ∃ old, IsEnum s.heap e it 0 old)
    (hQ : ∀ h' tk acc' c', (∀ b o, b ≠ e → b ≠ it → s.heap.get? b = some o → h'.get? b = some o) → h'.get? s.heap.objs.size = some { cls := .type "list", dict := none, data := .seq acc' c', slots := #[] } → EnOut base h' items acc' items.size → Q (.ref s.heap.objs.size) { s with heap := h', toks := tk }) :
    wpAny (model prog w) A (call (.type "list") [.ref e]) Q E s := by
  refine callType_codes (Q₁ := fun obj s₁ => obj = .ref s.heap.objs.size ∧ s₁ = { s with heap := s.heap.push { cls := .type "list", data := .seq #[] } }) PySem.F.called_list (PySem.F.typeCall_list_1 _) PySem.F.entry_list_init
    (code_list_new _ ⟨rfl, rfl⟩) fun obj s₁ h₁ => ?_
  obtain ⟨rfl, rfl⟩ := h₁
  have hS : (s.heap.push { cls := .type "list", data := .seq #[] }).get? s.heap.objs.size = some { cls := .type "list", data := .seq #[] } := Heap.get?_push_size _ rfl
  obtain ⟨old0, hE0⟩ := hE0
  obtain ⟨_, hI, hTup, g1, g2, g3⟩ := hst
  have nE : s.heap.objs.size ≠ e := Nat.ne_of_gt (Heap.lt_size hE0)
  have nI : s.heap.objs.size ≠ it := by obtain ⟨o, ho, _⟩ := hI; exact Nat.ne_of_gt (Heap.lt_size ho)
  have nA : s.heap.objs.size ≠ a := by obtain ⟨o, ho, _⟩ := hTup; exact Nat.ne_of_gt (Heap.lt_size ho)
  refine ⟨⟨_, hS, rfl⟩, PySem.F.args_list_init_2 _ _, ?_⟩
  show wpAny _ _ (do let old ← Builtin.List.listItems (.ref s.heap.objs.size); Builtin.List.listUpdate (.ref s.heap.objs.size) (fun _ => #[]); letGo old.toList.reverse; Builtin.List.listExtendWith (.ref s.heap.objs.size) (.ref e) .none) _ _ _
  refine wpAny_bind ?_
  unfold Builtin.List.listItems
  refine wpAny_bind (wpAny_seqItems hS rfl (wpAny_pure ?_))
  show wpAny _ _ (updateSeq s.heap.objs.size (fun _ => #[]) >>= fun _ => letGo (#[] : Array Value).toList.reverse >>= fun _ => Builtin.List.listExtendWith (.ref s.heap.objs.size) (.ref e) .none) _ _ _
  refine wpAny_bind (wpAny_updateSeq hS rfl ?_)
  have hS₂ := Heap.get?_update_self (Obj.mapSeq (fun _ => (#[] : Array Value))) hS rfl
  have oth : ∀ b o, s.heap.get? b = some o → ((s.heap.push { cls := .type "list", data := .seq #[] }).update s.heap.objs.size (Obj.mapSeq (fun _ => (#[] : Array Value)))).get? b = some o :=
    fun b o q => (Heap.get?_update_other _ _ (Nat.ne_of_gt (Heap.lt_size q))).trans (Heap.get?_push_of_some _ q)
  refine wpAny_bind (wpAny_letGo ?_)
  refine en_extend (s := { s with heap := (s.heap.push { cls := .type "list", data := .seq #[] }).update s.heap.objs.size (Obj.mapSeq (fun _ => (#[] : Array Value))) }) (A := A.in1) hh hn _ nE nI nA .none _ (by show base ≤ ((s.heap.push _).update _ _).objs.size; rw [Heap.size_update, Heap.size_push]; omega) ⟨.inl ⟨old0, oth _ _ hE0⟩, hI.at fun o q => oth _ _ q, hTup.at fun o q => oth _ _ q, g1, g2, g3⟩ ⟨old0, oth _ _ hE0⟩ hS₂ fun h' tk acc' c' hk hS' hacc => ?_
  exact ⟨rfl, hQ h' tk acc' c' (fun b o hbe hbi q => hk b o (Nat.ne_of_lt (Heap.lt_size q)) hbe hbi (oth b o q)) hS' hacc⟩
end
end R
end
/-! ## R8 -/
section
set_option Elab.async false
set_option linter.all false
set_option maxRecDepth 100000
set_option maxHeartbeats 4000000
/-! list(enumerate(tuple)), as a rule of the layer -/
namespace R
open PySem PySem.Spec PyProof.Rows L2
section
variable {X : Cx} {pins : List (Addr × Obj)} {σ : L2.St} {H G : Hp} {s : Shared} {h' : Heap}
/-- many new objects at once -/
theorem laidG {t' : Nat} (I : Inv X pins σ H s) (k : ∀ b u, s.heap.get? b = some u → h'.get? b = some u) (old : ∀ b, b < s.heap.objs.size → G b = H b)
    (new : ∀ b o, s.heap.objs.size ≤ b → G b = some o → ObjOk X.prog X.w G h' b o) : Inv X pins σ G { s with heap := h', toks := t' } := by
  have sm : ∀ {b o}, H b = some o → G b = some o := fun {b o} e => by
    rw [old b (I.hok b o e).lt]; exact e
  refine I.un ⟨fun b u q _ _ _ => k b u q, fun b u q _ _ _ => ⟨u.slots, k b u q⟩, fun b u q n _ => by rw [old b (Heap.lt_size q)]; exact n, fun b u q _ => ⟨u, k b u q⟩, fun b xs q => sm q, fun b u xs q => sm q, fun b ps q => ⟨#[], by rw [sm q]; simp⟩⟩ fun b o e => ?_
  rcases Nat.lt_or_ge b s.heap.objs.size with h | h
  · rw [old b h] at e
    exact (I.hok b o e).stay (fun c v _ q => k c v q) (fun c q => sm q) fun c xs q => sm q
  · exact new b o h e
end
/-- the reading: a new list of new pairs -/
def tLEn (K : PySem.W.Frag) (ta : TA) : TE := fun σ H Q => ta σ H fun vs H1 => ∃ a xs, vs = [.ref a] ∧ SqT K H1 a xs ∧
  ∀ (Ts : List Addr) (q : Addr) (H' : Hp), Ts.length = xs.length → Same H1 H' → H1 q = none → H' q = some (.lst (Ts.map V.ref)) → (∀ j T x, Ts[j]? = some T → xs[j]? = some x → H' T = some (.tup [natV j, x])) → Q (.ref q) H'
theorem pe_listEn {X : Cx} {e : Expr} {ta : TA} {p p2 pos pos2 : Pos} (hc : X.calm = true) (hgl : Gl X "list") (hml : X.mg "list" = none) (hg : Gl X "enumerate") (hm : X.mg "enumerate" = none) (ha : PA X [e] ta)
    (hs : starEach [e] X.env = [(false, eval e X.env)] := by rfl) (na : starEach [.Call (.Name "enumerate" p2) [e] [] pos2] X.env = (false, eval (.Call (.Name "enumerate" p2) [e] [] pos2) X.env) :: starEach [] X.env := by rfl) :
    PE X (.Call (.Name "list" p) [.Call (.Name "enumerate" p2) [e] [] pos2] [] pos) (tLEn X.K ta) := by
  refine ⟨fun pins s σ H Q I h => ?_⟩
  refine Call_ (ld_blt I hgl hml boot_list (PyProof.Rows.callWith_type1 (args_cons ?_ na) na))
  refine Call_ (ld_blt I hg hm boot_enumerate (PyProof.Rows.callWith_type1 (thn (ha.run pos2 pins s σ H _ I h) fun us s1 ⟨vs, H1, I1, r1, a, xs, ex, hq, q⟩ => ?_) hs rfl))
  subst ex
  obtain ⟨u, rfl, ru⟩ := vals1 r1
  obtain rfl : u = Value.ref a := ru
  obtain ⟨its, rv, tp, hz⟩ := I1.tuple hq
  refine call_enumT tp fun h' he hit hk => args_nil ?_
  have I2 : Inv X pins σ H1 { s1 with heap := h' } := I1.kept (t' := s1.toks) hk
  have al : a < s1.heap.objs.size := by obtain ⟨o, ho, _⟩ := tp; exact Heap.lt_size ho
  have tp2 : h'.IsTuple a its.toArray := by obtain ⟨o, ho, r⟩ := tp; exact ⟨o, hk _ _ ho, r⟩
  refine en_call (s := { s1 with heap := h' }) (items := its.toArray) (I2.ok.hd hc) (by rw [List.size_toArray, ← rv.length]; exact hz) (base := s1.heap.objs.size) (by have := Heap.lt_size he; show s1.heap.objs.size ≤ h'.objs.size; exact Nat.le_of_lt (Nat.lt_trans (Nat.lt_succ_self _) this)) ⟨.inl ⟨.none, he⟩, hit, tp2, Nat.succ_ne_self _, Nat.ne_of_gt (Nat.lt_succ_of_lt al), Nat.ne_of_lt al⟩ ⟨.none, he⟩ fun h2 tk acc c hk2 hL hO => ?_
  have sz : s1.heap.objs.size ≤ h'.objs.size := by
    have := Heap.lt_size he
    exact Nat.le_of_lt (Nat.lt_trans (Nat.lt_succ_self _) this)
  have kk : ∀ b u, s1.heap.get? b = some u → h2.get? b = some u := fun b u e => hk2 b u (Nat.ne_of_lt (Nat.lt_succ_of_lt (Heap.lt_size e))) (Nat.ne_of_lt (Heap.lt_size e)) (hk b u e)
  have hxl : xs.length = its.length := rv.length
  have hal : acc.size = xs.length := by rw [hO.1, List.size_toArray, hxl]
  -- the addresses
  obtain ⟨Ts, hTs, hTl⟩ : ∃ Ts : List Addr, acc.toList = Ts.map Value.ref ∧ Ts.length = xs.length := by
    refine ⟨acc.toList.map fun v => match v with | .ref T => T | _ => 0, ?_, by rw [List.length_map, Array.length_toList, hal]⟩
    rw [List.map_map]
    refine (List.map_id _).symm.trans (List.map_congr_left fun v hv => ?_)
    obtain ⟨j, hj⟩ := List.getElem?_of_mem hv
    obtain ⟨T, t, x, e1, _⟩ := hO.2 j v (by rw [← Array.getElem?_toList]; exact hj)
    subst e1
    rfl
  have hat : ∀ j T, Ts[j]? = some T → ∃ t x u, (s1.heap.objs.size ≤ T ∧ xs[j]? = some x) ∧ RelV x u ∧ h2.get? T = some { cls := .type "tuple", data := .seq #[.int (j : Nat) t, u] } := fun j T hj => by
    have h1 : acc[j]? = some (.ref T) := by rw [← Array.getElem?_toList, hTs, List.getElem?_map, hj]; rfl
    obtain ⟨T', t, u, e1, e2, e3⟩ := hO.2 j _ h1
    cases e1
    have e2' : its[j]? = some u := by simpa using e2.2
    have hjl : j < xs.length := by rw [← hTl]; exact (List.getElem?_eq_some_iff.mp hj).1
    obtain ⟨u', g1, g2⟩ := rv.get (List.getElem?_eq_getElem hjl)
    rw [e2'] at g1
    cases g1
    exact ⟨t, xs[j], u, ⟨e2.1, List.getElem?_eq_getElem hjl⟩, g2, e3⟩
  have hone : ∀ i j T, Ts[i]? = some T → Ts[j]? = some T → i = j := fun i j T hi hj => by
    obtain ⟨t1, x1, u1, _, _, e1⟩ := hat i T hi
    obtain ⟨t2, x2, u2, _, _, e2⟩ := hat j T hj
    rw [e1] at e2
    have e3 := congrArg Obj.data (Option.some.inj e2)
    have e4 : #[Value.int (i : Nat) t1, u1] = #[Value.int (j : Nat) t2, u2] := by
      have e5 : Data.seq #[Value.int (i : Nat) t1, u1] 0 = Data.seq #[Value.int (j : Nat) t2, u2] 0 := e3
      injection e5
    have e6 : Value.int (i : Nat) t1 = Value.int (j : Nat) t2 := by
      have := congrArg (fun A : Array Value => A[0]?) e4
      simpa using this
    injection e6 with e7
    exact Int.ofNat.inj e7
  have hnone : H1 h'.objs.size = none := I1.hok.fresh sz
  let G : Hp := fun b => if b < s1.heap.objs.size then H1 b else if b = h'.objs.size then some (.lst (Ts.map V.ref)) else ((List.range Ts.length).find? fun j => decide (Ts[j]? = some b)).bind fun j => (xs[j]?).map fun x => .tup [natV j, x]
  have Gold : ∀ b, b < s1.heap.objs.size → G b = H1 b := fun b hb => if_pos hb
  have GL : G h'.objs.size = some (.lst (Ts.map V.ref)) := by
    show (if h'.objs.size < s1.heap.objs.size then _ else _) = _
    rw [if_neg (Nat.not_lt.mpr sz), if_pos rfl]
  have GT : ∀ j T x, Ts[j]? = some T → xs[j]? = some x → G T = some (.tup [natV j, x]) := fun j T x hj hx => by
    obtain ⟨t, y, u, ⟨hTn, hy⟩, _, e⟩ := hat j T hj
    have hTL : T ≠ h'.objs.size := fun z => by
      rw [z] at e
      have e' := hL.symm.trans e
      have := congrArg Obj.cls (Option.some.inj e')
      exact absurd (show Value.type "list" = Value.type "tuple" from this) (by decide)
    show (if T < s1.heap.objs.size then _ else _) = _
    rw [if_neg (Nat.not_lt.mpr hTn), if_neg hTL]
    have hf : (List.range Ts.length).find? (fun j => decide (Ts[j]? = some T)) = some j := by
      cases z : (List.range Ts.length).find? (fun j => decide (Ts[j]? = some T)) with
      | none =>
        have := List.find?_eq_none.mp z j (List.mem_range.mpr (List.getElem?_eq_some_iff.mp hj).1)
        simp [hj] at this
      | some i =>
        have h1 := List.find?_some z
        have h2 := of_decide_eq_true h1
        rw [hone i j T h2 hj]
    rw [hf]
    show (xs[j]?).map _ = _
    rw [hx]
    rfl
  have sm : Same H1 G := fun b o e => by rw [Gold b (I1.hok b o e).lt]; exact e
  refine ⟨.ref h'.objs.size, G, laidG (s := s1) (h' := h2) (t' := tk) I1 kk Gold fun b o hb e => ?_, rfl, q Ts h'.objs.size G hTl sm hnone GL GT⟩
  by_cases hbl : b = h'.objs.size
  · subst hbl
    rw [GL] at e
    cases e
    refine ⟨by rw [List.length_map, hTl]; exact hz, acc.toList, c, ?_, by rw [Array.toArray_toList]; exact hL⟩
    rw [hTs]
    have key : ∀ L : List Addr, Vals (L.map V.ref) (L.map Value.ref) := fun L => by
      induction L with
      | nil => exact .nil
      | cons T L ih => exact .cons rfl ih
    exact key Ts
  · have e' : G b = ((List.range Ts.length).find? fun j => decide (Ts[j]? = some b)).bind fun j => (xs[j]?).map fun x => .tup [natV j, x] := by
      show (if b < s1.heap.objs.size then _ else _) = _
      rw [if_neg (Nat.not_lt.mpr hb), if_neg hbl]
    rw [e'] at e
    cases z : (List.range Ts.length).find? (fun j => decide (Ts[j]? = some b)) with
    | none => rw [z] at e; cases e
    | some j =>
      have hj0 := List.find?_some z
      have hj : Ts[j]? = some b := of_decide_eq_true hj0
      rw [z] at e
      have e2 : (xs[j]?).map (fun x => HO.tup [natV j, x]) = some o := e
      obtain ⟨t, x, u, ⟨_, hx⟩, rx, eo⟩ := hat j b hj
      rw [hx] at e2
      cases e2
      exact ⟨by show 2 ≤ sizeLine; decide, [.int (j : Nat) t, u], .cons ⟨_, rfl⟩ (.cons rx .nil), ⟨_, eo, rfl, _, rfl⟩⟩
end R
end
/-! ## W0 -/
section
set_option Elab.async false
set_option linter.all false
set_option maxRecDepth 100000
set_option maxHeartbeats 4000000
namespace R
open PySem PySem.Spec PyProof.Rows L2
def top (i : Nat) : Stmt := PySem.Challenge.pw_botheven_k39_whole_rows_of_both_even_lot.main.body.getD i (.Pass ⟨0, 0, 0, 0⟩)
/-- the built-in names that the text asks -/
structure Txt (K : PySem.W.Frag) (mg : Str → Option Value) : Prop where
  isinst : mg "isinstance" = none
  int : mg "int" = none
  bool : mg "bool" = none
  tuple : mg "tuple" = none
  enum : mg "enumerate" = none
  len : mg "len" = none
  sum : mg "sum" = none
  range : mg "range" = none
  list : mg "list" = none
  sorted : mg "sorted" = none
  abs : mg "abs" = none
  dict : mg "dict" = none
  min : mg "min" = none
  max : mg "max" = none
  repr : mg "repr" = none

/-! ### webs as data -/
def pairD (t : Nat × Nat) : PyData := .tuple [natD t.1, natD t.2]
def tiesD (ts : BE.Ties) : PyData := .tuple (ts.map pairD)
def webD (n : Nat) (ts : BE.Ties) : PyData := .tuple [natD n, tiesD ts]
theorem pair_inv {H : Hp} {v : V} {t : Nat × Nat} (h : Tp H v (pairD t)) : ∃ a, v = .ref a ∧ H a = some (.tup [natV t.1, natV t.2]) := by
  obtain ⟨a, xs, e, h1, h2⟩ := Tp.tup_inv h
  cases h2 with
  | cons x1 h2 =>
    cases h2 with
    | cons x2 h2 =>
      cases h2
      rw [Tp.int_inv x1, Tp.int_inv x2] at h1
      exact ⟨a, e, h1⟩
theorem pair_tp {H : Hp} {a : Addr} {t : Nat × Nat} (h : H a = some (.tup [natV t.1, natV t.2])) : Tp H (.ref a) (pairD t) := .tup h (.cons (.int _) (.cons (.int _) .nil))
structure WebAt (H : Hp) (v : V) (n : Nat) (ts : BE.Ties) (a t : Addr) (rs : List V) : Prop where
  v : v = .ref a
  w : H a = some (.tup [natV n, .ref t])
  t : H t = some (.tup rs)
  rs : Tps H rs (ts.map pairD)
theorem web_inv {H : Hp} {v : V} {n : Nat} {ts : BE.Ties} (h : Tp H v (webD n ts)) : ∃ a t rs, WebAt H v n ts a t rs := by
  obtain ⟨a, xs, e, h1, h2⟩ := Tp.tup_inv h
  cases h2 with
  | cons x1 h2 =>
    cases h2 with
    | cons x2 h2 =>
      cases h2
      obtain ⟨t, rs, e2, h3, h4⟩ := Tp.tup_inv x2
      rw [Tp.int_inv x1, e2] at h1
      exact ⟨a, t, rs, e, h1, h3, h4⟩
theorem WebAt.len {H : Hp} {v : V} {n : Nat} {ts : BE.Ties} {a t : Addr} {rs : List V} (W : WebAt H v n ts a t rs) : rs.length = ts.length := by
  rw [Tps.length W.rs, List.length_map]
theorem WebAt.mono {H H' : Hp} {v : V} {n : Nat} {ts : BE.Ties} {a t : Addr} {rs : List V} (W : WebAt H v n ts a t rs) (k : KT H H') : WebAt H' v n ts a t rs := ⟨W.v, k _ _ W.w, k _ _ W.t, Tps.mono k W.rs⟩
/-- the tie k -/
theorem WebAt.tie {H : Hp} {v : V} {n : Nat} {ts : BE.Ties} {a t : Addr} {rs : List V} (W : WebAt H v n ts a t rs) {k : Nat} (hk : k < ts.length) : ∃ p, rs[k]? = some (.ref p) ∧ H p = some (.tup [natV (BE.aOf ts k), natV (BE.bOf ts k)]) := by
  have hl := W.len
  have hx : rs[k]? = some rs[k] := List.getElem?_eq_getElem (by omega)
  obtain ⟨d, hd, tp⟩ := Tps.get W.rs hx
  rw [List.getElem?_map, List.getElem?_eq_getElem hk] at hd
  have e : d = pairD ts[k] := (Option.some.inj hd).symm
  subst e
  obtain ⟨p, e1, e2⟩ := pair_inv tp
  have e3 : ts.getD k (0, 0) = ts[k] := by simp [hk]
  refine ⟨p, by rw [hx, e1], ?_⟩
  unfold BE.aOf BE.bOf
  rw [e3]
  exact e2
theorem nat_shl (k : Nat) : (1 : Int) * 2 ^ (k : Int).toNat = ((2 ^ k : Nat) : Int) := by rw [Int.toNat_natCast, Int.one_mul]; norm_cast
theorem xor_nat (a b : Nat) : Builtin.bitXor (a : Int) (b : Int) = ((a ^^^ b : Nat) : Int) := by
  rw [Bits.bitXor_pp (by omega) (by omega), Int.toNat_natCast, Int.toNat_natCast]
theorem and_nat (a b : Nat) : Builtin.bitAnd (a : Int) (b : Int) = ((a &&& b : Nat) : Int) := by
  rw [bitAnd_pp (by omega) (by omega), Int.toNat_natCast, Int.toNat_natCast]
/-- what the comprehensions collect: data, the heap growing -/
theorem lc_tp {J : It} {n : Nat} {G : Hp → Prop} {Y : Nat → Hp → V → Hp → Prop} (w : Walk J n G Y) {g : TG} {tt : TT} {te : TE} {vs : List Nat} {σ : L2.St} {H1 : Hp} {D : Addr} {Qd : Hp → Prop} (hD : H1 D = none) (hn : n < sizeLine) (f : Nat → List PyData) (h0 : f 0 = [])
    (hG : ∀ H, Same H1 H → G H)
    (hs : ∀ i x H H' (N : V → Hp → Prop) (M : Hp → Prop), i < n → Same H1 H → H D ≠ none → Y i H x H' → (∀ y H4 d, Same H H4 → Tp H4 y d → f (i + 1) = f i ++ [d] → N y H4) → (∀ H4, Same H H4 → f (i + 1) = f i → M H4) →
      g x (wipe σ vs) H' fun σ2 H2 => wipe σ2 vs = wipe σ vs ∧ tt σ2 H2 fun b H3 => if b = true then te σ2 H3 N else M H3)
    (hd : ∀ H ys, Same H1 H → H D = some (.lst ys) → Tps H ys (f n) → Qd H) :
    ∃ W : Nat → Nat → Hp → Prop, (∃ m, W 0 m (upd H1 D (.lst []))) ∧ ∀ i m H, W i m H →
      (J.stop i H ∧ Qd H) ∨ (J.go i H ∧ ∃ Nx : Hp → Prop, (∀ H', Nx H' → ∃ m', m' < m ∧ W (i + 1) m' H') ∧ ∀ x H', J.yld i H x H' → g x (wipe σ vs) H' fun σ2 H2 => wipe σ2 vs = wipe σ vs ∧ tt σ2 H2 fun b H3 =>
        if b = true then te σ2 H3 fun y H4 => ∃ acc, H4 D = some (.lst acc) ∧ acc.length < sizeLine ∧ Nx (upd H4 D (.lst (acc ++ [y]))) else Nx H3) := by
  refine lc_it w (fun i H => Same H1 H ∧ ∃ ys, H D = some (.lst ys) ∧ ys.length ≤ i ∧ Tps H ys (f i)) ⟨same_new _ hD, [], upd_same, Nat.le_refl _, by rw [h0]; exact .nil⟩ (fun i H _ p => hG H p.1) (fun i x H H' hi p y => ?_) fun H ⟨s, ys, e, _, t⟩ => hd H ys s e t
  obtain ⟨s, ys, e, hl, t⟩ := p
  refine hs i x H H' _ _ hi s (by rw [e]; simp) y (fun v H4 d s4 tp ef => ⟨ys, s4 _ _ e, by omega, fun b o q => ?_, ys ++ [v], upd_same, by simp; omega, ?_⟩) fun H4 s4 ef => ⟨s.trans s4, ys, s4 _ _ e, by omega, by rw [ef]; exact Tps.mono (kt_same s4) t⟩
  · rw [upd_ne (ne_of_none q hD)]
    exact s4 _ _ (s _ _ q)
  · rw [ef]
    have k2 : KT H4 (upd H4 D (.lst (ys ++ [v]))) := kt_lst _ (s4 _ _ e)
    exact Tps.snoc (Tps.mono ((kt_same s4).trans k2) t) (tp.mono k2)
theorem kept {te : TE} {σ : L2.St} {H : Hp} {N : V → Hp → Prop} {M : Hp → Prop} (h : te σ H N) : tYes σ H fun b H3 => if b = true then te σ H3 N else M H3 := by
  show (if true = true then te σ H N else M H)
  rw [if_pos rfl]; exact h
/-- a def of the text that may be called by its name -/
structure Cal (P : Program) (w : World) (K : PySem.W.Frag) (mg : Str → Option Value) (base : Heap) (k : Nat) (x : Str) (sp : Sp) : Prop where
  ex : ∃ (f : Addr) (fd : FuncData) (ps : List Str), FnOk P w K mg base CX0 k f fd ps sp ∧ mg x = some (.ref f) ∧ PySem.W.keepIn K (.ref f) = true ∧ Binds K fd ps []
def tC0 (sp : Sp) (t : TA) : TE := fun σ H Q => t σ H fun vs H1 => sp vs H1 Q E0
theorem pe_c {X : Cx} {k j : Nat} {x : Str} {sp : Sp} {p pos : Pos} {e : Expr} {es : List Expr} {t : TA} (c : Cal X.prog X.w X.K X.mg X.base k x sp) (hr : Room j X.A) (hk : k ≤ j) (hg : Gl X x) (ha : PA X (e :: es) t)
    (hdb : (x == ("__debug__" : Str)) = false := by decide) (he : starEach (e :: es) X.env = (false, eval e X.env) :: starEach es X.env := by rfl) (hpl : (backTo pos (starEach es X.env)).any (·.1) = false := by rfl) :
    PE X (.Call (.Name x p) (e :: es) [] pos) (tC0 sp t) := by
  obtain ⟨f, fd, ps, F, hm, kp, b⟩ := c.ex
  have F2 : FnOk X.prog X.w X.K X.mg X.base CX0 k f fd ps sp := F
  have q := pe_call (p := p) F2 (hr.mono hk) hg hm kp b .nil pass0 ha hdb he hpl
  refine ⟨fun pins s σ H Q I h => q.run pins s σ H Q I ?_⟩
  have e1 : tCall sp [] E0 t = tC0 sp t := by
    funext σ H Q
    unfold tCall tC0
    congr 1
    funext vs H1
    rw [List.append_nil]
  rw [e1]
  exact h
end R
end
/-! ## W1 -/
section
set_option Elab.async false
set_option linter.all false
set_option maxRecDepth 100000
set_option maxHeartbeats 4000000
namespace R
open PySem PySem.Spec PyProof.Rows L2
section
variable {P : Program} {w : World} {K : PySem.W.Frag} {mg : Str → Option Value} {base : Heap} {f : Addr} {fd : FuncData}
/-! ### is_integer(value), is_within(value, low, high) -/
abbrev sIsInt : Stmt := top 6
def spIsInt (K : PySem.W.Frag) : Sp := fun vs H Q _ => ∃ (x : V) (t : Value) (b1 b2 : Bool), vs = [x] ∧ TyX K H x t ∧ PySem.W.kitOne K t (.type "int") = some b1 ∧ (b1 = true → PySem.W.kitOne K t (.type "bool") = some b2) ∧ Q (.bl (b1 && !b2)) H
theorem scIsInt : FnScope ["value"] ["value"] (defScope sIsInt) := ⟨rfl, rfl, rfl, by decide +kernel, rfl, by decide +kernel, by decide +kernel⟩
theorem ok_is_integer (F : Fun K "is_integer" "is_integer" sIsInt f fd) (T : Txt K mg) : FnOk P w K mg base CX0 1 f fd ["value"] (spIsInt K) := by
  refine F.ok scIsInt (fun vs H Q E h => ?_) (fun cdv A outer s H vs Q E hr h => ?_)
  · obtain ⟨x, t, b1, b2, rfl, _⟩ := h; rfl
  obtain ⟨x, t, b1, b2, rfl, ty, k1, k2, q⟩ := h
  refine ⟨_, pss_one (ps_ret (pe_and (pe_callB call_isi (by rfl) T.isinst boot_isinstance (pa_cons (pv 0) (pa_cons (pe_bltn (v := .ty "int") (by rfl) T.int (by decide +kernel) rfl) pa_nil)))
    (pe_one (pe_not (pe_callB call_isi (by rfl) T.isinst boot_isinstance (pa_cons (pv 0) (pa_cons (pe_bltn (v := .ty "bool") (by rfl) T.bool (by decide +kernel) rfl) pa_nil))))))), ?_⟩
  refine ⟨_, rfl, x, _, t, _, b1, rfl, .ty "int", ty, k1, b1, rfl, ?_⟩
  cases b1 with
  | false => exact iteF q
  | true => exact iteT ⟨_, rfl, x, _, t, _, b2, rfl, .ty "bool", ty, k2 rfl, b2, rfl, q⟩
abbrev sWithin : Stmt := top 7
def spWithin : Sp := fun vs H Q _ => ∃ i lo hi : Int, vs = [.int i, .int lo, .int hi] ∧ Q (.bl (decide (lo ≤ i ∧ i ≤ hi))) H
theorem scWithin : FnScope ["value", "low", "high"] ["value", "low", "high"] (defScope sWithin) := ⟨rfl, rfl, rfl, by decide +kernel, rfl, by decide +kernel, by decide +kernel⟩
theorem ok_is_within (F : Fun K "is_within" "is_within" sWithin f fd) (c : Cal P w K mg base 1 "is_integer" (spIsInt K)) : FnOk P w K mg base CX0 2 f fd ["value", "low", "high"] spWithin := by
  refine F.ok scWithin (fun vs H Q E h => ?_) (fun cdv A outer s H vs Q E hr h => ?_)
  · obtain ⟨_, _, _, rfl, _⟩ := h; rfl
  obtain ⟨i, lo, hi, rfl, q⟩ := h
  refine ⟨_, pss_one (ps_ret (pe_and (pe_c c hr (Nat.le_refl _) (by rfl) (pa_cons (pv 0) pa_nil)) (pe_one (pe_chain op_le op_le (pv 1) (pv 0) (pv 2))))), ?_⟩
  refine ⟨_, rfl, .int i, .type "int", true, false, rfl, .base (.int i), kit_ty (by decide +kernel), fun _ => kit_ty (by decide +kernel), true, rfl, iteT ?_⟩
  refine ⟨_, rfl, _, rfl, lo, i, rfl, rfl, _, rfl, ?_⟩
  by_cases h1 : lo ≤ i
  · rw [decide_eq_true h1]
    refine iteT ⟨_, rfl, i, hi, rfl, rfl, ?_⟩
    have e : decide (lo ≤ i ∧ i ≤ hi) = decide (i ≤ hi) := by simp [h1]
    rw [e] at q
    exact q
  · rw [decide_eq_false h1]
    refine iteF ?_
    have e : decide (lo ≤ i ∧ i ≤ hi) = false := by simp [h1]
    rw [e] at q
    exact q
/-! ### tie_bit(web, tie), bits_of(web, lot) -/
abbrev sTieBit : Stmt := top 11
def spTieBit : Sp := fun vs H Q _ => ∃ (v : V) (n k : Nat) (ts : BE.Ties), vs = [v, natV k] ∧ Tp H v (webD n ts) ∧ k < ts.length ∧ ts.length ≤ 1000 ∧ Q (natV (BE.tieBit ts.length k)) H
theorem scTieBit : FnScope ["web", "tie"] ["web", "tie"] (defScope sTieBit) := ⟨rfl, rfl, rfl, by decide +kernel, rfl, by decide +kernel, by decide +kernel⟩
theorem ok_tie_bit (F : Fun K "tie_bit" "tie_bit" sTieBit f fd) (T : Txt K mg) : FnOk P w K mg base CX0 1 f fd ["web", "tie"] spTieBit := by
  refine F.ok scTieBit (fun vs H Q E h => ?_) (fun cdv A outer s H vs Q E hr h => ?_)
  · obtain ⟨_, _, _, _, rfl, _⟩ := h; rfl
  obtain ⟨v, n, k, ts, rfl, hw, hk, hm, q⟩ := h
  obtain ⟨a, t, rs, W⟩ := web_inv hw
  obtain rfl := W.v
  refine ⟨_, pss_one (ps_ret (pe_op op_shl pe_int (pe_op op_sub (pe_op op_sub (pe_callB call_len_seq (by rfl) T.len PySem.boot_len (pa_cons (pe_ix ix_tup (pv 0) pe_int (fun _ _ => rfl)) pa_nil)) pe_int) (pv 1)))), ?_⟩
  refine ⟨_, rfl, a, _, 1, _, rfl, rfl, SqT.of W.w, rfl, t, _, rfl, .inr (SqT.of W.t), _, _, rfl, rfl, _, rfl, _, _, rfl, rfl, _, _, rfl, rfl, ?_, ?_⟩
  · rw [W.len]
    exact ⟨by omega, by omega, by decide⟩
  · have e : (1 : Int) * 2 ^ ((rs.length : Int) - 1 - (k : Int)).toNat = ((BE.tieBit ts.length k : Nat) : Int) := by
      rw [W.len, show ((ts.length : Int) - 1 - (k : Int)).toNat = ts.length - 1 - k by omega, Int.one_mul]
      unfold BE.tieBit
      norm_cast
    show Q (.int ((1 : Int) * 2 ^ ((rs.length : Int) - 1 - (k : Int)).toNat)) H
    rw [e]
    exact q
abbrev sBitsOf : Stmt := top 12
def spBitsOf : Sp := fun vs H Q _ => ∃ (v l : V) (n : Nat) (ts : BE.Ties) (L : List Nat), vs = [v, l] ∧ Tp H v (webD n ts) ∧ Tp H l (lotD L) ∧ (∀ k ∈ L, k < ts.length) ∧ L.length ≤ 1000 ∧ ts.length ≤ 1000 ∧ ∀ H', Same H H' → Q (natV (BE.bitsOf ts.length L)) H'
theorem scBitsOf : FnScope ["web", "lot", "tie"] ["web", "lot"] (defScope sBitsOf) := ⟨rfl, rfl, rfl, by decide +kernel, rfl, by decide +kernel, by decide +kernel⟩
theorem take_snoc {α : Type} {L : List α} {i : Nat} {x : α} (h : L[i]? = some x) : L.take (i + 1) = L.take i ++ [x] := by
  rw [List.take_succ, h]; rfl
theorem ok_bits_of (F : Fun K "bits_of" "bits_of" sBitsOf f fd) (T : Txt K mg) (c : Cal P w K mg base 1 "tie_bit" spTieBit) : FnOk P w K mg base CX0 2 f fd ["web", "lot"] spBitsOf := by
  refine F.ok scBitsOf (fun vs H Q E h => ?_) (fun cdv A outer s H vs Q E hr h => ?_)
  · obtain ⟨_, _, _, _, _, rfl, _⟩ := h; rfl
  obtain ⟨v, l, n, ts, L, rfl, hw, hl, hb, hz, hm, q⟩ := h
  obtain ⟨a, rfl, ha⟩ := lot_inv hl
  refine ⟨_, pss_one (ps_ret (pe_callB (cr_sum rfl) (by rfl) T.sum (by decide +kernel) (pa_cons (pe_lc (own := [("tie", 2)]) (g := gName 2) (by rfl) scBitsOf.nd (pi_tup (pv 1)) (blkOk_by (own := [("tie", 2)]) (N := ["web", "lot", "tie"]) (sc := defScope sBitsOf) (by decide +kernel))
    (fun _ _ _ _ _ => pg_name (i := 2) scBitsOf.nd rfl (Or.inl rfl)) (fun _ _ _ _ _ => pts_nil) (fun _ _ _ _ _ => pe_c c hr (Nat.le_refl _) (by rfl) (pa_cons (pv 0) (pa_cons (pv 2) pa_nil)))) pa_nil))), ?_⟩
  refine ⟨_, rfl, a, rfl, ⟨_, SqT.of ha⟩, fun D hD => ?_⟩
  refine lc_tp (g := gName 2) (tt := tYes) (vs := [2]) (walk_tup (K := K) (a := a) (xs := L.map natV)) hD (by rw [List.length_map, sizeLine_eq]; omega) (fun i => (L.take i).map fun k => natD (BE.tieBit ts.length k)) rfl (fun H s => SqT.of (s _ _ ha)) (fun i x H1 H2 N M hi s _ y hN hM => ?_) fun H1 ys s e t => ?_
  · obtain ⟨rfl, hx⟩ := y
    rw [List.getElem?_map] at hx
    obtain ⟨k, hk, rfl⟩ := Option.map_eq_some_iff.mp hx
    refine ⟨rfl, kept ⟨_, rfl, _, rfl, _, n, k, ts, rfl, hw.mono (kt_same s), hb k (List.mem_of_getElem? hk), hm, ?_⟩⟩
    exact hN _ _ (natD (BE.tieBit ts.length k)) (Same.refl _) (.int _) (by rw [take_snoc hk, List.map_append]; rfl)
  · rw [List.length_map, List.take_length] at t
    have e2 : ys = ((L.map (BE.tieBit ts.length)).map fun k : Nat => (k : Int)).map V.int := by
      have t2 : Tps H1 ys ((L.map (BE.tieBit ts.length)).map natD) := by rw [List.map_map]; exact t
      rw [tps_nats t2]; simp only [List.map_map]; rfl
    refine ⟨D, _, rfl, SqL.of (by rw [← e2]; exact e), ?_⟩
    have e3 : ((L.map (BE.tieBit ts.length)).map fun k : Nat => (k : Int)).sum = ((BE.bitsOf ts.length L : Nat) : Int) := by
      unfold BE.bitsOf
      generalize L.map (BE.tieBit ts.length) = M
      induction M with
      | nil => rfl
      | cons a M ih => rw [List.map_cons, List.sum_cons, List.sum_cons, ih]; omega
    rw [e3]
    exact q H1 s
end
end R
end
/-! ## W2 -/
section
set_option Elab.async false
set_option linter.all false
set_option maxRecDepth 100000
set_option maxHeartbeats 4000000
namespace R
open PySem PySem.Spec PyProof.Rows L2
/-! ### operators on counts -/
section
variable {X : Cx}
theorem op_in_seqK {K : PySem.W.Frag} (e : X.K = K) : OpR X (compareOp .In) (rIn K false) := by rw [← e]; exact op_in_seq
theorem ix_tupK {K : PySem.W.Frag} {r : PySem.W.Frag → R2} (e : X.K = K) (h : IxR X (r X.K)) : IxR X (r K) := by rw [← e]; exact h
def rN (c : Nat → Nat → Prop) (f : Nat → Nat → V) : R2 := fun x y H Q => ∃ a b : Nat, x = natV a ∧ y = natV b ∧ c a b ∧ Q (f a b) H
theorem op_xorN : OpR X (binaryOp .BitXor) (rN (fun _ _ => True) fun a b => natV (a ^^^ b)) := by
  intro pins s σ H x y v u Q I rx ry h
  obtain ⟨a, b, rfl, rfl, _, q⟩ := h
  exact op_xor pins s σ H _ _ v u Q I rx ry ⟨_, _, rfl, rfl, by show Q (V.int (Builtin.bitXor (a : Int) (b : Int))) H; rw [xor_nat]; exact q⟩
theorem op_andN : OpR X (binaryOp .BitAnd) (rN (fun _ _ => True) fun a b => natV (a &&& b)) := by
  intro pins s σ H x y v u Q I rx ry h
  obtain ⟨a, b, rfl, rfl, _, q⟩ := h
  exact op_and pins s σ H _ _ v u Q I rx ry ⟨_, _, rfl, rfl, by show Q (V.int (Builtin.bitAnd (a : Int) (b : Int))) H; rw [and_nat]; exact q⟩
theorem op_shlN1 : OpR X (binaryOp .LShift) (rN (fun a b => a = 1 ∧ b ≤ 1000) fun _ b => natV (2 ^ b)) := by
  intro pins s σ H x y v u Q I rx ry h
  obtain ⟨a, b, rfl, rfl, ⟨rfl, hb⟩, q⟩ := h
  refine op_shl pins s σ H _ _ v u Q I rx ry ⟨_, _, rfl, rfl, ⟨by omega, by omega, by decide⟩, ?_⟩
  have e : ((1 : Nat) : Int) * 2 ^ ((b : Nat) : Int).toNat = ((2 ^ b : Nat) : Int) := nat_shl b
  show Q (V.int (((1 : Nat) : Int) * 2 ^ ((b : Nat) : Int).toNat)) H
  rw [e]
  exact q
theorem op_shrNN : OpR X (binaryOp .RShift) (rN (fun _ _ => True) fun a b => natV (a / 2 ^ b)) := by
  intro pins s σ H x y v u Q I rx ry h
  obtain ⟨a, b, rfl, rfl, _, q⟩ := h
  refine L2.op_shrN pins s σ H _ _ v u Q I rx ry ⟨_, _, rfl, rfl, ?_⟩
  have e : ((a : Nat) : Int) / 2 ^ b = ((a / 2 ^ b : Nat) : Int) := by norm_cast
  rw [e]
  exact q
theorem op_addN : OpR X (binaryOp .Add) (rN (fun _ _ => True) fun a b => natV (a + b)) := by
  intro pins s σ H x y v u Q I rx ry h
  obtain ⟨a, b, rfl, rfl, _, q⟩ := h
  exact op_add pins s σ H _ _ v u Q I rx ry ⟨_, _, rfl, rfl, by simpa [natV] using q⟩
theorem op_ltN : OpR X (compareOp .Lt) (rN (fun _ _ => True) fun a b => .bl (decide (a < b))) := by
  intro pins s σ H x y v u Q I rx ry h
  obtain ⟨a, b, rfl, rfl, _, q⟩ := h
  exact op_lt pins s σ H _ _ v u Q I rx ry ⟨_, _, rfl, rfl, by simpa using q⟩
theorem op_eqN : OpR X (compareOp .Eq) (rN (fun _ _ => True) fun a b => .bl (decide (a = b))) := by
  intro pins s σ H x y v u Q I rx ry h
  obtain ⟨a, b, rfl, rfl, _, q⟩ := h
  refine op_eq pins s σ H _ _ v u Q I rx ry ⟨rfl, ?_⟩
  have e : decide (natV a = natV b) = decide (a = b) := decide_eq_decide.mpr ⟨fun e => Int.ofNat.inj (V.int.inj e), fun e => by rw [e]⟩
  rw [e]; exact q
theorem op_neN : OpR X (compareOp .NotEq) (rN (fun _ _ => True) fun a b => .bl (!decide (a = b))) := by
  intro pins s σ H x y v u Q I rx ry h
  obtain ⟨a, b, rfl, rfl, _, q⟩ := h
  refine op_ne pins s σ H _ _ v u Q I rx ry ⟨rfl, ?_⟩
  have e : decide (natV a = natV b) = decide (a = b) := decide_eq_decide.mpr ⟨fun e => Int.ofNat.inj (V.int.inj e), fun e => by rw [e]⟩
  rw [e]; exact q
end
theorem eqV_nat (a b : Nat) : eqV (natV a) (natV b) = decide (a = b) := by
  show decide ((a : Int) = (b : Int)) = _
  exact decide_eq_decide.mpr ⟨fun e => Int.ofNat.inj e, fun e => by rw [e]⟩
theorem inV_nat (k : Nat) (L : List Nat) : inV (natV k) (L.map natV) = decide (k ∈ L) := by
  unfold inV
  rw [List.any_map]
  induction L with
  | nil => rfl
  | cons a L ih =>
    rw [List.any_cons, ih]
    show (eqV (natV a) (natV k) || _) = _
    rw [eqV_nat]
    by_cases h : a = k
    · subst h; simp
    · have h2 : ¬ k = a := fun e => h e.symm
      simp [h, h2]
theorem flat_nats (L : List Nat) : (L.map natV).all flatV = true := by
  rw [List.all_map, List.all_eq_true]; intro _ _; rfl
theorem walk_rangeN {n : Nat} : Walk (Itr 0 n) n (fun _ => True) (YFn natV) := walk_range.mono (fun _ h => h) fun i H x H' _ _ y => ⟨y.1, by rw [y.2]; show V.int (0 + (i : Int)) = V.int i; rw [Int.zero_add]⟩
/-- enumerate(web[1]) -/
theorem walk_ties {K : PySem.W.Frag} {H : Hp} {v : V} {n : Nat} {ts : BE.Ties} {a t : Addr} {rs : List V} (W : WebAt H v n ts a t rs) : Walk (IteT K t rs.length) ts.length (fun H' => Same H H')
    (fun i H1 v H1' => ∃ T p, v = .ref T ∧ H1 T = none ∧ H1' = upd H1 T (.tup [natV i, .ref p]) ∧ H1 p = some (.tup [natV (BE.aOf ts i), natV (BE.bOf ts i)])) := by
  rw [← W.len]
  refine walk_enumT.mono (fun H' s => SqT.of (s _ _ W.t)) fun i H1 v H1' hi s y => ?_
  obtain ⟨T, x1, x2, e, hT, e2, e3, e4⟩ := y
  have e5 : x1 = natV i := (Option.some.inj e3).symm
  obtain ⟨p, hp, hH⟩ := W.tie (k := i) (by rw [← W.len]; exact hi)
  have e6 : rs[i]? = some x2 := e4
  rw [hp] at e6
  have e7 : x2 = .ref p := (Option.some.inj e6).symm
  subst e5 e7
  exact ⟨T, p, e, hT, e2, s _ _ hH⟩
theorem new_old {H H1 : Hp} (s : Same H H1) {l : Addr} (h : H1 l = none) : H l = none := by
  cases z : H l with
  | none => rfl
  | some o => rw [s _ _ z] at h; cases h
/-- a target (x, y) -/
theorem pair_tg {K : PySem.W.Frag} {i j : Nat} {σ : L2.St} {H : Hp} {T : Addr} {x y : V} {Q : L2.St → Hp → Prop} (h : H T = some (.tup [x, y])) (q : Q ((σ.set i (some x)).set j (some y)) H) :
    gTup K 2 (gCons (gName i) (gCons (gName j) gNil)) (.ref T) σ H Q := ⟨T, _, rfl, SqT.of h, rfl, _, _, rfl, _, _, rfl, rfl, q⟩
section
variable {P : Program} {w : World} {K : PySem.W.Frag} {mg : Str → Option Value} {base : Heap} {f : Addr} {fd : FuncData}
/-! ### ties_at(web, place) -/
abbrev sTiesAt : Stmt := top 8
def spTiesAt : Sp := fun vs H Q _ => ∃ (v : V) (n p : Nat) (ts : BE.Ties), vs = [v, natV p] ∧ Tp H v (webD n ts) ∧ ts.length ≤ 1000 ∧ ∀ l H', Same H H' → Tp H' l (lotD (BE.starAt ts p)) → Q l H'
theorem scTiesAt : FnScope ["web", "place", "number", "pair"] ["web", "place"] (defScope sTiesAt) := ⟨rfl, rfl, rfl, by decide +kernel, rfl, by decide +kernel, by decide +kernel⟩
def starN (ts : BE.Ties) (p i : Nat) : List Nat := (List.range i).filter fun k => BE.inc ts k p
theorem starN_succ (ts : BE.Ties) (p i : Nat) : starN ts p (i + 1) = starN ts p i ++ if BE.inc ts i p then [i] else [] := by
  unfold starN; rw [List.range_succ, List.filter_append, List.filter_cons, List.filter_nil]
theorem ok_ties_at (F : Fun K "ties_at" "ties_at" sTiesAt f fd) (T : Txt K mg) : FnOk P w K mg base CX0 1 f fd ["web", "place"] spTiesAt := by
  refine F.ok scTiesAt (fun vs H Q E h => ?_) (fun cdv A outer s H vs Q E hr h => ?_)
  · obtain ⟨_, _, _, _, rfl, _⟩ := h; rfl
  obtain ⟨v, n, p, ts, rfl, hw, hm, q⟩ := h
  obtain ⟨a, t, rs, W⟩ := web_inv hw
  obtain rfl := W.v
  refine ⟨_, pss_one (ps_ret (pe_callTy call_tuple_of (by rfl) T.tuple (by decide +kernel) (pa_cons (pe_lc (own := [("number", 2), ("pair", 3)]) (g := gTup K 2 (gCons (gName 2) (gCons (gName 3) gNil))) (by rfl) scTiesAt.nd (pi_enumT (by rfl) T.enum (pa_cons (pe_ix ix_tup (pv 0) pe_int (fun _ _ => rfl)) pa_nil)) (blkOk_by (own := [("number", 2), ("pair", 3)]) (N := ["web", "place", "number", "pair"]) (sc := defScope sTiesAt) (by decide +kernel))
    (fun _ _ _ _ _ => pg_tup (by rfl) (pgs_cons (pg_name (i := 2) scTiesAt.nd rfl (Or.inl rfl)) (pgs_cons (pg_name (i := 3) scTiesAt.nd rfl (Or.inl rfl)) pgs_nil))) (fun _ _ _ _ _ => pts_one (pt_cmpR (op_in_seqK (K := K) rfl) (pv 1) (pv 3) (by rfl))) (fun _ _ _ _ _ => pv 2)) pa_nil))), ?_⟩
  refine ⟨_, rfl, a, _, 1, _, rfl, rfl, SqT.of W.w, rfl, t, rs, rfl, SqT.of W.t, fun D hD => ?_⟩
  refine lc_tp (g := gTup K 2 (gCons (gName 2) (gCons (gName 3) gNil))) (vs := [2, 3]) (walk_ties W) hD (by rw [sizeLine_eq]; omega) (fun i => (starN ts p i).map natD) rfl (fun H s => s) (fun i x H1 H2 N M hi s _ y hN hM => ?_) fun H1 ys s e tp => ?_
  · obtain ⟨U, pa, rfl, hU, rfl, hp⟩ := y
    have s1 : Same H1 (upd H1 U (.tup [natV i, .ref pa])) := same_new _ hU
    refine pair_tg upd_same ⟨rfl, _, rfl, _, rfl, pa, _, rfl, .inr (SqT.of (s1 _ _ hp)), rfl, rfl, _, rfl, ?_⟩
    have eb : inV (natV p) [natV (BE.aOf ts i), natV (BE.bOf ts i)] = BE.inc ts i p := by
      rw [show [natV (BE.aOf ts i), natV (BE.bOf ts i)] = [BE.aOf ts i, BE.bOf ts i].map natV from rfl, inV_nat]
      unfold BE.inc
      rw [← Bool.decide_or]
      exact decide_eq_decide.mpr (by simp only [List.mem_cons, List.not_mem_nil, or_false]; exact or_congr eq_comm eq_comm)
    show if inV (natV p) [natV (BE.aOf ts i), natV (BE.bOf ts i)] = true then _ else _
    rw [eb]
    refine ite2 (fun c => ?_) fun c => ?_
    · refine ⟨_, rfl, hN _ _ (natD i) s1 (.int _) ?_⟩
      rw [starN_succ, if_pos c, List.map_append]; rfl
    · refine hM _ s1 ?_
      rw [starN_succ, if_neg c, List.append_nil]
  · have e2 : ys = (BE.starAt ts p).map natV := tps_nats tp
    subst e2
    exact ⟨D, _, rfl, .inl ⟨SqL.of e, fun l hl => q _ _ (same_upd _ s (new_old s hl)) (lot_tp upd_same)⟩⟩
/-! ### lot_of_bits(web, bits) -/
abbrev sLotOf : Stmt := top 13
def spLotOf : Sp := fun vs H Q _ => ∃ (v : V) (n b : Nat) (ts : BE.Ties), vs = [v, natV b] ∧ Tp H v (webD n ts) ∧ ts.length ≤ 1000 ∧ ∀ l H', Same H H' → Tp H' l (lotD (BE.lotOfBits ts.length b)) → Q l H'
theorem scLotOf : FnScope ["web", "bits", "tie"] ["web", "bits"] (defScope sLotOf) := ⟨rfl, rfl, rfl, by decide +kernel, rfl, by decide +kernel, by decide +kernel⟩
theorem bit_ne {b j : Nat} : (b &&& 2 ^ j ≠ 0) ↔ b.testBit j = true := BE.and_pow_ne
theorem ok_lot_of_bits (F : Fun K "lot_of_bits" "lot_of_bits" sLotOf f fd) (T : Txt K mg) (c : Cal P w K mg base 1 "tie_bit" spTieBit) : FnOk P w K mg base CX0 2 f fd ["web", "bits"] spLotOf := by
  refine F.ok scLotOf (fun vs H Q E h => ?_) (fun cdv A outer s H vs Q E hr h => ?_)
  · obtain ⟨_, _, _, _, rfl, _⟩ := h; rfl
  obtain ⟨v, n, b, ts, rfl, hw, hm, q⟩ := h
  obtain ⟨a, t, rs, W⟩ := web_inv hw
  obtain rfl := W.v
  refine ⟨_, pss_one (ps_ret (pe_callTy call_tuple_of (by rfl) T.tuple (by decide +kernel) (pa_cons (pe_lc (own := [("tie", 2)]) (g := gName 2) (by rfl) scLotOf.nd (pi_range1 (by rfl) T.range (pa_cons (pe_callB call_len_seq (by rfl) T.len PySem.boot_len (pa_cons (pe_ix ix_tup (pv 0) pe_int (fun _ _ => rfl)) pa_nil)) pa_nil)) (blkOk_by (own := [("tie", 2)]) (N := ["web", "bits", "tie"]) (sc := defScope sLotOf) (by decide +kernel))
    (fun _ _ _ _ _ => pg_name (i := 2) scLotOf.nd rfl (Or.inl rfl)) (fun _ _ _ _ _ => pts_one (pt_cmpR op_neN (pe_op op_andN (pv 1) (pe_c c hr (Nat.le_refl _) (by rfl) (pa_cons (pv 0) (pa_cons (pv 2) pa_nil)))) pe_int (nomark _))) (fun _ _ _ _ _ => pv 2)) pa_nil))), ?_⟩
  refine ⟨_, rfl, a, _, 1, _, rfl, rfl, SqT.of W.w, rfl, t, rs, rfl, .inr (SqT.of W.t), (rs.length : Int), rfl, by omega, by have := W.len; omega, fun D hD => ?_⟩
  refine lc_tp (g := gName 2) (vs := [2]) walk_rangeN hD (by have := W.len; rw [sizeLine_eq]; omega) (fun i => ((List.range i).filter fun k => b.testBit (ts.length - 1 - k)).map natD) rfl (fun H s => trivial) (fun i x H1 H2 N M hi s _ y hN hM => ?_) fun H1 ys s e tp => ?_
  · obtain ⟨rfl, rfl⟩ := y
    have hi2 : i < ts.length := by have := W.len; omega
    refine ⟨rfl, _, rfl, _, rfl, _, rfl, _, n, i, ts, rfl, hw.mono (kt_same s), hi2, hm, _, _, rfl, rfl, trivial, _, 0, rfl, rfl, trivial, _, rfl, ?_⟩
    have ef : (List.range (i + 1)).filter (fun k => b.testBit (ts.length - 1 - k)) = (List.range i).filter (fun k => b.testBit (ts.length - 1 - k)) ++ if b.testBit (ts.length - 1 - i) then [i] else [] := by
      rw [List.range_succ, List.filter_append, List.filter_cons, List.filter_nil]
    have ed : (!decide ((b &&& BE.tieBit ts.length i) = 0)) = b.testBit (ts.length - 1 - i) := by
      have h1 := bit_ne (b := b) (j := ts.length - 1 - i)
      have h2 : BE.tieBit ts.length i = 2 ^ (ts.length - 1 - i) := rfl
      rw [h2]
      by_cases h : b.testBit (ts.length - 1 - i) = true
      · rw [h]; simp [h1.mpr h]
      · have h3 : b &&& 2 ^ (ts.length - 1 - i) = 0 := Classical.not_not.mp fun z => h (h1.mp z)
        rw [h3]; simp at h; rw [h]; rfl
    rw [ed]
    refine ite2 (fun c => ?_) fun c => ?_
    · refine ⟨_, rfl, hN _ _ (natD i) (Same.refl _) (.int _) ?_⟩
      show List.map natD _ = _
      rw [ef, if_pos c, List.map_append]; rfl
    · refine hM _ (Same.refl _) ?_
      show List.map natD _ = _
      rw [ef, if_neg c, List.append_nil]
  · have el : ((rs.length : Int) - 0).toNat = ts.length := by have := W.len; omega
    have tp2 : Tps H1 ys ((BE.lotOfBits ts.length b).map natD) := by
      unfold BE.lotOfBits
      have z := tp
      have el2 : ((rs.length : Nat) : Int).toNat = ts.length := by have := W.len; omega
      first | (rw [el] at z; exact z) | (rw [el2] at z; exact z)
    have e2 : ys = (BE.lotOfBits ts.length b).map natV := tps_nats tp2
    subst e2
    exact ⟨D, _, rfl, .inl ⟨SqL.of e, fun l hl => q _ _ (same_upd _ s (new_old s hl)) (lot_tp upd_same)⟩⟩
/-! ### greatest(bits), goal_of(pair, place) -/
abbrev sGreat : Stmt := top 14
def spGreat : Sp := fun vs H Q _ => ∃ b : Nat, vs = [natV b] ∧ b ≠ 0 ∧ b < 2 ^ 1000 ∧ Q (natV (2 ^ b.log2)) H
theorem scGreat : FnScope ["bits"] ["bits"] (defScope sGreat) := ⟨rfl, rfl, rfl, by decide +kernel, rfl, by decide +kernel, by decide +kernel⟩
theorem ok_greatest (F : Fun K "greatest" "greatest" sGreat f fd) : FnOk P w K mg base CX0 1 f fd ["bits"] spGreat := by
  refine F.ok scGreat (fun vs H Q E h => ?_) (fun cdv A outer s H vs Q E hr h => ?_)
  · obtain ⟨_, rfl, _⟩ := h; rfl
  obtain ⟨b, rfl, h0, hb, q⟩ := h
  refine ⟨_, pss_one (ps_ret (pe_op op_shlN1 pe_int (pe_op op_sub (pe_bits (pv 0)) pe_int))), ?_⟩
  have e : Builtin.Int.intBits ((b : Nat) : Int) = b.log2 + 1 := by
    unfold Builtin.Int.intBits
    rw [if_neg (by simpa using h0)]
    rfl
  refine ⟨_, rfl, _, rfl, _, 1, rfl, rfl, 1, b.log2, rfl, ?_, ⟨rfl, ?_⟩, q⟩
  · rw [e]
    show V.int _ = V.int _
    congr 1
    omega
  · have := Nat.log2_lt h0 |>.mpr hb
    omega
abbrev sGoal : Stmt := top 17
def spGoal : Sp := fun vs H Q _ => ∃ (a : Addr) (x y p : Nat), vs = [.ref a, natV p] ∧ H a = some (.tup [natV x, natV y]) ∧ Q (natV (if x = p then y else x)) H
theorem scGoal : FnScope ["pair", "place"] ["pair", "place"] (defScope sGoal) := ⟨rfl, rfl, rfl, by decide +kernel, rfl, by decide +kernel, by decide +kernel⟩
theorem ok_goal_of (F : Fun K "goal_of" "goal_of" sGoal f fd) : FnOk P w K mg base CX0 1 f fd ["pair", "place"] spGoal := by
  refine F.ok scGoal (fun vs H Q E h => ?_) (fun cdv A outer s H vs Q E hr h => ?_)
  · obtain ⟨_, _, _, _, rfl, _⟩ := h; rfl
  obtain ⟨a, x, y, p, rfl, hp, q⟩ := h
  refine ⟨_, pss_one (ps_ret (pe_ifExp (pt_cmpR op_eqN (pe_ix ix_tup (pv 0) pe_int (fun _ _ => rfl)) (pv 1) (nomark _)) (pe_ix ix_tup (pv 0) pe_int (fun _ _ => rfl)) (pe_ix ix_tup (pv 0) pe_int (fun _ _ => rfl)))), ?_⟩
  refine ⟨_, rfl, a, _, 0, _, rfl, rfl, SqT.of hp, rfl, _, rfl, x, p, rfl, rfl, trivial, _, rfl, ?_⟩
  by_cases h : x = p
  · rw [decide_eq_true h]
    rw [if_pos h] at q
    exact iteT ⟨_, rfl, a, _, 1, _, rfl, rfl, SqT.of hp, rfl, q⟩
  · rw [decide_eq_false h]
    rw [if_neg h] at q
    exact iteF ⟨_, rfl, a, _, 0, _, rfl, rfl, SqT.of hp, rfl, q⟩
end
end R
end
/-! ## W3 -/
section
set_option Elab.async false
set_option linter.all false
set_option maxRecDepth 100000
set_option maxHeartbeats 4000000
namespace R
open PySem PySem.Spec PyProof.Rows L2
/-- the webs that the law asks -/
structure Wk (n : Nat) (ts : BE.Ties) : Prop where
  web : BE.Web n ts
  hn : n ≤ 100
  hm : ts.length ≤ 100
theorem Wk.ends {n : Nat} {ts : BE.Ties} (W : Wk n ts) {k : Nat} (h : k < ts.length) : BE.aOf ts k ≤ 100 ∧ BE.bOf ts k ≤ 100 := by
  have := W.web.tie h
  have := W.hn
  omega
section
variable {P : Program} {w : World} {K : PySem.W.Frag} {mg : Str → Option Value} {base : Heap} {f : Addr} {fd : FuncData}
/-! ### lot_parities(web, lot) -/
abbrev sLotPar : Stmt := top 22
def spLotPar : Sp := fun vs H Q _ => ∃ (v l : V) (n : Nat) (ts : BE.Ties) (L : List Nat), vs = [v, l] ∧ Tp H v (webD n ts) ∧ Tp H l (lotD L) ∧ Wk n ts ∧ (∀ k ∈ L, k < ts.length) ∧ Q (natV (BE.lotPar ts L)) H
theorem scLotPar : FnScope ["web", "lot", "found", "tie", "one", "other"] ["web", "lot"] (defScope sLotPar) := ⟨rfl, rfl, rfl, by decide +kernel, rfl, by decide +kernel, by decide +kernel⟩
theorem lotPar_snoc (ts : BE.Ties) (L : List Nat) (k : Nat) : BE.lotPar ts (L ++ [k]) = BE.lotPar ts L ^^^ 2 ^ BE.aOf ts k ^^^ 2 ^ BE.bOf ts k := by
  unfold BE.lotPar; rw [List.foldl_append]; rfl
theorem ok_lot_parities (F : Fun K "lot_parities" "lot_parities" sLotPar f fd) : FnOk P w K mg base CX0 1 f fd ["web", "lot"] spLotPar := by
  refine F.ok scLotPar (fun vs H Q E h => ?_) (fun cdv A outer s H vs Q E hr h => ?_)
  · obtain ⟨_, _, _, _, _, rfl, _⟩ := h; rfl
  obtain ⟨v, l, n, ts, L, rfl, hw, hl, wk, hb, q⟩ := h
  obtain ⟨a, t, rs, W⟩ := web_inv hw
  obtain rfl := W.v
  obtain ⟨p, rfl, hp⟩ := lot_inv hl
  have nd := scLotPar.nd
  refine ⟨_, pss_cons (ps_set (i := 2) nd rfl (Or.inl rfl) pe_int) (pss_cons (ps_for PassesOwn.never rfl (pi_tup (pv 1)) (pg_name (i := 3) nd rfl (Or.inl rfl))
    (pss_cons (ps_asg (pe_ix ix_tup (pe_ix ix_tup (pv 0) pe_int (fun _ _ => rfl)) (pv 3) (fun _ _ => rfl)) (pg_tup (by rfl) (pgs_cons (pg_name (i := 4) nd rfl (Or.inl rfl)) (pgs_cons (pg_name (i := 5) nd rfl (Or.inl rfl)) pgs_nil))))
    (pss_one (ps_set (i := 2) nd rfl (Or.inl rfl) (pe_op op_xorN (pe_op op_xorN (pv 2) (pe_op op_shlN1 pe_int (pv 4))) (pe_op op_shlN1 pe_int (pv 5)))))))
    (pss_one (ps_ret (pv 2)))), ?_⟩
  refine ⟨_, rfl, p, rfl, ⟨_, SqT.of hp⟩, for_tup (xs := L.map natV) (fun i σ H' => H' = H ∧ ∃ o3 o4 o5, σ = [some (.ref a), some (.ref p), some (natV (BE.lotPar ts (L.take i))), o3, o4, o5]) ⟨rfl, none, none, none, rfl⟩ (fun i σ H' _ h => by rw [h.1]; exact SqT.of hp) (fun i x σ H' hx h => ?_) fun σ H' h => ?_⟩
  · obtain ⟨rfl, o3, o4, o5, rfl⟩ := h
    rw [List.getElem?_map] at hx
    obtain ⟨k, hk, rfl⟩ := Option.map_eq_some_iff.mp hx
    have hkl := hb k (List.mem_of_getElem? hk)
    obtain ⟨u, hu, hH⟩ := W.tie hkl
    have he := wk.ends hkl
    refine ⟨_, rfl, a, _, 1, _, rfl, rfl, SqT.of W.w, rfl, _, rfl, t, rs, (k : Int), _, rfl, rfl, SqT.of W.t, by rw [atI_nat]; exact hu, pair_tg hH ?_⟩
    refine ⟨_, rfl, _, rfl, 1, _, rfl, rfl, ⟨rfl, by omega⟩, _, _, rfl, rfl, trivial, _, rfl, 1, _, rfl, rfl, ⟨rfl, by omega⟩, _, _, rfl, rfl, trivial, rfl, ?_⟩
    rw [take_snoc hk, lotPar_snoc]
    exact ⟨_, _, _, rfl⟩
  · obtain ⟨rfl, o3, o4, o5, rfl⟩ := h
    rw [List.length_map, List.take_length]
    exact ⟨_, rfl, q⟩
/-! ### parities_left(pairs, parities, bits) -/
abbrev sParLeft : Stmt := top 23
def spParLeft : Sp := fun vs H Q _ => ∃ (p : Addr) (xs : List V) (prs : List BE.Pr) (c : BE.Pr), vs = [.ref p, natV c.1, natV c.2] ∧ H p = some (.lst xs) ∧ Tps H xs (prs.map pairD) ∧
  ∀ l, H l = none → Q (.ref l) (upd H l (.tup [natV (BE.parLeft prs c).1, natV (BE.parLeft prs c).2]))
theorem scParLeft : FnScope ["pairs", "parities", "bits", "own", "further"] ["pairs", "parities", "bits"] (defScope sParLeft) := ⟨rfl, rfl, rfl, by decide +kernel, rfl, by decide +kernel, by decide +kernel⟩
theorem parLeft_snoc (prs : List BE.Pr) (q c : BE.Pr) : BE.parLeft (prs ++ [q]) c = if (BE.parLeft prs c).1 ^^^ q.1 < (BE.parLeft prs c).1 then ((BE.parLeft prs c).1 ^^^ q.1, (BE.parLeft prs c).2 ^^^ q.2) else BE.parLeft prs c := by
  unfold BE.parLeft; rw [List.foldl_append]; rfl
theorem ok_parities_left (F : Fun K "parities_left" "parities_left" sParLeft f fd) : FnOk P w K mg base CX0 1 f fd ["pairs", "parities", "bits"] spParLeft := by
  refine F.ok scParLeft (fun vs H Q E h => ?_) (fun cdv A outer s H vs Q E hr h => ?_)
  · obtain ⟨_, _, _, _, rfl, _⟩ := h; rfl
  obtain ⟨p, xs, prs, c, rfl, hp, htp, q⟩ := h
  have nd := scParLeft.nd
  have hlen : xs.length = prs.length := by rw [Tps.length htp, List.length_map]
  refine ⟨_, pss_cons (ps_for PassesOwn.never rfl (pi_list (pv 0)) (pg_tup (by rfl) (pgs_cons (pg_name (i := 3) nd rfl (Or.inl rfl)) (pgs_cons (pg_name (i := 4) nd rfl (Or.inl rfl)) pgs_nil)))
    (pss_one (ps_if (pt_cmpR op_ltN (pe_op op_xorN (pv 1) (pv 3)) (pv 1) (nomark _)) (pss_one (ps_par (i := 1) (j := 2) (by rfl) nd rfl rfl (by decide) rfl rfl (pa_cons (pe_op op_xorN (pv 1) (pv 3)) (pa_cons (pe_op op_xorN (pv 2) (pv 4)) pa_nil)) (by rfl))) pss_nil)))
    (pss_one (ps_ret (pe_tup (pa_cons (pv 1) (pa_cons (pv 2) pa_nil))))), ?_⟩
  refine ⟨_, rfl, p, rfl, ⟨_, SqL.of hp⟩, for_list (xs := xs) (fun i σ H' => H' = H ∧ ∃ o3 o4, σ = [some (.ref p), some (natV (BE.parLeft (prs.take i) c).1), some (natV (BE.parLeft (prs.take i) c).2), o3, o4]) ⟨rfl, none, none, rfl⟩ (fun i σ H' _ h => by rw [h.1]; exact SqL.of hp) (fun i x σ H' hx h => ?_) fun σ H' h => ?_⟩
  · obtain ⟨rfl, o3, o4, rfl⟩ := h
    obtain ⟨d, hd, td⟩ := Tps.get htp hx
    rw [List.getElem?_map] at hd
    obtain ⟨r, hr2, rfl⟩ := Option.map_eq_some_iff.mp hd
    obtain ⟨u, rfl, hu⟩ := pair_inv td
    refine pair_tg hu ?_
    refine ⟨_, rfl, _, rfl, _, _, rfl, rfl, trivial, _, rfl, _, _, rfl, rfl, trivial, _, rfl, ?_⟩
    refine ite2 (fun cc => ?_) fun cc => ?_
    · refine ⟨_, rfl, _, rfl, _, _, rfl, rfl, trivial, _, rfl, _, rfl, _, _, rfl, rfl, trivial, _, _, rfl, rfl, ?_⟩
      rw [take_snoc hr2, parLeft_snoc, if_pos (of_decide_eq_true cc)]
      exact ⟨_, _, rfl⟩
    · refine ⟨rfl, ?_⟩
      rw [take_snoc hr2, parLeft_snoc, if_neg (fun z => cc (decide_eq_true z))]
      exact ⟨_, _, rfl⟩
  · obtain ⟨rfl, o3, o4, rfl⟩ := h
    rw [hlen, List.take_length]
    exact ⟨_, rfl, _, rfl, by show 2 ≤ sizeLine; decide, q⟩
end
end R
end
/-! ## W4 -/
section
set_option Elab.async false
set_option linter.all false
set_option maxRecDepth 100000
set_option maxHeartbeats 4000000
namespace R
open PySem PySem.Spec PyProof.Rows L2
theorem walk_range1N {n : Nat} : Walk (Itr 1 n) n (fun _ => True) (YFn fun i => natV (i + 1)) := walk_range.mono (fun _ h => h) fun i H x H' _ _ y => ⟨y.1, by rw [y.2]; show V.int (1 + (i : Int)) = V.int ((i + 1 : Nat) : Int); congr 1; omega⟩
section
variable {P : Program} {w : World} {K : PySem.W.Frag} {mg : Str → Option Value} {base : Heap} {f : Addr} {fd : FuncData}
/-! ### parity_rows(web) -/
abbrev sParRows : Stmt := top 24
def spParRows : Sp := fun vs H Q _ => ∃ (v : V) (n : Nat) (ts : BE.Ties), vs = [v] ∧ Tp H v (webD n ts) ∧ Wk n ts ∧
  ∀ l x q H', Same H H' → H' l = some (.tup [x, .ref q]) → H' q = some (.lst ((BE.parRows n ts).map natV)) → Q (.ref l) H'
theorem scParRows : FnScope ["web", "pairs", "found", "place", "lot", "parities", "bits"] ["web"] (defScope sParRows) := ⟨rfl, rfl, rfl, by decide +kernel, rfl, by decide +kernel, by decide +kernel⟩
theorem ok_parity_rows (F : Fun K "parity_rows" "parity_rows" sParRows f fd) (T : Txt K mg) (cT : Cal P w K mg base 1 "ties_at" spTiesAt) (cL : Cal P w K mg base 1 "parities_left" spParLeft) (cP : Cal P w K mg base 1 "lot_parities" spLotPar) (cB : Cal P w K mg base 2 "bits_of" spBitsOf) :
    FnOk P w K mg base CX0 3 f fd ["web"] spParRows := by
  refine F.ok scParRows (fun vs H Q E h => ?_) (fun cdv A outer s H vs Q E hr h => ?_)
  · obtain ⟨_, _, _, rfl, _⟩ := h; rfl
  obtain ⟨v, n, ts, rfl, hw, wk, q⟩ := h
  obtain ⟨a, t, rs, W⟩ := web_inv hw
  obtain rfl := W.v
  have nd := scParRows.nd
  have h1 := wk.hn
  have h2 := wk.hm
  have h3 := wk.web.pos
  refine ⟨_, pss_cons (ps_par (i := 1) (j := 2) (by rfl) nd rfl rfl (by decide) rfl rfl (pa_cons (pe_lst pa_nil) (pa_cons (pe_lst pa_nil) pa_nil)) (by rfl))
    (pss_cons (ps_for PassesOwn.never rfl (pi_range2 (by rfl) T.range (pa_cons pe_int (pa_cons (pe_ix ix_tup (pv 0) pe_int (fun _ _ => rfl)) pa_nil))) (pg_name (i := 3) nd rfl (Or.inl rfl))
      (pss_cons (ps_set (i := 4) nd rfl (Or.inl rfl) (pe_c cT hr (by decide) (by rfl) (pa_cons (pv 0) (pa_cons (pv 3) pa_nil))))
      (pss_cons (ps_asg (pe_c cL hr (by decide) (by rfl) (pa_cons (pv 1) (pa_cons (pe_c cP hr (by decide) (by rfl) (pa_cons (pv 0) (pa_cons (pv 4) pa_nil))) (pa_cons (pe_c cB hr (by decide) (by rfl) (pa_cons (pv 0) (pa_cons (pv 4) pa_nil))) pa_nil)))) (pg_tup (by rfl) (pgs_cons (pg_name (i := 5) nd rfl (Or.inl rfl)) (pgs_cons (pg_name (i := 6) nd rfl (Or.inl rfl)) pgs_nil))))
      (pss_one (ps_if (pt_cmpR op_eqN (pv 5) pe_int (nomark _))
        (pss_one (ps_expr (pe_bm PySem.F.plainAttrs_list PySem.F.slot_list_append PySem.F.type_list_append mt_append (pv 2) (pa_cons (pv 6) pa_nil))))
        (pss_one (ps_expr (pe_bm PySem.F.plainAttrs_list PySem.F.slot_list_append PySem.F.type_list_append mt_append (pv 1) (pa_cons (pe_tup (pa_cons (pv 5) (pa_cons (pv 6) pa_nil))) pa_nil)))))))))
    (pss_one (ps_ret (pe_tup (pa_cons (pv 1) (pa_cons (pv 2) pa_nil)))))), ?_⟩
  refine ⟨by show 0 ≤ sizeLine; decide, fun p hp => ⟨by show 0 ≤ sizeLine; decide, fun r hr2 => ⟨_, _, rfl, _, rfl, a, _, 0, _, rfl, rfl, SqT.of (same_new _ hr2 _ _ (same_new _ hp _ _ W.w)), rfl, 1, (n : Int), rfl, ⟨by decide, by decide, by omega, by omega⟩, ?_⟩⟩⟩
  have hpr : r ≠ p := fun e => by rw [e, upd_same] at hr2; cases hr2
  have hr3 : H r = none := by rw [upd_ne hpr] at hr2; exact hr2
  refine for_it (n := ((n : Int) - 1).toNat) walk_range1N (fun i σ H' => Same H H' ∧ (∃ xs, H' p = some (.lst xs) ∧ Tps H' xs ((BE.parTo ts i).1.map pairD)) ∧ H' r = some (.lst ((BE.parTo ts i).2.map natV)) ∧ ∃ o3 o4 o5 o6, σ = [some (.ref a), some (.ref p), some (.ref r), o3, o4, o5, o6])
    ⟨same_upd _ (same_new _ hp) hr3, ⟨[], by rw [upd_ne hpr.symm, upd_same], .nil⟩, upd_same, none, none, none, none, rfl⟩ (fun _ _ _ _ _ => trivial) (fun i x σ H1 H2 hi h y => ?_) fun σ H1 h => ?_
  · obtain ⟨rfl, rfl⟩ := y
    obtain ⟨sm, ⟨xs, hxp, htp⟩, hr4, o3, o4, o5, o6, rfl⟩ := h
    have hin : i + 1 < n := by omega
    have pin := BE.parTo_ok wk.web i (by omega)
    have hw2 := hw.mono (kt_same sm)
    refine ⟨_, rfl, _, rfl, _, n, i + 1, ts, rfl, hw2, by omega, fun l H3 s3 tl => ?_⟩
    have lt : ∀ k ∈ BE.starAt ts (i + 1), k < ts.length := fun k hk => BE.starAt_lt hk
    have ll : (BE.starAt ts (i + 1)).length ≤ ts.length := by
      unfold BE.starAt
      exact Nat.le_trans (List.length_filter_le _ _) (by simp)
    have hw3 := hw2.mono (kt_same s3)
    refine ⟨_, rfl, _, rfl, _, rfl, _, l, n, ts, _, rfl, hw3, tl, wk, lt, _, rfl, _, rfl, _, l, n, ts, _, rfl, hw3, tl, lt, by omega, by omega, fun H4 s4 => ?_⟩
    have hx4 := s4 _ _ (s3 _ _ hxp)
    refine ⟨p, xs, (BE.parTo ts i).1, (BE.lotPar ts (BE.starAt ts (i + 1)), BE.star ts (i + 1)), rfl, hx4, Tps.mono (kt_same (s3.trans s4)) htp, fun u hu => ?_⟩
    refine pair_tg upd_same ?_
    have e1 : BE.parTo ts (i + 1) = BE.parStep ts (BE.parTo ts i) (i + 1) := rfl
    unfold BE.parStep at e1
    generalize hc : BE.parLeft (BE.parTo ts i).1 (BE.lotPar ts (BE.starAt ts (i + 1)), BE.star ts (i + 1)) = c at e1 ⊢
    have s5 : Same H4 (upd H4 u (.tup [natV c.1, natV c.2])) := same_new _ hu
    have sA := ((sm.trans s3).trans s4).trans s5
    have hx5 := s5 _ _ hx4
    have hr5 := s5 _ _ (s4 _ _ (s3 _ _ hr4))
    have tp5 := Tps.mono (kt_same ((s3.trans s4).trans s5)) htp
    refine ⟨_, rfl, _, 0, rfl, rfl, trivial, _, rfl, ?_⟩
    refine ite2 (fun cc => ?_) fun cc => ?_
    · have c0 : c.1 = 0 := of_decide_eq_true cc
      rw [if_pos c0] at e1
      refine ⟨_, rfl, .inl ⟨rfl, _, SqL.of hr5⟩, _, rfl, r, _, _, rfl, rfl, hr5, ?_, ?_⟩
      · rw [List.length_map, sizeLine_eq]; have := pin.l1; omega
      · rw [e1]
        refine ⟨same_upd _ sA hr3, ⟨xs, by rw [upd_ne hpr.symm]; exact hx5, Tps.mono (kt_lst _ hr5) tp5⟩, by rw [upd_same, List.map_append]; rfl, _, _, _, _, rfl⟩
    · have c0 : c.1 ≠ 0 := fun z => cc (decide_eq_true z)
      rw [if_neg c0] at e1
      refine ⟨_, rfl, .inl ⟨rfl, _, SqL.of hx5⟩, _, rfl, _, rfl, by show 2 ≤ sizeLine; decide, fun z hz => ?_⟩
      have s6 := same_new (.tup [natV c.1, natV c.2]) hz
      have hx6 := s6 _ _ hx5
      refine ⟨p, _, _, rfl, rfl, hx6, ?_, ?_⟩
      · rw [Tps.length tp5, List.length_map, sizeLine_eq]; have := pin.l2; omega
      · rw [e1]
        refine ⟨same_upd _ (sA.trans s6) hp, ⟨_, upd_same, ?_⟩, by rw [upd_ne hpr]; exact s6 _ _ hr5, _, _, _, _, rfl⟩
        rw [List.map_append]
        exact Tps.snoc (Tps.mono ((kt_same s6).trans (kt_lst _ hx6)) tp5) ((pair_tp upd_same).mono (kt_lst _ hx6))
  · obtain ⟨sm, ⟨xs, hxp, htp⟩, hr4, o3, o4, o5, o6, rfl⟩ := h
    refine ⟨_, rfl, _, rfl, by show 2 ≤ sizeLine; decide, fun z hz => ?_⟩
    have s6 := same_new (.tup [.ref p, .ref r]) hz
    have e : ((n : Int) - 1).toNat = n - 1 := by omega
    rw [e] at hr4
    exact q z _ r _ (sm.trans s6) upd_same (s6 _ _ hr4)
end
end R
end
/-! ## W5 -/
section
set_option Elab.async false
set_option linter.all false
set_option maxRecDepth 100000
set_option maxHeartbeats 4000000
namespace R
open PySem PySem.Spec PyProof.Rows L2
/-! ### dicts of figures -/
def kvsOf (ps : List (Nat × Nat)) : List (L2.Key × V) := ps.map fun p => (Sum.inl (p.1 : Int), natV p.2)
theorem kvs_len (ps : List (Nat × Nat)) : (kvsOf ps).length = ps.length := by unfold kvsOf; rw [List.length_map]
theorem kvs_app (ps qs : List (Nat × Nat)) : kvsOf (ps ++ qs) = kvsOf ps ++ kvsOf qs := by unfold kvsOf; rw [List.map_append]
theorem key_inj {a b : Nat} (h : (Sum.inl (a : Int) : L2.Key) = Sum.inl (b : Int)) : a = b := Int.ofNat.inj (Sum.inl.inj h)
theorem kvs_val : ∀ {A B : List (Nat × Nat)} {p : Nat × Nat}, p.1 ∉ A.map (·.1) → valV (kvsOf (A ++ p :: B)) (Sum.inl (p.1 : Int)) = some (natV p.2)
  | [], B, p, _ => valV_pos rfl
  | q :: A, B, p, h => by
    show valV ((Sum.inl (q.1 : Int), natV q.2) :: kvsOf (A ++ p :: B)) _ = _
    rw [valV_neg fun e => h (by rw [List.map_cons, ← key_inj e]; exact List.mem_cons_self)]
    exact kvs_val fun hm => h (List.mem_cons_of_mem _ hm)
theorem kvs_none : ∀ {A : List (Nat × Nat)} {g : Nat}, g ∉ A.map (·.1) → valV (kvsOf A) (Sum.inl (g : Int)) = none
  | [], _, _ => rfl
  | q :: A, g, h => by
    show valV ((Sum.inl (q.1 : Int), natV q.2) :: kvsOf A) _ = _
    rw [valV_neg fun e => h (by rw [List.map_cons, ← key_inj e]; exact List.mem_cons_self)]
    exact kvs_none fun hm => h (List.mem_cons_of_mem _ hm)
theorem kvs_map_out : ∀ {A : List (Nat × Nat)} {g : Nat} {v : V}, g ∉ A.map (·.1) → (kvsOf A).map (fun kv => if kv.1 = Sum.inl (g : Int) then (kv.1, v) else kv) = kvsOf A
  | [], _, _, _ => rfl
  | q :: A, g, v, h => by
    show (if (Sum.inl (q.1 : Int) : L2.Key) = Sum.inl (g : Int) then _ else _) :: (kvsOf A).map _ = _
    rw [if_neg (fun e => h (by rw [List.map_cons, ← key_inj e]; exact List.mem_cons_self)), kvs_map_out (fun hm => h (List.mem_cons_of_mem _ hm))]
    rfl
theorem kvs_put {A B : List (Nat × Nat)} {p : Nat × Nat} (v : Nat) (hA : p.1 ∉ A.map (·.1)) (hB : p.1 ∉ B.map (·.1)) : putK (kvsOf (A ++ p :: B)) (Sum.inl (p.1 : Int)) (natV v) = kvsOf (A ++ (p.1, v) :: B) := by
  unfold putK
  rw [valV_any, kvs_val hA]
  rw [if_pos (show (some (natV p.2)).isSome = true from rfl), kvs_app, List.map_append, kvs_map_out hA, kvs_app]
  show kvsOf A ++ ((if (Sum.inl (p.1 : Int) : L2.Key) = Sum.inl (p.1 : Int) then _ else _) :: (kvsOf B).map _) = _
  rw [if_pos rfl, kvs_map_out hB]
  rfl
theorem kvs_new {A : List (Nat × Nat)} {g : Nat} (v : Nat) (hA : g ∉ A.map (·.1)) : putK (kvsOf A) (Sum.inl (g : Int)) (natV v) = kvsOf (A ++ [(g, v)]) := by
  unfold putK
  rw [valV_any, kvs_none hA, if_neg (by simp), kvs_app]
  rfl
theorem split_at {α : Type} {L : List α} {i : Nat} {x : α} (h : L[i]? = some x) : L = L.take i ++ x :: L.drop (i + 1) := by
  obtain ⟨hi, e⟩ := List.getElem?_eq_some_iff.mp h
  subst e
  rw [← List.drop_eq_getElem_cons hi, List.take_append_drop]
theorem nodup_split {A B : List (Nat × Nat)} {p : Nat × Nat} (h : ((A ++ p :: B).map (·.1)).Nodup) : p.1 ∉ A.map (·.1) ∧ p.1 ∉ B.map (·.1) := by
  rw [List.map_append, List.map_cons] at h
  have h2 := List.nodup_append.mp h
  exact ⟨fun hm => h2.2.2 _ hm _ List.mem_cons_self rfl, (List.nodup_cons.mp h2.2.1).1⟩
theorem fix_fst (b g : Nat) (A : List (Nat × Nat)) : (A.map (BE.redFix b g)).map (·.1) = A.map (·.1) := by
  rw [List.map_map]; exact List.map_congr_left fun p _ => BE.redFix_fst b g p
section
variable {P : Program} {w : World} {K : PySem.W.Frag} {mg : Str → Option Value} {base : Heap} {f : Addr} {fd : FuncData}
/-! ### reduced_bits(rows) -/
abbrev sRed : Stmt := top 15
def spRed : Sp := fun vs H Q _ => ∃ (r : Addr) (rows : List Nat), vs = [.ref r] ∧ H r = some (.lst (rows.map natV)) ∧ (∀ a ∈ rows, a < 2 ^ 100) ∧ rows.length ≤ 60 ∧
  ∀ l bs H', Same H H' → H' l = some (.lst (bs.map natV)) → BE.Ech bs.reverse → (∀ x, BE.Span bs x ↔ BE.Span rows x) → bs.length ≤ rows.length → Q (.ref l) H'
theorem scRed : FnScope ["rows", "known", "row", "bits", "figure", "fresh"] ["rows"] (defScope sRed) := ⟨rfl, rfl, rfl, by decide +kernel, rfl, by decide +kernel, by decide +kernel⟩
theorem ok_reduced_bits (F : Fun K "reduced_bits" "reduced_bits" sRed f fd) (T : Txt K mg) (cG : Cal P w K mg base 1 "greatest" spGreat) : FnOk P w K mg base CX0 2 f fd ["rows"] spRed := by
  refine F.ok scRed (fun vs H Q E h => ?_) (fun cdv A outer s H vs Q E hr h => ?_)
  · obtain ⟨_, _, rfl, _⟩ := h; rfl
  obtain ⟨r, rows, rfl, hrow, hlt, hlen, q⟩ := h
  have nd := scRed.nd
  have hu := hu_of hr
  refine ⟨_, pss_cons (ps_set (i := 1) nd rfl (Or.inr rfl) pe_dnewK)
    (pss_cons (ps_for PassesOwn.never rfl (pi_list (pv 0)) (pg_name (i := 2) nd rfl (Or.inl rfl))
      (pss_cons (ps_set (i := 3) nd rfl (Or.inl rfl) (pv 2))
      (pss_cons (ps_lock (ps_for PassesOwn.never rfl (pi_keys (pv 1)) (pg_name (i := 4) nd rfl (Or.inl rfl))
        (pss_one (ps_if (pt_cmpR op_neN (pe_op op_andN (pv 3) (pv 4)) pe_int (nomark _)) (pss_one (ps_set (i := 3) nd rfl (Or.inl rfl) (pe_op op_xorN (pv 3) (pe_dget hu (pv 1) (pv 4) (fun _ _ => rfl))))) pss_nil))))
      (pss_one (ps_if (pt_cmpR op_neN (pv 3) pe_int (nomark _))
        (pss_cons (ps_set (i := 5) nd rfl (Or.inl rfl) (pe_c cG hr (by decide) (by rfl) (pa_cons (pv 3) pa_nil)))
        (pss_cons (ps_for PassesOwn.never rfl (pi_list (pe_callTy (call_list_dK (by rfl)) (by rfl) T.list (by decide +kernel) (pa_cons (pv 1) pa_nil))) (pg_name (i := 4) nd rfl (Or.inl rfl))
          (pss_one (ps_if (pt_cmpR op_neN (pe_op op_andN (pe_dget hu (pv 1) (pv 4) (fun _ _ => rfl)) (pv 5)) pe_int (nomark _)) (pss_one (ps_dput hu (pv 1) (pv 4) (pe_op op_xorN (pe_dget hu (pv 1) (pv 4) (fun _ _ => rfl)) (pv 3)) rfl)) pss_nil)))
        (pss_one (ps_dput hu (pv 1) (pv 5) (pv 3) rfl)))) pss_nil)))))
    (pss_one (ps_ret (pe_lc (own := [("figure", 4)]) (g := gName 4) (by rfl) nd (pi_list (pe_revL (pe_callB (call_sortedDI (by rfl)) (by rfl) T.sorted (by decide +kernel) (pa_cons (pv 1) pa_nil)))) (blkOk_by (own := [("figure", 4)]) (N := ["rows", "known", "row", "bits", "figure", "fresh"]) (sc := defScope sRed) (by decide +kernel))
      (fun _ _ _ _ _ => pg_name (i := 4) nd rfl (Or.inl rfl)) (fun _ _ _ _ _ => pts_nil) (fun _ _ _ _ _ => pe_dget hu (pv 1) (pv 4) (fun _ _ => rfl)))))), ?_⟩
  refine fun d hd => ⟨_, rfl, r, rfl, ⟨_, SqL.of (same_new _ hd _ _ hrow)⟩, ?_⟩
  refine for_list (xs := rows.map natV) (fun i σ H' => Same H H' ∧ H' d = some (.dK (kvsOf (BE.redAll (rows.take i)))) ∧ ∃ o2 o3 o4 o5, σ = [some (.ref r), some (.ref d), o2, o3, o4, o5])
    ⟨same_new _ hd, upd_same, none, none, none, none, rfl⟩ (fun i σ H' _ h => SqL.of (h.1 _ _ hrow)) (fun i x σ H1 hx h => ?_) fun σ H1 h => ?_
  · obtain ⟨sm, hd1, o2, o3, o4, o5, rfl⟩ := h
    rw [List.getElem?_map] at hx
    obtain ⟨row, hk, rfl⟩ := Option.map_eq_some_iff.mp hx
    have hrl := hlt row (List.mem_of_getElem? hk)
    have hRK := BE.redAll_ok (rows.take i)
    have hpl := BE.redAll_lt (m := 100) (rows := rows.take i) fun a ha => hlt a (List.mem_of_mem_take ha)
    have hps := BE.redAll_len (rows.take i)
    have hil := List.length_take_le i rows
    have hil2 : (rows.take i).length ≤ rows.length := by rw [List.length_take]; omega
    have enx : BE.redAll (rows.take (i + 1)) = BE.redStep (BE.redAll (rows.take i)) row := by rw [take_snoc hk, BE.redAll_snoc]
    have hOK := BE.redAll_ok (rows.take (i + 1))
    rw [enx] at hOK ⊢
    generalize hps' : BE.redAll (rows.take i) = ps at *
    refine ⟨_, rfl, d, _, hd1, trivial, fun od => ⟨_, rfl, d, od, rfl, .inl ⟨kvsOf ps, upd_same, ?_⟩⟩⟩
    refine for_it (n := (kvsOf ps).length) walk_keys (fun j σ H' => H' = upd H1 d (.frz od (.dK (kvsOf ps))) ∧ ∃ o4, σ = [some (.ref r), some (.ref d), some (natV row), some (natV (BE.clear (ps.take j) row)), o4, o5])
      ⟨rfl, _, rfl⟩ (fun j σ H' _ h => by rw [h.1]; exact upd_same) (fun j x σ H2 H3 hj h y => ?_) fun σ H2 h => ?_
    · obtain ⟨rfl, o4, rfl⟩ := h
      obtain ⟨rfl, k, v, hkv, rfl⟩ := y
      unfold kvsOf at hkv
      rw [List.getElem?_map] at hkv
      obtain ⟨p, hp, e⟩ := Option.map_eq_some_iff.mp hkv
      cases e
      have hsp := split_at hp
      have nds := nodup_split (hsp ▸ hRK.keys)
      refine ⟨_, rfl, _, rfl, _, p.1, rfl, rfl, trivial, _, 0, rfl, rfl, trivial, _, rfl, ?_⟩
      have ecl : BE.clear (ps.take (j + 1)) row = if BE.clear (ps.take j) row &&& p.1 ≠ 0 then BE.clear (ps.take j) row ^^^ p.2 else BE.clear (ps.take j) row := by rw [take_snoc hp, BE.clear_snoc]
      rw [ecl]
      refine ite2 (fun cc => ?_) fun cc => ?_
      · have c1 : BE.clear (ps.take j) row &&& p.1 ≠ 0 := by simpa using cc
        rw [if_pos c1]
        have ev : valV (kvsOf ps) (Sum.inl (p.1 : Int)) = some (natV p.2) := by rw [hsp]; exact kvs_val nds.1
        exact ⟨_, rfl, _, rfl, _, rfl, d, natV p.2, rfl, .inl ⟨kvsOf ps, Sum.inl (p.1 : Int), .inr ⟨od, upd_same⟩, rfl, ev.symm⟩, _, _, rfl, rfl, trivial, rfl, _, rfl⟩
      · have c1 : ¬ (BE.clear (ps.take j) row &&& p.1 ≠ 0) := fun z => cc (by simpa using z)
        rw [if_neg c1]
        exact ⟨rfl, _, rfl⟩
    · obtain ⟨rfl, o4', rfl⟩ := h
      rw [kvs_len, List.take_length]
      refine ⟨upd_same, ?_⟩
      have eH : upd (upd H1 d (.frz od (.dK (kvsOf ps)))) d (.dK (kvsOf ps)) = H1 := by
        funext b
        by_cases c : b = d
        · subst c; rw [upd_same, hd1]
        · rw [upd_ne c, upd_ne c]
      rw [eH]
      refine ⟨_, rfl, _, 0, rfl, rfl, trivial, _, rfl, ?_⟩
      unfold BE.redStep at *
      generalize hB : BE.clear ps row = B at *
      refine ite2 (fun cc => ?_) fun cc => ?_
      · have c1 : B ≠ 0 := by simpa using cc
        rw [if_neg c1] at hOK ⊢
        have hBl : B < 2 ^ 100 := by rw [← hB]; exact BE.clear_lt hpl hrl
        refine ⟨_, rfl, B, rfl, c1, Nat.lt_of_lt_of_le hBl (Nat.pow_le_pow_right (by omega) (by omega)), _, rfl, d, _, rfl, hd1, fun l hl => ?_⟩
        have hld : d ≠ l := fun e => by rw [e, hl] at hd1; cases hd1
        generalize hG : 2 ^ B.log2 = G at *
        refine ⟨l, rfl, ⟨_, SqL.of upd_same⟩, ?_⟩
        have ekeys : ((kvsOf ps).map fun kv => kV kv.1) = ps.map fun p => natV p.1 := by unfold kvsOf; rw [List.map_map]; rfl
        rw [ekeys]
        have hok2 := hOK.keys
        rw [List.map_append, fix_fst] at hok2
        have hfresh : G ∉ ps.map (·.1) := fun hm => (List.nodup_append.mp hok2).2.2 _ hm _ List.mem_cons_self rfl
        refine for_list (xs := ps.map fun p => natV p.1) (fun j σ H' => Same H H' ∧ H' l = some (.lst (ps.map fun p => natV p.1)) ∧ H' d = some (.dK (kvsOf ((ps.take j).map (BE.redFix B G) ++ ps.drop j))) ∧ ∃ o4, σ = [some (.ref r), some (.ref d), some (natV row), some (natV B), o4, some (natV G)])
          ⟨same_upd _ sm (new_old sm hl), upd_same, by rw [upd_ne hld]; exact hd1, _, rfl⟩ (fun j σ H' _ h => SqL.of h.2.1) (fun j x σ H2 hx h => ?_) fun σ H2 h => ?_
        · obtain ⟨s2, hl2, hd2, o4, rfl⟩ := h
          rw [List.getElem?_map] at hx
          obtain ⟨p, hp, rfl⟩ := Option.map_eq_some_iff.mp hx
          have hsp := split_at hp
          have hdr : ps.drop j = p :: ps.drop (j + 1) := by
            obtain ⟨hi, e⟩ := List.getElem?_eq_some_iff.mp hp
            subst e
            exact List.drop_eq_getElem_cons hi
          have nds := nodup_split (hsp ▸ hRK.keys)
          have nA : p.1 ∉ ((ps.take j).map (BE.redFix B G)).map (·.1) := by rw [fix_fst]; exact nds.1
          have ev : valV (kvsOf ((ps.take j).map (BE.redFix B G) ++ ps.drop j)) (Sum.inl (p.1 : Int)) = some (natV p.2) := by rw [hdr]; exact kvs_val nA
          have eput : ∀ v : Nat, putK (kvsOf ((ps.take j).map (BE.redFix B G) ++ ps.drop j)) (Sum.inl (p.1 : Int)) (natV v) = kvsOf ((ps.take j).map (BE.redFix B G) ++ (p.1, v) :: ps.drop (j + 1)) := fun v => by rw [hdr]; exact kvs_put v nA nds.2
          have enext : (ps.take (j + 1)).map (BE.redFix B G) ++ ps.drop (j + 1) = (ps.take j).map (BE.redFix B G) ++ BE.redFix B G p :: ps.drop (j + 1) := by
            rw [take_snoc hp, List.map_append, List.append_assoc]; rfl
          have lns : (kvsOf ((ps.take j).map (BE.redFix B G) ++ ps.drop j)).length < sizeLine := by
            rw [kvs_len, List.length_append, List.length_map, ← List.length_append, List.take_append_drop, sizeLine_eq]; omega
          have gd : DGet H2 d (natV p.1) (some (natV p.2)) := by rw [← ev]; exact DGet.k (k := Sum.inl (p.1 : Int)) hd2
          rw [enext]
          refine ⟨_, rfl, _, rfl, d, natV p.2, rfl, gd, _, rfl, _, _, rfl, rfl, trivial, _, 0, rfl, rfl, trivial, _, rfl, ?_⟩
          refine ite2 (fun cc => ?_) fun cc => ?_
          · have c2 : p.2 &&& G ≠ 0 := by simpa using cc
            have ef : BE.redFix B G p = (p.1, p.2 ^^^ B) := if_pos c2
            rw [ef]
            refine ⟨_, rfl, _, rfl, d, natV p.2, rfl, gd, _, rfl, _, _, rfl, rfl, trivial, _, rfl, _, rfl, d, _, rfl, DPut.k (k := Sum.inl (p.1 : Int)) hd2 lns, ?_⟩
            refine ⟨same_upd _ s2 hd, ?_, ?_, _, rfl⟩
            · rw [upd_ne hld.symm]; exact hl2
            · rw [upd_same, eput]
          · have c2 : ¬ (p.2 &&& G ≠ 0) := fun z => cc (by simpa using z)
            have ef : BE.redFix B G p = p := if_neg c2
            rw [ef]
            rw [hdr] at hd2
            exact ⟨s2, hl2, hd2, _, rfl⟩
        · obtain ⟨s2, hl2, hd2, o4, rfl⟩ := h
          rw [List.length_map, List.take_length, List.drop_length, List.append_nil] at hd2
          refine ⟨_, rfl, _, rfl, _, rfl, d, _, rfl, DPut.k (k := Sum.inl (G : Int)) hd2 (by rw [kvs_len, List.length_map, sizeLine_eq]; omega), ?_⟩
          rw [kvs_new B (by rw [fix_fst]; exact hfresh)]
          exact ⟨same_upd _ s2 hd, upd_same, _, _, _, _, rfl⟩
      · have c1 : B = 0 := by simpa using cc
        rw [if_pos c1] at hOK ⊢
        exact ⟨sm, hd1, _, _, _, _, rfl⟩
  · obtain ⟨sm, hd1, o2, o3, o4, o5, rfl⟩ := h
    rw [List.length_map, List.take_length] at hd1
    have hRK := BE.redAll_ok rows
    have hps := BE.redAll_len rows
    have hsp := BE.redAll_span rows
    generalize BE.redAll rows = ps at *
    refine ⟨_, rfl, d, kvsOf ps, ps.map (fun p => (p.1 : Int)), rfl, .inl hd1, by unfold kvsOf; rw [List.map_map, List.map_map]; rfl, by rw [List.length_map]; omega, fun ys p2 perm srt hp2 => ?_⟩
    refine ⟨p2, _, rfl, SqL.of upd_same, fun p3 hp3 => ⟨p3, rfl, ⟨_, SqL.of upd_same⟩, fun D hD => ?_⟩⟩
    obtain ⟨fs, rfl⟩ : ∃ fs : List Nat, ys = fs.map fun k : Nat => (k : Int) := by
      refine ⟨ys.map Int.toNat, ?_⟩
      rw [List.map_map]
      refine (List.map_id ys).symm.trans (List.map_congr_left fun y hy => ?_)
      obtain ⟨p, _, e⟩ := List.mem_map.mp (perm.mem_iff.mp hy)
      subst e
      rfl
    have perm2 : fs.Perm (ps.map (·.1)) := by
      have e : ps.map (fun p => (p.1 : Int)) = (ps.map (·.1)).map fun k : Nat => (k : Int) := by rw [List.map_map]; rfl
      rw [e] at perm
      have z := perm.map Int.toNat
      rw [List.map_map, List.map_map] at z
      have e1 : ∀ L : List Nat, L.map (Int.toNat ∘ fun k : Nat => (k : Int)) = L := fun L => by
        refine (List.map_congr_left fun k _ => ?_).trans (List.map_id L)
        rfl
      rw [e1, e1] at z
      exact z
    have srt2 : fs.Pairwise (· ≤ ·) := by
      rw [List.pairwise_map] at srt
      exact srt.imp fun h => by omega
    obtain ⟨ech, spn⟩ := hRK.ech perm2 srt2
    have er : ((fs.map fun k : Nat => (k : Int)).map V.int).reverse = fs.reverse.map natV := by rw [List.map_map, ← List.map_reverse]; rfl
    rw [er] at hD ⊢
    have hl3 : fs.length = ps.length := by rw [perm2.length_eq, List.length_map]
    have s3 : Same H1 (upd H1 p2 (.lst ((fs.map fun k : Nat => (k : Int)).map V.int))) := same_new _ hp2
    have s4 := s3.trans (same_new (.lst (fs.reverse.map natV)) hp3)
    refine lc_tp (g := gName 4) (tt := tYes) (vs := [4]) (walk_list (K := K) (a := p3) (xs := fs.reverse.map natV)) hD (by rw [List.length_map, List.length_reverse, sizeLine_eq]; omega) (fun i => ((fs.reverse.take i).map fun g => natD (BE.lookP ps g))) rfl (fun H s => SqL.of (s _ _ upd_same)) (fun i x Ha Hb N M hi s _ y hN hM => ?_) fun Ha ys s e tp => ?_
    · obtain ⟨rfl, hx⟩ := y
      rw [List.getElem?_map] at hx
      obtain ⟨g, hg, rfl⟩ := Option.map_eq_some_iff.mp hx
      have hgm : g ∈ fs := List.mem_reverse.mp (List.mem_of_getElem? hg)
      obtain ⟨p, hp, rfl⟩ := List.mem_map.mp (perm2.mem_iff.mp hgm)
      obtain ⟨j, hj⟩ := List.getElem?_of_mem hp
      have hsp2 := split_at hj
      have nds := nodup_split (hsp2 ▸ hRK.keys)
      have ev : valV (kvsOf ps) (Sum.inl (p.1 : Int)) = some (natV p.2) := by rw [hsp2]; exact kvs_val nds.1
      have hda := s _ _ (s4 _ _ hd1)
      refine ⟨rfl, kept ⟨_, rfl, _, rfl, d, natV p.2, rfl, by rw [← ev]; exact DGet.k (k := Sum.inl (p.1 : Int)) hda, ?_⟩⟩
      refine hN _ _ (natD p.2) (Same.refl _) (.int _) ?_
      rw [take_snoc hg, List.map_append, ← hRK.look hp]
      rfl
    · rw [List.length_map, List.take_length] at tp
      have tp2 : Tps Ha ys ((fs.reverse.map (BE.lookP ps)).map natD) := by rw [List.map_map]; exact tp
      have e2 := tps_nats tp2
      subst e2
      refine q D (fs.reverse.map (BE.lookP ps)) Ha ((sm.trans s4).trans s) e ?_ (fun x => ?_) ?_
      · rw [← List.map_reverse, List.reverse_reverse]; exact ech
      · rw [← hsp, ← spn]
        exact BE.span_congr (fun a => by rw [List.mem_map, List.mem_map]; exact ⟨fun ⟨g, hg, e⟩ => ⟨g, List.mem_reverse.mp hg, e⟩, fun ⟨g, hg, e⟩ => ⟨g, List.mem_reverse.mpr hg, e⟩⟩) x
      · rw [List.length_map, List.length_reverse]; omega
end
end R
end
/-! ## W6 -/
section
set_option Elab.async false
set_option linter.all false
set_option maxRecDepth 100000
set_option maxHeartbeats 4000000
namespace R
open PySem PySem.Spec PyProof.Rows L2
/-- a reduced base of the both-even lots -/
structure Base (n : Nat) (ts : BE.Ties) (bs : List Nat) : Prop where
  ech : BE.Ech bs.reverse
  span : ∀ x, BE.Span bs x ↔ BE.V ts x
  len : bs.length = (BE.parRows n ts).length
theorem Base.small {n : Nat} {ts : BE.Ties} {bs : List Nat} (B : Base n ts bs) (W : BE.Web n ts) : bs.length ≤ n - 1 := by rw [B.len]; exact (BE.parRows_ok W).2.2
theorem Base.rspan {n : Nat} {ts : BE.Ties} {bs : List Nat} (B : Base n ts bs) (x : Nat) : BE.Span bs.reverse x ↔ BE.V ts x :=
  (BE.span_congr (fun _ => List.mem_reverse) x).trans (B.span x)
section
variable {P : Program} {w : World} {K : PySem.W.Frag} {mg : Str → Option Value} {base : Heap} {f : Addr} {fd : FuncData}
/-! ### base_bits(web) -/
abbrev sBase : Stmt := top 27
def spBase : Sp := fun vs H Q _ => ∃ (v : V) (n : Nat) (ts : BE.Ties), vs = [v] ∧ Tp H v (webD n ts) ∧ Wk n ts ∧ n ≤ 50 ∧
  ∀ l bs H', Same H H' → H' l = some (.lst (bs.map natV)) → Base n ts bs → Q (.ref l) H'
theorem scBase : FnScope ["web"] ["web"] (defScope sBase) := ⟨rfl, rfl, rfl, by decide +kernel, rfl, by decide +kernel, by decide +kernel⟩
theorem ok_base_bits (F : Fun K "base_bits" "base_bits" sBase f fd) (cR : Cal P w K mg base 2 "reduced_bits" spRed) (cP : Cal P w K mg base 3 "parity_rows" spParRows) : FnOk P w K mg base CX0 4 f fd ["web"] spBase := by
  refine F.ok scBase (fun vs H Q E h => ?_) (fun cdv A outer s H vs Q E hr h => ?_)
  · obtain ⟨_, _, _, rfl, _⟩ := h; rfl
  obtain ⟨v, n, ts, rfl, hw, wk, hn, q⟩ := h
  refine ⟨_, pss_one (ps_ret (pe_c cR hr (by decide) (by rfl) (pa_cons (pe_ix ix_tup (pe_c cP hr (by decide) (by rfl) (pa_cons (pv 0) pa_nil)) pe_int (fun _ _ => rfl)) pa_nil))), ?_⟩
  obtain ⟨h1, h2, h3⟩ := BE.parRows_ok wk.web
  have hm := wk.hm
  refine ⟨_, rfl, v, n, ts, rfl, hw, wk, fun l x r H1 s1 hl hr1 => ⟨l, _, 1, _, rfl, rfl, SqT.of hl, rfl, r, BE.parRows n ts, rfl, hr1, fun a ha => ?_, by omega, fun l2 bs H2 s2 hl2 he hs hb => ?_⟩⟩
  · have z := (h1 a).mp (BE.span_mem ha)
    exact Nat.lt_of_lt_of_le z.1 (Nat.pow_le_pow_right (by omega) hm)
  · refine q l2 bs H2 (s1.trans s2) hl2 ⟨he, fun x => (hs x).trans (h1 x), ?_⟩
    have e := BE.indep_len h2 he (fun x => ((hs x).symm.trans (BE.span_congr (fun _ => List.mem_reverse.symm) x)))
    rw [List.length_reverse] at e
    exact e.symm
/-! ### lot_base(web), lot_many(web) -/
abbrev sLotBase : Stmt := top 28
def spLotBase : Sp := fun vs H Q _ => ∃ (v : V) (n : Nat) (ts : BE.Ties), vs = [v] ∧ Tp H v (webD n ts) ∧ Wk n ts ∧ n ≤ 50 ∧
  ∀ l bs H', Same H H' → Tp H' l (.tuple (bs.map fun b => lotD (BE.lotOfBits ts.length b))) → Base n ts bs → Q l H'
theorem scLotBase : FnScope ["web", "bits"] ["web"] (defScope sLotBase) := ⟨rfl, rfl, rfl, by decide +kernel, rfl, by decide +kernel, by decide +kernel⟩
theorem ok_lot_base (F : Fun K "lot_base" "lot_base" sLotBase f fd) (T : Txt K mg) (cB : Cal P w K mg base 4 "base_bits" spBase) (cL : Cal P w K mg base 2 "lot_of_bits" spLotOf) : FnOk P w K mg base CX0 5 f fd ["web"] spLotBase := by
  refine F.ok scLotBase (fun vs H Q E h => ?_) (fun cdv A outer s H vs Q E hr h => ?_)
  · obtain ⟨_, _, _, rfl, _⟩ := h; rfl
  obtain ⟨v, n, ts, rfl, hw, wk, hn, q⟩ := h
  refine ⟨_, pss_one (ps_ret (pe_callTy call_tuple_of (by rfl) T.tuple (by decide +kernel) (pa_cons (pe_lc (own := [("bits", 1)]) (g := gName 1) (by rfl) scLotBase.nd (pi_list (pe_c cB hr (by decide) (by rfl) (pa_cons (pv 0) pa_nil))) (blkOk_by (own := [("bits", 1)]) (N := ["web", "bits"]) (sc := defScope sLotBase) (by decide +kernel))
    (fun _ _ _ _ _ => pg_name (i := 1) scLotBase.nd rfl (Or.inl rfl)) (fun _ _ _ _ _ => pts_nil) (fun _ _ _ _ _ => pe_c cL hr (by decide) (by rfl) (pa_cons (pv 0) (pa_cons (pv 1) pa_nil)))) pa_nil))), ?_⟩
  have hm := wk.hm
  refine ⟨_, rfl, v, n, ts, rfl, hw, wk, hn, fun l bs H1 s1 hl hB => ⟨l, rfl, ⟨_, SqL.of hl⟩, fun D hD => ?_⟩⟩
  have hbl := hB.small wk.web
  refine lc_tp (g := gName 1) (tt := tYes) (vs := [1]) (walk_list (K := K) (a := l) (xs := bs.map natV)) hD (by rw [List.length_map, sizeLine_eq]; omega) (fun i => (bs.take i).map fun b => lotD (BE.lotOfBits ts.length b)) rfl (fun H s => SqL.of (s _ _ hl)) (fun i x Ha Hb N M hi s _ y hN hM => ?_) fun Ha ys s e tp => ?_
  · obtain ⟨rfl, hx⟩ := y
    rw [List.getElem?_map] at hx
    obtain ⟨b, hb, rfl⟩ := Option.map_eq_some_iff.mp hx
    refine ⟨rfl, kept ⟨_, rfl, _, rfl, v, n, b, ts, rfl, hw.mono (kt_same (s1.trans s)), by omega, fun l2 H3 s3 tl => hN _ _ _ s3 tl ?_⟩⟩
    rw [take_snoc hb, List.map_append]
    rfl
  · rw [List.length_map, List.take_length] at tp
    exact ⟨D, _, rfl, .inl ⟨SqL.of e, fun z hz => q _ bs _ (same_upd _ (s1.trans s) (new_old (s1.trans s) hz)) (.tup upd_same (Tps.mono (kt_new _ hz) tp)) hB⟩⟩
abbrev sLotMany : Stmt := top 29
def spLotMany : Sp := fun vs H Q _ => ∃ (v : V) (n : Nat) (ts : BE.Ties), vs = [v] ∧ Tp H v (webD n ts) ∧ Wk n ts ∧ ∀ H', Same H H' → Q (natV (BE.parRows n ts).length) H'
theorem scLotMany : FnScope ["web"] ["web"] (defScope sLotMany) := ⟨rfl, rfl, rfl, by decide +kernel, rfl, by decide +kernel, by decide +kernel⟩
theorem ok_lot_many (F : Fun K "lot_many" "lot_many" sLotMany f fd) (T : Txt K mg) (cP : Cal P w K mg base 3 "parity_rows" spParRows) : FnOk P w K mg base CX0 4 f fd ["web"] spLotMany := by
  refine F.ok scLotMany (fun vs H Q E h => ?_) (fun cdv A outer s H vs Q E hr h => ?_)
  · obtain ⟨_, _, _, rfl, _⟩ := h; rfl
  obtain ⟨v, n, ts, rfl, hw, wk, q⟩ := h
  refine ⟨_, pss_one (ps_ret (pe_callB call_len_seq (by rfl) T.len PySem.boot_len (pa_cons (pe_ix ix_tup (pe_c cP hr (by decide) (by rfl) (pa_cons (pv 0) pa_nil)) pe_int (fun _ _ => rfl)) pa_nil))), ?_⟩
  refine ⟨_, rfl, v, n, ts, rfl, hw, wk, fun l x r H1 s1 hl hr1 => ⟨l, _, 1, _, rfl, rfl, SqT.of hl, rfl, r, _, rfl, .inl (SqL.of hr1), ?_⟩⟩
  rw [List.length_map]
  exact q H1 s1
/-! ### numbered_bits(base, number) -/
abbrev sNum : Stmt := top 30
def spNum : Sp := fun vs H Q _ => ∃ (b : Addr) (bs : List Nat) (i : Nat), vs = [.ref b, natV i] ∧ H b = some (.lst (bs.map natV)) ∧ bs.length ≤ 100 ∧ ∀ H', Same H H' → Q (natV (BE.nb bs.reverse i)) H'
theorem scNum : FnScope ["base", "number", "found", "place", "bits"] ["base", "number"] (defScope sNum) := ⟨rfl, rfl, rfl, by decide +kernel, rfl, by decide +kernel, by decide +kernel⟩
theorem shr_bit (i j : Nat) : decide ((i / 2 ^ j) &&& 1 = 1) = i.testBit j := by
  rw [Nat.and_one_is_mod, Nat.testBit_eq_decide_div_mod_eq]
theorem ok_numbered_bits (F : Fun K "numbered_bits" "numbered_bits" sNum f fd) (T : Txt K mg) : FnOk P w K mg base CX0 1 f fd ["base", "number"] spNum := by
  refine F.ok scNum (fun vs H Q E h => ?_) (fun cdv A outer s H vs Q E hr h => ?_)
  · obtain ⟨_, _, _, rfl, _⟩ := h; rfl
  obtain ⟨b, bs, num, rfl, hb, hm, q⟩ := h
  have nd := scNum.nd
  refine ⟨_, pss_cons (ps_set (i := 2) nd rfl (Or.inl rfl) pe_int) (pss_cons (ps_for PassesOwn.never rfl (pi_enum (by rfl) T.enum (pa_cons (pe_revL (pv 0)) pa_nil)) (pg_tup (by rfl) (pgs_cons (pg_name (i := 3) nd rfl (Or.inl rfl)) (pgs_cons (pg_name (i := 4) nd rfl (Or.inl rfl)) pgs_nil)))
    (pss_one (ps_if (pt_cmpR op_eqN (pe_op op_andN (pe_op op_shrNN (pv 1) (pv 3)) pe_int) pe_int (nomark _)) (pss_one (ps_set (i := 2) nd rfl (Or.inl rfl) (pe_op op_xorN (pv 2) (pv 4)))) pss_nil)))
    (pss_one (ps_ret (pv 2)))), ?_⟩
  refine ⟨_, rfl, b, _, rfl, SqL.of hb, fun l hl => ⟨l, _, rfl, SqL.of upd_same, ?_⟩⟩
  have er : (bs.map natV).reverse = bs.reverse.map natV := by rw [← List.map_reverse]
  rw [er]
  refine for_it walk_enum (fun i σ H' => Same (upd H l (.lst (bs.reverse.map natV))) H' ∧ ∃ o3 o4, σ = [some (.ref b), some (natV num), some (natV (BE.nb (bs.reverse.take i) num)), o3, o4]) ⟨Same.refl _, none, none, rfl⟩ (fun i σ H' _ h => SqL.of (h.1 _ _ upd_same)) (fun i x σ H1 H2 hi h y => ?_) fun σ H1 h => ?_
  · obtain ⟨sm, o3, o4, rfl⟩ := h
    obtain ⟨U, x1, x2, rfl, hU, rfl, e1, e2⟩ := y
    have e3 : x1 = natV i := (Option.some.inj e1).symm
    have e4 : (bs.reverse.map natV)[i]? = some x2 := e2
    rw [List.getElem?_map] at e4
    obtain ⟨a, ha, rfl⟩ := Option.map_eq_some_iff.mp e4
    subst e3
    refine pair_tg upd_same ⟨_, rfl, _, rfl, _, _, rfl, rfl, trivial, _, 1, rfl, rfl, trivial, _, 1, rfl, rfl, trivial, _, rfl, ?_⟩
    rw [shr_bit, BE.nb_take _ _ _ _ ha]
    have s2 := sm.trans (same_new (.tup [natV i, natV a]) hU)
    refine ite2 (fun c => ?_) fun c => ?_
    · rw [if_pos c]
      exact ⟨_, rfl, _, rfl, _, _, rfl, rfl, trivial, s2, _, _, rfl⟩
    · rw [if_neg c, Nat.xor_zero]
      exact ⟨s2, _, _, rfl⟩
  · obtain ⟨sm, o3, o4, rfl⟩ := h
    rw [List.length_map, List.take_length]
    exact ⟨_, rfl, q _ ((same_new _ hl).trans sm)⟩
end
end R
end
/-! ## W7 -/
section
set_option Elab.async false
set_option linter.all false
set_option maxRecDepth 100000
set_option maxHeartbeats 4000000
namespace R
open PySem PySem.Spec PyProof.Rows L2
theorem at_nats {L : List Nat} {i : Nat} (h : i < L.length) : atI (L.map natV) (i : Int) = some (natV (L.getD i 0)) := atI_nat (by
  rw [List.getElem?_map, List.getElem?_eq_getElem h]
  simp [List.getD, h])
/-- a target (k, (x, y)) -/
theorem tie_tg {K : PySem.W.Frag} {i j l : Nat} {σ : L2.St} {H : Hp} {T U : Addr} {x y z : V} {Q : L2.St → Hp → Prop} (h : H T = some (.tup [x, .ref U])) (h2 : H U = some (.tup [y, z])) (q : Q (((σ.set i (some x)).set j (some y)).set l (some z)) H) :
    gTup K 2 (gCons (gName i) (gCons (gTup K 2 (gCons (gName j) (gCons (gName l) gNil))) gNil)) (.ref T) σ H Q :=
  ⟨T, _, rfl, SqT.of h, rfl, _, _, rfl, _, _, rfl, ⟨U, _, rfl, SqT.of h2, rfl, _, _, rfl, _, _, rfl, rfl, rfl, q⟩⟩
section
variable {P : Program} {w : World} {K : PySem.W.Frag} {mg : Str → Option Value} {base : Heap} {f : Addr} {fd : FuncData}
/-! ### first_tree(web) -/
abbrev sTree : Stmt := top 18
def spTree : Sp := fun vs H Q _ => ∃ (v : V) (n : Nat) (ts : BE.Ties), vs = [v] ∧ Tp H v (webD n ts) ∧ Wk n ts ∧
  ∀ l H', Same H H' → H' l = some (.lst ((BE.treeOf n ts).map natV)) → Q (.ref l) H'
theorem scTree : FnScope ["web", "found", "homes", "number", "one", "other", "left", "right", "home"] ["web"] (defScope sTree) := ⟨rfl, rfl, rfl, by decide +kernel, rfl, by decide +kernel, by decide +kernel⟩
theorem ok_first_tree (F : Fun K "first_tree" "first_tree" sTree f fd) (T : Txt K mg) : FnOk P w K mg base CX0 1 f fd ["web"] spTree := by
  refine F.ok scTree (fun vs H Q E h => ?_) (fun cdv A outer s H vs Q E hr h => ?_)
  · obtain ⟨_, _, _, rfl, _⟩ := h; rfl
  obtain ⟨v, n, ts, rfl, hw, wk, q⟩ := h
  obtain ⟨a, t, rs, W⟩ := web_inv hw
  obtain rfl := W.v
  have nd := scTree.nd
  have hn := wk.hn
  have hm := wk.hm
  refine ⟨_, pss_cons (ps_par (i := 1) (j := 2) (by rfl) nd rfl rfl (by decide) rfl rfl (pa_cons (pe_lst pa_nil) (pa_cons (pe_listRg (by rfl) (by rfl) T.list (prg_1 (by rfl) T.range (pe_ix ix_tup (pv 0) pe_int (fun _ _ => rfl)))) pa_nil)) (by rfl))
    (pss_cons (ps_for PassesOwn.never rfl (pi_enumT (by rfl) T.enum (pa_cons (pe_ix ix_tup (pv 0) pe_int (fun _ _ => rfl)) pa_nil)) (pg_tup (by rfl) (pgs_cons (pg_name (i := 3) nd rfl (Or.inl rfl)) (pgs_cons (pg_tup (by rfl) (pgs_cons (pg_name (i := 4) nd rfl (Or.inl rfl)) (pgs_cons (pg_name (i := 5) nd rfl (Or.inl rfl)) pgs_nil))) pgs_nil)))
      (pss_cons (ps_asg (pe_tup (pa_cons (pe_ix ix_list (pv 2) (pv 4) (fun _ _ => rfl)) (pa_cons (pe_ix ix_list (pv 2) (pv 5) (fun _ _ => rfl)) pa_nil))) (pg_tup (by rfl) (pgs_cons (pg_name (i := 6) nd rfl (Or.inr rfl)) (pgs_cons (pg_name (i := 7) nd rfl (Or.inr rfl)) pgs_nil))))
      (pss_one (ps_if (pt_cmpR op_neN (pv 6) (pv 7) (nomark _))
        (pss_cons (ps_expr (pe_bm PySem.F.plainAttrs_list PySem.F.slot_list_append PySem.F.type_list_append mt_append (pv 1) (pa_cons (pv 3) pa_nil)))
        (pss_one (ps_setLc (i := 2) (own := [("home", 8)]) (g := gName 8) (by rfl) nd rfl rfl (sw_true rfl rfl rfl (by decide +kernel)) (pi_list (pv 2)) (blkOk_by (own := [("home", 8)]) (N := ["web", "found", "homes", "number", "one", "other", "left", "right", "home"]) (sc := defScope sTree) (by decide +kernel))
          (fun _ _ _ _ _ => pg_name (i := 8) nd rfl (Or.inl rfl)) (fun _ _ _ _ _ => pts_nil) (fun _ _ _ _ _ => pe_ifExp (pt_cmpR op_eqN (pv 8) (pv 7) (nomark _)) (pv 6) (pv 8)))))
        pss_nil))))
    (pss_one (ps_ret (pv 1)))), ?_⟩
  refine ⟨by show 0 ≤ sizeLine; decide, fun p hp => ⟨_, rfl, a, _, 0, _, rfl, rfl, SqT.of (same_new _ hp _ _ W.w), rfl, (n : Int), rfl, RgOk.of_le (by decide) (by omega) (by decide) (by omega), fun r hr2 => ⟨_, _, rfl, _, rfl, a, _, 1, _, rfl, rfl, SqT.of (same_new _ hr2 _ _ (same_new _ hp _ _ W.w)), rfl, t, rs, rfl, SqT.of (same_new _ hr2 _ _ (same_new _ hp _ _ W.t)), ?_⟩⟩⟩
  have hpr : r ≠ p := fun e => by rw [e, upd_same] at hr2; cases hr2
  have s1 : Same H (upd (upd H p (.lst [])) r (.lst (rgV 0 (n : Int)))) := (same_new _ hp).trans (same_new _ hr2)
  have erg : rgV 0 (n : Int) = (List.range n).map natV := by
    unfold rgV
    rw [show ((n : Int) - 0).toNat = n by omega]
    exact List.map_congr_left fun i _ => by show V.int _ = V.int _; rw [Int.zero_add]
  rw [erg] at s1 ⊢
  refine for_it (walk_ties W) (fun i σ H' => Same H H' ∧ H' p = some (.lst ((BE.treeTo n ts i).1.map natV)) ∧ ∃ hm o3 o4 o5 o6 o7 o8, hm ≠ p ∧ H' hm = some (.lst ((BE.treeTo n ts i).2.map natV)) ∧ σ = [some (.ref a), some (.ref p), some (.ref hm), o3, o4, o5, o6, o7, o8])
    ⟨s1, by rw [upd_ne hpr.symm, upd_same]; rfl, r, none, none, none, none, none, none, hpr, upd_same, rfl⟩ (fun i σ H' _ h => h.1) (fun i x σ Ha Hb hi h y => ?_) fun σ Ha h => ?_
  · obtain ⟨sm, hp1, ha, o3, o4, o5, o6, o7, o8, hne, hh, rfl⟩ := h
    obtain ⟨U, pa, rfl, hU, rfl, hpa⟩ := y
    have I := BE.treeTo_ok wk.web i (by omega)
    have enx : BE.treeTo n ts (i + 1) = BE.treeStep ts (BE.treeTo n ts i) i := rfl
    have ht := wk.web.tie hi
    rw [enx]
    generalize BE.treeTo n ts i = st at *
    obtain ⟨fd2, hms⟩ := st
    have hl : hms.length = n := I.len
    have sU : Same Ha (upd Ha U (.tup [natV i, .ref pa])) := same_new _ hU
    refine tie_tg upd_same (sU _ _ hpa) ?_
    have hhU : upd Ha U (.tup [natV i, .ref pa]) ha = some (.lst (hms.map natV)) := sU _ _ hh
    have hpU := sU _ _ hp1
    refine ⟨_, rfl, _, rfl, ha, _, (BE.aOf ts i : Int), _, rfl, rfl, SqL.of hhU, at_nats (L := hms) (by omega), _, rfl, _, rfl, ha, _, (BE.bOf ts i : Int), _, rfl, rfl, SqL.of hhU, at_nats (L := hms) (by omega), by show 2 ≤ sizeLine; decide, fun z hz => ?_⟩
    refine pair_tg upd_same ?_
    have sz := sU.trans (same_new (.tup [natV (hms.getD (BE.aOf ts i) 0), natV (hms.getD (BE.bOf ts i) 0)]) hz)
    have hhz := sz _ _ hh
    have hpz := sz _ _ hp1
    generalize upd (upd Ha U (.tup [natV i, .ref pa])) z (.tup [natV (hms.getD (BE.aOf ts i) 0), natV (hms.getD (BE.bOf ts i) 0)]) = Hz at *
    refine ⟨_, rfl, _, rfl, _, _, rfl, rfl, trivial, _, rfl, ?_⟩
    unfold BE.treeStep
    refine ite2 (fun cc => ?_) fun cc => ?_
    · have c1 : ¬ hms.getD (BE.aOf ts i) 0 = hms.getD (BE.bOf ts i) 0 := by simpa using cc
      have ei : (if hms.getD (BE.aOf ts i) 0 = hms.getD (BE.bOf ts i) 0 then (fd2, hms) else (fd2 ++ [i], hms.map fun h => if h = hms.getD (BE.bOf ts i) 0 then hms.getD (BE.aOf ts i) 0 else h)) = (fd2 ++ [i], hms.map fun h => if h = hms.getD (BE.bOf ts i) 0 then hms.getD (BE.aOf ts i) 0 else h) := if_neg c1
      rw [ei]
      have hf := I.few
      refine ⟨_, rfl, .inl ⟨rfl, _, SqL.of hpz⟩, _, rfl, p, _, _, rfl, rfl, hpz, by rw [List.length_map, sizeLine_eq]; have : fd2.length ≤ i := hf; omega, ?_⟩
      have hhp : upd Hz p (.lst (fd2.map natV ++ [natV i])) ha = some (.lst (hms.map natV)) := by rw [upd_ne hne]; exact hhz
      refine ⟨_, rfl, ha, rfl, ⟨_, SqL.of hhp⟩, fun D hD => ?_⟩
      refine lc_tp (g := gName 8) (tt := tYes) (vs := [8]) (walk_list (K := K) (a := ha) (xs := hms.map natV)) hD (by rw [List.length_map, sizeLine_eq]; omega) (fun j => (hms.take j).map fun h => natD (if h = hms.getD (BE.bOf ts i) 0 then hms.getD (BE.aOf ts i) 0 else h)) rfl (fun H s => SqL.of (s _ _ hhp)) (fun j x Hc Hd N M hj s _ y hN hM => ?_) fun Hc ys s e tp => ?_
      · obtain ⟨rfl, hx⟩ := y
        rw [List.getElem?_map] at hx
        obtain ⟨h, hh2, rfl⟩ := Option.map_eq_some_iff.mp hx
        refine ⟨rfl, kept ⟨_, rfl, _, rfl, _, _, rfl, rfl, trivial, _, rfl, ?_⟩⟩
        refine ite2 (fun c => ?_) fun c => ?_
        · refine ⟨_, rfl, hN _ _ (natD (hms.getD (BE.aOf ts i) 0)) (Same.refl _) (.int _) ?_⟩
          rw [take_snoc hh2, List.map_append]
          show _ = _ ++ [natD _]
          rw [show [h].map (fun h => natD (if h = hms.getD (BE.bOf ts i) 0 then hms.getD (BE.aOf ts i) 0 else h)) = [natD (if h = hms.getD (BE.bOf ts i) 0 then hms.getD (BE.aOf ts i) 0 else h)] from rfl, if_pos (of_decide_eq_true c)]
        · refine ⟨_, rfl, hN _ _ (natD h) (Same.refl _) (.int _) ?_⟩
          rw [take_snoc hh2, List.map_append]
          rw [show [h].map (fun h => natD (if h = hms.getD (BE.bOf ts i) 0 then hms.getD (BE.aOf ts i) 0 else h)) = [natD (if h = hms.getD (BE.bOf ts i) 0 then hms.getD (BE.aOf ts i) 0 else h)] from rfl, if_neg (fun z => c (decide_eq_true z))]
      · rw [List.length_map, List.take_length] at tp
        have tp2 : Tps Hc ys ((hms.map fun h => if h = hms.getD (BE.bOf ts i) 0 then hms.getD (BE.aOf ts i) 0 else h).map natD) := by rw [List.map_map]; exact tp
        have e2 := tps_nats tp2
        subst e2
        have hpp := s _ _ (upd_same (H := Hz) (a := p) (o := .lst (fd2.map natV ++ [natV i])))
        have hDp : D ≠ p := fun e => by rw [e, upd_same] at hD; cases hD
        refine ⟨(same_upd _ (sm.trans sz) hp).trans s, ?_, D, _, _, _, _, _, _, hDp, e, rfl⟩
        rw [hpp, List.map_append]; rfl
    · have c1 : hms.getD (BE.aOf ts i) 0 = hms.getD (BE.bOf ts i) 0 := by simpa using cc
      have ei : (if hms.getD (BE.aOf ts i) 0 = hms.getD (BE.bOf ts i) 0 then (fd2, hms) else (fd2 ++ [i], hms.map fun h => if h = hms.getD (BE.bOf ts i) 0 then hms.getD (BE.aOf ts i) 0 else h)) = (fd2, hms) := if_pos c1
      rw [ei]
      exact ⟨sm.trans sz, hpz, ha, _, _, _, _, _, _, hne, hhz, rfl⟩
  · obtain ⟨sm, hp1, ha, o3, o4, o5, o6, o7, o8, hne, hh, rfl⟩ := h
    exact ⟨_, rfl, q p _ sm hp1⟩
end
end R
end
/-! ## W8 -/
section
set_option Elab.async false
set_option linter.all false
set_option maxRecDepth 100000
set_option maxHeartbeats 4000000
namespace R
open PySem PySem.Spec PyProof.Rows L2
/-- the dict of ways at d; the list of waiting places at wl -/
structure KnS (H : Hp) (d wl : Addr) (n : Nat) (ts : BE.Ties) (one : Nat) (kn : Nat → Bool) (kvs : List (L2.Key × V)) : Prop where
  at_ : H d = some (.dK kvs)
  few : kvs.length + BE.cnt n (fun p => !kn p) ≤ n
  out : ∀ p : Nat, kn p = false → valV kvs (Sum.inl (p : Int)) = none
  in_ : ∀ p : Nat, kn p = true → p < n ∧ ∃ a w, valV kvs (Sum.inl (p : Int)) = some (.ref a) ∧ a ≠ wl ∧ H a = some (.lst (w.map natV)) ∧ BE.Way n ts one p w ∧ w.length < kvs.length
theorem KnS.same {H H' : Hp} {d wl : Addr} {n : Nat} {ts : BE.Ties} {one : Nat} {kn : Nat → Bool} {kvs : List (L2.Key × V)} (k : KnS H d wl n ts one kn kvs) (s : Same H H') : KnS H' d wl n ts one kn kvs :=
  ⟨s _ _ k.at_, k.few, k.out, fun p hp => let ⟨h1, a, w, h2, h3, h4, h5⟩ := k.in_ p hp; ⟨h1, a, w, h2, h3, s _ _ h4, h5⟩⟩
theorem KnS.wait {H : Hp} {d wl : Addr} {n : Nat} {ts : BE.Ties} {one : Nat} {kn : Nat → Bool} {kvs : List (L2.Key × V)} (k : KnS H d wl n ts one kn kvs) (hd : d ≠ wl) (o : HO) : KnS (upd H wl o) d wl n ts one kn kvs :=
  ⟨by rw [upd_ne hd]; exact k.at_, k.few, k.out, fun p hp => let ⟨h1, a, w, h2, h3, h4, h5⟩ := k.in_ p hp; ⟨h1, a, w, h2, h3, by rw [upd_ne h3]; exact h4, h5⟩⟩
theorem KnS.put {H : Hp} {d wl : Addr} {n : Nat} {ts : BE.Ties} {one : Nat} {kn : Nat → Bool} {kvs : List (L2.Key × V)} (k : KnS H d wl n ts one kn kvs) {g : Nat} {a : Addr} {w : List Nat} (hg : g < n) (hk : kn g = false) (ha : a ≠ wl) (hH : H a = some (.lst (w.map natV)))
    (hw : BE.Way n ts one g w) (hl : w.length ≤ kvs.length) : KnS (upd H d (.dK (putK kvs (Sum.inl (g : Int)) (.ref a)))) d wl n ts one (fun p => kn p || decide (p = g)) (putK kvs (Sum.inl (g : Int)) (.ref a)) := by
  have e1 : putK kvs (Sum.inl (g : Int)) (V.ref a) = kvs ++ [(Sum.inl (g : Int), V.ref a)] := putK_new _ (k.out g hk)
  have e2 : (putK kvs (Sum.inl (g : Int)) (V.ref a)).length = kvs.length + 1 := by rw [e1, List.length_append]; rfl
  have e3 : BE.cnt n (fun p => !(kn p || decide (p = g))) + 1 = BE.cnt n (fun p => !kn p) := by
    rw [← BE.cnt_off (f := fun p => !kn p) hg (by simp [hk])]
    congr 1
    exact BE.cnt_congr fun p _ => Bool.not_or ..
  refine ⟨upd_same, ?_, fun p hp => ?_, fun p hp => ?_⟩
  · have := k.few
    omega
  · have h1 : kn p = false ∧ decide (p = g) = false := by simpa using hp
    have h2 : ¬ p = g := of_decide_eq_false h1.2
    rw [valV_put, if_neg (fun e => h2 (key_inj e))]
    exact k.out p h1.1
  · by_cases e : p = g
    · subst e
      refine ⟨hg, a, w, by rw [valV_put, if_pos rfl], ha, by rw [upd_ne (ne_of hH k.at_ (by intro z; cases z))]; exact hH, hw, by omega⟩
    · have h1 : kn p = true := by
        rcases Bool.or_eq_true_iff.mp hp with h | h
        · exact h
        · exact absurd (of_decide_eq_true h) e
      obtain ⟨h2, b, v, h3, h4, h5, h6, h7⟩ := k.in_ p h1
      refine ⟨h2, b, v, by rw [valV_put, if_neg (fun z => e (key_inj z))]; exact h3, h4, by rw [upd_ne (ne_of h5 k.at_ (by intro z; cases z))]; exact h5, h6, by omega⟩
/-- all ties of the tree at p lead to known places -/
def Exp (n : Nat) (ts : BE.Ties) (kn : Nat → Bool) (p : Nat) : Prop := ∀ t ∈ BE.treeOf n ts, (BE.aOf ts t = p → kn (BE.bOf ts t) = true) ∧ (BE.bOf ts t = p → kn (BE.aOf ts t) = true)
section
variable {P : Program} {w : World} {K : PySem.W.Frag} {mg : Str → Option Value} {base : Heap} {f : Addr} {fd : FuncData}
/-! ### way_in_tree(web, tree, one, other) -/
abbrev sWay : Stmt := top 19
def spWay : Sp := fun vs H Q _ => ∃ (v : V) (n : Nat) (ts : BE.Ties) (tr : Addr) (one other : Nat), vs = [v, .ref tr, natV one, natV other] ∧ Tp H v (webD n ts) ∧ Wk n ts ∧ H tr = some (.lst ((BE.treeOf n ts).map natV)) ∧ one < n ∧ other < n ∧
  ∀ l w H', Same H H' → H' l = some (.lst (w.map natV)) → BE.Way n ts one other w → w.length < n → Q (.ref l) H'
theorem scWay : FnScope ["web", "tree", "one", "other", "known", "waiting", "place", "tie", "goal"] ["web", "tree", "one", "other"] (defScope sWay) := ⟨rfl, rfl, rfl, by decide +kernel, rfl, by decide +kernel, by decide +kernel⟩
theorem ok_way_in_tree (F : Fun K "way_in_tree" "way_in_tree" sWay f fd) (cG : Cal P w K mg base 1 "goal_of" spGoal) : FnOk P w K mg base CX0 2 f fd ["web", "tree", "one", "other"] spWay := by
  refine F.ok scWay (fun vs H Q E h => ?_) (fun cdv A outer s H vs Q E hr h => ?_)
  · obtain ⟨_, _, _, _, _, _, rfl, _⟩ := h; rfl
  obtain ⟨v, n, ts, tr, one, other, rfl, hw, wk, htr, h1, h2, q⟩ := h
  obtain ⟨a, t, rs, W⟩ := web_inv hw
  obtain rfl := W.v
  have nd := scWay.nd
  have hn := wk.hn
  have hm := wk.hm
  have hu := hu_of hr
  have I := BE.treeTo_ok wk.web ts.length (Nat.le_refl _)
  refine ⟨_, pss_cons (ps_par (i := 4) (j := 5) (by rfl) nd rfl rfl (by decide) rfl rfl (pa_cons (pe_disp (pps_cons (pv 2) (pe_lst pa_nil) pps_nil) (by rfl) (by rfl) (fun z => by cases z) (by decide)) (pa_cons (pe_lst (pa_cons (pv 2) pa_nil)) pa_nil)) (by rfl))
    (pss_cons (ps_while PassesOwn.never (pt_cmp (pc_dnotin hu (pv 3) (pv 4)))
      (pss_cons (ps_set (i := 6) nd rfl (Or.inl rfl) (pe_bm0 PySem.F.plainAttrs_list PySem.F.slot_list_pop PySem.F.type_list_pop mt_pop (pv 5)))
      (pss_one (ps_for PassesOwn.never rfl (pi_list (pv 1)) (pg_name (i := 7) nd rfl (Or.inl rfl))
        (pss_one (ps_if (pt_cmpR op_in_seq (pv 6) (pe_ix ix_tup (pe_ix ix_tup (pv 0) pe_int (fun _ _ => rfl)) (pv 7) (fun _ _ => rfl)) (by rfl))
          (pss_cons (ps_set (i := 8) nd rfl (Or.inl rfl) (pe_c cG hr (by decide) (by rfl) (pa_cons (pe_ix ix_tup (pe_ix ix_tup (pv 0) pe_int (fun _ _ => rfl)) (pv 7) (fun _ _ => rfl)) (pa_cons (pv 6) pa_nil))))
          (pss_one (ps_if (pt_cmp (pc_dnotin hu (pv 8) (pv 4)))
            (pss_cons (ps_dput hu (pv 4) (pv 8) (pe_lst (StX.pa_star (pe_dget hu (pv 4) (pv 6) (fun _ _ => rfl)) (pa_cons (pv 7) pa_nil))) rfl)
            (pss_one (ps_expr (pe_bm PySem.F.plainAttrs_list PySem.F.slot_list_append PySem.F.type_list_append mt_append (pv 5) (pa_cons (pv 8) pa_nil)))))
            pss_nil))) pss_nil))))))
    (pss_one (ps_ret (pe_dget hu (pv 4) (pv 3) (fun _ _ => rfl))))), ?_⟩
  refine fun d hd => ⟨_, rfl, by show 0 ≤ sizeLine; decide, fun e he => ⟨by rw [upd_ne (ne_of_none upd_same he)]; exact upd_same, [(Sum.inl (one : Int), V.ref e)], rfl, by show 1 ≤ 15; omega, _, rfl, by show 1 ≤ sizeLine; decide, fun wl hwl => ⟨_, _, rfl, ?_⟩⟩⟩
  have hed : e ≠ d := fun z => by rw [z, upd_same] at he; cases he
  have hwd : wl ≠ d := fun z => by rw [z, upd_same] at hwl; cases hwl
  have hwe : wl ≠ e := fun z => by rw [z, upd_ne hed, upd_same] at hwl; cases hwl
  have he0 : H e = none := by rw [upd_ne hed] at he; exact he
  have hw0 : H wl = none := by rw [upd_ne hwd, upd_ne hwe, upd_ne hwd] at hwl; exact hwl
  have em : mergeK [] [((Sum.inl (one : Int) : L2.Key), V.ref e)] = [(Sum.inl (one : Int), V.ref e)] := rfl
  rw [em]
  have s0 : Same H (upd (upd (upd (upd H d (.dK [])) e (.lst [])) d (.dK [(Sum.inl (one : Int), V.ref e)])) wl (.lst [natV one])) := same_upd _ (same_upd _ (same_upd _ (same_new _ hd) he0) hd) hw0
  have k0 : KnS (upd (upd (upd (upd H d (.dK [])) e (.lst [])) d (.dK [(Sum.inl (one : Int), V.ref e)])) wl (.lst [natV one])) d wl n ts one (fun p => decide (p = one)) [(Sum.inl (one : Int), V.ref e)] := by
    refine ⟨by rw [upd_ne hwd.symm, upd_same], ?_, fun p hp => ?_, fun p hp => ?_⟩
    · have z := BE.cnt_off (n := n) (f := fun _ => true) (g := one) h1 rfl
      have z2 := BE.cnt_le n (fun _ => true)
      have z3 : BE.cnt n (fun p => !decide (p = one)) = BE.cnt n (fun k => true && !decide (k = one)) := BE.cnt_congr fun _ _ => rfl
      show 1 + _ ≤ n
      omega
    · rw [valV_neg (fun z => of_decide_eq_false hp (key_inj z).symm)]; rfl
    · have z := of_decide_eq_true hp
      subst z
      exact ⟨h1, e, [], valV_pos rfl, hwe.symm, by rw [upd_ne hwe.symm, upd_ne hed, upd_same]; rfl, BE.Way.nil n ts p, by show 0 < 1; omega⟩
  have hwl0 : upd (upd (upd (upd H d (.dK [])) e (.lst [])) d (.dK [(Sum.inl (one : Int), V.ref e)])) wl (.lst [natV one]) wl = some (.lst ([one].map natV)) := upd_same
  generalize upd (upd (upd (upd H d (.dK [])) e (.lst [])) d (.dK [(Sum.inl (one : Int), V.ref e)])) wl (.lst [natV one]) = H0 at s0 k0 hwl0
  refine ⟨fun m σ H' => ∃ kn kvs ws o6 o7 o8, σ = [some (.ref a), some (.ref tr), some (natV one), some (natV other), some (.ref d), some (.ref wl), o6, o7, o8] ∧ Same H H' ∧ KnS H' d wl n ts one kn kvs ∧ H' wl = some (.lst (ws.map natV)) ∧ kn one = true ∧ (∀ p ∈ ws, kn p = true) ∧ (∀ p, kn p = true → p ∈ ws ∨ Exp n ts kn p) ∧
    ws.length + BE.cnt n (fun p => !kn p) ≤ n ∧ m = ws.length + 2 * BE.cnt n (fun p => !kn p), ⟨_, fun p => decide (p = one), _, [one], none, none, none, rfl, s0, k0, hwl0, by simp, fun p hp => by rw [List.mem_singleton.mp hp]; simp, fun p hp => .inl (by rw [of_decide_eq_true hp]; exact List.mem_cons_self), by have := k0.few; exact this, rfl⟩, ?_⟩
  rintro m σ H1 ⟨kn, kvs, ws, o6, o7, o8, rfl, sm, ks, hws, kone, kws, kex, kfew, rfl⟩
  have hdw : d ≠ wl := hwd.symm
  refine ⟨_, rfl, _, rfl, d, valV kvs (Sum.inl (other : Int)), rfl, DGet.k (k := Sum.inl (other : Int)) ks.at_, _, rfl, ?_⟩
  cases ko : kn other with
  | true =>
    obtain ⟨_, b, u, h3, h4, h5, h6, h7⟩ := ks.in_ other ko
    rw [h3]
    refine iteF ?_
    have kf := ks.few
    exact ⟨_, rfl, _, rfl, d, V.ref b, rfl, by rw [← h3]; exact DGet.k (k := Sum.inl (other : Int)) ks.at_, q b u H1 sm h5 h6 (by omega)⟩
  | false =>
    rw [ks.out other ko]
    refine iteT ?_
    have hne : ws ≠ [] := fun z => by
      subst z
      have S : ∀ p, kn p = true → Exp n ts kn p := fun p hp => (kex p hp).resolve_left (by simp)
      have cl := BE.tree_all wk.web (S := kn) (fun t ht => by
        cases ea : kn (BE.aOf ts t) with
        | true => exact ((S _ ea t ht).1 rfl).symm
        | false =>
          cases eb : kn (BE.bOf ts t) with
          | true => rw [(S _ eb t ht).2 rfl] at ea; cases ea
          | false => rfl) h1 h2
      rw [kone, ko] at cl
      cases cl
    obtain ⟨ws', place, rfl⟩ : ∃ ws' place, ws = ws' ++ [place] := ⟨ws.dropLast, ws.getLast hne, (List.dropLast_concat_getLast hne).symm⟩
    have kpl : kn place = true := kws place (by simp)
    refine ⟨fun σ' H' => ∃ kn' kvs' ws2 o6 o7 o8, σ' = [some (.ref a), some (.ref tr), some (natV one), some (natV other), some (.ref d), some (.ref wl), o6, o7, o8] ∧ Same H H' ∧ KnS H' d wl n ts one kn' kvs' ∧ H' wl = some (.lst (ws2.map natV)) ∧ kn' one = true ∧ (∀ p ∈ ws2, kn' p = true) ∧ (∀ p, kn' p = true → p ∈ ws2 ∨ Exp n ts kn' p) ∧
      ws2.length + BE.cnt n (fun p => !kn' p) ≤ n ∧ ws2.length + 2 * BE.cnt n (fun p => !kn' p) < (ws' ++ [place]).length + 2 * BE.cnt n (fun p => !kn p), fun σ' H' ⟨kn', kvs', ws2, p6, p7, p8, g1, g2, g3, g4, g5, g6, g7, g8, g9⟩ => ⟨_, g9, kn', kvs', ws2, p6, p7, p8, g1, g2, g3, g4, g5, g6, g7, g8, rfl⟩, ?_⟩
    have epop : ((ws' ++ [place]).map natV)[((ws' ++ [place]).map natV).length - 1]? = some (natV place) := by
      rw [List.map_append, List.length_append]
      simp
    refine ⟨_, rfl, .inl ⟨rfl, _, SqL.of hws⟩, wl, _, _, rfl, rfl, hws, epop, ?_⟩
    have edl : ((ws' ++ [place]).map natV).dropLast = ws'.map natV := by rw [List.map_append]; simp
    rw [edl]
    have htr1 : ∀ {H' : Hp}, Same H H' → H' tr = some (.lst ((BE.treeOf n ts).map natV)) := fun s => s _ _ htr
    have lenp : (ws' ++ [place]).length = ws'.length + 1 := by rw [List.length_append]; rfl
    have sm1 : Same H (upd H1 wl (.lst (ws'.map natV))) := same_upd _ sm hw0
    refine ⟨_, rfl, tr, rfl, ⟨_, SqL.of (htr1 sm1)⟩, for_list (xs := (BE.treeOf n ts).map natV) (fun j σ' H' => ∃ kn' kvs' ws2 o7 o8, σ' = [some (.ref a), some (.ref tr), some (natV one), some (natV other), some (.ref d), some (.ref wl), some (natV place), o7, o8] ∧ Same H H' ∧ KnS H' d wl n ts one kn' kvs' ∧ H' wl = some (.lst (ws2.map natV)) ∧ kn' one = true ∧ (∀ p ∈ ws2, kn' p = true) ∧ kn' place = true ∧
      (∀ p, kn' p = true → p ∈ ws2 ∨ p = place ∨ Exp n ts kn' p) ∧ (∀ t ∈ (BE.treeOf n ts).take j, (BE.aOf ts t = place → kn' (BE.bOf ts t) = true) ∧ (BE.bOf ts t = place → kn' (BE.aOf ts t) = true)) ∧
      ws2.length + 1 + BE.cnt n (fun p => !kn' p) ≤ n ∧ ws2.length + 1 + 2 * BE.cnt n (fun p => !kn' p) ≤ ws'.length + 1 + 2 * BE.cnt n (fun p => !kn p)) ⟨kn, kvs, ws', o7, o8, rfl, sm1, ks.wait hdw _, upd_same, kone, fun p hp => kws p (List.mem_append_left _ hp), kpl, fun p hp => ?_, fun t ht => by simp at ht, by omega, Nat.le_refl _⟩ (fun j σ' H' _ h => ?_) (fun j x σ' H' hx h => ?_) fun σ' H' h => ?_⟩
    · rcases kex p hp with z | z
      · rcases List.mem_append.mp z with z | z
        · exact .inl z
        · exact .inr (.inl (List.mem_singleton.mp z))
      · exact .inr (.inr z)
    · obtain ⟨_, _, _, _, _, _, s2, _⟩ := h
      exact SqL.of (htr1 s2)
    · obtain ⟨kn', kvs', ws2, p7, p8, rfl, s2, ks2, hw2, ko2, kw2, kp2, ke2, kt2, kf2, km2⟩ := h
      rw [List.getElem?_map] at hx
      obtain ⟨tie, ht, rfl⟩ := Option.map_eq_some_iff.mp hx
      have htm : tie ∈ BE.treeOf n ts := List.mem_of_getElem? ht
      have htl : tie < ts.length := I.lt tie htm
      have W2 := W.mono (kt_same s2)
      obtain ⟨pa, hpa, hpH⟩ := W2.tie htl
      have hends := wk.web.tie htl
      refine ⟨_, rfl, _, rfl, a, _, 1, _, rfl, rfl, SqT.of W2.w, rfl, _, rfl, t, rs, (tie : Int), _, rfl, rfl, SqT.of W2.t, atI_nat hpa, pa, _, rfl, .inr (SqT.of hpH), rfl, rfl, _, rfl, ?_⟩
      have eb : inV (natV place) [natV (BE.aOf ts tie), natV (BE.bOf ts tie)] = decide (place = BE.aOf ts tie ∨ place = BE.bOf ts tie) := by
        rw [show [natV (BE.aOf ts tie), natV (BE.bOf ts tie)] = [BE.aOf ts tie, BE.bOf ts tie].map natV from rfl, inV_nat]
        exact decide_eq_decide.mpr (by simp only [List.mem_cons, List.not_mem_nil, or_false])
      show if inV (natV place) [natV (BE.aOf ts tie), natV (BE.bOf ts tie)] = true then _ else _
      rw [eb]
      have tk : (BE.treeOf n ts).take (j + 1) = (BE.treeOf n ts).take j ++ [tie] := take_snoc ht
      refine ite2 (fun c => ?_) fun c => ?_
      · have c1 : place = BE.aOf ts tie ∨ place = BE.bOf ts tie := of_decide_eq_true c
        refine ⟨_, rfl, a, _, 1, _, rfl, rfl, SqT.of W2.w, rfl, _, rfl, t, rs, (tie : Int), _, rfl, rfl, SqT.of W2.t, atI_nat hpa, _, rfl, pa, _, _, place, rfl, hpH, ?_⟩
        generalize hg : (if BE.aOf ts tie = place then BE.bOf ts tie else BE.aOf ts tie) = g
        have hgg : (BE.aOf ts tie = place ∧ BE.bOf ts tie = g) ∨ (BE.aOf ts tie = g ∧ BE.bOf ts tie = place) := by
          by_cases z : BE.aOf ts tie = place
          · rw [if_pos z] at hg; exact .inl ⟨z, hg⟩
          · rw [if_neg z] at hg; exact .inr ⟨hg, (c1.resolve_left fun y => z y.symm).symm⟩
        have hgn : g < n := by rcases hgg with z | z <;> omega
        have hgne : g ≠ place := by rcases hgg with z | z <;> omega
        refine ⟨_, rfl, _, rfl, d, valV kvs' (Sum.inl (g : Int)), rfl, DGet.k (k := Sum.inl (g : Int)) ks2.at_, _, rfl, ?_⟩
        cases kg : kn' g with
        | true =>
          obtain ⟨_, b, u, h3, _⟩ := ks2.in_ g kg
          rw [h3]
          refine iteF ?_
          refine ⟨kn', kvs', ws2, _, _, rfl, s2, ks2, hw2, ko2, kw2, kp2, ke2, fun t' ht' => ?_, kf2, km2⟩
          rw [tk] at ht'
          rcases List.mem_append.mp ht' with z | z
          · exact kt2 t' z
          · rw [List.mem_singleton.mp z]
            rcases hgg with y | y
            · exact ⟨fun _ => by rw [y.2]; exact kg, fun x => absurd (y.2.symm.trans x) hgne⟩
            · exact ⟨fun x => absurd (y.1.symm.trans x) hgne, fun _ => by rw [y.1]; exact kg⟩
        | false =>
          rw [ks2.out g kg]
          refine iteT ?_
          obtain ⟨_, b, u, h3, h4, h5, h6, h7⟩ := ks2.in_ place kp2
          have kfw := ks2.few
          refine ⟨_, rfl, _, rfl, d, V.ref b, rfl, by rw [← h3]; exact DGet.k (k := Sum.inl (place : Int)) ks2.at_, b, _, rfl, .inr (SqL.of h5), _, rfl, ?_, fun z hz => ?_⟩
          · rw [List.length_append, List.length_map, sizeLine_eq]
            show _ + 1 ≤ _
            omega
          · have hzw : z ≠ wl := fun y => by rw [y, hw2] at hz; cases hz
            have eu : u.map natV ++ [natV tie] = (u ++ [tie]).map natV := by rw [List.map_append]; rfl
            rw [eu]
            have s3 := same_new (.lst ((u ++ [tie]).map natV)) hz
            have ks3 := ks2.same s3
            refine ⟨_, rfl, _, rfl, d, _, rfl, DPut.k (k := Sum.inl (g : Int)) ks3.at_ (by rw [sizeLine_eq]; omega), ?_⟩
            have ks4 := ks3.put hgn kg hzw upd_same (h6.snoc htm hgg) (by rw [List.length_append]; show _ + 1 ≤ _; omega)
            have hw4 : upd (upd H' z (.lst ((u ++ [tie]).map natV))) d (.dK (putK kvs' (Sum.inl (g : Int)) (.ref z))) wl = some (.lst (ws2.map natV)) := by rw [upd_ne hdw.symm]; exact s3 _ _ hw2
            have s4 : Same H (upd (upd H' z (.lst ((u ++ [tie]).map natV))) d (.dK (putK kvs' (Sum.inl (g : Int)) (.ref z)))) := same_upd _ (s2.trans s3) hd
            have e3 : BE.cnt n (fun p => !(kn' p || decide (p = g))) + 1 = BE.cnt n (fun p => !kn' p) := by
              rw [← BE.cnt_off (f := fun p => !kn' p) hgn (by simp [kg])]
              congr 1
              exact BE.cnt_congr fun p _ => Bool.not_or ..
            refine ⟨_, rfl, .inl ⟨rfl, _, SqL.of hw4⟩, _, rfl, wl, _, _, rfl, rfl, hw4, by rw [List.length_map, sizeLine_eq]; omega, ?_⟩
            have up : ∀ p, kn' p = true → (kn' p || decide (p = g)) = true := fun p hp => by rw [hp]; rfl
            have ug : (kn' g || decide (g = g)) = true := by simp
            refine ⟨fun p => kn' p || decide (p = g), _, ws2 ++ [g], _, _, rfl, same_upd _ s4 hw0, ks4.wait hdw _, by rw [upd_same, List.map_append]; rfl, up _ ko2, fun p hp => ?_, up _ kp2, fun p hp => ?_, fun t' ht' => ?_, ?_, ?_⟩
            · rcases List.mem_append.mp hp with y | y
              · exact up _ (kw2 p y)
              · rw [List.mem_singleton.mp y]; exact ug
            · rcases Bool.or_eq_true_iff.mp hp with y | y
              · rcases ke2 p y with x | x | x
                · exact .inl (List.mem_append_left _ x)
                · exact .inr (.inl x)
                · exact .inr (.inr fun t' ht' => ⟨fun r => up _ ((x t' ht').1 r), fun r => up _ ((x t' ht').2 r)⟩)
              · rw [of_decide_eq_true y]; exact .inl (by simp)
            · rw [tk] at ht'
              rcases List.mem_append.mp ht' with y | y
              · exact ⟨fun r => up _ ((kt2 t' y).1 r), fun r => up _ ((kt2 t' y).2 r)⟩
              · rw [List.mem_singleton.mp y]
                rcases hgg with y | y
                · exact ⟨fun _ => by rw [y.2]; exact ug, fun x => absurd (y.2.symm.trans x) hgne⟩
                · exact ⟨fun x => absurd (y.1.symm.trans x) hgne, fun _ => by rw [y.1]; exact ug⟩
            · rw [List.length_append]; show _ + 1 + 1 + BE.cnt n (fun p => !(kn' p || decide (p = g))) ≤ n; omega
            · rw [List.length_append]; show _ + 1 + 1 + 2 * BE.cnt n (fun p => !(kn' p || decide (p = g))) ≤ _; omega
      · have c1 : ¬ (place = BE.aOf ts tie ∨ place = BE.bOf ts tie) := of_decide_eq_false (by simpa using c)
        refine ⟨kn', kvs', ws2, _, _, rfl, s2, ks2, hw2, ko2, kw2, kp2, ke2, fun t' ht' => ?_, kf2, km2⟩
        rw [tk] at ht'
        rcases List.mem_append.mp ht' with z | z
        · exact kt2 t' z
        · rw [List.mem_singleton.mp z]
          exact ⟨fun y => absurd (.inl y.symm) c1, fun y => absurd (.inr y.symm) c1⟩
    · obtain ⟨kn', kvs', ws2, p7, p8, rfl, s2, ks2, hw2, ko2, kw2, kp2, ke2, kt2, kf2, km2⟩ := h
      rw [List.length_map, List.take_length] at kt2
      refine ⟨kn', kvs', ws2, _, _, _, rfl, s2, ks2, hw2, ko2, kw2, fun p hp => ?_, by omega, by omega⟩
      rcases ke2 p hp with z | z | z
      · exact .inl z
      · subst z; exact .inr kt2
      · exact .inr z
end
end R
end
/-! ## W9 -/
section
set_option Elab.async false
set_option linter.all false
set_option maxRecDepth 100000
set_option maxHeartbeats 4000000
namespace R
open PySem PySem.Spec PyProof.Rows L2
/-! ### shapes of data -/
theorem lay_map {α : Type} {f : α → PyData} (h : ∀ x, (f x).canLay0 = true) : ∀ L : List α, PyData.canLayAll0 (L.map f) = true
  | [] => by simp [PyData.canLayAll0]
  | x :: L => by simp [PyData.canLayAll0, h x, lay_map h L]
theorem depth_map {α : Type} {f : α → PyData} {k : Nat} (h : ∀ x, (f x).depth ≤ k) : ∀ L : List α, PyData.depthAll (L.map f) ≤ k
  | [] => by simp [PyData.depthAll]
  | x :: L => by
    have h1 := h x
    have h2 := depth_map h L
    simp only [List.map_cons, PyData.depthAll]
    omega
theorem nat_lay (k : Nat) : (natD k).canLay0 = true := by simp [natD, PyData.canLay0]
theorem nat_depth (k : Nat) : (natD k).depth ≤ 0 := by simp [natD, PyData.depth]
theorem lot_lay (L : List Nat) : (lotD L).canLay0 = true := by unfold lotD; simp only [PyData.canLay0]; exact lay_map nat_lay L
theorem lot_depth (L : List Nat) : (lotD L).depth ≤ 1 := by
  have := depth_map nat_depth L
  unfold lotD
  simp only [PyData.depth]
  omega
theorem lots_lay (Ls : List (List Nat)) : (PyData.tuple (Ls.map lotD)).canLay0 = true := by simp only [PyData.canLay0]; exact lay_map lot_lay Ls
theorem lots_depth (Ls : List (List Nat)) : (PyData.tuple (Ls.map lotD)).depth ≤ 2 := by
  have := depth_map lot_depth Ls
  simp only [PyData.depth]
  omega
theorem shaped_of {d : PyData} (h : d.canLay0 = true) (h2 : d.depth ≤ 64) : SeqAt.shaped d = true := by
  unfold SeqAt.shaped
  rw [h, decide_eq_true h2]; rfl
theorem shaped_nats (L : List Nat) : SeqAt.shaped (.list (L.map natD)) = true := by
  refine shaped_of ?_ ?_
  · simp only [PyData.canLay0]; exact lay_map nat_lay L
  · have := depth_map nat_depth L
    simp only [PyData.depth]
    omega
theorem shaped_lot (L : List Nat) : SeqAt.shaped (lotD L) = true := shaped_of (lot_lay L) (Nat.le_trans (lot_depth L) (by decide))
theorem shaped_lots (Ls : List (List Nat)) : SeqAt.shaped (.tuple (Ls.map lotD)) = true := shaped_of (lots_lay Ls) (Nat.le_trans (lots_depth Ls) (by decide))
theorem eqv_nil (L : List PyData) : PyData.eqv (.list L) (.list []) = L.isEmpty := by
  cases L with
  | nil => simp [PyData.eqv, PyData.eqvAll]
  | cons => simp [PyData.eqv, PyData.eqvAll]
section
variable {P : Program} {w : World} {K : PySem.W.Frag} {mg : Str → Option Value} {base : Heap} {f : Addr} {fd : FuncData}
/-! ### tree_rounds(web) -/
abbrev sRounds : Stmt := top 20
def spRounds : Sp := fun vs H Q _ => ∃ (v : V) (n : Nat) (ts : BE.Ties), vs = [v] ∧ Tp H v (webD n ts) ∧ Wk n ts ∧ n ≤ 50 ∧
  ∀ l rs H', Same H H' → Tp H' l (.tuple (rs.map lotD)) → BE.Rounds n ts ts.length rs → (∀ r ∈ rs, r.length ≤ 100) → rs.length ≤ 100 → Q l H'
theorem scRounds : FnScope ["web", "tree", "found", "number", "one", "other"] ["web"] (defScope sRounds) := ⟨rfl, rfl, rfl, by decide +kernel, rfl, by decide +kernel, by decide +kernel⟩
theorem ok_tree_rounds (F : Fun K "tree_rounds" "tree_rounds" sRounds f fd) (T : Txt K mg) (cF : Cal P w K mg base 1 "first_tree" spTree) (cW : Cal P w K mg base 2 "way_in_tree" spWay) : FnOk P w K mg base CX0 3 f fd ["web"] spRounds := by
  refine F.ok scRounds (fun vs H Q E h => ?_) (fun cdv A outer s H vs Q E hr h => ?_)
  · obtain ⟨_, _, _, rfl, _⟩ := h; rfl
  obtain ⟨v, n, ts, rfl, hw, wk, hn, q⟩ := h
  obtain ⟨a, t, rs, W⟩ := web_inv hw
  obtain rfl := W.v
  have nd := scRounds.nd
  have hm := wk.hm
  refine ⟨_, pss_cons (ps_par (i := 1) (j := 2) (by rfl) nd rfl rfl (by decide) rfl rfl (pa_cons (pe_c cF hr (by decide) (by rfl) (pa_cons (pv 0) pa_nil)) (pa_cons (pe_lst pa_nil) pa_nil)) (by rfl))
    (pss_cons (ps_for PassesOwn.never rfl (pi_enumT (by rfl) T.enum (pa_cons (pe_ix ix_tup (pv 0) pe_int (fun _ _ => rfl)) pa_nil)) (pg_tup (by rfl) (pgs_cons (pg_name (i := 3) nd rfl (Or.inl rfl)) (pgs_cons (pg_tup (by rfl) (pgs_cons (pg_name (i := 4) nd rfl (Or.inl rfl)) (pgs_cons (pg_name (i := 5) nd rfl (Or.inl rfl)) pgs_nil))) pgs_nil)))
      (pss_one (ps_if (pt_cmpR op_notIn_seq (pv 3) (pv 1) (by rfl))
        (pss_one (ps_expr (pe_bm PySem.F.plainAttrs_list PySem.F.slot_list_append PySem.F.type_list_append mt_append (pv 2) (pa_cons (pe_callTy call_tuple_of (by rfl) T.tuple (by decide +kernel) (pa_cons (pe_callB cr_sorted (by rfl) T.sorted (by decide +kernel) (pa_cons (pe_lst (pa_cons (pv 3) (StX.pa_star (pe_c cW hr (by decide) (by rfl) (pa_cons (pv 0) (pa_cons (pv 1) (pa_cons (pv 4) (pa_cons (pv 5) pa_nil))))) pa_nil))) pa_nil)) pa_nil)) pa_nil))))
        pss_nil)))
    (pss_one (ps_ret (pe_callTy call_tuple_of (by rfl) T.tuple (by decide +kernel) (pa_cons (pv 2) pa_nil))))), ?_⟩
  refine ⟨_, rfl, _, n, ts, rfl, hw, wk, fun tr H1 s1 htr => ⟨by show 0 ≤ sizeLine; decide, fun p hp => ⟨_, _, rfl, _, rfl, a, _, 1, _, rfl, rfl, SqT.of ((s1.trans (same_new _ hp)) _ _ W.w), rfl, t, rs, rfl, SqT.of ((s1.trans (same_new _ hp)) _ _ W.t), ?_⟩⟩⟩
  have hp0 := new_old s1 hp
  have sA := s1.trans (same_new (.lst []) hp)
  have htr1 : upd H1 p (.lst []) tr = some (.lst ((BE.treeOf n ts).map natV)) := same_new _ hp _ _ htr
  have htp : tr ≠ p := fun e => by rw [e, hp] at htr; cases htr
  refine for_it (walk_ties W) (fun i σ H' => Same H H' ∧ H' tr = some (.lst ((BE.treeOf n ts).map natV)) ∧ ∃ ys rds, H' p = some (.lst ys) ∧ Tps H' ys (rds.map lotD) ∧ rds.length ≤ i ∧ BE.Rounds n ts i rds ∧ (∀ r ∈ rds, r.length ≤ 100) ∧ ∃ o3 o4 o5, σ = [some (.ref a), some (.ref tr), some (.ref p), o3, o4, o5])
    ⟨sA, htr1, [], [], upd_same, .nil, Nat.le_refl _, ⟨fun r hr => by (cases hr), fun c hc => absurd hc (Nat.not_lt_zero _)⟩, fun r hr => by (cases hr), none, none, none, rfl⟩ (fun i σ H' _ h => h.1) (fun i x σ Ha Hb hi h y => ?_) fun σ Ha h => ?_
  · obtain ⟨sm, ht2, ys, rds, hp2, hys, hlen, hR, hsz, o3, o4, o5, rfl⟩ := h
    obtain ⟨U, pa, rfl, hU, rfl, hpa⟩ := y
    have sU : Same Ha (upd Ha U (.tup [natV i, .ref pa])) := same_new _ hU
    have hends := wk.web.tie hi
    refine tie_tg upd_same (sU _ _ hpa) ⟨_, rfl, _, rfl, tr, _, rfl, .inl (SqL.of (sU _ _ ht2)), rfl, flat_nats _, _, rfl, ?_⟩
    show if (!inV (natV i) ((BE.treeOf n ts).map natV)) = true then _ else _
    rw [inV_nat]
    refine ite2 (fun c => ?_) fun c => ?_
    · have c1 : i ∉ BE.treeOf n ts := by simpa using c
      refine ⟨_, rfl, .inl ⟨rfl, _, SqL.of (sU _ _ hp2)⟩, _, rfl, _, rfl, _, rfl, _, rfl, _, rfl, _, n, ts, tr, _, _, rfl, hw.mono (kt_same (sm.trans sU)), wk, sU _ _ ht2, by omega, by omega, fun l w2 H2 s2 hl hwy hwl => ?_⟩
      have hwf : (w2.map natV).length ≤ 100 := by rw [List.length_map]; omega
      refine ⟨l, _, rfl, .inr (SqL.of hl), by rw [List.append_nil, List.length_cons, sizeLine_eq]; omega, fun z hz => ?_⟩
      have e1 : natV i :: (w2.map natV ++ []) = ((i :: w2).map fun k : Nat => (k : Int)).map V.int := by rw [List.append_nil, List.map_map]; rfl
      rw [e1] at *
      refine ⟨z, (i :: w2).map fun k : Nat => (k : Int), rfl, SqL.of upd_same, by rw [List.length_map, List.length_cons]; omega, fun ns' z2 perm _ hz2 => ⟨z2, _, rfl, .inl ⟨SqL.of upd_same, fun z3 hz3 => ?_⟩⟩⟩
      obtain ⟨r, rfl⟩ : ∃ r : List Nat, ns' = r.map fun k : Nat => (k : Int) := by
        refine ⟨ns'.map Int.toNat, ?_⟩
        rw [List.map_map]
        refine (List.map_id ns').symm.trans (List.map_congr_left fun y hy => ?_)
        obtain ⟨k, _, e⟩ := List.mem_map.mp (perm.mem_iff.mp hy)
        subst e
        rfl
      have perm2 : r.Perm (i :: w2) := by
        have z := perm.map Int.toNat
        rw [List.map_map, List.map_map] at z
        have e1 : ∀ L : List Nat, L.map (Int.toNat ∘ fun k : Nat => (k : Int)) = L := fun L => by
          refine (List.map_congr_left fun k _ => ?_).trans (List.map_id L)
          rfl
        rw [e1, e1] at z
        exact z
      have er : (r.map fun k : Nat => (k : Int)).map V.int = r.map natV := by rw [List.map_map]; rfl
      rw [er] at hz3 ⊢
      have sF := ((s2.trans (same_new (.lst (((i :: w2).map fun k : Nat => (k : Int)).map V.int)) hz)).trans (same_new (.lst (r.map natV)) hz2)).trans (same_new (.tup (r.map natV)) hz3)
      have hl3 : r.length = w2.length + 1 := by rw [perm2.length_eq]; rfl
      generalize hHF : upd (upd (upd H2 z _) z2 _) z3 _ = HF at *
      have hz3F : HF z3 = some (.tup (r.map natV)) := by rw [← hHF]; exact upd_same
      have hpF := (sU.trans sF) _ _ hp2
      have hrl : ys.length = rds.length := by rw [Tps.length hys, List.length_map]
      refine ⟨p, _, _, rfl, rfl, hpF, by rw [sizeLine_eq]; omega, ?_⟩
      refine ⟨same_upd _ ((sm.trans sU).trans sF) hp0, by rw [upd_ne htp]; exact (sU.trans sF) _ _ ht2, ys ++ [.ref z3], rds ++ [r], upd_same, ?_, by rw [List.length_append]; show _ + 1 ≤ _; omega, ⟨fun r' hr' => ?_, fun c' hc' hn' => ?_⟩, fun r' hr' => ?_, _, _, _, rfl⟩
      · rw [List.map_append]
        exact Tps.snoc (Tps.mono ((kt_same (sU.trans sF)).trans (kt_lst _ hpF)) hys) ((lot_tp hz3F).mono (kt_lst _ hpF))
      · rcases List.mem_append.mp hr' with g | g
        · exact hR.each r' g
        · rw [List.mem_singleton.mp g]
          exact ⟨i, hi, ⟨w2, perm2, hwy⟩⟩
      · rcases Nat.lt_succ_iff_lt_or_eq.mp hc' with g | g
        · obtain ⟨r', h1, h2⟩ := hR.all c' g hn'
          exact ⟨r', List.mem_append_left _ h1, h2⟩
        · subst g
          exact ⟨r, by simp, ⟨w2, perm2, hwy⟩⟩
      · rcases List.mem_append.mp hr' with g | g
        · exact hsz r' g
        · rw [List.mem_singleton.mp g]; omega
    · have c1 : i ∈ BE.treeOf n ts := by simpa using c
      refine ⟨sm.trans sU, sU _ _ ht2, ys, rds, sU _ _ hp2, Tps.mono (kt_same sU) hys, by omega, ⟨hR.each, fun c' hc' hn' => ?_⟩, hsz, _, _, _, rfl⟩
      rcases Nat.lt_succ_iff_lt_or_eq.mp hc' with g | g
      · exact hR.all c' g hn'
      · subst g; exact absurd c1 hn'
  · obtain ⟨sm, ht2, ys, rds, hp2, hys, hlen, hR, hsz, o3, o4, o5, rfl⟩ := h
    exact ⟨_, rfl, p, ys, rfl, .inl ⟨SqL.of hp2, fun z hz => q _ rds _ (same_upd _ sm (new_old sm hz)) (.tup upd_same (Tps.mono (kt_new _ hz) hys)) hR hsz (by omega)⟩⟩
end
end R
end
/-! ## W10 -/
section
set_option Elab.async false
set_option linter.all false
set_option maxRecDepth 100000
set_option maxHeartbeats 4000000
namespace R
open PySem PySem.Spec PyProof.Rows L2
/-- a rising lot of ties below m -/
structure Lot (m : Nat) (L : List Nat) : Prop where
  rise : L.Pairwise (· < ·)
  lt : ∀ k ∈ L, k < m
theorem rise_len : ∀ {L : List Nat} {b m : Nat}, L.Pairwise (· < ·) → (∀ k ∈ L, b ≤ k ∧ k < m) → L.length + b ≤ m ∨ L = []
  | [], _, _, _, _ => .inr rfl
  | k :: L, b, m, h, hb => by
    obtain ⟨h1, h2⟩ := List.pairwise_cons.mp h
    obtain ⟨h3, h4⟩ := hb k List.mem_cons_self
    refine .inl ?_
    rcases rise_len (b := k + 1) h2 fun j hj => ⟨h1 j hj, (hb j (List.mem_cons_of_mem _ hj)).2⟩ with z | z
    · rw [List.length_cons]; omega
    · subst z; show 1 + b ≤ m; omega
theorem Lot.len {m : Nat} {L : List Nat} (h : Lot m L) : L.length ≤ m := by
  rcases rise_len (b := 0) h.rise fun k hk => ⟨Nat.zero_le _, h.lt k hk⟩ with z | z
  · omega
  · subst z; exact Nat.zero_le _
section
variable {P : Program} {w : World} {K : PySem.W.Frag} {mg : Str → Option Value} {base : Heap} {f : Addr} {fd : FuncData}
/-! ### lot_error(web, value), of a rising lot -/
abbrev sLotErr : Stmt := top 10
def spLotErr : Sp := fun vs H Q _ => ∃ (v l : V) (n : Nat) (ts : BE.Ties) (L : List Nat), vs = [v, l] ∧ Tp H v (webD n ts) ∧ Tp H l (lotD L) ∧ Wk n ts ∧ Lot ts.length L ∧ ∀ H', Same H H' → Q .non H'
theorem scLotErr : FnScope ["web", "value", "least", "number", "item"] ["web", "value"] (defScope sLotErr) := ⟨rfl, rfl, rfl, by decide +kernel, rfl, by decide +kernel, by decide +kernel⟩
theorem ok_lot_error (F : Fun K "lot_error" "lot_error" sLotErr f fd) (T : Txt K mg) (cW : Cal P w K mg base 2 "is_within" spWithin) : FnOk P w K mg base CX0 3 f fd ["web", "value"] spLotErr := by
  refine F.ok scLotErr (fun vs H Q E h => ?_) (fun cdv A outer s H vs Q E hr h => ?_)
  · obtain ⟨_, _, _, _, _, rfl, _⟩ := h; rfl
  obtain ⟨v, l, n, ts, L, rfl, hw, hl, wk, hL, q⟩ := h
  obtain ⟨a, t, rs, W⟩ := web_inv hw
  obtain rfl := W.v
  obtain ⟨p, rfl, hp⟩ := lot_inv hl
  have nd := scLotErr.nd
  refine ⟨_, pss_cons (ps_if (pt_not (pt_val (pe_callB call_isi (by rfl) T.isinst boot_isinstance (pa_cons (pv 1) (pa_cons (pe_bltn (v := .ty "tuple") (by rfl) T.tuple (by decide +kernel) rfl) pa_nil))))) (pss_one (ps_ret pe_str)) pss_nil)
    (pss_cons (ps_set (i := 2) nd rfl (Or.inl rfl) pe_int)
    (pss_cons (ps_for PassesOwn.never rfl (pi_enumT (by rfl) T.enum (pa_cons (pv 1) pa_nil)) (pg_tup (by rfl) (pgs_cons (pg_name (i := 3) nd rfl (Or.inl rfl)) (pgs_cons (pg_name (i := 4) nd rfl (Or.inl rfl)) pgs_nil)))
      (pss_cons (ps_if (pt_not (pt_val (pe_c cW hr (by decide) (by rfl) (pa_cons (pv 4) (pa_cons (pv 2) (pa_cons (pe_op op_sub (pe_callB call_len_seq (by rfl) T.len PySem.boot_len (pa_cons (pe_ix ix_tup (pv 0) pe_int (fun _ _ => rfl)) pa_nil)) pe_int) pa_nil)))))) (pss_one (ps_ret (pe_tup (pa_cons pe_str (pa_cons (pv 3) pa_nil))))) pss_nil)
      (pss_one (ps_set (i := 2) nd rfl (Or.inl rfl) (pe_op op_addN (pv 4) pe_int)))))
    (pss_one (ps_ret pe_non)))), ?_⟩
  refine ⟨_, rfl, .ref p, _, .type "tuple", _, true, rfl, .ty "tuple", .base (.tup hp), kit_ty (by decide +kernel), _, rfl, iteF ?_⟩
  refine ⟨_, rfl, p, _, rfl, SqT.of hp, ?_⟩
  refine for_it walk_enumT (fun i σ H' => Same H H' ∧ ∃ lo o3 o4, (∀ k ∈ L.drop i, lo ≤ k) ∧ σ = [some (.ref a), some (.ref p), some (natV lo), o3, o4]) ⟨Same.refl _, 0, none, none, fun _ _ => Nat.zero_le _, rfl⟩ (fun i σ H' _ h => SqT.of (h.1 _ _ hp)) (fun i x σ H1 H2 hi h y => ?_) fun σ H1 h => ?_
  · obtain ⟨sm, lo, o3, o4, hlo, rfl⟩ := h
    obtain ⟨U, x1, x2, rfl, hU, rfl, e1, e2⟩ := y
    have e3 : x1 = natV i := (Option.some.inj e1).symm
    have e4 : (L.map natV)[i]? = some x2 := e2
    rw [List.getElem?_map] at e4
    obtain ⟨k, hk, rfl⟩ := Option.map_eq_some_iff.mp e4
    subst e3
    have hdr : L.drop i = k :: L.drop (i + 1) := by
      obtain ⟨hi2, e⟩ := List.getElem?_eq_some_iff.mp hk
      subst e
      exact List.drop_eq_getElem_cons hi2
    have hkl := hL.lt k (List.mem_of_getElem? hk)
    have hk2 : lo ≤ k := hlo k (by rw [hdr]; exact List.mem_cons_self)
    have hpw : (L.drop i).Pairwise (· < ·) := hL.rise.sublist (List.drop_sublist i L)
    rw [hdr] at hpw
    have s2 := sm.trans (same_new (.tup [natV i, natV k]) hU)
    have W2 := W.mono (kt_same s2)
    refine pair_tg upd_same ⟨_, rfl, _, rfl, _, rfl, a, _, 1, _, rfl, rfl, SqT.of W2.w, rfl, t, rs, rfl, .inr (SqT.of W2.t), _, _, rfl, rfl, (k : Int), (lo : Int), _, rfl, ?_⟩
    have et : decide ((lo : Int) ≤ (k : Int) ∧ (k : Int) ≤ (rs.length : Int) - 1) = true := decide_eq_true ⟨by omega, by have := W.len; omega⟩
    rw [et]
    refine ⟨_, rfl, iteF ⟨_, rfl, _, 1, rfl, rfl, trivial, s2, k + 1, _, _, fun j hj => ?_, rfl⟩⟩
    exact (List.pairwise_cons.mp hpw).1 j hj
  · obtain ⟨sm, lo, o3, o4, hlo, rfl⟩ := h
    exact q _ sm
/-! ### first_odd(web, lot) -/
abbrev sOdd : Stmt := top 25
def spOdd : Sp := fun vs H Q _ => ∃ (v l : V) (n : Nat) (ts : BE.Ties) (L : List Nat), vs = [v, l] ∧ Tp H v (webD n ts) ∧ Tp H l (lotD L) ∧ Wk n ts ∧ (∀ k ∈ L, k < ts.length) ∧
  (∀ H', Same H H' → (∀ p, p < n → (BE.lotPar ts L).testBit p = false) → Q .non H') ∧ ∀ H' p, Same H H' → p < n → (BE.lotPar ts L).testBit p = true → Q (natV p) H'
theorem scOdd : FnScope ["web", "lot", "parities", "odd", "place"] ["web", "lot"] (defScope sOdd) := ⟨rfl, rfl, rfl, by decide +kernel, rfl, by decide +kernel, by decide +kernel⟩
theorem ok_first_odd (F : Fun K "first_odd" "first_odd" sOdd f fd) (T : Txt K mg) (cP : Cal P w K mg base 1 "lot_parities" spLotPar) : FnOk P w K mg base CX0 2 f fd ["web", "lot"] spOdd := by
  refine F.ok scOdd (fun vs H Q E h => ?_) (fun cdv A outer s H vs Q E hr h => ?_)
  · obtain ⟨_, _, _, _, _, rfl, _⟩ := h; rfl
  obtain ⟨v, l, n, ts, L, rfl, hw, hl, wk, hL, q1, q2⟩ := h
  obtain ⟨a, t, rs, W⟩ := web_inv hw
  obtain rfl := W.v
  have nd := scOdd.nd
  have hn := wk.hn
  refine ⟨_, pss_cons (ps_set (i := 2) nd rfl (Or.inr rfl) (pe_c cP hr (by decide) (by rfl) (pa_cons (pv 0) (pa_cons (pv 1) pa_nil))))
    (pss_cons (ps_setLc (i := 3) (own := [("place", 4)]) (g := gName 4) (by rfl) nd rfl rfl (sw_true rfl rfl rfl (by decide +kernel)) (pi_range1 (by rfl) T.range (pa_cons (pe_ix ix_tup (pv 0) pe_int (fun _ _ => rfl)) pa_nil)) (blkOk_by (own := [("place", 4)]) (N := ["web", "lot", "parities", "odd", "place"]) (sc := defScope sOdd) (by decide +kernel))
      (fun _ _ _ _ _ => pg_name (i := 4) nd rfl (Or.inl rfl)) (fun _ _ _ _ _ => pts_one (pt_cmpR op_eqN (pe_op op_andN (pe_op op_shrNN (pv 2) (pv 4)) pe_int) pe_int (nomark _))) (fun _ _ _ _ _ => pv 4))
    (pss_one (ps_ret (pe_ifExp (pt_cmpR (op_neD hr.units) (pv 3) (pe_lst pa_nil) (nomark _)) (pe_ix ix_list (pv 3) pe_int (fun _ _ => rfl)) pe_non)))), ?_⟩
  refine ⟨_, rfl, _, rfl, _, l, n, ts, L, rfl, hw, hl, wk, hL, _, rfl, a, _, 0, _, rfl, rfl, SqT.of W.w, rfl, (n : Int), rfl, by omega, by omega, fun D hD => ?_⟩
  refine lc_tp (g := gName 4) (vs := [4]) walk_rangeN hD (by rw [sizeLine_eq]; omega) (fun i => ((List.range i).filter fun p => (BE.lotPar ts L).testBit p).map natD) rfl (fun H s => trivial) (fun i x H1 H2 N M hi s _ y hN hM => ?_) fun H1 ys s e tp => ?_
  · obtain ⟨rfl, rfl⟩ := y
    refine ⟨rfl, _, rfl, _, rfl, _, _, rfl, rfl, trivial, _, 1, rfl, rfl, trivial, _, 1, rfl, rfl, trivial, _, rfl, ?_⟩
    rw [shr_bit]
    have ef : (List.range (i + 1)).filter (fun p => (BE.lotPar ts L).testBit p) = (List.range i).filter (fun p => (BE.lotPar ts L).testBit p) ++ if (BE.lotPar ts L).testBit i then [i] else [] := by
      rw [List.range_succ, List.filter_append, List.filter_cons, List.filter_nil]
    refine ite2 (fun c => ?_) fun c => ?_
    · refine ⟨_, rfl, hN _ _ (natD i) (Same.refl _) (.int _) ?_⟩
      show List.map natD _ = _
      rw [ef, if_pos c, List.map_append]; rfl
    · refine hM _ (Same.refl _) ?_
      show List.map natD _ = _
      rw [ef, if_neg c, List.append_nil]
  · rw [Int.toNat_natCast] at tp
    have e2 := tps_nats tp
    subst e2
    refine ⟨_, rfl, by show 0 ≤ sizeLine; decide, fun z hz => ⟨_, _, .lst (SqL.of ((same_new (.lst []) hz) _ _ e)) (Tps.dp (nats_tps _)), .lst (SqL.of upd_same) .nil, shaped_nats _, shaped_nats [], _, rfl, ?_⟩⟩
    rw [eqv_nil]
    have sz := s.trans (same_new (.lst []) hz)
    cases hf : (List.range n).filter (fun p => (BE.lotPar ts L).testBit p) with
    | nil =>
      refine iteF (q1 _ sz fun p hp => ?_)
      cases z : (BE.lotPar ts L).testBit p with
      | false => rfl
      | true =>
        have : p ∈ (List.range n).filter (fun p => (BE.lotPar ts L).testBit p) := List.mem_filter.mpr ⟨List.mem_range.mpr hp, z⟩
        rw [hf] at this; cases this
    | cons p r =>
      have hm : p ∈ (List.range n).filter (fun p => (BE.lotPar ts L).testBit p) := by rw [hf]; exact List.mem_cons_self
      obtain ⟨h1, h2⟩ := List.mem_filter.mp hm
      rw [hf] at e
      exact iteT ⟨_, rfl, D, _, 0, _, rfl, rfl, SqL.of ((same_new (.lst []) hz) _ _ e), at_nats (L := p :: r) (i := 0) (by simp), q2 _ p sz (List.mem_range.mp h1) h2⟩
/-! ### both_error(web, value), of a rising lot -/
abbrev sBothErr : Stmt := top 26
/-- the lot as truths -/
def chi (L : List Nat) : Nat → Bool := fun k => decide (k ∈ L)
theorem par_bd {n : Nat} {ts : BE.Ties} (W : BE.Web n ts) {L : List Nat} (h : Lot ts.length L) (p : Nat) : (BE.lotPar ts L).testBit p = BE.bd ts (chi L) p := by
  rw [← BE.Dd_lot h.rise h.lt, BE.Dd_bit W]
  exact BE.bd_congr (fun k hk => BE.sel_bitsOf k h.rise h.lt hk) p
theorem bd_out {n : Nat} {ts : BE.Ties} (W : BE.Web n ts) (x : Nat → Bool) {p : Nat} (hp : n ≤ p) : BE.bd ts x p = false := by
  refine BE.xs_false _ fun k hk => ?_
  have := W.tie hk
  have h1 : ¬ BE.aOf ts k = p := by omega
  have h2 : ¬ BE.bOf ts k = p := by omega
  unfold BE.inc
  simp [h1, h2]
def spBothErr : Sp := fun vs H Q _ => ∃ (v l : V) (n : Nat) (ts : BE.Ties) (L : List Nat), vs = [v, l] ∧ Tp H v (webD n ts) ∧ Tp H l (lotD L) ∧ Wk n ts ∧ n ≤ 50 ∧ Lot ts.length L ∧
  (∀ H', Same H H' → BE.Both ts (chi L) → Q .non H') ∧ ∀ r H', Same H H' → ¬ BE.Both ts (chi L) → r ≠ .non → Q r H'
theorem scBothErr : FnScope ["web", "value", "error", "place", "lot", "tie"] ["web", "value"] (defScope sBothErr) := ⟨rfl, rfl, rfl, by decide +kernel, rfl, by decide +kernel, by decide +kernel⟩
theorem ok_both_error (F : Fun K "both_error" "both_error" sBothErr f fd) (T : Txt K mg) (cE : Cal P w K mg base 3 "lot_error" spLotErr) (cO : Cal P w K mg base 2 "first_odd" spOdd) (cR : Cal P w K mg base 3 "tree_rounds" spRounds) : FnOk P w K mg base CX0 4 f fd ["web", "value"] spBothErr := by
  refine F.ok scBothErr (fun vs H Q E h => ?_) (fun cdv A outer s H vs Q E hr h => ?_)
  · obtain ⟨_, _, _, _, _, rfl, _⟩ := h; rfl
  obtain ⟨v, l, n, ts, L, rfl, hw, hl, wk, hn, hL, q1, q2⟩ := h
  obtain ⟨p, rfl, hp⟩ := lot_inv hl
  have nd := scBothErr.nd
  refine ⟨_, pss_cons (ps_set (i := 2) nd rfl (Or.inl rfl) (pe_c cE hr (by decide) (by rfl) (pa_cons (pv 0) (pa_cons (pv 1) pa_nil))))
    (pss_cons (ps_if (pt_cmp (pc_notN (pv 2))) (pss_one (ps_ret (pv 2))) pss_nil)
    (pss_cons (ps_set (i := 3) nd rfl (Or.inl rfl) (pe_c cO hr (by decide) (by rfl) (pa_cons (pv 0) (pa_cons (pv 1) pa_nil))))
    (pss_cons (ps_if (pt_cmp (pc_notN (pv 3))) (pss_one (ps_ret (pe_tup (pa_cons pe_str (pa_cons (pv 3) pa_nil))))) pss_nil)
    (pss_cons (ps_for PassesOwn.never rfl (pi_tup (pe_c cR hr (by decide) (by rfl) (pa_cons (pv 0) pa_nil))) (pg_name (i := 4) nd rfl (Or.inl rfl))
      (pss_one (ps_if (pt_cmpR op_eq (pe_op op_mod (pe_callB call_len_seq (by rfl) T.len PySem.boot_len (pa_cons (pe_lc (own := [("tie", 5)]) (g := gName 5) (by rfl) nd (pi_tup (pv 4)) (blkOk_by (own := [("tie", 5)]) (N := ["web", "value", "error", "place", "lot", "tie"]) (sc := defScope sBothErr) (by decide +kernel))
        (fun _ _ _ _ _ => pg_name (i := 5) nd rfl (Or.inl rfl)) (fun _ _ _ _ _ => pts_one (pt_cmpR (op_in_seqK (K := K) rfl) (pv 5) (pv 1) (by rfl))) (fun _ _ _ _ _ => pv 5)) pa_nil)) pe_int) pe_int (nomark _))
        (pss_one (ps_ret (pe_tup (pa_cons pe_str (pa_cons (pv 4) pa_nil))))) pss_nil)))
    (pss_one (ps_ret pe_non)))))), ?_⟩
  refine ⟨_, rfl, _, rfl, v, _, n, ts, L, rfl, hw, hl, wk, hL, fun H1 s1 => ⟨_, rfl, _, rfl, iteF ⟨_, rfl, _, rfl, v, _, n, ts, L, rfl, hw.mono (kt_same s1), hl.mono (kt_same s1), wk, hL.lt, fun H2 s2 hev => ?_, fun H2 pp s2 hpp hod => ?_⟩⟩⟩
  · have even : BE.Even ts (chi L) := fun pp => by
      rcases Nat.lt_or_ge pp n with z | z
      · rw [← par_bd wk.web hL]; exact hev pp z
      · exact bd_out wk.web _ z
    have s12 := s1.trans s2
    refine ⟨_, rfl, _, rfl, iteF ⟨_, rfl, v, n, ts, rfl, hw.mono (kt_same s12), wk, hn, fun lr rds H3 s3 hlr hR hsz hlen => ?_⟩⟩
    have s13 := s12.trans s3
    obtain ⟨ar, xr, rfl, har, hxr⟩ := Tp.tup_inv hlr
    refine ⟨ar, rfl, ⟨xr, SqT.of har⟩, for_tup (xs := xr) (fun i σ H' => Same H3 H' ∧ (∀ r ∈ rds.take i, BE.xl r (chi L) = false) ∧ ∃ o4 o5, σ = [some v, some (.ref p), some .non, some .non, o4, o5]) ⟨Same.refl _, fun r hr => by simp at hr, none, none, rfl⟩ (fun i σ H' _ h => SqT.of (h.1 _ _ har)) (fun i x σ H' hx h => ?_) fun σ H' h => ?_⟩
    · obtain ⟨s4, hdone, o4, o5, rfl⟩ := h
      obtain ⟨dr, hd, td⟩ := Tps.get hxr hx
      rw [List.getElem?_map] at hd
      obtain ⟨r, hr2, rfl⟩ := Option.map_eq_some_iff.mp hd
      obtain ⟨ra, rfl, hra⟩ := lot_inv (td.mono (kt_same s4))
      have hrl := hsz r (List.mem_of_getElem? hr2)
      have s14 := s13.trans s4
      refine ⟨_, rfl, ra, rfl, ⟨_, SqT.of hra⟩, fun D hD => ?_⟩
      refine lc_tp (g := gName 5) (vs := [5]) (walk_tup (K := K) (a := ra) (xs := r.map natV)) hD (by rw [List.length_map, sizeLine_eq]; omega) (fun j => ((r.take j).filter (chi L)).map natD) rfl (fun H s => SqT.of (s _ _ hra)) (fun j x Hc Hd N M hj s _ y hN hM => ?_) fun Hc ys s e tp => ?_
      · obtain ⟨rfl, hx2⟩ := y
        rw [List.getElem?_map] at hx2
        obtain ⟨k, hk, rfl⟩ := Option.map_eq_some_iff.mp hx2
        refine ⟨rfl, _, rfl, _, rfl, p, _, rfl, .inr (SqT.of (s _ _ (s14 _ _ hp))), rfl, flat_nats _, _, rfl, ?_⟩
        show if inV (natV k) (L.map natV) = true then _ else _
        rw [inV_nat]
        have ef : (r.take (j + 1)).filter (chi L) = (r.take j).filter (chi L) ++ if chi L k then [k] else [] := by
          rw [take_snoc hk, List.filter_append, List.filter_cons, List.filter_nil]
        refine ite2 (fun c => ?_) fun c => ?_
        · refine ⟨_, rfl, hN _ _ (natD k) (Same.refl _) (.int _) ?_⟩
          show List.map natD _ = _
          rw [ef, if_pos (show chi L k = true from c), List.map_append]; rfl
        · refine hM _ (Same.refl _) ?_
          show List.map natD _ = _
          rw [ef, if_neg (show ¬ chi L k = true from c), List.append_nil]
      · rw [List.length_map, List.take_length] at tp
        have e2 := tps_nats tp
        subst e2
        refine ⟨D, _, rfl, .inl (SqL.of e), _, _, rfl, rfl, by show (0 : Int) < 2; decide, rfl, _, rfl, ?_⟩
        have hx3 := BE.xl_count r (chi L)
        rw [List.length_map]
        have ed : decide (V.int ((((r.filter (chi L)).length : Nat) : Int) % 2) = V.int 1) = BE.xl r (chi L) := by
          rw [hx3]
          refine decide_eq_decide.mpr ⟨fun z => ?_, fun z => ?_⟩
          · have := V.int.inj z; omega
          · congr 1; omega
        rw [ed]
        have s15 := s14.trans s
        refine ite2 (fun c => ?_) fun c => ?_
        · refine ⟨_, rfl, by show 2 ≤ sizeLine; decide, fun z hz => q2 _ _ (s15.trans (same_new _ hz)) (fun B => ?_) (by intro z; cases z)⟩
          have := (hR.cut wk.web (chi L)).mpr B.cut r (List.mem_of_getElem? hr2)
          rw [this] at c; cases c
        · refine ⟨s4.trans s, fun r' hr' => ?_, _, _, rfl⟩
          rw [take_snoc hr2] at hr'
          rcases List.mem_append.mp hr' with z | z
          · exact hdone r' z
          · rw [List.mem_singleton.mp z]; simpa using c
    · obtain ⟨s4, hdone, o4, o5, rfl⟩ := h
      have hlx : xr.length = rds.length := by rw [Tps.length hxr, List.length_map]
      rw [hlx, List.take_length] at hdone
      exact q1 _ (s13.trans s4) ⟨(hR.cut wk.web (chi L)).mp hdone, even⟩
  · refine ⟨_, rfl, _, rfl, iteT ⟨_, rfl, by show 2 ≤ sizeLine; decide, fun z hz => q2 _ _ ((s1.trans s2).trans (same_new _ hz)) (fun B => ?_) (by intro z; cases z)⟩⟩
    have := B.even pp
    rw [← par_bd wk.web hL, hod] at this
    cases this
end
end R
end
/-! ## W11 -/
section
set_option Elab.async false
set_option linter.all false
set_option maxRecDepth 100000
set_option maxHeartbeats 4000000
namespace R
open PySem PySem.Spec PyProof.Rows L2
section
variable {P : Program} {w : World} {K : PySem.W.Frag} {mg : Str → Option Value} {base : Heap} {f : Addr} {fd : FuncData}
/-! ### the exceptions -/
abbrev sUnfitI : Stmt := inClass (top 3) 0
def spUnfitI (K : PySem.W.Frag) : Sp := fun vs H Q _ => ∃ a C, vs = [.ref a] ∧ OexC K C ∧ H a = some (exo a C none) ∧ Q .non H
theorem scUnfitI : FnScope ["self"] ["self"] (defScope sUnfitI) := ⟨rfl, rfl, rfl, by decide +kernel, rfl, by decide +kernel, by decide +kernel⟩
theorem ok_unfit_init {B : Addr} {mc : Value} (F : Fun K "__init__" "Unfit.__init__" sUnfitI f fd) (hB : mg "BothError" = some (.ref B)) (T : BaseC K B mc) : FnOk P w K mg base CX0 1 f fd ["self"] (spUnfitI K) := by
  refine F.ok scUnfitI (fun vs H Q E h => ?_) (fun cdv A outer s H vs Q E hr h => ?_)
  · obtain ⟨_, _, rfl, _⟩ := h; rfl
  obtain ⟨a, C, rfl, ox, ha, q⟩ := h
  refine ⟨_, pss_one (ps_expr (pe_binit (by rfl) hB T (pa_cons (pv 0) (pa_cons pe_str pa_nil)))), ?_⟩
  exact ⟨_, rfl, a, C, _, rfl, by show 1 ≤ 1000; decide, ox, ha, q⟩
abbrev sManyI : Stmt := inClass (top 4) 0
def spManyI (K : PySem.W.Frag) : Sp := fun vs H Q _ => ∃ a C v, vs = [.ref a, v] ∧ OexC K C ∧ PySem.W.findIn K (.ref C) "limit" = some none ∧ H a = some (exo a C none) ∧ ∀ dx, H dx = none → dx ≠ a → Q .non (upd (upd H dx (exd dx [("limit", v)])) a (exo a C (some dx)))
theorem scManyI : FnScope ["self", "limit"] ["self", "limit"] (defScope sManyI) := ⟨rfl, rfl, rfl, by decide +kernel, rfl, by decide +kernel, by decide +kernel⟩
theorem ok_many_init {B : Addr} {mc : Value} (F : Fun K "__init__" "TooMany.__init__" sManyI f fd) (hB : mg "BothError" = some (.ref B)) (T : BaseC K B mc) : FnOk P w K mg base CX0 1 f fd ["self", "limit"] (spManyI K) := by
  refine F.ok scManyI (fun vs H Q E h => ?_) (fun cdv A outer s H vs Q E hr h => ?_)
  · obtain ⟨_, _, _, rfl, _⟩ := h; rfl
  obtain ⟨a, C, v, rfl, ox, hf, ha, q⟩ := h
  refine ⟨_, pss_cons (ps_expr (pe_binit (by rfl) hB T (pa_cons (pv 0) (pa_cons pe_str pa_nil)))) (pss_one (ps_ost (pv 0) (pv 1))), ?_⟩
  exact ⟨_, rfl, a, C, _, rfl, by show 1 ≤ 1000; decide, ox, ha, _, rfl, _, rfl, a, C, rfl, ox, hf, .inl ⟨ha, q⟩⟩
structure UnfitC (P : Program) (w : World) (K : PySem.W.Frag) (mg : Str → Option Value) (base : Heap) (C : Addr) : Prop where
  oex : OexC K C
  ex : ∃ fI fd, PySem.W.findIn K (.ref C) "__init__" = some (some (.ref fI)) ∧ PySem.W.typeIn K (.ref fI) = some (.type "function") ∧ FnOk P w K mg base CX0 1 fI fd ["self"] (spUnfitI K) ∧ Binds K fd ["self"] []
  mg : mg "Unfit" = some (.ref C)
structure ManyC (P : Program) (w : World) (K : PySem.W.Frag) (mg : Str → Option Value) (base : Heap) (C : Addr) : Prop where
  oex : OexC K C
  ex : ∃ fI fd, PySem.W.findIn K (.ref C) "__init__" = some (some (.ref fI)) ∧ PySem.W.typeIn K (.ref fI) = some (.type "function") ∧ FnOk P w K mg base CX0 1 fI fd ["self", "limit"] (spManyI K) ∧ Binds K fd ["self", "limit"] []
  no : PySem.W.findIn K (.ref C) "limit" = some none
  mg : mg "TooMany" = some (.ref C)
def tRaiseU (W : WX) (C : Addr) : TS := fun _ σ H => ∀ H', Same H H' → W (.ref C) none σ H'
theorem ps_raiseU {X : Cx} {W : WX} {C : Addr} {p pos pos2 : Pos} (U : UnfitC X.prog X.w X.K X.mg X.base C) (hr : Room 2 X.A) (hc : X.calm = true) (tk : Takes X W) (hgl : Gl X "Unfit") : PS X (.Raise (some (.Call (.Name "Unfit" p) [] [] pos)) none pos2) (tRaiseU W C) := by
  obtain ⟨fI, fd, iC, tI, F1, hb⟩ := U.ex
  have q := ps_raise (pos := pos2) hc tk (pmk_bare (p := p) (pos := pos) U.oex iC tI F1 hr hb (fun _ _ _ _ _ _ _ h => h.elim) hgl U.mg)
  refine ⟨fun pins s σ H D I h => q.run pins s σ H D I ?_⟩
  intro a ha
  refine ⟨a, C, rfl, U.oex, upd_same, rfl, upd_same, h _ ?_⟩
  intro b o hb2
  have : b ≠ a := ne_of_none hb2 ha
  rw [del_ne this, upd_ne this]
  exact hb2
def tRaiseM (W : WX) (C : Addr) (v : V) : TS := fun _ σ H => ∀ d H', Same H H' → H' d = some (.xd [("limit", v)]) → W (.ref C) (some d) σ H'
theorem ps_raiseM {X : Cx} {W : WX} {C : Addr} {e : Expr} {v : V} {p pos pos2 : Pos} (M : ManyC X.prog X.w X.K X.mg X.base C) (hr : Room 2 X.A) (hc : X.calm = true) (tk : Takes X W) (hgl : Gl X "TooMany") (he : PE X e (tC v))
    (hs : starEach [e] X.env = (false, eval e X.env) :: starEach [] X.env := by rfl) (hpl : (backTo pos (starEach [] X.env)).any (·.1) = false := by rfl) : PS X (.Raise (some (.Call (.Name "TooMany" p) [e] [] pos)) none pos2) (tRaiseM W C v) := by
  obtain ⟨fI, fd, iC, tI, F1, hb⟩ := M.ex
  have q := ps_raise (pos := pos2) hc tk (pmk_oex (p := p) (pos := pos) M.oex iC tI F1 hr hb .nil (fun _ _ _ _ _ _ _ h => h.elim) hgl M.mg (pa_cons he pa_nil hs) (by decide) hs hpl)
  refine ⟨fun pins s σ H D I h => q.run pins s σ H D I ?_⟩
  show ([v] : List V).length ≤ 1000 ∧ _
  refine ⟨by show 1 ≤ 1000; decide, fun a ha => ?_⟩
  refine ⟨a, C, v, rfl, M.oex, M.no, upd_same, fun dx hdx hne => ⟨rfl, dx, _, upd_same, by rw [upd_ne hne]; exact upd_same, ?_, h dx _ ?_ upd_same⟩⟩
  · rw [upd_ne hne] at hdx; exact hdx
  · intro b o hb2
    have h1 : b ≠ a := ne_of_none hb2 ha
    have h2 : b ≠ dx := ne_of_none hb2 (by rw [upd_ne hne] at hdx; exact hdx)
    rw [upd_ne h2, del_ne h1, upd_ne h1, upd_ne h2, upd_ne h1]
    exact hb2
/-! ### all_lots(web) -/
abbrev sAll : Stmt := top 31
/-- all lots by a base, in their order -/
def lotsOf (m : Nat) (bs : List Nat) : List (List Nat) := (BE.allNb bs.reverse).map (BE.lotOfBits m)
def spAll (C : Addr) : Sp := fun vs H Q E => ∃ (v : V) (n : Nat) (ts : BE.Ties), vs = [v] ∧ Tp H v (webD n ts) ∧ Wk n ts ∧ n ≤ 50 ∧
  (256 < 2 ^ (BE.parRows n ts).length → ∀ d H', Same H H' → H' d = some (.xd [("limit", natV 256)]) → E (.ref C) (some d) H') ∧
  (2 ^ (BE.parRows n ts).length ≤ 256 → ∀ l bs H', Same H H' → Base n ts bs → Tp H' l (.tuple ((lotsOf ts.length bs).map lotD)) → Q l H')
theorem scAll : FnScope ["web", "base", "number"] ["web"] (defScope sAll) := ⟨rfl, rfl, rfl, by decide +kernel, rfl, by decide +kernel, by decide +kernel⟩
theorem ok_all_lots {C : Addr} (F : Fun K "all_lots" "all_lots" sAll f fd) (T : Txt K mg) {tk : Tok} (gM : mg "MAX_LOTS" = some (.int 256 tk)) (M : ManyC P w K mg base C) (cB : Cal P w K mg base 4 "base_bits" spBase) (cN : Cal P w K mg base 1 "numbered_bits" spNum) (cL : Cal P w K mg base 2 "lot_of_bits" spLotOf) :
    FnOk P w K mg base (L2.CX P w) 5 f fd ["web"] (spAll C) := by
  refine F.okX scAll (fun vs H Q E h => ?_) (fun cdv A outer s H vs Q E hr h => ?_)
  · obtain ⟨_, _, _, rfl, _⟩ := h; rfl
  obtain ⟨v, n, ts, rfl, hw, wk, hn, q1, q2⟩ := h
  have nd := scAll.nd
  have hm := wk.hm
  refine ⟨_, pss_cons (ps_set (i := 1) nd rfl (Or.inr rfl) (pe_c cB hr (by decide) (by rfl) (pa_cons (pv 0) pa_nil)))
    (pss_cons (ps_if (pt_cmpR op_gt (pe_op op_shlN1 pe_int (pe_callB call_len_seq (by rfl) T.len PySem.boot_len (pa_cons (pv 1) pa_nil))) (pe_glob (v := natV 256) (by rfl) gM ⟨_, rfl⟩) (nomark _)) (pss_one (ps_raiseM M (hr.mono (by decide)) rfl (takes_of rfl rfl rfl rfl) (by rfl) (pe_glob (v := natV 256) (by rfl) gM ⟨_, rfl⟩))) pss_nil)
    (PSs.nox (pss_one (ps_ret (pe_callTy call_tuple_of (by rfl) T.tuple (by decide +kernel) (pa_cons (pe_lc (own := [("number", 2)]) (g := gName 2) (by rfl) nd (pi_range1 (by rfl) T.range (pa_cons (pe_op op_shlN1 pe_int (pe_callB call_len_seq (by rfl) T.len PySem.boot_len (pa_cons (pv 1) pa_nil))) pa_nil)) (blkOk_by (own := [("number", 2)]) (N := ["web", "base", "number"]) (sc := defScope sAll) (by decide +kernel))
      (fun _ _ _ _ _ => pg_name (i := 2) nd rfl (Or.inl rfl)) (fun _ _ _ _ _ => pts_nil) (fun _ _ _ _ _ => pe_c cL hr (by decide) (by rfl) (pa_cons (pv 0) (pa_cons (pe_c cN hr (by decide) (by rfl) (pa_cons (pv 1) (pa_cons (pv 2) pa_nil))) pa_nil)))) pa_nil)))))), ?_⟩
  refine ⟨_, rfl, v, n, ts, rfl, hw, wk, hn, fun l bs H1 s1 hl hB => ?_⟩
  have hbl := hB.small wk.web
  have elen : (bs.map natV).length = bs.length := List.length_map _
  refine ⟨_, rfl, l, _, rfl, .inl (SqL.of hl), 1, bs.length, rfl, by rw [elen]; rfl, ⟨rfl, by omega⟩, _, _, rfl, rfl, _, rfl, ?_⟩
  refine ite2 (fun c => ?_) fun c => ?_
  · have c1 : (256 : Int) < ((2 ^ bs.length : Nat) : Int) := of_decide_eq_true c
    rw [← hB.len] at q1
    exact fun d H' s2 hd => q1 (by omega) d H' (s1.trans s2) hd
  · have c1 : ¬ (256 : Int) < ((2 ^ bs.length : Nat) : Int) := fun z => c (decide_eq_true z)
    have c2 : 2 ^ bs.length ≤ 256 := by omega
    rw [← hB.len] at q2
    refine ⟨_, rfl, l, _, rfl, .inl (SqL.of hl), 1, bs.length, rfl, by rw [elen]; rfl, ⟨rfl, by omega⟩, _, rfl, Int.le_trans (by decide) (Int.natCast_nonneg _), by omega, fun D hD => ?_⟩
    refine lc_tp (g := gName 2) (tt := tYes) (vs := [2]) walk_rangeN hD (by rw [sizeLine_eq]; omega) (fun i => (List.range i).map fun j => lotD (BE.lotOfBits ts.length (BE.nb bs.reverse j))) rfl (fun H s => trivial) (fun i x Ha Hb N M hi s _ y hN hM => ?_) fun Ha ys s e tp => ?_
    · obtain ⟨rfl, rfl⟩ := y
      have sa := s1.trans s
      refine ⟨rfl, kept ⟨_, rfl, _, rfl, _, rfl, l, bs, i, rfl, s _ _ hl, by omega, fun H2 s2 => ⟨v, n, _, ts, rfl, hw.mono (kt_same (sa.trans s2)), by omega, fun l2 H3 s3 tl => hN _ _ _ (s2.trans s3) tl ?_⟩⟩⟩
      show List.map _ _ = _
      rw [List.range_succ, List.map_append]
      rfl
    · rw [Int.toNat_natCast] at tp
      have e3 : (lotsOf ts.length bs).map lotD = (List.range (2 ^ bs.length)).map fun j => lotD (BE.lotOfBits ts.length (BE.nb bs.reverse j)) := by
        unfold lotsOf BE.allNb
        rw [List.map_map, List.map_map, List.length_reverse]
        rfl
      refine ⟨D, _, rfl, .inl ⟨SqL.of e, fun z hz => q2 c2 _ bs _ (same_upd _ (s1.trans s) (new_old (s1.trans s) hz)) hB ?_⟩⟩
      rw [e3]
      exact .tup upd_same (Tps.mono (kt_new _ hz) tp)
/-! ### lot_at(web, number) -/
abbrev sAt : Stmt := top 32
/-- a value that is no number -/
inductive Alien (H : Hp) : V → Value → Prop
  | non : Alien H .non (.type "NoneType")
  | bl (b : Bool) : Alien H (.bl b) (.type "bool")
  | str (x : Str) : Alien H (.str x) (.type "str")
  | tup {a : Addr} {xs : List V} (e : H a = some (.tup xs)) : Alien H (.ref a) (.type "tuple")
  | lst {a : Addr} {xs : List V} (e : H a = some (.lst xs)) : Alien H (.ref a) (.type "list")
  | dK {a : Addr} {kvs : List (L2.Key × V)} (e : H a = some (.dK kvs)) : Alien H (.ref a) (.type "dict")
theorem Alien.same {H H' : Hp} {x : V} {t : Value} (a : Alien H x t) (s : Same H H') : Alien H' x t := by
  cases a with
  | non => exact .non
  | bl b => exact .bl b
  | str x => exact .str x
  | tup e => exact .tup (s _ _ e)
  | lst e => exact .lst (s _ _ e)
  | dK e => exact .dK (s _ _ e)
/-- is_integer says no -/
theorem alien_no {H : Hp} {x : V} {t : Value} (al : Alien H x t) : ∃ b1 b2, TyX K H x t ∧ PySem.W.kitOne K t (.type "int") = some b1 ∧ (b1 = true → PySem.W.kitOne K t (.type "bool") = some b2) ∧ (b1 && !b2) = false := by
  cases al with
  | non => exact ⟨false, false, .base .non, kit_ty (by decide +kernel), fun z => (by cases z), rfl⟩
  | bl b => exact ⟨true, true, .base (.bl b), kit_ty (by decide +kernel), fun _ => kit_ty (by decide +kernel), rfl⟩
  | str x => exact ⟨false, false, .base (.str x), kit_ty (by decide +kernel), fun z => (by cases z), rfl⟩
  | tup e => exact ⟨false, false, .base (.tup e), kit_ty (by decide +kernel), fun z => (by cases z), rfl⟩
  | lst e => exact ⟨false, false, .base (.lst e), kit_ty (by decide +kernel), fun z => (by cases z), rfl⟩
  | dK e => exact ⟨false, false, .base (.dK e), kit_ty (by decide +kernel), fun z => (by cases z), rfl⟩
def spAt (C : Addr) : Sp := fun vs H Q E => ∃ (v x : V) (n : Nat) (ts : BE.Ties), vs = [v, x] ∧ Tp H v (webD n ts) ∧ Wk n ts ∧ n ≤ 50 ∧
  ((∃ i : Nat, x = natV i ∧ i < 2 ^ (BE.parRows n ts).length ∧ ∀ l bs H', Same H H' → Base n ts bs → Tp H' l (lotD (BE.lotOfBits ts.length (BE.nb bs.reverse i))) → Q l H') ∨
    (((∃ t, Alien H x t) ∨ ∃ i : Int, x = .int i ∧ ¬ (0 ≤ i ∧ i < ((2 ^ (BE.parRows n ts).length : Nat) : Int))) ∧ ∀ H', Same H H' → E (.ref C) none H'))
theorem scAt : FnScope ["web", "number", "base"] ["web", "number"] (defScope sAt) := ⟨rfl, rfl, rfl, by decide +kernel, rfl, by decide +kernel, by decide +kernel⟩
theorem ok_lot_at {C : Addr} (F : Fun K "lot_at" "lot_at" sAt f fd) (T : Txt K mg) (U : UnfitC P w K mg base C) (cI : Cal P w K mg base 1 "is_integer" (spIsInt K)) (cB : Cal P w K mg base 4 "base_bits" spBase) (cN : Cal P w K mg base 1 "numbered_bits" spNum) (cL : Cal P w K mg base 2 "lot_of_bits" spLotOf) :
    FnOk P w K mg base (L2.CX P w) 5 f fd ["web", "number"] (spAt C) := by
  refine F.okX scAt (fun vs H Q E h => ?_) (fun cdv A outer s H vs Q E hr h => ?_)
  · obtain ⟨_, _, _, _, rfl, _⟩ := h; rfl
  obtain ⟨v, x, n, ts, rfl, hw, wk, hn, q⟩ := h
  have nd := scAt.nd
  have hm := wk.hm
  refine ⟨_, pss_cons (ps_set (i := 2) nd rfl (Or.inl rfl) (pe_c cB hr (by decide) (by rfl) (pa_cons (pv 0) pa_nil)))
    (pss_cons (ps_if (PW.pt (pw_or (pt_not (pt_val (pe_c cI hr (by decide) (by rfl) (pa_cons (pv 1) pa_nil)))) (pw_or1 (pt_not (pt_chain op_le op_lt pe_int (pv 1) (pe_op op_shlN1 pe_int (pe_callB call_len_seq (by rfl) T.len PySem.boot_len (pa_cons (pv 2) pa_nil)))))))) (pss_one (ps_raiseU U (hr.mono (by decide)) rfl (takes_of rfl rfl rfl rfl) (by rfl))) pss_nil)
    (PSs.nox (pss_one (ps_ret (pe_c cL hr (by decide) (by rfl) (pa_cons (pv 0) (pa_cons (pe_c cN hr (by decide) (by rfl) (pa_cons (pv 2) (pa_cons (pv 1) pa_nil))) pa_nil))))))), ?_⟩
  refine ⟨_, rfl, v, n, ts, rfl, hw, wk, hn, fun l bs H1 s1 hl hB => ?_⟩
  have hbl := hB.small wk.web
  have elen : (bs.map natV).length = bs.length := List.length_map _
  rw [← hB.len] at q
  rcases q with ⟨i, rfl, hi, q⟩ | ⟨h, q⟩
  · refine ⟨_, rfl, .int i, .type "int", true, false, rfl, .base (.int i), kit_ty (by decide +kernel), fun _ => kit_ty (by decide +kernel), _, rfl, iteF ⟨_, rfl, 0, (i : Int), rfl, rfl, _, rfl, ?_⟩⟩
    rw [decide_eq_true (show (0 : Int) ≤ (i : Int) by omega)]
    refine iteT ⟨_, rfl, l, _, rfl, .inl (SqL.of hl), 1, bs.length, rfl, by rw [elen]; rfl, ⟨rfl, by omega⟩, (i : Int), _, rfl, rfl, _, rfl, ?_⟩
    rw [decide_eq_true (show (i : Int) < ((2 ^ bs.length : Nat) : Int) by omega)]
    refine iteF ⟨_, rfl, _, rfl, _, rfl, l, bs, i, rfl, hl, by omega, fun H2 s2 => ⟨v, n, _, ts, rfl, hw.mono (kt_same (s1.trans s2)), by omega, fun l2 H3 s3 tl => q l2 bs H3 ((s1.trans s2).trans s3) hB tl⟩⟩
  · have qr : ∀ H', Same H1 H' → E (.ref C) none H' := fun H' s2 => q H' (s1.trans s2)
    rcases h with ⟨t, al⟩ | ⟨i, rfl, hi⟩
    · obtain ⟨b1, b2, ty, k1, k2, e⟩ := alien_no (K := K) (al.same s1)
      refine ⟨_, rfl, x, t, b1, b2, rfl, ty, k1, k2, ?_⟩
      rw [e]
      exact ⟨_, rfl, iteT (iteT qr)⟩
    · refine ⟨_, rfl, .int i, .type "int", true, false, rfl, .base (.int i), kit_ty (by decide +kernel), fun _ => kit_ty (by decide +kernel), _, rfl, iteF ⟨_, rfl, 0, i, rfl, rfl, _, rfl, ?_⟩⟩
      by_cases h0 : (0 : Int) ≤ i
      · rw [decide_eq_true h0]
        refine iteT ⟨_, rfl, l, _, rfl, .inl (SqL.of hl), 1, bs.length, rfl, by rw [elen]; rfl, ⟨rfl, by omega⟩, i, _, rfl, rfl, _, rfl, ?_⟩
        rw [decide_eq_false (fun z => hi ⟨h0, z⟩)]
        exact iteT qr
      · rw [decide_eq_false h0]
        exact iteF ⟨_, rfl, iteT qr⟩
/-! ### lot_number(web, lot), of a rising lot -/
abbrev sNumber : Stmt := top 33
def spNumber (C : Addr) : Sp := fun vs H Q E => ∃ (v l : V) (n : Nat) (ts : BE.Ties) (L : List Nat), vs = [v, l] ∧ Tp H v (webD n ts) ∧ Tp H l (lotD L) ∧ Wk n ts ∧ n ≤ 50 ∧ Lot ts.length L ∧
  (∀ i bs H', Same H H' → Base n ts bs → i < 2 ^ bs.length → BE.lotOfBits ts.length (BE.nb bs.reverse i) = L → Q (natV i) H') ∧ (¬ BE.Both ts (chi L) → ∀ H', Same H H' → E (.ref C) none H')
theorem scNumber : FnScope ["web", "lot", "found", "own"] ["web", "lot"] (defScope sNumber) := ⟨rfl, rfl, rfl, by decide +kernel, rfl, by decide +kernel, by decide +kernel⟩
theorem ok_lot_number {C : Addr} (F : Fun K "lot_number" "lot_number" sNumber f fd) (T : Txt K mg) (U : UnfitC P w K mg base C) (cE : Cal P w K mg base 4 "both_error" spBothErr) (cB : Cal P w K mg base 5 "lot_base" spLotBase) :
    FnOk P w K mg base (L2.CX P w) 6 f fd ["web", "lot"] (spNumber C) := by
  refine F.okX scNumber (fun vs H Q E h => ?_) (fun cdv A outer s H vs Q E hr h => ?_)
  · obtain ⟨_, _, _, _, _, rfl, _⟩ := h; rfl
  obtain ⟨v, l, n, ts, L, rfl, hw, hl, wk, hn, hL, q1, q2⟩ := h
  obtain ⟨p, rfl, hp⟩ := lot_inv hl
  have nd := scNumber.nd
  have hm := wk.hm
  refine ⟨_, pss_cons (ps_if (pt_cmp (pc_notN (pe_c cE hr (by decide) (by rfl) (pa_cons (pv 0) (pa_cons (pv 1) pa_nil))))) (pss_one (ps_raiseU U (hr.mono (by decide)) rfl (takes_of rfl rfl rfl rfl) (by rfl))) pss_nil)
    (PSs.nox (pss_cons (ps_set (i := 2) nd rfl (Or.inl rfl) pe_int)
    (pss_cons (ps_for PassesOwn.never rfl (pi_tup (pe_c cB hr (by decide) (by rfl) (pa_cons (pv 0) pa_nil))) (pg_name (i := 3) nd rfl (Or.inl rfl))
      (pss_one (ps_set (i := 2) nd rfl (Or.inl rfl) (pe_op op_add (pe_op op_mul pe_int (pv 2)) (pe_callTy call_int1 (by rfl) T.int (by decide +kernel) (pa_cons (pe_cmpR op_in_seq (pe_ix ix_tup (pv 3) pe_int (fun _ _ => rfl)) (pv 1) (by rfl)) pa_nil))))))
    (pss_one (ps_ret (pv 2)))))), ?_⟩
  refine ⟨_, rfl, _, rfl, v, _, n, ts, L, rfl, hw, hl, wk, hn, hL, fun H1 s1 hBo => ⟨_, rfl, iteF ?_⟩, fun r H1 s1 hNo hr1 => ⟨_, rfl, ?_⟩⟩
  · refine ⟨_, rfl, v, n, ts, rfl, hw.mono (kt_same s1), wk, hn, fun lb bs H2 s2 hlb hB => ?_⟩
    have hbl := hB.small wk.web
    have hx : BE.V ts (BE.bitsOf ts.length L) := ⟨BE.bitsOf_lt' hL.rise hL.lt, (BE.both_iff fun k hk => (BE.sel_bitsOf k hL.rise hL.lt hk).symm).mp hBo⟩
    obtain ⟨i, hi, hnb⟩ := BE.span_nb ((hB.rspan _).mpr hx)
    rw [List.length_reverse] at hi
    have s12 := s1.trans s2
    obtain ⟨a, xs, rfl, ha, hxs⟩ := Tp.tup_inv hlb
    have hlx : xs.length = bs.length := by rw [Tps.length hxs, List.length_map]
    refine ⟨a, rfl, ⟨xs, SqT.of ha⟩, for_tup (xs := xs) (fun j σ H' => H' = H2 ∧ ∃ o3, σ = [some v, some (.ref p), some (natV (i / 2 ^ (bs.length - j))), o3]) ⟨rfl, none, ?_⟩ (fun j σ H' _ h => by rw [h.1]; exact SqT.of ha) (fun j x σ H' hx2 h => ?_) fun σ H' h => ?_⟩
    · rw [Nat.sub_zero, Nat.div_eq_of_lt hi]
      rfl
    · obtain ⟨rfl, o3, rfl⟩ := h
      obtain ⟨d, hd, td⟩ := Tps.get hxs hx2
      rw [List.getElem?_map] at hd
      obtain ⟨b, hb, rfl⟩ := Option.map_eq_some_iff.mp hd
      obtain ⟨u, rfl, hu⟩ := lot_inv td
      have hbm := List.mem_of_getElem? hb
      have hbV := (hB.span b).mp (BE.span_mem hbm)
      have hb0 : b ≠ 0 := hB.ech.pos b (List.mem_reverse.mpr hbm)
      obtain ⟨r, hr0⟩ := BE.lot_first hb0 hbV.1
      have hjl : j < bs.length := (List.getElem?_eq_some_iff.mp hb).1
      have hlog : b.log2 < ts.length := (Nat.log2_lt hb0).mpr hbV.1
      have ein : inV (natV (ts.length - 1 - b.log2)) (L.map natV) = i.testBit (bs.length - 1 - j) := by
        rw [inV_nat, ← BE.num_bit hB.ech hb, hnb, ← BE.sel_bitsOf _ hL.rise hL.lt (by omega)]
        unfold BE.sel
        rw [show ts.length - 1 - (ts.length - 1 - b.log2) = b.log2 by omega]
      rw [hr0] at hu
      refine ⟨_, rfl, 2, _, rfl, rfl, .inl ⟨by decide, by decide⟩, _, rfl, u, _, 0, _, rfl, rfl, SqT.of hu, at_nats (L := (ts.length - 1 - b.log2) :: r) (i := 0) (by simp), _, rfl, p, _, rfl, .inr (SqT.of (s12 _ _ hp)), rfl, flat_nats _, .inr ⟨_, rfl, _, _, rfl, rfl, rfl, ?_⟩⟩
      have e1 : inV (natV (((ts.length - 1 - b.log2) :: r).getD 0 0)) (L.map natV) = i.testBit (bs.length - 1 - j) := ein
      rw [BE.half_step i bs.length j hjl]
      have e2 : V.int (2 * ((i / 2 ^ (bs.length - j) : Nat) : Int) + (if inV (natV (((ts.length - 1 - b.log2) :: r).getD 0 0)) (L.map natV) = true then 1 else 0)) = natV (2 * (i / 2 ^ (bs.length - j)) + if i.testBit (bs.length - 1 - j) = true then 1 else 0) := by
        rw [e1]
        show V.int _ = V.int _
        congr 1
        by_cases c : i.testBit (bs.length - 1 - j) = true
        · rw [if_pos c, if_pos c]; omega
        · rw [if_neg c, if_neg c]; omega
      rw [← e2]
      exact ⟨_, rfl⟩
    · obtain ⟨rfl, o3, rfl⟩ := h
      rw [hlx, Nat.sub_self, Nat.pow_zero, Nat.div_one]
      refine ⟨_, rfl, q1 i bs _ s12 hB hi ?_⟩
      rw [hnb, BE.lotOfBits_bitsOf hL.rise hL.lt]
  · have e : (!decide (r = V.non)) = true := by simp [hr1]
    rw [e]
    exact iteT fun H' s2 => q2 hNo H' (s1.trans s2)
end
end R
end
/-! ## W12 -/
section
set_option Elab.async false
set_option linter.all false
set_option maxRecDepth 100000
set_option maxHeartbeats 4000000
namespace R
open PySem PySem.Spec PyProof.Rows L2
/-! ### the urn -/
def kDeep : L2.Key := Sum.inr "deep"
def kState : L2.Key := Sum.inr "state"
theorem keys_ne : kDeep ≠ kState := by unfold kDeep kState; intro h; exact absurd (Sum.inr.inj h) (by decide +kernel)
structure UrnIs (H : Hp) (u dl : Addr) (ds : List Nat) (st : Nat) : Prop where
  d : H u = some (.dK [(kDeep, .ref dl), (kState, natV st)])
  l : H dl = some (.lst (ds.map natV))
  few : ds.length ≤ 64
  st : st < 2 ^ 62
def UrnAt (H : Hp) (u dl : Addr) : Prop := ∃ ds st, UrnIs H u dl ds st
theorem UrnIs.ne {H : Hp} {u dl : Addr} {ds : List Nat} {st : Nat} (h : UrnIs H u dl ds st) : u ≠ dl := fun e => by
  have := h.d
  rw [e, h.l] at this
  cases this
theorem val_deep (x y : V) : valV [(kDeep, x), (kState, y)] kDeep = some x := valV_pos rfl
theorem val_state (x y : V) : valV [(kDeep, x), (kState, y)] kState = some y := by rw [valV_neg keys_ne]; exact valV_pos rfl
theorem put_state (x y z : V) : putK [(kDeep, x), (kState, y)] kState z = [(kDeep, x), (kState, z)] := by
  unfold putK
  rw [valV_any, val_state]
  show [if kDeep = kState then (kDeep, z) else (kDeep, x), if kState = kState then (kState, z) else (kState, y)] = _
  rw [if_neg keys_ne, if_pos rfl]
theorem UrnIs.deep {H : Hp} {u dl : Addr} {ds : List Nat} {st : Nat} (h : UrnIs H u dl ds st) : DGet H u (.str "deep") (some (.ref dl)) := by
  have := DGet.k (k := kDeep) h.d
  rw [val_deep] at this
  exact this
theorem UrnIs.state {H : Hp} {u dl : Addr} {ds : List Nat} {st : Nat} (h : UrnIs H u dl ds st) : DGet H u (.str "state") (some (natV st)) := by
  have := DGet.k (k := kState) h.d
  rw [val_state] at this
  exact this
theorem UrnIs.put {H : Hp} {u dl : Addr} {ds : List Nat} {st : Nat} (h : UrnIs H u dl ds st) (z : V) : DPut H u (.str "state") z (upd H u (.dK [(kDeep, .ref dl), (kState, z)])) := by
  have := DPut.k (k := kState) (v := z) h.d (by show 2 < sizeLine; decide)
  rw [put_state] at this
  exact this
theorem UrnIs.stored {H : Hp} {u dl : Addr} {ds : List Nat} {st st' : Nat} (h : UrnIs H u dl ds st) (hs : st' < 2 ^ 62) : UrnIs (upd H u (.dK [(kDeep, .ref dl), (kState, natV st')])) u dl ds st' :=
  ⟨upd_same, by rw [upd_ne h.ne.symm]; exact h.l, h.few, hs⟩
theorem UrnIs.listed {H : Hp} {u dl : Addr} {ds ds' : List Nat} {st : Nat} (h : UrnIs H u dl ds st) (hl : ds'.length ≤ 64) : UrnIs (upd H dl (.lst (ds'.map natV))) u dl ds' st :=
  ⟨by rw [upd_ne h.ne]; exact h.d, upd_same, hl, h.st⟩
/-- all but the urn stays -/
def Fr (u dl : Addr) (H H' : Hp) : Prop := ∀ b o, b ≠ u → b ≠ dl → H b = some o → H' b = some o
theorem Fr.refl (u dl : Addr) (H : Hp) : Fr u dl H H := fun _ _ _ _ e => e
theorem Fr.trans {u dl : Addr} {H H1 H2 : Hp} (a : Fr u dl H H1) (b : Fr u dl H1 H2) : Fr u dl H H2 := fun c o h1 h2 e => b c o h1 h2 (a c o h1 h2 e)
theorem Same.fr {u dl : Addr} {H H' : Hp} (s : Same H H') : Fr u dl H H' := fun b o _ _ e => s b o e
theorem UrnAt.same {u dl : Addr} {H H' : Hp} (h : UrnAt H u dl) (s : Same H H') : UrnAt H' u dl := let ⟨ds, st, k⟩ := h; ⟨ds, st, s _ _ k.d, s _ _ k.l, k.few, k.st⟩
theorem Fr.kt {u dl : Addr} {H H' : Hp} (f : Fr u dl H H') (h : UrnAt H u dl) : KT H H' := fun b xs e => by
  obtain ⟨ds, st, k⟩ := h
  exact f b _ (ne_of e k.d (by intro z; cases z)) (ne_of e k.l (by intro z; cases z)) e
theorem Fr.u {u dl : Addr} {H : Hp} (o : HO) : Fr u dl H (upd H u o) := fun b _ h _ e => by rw [upd_ne h]; exact e
theorem Fr.l {u dl : Addr} {H : Hp} (o : HO) : Fr u dl H (upd H dl o) := fun b _ _ h e => by rw [upd_ne h]; exact e
section
variable {P : Program} {w : World} {K : PySem.W.Frag} {mg : Str → Option Value} {base : Heap} {f : Addr} {fd : FuncData}
/-! ### _law_take(urn, many) -/
abbrev sTake : Stmt := top 36
def spTake : Sp := fun vs H Q _ => ∃ (u dl : Addr) (many : Nat), vs = [.ref u, natV many] ∧ UrnAt H u dl ∧ many ≤ 1000000 ∧
  ∀ k H', (many < 2 → k = 0) → (2 ≤ many → k < many) → UrnAt H' u dl → Fr u dl H H' → Q (natV k) H'
theorem scTake : FnScope ["_law_urn_here", "_law_many", "_law_whole", "_law_state"] ["_law_urn_here", "_law_many"] (defScope sTake) := ⟨rfl, rfl, rfl, by decide +kernel, rfl, by decide +kernel, by decide +kernel⟩
theorem mod_nat {x : Int} {m : Nat} (h : 0 < m) : ∃ k : Nat, x % (m : Int) = (k : Int) ∧ k < m := by
  have h1 := Int.emod_nonneg x (b := (m : Int)) (by omega)
  have h2 := Int.emod_lt_of_pos x (b := (m : Int)) (by omega)
  exact ⟨(x % (m : Int)).toNat, by omega, by omega⟩
theorem ok_take (F : Fun K "_law_take" "_law_take" sTake f fd) (T : Txt K mg) : FnOk P w K mg base CX0 1 f fd ["_law_urn_here", "_law_many"] spTake := by
  refine F.ok scTake (fun vs H Q E h => ?_) (fun cdv A outer s H vs Q E hr h => ?_)
  · obtain ⟨_, _, _, rfl, _⟩ := h; rfl
  obtain ⟨u, dl, many, rfl, ⟨ds, st, U⟩, hm, q⟩ := h
  have nd := scTake.nd
  have hu := hu_of hr
  refine ⟨_, pss_cons (ps_if (pt_cmpR op_ltN (pv 1) pe_int (nomark _)) (pss_one (ps_ret pe_int)) pss_nil)
    (pss_cons (ps_if (pt_cmpR (op_neD hr.units) (pe_dget hu (pv 0) pe_str (fun _ _ => rfl)) (pe_lst pa_nil) (nomark _))
      (pss_cons (ps_set (i := 2) nd rfl (Or.inl rfl) (pe_bm0 PySem.F.plainAttrs_list PySem.F.slot_list_pop PySem.F.type_list_pop mt_pop (pe_dget hu (pv 0) pe_str (fun _ _ => rfl))))
      (pss_cons (ps_if (pt_cmpR op_ge (pv 2) (pv 1) (nomark _)) (pss_one (ps_expr (pe_bm PySem.F.plainAttrs_list PySem.F.slot_list_append PySem.F.type_list_append mt_append (pe_dget hu (pv 0) pe_str (fun _ _ => rfl)) (pa_cons (pe_op op_fdiv (pv 2) (pv 1)) pa_nil)))) pss_nil)
      (pss_one (ps_ret (pe_op op_mod (pe_callTy call_int1 (by rfl) T.int (by decide +kernel) (pa_cons (pv 2) pa_nil)) (pv 1)))))) pss_nil)
    (pss_cons (ps_set (i := 3) nd rfl (Or.inl rfl) (pe_op op_mod (pe_callTy call_int1 (by rfl) T.int (by decide +kernel) (pa_cons (pe_op op_add (pe_op op_mul (pe_dget hu (pv 0) pe_str (fun _ _ => rfl)) pe_int) pe_int) pa_nil)) pe_int))
    (pss_cons (ps_dput hu (pv 0) pe_str (pv 3) rfl)
    (pss_one (ps_ret (pe_op op_mod (pe_callTy call_int1 (by rfl) T.int (by decide +kernel) (pa_cons (pe_op op_fdiv (pe_op op_mod (pe_callTy call_int1 (by rfl) T.int (by decide +kernel) (pa_cons (pe_op op_add (pe_op op_mul (pv 3) (pv 3)) (pe_op op_mul pe_int (pv 3))) pa_nil)) pe_int) pe_int) pa_nil)) (pv 1))))))), ?_⟩
  refine ⟨_, rfl, _, 2, rfl, rfl, trivial, _, rfl, ?_⟩
  refine ite2 (fun c => ?_) fun c => ?_
  · exact q 0 H (fun _ => rfl) (fun z => absurd (of_decide_eq_true c) (by omega)) ⟨ds, st, U⟩ (Fr.refl _ _ _)
  have h2 : 2 ≤ many := by
    rcases Nat.lt_or_ge many 2 with z | z
    · exact absurd (decide_eq_true z) c
    · exact z
  refine ⟨_, rfl, u, _, rfl, U.deep, by show 0 ≤ sizeLine; decide, fun z hz => ⟨_, _, .lst (SqL.of ((same_new (.lst []) hz) _ _ U.l)) (Tps.dp (nats_tps ds)), .lst (SqL.of upd_same) .nil, shaped_nats ds, shaped_nats [], _, rfl, ?_⟩⟩
  rw [eqv_nil]
  have sz := same_new (.lst []) hz
  have U1 : UrnIs (upd H z (.lst [])) u dl ds st := ⟨sz _ _ U.d, sz _ _ U.l, U.few, U.st⟩
  have hem : (ds.map natD).isEmpty = ds.isEmpty := by cases ds <;> rfl
  rw [hem]
  rcases List.eq_nil_or_concat ds with e0 | ⟨es, x, e0⟩
  · subst e0
    refine iteF ?_
    refine ⟨_, rfl, u, _, rfl, U1.state, (st : Int), _, rfl, rfl, .inr ⟨by decide, by decide⟩, _, _, rfl, rfl, .inl ⟨_, rfl, _, _, rfl, rfl, by show (0 : Int) < 2305843009213693951; decide, ?_⟩⟩
    obtain ⟨s1, es1, hs1⟩ := mod_nat (x := (st : Int) * 2862933555777941757 + 3037000493) (m := 2305843009213693951) (by decide)
    have es2 : V.int (((st : Int) * 2862933555777941757 + 3037000493) % 2305843009213693951) = natV s1 := congrArg V.int es1
    dsimp only
    rw [es2]
    have hs62 : s1 < 2 ^ 62 := by
      have : (2305843009213693951 : Nat) < 2 ^ 62 := by decide
      omega
    refine ⟨_, rfl, _, rfl, u, _, rfl, U1.put _, ?_⟩
    refine ⟨_, rfl, _, rfl, (s1 : Int), (s1 : Int), rfl, rfl, .inl ⟨by omega, by omega⟩, _, rfl, (362436069 : Int), _, rfl, rfl, .inl ⟨by decide, by decide⟩, _, _, rfl, rfl, .inl ⟨_, rfl, _, _, rfl, rfl, by show (0 : Int) < 2305843009213693921; decide, _, _, rfl, rfl, ⟨by decide, by decide⟩, .inl ⟨_, rfl, _, rfl, _, _, rfl, rfl, by show (0 : Int) < (many : Int); omega, ?_⟩⟩⟩
    obtain ⟨k, ek, hk⟩ := mod_nat (x := (((s1 : Int) * s1 + 362436069 * s1) % 2305843009213693921) / 4194304) (m := many) (by omega)
    have ek2 : V.int (((((s1 : Int) * s1 + 362436069 * s1) % 2305843009213693921) / 4194304) % (many : Int)) = natV k := congrArg V.int ek
    show Q (V.int (((((s1 : Int) * s1 + 362436069 * s1) % 2305843009213693921) / 4194304) % (many : Int))) _
    rw [ek2]
    exact q k _ (fun z => absurd h2 (by omega)) (fun _ => hk) ⟨_, s1, U1.stored hs62⟩ ((Same.fr sz).trans (Fr.u _))
  · have e1 : ds = es ++ [x] := by rw [e0]; simp
    subst e1
    have hne : (es ++ [x]).isEmpty = false := by cases es <;> rfl
    rw [hne]
    refine iteT ?_
    have hpop : ((es ++ [x]).map natV)[((es ++ [x]).map natV).length - 1]? = some (natV x) := by
      rw [List.map_append, List.length_append]
      simp
    have hdl : ((es ++ [x]).map natV).dropLast = es.map natV := by rw [List.map_append]; simp
    have hel : es.length + 1 ≤ 64 := by have := U1.few; simpa using this
    refine ⟨_, rfl, u, _, rfl, U1.deep, .inl ⟨rfl, _, SqL.of U1.l⟩, dl, _, _, rfl, rfl, U1.l, hpop, ?_⟩
    rw [hdl]
    have U2 := U1.listed (ds' := es) (by omega)
    have f2 : Fr u dl H (upd (upd H z (.lst [])) dl (.lst (es.map natV))) := (Same.fr sz).trans (Fr.l _)
    have fin : ∀ H', UrnAt H' u dl → Fr u dl H H' → Q (.int ((x : Int) % (many : Int))) H' := fun H' a b => by
      obtain ⟨k, ek, hk⟩ := mod_nat (x := (x : Int)) (m := many) (by omega)
      rw [ek]
      exact q k _ (fun z => absurd h2 (by omega)) (fun _ => hk) a b
    refine ⟨_, rfl, _, rfl, (x : Int), (many : Int), rfl, rfl, _, rfl, ?_⟩
    refine ite2 (fun cc => ?_) fun cc => ?_
    · refine ⟨_, rfl, u, _, rfl, U2.deep, .inl ⟨rfl, _, SqL.of U2.l⟩, _, rfl, _, rfl, (x : Int), (many : Int), rfl, rfl, ⟨by omega, by omega⟩, dl, _, _, rfl, rfl, U2.l, by rw [List.length_map, sizeLine_eq]; omega, ?_⟩
      have ed : V.int ((x : Int) / (many : Int)) = natV (x / many) := by show V.int _ = V.int _; congr 1
      have ea : es.map natV ++ [V.int ((x : Int) / (many : Int))] = (es ++ [x / many]).map natV := by rw [ed, List.map_append]; rfl
      dsimp only
      rw [ea]
      exact ⟨_, rfl, .inl ⟨_, rfl, _, rfl, _, _, rfl, rfl, by show (0 : Int) < (many : Int); omega, fin _ ⟨_, _, U2.listed (by simp; omega)⟩ (f2.trans (Fr.l _))⟩⟩
    · exact ⟨_, rfl, .inl ⟨_, rfl, _, rfl, _, _, rfl, rfl, by show (0 : Int) < (many : Int); omega, fin _ ⟨_, _, U2⟩ f2⟩⟩
end
end R
end
/-! ## W13 -/
section
set_option Elab.async false
set_option linter.all false
set_option maxRecDepth 100000
set_option maxHeartbeats 4000000
namespace R
open PySem PySem.Spec PyProof.Rows L2
theorem op_subN {X : Cx} : OpR X (binaryOp .Sub) (rN (fun a b => b ≤ a) fun a b => natV (a - b)) := by
  intro pins s σ H x y v u Q I rx ry h
  obtain ⟨a, b, rfl, rfl, hab, q⟩ := h
  refine op_sub pins s σ H _ _ v u Q I rx ry ⟨_, _, rfl, rfl, ?_⟩
  have e : V.int ((a : Int) - (b : Int)) = natV (a - b) := by show V.int _ = V.int _; congr 1; omega
  dsimp only
  rw [e]
  exact q
theorem op_mulN {X : Cx} : OpR X (binaryOp .Mult) (rN (fun a _ => a < 1000000) fun a b => natV (a * b)) := by
  intro pins s σ H x y v u Q I rx ry h
  obtain ⟨a, b, rfl, rfl, ha, q⟩ := h
  refine op_mul pins s σ H _ _ v u Q I rx ry ⟨_, _, rfl, rfl, .inl ⟨by omega, by omega⟩, ?_⟩
  have e : V.int ((a : Int) * (b : Int)) = natV (a * b) := by show V.int _ = V.int _; congr 1
  dsimp only
  rw [e]
  exact q
theorem op_modN' {X : Cx} : OpR X (binaryOp .Mod) (rN (fun _ b => 0 < b) fun a b => natV (a % b)) := by
  intro pins s σ H x y v u Q I rx ry h
  obtain ⟨a, b, rfl, rfl, hb, q⟩ := h
  exact op_mod pins s σ H _ _ v u Q I rx ry ⟨_, _, rfl, rfl, by omega, q⟩
theorem op_gtN {X : Cx} : OpR X (compareOp .Gt) (rN (fun _ _ => True) fun a b => .bl (decide (b < a))) := by
  intro pins s σ H x y v u Q I rx ry h
  obtain ⟨a, b, rfl, rfl, _, q⟩ := h
  refine op_gt pins s σ H _ _ v u Q I rx ry ⟨_, _, rfl, rfl, ?_⟩
  have e : decide ((b : Int) < (a : Int)) = decide (b < a) := decide_eq_decide.mpr (by omega)
  dsimp only
  rw [e]
  exact q
theorem Tps.erase {H : Hp} : ∀ {vs : List V} {ds : List PyData} (k : Nat), Tps H vs ds → Tps H (vs.eraseIdx k) (ds.eraseIdx k)
  | _, _, _, .nil => .nil
  | _, _, 0, .cons _ t => t
  | _, _, k + 1, .cons a t => .cons a (Tps.erase k t)
theorem pair_lay (t : Nat × Nat) : (pairD t).canLay0 = true := by simp [pairD, natD, PyData.canLay0, PyData.canLayAll0]
theorem pair_depth (t : Nat × Nat) : (pairD t).depth ≤ 1 := by simp [pairD, natD, PyData.depth, PyData.depthAll]
theorem shaped_pairs (L : List (Nat × Nat)) : SeqAt.shaped (.list (L.map pairD)) = true := by
  refine shaped_of ?_ ?_
  · simp only [PyData.canLay0]; exact lay_map pair_lay L
  · have := depth_map pair_depth L
    simp only [PyData.depth]
    omega
section
variable {P : Program} {w : World} {K : PySem.W.Frag} {mg : Str → Option Value} {base : Heap} {f : Addr} {fd : FuncData}
/-! ### _law_urn(script) -/
abbrev sUrn : Stmt := top 35
def spUrn (K : PySem.W.Frag) : Sp := fun vs H Q _ => ∃ (a : Addr) (ns : List Int), vs = [.ref a] ∧ SqL K H a (ns.map V.int) ∧ (∀ H', Same H H' → SqL K H' a (ns.map V.int)) ∧
  ∀ u dl H', UrnAt H' u dl → Same H H' → H u = none → H dl = none → Q (.ref u) H'
theorem scUrn : FnScope ["_law_script", "_law_urn_here", "_law_cell", "_law_own"] ["_law_script"] (defScope sUrn) := ⟨rfl, rfl, rfl, by decide +kernel, rfl, by decide +kernel, by decide +kernel⟩
theorem cut63 (xs : List V) : (cutV xs none (some 63)).length ≤ 63 := by
  unfold cutV
  rw [List.length_take, HT.sIx_none, show (some (63 : Int)) = some ((63 : Nat) : Int) from rfl, HT.sIx_nat]
  omega
theorem cut_int (ns : List Int) {i : Nat} {x : V} (h : (cutV (ns.map V.int) none (some 63))[i]? = some x) : ∃ z, x = .int z := by
  have hm := List.mem_of_getElem? h
  unfold cutV at hm
  obtain ⟨z, _, e⟩ := List.mem_map.mp (List.mem_of_mem_drop (List.mem_of_mem_take hm))
  exact ⟨z, e.symm⟩
theorem abs_nat (z : Int) : V.int (if z < 0 then -z else z) = natV z.natAbs := by
  show V.int _ = V.int _
  congr 1
  by_cases h : z < 0
  · rw [if_pos h]; omega
  · rw [if_neg h]; omega
theorem ok_urn (F : Fun K "_law_urn" "_law_urn" sUrn f fd) (T : Txt K mg) : FnOk P w K mg base CX0 1 f fd ["_law_script"] (spUrn K) := by
  refine F.ok scUrn (fun vs H Q E h => ?_) (fun cdv A outer s H vs Q E hr h => ?_)
  · obtain ⟨_, _, rfl, _⟩ := h; rfl
  obtain ⟨a, ns, rfl, ha, hs, q⟩ := h
  have nd := scUrn.nd
  have hu := hu_of hr
  refine ⟨_, pss_cons (ps_set (i := 1) nd rfl (Or.inl rfl) (pe_disp (pps_cons pe_str (pe_lst pa_nil) (pps_cons pe_str (pe_op op_add pe_int (pe_callB call_len_seq (by rfl) T.len PySem.boot_len (pa_cons (pe_slice sl_list (pv 0) po_none (po_some pe_int)) pa_nil))) pps_nil)) (by rfl) (by rfl) (fun z => by cases z) (by decide)))
    (pss_cons (ps_for PassesOwn.never rfl (pi_list (pe_slice sl_list (pv 0) po_none (po_some pe_int))) (pg_name (i := 2) nd rfl (Or.inl rfl))
      (pss_cons (ps_if (pt_cmpR op_ge (pe_callB call_abs (by rfl) T.abs (by decide +kernel) (pa_cons (pv 2) pa_nil)) (pe_op op_pow pe_int pe_int) (nomark _))
        (pss_one (ps_expr (pe_bm PySem.F.plainAttrs_list PySem.F.slot_list_append PySem.F.type_list_append mt_append (pe_dget hu (pv 1) pe_str (fun _ _ => rfl)) (pa_cons (pe_callB call_abs (by rfl) T.abs (by decide +kernel) (pa_cons (pv 2) pa_nil)) pa_nil)))) pss_nil)
      (pss_cons (ps_set (i := 3) nd rfl (Or.inl rfl) (pe_op op_add (pe_op op_mul pe_int (pe_callB call_abs (by rfl) T.abs (by decide +kernel) (pa_cons (pv 2) pa_nil))) (pe_callTy call_int1 (by rfl) T.int (by decide +kernel) (pa_cons (pe_cmpR op_lt (pv 2) pe_int (nomark _)) pa_nil))))
      (pss_one (ps_dput hu (pv 1) pe_str (pe_op op_mod (pe_callTy call_int1 (by rfl) T.int (by decide +kernel) (pa_cons (pe_op op_add (pe_op op_mul (pe_op op_add (pe_op op_add (pe_dget hu (pv 1) pe_str (fun _ _ => rfl)) (pv 3)) pe_int) pe_int) pe_int) pa_nil)) pe_int) rfl)))))
    (pss_one (ps_ret (pv 1)))), ?_⟩
  refine fun u hun => ⟨by show 0 ≤ sizeLine; decide, fun dl hdl => ⟨_, rfl, 63, rfl, ?_⟩⟩
  have hdu : dl ≠ u := fun e => by rw [e, upd_same] at hdl; cases hdl
  have s1 : Same H (upd H u (.dK [])) := same_new _ hun
  have s2 := s1.trans (same_new (.lst []) hdl)
  have hdl0 := new_old s1 hdl
  refine ⟨a, _, rfl, hs _ s2, fun p hp => ⟨p, _, rfl, .inl (SqL.of upd_same), (560821 : Int), _, rfl, rfl, ?_⟩⟩
  have hpu : p ≠ u := fun e => by rw [e, upd_ne hdu.symm, upd_same] at hp; cases hp
  have hpd : p ≠ dl := fun e => by rw [e, upd_same] at hp; cases hp
  generalize hxs : cutV (ns.map V.int) none (some 63) = xs at *
  have hx63 : xs.length ≤ 63 := by rw [← hxs]; exact cut63 _
  refine ⟨by rw [upd_ne hpu.symm, upd_ne hdu.symm]; exact upd_same, [(kDeep, V.ref dl), (kState, .int (560821 + (xs.length : Int)))], rfl, by show 2 ≤ 15; omega, ?_⟩
  have em : mergeK [] [(kDeep, V.ref dl), (kState, V.int (560821 + (xs.length : Int)))] = [(kDeep, V.ref dl), (kState, natV (560821 + xs.length))] := by
    have e1 : putK ([] : List (L2.Key × V)) kDeep (V.ref dl) = [(kDeep, V.ref dl)] := rfl
    have e2 : putK [(kDeep, V.ref dl)] kState (V.int (560821 + (xs.length : Int))) = [(kDeep, V.ref dl), (kState, natV (560821 + xs.length))] := by
      rw [putK_new _ (by rw [valV_neg keys_ne]; rfl)]
      rfl
    show putK (putK [] kDeep (V.ref dl)) kState _ = _
    rw [e1, e2]
  rw [em]
  have s3 : Same H (upd (upd (upd (upd H u (.dK [])) dl (.lst [])) p (.lst xs)) u (.dK [(kDeep, V.ref dl), (kState, natV (560821 + xs.length))])) := same_upd _ (s2.trans (same_new (.lst xs) hp)) hun
  have U0 : UrnIs (upd (upd (upd (upd H u (.dK [])) dl (.lst [])) p (.lst xs)) u (.dK [(kDeep, V.ref dl), (kState, natV (560821 + xs.length))])) u dl [] (560821 + xs.length) :=
    ⟨upd_same, by rw [upd_ne hdu, upd_ne hpd.symm, upd_same]; rfl, by simp, Nat.lt_of_le_of_lt (Nat.add_le_add_left hx63 _) (by decide)⟩
  generalize upd (upd (upd (upd H u (.dK [])) dl (.lst [])) p (.lst xs)) u (.dK [(kDeep, V.ref dl), (kState, natV (560821 + xs.length))]) = H0 at s3 U0
  refine ⟨_, rfl, 63, rfl, a, _, rfl, hs _ s3, fun p2 hp2 => ⟨p2, rfl, ⟨_, SqL.of upd_same⟩, ?_⟩⟩
  rw [hxs]
  have s4 := s3.trans (same_new (.lst xs) hp2)
  have hp2u : p2 ≠ u := fun e => by rw [e, U0.d] at hp2; cases hp2
  have hp2d : p2 ≠ dl := fun e => by rw [e, U0.l] at hp2; cases hp2
  refine for_list (xs := xs) (fun i σ H' => Same H H' ∧ H' p2 = some (.lst xs) ∧ ∃ ds st o2 o3, UrnIs H' u dl ds st ∧ ds.length ≤ i ∧ σ = [some (.ref a), some (.ref u), o2, o3])
    ⟨s4, upd_same, [], _, none, none, ⟨by rw [upd_ne hp2u.symm]; exact U0.d, by rw [upd_ne hp2d.symm]; exact U0.l, U0.few, U0.st⟩, Nat.le_refl _, rfl⟩ (fun i σ H' _ h => SqL.of h.2.1) (fun i x σ H1 hx h => ?_) fun σ H1 h => ?_
  · obtain ⟨sm, hp3, ds, st, o2, o3, U, hdsl, rfl⟩ := h
    have hil : i < xs.length := (List.getElem?_eq_some_iff.mp hx).1
    rw [← hxs] at hx
    obtain ⟨z, rfl⟩ := cut_int ns hx
    rw [hxs] at hx
    refine ⟨_, rfl, z, rfl, (10 : Int), (18 : Int), rfl, rfl, ⟨by decide, by decide, by decide⟩, _, _, rfl, rfl, _, rfl, ?_⟩
    have go : ∀ H2 ds2, Same H H2 → H2 p2 = some (.lst xs) → UrnIs H2 u dl ds2 st → ds2.length ≤ i + 1 → ∀ s3 : Nat, Same H (upd H2 u (.dK [(kDeep, .ref dl), (kState, natV s3)])) ∧ upd H2 u (.dK [(kDeep, .ref dl), (kState, natV s3)]) p2 = some (.lst xs) := fun H2 ds2 sm2 hp4 U2 _ s3 =>
      ⟨same_upd _ sm2 hun, by rw [upd_ne hp2u]; exact hp4⟩
    have rest : ∀ H2 ds2, Same H H2 → H2 p2 = some (.lst xs) → UrnIs H2 u dl ds2 st → ds2.length ≤ i + 1 → ∀ v : Int, ∃ s3 : Nat, v % 2305843009213693951 = (s3 : Int) ∧ (Same H (upd H2 u (.dK [(kDeep, .ref dl), (kState, natV s3)])) ∧ upd H2 u (.dK [(kDeep, .ref dl), (kState, natV s3)]) p2 = some (.lst xs) ∧ UrnIs (upd H2 u (.dK [(kDeep, .ref dl), (kState, natV s3)])) u dl ds2 s3) := fun H2 ds2 sm2 hp4 U2 hl2 v => by
      obtain ⟨s3, e3, h3⟩ := mod_nat (x := v) (m := 2305843009213693951) (by decide)
      refine ⟨s3, e3, (go H2 ds2 sm2 hp4 U2 hl2 s3).1, (go H2 ds2 sm2 hp4 U2 hl2 s3).2, U2.stored ?_⟩
      have : (2305843009213693951 : Nat) < 2 ^ 62 := by decide
      omega
    refine ite2 (fun c => ?_) fun c => ?_
    · refine ⟨_, rfl, u, _, rfl, U.deep, .inl ⟨rfl, _, SqL.of U.l⟩, _, rfl, z, rfl, dl, _, _, rfl, rfl, U.l, by rw [List.length_map, sizeLine_eq]; omega, ?_⟩
      rw [abs_nat]
      have ea : ds.map natV ++ [natV z.natAbs] = (ds ++ [z.natAbs]).map natV := by rw [List.map_append]; rfl
      rw [ea]
      have U2 := U.listed (ds' := ds ++ [z.natAbs]) (by simp; omega)
      refine ⟨_, rfl, z, rfl, (2 : Int), _, rfl, rfl, .inl ⟨by decide, by decide⟩, _, rfl, z, (0 : Int), rfl, rfl, .inr ⟨_, rfl, _, _, rfl, rfl, _, rfl, u, _, rfl, U2.state, _, rfl, _, _, rfl, rfl, _, _, rfl, rfl, _, _, rfl, rfl, .inr ⟨by decide, by decide⟩, _, _, rfl, rfl, .inl ⟨_, rfl, _, _, rfl, rfl, by show (0 : Int) < 2305843009213693951; decide, ?_⟩⟩⟩
      dsimp only
      obtain ⟨s3, e3, sa, sb, sc⟩ := rest _ (ds ++ [z.natAbs]) (same_upd _ sm hdl0) (by rw [upd_ne hp2d]; exact hp3) U2 (by simp; omega) _
      rw [e3]
      exact ⟨_, rfl, u, _, rfl, U2.put _, sa, sb, _, _, _, _, sc, by simp; omega, rfl⟩
    · refine ⟨_, rfl, z, rfl, (2 : Int), _, rfl, rfl, .inl ⟨by decide, by decide⟩, _, rfl, z, (0 : Int), rfl, rfl, .inr ⟨_, rfl, _, _, rfl, rfl, _, rfl, u, _, rfl, U.state, _, rfl, _, _, rfl, rfl, _, _, rfl, rfl, _, _, rfl, rfl, .inr ⟨by decide, by decide⟩, _, _, rfl, rfl, .inl ⟨_, rfl, _, _, rfl, rfl, by show (0 : Int) < 2305843009213693951; decide, ?_⟩⟩⟩
      dsimp only
      obtain ⟨s3, e3, sa, sb, sc⟩ := rest _ ds sm hp3 U (by omega) _
      rw [e3]
      exact ⟨_, rfl, u, _, rfl, U.put _, sa, sb, _, _, _, _, sc, by omega, rfl⟩
  · obtain ⟨sm, hp3, ds, st, o2, o3, U, hdsl, rfl⟩ := h
    exact ⟨_, rfl, q u dl _ ⟨ds, st, U⟩ sm hun hdl0⟩
end
end R
end
/-! ## W14 -/
section
set_option Elab.async false
set_option linter.all false
set_option maxRecDepth 100000
set_option maxHeartbeats 4000000
namespace R
open PySem PySem.Spec PyProof.Rows L2
theorem map_erase {α β : Type} (f : α → β) : ∀ (L : List α) (k : Nat), (L.eraseIdx k).map f = (L.map f).eraseIdx k
  | [], _ => rfl
  | _ :: _, 0 => rfl
  | a :: L, k + 1 => by
    show f a :: (L.eraseIdx k).map f = f a :: (L.map f).eraseIdx k
    rw [map_erase f L k]
theorem perm_erase {α : Type} : ∀ {L : List α} {k : Nat} {x : α}, L[k]? = some x → (x :: L.eraseIdx k).Perm L
  | [], _, _, h => by simp at h
  | a :: L, 0, x, h => by
    simp at h
    subst h
    exact .refl _
  | a :: L, k + 1, x, h => (List.Perm.swap a x _).trans (.cons a (perm_erase (L := L) (by simpa using h)))
section
variable {P : Program} {w : World} {K : PySem.W.Frag} {mg : Str → Option Value} {base : Heap} {f : Addr} {fd : FuncData}
/-! ### _law_mixed(urn, some) -/
abbrev sMixed : Stmt := top 37
def spMixed : Sp := fun vs H Q _ => ∃ (u dl a : Addr) (xs : List V) (prs : List (Nat × Nat)), vs = [.ref u, .ref a] ∧ UrnAt H u dl ∧ H a = some (.lst xs) ∧ Tps H xs (prs.map pairD) ∧ prs.length ≤ 1000 ∧
  ∀ (l : Addr) (ys : List V) (qs : List (Nat × Nat)) (H' : Hp), UrnAt H' u dl → Fr u dl H H' → H l = none → H' l = some (.lst ys) → Tps H' ys (qs.map pairD) → qs.Perm prs → Q (.ref l) H'
theorem scMixed : FnScope ["_law_urn_here", "_law_some", "_law_rest", "_law_found"] ["_law_urn_here", "_law_some"] (defScope sMixed) := ⟨rfl, rfl, rfl, by decide +kernel, rfl, by decide +kernel, by decide +kernel⟩
theorem ok_mixed (F : Fun K "_law_mixed" "_law_mixed" sMixed f fd) (T : Txt K mg) (cT : Cal P w K mg base 1 "_law_take" spTake) : FnOk P w K mg base CX0 2 f fd ["_law_urn_here", "_law_some"] spMixed := by
  refine F.ok scMixed (fun vs H Q E h => ?_) (fun cdv A outer s H vs Q E hr h => ?_)
  · obtain ⟨_, _, _, _, _, rfl, _⟩ := h; rfl
  obtain ⟨u, dl, a, xs, prs, rfl, hU, ha, hx, hlen, q⟩ := h
  have nd := scMixed.nd
  refine ⟨_, pss_cons (ps_par (i := 2) (j := 3) (by rfl) nd rfl rfl (by decide) rfl rfl (pa_cons (pe_callTy call_list_of (by rfl) T.list (by decide +kernel) (pa_cons (pv 1) pa_nil)) (pa_cons (pe_lst pa_nil) pa_nil)) (by rfl))
    (pss_cons (ps_while PassesOwn.never (pt_cmpR (op_neD hr.units) (pv 2) (pe_lst pa_nil) (nomark _))
      (pss_one (ps_expr (pe_bm PySem.F.plainAttrs_list PySem.F.slot_list_append PySem.F.type_list_append mt_append (pv 3) (pa_cons (pe_bm PySem.F.plainAttrs_list PySem.F.slot_list_pop PySem.F.type_list_pop mt_popAt (pv 2) (pa_cons (pe_c cT hr (by decide) (by rfl) (pa_cons (pv 0) (pa_cons (pe_callB call_len_seq (by rfl) T.len PySem.boot_len (pa_cons (pv 2) pa_nil)) pa_nil))) pa_nil)) pa_nil)))))
    (pss_one (ps_ret (pv 3)))), ?_⟩
  refine ⟨_, rfl, a, xs, rfl, .inl (SqL.of ha), fun r hr0 => ⟨by show 0 ≤ sizeLine; decide, fun g hg => ⟨_, _, rfl, ?_⟩⟩⟩
  have hgr : g ≠ r := fun e => (by rw [e, upd_same] at hg; cases hg)
  have s1 := same_new (.lst xs) hr0
  have s2 := s1.trans (same_new (.lst []) hg)
  have hg0 := new_old s1 hg
  have ur : ∀ {b}, H b = none → b ≠ u ∧ b ≠ dl := fun {b} hb => by
    obtain ⟨ds, st, U⟩ := hU
    exact ⟨fun e => (by rw [e, U.d] at hb; cases hb), fun e => (by rw [e, U.l] at hb; cases hb)⟩
  obtain ⟨hru, hrd⟩ := ur hr0
  obtain ⟨hgu, hgd⟩ := ur hg0
  refine ⟨fun m σ H' => ∃ xs' rs ys qs, σ = [some (.ref u), some (.ref a), some (.ref r), some (.ref g)] ∧ UrnAt H' u dl ∧ Fr u dl H H' ∧ H' r = some (.lst xs') ∧ Tps H' xs' (rs.map pairD) ∧ H' g = some (.lst ys) ∧ Tps H' ys (qs.map pairD) ∧ (rs ++ qs).Perm prs ∧ m = rs.length,
    ⟨_, xs, prs, [], [], rfl, hU.same s2, Same.fr s2, by rw [upd_ne hgr.symm, upd_same], Tps.mono (kt_same s2) hx, upd_same, .nil, by rw [List.append_nil], rfl⟩, ?_⟩
  rintro m σ H1 ⟨xs', rs, ys, qs, rfl, hU1, fr, h1, h2, h3, h4, perm, rfl⟩
  have lx : xs'.length = rs.length := by rw [Tps.length h2, List.length_map]
  have ly : ys.length = qs.length := by rw [Tps.length h4, List.length_map]
  have lp : rs.length + qs.length = prs.length := by rw [← perm.length_eq, List.length_append]
  refine ⟨_, rfl, by show 0 ≤ sizeLine; decide, fun z hz => ?_⟩
  have sz := same_new (.lst []) hz
  refine ⟨_, _, .lst (SqL.of (sz _ _ h1)) (Tps.dp (Tps.mono (kt_same sz) h2)), .lst (SqL.of upd_same) .nil, shaped_pairs rs, shaped_nats [], _, rfl, ?_⟩
  rw [eqv_nil]
  have hz0 : z ≠ u ∧ z ≠ dl ∧ z ≠ r ∧ z ≠ g := by
    obtain ⟨ds, st, U⟩ := hU1
    exact ⟨fun e => (by rw [e, U.d] at hz; cases hz), fun e => (by rw [e, U.l] at hz; cases hz), fun e => (by rw [e, h1] at hz; cases hz), fun e => (by rw [e, h3] at hz; cases hz)⟩
  cases rs with
  | nil =>
    refine iteF ?_
    exact ⟨_, rfl, q g ys qs _ (hU1.same sz) (fr.trans (Same.fr sz)) hg0 (sz _ _ h3) (Tps.mono (kt_same sz) h4) (by simpa using perm)⟩
  | cons p0 rs0 =>
    refine iteT ?_
    generalize hrs : p0 :: rs0 = rs at *
    have hpos : 0 < rs.length := by rw [← hrs]; simp
    refine ⟨fun σ' H' => ∃ xs' rs2 ys qs, σ' = [some (.ref u), some (.ref a), some (.ref r), some (.ref g)] ∧ UrnAt H' u dl ∧ Fr u dl H H' ∧ H' r = some (.lst xs') ∧ Tps H' xs' (rs2.map pairD) ∧ H' g = some (.lst ys) ∧ Tps H' ys (qs.map pairD) ∧ (rs2 ++ qs).Perm prs ∧ rs2.length < rs.length,
      fun σ' H' ⟨x1, x2, x3, x4, g1, g2, g3, g4, g5, g6, g7, g8, g9⟩ => ⟨_, g9, x1, x2, x3, x4, g1, g2, g3, g4, g5, g6, g7, g8, rfl⟩, ?_⟩
    refine ⟨_, rfl, .inl ⟨rfl, _, SqL.of (sz _ _ h3)⟩, _, rfl, .inl ⟨rfl, _, SqL.of (sz _ _ h1)⟩, _, rfl, _, rfl, r, xs', rfl, .inl (SqL.of (sz _ _ h1)), u, dl, xs'.length, rfl, hU1.same sz, by omega, fun k H2 k1 k2 hU2 f2 => ?_⟩
    have hk : k < rs.length := by
      rcases Nat.lt_or_ge xs'.length 2 with y | y
      · rw [k1 y]; exact hpos
      · rw [← lx]; exact k2 y
    have f3 := (Same.fr sz).trans f2
    have kt3 : KT H1 H2 := f3.kt hU1
    have h1' := f3 _ _ hru hrd h1
    have h3' := f3 _ _ hgu hgd h3
    have hkx : k < xs'.length := by omega
    refine ⟨r, xs', (k : Int), k, xs'[k], rfl, rfl, h1', by omega, by omega, by rw [(ixN_seq (n := xs'.length) (i := (k : Int)) (j := k) (by unfold ixN; rw [if_pos (by omega), if_pos (by omega)]; simp)).1], List.getElem?_eq_getElem hkx, ?_⟩
    have kr : KT H2 (upd H2 r (.lst (xs'.eraseIdx k))) := kt_lst _ h1'
    have h3'' : upd H2 r (.lst (xs'.eraseIdx k)) g = some (.lst ys) := by rw [upd_ne hgr]; exact h3'
    refine ⟨g, ys, _, rfl, rfl, h3'', by rw [sizeLine_eq]; omega, ?_⟩
    have kg : KT (upd H2 r (.lst (xs'.eraseIdx k))) (upd (upd H2 r (.lst (xs'.eraseIdx k))) g (.lst (ys ++ [xs'[k]]))) := kt_lst _ h3''
    have kA : KT H1 (upd (upd H2 r (.lst (xs'.eraseIdx k))) g (.lst (ys ++ [xs'[k]]))) := (kt3.trans kr).trans kg
    have t2 := Tps.mono kA h2
    obtain ⟨d, hd, td⟩ := Tps.get t2 (List.getElem?_eq_getElem hkx)
    rw [List.getElem?_map] at hd
    obtain ⟨p, hp, rfl⟩ := Option.map_eq_some_iff.mp hd
    refine ⟨xs'.eraseIdx k, rs.eraseIdx k, ys ++ [xs'[k]], qs ++ [p], rfl, ?_, fun b o hb1 hb2 hb3 => ?_, by rw [upd_ne hgr.symm, upd_same], ?_, upd_same, ?_, ?_, ?_⟩
    · obtain ⟨ds, st, U⟩ := hU2
      exact ⟨ds, st, by rw [upd_ne hgu.symm, upd_ne hru.symm]; exact U.d, by rw [upd_ne hgd.symm, upd_ne hrd.symm]; exact U.l, U.few, U.st⟩
    · have hbr : b ≠ r := ne_of_none hb3 hr0
      have hbg : b ≠ g := ne_of_none hb3 hg0
      rw [upd_ne hbg, upd_ne hbr]
      exact (fr.trans f3) b o hb1 hb2 hb3
    · rw [map_erase]; exact Tps.erase k t2
    · rw [List.map_append]; exact Tps.snoc (Tps.mono kA h4) td
    · refine List.Perm.trans ?_ perm
      have e := List.getElem?_eq_some_iff.mp hp
      obtain ⟨hkl, e⟩ := e
      have hperm : (p :: rs.eraseIdx k).Perm rs := perm_erase hp
      have h5 : (rs.eraseIdx k ++ (qs ++ [p])).Perm (p :: rs.eraseIdx k ++ qs) := by
        rw [← List.append_assoc]
        exact List.perm_append_comm.trans (by simp)
      exact h5.trans (hperm.append_right qs)
    · rw [List.length_eraseIdx, if_pos hk]; omega
/-! ### _law_web(urn, many, more) -/
abbrev sWeb : Stmt := top 38
def spWeb : Sp := fun vs H Q _ => ∃ (u dl : Addr) (many more : Nat), vs = [.ref u, natV many, natV more] ∧ UrnAt H u dl ∧ 1 ≤ many ∧ many ≤ 50 ∧ more ≤ 20 ∧
  ∀ l ts H', UrnAt H' u dl → Fr u dl H H' → Tp H' l (webD many ts) → BE.Web many ts → ts.length ≤ many - 1 + more → Q l H'
theorem scWeb : FnScope ["_law_urn_here", "_law_many", "_law_more", "_law_ties", "_law_place", "_law_turn", "_law_one", "_law_two"] ["_law_urn_here", "_law_many", "_law_more"] (defScope sWeb) := ⟨rfl, rfl, rfl, by decide +kernel, rfl, by decide +kernel, by decide +kernel⟩
theorem ok_web (F : Fun K "_law_web" "_law_web" sWeb f fd) (T : Txt K mg) (cT : Cal P w K mg base 1 "_law_take" spTake) (cM : Cal P w K mg base 2 "_law_mixed" spMixed) : FnOk P w K mg base CX0 3 f fd ["_law_urn_here", "_law_many", "_law_more"] spWeb := by
  refine F.ok scWeb (fun vs H Q E h => ?_) (fun cdv A outer s H vs Q E hr h => ?_)
  · obtain ⟨_, _, _, _, rfl, _⟩ := h; rfl
  obtain ⟨u, dl, many, more, rfl, hU, hm1, hm2, hmo, q⟩ := h
  have nd := scWeb.nd
  refine ⟨_, pss_cons (ps_set (i := 3) nd rfl (Or.inl rfl) (pe_lst pa_nil))
    (pss_cons (ps_for PassesOwn.never rfl (pi_range2 (by rfl) T.range (pa_cons pe_int (pa_cons (pv 1) pa_nil))) (pg_name (i := 4) nd rfl (Or.inl rfl))
      (pss_one (ps_expr (pe_bm PySem.F.plainAttrs_list PySem.F.slot_list_append PySem.F.type_list_append mt_append (pv 3) (pa_cons (pe_tup (pa_cons (pe_c cT hr (by decide) (by rfl) (pa_cons (pv 0) (pa_cons (pv 4) pa_nil))) (pa_cons (pv 4) pa_nil))) pa_nil)))))
    (pss_cons (ps_for PassesOwn.never rfl (pi_range1 (by rfl) T.range (pa_cons (pe_ifExp (pt_cmpR op_gtN (pv 1) pe_int (nomark _)) (pv 2) pe_int) pa_nil)) (pg_name (i := 5) nd rfl (Or.inl rfl))
      (pss_cons (ps_set (i := 6) nd rfl (Or.inl rfl) (pe_c cT hr (by decide) (by rfl) (pa_cons (pv 0) (pa_cons (pv 1) pa_nil))))
      (pss_cons (ps_set (i := 7) nd rfl (Or.inl rfl) (pe_op op_modN' (pe_callTy call_int1 (by rfl) T.int (by decide +kernel) (pa_cons (pe_op op_addN (pe_op op_addN (pv 6) pe_int) (pe_c cT hr (by decide) (by rfl) (pa_cons (pv 0) (pa_cons (pe_op op_subN (pv 1) pe_int) pa_nil)))) pa_nil)) (pv 1)))
      (pss_one (ps_expr (pe_bm PySem.F.plainAttrs_list PySem.F.slot_list_append PySem.F.type_list_append mt_append (pv 3) (pa_cons (pe_tup (pa_cons (pe_callB (call_min2 rfl) (by rfl) T.min (by decide +kernel) (pa_cons (pv 6) (pa_cons (pv 7) pa_nil))) (pa_cons (pe_callB (call_max2 rfl) (by rfl) T.max (by decide +kernel) (pa_cons (pv 6) (pa_cons (pv 7) pa_nil))) pa_nil))) pa_nil)))))))
    (pss_one (ps_ret (pe_tup (pa_cons (pv 1) (pa_cons (pe_callTy call_tuple_of (by rfl) T.tuple (by decide +kernel) (pa_cons (pe_c cM hr (by decide) (by rfl) (pa_cons (pv 0) (pa_cons (pv 3) pa_nil))) pa_nil)) pa_nil))))))), ?_⟩
  refine ⟨by show 0 ≤ sizeLine; decide, fun p hp => ?_⟩
  have s0 := same_new (.lst []) hp
  have ur : p ≠ u ∧ p ≠ dl := by
    obtain ⟨ds, st, U⟩ := hU
    exact ⟨fun e => (by rw [e, U.d] at hp; cases hp), fun e => (by rw [e, U.l] at hp; cases hp)⟩
  have hUp : ∀ {H' : Hp} {o : HO}, UrnAt H' u dl → UrnAt (upd H' p o) u dl := fun {H' o} h => by
    obtain ⟨ds, st, U⟩ := h
    exact ⟨ds, st, by rw [upd_ne ur.1.symm]; exact U.d, by rw [upd_ne ur.2.symm]; exact U.l, U.few, U.st⟩
  have frp : ∀ {H' : Hp} {o : HO}, Fr u dl H H' → Fr u dl H (upd H' p o) := fun {H' o} h b ob h1 h2 h3 => by
    rw [upd_ne (ne_of_none h3 hp)]
    exact h b ob h1 h2 h3
  refine ⟨_, rfl, 1, (many : Int), rfl, ⟨by decide, by decide, by omega, by omega⟩, ?_⟩
  refine for_it (n := ((many : Int) - 1).toNat) walk_range1N (fun i σ H' => UrnAt H' u dl ∧ Fr u dl H H' ∧ ∃ xs prs, H' p = some (.lst xs) ∧ Tps H' xs (prs.map pairD) ∧ prs.length = i ∧ (∀ t ∈ prs, t.1 < t.2 ∧ t.2 < many) ∧ (∀ q, 1 ≤ q → q ≤ i → ∃ t ∈ prs, t.1 < t.2 ∧ t.2 = q) ∧ ∃ o4 o5 o6 o7, σ = [some (.ref u), some (natV many), some (natV more), some (.ref p), o4, o5, o6, o7])
    ⟨hU.same s0, Same.fr s0, [], [], upd_same, .nil, rfl, fun t ht => by (cases ht), fun q h1 h2 => absurd h1 (by omega), none, none, none, none, rfl⟩ (fun _ _ _ _ _ => trivial) (fun i x σ H1 H2 hi h y => ?_) fun σ H1 h => ?_
  · obtain ⟨hU1, fr, xs, prs, hx, tx, hl, hok, hall, o4, o5, o6, o7, rfl⟩ := h
    obtain ⟨rfl, rfl⟩ := y
    refine ⟨_, rfl, .inl ⟨rfl, _, SqL.of hx⟩, _, rfl, _, rfl, u, dl, i + 1, rfl, hU1, by omega, fun k H3 k1 k2 hU3 f3 => ⟨_, rfl, by show 2 ≤ sizeLine; decide, fun z hz => ?_⟩⟩
    have hki : k < i + 1 := by
      rcases Nat.lt_or_ge (i + 1) 2 with y | y
      · rw [k1 y]; omega
      · exact k2 y
    have sz := same_new (.tup [natV k, natV (i + 1)]) hz
    have kt := (f3.kt hU1).trans (kt_same sz)
    have hx3 := sz _ _ (f3 _ _ ur.1 ur.2 hx)
    refine ⟨p, xs, _, rfl, rfl, hx3, by rw [Tps.length tx, List.length_map, sizeLine_eq]; omega, ?_⟩
    refine ⟨hUp (hU3.same sz), frp ((fr.trans f3).trans (Same.fr sz)), xs ++ [.ref z], prs ++ [(k, i + 1)], upd_same, ?_, by rw [List.length_append, hl]; rfl, fun t ht => ?_, fun q h1 h2 => ?_, _, _, _, _, rfl⟩
    · rw [List.map_append]
      exact Tps.snoc (Tps.mono (kt.trans (kt_lst _ hx3)) tx) ((pair_tp (t := (k, i + 1)) upd_same).mono (kt_lst _ hx3))
    · rcases List.mem_append.mp ht with g | g
      · exact hok t g
      · rw [List.mem_singleton.mp g]
        exact ⟨hki, by show i + 1 < many; omega⟩
    · rcases Nat.lt_or_ge i q with g | g
      · exact ⟨(k, i + 1), by simp, hki, by show i + 1 = q; omega⟩
      · obtain ⟨t, ht, e⟩ := hall q h1 g
        exact ⟨t, List.mem_append_left _ ht, e⟩
  · obtain ⟨hU1, fr, xs, prs, hx, tx, hl, hok, hall, o4, o5, o6, o7, rfl⟩ := h
    refine ⟨_, rfl, _, 1, rfl, rfl, trivial, _, rfl, ?_⟩
    have hall2 : ∀ q, 1 ≤ q → q < many → ∃ t ∈ prs, t.1 < t.2 ∧ t.2 = q := fun q h1 h2 => hall q h1 (by omega)
    refine ite2 (fun c => ⟨_, rfl, (more : Int), rfl, by omega, by omega, ?_⟩) fun c => ⟨(0 : Int), rfl, by decide, by decide, ?_⟩
    all_goals
      refine for_it walk_rangeN (fun i σ H' => UrnAt H' u dl ∧ Fr u dl H H' ∧ ∃ xs prs, H' p = some (.lst xs) ∧ Tps H' xs (prs.map pairD) ∧ prs.length = many - 1 + i ∧ (∀ t ∈ prs, t.1 < t.2 ∧ t.2 < many) ∧ (∀ q, 1 ≤ q → q < many → ∃ t ∈ prs, t.1 < t.2 ∧ t.2 = q) ∧ ∃ o4 o5 o6 o7, σ = [some (.ref u), some (natV many), some (natV more), some (.ref p), o4, o5, o6, o7])
        ⟨hU1, fr, xs, prs, hx, tx, by omega, hok, hall2, _, _, _, _, rfl⟩ (fun _ _ _ _ _ => trivial) (fun i x σ H1 H2 hi h y => ?_) fun σ H1 h => ?_
    case refine_1.refine_1 | refine_2.refine_1 =>
      have h2m : 2 ≤ many ∧ i < more := by
        first
          | (have := of_decide_eq_true c; exact ⟨by omega, by omega⟩)
          | (exfalso; simp at hi)
      obtain ⟨hU1, fr, xs, prs, hx, tx, hl, hok, hall, o4, o5, o6, o7, rfl⟩ := h
      obtain ⟨rfl, rfl⟩ := y
      refine ⟨_, rfl, _, rfl, u, dl, many, rfl, hU1, by omega, fun one H3 k1 k2 hU3 f3 => ?_⟩
      have h1o := k2 h2m.1
      refine ⟨_, rfl, _, 1, rfl, rfl, trivial, _, rfl, _, rfl, _, 1, rfl, rfl, by omega, u, dl, many - 1, rfl, hU3, by omega, fun k H4 k3 k4 hU4 f4 => ?_⟩
      have hk : k + 1 < many := by
        rcases Nat.lt_or_ge (many - 1) 2 with y | y
        · rw [k3 y]; omega
        · have := k4 y; omega
      refine ⟨_, k, rfl, rfl, trivial, .inl ⟨_, rfl, _, rfl, one + 1 + k, many, rfl, rfl, by omega, ?_⟩⟩
      have hx4 := f4 _ _ ur.1 ur.2 (f3 _ _ ur.1 ur.2 hx)
      dsimp only
      generalize htwo : (one + 1 + k) % many = two
      have h2o : two < many := by rw [← htwo]; exact Nat.mod_lt _ (by omega)
      have hne : two ≠ one := by rw [← htwo]; exact BE.two_ne h1o hk
      refine ⟨_, rfl, .inl ⟨rfl, _, SqL.of hx4⟩, _, rfl, _, rfl, _, _, rfl, _, rfl, _, rfl, _, _, rfl, by show 2 ≤ sizeLine; decide, fun z hz => ?_⟩
      have eMin : (V.int (if (two : Int) < (one : Int) then (two : Int) else (one : Int))) = natV (min one two) := by
        show V.int _ = V.int _
        congr 1
        by_cases c : (two : Int) < (one : Int)
        · rw [if_pos c]; omega
        · rw [if_neg c]; omega
      have eMax : (V.int (if (two : Int) > (one : Int) then (two : Int) else (one : Int))) = natV (max one two) := by
        show V.int _ = V.int _
        congr 1
        by_cases c : (two : Int) > (one : Int)
        · rw [if_pos c]; omega
        · rw [if_neg c]; omega
      rw [eMin, eMax]
      have sz := same_new (.tup [natV (min one two), natV (max one two)]) hz
      have f5 := (f3.trans f4).trans (Same.fr sz)
      have kt := ((f3.kt hU1).trans (f4.kt hU3)).trans (kt_same sz)
      have hx5 := sz _ _ hx4
      refine ⟨p, xs, _, rfl, rfl, hx5, by rw [Tps.length tx, List.length_map, sizeLine_eq]; omega, ?_⟩
      refine ⟨hUp (hU4.same sz), frp (fr.trans f5), xs ++ [.ref z], prs ++ [(min one two, max one two)], upd_same, ?_, by rw [List.length_append, hl]; rfl, fun t ht => ?_, fun q h1 h2 => ?_, _, _, _, _, rfl⟩
      · rw [List.map_append]
        exact Tps.snoc (Tps.mono (kt.trans (kt_lst _ hx5)) tx) ((pair_tp (t := (min one two, max one two)) upd_same).mono (kt_lst _ hx5))
      · rcases List.mem_append.mp ht with g | g
        · exact hok t g
        · rw [List.mem_singleton.mp g]
          exact ⟨by show min one two < max one two; omega, by show max one two < many; omega⟩
      · obtain ⟨t, ht, e⟩ := hall q h1 h2
        exact ⟨t, List.mem_append_left _ ht, e⟩
    case refine_1.refine_2 | refine_2.refine_2 =>
      obtain ⟨hU1, fr, xs, prs, hx, tx, hl, hok, hall, o4, o5, o6, o7, rfl⟩ := h
      have hl2 : prs.length ≤ many - 1 + more := by
        first
          | (rw [hl]; omega)
          | (rw [hl]; simp)
      refine ⟨_, rfl, _, rfl, _, rfl, u, dl, p, xs, prs, rfl, hU1, hx, tx, by omega, fun l ys qs H3 hU3 f3 _ hy ty perm => ⟨l, ys, rfl, .inl ⟨SqL.of hy, fun z hz => ⟨by show 2 ≤ sizeLine; decide, fun z2 hz2 => ?_⟩⟩⟩⟩
      have sz := same_new (.tup ys) hz
      have sz2 := same_new (.tup [natV many, .ref z]) hz2
      refine q _ qs _ (hU3.same (sz.trans sz2)) ((fr.trans f3).trans (Same.fr (sz.trans sz2))) (.tup upd_same (.cons (.int _) (.cons (.tup (sz2 _ _ upd_same) (Tps.mono (kt_same (sz.trans sz2)) ty)) .nil))) ?_ (by rw [perm.length_eq]; exact hl2)
      refine BE.web_of hm1 (fun t ht => hok t (perm.mem_iff.mp ht)) fun q h1 h2 => ?_
      obtain ⟨t, ht, e⟩ := hall q h1 h2
      exact ⟨t, perm.mem_iff.mpr ht, e⟩
end
end R
end
/-! ## W15 -/
section
set_option Elab.async false
set_option linter.all false
set_option maxRecDepth 100000
set_option maxHeartbeats 4000000
namespace R
open PySem PySem.Spec PyProof.Rows L2
theorem op_orN {X : Cx} : OpR X (binaryOp .BitOr) (rN (fun _ _ => True) fun a b => natV (a ||| b)) := by
  intro pins s σ H x y v u Q I rx ry h
  obtain ⟨a, b, rfl, rfl, _, q⟩ := h
  refine op_or pins s σ H _ _ v u Q I rx ry ⟨_, _, rfl, rfl, ?_⟩
  have e : V.int (Builtin.bitOr (a : Int) (b : Int)) = natV (a ||| b) := by
    rw [bitOr_nn (by omega) (by omega), Int.toNat_natCast, Int.toNat_natCast]; rfl
  dsimp only
  rw [e]
  exact q
theorem ixn_at {n j : Nat} (hj : j < n) : ixN n (j : Int) = some j := by
  unfold ixN
  rw [if_pos (by omega), if_pos (by omega), Int.toNat_natCast]
theorem op_fdivNN {X : Cx} : OpR X (binaryOp .FloorDiv) (rN (fun _ b => 0 < b ∧ b < 1000000) fun a b => natV (a / b)) := by
  intro pins s σ H x y v u Q I rx ry h
  obtain ⟨a, b, rfl, rfl, ⟨h1, h2⟩, q⟩ := h
  exact op_fdiv pins s σ H _ _ v u Q I rx ry ⟨_, _, rfl, rfl, ⟨by omega, by omega⟩, q⟩
section
variable {P : Program} {w : World} {K : PySem.W.Frag} {mg : Str → Option Value} {base : Heap} {f : Addr} {fd : FuncData}
/-! ### _law_lot(mask) -/
abbrev sLot : Stmt := top 39
def spLot : Sp := fun vs H Q _ => ∃ (x m : Nat), vs = [natV x] ∧ x < 2 ^ m ∧ m ≤ 100 ∧ ∀ l H', Same H H' → Tp H' l (lotD (BE.maskLot m x)) → Q l H'
theorem scLot : FnScope ["_law_mask", "_law_found", "_law_rest", "_law_k"] ["_law_mask"] (defScope sLot) := ⟨rfl, rfl, rfl, by decide +kernel, rfl, by decide +kernel, by decide +kernel⟩
theorem ok_lot (F : Fun K "_law_lot" "_law_lot" sLot f fd) (T : Txt K mg) : FnOk P w K mg base CX0 1 f fd ["_law_mask"] spLot := by
  refine F.ok scLot (fun vs H Q E h => ?_) (fun cdv A outer s H vs Q E hr h => ?_)
  · obtain ⟨_, _, rfl, _⟩ := h; rfl
  obtain ⟨x, m, rfl, hx, hm, q⟩ := h
  have nd := scLot.nd
  refine ⟨_, pss_cons (ps_par3 (i := 1) (j := 2) (l := 3) (by rfl) nd rfl rfl rfl (by decide) (by decide) (by decide) rfl rfl rfl (pa_cons (pe_lst pa_nil) (pa_cons (pv 0) (pa_cons pe_int pa_nil))) (by rfl))
    (pss_cons (ps_while PassesOwn.never (pt_cmpR op_gtN (pv 2) pe_int (nomark _))
      (pss_cons (ps_if (pt_cmpR op_eqN (pe_op op_modN' (pe_callTy call_int1 (by rfl) T.int (by decide +kernel) (pa_cons (pv 2) pa_nil)) pe_int) pe_int (nomark _)) (pss_one (ps_expr (pe_bm PySem.F.plainAttrs_list PySem.F.slot_list_append PySem.F.type_list_append mt_append (pv 1) (pa_cons (pv 3) pa_nil)))) pss_nil)
      (pss_one (ps_par (i := 2) (j := 3) (by rfl) nd rfl rfl (by decide) rfl rfl (pa_cons (pe_op op_fdivNN (pv 2) pe_int) (pa_cons (pe_op op_addN (pv 3) pe_int) pa_nil)) (by rfl)))))
    (pss_one (ps_ret (pe_callTy call_tuple_of (by rfl) T.tuple (by decide +kernel) (pa_cons (pv 1) pa_nil))))), ?_⟩
  refine ⟨by show 0 ≤ sizeLine; decide, fun p hp => ⟨_, rfl, _, _, _, rfl, ?_⟩⟩
  refine ⟨fun c σ H' => ∃ k, σ = [some (natV x), some (.ref p), some (natV (x / 2 ^ k)), some (natV k)] ∧ Same H H' ∧ H' p = some (.lst (((List.range k).filter fun j => x.testBit j).map natV)) ∧ k ≤ m ∧ c = m - k,
    ⟨_, 0, by rw [Nat.pow_zero, Nat.div_one]; rfl, same_new _ hp, upd_same, Nat.zero_le _, rfl⟩, ?_⟩
  rintro c σ H1 ⟨k, rfl, sm, hp1, hk, rfl⟩
  refine ⟨_, rfl, _, 0, rfl, rfl, trivial, _, rfl, ?_⟩
  refine ite2 (fun c => ?_) fun c => ?_
  · have c1 : 0 < x / 2 ^ k := of_decide_eq_true c
    have hkm : k < m := by
      rcases Nat.lt_or_ge k m with z | z
      · exact z
      · have h1 : x < 2 ^ k := Nat.lt_of_lt_of_le hx (Nat.pow_le_pow_right (by omega) z)
        rw [Nat.div_eq_of_lt h1] at c1
        omega
    refine ⟨fun σ' H' => σ' = [some (natV x), some (.ref p), some (natV (x / 2 ^ (k + 1))), some (natV (k + 1))] ∧ Same H H' ∧ H' p = some (.lst (((List.range (k + 1)).filter fun j => x.testBit j).map natV)), fun σ' H' ⟨g1, g2, g3⟩ => ⟨m - (k + 1), by omega, k + 1, g1, g2, g3, hkm, rfl⟩, ?_⟩
    refine ⟨_, rfl, .inl ⟨_, rfl, x / 2 ^ k, 2, rfl, rfl, by omega, _, 1, rfl, rfl, trivial, _, rfl, ?_⟩⟩
    have et : decide (x / 2 ^ k % 2 = 1) = x.testBit k := Nat.testBit_eq_decide_div_mod_eq.symm
    rw [et]
    have ed : x / 2 ^ k / 2 = x / 2 ^ (k + 1) := by rw [Nat.div_div_eq_div_mul, Nat.pow_succ]
    have ef : (List.range (k + 1)).filter (fun j => x.testBit j) = (List.range k).filter (fun j => x.testBit j) ++ if x.testBit k then [k] else [] := by
      rw [List.range_succ, List.filter_append, List.filter_cons, List.filter_nil]
    refine ite2 (fun cc => ?_) fun cc => ?_
    · refine ⟨_, rfl, .inl ⟨rfl, _, SqL.of hp1⟩, _, rfl, p, _, _, rfl, rfl, hp1, ?_, ?_⟩
      · have := List.length_filter_le (fun j => x.testBit j) (List.range k)
        rw [List.length_range] at this
        rw [List.length_map, sizeLine_eq]; omega
      · refine ⟨_, rfl, _, 2, rfl, rfl, ⟨by omega, by omega⟩, _, rfl, _, 1, rfl, rfl, trivial, _, _, rfl, ?_, same_upd _ sm hp, ?_⟩
        · rw [← ed]; rfl
        · rw [upd_same, ef, if_pos cc, List.map_append]; rfl
    · refine ⟨_, rfl, _, 2, rfl, rfl, ⟨by omega, by omega⟩, _, rfl, _, 1, rfl, rfl, trivial, _, _, rfl, ?_, sm, ?_⟩
      · rw [← ed]; rfl
      · rw [ef, if_neg cc, List.append_nil]; exact hp1
  · have c1 : x / 2 ^ k = 0 := by
      have : ¬ 0 < x / 2 ^ k := fun z => c (decide_eq_true z)
      exact Nat.eq_zero_of_not_pos this
    have hz : ∀ j, k ≤ j → x.testBit j = false := fun j hj => BE.testBit_of_lt (t := k) (by
      rcases Nat.lt_or_ge x (2 ^ k) with z | z
      · exact z
      · have := Nat.div_pos z (Nat.two_pow_pos k)
        omega) hj
    refine ⟨_, rfl, p, _, rfl, .inl ⟨SqL.of hp1, fun z hz2 => q _ _ (same_upd _ sm (new_old sm hz2)) ?_⟩⟩
    unfold BE.maskLot
    rw [BE.filter_more hk hz]
    exact lot_tp upd_same
/-! ### _law_row(mask, many), _law_power(many) -/
abbrev sRow : Stmt := top 44
def spRow : Sp := fun vs H Q _ => ∃ (x m : Nat), vs = [natV x, natV m] ∧ m ≤ 100 ∧ ∀ l H', Same H H' → Tp H' l (lotD (BE.rowOf m x)) → Q l H'
theorem scRow : FnScope ["_law_mask", "_law_many", "_law_k"] ["_law_mask", "_law_many"] (defScope sRow) := ⟨rfl, rfl, rfl, by decide +kernel, rfl, by decide +kernel, by decide +kernel⟩
theorem ok_row (F : Fun K "_law_row" "_law_row" sRow f fd) (T : Txt K mg) : FnOk P w K mg base CX0 1 f fd ["_law_mask", "_law_many"] spRow := by
  refine F.ok scRow (fun vs H Q E h => ?_) (fun cdv A outer s H vs Q E hr h => ?_)
  · obtain ⟨_, _, rfl, _⟩ := h; rfl
  obtain ⟨x, m, rfl, hm, q⟩ := h
  have nd := scRow.nd
  refine ⟨_, pss_one (ps_ret (pe_callTy call_tuple_of (by rfl) T.tuple (by decide +kernel) (pa_cons (pe_lc (own := [("_law_k", 2)]) (g := gName 2) (by rfl) nd (pi_range1 (by rfl) T.range (pa_cons (pv 1) pa_nil)) (blkOk_by (own := [("_law_k", 2)]) (N := ["_law_mask", "_law_many", "_law_k"]) (sc := defScope sRow) (by decide +kernel))
    (fun _ _ _ _ _ => pg_name (i := 2) nd rfl (Or.inl rfl)) (fun _ _ _ _ _ => pts_nil) (fun _ _ _ _ _ => pe_callTy call_int1 (by rfl) T.int (by decide +kernel) (pa_cons (pe_op op_andN (pe_op op_shrNN (pv 0) (pv 2)) pe_int) pa_nil))) pa_nil))), ?_⟩
  refine ⟨_, rfl, (m : Int), rfl, by omega, by omega, fun D hD => ?_⟩
  refine lc_tp (g := gName 2) (tt := tYes) (vs := [2]) walk_rangeN hD (by rw [sizeLine_eq]; omega) (fun i => ((List.range i).map fun k => x / 2 ^ k % 2).map natD) rfl (fun H s => trivial) (fun i y Ha Hb N M hi s _ yl hN hM => ?_) fun Ha ys s e tp => ?_
  · obtain ⟨rfl, rfl⟩ := yl
    refine ⟨rfl, kept ⟨_, rfl, _, rfl, _, _, rfl, rfl, trivial, _, 1, rfl, rfl, trivial, .inl ⟨_, rfl, hN _ _ (natD (x / 2 ^ i % 2)) (Same.refl _) ?_ ?_⟩⟩⟩
    · show Tp _ (natV ((x / 2 ^ i) &&& 1)) _
      rw [Nat.and_one_is_mod]
      exact .int _
    · show List.map natD _ = _
      rw [List.range_succ, List.map_append, List.map_append]
      rfl
  · rw [Int.toNat_natCast] at tp
    have e2 : ys = (BE.rowOf m x).map natV := tps_nats tp
    subst e2
    exact ⟨D, _, rfl, .inl ⟨SqL.of e, fun z hz => q _ _ (same_upd _ s (new_old s hz)) (lot_tp upd_same)⟩⟩
abbrev sPower : Stmt := top 47
def spPower : Sp := fun vs H Q _ => ∃ m : Nat, vs = [natV m] ∧ m ≤ 100 ∧ Q (natV (2 ^ m)) H
theorem scPower : FnScope ["_law_many", "_law_found", "_law_turn"] ["_law_many"] (defScope sPower) := ⟨rfl, rfl, rfl, by decide +kernel, rfl, by decide +kernel, by decide +kernel⟩
theorem ok_power (F : Fun K "_law_power" "_law_power" sPower f fd) (T : Txt K mg) : FnOk P w K mg base CX0 1 f fd ["_law_many"] spPower := by
  refine F.ok scPower (fun vs H Q E h => ?_) (fun cdv A outer s H vs Q E hr h => ?_)
  · obtain ⟨_, rfl, _⟩ := h; rfl
  obtain ⟨m, rfl, hm, q⟩ := h
  have nd := scPower.nd
  refine ⟨_, pss_cons (ps_set (i := 1) nd rfl (Or.inl rfl) pe_int) (pss_cons (ps_for PassesOwn.never rfl (pi_range1 (by rfl) T.range (pa_cons (pv 0) pa_nil)) (pg_name (i := 2) nd rfl (Or.inl rfl))
    (pss_one (ps_set (i := 1) nd rfl (Or.inl rfl) (pe_op op_mulN pe_int (pv 1))))) (pss_one (ps_ret (pv 1)))), ?_⟩
  refine ⟨_, rfl, (m : Int), rfl, by omega, by omega, ?_⟩
  refine for_it walk_rangeN (fun i σ H' => H' = H ∧ ∃ o, σ = [some (natV m), some (natV (2 ^ i)), o]) ⟨rfl, none, rfl⟩ (fun _ _ _ _ _ => trivial) (fun i x σ H1 H2 hi h y => ?_) fun σ H1 h => ?_
  · obtain ⟨rfl, o, rfl⟩ := h
    obtain ⟨rfl, rfl⟩ := y
    refine ⟨_, rfl, 2, _, rfl, rfl, by omega, rfl, ?_⟩
    rw [Nat.pow_succ, Nat.mul_comm]
    exact ⟨_, rfl⟩
  · obtain ⟨rfl, o, rfl⟩ := h
    rw [Int.toNat_natCast]
    exact ⟨_, rfl, q⟩
/-! ### _law_stars(web) -/
abbrev sStars : Stmt := top 40
def mst (ts : BE.Ties) (p : Nat) : Nat := BE.rv ts.length (BE.star ts p)
theorem mst_bit (ts : BE.Ties) (p k : Nat) : (mst ts p).testBit k = (decide (k < ts.length) && BE.inc ts k p) := by
  unfold mst
  rcases Nat.lt_or_ge k ts.length with z | z
  · rw [BE.rv_tb z, decide_eq_true z, Bool.true_and, ← BE.star_sel z]
    rfl
  · rw [BE.testBit_of_lt (BE.rv_lt _ _) z, decide_eq_false (by omega), Bool.false_and]
def spStars : Sp := fun vs H Q _ => ∃ (v : V) (n : Nat) (ts : BE.Ties), vs = [v] ∧ Tp H v (webD n ts) ∧ Wk n ts ∧ ∀ l H', Same H H' → H' l = some (.lst (((List.range n).map (mst ts)).map natV)) → Q (.ref l) H'
theorem scStars : FnScope ["_law_web_here", "_law_found", "_law_k", "_law_one", "_law_two"] ["_law_web_here"] (defScope sStars) := ⟨rfl, rfl, rfl, by decide +kernel, rfl, by decide +kernel, by decide +kernel⟩
theorem or_pow (x k j : Nat) : (x ||| 2 ^ k).testBit j = (x.testBit j || decide (j = k)) := by
  rw [Nat.testBit_or, Nat.testBit_two_pow]
  congr 1
  exact decide_eq_decide.mpr eq_comm
theorem set_getD (L : List Nat) (i j v : Nat) (hi : i < L.length) : (L.set i v).getD j 0 = if i = j then v else L.getD j 0 := by
  simp only [List.getD, List.getElem?_set]
  by_cases h : i = j
  · subst h; simp [hi]
  · simp [h]
theorem map_set {α β : Type} (f : α → β) : ∀ (L : List α) (i : Nat) (v : α), (L.map f).set i (f v) = (L.set i v).map f
  | [], _, _ => rfl
  | _ :: _, 0, _ => rfl
  | a :: L, i + 1, v => by
    show f a :: (L.map f).set i (f v) = f a :: (L.set i v).map f
    rw [map_set f L i v]
theorem ok_stars (F : Fun K "_law_stars" "_law_stars" sStars f fd) (T : Txt K mg) : FnOk P w K mg base CX0 1 f fd ["_law_web_here"] spStars := by
  refine F.ok scStars (fun vs H Q E h => ?_) (fun cdv A outer s H vs Q E hr h => ?_)
  · obtain ⟨_, _, _, rfl, _⟩ := h; rfl
  obtain ⟨v, n, ts, rfl, hw, wk, q⟩ := h
  obtain ⟨a, t, rs, W⟩ := web_inv hw
  obtain rfl := W.v
  have nd := scStars.nd
  have hn := wk.hn
  have hm := wk.hm
  refine ⟨_, pss_cons (ps_set (i := 1) nd rfl (Or.inl rfl) (pe_op op_rep (pe_lst (pa_cons pe_int pa_nil)) (pe_ix ix_tup (pv 0) pe_int (fun _ _ => rfl))))
    (pss_cons (ps_for PassesOwn.never rfl (pi_enumT (by rfl) T.enum (pa_cons (pe_ix ix_tup (pv 0) pe_int (fun _ _ => rfl)) pa_nil)) (pg_tup (by rfl) (pgs_cons (pg_name (i := 2) nd rfl (Or.inl rfl)) (pgs_cons (pg_tup (by rfl) (pgs_cons (pg_name (i := 3) nd rfl (Or.inl rfl)) (pgs_cons (pg_name (i := 4) nd rfl (Or.inl rfl)) pgs_nil))) pgs_nil)))
      (pss_one (ps_asg (pe_tup (pa_cons (pe_op op_orN (pe_ix ix_list (pv 1) (pv 3) (fun _ _ => rfl)) (pe_op op_shlN1 pe_int (pv 2))) (pa_cons (pe_op op_orN (pe_ix ix_list (pv 1) (pv 4) (fun _ _ => rfl)) (pe_op op_shlN1 pe_int (pv 2))) pa_nil)))
        (pg_tup (by rfl) (pgs_cons (pg_sub (pv 1) (pv 3) set_list) (pgs_cons (pg_sub (pv 1) (pv 4) set_list) pgs_nil))))))
    (pss_one (ps_ret (pv 1)))), ?_⟩
  refine ⟨by show 1 ≤ sizeLine; decide, fun p0 hp0 => ⟨_, rfl, a, _, 0, _, rfl, rfl, SqT.of (same_new _ hp0 _ _ W.w), rfl, p0, (n : Int), [.int 0], rfl, rfl, upd_same, by omega, by omega, by rw [sizeLine_eq]; show 1 * _ ≤ _; omega, fun p hp => ⟨_, rfl, a, _, 1, _, rfl, rfl, SqT.of (same_new _ hp _ _ (same_new _ hp0 _ _ W.w)), rfl, t, rs, rfl, SqT.of (same_new _ hp _ _ (same_new _ hp0 _ _ W.t)), ?_⟩⟩⟩
  have erep : (List.replicate (n : Int).toNat [V.int 0]).flatten = (List.replicate n 0).map natV := by
    rw [Int.toNat_natCast, List.map_replicate, List.flatten_replicate_singleton]
    rfl
  rw [erep]
  have s2 : Same H (upd (upd H p0 (.lst [.int 0])) p (.lst ((List.replicate n 0).map natV))) := (same_new _ hp0).trans (by rw [← erep]; exact same_new _ hp)
  have hp00 : H p = none := new_old (same_new _ hp0) hp
  refine for_it (walk_ties W) (fun i σ H' => Same H H' ∧ ∃ ls o2 o3 o4, H' p = some (.lst (ls.map natV)) ∧ ls.length = n ∧ (∀ q, q < n → ∀ k, (ls.getD q 0).testBit k = (decide (k < i) && BE.inc ts k q)) ∧ σ = [some (.ref a), some (.ref p), o2, o3, o4])
    ⟨s2, List.replicate n 0, none, none, none, upd_same, List.length_replicate, fun q hq k => ?_, rfl⟩ (fun i σ H' _ h => h.1) (fun i x σ Ha Hb hi h y => ?_) fun σ Ha h => ?_
  · rw [decide_eq_false (Nat.not_lt_zero k), Bool.false_and]
    simp [List.getD, hq]
  · obtain ⟨sm, ls, o2, o3, o4, hp1, hl, hb, rfl⟩ := h
    obtain ⟨U, pa, rfl, hU, rfl, hpa⟩ := y
    have sU : Same Ha (upd Ha U (.tup [natV i, .ref pa])) := same_new _ hU
    have hpU := sU _ _ hp1
    have tie := wk.web.tie hi
    refine tie_tg upd_same (sU _ _ hpa) ?_
    refine ⟨_, rfl, _, rfl, p, _, (BE.aOf ts i : Int), _, rfl, rfl, SqL.of hpU, at_nats (L := ls) (by omega), _, rfl, 1, i, rfl, rfl, ⟨rfl, by omega⟩, _, _, rfl, rfl, trivial, _, rfl, _, rfl, p, _, (BE.bOf ts i : Int), _, rfl, rfl, SqL.of hpU, at_nats (L := ls) (by omega), _, rfl, 1, i, rfl, rfl, ⟨rfl, by omega⟩, _, _, rfl, rfl, trivial, by show 2 ≤ sizeLine; decide, fun z hz => ?_⟩
    have sz := sU.trans (same_new (.tup [natV (ls.getD (BE.aOf ts i) 0 ||| 2 ^ i), natV (ls.getD (BE.bOf ts i) 0 ||| 2 ^ i)]) hz)
    have hpz := sz _ _ hp1
    refine ⟨z, _, rfl, SqT.of upd_same, rfl, _, _, rfl, ⟨_, rfl, _, rfl, p, _, (BE.aOf ts i : Int), BE.aOf ts i, rfl, rfl, hpz, ixn_at (by rw [List.length_map]; omega), _, _, rfl, ⟨_, rfl, _, rfl, p, _, (BE.bOf ts i : Int), BE.bOf ts i, rfl, rfl, upd_same, ixn_at (by rw [List.length_set, List.length_map]; omega), rfl, ?_⟩⟩⟩
    have e1 : ((ls.map natV).set (BE.aOf ts i) (natV (ls.getD (BE.aOf ts i) 0 ||| 2 ^ i))).set (BE.bOf ts i) (natV (ls.getD (BE.bOf ts i) 0 ||| 2 ^ i)) = ((ls.set (BE.aOf ts i) (ls.getD (BE.aOf ts i) 0 ||| 2 ^ i)).set (BE.bOf ts i) (ls.getD (BE.bOf ts i) 0 ||| 2 ^ i)).map natV := by rw [map_set, map_set]
    refine ⟨same_upd _ (same_upd _ (sm.trans sz) hp00) hp00, _, _, _, _, by rw [upd_same]; exact congrArg (fun x => some (HO.lst x)) e1, by rw [List.length_set, List.length_set]; exact hl, fun q hq k => ?_, rfl⟩
    rw [set_getD _ _ _ _ (by rw [List.length_set]; omega)]
    have hdec : decide (k < i + 1) = (decide (k < i) || decide (k = i)) := by
      rw [← Bool.decide_or]; exact decide_eq_decide.mpr (by omega)
    have hinc : k = i → (BE.inc ts k q = (decide (BE.aOf ts i = q) || decide (BE.bOf ts i = q))) := fun e => by subst e; rfl
    by_cases c2 : BE.bOf ts i = q
    · rw [if_pos c2, or_pow, hb _ (by omega), c2, hdec]
      by_cases e : k = i
      · rw [hinc e, decide_eq_true e, decide_eq_true c2]; simp
      · rw [decide_eq_false e]; simp
    · rw [if_neg c2, set_getD _ _ _ _ (by omega)]
      by_cases c1 : BE.aOf ts i = q
      · rw [if_pos c1, or_pow, hb _ (by omega), c1, hdec]
        by_cases e : k = i
        · rw [hinc e, decide_eq_true e, decide_eq_true c1]; simp
        · rw [decide_eq_false e]; simp
      · rw [if_neg c1, hb q hq, hdec]
        by_cases e : k = i
        · rw [hinc e, decide_eq_false c1, decide_eq_false c2]; simp
        · rw [decide_eq_false e]; simp
  · obtain ⟨sm, ls, o2, o3, o4, hp1, hl, hb, rfl⟩ := h
    refine ⟨_, rfl, q p _ sm ?_⟩
    rw [hp1]
    congr 3
    refine List.ext_getElem (by rw [List.length_map, List.length_range]; exact hl) fun j h1 h2 => ?_
    rw [List.getElem_map, List.getElem_range]
    have := fun k => hb j (by omega) k
    refine Nat.eq_of_testBit_eq fun k => ?_
    rw [mst_bit, ← this k]
    simp [List.getD, h1]
end
end R
end
/-! ## W16 -/
section
set_option Elab.async false
set_option linter.all false
set_option maxRecDepth 100000
set_option maxHeartbeats 4000000
namespace R
open PySem PySem.Spec PyProof.Rows L2
theorem combos_take {L : List Nat} {i a : Nat} (h : L[i]? = some a) : BE.combos [0] (L.take (i + 1)) = BE.combos [0] (L.take i) ++ (BE.combos [0] (L.take i)).map (· ^^^ a) := by
  rw [take_snoc h, BE.combos_snoc]
theorem combos_few {L : List Nat} {i m : Nat} (h : L.length ≤ m) : (BE.combos [0] (L.take i)).length ≤ 2 ^ m := by
  rw [BE.combos_len]
  have h1 : (L.take i).length ≤ m := by rw [List.length_take]; omega
  have := Nat.pow_le_pow_right (show 0 < 2 by omega) h1
  simpa using this
theorem tps_of_get {H : Hp} : ∀ {vs : List V} {ds : List PyData}, vs.length = ds.length → (∀ (j : Nat) (v : V) (d : PyData), vs[j]? = some v → ds[j]? = some d → Tp H v d) → Tps H vs ds
  | [], [], _, _ => .nil
  | [], _ :: _, h, _ => by simp at h
  | _ :: _, [], h, _ => by simp at h
  | v :: vs, d :: ds, h, f => .cons (f 0 v d rfl rfl) (tps_of_get (by simpa using h) fun j x y h1 h2 => f (j + 1) x y (by simpa using h1) (by simpa using h2))
section
variable {P : Program} {w : World} {K : PySem.W.Frag} {mg : Str → Option Value} {base : Heap} {f : Addr} {fd : FuncData}
/-! ### _law_cuts(web) -/
abbrev sCuts : Stmt := top 42
def cutsL (n : Nat) (ts : BE.Ties) : List Nat := BE.combos [0] ((BE.starsTo ts (n - 1)).map (BE.rv ts.length))
def spCuts : Sp := fun vs H Q _ => ∃ (v : V) (n : Nat) (ts : BE.Ties), vs = [v] ∧ Tp H v (webD n ts) ∧ Wk n ts ∧ n ≤ 12 ∧ ∀ l H', Same H H' → H' l = some (.lst ((cutsL n ts).map natV)) → Q (.ref l) H'
theorem scCuts : FnScope ["_law_web_here", "_law_found", "_law_star", "_law_mask"] ["_law_web_here"] (defScope sCuts) := ⟨rfl, rfl, rfl, by decide +kernel, rfl, by decide +kernel, by decide +kernel⟩
theorem ok_cuts (F : Fun K "_law_cuts" "_law_cuts" sCuts f fd) (T : Txt K mg) (cS : Cal P w K mg base 1 "_law_stars" spStars) : FnOk P w K mg base CX0 2 f fd ["_law_web_here"] spCuts := by
  refine F.ok scCuts (fun vs H Q E h => ?_) (fun cdv A outer s H vs Q E hr h => ?_)
  · obtain ⟨_, _, _, rfl, _⟩ := h; rfl
  obtain ⟨v, n, ts, rfl, hw, wk, hn, q⟩ := h
  have nd := scCuts.nd
  refine ⟨_, pss_cons (ps_set (i := 1) nd rfl (Or.inl rfl) (pe_lst (pa_cons pe_int pa_nil)))
    (pss_cons (ps_for PassesOwn.never rfl (pi_list (pe_slice sl_list (pe_c cS hr (by decide) (by rfl) (pa_cons (pv 0) pa_nil)) (po_some pe_int) po_none)) (pg_name (i := 2) nd rfl (Or.inr rfl))
      (pss_one (ps_set (i := 1) nd rfl (Or.inl rfl) (pe_op op_cat (pv 1) (pe_lc (own := [("_law_mask", 3)]) (g := gName 3) (by rfl) nd (pi_list (pv 1)) (blkOk_by (own := [("_law_mask", 3)]) (N := ["_law_web_here", "_law_found", "_law_star", "_law_mask"]) (sc := defScope sCuts) (by decide +kernel))
        (fun _ _ _ _ _ => pg_name (i := 3) nd rfl (Or.inl rfl)) (fun _ _ _ _ _ => pts_nil) (fun _ _ _ _ _ => pe_op op_xorN (pv 3) (pv 2)))))))
    (pss_one (ps_ret (pv 1)))), ?_⟩
  refine ⟨by show 1 ≤ sizeLine; decide, fun p0 hp0 => ⟨_, rfl, v, n, ts, rfl, hw.mono (kt_same (same_new _ hp0)), wk, fun ls H1 s1 hls => ⟨1, rfl, ls, _, rfl, SqL.of hls, fun p hp => ⟨p, rfl, ⟨_, SqL.of upd_same⟩, ?_⟩⟩⟩⟩
  have s0 := (same_new (.lst [.int 0]) hp0).trans s1
  have s2 := s0.trans (same_new (.lst (cutV (((List.range n).map (mst ts)).map natV) (some 1) none)) hp)
  have ecut : cutV (((List.range n).map (mst ts)).map natV) (some 1) none = ((BE.starsTo ts (n - 1)).map (BE.rv ts.length)).map natV := by
    unfold cutV
    rw [show (some (1 : Int)) = some ((1 : Nat) : Int) from rfl, HT.sIx_nat, HT.sIx_none]
    have hl : (((List.range n).map (mst ts)).map natV).length = n := by simp
    have hpos := wk.web.pos
    rw [hl, Nat.min_eq_left hpos, List.take_of_length_le (by rw [List.length_drop, hl]; exact Nat.le_refl _), ← List.map_drop, ← List.map_drop]
    congr 1
    unfold BE.starsTo
    rw [List.map_map]
    refine List.ext_getElem (by simp) fun j h1 h2 => ?_
    simp [mst, Nat.add_comm]
  rw [ecut] at s2 ⊢
  have hp1 : upd H1 p (.lst (((BE.starsTo ts (n - 1)).map (BE.rv ts.length)).map natV)) p0 = some (.lst [.int 0]) := (same_new _ hp) _ _ (s1 _ _ upd_same)
  have hlen : ((BE.starsTo ts (n - 1)).map (BE.rv ts.length)).length ≤ 11 := by unfold BE.starsTo; simp; omega
  have eC : cutsL n ts = BE.combos [0] ((BE.starsTo ts (n - 1)).map (BE.rv ts.length)) := rfl
  generalize (BE.starsTo ts (n - 1)).map (BE.rv ts.length) = L at *
  refine for_list (xs := L.map natV) (fun i σ H' => Same H H' ∧ H' p = some (.lst (L.map natV)) ∧ ∃ g o2 o3, H' g = some (.lst ((BE.combos [0] (L.take i)).map natV)) ∧ σ = [some v, some (.ref g), o2, o3])
    ⟨s2, upd_same, p0, none, none, hp1, rfl⟩ (fun i σ H' _ h => SqL.of h.2.1) (fun i x σ Ha hx h => ?_) fun σ Ha h => ?_
  · obtain ⟨sm, hpa, g, o2, o3, hg, rfl⟩ := h
    rw [List.getElem?_map] at hx
    obtain ⟨st, hst, rfl⟩ := Option.map_eq_some_iff.mp hx
    have hfew := combos_few (i := i) hlen
    refine ⟨_, rfl, _, rfl, g, rfl, ⟨_, SqL.of hg⟩, fun D hD => ?_⟩
    rw [combos_take hst]
    generalize BE.combos [0] (L.take i) = C at *
    refine lc_tp (g := gName 3) (tt := tYes) (vs := [3]) (walk_list (K := K) (a := g) (xs := C.map natV)) hD (by rw [List.length_map, sizeLine_eq]; omega) (fun j => ((C.take j).map (· ^^^ st)).map natD) rfl (fun H s => SqL.of (s _ _ hg)) (fun j y Hb Hc N M hj s _ yl hN hM => ?_) fun Hb ys s e tp => ?_
    · obtain ⟨rfl, hy⟩ := yl
      rw [List.getElem?_map] at hy
      obtain ⟨c, hc, rfl⟩ := Option.map_eq_some_iff.mp hy
      refine ⟨rfl, kept ⟨_, rfl, _, rfl, _, _, rfl, rfl, trivial, hN _ _ (natD (c ^^^ st)) (Same.refl _) (.int _) ?_⟩⟩
      rw [take_snoc hc, List.map_append, List.map_append]
      rfl
    · rw [List.length_map, List.take_length] at tp
      have e2 := tps_nats tp
      subst e2
      refine ⟨g, D, _, _, rfl, rfl, s _ _ hg, e, by rw [List.length_map, List.length_map, List.length_map, sizeLine_eq]; omega, fun z hz => ?_⟩
      refine ⟨same_upd _ (sm.trans s) (new_old (sm.trans s) hz), (same_new _ hz) _ _ (s _ _ hpa), z, _, _, by rw [upd_same, List.map_append], rfl⟩
  · obtain ⟨sm, hpa, g, o2, o3, hg, rfl⟩ := h
    rw [List.length_map, List.take_length] at hg
    exact ⟨_, rfl, q g _ sm (by rw [eC]; exact hg)⟩
end
end R
end
/-! ## W17 -/
section
set_option Elab.async false
set_option linter.all false
set_option maxRecDepth 100000
set_option maxHeartbeats 4000000
namespace R
open PySem PySem.Spec PyProof.Rows L2
def enTie (ts : BE.Ties) (k : Nat) : PyData := .tuple [natD k, pairD (BE.aOf ts k, BE.bOf ts k)]
theorem en_inv {H : Hp} {v : V} {ts : BE.Ties} {k : Nat} (h : Tp H v (enTie ts k)) : ∃ a p, v = .ref a ∧ H a = some (.tup [natV k, .ref p]) ∧ H p = some (.tup [natV (BE.aOf ts k), natV (BE.bOf ts k)]) := by
  obtain ⟨a, xs, e, h1, h2⟩ := Tp.tup_inv h
  cases h2 with
  | cons x1 h2 =>
    cases h2 with
    | cons x2 h2 =>
      cases h2
      obtain ⟨p, e2, h3⟩ := pair_inv x2
      rw [Tp.int_inv x1, e2] at h1
      exact ⟨a, p, e, h1, h3⟩
theorem en_tp {H : Hp} {a p : Addr} {ts : BE.Ties} {k : Nat} (h : H a = some (.tup [natV k, .ref p])) (h2 : H p = some (.tup [natV (BE.aOf ts k), natV (BE.bOf ts k)])) : Tp H (.ref a) (enTie ts k) :=
  .tup h (.cons (.int _) (.cons (pair_tp (t := (BE.aOf ts k, BE.bOf ts k)) h2) .nil))
theorem shaped_ens (ts : BE.Ties) (L : List Nat) : SeqAt.shaped (.list (L.map (enTie ts))) = true := by
  have h1 : ∀ k, (enTie ts k).canLay0 = true := fun k => by simp [enTie, pairD, natD, PyData.canLay0, PyData.canLayAll0]
  have h2 : ∀ k, (enTie ts k).depth ≤ 2 := fun k => by simp [enTie, pairD, natD, PyData.depth, PyData.depthAll]
  refine shaped_of ?_ ?_
  · simp only [PyData.canLay0]; exact lay_map h1 L
  · have := depth_map h2 L
    simp only [PyData.depth]
    omega
structure EnL (H : Hp) (q : Addr) (ts : BE.Ties) (L : List Nat) (xs : List V) : Prop where
  l : H q = some (.lst xs)
  t : Tps H xs (L.map (enTie ts))
theorem EnL.len {H : Hp} {q : Addr} {ts : BE.Ties} {L : List Nat} {xs : List V} (h : EnL H q ts L xs) : xs.length = L.length := by rw [Tps.length h.t, List.length_map]
structure TrA (H : Hp) (d : Addr) (T : Nat → Option Nat) (kvs : List (L2.Key × V)) : Prop where
  d : H d = some (.dK kvs)
  v : ∀ p : Nat, valV kvs (Sum.inl (p : Int)) = (T p).map natV
theorem TrA.get {H : Hp} {d : Addr} {T : Nat → Option Nat} {kvs : List (L2.Key × V)} (h : TrA H d T kvs) (p : Nat) : DGet H d (natV p) ((T p).map natV) := by
  rw [← h.v p]; exact DGet.k (k := Sum.inl (p : Int)) h.d
theorem TrA.put {H : Hp} {d : Addr} {T : Nat → Option Nat} {kvs : List (L2.Key × V)} (h : TrA H d T kvs) (g z : Nat) : TrA (upd H d (.dK (putK kvs (Sum.inl (g : Int)) (natV z)))) d (fun p => if p = g then some z else T p) (putK kvs (Sum.inl (g : Int)) (natV z)) := by
  refine ⟨upd_same, fun p => ?_⟩
  rw [valV_put]
  by_cases e : p = g
  · subst e; rw [if_pos rfl]; show _ = ((if p = p then some z else T p : Option Nat)).map natV; rw [if_pos rfl]; rfl
  · rw [if_neg (fun y => e (key_inj y)), h.v p]; show _ = ((if p = g then some z else T p : Option Nat)).map natV; rw [if_neg e]
theorem TrA.same {H H' : Hp} {d : Addr} {T : Nat → Option Nat} {kvs : List (L2.Key × V)} (h : TrA H d T kvs) (e : H' d = H d) : TrA H' d T kvs := ⟨by rw [e]; exact h.d, h.v⟩
theorem EnL.mono {H H' : Hp} {q : Addr} {ts : BE.Ties} {L : List Nat} {xs : List V} (h : EnL H q ts L xs) (e : H' q = H q) (k : KT H H') : EnL H' q ts L xs := ⟨by rw [e]; exact h.l, Tps.mono k h.t⟩
/-- what is still out, a tie of the rest being done -/
theorem proc_step {m : Nat} {proc : Nat → Bool} {L R : List Nat} {j k : Nat} (hk : R[j]? = some k) (pw : R.Pairwise (· < ·)) (sl : L.Sublist (R.take j)) (h : ∀ i, i < m → (proc i = false ↔ (i ∈ L ∨ i ∈ R.drop j))) :
    ∀ i, i < m → (BE.more proc k i = false ↔ (i ∈ L ∨ i ∈ R.drop (j + 1))) := fun i hi => by
  have hd : R.drop j = k :: R.drop (j + 1) := by
    obtain ⟨h1, e⟩ := List.getElem?_eq_some_iff.mp hk
    subst e
    exact List.drop_eq_getElem_cons h1
  have hs := split_at hk
  rw [hs] at pw
  obtain ⟨p1, p2, p3⟩ := List.pairwise_append.mp pw
  have nL : k ∉ L := fun z => by
    have := p3 k (sl.subset z) k List.mem_cons_self
    omega
  have nD : k ∉ R.drop (j + 1) := fun z => by
    have := (List.pairwise_cons.mp p2).1 k z
    omega
  unfold BE.more
  rw [Bool.or_eq_false_iff, h i hi, hd, List.mem_cons]
  constructor
  · rintro ⟨h1, h2⟩
    have h3 := of_decide_eq_false h2
    rcases h1 with h1 | h1 | h1
    · exact .inl h1
    · exact absurd h1 h3
    · exact .inr h1
  · rintro (h1 | h1)
    · exact ⟨.inl h1, decide_eq_false fun e => nL (e ▸ h1)⟩
    · exact ⟨.inr (.inr h1), decide_eq_false fun e => nD (e ▸ h1)⟩
section
variable {P : Program} {w : World} {K : PySem.W.Frag} {mg : Str → Option Value} {base : Heap} {f : Addr} {fd : FuncData}
/-! ### _law_evens(web) -/
abbrev sEvens : Stmt := top 41
def spEvens : Sp := fun vs H Q _ => ∃ (v : V) (n : Nat) (ts : BE.Ties), vs = [v] ∧ Tp H v (webD n ts) ∧ Wk n ts ∧ ts.length ≤ 12 ∧
  ∀ (l : Addr) (E : List Nat) (H' : Hp), Same H H' → H' l = some (.lst (E.map natV)) → (∀ x, x ∈ E ↔ x < 2 ^ ts.length ∧ BE.Even ts (BE.tb x)) → E.length ≤ 5000 → Q (.ref l) H'
theorem scEvens : FnScope ["_law_web_here", "_law_trail", "_law_base", "_law_rest", "_law_later", "_law_k", "_law_one", "_law_two", "_law_found", "_law_own", "_law_mask"] ["_law_web_here"] (defScope sEvens) := ⟨rfl, rfl, rfl, by decide +kernel, rfl, by decide +kernel, by decide +kernel⟩
theorem ok_evens (F : Fun K "_law_evens" "_law_evens" sEvens f fd) (T : Txt K mg) : FnOk P w K mg base CX0 1 f fd ["_law_web_here"] spEvens := by
  refine F.ok scEvens (fun vs H Q E h => ?_) (fun cdv A outer s H vs Q E hr h => ?_)
  · obtain ⟨_, _, _, rfl, _⟩ := h; rfl
  obtain ⟨v, n, ts, rfl, hw, wk, hm12, q⟩ := h
  obtain ⟨a, t, rs, W⟩ := web_inv hw
  obtain rfl := W.v
  have nd := scEvens.nd
  have hu := hu_of hr
  refine ⟨_, (pss_cons (ps_par3 (i := 1) (j := 2) (l := 3) (by rfl) nd rfl rfl rfl (by decide) (by decide) (by decide) rfl rfl rfl (pa_cons (pe_disp (pps_cons pe_int pe_int pps_nil) (by rfl) (by rfl) (fun z => by cases z) (by decide)) (pa_cons (pe_lst pa_nil) (pa_cons (pe_listEn (by rfl) (by rfl) T.list (by rfl) T.enum (pa_cons (pe_ix ix_tup (pv 0) pe_int (fun _ _ => rfl)) pa_nil)) pa_nil))) (by rfl)) (pss_cons (ps_while PassesOwn.never (pt_cmpR (op_neD hr.units) (pv 3) (pe_lst pa_nil) (nomark _))
      (pss_cons (ps_set (i := 4) nd rfl (Or.inl rfl) (pe_lst pa_nil)) (pss_cons (ps_for PassesOwn.never rfl (pi_list (pe_callTy call_list_of (by rfl) T.list (by decide +kernel) (pa_cons (pv 3) pa_nil))) (pg_tup (by rfl) (pgs_cons (pg_name (i := 5) nd rfl (Or.inl rfl)) (pgs_cons (pg_tup (by rfl) (pgs_cons (pg_name (i := 6) nd rfl (Or.inl rfl)) (pgs_cons (pg_name (i := 7) nd rfl (Or.inl rfl)) pgs_nil))) pgs_nil)))
        (pss_one (ps_if (PW.pt (pw_and (pt_cmp (pc_din hu (pv 6) (pv 1))) (pw_and1 (pt_cmp (pc_din hu (pv 7) (pv 1)))))) (pss_one (ps_expr (pe_bm PySem.F.plainAttrs_list PySem.F.slot_list_append PySem.F.type_list_append mt_append (pv 2) (pa_cons (pe_op op_xorN (pe_op op_xorN (pe_dget hu (pv 1) (pv 6) (fun _ _ => rfl)) (pe_dget hu (pv 1) (pv 7) (fun _ _ => rfl))) (pe_op op_shlN1 pe_int (pv 5))) pa_nil)))) (pss_one (ps_if (pt_cmp (pc_din hu (pv 6) (pv 1))) (pss_one (ps_dput hu (pv 1) (pv 7) (pe_op op_xorN (pe_dget hu (pv 1) (pv 6) (fun _ _ => rfl)) (pe_op op_shlN1 pe_int (pv 5))) rfl)) (pss_one (ps_if (pt_cmp (pc_din hu (pv 7) (pv 1))) (pss_one (ps_dput hu (pv 1) (pv 6) (pe_op op_xorN (pe_dget hu (pv 1) (pv 7) (fun _ _ => rfl)) (pe_op op_shlN1 pe_int (pv 5))) rfl)) (pss_one (ps_expr (pe_bm PySem.F.plainAttrs_list PySem.F.slot_list_append PySem.F.type_list_append mt_append (pv 4) (pa_cons (pe_tup (pa_cons (pv 5) (pa_cons (pe_tup (pa_cons (pv 6) (pa_cons (pv 7) pa_nil))) pa_nil))) pa_nil))))))))))) (pss_one (ps_set (i := 3) nd rfl (Or.inl rfl) (pv 4)))))) (pss_cons (ps_set (i := 8) nd rfl (Or.inl rfl) (pe_lst (pa_cons pe_int pa_nil))) (pss_cons (ps_for PassesOwn.never rfl (pi_list (pv 2)) (pg_name (i := 9) nd rfl (Or.inr rfl))
      (pss_one (ps_set (i := 8) nd rfl (Or.inl rfl) (pe_op op_cat (pv 8) (pe_lc (own := [("_law_mask", 10)]) (g := gName 10) (by rfl) nd (pi_list (pv 8)) (blkOk_by (own := [("_law_mask", 10)]) (N := ["_law_web_here", "_law_trail", "_law_base", "_law_rest", "_law_later", "_law_k", "_law_one", "_law_two", "_law_found", "_law_own", "_law_mask"]) (sc := defScope sEvens) (by decide +kernel)) (fun _ _ _ _ _ => pg_name (i := 10) nd rfl (Or.inl rfl)) (fun _ _ _ _ _ => pts_nil) (fun _ _ _ _ _ => pe_op op_xorN (pv 10) (pv 9))))))) (pss_one (ps_ret (pv 8))))))), ?_⟩
  refine fun d hd => ⟨by rw [upd_same], [(Sum.inl 0, .int 0)], rfl, by show 1 ≤ 15; decide, by show 0 ≤ sizeLine; decide, fun b hb => ⟨_, rfl, a, [natV n, .ref t], 1, .ref t, rfl, rfl, ?_⟩⟩
  have em : mergeK [] [((Sum.inl 0 : L2.Key), V.int 0)] = [(Sum.inl ((0 : Nat) : Int), natV 0)] := rfl
  rw [em] at hb ⊢
  have hbd : b ≠ d := fun e => by rw [e, upd_same] at hb; cases hb
  have s1 : Same H (upd (upd H d (.dK [])) d (.dK [(Sum.inl ((0 : Nat) : Int), natV 0)])) := same_upd _ (same_new _ hd) hd
  have s2 := s1.trans (same_new (.lst []) hb)
  have hb0 := new_old s1 hb
  have hd2 : upd (upd (upd H d (.dK [])) d (.dK [(Sum.inl ((0 : Nat) : Int), natV 0)])) b (.lst []) d = some (.dK [(Sum.inl ((0 : Nat) : Int), natV 0)]) := by rw [upd_ne hbd.symm]; exact upd_same
  have hb2 : upd (upd (upd H d (.dK [])) d (.dK [(Sum.inl ((0 : Nat) : Int), natV 0)])) b (.lst []) b = some (.lst []) := upd_same
  generalize upd (upd (upd H d (.dK [])) d (.dK [(Sum.inl ((0 : Nat) : Int), natV 0)])) b (.lst []) = H1 at s2 hd2 hb2
  refine ⟨SqT.of (s2 _ _ W.w), rfl, t, rs, rfl, SqT.of (s2 _ _ W.t), fun Ts rq H2 hTl s3 hrq hl hT => ⟨_, _, _, rfl, ?_⟩⟩
  have s4 := s2.trans s3
  have hrq0 := new_old s2 hrq
  have W2 := W.mono (kt_same s4)
  have hlen := W.len
  have en0 : EnL H2 rq ts (List.range ts.length) (Ts.map V.ref) := by
    refine ⟨hl, tps_of_get (by rw [List.length_map, List.length_map, List.length_range, hTl, hlen]) fun j x dd h1 h2 => ?_⟩
    rw [List.getElem?_map] at h1
    obtain ⟨T0, hT0, rfl⟩ := Option.map_eq_some_iff.mp h1
    have hj : j < ts.length := by rw [← hlen, ← hTl]; exact (List.getElem?_eq_some_iff.mp hT0).1
    rw [List.getElem?_map, List.getElem?_range hj] at h2
    have e2 : dd = enTie ts j := (Option.some.inj h2).symm
    subst e2
    obtain ⟨p, hp, hpH⟩ := W2.tie hj
    exact en_tp (hT j T0 _ hT0 hp) hpH
  have ne3 : ∀ {H' : Hp} {kvs : List (L2.Key × V)} {x : Addr} {xs : List V}, H' d = some (.dK kvs) → H' x = some (.lst xs) → x ≠ d := fun h1 h2 => ne_of h2 h1 (by intro z; cases z)
  have tr0 : TrA H2 d (fun p => if p = 0 then some 0 else none) [(Sum.inl ((0 : Nat) : Int), natV 0)] := by
    refine ⟨s3 _ _ hd2, fun p => ?_⟩
    by_cases e : p = 0
    · subst e; exact valV_pos rfl
    · rw [valV_neg (fun z => e (key_inj z).symm)]
      show none = ((if p = 0 then some 0 else none : Option Nat)).map natV
      rw [if_neg e]; rfl
  have hb3 : H2 b = some (.lst (([] : List Nat).map natV)) := s3 _ _ hb2
  have hrqb : rq ≠ b := fun e => by rw [e, hb2] at hrq; cases hrq
  have few0 : ∀ {L R : List Nat} {j : Nat}, L.Sublist (R.take j) → L.length ≤ j := fun sl => Nat.le_trans sl.length_le (List.length_take_le _ _)
  refine ⟨fun c σ H' => ∃ Tm bs proc kvs R xs rq o4 o5 o6 o7 o8 o9 o10, σ = [some (.ref a), some (.ref d), some (.ref b), some (.ref rq), o4, o5, o6, o7, o8, o9, o10] ∧ Same H H' ∧ TrA H' d Tm kvs ∧ H' b = some (.lst (bs.map natV)) ∧ EnL H' rq ts R xs ∧ rq ≠ b ∧ BE.EvS n ts Tm bs proc ∧ R.Pairwise (· < ·) ∧ (∀ k, k < ts.length → (proc k = false ↔ k ∈ R)) ∧ (∀ k ∈ R, k < ts.length) ∧
      kvs.length + R.length ≤ ts.length + 1 ∧ bs.length + R.length ≤ ts.length ∧ c = R.length,
    ⟨_, _, [], _, _, List.range ts.length, _, rq, none, none, none, none, none, none, none, rfl, s4, tr0, hb3, en0, hrqb, BE.evs_start wk.web, List.pairwise_lt_range, fun k hk => ⟨fun _ => List.mem_range.mpr hk, fun _ => rfl⟩, fun k hk => List.mem_range.mp hk, by rw [List.length_range]; show 1 + _ ≤ _; omega, by rw [List.length_range]; show 0 + _ ≤ _; omega, rfl⟩, ?_⟩
  rintro c σ H3 ⟨Tm, bs, proc, kvs, R, xs, rq, o4, o5, o6, o7, o8, o9, o10, rfl, s5, tr, hb4, en, hrqb, ev, pw, pr, Rlt, c1, c2, rfl⟩
  refine ⟨_, rfl, by show 0 ≤ sizeLine; decide, fun z hz => ?_⟩
  have sz := same_new (.lst []) hz
  refine ⟨_, _, .lst (SqL.of (sz _ _ en.l)) (Tps.dp (Tps.mono (kt_same sz) en.t)), .lst (SqL.of upd_same) .nil, shaped_ens ts R, shaped_nats [], _, rfl, ?_⟩
  rw [eqv_nil]
  have s6 := s5.trans sz
  have trz : TrA (upd H3 z (.lst [])) d Tm kvs := ⟨sz _ _ tr.d, tr.v⟩
  have hbz := sz _ _ hb4
  have enz : EnL (upd H3 z (.lst [])) rq ts R xs := ⟨sz _ _ en.l, Tps.mono (kt_same sz) en.t⟩
  clear sz
  generalize upd H3 z (.lst []) = H4 at *
  by_cases hR : R = []
  · subst hR
    refine iteF ?_
    have done : ∀ k, k < ts.length → proc k = true := fun k hk => by
      cases e : proc k with
      | true => rfl
      | false => exact absurd ((pr k hk).mp e) (by simp)
    have hspan := BE.evs_end ev done
    have hbl : bs.length ≤ 12 := by omega
    refine ⟨by show 1 ≤ sizeLine; decide, fun g0 hg0 => ⟨_, rfl, b, rfl, ⟨_, SqL.of ((same_new _ hg0) _ _ hbz)⟩, ?_⟩⟩
    have s7 := s6.trans (same_new (.lst [.int 0]) hg0)
    refine for_list (xs := bs.map natV) (fun i σ H' => Same H H' ∧ H' b = some (.lst (bs.map natV)) ∧ ∃ g o9 o10, H' g = some (.lst ((BE.combos [0] (bs.take i)).map natV)) ∧ σ = [some (.ref a), some (.ref d), some (.ref b), some (.ref rq), o4, o5, o6, o7, some (.ref g), o9, o10])
      ⟨s7, (same_new _ hg0) _ _ hbz, g0, o9, o10, upd_same, rfl⟩ (fun i σ H' _ h => SqL.of h.2.1) (fun i x σ Ha hx h => ?_) fun σ Ha h => ?_
    · obtain ⟨sm, hba, g, o9, o10, hg, rfl⟩ := h
      rw [List.getElem?_map] at hx
      obtain ⟨st, hst, rfl⟩ := Option.map_eq_some_iff.mp hx
      have hfew := combos_few (i := i) hbl
      refine ⟨_, rfl, _, rfl, g, rfl, ⟨_, SqL.of hg⟩, fun D hD => ?_⟩
      rw [combos_take hst]
      generalize BE.combos [0] (bs.take i) = C at *
      refine lc_tp (g := gName 10) (tt := tYes) (vs := [10]) (walk_list (K := K) (a := g) (xs := C.map natV)) hD (by rw [List.length_map, sizeLine_eq]; omega) (fun j => ((C.take j).map (· ^^^ st)).map natD) rfl (fun H s => SqL.of (s _ _ hg)) (fun j y Hb Hc N M hj s _ yl hN hM => ?_) fun Hb ys s e tp => ?_
      · obtain ⟨rfl, hy⟩ := yl
        rw [List.getElem?_map] at hy
        obtain ⟨c, hc, rfl⟩ := Option.map_eq_some_iff.mp hy
        refine ⟨rfl, kept ⟨_, rfl, _, rfl, _, _, rfl, rfl, trivial, hN _ _ (natD (c ^^^ st)) (Same.refl _) (.int _) ?_⟩⟩
        rw [take_snoc hc, List.map_append, List.map_append]
        rfl
      · rw [List.length_map, List.take_length] at tp
        have e2 := tps_nats tp
        subst e2
        refine ⟨g, D, _, _, rfl, rfl, s _ _ hg, e, by rw [List.length_map, List.length_map, List.length_map, sizeLine_eq]; omega, fun z hz => ?_⟩
        refine ⟨same_upd _ (sm.trans s) (new_old (sm.trans s) hz), (same_new _ hz) _ _ (s _ _ hba), z, _, _, by rw [upd_same, List.map_append], rfl⟩
    · obtain ⟨sm, hba, g, o9, o10, hg, rfl⟩ := h
      rw [List.length_map, List.take_length] at hg
      refine ⟨_, rfl, q g _ _ sm hg (fun x => ?_) ?_⟩
      · rw [BE.mem_combos0, hspan]
      · have := combos_few (i := bs.length) hbl
        rw [List.take_length] at this
        have e : (2 : Nat) ^ 12 = 4096 := by decide
        omega
  · have hne : (R.map (enTie ts)).isEmpty = false := by
      cases R with
      | nil => exact absurd rfl hR
      | cons _ _ => rfl
    rw [hne]
    refine iteT ?_
    have hRpos : 0 < R.length := List.length_pos_iff.mpr hR
    refine ⟨fun σ' H' => ∃ Tm bs proc kvs R2 xs rq o4 o5 o6 o7 o8 o9 o10, σ' = [some (.ref a), some (.ref d), some (.ref b), some (.ref rq), o4, o5, o6, o7, o8, o9, o10] ∧ Same H H' ∧ TrA H' d Tm kvs ∧ H' b = some (.lst (bs.map natV)) ∧ EnL H' rq ts R2 xs ∧ rq ≠ b ∧ BE.EvS n ts Tm bs proc ∧ R2.Pairwise (· < ·) ∧ (∀ k, k < ts.length → (proc k = false ↔ k ∈ R2)) ∧ (∀ k ∈ R2, k < ts.length) ∧
        kvs.length + R2.length ≤ ts.length + 1 ∧ bs.length + R2.length ≤ ts.length ∧ R2.length < R.length,
      fun σ' H' ⟨g1, g2, g3, g4, g5, g6, g7, g8, g9, g10, g11, g12, g13, g14, g15, g16, g17, g18, g19, g20, g21, g22, g23, g24, g25, g26, g27⟩ => ⟨_, g27, g1, g2, g3, g4, g5, g6, g7, g8, g9, g10, g11, g12, g13, g14, g15, g16, g17, g18, g19, g20, g21, g22, g23, g24, g25, g26, rfl⟩, ?_⟩
    refine ⟨by show 0 ≤ sizeLine; decide, fun lq hlq => ?_⟩
    have sl1 := same_new (.lst []) hlq
    have hlq0 := new_old s6 hlq
    refine ⟨_, rfl, rq, xs, rfl, .inl (SqL.of (sl1 _ _ enz.l)), fun cp hcp => ⟨cp, rfl, ⟨_, SqL.of upd_same⟩, ?_⟩⟩
    have sc1 := same_new (.lst xs) hcp
    have sA := (s6.trans sl1).trans sc1
    have sB := sl1.trans sc1
    have hlqd : lq ≠ d := fun e => by rw [e, trz.d] at hlq; cases hlq
    have hlqb : lq ≠ b := fun e => by rw [e, hbz] at hlq; cases hlq
    have hcpl : cp ≠ lq := fun e => by rw [e, upd_same] at hcp; cases hcp
    have hcpb : cp ≠ b := fun e => by rw [e, sl1 _ _ hbz] at hcp; cases hcp
    have hcpd : cp ≠ d := fun e => by rw [e, sl1 _ _ trz.d] at hcp; cases hcp
    refine for_list (xs := xs) (fun j σ' H' => ∃ Tm' bs' proc' kvs' L ys o5 o6 o7 o8 o9 o10, σ' = [some (.ref a), some (.ref d), some (.ref b), some (.ref rq), some (.ref lq), o5, o6, o7, o8, o9, o10] ∧ Same H H' ∧ TrA H' d Tm' kvs' ∧ H' b = some (.lst (bs'.map natV)) ∧ EnL H' cp ts R xs ∧ EnL H' lq ts L ys ∧ BE.EvS n ts Tm' bs' proc' ∧ L.Sublist (R.take j) ∧ (∀ k, k < ts.length → (proc' k = false ↔ (k ∈ L ∨ k ∈ R.drop j))) ∧
        kvs'.length + L.length + (R.length - j) ≤ ts.length + 1 ∧ bs'.length + L.length + (R.length - j) ≤ ts.length ∧ (L.length = j → Tm' = Tm ∧ ∀ k ∈ R.take j, Tm (BE.aOf ts k) = none ∧ Tm (BE.bOf ts k) = none))
      ⟨Tm, bs, proc, kvs, [], [], o5, o6, o7, o8, o9, o10, rfl, sA, ⟨sB _ _ trz.d, tr.v⟩, sB _ _ hbz, ⟨upd_same, Tps.mono (kt_same sB) enz.t⟩, ⟨by rw [upd_ne hcpl.symm]; exact upd_same, .nil⟩, ev, List.nil_sublist _, fun k hk => by rw [pr k hk, List.drop_zero]; simp, by show _ + 0 + _ ≤ _; omega, by show _ + 0 + _ ≤ _; omega, fun _ => ⟨rfl, fun k hk => by simp at hk⟩⟩
      (fun j σ' H' _ h => ?_) (fun j x σ' H' hx h => ?_) fun σ' H' h => ?_
    · obtain ⟨_, _, _, _, _, _, _, _, _, _, _, _, _, _, _, _, e, _⟩ := h
      exact SqL.of e.l
    · obtain ⟨Tm', bs', proc', kvs', L, ys, o5, o6, o7, o8, o9, o10, rfl, sm, tr', hb', ecp, elq, ev', sl, pr', d1, d2, dn⟩ := h
      have hlenx := ecp.len
      obtain ⟨dd, hdd, td⟩ := Tps.get ecp.t hx
      rw [List.getElem?_map] at hdd
      obtain ⟨k, hk, rfl⟩ := Option.map_eq_some_iff.mp hdd
      have hjR : j < R.length := (List.getElem?_eq_some_iff.mp hk).1
      have hkm := Rlt k (List.mem_of_getElem? hk)
      obtain ⟨ea, ep, rfl, hea, hep⟩ := en_inv td
      have hdr : R.drop j = k :: R.drop (j + 1) := by
        obtain ⟨h1, e⟩ := List.getElem?_eq_some_iff.mp hk
        subst e
        exact List.drop_eq_getElem_cons h1
      have hpk : proc' k = false := (pr' k hkm).mpr (.inr (by rw [hdr]; exact List.mem_cons_self))
      have hLj := few0 sl
      have slj : L.Sublist (R.take (j + 1)) := by rw [take_snoc hk]; exact List.Sublist.trans sl (List.sublist_append_left _ _)
      have prN := proc_step hk pw sl pr'
      have tie := wk.web.tie hkm
      have hmlim := wk.hm
      refine tie_tg hea hep ⟨_, rfl, _, rfl, d, _, rfl, tr'.get _, _, rfl, ?_⟩
      -- what follows when a tie is put aside, when it is done
      cases hA : Tm' (BE.aOf ts k) with
      | some x =>
        refine iteT ⟨_, rfl, _, rfl, d, _, rfl, tr'.get _, _, rfl, ?_⟩
        have gA : DGet H' d (natV (BE.aOf ts k)) (some (natV x)) := by have := tr'.get (BE.aOf ts k); rw [hA] at this; exact this
        cases hB : Tm' (BE.bOf ts k) with
        | some y =>
          refine iteT ?_
          have gB : DGet H' d (natV (BE.bOf ts k)) (some (natV y)) := by have := tr'.get (BE.bOf ts k); rw [hB] at this; exact this
          refine ⟨_, rfl, .inl ⟨rfl, _, SqL.of hb'⟩, _, rfl, _, rfl, d, _, rfl, gA, _, rfl, _, rfl, d, _, rfl, gB, _, _, rfl, rfl, trivial, _, rfl, 1, k, rfl, rfl, ⟨rfl, by omega⟩, _, _, rfl, rfl, trivial, b, _, _, rfl, rfl, hb', by rw [List.length_map, sizeLine_eq]; omega, ?_⟩
          have hbd' : b ≠ d := hbd
          refine ⟨Tm', bs' ++ [x ^^^ y ^^^ 2 ^ k], BE.more proc' k, kvs', L, ys, _, _, _, _, _, _, rfl, same_upd _ sm hb0, tr'.same (upd_ne hbd.symm), by rw [upd_same, List.map_append]; rfl, ecp.mono (upd_ne hcpb) (kt_lst _ hb'), elq.mono (upd_ne hlqb) (kt_lst _ hb'), BE.evs_both wk.web ev' hkm hpk hA hB, slj, prN, by omega, by rw [List.length_append]; show _ + 1 + _ + _ ≤ _; omega, fun e => absurd e (by omega)⟩
        | none =>
          refine iteF ⟨_, rfl, _, rfl, d, _, rfl, tr'.get _, _, rfl, ?_⟩
          rw [hA]
          refine iteT ?_
          refine ⟨_, rfl, _, rfl, d, _, rfl, gA, _, rfl, 1, k, rfl, rfl, ⟨rfl, by omega⟩, _, _, rfl, rfl, trivial, _, rfl, _, rfl, d, _, rfl, DPut.k (k := Sum.inl ((BE.bOf ts k : Nat) : Int)) tr'.d (by rw [sizeLine_eq]; omega), ?_⟩
          have hpl := length_putK kvs' (Sum.inl ((BE.bOf ts k : Nat) : Int)) (natV (x ^^^ 2 ^ k))
          refine ⟨_, bs', BE.more proc' k, _, L, ys, _, _, _, _, _, _, rfl, same_upd _ sm hd, tr'.put (BE.bOf ts k) (x ^^^ 2 ^ k), by rw [upd_ne hbd]; exact hb', ecp.mono (upd_ne hcpd) (kt_dK _ tr'.d), elq.mono (upd_ne hlqd) (kt_dK _ tr'.d), BE.evs_new wk.web ev' hkm hpk (.inl ⟨rfl, rfl⟩) hA hB, slj, prN, by omega, by omega, fun e => absurd e (by omega)⟩
      | none =>
        refine iteF ⟨_, rfl, _, rfl, d, _, rfl, tr'.get _, _, rfl, ?_⟩
        rw [hA]
        refine iteF ⟨_, rfl, _, rfl, d, _, rfl, tr'.get _, _, rfl, ?_⟩
        cases hB : Tm' (BE.bOf ts k) with
        | some y =>
          refine iteT ?_
          have gB : DGet H' d (natV (BE.bOf ts k)) (some (natV y)) := by have := tr'.get (BE.bOf ts k); rw [hB] at this; exact this
          refine ⟨_, rfl, _, rfl, d, _, rfl, gB, _, rfl, 1, k, rfl, rfl, ⟨rfl, by omega⟩, _, _, rfl, rfl, trivial, _, rfl, _, rfl, d, _, rfl, DPut.k (k := Sum.inl ((BE.aOf ts k : Nat) : Int)) tr'.d (by rw [sizeLine_eq]; omega), ?_⟩
          have hpl := length_putK kvs' (Sum.inl ((BE.aOf ts k : Nat) : Int)) (natV (y ^^^ 2 ^ k))
          refine ⟨_, bs', BE.more proc' k, _, L, ys, _, _, _, _, _, _, rfl, same_upd _ sm hd, tr'.put (BE.aOf ts k) (y ^^^ 2 ^ k), by rw [upd_ne hbd]; exact hb', ecp.mono (upd_ne hcpd) (kt_dK _ tr'.d), elq.mono (upd_ne hlqd) (kt_dK _ tr'.d), BE.evs_new wk.web ev' hkm hpk (.inr ⟨rfl, rfl⟩) hB hA, slj, prN, by omega, by omega, fun e => absurd e (by omega)⟩
        | none =>
          refine iteF ?_
          refine ⟨_, rfl, .inl ⟨rfl, _, SqL.of elq.l⟩, _, rfl, _, rfl, _, rfl, by show 2 ≤ sizeLine; decide, fun z1 hz1 => ⟨by show 2 ≤ sizeLine; decide, fun z2 hz2 => ?_⟩⟩
          have sz1 := same_new (.tup [natV (BE.aOf ts k), natV (BE.bOf ts k)]) hz1
          have sz2 := same_new (.tup [natV k, .ref z1]) hz2
          have s12 := sz1.trans sz2
          have hl12 := s12 _ _ elq.l
          have k12 := (kt_same s12).trans (kt_lst (.lst (ys ++ [.ref z2])) hl12)
          refine ⟨lq, ys, _, rfl, rfl, hl12, by rw [elq.len, sizeLine_eq]; omega, ?_⟩
          refine ⟨Tm', bs', proc', kvs', L ++ [k], ys ++ [.ref z2], _, _, _, _, _, _, rfl, same_upd _ (sm.trans s12) hlq0, ⟨by rw [upd_ne hlqd.symm]; exact s12 _ _ tr'.d, tr'.v⟩, by rw [upd_ne hlqb.symm]; exact s12 _ _ hb', ⟨by rw [upd_ne hcpl]; exact s12 _ _ ecp.l, Tps.mono k12 ecp.t⟩, ⟨upd_same, ?_⟩, ev', ?_, fun i hi => ?_, ?_, ?_, fun e => ?_⟩
          · rw [List.map_append]
            exact Tps.snoc (Tps.mono k12 elq.t) ((en_tp upd_same (sz2 _ _ upd_same)).mono (kt_lst _ hl12))
          · rw [take_snoc hk]; exact List.Sublist.append sl (List.Sublist.refl _)
          · rw [pr' i hi, hdr]; simp only [List.mem_cons, List.mem_append, List.not_mem_nil, or_false]; exact or_assoc.symm
          · rw [List.length_append]; show _ + (_ + 1) + _ ≤ _; omega
          · rw [List.length_append]; show _ + (_ + 1) + _ ≤ _; omega
          · rw [List.length_append] at e
            have e2 : L.length = j := by have : L.length + 1 = j + 1 := e; omega
            obtain ⟨g1, g2⟩ := dn e2
            refine ⟨g1, fun i hi => ?_⟩
            rw [take_snoc hk] at hi
            rcases List.mem_append.mp hi with y | y
            · exact g2 i y
            · rw [List.mem_singleton.mp y, ← g1]; exact ⟨hA, hB⟩
    · obtain ⟨Tm', bs', proc', kvs', L, ys, o5, o6, o7, o8, o9, o10, rfl, sm, tr', hb', ecp, elq, ev', sl, pr', d1, d2, dn⟩ := h
      have hlenx := ecp.len
      rw [hlenx] at sl pr' d1 d2 dn
      rw [List.take_length] at sl
      have hlt : L.length < R.length := by
        rcases Nat.lt_or_ge L.length R.length with y | y
        · exact y
        · have e := Nat.le_antisymm sl.length_le y
          obtain ⟨g1, g2⟩ := dn e
          rw [List.take_length] at g2
          exact absurd (BE.evs_go wk.web ev Rlt (fun k hk e => (pr k hk).mp e) g2) hR
      refine ⟨_, rfl, Tm', bs', proc', kvs', L, ys, lq, _, _, _, _, _, _, _, rfl, sm, tr', hb', elq, hlqb, ev', pw.sublist sl, fun k hk => ?_, fun k hk => Rlt k (sl.subset hk), by omega, by omega, hlt⟩
      rw [pr' k hk, List.drop_length]
      simp
end
end R
end
/-! ## W18 -/
section
set_option Elab.async false
set_option linter.all false
set_option maxRecDepth 100000
set_option maxHeartbeats 4000000
namespace R
open PySem PySem.Spec PyProof.Rows L2
def seenD (x : Nat) : PyData := .tuple [natD x, .bool true]
def seenK (x : Nat) : L2.Key × V := (Sum.inl (x : Int), .bl true)
theorem seen_inv {H : Hp} {K : PySem.W.Frag} : ∀ {E : List Nat} {ys : List V}, Tps H ys (E.map seenD) → ∃ ps : List Addr, ys = ps.map V.ref ∧ Paired (fun p kv => SqT K H p [kV kv.1, kv.2]) ps (E.map seenK)
  | [], _, h => by cases h; exact ⟨[], rfl, .nil⟩
  | x :: E, _, h => by
    cases h with
    | cons a t =>
      obtain ⟨p, xs, e, h1, h2⟩ := Tp.tup_inv a
      cases h2 with
      | cons y1 h2 =>
        cases h2 with
        | cons y2 h2 =>
          cases h2
          have e1 := Tp.int_inv y1
          cases y2
          subst e1
          obtain ⟨ps, e2, h3⟩ := seen_inv (K := K) t
          exact ⟨p :: ps, by rw [e, e2]; rfl, .cons (SqT.of h1) h3⟩
theorem merge_some (x : Nat) : ∀ (E : List Nat) (acc : List (L2.Key × V)), (valV (mergeK acc (E.map seenK)) (Sum.inl (x : Int))).isSome = ((valV acc (Sum.inl (x : Int))).isSome || decide (x ∈ E))
  | [], acc => by
    show (valV acc _).isSome = _
    simp
  | y :: E, acc => by
    show (valV (mergeK (putK acc (Sum.inl (y : Int)) (.bl true)) (E.map seenK)) _).isSome = _
    rw [merge_some x E, valV_put]
    by_cases e : x = y
    · subst e; rw [if_pos rfl]; simp
    · rw [if_neg (fun z => e (key_inj z))]
      have : decide (x ∈ y :: E) = decide (x ∈ E) := decide_eq_decide.mpr (by simp [e])
      rw [this]
theorem map_seen (E : List Nat) : E.map (fun x => seenD x) = E.map seenD := rfl
/-! ### rows by their order -/
def rowD (m x : Nat) : PyData := .tuple [lotD (BE.rowOf m x), natD x]
theorem toks_lt : ∀ {u v : List Nat} (a b : List (Int ⊕ List Nat)), BE.rowLt u v → lexLt itemOrd (PySem.W.keyToksAll (u.map natD) ++ a) (PySem.W.keyToksAll (v.map natD) ++ b) = true
  | [], _, _, _, h => by cases h
  | _ :: _, [], _, _, h => by cases h
  | x :: u, y :: v, a, b, h => by
    have e1 : PySem.W.keyToksAll ((x :: u).map natD) ++ a = .inl 1 :: .inl (x : Int) :: (PySem.W.keyToksAll (u.map natD) ++ a) := by simp [PySem.W.keyToksAll, PySem.W.keyToks, natD]
    have e2 : PySem.W.keyToksAll ((y :: v).map natD) ++ b = .inl 1 :: .inl (y : Int) :: (PySem.W.keyToksAll (v.map natD) ++ b) := by simp [PySem.W.keyToksAll, PySem.W.keyToks, natD]
    rw [e1, e2]
    have l1 := lex_self (O := itemOrd) (Sum.inl (1 : Int)) (Sum.inl (x : Int) :: (PySem.W.keyToksAll (u.map natD) ++ a)) (Sum.inl (y : Int) :: (PySem.W.keyToksAll (v.map natD) ++ b))
    rw [l1]
    rcases h with h | ⟨h, h2⟩
    · have hne : (Sum.inl (x : Int) : Int ⊕ List Nat) ≠ Sum.inl (y : Int) := fun e => by
        have := Sum.inl.inj e
        omega
      rw [lex_diff (O := itemOrd) hne]
      show decide ((x : Int) < (y : Int)) = true
      exact decide_eq_true (by omega)
    · subst h
      have l2 := lex_self (O := itemOrd) (Sum.inl (x : Int)) (PySem.W.keyToksAll (u.map natD) ++ a) (PySem.W.keyToksAll (v.map natD) ++ b)
      rw [l2]
      exact toks_lt a b h2
theorem row_lt {m x y : Nat} (h : BE.rv m x < BE.rv m y) : PySem.W.dataLt (rowD m x) (rowD m y) = true := by
  have hr := BE.row_of_val (u := BE.rowOf m x) (v := BE.rowOf m y) (fun _ => BE.rowOf_two) (fun _ => BE.rowOf_two) (by rw [BE.rowOf_len, BE.rowOf_len]) h
  have e : ∀ z, PySem.W.keyToks (rowD m z) = .inl 1 :: (PySem.W.keyToksAll ((BE.rowOf m z).map natD) ++ PySem.W.keyToksAll [natD z]) := fun z => by
    simp only [rowD, lotD, PySem.W.keyToks, PySem.W.keyToksAll]
  unfold PySem.W.dataLt
  rw [e, e]
  have l1 := lex_self (O := itemOrd) (Sum.inl (1 : Int)) (PySem.W.keyToksAll ((BE.rowOf m x).map natD) ++ PySem.W.keyToksAll [natD x]) (PySem.W.keyToksAll ((BE.rowOf m y).map natD) ++ PySem.W.keyToksAll [natD y])
  rw [l1]
  exact toks_lt _ _ hr
section
variable {P : Program} {w : World} {K : PySem.W.Frag} {mg : Str → Option Value} {base : Heap} {f : Addr} {fd : FuncData}
/-! ### _law_both(web) -/
abbrev sBoth : Stmt := top 43
def spBoth : Sp := fun vs H Q _ => ∃ (v : V) (n : Nat) (ts : BE.Ties), vs = [v] ∧ Tp H v (webD n ts) ∧ Wk n ts ∧ n ≤ 12 ∧ ts.length ≤ 12 ∧
  ∀ (l : Addr) (B : List Nat) (H' : Hp), Same H H' → H' l = some (.lst (B.map natV)) → B.Nodup → (∀ x, x ∈ B ↔ x < 2 ^ ts.length ∧ BE.V ts (BE.rv ts.length x)) → B.length ≤ 5000 → Q (.ref l) H'
theorem scBoth : FnScope ["_law_web_here", "_law_known", "_law_mask"] ["_law_web_here"] (defScope sBoth) := ⟨rfl, rfl, rfl, by decide +kernel, rfl, by decide +kernel, by decide +kernel⟩
theorem ok_both (F : Fun K "_law_both" "_law_both" sBoth f fd) (T : Txt K mg) (cE : Cal P w K mg base 1 "_law_evens" spEvens) (cC : Cal P w K mg base 2 "_law_cuts" spCuts) : FnOk P w K mg base CX0 3 f fd ["_law_web_here"] spBoth := by
  refine F.ok scBoth (fun vs H Q E h => ?_) (fun cdv A outer s H vs Q E hr h => ?_)
  · obtain ⟨_, _, _, rfl, _⟩ := h; rfl
  obtain ⟨v, n, ts, rfl, hw, wk, hn, hm, q⟩ := h
  have nd := scBoth.nd
  have hu := hu_of hr
  refine ⟨_, pss_cons (ps_set (i := 1) nd rfl (Or.inr rfl) (pe_callTy (call_dictP rfl) (by rfl) T.dict (by decide +kernel) (pa_cons (pe_lc (own := [("_law_mask", 2)]) (g := gName 2) (by rfl) nd (pi_list (pe_c cE hr (by decide) (by rfl) (pa_cons (pv 0) pa_nil))) (blkOk_by (own := [("_law_mask", 2)]) (N := ["_law_web_here", "_law_known", "_law_mask"]) (sc := defScope sBoth) (by decide +kernel))
      (fun _ _ _ _ _ => pg_name (i := 2) nd rfl (Or.inl rfl)) (fun _ _ _ _ _ => pts_nil) (fun _ _ _ _ _ => pe_tup (pa_cons (pv 2) (pa_cons pe_bl pa_nil)))) pa_nil)))
    (pss_one (ps_ret (pe_lc (own := [("_law_mask", 2)]) (g := gName 2) (by rfl) nd (pi_list (pe_c cC hr (by decide) (by rfl) (pa_cons (pv 0) pa_nil))) (blkOk_by (own := [("_law_mask", 2)]) (N := ["_law_web_here", "_law_known", "_law_mask"]) (sc := defScope sBoth) (by decide +kernel))
      (fun _ _ _ _ _ => pg_name (i := 2) nd rfl (Or.inl rfl)) (fun _ _ _ _ _ => pts_one (pt_cmp (pc_din hu (pv 2) (pv 1)))) (fun _ _ _ _ _ => pv 2)))), ?_⟩
  refine ⟨_, rfl, v, n, ts, rfl, hw, wk, hm, fun le Ev H1 s1 hle hE hEl => ⟨le, rfl, ⟨_, SqL.of hle⟩, fun D hD => ?_⟩⟩
  refine lc_tp (g := gName 2) (tt := tYes) (vs := [2]) (walk_list (K := K) (a := le) (xs := Ev.map natV)) hD (by rw [List.length_map, sizeLine_eq]; omega) (fun i => (Ev.take i).map seenD) rfl (fun H s => SqL.of (s _ _ hle)) (fun i x Ha Hb N M hi s _ y hN hM => ?_) fun Ha ys s e tp => ?_
  · obtain ⟨rfl, hx⟩ := y
    rw [List.getElem?_map] at hx
    obtain ⟨k, hk, rfl⟩ := Option.map_eq_some_iff.mp hx
    refine ⟨rfl, kept ⟨_, rfl, by show 2 ≤ sizeLine; decide, fun z hz => hN _ _ (seenD k) (same_new _ hz) (.tup upd_same (.cons (.int _) (.cons (.bl true) .nil))) ?_⟩⟩
    rw [take_snoc hk, List.map_append]
    rfl
  · rw [List.length_map, List.take_length] at tp
    obtain ⟨ps, rfl, hps⟩ := seen_inv (K := K) tp
    refine ⟨D, ps, _, rfl, SqL.of e, hps, fun d hd => ?_⟩
    have sd := same_new (.dK (mergeK [] (Ev.map seenK))) hd
    have s2 := (s1.trans s).trans sd
    refine ⟨_, rfl, v, n, ts, rfl, hw.mono (kt_same s2), wk, hn, fun lc H2 s3 hlc => ⟨lc, rfl, ⟨_, SqL.of hlc⟩, fun D2 hD2 => ?_⟩⟩
    have hd2 := s3 _ _ (upd_same (H := Ha) (a := d) (o := .dK (mergeK [] (Ev.map seenK))))
    have hcl : (cutsL n ts).length ≤ 2048 := by
      have := combos_few (L := (BE.starsTo ts (n - 1)).map (BE.rv ts.length)) (i := ((BE.starsTo ts (n - 1)).map (BE.rv ts.length)).length) (m := 11) (by unfold BE.starsTo; simp; omega)
      rw [List.take_length] at this
      have e : (2 : Nat) ^ 11 = 2048 := by decide
      unfold cutsL
      omega
    refine lc_tp (g := gName 2) (vs := [2]) (walk_list (K := K) (a := lc) (xs := (cutsL n ts).map natV)) hD2 (by rw [List.length_map, sizeLine_eq]; omega) (fun i => (((cutsL n ts).take i).filter fun x => decide (x ∈ Ev)).map natD) rfl (fun H s => SqL.of (s _ _ hlc)) (fun i x Hb Hc N M hi sx _ y hN hM => ?_) fun Hb ys sx e2 tp2 => ?_
    · obtain ⟨rfl, hx⟩ := y
      rw [List.getElem?_map] at hx
      obtain ⟨k, hk, rfl⟩ := Option.map_eq_some_iff.mp hx
      refine ⟨rfl, _, rfl, _, rfl, d, _, rfl, DGet.k (k := Sum.inl (k : Int)) (sx _ _ hd2), _, rfl, ?_⟩
      rw [merge_some]
      have ev : ((valV ([] : List (L2.Key × V)) (Sum.inl (k : Int))).isSome || decide (k ∈ Ev)) = decide (k ∈ Ev) := rfl
      rw [ev]
      have ef : ((cutsL n ts).take (i + 1)).filter (fun x => decide (x ∈ Ev)) = ((cutsL n ts).take i).filter (fun x => decide (x ∈ Ev)) ++ if decide (k ∈ Ev) then [k] else [] := by
        rw [take_snoc hk, List.filter_append, List.filter_cons, List.filter_nil]
      refine ite2 (fun c => ?_) fun c => ?_
      · refine ⟨_, rfl, hN _ _ (natD k) (Same.refl _) (.int _) ?_⟩
        show List.map natD _ = _
        rw [ef, if_pos c, List.map_append]; rfl
      · refine hM _ (Same.refl _) ?_
        show List.map natD _ = _
        rw [ef, if_neg c, List.append_nil]
    · rw [List.length_map, List.take_length] at tp2
      have e3 := tps_nats tp2
      subst e3
      refine q D2 _ Hb ((s2.trans s3).trans sx) e2 (List.Pairwise.filter _ (BE.cuts_nodup wk.web)) (fun x => ?_) ?_
      · rw [List.mem_filter, decide_eq_true_iff]
        show x ∈ cutsL n ts ∧ x ∈ Ev ↔ _
        rw [show x ∈ cutsL n ts ↔ _ from BE.mem_cuts wk.web, hE, BE.V_rv]
        exact ⟨fun ⟨⟨a, b⟩, _, c⟩ => ⟨a, b, c⟩, fun ⟨a, b, c⟩ => ⟨⟨a, b⟩, a, c⟩⟩
      · have := List.length_filter_le (fun x => decide (x ∈ Ev)) (cutsL n ts)
        omega
end
end R
end
/-! ## W19 -/
section
set_option Elab.async false
set_option linter.all false
set_option maxRecDepth 100000
set_option maxHeartbeats 4000000
namespace R
open PySem PySem.Spec PyProof.Rows L2
/-- a def of the text that may raise, by its name -/
structure CalX (P : Program) (w : World) (K : PySem.W.Frag) (mg : Str → Option Value) (base : Heap) (k : Nat) (x : Str) (ps : List Str) (sp : Sp) : Prop where
  ex : ∃ (f : Addr) (fd : FuncData), FnOk P w K mg base (L2.CX P w) k f fd ps sp ∧ mg x = some (.ref f) ∧ PySem.W.keepIn K (.ref f) = true ∧ Binds K fd ps []
theorem pe_cX {X : Cx} {k j : Nat} {x : Str} {ps : List Str} {sp : Sp} {E : L2.St → XK} {p pos : Pos} {e : Expr} {es : List Expr} {t : TA} (c : CalX X.prog X.w X.K X.mg X.base k x ps sp) (hr : Room j X.A) (hk : k ≤ j) (hg : Gl X x) (hx : ∀ σ, PassesAt (L2.CX X.prog X.w) X σ (E σ)) (ha : PA X (e :: es) t)
    (hdb : (x == ("__debug__" : Str)) = false := by decide) (he : starEach (e :: es) X.env = (false, eval e X.env) :: starEach es X.env := by rfl) (hpl : (backTo pos (starEach es X.env)).any (·.1) = false := by rfl) :
    PE X (.Call (.Name x p) (e :: es) [] pos) (tCallS sp E t) := by
  obtain ⟨f, fd, F, hm, kp, b⟩ := c.ex
  exact pe_callS F (hr.mono hk) hg hm kp b hx ha hdb he hpl
/-- the classes as a handler sees them -/
structure Exm (K : PySem.W.Frag) (CU CT : Addr) : Prop where
  uu : PySem.W.exmOne K (.ref CU) (.ref CU) = some true
  tu : PySem.W.exmOne K (.ref CT) (.ref CU) = some false
  tt : PySem.W.exmOne K (.ref CT) (.ref CT) = some true
  xf : XfC K CT
/-- what lot_at takes for no number -/
def BadN (H : Hp) (n : Nat) (ts : BE.Ties) (x : V) : Prop := (∃ t, Alien H x t) ∨ ∃ i : Int, x = .int i ∧ ¬ (0 ≤ i ∧ i < ((2 ^ (BE.parRows n ts).length : Nat) : Int))
section
variable {P : Program} {w : World} {K : PySem.W.Frag} {mg : Str → Option Value} {base : Heap} {f : Addr} {fd : FuncData}
/-! ### _law_word(way, web, value) -/
abbrev sWord : Stmt := top 45
def spWord : Sp := fun vs H Q _ => ∃ (way : Nat) (v x : V) (n : Nat) (ts : BE.Ties), vs = [natV way, v, x] ∧ Tp H v (webD n ts) ∧ Wk n ts ∧ n ≤ 50 ∧
  ((way = 1 ∧ BadN H n ts x ∧ ∀ H', Same H H' → Q (.str "unfit") H') ∨
   (∃ L, way = 2 ∧ Tp H x (lotD L) ∧ Lot ts.length L ∧ ¬ BE.Both ts (chi L) ∧ ∀ H', Same H H' → Q (.str "unfit") H') ∨
   (way = 0 ∧ 256 < 2 ^ (BE.parRows n ts).length ∧ ∀ l H', Same H H' → H' l = some (.lst [.str "many", natV 256]) → Q (.ref l) H'))
theorem scWord : FnScope ["_law_way", "_law_web_here", "_law_value", "_law_some", "refusal"] ["_law_way", "_law_web_here", "_law_value"] (defScope sWord) := ⟨rfl, rfl, rfl, by decide +kernel, rfl, by decide +kernel, by decide +kernel⟩
theorem ok_word {CU CT : Addr} (F : Fun K "_law_word" "_law_word" sWord f fd) (U : UnfitC P w K mg base CU) (M : ManyC P w K mg base CT) (X0 : Exm K CU CT) (cA : CalX P w K mg base 5 "all_lots" ["web"] (spAll CT)) (cT : CalX P w K mg base 5 "lot_at" ["web", "number"] (spAt CU)) (cN : CalX P w K mg base 6 "lot_number" ["web", "lot"] (spNumber CU)) :
    FnOk P w K mg base CX0 7 f fd ["_law_way", "_law_web_here", "_law_value"] spWord := by
  refine F.ok scWord (fun vs H Q E h => ?_) (fun cdv A outer s H vs Q E hr h => ?_)
  · obtain ⟨_, _, _, _, _, rfl, _⟩ := h; rfl
  obtain ⟨way, v, x, n, ts, rfl, hw, wk, hn, h⟩ := h
  have nd := scWord.nd
  refine ⟨_, pss_one (ps_try_two (i := 4) rfl rfl nd rfl rfl ⟨rfl, by decide, .inl U.mg⟩ ⟨rfl, by decide, .inl M.mg⟩
    (fun W pn xe tk _ => pss_cons (ps_set (i := 3) nd rfl (Or.inl rfl) (pe_ifExp (pt_cmpR op_eqN (pv 0) pe_int (nomark _)) (pe_cX cA hr (by decide) (by rfl) (fun σ => passAt tk σ) (pa_cons (pv 1) pa_nil))
        (pe_ifExp (pt_cmpR op_eqN (pv 0) pe_int (nomark _)) (pe_cX cT hr (by decide) (by rfl) (fun σ => passAt tk σ) (pa_cons (pv 1) (pa_cons (pv 2) pa_nil))) (pe_cX cN hr (by decide) (by rfl) (fun σ => passAt tk σ) (pa_cons (pv 1) (pa_cons (pv 2) pa_nil))))))
      (pss_one (ps_ret (pe_lst (pa_cons pe_str (pa_cons (pv 3) pa_nil))))))
    (fun a oe cls d pn hz hf => pss_one (ps_ret pe_str))
    (fun a oe cls d pn hz hf => pss_one (ps_ret (pe_lst (pa_cons pe_str (pa_cons (pe_xf X0.xf M.no hz hf (pv 4)) pa_nil)))))), ?_⟩
  rcases h with ⟨rfl, hb, q⟩ | ⟨L, rfl, hL, hLo, hnb, q⟩ | ⟨rfl, hbig, q⟩
  · refine ⟨_, rfl, 1, 0, rfl, rfl, trivial, _, rfl, iteF ⟨_, rfl, 1, 1, rfl, rfl, trivial, _, rfl, iteT ⟨_, rfl, _, rfl, v, x, n, ts, rfl, hw, wk, hn, .inr ⟨hb, fun H' s => .inl ⟨X0.uu, fun a ha => q H' s⟩⟩⟩⟩⟩
  · refine ⟨_, rfl, 2, 0, rfl, rfl, trivial, _, rfl, iteF ⟨_, rfl, 2, 1, rfl, rfl, trivial, _, rfl, iteF ⟨_, rfl, _, rfl, v, x, n, ts, L, rfl, hw, hL, wk, hn, hLo, fun i bs H' s hB hi e => ?_, fun _ H' s => .inl ⟨X0.uu, fun a ha => q H' s⟩⟩⟩⟩
    refine absurd ?_ hnb
    have hV : BE.V ts (BE.nb bs.reverse i) := (hB.rspan _).mp (BE.nb_span _ _)
    refine (BE.both_iff fun k hk => ?_).mp hV.2
    have h1 : k ∈ BE.lotOfBits ts.length (BE.nb bs.reverse i) ↔ k ∈ L := by rw [e]
    rw [BE.mem_lotOfBits] at h1
    show BE.sel ts.length (BE.nb bs.reverse i) k = decide (k ∈ L)
    by_cases c : k ∈ L
    · rw [decide_eq_true c]; exact (h1.mpr c).2
    · rw [decide_eq_false c]
      cases z : BE.sel ts.length (BE.nb bs.reverse i) k with
      | false => rfl
      | true => exact absurd (h1.mp ⟨hk, z⟩) c
  · refine ⟨_, rfl, 0, 0, rfl, rfl, trivial, _, rfl, iteT ⟨_, rfl, v, n, ts, rfl, hw, wk, hn, fun _ d H' s hd => .inr ⟨X0.tu, X0.tt, fun a ha => ?_⟩, fun z => absurd hbig (by omega)⟩⟩
    exact ⟨_, rfl, rfl, rfl, d, _, natV 256, rfl, hd, rfl, by show 2 ≤ sizeLine; decide, fun l hl => q l _ (same_upd _ s (new_old s hl)) upd_same⟩
end
end R
end
/-! ## W20 -/
section
set_option Elab.async false
set_option linter.all false
set_option maxRecDepth 100000
set_option maxHeartbeats 4000000
namespace R
open PySem PySem.Spec PyProof.Rows L2
/-! ### the texts of data -/
theorem piled_le {B : Nat} : ∀ {ts : List Str}, (∀ t ∈ ts, t.length ≤ B) → piled ts ≤ ts.length * (B + 2)
  | [], _ => by simp [piled]
  | t :: ts, h => by
    have h1 := h t List.mem_cons_self
    have h2 := piled_le (B := B) (ts := ts) fun x hx => h x (List.mem_cons_of_mem _ hx)
    rw [piled_cons, List.length_cons, Nat.succ_mul]
    omega
theorem tuple_len {B : Nat} {ts : List Str} (h : ∀ t ∈ ts, t.length ≤ B) : (tupleText ts).length ≤ ts.length * (B + 2) + 3 := by
  have h1 := piled_le h
  have e1 : (("(" : Str)).length = 1 := by decide +kernel
  have e2 : ((if ts.length == 1 then ",)" else ")" : String) : Str).length ≤ 2 := by
    split <;> decide +kernel
  unfold tupleText
  rw [strLen_append, strLen_append, e1]
  by_cases hn : ts = []
  · subst hn
    have : (Str.join ", " []).length = 0 := by decide +kernel
    rw [this]; omega
  · have := join_length_add ts hn
    omega
theorem text_len : ∀ (ts : List Str) (k : Nat) (acc : Str), (textFrom k acc ts).length ≤ acc.length + piled ts
  | [], k, acc => by show acc.length ≤ _; omega
  | t :: r, k, acc => by
    have ih := text_len r (k + 1) (acc ++ (if k > 0 then ", " else "" : String) ++ t)
    have e : (((if k > 0 then ", " else "" : String) : Str)).length ≤ 2 := by
      split <;> decide +kernel
    rw [strLen_append, strLen_append] at ih
    rw [piled_cons]
    show (textFrom (k + 1) (acc ++ (if k > 0 then ", " else "" : String) ++ t) r).length ≤ _
    omega
theorem list_len {B : Nat} {ts : List Str} (h : ∀ t ∈ ts, t.length ≤ B) : (listText ts).length ≤ ts.length * (B + 2) + 2 := by
  have h1 := piled_le h
  have h2 := text_len ts 0 "["
  have e1 : (("[" : Str)).length = 1 := by decide +kernel
  have e2 : (("]" : Str)).length = 1 := by decide +kernel
  unfold listText
  rw [strLen_append, e2]
  rw [e1] at h2
  omega
theorem shownAll_map (ds : List PyData) : PyData.shownAll ds = ds.map PyData.shown := by
  induction ds with
  | nil => simp [PyData.shownAll]
  | cons d ds ih => simp [PyData.shownAll, ih]
/-- data whose text is short -/
structure Sh (d : PyData) (B : Nat) : Prop where
  s : d.showable = true
  n : d.hasDict = false
  l : d.shown.length ≤ B
theorem showAll {ds : List PyData} {B : Nat} (h : ∀ d ∈ ds, Sh d B) : PyData.showableAll ds = true ∧ PyData.hasDictAll ds = false := by
  induction ds with
  | nil => simp [PyData.showableAll, PyData.hasDictAll]
  | cons d ds ih =>
    obtain ⟨h1, h2⟩ := ih fun x hx => h x (List.mem_cons_of_mem _ hx)
    have h3 := h d List.mem_cons_self
    simp [PyData.showableAll, PyData.hasDictAll, h1, h2, h3.s, h3.n]
theorem Sh.tuple {ds : List PyData} {B : Nat} (h : ∀ d ∈ ds, Sh d B) : Sh (.tuple ds) (ds.length * (B + 2) + 3) := by
  obtain ⟨h1, h2⟩ := showAll h
  refine ⟨by simpa [PyData.showable] using h1, by simpa [PyData.hasDict] using h2, ?_⟩
  have := tuple_len (B := B) (ts := ds.map PyData.shown) fun t ht => by
    obtain ⟨d, hd, rfl⟩ := List.mem_map.mp ht
    exact (h d hd).l
  rw [List.length_map] at this
  simpa only [PyData.shown, shownAll_map] using this
theorem Sh.list {ds : List PyData} {B : Nat} (h : ∀ d ∈ ds, Sh d B) : Sh (.list ds) (ds.length * (B + 2) + 2) := by
  obtain ⟨h1, h2⟩ := showAll h
  refine ⟨by simpa [PyData.showable] using h1, by simpa [PyData.hasDict] using h2, ?_⟩
  have := list_len (B := B) (ts := ds.map PyData.shown) fun t ht => by
    obtain ⟨d, hd, rfl⟩ := List.mem_map.mp ht
    exact (h d hd).l
  rw [List.length_map] at this
  simpa only [PyData.shown, shownAll_map] using this
theorem Sh.mono {d : PyData} {B C : Nat} (h : Sh d B) (hl : B ≤ C) : Sh d C := ⟨h.s, h.n, Nat.le_trans h.l hl⟩
theorem sh_nat {k : Nat} (h : k < 10 ^ 10) : Sh (natD k) 10 := by
  refine ⟨?_, by simp [natD, PyData.hasDict], ?_⟩
  · simp only [natD, PyData.showable, decide_eq_true_iff, Int.natAbs_natCast]
    rcases Nat.eq_zero_or_pos k with z | z
    · subst z; decide
    · exact Nat.lt_trans ((Nat.log2_lt (by omega)).mpr (show k < 2 ^ 40 by have : (10 : Nat) ^ 10 < 2 ^ 40 := by decide
                                                                           omega)) (by decide)
  · simp only [natD, PyData.shown]
    exact toString_length_le (by omega) (by decide) (by have : ((10 : Nat) ^ 10 : Nat) = (10000000000 : Nat) := by decide
                                                        rw [this] at h
                                                        show (k : Int) < 10000000000
                                                        omega)
theorem sh_lot {L : List Nat} {c : Nat} (h : ∀ k ∈ L, k < 10 ^ 10) (hl : L.length ≤ c) : Sh (lotD L) (c * 12 + 3) := by
  have := Sh.tuple (ds := L.map natD) (B := 10) fun d hd => by
    obtain ⟨k, hk, rfl⟩ := List.mem_map.mp hd
    exact sh_nat (h k hk)
  rw [List.length_map] at this
  exact this.mono (by have := Nat.mul_le_mul_right 12 hl; omega)
theorem eqv_nats : ∀ (L M : List Nat), PyData.eqvAll (L.map natD) (M.map natD) = decide (L = M)
  | [], [] => by simp [PyData.eqvAll]
  | [], _ :: _ => by simp [PyData.eqvAll]
  | _ :: _, [] => by simp [PyData.eqvAll]
  | a :: L, b :: M => by
    rw [List.map_cons, List.map_cons]
    simp only [PyData.eqvAll, eqv_nats L M, natD, PyData.eqv]
    by_cases h : a = b
    · subst h; simp
    · have hne : ¬ (a : Int) = (b : Int) := fun e => h (Int.ofNat.inj e)
      have : ((a : Int) == (b : Int)) = false := by simpa using hne
      simp [this, h]
theorem eqv_lot (L M : List Nat) : PyData.eqv (lotD L) (lotD M) = decide (L = M) := by
  simp only [lotD, PyData.eqv]
  exact eqv_nats L M
theorem any_lots (Ls : List (List Nat)) (L : List Nat) : (Ls.map lotD).any (fun z => PyData.eqv z (lotD L)) = decide (L ∈ Ls) := by
  rw [List.any_map]
  induction Ls with
  | nil => rfl
  | cons M Ls ih =>
    rw [List.any_cons, ih]
    show (PyData.eqv (lotD M) (lotD L) || _) = _
    rw [eqv_lot]
    by_cases h : M = L
    · subst h; simp
    · have h2 : ¬ L = M := fun e => h e.symm
      simp [h, h2]
/-! ### bases agree -/
theorem base_same {n : Nat} {ts : BE.Ties} {bs cs : List Nat} (B : Base n ts bs) (C : Base n ts cs) {i : Nat} (h : i < 2 ^ bs.length) : BE.nb bs.reverse i = BE.nb cs.reverse i :=
  (BE.ech_same B.ech C.ech fun x => (B.rspan x).trans (C.rspan x).symm).2 i (by rw [List.length_reverse]; exact h)
theorem nb_V {n : Nat} {ts : BE.Ties} {bs : List Nat} (B : Base n ts bs) (i : Nat) : BE.V ts (BE.nb bs.reverse i) := (B.rspan _).mp (BE.nb_span _ _)
theorem nb_inj {n : Nat} {ts : BE.Ties} {bs : List Nat} (B : Base n ts bs) {i j : Nat} (hi : i < 2 ^ bs.length) (hj : j < 2 ^ bs.length) (h : BE.nb bs.reverse i = BE.nb bs.reverse j) : i = j := by
  rcases Nat.lt_trichotomy i j with z | z | z
  · have := BE.nb_mono B.ech z (by rw [List.length_reverse]; exact hj)
    omega
  · exact z
  · have := BE.nb_mono B.ech z (by rw [List.length_reverse]; exact hi)
    omega
/-- a lot's number is its own -/
theorem num_own {n : Nat} {ts : BE.Ties} {bs cs : List Nat} (B : Base n ts bs) (C : Base n ts cs) {i j : Nat} (hi : i < 2 ^ bs.length) (hj : j < 2 ^ cs.length) (h : BE.lotOfBits ts.length (BE.nb cs.reverse j) = BE.lotOfBits ts.length (BE.nb bs.reverse i)) : j = i := by
  have hl : cs.length = bs.length := by rw [C.len, B.len]
  have h2 := congrArg (BE.bitsOf ts.length) h
  rw [BE.bitsOf_lotOfBits (nb_V C j).1, BE.bitsOf_lotOfBits (nb_V B i).1] at h2
  rw [hl] at hj
  exact nb_inj B hj hi ((base_same B C hj).trans h2)
theorem lots_len {m : Nat} (bs : List Nat) : (lotsOf m bs).length = 2 ^ bs.length := by
  unfold lotsOf BE.allNb
  rw [List.length_map, List.length_map, List.length_range, List.length_reverse]
theorem lots_get {m : Nat} {bs : List Nat} {i : Nat} (h : i < 2 ^ bs.length) : (lotsOf m bs)[i]? = some (BE.lotOfBits m (BE.nb bs.reverse i)) := by
  unfold lotsOf BE.allNb
  rw [List.getElem?_map, List.getElem?_map, List.length_reverse, List.getElem?_range h]
  rfl
theorem lot_of {n : Nat} {ts : BE.Ties} {bs : List Nat} (B : Base n ts bs) (i : Nat) : Lot ts.length (BE.lotOfBits ts.length (BE.nb bs.reverse i)) := ⟨BE.lotOfBits_rise _ _, fun _ h => BE.lotOfBits_lt h⟩
/-- what is not listed is not both even -/
theorem not_listed {n : Nat} {ts : BE.Ties} {bs L : List Nat} (B : Base n ts bs) (hL : Lot ts.length L) (h : L ∉ lotsOf ts.length bs) : ¬ BE.Both ts (chi L) := fun hb => by
  have hx : BE.V ts (BE.bitsOf ts.length L) := ⟨BE.bitsOf_lt' hL.rise hL.lt, (BE.both_iff fun k hk => (BE.sel_bitsOf k hL.rise hL.lt hk).symm).mp hb⟩
  refine h (List.mem_map.mpr ⟨BE.bitsOf ts.length L, ?_, BE.lotOfBits_bitsOf hL.rise hL.lt⟩)
  rw [BE.mem_allNb]
  exact (B.rspan _).mpr hx
/-! ### calls of defs that could raise, where they do not -/
theorem passE {X : Cx} : Passes (L2.CX X.prog X.w) X E0 := fun _ _ _ _ _ _ _ h => by
  obtain ⟨_, _, _, _, _, _, _, _, _, _, _, _, z⟩ := h
  exact z.elim
theorem pe_cE {X : Cx} {k j : Nat} {x : Str} {ps : List Str} {sp : Sp} {p pos : Pos} {e : Expr} {es : List Expr} {t : TA} (c : CalX X.prog X.w X.K X.mg X.base k x ps sp) (hr : Room j X.A) (hk : k ≤ j) (hg : Gl X x) (ha : PA X (e :: es) t)
    (hdb : (x == ("__debug__" : Str)) = false := by decide) (he : starEach (e :: es) X.env = (false, eval e X.env) :: starEach es X.env := by rfl) (hpl : (backTo pos (starEach es X.env)).any (·.1) = false := by rfl) :
    PE X (.Call (.Name x p) (e :: es) [] pos) (tC0 sp t) := by
  obtain ⟨f, fd, F, hm, kp, b⟩ := c.ex
  have q := pe_call (p := p) F (hr.mono hk) hg hm kp b .nil passE ha hdb he hpl
  refine ⟨fun pins s σ H Q I h => q.run pins s σ H Q I ?_⟩
  have e1 : tCall sp [] E0 t = tC0 sp t := by
    funext σ H Q
    unfold tCall tC0
    congr 1
    funext vs H1
    rw [List.append_nil]
  rw [e1]
  exact h
structure CalW (P : Program) (w : World) (K : PySem.W.Frag) (mg : Str → Option Value) (base : Heap) (k : Nat) (x : Str) (ps ks : List Str) (sp : Sp) : Prop where
  ex : ∃ (f : Addr) (fd : FuncData) (g : List Value → List Value → List Value), FnOk P w K mg base (L2.CX P w) k f fd ps sp ∧ mg x = some (.ref f) ∧ PySem.W.keepIn K (.ref f) = true ∧ KBn K fd ps 0 ks g fun _ zs => zs.reverse
def tCW (m : Nat) (sp : Sp) (tk : TA) : TE := fun σ H Q => tk σ H fun zs H2 => zs.length = m ∧ sp zs.reverse H2 Q E0
theorem pe_cW {X : Cx} {k j : Nat} {x : Str} {ps ks : List Str} {sp : Sp} {p pos : Pos} {kws : List Keyword} {tk : TA} (c : CalW X.prog X.w X.K X.mg X.base k x ps ks sp) (hr : Room j X.A) (hk : k ≤ j) (hg : Gl X x)
    (hkw : PK X kws tk) (hall : (backToKw pos (keywordEach kws X.env)).all (·.1.isSome) = true := by rfl) (hks : (backToKw pos (keywordEach kws X.env)).filterMap (·.1) = ks := by rfl) (hdb : (x == ("__debug__" : Str)) = false := by decide)
    (hpl : ((backTo pos (starEach [] X.env)).any (·.1) || (backToKw pos (keywordEach kws X.env)).any (·.1.isNone)) = false := by rfl) :
    PE X (.Call (.Name x p) [] kws pos) (tCW ks.length sp tk) := by
  obtain ⟨f, fd, g, F, hm, kp, b⟩ := c.ex
  exact pe_callW F (hr.mono hk) hg hm kp b passE hkw hall hks hdb hpl
theorem vals_rev : ∀ {zs : List V} {ws : List Value}, Vals zs ws → Vals zs.reverse ws.reverse
  | _, _, .nil => .nil
  | _, _, .cons r t => by
    rw [List.reverse_cons, List.reverse_cons]
    exact (vals_rev t).append (.cons r .nil)
theorem kb_of {K : PySem.W.Frag} {x qual : Str} {st : Stmt} {f : Addr} {fd : FuncData} {ps ks : List Str} (F : Fun K x qual st f fd)
    (h : ∀ (kV doc pm : Value) (an : Option Addr) (cdv ct : Value) (ws : List Value), ws.length = ks.length → bindArgs (PySem.W.fnOf x qual (defArgs st) (defBody st) (defScope st) .none kV doc pm an cdv ct) ⟨[], ks.zip ws⟩ = pure (ps.zip ws.reverse)) :
    KBn K fd ps 0 ks (fun _ ws => ws.reverse) fun _ zs => zs.reverse := by
  obtain ⟨oc, od, kV, doc, pm, an, cdv, ct, osl, rfl, lk, hcd⟩ := F.ex
  refine ⟨fun s us ws _ h0 hl => ?_, fun _ r => vals_rev r⟩
  cases us with
  | nil => exact .of_eq (h kV doc pm an cdv ct ws hl)
  | cons _ _ => cases h0
end R
end
/-! ## W21 -/
section
set_option Elab.async false
set_option linter.all false
set_option maxRecDepth 100000
set_option maxHeartbeats 4000000
namespace R
open PySem PySem.Spec PyProof.Rows L2
/-! ### the sorted rows -/
theorem alike_nats : ∀ L M : List Nat, PySem.W.alikeAll (L.map natD) (M.map natD) = true
  | [], _ => by simp [PySem.W.alikeAll]
  | _ :: _, [] => by simp [PySem.W.alikeAll]
  | a :: L, b :: M => by
    rw [List.map_cons, List.map_cons]
    simp [PySem.W.alikeAll, PySem.W.alike, natD]
    exact alike_nats L M
theorem alike_rows (m x y : Nat) : PySem.W.alike (rowD m x) (rowD m y) = true := by
  have := alike_nats (BE.rowOf m x) (BE.rowOf m y)
  simp [rowD, lotD, natD, PySem.W.alike, PySem.W.alikeAll] at this ⊢
  exact this
def unRow : PyData → Nat
  | .tuple [_, .int i] => i.toNat
  | _ => 0
theorem un_row (m x : Nat) : unRow (rowD m x) = x := by simp [rowD, natD, unRow]
theorem zip_tp {H : Hp} : ∀ {ys : List V} {ds : List PyData}, Tps H ys ds → ∀ z ∈ ys.zip ds, Tp H z.1 z.2
  | _, _, .nil, z, hz => by cases hz
  | _, _, .cons a t, z, hz => by
    rcases List.mem_cons.mp hz with e | e
    · rw [e]; exact a
    · exact zip_tp t z e
theorem tps_of_all {H : Hp} : ∀ {zs : List (V × PyData)}, (∀ z ∈ zs, Tp H z.1 z.2) → Tps H (zs.map (·.1)) (zs.map (·.2))
  | [], _ => .nil
  | z :: zs, h => .cons (h z List.mem_cons_self) (tps_of_all fun y hy => h y (List.mem_cons_of_mem _ hy))
/-- what sorted leaves -/
theorem sorted_rows {H : Hp} {m : Nat} {ys : List V} {B : List Nat} {zs : List (V × PyData)} (ht : Tps H ys (B.map (rowD m))) (hn : B.Nodup) (hb : ∀ x ∈ B, x < 2 ^ m) (hp : zs.Perm (ys.zip (B.map (rowD m)))) (hs : zs.Pairwise fun x y => PySem.W.dataLt y.2 x.2 = false) :
    ∃ ms : List Nat, (∀ x, x ∈ ms ↔ x ∈ B) ∧ ms.length = B.length ∧ Tps H (zs.map (·.1)) (ms.map (rowD m)) ∧ ms.Pairwise fun x y => BE.rv m x < BE.rv m y := by
  have hl : ys.length = (B.map (rowD m)).length := Tps.length ht
  have p2 : (zs.map (·.2)).Perm (B.map (rowD m)) := by
    have := hp.map (·.2)
    rw [zip_snd hl] at this
    exact this
  have e : zs.map (·.2) = ((zs.map (·.2)).map unRow).map (rowD m) := by
    rw [List.map_map]
    refine (List.map_id _).symm.trans (List.map_congr_left fun d hd => ?_)
    obtain ⟨x, _, rfl⟩ := List.mem_map.mp (p2.mem_iff.mp hd)
    show rowD m x = rowD m (unRow (rowD m x))
    rw [un_row]
  have p3 : ((zs.map (·.2)).map unRow).Perm B := by
    have := p2.map unRow
    rw [List.map_map (f := rowD m)] at this
    have e1 : B.map (unRow ∘ rowD m) = B := (List.map_congr_left fun x _ => un_row m x).trans (List.map_id B)
    rw [e1] at this
    exact this
  refine ⟨(zs.map (·.2)).map unRow, fun x => p3.mem_iff, p3.length_eq, ?_, ?_⟩
  · rw [← e]
    exact tps_of_all fun z hz => zip_tp ht z (hp.mem_iff.mp hz)
  · have h1 : (zs.map (·.2)).Pairwise fun d e => PySem.W.dataLt e d = false := by rw [List.pairwise_map]; exact hs
    rw [e, List.pairwise_map] at h1
    have h2 : ((zs.map (·.2)).map unRow).Nodup := p3.nodup_iff.mpr hn
    refine List.Pairwise.imp_of_mem ?_ (h1.and h2)
    intro x y hx hy h
    have hx2 := hb x (p3.mem_iff.mp hx)
    have hy2 := hb y (p3.mem_iff.mp hy)
    rcases Nat.lt_trichotomy (BE.rv m x) (BE.rv m y) with z | z | z
    · exact z
    · exact absurd (BE.rv_inj hx2 hy2 z) h.2
    · have := row_lt z
      rw [h.1] at this
      cases this
theorem row_inv {H : Hp} {x : V} {m k : Nat} (h : Tp H x (rowD m k)) : ∃ q r, x = .ref q ∧ H q = some (.tup [r, natV k]) := by
  obtain ⟨q, xs, e, h1, h2⟩ := Tp.tup_inv h
  cases h2 with
  | cons x1 h2 =>
    cases h2 with
    | cons x2 h2 =>
      cases h2
      rw [Tp.int_inv x2] at h1
      exact ⟨q, _, e, h1⟩
theorem neF {A B : Prop} {x : V} (h : B) : if (!decide (x = x)) = true then A else B := by rw [decide_eq_true rfl]; exact iteF h
/-- f(k = v) if named else f(v) -/
theorem ifn1 {σ : L2.St} {nm : Bool} {v : V} {sp : Sp} {H : Hp} {Q : VK} (h2 : σ[2]? = some (some (.bl nm))) (h1 : σ[1]? = some (some v)) (h : sp [v] H Q E0) :
    tIf (tB (tVar 2)) (tCW 1 sp (tCons (tVar 1) tNil)) (tC0 sp (tCons (tVar 1) tNil)) σ H Q := by
  refine ⟨_, h2, nm, rfl, ?_⟩
  cases nm with
  | true => exact iteT ⟨_, h1, rfl, h⟩
  | false => exact iteF ⟨_, h1, h⟩
theorem ifn2 {σ : L2.St} {nm : Bool} {v x : V} {te : TE} {sp : Sp} {H : Hp} {Q : VK} (h2 : σ[2]? = some (some (.bl nm))) (h1 : σ[1]? = some (some v)) (ht : ∀ Q' : VK, Q' x H → te σ H Q') (h : sp [v, x] H Q E0) :
    tIf (tB (tVar 2)) (tCW 2 sp (tCons te (tCons (tVar 1) tNil))) (tC0 sp (tCons (tVar 1) (tCons te tNil))) σ H Q := by
  refine ⟨_, h2, nm, rfl, ?_⟩
  cases nm with
  | true => exact iteT (ht _ ⟨_, h1, rfl, h⟩)
  | false => exact iteF ⟨_, h1, ht _ h⟩
theorem BadN.same {H H' : Hp} {n : Nat} {ts : BE.Ties} {x : V} (h : BadN H n ts x) (s : Same H H') : BadN H' n ts x := by
  rcases h with ⟨t, a⟩ | h
  · exact .inl ⟨t, a.same s⟩
  · exact .inr h
theorem chi_lot {m b k : Nat} (hk : k < m) : BE.sel m b k = chi (BE.lotOfBits m b) k := by
  unfold chi
  by_cases c : k ∈ BE.lotOfBits m b
  · rw [decide_eq_true c]; exact (BE.mem_lotOfBits.mp c).2
  · rw [decide_eq_false c]
    cases z : BE.sel m b k with
    | false => rfl
    | true => exact absurd (BE.mem_lotOfBits.mpr ⟨hk, z⟩) c
section
variable {P : Program} {w : World} {K : PySem.W.Frag} {mg : Str → Option Value} {base : Heap} {f : Addr} {fd : FuncData}
/-! ### _law_is_listed(urn, web, is_named) -/
abbrev sListed : Stmt := top 46
def spListed : Sp := fun vs H Q _ => ∃ (u dl : Addr) (v : V) (nm : Bool) (n : Nat) (ts : BE.Ties), vs = [.ref u, v, .bl nm] ∧ UrnAt H u dl ∧ Tp H v (webD n ts) ∧ Wk n ts ∧ n ≤ 8 ∧ ts.length ≤ 12 ∧ ∀ H', UrnAt H' u dl → Fr u dl H H' → Q (.bl true) H'
theorem scListed : FnScope ["_law_urn_here", "_law_web_here", "_law_is_named", "_law_many", "_law_rows", "_law_due", "_law_found", "_law_number", "_law_lot_here", "_law_own", "_law_value", "_law_mask", "_law_row_here", "_law_k"] ["_law_urn_here", "_law_web_here", "_law_is_named"] (defScope sListed) := ⟨rfl, rfl, rfl, by decide +kernel, rfl, by decide +kernel, by decide +kernel⟩
theorem ok_listed {CU CT : Addr} (F : Fun K "_law_is_listed" "_law_is_listed" sListed f fd) (T : Txt K mg) (cBoth : Cal P w K mg base 3 "_law_both" spBoth) (cRow : Cal P w K mg base 1 "_law_row" spRow) (cLot : Cal P w K mg base 1 "_law_lot" spLot) (cPow : Cal P w K mg base 1 "_law_power" spPower)
    (cMany : Cal P w K mg base 4 "lot_many" spLotMany) (cTake : Cal P w K mg base 1 "_law_take" spTake) (cWord : Cal P w K mg base 7 "_law_word" spWord)
    (cAll : CalX P w K mg base 5 "all_lots" ["web"] (spAll CT)) (cAt : CalX P w K mg base 5 "lot_at" ["web", "number"] (spAt CU)) (cNum : CalX P w K mg base 6 "lot_number" ["web", "lot"] (spNumber CU))
    (wAll : CalW P w K mg base 5 "all_lots" ["web"] ["web"] (spAll CT)) (wAt : CalW P w K mg base 5 "lot_at" ["web", "number"] ["number", "web"] (spAt CU)) (wNum : CalW P w K mg base 6 "lot_number" ["web", "lot"] ["lot", "web"] (spNumber CU)) :
    FnG P w K mg base CX0 8 f fd ["_law_urn_here", "_law_web_here", "_law_is_named"] spListed := by
  refine okG F scListed (fun vs H Q E h => ?_) (fun cdv A outer s H vs Q E hgd hr h => ?_)
  · obtain ⟨_, _, _, _, _, _, rfl, _⟩ := h; rfl
  obtain ⟨u, dl, v, nm, n, ts, rfl, hU, hw, wk, hn, hm, q⟩ := h
  obtain ⟨a, t, rs, W⟩ := web_inv hw
  obtain rfl := W.v
  have nd := scListed.nd
  have hut : (A.deeper (envOfC "_law_is_listed" (defScope sListed) s.heap.objs.size f cdv)).units + 65 < cLine := by have := hr.un; omega
  refine ⟨_, (pss_cons (ps_set (i := 3) nd rfl (Or.inr rfl) (pe_callB call_len_seq (by rfl) T.len PySem.boot_len (pa_cons (pe_ix ix_tup (pv 1) pe_int (fun _ _ => rfl)) pa_nil)))
    (pss_cons (ps_set (i := 4) nd rfl (Or.inl rfl) (pe_callB (cr_sortedD hr.units) (by rfl) T.sorted (by decide +kernel) (pa_cons (pe_lc (own := [("_law_mask", 11)]) (g := gName 11) (by rfl) nd (pi_list (pe_c cBoth hr (by decide) (by rfl) (pa_cons (pv 1) pa_nil))) (blkOk_by (own := [("_law_mask", 11)]) (N := ["_law_urn_here", "_law_web_here", "_law_is_named", "_law_many", "_law_rows", "_law_due", "_law_found", "_law_number", "_law_lot_here", "_law_own", "_law_value", "_law_mask", "_law_row_here", "_law_k"]) (sc := defScope sListed) (by decide +kernel)) (fun _ _ _ _ _ => (pg_name (i := 11) nd rfl (Or.inl rfl))) (fun _ _ _ _ _ => pts_nil) (fun _ _ _ _ _ => pe_tup (pa_cons (pe_c cRow hr (by decide) (by rfl) (pa_cons (pv 11) (pa_cons (pv 3) pa_nil))) (pa_cons (pv 11) pa_nil)))) pa_nil)))
    (pss_cons (ps_set (i := 5) nd rfl (Or.inl rfl) (pe_callTy call_tuple_of (by rfl) T.tuple (by decide +kernel) (pa_cons (pe_lc (own := [("_law_row_here", 12), ("_law_mask", 11)]) (g := gTup K 2 (gCons (gName 12) (gCons (gName 11) gNil))) (by rfl) nd (pi_list (pv 4)) (blkOk_by (own := [("_law_row_here", 12), ("_law_mask", 11)]) (N := ["_law_urn_here", "_law_web_here", "_law_is_named", "_law_many", "_law_rows", "_law_due", "_law_found", "_law_number", "_law_lot_here", "_law_own", "_law_value", "_law_mask", "_law_row_here", "_law_k"]) (sc := defScope sListed) (by decide +kernel)) (fun _ _ _ _ _ => pg_tup (by rfl) (pgs_cons (pg_name (i := 12) nd rfl (Or.inl rfl)) (pgs_cons (pg_name (i := 11) nd rfl (Or.inl rfl)) pgs_nil))) (fun _ _ _ _ _ => pts_nil) (fun _ _ _ _ _ => (pe_c cLot hr (by decide) (by rfl) (pa_cons (pv 11) pa_nil)))) pa_nil)))
    (pss_cons (ps_set (i := 6) nd rfl (Or.inl rfl) (pe_ifExp (pt_val (pv 2)) (pe_cW wAll hr (by decide) (by rfl) (pk_cons (pv 1) pk_nil)) (pe_cE cAll hr (by decide) (by rfl) (pa_cons (pv 1) pa_nil))))
    (pss_cons (ps_if (PW.pt (pw_or (pt_cmpR op_ne (pe_callB (call_reprD hgd hr.units) (by rfl) T.repr (by decide +kernel) (pa_cons (pv 6) pa_nil)) (pe_callB (call_reprD hgd hr.units) (by rfl) T.repr (by decide +kernel) (pa_cons (pv 5) pa_nil)) (nomark _)) (pw_or1 (pt_cmpR op_neN (pe_callB call_len_seq (by rfl) T.len PySem.boot_len (pa_cons (pv 5) pa_nil)) (pe_c cPow hr (by decide) (by rfl) (pa_cons (pe_c cMany hr (by decide) (by rfl) (pa_cons (pv 1) pa_nil)) pa_nil)) (nomark _))))) (pss_one (ps_ret pe_bl)) pss_nil)
    (pss_cons (ps_for PassesOwn.never rfl (pi_list (pe_lst (pa_cons pe_int (pa_cons (pe_op op_subN (pe_callB call_len_seq (by rfl) T.len PySem.boot_len (pa_cons (pv 5) pa_nil)) pe_int) (pa_cons (pe_c cTake hr (by decide) (by rfl) (pa_cons (pv 0) (pa_cons (pe_callB call_len_seq (by rfl) T.len PySem.boot_len (pa_cons (pv 5) pa_nil)) pa_nil))) pa_nil))))) (pg_name (i := 7) nd rfl (Or.inl rfl))
    (pss_cons (ps_set (i := 8) nd rfl (Or.inl rfl) (pe_ifExp (pt_val (pv 2)) (pe_cW wAt hr (by decide) (by rfl) (pk_cons (pv 7) (pk_cons (pv 1) pk_nil))) (pe_cE cAt hr (by decide) (by rfl) (pa_cons (pv 1) (pa_cons (pv 7) pa_nil)))))
    (pss_cons (ps_set (i := 9) nd rfl (Or.inl rfl) (pe_ifExp (pt_val (pv 2)) (pe_cW wNum hr (by decide) (by rfl) (pk_cons (pe_ix ix_tup (pv 5) (pv 7) (fun _ _ => rfl)) (pk_cons (pv 1) pk_nil))) (pe_cE cNum hr (by decide) (by rfl) (pa_cons (pv 1) (pa_cons (pe_ix ix_tup (pv 5) (pv 7) (fun _ _ => rfl)) pa_nil)))))
    (pss_one (ps_if (pt_cmpR op_ne (pe_callB (call_reprD hgd hr.units) (by rfl) T.repr (by decide +kernel) (pa_cons (pe_lst (pa_cons (pv 8) (pa_cons (pv 9) pa_nil))) pa_nil)) (pe_callB (call_reprD hgd hr.units) (by rfl) T.repr (by decide +kernel) (pa_cons (pe_lst (pa_cons (pe_ix ix_tup (pv 5) (pv 7) (fun _ _ => rfl)) (pa_cons (pv 7) pa_nil))) pa_nil)) (nomark _)) (pss_one (ps_ret pe_bl)) pss_nil)))))
    (pss_cons (ps_for PassesOwn.never rfl (pi_list (pe_lst (pa_cons (pe_callB call_len_seq (by rfl) T.len PySem.boot_len (pa_cons (pv 5) pa_nil)) (pa_cons (pe_un un_neg pe_int) (pa_cons pe_bl (pa_cons pe_non (pa_cons pe_str (pa_cons (pe_tup (pa_cons pe_int pa_nil)) (pa_cons (pe_lst (pa_cons pe_int pa_nil)) (pa_cons (pe_op op_add (pe_callB call_len_seq (by rfl) T.len PySem.boot_len (pa_cons (pv 5) pa_nil)) (pe_op op_pow pe_int pe_int)) (pa_cons pe_bl (pa_cons pe_dnewK pa_nil)))))))))))) (pg_name (i := 10) nd rfl (Or.inl rfl))
    (pss_one (ps_if (pt_cmpR op_ne (pe_c cWord hr (by decide) (by rfl) (pa_cons pe_int (pa_cons (pv 1) (pa_cons (pv 10) pa_nil)))) pe_str (nomark _)) (pss_one (ps_ret pe_bl)) pss_nil)))
    (pss_cons (ps_set (i := 8) nd rfl (Or.inl rfl) (pe_callTy call_tuple_of (by rfl) T.tuple (by decide +kernel) (pa_cons (pe_lc (own := [("_law_k", 13)]) (g := gName 13) (by rfl) nd (pi_range1 (by rfl) T.range (pa_cons (pv 3) pa_nil)) (blkOk_by (own := [("_law_k", 13)]) (N := ["_law_urn_here", "_law_web_here", "_law_is_named", "_law_many", "_law_rows", "_law_due", "_law_found", "_law_number", "_law_lot_here", "_law_own", "_law_value", "_law_mask", "_law_row_here", "_law_k"]) (sc := defScope sListed) (by decide +kernel)) (fun _ _ _ _ _ => (pg_name (i := 13) nd rfl (Or.inl rfl))) (fun _ _ _ _ _ => pts_one (pt_cmpR op_eqN (pe_c cTake hr (by decide) (by rfl) (pa_cons (pv 0) (pa_cons pe_int pa_nil))) pe_int (nomark _))) (fun _ _ _ _ _ => (pv 13))) pa_nil)))
    (pss_one (ps_ret (pe_or (pe_cmpR (op_inTD hut) (pv 8) (pv 5) (by rfl)) (pe_one (pe_cmpR op_eq (pe_c cWord hr (by decide) (by rfl) (pa_cons pe_int (pa_cons (pv 1) (pa_cons (pv 8) pa_nil)))) pe_str (nomark _)))))))))))))), ?_⟩
  have hb7 := (BE.parRows_ok wk.web).2.2
  have hpow : 2 ^ (BE.parRows n ts).length ≤ 128 := Nat.pow_le_pow_right (n := 2) (by omega) (show (BE.parRows n ts).length ≤ 7 by omega)
  have hlen := W.len
  refine ⟨_, rfl, a, _, 1, _, rfl, rfl, SqT.of W.w, rfl, t, _, rfl, .inr (SqT.of W.t), ?_⟩
  rw [hlen]
  refine ⟨_, rfl, _, n, ts, rfl, hw, wk, by omega, hm, fun lb B H1 s1 hlb hnd hB hBl => ⟨lb, rfl, ⟨_, SqL.of hlb⟩, fun D hD => ?_⟩⟩
  refine lc_tp (g := gName 11) (tt := tYes) (vs := [11]) (walk_list (K := K) (a := lb) (xs := B.map natV)) hD (by rw [List.length_map, sizeLine_eq]; omega) (fun i => (B.take i).map (rowD ts.length)) rfl (fun H s => SqL.of (s _ _ hlb)) (fun i x Ha Hb N M hi s _ y hN hM => ?_) fun Ha ys s e tp => ?_
  · obtain ⟨rfl, hx⟩ := y
    rw [List.getElem?_map] at hx
    obtain ⟨k, hk, rfl⟩ := Option.map_eq_some_iff.mp hx
    refine ⟨rfl, kept ⟨_, rfl, _, rfl, k, ts.length, rfl, by omega, fun l H3 s3 tl => ⟨_, rfl, by show 2 ≤ sizeLine; decide, fun z hz => hN _ _ (rowD ts.length k) (s3.trans (same_new _ hz)) (.tup upd_same (.cons (tl.mono (kt_new _ hz)) (.cons (.int _) .nil))) ?_⟩⟩⟩
    rw [take_snoc hk, List.map_append]
    rfl
  rw [List.length_map, List.take_length] at tp
  have hdep : ∀ d ∈ B.map (rowD ts.length), d.depth ≤ 60 := fun d hd => by
    obtain ⟨x, _, rfl⟩ := List.mem_map.mp hd
    have := lot_depth (BE.rowOf ts.length x)
    simp only [rowD, natD, PyData.depth, PyData.depthAll]
    omega
  refine ⟨D, ys, B.map (rowD ts.length), rfl, SqL.of e, Tps.dp tp, PySem.W.AllAlike.of (fun x y => alike_rows _ x y), PySem.W.Sortable.tuples (fun x => ⟨_, _, rfl⟩), hdep, fun zs p hperm hpw hp => ?_⟩
  obtain ⟨ms, hms, hml, htz, hpw2⟩ := sorted_rows tp hnd (fun x hx => ((hB x).mp hx).1) hperm hpw
  have sp1 := same_new (.lst (zs.map (·.1))) hp
  have lz : (zs.map (·.1)).length = ms.length := by rw [Tps.length htz, List.length_map]
  refine ⟨_, rfl, p, rfl, ⟨_, SqL.of upd_same⟩, fun D2 hD2 => ?_⟩
  refine lc_tp (g := gTup K 2 (gCons (gName 12) (gCons (gName 11) gNil))) (tt := tYes) (vs := [12, 11]) (walk_list (K := K) (a := p) (xs := zs.map (·.1))) hD2 (by rw [lz, hml, sizeLine_eq]; omega) (fun i => (ms.take i).map fun k => lotD (BE.maskLot ts.length k)) rfl (fun H s => SqL.of (s _ _ upd_same)) (fun i x Hb Hc N M hi s2 _ y hN hM => ?_) fun Hb ys2 s2 e2 tp2 => ?_
  · obtain ⟨rfl, hx⟩ := y
    obtain ⟨d, hd, td⟩ := Tps.get (Tps.mono (kt_same (sp1.trans s2)) htz) hx
    rw [List.getElem?_map] at hd
    obtain ⟨k, hk, rfl⟩ := Option.map_eq_some_iff.mp hd
    obtain ⟨qa, r, rfl, hq⟩ := row_inv td
    have hk2 := ((hB k).mp ((hms k).mp (List.mem_of_getElem? hk))).1
    refine pair_tg hq ⟨rfl, kept ⟨_, rfl, k, ts.length, rfl, hk2, by omega, fun l H3 s3 tl => hN _ _ _ s3 tl ?_⟩⟩
    rw [take_snoc hk, List.map_append]
    rfl
  rw [lz, List.take_length] at tp2
  refine ⟨D2, ys2, rfl, .inl ⟨SqL.of e2, fun due hdue => ?_⟩⟩
  have s03 : Same H (upd Hb due (.tup ys2)) := ((s1.trans (s.trans sp1)).trans s2).trans (same_new _ hdue)
  have tdue : Tp (upd Hb due (.tup ys2)) (.ref due) (.tuple ((ms.map (BE.maskLot ts.length)).map lotD)) := .tup upd_same (by rw [List.map_map]; exact Tps.mono (kt_new _ hdue) tp2)
  generalize upd Hb due (.tup ys2) = H3 at s03 tdue
  have hU3 := hU.same s03
  -- all_lots
  refine ifn1 rfl rfl ⟨_, n, ts, rfl, hw.mono (kt_same s03), wk, by omega, fun z => absurd z (by omega), fun _ fv bs H4 s4 hBs tf => ?_⟩
  have hbl := hBs.len
  have eL : ms.map (BE.maskLot ts.length) = lotsOf ts.length bs := BE.due_eq hBs.ech hBs.rspan (fun x => (hms x).trans (hB x)) hpw2
  rw [eL] at tdue
  have hLl : (lotsOf ts.length bs).length = 2 ^ bs.length := lots_len bs
  have hget := fun i (h : i < 2 ^ bs.length) => lots_get (m := ts.length) (bs := bs) h
  have hshow : Sh (.tuple ((lotsOf ts.length bs).map lotD)) (128 * 149 + 3) := by
    have := Sh.tuple (ds := (lotsOf ts.length bs).map lotD) (B := 147) fun d hd => by
      obtain ⟨L, hL, rfl⟩ := List.mem_map.mp hd
      obtain ⟨b, _, rfl⟩ := List.mem_map.mp hL
      refine sh_lot (c := 12) (fun k hk => ?_) ?_
      · have := BE.lotOfBits_lt hk
        exact Nat.lt_of_lt_of_le (show k < 100 by omega) (by decide)
      · unfold BE.lotOfBits
        exact Nat.le_trans (List.length_filter_le _ _) (by rw [List.length_range]; omega)
    rw [List.length_map, hLl] at this
    exact this.mono (by rw [hbl]; have := Nat.mul_le_mul_right 149 hpow; omega)
  have s04 := s03.trans s4
  have tdue4 := tdue.mono (kt_same s4)
  have hU4 := hU.same s04
  have hw4 := hw.mono (kt_same s04)
  obtain ⟨fa, fxs, rfl, hfa, hfx⟩ := Tp.tup_inv tf
  obtain ⟨_, ys3, edue, hdue4, hys3⟩ := Tp.tup_inv tdue4
  cases edue
  have hyl : ys3.length = 2 ^ bs.length := by rw [Tps.length hys3, List.length_map, hLl]
  have hpos : 0 < 2 ^ bs.length := Nat.two_pow_pos _
  have hp128 : 2 ^ bs.length ≤ 128 := by rw [hbl]; exact hpow
  refine ⟨_, rfl, fa, _, rfl, tf.dp, hshow.s, hshow.n, Nat.le_trans (lots_depth _) (by decide), Nat.le_trans hshow.l (by decide), _, rfl, due, _, rfl, tdue4.dp, hshow.s, hshow.n, Nat.le_trans (lots_depth _) (by decide), Nat.le_trans hshow.l (by decide), rfl, _, rfl, neF ?_⟩
  refine ⟨_, rfl, due, ys3, rfl, .inr (SqT.of hdue4), _, rfl, _, n, ts, rfl, hw4, wk, fun H5 s5 => ⟨(BE.parRows n ts).length, rfl, by omega, _, _, rfl, rfl, trivial, _, rfl, ?_⟩⟩
  rw [hyl, hbl, decide_eq_true (rfl : 2 ^ (BE.parRows n ts).length = 2 ^ (BE.parRows n ts).length)]
  refine iteF ?_
  have s05 := s04.trans s5
  have hdue5 := s5 _ _ hdue4
  have hys5 := Tps.mono (kt_same s5) hys3
  have hw5 := hw4.mono (kt_same s5)
  have hU5 := hU4.same s5
  clear hU4 hw4 hdue4 hys3 tdue4 tdue hU3
  -- the three numbers
  refine ⟨_, rfl, due, ys3, rfl, .inr (SqT.of hdue5), _, 1, rfl, rfl, by omega, _, rfl, _, rfl, due, ys3, rfl, .inr (SqT.of hdue5), u, dl, ys3.length, rfl, hU5, by omega, fun kk H6 k1 k2 hU6 f6 => ⟨by show 3 ≤ sizeLine; decide, fun lz3 hlz3 => ⟨lz3, rfl, ⟨_, SqL.of upd_same⟩, ?_⟩⟩⟩
  have hkk : kk < ys3.length := by
    rcases Nat.lt_or_ge ys3.length 2 with y | y
    · rw [k1 y]; omega
    · exact k2 y
  have kt6 := f6.kt hU5
  have s67 := same_new (.lst [natV 0, natV (ys3.length - 1), natV kk]) hlz3
  have f07 : Fr u dl H (upd H6 lz3 (.lst [natV 0, natV (ys3.length - 1), natV kk])) := ((Same.fr s05).trans f6).trans (Same.fr s67)
  have kt7 := kt6.trans (kt_same s67)
  have hdue7 := kt7 _ _ hdue5
  have hys7 := Tps.mono kt7 hys5
  have hw7 := hw5.mono kt7
  have hU7 := hU6.same s67
  have hlz7 : upd H6 lz3 (.lst [natV 0, natV (ys3.length - 1), natV kk]) lz3 = some (.lst ([0, ys3.length - 1, kk].map natV)) := upd_same
  clear s67 kt6
  generalize hE7 : upd H6 lz3 (.lst [natV 0, natV (ys3.length - 1), natV kk]) = H7 at f07 kt7 hdue7 hys7 hw7 hU7 hlz7
  refine for_list (H := upd H6 lz3 (.lst [natV 0, natV (ys3.length - 1), natV kk])) (xs := [0, ys3.length - 1, kk].map natV) (fun i σ H' => Same H7 H' ∧ ∃ o7 o8 o9 o10 o11 o12 o13, σ = [some (.ref u), some (.ref a), some (.bl nm), some (natV ts.length), some (.ref p), some (.ref due), some (.ref fa), o7, o8, o9, o10, o11, o12, o13])
    ⟨by rw [hE7]; exact Same.refl _, none, none, none, none, none, none, none, rfl⟩ (fun i σ H' _ h => SqL.of (h.1 _ _ hlz7)) (fun i x σ H' hx h => ?_) fun σ H8 h => ?_
  · obtain ⟨s8, o7, o8, o9, o10, o11, o12, o13, rfl⟩ := h
    rw [List.getElem?_map] at hx
    obtain ⟨num, hnum, rfl⟩ := Option.map_eq_some_iff.mp hx
    have hlt : num < 2 ^ bs.length := by
      have hmem := List.mem_of_getElem? hnum
      rw [hyl] at hmem hkk
      simp only [List.mem_cons, List.not_mem_nil, or_false] at hmem
      rcases hmem with e | e | e <;> omega
    have hdue8 := s8 _ _ hdue7
    have hL := hget num hlt
    generalize hLn : BE.lotOfBits ts.length (BE.nb bs.reverse num) = L at hL
    have hLot : Lot ts.length L := by rw [← hLn]; exact lot_of hBs num
    have hyn : num < ys3.length := by omega
    have hy : ys3[num]? = some ys3[num] := List.getElem?_eq_getElem hyn
    have tL : Tp H' ys3[num] (lotD L) := by
      obtain ⟨d, hd, td⟩ := Tps.get (Tps.mono (kt_same s8) hys7) hy
      rw [List.getElem?_map, hL] at hd
      cases hd
      exact td
    refine ifn2 (x := natV num) rfl rfl (fun Q' qq => ⟨_, rfl, qq⟩) ⟨_, _, n, ts, rfl, hw7.mono (kt_same s8), wk, by omega, .inl ⟨num, rfl, by rw [← hbl]; exact hlt, fun l bs2 H9 s9 hB2 tl => ?_⟩⟩
    rw [← base_same hBs hB2 hlt, hLn] at tl
    have hdue9 := s9 _ _ hdue8
    refine ifn2 (x := ys3[num]) rfl rfl (fun Q' qq => ⟨_, rfl, _, rfl, due, ys3, (num : Int), _, rfl, rfl, SqT.of hdue9, atI_nat hy, qq⟩) ⟨_, _, n, ts, L, rfl, hw7.mono (kt_same (s8.trans s9)), tL.mono (kt_same s9), wk, by omega, hLot, fun j cs H10 s10 hC hj ej => ?_, fun nb => ?_⟩
    · have hji : j = num := num_own hBs hC hlt hj (ej.trans hLn.symm)
      subst hji
      have tl10 := tl.mono (kt_same s10)
      have tL10 := tL.mono (kt_same (s9.trans s10))
      have hdue10 := s10 _ _ hdue9
      have hsl : Sh (.list [lotD L, natD j]) (2 * 149 + 2) := Sh.list (ds := [lotD L, natD j]) (B := 147) fun d hd => by
        simp only [List.mem_cons, List.not_mem_nil, or_false] at hd
        rcases hd with e | e
        · subst e
          exact sh_lot (c := 12) (fun k hk => Nat.lt_of_lt_of_le (show k < 100 by have := hLot.lt k hk; omega) (by decide)) (by have := hLot.len; omega)
        · subst e
          exact (sh_nat (Nat.lt_of_lt_of_le (show j < 200 by omega) (by decide))).mono (by decide)
      have hdl : (PyData.list [lotD L, natD j]).depth ≤ 60 := by
        have := lot_depth L
        simp only [natD, PyData.depth, PyData.depthAll]
        omega
      refine ⟨_, rfl, _, rfl, by show 2 ≤ sizeLine; decide, fun z1 hz1 => ⟨z1, .list [lotD L, natD j], rfl, .lst (SqL.of upd_same) (.cons (tl10.mono (kt_new _ hz1)).dp (.cons (.int _) .nil)), hsl.s, hsl.n, hdl, Nat.le_trans hsl.l (by decide), ?_⟩⟩
      have sz1 := same_new (.lst [l, natV j]) hz1
      refine ⟨_, rfl, _, rfl, due, ys3, (j : Int), _, rfl, rfl, SqT.of (sz1 _ _ hdue10), atI_nat hy, _, rfl, by show 2 ≤ sizeLine; decide, fun z2 hz2 => ⟨z2, .list [lotD L, natD j], rfl, .lst (SqL.of upd_same) (.cons ((tL10.mono (kt_same sz1)).mono (kt_new _ hz2)).dp (.cons (.int _) .nil)), hsl.s, hsl.n, hdl, Nat.le_trans hsl.l (by decide), rfl, _, rfl, neF ?_⟩⟩
      exact ⟨(((s8.trans s9).trans s10).trans sz1).trans (same_new _ hz2), _, _, _, _, _, _, _, rfl⟩
    · refine absurd ?_ nb
      rw [← hLn]
      exact (BE.both_iff fun k hk => chi_lot hk).mp (nb_V hBs num).2
  · obtain ⟨s8, o7, o8, o9, o10, o11, o12, o13, rfl⟩ := h
    have hdue8 := s8 _ _ hdue7
    have hw8 := hw7.mono (kt_same s8)
    have hys8 := Tps.mono (kt_same s8) hys7
    have hU8 := hU7.same s8
    have f08 := f07.trans (Same.fr s8)
    -- what is no number
    refine ⟨_, rfl, due, ys3, rfl, .inr (SqT.of hdue8), (1 : Int), rfl, by show 1 ≤ sizeLine; decide, fun t1 ht1 => ⟨by show 1 ≤ sizeLine; decide, fun l1 hl1 => ?_⟩⟩
    have st1 := same_new (.tup [V.int 0]) ht1
    have sl1 := same_new (.lst [V.int 0]) hl1
    refine ⟨_, rfl, due, ys3, rfl, .inr (SqT.of ((st1.trans sl1) _ _ hdue8)), (9 : Int), (9 : Int), rfl, rfl, ⟨by decide, by decide, by decide⟩, _, _, rfl, rfl, fun d1 hd1 => ⟨by show 10 ≤ sizeLine; decide, fun lz hlz => ⟨lz, rfl, ⟨_, SqL.of upd_same⟩, ?_⟩⟩⟩
    have sd1 := same_new (.dK []) hd1
    have hT1 : upd (upd (upd H8 t1 (.tup [V.int 0])) l1 (.lst [V.int 0])) d1 (.dK []) t1 = some (.tup [V.int 0]) := (sl1.trans sd1) _ _ upd_same
    have hL1 : upd (upd (upd H8 t1 (.tup [V.int 0])) l1 (.lst [V.int 0])) d1 (.dK []) l1 = some (.lst [V.int 0]) := sd1 _ _ upd_same
    have hD1 : upd (upd (upd H8 t1 (.tup [V.int 0])) l1 (.lst [V.int 0])) d1 (.dK []) d1 = some (.dK []) := upd_same
    have s8D := (st1.trans sl1).trans sd1
    have slz := same_new (.lst [V.int (ys3.length : Int), V.int (-1), V.bl true, V.non, V.str "0", V.ref t1, V.ref l1, V.int ((ys3.length : Int) + 9 ^ (9 : Int).toNat), V.bl false, V.ref d1]) hlz
    have hlz9 : upd (upd (upd (upd H8 t1 (.tup [V.int 0])) l1 (.lst [V.int 0])) d1 (.dK [])) lz (.lst [V.int (ys3.length : Int), V.int (-1), V.bl true, V.non, V.str "0", V.ref t1, V.ref l1, V.int ((ys3.length : Int) + 9 ^ (9 : Int).toNat), V.bl false, V.ref d1]) lz = some (.lst [V.int (ys3.length : Int), V.int (-1), V.bl true, V.non, V.str "0", V.ref t1, V.ref l1, V.int ((ys3.length : Int) + 9 ^ (9 : Int).toNat), V.bl false, V.ref d1]) := upd_same
    have e99 : (9 : Int) ^ (9 : Int).toNat = 387420489 := by decide
    have bad : ∀ x ∈ [V.int (ys3.length : Int), V.int (-1), V.bl true, V.non, V.str "0", V.ref t1, V.ref l1, V.int ((ys3.length : Int) + 9 ^ (9 : Int).toNat), V.bl false, V.ref d1], BadN (upd (upd (upd H8 t1 (.tup [V.int 0])) l1 (.lst [V.int 0])) d1 (.dK [])) n ts x := fun x hx => by
      simp only [List.mem_cons, List.not_mem_nil, or_false] at hx
      rcases hx with rfl | rfl | rfl | rfl | rfl | rfl | rfl | rfl | rfl | rfl
      · exact .inr ⟨_, rfl, fun h => by rw [hyl, hbl] at h; omega⟩
      · exact .inr ⟨_, rfl, fun h => by omega⟩
      · exact .inl ⟨_, .bl true⟩
      · exact .inl ⟨_, .non⟩
      · exact .inl ⟨_, .str "0"⟩
      · exact .inl ⟨_, .tup hT1⟩
      · exact .inl ⟨_, .lst hL1⟩
      · refine .inr ⟨_, rfl, fun h => ?_⟩
        rw [e99, hyl, hbl] at h
        omega
      · exact .inl ⟨_, .bl false⟩
      · exact .inl ⟨_, .dK hD1⟩
    refine for_list (H := upd (upd (upd (upd H8 t1 (.tup [V.int 0])) l1 (.lst [V.int 0])) d1 (.dK [])) lz (.lst [V.int (ys3.length : Int), V.int (-1), V.bl true, V.non, V.str "0", V.ref t1, V.ref l1, V.int ((ys3.length : Int) + 9 ^ (9 : Int).toNat), V.bl false, V.ref d1]))
      (xs := [V.int (ys3.length : Int), V.int (-1), V.bl true, V.non, V.str "0", V.ref t1, V.ref l1, V.int ((ys3.length : Int) + 9 ^ (9 : Int).toNat), V.bl false, V.ref d1])
      (fun i σ H' => Same (upd (upd (upd H8 t1 (.tup [V.int 0])) l1 (.lst [V.int 0])) d1 (.dK [])) H' ∧ H' lz = some (.lst [V.int (ys3.length : Int), V.int (-1), V.bl true, V.non, V.str "0", V.ref t1, V.ref l1, V.int ((ys3.length : Int) + 9 ^ (9 : Int).toNat), V.bl false, V.ref d1]) ∧ ∃ p7 p8 p9 p10 p11 p12 p13, σ = [some (.ref u), some (.ref a), some (.bl nm), some (natV ts.length), some (.ref p), some (.ref due), some (.ref fa), p7, p8, p9, p10, p11, p12, p13])
      ⟨slz, hlz9, o7, o8, o9, o10, o11, o12, o13, rfl⟩ (fun i σ H' _ h => SqL.of h.2.1) (fun i x σ H' hx h => ?_) fun σ H9 h => ?_
    · obtain ⟨s9, hlz', p7, p8, p9, p10, p11, p12, p13, rfl⟩ := h
      refine ⟨_, rfl, _, rfl, 1, _, x, n, ts, rfl, hw8.mono (kt_same (s8D.trans s9)), wk, by omega, .inl ⟨rfl, (bad x (List.mem_of_getElem? hx)).same s9, fun H'' s' => ⟨rfl, _, rfl, neF ?_⟩⟩⟩
      exact ⟨s9.trans s', s' _ _ hlz', _, _, _, _, _, _, _, rfl⟩
    · obtain ⟨s9, _, p7, p8, p9, p10, p11, p12, p13, rfl⟩ := h
      have s89 := s8D.trans s9
      clear bad hT1 hL1 hD1 slz hlz9 s8D s9 st1 sl1 sd1 hlz
      have hU9 := hU8.same s89
      have f09 := f08.trans (Same.fr s89)
      have hw9 := hw8.mono (kt_same s89)
      have hdue9 := s89 _ _ hdue8
      have hys9 := Tps.mono (kt_same s89) hys8
      refine ⟨_, rfl, (ts.length : Int), rfl, by omega, by omega, fun D3 hD3 => ?_⟩
      have h3u : D3 ≠ u ∧ D3 ≠ dl := by
        obtain ⟨ds, st, U⟩ := hU9
        exact ⟨fun e => (by rw [e, U.d] at hD3; cases hD3), fun e => (by rw [e, U.l] at hD3; cases hD3)⟩
      have hU3' : ∀ {H' : Hp} {o : HO}, UrnAt H' u dl → UrnAt (upd H' D3 o) u dl := fun {H' o} h => by
        obtain ⟨ds, st, U⟩ := h
        exact ⟨ds, st, by rw [upd_ne h3u.1.symm]; exact U.d, by rw [upd_ne h3u.2.symm]; exact U.l, U.few, U.st⟩
      have f3' : ∀ {H' : Hp} {o : HO}, Fr u dl H9 H' → Fr u dl H9 (upd H' D3 o) := fun {H' o} h b ob h1 h2 h3 => by
        rw [upd_ne (ne_of_none h3 hD3)]
        exact h b ob h1 h2 h3
      refine lc_it walk_rangeN (fun i H' => ∃ L : List Nat, H' D3 = some (.lst (L.map natV)) ∧ L.Pairwise (· < ·) ∧ (∀ k ∈ L, k < i) ∧ L.length ≤ i ∧ UrnAt H' u dl ∧ Fr u dl H9 H') ⟨[], upd_same, .nil, fun k hk => (by cases hk), Nat.le_refl _, hU3' hU9, f3' (Fr.refl _ _ _)⟩ (fun _ _ _ _ => trivial) (fun i x H' H'' hi h y => ?_) fun H' h => ?_
      · obtain ⟨L, hL, hpw, hlt, hll, hU', f'⟩ := h
        obtain ⟨rfl, rfl⟩ := y
        refine ⟨rfl, _, rfl, u, dl, 2, rfl, hU', by omega, fun k H2 _ _ hU2 f2 => ⟨k, 0, rfl, rfl, trivial, _, rfl, ?_⟩⟩
        have hL2 := f2 _ _ h3u.1 h3u.2 hL
        refine ite2 (fun c => ?_) fun c => ?_
        · refine ⟨_, rfl, _, hL2, by rw [List.length_map, sizeLine_eq]; omega, L ++ [i], by rw [upd_same, List.map_append]; rfl, ?_, fun k hk => ?_, by rw [List.length_append]; show _ + 1 ≤ _; omega, hU3' hU2, f3' (f'.trans f2)⟩
          · refine List.pairwise_append.mpr ⟨hpw, by simp, fun x hx y hy => ?_⟩
            rw [List.mem_singleton.mp hy]; exact hlt x hx
          · rcases List.mem_append.mp hk with z | z
            · have := hlt k z; omega
            · rw [List.mem_singleton.mp z]; omega
        · exact ⟨L, hL2, hpw, fun k hk => by have := hlt k hk; omega, by omega, hU2, f'.trans f2⟩
      · obtain ⟨L, hL, hpw, hlt, hll, hU', f'⟩ := h
        rw [Int.toNat_natCast] at hlt
        have kt' := f'.kt hU9
        refine ⟨D3, _, rfl, .inl ⟨SqL.of hL, fun lt hlt2 => ?_⟩⟩
        have sl := same_new (.tup (L.map natV)) hlt2
        have kt2 := kt'.trans (kt_same sl)
        have tL : Tp (upd H' lt (.tup (L.map natV))) (.ref lt) (lotD L) := lot_tp upd_same
        have fin : ∀ H'', Same (upd H' lt (.tup (L.map natV))) H'' → Q (.bl true) H'' := fun H'' s'' => q H'' ((hU'.same sl).same s'') ((f09.trans f').trans (Same.fr (sl.trans s'')))
        refine ⟨_, rfl, _, rfl, lotD L, (lotsOf ts.length bs).map lotD, tL.dp, (Tp.tup (kt2 _ _ hdue9) (Tps.mono kt2 hys9)).dp, shaped_lot L, shaped_lots _, _, rfl, ?_⟩
        rw [any_lots]
        refine ite2 (fun c => fin _ (Same.refl _)) fun c => ?_
        have cn : L ∉ lotsOf ts.length bs := fun z => c (decide_eq_true z)
        refine ⟨_, rfl, _, rfl, 2, _, _, n, ts, rfl, hw9.mono kt2, wk, by omega, .inr (.inl ⟨L, rfl, tL, ⟨hpw, hlt⟩, not_listed hBs ⟨hpw, hlt⟩ cn, fun H'' s'' => ⟨rfl, ?_⟩⟩)⟩
        show Q (.bl (decide (V.str "unfit" = V.str "unfit"))) H''
        rw [decide_eq_true rfl]
        exact fin _ s''
end
end R
end
/-! ## W22 -/
section
set_option Elab.async false
set_option linter.all false
set_option maxRecDepth 100000
set_option maxHeartbeats 4000000
namespace R
open PySem PySem.Spec PyProof.Rows L2
/-! ### the dict of edges -/
def eKey (e : Nat × Nat) : List L2.Key := [Sum.inl (e.1 : Int), Sum.inl (e.2 : Int)]
theorem eKey_inj {e g : Nat × Nat} (h : eKey e = eKey g) : e = g := by
  have h1 := List.cons.inj h
  have h2 := List.cons.inj h1.2
  exact Prod.ext (key_inj h1.1) (key_inj h2.1)
theorem eKey_v (e : Nat × Nat) : (eKey e).map kV = [natV e.1, natV e.2] := rfl
theorem ek_in {H : Hp} {f : Nat × Nat → PyData} {e : Nat × Nat} : ∀ {es : List (Nat × Nat)} {kvs : List (List L2.Key × V)}, kvs.map (·.1) = es.map eKey → Tps H (kvs.map (·.2)) (es.map f) → e ∈ es → ∃ v, valV kvs (eKey e) = some v ∧ Tp H v (f e)
  | [], _, _, _, h => by cases h
  | g :: es, [], hk, _, _ => by simp at hk
  | g :: es, kv :: kvs, hk, ht, h => by
    have hk1 := List.cons.inj hk
    cases ht with
    | cons a t =>
      by_cases c : g = e
      · subst c
        exact ⟨kv.2, valV_pos hk1.1, a⟩
      · have h2 : e ∈ es := by
          rcases List.mem_cons.mp h with z | z
          · exact absurd z.symm c
          · exact z
        rw [valV_neg (fun z => c (eKey_inj (hk1.1.symm.trans z)))]
        exact ek_in hk1.2 t h2
theorem ek_out {e : Nat × Nat} : ∀ {es : List (Nat × Nat)} {kvs : List (List L2.Key × V)}, kvs.map (·.1) = es.map eKey → e ∉ es → valV kvs (eKey e) = none
  | [], [], _, _ => rfl
  | [], _ :: _, hk, _ => by simp at hk
  | g :: es, [], hk, _ => by simp at hk
  | g :: es, kv :: kvs, hk, h => by
    have hk1 := List.cons.inj hk
    rw [valV_neg (fun z => h (by rw [← eKey_inj (hk1.1.symm.trans z)]; exact List.mem_cons_self))]
    exact ek_out hk1.2 fun z => h (List.mem_cons_of_mem _ z)
theorem ek_put {H : Hp} {f g : Nat × Nat → PyData} {e : Nat × Nat} {v : V} (hv : Tp H v (g e)) (hg : ∀ e', e' ≠ e → g e' = f e') : ∀ {es : List (Nat × Nat)} {kvs : List (List L2.Key × V)}, kvs.map (·.1) = es.map eKey → Tps H (kvs.map (·.2)) (es.map f) →
    (kvs.map fun kv => if kv.1 = eKey e then (kv.1, v) else kv).map (·.1) = es.map eKey ∧ Tps H ((kvs.map fun kv => if kv.1 = eKey e then (kv.1, v) else kv).map (·.2)) (es.map g)
  | [], [], _, _ => ⟨rfl, .nil⟩
  | [], _ :: _, hk, _ => by simp at hk
  | _ :: _, [], hk, _ => by simp at hk
  | x :: es, kv :: kvs, hk, ht => by
    have hk1 := List.cons.inj hk
    cases ht with
    | cons a t =>
      obtain ⟨i1, i2⟩ := ek_put hv hg hk1.2 t
      rw [List.map_cons]
      by_cases c : kv.1 = eKey e
      · have e1 : x = e := eKey_inj (hk1.1.symm.trans c)
        subst e1
        rw [if_pos c]
        exact ⟨by rw [List.map_cons, i1]; show kv.1 :: _ = eKey x :: _; rw [c], .cons hv i2⟩
      · have e1 : x ≠ e := fun z => c (by rw [← z]; exact hk1.1)
        rw [if_neg c]
        exact ⟨by rw [List.map_cons, i1]; show kv.1 :: _ = eKey x :: _; rw [show kv.1 = eKey x from hk1.1], .cons (by rw [hg x e1]; exact a) i2⟩
structure PK (H : Hp) (ts : BE.Ties) (i : Nat) (es : List (Nat × Nat)) (kvs : List (List L2.Key × V)) : Prop where
  keys : kvs.map (·.1) = es.map eKey
  vals : Tps H (kvs.map (·.2)) (es.map fun e => lotD (BE.occ ts i e))
  nd : es.Nodup
  mem : ∀ e, e ∈ es ↔ e ∈ ts.take i
  few : kvs.length ≤ i
theorem perm_map_inv {α β : Type} {f : α → β} {l l' : List β} (h : l.Perm l') : ∀ {B : List α}, l' = B.map f → ∃ ms : List α, ms.Perm B ∧ l = ms.map f := by
  induction h with
  | nil =>
    intro B e
    cases B with
    | nil => exact ⟨[], .refl _, rfl⟩
    | cons _ _ => cases e
  | cons x _ ih =>
    intro B e
    cases B with
    | nil => cases e
    | cons b B =>
      have e1 := List.cons.inj e
      obtain ⟨ms, h1, h2⟩ := ih e1.2
      exact ⟨b :: ms, .cons b h1, by rw [h2, e1.1]; rfl⟩
  | swap x y l =>
    intro B e
    match B, e with
    | a :: b :: B, e =>
      have e1 := List.cons.inj e
      have e2 := List.cons.inj e1.2
      exact ⟨b :: a :: B, .swap a b B, by rw [e1.1, e2.1, e2.2]; rfl⟩
    | [a], e => exact absurd (List.cons.inj e).2 (by simp)
    | [], e => cases e
  | trans _ _ ih1 ih2 =>
    intro B e
    obtain ⟨m2, h1, h2⟩ := ih2 e
    obtain ⟨m1, h3, h4⟩ := ih1 h2
    exact ⟨m1, h3.trans h1, h4⟩
theorem Tps.app {H : Hp} : ∀ {vs : List V} {ds : List PyData} {ws : List V} {es : List PyData}, Tps H vs ds → Tps H ws es → Tps H (vs ++ ws) (ds ++ es)
  | _, _, _, _, .nil, b => b
  | _, _, _, _, .cons x t, b => .cons x (Tps.app t b)
theorem Tps.rev {H : Hp} : ∀ {vs : List V} {ds : List PyData}, Tps H vs ds → Tps H vs.reverse ds.reverse
  | _, _, .nil => .nil
  | _, _, .cons x t => by
    rw [List.reverse_cons, List.reverse_cons]
    exact Tps.snoc (Tps.rev t) x
theorem lot_toks {i j i' j' : Nat} (h : PySem.W.dataLt (lotD [i', j']) (lotD [i, j]) = false) : i ≤ i' := by
  rcases Nat.lt_or_ge i' i with z | z
  · have := toks_lt (u := [i', j']) (v := [i, j]) [] [] (.inl z)
    rw [List.append_nil, List.append_nil] at this
    unfold PySem.W.dataLt at h
    simp only [lotD, PySem.W.keyToks] at h
    rw [this] at h
    cases h
  · exact z
section
variable {P : Program} {w : World} {K : PySem.W.Frag} {mg : Str → Option Value} {base : Heap} {f : Addr} {fd : FuncData}
/-! ### _law_is_great(urn) -/
abbrev sGreatL : Stmt := top 48
def spGreatL : Sp := fun vs H Q _ => ∃ (u dl : Addr), vs = [.ref u] ∧ UrnAt H u dl ∧ ∀ H', UrnAt H' u dl → Fr u dl H H' → Q (.bl true) H'
theorem scGreatL : FnScope ["_law_urn_here", "_law_many", "_law_k", "_law_ties", "_law_web_here", "_law_pairs", "_law_ends", "_law_base", "_law_most", "_law_number", "_law_lot_here", "_law_rest", "_law_own", "_law_due"] ["_law_urn_here"] (defScope sGreatL) := ⟨rfl, rfl, rfl, by decide +kernel, rfl, by decide +kernel, by decide +kernel⟩
theorem ok_great {CU CT : Addr} (F : Fun K "_law_is_great" "_law_is_great" sGreatL f fd) (T : Txt K mg) (cTake : Cal P w K mg base 1 "_law_take" spTake) (cMix : Cal P w K mg base 2 "_law_mixed" spMixed) (cPow : Cal P w K mg base 1 "_law_power" spPower) (cWord : Cal P w K mg base 7 "_law_word" spWord)
    (cAll : CalX P w K mg base 5 "all_lots" ["web"] (spAll CT)) (cAt : CalX P w K mg base 5 "lot_at" ["web", "number"] (spAt CU)) (cNum : CalX P w K mg base 6 "lot_number" ["web", "lot"] (spNumber CU)) :
    FnG P w K mg base CX0 8 f fd ["_law_urn_here"] spGreatL := by
  refine okG F scGreatL (fun vs H Q E h => ?_) (fun cdv A outer s H vs Q E hgd hr h => ?_)
  · obtain ⟨_, _, rfl, _⟩ := h; rfl
  obtain ⟨u, dl, rfl, hU, q⟩ := h
  have nd := scGreatL.nd
  have hu := hu_of hr
  refine ⟨_, (pss_cons (ps_set (i := 1) nd rfl (Or.inl rfl) (pe_op op_addN pe_int (pe_c cTake hr (by decide) (by rfl) (pa_cons (pv 0) (pa_cons pe_int pa_nil)))))
    (pss_cons (ps_set (i := 3) nd rfl (Or.inl rfl) (pe_c cMix hr (by decide) (by rfl) (pa_cons (pv 0) (pa_cons (pe_op op_rep (pe_lc (own := [("_law_k", 2)]) (g := gName 2) (by rfl) nd (pi_range1 (by rfl) T.range (pa_cons (pe_op op_subN (pv 1) pe_int) pa_nil)) (blkOk_by (own := [("_law_k", 2)]) (N := ["_law_urn_here", "_law_many", "_law_k", "_law_ties", "_law_web_here", "_law_pairs", "_law_ends", "_law_base", "_law_most", "_law_number", "_law_lot_here", "_law_rest", "_law_own", "_law_due"]) (sc := defScope sGreatL) (by decide +kernel)) (fun _ _ _ _ _ => (pg_name (i := 2) nd rfl (Or.inl rfl))) (fun _ _ _ _ _ => pts_nil) (fun _ _ _ _ _ => pe_tup (pa_cons (pv 2) (pa_cons (pe_op op_addN (pv 2) pe_int) pa_nil)))) pe_int) pa_nil))))
    (pss_cons (ps_par (i := 4) (j := 5) (by rfl) nd rfl rfl (by decide) rfl rfl (pa_cons (pe_tup (pa_cons (pv 1) (pa_cons (pe_callTy call_tuple_of (by rfl) T.tuple (by decide +kernel) (pa_cons (pv 3) pa_nil)) pa_nil))) (pa_cons pe_dnewT pa_nil)) (by rfl))
    (pss_cons (ps_for PassesOwn.never rfl (pi_enum (by rfl) T.enum (pa_cons (pv 3) pa_nil)) (pg_tup (by rfl) (pgs_cons (pg_name (i := 2) nd rfl (Or.inl rfl)) (pgs_cons (pg_name (i := 6) nd rfl (Or.inl rfl)) pgs_nil)))
    (pss_one (ps_dput hu (pv 5) (pv 6) (pe_op op_catA (pe_dget2 hu (pv 5) (pv 6) (pe_tup pa_nil) ⟨by rfl, by rfl, by rfl, by rfl⟩) (pe_tup (pa_cons (pv 2) pa_nil))) rfl)))
    (pss_cons (ps_par (i := 7) (j := 8) (by rfl) nd rfl rfl (by decide) rfl rfl (pa_cons (pe_callB (cr_sortedD hr.units) (by rfl) T.sorted (by decide +kernel) (pa_cons (pe_callTy (call_list_vals (by rfl)) (by rfl) T.list (by decide +kernel) (pa_cons (pe_bm0 PySem.F.plainAttrs_dict PySem.F.slot_dict_values PySem.F.type_dict_values mt_valuesT (pv 5)) pa_nil)) pa_nil)) (pa_cons (pe_c cPow hr (by decide) (by rfl) (pa_cons (pe_op op_subN (pv 1) pe_int) pa_nil)) pa_nil)) (by rfl))
    (pss_cons (ps_for PassesOwn.never rfl (pi_list (pe_lst (pa_cons pe_int (pa_cons (pe_op op_subN (pv 8) pe_int) (pa_cons (pe_c cTake hr (by decide) (by rfl) (pa_cons (pv 0) (pa_cons (pv 8) pa_nil))) (pa_cons (pe_c cTake hr (by decide) (by rfl) (pa_cons (pv 0) (pa_cons (pv 8) pa_nil))) pa_nil)))))) (pg_name (i := 9) nd rfl (Or.inl rfl))
    (pss_cons (ps_par (i := 10) (j := 11) (by rfl) nd rfl rfl (by decide) rfl rfl (pa_cons (pe_lst pa_nil) (pa_cons (pv 9) pa_nil)) (by rfl))
    (pss_cons (ps_for PassesOwn.never rfl (pi_list (pe_revL (pv 7))) (pg_name (i := 12) nd rfl (Or.inl rfl))
    (pss_cons (ps_set (i := 10) nd rfl (Or.inl rfl) (pe_op op_cat (pv 10) (pe_op op_rep (pe_callTy call_list_of (by rfl) T.list (by decide +kernel) (pa_cons (pv 12) pa_nil)) (pe_op op_modN' (pe_callTy call_int1 (by rfl) T.int (by decide +kernel) (pa_cons (pv 11) pa_nil)) pe_int))))
    (pss_one (ps_set (i := 11) nd rfl (Or.inl rfl) (pe_op op_fdivNN (pv 11) pe_int)))))
    (pss_cons (ps_set (i := 13) nd rfl (Or.inl rfl) (pe_callTy call_tuple_of (by rfl) T.tuple (by decide +kernel) (pa_cons (pe_callB cr_sorted (by rfl) T.sorted (by decide +kernel) (pa_cons (pv 10) pa_nil)) pa_nil)))
    (pss_one (ps_if (pt_cmpR op_ne (pe_callB (call_reprD hgd hr.units) (by rfl) T.repr (by decide +kernel) (pa_cons (pe_lst (pa_cons (pe_cE cAt hr (by decide) (by rfl) (pa_cons (pv 4) (pa_cons (pv 9) pa_nil))) (pa_cons (pe_cE cNum hr (by decide) (by rfl) (pa_cons (pv 4) (pa_cons (pv 13) pa_nil))) pa_nil))) pa_nil)) (pe_callB (call_reprD hgd hr.units) (by rfl) T.repr (by decide +kernel) (pa_cons (pe_lst (pa_cons (pv 13) (pa_cons (pv 9) pa_nil))) pa_nil)) (nomark _)) (pss_one (ps_ret pe_bl)) pss_nil))))))
    (pss_cons (ps_if (pt_cmpR op_gtN (pv 1) pe_int (nomark _)) (pss_one (ps_ret (pe_and (pe_cmpR (op_eqD hr.units) (pe_c cWord hr (by decide) (by rfl) (pa_cons pe_int (pa_cons (pv 4) (pa_cons pe_non pa_nil)))) (pe_lst (pa_cons pe_str (pa_cons pe_int pa_nil))) (nomark _)) (pe_one (pe_cmpR op_eq (pe_c cWord hr (by decide) (by rfl) (pa_cons pe_int (pa_cons (pv 4) (pa_cons (pv 8) pa_nil)))) pe_str (nomark _)))))) pss_nil)
    (pss_one (ps_ret (pe_and (pe_cmpR op_eq (pe_c cWord hr (by decide) (by rfl) (pa_cons pe_int (pa_cons (pv 4) (pa_cons (pv 8) pa_nil)))) pe_str (nomark _)) (pe_one (pe_or (pe_cmpR op_gtN (pv 1) pe_int (nomark _)) (pe_one (pe_cmpR op_eqN (pe_callB call_len_seq (by rfl) T.len PySem.boot_len (pa_cons (pe_cE cAll hr (by decide) (by rfl) (pa_cons (pv 4) pa_nil)) pa_nil)) (pv 8) (nomark _))))))))))))))), ?_⟩
  refine ⟨_, rfl, u, dl, 11, rfl, hU, by omega, fun k0 H1 _ k2 hU1 f1 => ⟨2, k0, rfl, rfl, trivial, ?_⟩⟩
  have hk0 : k0 < 11 := k2 (by omega)
  clear k2
  have hn2 : 2 ≤ 2 + k0 := by omega
  have hn12 : 2 + k0 ≤ 12 := by omega
  -- the path, twice
  refine ⟨_, rfl, _, rfl, _, 1, rfl, rfl, by omega, ((2 + k0 - 1 : Nat) : Int), rfl, by omega, by omega, fun D hD => ?_⟩
  refine lc_tp (g := gName 2) (tt := tYes) (vs := [2]) walk_rangeN hD (by rw [sizeLine_eq]; omega) (fun i => ((List.range i).map fun k => (k, k + 1)).map pairD) rfl (fun H s => trivial) (fun i x Ha Hb N M hi s _ y hN hM => ?_) fun Ha ys s e tp => ?_
  · obtain ⟨rfl, rfl⟩ := y
    refine ⟨rfl, kept ⟨_, rfl, _, rfl, _, 1, rfl, rfl, trivial, by show 2 ≤ sizeLine; decide, fun z hz => hN _ _ (pairD (i, i + 1)) (same_new _ hz) (pair_tp (t := (i, i + 1)) upd_same) ?_⟩⟩
    show List.map pairD _ = _
    rw [List.range_succ, List.map_append, List.map_append]
    rfl
  rw [Int.toNat_natCast] at tp
  have hyl : ys.length = (2 + k0) - 1 := by rw [Tps.length tp]; simp
  have tp2 : Tps Ha (ys ++ ys) ((BE.pathE (2 + k0) ++ BE.pathE (2 + k0)).map pairD) := by rw [List.map_append]; exact Tps.app tp tp
  have hpl : (BE.pathE (2 + k0) ++ BE.pathE (2 + k0)).length ≤ 22 := by unfold BE.pathE; simp; omega
  have hUa := hU1.same s
  refine ⟨D, 2, ys, rfl, rfl, e, by decide, by decide, by rw [sizeLine_eq]; show ys.length * 2 ≤ _; omega, fun p hp => ?_⟩
  have sp := same_new (.lst (ys ++ ys)) hp
  have erep : (List.replicate (2 : Int).toNat ys).flatten = ys ++ ys := by
    show ys ++ (ys ++ []) = _
    rw [List.append_nil]
  rw [erep]
  refine ⟨u, dl, p, ys ++ ys, BE.pathE (2 + k0) ++ BE.pathE (2 + k0), rfl, hUa.same sp, upd_same, Tps.mono (kt_same sp) tp2, by omega, fun l ys2 ts H2 hU2 f2 _ hl tl perm => ?_⟩
  have f02 : Fr u dl H H2 := ((f1.trans (Same.fr s)).trans (Same.fr sp)).trans f2
  have hm22 : ts.length ≤ 22 := by rw [perm.length_eq]; exact hpl
  have W := BE.dbl_web perm hn2
  have wk : Wk (2 + k0) ts := ⟨W, by omega, by omega⟩
  have hyl2 : ys2.length = ts.length := by rw [Tps.length tl, List.length_map]
  clear sp s hUa tp tp2 erep hp hD
  -- the web
  refine ⟨_, rfl, _, rfl, l, ys2, rfl, .inl ⟨SqL.of hl, fun tt htt => ⟨by show 2 ≤ sizeLine; decide, fun wa hwa => fun d hd => ⟨_, _, rfl, ?_⟩⟩⟩⟩
  have st := same_new (.tup ys2) htt
  have sw := same_new (.tup [natV (2 + k0), .ref tt]) hwa
  have tw3 : Tp (upd (upd H2 tt (.tup ys2)) wa (.tup [natV (2 + k0), .ref tt])) (.ref wa) (webD (2 + k0) ts) := .tup upd_same (.cons (.int _) (.cons (.tup (sw _ _ upd_same) (Tps.mono (kt_same (st.trans sw)) tl)) .nil))
  have hl3 := (st.trans sw) _ _ hl
  have tl3 := Tps.mono (kt_same (st.trans sw)) tl
  have hU3 := hU2.same (st.trans sw)
  have f03 := f02.trans (Same.fr (u := u) (dl := dl) (st.trans sw))
  have eH3 : upd (upd H2 tt (.tup ys2)) wa (.tup [V.int ((2 + k0) : Int), .ref tt]) = upd (upd H2 tt (.tup ys2)) wa (.tup [natV (2 + k0), .ref tt]) := rfl
  clear st sw tl hl hU2 f02
  generalize hE3 : upd (upd H2 tt (.tup ys2)) wa (.tup [natV (2 + k0), .ref tt]) = H3 at *
  have hd3 : H3 d = none := hd
  have sd := same_new (.dT []) hd3
  refine ⟨_, rfl, l, ys2, rfl, SqL.of (by show (upd H3 d (.dT [])) l = _; exact sd _ _ hl3), ?_⟩
  refine for_it (H := upd H3 d (.dT [])) walk_enum (fun i σ H' => Same H3 H' ∧ ∃ es kvs o2 o6 o7 o8 o9 o10 o11 o12 o13, H' d = some (.dT kvs) ∧ PK H' ts i es kvs ∧ σ = [some (.ref u), some (natV (2 + k0)), o2, some (.ref l), some (.ref wa), some (.ref d), o6, o7, o8, o9, o10, o11, o12, o13])
    ⟨sd, [], [], none, none, none, none, none, none, none, none, none, upd_same, ⟨rfl, .nil, List.nodup_nil, fun e => by simp, Nat.le_refl _⟩, rfl⟩ (fun i σ H' _ h => SqL.of (h.1 _ _ hl3)) (fun i x σ Ha Hb hi h y => ?_) fun σ H4 h => ?_
  · obtain ⟨sm, es, kvs, o2, o6, o7, o8, o9, o10, o11, o12, o13, hda, pk, rfl⟩ := h
    obtain ⟨U, x1, x2, rfl, hUn, rfl, e1, e2⟩ := y
    have e3 : x1 = natV i := (Option.some.inj e1).symm
    have e4 : ys2[i]? = some x2 := e2
    subst e3
    obtain ⟨dd, hdd, td⟩ := Tps.get (Tps.mono (kt_same sm) tl3) e4
    rw [List.getElem?_map] at hdd
    obtain ⟨en2, hen, rfl⟩ := Option.map_eq_some_iff.mp hdd
    obtain ⟨ep, rfl, hep⟩ := pair_inv td
    have sU := same_new (.tup [natV i, .ref ep]) hUn
    have hi2 : i < ts.length := by omega
    have hgd : ts.getD i (0, 0) = en2 := by
      obtain ⟨h1, h2⟩ := List.getElem?_eq_some_iff.mp hen
      simp [List.getD, h1, h2]
    refine pair_tg upd_same ?_
    have hdU := sU _ _ hda
    have hepU := sU _ _ hep
    refine ⟨_, rfl, d, rfl, .inr ⟨kvs, .inl hdU⟩, _, rfl, by show 0 ≤ sizeLine; decide, fun z hz => ?_⟩
    have sz := same_new (.tup []) hz
    refine ⟨valV kvs (eKey en2), DGet.t (k := eKey en2) (sz _ _ hdU) (sz _ _ hepU), ?_⟩
    refine ⟨_, rfl, by show 1 ≤ sizeLine; decide, fun z2 hz2 => ?_⟩
    have sz2 := same_new (.tup [natV i]) hz2
    have sA := (sU.trans sz).trans sz2
    have tk : ts.take (i + 1) = ts.take i ++ [en2] := take_snoc hen
    have hother : ∀ e', e' ≠ en2 → lotD (BE.occ ts (i + 1) e') = lotD (BE.occ ts i e') := fun e' hne => by
      rw [BE.occ_succ, if_neg (by rw [hgd]; exact fun z => hne z.symm), List.append_nil]
    have hself : BE.occ ts (i + 1) en2 = BE.occ ts i en2 ++ [i] := by rw [BE.occ_succ, if_pos hgd]
    by_cases hin : en2 ∈ es
    · obtain ⟨v, hv, tv⟩ := ek_in pk.keys pk.vals hin
      rw [hv]
      obtain ⟨va, rfl, hva⟩ := lot_inv tv
      have hne : BE.occ ts i en2 ≠ [] := by
        obtain ⟨j, hj⟩ := List.getElem?_of_mem ((pk.mem en2).mp hin)
        have hji : j < i := by
          have := (List.getElem?_eq_some_iff.mp hj).1
          rw [List.length_take] at this
          omega
        rw [List.getElem?_take_of_lt hji] at hj
        obtain ⟨h1, h2⟩ := List.getElem?_eq_some_iff.mp hj
        have : j ∈ BE.occ ts i en2 := BE.mem_occ.mpr ⟨hji, by simp [List.getD, h1, h2]⟩
        exact List.ne_nil_of_mem this
      have hln : (BE.occ ts i en2).length ≤ i := by
        unfold BE.occ
        exact Nat.le_trans (List.length_filter_le _ _) (by simp)
      refine ⟨va, z2, _, _, rfl, rfl, SqT.of (sA _ _ hva), SqT.of upd_same, by rw [List.length_map, sizeLine_eq]; show _ + 1 ≤ _; omega, fun e0 => absurd (List.map_eq_nil_iff.mp e0) hne, fun _ e0 => by simp at e0, fun _ _ z3 hz3 => ?_⟩
      have sz3 := same_new (.tup ((BE.occ ts i en2).map natV ++ [natV i])) hz3
      have sB := sA.trans sz3
      have hd4 := sB _ _ hda
      refine ⟨_, rfl, _, rfl, d, _, rfl, DPut.t (k := eKey en2) hd4 (sB _ _ hep) (by have := pk.few; rw [sizeLine_eq]; omega), ?_⟩
      have kd := kt_same sB
      have e5 : putK kvs (eKey en2) (V.ref z3) = kvs.map fun kv => if kv.1 = eKey en2 then (kv.1, V.ref z3) else kv := by
        unfold putK
        rw [valV_any, hv]
        rfl
      rw [e5]
      have kdt : ∀ (b : Addr) (xs : List V), upd (upd (upd (upd Ha U (.tup [natV i, .ref ep])) z (.tup [])) z2 (.tup [natV i])) z3 (.tup ((BE.occ ts i en2).map natV ++ [natV i])) b = some (.tup xs) → upd (upd (upd (upd (upd Ha U (.tup [natV i, .ref ep])) z (.tup [])) z2 (.tup [natV i])) z3 (.tup ((BE.occ ts i en2).map natV ++ [natV i]))) d (.dT (kvs.map fun kv => if kv.1 = eKey en2 then (kv.1, V.ref z3) else kv)) b = some (.tup xs) := fun b xs hb => by
        rw [upd_ne (ne_of hb hd4 (by intro z; cases z))]; exact hb
      have tz3 : Tp (upd (upd (upd (upd (upd Ha U (.tup [natV i, .ref ep])) z (.tup [])) z2 (.tup [natV i])) z3 (.tup ((BE.occ ts i en2).map natV ++ [natV i]))) d (.dT (kvs.map fun kv => if kv.1 = eKey en2 then (kv.1, V.ref z3) else kv))) (.ref z3) (lotD (BE.occ ts (i + 1) en2)) := by
        rw [hself]
        refine lot_tp (kdt _ _ ?_)
        rw [upd_same, List.map_append]; rfl
      have hh := ek_put (f := fun e => lotD (BE.occ ts i e)) (g := fun e => lotD (BE.occ ts (i + 1) e)) tz3 hother pk.keys (Tps.mono (KT.trans kd kdt) pk.vals)
      refine ⟨same_upd _ (sm.trans sB) hd3, es, _, _, _, _, _, _, _, _, _, _, upd_same, ⟨hh.1, hh.2, pk.nd, fun e => ?_, by rw [List.length_map]; have := pk.few; omega⟩, rfl⟩
      rw [tk, List.mem_append, pk.mem, List.mem_singleton]
      exact ⟨.inl, fun h => h.elim id fun z => by rw [z]; exact (pk.mem en2).mp hin⟩
    · have hv := ek_out pk.keys hin
      rw [hv]
      refine ⟨z, z2, [], _, rfl, rfl, SqT.of (sz2 _ _ upd_same), SqT.of upd_same, by show 1 ≤ sizeLine; decide, fun _ => ?_, fun h => absurd rfl h, fun h => absurd rfl h⟩
      have hd4 := sA _ _ hda
      refine ⟨_, rfl, _, rfl, d, _, rfl, DPut.t (k := eKey en2) hd4 (sA _ _ hep) (by have := pk.few; rw [sizeLine_eq]; omega), ?_⟩
      have kd := kt_same sA
      have e5 : putK kvs (eKey en2) (V.ref z2) = kvs ++ [(eKey en2, V.ref z2)] := putK_new _ hv
      rw [e5]
      have kdt : ∀ (b : Addr) (xs : List V), upd (upd (upd Ha U (.tup [natV i, .ref ep])) z (.tup [])) z2 (.tup [natV i]) b = some (.tup xs) → upd (upd (upd (upd Ha U (.tup [natV i, .ref ep])) z (.tup [])) z2 (.tup [natV i])) d (.dT (kvs ++ [(eKey en2, V.ref z2)])) b = some (.tup xs) := fun b xs hb => by
        rw [upd_ne (ne_of hb hd4 (by intro z; cases z))]; exact hb
      have hnil : BE.occ ts i en2 = [] := by
        cases hl : BE.occ ts i en2 with
        | nil => rfl
        | cons j r =>
          have hj : j ∈ BE.occ ts i en2 := by rw [hl]; exact List.mem_cons_self
          obtain ⟨h1, h2⟩ := BE.mem_occ.mp hj
          refine absurd ((pk.mem en2).mpr ?_) hin
          have hjl : j < ts.length := by omega
          rw [← h2]
          have e6 : ts.getD j (0, 0) = ts[j] := by simp [List.getD, hjl]
          rw [e6]
          exact List.mem_of_getElem? (by rw [List.getElem?_take_of_lt h1]; exact List.getElem?_eq_getElem hjl)
      have hvals : Tps (upd (upd (upd (upd Ha U (.tup [natV i, .ref ep])) z (.tup [])) z2 (.tup [natV i])) d (.dT (kvs ++ [(eKey en2, V.ref z2)]))) ((kvs ++ [(eKey en2, V.ref z2)]).map (·.2)) ((es ++ [en2]).map fun e => lotD (BE.occ ts (i + 1) e)) := by
        rw [List.map_append, List.map_append]
        refine Tps.snoc ?_ ?_
        · have e7 : (es.map fun e => lotD (BE.occ ts (i + 1) e)) = es.map fun e => lotD (BE.occ ts i e) := List.map_congr_left fun e he => hother e fun z => hin (z ▸ he)
          rw [e7]
          exact Tps.mono (KT.trans kd kdt) pk.vals
        · show Tp _ (V.ref z2) (lotD (BE.occ ts (i + 1) en2))
          rw [hself, hnil]
          exact lot_tp (L := [i]) (kdt _ _ upd_same)
      refine ⟨same_upd _ (sm.trans sA) hd3, es ++ [en2], _, _, _, _, _, _, _, _, _, _, upd_same, ⟨by rw [List.map_append, List.map_append, pk.keys]; rfl, hvals, List.nodup_append.mpr ⟨pk.nd, by simp, fun a ha b hb e => hin (by rw [List.mem_singleton.mp hb] at e; exact e ▸ ha)⟩, fun e => ?_, by rw [List.length_append]; have := pk.few; show _ + 1 ≤ _; omega⟩, rfl⟩
      rw [tk, List.mem_append, List.mem_append, pk.mem]
  · obtain ⟨sm, es, kvs, o2, o6, o7, o8, o9, o10, o11, o12, o13, hda, pk, rfl⟩ := h
    rw [hyl2] at pk
    have hes : ∀ e, e ∈ es ↔ e ∈ ts := fun e => by rw [pk.mem, List.take_length]
    have hU4 := hU3.same sm
    -- the pairs, sorted
    refine ⟨_, rfl, .inr (.inr (.inl ⟨rfl, .inr ⟨_, hda⟩⟩)), d, kvs, rfl, rfl, hda, fun vw hvw => ⟨vw, d, kvs, rfl, upd_same, (same_new _ hvw) _ _ hda, fun vl hvl => ?_⟩⟩
    have sv := (same_new (valuesO vw d) hvw).trans (same_new (.lst (kvs.map (·.2))) hvl)
    have tv := Tps.mono (kt_same sv) pk.vals
    refine ⟨vl, kvs.map (·.2), es.map fun e => lotD (BE.occ ts ts.length e), rfl, SqL.of upd_same, Tps.dp tv, PySem.W.AllAlike.of (fun x y => ?_), .inl fun dd hdd => ?_, fun dd hdd => ?_, fun zs p7 hperm hpw hp7 => ?_⟩
    · have := alike_nats (BE.occ ts ts.length x) (BE.occ ts ts.length y)
      simpa [lotD, PySem.W.alike] using this
    · obtain ⟨e, he, rfl⟩ := List.mem_map.mp hdd
      obtain ⟨i, j, h1, _, _⟩ := BE.dbl_two perm hn2 ((hes e).mp he)
      exact ⟨natD i, [natD j], by rw [h1]; rfl⟩
    · obtain ⟨e, _, rfl⟩ := List.mem_map.mp hdd
      exact Nat.le_trans (lot_depth _) (by decide)
    have hlv : (kvs.map (·.2)).length = (es.map fun e => lotD (BE.occ ts ts.length e)).length := Tps.length tv
    have p2 : (zs.map (·.2)).Perm (es.map fun e => lotD (BE.occ ts ts.length e)) := by
      have := hperm.map (·.2)
      rw [zip_snd hlv] at this
      exact this
    obtain ⟨es', pe, ez⟩ := perm_map_inv p2 (B := es) rfl
    have tz : Tps (upd (upd H4 vw (valuesO vw d)) vl (.lst (kvs.map (·.2)))) (zs.map (·.1)) (es'.map fun e => lotD (BE.occ ts ts.length e)) := by
      rw [← ez]
      exact tps_of_all fun z hz => zip_tp tv z (hperm.mem_iff.mp hz)
    have hes' : ∀ e, e ∈ es' ↔ e ∈ ts := fun e => by rw [pe.mem_iff]; exact hes e
    have nd' : es'.Nodup := pe.nodup_iff.mpr pk.nd
    have ho : es'.Pairwise fun a b => (BE.occ ts ts.length a).headD 0 < (BE.occ ts ts.length b).headD 0 := by
      have h1 : (zs.map (·.2)).Pairwise fun d e => PySem.W.dataLt e d = false := by rw [List.pairwise_map]; exact hpw
      rw [ez, List.pairwise_map] at h1
      refine List.Pairwise.imp_of_mem ?_ (h1.and nd')
      intro x y hx hy h
      obtain ⟨i, j, e1, _, _⟩ := BE.dbl_two perm hn2 ((hes' x).mp hx)
      obtain ⟨i', j', e2, _, _⟩ := BE.dbl_two perm hn2 ((hes' y).mp hy)
      have h3 := h.1
      rw [e1, e2] at h3
      have h4 := lot_toks h3
      rw [e1, e2]
      refine Nat.lt_of_le_of_ne h4 fun z => h.2 ?_
      have z1 : i ∈ BE.occ ts ts.length x := by rw [e1]; simp
      have z2 : i' ∈ BE.occ ts ts.length y := by rw [e2]; simp
      have z' : i = i' := z
      rw [← (BE.mem_occ.mp z1).2, ← (BE.mem_occ.mp z2).2, z']
    have Pr := BE.dbl_prs perm hn2 hes' ho
    have hV := BE.dbl_V perm hn2 hes' Pr
    have elot : (es'.map fun e => lotD (BE.occ ts ts.length e)) = (es'.map (BE.occ ts ts.length)).map lotD := by rw [List.map_map]; rfl
    rw [elot] at tz
    have hesl : es'.length = k0 + 1 := by
      have : es'.Perm (BE.pathE (2 + k0)) := (List.perm_ext_iff_of_nodup nd' (BE.path_nodup _)).mpr fun e => by rw [hes', perm.mem_iff]; simp
      rw [this.length_eq]
      unfold BE.pathE
      simp
      omega
    have htwo : ∀ L ∈ es'.map (BE.occ ts ts.length), L.length ≤ 2 := fun L hL => by
      obtain ⟨i, j, rfl, _⟩ := Pr.two L hL
      exact Nat.le_refl _
    have hPLl : (es'.map (BE.occ ts ts.length)).length = k0 + 1 := by rw [List.length_map, hesl]
    generalize hPL : es'.map (BE.occ ts ts.length) = PL at *
    clear hPL ho nd' ez p2 hlv tv pe hes' elot hesl hes pk
    have hB : Base (2 + k0) ts (PL.map (BE.bitsOf ts.length)) := by
      refine ⟨Pr.ech, fun x => (Pr.span x).trans (hV x).symm, ?_⟩
      obtain ⟨g1, g2, _⟩ := BE.parRows_ok W
      have := BE.indep_len g2 Pr.ech fun x => (g1 x).trans ((hV x).trans ((Pr.span x).symm.trans (BE.span_congr (fun _ => List.mem_reverse.symm) x)))
      rw [List.length_reverse] at this
      exact this.symm
    have hcl : (PL.map (BE.bitsOf ts.length)).length = k0 + 1 := by rw [List.length_map, hPLl]
    have hbl : (BE.parRows (2 + k0) ts).length = k0 + 1 := by rw [← hB.len, hcl]
    have s5 := sv.trans (same_new (.lst (zs.map (·.1))) hp7)
    have tz5 := Tps.mono (kt_same (same_new (.lst (zs.map (·.1))) hp7)) tz
    have hU5' := hU4.same sv
    have h7u : p7 ≠ u ∧ p7 ≠ dl := by
      obtain ⟨ds, st, U⟩ := hU5'
      exact ⟨fun e => (by rw [e, U.d] at hp7; cases hp7), fun e => (by rw [e, U.l] at hp7; cases hp7)⟩
    have hU5 := hU4.same s5
    have s35 := sm.trans s5
    have tw5 := tw3.mono (kt_same s35)
    have f05 := f03.trans (Same.fr (u := u) (dl := dl) s35)
    have hp75 : upd (upd (upd H4 vw (valuesO vw d)) vl (.lst (kvs.map (·.2)))) p7 (.lst (zs.map (·.1))) p7 = some (.lst (zs.map (·.1))) := upd_same
    have hzl : (zs.map (·.1)).length = k0 + 1 := by rw [Tps.length tz, List.length_map, hPLl]
    clear tz hU5' sv s5 hvl hvw hp7 hperm hpw hU4 sm s35 hda
    generalize upd (upd (upd H4 vw (valuesO vw d)) vl (.lst (kvs.map (·.2)))) p7 (.lst (zs.map (·.1))) = H5 at *
    generalize zs.map (·.1) = bx at *
    have hMe : 2 ^ (2 + k0 - 1) = 2 ^ (k0 + 1) := by rw [show 2 + k0 - 1 = k0 + 1 by omega]
    have hM2 : 2 ≤ 2 ^ (2 + k0 - 1) := by
      rw [hMe, Nat.pow_succ]
      have := Nat.two_pow_pos k0
      omega
    have hMx : 2 ^ (2 + k0 - 1) ≤ 2048 := by
      have := Nat.pow_le_pow_right (n := 2) (by omega) (show 2 + k0 - 1 ≤ 11 by omega)
      have e : (2 : Nat) ^ 11 = 2048 := by decide
      omega
    refine ⟨_, rfl, _, 1, rfl, rfl, by omega, 2 + k0 - 1, rfl, by omega, _, _, rfl, ?_⟩
    refine ⟨_, rfl, _, 1, rfl, rfl, by omega, _, rfl, _, rfl, u, dl, 2 ^ (2 + k0 - 1), rfl, hU5, by omega, fun kA H6 _ a2 hU6 f6 => ⟨_, rfl, _, rfl, u, dl, 2 ^ (2 + k0 - 1), rfl, hU6, by omega, fun kB H7 _ b2 hU7 f7 => ⟨by show 4 ≤ sizeLine; decide, fun lz hlz => ⟨lz, rfl, ⟨_, SqL.of upd_same⟩, ?_⟩⟩⟩⟩
    have hkA := a2 hM2
    have hkB := b2 hM2
    have slz := same_new (.lst [natV 0, natV (2 ^ (2 + k0 - 1) - 1), natV kA, natV kB]) hlz
    have f57 := (f6.trans f7).trans (Same.fr (u := u) (dl := dl) slz)
    have kt8 := ((f6.kt hU5).trans (f7.kt hU6)).trans (kt_same slz)
    have tw8 := tw5.mono kt8
    have tz8 := Tps.mono kt8 tz5
    have hp78 := f57 _ _ h7u.1 h7u.2 hp75
    have f08 := f05.trans f57
    have hU8 := hU7.same slz
    have hlz8 : upd H7 lz (.lst [natV 0, natV (2 ^ (2 + k0 - 1) - 1), natV kA, natV kB]) lz = some (.lst ([0, 2 ^ (2 + k0 - 1) - 1, kA, kB].map natV)) := upd_same
    clear slz kt8 tw5 tz5 hp75
    generalize hE8 : upd H7 lz (.lst [natV 0, natV (2 ^ (2 + k0 - 1) - 1), natV kA, natV kB]) = H8 at f57 tw8 tz8 hp78 f08 hU8 hlz8
    refine for_list (H := upd H7 lz (.lst [natV 0, natV (2 ^ (2 + k0 - 1) - 1), natV kA, natV kB])) (xs := [0, 2 ^ (2 + k0 - 1) - 1, kA, kB].map natV) (fun i σ H' => Same H8 H' ∧ ∃ o2 o6 o9 o10 o11 o12 o13, σ = [some (.ref u), some (natV (2 + k0)), o2, some (.ref l), some (.ref wa), some (.ref d), o6, some (.ref p7), some (natV (2 ^ (2 + k0 - 1))), o9, o10, o11, o12, o13])
      ⟨by rw [hE8]; exact Same.refl _, o2, o6, o9, o10, o11, o12, o13, rfl⟩ (fun i σ H' _ h => SqL.of (h.1 _ _ hlz8)) (fun i x σ H' hx h => ?_) fun σ H9 h => ?_
    · obtain ⟨s8, o2, o6, o9, o10, o11, o12, o13, rfl⟩ := h
      rw [List.getElem?_map] at hx
      obtain ⟨num, hnum, rfl⟩ := Option.map_eq_some_iff.mp hx
      have hlt : num < 2 ^ (2 + k0 - 1) := by
        have hmem := List.mem_of_getElem? hnum
        simp only [List.mem_cons, List.not_mem_nil, or_false] at hmem
        rcases hmem with e | e | e | e <;> omega
      clear hx hnum
      refine ⟨by show 0 ≤ sizeLine; decide, fun g0 hg0 => ⟨_, rfl, _, _, rfl, ?_⟩⟩
      have sg0 := same_new (.lst []) hg0
      refine ⟨_, rfl, p7, bx, rfl, SqL.of ((s8.trans sg0) _ _ hp78), fun rv hrv => ⟨rv, rfl, ⟨_, SqL.of upd_same⟩, ?_⟩⟩
      have srv := same_new (.lst bx.reverse) hrv
      have s9 := (s8.trans sg0).trans srv
      have tr9 := Tps.rev (Tps.mono (kt_same s9) tz8)
      rw [← List.map_reverse] at tr9
      have hbr : bx.reverse.length = PL.reverse.length := by rw [List.length_reverse, List.length_reverse, hzl, hPLl]
      have hfewg : ∀ R : List (List Nat), (∀ L ∈ R, L ∈ PL) → R.length ≤ PL.length → (BE.gath R num).length ≤ 24 := fun R hR hRl => by
        have := BE.gath_few (R := R) (num := num) (c := 2) fun L hL => htwo L (hR L hL)
        omega
      refine for_list (xs := bx.reverse) (fun j σ H' => Same H8 H' ∧ H' rv = some (.lst bx.reverse) ∧ Tps H' bx.reverse (PL.reverse.map lotD) ∧ ∃ g o12, H' g = some (.lst ((BE.gath (PL.reverse.take j) num).map natV)) ∧ σ = [some (.ref u), some (natV (2 + k0)), o2, some (.ref l), some (.ref wa), some (.ref d), o6, some (.ref p7), some (natV (2 ^ (2 + k0 - 1))), some (natV num), some (.ref g), some (natV (num / 2 ^ j)), o12, o13])
        ⟨s9, upd_same, tr9, g0, o12, srv _ _ upd_same, by rw [Nat.pow_zero, Nat.div_one]; rfl⟩ (fun j σ H' _ h => SqL.of h.2.1) (fun j x σ Ha hx h => ?_) fun σ Ha h => ?_
      · obtain ⟨sa, hrv2, trx, g, o12, hg, rfl⟩ := h
        obtain ⟨dd, hdd, td⟩ := Tps.get trx hx
        rw [List.getElem?_map] at hdd
        obtain ⟨L, hL, rfl⟩ := Option.map_eq_some_iff.mp hdd
        obtain ⟨la, rfl, hla⟩ := lot_inv td
        have hLm : L ∈ PL := List.mem_reverse.mp (List.mem_of_getElem? hL)
        have hL2 := htwo L hLm
        have hgl := hfewg (PL.reverse.take j) (fun M hM => List.mem_reverse.mp (List.mem_of_mem_take hM)) (by rw [List.length_take, List.length_reverse]; omega)
        have hmod : num / 2 ^ j % 2 < 2 := Nat.mod_lt _ (by omega)
        refine ⟨_, rfl, _, rfl, la, _, rfl, .inr (SqT.of hla), fun q1 hq1 => ⟨_, rfl, .inl ⟨_, rfl, num / 2 ^ j, 2, rfl, rfl, by omega, q1, ((num / 2 ^ j % 2 : Nat) : Int), L.map natV, rfl, rfl, upd_same, by omega, by omega, ?_, fun q2 hq2 => ?_⟩⟩⟩
        · rw [Int.toNat_natCast, List.length_map, sizeLine_eq]
          have := Nat.mul_le_mul hL2 (Nat.le_of_lt_succ hmod)
          omega
        have sq1 := same_new (.lst (L.map natV)) hq1
        have erep : (List.replicate ((num / 2 ^ j % 2 : Nat) : Int).toNat (L.map natV)).flatten = (if num.testBit j then L else []).map natV := by
          rw [Int.toNat_natCast]
          by_cases c : num.testBit j = true
          · rw [if_pos c]
            rw [Nat.testBit_eq_decide_div_mod_eq] at c
            rw [of_decide_eq_true c]
            show L.map natV ++ [] = _
            rw [List.append_nil]
          · rw [if_neg c]
            rw [Nat.testBit_eq_decide_div_mod_eq] at c
            have h0 : num / 2 ^ j % 2 = 0 := by
              have : ¬ num / 2 ^ j % 2 = 1 := fun z => c (decide_eq_true z)
              omega
            rw [h0]
            rfl
        rw [erep]
        have sq2 := same_new (.lst ((if num.testBit j then L else []).map natV)) hq2
        have hif : (if num.testBit j then L else []).length ≤ 2 := by
          split
          · exact hL2
          · exact Nat.zero_le _
        refine ⟨g, q2, _, _, rfl, rfl, (sq1.trans sq2) _ _ hg, upd_same, by rw [List.length_map, List.length_map, sizeLine_eq]; omega, fun q3 hq3 => ?_⟩
        have sq3 := same_new (.lst ((BE.gath (PL.reverse.take j) num).map natV ++ (if num.testBit j then L else []).map natV)) hq3
        have sA := (sq1.trans sq2).trans sq3
        refine ⟨_, rfl, num / 2 ^ j, 2, rfl, rfl, ⟨by omega, by omega⟩, sa.trans sA, sA _ _ hrv2, Tps.mono (kt_same sA) trx, q3, some (.ref la), ?_, ?_⟩
        · rw [BE.gath_take _ _ _ _ hL, List.map_append]
          exact upd_same
        · have ed : num / 2 ^ j / 2 = num / 2 ^ (j + 1) := by rw [Nat.div_div_eq_div_mul, Nat.pow_succ]
          rw [← ed]
          rfl
      · obtain ⟨sa, _, _, g, o12, hg, rfl⟩ := h
        rw [hbr, List.take_length] at hg
        have hgl := hfewg PL.reverse (fun M hM => List.mem_reverse.mp hM) (by rw [List.length_reverse]; exact Nat.le_refl _)
        have eg : (BE.gath PL.reverse num).map natV = ((BE.gath PL.reverse num).map fun k : Nat => (k : Int)).map V.int := by rw [List.map_map]; rfl
        rw [eg] at hg
        refine ⟨_, rfl, g, (BE.gath PL.reverse num).map fun k : Nat => (k : Int), rfl, SqL.of hg, by rw [List.length_map]; omega, fun ns' z1 pm' sr' hz1 => ⟨z1, _, rfl, .inl ⟨SqL.of upd_same, fun du hdu => ?_⟩⟩⟩
        obtain ⟨S, rfl⟩ : ∃ S : List Nat, ns' = S.map fun k : Nat => (k : Int) := by
          obtain ⟨S, _, e⟩ := perm_map_inv pm' (B := BE.gath PL.reverse num) rfl
          exact ⟨S, e⟩
        have pmS : S.Perm (BE.gath PL.reverse num) := by
          obtain ⟨S', h1, h2⟩ := perm_map_inv pm' (B := BE.gath PL.reverse num) rfl
          have : S = S' := by
            have h3 := congrArg (List.map Int.toNat) h2
            rw [List.map_map, List.map_map] at h3
            have e1 : ∀ L : List Nat, L.map (Int.toNat ∘ fun k : Nat => (k : Int)) = L := fun L => (List.map_congr_left fun k _ => rfl).trans (List.map_id L)
            rw [e1, e1] at h3
            exact h3
          rw [this]; exact h1
        have srS : S.Pairwise (· ≤ ·) := by
          rw [List.pairwise_map] at sr'
          exact sr'.imp fun h => by omega
        have eS := Pr.due pmS srS
        have evS : (S.map fun k : Nat => (k : Int)).map V.int = S.map natV := by rw [List.map_map]; rfl
        rw [evS] at hdu ⊢
        have sz1 := same_new (.lst (S.map natV)) (by simpa using hz1)
        have sdu := same_new (.tup (S.map natV)) hdu
        have sB := (sa.trans sz1).trans sdu
        have tdu : Tp (upd (upd Ha z1 (.lst (S.map natV))) du (.tup (S.map natV))) (.ref du) (lotD S) := lot_tp upd_same
        have twB := tw8.mono (kt_same sB)
        rw [eS] at tdu sB twB sz1 sdu hdu ⊢
        have hlt2 : num < 2 ^ (PL.map (BE.bitsOf ts.length)).length := by rw [hcl, ← hMe]; exact hlt
        have hLot := lot_of hB num
        generalize hLn : BE.lotOfBits ts.length (BE.nb (PL.map (BE.bitsOf ts.length)).reverse num) = L at *
        refine ⟨_, rfl, _, rfl, _, _, 2 + k0, ts, rfl, twB, wk, by omega, .inl ⟨num, rfl, by rw [hbl, ← hMe]; exact hlt, fun l2 bs2 H10 s10 hB2 tl2 => ?_⟩⟩
        rw [← base_same hB hB2 hlt2, hLn] at tl2
        refine ⟨_, rfl, _, rfl, _, _, 2 + k0, ts, L, rfl, twB.mono (kt_same s10), tdu.mono (kt_same s10), wk, by omega, hLot, fun j cs H11 s11 hC hj ej => ?_, fun nb => ?_⟩
        · have hji : j = num := num_own hB hC hlt2 hj (ej.trans hLn.symm)
          subst hji
          have tl11 := tl2.mono (kt_same s11)
          have tdu11 := tdu.mono (kt_same (s10.trans s11))
          have hsl : Sh (.list [lotD L, natD j]) (2 * 269 + 2) := Sh.list (ds := [lotD L, natD j]) (B := 267) fun d hd => by
            simp only [List.mem_cons, List.not_mem_nil, or_false] at hd
            rcases hd with e | e
            · subst e
              exact sh_lot (c := 22) (fun k hk => Nat.lt_of_lt_of_le (show k < 100 by have := hLot.lt k hk; omega) (by decide)) (by have := hLot.len; omega)
            · subst e
              exact (sh_nat (Nat.lt_of_lt_of_le (show j < 3000 by omega) (by decide))).mono (by decide)
          have hdl : (PyData.list [lotD L, natD j]).depth ≤ 60 := by
            have := lot_depth L
            simp only [natD, PyData.depth, PyData.depthAll]
            omega
          refine ⟨by show 2 ≤ sizeLine; decide, fun y1 hy1 => ⟨y1, .list [lotD L, natD j], rfl, .lst (SqL.of upd_same) (.cons (tl11.mono (kt_new _ hy1)).dp (.cons (.int _) .nil)), hsl.s, hsl.n, hdl, Nat.le_trans hsl.l (by decide), ?_⟩⟩
          have sy1 := same_new (.lst [l2, natV j]) hy1
          refine ⟨_, rfl, _, rfl, by show 2 ≤ sizeLine; decide, fun y2 hy2 => ⟨y2, .list [lotD L, natD j], rfl, .lst (SqL.of upd_same) (.cons ((tdu11.mono (kt_same sy1)).mono (kt_new _ hy2)).dp (.cons (.int _) .nil)), hsl.s, hsl.n, hdl, Nat.le_trans hsl.l (by decide), rfl, _, rfl, neF ?_⟩⟩
          exact ⟨(((sB.trans s10).trans s11).trans sy1).trans (same_new _ hy2), _, _, _, _, _, _, _, rfl⟩
        · refine absurd ?_ nb
          rw [← hLn]
          exact (BE.both_iff fun k hk => chi_lot hk).mp (nb_V hB num).2
    · obtain ⟨s9, o2, o6, o9, o10, o11, o12, o13, rfl⟩ := h
      have hU9 := hU8.same s9
      have tw9 := tw8.mono (kt_same s9)
      have f09 := f08.trans (Same.fr (u := u) (dl := dl) s9)
      have bad : ∀ H', BadN H' (2 + k0) ts (natV (2 ^ (2 + k0 - 1))) := fun H' => .inr ⟨_, rfl, fun h => by rw [hbl, ← hMe] at h; omega⟩
      have fin : ∀ H', Same H9 H' → Q (.bl true) H' := fun H' s' => q H' (hU9.same s') (f09.trans (Same.fr s'))
      refine ⟨_, rfl, _, 9, rfl, rfl, trivial, _, rfl, ?_⟩
      refine ite2 (fun c => ?_) fun c => ?_
      · have c1 : 9 < 2 + k0 := of_decide_eq_true c
        have hbig : 256 < 2 ^ (BE.parRows (2 + k0) ts).length := by
          rw [hbl]
          have := Nat.pow_le_pow_right (n := 2) (by omega) (show 9 ≤ k0 + 1 by omega)
          have e : (2 : Nat) ^ 9 = 512 := by decide
          omega
        refine ⟨_, rfl, 0, _, _, 2 + k0, ts, rfl, tw9, wk, by omega, .inr (.inr ⟨rfl, hbig, fun lw Hw sw hlw => ?_⟩)⟩
        refine ⟨by show 2 ≤ sizeLine; decide, fun y hy => ?_⟩
        have sy := same_new (.lst [V.str "many", V.int 256]) hy
        refine ⟨.list [.str "many", .int 256], .list [.str "many", .int 256], .lst (SqL.of (sy _ _ hlw)) (.cons (.str _) (.cons (.int _) .nil)), .lst (SqL.of upd_same) (.cons (.str _) (.cons (.int _) .nil)), by decide +kernel, by decide +kernel, _, rfl, ?_⟩
        have eqt : PyData.eqv (.list [.str "many", .int 256]) (.list [.str "many", .int 256]) = true := by decide +kernel
        rw [eqt]
        refine iteT ⟨_, rfl, _, rfl, 1, _, _, 2 + k0, ts, rfl, tw9.mono (kt_same (sw.trans sy)), wk, by omega, .inl ⟨rfl, bad _, fun H' s' => ⟨rfl, ?_⟩⟩⟩
        show Q (.bl (decide (V.str "unfit" = V.str "unfit"))) H'
        rw [decide_eq_true rfl]
        exact fin _ ((sw.trans sy).trans s')
      · have c1 : ¬ 9 < 2 + k0 := fun z => c (decide_eq_true z)
        refine ⟨_, rfl, _, rfl, 1, _, _, 2 + k0, ts, rfl, tw9, wk, by omega, .inl ⟨rfl, bad _, fun H' s' => ⟨rfl, _, rfl, ?_⟩⟩⟩
        rw [decide_eq_true (rfl : V.str "unfit" = V.str "unfit")]
        refine iteT ⟨_, rfl, _, 6, rfl, rfl, trivial, _, rfl, ?_⟩
        refine ite2 (fun cc => fin _ s') fun cc => ?_
        have c2 : ¬ 6 < 2 + k0 := fun z => cc (decide_eq_true z)
        have hsm : 2 ^ (BE.parRows (2 + k0) ts).length ≤ 256 := by
          rw [hbl]
          have := Nat.pow_le_pow_right (n := 2) (by omega) (show k0 + 1 ≤ 8 by omega)
          have e : (2 : Nat) ^ 8 = 256 := by decide
          omega
        refine ⟨_, rfl, _, 2 + k0, ts, rfl, tw9.mono (kt_same s'), wk, by omega, fun z => absurd z (by omega), fun _ lv bs2 H11 s11 hB2 tl2 => ?_⟩
        obtain ⟨la, lx, rfl, hla, hlx⟩ := Tp.tup_inv tl2
        have hll : lx.length = 2 ^ (2 + k0 - 1) := by rw [Tps.length hlx, List.length_map, lots_len, hB2.len, hbl, hMe]
        refine ⟨la, lx, rfl, .inr (SqT.of hla), _, rfl, lx.length, 2 ^ (2 + k0 - 1), rfl, rfl, trivial, ?_⟩
        rw [hll]
        show Q (.bl (decide (2 ^ (2 + k0 - 1) = 2 ^ (2 + k0 - 1)))) H11
        rw [decide_eq_true (rfl : 2 ^ (2 + k0 - 1) = 2 ^ (2 + k0 - 1))]
        exact fin _ (s'.trans s11)
end
end R
end
/-! ## W23 -/
section
set_option Elab.async false
set_option linter.all false
set_option maxRecDepth 100000
set_option maxHeartbeats 4000000
namespace R
open PySem PySem.Spec PyProof.Rows L2
/-- a def that wants no guard, by its name -/
structure CalG (P : Program) (w : World) (K : PySem.W.Frag) (mg : Str → Option Value) (base : Heap) (k : Nat) (x : Str) (sp : Sp) : Prop where
  ex : ∃ (f : Addr) (fd : FuncData) (ps : List Str), FnG P w K mg base CX0 k f fd ps sp ∧ mg x = some (.ref f) ∧ PySem.W.keepIn K (.ref f) = true ∧ Binds K fd ps []
theorem pe_cG {X : Cx} {k j : Nat} {x : Str} {sp : Sp} {p pos : Pos} {e : Expr} {es : List Expr} {t : TA} (c : CalG X.prog X.w X.K X.mg X.base k x sp) (hgd : X.A.guards = some []) (hr : Room j X.A) (hk : k ≤ j) (hg : Gl X x) (ha : PA X (e :: es) t)
    (hdb : (x == ("__debug__" : Str)) = false := by decide) (he : starEach (e :: es) X.env = (false, eval e X.env) :: starEach es X.env := by rfl) (hpl : (backTo pos (starEach es X.env)).any (·.1) = false := by rfl) :
    PE X (.Call (.Name x p) (e :: es) [] pos) (tC0 sp t) := by
  obtain ⟨f, fd, ps, F, hm, kp, b⟩ := c.ex
  exact pe_callG F hgd (hr.mono hk) hg hm kp b ha hdb he hpl
/-- the nine places -/
def nineT : BE.Ties := BE.pathE 9 ++ BE.pathE 9
theorem nine_wk : Wk 9 nineT := ⟨BE.dbl_web (n := 9) (ts := nineT) (.refl _) (by omega), by omega, by decide⟩
theorem nine_b : (BE.parRows 9 nineT).length = 8 := by decide +kernel
theorem sqL_same {K : PySem.W.Frag} {H H' : Hp} {a : Addr} {xs : List V} (h : SqL K H a xs) (s : Same H H') : SqL K H' a xs :=
  h.elim (fun h => .inl (h.elim (fun h => .inl (s _ _ h)) fun ⟨o, h⟩ => .inr ⟨o, s _ _ h⟩)) .inr
section
variable {P : Program} {w : World} {K : PySem.W.Frag} {mg : Str → Option Value} {base : Heap} {f : Addr} {fd : FuncData}
/-! ### law(script) -/
abbrev sLaw : Stmt := top 49
def spLaw (K : PySem.W.Frag) : Sp := fun vs H Q _ => ∃ (a : Addr) (ns : List Int), vs = [.ref a] ∧ SqL K H a (ns.map V.int) ∧ ∀ H', Q (.bl true) H'
theorem scLaw : FnScope ["_law_script", "_law_urn_here", "_law_turn", "_law_web_here", "_law_nine", "_law_k"] ["_law_script"] (defScope sLaw) := ⟨rfl, rfl, rfl, by decide +kernel, rfl, by decide +kernel, by decide +kernel⟩
theorem ok_law {CT : Addr} (F : Fun K "law" "law" sLaw f fd) (T : Txt K mg) (cUrn : Cal P w K mg base 1 "_law_urn" (spUrn K)) (cTake : Cal P w K mg base 1 "_law_take" spTake) (cWeb : Cal P w K mg base 3 "_law_web" spWeb)
    (cListed : CalG P w K mg base 8 "_law_is_listed" spListed) (cGreat : CalG P w K mg base 8 "_law_is_great" spGreatL) (cAll : CalX P w K mg base 5 "all_lots" ["web"] (spAll CT)) : FnG P w K mg base CX0 9 f fd ["_law_script"] (spLaw K) := by
  refine okG F scLaw (fun vs H Q E h => ?_) (fun cdv A outer s H vs Q E hgd hr h => ?_)
  · obtain ⟨_, _, rfl, _⟩ := h; rfl
  obtain ⟨a, ns, rfl, ha, q⟩ := h
  have nd := scLaw.nd
  refine ⟨_, (pss_cons (ps_set (i := 1) nd rfl (Or.inl rfl) (pe_c cUrn hr (by decide) (by rfl) (pa_cons (pv 0) pa_nil)))
    (pss_cons (ps_for PassesOwn.never rfl (pi_range1 (by rfl) T.range (pa_cons pe_int pa_nil)) (pg_name (i := 2) nd rfl (Or.inl rfl))
    (pss_cons (ps_set (i := 3) nd rfl (Or.inl rfl) (pe_c cWeb hr (by decide) (by rfl) (pa_cons (pv 1) (pa_cons (pe_op op_addN (pe_ix ix_list (pe_lst (pa_cons pe_int (pa_cons pe_int (pa_cons pe_int pa_nil)))) (pv 2) (fun _ _ => rfl)) (pe_c cTake hr (by decide) (by rfl) (pa_cons (pv 1) (pa_cons pe_int pa_nil)))) (pa_cons (pe_c cTake hr (by decide) (by rfl) (pa_cons (pv 1) (pa_cons (pe_ix ix_list (pe_lst (pa_cons pe_int (pa_cons pe_int (pa_cons pe_int pa_nil)))) (pv 2) (fun _ _ => rfl)) pa_nil))) pa_nil)))))
    (pss_one (ps_if (pt_not (pt_val (pe_cG cListed hgd hr (by decide) (by rfl) (pa_cons (pv 1) (pa_cons (pv 3) (pa_cons (pe_cmpR op_eqN (pv 2) pe_int (nomark _)) pa_nil)))))) (pss_one (ps_ret pe_bl)) pss_nil))))
    (pss_cons (ps_for PassesOwn.never rfl (pi_range1 (by rfl) T.range (pa_cons pe_int pa_nil)) (pg_name (i := 2) nd rfl (Or.inl rfl))
    (pss_one (ps_if (pt_not (pt_val (pe_cG cGreat hgd hr (by decide) (by rfl) (pa_cons (pv 1) pa_nil)))) (pss_one (ps_ret pe_bl)) pss_nil)))
    (pss_cons (ps_set (i := 4) nd rfl (Or.inl rfl) (pe_tup (pa_cons pe_int (pa_cons (pe_callTy call_tuple_of (by rfl) T.tuple (by decide +kernel) (pa_cons (pe_op op_rep (pe_lc (own := [("_law_k", 5)]) (g := gName 5) (by rfl) nd (pi_range1 (by rfl) T.range (pa_cons pe_int pa_nil)) (blkOk_by (own := [("_law_k", 5)]) (N := ["_law_script", "_law_urn_here", "_law_turn", "_law_web_here", "_law_nine", "_law_k"]) (sc := defScope sLaw) (by decide +kernel)) (fun _ _ _ _ _ => (pg_name (i := 5) nd rfl (Or.inl rfl))) (fun _ _ _ _ _ => pts_nil) (fun _ _ _ _ _ => pe_tup (pa_cons (pv 5) (pa_cons (pe_op op_addN (pv 5) pe_int) pa_nil)))) pe_int) pa_nil)) pa_nil))))
    (pss_one (ps_ret (pe_or (pe_cmpR op_gtN (pe_c cTake hr (by decide) (by rfl) (pa_cons (pv 1) (pa_cons pe_int pa_nil))) pe_int (nomark _)) (pe_one (pe_cmpR op_eqN (pe_callB call_len_seq (by rfl) T.len PySem.boot_len (pa_cons (pe_cE cAll hr (by decide) (by rfl) (pa_cons (pv 4) pa_nil)) pa_nil)) pe_int (nomark _)))))))))), ?_⟩
  refine ⟨_, rfl, a, ns, rfl, ha, fun H' s' => sqL_same ha s', fun u dl H1 hU s1 _ _ => ?_⟩
  refine ⟨(3 : Int), rfl, by decide, by decide, ?_⟩
  refine for_it (n := (3 : Int).toNat) walk_rangeN (fun i σ H' => UrnAt H' u dl ∧ ∃ o2 o3 o4 o5, σ = [some (.ref a), some (.ref u), o2, o3, o4, o5]) ⟨hU, none, none, none, none, rfl⟩ (fun _ _ _ _ _ => trivial) (fun i x σ H2 H3 hi h y => ?_) fun σ H2 h => ?_
  · obtain ⟨hU2, o2, o3, o4, o5, rfl⟩ := h
    obtain ⟨rfl, rfl⟩ := y
    have hi3 : i < 3 := hi
    obtain ⟨b1, hb1, hb1a, hb1b⟩ : ∃ b1 : Nat, atI [V.int 1, V.int 4, V.int 5] (i : Int) = some (natV b1) ∧ 1 ≤ b1 ∧ b1 ≤ 5 := by
      rcases (show i = 0 ∨ i = 1 ∨ i = 2 by omega) with rfl | rfl | rfl
      · exact ⟨1, atI_nat rfl, by omega, by omega⟩
      · exact ⟨4, atI_nat rfl, by omega, by omega⟩
      · exact ⟨5, atI_nat rfl, by omega, by omega⟩
    obtain ⟨b2, hb2, hb2a, hb2b⟩ : ∃ b2 : Nat, atI [V.int 4, V.int 6, V.int 6] (i : Int) = some (natV b2) ∧ 2 ≤ b2 ∧ b2 ≤ 6 := by
      rcases (show i = 0 ∨ i = 1 ∨ i = 2 by omega) with rfl | rfl | rfl
      · exact ⟨4, atI_nat rfl, by omega, by omega⟩
      · exact ⟨6, atI_nat rfl, by omega, by omega⟩
      · exact ⟨6, atI_nat rfl, by omega, by omega⟩
    refine ⟨_, rfl, by show 3 ≤ sizeLine; decide, fun z1 hz1 => ⟨_, rfl, z1, _, (i : Int), natV b1, rfl, rfl, SqL.of upd_same, hb1, _, rfl, u, dl, 3, rfl, hU2.same (same_new _ hz1), by omega, fun k1 H4 _ e1 hU4 f4 => ⟨b1, k1, rfl, rfl, trivial, _, rfl, by show 3 ≤ sizeLine; decide, fun z2 hz2 => ⟨_, rfl, z2, _, (i : Int), natV b2, rfl, rfl, SqL.of upd_same, hb2, u, dl, b2, rfl, hU4.same (same_new _ hz2), by omega, fun k2 H5 _ e2 hU5 f5 => ?_⟩⟩⟩⟩
    have hk1 := e1 (by omega)
    have hk2 := e2 hb2a
    refine ⟨u, dl, b1 + k1, k2, rfl, hU5, by omega, by omega, by omega, fun l ts H6 hU6 f6 tw W ht => ?_⟩
    refine ⟨_, rfl, _, rfl, _, rfl, i, 1, rfl, rfl, trivial, u, dl, l, decide (i = 1), b1 + k1, ts, rfl, hU6, tw, ⟨W, by omega, by omega⟩, by omega, by omega, fun H7 hU7 f7 => ⟨_, rfl, iteF ⟨hU7, _, _, _, _, rfl⟩⟩⟩
  · obtain ⟨hU2, o2, o3, o4, o5, rfl⟩ := h
    refine ⟨(2 : Int), rfl, by decide, by decide, ?_⟩
    refine for_it (n := (2 : Int).toNat) walk_rangeN (fun i σ H' => UrnAt H' u dl ∧ ∃ o2 o3 o4 o5, σ = [some (.ref a), some (.ref u), o2, o3, o4, o5]) ⟨hU2, o2, o3, o4, o5, rfl⟩ (fun _ _ _ _ _ => trivial) (fun i x σ H3 H4 hi h y => ?_) fun σ H3 h => ?_
    · obtain ⟨hU3, o2, o3, o4, o5, rfl⟩ := h
      obtain ⟨rfl, rfl⟩ := y
      exact ⟨_, rfl, u, dl, rfl, hU3, fun H5 hU5 f5 => ⟨_, rfl, iteF ⟨hU5, _, _, _, _, rfl⟩⟩⟩
    · obtain ⟨hU3, o2, o3, o4, o5, rfl⟩ := h
      refine ⟨(8 : Int), rfl, by decide, by decide, fun D hD => ?_⟩
      refine lc_tp (g := gName 5) (tt := tYes) (vs := [5]) (walk_rangeN (n := (8 : Int).toNat)) hD (by decide) (fun i => ((List.range i).map fun k => (k, k + 1)).map pairD) rfl (fun H s => trivial) (fun i x Ha Hb N M hi s _ y hN hM => ?_) fun Ha ys s e tp => ?_
      · obtain ⟨rfl, rfl⟩ := y
        refine ⟨rfl, kept ⟨_, rfl, _, rfl, _, 1, rfl, rfl, trivial, by show 2 ≤ sizeLine; decide, fun z hz => hN _ _ (pairD (i, i + 1)) (same_new _ hz) (pair_tp (t := (i, i + 1)) upd_same) ?_⟩⟩
        show List.map pairD _ = _
        rw [List.range_succ, List.map_append, List.map_append]
        rfl
      have tp1 : Tps Ha ys ((BE.pathE 9).map pairD) := tp
      have hyl : ys.length = 8 := by rw [Tps.length tp1]; rfl
      have tp2 : Tps Ha (ys ++ ys) (nineT.map pairD) := by unfold nineT; rw [List.map_append]; exact Tps.app tp1 tp1
      refine ⟨D, 2, ys, rfl, rfl, e, by decide, by decide, by rw [hyl]; decide, fun p hp => ?_⟩
      have erep : (List.replicate (2 : Int).toNat ys).flatten = ys ++ ys := by
        show ys ++ (ys ++ []) = _
        rw [List.append_nil]
      rw [erep]
      refine ⟨p, _, rfl, .inl ⟨SqL.of upd_same, fun tt htt => ⟨by show 2 ≤ sizeLine; decide, fun wa hwa => ?_⟩⟩⟩
      have sp := same_new (.lst (ys ++ ys)) hp
      have st := same_new (.tup (ys ++ ys)) htt
      have sw := same_new (.tup [V.int 9, .ref tt]) hwa
      have tw : Tp (upd (upd (upd Ha p (.lst (ys ++ ys))) tt (.tup (ys ++ ys))) wa (.tup [V.int 9, .ref tt])) (.ref wa) (webD 9 nineT) := .tup upd_same (.cons (.int _) (.cons (.tup (sw _ _ upd_same) (Tps.mono (kt_same ((sp.trans st).trans sw)) tp2)) .nil))
      refine ⟨_, rfl, u, dl, 8, rfl, hU3.same (((s.trans sp).trans st).trans sw), by omega, fun k H5 _ _ hU5 f5 => ⟨k, 0, rfl, rfl, trivial, _, rfl, ?_⟩⟩
      have tw5 := tw.mono (f5.kt (hU3.same (((s.trans sp).trans st).trans sw)))
      refine ite2 (fun c => q _) fun c => ?_
      refine ⟨_, rfl, _, 9, nineT, rfl, tw5, nine_wk, by omega, fun z => ?_, fun _ lv bs H6 s6 hB tl => ?_⟩
      · rw [nine_b] at z; exact absurd z (by decide)
      · obtain ⟨la, lx, rfl, hla, hlx⟩ := Tp.tup_inv tl
        have hll : lx.length = 256 := by rw [Tps.length hlx, List.length_map, lots_len, hB.len, nine_b]
        refine ⟨la, lx, rfl, .inr (SqT.of hla), lx.length, 256, rfl, rfl, trivial, ?_⟩
        rw [hll]
        exact q _
end
/-! ### what the top has written -/
/-- a def of the text, as it stands behind the top -/
structure DefIn (K : PySem.W.Frag) (mg : Str → Option Value) (x : Str) (st : Stmt) : Prop where
  ex : ∃ (f : Addr) (oc : Value) (od an : Option Addr) (kV doc pm cdv ct : Value) (osl : Array (Option Value)), K.lookup f = some ⟨oc, od, .func (PySem.W.fnOf x x (defArgs st) (defBody st) (defScope st) .none kV doc pm an cdv ct), osl⟩ ∧ PySem.W.codeIn K cdv x = true ∧ PySem.W.keepIn K (.ref f) = true ∧ mg x = some (.ref f)
abbrev DefAt {K : PySem.W.Frag} {h : Heap} (_ : K.In h) (mg : Str → Option Value) (x : Str) (st : Stmt) : Prop := DefIn K mg x st
abbrev TxtAt {K : PySem.W.Frag} {h : Heap} (_ : K.In h) (mg : Str → Option Value) : Prop := Txt K mg
theorem def_of {K : PySem.W.Frag} {h : Heap} {mg : Str → Option Value} {x : Str} {st : Stmt} {f : Addr} {oc : Value} {od an : Option Addr} {kV doc pm cdv ct : Value} {osl : Array (Option Value)} (X : K.In h) (G : h.Ns mainGlobals mg)
    (a : PySem.W.nsIn K mainGlobals x = some (some (.ref f))) (l : K.lookup f = some ⟨oc, od, .func (PySem.W.fnOf x x (defArgs st) (defBody st) (defScope st) .none kV doc pm an cdv ct), osl⟩) (c : PySem.W.codeIn K cdv x = true) (k : PySem.W.keepIn K (.ref f) = true) : DefIn K mg x st :=
  ⟨f, oc, od, an, kV, doc, pm, cdv, ct, osl, l, c, k, PySem.W.mg_of X G a⟩
/-- how its parameters are bound -/
def Bnd (x : Str) (st : Stmt) (ps : List Str) : Prop := ∀ (kV doc pm : Value) (an : Option Addr) (cdv ct : Value) (us : List Value), us.length = ps.length → bindArgs (PySem.W.fnOf x x (defArgs st) (defBody st) (defScope st) .none kV doc pm an cdv ct) ⟨us, []⟩ = pure (ps.zip us)
section
variable {P : Program} {w : World} {K : PySem.W.Frag} {mg : Str → Option Value} {base : Heap} {x : Str} {st : Stmt} {ps : List Str} {k : Nat} {sp : Sp}
theorem cal_of (D : DefIn K mg x st) (b : Bnd x st ps) (ok : ∀ f fd, Fun K x x st f fd → FnOk P w K mg base CX0 k f fd ps sp) : Cal P w K mg base k x sp := by
  obtain ⟨f, oc, od, an, kV, doc, pm, cdv, ct, osl, l, c, kp, m⟩ := D.ex
  have F := fun_mk l c kp
  exact ⟨f, _, ps, ok f _ F, m, kp, F.binds b⟩
theorem calG_of (D : DefIn K mg x st) (b : Bnd x st ps) (ok : ∀ f fd, Fun K x x st f fd → FnG P w K mg base CX0 k f fd ps sp) : CalG P w K mg base k x sp := by
  obtain ⟨f, oc, od, an, kV, doc, pm, cdv, ct, osl, l, c, kp, m⟩ := D.ex
  have F := fun_mk l c kp
  exact ⟨f, _, ps, ok f _ F, m, kp, F.binds b⟩
theorem calX_of (D : DefIn K mg x st) (b : Bnd x st ps) (ok : ∀ f fd, Fun K x x st f fd → FnOk P w K mg base (L2.CX P w) k f fd ps sp) : CalX P w K mg base k x ps sp := by
  obtain ⟨f, oc, od, an, kV, doc, pm, cdv, ct, osl, l, c, kp, m⟩ := D.ex
  have F := fun_mk l c kp
  exact ⟨f, _, ok f _ F, m, kp, F.binds b⟩
theorem calW_of {ks : List Str} (D : DefIn K mg x st) (b : ∀ (kV doc pm : Value) (an : Option Addr) (cdv ct : Value) (ws : List Value), ws.length = ks.length → bindArgs (PySem.W.fnOf x x (defArgs st) (defBody st) (defScope st) .none kV doc pm an cdv ct) ⟨[], ks.zip ws⟩ = pure (ps.zip ws.reverse))
    (ok : ∀ f fd, Fun K x x st f fd → FnOk P w K mg base (L2.CX P w) k f fd ps sp) : CalW P w K mg base k x ps ks sp := by
  obtain ⟨f, oc, od, an, kV, doc, pm, cdv, ct, osl, l, c, kp, m⟩ := D.ex
  have F := fun_mk l c kp
  exact ⟨f, _, _, ok f _ F, m, kp, kb_of F b⟩
end
theorem bi_6 : Bnd "is_integer" (top 6) ["value"] := fun _ _ _ _ _ _ us hl => match us, hl with | [_], _ => rfl
theorem bi_7 : Bnd "is_within" (top 7) ["value", "low", "high"] := fun _ _ _ _ _ _ us hl => match us, hl with | [_, _, _], _ => rfl
theorem bi_8 : Bnd "ties_at" (top 8) ["web", "place"] := fun _ _ _ _ _ _ us hl => match us, hl with | [_, _], _ => rfl
theorem bi_10 : Bnd "lot_error" (top 10) ["web", "value"] := fun _ _ _ _ _ _ us hl => match us, hl with | [_, _], _ => rfl
theorem bi_11 : Bnd "tie_bit" (top 11) ["web", "tie"] := fun _ _ _ _ _ _ us hl => match us, hl with | [_, _], _ => rfl
theorem bi_12 : Bnd "bits_of" (top 12) ["web", "lot"] := fun _ _ _ _ _ _ us hl => match us, hl with | [_, _], _ => rfl
theorem bi_13 : Bnd "lot_of_bits" (top 13) ["web", "bits"] := fun _ _ _ _ _ _ us hl => match us, hl with | [_, _], _ => rfl
theorem bi_14 : Bnd "greatest" (top 14) ["bits"] := fun _ _ _ _ _ _ us hl => match us, hl with | [_], _ => rfl
theorem bi_15 : Bnd "reduced_bits" (top 15) ["rows"] := fun _ _ _ _ _ _ us hl => match us, hl with | [_], _ => rfl
theorem bi_17 : Bnd "goal_of" (top 17) ["pair", "place"] := fun _ _ _ _ _ _ us hl => match us, hl with | [_, _], _ => rfl
theorem bi_18 : Bnd "first_tree" (top 18) ["web"] := fun _ _ _ _ _ _ us hl => match us, hl with | [_], _ => rfl
theorem bi_19 : Bnd "way_in_tree" (top 19) ["web", "tree", "one", "other"] := fun _ _ _ _ _ _ us hl => match us, hl with | [_, _, _, _], _ => rfl
theorem bi_20 : Bnd "tree_rounds" (top 20) ["web"] := fun _ _ _ _ _ _ us hl => match us, hl with | [_], _ => rfl
theorem bi_22 : Bnd "lot_parities" (top 22) ["web", "lot"] := fun _ _ _ _ _ _ us hl => match us, hl with | [_, _], _ => rfl
theorem bi_23 : Bnd "parities_left" (top 23) ["pairs", "parities", "bits"] := fun _ _ _ _ _ _ us hl => match us, hl with | [_, _, _], _ => rfl
theorem bi_24 : Bnd "parity_rows" (top 24) ["web"] := fun _ _ _ _ _ _ us hl => match us, hl with | [_], _ => rfl
theorem bi_25 : Bnd "first_odd" (top 25) ["web", "lot"] := fun _ _ _ _ _ _ us hl => match us, hl with | [_, _], _ => rfl
theorem bi_26 : Bnd "both_error" (top 26) ["web", "value"] := fun _ _ _ _ _ _ us hl => match us, hl with | [_, _], _ => rfl
theorem bi_27 : Bnd "base_bits" (top 27) ["web"] := fun _ _ _ _ _ _ us hl => match us, hl with | [_], _ => rfl
theorem bi_28 : Bnd "lot_base" (top 28) ["web"] := fun _ _ _ _ _ _ us hl => match us, hl with | [_], _ => rfl
theorem bi_29 : Bnd "lot_many" (top 29) ["web"] := fun _ _ _ _ _ _ us hl => match us, hl with | [_], _ => rfl
theorem bi_30 : Bnd "numbered_bits" (top 30) ["base", "number"] := fun _ _ _ _ _ _ us hl => match us, hl with | [_, _], _ => rfl
theorem bi_31 : Bnd "all_lots" (top 31) ["web"] := fun _ _ _ _ _ _ us hl => match us, hl with | [_], _ => rfl
theorem bi_32 : Bnd "lot_at" (top 32) ["web", "number"] := fun _ _ _ _ _ _ us hl => match us, hl with | [_, _], _ => rfl
theorem bi_33 : Bnd "lot_number" (top 33) ["web", "lot"] := fun _ _ _ _ _ _ us hl => match us, hl with | [_, _], _ => rfl
theorem bi_35 : Bnd "_law_urn" (top 35) ["_law_script"] := fun _ _ _ _ _ _ us hl => match us, hl with | [_], _ => rfl
theorem bi_36 : Bnd "_law_take" (top 36) ["_law_urn_here", "_law_many"] := fun _ _ _ _ _ _ us hl => match us, hl with | [_, _], _ => rfl
theorem bi_37 : Bnd "_law_mixed" (top 37) ["_law_urn_here", "_law_some"] := fun _ _ _ _ _ _ us hl => match us, hl with | [_, _], _ => rfl
theorem bi_38 : Bnd "_law_web" (top 38) ["_law_urn_here", "_law_many", "_law_more"] := fun _ _ _ _ _ _ us hl => match us, hl with | [_, _, _], _ => rfl
theorem bi_39 : Bnd "_law_lot" (top 39) ["_law_mask"] := fun _ _ _ _ _ _ us hl => match us, hl with | [_], _ => rfl
theorem bi_40 : Bnd "_law_stars" (top 40) ["_law_web_here"] := fun _ _ _ _ _ _ us hl => match us, hl with | [_], _ => rfl
theorem bi_41 : Bnd "_law_evens" (top 41) ["_law_web_here"] := fun _ _ _ _ _ _ us hl => match us, hl with | [_], _ => rfl
theorem bi_42 : Bnd "_law_cuts" (top 42) ["_law_web_here"] := fun _ _ _ _ _ _ us hl => match us, hl with | [_], _ => rfl
theorem bi_43 : Bnd "_law_both" (top 43) ["_law_web_here"] := fun _ _ _ _ _ _ us hl => match us, hl with | [_], _ => rfl
theorem bi_44 : Bnd "_law_row" (top 44) ["_law_mask", "_law_many"] := fun _ _ _ _ _ _ us hl => match us, hl with | [_, _], _ => rfl
theorem bi_45 : Bnd "_law_word" (top 45) ["_law_way", "_law_web_here", "_law_value"] := fun _ _ _ _ _ _ us hl => match us, hl with | [_, _, _], _ => rfl
theorem bi_46 : Bnd "_law_is_listed" (top 46) ["_law_urn_here", "_law_web_here", "_law_is_named"] := fun _ _ _ _ _ _ us hl => match us, hl with | [_, _, _], _ => rfl
theorem bi_47 : Bnd "_law_power" (top 47) ["_law_many"] := fun _ _ _ _ _ _ us hl => match us, hl with | [_], _ => rfl
theorem bi_48 : Bnd "_law_is_great" (top 48) ["_law_urn_here"] := fun _ _ _ _ _ _ us hl => match us, hl with | [_], _ => rfl
theorem bi_49 : Bnd "law" (top 49) ["_law_script"] := fun _ _ _ _ _ _ us hl => match us, hl with | [_], _ => rfl
theorem bk_31 (kV doc pm : Value) (an : Option Addr) (cdv ct : Value) (ws : List Value) (hl : ws.length = (["web"] : List Str).length) : bindArgs (PySem.W.fnOf "all_lots" "all_lots" (defArgs (top 31)) (defBody (top 31)) (defScope (top 31)) .none kV doc pm an cdv ct) ⟨[], (["web"] : List Str).zip ws⟩ = pure ((["web"] : List Str).zip ws.reverse) := match ws, hl with | [_], _ => rfl
theorem bk_32 (kV doc pm : Value) (an : Option Addr) (cdv ct : Value) (ws : List Value) (hl : ws.length = (["number", "web"] : List Str).length) : bindArgs (PySem.W.fnOf "lot_at" "lot_at" (defArgs (top 32)) (defBody (top 32)) (defScope (top 32)) .none kV doc pm an cdv ct) ⟨[], (["number", "web"] : List Str).zip ws⟩ = pure ((["web", "number"] : List Str).zip ws.reverse) := match ws, hl with | [_, _], _ => rfl
theorem bk_33 (kV doc pm : Value) (an : Option Addr) (cdv ct : Value) (ws : List Value) (hl : ws.length = (["lot", "web"] : List Str).length) : bindArgs (PySem.W.fnOf "lot_number" "lot_number" (defArgs (top 33)) (defBody (top 33)) (defScope (top 33)) .none kV doc pm an cdv ct) ⟨[], (["lot", "web"] : List Str).zip ws⟩ = pure ((["web", "lot"] : List Str).zip ws.reverse) := match ws, hl with | [_, _], _ => rfl
/-- what the written part says of an own error's class and its __init__ -/
structure ErrIn (K : PySem.W.Frag) (mg : Str → Option Value) (x qual : Str) (st : Stmt) (C : Addr) : Prop where
  oex : OexC K C
  mg : mg x = some (.ref C)
  ex : ∃ (f : Addr) (oc : Value) (od an : Option Addr) (kV doc pm cdv ct : Value) (osl : Array (Option Value)), PySem.W.findIn K (.ref C) "__init__" = some (some (.ref f)) ∧ PySem.W.typeIn K (.ref f) = some (.type "function") ∧
    K.lookup f = some ⟨oc, od, .func (PySem.W.fnOf "__init__" qual (defArgs st) (defBody st) (defScope st) .none kV doc pm an cdv ct), osl⟩ ∧ PySem.W.codeIn K cdv qual = true ∧ PySem.W.keepIn K (.ref f) = true
theorem err_of {K : PySem.W.Frag} {h : Heap} {mg : Str → Option Value} {x qual : Str} {st : Stmt} {C B f : Addr} {nm q : Str} {N : Addr} {bs : List Value} {sn : List Str} {sub : List Value} {ab : Bool} {col : Option Bool} {dd : Option Addr} {m0 m1 m2 m3 m5 : Option Value} {oc : Value} {od an : Option Addr} {kV doc pm cdv ct : Value} {osl : Array (Option Value)} (X : K.In h) (G : h.Ns mainGlobals mg)
    (aC : PySem.W.nsIn K mainGlobals x = some (some (.ref C)))
    (xL : K.lookup C = some (excClassObj nm q C N bs [.ref B, .type "ValueError", .type "Exception", .type "BaseException", .type "object"] true sn sub ab col dd m0 m1 m2 m3 m5 "ValueError.__new__"))
    (sa : PySem.W.findIn K (.ref C) "__setattr__" = some (some (.builtin "object.__setattr__"))) (kC : PySem.W.keepIn K (.ref C) = true) (eC : PySem.W.subIn K (.ref C) (.type "BaseException") = some true) (tC : PySem.W.typeIn K (.ref C) = some (.type "type"))
    (a1 : PySem.W.findIn K (.ref C) "__init__" = some (some (.ref f))) (t1 : PySem.W.typeIn K (.ref f) = some (.type "function")) (l : K.lookup f = some ⟨oc, od, .func (PySem.W.fnOf "__init__" qual (defArgs st) (defBody st) (defScope st) .none kV doc pm an cdv ct), osl⟩) (c : PySem.W.codeIn K cdv qual = true) (k : PySem.W.keepIn K (.ref f) = true) : ErrIn K mg x qual st C :=
  ⟨⟨⟨nm, q, N, bs, _, sn, sub, ab, col, dd, m0, m1, m2, m3, m5, xL, rfl⟩, sa, eC, tC, kC⟩, PySem.W.mg_of X G aC, f, oc, od, an, kV, doc, pm, cdv, ct, osl, a1, t1, l, c, k⟩
theorem exm_own {K : PySem.W.Frag} {S C : Addr} {b : Bool} (h1 : PySem.W.subIn K (.ref S) (.type "BaseException") = some true) (h2 : PySem.W.isClsIn K S = true) (h3 : PySem.W.typeIn K (.ref S) = some (.type "type")) (h4 : PySem.W.subIn K (.ref C) (.ref S) = some b) : PySem.W.exmOne K (.ref C) (.ref S) = some b := by
  have e1 : (PySem.W.subIn K (.ref S) (.type "BaseException") == some true) = true := by rw [h1] <;> rfl
  have e2 : ((PySem.W.clsIn K S).isSome && PySem.W.typeIn K (.ref S) == some (.type "type")) = true := by
    have h5 : (PySem.W.clsIn K S).isSome = true := h2
    rw [h5, h3] <;> rfl
  show (if (PySem.W.subIn K (.ref S) (.type "BaseException") == some true) = true then (if ((PySem.W.clsIn K S).isSome && PySem.W.typeIn K (.ref S) == some (.type "type")) = true then PySem.W.subIn K (.ref C) (.ref S) else none) else none) = some b
  rw [if_pos e1, if_pos e2]
  exact h4
/-- all of it together -/
theorem all_mk {P : Program} {w : World} {K : PySem.W.Frag} {mg : Str → Option Value} {fa B CU CT : Addr} {mc : Value} {tk : Tok} (hfa : mg "law" = some (.ref fa)) (T : Txt K mg) (gM : mg "MAX_LOTS" = some (.int 256 tk)) (hB : mg "BothError" = some (.ref B)) (BC : BaseC K B mc)
    (EU : ErrIn K mg "Unfit" "Unfit.__init__" sUnfitI CU) (ET : ErrIn K mg "TooMany" "TooMany.__init__" sManyI CT) (nl : PySem.W.findIn K (.ref CT) "limit" = some none) (X0 : Exm K CU CT)
    (D6 : DefIn K mg "is_integer" (top 6))
    (D7 : DefIn K mg "is_within" (top 7))
    (D8 : DefIn K mg "ties_at" (top 8))
    (D10 : DefIn K mg "lot_error" (top 10))
    (D11 : DefIn K mg "tie_bit" (top 11))
    (D12 : DefIn K mg "bits_of" (top 12))
    (D13 : DefIn K mg "lot_of_bits" (top 13))
    (D14 : DefIn K mg "greatest" (top 14))
    (D15 : DefIn K mg "reduced_bits" (top 15))
    (D17 : DefIn K mg "goal_of" (top 17))
    (D18 : DefIn K mg "first_tree" (top 18))
    (D19 : DefIn K mg "way_in_tree" (top 19))
    (D20 : DefIn K mg "tree_rounds" (top 20))
    (D22 : DefIn K mg "lot_parities" (top 22))
    (D23 : DefIn K mg "parities_left" (top 23))
    (D24 : DefIn K mg "parity_rows" (top 24))
    (D25 : DefIn K mg "first_odd" (top 25))
    (D26 : DefIn K mg "both_error" (top 26))
    (D27 : DefIn K mg "base_bits" (top 27))
    (D28 : DefIn K mg "lot_base" (top 28))
    (D29 : DefIn K mg "lot_many" (top 29))
    (D30 : DefIn K mg "numbered_bits" (top 30))
    (D31 : DefIn K mg "all_lots" (top 31))
    (D32 : DefIn K mg "lot_at" (top 32))
    (D33 : DefIn K mg "lot_number" (top 33))
    (D35 : DefIn K mg "_law_urn" (top 35))
    (D36 : DefIn K mg "_law_take" (top 36))
    (D37 : DefIn K mg "_law_mixed" (top 37))
    (D38 : DefIn K mg "_law_web" (top 38))
    (D39 : DefIn K mg "_law_lot" (top 39))
    (D40 : DefIn K mg "_law_stars" (top 40))
    (D41 : DefIn K mg "_law_evens" (top 41))
    (D42 : DefIn K mg "_law_cuts" (top 42))
    (D43 : DefIn K mg "_law_both" (top 43))
    (D44 : DefIn K mg "_law_row" (top 44))
    (D45 : DefIn K mg "_law_word" (top 45))
    (D46 : DefIn K mg "_law_is_listed" (top 46))
    (D47 : DefIn K mg "_law_power" (top 47))
    (D48 : DefIn K mg "_law_is_great" (top 48))
    (D49 : DefIn K mg "law" (top 49)) :
    ∃ fd : FuncData, (∀ (s : Shared) (v : Value), BindsTo s fd ⟨[v], []⟩ [("_law_script", v)]) ∧ ∀ base : Heap, K.In base → base.Ns mainGlobals mg → FnG P w K mg base CX0 9 fa fd ["_law_script"] (spLaw K) := by
  obtain ⟨f, oc, od, an, kV, doc, pm, cdv, ct, osl, l, c, kp, m⟩ := D49.ex
  have e := hfa.symm.trans m
  cases e
  refine ⟨_, fun s v => .of_eq (bi_49 kV doc pm an cdv ct [v] rfl), fun base _ _ => ?_⟩
  have U : UnfitC P w K mg base CU := by
    obtain ⟨f, oc, od, an, kV, doc, pm, cdv, ct, osl, a1, t1, l, c, k⟩ := EU.ex
    have F := fun_mk l c k
    exact ⟨EU.oex, ⟨f, _, a1, t1, ok_unfit_init F hB BC, F.binds fun _ _ _ _ _ _ us hl => match us, hl with | [_], _ => rfl⟩, EU.mg⟩
  have M : ManyC P w K mg base CT := by
    obtain ⟨f, oc, od, an, kV, doc, pm, cdv, ct, osl, a1, t1, l, c, k⟩ := ET.ex
    have F := fun_mk l c k
    exact ⟨ET.oex, ⟨f, _, a1, t1, ok_many_init F hB BC, F.binds fun _ _ _ _ _ _ us hl => match us, hl with | [_, _], _ => rfl⟩, nl, ET.mg⟩
  have c6 := cal_of (P := P) (w := w) (base := base) D6 bi_6 fun f fd F => ok_is_integer F T
  have c7 := cal_of D7 bi_7 fun f fd F => ok_is_within F c6
  have c8 := cal_of (P := P) (w := w) (base := base) D8 bi_8 fun f fd F => ok_ties_at F T
  have c10 := cal_of D10 bi_10 fun f fd F => ok_lot_error F T c7
  have c11 := cal_of (P := P) (w := w) (base := base) D11 bi_11 fun f fd F => ok_tie_bit F T
  have c12 := cal_of D12 bi_12 fun f fd F => ok_bits_of F T c11
  have c13 := cal_of D13 bi_13 fun f fd F => ok_lot_of_bits F T c11
  have c14 := cal_of (P := P) (w := w) (base := base) D14 bi_14 fun f fd F => ok_greatest F
  have c15 := cal_of D15 bi_15 fun f fd F => ok_reduced_bits F T c14
  have c17 := cal_of (P := P) (w := w) (base := base) D17 bi_17 fun f fd F => ok_goal_of F
  have c18 := cal_of (P := P) (w := w) (base := base) D18 bi_18 fun f fd F => ok_first_tree F T
  have c19 := cal_of D19 bi_19 fun f fd F => ok_way_in_tree F c17
  have c20 := cal_of D20 bi_20 fun f fd F => ok_tree_rounds F T c18 c19
  have c22 := cal_of (P := P) (w := w) (base := base) D22 bi_22 fun f fd F => ok_lot_parities F
  have c23 := cal_of (P := P) (w := w) (base := base) D23 bi_23 fun f fd F => ok_parities_left F
  have c24 := cal_of D24 bi_24 fun f fd F => ok_parity_rows F T c8 c23 c22 c12
  have c25 := cal_of D25 bi_25 fun f fd F => ok_first_odd F T c22
  have c26 := cal_of D26 bi_26 fun f fd F => ok_both_error F T c10 c25 c20
  have c27 := cal_of D27 bi_27 fun f fd F => ok_base_bits F c15 c24
  have c28 := cal_of D28 bi_28 fun f fd F => ok_lot_base F T c27 c13
  have c29 := cal_of D29 bi_29 fun f fd F => ok_lot_many F T c24
  have c30 := cal_of (P := P) (w := w) (base := base) D30 bi_30 fun f fd F => ok_numbered_bits F T
  have o31 : ∀ f fd, Fun K "all_lots" "all_lots" sAll f fd → FnOk P w K mg base (L2.CX P w) 5 f fd ["web"] (spAll CT) := fun f fd F => ok_all_lots F T gM M c27 c30 c13
  have o32 : ∀ f fd, Fun K "lot_at" "lot_at" sAt f fd → FnOk P w K mg base (L2.CX P w) 5 f fd ["web", "number"] (spAt CU) := fun f fd F => ok_lot_at F T U c6 c27 c30 c13
  have o33 : ∀ f fd, Fun K "lot_number" "lot_number" sNumber f fd → FnOk P w K mg base (L2.CX P w) 6 f fd ["web", "lot"] (spNumber CU) := fun f fd F => ok_lot_number F T U c26 c28
  have x31 := calX_of D31 bi_31 o31
  have x32 := calX_of D32 bi_32 o32
  have x33 := calX_of D33 bi_33 o33
  have w31 := calW_of D31 bk_31 o31
  have w32 := calW_of D32 bk_32 o32
  have w33 := calW_of D33 bk_33 o33
  have c35 := cal_of (P := P) (w := w) (base := base) D35 bi_35 fun f fd F => ok_urn F T
  have c36 := cal_of (P := P) (w := w) (base := base) D36 bi_36 fun f fd F => ok_take F T
  have c37 := cal_of D37 bi_37 fun f fd F => ok_mixed F T c36
  have c38 := cal_of D38 bi_38 fun f fd F => ok_web F T c36 c37
  have c39 := cal_of (P := P) (w := w) (base := base) D39 bi_39 fun f fd F => ok_lot F T
  have c40 := cal_of (P := P) (w := w) (base := base) D40 bi_40 fun f fd F => ok_stars F T
  have c41 := cal_of (P := P) (w := w) (base := base) D41 bi_41 fun f fd F => ok_evens F T
  have c42 := cal_of D42 bi_42 fun f fd F => ok_cuts F T c40
  have c43 := cal_of D43 bi_43 fun f fd F => ok_both F T c41 c42
  have c44 := cal_of (P := P) (w := w) (base := base) D44 bi_44 fun f fd F => ok_row F T
  have c45 := cal_of D45 bi_45 fun f fd F => ok_word F U M X0 x31 x32 x33
  have c47 := cal_of (P := P) (w := w) (base := base) D47 bi_47 fun f fd F => ok_power F T
  have c46 := calG_of D46 bi_46 fun f fd F => ok_listed F T c43 c44 c39 c47 c29 c36 c45 x31 x32 x33 w31 w32 w33
  have c48 := calG_of D48 bi_48 fun f fd F => ok_great F T c36 c37 c47 c45 x31 x32 x33
  exact ok_law (fun_mk l c kp) T c35 c36 c38 c46 c48 x31
theorem walk_all {l : PySem.W.OpenLaw} {q : Program} {loose : List Str} {XP : (Str → Option Value) → Heap → Prop} {YP : World → Heap → Prop} {d : DefRec} {K : Params → PySem.W.Frag} (hn : l.most = some 63) (hdf : d.params.defaults = [])
    (hY : ∀ (w : World) (h : Heap), YP w h → (K w.params).In h)
    (F : ∀ (w : World) (mg : Str → Option Value) (fa : Addr) (h : Heap), (K w.params).In h → h.Ns mainGlobals mg → mg d.name = some (.ref fa) →
      ∃ fd : FuncData, (∀ (s : Shared) (u : Value), BindsTo s fd ⟨[u], []⟩ [("_law_script", u)]) ∧ ∀ base : Heap, (K w.params).In base → base.Ns mainGlobals mg → FnG l.prog w (K w.params) mg base CX0 9 fa fd ["_law_script"] (spLaw (K w.params))) :
    PySem.W.WalkO q loose XP YP l.row.toRowW d [] (fun f vs => PySem.call f vs) :=
  walk_ofG (n := 63) (k := 9) (x := "_law_script") (sp := spLaw) hn (by decide) hdf ⟨rfl, by decide, by decide⟩ hY F fun _ _ a ns _ hS => ⟨a, ns, rfl, hS, fun _ => rfl⟩
end R
end
/-! ## the row -/
set_option Elab.async false
set_option maxRecDepth 100000
open PySem PySem.W PyProof.Rows
set_option maxHeartbeats 0 in
theorem PySem.Challenge.cw_botheven_k39_whole_rows_of_both_even_lot_holds : PySem.Challenge.rw_botheven_k39_whole_rows_of_both_even_lot.Holds := by
  w_on; o_law; k_head; (case hw => w_witness2)
  k_fill
  refine R.walk_all (l := PySem.Challenge.rw_botheven_k39_whole_rows_of_both_even_lot) rfl rfl (fun w h Y => PySem.W.kIn_of Y) ?F
  case F =>
    intro w mg fa h KX G hmg
    have T : R.TxtAt KX mg := by
      refine' ⟨mg_none_of KX G ?z0, mg_none_of KX G ?z1, mg_none_of KX G ?z2, mg_none_of KX G ?z3, mg_none_of KX G ?z4, mg_none_of KX G ?z5, mg_none_of KX G ?z6, mg_none_of KX G ?z7, mg_none_of KX G ?z8, mg_none_of KX G ?z9, mg_none_of KX G ?z10, mg_none_of KX G ?z11, mg_none_of KX G ?z12, mg_none_of KX G ?z13, mg_none_of KX G ?z14⟩
      (case z0 => k_is)
      (case z1 => k_is)
      (case z2 => k_is)
      (case z3 => k_is)
      (case z4 => k_is)
      (case z5 => k_is)
      (case z6 => k_is)
      (case z7 => k_is)
      (case z8 => k_is)
      (case z9 => k_is)
      (case z10 => k_is)
      (case z11 => k_is)
      (case z12 => k_is)
      (case z13 => k_is)
      (case z14 => k_is)
    have D6 : R.DefAt KX mg "is_integer" (R.top 6) := by
      refine' R.def_of KX G ?a ?l ?c ?k
      (case a => k_is); (case l => k_is); (case c => k_is); (case k => k_is)
    have D7 : R.DefAt KX mg "is_within" (R.top 7) := by
      refine' R.def_of KX G ?a ?l ?c ?k
      (case a => k_is); (case l => k_is); (case c => k_is); (case k => k_is)
    have D8 : R.DefAt KX mg "ties_at" (R.top 8) := by
      refine' R.def_of KX G ?a ?l ?c ?k
      (case a => k_is); (case l => k_is); (case c => k_is); (case k => k_is)
    have D10 : R.DefAt KX mg "lot_error" (R.top 10) := by
      refine' R.def_of KX G ?a ?l ?c ?k
      (case a => k_is); (case l => k_is); (case c => k_is); (case k => k_is)
    have D11 : R.DefAt KX mg "tie_bit" (R.top 11) := by
      refine' R.def_of KX G ?a ?l ?c ?k
      (case a => k_is); (case l => k_is); (case c => k_is); (case k => k_is)
    have D12 : R.DefAt KX mg "bits_of" (R.top 12) := by
      refine' R.def_of KX G ?a ?l ?c ?k
      (case a => k_is); (case l => k_is); (case c => k_is); (case k => k_is)
    have D13 : R.DefAt KX mg "lot_of_bits" (R.top 13) := by
      refine' R.def_of KX G ?a ?l ?c ?k
      (case a => k_is); (case l => k_is); (case c => k_is); (case k => k_is)
    have D14 : R.DefAt KX mg "greatest" (R.top 14) := by
      refine' R.def_of KX G ?a ?l ?c ?k
      (case a => k_is); (case l => k_is); (case c => k_is); (case k => k_is)
    have D15 : R.DefAt KX mg "reduced_bits" (R.top 15) := by
      refine' R.def_of KX G ?a ?l ?c ?k
      (case a => k_is); (case l => k_is); (case c => k_is); (case k => k_is)
    have D17 : R.DefAt KX mg "goal_of" (R.top 17) := by
      refine' R.def_of KX G ?a ?l ?c ?k
      (case a => k_is); (case l => k_is); (case c => k_is); (case k => k_is)
    have D18 : R.DefAt KX mg "first_tree" (R.top 18) := by
      refine' R.def_of KX G ?a ?l ?c ?k
      (case a => k_is); (case l => k_is); (case c => k_is); (case k => k_is)
    have D19 : R.DefAt KX mg "way_in_tree" (R.top 19) := by
      refine' R.def_of KX G ?a ?l ?c ?k
      (case a => k_is); (case l => k_is); (case c => k_is); (case k => k_is)
    have D20 : R.DefAt KX mg "tree_rounds" (R.top 20) := by
      refine' R.def_of KX G ?a ?l ?c ?k
      (case a => k_is); (case l => k_is); (case c => k_is); (case k => k_is)
    have D22 : R.DefAt KX mg "lot_parities" (R.top 22) := by
      refine' R.def_of KX G ?a ?l ?c ?k
      (case a => k_is); (case l => k_is); (case c => k_is); (case k => k_is)
    have D23 : R.DefAt KX mg "parities_left" (R.top 23) := by
      refine' R.def_of KX G ?a ?l ?c ?k
      (case a => k_is); (case l => k_is); (case c => k_is); (case k => k_is)
    have D24 : R.DefAt KX mg "parity_rows" (R.top 24) := by
      refine' R.def_of KX G ?a ?l ?c ?k
      (case a => k_is); (case l => k_is); (case c => k_is); (case k => k_is)
    have D25 : R.DefAt KX mg "first_odd" (R.top 25) := by
      refine' R.def_of KX G ?a ?l ?c ?k
      (case a => k_is); (case l => k_is); (case c => k_is); (case k => k_is)
    have D26 : R.DefAt KX mg "both_error" (R.top 26) := by
      refine' R.def_of KX G ?a ?l ?c ?k
      (case a => k_is); (case l => k_is); (case c => k_is); (case k => k_is)
    have D27 : R.DefAt KX mg "base_bits" (R.top 27) := by
      refine' R.def_of KX G ?a ?l ?c ?k
      (case a => k_is); (case l => k_is); (case c => k_is); (case k => k_is)
    have D28 : R.DefAt KX mg "lot_base" (R.top 28) := by
      refine' R.def_of KX G ?a ?l ?c ?k
      (case a => k_is); (case l => k_is); (case c => k_is); (case k => k_is)
    have D29 : R.DefAt KX mg "lot_many" (R.top 29) := by
      refine' R.def_of KX G ?a ?l ?c ?k
      (case a => k_is); (case l => k_is); (case c => k_is); (case k => k_is)
    have D30 : R.DefAt KX mg "numbered_bits" (R.top 30) := by
      refine' R.def_of KX G ?a ?l ?c ?k
      (case a => k_is); (case l => k_is); (case c => k_is); (case k => k_is)
    have D31 : R.DefAt KX mg "all_lots" (R.top 31) := by
      refine' R.def_of KX G ?a ?l ?c ?k
      (case a => k_is); (case l => k_is); (case c => k_is); (case k => k_is)
    have D32 : R.DefAt KX mg "lot_at" (R.top 32) := by
      refine' R.def_of KX G ?a ?l ?c ?k
      (case a => k_is); (case l => k_is); (case c => k_is); (case k => k_is)
    have D33 : R.DefAt KX mg "lot_number" (R.top 33) := by
      refine' R.def_of KX G ?a ?l ?c ?k
      (case a => k_is); (case l => k_is); (case c => k_is); (case k => k_is)
    have D35 : R.DefAt KX mg "_law_urn" (R.top 35) := by
      refine' R.def_of KX G ?a ?l ?c ?k
      (case a => k_is); (case l => k_is); (case c => k_is); (case k => k_is)
    have D36 : R.DefAt KX mg "_law_take" (R.top 36) := by
      refine' R.def_of KX G ?a ?l ?c ?k
      (case a => k_is); (case l => k_is); (case c => k_is); (case k => k_is)
    have D37 : R.DefAt KX mg "_law_mixed" (R.top 37) := by
      refine' R.def_of KX G ?a ?l ?c ?k
      (case a => k_is); (case l => k_is); (case c => k_is); (case k => k_is)
    have D38 : R.DefAt KX mg "_law_web" (R.top 38) := by
      refine' R.def_of KX G ?a ?l ?c ?k
      (case a => k_is); (case l => k_is); (case c => k_is); (case k => k_is)
    have D39 : R.DefAt KX mg "_law_lot" (R.top 39) := by
      refine' R.def_of KX G ?a ?l ?c ?k
      (case a => k_is); (case l => k_is); (case c => k_is); (case k => k_is)
    have D40 : R.DefAt KX mg "_law_stars" (R.top 40) := by
      refine' R.def_of KX G ?a ?l ?c ?k
      (case a => k_is); (case l => k_is); (case c => k_is); (case k => k_is)
    have D41 : R.DefAt KX mg "_law_evens" (R.top 41) := by
      refine' R.def_of KX G ?a ?l ?c ?k
      (case a => k_is); (case l => k_is); (case c => k_is); (case k => k_is)
    have D42 : R.DefAt KX mg "_law_cuts" (R.top 42) := by
      refine' R.def_of KX G ?a ?l ?c ?k
      (case a => k_is); (case l => k_is); (case c => k_is); (case k => k_is)
    have D43 : R.DefAt KX mg "_law_both" (R.top 43) := by
      refine' R.def_of KX G ?a ?l ?c ?k
      (case a => k_is); (case l => k_is); (case c => k_is); (case k => k_is)
    have D44 : R.DefAt KX mg "_law_row" (R.top 44) := by
      refine' R.def_of KX G ?a ?l ?c ?k
      (case a => k_is); (case l => k_is); (case c => k_is); (case k => k_is)
    have D45 : R.DefAt KX mg "_law_word" (R.top 45) := by
      refine' R.def_of KX G ?a ?l ?c ?k
      (case a => k_is); (case l => k_is); (case c => k_is); (case k => k_is)
    have D46 : R.DefAt KX mg "_law_is_listed" (R.top 46) := by
      refine' R.def_of KX G ?a ?l ?c ?k
      (case a => k_is); (case l => k_is); (case c => k_is); (case k => k_is)
    have D47 : R.DefAt KX mg "_law_power" (R.top 47) := by
      refine' R.def_of KX G ?a ?l ?c ?k
      (case a => k_is); (case l => k_is); (case c => k_is); (case k => k_is)
    have D48 : R.DefAt KX mg "_law_is_great" (R.top 48) := by
      refine' R.def_of KX G ?a ?l ?c ?k
      (case a => k_is); (case l => k_is); (case c => k_is); (case k => k_is)
    have D49 : R.DefAt KX mg "law" (R.top 49) := by
      refine' R.def_of KX G ?a ?l ?c ?k
      (case a => k_is); (case l => k_is); (case c => k_is); (case k => k_is)
    refine' R.all_mk hmg T (mg_of KX G ?gM) (mg_of KX G ?gB) (R.BaseC.mk (mc := .type "type") ?ga ?rd ?fi) (R.err_of KX G ?uC ?uL ?us ?uk ?ue ?ut ?u1 ?u2 ?u3 ?u4 ?u5) (R.err_of KX G ?tC ?tL ?ts ?tk ?te ?tt ?t1 ?t2 ?t3 ?t4 ?t5) ?nl ⟨R.exm_own ?e1 ?e2 ?e3 ?e4, R.exm_own ?f1 ?f2 ?f3 ?f4, R.exm_own ?g1 ?g2 ?g3 ?g4, ⟨?x1, ?x2, ?x3, ?x4⟩⟩ D6 D7 D8 D10 D11 D12 D13 D14 D15 D17 D18 D19 D20 D22 D23 D24 D25 D26 D27 D28 D29 D30 D31 D32 D33 D35 D36 D37 D38 D39 D40 D41 D42 D43 D44 D45 D46 D47 D48 D49
    (case gM => first | k_is | rfl)
    (case gB => first | k_is | rfl)
    (case rd => first | k_is | rfl)
    (case fi => first | k_is | rfl)
    (case ga => first | k_is | rfl)
    (case uC => first | k_is | rfl)
    (case uL => first | k_is | rfl)
    (case us => first | k_is | rfl)
    (case uk => first | k_is | rfl)
    (case ue => first | k_is | rfl)
    (case ut => first | k_is | rfl)
    (case u1 => first | k_is | rfl)
    (case u2 => first | k_is | rfl)
    (case u3 => first | k_is | rfl)
    (case u4 => first | k_is | rfl)
    (case u5 => first | k_is | rfl)
    (case tC => first | k_is | rfl)
    (case tL => first | k_is | rfl)
    (case ts => first | k_is | rfl)
    (case tk => first | k_is | rfl)
    (case te => first | k_is | rfl)
    (case tt => first | k_is | rfl)
    (case t1 => first | k_is | rfl)
    (case t2 => first | k_is | rfl)
    (case t3 => first | k_is | rfl)
    (case t4 => first | k_is | rfl)
    (case t5 => first | k_is | rfl)
    (case nl => first | k_is | rfl)
    (case e1 => first | k_is | rfl)
    (case e2 => first | k_is | rfl)
    (case e3 => first | k_is | rfl)
    (case e4 => first | k_is | rfl)
    (case f1 => first | k_is | rfl)
    (case f2 => first | k_is | rfl)
    (case f3 => first | k_is | rfl)
    (case f4 => first | k_is | rfl)
    (case g1 => first | k_is | rfl)
    (case g2 => first | k_is | rfl)
    (case g3 => first | k_is | rfl)
    (case g4 => first | k_is | rfl)
    (case x1 => first | k_is | rfl)
    (case x2 => first | k_is | rfl)
    (case x3 => first | k_is | rfl)
    (case x4 => first | k_is | rfl)
