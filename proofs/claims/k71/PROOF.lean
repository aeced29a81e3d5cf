import PyProof.Rows.All
import Wide.All
import OpenK.AllK
import Wide.FinOn
import HandS.Base
import HandS.Call
import HandS.List
import HandS.Comp
import HandS.Ends
import HandS.Dict
import HandS.Iter
import HandS.Words
import HandS.Wide
import HandS.WideBits
import HandS.Defaults
import HandS.IsInst
import HandS.SortInts
import HandS.Strs
import HandS.TupAny
import HandS.Steps
import HandS.Set
import HandS.SetFor
import KE.KItemsList
import HandS.SortOrd
import HandS.SortRule
import HandS.ListItems
import HandS.MakeKwOnly
import HandS.HeadHook2
import PySem.Challenge.RW_cellplaces_k71_whole_turns
set_option Elab.async false
set_option linter.all false
set_option maxRecDepth 100000
set_option maxHeartbeats 4000000

set_option autoImplicit false
/-! the rings' numbers in plain Lean: prime factors, units, orders -/
namespace CP
namespace Rm

def Pr (p : Nat) : Prop := 2 ≤ p ∧ ∀ d, d ∣ p → d = 1 ∨ d = p

/-- v divided by p as often as it goes: the p's, what is left -/
def inner (p v : Nat) : List Nat × Nat :=
  if h : 2 ≤ p ∧ 0 < v ∧ v % p = 0 then (p :: (inner p (v / p)).1, (inner p (v / p)).2) else ([], v)
termination_by v
decreasing_by all_goals exact Nat.div_lt_self h.2.1 h.1

theorem inner_yes {p v : Nat} (h : 2 ≤ p ∧ 0 < v ∧ v % p = 0) : inner p v = (p :: (inner p (v / p)).1, (inner p (v / p)).2) := by
  rw [inner, dif_pos h]
theorem inner_no {p v : Nat} (h : ¬ (2 ≤ p ∧ 0 < v ∧ v % p = 0)) : inner p v = ([], v) := by
  rw [inner, dif_neg h]

theorem inner_le (p v : Nat) : (inner p v).2 ≤ v := by
  induction v using Nat.strongRecOn with
  | ind v ih =>
    by_cases h : 2 ≤ p ∧ 0 < v ∧ v % p = 0
    · rw [inner_yes h]
      exact Nat.le_trans (ih (v / p) (Nat.div_lt_self h.2.1 h.1)) (Nat.div_le_self v p)
    · rw [inner_no h]; exact Nat.le_refl _

theorem sq_lt {p v : Nat} (h : 2 ≤ p ∧ p * p ≤ v) : p < v := by
  have := Nat.mul_le_mul_right p h.1
  omega

def outer (p v : Nat) : List Nat :=
  if h : 2 ≤ p ∧ p * p ≤ v then (inner p v).1 ++ outer (p + 1) (inner p v).2 else if v > 1 then [v] else []
termination_by v - p
decreasing_by
  have := inner_le p v
  have := sq_lt h
  omega
theorem outer_yes {p v : Nat} (h : 2 ≤ p ∧ p * p ≤ v) : outer p v = (inner p v).1 ++ outer (p + 1) (inner p v).2 := by
  rw [outer, dif_pos h]
theorem outer_no {p v : Nat} (h : ¬ (2 ≤ p ∧ p * p ≤ v)) : outer p v = if v > 1 then [v] else [] := by
  rw [outer, dif_neg h]
def pf (v : Nat) : List Nat := outer 2 v

theorem inner_spec {p : Nat} (hp : 2 ≤ p) (v : Nat) (hv : 0 < v) : ∃ k, (inner p v).1 = List.replicate k p ∧ v = p ^ k * (inner p v).2 ∧ 0 < (inner p v).2 ∧ (inner p v).2 % p ≠ 0 := by
  induction v using Nat.strongRecOn with
  | ind v ih =>
    by_cases h : 2 ≤ p ∧ 0 < v ∧ v % p = 0
    · have e : v = p * (v / p) := (Nat.mul_div_cancel' (Nat.dvd_of_mod_eq_zero h.2.2)).symm
      have hq : 0 < v / p := Nat.div_pos (Nat.le_of_dvd hv (Nat.dvd_of_mod_eq_zero h.2.2)) (by omega)
      obtain ⟨k, h1, h2, h3, h4⟩ := ih (v / p) (Nat.div_lt_self h.2.1 h.1) hq
      refine ⟨k + 1, ?_, ?_, ?_, ?_⟩
      · rw [inner_yes h]; show p :: _ = _; rw [h1]; rfl
      · rw [inner_yes h]; show v = p ^ (k + 1) * (inner p (v / p)).2
        rw [Nat.pow_succ, Nat.mul_comm (p ^ k) p, Nat.mul_assoc, ← h2]; exact e
      · rw [inner_yes h]; exact h3
      · rw [inner_yes h]; exact h4
    · rw [inner_no h]
      exact ⟨0, rfl, by simp, hv, fun z => h ⟨hp, hv, z⟩⟩

/-- no small divisors -/
def NoDiv (p v : Nat) : Prop := ∀ d, 2 ≤ d → d < p → ¬ d ∣ v
theorem NoDiv.pr {p v : Nat} (hp : 2 ≤ p) (h : NoDiv p v) (hd : p ∣ v) : Pr p := by
  refine ⟨hp, fun d hdp => ?_⟩
  have hle := Nat.le_of_dvd (by omega) hdp
  have h0 : d ≠ 0 := fun z => by subst z; rw [Nat.zero_dvd] at hdp; omega
  by_cases h1 : d = 1
  · exact .inl h1
  · by_cases h2 : d = p
    · exact .inr h2
    · exact absurd (Nat.dvd_trans hdp hd) (h d (by omega) (by omega))
theorem NoDiv.last {p v : Nat} (h : NoDiv p v) (hl : v < p * p) (hv : 1 < v) : Pr v := by
  refine ⟨hv, fun d hd => ?_⟩
  obtain ⟨e, he⟩ := hd
  have h0 : d ≠ 0 := fun z => by subst z; simp at he; omega
  have e0 : e ≠ 0 := fun z => by subst z; simp at he; omega
  by_cases h1 : d = 1
  · exact .inl h1
  · by_cases h2 : e = 1
    · right; rw [he, h2, Nat.mul_one]
    · exfalso
      by_cases hdp : d < p
      · exact h d (by omega) hdp ⟨e, he⟩
      · have hep : e < p := by
          apply Nat.lt_of_not_le
          intro hpe
          have := Nat.mul_le_mul (Nat.le_of_not_lt hdp) hpe
          omega
        exact h e (by omega) hep ⟨d, by rw [he, Nat.mul_comm]⟩

theorem prod_rep (k p : Nat) : (List.replicate k p).prod = p ^ k := by
  induction k with
  | zero => simp
  | succ k ih => rw [List.replicate_succ, List.prod_cons, ih, Nat.pow_succ, Nat.mul_comm]

theorem outer_spec (p v : Nat) (hp : 2 ≤ p) (hv : 0 < v) (h : NoDiv p v) :
    (outer p v).prod = v ∧ (∀ q ∈ outer p v, Pr q ∧ p ≤ q) ∧ (outer p v).Pairwise (· ≤ ·) := by
  generalize hm : v - p = m
  induction m using Nat.strongRecOn generalizing p v with
  | ind m ih =>
    by_cases c : 2 ≤ p ∧ p * p ≤ v
    · rw [outer_yes c]
      obtain ⟨k, h1, h2, h3, h4⟩ := inner_spec hp v hv
      have hlt := sq_lt c
      have hle := inner_le p v
      have nd : NoDiv (p + 1) (inner p v).2 := by
        intro d hd hdp hdv
        by_cases e : d = p
        · subst e; exact h4 (Nat.mod_eq_zero_of_dvd hdv)
        · exact h d hd (by omega) (by rw [h2]; exact Nat.dvd_trans hdv (Nat.dvd_mul_left _ _))
      obtain ⟨i1, i2, i3⟩ := ih ((inner p v).2 - (p + 1)) (by omega) (p + 1) (inner p v).2 (by omega) h3 nd rfl
      refine ⟨?_, ?_, ?_⟩
      · rw [List.prod_append, i1, h1, prod_rep]; exact h2.symm
      · intro q hq
        rcases List.mem_append.mp hq with hq | hq
        · rw [h1] at hq
          obtain ⟨hk, e⟩ := List.mem_replicate.mp hq
          rw [e]
          refine ⟨NoDiv.pr hp h ?_, Nat.le_refl _⟩
          obtain ⟨j, rfl⟩ : ∃ j, k = j + 1 := ⟨k - 1, by omega⟩
          rw [h2, Nat.pow_succ, Nat.mul_comm (p ^ j) p, Nat.mul_assoc]
          exact Nat.dvd_mul_right _ _
        · exact ⟨(i2 q hq).1, by have := (i2 q hq).2; omega⟩
      · rw [List.pairwise_append]
        refine ⟨?_, i3, ?_⟩
        · rw [h1, List.pairwise_replicate]; right; exact Nat.le_refl _
        · intro a ha b hb
          rw [h1] at ha
          rw [(List.mem_replicate.mp ha).2]
          have := (i2 b hb).2
          omega
    · rw [outer_no c]
      have hl : v < p * p := by
        apply Nat.lt_of_not_le
        intro z
        exact c ⟨hp, z⟩
      by_cases c1 : v > 1
      · rw [if_pos c1]
        refine ⟨by simp, fun q hq => ?_, by simp⟩
        have e : q = v := by simpa using hq
        rw [e]
        refine ⟨h.last hl c1, ?_⟩
        apply Nat.le_of_not_lt
        intro z
        exact h v c1 z (Nat.dvd_refl v)
      · rw [if_neg c1]
        exact ⟨by simp; omega, fun q hq => by simp at hq, by simp⟩
theorem pf_spec (v : Nat) (hv : 0 < v) : (pf v).prod = v ∧ (∀ q ∈ pf v, Pr q) ∧ (pf v).Pairwise (· ≤ ·) := by
  obtain ⟨a, b, c⟩ := outer_spec 2 v (by omega) hv (fun d h1 h2 => by omega)
  exact ⟨a, fun q hq => (b q hq).1, c⟩
theorem pf_zero : pf 0 = [] := by
  unfold pf; rw [outer_no (by omega)]; rfl
theorem pf_pr {v q : Nat} (h : q ∈ pf v) : Pr q := by
  by_cases hv : 0 < v
  · exact (pf_spec v hv).2.1 q h
  · have e : v = 0 := by omega
    subst e; rw [pf_zero] at h; cases h
theorem dvd_prod {l : List Nat} {q : Nat} (h : q ∈ l) : q ∣ l.prod := by
  induction l with
  | nil => cases h
  | cons a l ih =>
    rw [List.prod_cons]
    rcases List.mem_cons.mp h with e | h
    · subst e; exact Nat.dvd_mul_right _ _
    · exact Nat.dvd_trans (ih h) (Nat.dvd_mul_left _ _)
theorem pf_dvd {v q : Nat} (h : q ∈ pf v) : q ∣ v := by
  by_cases hv : 0 < v
  · have := dvd_prod h; rwa [(pf_spec v hv).1] at this
  · have e : v = 0 := by omega
    subst e; exact Nat.dvd_zero _

/-! ### lengths -/
theorem two_pow_le {l : List Nat} (h : ∀ q ∈ l, 2 ≤ q) : 2 ^ l.length ≤ l.prod := by
  induction l with
  | nil => simp
  | cons a l ih =>
    rw [List.length_cons, Nat.pow_succ, List.prod_cons, Nat.mul_comm]
    exact Nat.mul_le_mul (h a (List.mem_cons_self ..)) (ih fun q hq => h q (List.mem_cons_of_mem _ hq))
theorem pf_length (v : Nat) (hv : 0 < v) : 2 ^ (pf v).length ≤ v := by
  obtain ⟨a, b, _⟩ := pf_spec v hv
  have := two_pow_le (l := pf v) fun q hq => (b q hq).1
  rwa [a] at this

/-! ### coprime primes -/
theorem Pr.cop {p q : Nat} (hp : Pr p) (hq : Pr q) (h : p ≠ q) : Nat.Coprime p q := by
  show Nat.gcd p q = 1
  rcases hp.2 _ (Nat.gcd_dvd_left p q) with e | e
  · exact e
  · exfalso
    have := Nat.gcd_dvd_right p q
    rw [e] at this
    rcases hq.2 _ this with e' | e'
    · have := hp.1; omega
    · exact h e'
theorem Pr.cop_of {p n : Nat} (hp : Pr p) (h : ¬ p ∣ n) : Nat.Coprime p n := by
  show Nat.gcd p n = 1
  rcases hp.2 _ (Nat.gcd_dvd_left p n) with e | e
  · exact e
  · exfalso
    have := Nat.gcd_dvd_right p n
    rw [e] at this
    exact h this
theorem Pr.dvd_mul {p a b : Nat} (hp : Pr p) (h : p ∣ a * b) : p ∣ a ∨ p ∣ b := by
  by_cases c : p ∣ a
  · exact .inl c
  · exact .inr ((hp.cop_of c).dvd_of_dvd_mul_left h)
theorem Pr.dvd_prod {p : Nat} (hp : Pr p) {l : List Nat} (h : p ∣ l.prod) : ∃ q ∈ l, p ∣ q := by
  induction l with
  | nil =>
    have : p ∣ 1 := by simpa using h
    have := Nat.le_of_dvd (by omega) this
    have := hp.1
    omega
  | cons a l ih =>
    rw [List.prod_cons] at h
    rcases hp.dvd_mul h with h | h
    · exact ⟨a, List.mem_cons_self .., h⟩
    · obtain ⟨q, h1, h2⟩ := ih h
      exact ⟨q, List.mem_cons_of_mem _ h1, h2⟩
theorem cop_prod {p : Nat} {l : List Nat} (h : ∀ q ∈ l, Nat.Coprime p q) : Nat.Coprime p l.prod := by
  induction l with
  | nil => simp
  | cons a l ih =>
    rw [List.prod_cons]
    exact Nat.Coprime.mul_right (h a (List.mem_cons_self ..)) (ih fun q hq => h q (List.mem_cons_of_mem _ hq))
/-- different primes that divide a number: their product does -/
theorem prod_dvd {v : Nat} {l : List Nat} (hp : ∀ q ∈ l, Pr q) (hn : l.Nodup) (hd : ∀ q ∈ l, q ∣ v) : l.prod ∣ v := by
  induction l with
  | nil => simp
  | cons a l ih =>
    rw [List.prod_cons]
    rw [List.nodup_cons] at hn
    refine Nat.Coprime.mul_dvd_of_dvd_of_dvd (cop_prod fun q hq => ?_) (hd a (List.mem_cons_self ..)) (ih (fun q hq => hp q (List.mem_cons_of_mem _ hq)) hn.2 fun q hq => hd q (List.mem_cons_of_mem _ hq))
    exact (hp a (List.mem_cons_self ..)).cop (hp q (List.mem_cons_of_mem _ hq)) fun e => hn.1 (e ▸ hq)

/-! ### units -/
def unitsTo (v : Nat) (f : Nat) (l : List Nat) : Nat := l.foldl (fun f p => if v % p = 0 then f / p * (p - 1) else f) f
def units (v : Nat) (l : List Nat) : Nat := unitsTo v v l
theorem unitsTo_pos {v : Nat} {l : List Nat} (hp : ∀ q ∈ l, Pr q) (f : Nat) (hf : 0 < f) (hd : (l.filter fun p => decide (v % p = 0)).prod ∣ f) : 0 < unitsTo v f l := by
  induction l generalizing f with
  | nil => exact hf
  | cons a l ih =>
    have ha := hp a (List.mem_cons_self ..)
    show 0 < unitsTo v (if v % a = 0 then f / a * (a - 1) else f) l
    by_cases c : v % a = 0
    · rw [List.filter_cons_of_pos (by simpa using c), List.prod_cons] at hd
      rw [if_pos c]
      have h1 : a ∣ f := Nat.dvd_trans (Nat.dvd_mul_right _ _) hd
      have h2 : 0 < f / a := Nat.div_pos (Nat.le_of_dvd hf h1) (by have := ha.1; omega)
      refine ih (fun q hq => hp q (List.mem_cons_of_mem _ hq)) _ (Nat.mul_pos h2 (by have := ha.1; omega)) ?_
      refine Nat.dvd_trans ?_ (Nat.dvd_mul_right _ _)
      exact (Nat.dvd_div_iff_mul_dvd h1).mpr hd
    · rw [List.filter_cons_of_neg (by simpa using c)] at hd
      rw [if_neg c]
      exact ih (fun q hq => hp q (List.mem_cons_of_mem _ hq)) _ hf hd
theorem units_pos {v : Nat} {l : List Nat} (hp : ∀ q ∈ l, Pr q) (hn : l.Nodup) (hv : 0 < v) : 0 < units v l := by
  refine unitsTo_pos hp v hv (prod_dvd (fun q hq => hp q (List.mem_filter.mp hq).1) (hn.filter _) fun q hq => ?_)
  have := (List.mem_filter.mp hq).2
  exact Nat.dvd_of_mod_eq_zero (by simpa using this)
theorem unitsTo_le {v : Nat} {l : List Nat} (f : Nat) : unitsTo v f l ≤ f := by
  induction l generalizing f with
  | nil => exact Nat.le_refl _
  | cons a l ih =>
    show unitsTo v (if v % a = 0 then f / a * (a - 1) else f) l ≤ f
    refine Nat.le_trans (ih _) ?_
    split
    · exact Nat.le_trans (Nat.mul_le_mul_left _ (Nat.sub_le a 1)) (Nat.div_mul_le_self f a)
    · exact Nat.le_refl _

/-! ### order -/
def strip (b v p : Nat) (f : Nat) : Nat :=
  if h : 2 ≤ p ∧ 0 < f ∧ f % p = 0 ∧ b ^ (f / p) % v = 1 % v then strip b v p (f / p) else f
termination_by f
decreasing_by exact Nat.div_lt_self h.2.1 h.1
theorem strip_yes {b v p f : Nat} (h : 2 ≤ p ∧ 0 < f ∧ f % p = 0 ∧ b ^ (f / p) % v = 1 % v) : strip b v p f = strip b v p (f / p) := by
  rw [strip, dif_pos h]
theorem strip_no {b v p f : Nat} (h : ¬ (2 ≤ p ∧ 0 < f ∧ f % p = 0 ∧ b ^ (f / p) % v = 1 % v)) : strip b v p f = f := by
  rw [strip, dif_neg h]
theorem strip_pos {b v p f : Nat} (hf : 0 < f) : 0 < strip b v p f ∧ strip b v p f ≤ f := by
  induction f using Nat.strongRecOn with
  | ind f ih =>
    by_cases h : 2 ≤ p ∧ 0 < f ∧ f % p = 0 ∧ b ^ (f / p) % v = 1 % v
    · rw [strip_yes h]
      have h2 : 0 < f / p := Nat.div_pos (Nat.le_of_dvd hf (Nat.dvd_of_mod_eq_zero h.2.2.1)) (by omega)
      have h3 := Nat.div_lt_self h.2.1 h.1
      have := ih _ h3 h2
      omega
    · rw [strip_no h]; omega
def ordTo (b v : Nat) (f : Nat) (parts : List Nat) : Nat := parts.foldl (fun f p => strip b v p f) f
theorem ordTo_pos {b v f : Nat} {parts : List Nat} (hf : 0 < f) : 0 < ordTo b v f parts ∧ ordTo b v f parts ≤ f := by
  induction parts generalizing f with
  | nil => exact ⟨hf, Nat.le_refl _⟩
  | cons a l ih =>
    have h := strip_pos (b := b) (v := v) (p := a) hf
    have := ih h.1
    show 0 < ordTo b v (strip b v a f) l ∧ ordTo b v (strip b v a f) l ≤ f
    omega

/-! ### sorted, without doubles -/
def ins (k : Nat) : List Nat → List Nat
  | [] => [k]
  | a :: l => if k < a then k :: a :: l else if k = a then a :: l else a :: ins k l
def uniq (l : List Nat) : List Nat := l.foldr ins []
theorem mem_ins {k x : Nat} {l : List Nat} : x ∈ ins k l ↔ x = k ∨ x ∈ l := by
  induction l with
  | nil => simp [ins]
  | cons a l ih =>
    unfold ins
    split
    · simp
    · split
      · rename_i e; subst e; simp
      · simp [ih]; constructor <;> (intro h; rcases h with h | h | h <;> simp [h])
theorem mem_uniq {x : Nat} {l : List Nat} : x ∈ uniq l ↔ x ∈ l := by
  induction l with
  | nil => simp [uniq]
  | cons a l ih =>
    show x ∈ ins a (uniq l) ↔ _
    rw [mem_ins, ih, List.mem_cons]
theorem ins_sorted {k : Nat} {l : List Nat} (h : l.Pairwise (· < ·)) : (ins k l).Pairwise (· < ·) := by
  induction l with
  | nil => simp [ins]
  | cons a l ih =>
    rw [List.pairwise_cons] at h
    unfold ins
    split
    · rename_i hk
      rw [List.pairwise_cons]
      refine ⟨fun b hb => ?_, List.pairwise_cons.mpr h⟩
      rcases List.mem_cons.mp hb with e | hb
      · omega
      · have := h.1 b hb; omega
    · split
      · exact List.pairwise_cons.mpr h
      · rw [List.pairwise_cons]
        refine ⟨fun b hb => ?_, ih h.2⟩
        rcases mem_ins.mp hb with e | hb
        · omega
        · exact h.1 b hb
theorem uniq_sorted (l : List Nat) : (uniq l).Pairwise (· < ·) := by
  induction l with
  | nil => simp [uniq]
  | cons a l ih => exact ins_sorted ih
theorem sorted_ext {α : Type} {R : α → α → Prop} (irr : ∀ a, ¬ R a a) (asym : ∀ a b, R a b → ¬ R b a) {l m : List α} (hl : l.Pairwise R) (hm : m.Pairwise R) (h : ∀ x, x ∈ l ↔ x ∈ m) : l = m := by
  induction l generalizing m with
  | nil =>
    cases m with
    | nil => rfl
    | cons b m => exact absurd ((h b).mpr (List.mem_cons_self ..)) (by simp)
  | cons a l ih =>
    cases m with
    | nil => exact absurd ((h a).mp (List.mem_cons_self ..)) (by simp)
    | cons b m =>
      rw [List.pairwise_cons] at hl hm
      have e : a = b := by
        have ha := (h a).mp (List.mem_cons_self ..)
        have hb := (h b).mpr (List.mem_cons_self ..)
        rcases List.mem_cons.mp ha with e | ha
        · exact e
        · rcases List.mem_cons.mp hb with e | hb
          · exact e.symm
          · exact absurd (hl.1 b hb) (asym _ _ (hm.1 a ha))
      subst e
      congr 1
      refine ih hl.2 hm.2 fun x => ⟨fun hx => ?_, fun hx => ?_⟩
      · have := (h x).mp (List.mem_cons_of_mem _ hx)
        rcases List.mem_cons.mp this with e | hx'
        · subst e; exact absurd (hl.1 _ hx) (irr _)
        · exact hx'
      · have := (h x).mpr (List.mem_cons_of_mem _ hx)
        rcases List.mem_cons.mp this with e | hx'
        · subst e; exact absurd (hm.1 _ hx) (irr _)
        · exact hx'
theorem nodup_of_lt {l : List Nat} (h : l.Pairwise (· < ·)) : l.Nodup := h.imp fun h => Nat.ne_of_lt h

/-! ### parts, ring_length, divisors, rings -/
def partsTo (acc : List Nat) (l : List Nat) : List Nat := l.foldl (fun acc p => acc ++ (pf (p - 1)).filter fun q => !acc.contains q) acc
def parts (l : List Nat) : List Nat := uniq (partsTo l l)
def facts (v : Nat) : List Nat := uniq (pf v)
theorem facts_pr {v q : Nat} (h : q ∈ facts v) : Pr q := pf_pr (mem_uniq.mp h)
theorem facts_nodup (v : Nat) : (facts v).Nodup := nodup_of_lt (uniq_sorted _)
theorem partsTo_pr {acc l : List Nat} (ha : ∀ q ∈ acc, Pr q) : ∀ q ∈ partsTo acc l, Pr q := by
  induction l generalizing acc with
  | nil => exact ha
  | cons a l ih =>
    refine ih fun q hq => ?_
    rcases List.mem_append.mp hq with hq | hq
    · exact ha q hq
    · exact pf_pr (List.mem_filter.mp hq).1
theorem parts_pr {l : List Nat} (h : ∀ q ∈ l, Pr q) : ∀ q ∈ parts l, Pr q := fun q hq => partsTo_pr h q (mem_uniq.mp hq)
def order (b v : Nat) (fs ps : List Nat) : Nat := ordTo b v (units v fs) ps
theorem order_pos {b v : Nat} {fs ps : List Nat} (hp : ∀ q ∈ fs, Pr q) (hn : fs.Nodup) (hv : 0 < v) : 0 < order b v fs ps := (ordTo_pos (units_pos hp hn hv)).1
def ringLen (r c p : Nat) : Nat := if p = 0 ∨ p = r * c - 1 then 1 else order r ((r * c - 1) / Nat.gcd p (r * c - 1)) (facts (r * c - 1)) (parts (facts (r * c - 1)))
/-- found, one more prime with its number of times -/
def powers (p : Nat) : Nat → List Nat
  | 0 => []
  | n + 1 => powers p n ++ [p ^ n]
def longer (found : List Nat) (p n : Nat) : List Nat := (List.range n).flatMap fun k => found.map (· * p ^ k)
def divsTo (every : List Nat) (found : List Nat) (ps : List Nat) : List Nat := ps.foldl (fun f p => longer f p (every.count p + 1)) found
def divs (v : Nat) : List Nat := divsTo (pf v) [1] (facts v)
theorem longer_pos {found : List Nat} {p n : Nat} (hp : 0 < p) (h : ∀ d ∈ found, 0 < d) : ∀ d ∈ longer found p n, 0 < d := by
  intro d hd
  obtain ⟨k, _, hd⟩ := List.mem_flatMap.mp hd
  obtain ⟨e, he, rfl⟩ := List.mem_map.mp hd
  exact Nat.mul_pos (h e he) (Nat.pow_pos hp)
theorem divsTo_pos {every found ps : List Nat} (hp : ∀ p ∈ ps, 0 < p) (h : ∀ d ∈ found, 0 < d) : ∀ d ∈ divsTo every found ps, 0 < d := by
  induction ps generalizing found with
  | nil => exact h
  | cons a l ih => exact ih (fun p hq => hp p (List.mem_cons_of_mem _ hq)) (longer_pos (hp a (List.mem_cons_self ..)) h)
theorem divs_pos {v : Nat} : ∀ d ∈ divs v, 0 < d := divsTo_pos (fun p hp => by have := (facts_pr hp).1; omega) (by simp)
theorem longer_length {found : List Nat} {p n : Nat} : (longer found p n).length = n * found.length := by
  unfold longer
  induction n with
  | zero => simp
  | succ n ih => rw [List.range_succ, List.flatMap_append, List.length_append, ih]; simp; rw [Nat.add_mul, Nat.one_mul]
theorem partsTo_length {acc l : List Nat} : (partsTo acc l).length ≤ acc.length + (l.map fun p => (pf (p - 1)).length).sum := by
  induction l generalizing acc with
  | nil => exact Nat.le_add_right ..
  | cons a l ih =>
    refine Nat.le_trans (ih (acc := acc ++ (pf (a - 1)).filter fun q => !acc.contains q)) ?_
    have := List.length_filter_le (fun q => !acc.contains q) (pf (a - 1))
    rw [List.length_append, List.map_cons, List.sum_cons]
    omega
theorem sum_pf {l : List Nat} (h : ∀ q ∈ l, Pr q) : 2 ^ (l.map fun p => (pf (p - 1)).length).sum ≤ l.prod := by
  induction l with
  | nil => exact Nat.le_refl _
  | cons a l ih =>
    rw [List.map_cons, List.sum_cons, List.prod_cons, Nat.pow_add]
    have h1 := (h a (List.mem_cons_self ..)).1
    exact Nat.mul_le_mul (Nat.le_trans (pf_length (a - 1) (by omega)) (Nat.sub_le ..)) (ih fun q hq => h q (List.mem_cons_of_mem _ hq))
theorem facts_prod {v : Nat} : (facts v).prod ∣ v := prod_dvd (fun _ h => facts_pr h) (facts_nodup v) fun _ h => pf_dvd (mem_uniq.mp h)
theorem parts_bound {v : Nat} (h : 0 < v) (h2 : v < 2 ^ 31) : (partsTo (facts v) (facts v)).length < 64 := by
  have hp := Nat.le_of_dvd h (facts_prod (v := v))
  have h3 := two_pow_le (l := facts v) fun q hq => (facts_pr hq).1
  have h4 := sum_pf (l := facts v) fun q hq => facts_pr hq
  have h5 : (facts v).length < 31 := (Nat.pow_lt_pow_iff_right (by decide)).mp (Nat.lt_of_le_of_lt (Nat.le_trans h3 hp) h2)
  have h6 : ((facts v).map fun p => (pf (p - 1)).length).sum < 31 := (Nat.pow_lt_pow_iff_right (by decide)).mp (Nat.lt_of_le_of_lt (Nat.le_trans h4 hp) h2)
  have := partsTo_length (acc := facts v) (l := facts v)
  omega
theorem facts_lt {v q : Nat} (h : 0 < v) (hq : q ∈ facts v) : q ≤ v := Nat.le_of_dvd h (pf_dvd (mem_uniq.mp hq))
theorem partsTo_lt {v : Nat} {acc l : List Nat} (ha : ∀ q ∈ acc, q ≤ v) (hp : ∀ q ∈ l, Pr q ∧ q ≤ v) : ∀ q ∈ partsTo acc l, q ≤ v := by
  induction l generalizing acc with
  | nil => exact ha
  | cons a l ih =>
    refine ih (fun q hq => ?_) fun q hq => hp q (List.mem_cons_of_mem _ hq)
    rcases List.mem_append.mp hq with hq | hq
    · exact ha q hq
    · have h1 := hp a (List.mem_cons_self ..)
      have h2 := h1.1.1
      have h3 := Nat.le_of_dvd (by omega) (pf_dvd (List.mem_filter.mp hq).1)
      omega
theorem parts_lt {v q : Nat} (h : 0 < v) (hq : q ∈ parts (facts v)) : q ≤ v :=
  partsTo_lt (fun _ hq => facts_lt h hq) (fun _ hq => ⟨facts_pr hq, facts_lt h hq⟩) q (mem_uniq.mp hq)
/-! ### the divisors' size -/
theorem pow_count_dvd {l : List Nat} {p : Nat} : p ^ l.count p ∣ l.prod := by
  induction l with
  | nil => exact Nat.dvd_refl _
  | cons a l ih =>
    rw [List.prod_cons, List.count_cons]
    by_cases e : a = p
    · subst e
      rw [beq_self_eq_true, if_pos rfl, Nat.pow_succ, Nat.mul_comm]
      exact Nat.mul_dvd_mul (Nat.dvd_refl _) ih
    · rw [if_neg (by simpa using e), Nat.add_zero]
      exact Nat.dvd_trans ih (Nat.dvd_mul_left ..)
def pw (every ps : List Nat) : Nat := (ps.map fun p => p ^ every.count p).prod
theorem cop_pw {every l : List Nat} {p : Nat} (hp : Pr p) (h : ∀ q ∈ l, Pr q) (hn : p ∉ l) (k : Nat) : Nat.Coprime (p ^ k) (pw every l) := by
  unfold pw
  refine cop_prod fun q hq => ?_
  obtain ⟨z, hz, rfl⟩ := List.mem_map.mp hq
  exact Nat.Coprime.pow _ _ (hp.cop (h z hz) fun e => hn (e ▸ hz))
theorem pw_dvd {v : Nat} {every ps : List Nat} (hp : ∀ q ∈ ps, Pr q) (hn : ps.Nodup) (hd : ∀ q ∈ ps, q ^ every.count q ∣ v) : pw every ps ∣ v := by
  induction ps with
  | nil => exact Nat.one_dvd _
  | cons a l ih =>
    have hn := List.nodup_cons.mp hn
    show a ^ every.count a * pw every l ∣ v
    exact Nat.Coprime.mul_dvd_of_dvd_of_dvd (cop_pw (hp a (List.mem_cons_self ..)) (fun q hq => hp q (List.mem_cons_of_mem _ hq)) hn.1 _) (hd a (List.mem_cons_self ..)) (ih (fun q hq => hp q (List.mem_cons_of_mem _ hq)) hn.2 fun q hq => hd q (List.mem_cons_of_mem _ hq))
theorem count_dvd {v p : Nat} (hv : 0 < v) : p ^ (pf v).count p ∣ v := by
  have h := pow_count_dvd (l := pf v) (p := p)
  rwa [(pf_spec v hv).1] at h
theorem pw_facts {v : Nat} (hv : 0 < v) {i : Nat} : pw (pf v) ((facts v).take i) ∣ v :=
  pw_dvd (fun q hq => facts_pr (List.mem_of_mem_take hq)) ((facts_nodup v).sublist (List.take_sublist ..)) fun _ _ => count_dvd hv
theorem longer_dvd {found : List Nat} {p n d : Nat} (h : d ∈ longer found p (n + 1)) : ∃ e ∈ found, d ∣ e * p ^ n := by
  obtain ⟨k, hk, hd⟩ := List.mem_flatMap.mp h
  obtain ⟨e, he, rfl⟩ := List.mem_map.mp hd
  exact ⟨e, he, Nat.mul_dvd_mul (Nat.dvd_refl _) (Nat.pow_dvd_pow p (by have := List.mem_range.mp hk; omega))⟩
theorem divsTo_dvd {every found ps : List Nat} {d : Nat} (h : d ∈ divsTo every found ps) : ∃ e ∈ found, d ∣ e * pw every ps := by
  induction ps generalizing found with
  | nil => exact ⟨d, h, by simp [pw]⟩
  | cons a l ih =>
    obtain ⟨e, he, hd⟩ := ih (found := longer found a (every.count a + 1)) h
    obtain ⟨z, hz, hzz⟩ := longer_dvd he
    refine ⟨z, hz, Nat.dvd_trans hd ?_⟩
    show _ ∣ z * (a ^ every.count a * pw every l)
    rw [← Nat.mul_assoc]
    exact Nat.mul_dvd_mul hzz (Nat.dvd_refl _)
theorem divs_dvd {v d i : Nat} (hv : 0 < v) (h : d ∈ divsTo (pf v) [1] ((facts v).take i)) : d ∣ v := by
  obtain ⟨e, he, hd⟩ := divsTo_dvd h
  rw [List.mem_singleton.mp he, Nat.one_mul] at hd
  exact Nat.dvd_trans hd (pw_facts hv)
def many (every ps : List Nat) : Nat := (ps.map fun p => every.count p + 1).prod
theorem divsTo_length {every found ps : List Nat} : (divsTo every found ps).length = many every ps * found.length := by
  induction ps generalizing found with
  | nil => exact (Nat.one_mul _).symm
  | cons a l ih =>
    show (divsTo every (longer found a (every.count a + 1)) l).length = (every.count a + 1) * many every l * found.length
    rw [ih, longer_length]
    ac_rfl
theorem sq2 (n : Nat) : (n + 1) * (n + 1) ≤ 4 * 2 ^ n := by
  match n with
  | 0 | 1 | 2 => decide
  | n + 3 =>
    have ih := sq2 (n + 2)
    rw [Nat.pow_succ]
    have e : (n + 3 + 1) * (n + 3 + 1) = n * n + 8 * n + 16 := by simp only [Nat.mul_add, Nat.add_mul]; omega
    have e2 : (n + 2 + 1) * (n + 2 + 1) = n * n + 6 * n + 9 := by simp only [Nat.mul_add, Nat.add_mul]; omega
    have : n ≤ n * n := by cases n with | zero => simp | succ n => exact Nat.le_mul_of_pos_left _ (by omega)
    omega
theorem sq3 (n : Nat) : (n + 1) * (n + 1) ≤ 2 * 3 ^ n := by
  match n with
  | 0 | 1 => decide
  | n + 2 =>
    have ih := sq3 (n + 1)
    rw [Nat.pow_succ]
    have e : (n + 2 + 1) * (n + 2 + 1) = n * n + 6 * n + 9 := by simp only [Nat.mul_add, Nat.add_mul]; omega
    have e2 : (n + 1 + 1) * (n + 1 + 1) = n * n + 4 * n + 4 := by simp only [Nat.mul_add, Nat.add_mul]; omega
    have : n ≤ n * n := by cases n with | zero => simp | succ n => exact Nat.le_mul_of_pos_left _ (by omega)
    omega
theorem sq5 (n : Nat) : (n + 1) * (n + 1) ≤ 4 ^ n := by
  match n with
  | 0 | 1 => decide
  | n + 2 =>
    have ih := sq5 (n + 1)
    rw [Nat.pow_succ]
    have e : (n + 2 + 1) * (n + 2 + 1) = n * n + 6 * n + 9 := by simp only [Nat.mul_add, Nat.add_mul]; omega
    have e2 : (n + 1 + 1) * (n + 1 + 1) = n * n + 4 * n + 4 := by simp only [Nat.mul_add, Nat.add_mul]; omega
    have : n ≤ n * n := by cases n with | zero => simp | succ n => exact Nat.le_mul_of_pos_left _ (by omega)
    omega
theorem many_sq {every ps : List Nat} (hp : ∀ q ∈ ps, Pr q) (hn : ps.Nodup) : many every ps * many every ps ≤ (if 2 ∈ ps then 4 else 1) * (if 3 ∈ ps then 2 else 1) * pw every ps := by
  induction ps with
  | nil => simp [many, pw]
  | cons a l ih =>
    have hn := List.nodup_cons.mp hn
    have ih := ih (fun q hq => hp q (List.mem_cons_of_mem _ hq)) hn.2
    show (every.count a + 1) * many every l * ((every.count a + 1) * many every l) ≤ _ * _ * (a ^ every.count a * pw every l)
    generalize every.count a = k
    have e1 : (k + 1) * many every l * ((k + 1) * many every l) = ((k + 1) * (k + 1)) * (many every l * many every l) := by ac_rfl
    rw [e1]
    by_cases h2 : a = 2
    · subst h2
      rw [if_neg hn.1] at ih
      rw [if_pos (List.mem_cons_self ..)]
      have e3 : (if 3 ∈ 2 :: l then 2 else 1) = (if 3 ∈ l then 2 else 1) := by simp
      rw [e3]
      generalize (if 3 ∈ l then 2 else 1) = z at ih ⊢
      have e2 : 4 * z * (2 ^ k * pw every l) = (4 * 2 ^ k) * (1 * z * pw every l) := by rw [Nat.one_mul]; ac_rfl
      rw [e2]
      exact Nat.mul_le_mul (sq2 k) ih
    · by_cases h3 : a = 3
      · subst h3
        rw [if_neg hn.1] at ih
        rw [if_pos (c := 3 ∈ 3 :: l) (List.mem_cons_self ..)]
        have e3 : (if 2 ∈ 3 :: l then 4 else 1) = (if 2 ∈ l then 4 else 1) := by simp
        rw [e3]
        generalize (if 2 ∈ l then 4 else 1) = z at ih ⊢
        have e2 : z * 2 * (3 ^ k * pw every l) = (2 * 3 ^ k) * (z * 1 * pw every l) := by rw [Nat.mul_one]; ac_rfl
        rw [e2]
        exact Nat.mul_le_mul (sq3 k) ih
      · have e3 : (if 2 ∈ a :: l then 4 else 1) = (if 2 ∈ l then 4 else 1) := by simp [Ne.symm h2]
        have e4 : (if 3 ∈ a :: l then 2 else 1) = (if 3 ∈ l then 2 else 1) := by simp [Ne.symm h3]
        rw [e3, e4]
        generalize (if 2 ∈ l then 4 else 1) * (if 3 ∈ l then 2 else 1) = z at ih ⊢
        have e2 : z * (a ^ k * pw every l) = a ^ k * (z * pw every l) := by ac_rfl
        rw [e2]
        have ha := (hp a (List.mem_cons_self ..)).1
        exact Nat.mul_le_mul (Nat.le_trans (sq5 k) (Nat.pow_le_pow_left (by omega) k)) ih
theorem divs_length {v i : Nat} (hv : 0 < v) (h : v < 2 ^ 31) : (divsTo (pf v) [1] ((facts v).take i)).length < 2 ^ 18 := by
  rw [divsTo_length]
  have h1 := many_sq (every := pf v) (ps := (facts v).take i) (fun q hq => facts_pr (List.mem_of_mem_take hq)) ((facts_nodup v).sublist (List.take_sublist ..))
  have h2 := Nat.le_of_dvd hv (pw_facts hv (i := i))
  generalize many (pf v) ((facts v).take i) = m at *
  have h3 : m * m ≤ 4 * 2 * v := Nat.le_trans h1 (Nat.mul_le_mul (Nat.mul_le_mul (by split <;> omega) (by split <;> omega)) h2)
  show m * 1 < 2 ^ 18
  apply Nat.lt_of_not_le
  intro z
  have : 2 ^ 18 * 2 ^ 18 ≤ m * m := Nat.mul_le_mul (by omega) (by omega)
  omega
/-! ### rings -/
def getI (d : List (Nat × Nat)) (k : Nat) : Nat := ((d.find? fun p => decide (p.1 = k)).map (·.2)).getD 0
def putI (d : List (Nat × Nat)) (k v : Nat) : List (Nat × Nat) := if (d.any fun p => decide (p.1 = k)) = true then d.map (fun p => if p.1 = k then (p.1, v) else p) else d ++ [(k, v)]
def keys (d : List (Nat × Nat)) : List Nat := d.map (·.1)
theorem any_key {d : List (Nat × Nat)} {k : Nat} : (d.any fun p => decide (p.1 = k)) = true ↔ k ∈ keys d := by
  unfold keys
  rw [List.any_eq_true]
  constructor
  · rintro ⟨p, hp, e⟩
    exact List.mem_map.mpr ⟨p, hp, of_decide_eq_true e⟩
  · intro h
    obtain ⟨p, hp, e⟩ := List.mem_map.mp h
    exact ⟨p, hp, decide_eq_true e⟩
theorem putI_keys {d : List (Nat × Nat)} {k v : Nat} : keys (putI d k v) = if k ∈ keys d then keys d else keys d ++ [k] := by
  unfold putI
  by_cases h : k ∈ keys d
  · rw [if_pos (any_key.mpr h), if_pos h]
    unfold keys
    rw [List.map_map]
    refine List.map_congr_left fun p _ => ?_
    show (if p.1 = k then (p.1, v) else p).1 = p.1
    split <;> rfl
  · rw [if_neg fun z => h (any_key.mp z), if_neg h]
    exact List.map_append
theorem putI_nodup {d : List (Nat × Nat)} {k v : Nat} (h : (keys d).Nodup) : (keys (putI d k v)).Nodup := by
  rw [putI_keys]
  split
  · exact h
  · rename_i hk
    rw [List.nodup_append]
    exact ⟨h, by simp, fun a ha b hb e => hk (by rw [← List.mem_singleton.mp hb, ← e]; exact ha)⟩
theorem putI_length {d : List (Nat × Nat)} {k v : Nat} : (putI d k v).length ≤ d.length + 1 := by
  unfold putI
  split
  · rw [List.length_map]; omega
  · rw [List.length_append]; exact Nat.le_refl _
theorem putI_ne {d : List (Nat × Nat)} {k v : Nat} : putI d k v ≠ [] := by
  unfold putI
  split
  · rename_i h
    intro e
    rw [List.map_eq_nil_iff.mp e] at h
    cases h
  · simp
theorem mem_getI {d : List (Nat × Nat)} {k v : Nat} (h : (keys d).Nodup) : (k, v) ∈ d ↔ k ∈ keys d ∧ getI d k = v := by
  induction d with
  | nil => simp [keys]
  | cons p d ih =>
    have hn := List.nodup_cons.mp h
    have ih := ih hn.2
    by_cases e : p.1 = k
    · have g : getI (p :: d) k = p.2 := by unfold getI; rw [List.find?_cons, decide_eq_true e]; rfl
      rw [g, List.mem_cons]
      constructor
      · rintro (z | z)
        · exact ⟨by rw [← e]; exact List.mem_cons_self .., by rw [← z]⟩
        · exact absurd (List.mem_map.mpr ⟨_, z, rfl⟩) (by rw [← e]; exact hn.1)
      · rintro ⟨_, z⟩
        exact .inl (by rw [← e, ← z])
    · have g : getI (p :: d) k = getI d k := by unfold getI; rw [List.find?_cons, decide_eq_false e]
      have m : k ∈ keys (p :: d) ↔ k ∈ keys d := by
        show k ∈ p.1 :: keys d ↔ _
        rw [List.mem_cons]
        exact ⟨fun z => z.resolve_left fun y => e y.symm, .inr⟩
      rw [g, m, ← ih, List.mem_cons]
      exact ⟨fun z => z.resolve_left fun y => e (by rw [← y]), .inr⟩
def sortP (d : List (Nat × Nat)) : List (Nat × Nat) := (uniq (keys d)).map fun k => (k, getI d k)
theorem sortP_of {d qs : List (Nat × Nat)} (hn : (keys d).Nodup) (hp : qs.Perm d) (hs : qs.Pairwise fun a b => a.1 < b.1 ∨ (a.1 = b.1 ∧ a.2 ≤ b.2)) : qs = sortP d := by
  have hk : (keys qs).Nodup := (hp.map fun p : Nat × Nat => p.1).nodup_iff.mpr hn
  have hs2 : qs.Pairwise fun a b => a.1 < b.1 := by
    have h3 : qs.Pairwise fun a b => a.1 ≠ b.1 := List.pairwise_map.mp hk
    exact hs.imp₂ (fun a b h1 h2 => h1.resolve_right fun z => h2 z.1) h3
  have hs3 : (sortP d).Pairwise fun a b => a.1 < b.1 := List.pairwise_map.mpr (uniq_sorted _)
  refine sorted_ext (R := fun a b : Nat × Nat => a.1 < b.1) (fun a => Nat.lt_irrefl _) (fun a b h => Nat.lt_asymm h) hs2 hs3 fun x => ?_
  rw [hp.mem_iff]
  obtain ⟨k, v⟩ := x
  rw [mem_getI hn]
  unfold sortP
  rw [List.mem_map]
  constructor
  · rintro ⟨h1, h2⟩
    exact ⟨k, mem_uniq.mpr h1, by rw [h2]⟩
  · rintro ⟨z, h1, h2⟩
    cases h2
    exact ⟨mem_uniq.mp h1, rfl⟩
def ringStep (r : Nat) (fs ps : List Nat) (d : List (Nat × Nat)) (v : Nat) : List (Nat × Nat) := putI d (order r v fs ps) (getI d (order r v fs ps) + units v fs / order r v fs ps)
def ringD (r v : Nat) (ds : List Nat) : List (Nat × Nat) := ds.foldl (ringStep r (facts v) (parts (facts v))) [(1, 1)]
theorem ringD_spec {r v : Nat} {ds : List Nat} : (keys (ringD r v ds)).Nodup ∧ ringD r v ds ≠ [] ∧ (ringD r v ds).length ≤ ds.length + 1 := by
  unfold ringD
  have : ∀ (d : List (Nat × Nat)), (keys d).Nodup → d ≠ [] → (keys (ds.foldl (ringStep r (facts v) (parts (facts v))) d)).Nodup ∧ ds.foldl (ringStep r (facts v) (parts (facts v))) d ≠ [] ∧ (ds.foldl (ringStep r (facts v) (parts (facts v))) d).length ≤ d.length + ds.length := by
    induction ds with
    | nil => exact fun d h1 h2 => ⟨h1, h2, Nat.le_refl _⟩
    | cons a l ih =>
      intro d h1 h2
      obtain ⟨i1, i2, i3⟩ := ih (ringStep r (facts v) (parts (facts v)) d a) (putI_nodup h1) putI_ne
      refine ⟨i1, i2, Nat.le_trans i3 ?_⟩
      have : (ringStep r (facts v) (parts (facts v)) d a).length ≤ d.length + 1 := putI_length
      rw [List.length_cons]
      omega
  have := this [(1, 1)] (by simp [keys]) (by simp)
  rw [List.length_singleton] at this
  exact ⟨this.1, this.2.1, by omega⟩
def ringsL (r c : Nat) : List (Nat × Nat) := if r * c - 1 = 0 then [(1, 1)] else sortP (ringD r (r * c - 1) (divs (r * c - 1)))
end Rm
end CP

set_option linter.all false
set_option autoImplicit false
/-! the order of a number, in plain words -/
namespace CP
namespace Rm

/-! ### powers that leave 1 -/
def One (b v k : Nat) : Prop := b ^ k % v = 1 % v
theorem one_zero {b v : Nat} : One b v 0 := rfl
theorem one_add {b v k m : Nat} (h1 : One b v k) (h2 : One b v m) : One b v (k + m) := by
  unfold One at *
  rw [Nat.pow_add, Nat.mul_mod, h1, h2, ← Nat.mul_mod]
theorem one_mul {b v k : Nat} (m : Nat) (h : One b v k) : One b v (k * m) := by
  induction m with
  | zero => exact one_zero
  | succ m ih => rw [Nat.mul_succ]; exact one_add ih h
theorem one_dvd {b v k m : Nat} (h : One b v k) (hd : k ∣ m) : One b v m := by
  obtain ⟨c, rfl⟩ := hd
  exact one_mul c h
theorem one_sub {b v k m : Nat} (h : One b v (k + m)) (h1 : One b v k) : One b v m := by
  unfold One at *
  rw [Nat.pow_add, Nat.mul_mod, h1, ← Nat.mul_mod, Nat.one_mul] at h
  exact h
theorem one_mod {b v k m : Nat} (h1 : One b v k) (h : One b v m) : One b v (m % k) := by
  refine one_sub (k := k * (m / k)) ?_ (one_mul _ h1)
  rw [Nat.div_add_mod]
  exact h
theorem one_gcd {b v : Nat} (k m : Nat) (h1 : One b v k) (h : One b v m) : One b v (Nat.gcd k m) := by
  induction k, m using Nat.gcd.induction with
  | H0 n => rw [Nat.gcd_zero_left]; exact h
  | H1 m n hm ih => rw [Nat.gcd_rec]; exact ih (one_mod h1 h) h1
theorem one_iff {b v k : Nat} (hb : 0 < b) : One b v k ↔ v ∣ b ^ k - 1 := by
  have hp : 0 < b ^ k := Nat.pow_pos hb
  unfold One
  constructor
  · intro h
    have := Nat.sub_mod_eq_zero_of_mod_eq h
    exact Nat.dvd_of_mod_eq_zero this
  · rintro ⟨c, hc⟩
    have : b ^ k = v * c + 1 := by omega
    rw [this, Nat.mul_add_mod]
theorem mem_pf {q n : Nat} (hn : 0 < n) (hq : Pr q) (h : q ∣ n) : q ∈ pf n := by
  rw [← (pf_spec n hn).1] at h
  obtain ⟨p, hp, hd⟩ := hq.dvd_prod h
  rcases (pf_pr hp).2 q hd with e | e
  · have := hq.1; omega
  · rw [e]; exact hp
theorem has_pr {n : Nat} (h : 1 < n) : ∃ q, Pr q ∧ q ∣ n := by
  cases e : pf n with
  | nil =>
    have := (pf_spec n (by omega)).1
    rw [e] at this
    have : (1 : Nat) = n := this
    omega
  | cons q l =>
    have hq : q ∈ pf n := by rw [e]; exact List.mem_cons_self ..
    exact ⟨q, pf_pr hq, pf_dvd hq⟩
theorem least {b v n : Nat} (hO : One b v n) (hn : 0 < n) (hq : ∀ q, Pr q → q ∣ n → ¬ One b v (n / q)) {k : Nat} (h : One b v k) : n ∣ k := by
  have hg := one_gcd k n h hO
  have gd : Nat.gcd k n ∣ n := Nat.gcd_dvd_right ..
  have gp : 0 < Nat.gcd k n := Nat.gcd_pos_of_pos_right _ hn
  obtain ⟨m, hm⟩ := gd
  by_cases e : m = 1
  · rw [e, Nat.mul_one] at hm
    rw [hm]
    exact Nat.gcd_dvd_left ..
  · have m0 : m ≠ 0 := fun z => by rw [z, Nat.mul_zero] at hm; omega
    obtain ⟨q, pq, c, hc⟩ := has_pr (n := m) (by omega)
    have q0 : 0 < q := by have := pq.1; omega
    have e2 : n = q * (Nat.gcd k n * c) := by
      conv => lhs; rw [hm, hc]
      ac_rfl
    refine absurd ?_ (hq q pq ⟨_, e2⟩)
    have e3 : n / q = Nat.gcd k n * c := by
      conv => lhs; rw [e2]
      exact Nat.mul_div_cancel_left _ q0
    rw [e3]
    exact one_mul c hg

/-! ### strip, ordTo -/
theorem strip_spec {b v p : Nat} (hp : 2 ≤ p) {f : Nat} (hf : 0 < f) (h : One b v f) : strip b v p f ∣ f ∧ One b v (strip b v p f) ∧ ¬ (p ∣ strip b v p f ∧ One b v (strip b v p f / p)) := by
  induction f using Nat.strongRecOn with
  | _ f ih =>
    by_cases c : f % p = 0 ∧ b ^ (f / p) % v = 1 % v
    · rw [strip_yes ⟨hp, hf, c⟩]
      have hd := Nat.dvd_of_mod_eq_zero c.1
      have := ih (f / p) (Nat.div_lt_self hf hp) (Nat.div_pos (Nat.le_of_dvd hf hd) (by omega)) c.2
      exact ⟨Nat.dvd_trans this.1 (Nat.div_dvd_of_dvd hd), this.2⟩
    · rw [strip_no (fun z => c z.2.2)]
      exact ⟨Nat.dvd_refl _, h, fun z => c ⟨Nat.mod_eq_zero_of_dvd z.1, z.2⟩⟩
theorem no_back {b v p s t : Nat} (hp : 0 < p) (hd : s ∣ t) (h : ¬ (p ∣ t ∧ One b v (t / p))) : ¬ (p ∣ s ∧ One b v (s / p)) := by
  rintro ⟨⟨c, rfl⟩, h2⟩
  obtain ⟨m, rfl⟩ := hd
  rw [Nat.mul_div_cancel_left _ hp] at h2
  refine h ⟨⟨c * m, by rw [Nat.mul_assoc]⟩, ?_⟩
  rw [Nat.mul_assoc, Nat.mul_div_cancel_left _ hp]
  exact one_mul m h2
theorem ordTo_spec {b v : Nat} {ps : List Nat} (hp : ∀ p ∈ ps, 2 ≤ p) {f : Nat} (hf : 0 < f) (h : One b v f) :
    ordTo b v f ps ∣ f ∧ One b v (ordTo b v f ps) ∧ ∀ p ∈ ps, ¬ (p ∣ ordTo b v f ps ∧ One b v (ordTo b v f ps / p)) := by
  induction ps generalizing f with
  | nil => exact ⟨Nat.dvd_refl _, h, fun _ z => by cases z⟩
  | cons a l ih =>
    obtain ⟨s1, s2, s3⟩ := strip_spec (hp a (List.mem_cons_self ..)) hf h
    obtain ⟨i1, i2, i3⟩ := ih (fun p z => hp p (List.mem_cons_of_mem _ z)) (strip_pos hf).1 s2
    refine ⟨Nat.dvd_trans i1 s1, i2, fun p z => ?_⟩
    rcases List.mem_cons.mp z with e | z
    · subst e
      have := hp p (List.mem_cons_self ..)
      exact no_back (by omega) i1 s3
    · exact i3 p z
theorem mem_partsTo {acc l : List Nat} {x : Nat} : x ∈ partsTo acc l ↔ x ∈ acc ∨ ∃ p ∈ l, x ∈ pf (p - 1) := by
  induction l generalizing acc with
  | nil => exact ⟨.inl, fun z => z.elim id fun ⟨_, z, _⟩ => by cases z⟩
  | cons a l ih =>
    show x ∈ partsTo (acc ++ (pf (a - 1)).filter fun q => !acc.contains q) l ↔ _
    rw [ih, List.mem_append, List.mem_filter]
    constructor
    · rintro ((h | h) | ⟨p, hp, h⟩)
      · exact .inl h
      · exact .inr ⟨a, List.mem_cons_self .., h.1⟩
      · exact .inr ⟨p, List.mem_cons_of_mem _ hp, h⟩
    · rintro (h | ⟨p, hp, h⟩)
      · exact .inl (.inl h)
      · rcases List.mem_cons.mp hp with e | hp
        · subst e
          by_cases c : x ∈ acc
          · exact .inl (.inl c)
          · exact .inl (.inr ⟨h, by simpa using c⟩)
        · exact .inr ⟨p, hp, h⟩

/-! ### what units is -/
def offs (v : Nat) (l : List Nat) : List Nat := l.filter fun p => decide (v % p = 0)
theorem unitsTo_eq {v m : Nat} {l : List Nat} (hp : ∀ q ∈ l, 0 < q) : unitsTo v ((offs v l).prod * m) l = m * ((offs v l).map (· - 1)).prod := by
  induction l generalizing m with
  | nil => simp [offs, unitsTo]
  | cons a l ih =>
    have ih := fun m => ih (m := m) fun q z => hp q (List.mem_cons_of_mem _ z)
    have a0 := hp a (List.mem_cons_self ..)
    by_cases c : v % a = 0
    · have e : offs v (a :: l) = a :: offs v l := by unfold offs; rw [List.filter_cons, if_pos (decide_eq_true c)]
      rw [e]
      show unitsTo v (if v % a = 0 then (a * (offs v l).prod * m) / a * (a - 1) else _) l = m * ((a - 1) * ((offs v l).map (· - 1)).prod)
      rw [if_pos c, Nat.mul_assoc, Nat.mul_div_cancel_left _ a0, Nat.mul_assoc, ih, Nat.mul_assoc]
    · have e : offs v (a :: l) = offs v l := by unfold offs; rw [List.filter_cons, if_neg (by simpa using c)]
      rw [e]
      show unitsTo v (if v % a = 0 then _ else (offs v l).prod * m) l = _
      rw [if_neg c, ih]
theorem units_eq {v : Nat} {l : List Nat} (hp : ∀ q ∈ l, Pr q) (hn : l.Nodup) : ∃ m, v = (offs v l).prod * m ∧ units v l = m * ((offs v l).map (· - 1)).prod := by
  have hd : (offs v l).prod ∣ v := prod_dvd (fun q z => hp q (List.mem_filter.mp z).1) (hn.sublist List.filter_sublist) fun q z => Nat.dvd_of_mod_eq_zero (of_decide_eq_true (List.mem_filter.mp z).2)
  obtain ⟨m, hm⟩ := hd
  refine ⟨m, hm, ?_⟩
  have := unitsTo_eq (v := v) (m := m) (l := l) fun q z => by have := (hp q z).1; omega
  rw [← hm] at this
  exact this
theorem prod_erase {l : List Nat} {p : Nat} (h : p ∈ l) : l.prod = p * (l.erase p).prod := by
  have := (List.perm_cons_erase h).prod_nat
  rw [this, List.prod_cons]
theorem units_dvd {v p k : Nat} {l : List Nat} (hp : ∀ q ∈ l, Pr q) (hn : l.Nodup) (hl : p ∈ l) (hk : p ^ (k + 1) ∣ v) : p ^ k * (p - 1) ∣ units v l := by
  obtain ⟨m, h1, h2⟩ := units_eq (v := v) hp hn
  rw [h2]
  have pv : v % p = 0 := Nat.mod_eq_zero_of_dvd (Nat.dvd_trans ⟨p ^ k, by rw [Nat.pow_succ, Nat.mul_comm]⟩ hk)
  have hm : p ∈ offs v l := List.mem_filter.mpr ⟨hl, decide_eq_true pv⟩
  have hno : (offs v l).Nodup := hn.sublist List.filter_sublist
  refine Nat.mul_dvd_mul ?_ ?_
  · rw [h1, prod_erase hm, Nat.pow_succ, Nat.mul_comm _ p, Nat.mul_assoc] at hk
    have h3 := Nat.dvd_of_mul_dvd_mul_left (by have := (hp p hl).1; omega) hk
    refine Nat.Coprime.dvd_of_dvd_mul_left (Nat.Coprime.pow_left k (cop_prod fun q hq => ?_)) h3
    have hq2 := List.mem_of_mem_erase hq
    exact (hp p hl).cop (hp q (List.mem_filter.mp hq2).1) fun e => by
      subst e
      exact (List.Nodup.not_mem_erase hno) hq
  · rw [prod_erase (List.mem_map.mpr ⟨p, hm, rfl⟩)]
    exact Nat.dvd_mul_right ..
theorem units_prime {v q : Nat} {l : List Nat} (hp : ∀ q ∈ l, Pr q) (hn : l.Nodup) (hv : 0 < v) (hq : Pr q) (h : q ∣ units v l) : q ∣ v ∨ ∃ p ∈ l, q ∣ p - 1 := by
  obtain ⟨m, h1, h2⟩ := units_eq (v := v) hp hn
  rw [h2] at h
  rcases hq.dvd_mul h with h | h
  · exact .inl (by rw [h1]; exact Nat.dvd_trans h (Nat.dvd_mul_left ..))
  · obtain ⟨x, hx, hd⟩ := hq.dvd_prod h
    obtain ⟨p, hp2, rfl⟩ := List.mem_map.mp hx
    exact .inr ⟨p, (List.mem_filter.mp hp2).1, hd⟩

/-! ### Fermat -/
theorem perm_of {l m : List Nat} (hn : l.Nodup) (hs : ∀ x ∈ l, x ∈ m) (hl : m.length ≤ l.length) : l.Perm m := by
  induction l generalizing m with
  | nil =>
    have : m = [] := List.eq_nil_of_length_eq_zero (Nat.le_zero.mp hl)
    rw [this]
  | cons a l ih =>
    have hn := List.nodup_cons.mp hn
    have ha := hs a (List.mem_cons_self ..)
    have h1 := List.perm_cons_erase ha
    refine List.Perm.trans (List.Perm.cons a (ih hn.2 (fun x hx => ?_) ?_)) h1.symm
    · exact (List.mem_erase_of_ne (fun e => hn.1 (by rw [← e]; exact hx))).mpr (hs x (List.mem_cons_of_mem _ hx))
    · rw [List.length_erase_of_mem ha]
      rw [List.length_cons] at hl
      omega
theorem nodup_map_on {f : Nat → Nat} {l : List Nat} (h : ∀ x ∈ l, ∀ y ∈ l, f x = f y → x = y) (hn : l.Nodup) : (l.map f).Nodup := by
  induction l with
  | nil => exact List.nodup_nil
  | cons a l ih =>
    have hn := List.nodup_cons.mp hn
    rw [List.map_cons, List.nodup_cons]
    refine ⟨fun z => ?_, ih (fun x hx y hy => h x (List.mem_cons_of_mem _ hx) y (List.mem_cons_of_mem _ hy)) hn.2⟩
    obtain ⟨y, hy, e⟩ := List.mem_map.mp z
    have := h a (List.mem_cons_self ..) y (List.mem_cons_of_mem _ hy) e.symm
    exact hn.1 (by rw [this]; exact hy)
theorem prod_map_mod {b p : Nat} (l : List Nat) : (l.map fun i => b * i % p).prod % p = b ^ l.length * l.prod % p := by
  induction l with
  | nil => simp
  | cons a l ih =>
    rw [List.map_cons, List.prod_cons, Nat.mul_mod, ih, List.length_cons, List.prod_cons, Nat.mod_mod, ← Nat.mul_mod, Nat.pow_succ]
    congr 1
    ac_rfl
theorem fermat {b p : Nat} (hp : Pr p) (hb : ¬ p ∣ b) : One b p (p - 1) := by
  have p2 := hp.1
  have b0 : 0 < b := Nat.pos_of_ne_zero fun e => hb (e ▸ Nat.dvd_zero _)
  let L := (List.range (p - 1)).map (· + 1)
  have hL : ∀ x, x ∈ L ↔ 0 < x ∧ x < p := by
    intro x
    rw [List.mem_map]
    constructor
    · rintro ⟨y, hy, rfl⟩
      have := List.mem_range.mp hy
      omega
    · rintro ⟨h1, h2⟩
      exact ⟨x - 1, List.mem_range.mpr (by omega), by omega⟩
  have Ln : L.Nodup := nodup_map_on (fun x _ y _ e => by omega) List.nodup_range
  have Ll : L.length = p - 1 := by simp [L]
  have key : ∀ i j, i ≤ j → j < p → b * i % p = b * j % p → i = j := by
    intro i j hij hj e
    have : p ∣ b * j - b * i := Nat.dvd_of_mod_eq_zero (Nat.sub_mod_eq_zero_of_mod_eq e.symm)
    rw [← Nat.mul_sub] at this
    rcases hp.dvd_mul this with h | h
    · exact absurd h hb
    · by_cases z : j - i = 0
      · omega
      · have := Nat.le_of_dvd (by omega) h
        omega
  have perm : (L.map fun i => b * i % p).Perm L := by
    refine perm_of (nodup_map_on (fun x hx y hy e => ?_) Ln) (fun x hx => ?_) (by rw [List.length_map (f := fun i => b * i % p)]; exact Nat.le_refl _)
    · have h1 := (hL x).mp hx
      have h2 := (hL y).mp hy
      rcases Nat.le_total x y with h | h
      · exact key x y h h2.2 e
      · exact (key y x h h1.2 e.symm).symm
    · obtain ⟨i, hi, rfl⟩ := List.mem_map.mp hx
      have h1 := (hL i).mp hi
      refine (hL _).mpr ⟨Nat.pos_of_ne_zero fun z => ?_, Nat.mod_lt _ (by omega)⟩
      rcases hp.dvd_mul (Nat.dvd_of_mod_eq_zero z) with h | h
      · exact hb h
      · have := Nat.le_of_dvd h1.1 h
        omega
  have e := prod_map_mod (b := b) (p := p) L
  rw [perm.prod_nat, Ll] at e
  have nd : ¬ p ∣ L.prod := fun h => by
    obtain ⟨x, hx, hd⟩ := hp.dvd_prod h
    have h1 := (hL x).mp hx
    have := Nat.le_of_dvd h1.1 hd
    omega
  rw [one_iff b0]
  have h2 : p ∣ b ^ (p - 1) * L.prod - L.prod := Nat.dvd_of_mod_eq_zero (Nat.sub_mod_eq_zero_of_mod_eq e.symm)
  have h3 : b ^ (p - 1) * L.prod - L.prod = (b ^ (p - 1) - 1) * L.prod := by rw [Nat.sub_mul, Nat.one_mul]
  rw [h3] at h2
  exact (hp.dvd_mul h2).resolve_right nd
/-- 1 + x + .. + x ^ (n - 1) -/
def geo (x : Nat) : Nat → Nat
  | 0 => 0
  | n + 1 => geo x n + x ^ n
theorem geo_eq (z n : Nat) : (1 + z) ^ n = 1 + z * geo (1 + z) n := by
  induction n with
  | zero => simp [geo]
  | succ n ih =>
    have : (1 + z) ^ (n + 1) = (1 + z) ^ n + (1 + z) ^ n * z := by rw [Nat.pow_succ, Nat.mul_add, Nat.mul_one]
    rw [this]
    show _ = 1 + z * (geo (1 + z) n + (1 + z) ^ n)
    rw [Nat.mul_add, Nat.mul_comm ((1 + z) ^ n) z]
    omega
theorem geo_mod {x p : Nat} (h : x % p = 1 % p) (n : Nat) : geo x n % p = n % p := by
  induction n with
  | zero => rfl
  | succ n ih =>
    show (geo x n + x ^ n) % p = _
    rw [Nat.add_mod, ih, Nat.pow_mod, h, ← Nat.pow_mod, Nat.one_pow, ← Nat.add_mod]
theorem lift {b p k : Nat} (hp : Pr p) (hb : ¬ p ∣ b) : One b (p ^ (k + 1)) (p ^ k * (p - 1)) := by
  have b0 : 0 < b := Nat.pos_of_ne_zero fun e => hb (e ▸ Nat.dvd_zero _)
  induction k with
  | zero => rw [Nat.pow_one, Nat.pow_zero, Nat.one_mul]; exact fermat hp hb
  | succ k ih =>
    rw [one_iff b0] at ih ⊢
    have e : p ^ (k + 1) * (p - 1) = p ^ k * (p - 1) * p := by rw [Nat.pow_succ]; ac_rfl
    rw [e, Nat.pow_mul]
    obtain ⟨z, hz⟩ : ∃ z, b ^ (p ^ k * (p - 1)) = 1 + z := ⟨b ^ (p ^ k * (p - 1)) - 1, by have : 0 < b ^ (p ^ k * (p - 1)) := Nat.pow_pos b0; omega⟩
    rw [hz] at ih ⊢
    rw [Nat.add_sub_cancel_left] at ih
    rw [geo_eq, Nat.add_sub_cancel_left, Nat.pow_succ]
    refine Nat.mul_dvd_mul ih (Nat.dvd_of_mod_eq_zero ?_)
    have pz : p ∣ z := Nat.dvd_trans ⟨p ^ k, by rw [Nat.pow_succ, Nat.mul_comm]⟩ ih
    rw [geo_mod, Nat.mod_self]
    obtain ⟨c, rfl⟩ := pz
    rw [Nat.add_mul_mod_self_left]
theorem dvd_of_pows {v : Nat} (hv : 0 < v) {N : Nat} (h : ∀ p k, Pr p → p ^ k ∣ v → p ^ k ∣ N) : v ∣ N := by
  induction v using Nat.strongRecOn with
  | _ v ih =>
    by_cases e : v = 1
    · rw [e]; exact Nat.one_dvd _
    · obtain ⟨p, hp, hd⟩ := has_pr (n := v) (by omega)
      obtain ⟨k, _, h1, h2, h3⟩ := inner_spec hp.1 v hv
      generalize (inner p v).2 = m at h1 h2 h3
      have k0 : k ≠ 0 := fun z => by
        rw [z, Nat.pow_zero, Nat.one_mul] at h1
        rw [h1] at hd
        exact h3 (Nat.mod_eq_zero_of_dvd hd)
      have p2 := hp.1
      have lt : m < v := by
        have : 1 < p ^ k := Nat.one_lt_pow k0 (by omega)
        rw [h1]
        calc m = 1 * m := (Nat.one_mul _).symm
          _ < p ^ k * m := Nat.mul_lt_mul_of_pos_right this h2
      have i1 := ih m lt h2 fun q j hq hj => h q j hq (by rw [h1]; exact Nat.dvd_trans hj (Nat.dvd_mul_left ..))
      have i2 := h p k hp (by rw [h1]; exact Nat.dvd_mul_right ..)
      rw [h1]
      exact Nat.Coprime.mul_dvd_of_dvd_of_dvd (Nat.Coprime.pow_left k (hp.cop_of fun z => h3 (Nat.mod_eq_zero_of_dvd z))) i2 i1
theorem euler {b v L : Nat} (hL : 0 < L) (hv : v ∣ L) (hb : Nat.Coprime b v) (b0 : 0 < b) : One b v (units v (facts L)) := by
  have v0 : 0 < v := Nat.pos_of_dvd_of_pos hv hL
  rw [one_iff b0]
  refine dvd_of_pows v0 fun p k hp hk => ?_
  cases k with
  | zero => rw [Nat.pow_zero]; exact Nat.one_dvd _
  | succ k =>
    have pv : p ∣ v := Nat.dvd_trans ⟨p ^ k, by rw [Nat.pow_succ, Nat.mul_comm]⟩ hk
    have pl : p ∈ facts L := mem_uniq.mpr (mem_pf hL hp (Nat.dvd_trans pv hv))
    have pb : ¬ p ∣ b := fun z => by
      have := Nat.dvd_gcd z pv
      rw [hb] at this
      have := Nat.le_of_dvd (by decide) this
      have := hp.1
      omega
    rw [← one_iff b0]
    exact one_dvd (lift hp pb) (units_dvd (fun q z => facts_pr z) (facts_nodup L) pl hk)
theorem order_spec {b v L : Nat} (hL : 0 < L) (hv : v ∣ L) (hb : Nat.Coprime b v) (b0 : 0 < b) :
    0 < order b v (facts L) (parts (facts L)) ∧ order b v (facts L) (parts (facts L)) ∣ units v (facts L) ∧ ∀ k, One b v k ↔ order b v (facts L) (parts (facts L)) ∣ k := by
  have v0 : 0 < v := Nat.pos_of_dvd_of_pos hv hL
  have up := units_pos (v := v) (l := facts L) (fun q z => facts_pr z) (facts_nodup L) v0
  have pp : ∀ p ∈ parts (facts L), Pr p := parts_pr fun q z => facts_pr z
  obtain ⟨o1, o2, o3⟩ := ordTo_spec (fun p z => (pp p z).1) up (euler hL hv hb b0)
  have op : 0 < ordTo b v (units v (facts L)) (parts (facts L)) := (ordTo_pos up).1
  refine ⟨op, o1, fun k => ⟨fun h => least o2 op (fun q hq hd => ?_) h, fun h => one_dvd o2 h⟩⟩
  have hm : q ∈ parts (facts L) := by
    refine mem_uniq.mpr (mem_partsTo.mpr ?_)
    rcases units_prime (fun q z => facts_pr z) (facts_nodup L) v0 hq (Nat.dvd_trans hd o1) with h | ⟨p, hp, h⟩
    · exact .inl (mem_uniq.mpr (mem_pf hL hq (Nat.dvd_trans h hv)))
    · have := (facts_pr hp).1
      exact .inr ⟨p, hp, mem_pf (by omega) hq h⟩
  exact fun z => o3 q hm ⟨hd, z⟩
end Rm
end CP

set_option linter.all false
set_option autoImplicit false
/-! where turning leads, in plain words -/
namespace CP
namespace Rm
def next (r c p : Nat) : Nat := p % c * r + p / c
def turn (r c p t : Nat) : Nat := if p = r * c - 1 ∨ r * c - 1 = 0 then p else p * (r ^ t % (r * c - 1)) % (r * c - 1)
theorem next_last {r c : Nat} (hr : 0 < r) (hc : 0 < c) : next r c (r * c - 1) = r * c - 1 := by
  have e : r * c - 1 = c * (r - 1) + (c - 1) := by
    obtain ⟨r, rfl⟩ : ∃ k, r = k + 1 := ⟨r - 1, by omega⟩
    rw [Nat.add_sub_cancel, Nat.add_mul, Nat.mul_comm c r]
    omega
  unfold next
  have h1 : (r * c - 1) % c = c - 1 := by rw [e, Nat.mul_add_mod, Nat.mod_eq_of_lt (by omega)]
  have h2 : (r * c - 1) / c = r - 1 := by rw [e, Nat.mul_add_div hc, Nat.div_eq_of_lt (by omega), Nat.add_zero]
  rw [h1, h2, Nat.sub_mul, Nat.mul_comm c r, Nat.one_mul]
  have : r ≤ r * c := Nat.le_mul_of_pos_right _ hc
  omega
theorem next_mod {r c p : Nat} (hr : 0 < r) (hc : 0 < c) (hp : p < r * c - 1) : next r c p = p * r % (r * c - 1) := by
  have hd := Nat.div_add_mod p c
  have hm := Nat.mod_lt p hc
  have hq : p / c < r := Nat.div_lt_of_lt_mul (by rw [Nat.mul_comm]; omega)
  have lt : next r c p < r * c - 1 := by
    unfold next
    by_cases e : p % c = c - 1
    · have h2 : p / c ≠ r - 1 := fun z => by
        rw [z, e] at hd
        have : c * (r - 1) + (c - 1) = r * c - 1 := by
          obtain ⟨r, rfl⟩ : ∃ k, r = k + 1 := ⟨r - 1, by omega⟩
          rw [Nat.add_sub_cancel, Nat.add_mul, Nat.mul_comm c r]
          omega
        omega
      rw [e, Nat.sub_mul, Nat.one_mul, Nat.mul_comm c r]
      have : r ≤ r * c := Nat.le_mul_of_pos_right _ hc
      omega
    · have h1 : p % c * r ≤ (c - 2) * r := Nat.mul_le_mul_right _ (by omega)
      have h2 : (c - 2) * r + r + r = c * r := by
        obtain ⟨k, rfl⟩ : ∃ k, c = k + 2 := ⟨c - 2, by omega⟩
        rw [Nat.add_sub_cancel, Nat.add_mul]
        omega
      rw [Nat.mul_comm r c]
      omega
  have e : p * r = (r * c - 1) * (p / c) + next r c p := by
    unfold next
    have h3 : r * c - 1 + 1 = r * c := by
      have : 0 < r * c := Nat.mul_pos hr hc
      omega
    have h4 : (r * c - 1) * (p / c) + p / c = r * c * (p / c) := by
      conv => rhs; rw [← h3]
      rw [Nat.add_mul, Nat.one_mul]
    have h5 : p * r = c * (p / c) * r + p % c * r := by rw [← Nat.add_mul, hd]
    have h6 : c * (p / c) * r = r * c * (p / c) := by ac_rfl
    omega
  rw [e, Nat.mul_add_mod, Nat.mod_eq_of_lt lt]
theorem turn_le {r c p t : Nat} (hp : p < r * c) : turn r c p t < r * c := by
  unfold turn
  split
  · exact hp
  · rename_i h
    have := Nat.mod_lt (p * (r ^ t % (r * c - 1))) (show r * c - 1 > 0 by omega)
    omega
theorem turn_zero {r c p : Nat} (hp : p < r * c) : turn r c p 0 = p := by
  unfold turn
  split
  · rfl
  · rename_i h
    rw [Nat.pow_zero, Nat.mul_mod, Nat.mod_mod, ← Nat.mul_mod, Nat.mul_one, Nat.mod_eq_of_lt (by omega)]
theorem turn_next {r c p t : Nat} (hr : 0 < r) (hc : 0 < c) (hp : p < r * c) : turn r c p (t + 1) = next r c (turn r c p t) := by
  unfold turn
  by_cases h : p = r * c - 1 ∨ r * c - 1 = 0
  · rw [if_pos h, if_pos h]
    have e : p = r * c - 1 := by omega
    conv => rhs; rw [e, next_last hr hc]
    exact e
  · rw [if_neg h, if_neg h, next_mod hr hc (Nat.mod_lt _ (by omega))]
    rw [Nat.mul_mod_mod, Nat.mod_mul_mod, Nat.mul_right_comm, Nat.mul_mod_mod, Nat.pow_succ]
    congr 1
    ac_rfl
theorem turn_add {r c p s : Nat} (hr : 0 < r) (hc : 0 < c) (hp : p < r * c) (t : Nat) : turn r c (turn r c p s) t = turn r c p (s + t) := by
  induction t with
  | zero => rw [turn_zero (turn_le hp), Nat.add_zero]
  | succ t ih => rw [turn_next hr hc (turn_le hp), ih, ← Nat.add_assoc, turn_next hr hc hp]
theorem turn_back {r c p : Nat} (hr : 0 < r) (hc : 0 < c) (hp : p < r * c) : turn c r (turn r c p 1) 1 = p := by
  have sy : c * r = r * c := Nat.mul_comm ..
  unfold turn
  rw [sy]
  by_cases h : p = r * c - 1 ∨ r * c - 1 = 0
  · rw [if_pos h, if_pos h]
  · rw [if_neg h]
    have lt := Nat.mod_lt (p * (r ^ 1 % (r * c - 1))) (show r * c - 1 > 0 by omega)
    rw [if_neg (by omega), Nat.pow_one, Nat.pow_one, Nat.mul_mod_mod, Nat.mod_mul_mod, Nat.mul_right_comm, Nat.mul_mod_mod, Nat.mul_right_comm, Nat.mul_assoc]
    have e : r * c = (r * c - 1) + 1 := by omega
    conv => lhs; lhs; rw [e]
    rw [Nat.mul_add, Nat.mul_one, Nat.mul_add_mod_self_right, Nat.mod_eq_of_lt (by omega)]
theorem cop_last {r c : Nat} (hr : 0 < r) (hc : 0 < c) : Nat.Coprime r (r * c - 1) := by
  have h1 := Nat.gcd_dvd_left r (r * c - 1)
  have h2 := Nat.gcd_dvd_right r (r * c - 1)
  have h3 : Nat.gcd r (r * c - 1) ∣ r * c - (r * c - 1) := Nat.dvd_sub (Nat.dvd_trans h1 (Nat.dvd_mul_right ..)) h2
  have : 0 < r * c := Nat.mul_pos hr hc
  rw [show r * c - (r * c - 1) = 1 by omega] at h3
  exact Nat.dvd_one.mp h3
theorem turn_iff {r c p t : Nat} (hr : 0 < r) (h : ¬ (p = r * c - 1 ∨ r * c - 1 = 0)) (hp : p < r * c) : turn r c p t = p ↔ One r ((r * c - 1) / Nat.gcd p (r * c - 1)) t := by
  unfold turn
  rw [if_neg h, one_iff hr]
  have hL : 0 < r * c - 1 := by omega
  have hpL : p < r * c - 1 := by omega
  generalize r * c - 1 = L at *
  have g0 : 0 < p.gcd L := Nat.gcd_pos_of_pos_right _ hL
  obtain ⟨v, hv⟩ := Nat.gcd_dvd_right p L
  obtain ⟨u, hu⟩ := Nat.gcd_dvd_left p L
  have pw : 0 < r ^ t := Nat.pow_pos hr
  have e1 : L / p.gcd L = v := by
    conv => lhs; lhs; rw [hv]
    exact Nat.mul_div_cancel_left _ g0
  rw [e1]
  have cop : Nat.Coprime v u := by
    have := Nat.coprime_div_gcd_div_gcd (m := p) (n := L) g0
    rw [e1] at this
    have e2 : p / p.gcd L = u := by
      conv => lhs; lhs; rw [hu]
      exact Nat.mul_div_cancel_left _ g0
    rw [e2] at this
    exact this.symm
  have a : p * (r ^ t % L) % L = p ↔ L ∣ p * (r ^ t - 1) := by
    rw [Nat.mul_mod_mod, Nat.mul_sub, Nat.mul_one]
    constructor
    · intro z
      refine Nat.dvd_of_mod_eq_zero (Nat.sub_mod_eq_zero_of_mod_eq ?_)
      rw [z, Nat.mod_eq_of_lt hpL]
    · rintro ⟨k, hk⟩
      have : p ≤ p * r ^ t := Nat.le_mul_of_pos_right _ pw
      have : p * r ^ t = L * k + p := by omega
      rw [this, Nat.mul_add_mod, Nat.mod_eq_of_lt hpL]
  rw [a]
  generalize r ^ t - 1 = n
  have b : L ∣ p * n ↔ v ∣ u * n := by
    have : p * n = p.gcd L * (u * n) := by
      conv => lhs; rw [hu]
      rw [Nat.mul_assoc]
    rw [this]
    conv => lhs; lhs; rw [hv]
    exact Nat.mul_dvd_mul_iff_left g0
  rw [b]
  exact ⟨fun z => cop.dvd_of_dvd_mul_left z, fun z => Nat.dvd_trans z (Nat.dvd_mul_left ..)⟩
theorem ring_spec {r c p : Nat} (hr : 0 < r) (hc : 0 < c) (hp : p < r * c) : 0 < ringLen r c p ∧ ringLen r c p ≤ r * c ∧ ∀ t, turn r c p t = p ↔ ringLen r c p ∣ t := by
  unfold ringLen
  by_cases h : p = 0 ∨ p = r * c - 1
  · rw [if_pos h]
    refine ⟨by decide, by omega, fun t => ⟨fun _ => Nat.one_dvd _, fun _ => ?_⟩⟩
    unfold turn
    split
    · rfl
    · rename_i z
      have e : p = 0 := by omega
      rw [e, Nat.zero_mul, Nat.zero_mod]
  · rw [if_neg h]
    have hL : 0 < r * c - 1 := by omega
    have g0 : 0 < p.gcd (r * c - 1) := Nat.gcd_pos_of_pos_right _ hL
    have vd : (r * c - 1) / p.gcd (r * c - 1) ∣ r * c - 1 := Nat.div_dvd_of_dvd (Nat.gcd_dvd_right ..)
    have v0 : 0 < (r * c - 1) / p.gcd (r * c - 1) := Nat.pos_of_dvd_of_pos vd hL
    obtain ⟨o1, o2, o3⟩ := order_spec hL vd (Nat.Coprime.coprime_dvd_right vd (cop_last hr hc)) hr
    refine ⟨o1, ?_, fun t => ?_⟩
    · have h1 := Nat.le_of_dvd (units_pos (fun q z => facts_pr z) (facts_nodup _) v0) o2
      have h2 : units ((r * c - 1) / p.gcd (r * c - 1)) (facts (r * c - 1)) ≤ _ := unitsTo_le _
      have h3 := Nat.le_of_dvd hL vd
      omega
    · rw [turn_iff hr (by omega) hp]
      exact o3 t
end Rm
end CP

set_option Elab.async false
set_option linter.all false
set_option maxRecDepth 100000
set_option maxHeartbeats 4000000
/-! CP: own short words over the hand layer: operators by name, readings one step at a time -/
namespace CP
open PySem L2

/-! ### operators by name -/
abbrev oAdd : R2 := rI0 fun i j => .int (i + j)
abbrev oSub : R2 := rI0 fun i j => .int (i - j)
abbrev oMul : R2 := rI CMulW fun i j => .int (i * j)
abbrev oDiv : R2 := rI CDivW fun i j => .int (i / j)
abbrev oMod : R2 := rI (fun _ j => 0 < j) fun i j => .int (i % j)
abbrev oLt : R2 := rI0 fun i j => .bl (decide (i < j))
abbrev oLe : R2 := rI0 fun i j => .bl (decide (i ≤ j))
abbrev oGt : R2 := rI0 fun i j => .bl (decide (j < i))
abbrev oGe : R2 := rI0 fun i j => .bl (decide (j ≤ i))
abbrev oNeg : V → Hp → VK → Prop := rU fun i => .int (-i)
/-- a power of a base below 2 ^ 1000, the exponent at most 1000 -/
def CPw (i j : Int) : Prop := 0 ≤ j ∧ j ≤ 1000 ∧ i.natAbs < 2 ^ 1000
abbrev oPow : R2 := rI CPw fun i j => .int (i ^ j.toNat)
def oList (K : PySem.W.Frag) : List V → Hp → VK → Prop := fun xs H Q => ∃ p ys, xs = [.ref p] ∧ (SqL K H p ys ∨ SqT K H p ys) ∧ ∀ l, H l = none → Q (.ref l) (upd H l (.lst ys))
def oMax2 : List V → Hp → VK → Prop := fun xs H Q => ∃ i j, xs = [.int i, .int j] ∧ Q (.int (if j > i then j else i)) H
def oMin2 : List V → Hp → VK → Prop := fun xs H Q => ∃ i j, xs = [.int i, .int j] ∧ Q (.int (if j < i then j else i)) H
def oAbs : List V → Hp → VK → Prop := fun xs H Q => ∃ i, xs = [.int i] ∧ Q (.int (if i < 0 then -i else i)) H
def rLenA (K : PySem.W.Frag) : List V → Hp → VK → Prop := fun xs H Q => ∃ p ys, xs = [.ref p] ∧ (SqL K H p ys ∨ SqT K H p ys) ∧ Q (.int ys.length) H
section
variable {X : Cx}
theorem call_lenA : CallR X (.builtin "len") (rLenA X.K) := call_len_seq
theorem call_maxA (h : X.calm = true) : CallR X (.builtin "max") oMax2 := call_max2 h
theorem call_minA (h : X.calm = true) : CallR X (.builtin "min") oMin2 := call_min2 h
theorem call_absA : CallR X (.builtin "abs") oAbs := call_abs
theorem call_listA : CallR X (.type "list") (oList X.K) := call_list_of
theorem op_powW : OpR X (binaryOp .Pow) oPow := opI fun i j _ _ _ _ _ hc q => by
  obtain ⟨h0, h1, h2⟩ := hc
  refine PyProof.Rows.pow_int h0 ?_ q
  have b := PyProof.Rows.intBits_le h2
  have h3 : (Builtin.Int.intBits i : Int) * j ≤ 1000 * j := Int.mul_le_mul_of_nonneg_right (by omega) h0
  omega
end

/-! ### kinds of values, isinstance -/
def kinds : List String := ["NoneType", "bool", "int", "str", "list", "tuple", "dict"]
theorem kit_all : (kinds.all fun n => (["int", "bool", "str", "list", "tuple", "dict"]).all fun c => decide (kitB n c = some (n == c || (n == "bool" && c == "int")))) = true := by decide +kernel
theorem kit_in {K : PySem.W.Frag} {n c : String} (h : n ∈ kinds) (hc : c ∈ ["int", "bool", "str", "list", "tuple", "dict"]) : PySem.W.kitOne K (.type n) (.type c) = some (n == c || (n == "bool" && c == "int")) :=
  kit_ty (of_decide_eq_true (List.all_eq_true.mp (List.all_eq_true.mp kit_all n h) c hc))
/-- a value of one of these kinds -/
def TK (K : PySem.W.Frag) (H : Hp) (x : V) (n : String) : Prop := n ∈ kinds ∧ TyX K H x (.type n)
section
variable {K : PySem.W.Frag} {H : Hp} {Q : VK} {x : V} {n c : String}
theorem r_isi (h : TK K H x n) (hc : c ∈ ["int", "bool", "str", "list", "tuple", "dict"]) (q : Q (.bl (n == c || (n == "bool" && c == "int"))) H) : rIsi K [x, .ty c] H Q :=
  ⟨x, .ty c, .type n, .type c, _, rfl, .ty c, h.2, kit_in h.1 hc, q⟩
theorem tk_int {i : Int} : TK K H (.int i) "int" := ⟨by decide, .base (.int i)⟩
theorem tk_bl {b : Bool} : TK K H (.bl b) "bool" := ⟨by decide, .base (.bl b)⟩
theorem tk_non : TK K H .non "NoneType" := ⟨by decide, .base .non⟩
theorem tk_str {z : Str} : TK K H (.str z) "str" := ⟨by decide, .base (.str z)⟩
theorem tk_lst {a : Addr} {xs : List V} (h : H a = some (.lst xs)) : TK K H (.ref a) "list" := ⟨by decide, .base (.lst h)⟩
theorem tk_tup {a : Addr} {xs : List V} (h : H a = some (.tup xs)) : TK K H (.ref a) "tuple" := ⟨by decide, .base (.tup h)⟩
theorem tk_dK {a : Addr} {kvs : List (Key × V)} (h : H a = some (.dK kvs)) : TK K H (.ref a) "dict" := ⟨by decide, .base (.dK h)⟩
theorem tk_dT {a : Addr} {kvs : List (List Key × V)} (h : H a = some (.dT kvs)) : TK K H (.ref a) "dict" := ⟨by decide, .base (.dT h)⟩
end
/-! ### sizes of products, divisors -/
theorem mul_ok {i j : Int} (h : -(2 ^ 400) < i ∧ i < 2 ^ 400 ∧ -(2 ^ 400) < j ∧ j < 2 ^ 400) : CMulW i j :=
  wide_mul (a := 400) (b := 400) (by omega) (by omega) (by decide) (by decide) (by decide)
theorem mul_okN {a b : Nat} (h : a < 2 ^ 400 ∧ b < 2 ^ 400) : CMulW (a : Int) (b : Int) := mul_ok (by omega)
theorem div_ok {i j : Int} (h : 0 < j ∧ j < 2 ^ 400) : CDivW i j := wide_div (b := 400) h.1 (by omega) (by decide) (by decide)

/-! ### heaps: one that grows, one that changes at one place -/
/-- all but l stands -/
def SB (l : Addr) (H H' : Hp) : Prop := ∀ b o, b ≠ l → H b = some o → H' b = some o
section
variable {H H1 H' : Hp} {a l : Addr} {o u : HO}
theorem same_new (h : H a = none) : Same H (upd H a o) := fun b u e => by
  rw [upd_ne (ne_of_none e h)]
  exact e
theorem sb_upd : SB l H (upd H l o) := fun b u hb e => by
  rw [upd_ne hb]
  exact e
theorem Same.to (s : Same H H') (h : H a = some o) : H' a = some o := s a o h
theorem SB.to (s : SB l H H') (n : a ≠ l) (h : H a = some o) : H' a = some o := s a o n h
theorem Same.sb (s : Same H H1) (n : H l = none) (b : SB l H1 H') : Same H H' := fun c u e => b c u (ne_of_none e n) (s c u e)
theorem SB.same (s : SB l H H1) (b : Same H1 H') : SB l H H' := fun c u hc e => b c u (s c u hc e)
theorem SB.trans (s : SB l H H1) (b : SB l H1 H') : SB l H H' := fun c u hc e => b c u hc (s c u hc e)
theorem SB.new (s : SB l H H1) (n : H a = none) (b : SB a H1 H') : SB l H H' := fun c u hc e => b c u (ne_of_none e n) (s c u hc e)
theorem Same.toSB (s : Same H H') : SB l H H' := fun c u _ e => s c u e
theorem SB.free (e : SB a H H') (h : H' l = none) (n : l ≠ a) : H l = none := by
  cases q : H l with
  | none => rfl
  | some o =>
    rw [e l o n q] at h
    cases h
end

/-- many new objects told at once -/
theorem inv_grow {X : Cx} {pins : List (Addr × Obj)} {σ : St} {H H' : Hp} {s : Shared} {h' : Heap} {tk : Nat} (I : Inv X pins σ H s) (hk : ∀ b o, s.heap.get? b = some o → h'.get? b = some o) (ext : Same H H')
    (new : ∀ b o, H' b = some o → H b = some o ∨ (s.heap.objs.size ≤ b ∧ ObjOk X.prog X.w H' h' b o)) : Inv X pins σ H' { s with heap := h', toks := tk } := by
  have old : ∀ b o, s.heap.get? b = some o → H b = none → H' b = none := fun b o e n => by
    cases q : H' b with
    | none => rfl
    | some u =>
      rcases new b u q with z | ⟨z, _⟩
      · rw [n] at z; cases z
      · exact absurd (Heap.lt_size e) (Nat.not_lt.mpr z)
  refine I.un ⟨fun b o e _ _ _ => hk b o e, fun b o e _ _ _ => ⟨o.slots, hk b o e⟩, fun b o e n _ => old b o e n, fun b o e _ => ⟨o, hk b o e⟩, fun b xs e => ext b _ e, fun b o u e => ext b _ e, fun b ps e => ⟨#[], by rw [ext b _ e]; simp⟩⟩ fun b u e => ?_
  rcases new b u e with z | ⟨_, z⟩
  · exact (I.hok b u z).stay (fun c v _ q => hk c v q) (fun c q => ext c _ q) fun c xs q => ext c _ q
  · exact z

/-! ### readings one step at a time -/
section
variable {K : PySem.W.Frag} {σ : St} {H : Hp} {Q : VK} {D : Ends} {i j : Nat} {v x y : V} {ta tb te : TE} {tt tu : TT} {t1 t2 : TS} {tas tr : TA}
theorem r_var (h : σ[i]? = some (some v)) (q : Q v H) : tVar i σ H Q := ⟨v, h, q⟩
theorem r_c (q : Q v H) : tC v σ H Q := q
theorem r_op {r : R2} (q : ta σ H fun x H1 => tb σ H1 fun y H2 => r x y H2 Q) : tOp r ta tb σ H Q := q
theorem r_un {r : V → Hp → VK → Prop} (q : ta σ H fun x H1 => r x H1 Q) : tUn r ta σ H Q := q
theorem r_I0 {g : Int → Int → V} {i j : Int} (q : Q (g i j) H) : rI0 g (.int i) (.int j) H Q := ⟨i, j, rfl, rfl, q⟩
theorem r_I {C : Int → Int → Prop} {g : Int → Int → V} {i j : Int} (c : C i j) (q : Q (g i j) H) : rI C g (.int i) (.int j) H Q := ⟨i, j, rfl, rfl, c, q⟩
theorem r_U {g : Int → V} {i : Int} (q : Q (g i) H) : rU g (.int i) H Q := ⟨i, rfl, q⟩
theorem r_eq (h : scal x y = true) (q : Q (.bl (decide (x = y))) H) : rEq x y H Q := ⟨h, q⟩
theorem r_ne (h : scal x y = true) (q : Q (.bl (!decide (x = y))) H) : rNe x y H Q := ⟨h, q⟩
theorem r_eqI {i j : Int} (q : Q (.bl (decide (i = j))) H) : rEq (.int i) (.int j) H Q := ⟨rfl, by
  have e : decide (V.int i = V.int j) = decide (i = j) := by
    by_cases h : i = j
    · subst h; simp
    · have h' : ¬ V.int i = V.int j := fun z => h (V.int.inj z)
      simp [h]
  rw [e]; exact q⟩
theorem r_neI {i j : Int} (q : Q (.bl (!decide (i = j))) H) : rNe (.int i) (.int j) H Q := ⟨rfl, by
  have e : decide (V.int i = V.int j) = decide (i = j) := by
    by_cases h : i = j
    · subst h; simp
    · have h' : ¬ V.int i = V.int j := fun z => h (V.int.inj z)
      simp [h]
  rw [e]; exact q⟩
theorem r_isN (q : Q (.bl (decide (x = .non))) H) : rIsN x .non H Q := ⟨rfl, q⟩
theorem r_notN (q : Q (.bl (!decide (x = .non))) H) : rNotN x .non H Q := ⟨rfl, q⟩
theorem r_test {Q : Bool → Hp → Prop} (q : te σ H fun x H1 => ∃ k, x = .bl k ∧ Q k H1) : tTest te σ H Q := q
theorem r_tB {Q : Bool → Hp → Prop} (q : te σ H fun x H1 => ∃ k, x = .bl k ∧ Q k H1) : tB te σ H Q := q
theorem r_tru {Q : Bool → Hp → Prop} (q : te σ H fun x H1 => ∃ k, TruV K x H1 k ∧ Q k H1) : tTru K te σ H Q := q
theorem r_bl {b : Bool} {P : Bool → Prop} (q : P b) : ∃ k, V.bl b = .bl k ∧ P k := ⟨b, rfl, q⟩
theorem r_and {Q : Bool → Hp → Prop} (q : tt σ H fun c H1 => if c = true then tu σ H1 Q else Q false H1) : tAnd tt tu σ H Q := q
theorem r_or {Q : Bool → Hp → Prop} (q : tt σ H fun c H1 => if c = true then Q true H1 else tu σ H1 Q) : tOr tt tu σ H Q := q
theorem r_not {Q : Bool → Hp → Prop} (q : tt σ H fun c H1 => Q (!c) H1) : tNot tt σ H Q := q
theorem r_andV (q : ta σ H fun x H1 => ∃ c, x = .bl c ∧ if c = true then tb σ H1 Q else Q (.bl false) H1) : tAndV ta tb σ H Q := q
theorem r_orV (q : ta σ H fun x H1 => ∃ c, x = .bl c ∧ if c = true then Q (.bl true) H1 else tb σ H1 Q) : tOrV ta tb σ H Q := q
theorem r_notV (q : ta σ H fun x H1 => ∃ c, x = .bl c ∧ Q (.bl (!c)) H1) : tNotV ta σ H Q := q
theorem r_ifE (q : tt σ H fun c H1 => if c = true then ta σ H1 Q else tb σ H1 Q) : tIf tt ta tb σ H Q := q
theorem r_nil {Q : List V → Hp → Prop} (q : Q [] H) : tNil σ H Q := q
theorem r_cons {Q : List V → Hp → Prop} (q : ta σ H fun x H1 => tr σ H1 fun xs H2 => Q (x :: xs) H2) : tCons ta tr σ H Q := q
theorem r_cb {r : List V → Hp → VK → Prop} (q : tas σ H fun vs H1 => r vs H1 Q) : tCB r tas σ H Q := q
theorem r_call {sp : Sp} {E : XK} (q : tas σ H fun vs H1 => sp (vs ++ []) H1 Q E) : tCall sp [] E tas σ H Q := q
theorem r_callD {sp : Sp} {dvs : List V} {E : XK} (q : tas σ H fun vs H1 => sp (vs ++ dvs) H1 Q E) : tCall sp dvs E tas σ H Q := q
/-- a new object -/
def NewO (o : HO) (H : Hp) (Q : VK) : Prop := ∀ p, H p = none → Q (.ref p) (upd H p o)
theorem r_newO {o : HO} (q : ∀ p H', H p = none → Same H H' → H' p = some o → Q (.ref p) H') : NewO o H Q := fun p h => q p _ h (same_new h) upd_same
theorem r_lst (q : tas σ H fun xs H1 => xs.length ≤ sizeLine ∧ NewO (.lst xs) H1 Q) : tLst tas σ H Q := q
theorem r_tup (q : tas σ H fun xs H1 => xs.length ≤ sizeLine ∧ NewO (.tup xs) H1 Q) : tTup tas σ H Q := q
theorem r_dnewK (q : NewO (.dK []) H Q) : tDNewK σ H Q := q
theorem r_mk {n : Nat} {o : HO} (hz : n ≤ sizeLine) (q : ∀ p H', H p = none → Same H H' → H' p = some o → Q (.ref p) H') : n ≤ sizeLine ∧ NewO o H Q := ⟨hz, r_newO q⟩
/-- an object changed -/
def PutO (l : Addr) (o : HO) (H : Hp) (P : Hp → Prop) : Prop := P (upd H l o)
theorem r_putO {P : Hp → Prop} {l : Addr} {o : HO} (q : ∀ H', SB l H H' → H' l = some o → P H') : PutO l o H P := q _ sb_upd upd_same
/-! built-ins by what they say -/
theorem r_len {p : Addr} {ys : List V} (h : SqL K H p ys) (q : Q (.int ys.length) H) : rLenA K [.ref p] H Q := ⟨p, ys, rfl, .inl h, q⟩
theorem r_lenT {p : Addr} {ys : List V} (h : SqT K H p ys) (q : Q (.int ys.length) H) : rLenA K [.ref p] H Q := ⟨p, ys, rfl, .inr h, q⟩
theorem r_list {p : Addr} {ys : List V} (h : SqL K H p ys) (q : ∀ l H', H l = none → Same H H' → H' l = some (.lst ys) → Q (.ref l) H') : oList K [.ref p] H Q := ⟨p, ys, rfl, .inl h, fun l hl => q l _ hl (same_new hl) upd_same⟩
theorem r_max2 {i j : Int} (q : Q (.int (if j > i then j else i)) H) : oMax2 [.int i, .int j] H Q := ⟨i, j, rfl, q⟩
theorem r_min2 {i j : Int} (q : Q (.int (if j < i then j else i)) H) : oMin2 [.int i, .int j] H Q := ⟨i, j, rfl, q⟩
theorem r_abs {i : Int} (q : Q (.int (if i < 0 then -i else i)) H) : oAbs [.int i] H Q := ⟨i, rfl, q⟩
theorem r_sum {p : Addr} {ns : List Int} (h : SqL K H p (ns.map V.int)) (q : Q (.int ns.sum) H) : rSum K [.ref p] H Q := ⟨p, ns, rfl, h, q⟩
theorem r_cat {p b : Addr} {xs ys : List V} (h : H p = some (.lst xs)) (h2 : H b = some (.lst ys)) (hz : xs.length + ys.length ≤ sizeLine) (q : ∀ l H', H l = none → Same H H' → H' l = some (.lst (xs ++ ys)) → Q (.ref l) H') : rCat (.ref p) (.ref b) H Q :=
  ⟨p, b, xs, ys, rfl, rfl, h, h2, hz, fun l hl => q l _ hl (same_new hl) upd_same⟩
theorem r_app {p : Addr} {xs : List V} {y : V} (h : H p = some (.lst xs)) (hz : xs.length < sizeLine) (q : ∀ H', SB p H H' → H' p = some (.lst (xs ++ [y])) → Q .non H') : rAppend (.ref p) [y] H Q :=
  ⟨p, xs, y, rfl, rfl, h, hz, q _ sb_upd upd_same⟩
theorem r_slL {p : Addr} {xs : List V} {lo hi : Option Int} (h : SqL K H p xs) (q : ∀ l H', H l = none → Same H H' → H' l = some (.lst (cutV xs lo hi)) → Q (.ref l) H') : rSlL K (.ref p) lo hi H Q :=
  ⟨p, xs, rfl, h, fun l hl => q l _ hl (same_new hl) upd_same⟩
theorem r_ixL {p : Addr} {xs : List V} {i : Int} {v : V} (h : SqL K H p xs) (ha : atI xs i = some v) (q : Q v H) : rIxL K (.ref p) (.int i) H Q := ⟨p, xs, i, v, rfl, rfl, h, ha, q⟩
theorem r_ixT {p : Addr} {xs : List V} {i : Int} {v : V} (h : SqT K H p xs) (ha : atI xs i = some v) (q : Q v H) : rIxT K (.ref p) (.int i) H Q := ⟨p, xs, i, v, rfl, rfl, h, ha, q⟩
theorem r_setL {P : Hp → Prop} {p : Addr} {xs : List V} {i : Int} {j : Nat} {v : V} (h : H p = some (.lst xs)) (hj : ixN xs.length i = some j) (q : ∀ H', SB p H H' → H' p = some (.lst (xs.set j v)) → P H') : rSetL (.ref p) (.int i) v H P :=
  ⟨p, xs, i, j, rfl, rfl, h, hj, q _ sb_upd upd_same⟩
theorem r_gsub {to ti : TE} {t : TSet} {q' : St → Hp → Prop} (q : to σ H fun o H1 => ti σ H1 fun i H2 => t o i v H2 fun H3 => q' σ H3) : gSub to ti t v σ H q' := q
theorem r_in {p : Addr} {xs : List V} {neg : Bool} (h : SqL K H p xs) (hx : flatV x = true) (ha : xs.all flatV = true) (q : Q (.bl (if neg then !inV x xs else inV x xs)) H) : rIn K neg x (.ref p) H Q := ⟨p, xs, rfl, .inl h, hx, ha, q⟩
theorem r_inT {p : Addr} {xs : List V} {neg : Bool} (h : SqT K H p xs) (hx : flatV x = true) (ha : xs.all flatV = true) (q : Q (.bl (if neg then !inV x xs else inV x xs)) H) : rIn K neg x (.ref p) H Q := ⟨p, xs, rfl, .inr h, hx, ha, q⟩
theorem r_bits {te : TE} (q : te σ H fun x H1 => ∃ i, x = .int i ∧ Q (.int (Builtin.Int.intBits i : Nat)) H1) : tBits te σ H Q := q
theorem r_iTup {R : It → Hp → Prop} {tl : TE} (q : tl σ H fun x H1 => ∃ a, x = .ref a ∧ (∃ xs, SqT K H1 a xs) ∧ R (Itt K a) H1) : iTup K tl σ H R := q
theorem r_iList {R : It → Hp → Prop} {tl : TE} (q : tl σ H fun x H1 => ∃ a, x = .ref a ∧ (∃ xs, SqL K H1 a xs) ∧ R (Itl K a) H1) : iList K tl σ H R := q
theorem r_iRng1 {R : It → Hp → Prop} (q : tas σ H fun vs H1 => ∃ j : Int, vs = [.int j] ∧ -(2 ^ 62) ≤ j ∧ j < 2 ^ 62 ∧ R (Itr 0 j.toNat) H1) : iRng1 tas σ H R := q
theorem r_dget2 {td ty tx : TE} (q : td σ H fun x H1 => ∃ a, x = .ref a ∧ IsD H1 a ∧ ty σ H1 fun y H2 => tx σ H2 fun z H3 => ∃ o, DGet H3 a y o ∧ Q (o.getD z) H3) : tDGet2 td ty tx σ H Q := q
theorem r_sdput {td ty tv : TE} (q : tv σ H fun v H1 => td σ H1 fun x H2 => ty σ H2 fun y H3 => ∃ a H4, x = .ref a ∧ DPut H3 a y v H4 ∧ D.nx σ H4) : sDPut td ty tv D σ H := q
theorem r_disp1 {i j : Int} (q : ∀ D H', H D = none → Same H H' → H' D = some (.dK [(Sum.inl i, .int j)]) → Q (.ref D) H') : tDisp [(tC (.int i), tC (.int j))] σ H Q := fun D hD => by
  refine ⟨upd_same, [(Sum.inl i, .int j)], rfl, Nat.succ_le_succ (Nat.zero_le _), ?_⟩
  refine q D _ hD (fun b o hb => ?_) upd_same
  have hne : b ≠ D := fun e => by rw [e, hD] at hb; cases hb
  rw [upd_ne hne, upd_ne hne]
  exact hb
theorem r_iRng2 {R : It → Hp → Prop} (q : tas σ H fun vs H1 => ∃ i j : Int, vs = [.int i, .int j] ∧ (-(2 ^ 62) ≤ i ∧ i < 2 ^ 62 ∧ -(2 ^ 62) ≤ j ∧ j < 2 ^ 62) ∧ R (Itr i (j - i).toNat) H1) : iRng2 tas σ H R := q
theorem r_rng2 {P : Int → Int → Prop} {i j : Int} (h : -(2 ^ 62) ≤ i ∧ i < 2 ^ 62 ∧ -(2 ^ 62) ≤ j ∧ j < 2 ^ 62) (q : P i j) : ∃ i' j' : Int, [V.int i, V.int j] = [.int i', .int j'] ∧ (-(2 ^ 62) ≤ i' ∧ i' < 2 ^ 62 ∧ -(2 ^ 62) ≤ j' ∧ j' < 2 ^ 62) ∧ P i' j' := ⟨i, j, rfl, h, q⟩
theorem r_neB {a b : Bool} (q : Q (.bl (a != b)) H) : rNe (.bl a) (.bl b) H Q := ⟨rfl, by cases a <;> cases b <;> simpa using q⟩
theorem r_eqB {a b : Bool} (q : Q (.bl (a == b)) H) : rEq (.bl a) (.bl b) H Q := ⟨rfl, by cases a <;> cases b <;> simpa using q⟩
theorem r_gtup {n : Nat} {u : TGs} {p : Addr} {xs : List V} {q' : St → Hp → Prop} (h : SqT K H p xs) (hl : xs.length = n) (q : u xs σ H q') : gTup K n u (.ref p) σ H q' := ⟨p, xs, rfl, h, hl, q⟩
theorem r_gcons {t : TG} {u : TGs} {v : V} {r : List V} {q' : St → Hp → Prop} (q : t v σ H fun σ' H' => u r σ' H' q') : gCons t u (v :: r) σ H q' := ⟨v, r, rfl, q⟩
theorem r_gnil {q' : St → Hp → Prop} (q : q' σ H) : gNil [] σ H q' := ⟨rfl, q⟩
theorem r_rng {P : Int → Prop} {j : Int} (h1 : -(2 ^ 62) ≤ j) (h2 : j < 2 ^ 62) (q : P j) : ∃ k : Int, [V.int j] = [.int k] ∧ -(2 ^ 62) ≤ k ∧ k < 2 ^ 62 ∧ P k := ⟨j, rfl, h1, h2, q⟩
/-- a comprehension over a list that stands, of flat tests and elements: what it makes -/
theorem r_lc {wi : TI} {g : TG} {vs : List Nat} (q : wi σ H fun J H1 => ∀ D, H1 D = none → ∃ W : Nat → Nat → Hp → Prop, (∃ m, W 0 m (upd H1 D (.lst []))) ∧ ∀ i m H, W i m H →
    (J.stop i H ∧ Q (.ref D) H) ∨ (J.go i H ∧ ∃ Nx : Hp → Prop, (∀ H', Nx H' → ∃ m', m' < m ∧ W (i + 1) m' H') ∧ ∀ x H', J.yld i H x H' → g x (wipe σ vs) H' fun σ2 H2 => wipe σ2 vs = wipe σ vs ∧ tt σ2 H2 fun b H3 =>
      if b = true then te σ2 H3 fun y H4 => ∃ acc, H4 D = some (.lst acc) ∧ acc.length < sizeLine ∧ Nx (upd H4 D (.lst (acc ++ [y]))) else Nx H3)) : tLc wi g tt te vs σ H Q := q
/-! statements -/
theorem r_seq (q : t1 { D with nx := t2 D } σ H) : tSeq t1 t2 D σ H := q
theorem r_next (q : D.nx σ H) : tNext D σ H := q
theorem r_brk (q : D.bk σ H) : tBreak D σ H := q
theorem r_cont (q : D.ct σ H) : tCont D σ H := q
theorem r_asg {g : TG} (q : te σ H fun x H1 => g x σ H1 D.nx) : tAsg te g D σ H := q
theorem r_name {q' : St → Hp → Prop} (q : q' (σ.set i (some v)) H) : gName i v σ H q' := q
theorem r_par (q : tas σ H fun vs H1 => ∃ v w, vs = [v, w] ∧ D.nx ((σ.set i (some v)).set j (some w)) H1) : tPar i j tas D σ H := q
theorem r_two {v w : V} {P : V → V → Prop} (q : P v w) : ∃ x y, [v, w] = [x, y] ∧ P x y := ⟨v, w, rfl, q⟩
theorem r_ret (q : te σ H D.rt) : tRet te D σ H := q
theorem r_retN (q : D.rt .non H) : tRetN D σ H := q
theorem r_drop (q : te σ H fun _ H1 => D.nx σ H1) : tDrop te D σ H := q
theorem r_ifS (q : tt σ H fun b H1 => if b = true then t1 D σ H1 else t2 D σ H1) : tIfS tt t1 t2 D σ H := q
/-! branches -/
theorem if_d {c : Prop} [Decidable c] {A B : Prop} (h1 : c → A) (h2 : ¬ c → B) : if decide c = true then A else B := by
  by_cases h : c
  · rw [decide_eq_true h, if_pos rfl]; exact h1 h
  · rw [decide_eq_false h, if_neg Bool.false_ne_true]; exact h2 h
theorem if_nd {c : Prop} [Decidable c] {A B : Prop} (h1 : ¬ c → A) (h2 : c → B) : if (!decide c) = true then A else B := by
  by_cases h : c
  · rw [decide_eq_true h]; exact h2 h
  · rw [decide_eq_false h]; exact h1 h
theorem if_b {b : Bool} {A B : Prop} (h1 : b = true → A) (h2 : b = false → B) : if b = true then A else B := by
  cases b with
  | true => exact h1 rfl
  | false => exact h2 rfl
theorem if_nb {b : Bool} {A B : Prop} (h1 : b = false → A) (h2 : b = true → B) : if (!b) = true then A else B := by
  cases b with
  | true => exact h2 rfl
  | false => exact h1 rfl
theorem if_t {A B : Prop} (h : A) : if true = true then A else B := h
theorem if_f {A B : Prop} (h : B) : if false = true then A else B := h
theorem if_nt {A B : Prop} (h : A) : if (!false) = true then A else B := h
theorem if_nf {A B : Prop} (h : B) : if (!true) = true then A else B := h
/-- the loop of a comprehension over a list at a: test and element read values alone -/
theorem lc_pure {a : Addr} {xs : List V} {g : TG} {vs : List Nat} {D : Addr} {H1 : Hp} {Qd : Hp → Prop} (p : V → Bool) (f : V → V) (hD : H1 D = none) (ha : SqL K H1 a xs) (hz : xs.length < sizeLine)
    (hs : ∀ x ∈ xs, ∀ H, Same H1 H → ∀ R : St → Hp → Prop, (∀ σ2, wipe σ2 vs = wipe σ vs ∧ (∀ Q' : Bool → Hp → Prop, Q' (p x) H → tt σ2 H Q') ∧ (p x = true → ∀ Q' : VK, Q' (f x) H → te σ2 H Q') → R σ2 H) → g x (wipe σ vs) H R)
    (hd : ∀ H', Same H1 H' → H' D = some (.lst ((xs.filter p).map f)) → Qd H') :
    ∃ W : Nat → Nat → Hp → Prop, (∃ m, W 0 m (upd H1 D (.lst []))) ∧ ∀ i m H, W i m H →
      ((Itl K a).stop i H ∧ Qd H) ∨ ((Itl K a).go i H ∧ ∃ Nx : Hp → Prop, (∀ H', Nx H' → ∃ m', m' < m ∧ W (i + 1) m' H') ∧ ∀ x H', (Itl K a).yld i H x H' → g x (wipe σ vs) H' fun σ2 H2 => wipe σ2 vs = wipe σ vs ∧ tt σ2 H2 fun b H3 =>
        if b = true then te σ2 H3 fun y H4 => ∃ acc, H4 D = some (.lst acc) ∧ acc.length < sizeLine ∧ Nx (upd H4 D (.lst (acc ++ [y]))) else Nx H3) := by
  refine lc_list (K := K) (a := a) (xs := xs) (fun i H => Same H1 H ∧ H D = some (.lst (((xs.take i).filter p).map f))) ⟨same_new hD, by rw [upd_same]; rfl⟩ (fun i H _ w => w.1.seq ha) ?_ ?_
  · rintro i x H hi ⟨s, e⟩
    have hx : x ∈ xs := List.mem_of_getElem? hi
    have tk : xs.take (i + 1) = xs.take i ++ [x] := by rw [List.take_add_one, hi]; rfl
    refine hs x hx H s _ fun σ2 ⟨w, h1, h2⟩ => ⟨w, h1 _ ?_⟩
    cases c : p x with
    | true =>
      refine if_t (h2 c _ ⟨_, e, ?_, CP.Same.sb s hD sb_upd, ?_⟩)
      · have q1 := List.length_filter_le p (xs.take i)
        have q2 : (xs.take i).length = min i xs.length := List.length_take
        rw [List.length_map]
        omega
      · rw [upd_same, tk, List.filter_append, List.map_append, List.filter_cons_of_pos c]
        rfl
    | false =>
      refine if_f ⟨s, ?_⟩
      rw [tk, List.filter_append, List.filter_cons_of_neg (by rw [c]; decide), List.filter_nil, List.append_nil]
      exact e
  · rintro H ⟨s, e⟩
    rw [List.take_length] at e
    exact hd H s e
theorem r_sl {r : V → Option Int → Option Int → Hp → VK → Prop} {tl th : TO} (q : te σ H fun x H1 => tl σ H1 fun l H2 => th σ H2 fun u H3 => r x l u H3 Q) : tSl r te tl th σ H Q := q
theorem r_noPart {Q : Option Int → Hp → Prop} (q : Q none H) : tNoPart σ H Q := q
theorem r_part {Q : Option Int → Hp → Prop} (q : te σ H fun x H1 => ∃ i, x = .int i ∧ Q (some i) H1) : tPart te σ H Q := q
theorem r_int {i : Int} {P : Int → Prop} (q : P i) : ∃ k, V.int i = .int k ∧ P k := ⟨i, rfl, q⟩
theorem r_bm {T : String} {r : V → List V → Hp → VK → Prop} (q : ta σ H fun x H1 => tyV K T x H1 ∧ tas σ H1 fun xs H2 => r x xs H2 Q) : tBM K T r ta tas σ H Q := q
theorem r_bm0 {T : String} {r : V → List V → Hp → VK → Prop} (q : ta σ H fun x H1 => tyV K T x H1 ∧ r x [] H1 Q) : tBM0 K T r ta σ H Q := q
/-! loops -/
/-- a while: W tells the slots and the heap by a datum, μ falls -/
theorem r_while {α : Type} {c : TT} {tb : TS} (W : α → St → Hp → Prop) (μ : α → Nat) (a0 : α) (h0 : W a0 σ H)
    (hs : ∀ a σ H, W a σ H → c σ H fun b H1 => if b = true then tb { D with nx := fun σ' H' => ∃ a', W a' σ' H' ∧ μ a' < μ a, ct := fun σ' H' => ∃ a', W a' σ' H' ∧ μ a' < μ a, bk := D.nx } σ H1 else D.nx σ H1)
    (mono : ∀ σ H Q Q', (∀ b H1, Q b H1 → Q' b H1) → c σ H Q → c σ H Q') : tWhile c tb D σ H := by
  refine ⟨fun m σ H => ∃ a, μ a = m ∧ W a σ H, ⟨_, a0, rfl, h0⟩, ?_⟩
  rintro m σ H ⟨a, rfl, w⟩
  refine mono σ H _ _ (fun b H1 q => ?_) (hs a σ H w)
  cases b with
  | true => exact ⟨_, fun σ' H' ⟨a', w', l⟩ => ⟨_, l, a', rfl, w'⟩, q⟩
  | false => exact q
/-- the same where the test's outcome is known by the datum -/
theorem r_whileD {α : Type} {c : TT} {tb : TS} (W : α → St → Hp → Prop) (μ : α → Nat) (go : α → Bool) (a0 : α) (h0 : W a0 σ H)
    (hc : ∀ a σ H, W a σ H → ∀ Q : Bool → Hp → Prop, Q (go a) H → c σ H Q)
    (hs : ∀ a σ H, W a σ H → go a = true → tb { D with nx := fun σ' H' => ∃ a', W a' σ' H' ∧ μ a' < μ a, ct := fun σ' H' => ∃ a', W a' σ' H' ∧ μ a' < μ a, bk := D.nx } σ H)
    (hd : ∀ a σ H, W a σ H → go a = false → D.nx σ H) : tWhile c tb D σ H := by
  refine ⟨fun m σ H => ∃ a, μ a = m ∧ W a σ H, ⟨_, a0, rfl, h0⟩, ?_⟩
  rintro m σ H ⟨a, rfl, w⟩
  refine hc a σ H w _ ?_
  cases e : go a with
  | true =>
    rw [if_pos rfl]
    exact ⟨_, fun σ' H' ⟨a', w', l⟩ => ⟨_, l, a', rfl, w'⟩, hs a σ H w e⟩
  | false =>
    rw [if_neg Bool.false_ne_true]
    exact hd a σ H w e
theorem r_for {wi : TI} {g : TG} {tb : TS} (q : wi σ H fun J H1 => ∃ W : Nat → Nat → St → Hp → Prop, (∃ m, W 0 m σ H1) ∧ ∀ i m σ H, W i m σ H →
    (J.stop i H ∧ D.nx σ H) ∨ (J.go i H ∧ ∃ N : St → Hp → Prop, (∀ σ' H', N σ' H' → ∃ m', m' < m ∧ W (i + 1) m' σ' H') ∧ ∀ x H', J.yld i H x H' → g x σ H' fun σ2 H2 => tb { D with nx := N, ct := N, bk := D.nx } σ2 H2)) : tFor wi g tb D σ H := q
end
section
variable {H : Hp} {Q : VK} {p : Addr}
theorem r_notNr (q : Q (.bl true) H) : rNotN (.ref p) .non H Q := ⟨rfl, by rw [decide_eq_false (fun z => nomatch z)]; exact q⟩
theorem r_notNn (q : Q (.bl false) H) : rNotN .non .non H Q := ⟨rfl, by rw [decide_eq_true rfl]; exact q⟩
theorem r_isNr (q : Q (.bl false) H) : rIsN (.ref p) .non H Q := ⟨rfl, by rw [decide_eq_false (fun z => nomatch z)]; exact q⟩
theorem r_isNn (q : Q (.bl true) H) : rIsN .non .non H Q := ⟨rfl, by rw [decide_eq_true rfl]; exact q⟩
end
end CP

set_option Elab.async false
set_option linter.all false
set_option maxRecDepth 100000
set_option maxHeartbeats 4000000
set_option autoImplicit false
/-! lists of counts as values -/
namespace CP
open L2 PySem PyProof.Rows
def natL (l : List Nat) : List V := l.map fun n : Nat => V.int (n : Int)
theorem natL_int (l : List Nat) : natL l = (l.map fun n : Nat => (n : Int)).map V.int := by
  unfold natL
  rw [List.map_map]
  rfl
theorem natL_app (l m : List Nat) : natL (l ++ m) = natL l ++ natL m := List.map_append
theorem natL_length (l : List Nat) : (natL l).length = l.length := List.length_map _
theorem natL_one (n : Nat) : natL [n] = [.int (n : Int)] := rfl
theorem natL_get {l : List Nat} {i : Nat} {x : V} (h : (natL l)[i]? = some x) : ∃ n, l[i]? = some n ∧ x = .int (n : Int) := by
  unfold natL at h
  rw [List.getElem?_map] at h
  cases e : l[i]? with
  | none => rw [e] at h; cases h
  | some n => rw [e] at h; exact ⟨n, rfl, (Option.some.inj h).symm⟩
theorem take_succ {α : Type} {l : List α} {i : Nat} {n : α} (h : l[i]? = some n) : l.take (i + 1) = l.take i ++ [n] := by
  rw [List.take_add_one, h]
  rfl
theorem foldl_succ {α β : Type} {f : β → α → β} {b : β} {l : List α} {i : Nat} {n : α} (h : l[i]? = some n) : (l.take (i + 1)).foldl f b = f ((l.take i).foldl f b) n := by
  rw [take_succ h, List.foldl_append]
  rfl
theorem natL_flat (l : List Nat) : (natL l).all flatV = true := by
  unfold natL
  rw [List.all_map]
  exact List.all_eq_true.mpr fun _ _ => rfl
theorem inV_nat (n : Nat) (l : List Nat) : inV (.int (n : Int)) (natL l) = l.contains n := by
  unfold inV natL
  induction l with
  | nil => rfl
  | cons a l ih =>
    rw [List.map_cons, List.any_cons, ih, List.contains_cons]
    congr 1
    show ((a : Int) == (n : Int)) = (n == a)
    by_cases e : a = n
    · subst e; simp
    · have e1 : ((a : Int) == (n : Int)) = false := by rw [beq_eq_false_iff_ne]; omega
      have e2 : (n == a) = false := by rw [beq_eq_false_iff_ne]; exact fun z => e z.symm
      rw [e1, e2]
theorem natL_inj {l m : List Nat} (h : natL l = natL m) : l = m := by
  induction l generalizing m with
  | nil =>
    cases m with
    | nil => rfl
    | cons b m => cases h
  | cons a l ih =>
    cases m with
    | nil => cases h
    | cons b m =>
      have h1 := List.cons.inj h
      have e : (a : Int) = b := V.int.inj h1.1
      rw [ih h1.2, Int.ofNat.inj e]
/-- a sorted list of ints without doubles, the same members as a list of counts -/
theorem ints_nat {us : List Int} {l : List Nat} (h1 : us.Pairwise (· < ·)) (h2 : ∀ k, k ∈ us ↔ k ∈ l.map fun n : Nat => (n : Int)) : ∃ m : List Nat, us = m.map (fun n : Nat => (n : Int)) ∧ m.Pairwise (· < ·) ∧ ∀ n, n ∈ m ↔ n ∈ l := by
  have pos : ∀ k ∈ us, ∃ n : Nat, k = (n : Int) := fun k hk => by
    obtain ⟨n, _, e⟩ := List.mem_map.mp ((h2 k).mp hk)
    exact ⟨n, e.symm⟩
  have e : us = (us.map Int.toNat).map (fun n : Nat => (n : Int)) := by
    rw [List.map_map]
    conv => lhs; rw [← List.map_id us]
    refine List.map_congr_left fun k hk => ?_
    obtain ⟨n, rfl⟩ := pos k hk
    rfl
  refine ⟨us.map Int.toNat, e, ?_, fun n => ?_⟩
  · rw [List.pairwise_map]
    refine h1.imp_of_mem fun {a b} ha hb hab => ?_
    obtain ⟨x, rfl⟩ := pos a ha
    obtain ⟨y, rfl⟩ := pos b hb
    simp only [Int.toNat_natCast]
    omega
  · constructor
    · intro h
      obtain ⟨k, hk, rfl⟩ := List.mem_map.mp h
      obtain ⟨x, hx, rfl⟩ := List.mem_map.mp ((h2 k).mp hk)
      simpa using hx
    · intro h
      exact List.mem_map.mpr ⟨(n : Int), (h2 n).mpr (List.mem_map.mpr ⟨n, h, rfl⟩), by simp⟩
theorem inV_two (p a b : Int) : inV (.int p) [.int a, .int b] = decide (p = a ∨ p = b) := by
  unfold inV
  show (a == p || (b == p || false)) = _
  by_cases h1 : p = a
  · subst h1; simp
  · by_cases h2 : p = b
    · subst h2; simp
    · have e1 : (a == p) = false := by rw [beq_eq_false_iff_ne]; exact fun z => h1 z.symm
      have e2 : (b == p) = false := by rw [beq_eq_false_iff_ne]; exact fun z => h2 z.symm
      rw [e1, e2, decide_eq_false (by omega)]
      rfl
theorem count_nat (l : List Nat) (n : Nat) : (l.map fun n : Nat => (n : Int)).count (n : Int) = l.count n := by
  induction l with
  | nil => rfl
  | cons a l ih =>
    rw [List.map_cons, List.count_cons, List.count_cons, ih]
    by_cases e : a = n
    · subst e; simp
    · have e1 : ((a : Int) == (n : Int)) = false := by rw [beq_eq_false_iff_ne]; omega
      have e2 : (a == n) = false := by rw [beq_eq_false_iff_ne]; exact e
      rw [e1, e2]
/-- a loop over a range that may be left early: Post holds behind it -/
theorem for_rangeP {lo : Int} {n : Nat} {g : TG} {tb : TS} {D : Ends} {σ : L2.St} {H : Hp} (Pv : Nat → L2.St → Hp → Prop) (Post : L2.St → Hp → Prop) (h0 : Pv 0 σ H)
    (hs : ∀ i σ H, i < n → Pv i σ H → ∀ B : L2.St → Hp → Prop, (∀ σ H, Post σ H → B σ H) → g (.int (lo + i)) σ H fun σ2 H2 => tb { D with nx := Pv (i + 1), ct := Pv (i + 1), bk := B } σ2 H2)
    (he : ∀ σ H, Pv n σ H → Post σ H) (hd : ∀ σ H, Post σ H → D.nx σ H) :
    ∃ W : Nat → Nat → L2.St → Hp → Prop, (∃ m, W 0 m σ H) ∧ ∀ i m σ H, W i m σ H →
      ((Itr lo n).stop i H ∧ D.nx σ H) ∨ ((Itr lo n).go i H ∧ ∃ N : L2.St → Hp → Prop, (∀ σ' H', N σ' H' → ∃ m', m' < m ∧ W (i + 1) m' σ' H') ∧ ∀ x H', (Itr lo n).yld i H x H' → g x σ H' fun σ2 H2 => tb { D with nx := N, ct := N, bk := D.nx } σ2 H2) :=
  for_range Pv h0 (fun i σ H hi p => hs i σ H hi p _ hd) fun σ H p => hd σ H (he σ H p)
end CP

set_option Elab.async false
set_option linter.all false
set_option maxRecDepth 100000
set_option maxHeartbeats 4000000
/-! sets of ints and of texts made of a list; sorted(set(list)) -/
namespace CP
open PySem L2

/-- the object of a set just made -/
abbrev set0 (w : World) : Obj := { cls := .type "set", dict := none, data := .set #[] 0 (.fresh 0 0 (!w.params.followText "set-order")) }
abbrev lit0 (l : Addr) : Obj := { cls := .type "list_iterator", data := .fields #[.ref l, .int 0 0] }
section
variable {P : Program} {w : World} {A : Around} {E : Value → Shared → Prop} {s : Shared} {Fin : Heap → Prop}
set_option maxRecDepth 100000 in
set_option maxHeartbeats 4000000 in
/-- set(l), l a list: its loop is what the caller says (it leaves the set as Fin tells) -/
theorem set_of_list {l : Addr} {items : Array Value} {Q : Value → Shared → Prop} (hl : s.heap.IsList l items)
    (loop : ∀ (A' : Around) (R : Result → Shared → Prop) (s1 : Shared), A'.handled = A.handled → s1.heap = (s.heap.push (set0 w)).push (lit0 l) →
      (∀ s', Moved [s.heap.objs.size, s.heap.objs.size + 1] (fun a b => b = a) s1 s' → Fin s'.heap → R (.ok (.ret .none)) s') →
      codeAny (model P w) A' (.builtin "set.update.loop" ⟨[.ref s.heap.objs.size, .ref (s.heap.objs.size + 1)], []⟩) R s1)
    (h : ∀ (h' : Heap) (tk : Nat), Fin h' → (∀ b o, s.heap.get? b = some o → h'.get? b = some o) → Q (.ref s.heap.objs.size) { s with heap := h', toks := tk }) :
    wpAny (model P w) A (call (.type "set") [.ref l]) Q E s := by
  have f1 := F.called_set.made
  have f2 := F.called_set.sub
  have f3 := F.called_set.notType
  have f4 := F.called_set.canCreate
  have f5 := F.typeCall_set_1 (.ref l)
  obtain ⟨cn, tl, f6⟩ := F.called_set.mro
  refine wpAny_call (codeAny_of_tree ?_)
  show wpAny _ _ (callAny (.type "set") _) _ _ _
  have e0 := weight_type_call_type "set" [.ref l] []
  refine wpAny_pure ⟨Code.quiet_builtin _ (by decide +kernel),
    codeAny_builtin F.entry_type_call ?_⟩
  rw [Around.under_plain e0 rfl]
  repeat (any_goals (first | assumption | wp_step))
  refine codeAny_mono (code_set_led1 (.ref l) (E := E)
    (Q₁ := fun v s₁ => v = .ref s.heap.objs.size ∧ s₁ = { s with heap := s.heap.push (set0 w) }) ⟨rfl, rfl⟩) fun r s₁ hr => ?_
  cases r with
  | error e => exact hr
  | ok fl =>
    cases fl with
    | ret obj =>
      obtain ⟨rfl, rfl⟩ := hr
      have g0 : (s.heap.push (set0 w)).get? s.heap.objs.size = some (set0 w) := Heap.get?_push_size _ rfl
      have gT : Shared.TypeIs { s with heap := s.heap.push (set0 w) } (.ref s.heap.objs.size) "set" := ⟨_, g0, rfl⟩
      have f7 := F.called_set.init.lookup
      have f8 := F.called_set.init.bind (.ref s.heap.objs.size)
      repeat (any_goals (first | assumption | wp_step))
      refine codeAny_mono (codeAny_call_builtin
        (R := wants (fun r s₂ => r = .none ∧ ∃ h' tk, s₂ = { s with heap := h', toks := tk } ∧ Fin h' ∧ ∀ b o, s.heap.get? b = some o → h'.get? b = some o) E)
        F.called_set.init.plain F.entry_set_init (check_set_init_1 gT ?_)) fun r₂ s₂ hr₂ => ?_
      · obtain ⟨ol, hol, hcl, nl, hdl⟩ := hl
        obtain ⟨c1, c2, c3, c4⟩ := ol
        simp only at hcl hdl
        subst hcl; subst hdl
        have hol' : (s.heap.push (set0 w)).get? l = some { cls := .type "list", dict := c2, data := .seq items nl, slots := c4 } := Heap.get?_push_of_some _ hol
        have u1 := F.sub_list_set
        have u2 := F.sub_list_frozenset
        have u3 : (Value.type "list" == Value.type "dict") = false := by decide
        have hl1 : (s.heap.push (set0 w)).IsList l items := ⟨_, hol', rfl, nl, rfl⟩
        clear f1 f2 f3 f4 f5 f6 f7 f8 e0 g0 gT h
        unfold Builtin.«set.__init__» noKeywords Builtin.Frozenset.updateFrom
        generalize hPI : pyIter = PI
        wp_walk
        subst hPI
        refine wpAny_pyIter_list hl1 ?_
        refine wpAny_bind (wpAny_runValue ?_)
        have z1 : (s.heap.push (set0 w)).objs.size = s.heap.objs.size + 1 := Heap.size_push ..
        rw [z1]
        refine loop _ _ _ (by simp) rfl fun s' hm hF => ?_
        obtain ⟨h', g2, d', tk', os'⟩ := s'
        have q1 : g2 = s.gens := hm.gens
        have q2 : d' = s.drawn := hm.drawn
        have q3 : os' = s.os := hm.os
        subst q1; subst q2; subst q3
        show wpAny _ _ _ _ _ _
        refine wpAny_pure ?_
        show wpAny _ _ (ret Value.none) _ _ _
        refine wpAny_pure ⟨rfl, h', tk', rfl, hF, fun b o e => ?_⟩
        have lt := Heap.lt_size e
        refine hm.heap b o (fun z => ?_) (Heap.get?_push_of_some _ (Heap.get?_push_of_some _ e))
        rcases List.mem_cons.mp z with z | z
        · exact absurd z (Nat.ne_of_lt lt)
        · exact absurd (List.mem_singleton.mp z) (Nat.ne_of_lt (Nat.lt_succ_of_lt lt))
      · cases r₂ with
        | error e => exact hr₂
        | ok fl₂ =>
          cases fl₂ with
          | ret r =>
            obtain ⟨rfl, h', tk, rfl, hF, hk⟩ := hr₂
            repeat (any_goals (first | assumption | wp_step))
            exact h _ _ hF hk
          | _ => exact hr₂.elim
    | _ => exact hr.elim
end
end CP

set_option Elab.async false
set_option linter.all false
set_option maxRecDepth 100000
set_option maxHeartbeats 4000000
/-! sets of ints made of a list; sorted(set(list)) -/
namespace CP
open PySem L2
section
variable {P : Program} {w : World} {A : Around} {E : Value → Shared → Prop} {s : Shared}
/-- the loop over ints -/
theorem loop_ints {l : Addr} {items : Array Value} {ns : List Int} (hh : A.handled = none) (hl : s.heap.IsList l items) (hi : PyProof.Rows.IntsAre items.toList ns) (hb : ns.length + 1 < scanBound) :
    ∀ (A' : Around) (R : Result → Shared → Prop) (s1 : Shared), A'.handled = A.handled → s1.heap = (s.heap.push (set0 w)).push (lit0 l) →
      (∀ s', Moved [s.heap.objs.size, s.heap.objs.size + 1] (fun a b => b = a) s1 s' → (∃ c, c ≤ ns.length ∧ SetR w s'.heap s.heap.objs.size (fun j => decide (j ∈ ns)) c) → R (.ok (.ret .none)) s') →
      codeAny (model P w) A' (.builtin "set.update.loop" ⟨[.ref s.heap.objs.size, .ref (s.heap.objs.size + 1)], []⟩) R s1 := by
  intro A' R s1 hA e1 k
  have hsz : items.size = ns.length := by
    have q := PyProof.Rows.IntsAre.length hi
    rwa [Array.length_toList] at q
  have hlt : l < s.heap.objs.size := by
    obtain ⟨o, e, _⟩ := hl
    exact Heap.lt_size e
  have z1 : (s.heap.push (set0 w)).objs.size = s.heap.objs.size + 1 := Heap.size_push ..
  have g0 : s1.heap.get? s.heap.objs.size = some (set0 w) := by
    rw [e1]; exact Heap.get?_push_of_some _ (Heap.get?_push_size _ rfl)
  have gI : s1.heap.get? (s.heap.objs.size + 1) = some (lit0 l) := by
    have q := Heap.get?_push_size (o := lit0 l) (s.heap.push (set0 w)) rfl
    rw [z1] at q
    rw [e1]; exact q
  have gl : s1.heap.IsList l items := by rw [e1]; exact (hl.push _).push _
  have W := (Walks.list (prog := P) (w := w) (A := A'.in1) (by simp [hA, hh]) (s.heap.objs.size + 1) l (Nat.ne_of_lt (Nat.lt_succ_of_lt hlt)) items).toS
  refine set_update_ints W s.heap.objs.size ?_ ns hsz hb ?_ (items.size - 0) 0 s1 rfl (Nat.zero_le _) ⟨⟨_, gI, rfl, rfl⟩, gl⟩ ⟨0, Nat.le_refl 0, setR_new_at g0⟩ fun s' c hm hc hS => ?_
  · intro z
    rcases List.mem_cons.mp z with z | z
    · exact absurd z (Nat.ne_of_lt (Nat.lt_succ_self _))
    · exact absurd (List.mem_singleton.mp z) (Nat.ne_of_gt hlt)
  · intro i v hv
    have hin : i < ns.length := by rw [← hsz]; exact (Array.getElem?_eq_some_iff.mp hv).1
    obtain ⟨t, e⟩ := PyProof.Rows.IntsAre.int_at hi i v (by rw [Array.getElem?_toList]; exact hv)
    refine ⟨ns[i], t, List.getElem?_eq_getElem hin, ?_⟩
    rw [e, List.getD_eq_getElem?_getD, List.getElem?_eq_getElem hin]
    rfl
  · exact k s' hm ⟨c, by omega, hS⟩
end
/-- set(xs), a list of ints -/
def rSetI (K : PySem.W.Frag) (w : World) : List V → Hp → VK → Prop := fun xs H Q => ∃ (l : Addr) (ns : List Int), xs = [.ref l] ∧ SqL K H l (ns.map V.int) ∧ ns.length < 4000 ∧
  ∀ p c, H p = none → c ≤ ns.length → Q (.ref p) (upd H p (SetO w p (fun j => decide (j ∈ ns)) c))
section
variable {X : Cx}
theorem cr_setI (hc : X.calm = true) : CallR X (.type "set") (rSetI X.K X.w) := by
  intro pins s σ H xs us Q I r h
  obtain ⟨l, ns, rfl, hl, hn, q⟩ := h
  obtain ⟨u, rfl, ru⟩ := vals1 r
  cases (show u = Value.ref l from ru)
  obtain ⟨its, rv, pl, hz⟩ := I.list hl
  have hi : PyProof.Rows.IntsAre its.toArray.toList ns := by simpa using ints_of_vals rv
  have hd : X.A.handled = none := I.ok.hd hc
  refine set_of_list (P := X.prog) (w := X.w) (Fin := fun h => ∃ c, c ≤ ns.length ∧ SetR X.w h s.heap.objs.size (fun j => decide (j ∈ ns)) c) pl.isList (loop_ints hd pl.isList hi (by unfold scanBound; omega)) fun h' tk hF hk => ?_
  obtain ⟨c, hc', R⟩ := hF
  have fr := I.hok.fresh (Nat.le_refl s.heap.objs.size)
  exact ⟨.ref s.heap.objs.size, _, I.laid (t' := tk) hk (Nat.le_refl _) (setO_new R), rfl, q _ _ fr hc'⟩
end
/-- sorted(set(xs)), a list of less than 64 ints: from where set is called -/
theorem r_sortSetI {K : PySem.W.Frag} {w : World} {σ : St} {H : Hp} {Q : VK} {l : Addr} {ns : List Int} (hl : SqL K H l (ns.map V.int)) (hn : ns.length < 64)
    (k : ∀ (us : List Int) (p : Addr) (H' : Hp), us.Pairwise (· < ·) → (∀ k, k ∈ us ↔ k ∈ ns) → Same H H' → H p = none → H' p = some (.lst (us.map V.int)) → Q (.ref p) H') :
    rSetI K w [.ref l] H fun x H1 => tNil σ H1 fun xs H2 => rSortedSet w (x :: xs) H2 Q := by
  refine ⟨l, ns, rfl, hl, by omega, fun p c hp hc => ?_⟩
  refine r_nil ⟨p, _, c, rfl, upd_same, by omega, fun us p2 hu hk he h2 => ?_⟩
  have h3 : H p2 = none := by
    by_cases e : p2 = p
    · rw [e, upd_same] at h2; cases h2
    · rwa [upd_ne e] at h2
  exact k us p2 _ hu (fun z => by rw [hk]; simp) ((same_new hp).trans (same_new h2)) h3 upd_same
end CP

set_option Elab.async false
set_option linter.all false
set_option maxRecDepth 100000
set_option maxHeartbeats 4000000
set_option autoImplicit false
/-! sorted(d.items()), d a dict of ints by ints -/
namespace CP
open L2 PySem PyProof.Rows

/-- the pair of ints that a value is at a heap -/
def pairOf (h : Heap) (v : Value) : Int × Int := match v with
  | .ref a => match h.get? a with
    | some o => match o.data with
      | .seq xs _ => match xs.toList with
        | [.int x _, .int y _] => (x, y)
        | _ => (0, 0)
      | _ => (0, 0)
    | none => (0, 0)
  | _ => (0, 0)
theorem pairOf_is {h : Heap} {v : Value} {x y : Int} (p : Srt.IsPair h v x y) : pairOf h v = (x, y) := by
  obtain ⟨a, o, t, u, n, rfl, ho, hc, hd⟩ := p
  unfold pairOf
  simp only [ho, hd]
section
variable {P : Program} {w : World} {A : Around} {E : Value → Shared → Prop} {s : Shared}
theorem call_sortedItems {r d : Addr} {ep : Nat} {kvs : List (Key × Value)} {Q : Value → Shared → Prop} (hh : A.handled = none) (hv : s.heap.IsItemsView r d) (hm : s.heap.DictAt (mixKind P w) d kvs ep) (hn : kvs.length ≤ sizeLine) (hne : kvs ≠ [])
    (hi : ∀ p ∈ kvs, ∃ (i j : Int) (t : Tok), p = (Sum.inl i, Value.int j t))
    (h : ∀ (h' : Heap) (tk : Nat) (l : Addr) (as : List Addr) (out : List Value), (∀ b o, s.heap.get? b = some o → h'.get? b = some o) → s.heap.objs.size ≤ l → (∀ a ∈ as, s.heap.objs.size ≤ a ∧ a < l) → as.Nodup →
      as.length = kvs.length → (∀ (j : Nat) (a : Addr), as[j]? = some a → ∃ (x y : Int) (t : Tok), kvs[j]? = some (Sum.inl x, Value.int y t) ∧ Srt.IsPair h' (.ref a) x y) →
      out.Perm (as.map Value.ref) → out.Pairwise (fun u v => SrtO.lexB (pairOf h' v) (pairOf h' u) = false) → (∃ n, h'.get? l = some (seqObj "list" out.toArray n)) → Q (.ref l) { s with heap := h', toks := tk }) :
    wpAny (model P w) A (call (.builtin "sorted") [.ref r]) Q E s := by
  refine Calls.call_function_entry kind_sorted plain_sorted entry_sorted (args_sorted1 _) ?_
  unfold Builtin.«sorted»
  refine wpAny_bind (m := checkCount "sorted" 1 1 _) (wpAny_pure ?_)
  refine wpAny_bind (PySem.W.kdx_collect (knd := mixKind P w) (kvs := kvs) (ep := ep) (A := A.in1) hh hv hm hn fun h1 tk as k1 hl hG => ?_)
  have hlen : (as.map Value.ref).length ≤ sizeLine := by rw [List.length_map, hl]; exact hn
  refine wpAny_bind (wpAny_newList ?_ hlen)
  have pr : ∀ (j : Nat) (a : Addr), as[j]? = some a → ∃ (x y : Int) (t : Tok), kvs[j]? = some (Sum.inl x, Value.int y t) ∧ Srt.IsPair h1 (.ref a) x y := fun j a e => by
    obtain ⟨key, k, x, e1, e2, e3⟩ := hG.pairs j a e
    obtain ⟨i, y, t, ep⟩ := hi _ (List.mem_of_getElem? e1)
    cases ep
    obtain ⟨t2, rfl⟩ : ∃ t2, key = Value.int i t2 := Value.isInt_shape (show Value.isInt i key = true from e2)
    exact ⟨i, y, t, e1, a, _, t2, t, _, rfl, e3, rfl, rfl⟩
  have hp : ∀ v ∈ as.map Value.ref, Srt.IsPair h1 v (pairOf h1 v).1 (pairOf h1 v).2 := fun v hv => by
    obtain ⟨a, ha, rfl⟩ := List.mem_map.mp hv
    obtain ⟨j, hj⟩ := List.mem_iff_getElem?.mp ha
    obtain ⟨x, y, t, _, q⟩ := pr j a hj
    rw [pairOf_is q]
    exact q
  have hoL : (h1.push (seqObj "list" (as.map Value.ref).toArray 0)).get? h1.objs.size = some (seqObj "list" (as.map Value.ref).toArray 0) := Heap.get?_push_size _ rfl
  have sz : s.heap.objs.size ≤ h1.objs.size := by
    cases as with
    | nil => exact absurd (List.length_eq_zero_iff.mp hl.symm) hne
    | cons a l =>
      have q1 := hG.above a (List.mem_cons_self ..)
      have q2 := hG.there (List.mem_cons_self ..)
      exact Nat.le_of_lt (Nat.lt_trans q1 q2)
  refine wpAny_bind (wpAny_holding (wpAny_call_entry slot_list_sort ⟨_, hoL, rfl⟩ entry_list_sort (SrtO.list_sort_ord (SrtO.swo_lex (pairOf h1)) hoL hlen (fun h2 => SrtO.pairs_sortableO (by omega) (fun v hv => (hp v hv).keeps fun b o e _ => Heap.get?_push_of_some _ e) fun o e => ?_) fun out hs hb => ⟨_, rfl, ?_⟩) (args_list_sort _)))
  · have e' := e.symm.trans hoL
    cases e'
    intro c
    exact absurd (Value.type.inj c) (by decide)
  · refine wpAny_pure ⟨_, rfl, ?_⟩
    have old : ∀ b o, h1.get? b = some o → (sortedHeap (h1.push (seqObj "list" (as.map Value.ref).toArray 0)) h1.objs.size (as.map Value.ref) out.toArray).get? b = some o := fun b o e => by
      have lt := Heap.lt_size e
      rw [sortedHeap_old (Nat.ne_of_lt lt) (by rw [Heap.size_push]; exact Nat.lt_succ_of_lt lt)]
      exact Heap.get?_push_of_some _ e
    have pe : ∀ v, v ∈ as.map Value.ref → pairOf (sortedHeap (h1.push (seqObj "list" (as.map Value.ref).toArray 0)) h1.objs.size (as.map Value.ref) out.toArray) v = pairOf h1 v := fun v hv =>
      pairOf_is ((hp v hv).keeps fun b o e _ => old b o e)
    refine h _ tk h1.objs.size as out (fun b o e => old b o (k1 b o e)) sz (fun a ha => ⟨Nat.le_of_lt (hG.above a ha), hG.there ha⟩) (hG.rise.imp fun {a b} (z : a < b) => Nat.ne_of_lt z) hl (fun j a e => ?_) hb.perm ?_ ?_
    · obtain ⟨x, y, t, e1, q⟩ := pr j a e
      exact ⟨x, y, t, e1, q.keeps fun b o e _ => old b o e⟩
    · have hs' : out.Pairwise fun u v => SrtO.lexB (pairOf h1 v) (pairOf h1 u) = false := hs
      refine hs'.imp_of_mem fun {u v} hu hv z => ?_
      rw [pe u (hb.perm.mem_iff.mp hu), pe v (hb.perm.mem_iff.mp hv)]
      exact z
    · exact sortedHeap_at hoL
end
/-- a list of tuples of two ints -/
def PairsAt (H : Hp) (p : Addr) (qs : List (Int × Int)) : Prop := ∃ ts : List Addr, H p = some (.lst (ts.map V.ref)) ∧ Paired (fun (t : Addr) (q : Int × Int) => H t = some (.tup [.int q.1, .int q.2])) ts qs
/-- pairs in order: by the first, then the second -/
def PLe (p q : Int × Int) : Prop := p.1 < q.1 ∨ (p.1 = q.1 ∧ p.2 ≤ q.2)
def tSortedItems (te : TE) : TE := fun σ H Q => te σ H fun x H1 => ∃ (d : Addr) (ps : List (Int × Int)), x = .ref d ∧ H1 d = some (.dK (ps.map fun p => (Sum.inl p.1, V.int p.2))) ∧ ps ≠ [] ∧
  ∀ (qs : List (Int × Int)) (p : Addr) (H' : Hp), qs.Perm ps → qs.Pairwise PLe → Same H1 H' → H1 p = none → PairsAt H' p qs → Q (.ref p) H'
theorem kv_ints : ∀ {ps : List (Int × Int)} {vs : List (Key × Value)}, KV (ps.map fun p => ((Sum.inl p.1 : Key), V.int p.2)) vs → ∀ p ∈ vs, ∃ (i j : Int) (t : Tok), p = (Sum.inl i, Value.int j t)
  | [], _, .nil, p, h => by cases h
  | a :: ps, _, .cons r t, p, h => by
    rcases List.mem_cons.mp h with e | h
    · subst e
      obtain ⟨e1, tk, e2⟩ := r
      exact ⟨a.1, a.2, tk, Prod.ext e1.symm e2⟩
    · exact kv_ints t p h
theorem kv_at : ∀ {ps : List (Int × Int)} {vs : List (Key × Value)}, KV (ps.map fun p => ((Sum.inl p.1 : Key), V.int p.2)) vs → ∀ (j : Nat) (x y : Int) (t : Tok), vs[j]? = some (Sum.inl x, Value.int y t) → ps[j]? = some (x, y)
  | [], _, .nil, j, x, y, t, h => by cases h
  | a :: ps, _, .cons r tl, 0, x, y, t, h => by
    obtain ⟨e1, tk, e2⟩ := r
    cases h
    have e3 := Sum.inl.inj e1
    cases e2
    exact congrArg some (Prod.ext e3 rfl)
  | a :: ps, _, .cons r tl, j + 1, x, y, t, h => kv_at tl j x y t h
/-- the addresses of a list of references -/
def adr (v : Value) : Addr := match v with
  | .ref a => a
  | _ => 0
section
variable {X : Cx} {e : Expr} {te : TE} {p apos cpos pos : Pos}
theorem pe_sortedItems (hc : X.calm = true) (he : PE X e te) (hg : Gl X "sorted") (hm : X.mg "sorted" = none) (hbase : attributeBase e "items" X.env (eval e X.env) = eval e X.env := by rfl) (hline : (apos.endLine == cpos.line) = true := by rfl)
    (hs : starEach [.Call (.Attribute e "items" apos) [] [] cpos] X.env = (false, eval (.Call (.Attribute e "items" apos) [] [] cpos) X.env) :: starEach [] X.env := by rfl) :
    PE X (.Call (.Name "sorted" p) [.Call (.Attribute e "items" apos) [] [] cpos] [] pos) (tSortedItems te) := by
  refine ⟨fun pins s σ H Q I hq => ?_⟩
  have hb : bootBuiltins "sorted" = some (.builtin "sorted") := by decide +kernel
  refine wpAny_Call_Name_kw (ld_blt I hg hm hb ?_)
  refine PyProof.Rows.callWith_builtin1 ?_ hs rfl
  rw [hs]
  show wpAny _ _ (spliced ((false, eval (.Call (.Attribute e "items" apos) [] [] cpos) X.env) :: backTo pos (starEach [] X.env))) _ _ s
  refine Calls.spliced_cons ?_
  refine wpAny_Call_method (T := "dict") (id := "dict.items") hbase rfl hline F.plainAttrs_dict F.slot_dict_items F.type_dict_items
    (thn (he.run pins s σ H _ I hq) fun u s1 ⟨x, H1, I1, rx, d, ps, ex, hd, hne, q⟩ => ?_)
  subst ex
  cases (show u = Value.ref d from rx)
  obtain ⟨hz, hs0, vs, kv, hdo⟩ := I1.hok d _ hd
  obtain ⟨ep, hat⟩ := hdo.dictAt
  have lk := Paired.length kv
  rw [List.length_map] at lk hz
  have I2 : Inv X pins σ H1 { s1 with heap := s1.heap.push { cls := .type "dict_items", data := .fields #[.ref d] } } := I1.kept (t' := s1.toks) fun b ob q => Heap.get?_push_of_some _ q
  refine ⟨hdo.typeIs, hdo.mapOf.noDict, ?_⟩
  show wpAny _ _ (callWith cpos (.builtin "dict.items") [.ref d] [] []) _ X.xe s1
  refine method_meetsIn F.slot_dict_items F.entry_dict_items rfl (PySem.evalArgs_none ⟨rfl, hdo.typeIs, F.args_dict_items_1 _, _, meets_dict_items (mixKind X.prog X.w) d hs0, ⟨vs, hdo⟩, ?_⟩)
  refine Calls.spliced_nil ?_
  have hps : 0 < ps.length := List.length_pos_iff.mpr hne
  refine call_sortedItems (kvs := vs) (ep := ep) (I1.ok.hd hc) ⟨_, Heap.get?_push_size _ rfl, rfl, rfl⟩ (hat.push _) (by omega) (fun z => by rw [z, List.length_nil] at lk; omega) (kv_ints kv) fun h' tk l as out k1 k2 k3 k4 k5 k6 k7 k8 k9 => ?_
  -- where each tuple stands
  have pt : ∀ (j : Nat) (a : Addr), as[j]? = some a → ∃ x y, ps[j]? = some (x, y) ∧ Srt.IsPair h' (.ref a) x y := fun j a ej => by
    obtain ⟨x, y, t, e1, e2⟩ := k6 j a ej
    exact ⟨x, y, kv_at kv j x y t e1, e2⟩
  have fr : ∀ b, s1.heap.objs.size + 1 ≤ b → H1 b = none := fun b hb => I2.hok.fresh (by rw [Heap.size_push]; exact hb)
  rw [Heap.size_push] at k2 k3
  have nl : l ∉ as := fun z => Nat.lt_irrefl _ (k3 l z).2
  let H' : Hp := fun b => if b = l then some (.lst ((out.map adr).map V.ref)) else if b ∈ as then some (.tup [.int (pairOf h' (.ref b)).1, .int (pairOf h' (.ref b)).2]) else H1 b
  have hl' : H' l = some (.lst ((out.map adr).map V.ref)) := if_pos rfl
  have ha' : ∀ a ∈ as, H' a = some (.tup [.int (pairOf h' (.ref a)).1, .int (pairOf h' (.ref a)).2]) := fun a ha => by
    show (if a = l then _ else _) = _
    rw [if_neg (fun z : a = l => nl (by rw [← z]; exact ha)), if_pos ha]
  have ext : Same H1 H' := fun b o eb => by
    show (if b = l then _ else _) = _
    rw [if_neg (fun z => by rw [z, fr l k2] at eb; cases eb), if_neg (fun z => by rw [fr b (k3 b z).1] at eb; cases eb)]
    exact eb
  have outr : ∀ v ∈ out, ∃ a, a ∈ as ∧ v = Value.ref a := fun v hv => by
    obtain ⟨a, ha, rfl⟩ := List.mem_map.mp (k7.mem_iff.mp hv)
    exact ⟨a, ha, rfl⟩
  have vr : ∀ l : List Value, (∀ v ∈ l, ∃ a, a ∈ as ∧ v = Value.ref a) → Vals ((l.map adr).map V.ref) l := by
    intro l
    induction l with
    | nil => intro _; exact .nil
    | cons v l ih =>
      intro hl
      obtain ⟨a, _, rfl⟩ := hl v (List.mem_cons_self ..)
      exact .cons rfl (ih fun u hu => hl u (List.mem_cons_of_mem _ hu))
  have len : out.length = ps.length := by rw [k7.length_eq, List.length_map, k5, ← lk]
  have J : Inv X pins σ H' { s1 with heap := h', toks := tk } := inv_grow (s := s1) (tk := tk) I1 (fun b o e => k1 b o (Heap.get?_push_of_some _ e)) ext fun b o eb => by
    by_cases h1 : b = l
    · subst h1
      rw [hl'] at eb
      cases eb
      obtain ⟨n, hn⟩ := k9
      refine .inr ⟨Nat.le_of_succ_le k2, by rw [List.length_map, List.length_map]; omega, out, n, vr out outr, hn⟩
    · by_cases h2 : b ∈ as
      · rw [ha' b h2] at eb
        cases eb
        obtain ⟨j, hj⟩ := List.mem_iff_getElem?.mp h2
        obtain ⟨x, y, _, ip⟩ := pt j b hj
        rw [pairOf_is ip]
        obtain ⟨a, ob, t, u, n, ea, g1, g2, g3⟩ := ip
        cases ea
        refine .inr ⟨Nat.le_of_succ_le (k3 b h2).1, by show 2 ≤ sizeLine; decide, [.int x t, .int y u], .cons ⟨t, rfl⟩ (.cons ⟨u, rfl⟩ .nil), ob, g1, g2, n, g3⟩
      · have e3 : H' b = H1 b := by
          show (if b = l then _ else _) = _
          rw [if_neg h1, if_neg h2]
        rw [e3] at eb
        exact .inl eb
  refine ⟨.ref l, H', J, rfl, q (out.map (pairOf h')) l H' ?_ ?_ ext (fr l k2) ⟨out.map adr, hl', ?_⟩⟩
  · refine (k7.map (pairOf h')).trans ?_
    rw [List.map_map]
    refine List.Perm.of_eq ?_
    apply List.ext_getElem?
    intro j
    rw [List.getElem?_map]
    cases ej : as[j]? with
    | none =>
      have : as.length ≤ j := List.getElem?_eq_none_iff.mp ej
      rw [List.getElem?_eq_none (by omega)]
      rfl
    | some a =>
      obtain ⟨x, y, e1, ip⟩ := pt j a ej
      rw [e1]
      show some (pairOf h' (.ref a)) = _
      rw [pairOf_is ip]
  · rw [List.pairwise_map]
    refine k8.imp fun {u v} z => ?_
    have z := SrtO.lexB_no.mp z
    show _ ∨ _
    omega
  · have pr : ∀ l : List Value, (∀ v ∈ l, ∃ a, a ∈ as ∧ v = Value.ref a) → Paired (fun (t : Addr) (q : Int × Int) => H' t = some (.tup [.int q.1, .int q.2])) (l.map adr) (l.map (pairOf h')) := by
      intro l
      induction l with
      | nil => intro _; exact .nil
      | cons v l ih =>
        intro hl
        obtain ⟨a, ha, rfl⟩ := hl v (List.mem_cons_self ..)
        exact .cons (ha' a ha) (ih fun u hu => hl u (List.mem_cons_of_mem _ hu))
    exact pr out outr
end
end CP

set_option Elab.async false
set_option linter.all false
set_option maxRecDepth 100000
set_option maxHeartbeats 4000000
set_option autoImplicit false
/-! calls with keywords alone; what a call with keywords binds -/
namespace CP
open L2 PySem PyProof.Rows

def tCallW (m : Nat) (sp : Sp) (gV : List V → List V) (E : XK) (tk : TA) : TE := fun σ H Q => tk σ H fun zs H2 => zs.length = m ∧ sp (gV zs) H2 Q E
/-- the keywords' values in the parameters' order -/
structure KB0 (K : PySem.W.Frag) (fd : FuncData) (ps ks : List Str) (g : List Value → List Value) (gV : List V → List V) : Prop where
  to : ∀ (s : Shared) (ws : List Value), K.In s.heap → ws.length = ks.length → BindsTo s fd ⟨[], ks.zip ws⟩ (ps.zip (g ws))
  rel : ∀ {zs : List V} {ws : List Value}, Vals zs ws → zs.length = ks.length → Vals (gV zs) (g ws)
section
variable {X : Cx} {CX : CXT} {k m : Nat} {f : Addr} {fd : FuncData} {ps ks : List Str} {sp : Sp} {E : XK} {x : Str} {p pos : Pos} {kws : List Keyword} {tk : TA} {g : List Value → List Value} {gV : List V → List V}
theorem pe_callW (F : FnOk X.prog X.w X.K X.mg X.base CX k f fd ps sp) (hr : Room k X.A) (hg : Gl X x) (hm : X.mg x = some (.ref f)) (hk : PySem.W.keepIn X.K (.ref f) = true) (hb : KB0 X.K fd ps ks g gV) (hx : Passes CX X E) (hkw : PK X kws tk)
    (hall : (backToKw pos (keywordEach kws X.env)).all (·.1.isSome) = true := by rfl) (hks : (backToKw pos (keywordEach kws X.env)).filterMap (·.1) = ks := by rfl) (hlen : ks.length = m := by rfl) (hdb : (x == ("__debug__" : Str)) = false := by decide)
    (hpl : ((backTo pos (starEach [] X.env)).any (·.1) || (backToKw pos (keywordEach kws X.env)).any (·.1.isNone)) = false := by rfl) :
    PE X (.Call (.Name x p) [] kws pos) (tCallW m sp gV E tk) := by
  subst hlen
  refine ⟨fun pins s σ H Q I h => ?_⟩
  refine wpAny_Call_Name_kw (ld_glob I hg hm ?_ hdb)
  refine PySem.W.callWith_KW0 (h₀ := X.base) I.ok.mod.kin hk hall (thn (hkw.run pos pins s σ H _ I h) fun ws s1 ⟨zs, H1, I1, r, l, q⟩ => ⟨I1.kIn, ?_⟩) hpl
  rw [hks]
  have lw : ws.length = ks.length := r.length.symm.trans l
  refine wpAny_call (codeAny_mono (F.run X.A X.stack s1 H1 ⟨[], ks.zip ws⟩ (g ws) (gV zs) Q E hr I1.env0 (hb.to s1 ws I1.kIn lw) (hb.rel r l) q) fun r s' hq => ?_)
  cases r with
  | error e => exact hx pins σ H1 s1 e s' I1 hq
  | ok fl =>
    cases fl with
    | ret u => exact I1.after hq
    | next => exact False.elim hq
    | brk => exact False.elim hq
    | cont => exact False.elim hq
end
/-- a def without defaults -/
theorem Fun.kb {K : PySem.W.Frag} {x qual : Str} {st : Stmt} {f : Addr} {fd : FuncData} {ps ks : List Str} {g : List Value → List Value} {gV : List V → List V} (F : Fun K x qual st f fd)
    (h : ∀ (kV doc pm : Value) (an : Option Addr) (cdv ct : Value) (ws : List Value), ws.length = ks.length → bindArgs (PySem.W.fnOf x qual (defArgs st) (defBody st) (defScope st) .none kV doc pm an cdv ct) ⟨[], ks.zip ws⟩ = pure (ps.zip (g ws)))
    (hr : ∀ {zs : List V} {ws : List Value}, Vals zs ws → zs.length = ks.length → Vals (gV zs) (g ws)) : KB0 K fd ps ks g gV := by
  obtain ⟨oc, od, kV, doc, pm, an, cdv, ct, osl, rfl, lk, hcd⟩ := F.ex
  exact ⟨fun s ws _ hl => .of_eq (h kV doc pm an cdv ct ws hl), hr⟩
/-- a def with defaults -/
theorem FunD.kb {K : PySem.W.Frag} {x qual : Str} {params : Arguments} {body : List Stmt} {scope : Scope} {dvs : List V} {f : Addr} {fd : FuncData} {ps ks : List Str} {g : List Value → List Value → List Value} {gV : List V → List V} (F : FunD K x qual params body scope dvs [] f fd) (hd : dvs ≠ [])
    (h : ∀ (T : Addr) (kV doc pm : Value) (an : Option Addr) (cdv ct : Value) (its ws : List Value), its.length = dvs.length → ws.length = ks.length →
      ∃ k, bindArgs (PySem.W.fnOf x qual params body scope (.ref T) kV doc pm an cdv ct) ⟨[], ks.zip ws⟩ = seqItems? (.ref T) >>= k ∧ k (some its.toArray) = pure (ps.zip (g its ws)))
    (hr : ∀ {its : List Value} {zs : List V} {ws : List Value}, Vals dvs its → Vals zs ws → zs.length = ks.length → Vals (gV zs) (g its ws)) : ∃ its, KB0 K fd ps ks (g its) gV := by
  obtain ⟨oc, od, dV, kV, doc, pm, an, cdv, ct, osl, rfl, lk, hcd, hD, hK⟩ := F.ex
  rcases hD with ⟨e, _⟩ | ⟨_, T, o, its, m, rfl, lT, oT, rT⟩
  · exact absurd e hd
  · refine ⟨its, fun s ws X hl => ?_, fun r l => hr rT r l⟩
    obtain ⟨k, e1, e2⟩ := h T kV doc pm an cdv ct its ws rT.length.symm hl
    refine BindsTo.of_looks fun M => ?_
    rw [e1]
    exact looks_items X lT oT (.of_pure e2)
section
variable {σ : L2.St} {H : Hp} {Q : VK} {m : Nat} {sp : Sp} {gV : List V → List V} {E : XK} {tk : TA}
theorem r_callW (q : tk σ H fun zs H2 => zs.length = m ∧ sp (gV zs) H2 Q E) : tCallW m sp gV E tk σ H Q := q
end
/-- positional values first, then keywords; no defaults -/
theorem Fun.kbn {K : PySem.W.Frag} {x qual : Str} {st : Stmt} {f : Addr} {fd : FuncData} {ps ks : List Str} {n : Nat} {g : List Value → List Value → List Value} {gV : List V → List V → List V} (F : Fun K x qual st f fd)
    (h : ∀ (kV doc pm : Value) (an : Option Addr) (cdv ct : Value) (us ws : List Value), us.length = n → ws.length = ks.length → bindArgs (PySem.W.fnOf x qual (defArgs st) (defBody st) (defScope st) .none kV doc pm an cdv ct) ⟨us, ks.zip ws⟩ = pure (ps.zip (g us ws)))
    (hr : ∀ {vs : List V} {us : List Value} {zs : List V} {ws : List Value}, Vals vs us → Vals zs ws → Vals (gV vs zs) (g us ws)) : KBn K fd ps n ks g gV := by
  obtain ⟨oc, od, kV, doc, pm, an, cdv, ct, osl, rfl, lk, hcd⟩ := F.ex
  exact ⟨fun s us ws _ l1 l2 => .of_eq (h kV doc pm an cdv ct us ws l1 l2), hr⟩
end CP

namespace CP
open PySem L2
def top (i : Nat) : Stmt := PySem.Challenge.pw_cellplaces_k71_whole_turns.main.body.getD i (.Pass ⟨0, 0, 0, 0⟩)
abbrev s_is_whole : Stmt := top 4
abbrev s_is_count : Stmt := top 5
abbrev s_check_rows : Stmt := top 7
abbrev s_check_place : Stmt := top 8
abbrev s_turned : Stmt := top 9
abbrev s_power : Stmt := top 10
abbrev s_divisor : Stmt := top 11
abbrev s_primes : Stmt := top 12
abbrev s_units : Stmt := top 13
abbrev s_parts_of : Stmt := top 14
abbrev s_order : Stmt := top 15
abbrev s_ring_length : Stmt := top 16
abbrev s_law_purse : Stmt := top 18
abbrev s_law_mixed : Stmt := top 19
abbrev s_law_draw : Stmt := top 20
abbrev s_law_next : Stmt := top 21
abbrev s_law_spot_right : Stmt := top 22
abbrev s_law_primes : Stmt := top 23
abbrev s_law_ring_right : Stmt := top 24
abbrev s_law : Stmt := top 25
theorem sc_is_whole : FnScope ["value"] ["value"] (defScope s_is_whole) := ⟨rfl, rfl, rfl, by decide +kernel, rfl, by decide +kernel, by decide +kernel⟩
theorem sc_is_count : FnScope ["value"] ["value"] (defScope s_is_count) := ⟨rfl, rfl, rfl, by decide +kernel, rfl, by decide +kernel, by decide +kernel⟩
theorem sc_check_rows : FnScope ["rows", "columns", "value"] ["rows", "columns"] (defScope s_check_rows) := ⟨rfl, rfl, rfl, by decide +kernel, rfl, by decide +kernel, by decide +kernel⟩
theorem sc_check_place : FnScope ["rows", "columns", "place"] ["rows", "columns", "place"] (defScope s_check_place) := ⟨rfl, rfl, rfl, by decide +kernel, rfl, by decide +kernel, by decide +kernel⟩
theorem sc_turned : FnScope ["rows", "columns", "place", "times", "last"] ["rows", "columns", "place", "times"] (defScope s_turned) := ⟨rfl, rfl, rfl, by decide +kernel, rfl, by decide +kernel, by decide +kernel⟩
theorem sc_power : FnScope ["base", "many", "value", "found", "square"] ["base", "many", "value"] (defScope s_power) := ⟨rfl, rfl, rfl, by decide +kernel, rfl, by decide +kernel, by decide +kernel⟩
theorem sc_divisor : FnScope ["one", "other"] ["one", "other"] (defScope s_divisor) := ⟨rfl, rfl, rfl, by decide +kernel, rfl, by decide +kernel, by decide +kernel⟩
theorem sc_primes : FnScope ["value", "found", "prime"] ["value"] (defScope s_primes) := ⟨rfl, rfl, rfl, by decide +kernel, rfl, by decide +kernel, by decide +kernel⟩
theorem sc_units : FnScope ["value", "factors", "found", "prime"] ["value", "factors"] (defScope s_units) := ⟨rfl, rfl, rfl, by decide +kernel, rfl, by decide +kernel, by decide +kernel⟩
theorem sc_parts_of : FnScope ["factors", "found", "prime", "one"] ["factors"] (defScope s_parts_of) := ⟨rfl, rfl, rfl, by decide +kernel, rfl, by decide +kernel, by decide +kernel⟩
theorem sc_order : FnScope ["base", "value", "factors", "parts", "found", "prime"] ["base", "value", "factors", "parts"] (defScope s_order) := ⟨rfl, rfl, rfl, by decide +kernel, rfl, by decide +kernel, by decide +kernel⟩
theorem sc_ring_length : FnScope ["rows", "columns", "place", "last", "factors"] ["rows", "columns", "place"] (defScope s_ring_length) := ⟨rfl, rfl, rfl, by decide +kernel, rfl, by decide +kernel, by decide +kernel⟩
theorem sc_law_purse : FnScope ["_law_script", "_law_at", "_law_cell"] ["_law_script", "_law_at"] (defScope s_law_purse) := ⟨rfl, rfl, rfl, by decide +kernel, rfl, by decide +kernel, by decide +kernel⟩
theorem sc_law_mixed : FnScope ["_law_seed", "_law_step", "_law_found"] ["_law_seed", "_law_step"] (defScope s_law_mixed) := ⟨rfl, rfl, rfl, by decide +kernel, rfl, by decide +kernel, by decide +kernel⟩
theorem sc_law_draw : FnScope ["_law_purse_here", "_law_many", "_law_drawn", "_law_found", "_law_piece"] ["_law_purse_here", "_law_many"] (defScope s_law_draw) := ⟨rfl, rfl, rfl, by decide +kernel, rfl, by decide +kernel, by decide +kernel⟩
theorem sc_law_next : FnScope ["_law_high", "_law_wide", "_law_spot"] ["_law_high", "_law_wide", "_law_spot"] (defScope s_law_next) := ⟨rfl, rfl, rfl, by decide +kernel, rfl, by decide +kernel, by decide +kernel⟩
theorem sc_law_spot_right : FnScope ["_law_high", "_law_wide", "_law_spot", "_law_here", "_law_times"] ["_law_high", "_law_wide", "_law_spot"] (defScope s_law_spot_right) := ⟨rfl, rfl, rfl, by decide +kernel, rfl, by decide +kernel, by decide +kernel⟩
theorem sc_law_primes : FnScope ["_law_many", "_law_found", "_law_prime", "_law_turn"] ["_law_many"] (defScope s_law_primes) := ⟨rfl, rfl, rfl, by decide +kernel, rfl, by decide +kernel, by decide +kernel⟩
theorem sc_law_ring_right : FnScope ["_law_high", "_law_wide", "_law_spot", "_law_length", "_law_here", "_law_times", "_law_prime"] ["_law_high", "_law_wide", "_law_spot"] (defScope s_law_ring_right) := ⟨rfl, rfl, rfl, by decide +kernel, rfl, by decide +kernel, by decide +kernel⟩
theorem sc_law : FnScope ["_law_script", "_law_cell", "_law_purse_here", "_law_high", "_law_wide", "_law_spot", "_law_one", "_law_other"] ["_law_script"] (defScope s_law) := ⟨rfl, rfl, rfl, by decide +kernel, rfl, by decide +kernel, by decide +kernel⟩
structure Txt (K : PySem.W.Frag) (mg : Str → Option Value) where
  a_is_whole : Addr
  fd_is_whole : FuncData
  F_is_whole : Fun K "is_whole" "is_whole" s_is_whole a_is_whole fd_is_whole
  m_is_whole : mg "is_whole" = some (.ref a_is_whole)
  a_is_count : Addr
  fd_is_count : FuncData
  F_is_count : Fun K "is_count" "is_count" s_is_count a_is_count fd_is_count
  m_is_count : mg "is_count" = some (.ref a_is_count)
  a_check_rows : Addr
  fd_check_rows : FuncData
  F_check_rows : Fun K "check_rows" "check_rows" s_check_rows a_check_rows fd_check_rows
  m_check_rows : mg "check_rows" = some (.ref a_check_rows)
  a_check_place : Addr
  fd_check_place : FuncData
  F_check_place : Fun K "check_place" "check_place" s_check_place a_check_place fd_check_place
  m_check_place : mg "check_place" = some (.ref a_check_place)
  a_turned : Addr
  fd_turned : FuncData
  F_turned : FunD K "turned" "turned" (defArgs s_turned) (defBody s_turned) (defScope s_turned) [.int 1] [] a_turned fd_turned
  m_turned : mg "turned" = some (.ref a_turned)
  a_power : Addr
  fd_power : FuncData
  F_power : Fun K "power" "power" s_power a_power fd_power
  m_power : mg "power" = some (.ref a_power)
  a_divisor : Addr
  fd_divisor : FuncData
  F_divisor : Fun K "divisor" "divisor" s_divisor a_divisor fd_divisor
  m_divisor : mg "divisor" = some (.ref a_divisor)
  a_primes : Addr
  fd_primes : FuncData
  F_primes : Fun K "primes" "primes" s_primes a_primes fd_primes
  m_primes : mg "primes" = some (.ref a_primes)
  a_units : Addr
  fd_units : FuncData
  F_units : Fun K "units" "units" s_units a_units fd_units
  m_units : mg "units" = some (.ref a_units)
  a_parts_of : Addr
  fd_parts_of : FuncData
  F_parts_of : Fun K "parts_of" "parts_of" s_parts_of a_parts_of fd_parts_of
  m_parts_of : mg "parts_of" = some (.ref a_parts_of)
  a_order : Addr
  fd_order : FuncData
  F_order : Fun K "order" "order" s_order a_order fd_order
  m_order : mg "order" = some (.ref a_order)
  a_ring_length : Addr
  fd_ring_length : FuncData
  F_ring_length : Fun K "ring_length" "ring_length" s_ring_length a_ring_length fd_ring_length
  m_ring_length : mg "ring_length" = some (.ref a_ring_length)
  a_law_purse : Addr
  fd_law_purse : FuncData
  F_law_purse : Fun K "_law_purse" "_law_purse" s_law_purse a_law_purse fd_law_purse
  m__law_purse : mg "_law_purse" = some (.ref a_law_purse)
  a_law_mixed : Addr
  fd_law_mixed : FuncData
  F_law_mixed : Fun K "_law_mixed" "_law_mixed" s_law_mixed a_law_mixed fd_law_mixed
  m__law_mixed : mg "_law_mixed" = some (.ref a_law_mixed)
  a_law_draw : Addr
  fd_law_draw : FuncData
  F_law_draw : Fun K "_law_draw" "_law_draw" s_law_draw a_law_draw fd_law_draw
  m__law_draw : mg "_law_draw" = some (.ref a_law_draw)
  a_law_next : Addr
  fd_law_next : FuncData
  F_law_next : Fun K "_law_next" "_law_next" s_law_next a_law_next fd_law_next
  m__law_next : mg "_law_next" = some (.ref a_law_next)
  a_law_spot_right : Addr
  fd_law_spot_right : FuncData
  F_law_spot_right : Fun K "_law_spot_right" "_law_spot_right" s_law_spot_right a_law_spot_right fd_law_spot_right
  m__law_spot_right : mg "_law_spot_right" = some (.ref a_law_spot_right)
  a_law_primes : Addr
  fd_law_primes : FuncData
  F_law_primes : Fun K "_law_primes" "_law_primes" s_law_primes a_law_primes fd_law_primes
  m__law_primes : mg "_law_primes" = some (.ref a_law_primes)
  a_law_ring_right : Addr
  fd_law_ring_right : FuncData
  F_law_ring_right : Fun K "_law_ring_right" "_law_ring_right" s_law_ring_right a_law_ring_right fd_law_ring_right
  m__law_ring_right : mg "_law_ring_right" = some (.ref a_law_ring_right)
  a_law : Addr
  fd_law : FuncData
  F_law : Fun K "law" "law" s_law a_law fd_law
  m_law : mg "law" = some (.ref a_law)
  n_bool : mg "bool" = none
  n_int : mg "int" = none
  n_isinstance : mg "isinstance" = none
  n_len : mg "len" = none
  n_list : mg "list" = none
  n_max : mg "max" = none
  n_min : mg "min" = none
  n_range : mg "range" = none
  n_set : mg "set" = none
  n_sorted : mg "sorted" = none
  n_sum : mg "sum" = none
variable {P : Program} {w : World} {K : PySem.W.Frag} {mg : Str → Option Value} {base : Heap}
theorem b_is_whole (T : Txt K mg) : Binds K T.fd_is_whole ["value"] [] := T.F_is_whole.binds (ps := ["value"]) fun _ _ _ _ _ _ us hl => match us, hl with | [_], _ => rfl
theorem b_is_count (T : Txt K mg) : Binds K T.fd_is_count ["value"] [] := T.F_is_count.binds (ps := ["value"]) fun _ _ _ _ _ _ us hl => match us, hl with | [_], _ => rfl
theorem b_check_rows (T : Txt K mg) : Binds K T.fd_check_rows ["rows", "columns"] [] := T.F_check_rows.binds (ps := ["rows", "columns"]) fun _ _ _ _ _ _ us hl => match us, hl with | [_, _], _ => rfl
theorem b_check_place (T : Txt K mg) : Binds K T.fd_check_place ["rows", "columns", "place"] [] := T.F_check_place.binds (ps := ["rows", "columns", "place"]) fun _ _ _ _ _ _ us hl => match us, hl with | [_, _, _], _ => rfl
theorem b_power (T : Txt K mg) : Binds K T.fd_power ["base", "many", "value"] [] := T.F_power.binds (ps := ["base", "many", "value"]) fun _ _ _ _ _ _ us hl => match us, hl with | [_, _, _], _ => rfl
theorem b_divisor (T : Txt K mg) : Binds K T.fd_divisor ["one", "other"] [] := T.F_divisor.binds (ps := ["one", "other"]) fun _ _ _ _ _ _ us hl => match us, hl with | [_, _], _ => rfl
theorem b_primes (T : Txt K mg) : Binds K T.fd_primes ["value"] [] := T.F_primes.binds (ps := ["value"]) fun _ _ _ _ _ _ us hl => match us, hl with | [_], _ => rfl
theorem b_units (T : Txt K mg) : Binds K T.fd_units ["value", "factors"] [] := T.F_units.binds (ps := ["value", "factors"]) fun _ _ _ _ _ _ us hl => match us, hl with | [_, _], _ => rfl
theorem b_parts_of (T : Txt K mg) : Binds K T.fd_parts_of ["factors"] [] := T.F_parts_of.binds (ps := ["factors"]) fun _ _ _ _ _ _ us hl => match us, hl with | [_], _ => rfl
theorem b_order (T : Txt K mg) : Binds K T.fd_order ["base", "value", "factors", "parts"] [] := T.F_order.binds (ps := ["base", "value", "factors", "parts"]) fun _ _ _ _ _ _ us hl => match us, hl with | [_, _, _, _], _ => rfl
theorem b_ring_length (T : Txt K mg) : Binds K T.fd_ring_length ["rows", "columns", "place"] [] := T.F_ring_length.binds (ps := ["rows", "columns", "place"]) fun _ _ _ _ _ _ us hl => match us, hl with | [_, _, _], _ => rfl
theorem b_law_purse (T : Txt K mg) : Binds K T.fd_law_purse ["_law_script", "_law_at"] [] := T.F_law_purse.binds (ps := ["_law_script", "_law_at"]) fun _ _ _ _ _ _ us hl => match us, hl with | [_, _], _ => rfl
theorem b_law_mixed (T : Txt K mg) : Binds K T.fd_law_mixed ["_law_seed", "_law_step"] [] := T.F_law_mixed.binds (ps := ["_law_seed", "_law_step"]) fun _ _ _ _ _ _ us hl => match us, hl with | [_, _], _ => rfl
theorem b_law_draw (T : Txt K mg) : Binds K T.fd_law_draw ["_law_purse_here", "_law_many"] [] := T.F_law_draw.binds (ps := ["_law_purse_here", "_law_many"]) fun _ _ _ _ _ _ us hl => match us, hl with | [_, _], _ => rfl
theorem b_law_next (T : Txt K mg) : Binds K T.fd_law_next ["_law_high", "_law_wide", "_law_spot"] [] := T.F_law_next.binds (ps := ["_law_high", "_law_wide", "_law_spot"]) fun _ _ _ _ _ _ us hl => match us, hl with | [_, _, _], _ => rfl
theorem b_law_spot_right (T : Txt K mg) : Binds K T.fd_law_spot_right ["_law_high", "_law_wide", "_law_spot"] [] := T.F_law_spot_right.binds (ps := ["_law_high", "_law_wide", "_law_spot"]) fun _ _ _ _ _ _ us hl => match us, hl with | [_, _, _], _ => rfl
theorem b_law_primes (T : Txt K mg) : Binds K T.fd_law_primes ["_law_many"] [] := T.F_law_primes.binds (ps := ["_law_many"]) fun _ _ _ _ _ _ us hl => match us, hl with | [_], _ => rfl
theorem b_law_ring_right (T : Txt K mg) : Binds K T.fd_law_ring_right ["_law_high", "_law_wide", "_law_spot"] [] := T.F_law_ring_right.binds (ps := ["_law_high", "_law_wide", "_law_spot"]) fun _ _ _ _ _ _ us hl => match us, hl with | [_, _, _], _ => rfl
theorem b_law (T : Txt K mg) : Binds K T.fd_law ["_law_script"] [] := T.F_law.binds (ps := ["_law_script"]) fun _ _ _ _ _ _ us hl => match us, hl with | [_], _ => rfl
theorem bd_turned_3 (T : Txt K mg) : ∃ ds, Vals ([.int 1] : List V) ds ∧ Binds K T.fd_turned ["rows", "columns", "place", "times"] ds :=
  T.F_turned.binds1 3 0 (by simp) (by decide) fun _ _ _ _ _ _ _ us its h1 h2 => match us, its, h1, h2 with | [_, _, _], [_], _, _ => ⟨_, by rfl, rfl⟩
theorem bd_turned_4 (T : Txt K mg) : ∃ ds, Vals ([] : List V) ds ∧ Binds K T.fd_turned ["rows", "columns", "place", "times"] ds :=
  T.F_turned.binds1 4 1 (by simp) (by decide) fun _ _ _ _ _ _ _ us its h1 h2 => match us, its, h1, h2 with | [_, _, _, _], [_], _, _ => ⟨_, by rfl, rfl⟩
end CP
open CP L2 in
local macro_rules | `(tactic| walk_at "at") => `(tactic| first
  | assumption
  | (refine CP.Same.to (by assumption) ?_; walk_at "at")
  | (refine CP.SB.to (by assumption) ?ne ?_; (case ne => walk_at "ne"); walk_at "at"))
open CP L2 in
local macro_rules | `(tactic| walk_at "ne") => `(tactic| first
  | assumption
  | (refine Ne.symm ?_; assumption)
  | (refine L2.ne_of_none (o := ?o) ?h1 (by assumption); (case h1 => walk_at "at"))
  | (refine Ne.symm (L2.ne_of_none (o := ?o) ?h1 (by assumption)); (case h1 => walk_at "at")))
open CP L2 in
local macro_rules | `(tactic| walk_at "sm") => `(tactic| first
  | assumption
  | exact L2.Same.refl _
  | (refine L2.Same.trans ?_ (by assumption); walk_at "sm")
  | (refine CP.Same.sb ?s ?n (by assumption); (case s => walk_at "sm"); (case n => walk_at "nn")))
open CP L2 in
local macro_rules | `(tactic| walk_at "nn") => `(tactic| first
  | assumption
  | (refine L2.Same.free ?s (by assumption); (case s => walk_at "sm"))
  | (refine CP.SB.free (by assumption) ?h ?n; (case h => walk_at "nn"); (case n => walk_at "ne")))
open CP L2 in
local macro_rules | `(tactic| walk_at "sq") => `(tactic| first
  | assumption
  | (refine L2.SqL.of ?_; walk_at "at")
  | (refine L2.SqT.of ?_; walk_at "at")
  | (refine L2.Same.seq (by assumption) ?_; walk_at "sq"))
open CP L2 in
local macro_rules | `(tactic| walk_at "side") => `(tactic| first
  | assumption
  | decide
  | (with_reducible refine CP.mul_ok ?_; omega)
  | (with_reducible refine CP.mul_okN ?_; omega)
  | (with_reducible refine CP.div_ok ?_; omega)
  | (show (0 : Int) < _; omega)
  | omega)
open CP L2 in
local macro_rules | `(tactic| walk_at "st") => `(tactic| simp only [L2.start, List.map_cons, List.map_nil, List.length_cons, List.length_nil, Nat.reduceAdd, Nat.reduceSub, List.replicate_succ, List.replicate_zero, List.cons_append, List.nil_append, List.append_nil])
open CP L2 in
local macro_rules | `(tactic| walk_at "s") => `(tactic| first
  | with_reducible refine CP.r_seq ?_
  | with_reducible refine CP.r_asg ?_
  | (with_reducible refine CP.r_name ?_; dsimp only [List.set_cons_zero, List.set_cons_succ])
  | with_reducible refine CP.r_var rfl ?_
  | with_reducible refine CP.r_c ?_
  | with_reducible refine CP.r_op ?_
  | with_reducible refine CP.r_I0 ?_
  | (with_reducible refine CP.r_I ?c ?_; (case c => walk_at "side"))
  | with_reducible refine CP.r_eqI ?_
  | with_reducible refine CP.r_neI ?_
  | with_reducible refine CP.r_test ?_
  | with_reducible refine CP.r_tB ?_
  | with_reducible refine CP.r_bl ?_
  | with_reducible refine CP.r_ifS ?_
  | with_reducible refine CP.if_t ?_
  | with_reducible refine CP.if_f ?_
  | with_reducible refine CP.if_nt ?_
  | with_reducible refine CP.if_nf ?_
  | with_reducible refine CP.r_cons ?_
  | with_reducible refine CP.r_nil ?_
  | with_reducible refine CP.r_call ?_
  | with_reducible refine CP.r_cb ?_
  | with_reducible refine CP.r_ret ?_
  | (with_reducible refine CP.r_par ?_)
  | (with_reducible refine CP.r_two ?_; dsimp only [List.set_cons_zero, List.set_cons_succ])
  | with_reducible refine CP.r_next ?_
  | with_reducible refine CP.r_and ?_
  | with_reducible refine CP.r_or ?_
  | with_reducible refine CP.r_not ?_
  | with_reducible refine CP.r_for ?_
  | with_reducible refine CP.r_iTup ?_
  | with_reducible refine CP.r_iList ?_
  | with_reducible refine CP.r_iRng1 ?_
  | (with_reducible refine CP.r_rng ?a ?b ?_; (case a => omega); (case b => omega))
  | with_reducible refine CP.r_tup ?_
  | with_reducible refine CP.r_lst ?_
  | with_reducible refine CP.r_dnewK ?_
  | (with_reducible refine CP.r_newO ?_; intro _ _ _ _ _)
  | (with_reducible refine CP.r_mk (by first | exact Nat.zero_le _ | (simp only [List.length_cons, List.length_nil, Nat.reduceAdd]; decide) | omega) ?_; intro _ _ _ _ _)
  | (with_reducible refine CP.r_len (ys := ?y) ?h ?_; (case h => walk_at "sq"))
  | (with_reducible refine CP.r_lenT (ys := ?y) ?h ?_; (case h => walk_at "sq"))
  | (with_reducible refine CP.r_list (ys := ?y) ?h ?_; (case h => walk_at "sq"); intro _ _ _ _ _)
  | with_reducible refine CP.r_max2 ?_
  | with_reducible refine CP.r_min2 ?_
  | with_reducible refine CP.r_abs ?_
  | with_reducible refine CP.r_int ?_
  | with_reducible refine CP.r_bits ?_
  | with_reducible refine CP.r_drop ?_
  | with_reducible refine CP.r_bm ?_
  | with_reducible refine CP.r_bm0 ?_
  | with_reducible refine CP.r_sl ?_
  | with_reducible refine CP.r_noPart ?_
  | with_reducible refine CP.r_part ?_
  | with_reducible refine CP.r_gsub ?_
  | (with_reducible refine CP.r_slL (xs := ?x) ?h ?_; (case h => walk_at "sq"); intro _ _ _ _ _)
  | (with_reducible refine CP.r_cat (xs := ?x) (ys := ?y) ?h ?h2 ?z ?_; (case h => walk_at "at"); (case h2 => walk_at "at"); (case z => first | omega | (simp only [List.length_map, List.length_cons, List.length_nil]; omega)); intro _ _ _ _ _)
  | with_reducible refine CP.r_lc ?_
  | (with_reducible refine CP.r_gtup (xs := ?x) ?h ?l ?_; (case h => walk_at "sq"); (case l => simp only [List.length_cons, List.length_nil, Nat.reduceAdd]))
  | with_reducible refine CP.r_gcons ?_
  | with_reducible refine CP.r_iRng2 ?_
  | (with_reducible refine CP.r_rng2 ?a ?_; (case a => omega))
  | with_reducible refine CP.r_neB ?_
  | with_reducible refine CP.r_eqB ?_
  | with_reducible refine CP.r_dget2 ?_
  | with_reducible refine CP.r_sdput ?_
  | (with_reducible refine CP.r_disp1 ?_; intro _ _ _ _ _)
  | with_reducible refine CP.r_gnil ?_
  | with_reducible refine CP.r_callW ?_
  | with_reducible refine CP.r_callD ?_
  | with_reducible refine CP.r_retN ?_
  | with_reducible refine CP.r_andV ?_
  | with_reducible refine CP.r_orV ?_
  | with_reducible refine CP.r_notV ?_
  | (with_reducible refine CP.r_isi (n := ?n) ?t ?c ?_; (case t => first | assumption | exact CP.tk_int | exact CP.tk_bl | exact CP.tk_non | exact CP.tk_str); (case c => decide))
  | with_reducible refine CP.r_ifE ?_)
open CP L2 in
local macro_rules | `(tactic| walk_at "d") => `(tactic| first
  | (with_reducible refine CP.r_name ?_; dsimp only [L2.wipe, List.set_cons_zero, List.set_cons_succ])
  | with_reducible refine CP.r_chain ?_
  | with_reducible refine CP.r_eqXS ?_
  | with_reducible refine CP.r_neXS ?_
  | with_reducible refine CP.r_eqXI ?_
  | with_reducible refine CP.r_neXI ?_
  | with_reducible refine CP.r_dc ?_
  | with_reducible refine CP.r_par3 ?_
  | with_reducible refine CP.r_iEnum ?_
  | with_reducible refine CP.r_makeK ?_
  | with_reducible refine CP.r_iKeys ?_
  | with_reducible refine CP.r_revL ?_
  | (with_reducible refine CP.r_three ?_; dsimp only [List.set_cons_zero, List.set_cons_succ])
  | with_reducible refine CP.r_notNr ?_
  | with_reducible refine CP.r_notNn ?_
  | with_reducible refine CP.r_isNr ?_
  | with_reducible refine CP.r_isNn ?_
  | with_reducible refine CP.r_lc2 ?_
  | with_reducible refine CP.r_iStr ?_
  | with_reducible refine CP.r_strx ?_
  | with_reducible refine CP.r_inS ?_
  | with_reducible refine CP.r_notInS ?_
  | with_reducible refine CP.r_tfld ?_
  | with_reducible refine CP.r_sfld ?_
  | with_reducible refine CP.r_tmake ?_
  | with_reducible refine CP.r_tmeth ?_
  | with_reducible refine CP.r_tdni ?_
  | with_reducible refine CP.r_tdin ?_
  | with_reducible refine CP.r_tdget ?_
  | (with_reducible refine CP.r_lookI (kvs := ?k) ?h ?_; (case h => walk_at "at"))
  | (with_reducible refine CP.r_lookS (kvs := ?k) ?h ?_; (case h => walk_at "at"))
  | (with_reducible refine CP.r_isD (kvs := ?k) ?h ?_; (case h => walk_at "at"))
  | (with_reducible refine CP.r_dget2I (kvs := ?k) ?h ?_; (case h => walk_at "at"))
  | (with_reducible refine CP.r_dget2S (kvs := ?k) ?h ?_; (case h => walk_at "at")))
open CP L2 in
local macro_rules | `(tactic| walk_at "w") => `(tactic| first
  | walk_at "s"
  | walk_at "d")

namespace CP
open PySem L2
section
variable {P : Program} {w : World} {K : PySem.W.Frag} {mg : Str → Option Value} {base : Heap}
/-- of a value of a known kind -/
def sp_is_whole (_ : Txt K mg) : Sp := fun vs H Q _ => match vs with
  | [x] => ∃ n, TK K H x n ∧ Q (.bl (n == "int")) H
  | _ => False
def t_is_whole (w : World) (T : Txt K mg) : TS := tRet (tAndV (tCB (rIsi K) (tCons (tVar 0) (tCons (tC (.ty "int")) (tNil)))) (tNotV (tCB (rIsi K) (tCons (tVar 0) (tCons (tC (.ty "bool")) (tNil))))))
theorem len_is_whole (T : Txt K mg) : ∀ (vs : List V) (H : Hp) (Q : VK) (E : XK), sp_is_whole T vs H Q E → vs.length = (["value"] : List Str).length := by
  intro vs H Q E h
  unfold sp_is_whole at h
  split at h
  all_goals first | rfl | exact h.elim
theorem rd_is_whole (T : Txt K mg) (vs : List V) (H : Hp) (Q : VK) (E : XK) (h : sp_is_whole T vs H Q E) : t_is_whole w T { nx := fun _ H' => Q .non H', rt := Q } (start ["value"] vs) H := by
  match vs, h with
  | [x], h =>
  obtain ⟨n, ht, q⟩ := h
  unfold t_is_whole
  walk_at "st"
  repeat walk_at "s"
  refine if_b (fun c => ?_) (fun c => ?_)
  · repeat walk_at "s"
    have e : (!(n == "bool" || n == "bool" && "bool" == "int")) = (n == "int") := by
      cases hb : n == "int" <;> cases hi : n == "bool" <;> simp_all
    rw [e]
    exact q
  · have e : (n == "int") = false := by
      cases hb : n == "int" <;> simp_all
    rw [e] at q
    exact q

theorem ok_is_whole (T : Txt K mg) : FnOk P w K mg base CX0 1 T.a_is_whole T.fd_is_whole ["value"] (sp_is_whole T) :=
  T.F_is_whole.ok sc_is_whole (len_is_whole T) fun cdv A outer s H vs Q E hr h => ⟨t_is_whole w T, (pss_one (ps_ret (pe_and (pe_callB call_isi (by rfl) T.n_isinstance (by decide +kernel) (pa_cons (pv 0) (pa_cons (pe_bltn (v := .ty "int") (by rfl) T.n_int (by decide +kernel) rfl) pa_nil))) (pe_one (pe_not (pe_callB call_isi (by rfl) T.n_isinstance (by decide +kernel) (pa_cons (pv 0) (pa_cons (pe_bltn (v := .ty "bool") (by rfl) T.n_bool (by decide +kernel) rfl) pa_nil)))))))), rd_is_whole T vs H Q E h⟩
end
end CP

namespace CP
open PySem L2
section
variable {P : Program} {w : World} {K : PySem.W.Frag} {mg : Str → Option Value} {base : Heap}
def sp_is_count (_ : Txt K mg) : Sp := fun vs H Q _ => match vs with
  | [.int i] => Q (.bl (decide (0 ≤ i))) H
  | [x] => ∃ n, TK K H x n ∧ n ≠ "int" ∧ Q (.bl false) H
  | _ => False
def t_is_count (w : World) (T : Txt K mg) : TS := tRet (tAndV (tCall (sp_is_whole T) [] E0 (tCons (tVar 0) (tNil))) (tOp oGe (tVar 0) (tC (.int 0))))
theorem len_is_count (T : Txt K mg) : ∀ (vs : List V) (H : Hp) (Q : VK) (E : XK), sp_is_count T vs H Q E → vs.length = (["value"] : List Str).length := by
  intro vs H Q E h
  unfold sp_is_count at h
  split at h
  all_goals first | rfl | exact h.elim
theorem rd_is_count (T : Txt K mg) (vs : List V) (H : Hp) (Q : VK) (E : XK) (h : sp_is_count T vs H Q E) : t_is_count w T { nx := fun _ H' => Q .non H', rt := Q } (start ["value"] vs) H := by
  unfold t_is_count
  unfold sp_is_count at h
  split at h
  · rename_i i
    walk_at "st"
    repeat walk_at "s"
    refine ⟨"int", tk_int, ?_⟩
    repeat walk_at "s"
    refine if_t ?_
    repeat walk_at "s"
    exact h
  · rename_i x hx
    obtain ⟨n, ht, hn, q⟩ := h
    walk_at "st"
    repeat walk_at "s"
    refine ⟨n, ht, ?_⟩
    repeat walk_at "s"
    have e : (n == "int") = false := by simpa using hn
    rw [e]
    refine if_f ?_
    exact q
  · exact h.elim

theorem ok_is_count (T : Txt K mg) : FnOk P w K mg base CX0 2 T.a_is_count T.fd_is_count ["value"] (sp_is_count T) :=
  T.F_is_count.ok sc_is_count (len_is_count T) fun cdv A outer s H vs Q E hr h => ⟨t_is_count w T, (pss_one (ps_ret (pe_and (pe_call (ok_is_whole T) (hr.mono (by decide)) (by rfl) T.m_is_whole T.F_is_whole.kp (b_is_whole T) .nil pass0 (pa_cons (pv 0) pa_nil)) (pe_one (pe_cmpR op_ge (pv 0) pe_int (nomark _)))))), rd_is_count T vs H Q E h⟩
end
end CP

namespace CP
open PySem L2
section
variable {P : Program} {w : World} {K : PySem.W.Frag} {mg : Str → Option Value} {base : Heap}
def sp_check_rows (_ : Txt K mg) : Sp := fun vs H Q _ => match vs with
  | [.int r, .int c] => 1 ≤ r ∧ 1 ≤ c ∧ ∀ H', Same H H' → Q .non H'
  | _ => False
def t_check_rows (w : World) (T : Txt K mg) : TS := tFor (iTup K (tTup (tCons (tVar 0) (tCons (tVar 1) (tNil))))) (gName 2) (tIfS (tOr (tNot (tB (tCall (sp_is_whole T) [] E0 (tCons (tVar 2) (tNil))))) (tTest (tOp oLt (tVar 2) (tC (.int 1))))) (tNever) (tNext))
theorem len_check_rows (T : Txt K mg) : ∀ (vs : List V) (H : Hp) (Q : VK) (E : XK), sp_check_rows T vs H Q E → vs.length = (["rows", "columns"] : List Str).length := by
  intro vs H Q E h
  unfold sp_check_rows at h
  split at h
  all_goals first | rfl | exact h.elim
theorem rd_check_rows (T : Txt K mg) (vs : List V) (H : Hp) (Q : VK) (E : XK) (h : sp_check_rows T vs H Q E) : t_check_rows w T { nx := fun _ H' => Q .non H', rt := Q } (start ["rows", "columns", "value"] vs) H := by
  match vs, h with
  | [.int r, .int c], h =>
  obtain ⟨hr, hc, q⟩ := h
  unfold t_check_rows
  walk_at "st"
  repeat walk_at "s"
  rename_i p H1 n1 s1 h1
  refine ⟨p, rfl, ⟨_, .of h1⟩, for_tup (K := K) (a := p) (xs := [.int r, .int c]) (fun _ σ H' => H' = H1 ∧ ∃ v, σ = [some (.int r), some (.int c), v]) ⟨rfl, _, rfl⟩ (fun _ _ _ _ w => by rw [w.1]; exact .of h1) ?_ ?_⟩
  · rintro i x σ H' hx ⟨rfl, v, rfl⟩
    obtain ⟨z, rfl, hz⟩ : ∃ z, x = .int z ∧ 1 ≤ z := by
      match i, hx with
      | 0, e => cases e; exact ⟨r, rfl, hr⟩
      | 1, e => cases e; exact ⟨c, rfl, hc⟩
    repeat walk_at "s"
    refine ⟨"int", tk_int, ?_⟩
    repeat walk_at "s"
    refine if_f ?_
    repeat walk_at "s"
    refine if_d (fun k => by omega) fun k => ?_
    repeat walk_at "s"
    exact ⟨rfl, _, rfl⟩
  · rintro σ H' ⟨rfl, v, rfl⟩
    exact q _ s1

theorem ok_check_rows (T : Txt K mg) : FnOk P w K mg base CX0 2 T.a_check_rows T.fd_check_rows ["rows", "columns"] (sp_check_rows T) :=
  T.F_check_rows.ok sc_check_rows (len_check_rows T) fun cdv A outer s H vs Q E hr h => ⟨t_check_rows w T, (pss_one (ps_for PassesOwn.never rfl (pi_tup (pe_tup (pa_cons (pv 0) (pa_cons (pv 1) pa_nil)))) (pg_name (i := 2) sc_check_rows.nd rfl (Or.inl rfl)) (pss_one (ps_if (PW.pt (pw_or (pt_not (pt_val (pe_call (ok_is_whole T) (hr.mono (by decide)) (by rfl) T.m_is_whole T.F_is_whole.kp (b_is_whole T) .nil pass0 (pa_cons (pv 2) pa_nil)))) (pw_or1 (pt_cmpR op_lt (pv 2) pe_int (nomark _))))) (pss_one ps_never) pss_nil)))), rd_check_rows T vs H Q E h⟩
end
end CP

namespace CP
open PySem L2
section
variable {P : Program} {w : World} {K : PySem.W.Frag} {mg : Str → Option Value} {base : Heap}
def sp_check_place (_ : Txt K mg) : Sp := fun vs H Q _ => match vs with
  | [.int r, .int c, .int p] => 0 ≤ r ∧ r < 2 ^ 100 ∧ 0 ≤ c ∧ c < 2 ^ 100 ∧ 0 ≤ p ∧ p < r * c ∧ Q .non H
  | _ => False
def t_check_place (w : World) (T : Txt K mg) : TS := tIfS (tOr (tNot (tB (tCall (sp_is_count T) [] E0 (tCons (tVar 2) (tNil))))) (tTest (tOp oGe (tVar 2) (tOp oMul (tVar 0) (tVar 1))))) (tNever) (tNext)
theorem len_check_place (T : Txt K mg) : ∀ (vs : List V) (H : Hp) (Q : VK) (E : XK), sp_check_place T vs H Q E → vs.length = (["rows", "columns", "place"] : List Str).length := by
  intro vs H Q E h
  unfold sp_check_place at h
  split at h
  all_goals first | rfl | exact h.elim
theorem rd_check_place (T : Txt K mg) (vs : List V) (H : Hp) (Q : VK) (E : XK) (h : sp_check_place T vs H Q E) : t_check_place w T { nx := fun _ H' => Q .non H', rt := Q } (start ["rows", "columns", "place"] vs) H := by
  match vs, h with
  | [.int r, .int c, .int p], h =>
  obtain ⟨hr, hr2, hc, hc2, hp, hp2, q⟩ := h
  unfold t_check_place
  walk_at "st"
  repeat walk_at "s"
  refine r_bl (if_nd (fun c => absurd hp c) fun _ => ?_)
  repeat walk_at "s"
  refine if_d (fun k => absurd hp2 (Int.not_lt.mpr k)) fun k => ?_
  exact q

theorem ok_check_place (T : Txt K mg) : FnOk P w K mg base CX0 3 T.a_check_place T.fd_check_place ["rows", "columns", "place"] (sp_check_place T) :=
  T.F_check_place.ok sc_check_place (len_check_place T) fun cdv A outer s H vs Q E hr h => ⟨t_check_place w T, (pss_one (ps_if (PW.pt (pw_or (pt_not (pt_val (pe_call (ok_is_count T) (hr.mono (by decide)) (by rfl) T.m_is_count T.F_is_count.kp (b_is_count T) .nil pass0 (pa_cons (pv 2) pa_nil)))) (pw_or1 (pt_cmpR op_ge (pv 2) (pe_op op_mulW (pv 0) (pv 1)) (nomark _))))) (pss_one ps_never) pss_nil)), rd_check_place T vs H Q E h⟩
end
end CP

namespace CP
open PySem L2
section
variable {P : Program} {w : World} {K : PySem.W.Frag} {mg : Str → Option Value} {base : Heap}
def sp_power (_ : Txt K mg) : Sp := fun vs H Q _ => match vs with
  | [.int b, .int m, .int v] => 0 ≤ b ∧ 0 ≤ m ∧ 0 < v ∧ v < 2 ^ 100 ∧ Q (.int ((b.toNat ^ m.toNat % v.toNat : Nat) : Int)) H
  | _ => False
theorem pow_mod_step {f s m v : Nat} (hm : 0 < m) : ((if m % 2 = 1 then f * s % v else f) * (s * s % v) ^ (m / 2)) % v = f * s ^ m % v := by
  have h1 : (s * s % v) ^ (m / 2) % v = s ^ (2 * (m / 2)) % v := by
    rw [← Nat.pow_mod, Nat.pow_mul, Nat.pow_two]
  split
  · rename_i h
    have e : m = 2 * (m / 2) + 1 := by omega
    calc (f * s % v * (s * s % v) ^ (m / 2)) % v = (f * s * s ^ (2 * (m / 2))) % v := by
          rw [Nat.mul_mod, Nat.mod_mod, h1, ← Nat.mul_mod]
      _ = f * s ^ m % v := by
          rw [Nat.mul_assoc, Nat.mul_comm s, ← Nat.pow_succ, Nat.succ_eq_add_one, ← e]
  · rename_i h
    have e : m = 2 * (m / 2) := by omega
    rw [Nat.mul_mod, h1, ← Nat.mul_mod, ← e]
theorem small_log {n : Nat} (h : n < 2 ^ 100) : n.log2 < 100 := PySem.Flt.log2_lt_of (by decide) h
def t_power (w : World) (T : Txt K mg) : TS := tSeq (tPar 3 4 (tCons (tOp oMod (tC (.int 1)) (tVar 2)) (tCons (tOp oMod (tVar 0) (tVar 2)) (tNil)))) (tSeq (tWhile (tTest (tOp oGt (tVar 1) (tC (.int 0)))) (tSeq (tIfS (tTest (tOp rEq (tOp oMod (tVar 1) (tC (.int 2))) (tC (.int 1)))) (tAsg (tOp oMod (tOp oMul (tVar 3) (tVar 4)) (tVar 2)) (gName 3)) (tNext)) (tSeq (tAsg (tOp oMod (tOp oMul (tVar 4) (tVar 4)) (tVar 2)) (gName 4)) (tAsg (tOp oDiv (tVar 1) (tC (.int 2))) (gName 1))))) (tRet (tVar 3)))
theorem len_power (T : Txt K mg) : ∀ (vs : List V) (H : Hp) (Q : VK) (E : XK), sp_power T vs H Q E → vs.length = (["base", "many", "value"] : List Str).length := by
  intro vs H Q E h
  unfold sp_power at h
  split at h
  all_goals first | rfl | exact h.elim
theorem rd_power (T : Txt K mg) (vs : List V) (H : Hp) (Q : VK) (E : XK) (h : sp_power T vs H Q E) : t_power w T { nx := fun _ H' => Q .non H', rt := Q } (start ["base", "many", "value", "found", "square"] vs) H := by
  match vs, h with
  | [.int b, .int m, .int v], h =>
  obtain ⟨hb, hm, hv, hv2, q⟩ := h
  obtain ⟨b, rfl⟩ := Int.eq_ofNat_of_zero_le hb
  obtain ⟨m, rfl⟩ := Int.eq_ofNat_of_zero_le hm
  obtain ⟨v, rfl⟩ := Int.eq_ofNat_of_zero_le (Int.le_of_lt hv)
  have hv' : 0 < v := by omega
  unfold t_power
  walk_at "st"
  repeat walk_at "s"
  refine r_whileD (fun (a : Nat × Nat × Nat) σ H' => H' = H ∧ a.1 < v ∧ a.2.1 < v ∧ a.1 * a.2.1 ^ a.2.2 % v = b ^ m % v ∧
      σ = [some (.int b), some (.int a.2.2), some (.int v), some (.int a.1), some (.int a.2.1)]) (fun a => a.2.2) (fun a => decide (0 < (a.2.2 : Int))) (1 % v, b % v, m) ⟨rfl, Nat.mod_lt _ hv', Nat.mod_lt _ hv', ?_, rfl⟩ ?_ ?_ ?_
  · show 1 % v * (b % v) ^ m % v = b ^ m % v
    rw [Nat.mul_mod, Nat.mod_mod, ← Nat.pow_mod, ← Nat.mul_mod, Nat.one_mul]
  · rintro ⟨f, s, k⟩ σ H' ⟨rfl, h1, h2, h3, rfl⟩ Q' q'
    repeat walk_at "s"
    exact q'
  · rintro ⟨f, s, k⟩ σ H' ⟨rfl, h1, h2, h3, rfl⟩ hk
    have hk : 0 < k := by simpa using hk
    have e3 := pow_mod_step (f := f) (s := s) (v := v) hk
    dsimp only at h1 h2 h3 ⊢
    repeat walk_at "s"
    have e1 : ((k : Int) % 2 = 1) = (k % 2 = 1) := by
      apply propext; omega
    refine if_d (fun c => ?_) (fun c => ?_)
    · rw [e1] at c
      rw [if_pos c] at e3
      repeat walk_at "s"
      exact ⟨(f * s % v, s * s % v, k / 2), ⟨rfl, Nat.mod_lt _ hv', Nat.mod_lt _ hv', e3.trans h3, rfl⟩, Nat.div_lt_self hk (by decide)⟩
    · rw [e1] at c
      rw [if_neg c] at e3
      repeat walk_at "s"
      exact ⟨(f, s * s % v, k / 2), ⟨rfl, h1, Nat.mod_lt _ hv', e3.trans h3, rfl⟩, Nat.div_lt_self hk (by decide)⟩
  · rintro ⟨f, s, k⟩ σ H' ⟨rfl, h1, h2, h3, rfl⟩ hk
    have hk : k = 0 := by simpa using hk
    subst hk
    repeat walk_at "s"
    simp only [Nat.pow_zero, Nat.mul_one, Nat.mod_eq_of_lt h1] at h3
    rw [h3]
    exact q

theorem ok_power (T : Txt K mg) : FnOk P w K mg base CX0 1 T.a_power T.fd_power ["base", "many", "value"] (sp_power T) :=
  T.F_power.ok sc_power (len_power T) fun cdv A outer s H vs Q E hr h => ⟨t_power w T, (pss_cons (ps_par (i := 3) (j := 4) rfl sc_power.nd rfl rfl (by decide) rfl rfl (pa_cons (pe_op op_mod pe_int (pv 2)) (pa_cons (pe_op op_mod (pv 0) (pv 2)) pa_nil)) (by rfl))
      (pss_cons (ps_while PassesOwn.never (pt_cmpR op_gt (pv 1) pe_int (nomark _)) (pss_cons (ps_if (pt_cmpR op_eq (pe_op op_mod (pv 1) pe_int) pe_int (nomark _)) (pss_one (ps_set (i := 3) sc_power.nd rfl (Or.inl rfl) (pe_op op_mod (pe_op op_mulW (pv 3) (pv 4)) (pv 2)))) pss_nil)
      (pss_cons (ps_set (i := 4) sc_power.nd rfl (Or.inl rfl) (pe_op op_mod (pe_op op_mulW (pv 4) (pv 4)) (pv 2)))
      (pss_one (ps_set (i := 1) sc_power.nd rfl (Or.inl rfl) (pe_op op_fdivW (pv 1) pe_int))))))
      (pss_one (ps_ret (pv 3))))), rd_power T vs H Q E h⟩
end
end CP

namespace CP
open PySem L2
section
variable {P : Program} {w : World} {K : PySem.W.Frag} {mg : Str → Option Value} {base : Heap}
def turnedM (r c p t : Nat) : Nat := if p = r * c - 1 ∨ r * c - 1 = 0 then p else p * (r ^ t % (r * c - 1)) % (r * c - 1)
def sp_turned (_ : Txt K mg) : Sp := fun vs H Q _ => match vs with
  | [.int r, .int c, .int p, .int t] => 1 ≤ r ∧ r < 2 ^ 40 ∧ 1 ≤ c ∧ c < 2 ^ 40 ∧ 0 ≤ p ∧ p < r * c ∧ 0 ≤ t ∧ ∀ H', Same H H' → Q (.int (turnedM r.toNat c.toNat p.toNat t.toNat : Nat)) H'
  | _ => False
def t_turned (w : World) (T : Txt K mg) : TS := tSeq (tDrop (tCall (sp_check_rows T) [] E0 (tCons (tVar 0) (tCons (tVar 1) (tNil))))) (tSeq (tDrop (tCall (sp_check_place T) [] E0 (tCons (tVar 0) (tCons (tVar 1) (tCons (tVar 2) (tNil)))))) (tSeq (tIfS (tNot (tB (tCall (sp_is_count T) [] E0 (tCons (tVar 3) (tNil))))) (tNever) (tNext)) (tSeq (tAsg (tOp oSub (tOp oMul (tVar 0) (tVar 1)) (tC (.int 1))) (gName 4)) (tSeq (tIfS (tOr (tTest (tOp rEq (tVar 2) (tVar 4))) (tTest (tOp rEq (tVar 4) (tC (.int 0))))) (tRet (tVar 2)) (tNext)) (tRet (tOp oMod (tOp oMul (tVar 2) (tCall (sp_power T) [] E0 (tCons (tVar 0) (tCons (tVar 3) (tCons (tVar 4) (tNil)))))) (tVar 4)))))))
theorem len_turned (T : Txt K mg) : ∀ (vs : List V) (H : Hp) (Q : VK) (E : XK), sp_turned T vs H Q E → vs.length = (["rows", "columns", "place", "times"] : List Str).length := by
  intro vs H Q E h
  unfold sp_turned at h
  split at h
  all_goals first | rfl | exact h.elim
theorem rd_turned (T : Txt K mg) (vs : List V) (H : Hp) (Q : VK) (E : XK) (h : sp_turned T vs H Q E) : t_turned w T { nx := fun _ H' => Q .non H', rt := Q } (start ["rows", "columns", "place", "times", "last"] vs) H := by
  match vs, h with
  | [.int r, .int c, .int p, .int t], h =>
  obtain ⟨hr, hr2, hc, hc2, hp, hp2, ht, q⟩ := h
  obtain ⟨r, rfl⟩ := Int.eq_ofNat_of_zero_le (Int.le_trans (by decide) hr)
  obtain ⟨c, rfl⟩ := Int.eq_ofNat_of_zero_le (Int.le_trans (by decide) hc)
  obtain ⟨p, rfl⟩ := Int.eq_ofNat_of_zero_le hp
  obtain ⟨t, rfl⟩ := Int.eq_ofNat_of_zero_le ht
  have b1 : (r : Int) * c < 2 ^ 80 := by
    have h1 : (r : Int) * c ≤ 2 ^ 40 * c := Int.mul_le_mul_of_nonneg_right (by omega) (by omega)
    omega
  have b0 : 1 ≤ (r : Int) * c := by
    have : (1 : Int) * 1 ≤ r * c := Int.mul_le_mul hr hc (by decide) (by omega)
    omega
  have e : (r : Int) * c - 1 = ((r * c - 1 : Nat) : Int) := by
    have : ((r * c : Nat) : Int) = (r : Int) * c := Int.natCast_mul r c
    omega
  have p2 : p < r * c := by
    have : ((r * c : Nat) : Int) = (r : Int) * c := Int.natCast_mul r c
    omega
  unfold t_turned
  walk_at "st"
  repeat walk_at "s"
  refine ⟨hr, hc, fun H1 s1 => ?_⟩
  repeat walk_at "s"
  refine ⟨by omega, by omega, by omega, by omega, hp, hp2, ?_⟩
  repeat walk_at "s"
  refine r_bl (if_nd (fun k => absurd ht k) fun _ => ?_)
  repeat walk_at "s"
  rw [e]
  refine if_d (fun k => if_t ?_) fun k => ?_
  · repeat walk_at "s"
    have k2 : p = r * c - 1 := by omega
    have := q H1 s1
    unfold turnedM at this
    simp only [Int.toNat_natCast] at this
    rw [if_pos (.inl k2)] at this
    exact this
  repeat walk_at "s"
  refine if_d (fun k2 => ?_) fun k2 => ?_
  · repeat walk_at "s"
    have k3 : r * c - 1 = 0 := by omega
    have := q H1 s1
    unfold turnedM at this
    simp only [Int.toNat_natCast] at this
    rw [if_pos (.inr k3)] at this
    exact this
  repeat walk_at "s"
  refine ⟨by omega, ht, by omega, by omega, ?_⟩
  have hv : 0 < r * c - 1 := by omega
  have hm : r ^ t % (r * c - 1) < r * c - 1 := Nat.mod_lt _ hv
  simp only [Int.toNat_natCast]
  repeat walk_at "s"
  have := q H1 s1
  unfold turnedM at this
  simp only [Int.toNat_natCast] at this
  rw [if_neg (by omega)] at this
  exact this

theorem ok_turned (T : Txt K mg) : FnOk P w K mg base CX0 4 T.a_turned T.fd_turned ["rows", "columns", "place", "times"] (sp_turned T) :=
  T.F_turned.ok (CX := CX0) sc_turned (len_turned T) fun cdv A outer s H vs Q E hr h => ⟨t_turned w T, PSs.nox (pss_cons (ps_expr (pe_call (ok_check_rows T) (hr.mono (by decide)) (by rfl) T.m_check_rows T.F_check_rows.kp (b_check_rows T) .nil pass0 (pa_cons (pv 0) (pa_cons (pv 1) pa_nil))))
      (pss_cons (ps_expr (pe_call (ok_check_place T) (hr.mono (by decide)) (by rfl) T.m_check_place T.F_check_place.kp (b_check_place T) .nil pass0 (pa_cons (pv 0) (pa_cons (pv 1) (pa_cons (pv 2) pa_nil)))))
      (pss_cons (ps_if (pt_not (pt_val (pe_call (ok_is_count T) (hr.mono (by decide)) (by rfl) T.m_is_count T.F_is_count.kp (b_is_count T) .nil pass0 (pa_cons (pv 3) pa_nil)))) (pss_one ps_never) pss_nil)
      (pss_cons (ps_set (i := 4) sc_turned.nd rfl (Or.inl rfl) (pe_op op_sub (pe_op op_mulW (pv 0) (pv 1)) pe_int))
      (pss_cons (ps_if (PW.pt (pw_or (pt_cmpR op_eq (pv 2) (pv 4) (nomark _)) (pw_or1 (pt_cmpR op_eq (pv 4) pe_int (nomark _))))) (pss_one (ps_ret (pv 2))) pss_nil)
      (pss_one (ps_ret (pe_op op_mod (pe_op op_mulW (pv 2) (pe_call (ok_power T) (hr.mono (by decide)) (by rfl) T.m_power T.F_power.kp (b_power T) .nil pass0 (pa_cons (pv 0) (pa_cons (pv 3) (pa_cons (pv 4) pa_nil))))) (pv 4))))))))), rd_turned T vs H Q E h⟩
end
end CP

namespace CP
open PySem L2
section
variable {P : Program} {w : World} {K : PySem.W.Frag} {mg : Str → Option Value} {base : Heap}
def sp_divisor (_ : Txt K mg) : Sp := fun vs H Q _ => match vs with
  | [.int a, .int b] => 0 ≤ a ∧ 0 ≤ b ∧ Q (.int ((Nat.gcd a.toNat b.toNat : Nat) : Int)) H
  | _ => False
def t_divisor (w : World) (T : Txt K mg) : TS := tSeq (tWhile (tTest (tOp rNe (tVar 1) (tC (.int 0)))) (tPar 0 1 (tCons (tVar 1) (tCons (tOp oMod (tVar 0) (tVar 1)) (tNil))))) (tRet (tVar 0))
theorem len_divisor (T : Txt K mg) : ∀ (vs : List V) (H : Hp) (Q : VK) (E : XK), sp_divisor T vs H Q E → vs.length = (["one", "other"] : List Str).length := by
  intro vs H Q E h
  unfold sp_divisor at h
  split at h
  all_goals first | rfl | exact h.elim
theorem rd_divisor (T : Txt K mg) (vs : List V) (H : Hp) (Q : VK) (E : XK) (h : sp_divisor T vs H Q E) : t_divisor w T { nx := fun _ H' => Q .non H', rt := Q } (start ["one", "other"] vs) H := by
  match vs, h with
  | [.int a, .int b], h =>
  obtain ⟨ha, hb, q⟩ := h
  obtain ⟨a, rfl⟩ := Int.eq_ofNat_of_zero_le ha
  obtain ⟨b, rfl⟩ := Int.eq_ofNat_of_zero_le hb
  unfold t_divisor
  walk_at "st"
  repeat walk_at "s"
  refine r_whileD (fun (z : Nat × Nat) σ H' => H' = H ∧ Nat.gcd z.1 z.2 = Nat.gcd a b ∧ σ = [some (.int z.1), some (.int z.2)]) (fun z => z.2) (fun z => !decide ((z.2 : Int) = 0)) (a, b) ⟨rfl, rfl, rfl⟩ ?_ ?_ ?_
  · rintro ⟨x, y⟩ σ H' ⟨rfl, h1, rfl⟩ Q' q'
    repeat walk_at "s"
    exact q'
  · rintro ⟨x, y⟩ σ H' ⟨rfl, h1, rfl⟩ hk
    have hk : 0 < y := by
      have : ¬ ((y : Int) = 0) := by simpa using hk
      omega
    dsimp only at h1 ⊢
    repeat walk_at "s"
    refine ⟨(y, x % y), ⟨rfl, ?_, rfl⟩, Nat.mod_lt _ hk⟩
    show Nat.gcd y (x % y) = _
    rw [← h1, Nat.gcd_comm y, ← Nat.gcd_rec, Nat.gcd_comm]
  · rintro ⟨x, y⟩ σ H' ⟨rfl, h1, rfl⟩ hk
    have hk : y = 0 := by simpa using hk
    subst hk
    repeat walk_at "s"
    dsimp only at h1
    rw [Nat.gcd_zero_right] at h1
    dsimp only
    rw [h1]
    exact q

theorem ok_divisor (T : Txt K mg) : FnOk P w K mg base CX0 1 T.a_divisor T.fd_divisor ["one", "other"] (sp_divisor T) :=
  T.F_divisor.ok sc_divisor (len_divisor T) fun cdv A outer s H vs Q E hr h => ⟨t_divisor w T, (pss_cons (ps_while PassesOwn.never (pt_cmpR op_ne (pv 1) pe_int (nomark _)) (pss_one (ps_par (i := 0) (j := 1) rfl sc_divisor.nd rfl rfl (by decide) rfl rfl (pa_cons (pv 1) (pa_cons (pe_op op_mod (pv 0) (pv 1)) pa_nil)) (by rfl))))
      (pss_one (ps_ret (pv 0)))), rd_divisor T vs H Q E h⟩
end
end CP

namespace CP
open PySem L2
section
variable {P : Program} {w : World} {K : PySem.W.Frag} {mg : Str → Option Value} {base : Heap}
def sp_primes (_ : Txt K mg) : Sp := fun vs H Q _ => match vs with
  | [.int v] => 1 ≤ v ∧ v < 2 ^ 60 ∧ ∀ p H', H p = none → Same H H' → H' p = some (.lst (natL (Rm.pf v.toNat))) → Q (.ref p) H'
  | _ => False
/-- the product of what is found and what is left -/
theorem inner_len {l : List Nat} {u v : Nat} (h : ∀ q ∈ l, 2 ≤ q) (e : l.prod * u = v) (hu : 0 < u) (hv : v < 2 ^ 60) : l.length < 60 := by
  have h1 := Rm.two_pow_le h
  have h2 : 2 ^ l.length < 2 ^ 60 := by
    have : l.prod * 1 ≤ l.prod * u := Nat.mul_le_mul_left _ hu
    omega
  exact (Nat.pow_lt_pow_iff_right (by decide)).mp h2
def t_primes (w : World) (T : Txt K mg) : TS := tSeq (tPar 1 2 (tCons (tLst (tNil)) (tCons (tC (.int 2)) (tNil)))) (tSeq (tWhile (tTest (tOp oLe (tOp oMul (tVar 2) (tVar 2)) (tVar 0))) (tSeq (tWhile (tTest (tOp rEq (tOp oMod (tVar 0) (tVar 2)) (tC (.int 0)))) (tSeq (tDrop (tBM K "list" rAppend (tVar 1) (tCons (tVar 2) (tNil)))) (tAsg (tOp oDiv (tVar 0) (tVar 2)) (gName 0)))) (tAsg (tOp oAdd (tVar 2) (tC (.int 1))) (gName 2)))) (tRet (tIf (tTest (tOp oGt (tVar 0) (tC (.int 1)))) (tOp rCat (tVar 1) (tLst (tCons (tVar 0) (tNil)))) (tVar 1))))
theorem len_primes (T : Txt K mg) : ∀ (vs : List V) (H : Hp) (Q : VK) (E : XK), sp_primes T vs H Q E → vs.length = (["value"] : List Str).length := by
  intro vs H Q E h
  unfold sp_primes at h
  split at h
  all_goals first | rfl | exact h.elim
theorem rd_primes (T : Txt K mg) (vs : List V) (H : Hp) (Q : VK) (E : XK) (h : sp_primes T vs H Q E) : t_primes w T { nx := fun _ H' => Q .non H', rt := Q } (start ["value", "found", "prime"] vs) H := by
  match vs, h with
  | [.int v], h =>
  obtain ⟨hv, hv2, q⟩ := h
  obtain ⟨v, rfl⟩ := Int.eq_ofNat_of_zero_le (Int.le_trans (by decide) hv)
  simp only [Int.toNat_natCast] at q
  unfold t_primes
  walk_at "st"
  repeat walk_at "s"
  rename_i p H1 n1 s1 h1
  refine r_whileD (fun (a : List Nat × Nat × Nat) σ H' => Same H H' ∧ H' p = some (.lst (natL a.1)) ∧ 2 ≤ a.2.1 ∧ a.2.1 ≤ v + 2 ∧ 0 < a.2.2 ∧ a.1.prod * a.2.2 = v ∧ (∀ q ∈ a.1, 2 ≤ q) ∧ a.1 ++ Rm.outer a.2.1 a.2.2 = Rm.pf v ∧
      σ = [some (.int a.2.2), some (.ref p), some (.int a.2.1)]) (fun a => a.2.2 + 1 - a.2.1) (fun a => decide ((a.2.1 : Int) * a.2.1 ≤ a.2.2)) ([], 2, v) ⟨s1, h1, Nat.le_refl 2, by dsimp only; omega, by dsimp only; omega, by simp, by simp, rfl, rfl⟩ ?_ ?_ ?_
  · rintro ⟨acc, pr, u⟩ σ H' ⟨w1, w2, w3, w4, w5, w6, w7, w8, rfl⟩ Q' q'
    dsimp only at w1 w2 w3 w4 w5 w6 w7 w8 q' ⊢
    repeat walk_at "s"
    exact q'
  · rintro ⟨acc, pr, u⟩ σ H' ⟨w1, w2, w3, w4, w5, w6, w7, w8, rfl⟩ hk
    dsimp only at w1 w2 w3 w4 w5 w6 w7 w8 hk ⊢
    have hk : pr * pr ≤ u := by
      have := of_decide_eq_true hk
      have e : ((pr * pr : Nat) : Int) = (pr : Int) * pr := Int.natCast_mul pr pr
      omega
    have hlt := Rm.sq_lt ⟨w3, hk⟩
    have huv : u ≤ v := by
      rw [← w6]
      have h1 := Rm.two_pow_le w7
      have h2 : 0 < 2 ^ acc.length := Nat.pow_pos (by decide)
      exact Nat.le_mul_of_pos_left u (by omega)
    repeat walk_at "s"
    refine r_whileD (fun (b : List Nat × Nat) σ H' => Same H H' ∧ H' p = some (.lst (natL b.1)) ∧ 0 < b.2 ∧ b.2 ≤ u ∧ b.1.prod * b.2 = v ∧ (∀ q ∈ b.1, 2 ≤ q) ∧ b.1 ++ (Rm.inner pr b.2).1 = acc ++ (Rm.inner pr u).1 ∧ (Rm.inner pr b.2).2 = (Rm.inner pr u).2 ∧
      σ = [some (.int b.2), some (.ref p), some (.int pr)]) (fun b => b.2) (fun b => decide ((b.2 : Int) % pr = 0)) (acc, u) ⟨w1, w2, w5, Nat.le_refl _, w6, w7, rfl, rfl, rfl⟩ ?_ ?_ ?_
    · rintro ⟨bc, x⟩ σ H' ⟨x1, x2, x3, x4, x5, x6, x7, x8, rfl⟩ Q' q'
      dsimp only at x1 x2 x3 x4 x5 x6 x7 x8 q' ⊢
      repeat walk_at "s"
      exact q'
    · rintro ⟨bc, x⟩ σ H' ⟨x1, x2, x3, x4, x5, x6, x7, x8, rfl⟩ hx
      dsimp only at x1 x2 x3 x4 x5 x6 x7 x8 hx ⊢
      have hx : x % pr = 0 := by
        have := of_decide_eq_true hx
        omega
      have hy := Rm.inner_yes ⟨w3, x3, hx⟩
      rw [hy] at x7 x8
      have hd : x = pr * (x / pr) := (Nat.mul_div_cancel' (Nat.dvd_of_mod_eq_zero hx)).symm
      have hq : 0 < x / pr := Nat.div_pos (Nat.le_of_dvd x3 (Nat.dvd_of_mod_eq_zero hx)) (by omega)
      have hl := inner_len x6 x5 x3 (by omega)
      repeat walk_at "s"
      refine ⟨.inl ⟨rfl, _, .of x2⟩, ?_⟩
      repeat walk_at "s"
      refine r_app x2 (by rw [natL_length]; exact Nat.lt_of_lt_of_le hl (by decide)) fun H2 b2 h2 => ?_
      repeat walk_at "s"
      refine ⟨(bc ++ [pr], x / pr), ⟨by walk_at "sm", by rw [natL_app, natL_one]; exact h2, hq, Nat.le_trans (Nat.div_le_self x pr) x4, ?_, ?_, ?_, x8, rfl⟩, Nat.div_lt_self x3 w3⟩
      · show (bc ++ [pr]).prod * (x / pr) = v
        rw [List.prod_append, List.prod_cons, List.prod_nil, Nat.mul_one, Nat.mul_assoc, ← hd]
        exact x5
      · intro q hq
        rcases List.mem_append.mp hq with hq | hq
        · exact x6 q hq
        · rw [List.mem_singleton.mp hq]; exact w3
      · show bc ++ [pr] ++ _ = _
        rw [List.append_assoc]
        exact x7
    · rintro ⟨bc, x⟩ σ H' ⟨x1, x2, x3, x4, x5, x6, x7, x8, rfl⟩ hx
      dsimp only at x1 x2 x3 x4 x5 x6 x7 x8 hx ⊢
      have hx : x % pr ≠ 0 := by
        have := of_decide_eq_false hx
        omega
      rw [Rm.inner_no (fun z => hx z.2.2)] at x7 x8
      rw [List.append_nil] at x7
      repeat walk_at "s"
      refine ⟨(bc, pr + 1, x), ⟨x1, x2, by dsimp only; omega, by dsimp only; omega, x3, x5, x6, ?_, rfl⟩, by dsimp only; omega⟩
      show bc ++ Rm.outer (pr + 1) x = Rm.pf v
      rw [← w8, Rm.outer_yes ⟨w3, hk⟩, ← List.append_assoc, ← x7, ← x8]
  · rintro ⟨acc, pr, u⟩ σ H' ⟨w1, w2, w3, w4, w5, w6, w7, w8, rfl⟩ hk
    dsimp only at w1 w2 w3 w4 w5 w6 w7 w8 hk ⊢
    have hk : ¬ pr * pr ≤ u := by
      have := of_decide_eq_false hk
      have e : ((pr * pr : Nat) : Int) = (pr : Int) * pr := Int.natCast_mul pr pr
      omega
    rw [Rm.outer_no (fun z => hk z.2)] at w8
    have hl := inner_len w7 w6 w5 (by omega)
    repeat walk_at "s"
    refine if_d (fun c => ?_) fun c => ?_
    · rw [if_pos (by omega)] at w8
      repeat walk_at "s"
      rename_i p2 H2 n2 s2 h2
      have z : (natL acc).length + [V.int (u : Int)].length ≤ sizeLine := by
        rw [natL_length]
        exact Nat.le_trans (Nat.succ_le_of_lt hl) (by decide)
      refine r_cat (xs := natL acc) (ys := [.int (u : Int)]) (by walk_at "at") h2 z fun l H3 n3 s3 h3 => ?_
      refine q l H3 (by walk_at "nn") (by walk_at "sm") ?_
      rw [← w8, natL_app, natL_one]
      exact h3
    · rw [if_neg (by omega), List.append_nil] at w8
      repeat walk_at "s"
      rw [w8] at w2
      exact q p H' n1 w1 w2

theorem ok_primes (T : Txt K mg) : FnOk P w K mg base CX0 1 T.a_primes T.fd_primes ["value"] (sp_primes T) :=
  T.F_primes.ok sc_primes (len_primes T) fun cdv A outer s H vs Q E hr h => ⟨t_primes w T, (pss_cons (ps_par (i := 1) (j := 2) rfl sc_primes.nd rfl rfl (by decide) rfl rfl (pa_cons (pe_lst pa_nil) (pa_cons pe_int pa_nil)) (by rfl))
      (pss_cons (ps_while PassesOwn.never (pt_cmpR op_le (pe_op op_mulW (pv 2) (pv 2)) (pv 0) (nomark _)) (pss_cons (ps_while PassesOwn.never (pt_cmpR op_eq (pe_op op_mod (pv 0) (pv 2)) pe_int (nomark _)) (pss_cons (ps_expr (pe_bm PySem.F.plainAttrs_list PySem.F.slot_list_append PySem.F.type_list_append mt_append (pv 1) (pa_cons (pv 2) pa_nil)))
      (pss_one (ps_set (i := 0) sc_primes.nd rfl (Or.inl rfl) (pe_op op_fdivW (pv 0) (pv 2))))))
      (pss_one (ps_set (i := 2) sc_primes.nd rfl (Or.inl rfl) (pe_op op_add (pv 2) pe_int)))))
      (pss_one (ps_ret (pe_ifExp (pt_cmpR op_gt (pv 0) pe_int (nomark _)) (pe_op op_cat (pv 1) (pe_lst (pa_cons (pv 0) pa_nil))) (pv 1)))))), rd_primes T vs H Q E h⟩
end
end CP

namespace CP
open PySem L2
section
variable {P : Program} {w : World} {K : PySem.W.Frag} {mg : Str → Option Value} {base : Heap}
def sp_units (_ : Txt K mg) : Sp := fun vs H Q _ => match vs with
  | [.int v, .ref a] => ∃ l : List Nat, H a = some (.lst (natL l)) ∧ 1 ≤ v ∧ v < 2 ^ 60 ∧ (∀ q ∈ l, Rm.Pr q ∧ q < 2 ^ 60) ∧ Q (.int (Rm.units v.toNat l : Nat)) H
  | _ => False
def t_units (w : World) (T : Txt K mg) : TS := tSeq (tAsg (tVar 0) (gName 2)) (tSeq (tFor (iList K (tVar 1)) (gName 3) (tIfS (tTest (tOp rEq (tOp oMod (tVar 0) (tVar 3)) (tC (.int 0)))) (tAsg (tOp oMul (tOp oDiv (tVar 2) (tVar 3)) (tOp oSub (tVar 3) (tC (.int 1)))) (gName 2)) (tNext))) (tRet (tVar 2)))
theorem len_units (T : Txt K mg) : ∀ (vs : List V) (H : Hp) (Q : VK) (E : XK), sp_units T vs H Q E → vs.length = (["value", "factors"] : List Str).length := by
  intro vs H Q E h
  unfold sp_units at h
  split at h
  all_goals first | rfl | exact h.elim
theorem rd_units (T : Txt K mg) (vs : List V) (H : Hp) (Q : VK) (E : XK) (h : sp_units T vs H Q E) : t_units w T { nx := fun _ H' => Q .non H', rt := Q } (start ["value", "factors", "found", "prime"] vs) H := by
  match vs, h with
  | [.int v, .ref a], h =>
  obtain ⟨l, ha, hv, hv2, hp, q⟩ := h
  obtain ⟨v, rfl⟩ := Int.eq_ofNat_of_zero_le (Int.le_trans (by decide) hv)
  simp only [Int.toNat_natCast] at q
  unfold t_units
  walk_at "st"
  repeat walk_at "s"
  refine ⟨a, rfl, ⟨_, .of ha⟩, for_list (K := K) (a := a) (xs := natL l) (fun i σ H' => H' = H ∧ ∃ x, σ = [some (.int v), some (.ref a), some (.int (Rm.unitsTo v v (l.take i) : Nat)), x]) ⟨rfl, _, rfl⟩ (fun _ _ _ _ w => by rw [w.1]; exact .of ha) ?_ ?_⟩
  · rintro i x σ H' hx ⟨rfl, z, rfl⟩
    obtain ⟨n, hn, rfl⟩ := natL_get hx
    have hpn := (hp n (List.mem_of_getElem? hn)).1.1
    have hpb := (hp n (List.mem_of_getElem? hn)).2
    have step : Rm.unitsTo v v (l.take (i + 1)) = if v % n = 0 then Rm.unitsTo v v (l.take i) / n * (n - 1) else Rm.unitsTo v v (l.take i) := foldl_succ hn
    have le := Rm.unitsTo_le (v := v) (l := l.take i) v
    rw [step]
    generalize Rm.unitsTo v v (l.take i) = f at le ⊢
    have hle : f / n ≤ f := Nat.div_le_self f n
    have e1 : (f : Int) / n = ((f / n : Nat) : Int) := by simp
    have e2 : (n : Int) - 1 = ((n - 1 : Nat) : Int) := by omega
    repeat walk_at "s"
    refine if_d (fun c => ?_) fun c => ?_
    · repeat walk_at "s"
      rw [e1, e2]
      repeat walk_at "s"
      refine ⟨rfl, some (.int n), ?_⟩
      rw [if_pos (by omega), Int.natCast_mul]
    · repeat walk_at "s"
      refine ⟨rfl, some (.int n), ?_⟩
      rw [if_neg (by omega)]
  · rintro σ H' ⟨rfl, z, rfl⟩
    rw [natL_length, List.take_length]
    repeat walk_at "s"
    exact q

theorem ok_units (T : Txt K mg) : FnOk P w K mg base CX0 1 T.a_units T.fd_units ["value", "factors"] (sp_units T) :=
  T.F_units.ok sc_units (len_units T) fun cdv A outer s H vs Q E hr h => ⟨t_units w T, (pss_cons (ps_set (i := 2) sc_units.nd rfl (Or.inl rfl) (pv 0))
      (pss_cons (ps_for PassesOwn.never rfl (pi_list (pv 1)) (pg_name (i := 3) sc_units.nd rfl (Or.inl rfl)) (pss_one (ps_if (pt_cmpR op_eq (pe_op op_mod (pv 0) (pv 3)) pe_int (nomark _)) (pss_one (ps_set (i := 2) sc_units.nd rfl (Or.inl rfl) (pe_op op_mulW (pe_op op_fdivW (pv 2) (pv 3)) (pe_op op_sub (pv 3) pe_int)))) pss_nil)))
      (pss_one (ps_ret (pv 2))))), rd_units T vs H Q E h⟩
end
end CP

namespace CP
open PySem L2
section
variable {P : Program} {w : World} {K : PySem.W.Frag} {mg : Str → Option Value} {base : Heap}
def sp_parts_of (_ : Txt K mg) : Sp := fun vs H Q _ => match vs with
  | [.ref a] => ∃ l : List Nat, H a = some (.lst (natL l)) ∧ (∀ q ∈ l, Rm.Pr q ∧ q < 2 ^ 60) ∧ (Rm.partsTo l l).length < 64 ∧
      ∀ p H', H p = none → Same H H' → H' p = some (.lst (natL (Rm.parts l))) → Q (.ref p) H'
  | _ => False
theorem parts_len {acc l : List Nat} : acc.length ≤ (Rm.partsTo acc l).length := by
  induction l generalizing acc with
  | nil => exact Nat.le_refl _
  | cons a l ih =>
    refine Nat.le_trans ?_ (ih (acc := acc ++ (Rm.pf (a - 1)).filter fun q => !acc.contains q))
    rw [List.length_append]
    omega
theorem parts_take (l m : List Nat) (i : Nat) : (Rm.partsTo l (m.take i)).length ≤ (Rm.partsTo l m).length := by
  have e : Rm.partsTo l m = Rm.partsTo (Rm.partsTo l (m.take i)) (m.drop i) := by
    unfold Rm.partsTo
    rw [← List.foldl_append, List.take_append_drop]
  rw [e]
  exact parts_len
theorem pf_len {v : Nat} (h : 0 < v) (h2 : v < 2 ^ 60) : (Rm.pf v).length < 60 :=
  (Nat.pow_lt_pow_iff_right (by decide)).mp (Nat.lt_of_le_of_lt (Rm.pf_length v h) h2)
theorem filter_nat (f l : List Nat) : ((natL l).filter fun x => !inV x (natL f)).map id = natL (l.filter fun q => !f.contains q) := by
  unfold natL
  rw [List.map_id, List.filter_map]
  congr 1
  refine List.filter_congr fun n _ => ?_
  show (!inV (.int (n : Int)) (natL f)) = _
  rw [inV_nat]
/-- sorted(set(..)) of a list of whole numbers from 0 up -/
theorem r_sortN {σ : St} {l : List Nat} {H : Hp} {a : Addr} {Q : VK} (hl : H a = some (.lst (natL l))) (hn : l.length < 64)
    (k : ∀ (p : Addr) (H' : Hp), Same H H' → H p = none → H' p = some (.lst (natL (Rm.uniq l))) → Q (.ref p) H') :
    rSetI K w [.ref a] H fun x H1 => tNil σ H1 fun xs H2 => rSortedSet w (x :: xs) H2 Q := by
  refine r_sortSetI (ns := l.map fun n : Nat => (n : Int)) (.of (natL_int _ ▸ hl)) (by rw [List.length_map]; exact hn) fun us p H2 hu hk s2 p0 p2 => ?_
  obtain ⟨m, rfl, hm, hmm⟩ := ints_nat hu hk
  have e : m = Rm.uniq l := Rm.sorted_ext (R := fun a b : Nat => a < b) (fun a => Nat.lt_irrefl a) (fun a b h => Nat.lt_asymm h) hm (Rm.uniq_sorted _) fun x => by rw [hmm, Rm.mem_uniq]
  refine k p H2 s2 p0 ?_
  rw [p2, ← e, natL_int]
def t_parts_of (w : World) (T : Txt K mg) : TS := tSeq (tAsg (tCB ((oList K)) (tCons (tVar 0) (tNil))) (gName 1)) (tSeq (tFor (iList K (tVar 0)) (gName 2) (tAsg (tOp rCat (tVar 1) (tLc (iList K (tCall (sp_primes T) [] E0 (tCons (tOp oSub (tVar 2) (tC (.int 1))) (tNil)))) (gName 3) (tTest (tOp (rIn K true) (tVar 3) (tVar 1))) (tVar 3) [3])) (gName 1))) (tRet (tCB (rSortedSet w) (tCons (tCB (rSetI K w) (tCons (tVar 1) (tNil))) (tNil)))))
theorem len_parts_of (T : Txt K mg) : ∀ (vs : List V) (H : Hp) (Q : VK) (E : XK), sp_parts_of T vs H Q E → vs.length = (["factors"] : List Str).length := by
  intro vs H Q E h
  unfold sp_parts_of at h
  split at h
  all_goals first | rfl | exact h.elim
theorem rd_parts_of (T : Txt K mg) (vs : List V) (H : Hp) (Q : VK) (E : XK) (h : sp_parts_of T vs H Q E) : t_parts_of w T { nx := fun _ H' => Q .non H', rt := Q } (start ["factors", "found", "prime", "one"] vs) H := by
  match vs, h with
  | [.ref a], h =>
  obtain ⟨l, ha, hp, hl, q⟩ := h
  have sz : sizeLine = 16777216 := rfl
  unfold t_parts_of
  walk_at "st"
  repeat walk_at "s"
  rename_i f H1 f0 s1 f1
  refine ⟨a, rfl, ⟨_, .of (CP.Same.to s1 ha)⟩, for_list (K := K) (a := a) (xs := natL l) (fun i σ H' => Same H H' ∧ ∃ g x y, H' g = some (.lst (natL (Rm.partsTo l (l.take i)))) ∧ σ = [some (.ref a), some (.ref g), x, y]) ⟨s1, f, _, _, f1, rfl⟩ (fun _ _ _ _ w => .of (CP.Same.to w.1 ha)) ?_ ?_⟩
  · rintro i x σ H' hx ⟨s, g, y, z, hg, rfl⟩
    obtain ⟨n, hn, rfl⟩ := natL_get hx
    have hpn := (hp n (List.mem_of_getElem? hn)).1.1
    have hpb := (hp n (List.mem_of_getElem? hn)).2
    have step : Rm.partsTo l (l.take (i + 1)) = Rm.partsTo l (l.take i) ++ (Rm.pf (n - 1)).filter fun q => !(Rm.partsTo l (l.take i)).contains q := foldl_succ hn
    have lt := parts_take l l (i + 1)
    rw [step]
    rw [step] at lt
    generalize Rm.partsTo l (l.take i) = f at lt hg ⊢
    have e1 : (n : Int) - 1 = ((n - 1 : Nat) : Int) := by omega
    have pl := pf_len (v := n - 1) (by omega) (by omega)
    repeat walk_at "s"
    rw [e1]
    refine ⟨by omega, by omega, fun p H2 p0 s2 p2 => ?_⟩
    rw [Int.toNat_natCast] at p2
    refine ⟨_, rfl, ⟨_, .of p2⟩, ?_⟩
    intro D hD
    refine lc_pure (K := K) (a := p) (xs := natL (Rm.pf (n - 1))) (fun x => !inV x (natL f)) id hD (.of p2) (by rw [natL_length]; omega) ?_ ?_
    · rintro x hx H3 s3 R k
      obtain ⟨m, hm, rfl⟩ := List.mem_map.mp hx
      refine CP.r_name ?_
      dsimp only [wipe, List.set_cons_zero, List.set_cons_succ, List.foldl_cons, List.foldl_nil]
      refine k _ ⟨rfl, fun Q' q' => ?_, fun _ Q' q' => ?_⟩
      · repeat walk_at "s"
        exact r_in (neg := true) (.of (CP.Same.to s3 (CP.Same.to s2 hg))) rfl (natL_flat _) ⟨_, rfl, q'⟩
      · repeat walk_at "s"
        exact q'
    · intro H3 s3 d3
      rw [filter_nat] at d3
      have g3 := CP.Same.to s3 (CP.Same.to s2 hg)
      rw [List.length_append] at lt
      refine r_cat g3 d3 (by rw [natL_length, natL_length]; omega) fun r H4 r0 s4 r4 => ?_
      repeat walk_at "s"
      rw [← natL_app] at r4
      exact ⟨((s.trans s2).trans s3).trans s4, r, _, _, r4, rfl⟩
  · rintro σ H' ⟨s, g, y, z, hg, rfl⟩
    rw [natL_length, List.take_length] at hg
    repeat walk_at "s"
    exact r_sortN hg hl fun p H2 s2 p0 p2 => q p H2 (s.free p0) (s.trans s2) p2

theorem ok_parts_of (T : Txt K mg) : FnOk P w K mg base CX0 2 T.a_parts_of T.fd_parts_of ["factors"] (sp_parts_of T) :=
  T.F_parts_of.ok sc_parts_of (len_parts_of T) fun cdv A outer s H vs Q E hr h => ⟨t_parts_of w T, (pss_cons (ps_set (i := 1) sc_parts_of.nd rfl (Or.inr rfl) (pe_callTy call_listA (by rfl) T.n_list (by decide +kernel) (pa_cons (pv 0) pa_nil)))
      (pss_cons (ps_for PassesOwn.never rfl (pi_list (pv 0)) (pg_name (i := 2) sc_parts_of.nd rfl (Or.inl rfl)) (pss_one (ps_set (i := 1) sc_parts_of.nd rfl (Or.inr rfl) (pe_op op_cat (pv 1) (pe_lc (own := [("one", 3)]) (g := (gName 3)) (tt := tTest (tOp (rIn K true) (tVar 3) (tVar 1))) (te := tVar 3) rfl sc_parts_of.nd (pi_list (pe_call (ok_primes T) (hr.mono (by decide)) (by rfl) T.m_primes T.F_primes.kp (b_primes T) .nil pass0 (pa_cons (pe_op op_sub (pv 2) pe_int) pa_nil))) (blkOk_by (own := [("one", 3)]) (N := ["factors", "found", "prime", "one"]) (sc := defScope s_parts_of) (by decide +kernel)) (fun _ _ _ _ _ => (pg_name (i := 3) sc_parts_of.nd rfl (Or.inl rfl))) (fun _ _ _ _ _ => (pts_one (pt_cmpR op_notIn_seq (pv 3) (pv 1) (by rfl)))) (fun _ _ _ _ _ => (pv 3)))))))
      (pss_one (ps_ret (pe_callB (cr_sortedSet rfl) (by rfl) T.n_sorted (by decide +kernel) (pa_cons (pe_callTy (cr_setI rfl) (by rfl) T.n_set (by decide +kernel) (pa_cons (pv 1) pa_nil)) pa_nil)))))), rd_parts_of T vs H Q E h⟩
end
end CP

namespace CP
open PySem L2
section
variable {P : Program} {w : World} {K : PySem.W.Frag} {mg : Str → Option Value} {base : Heap}
def sp_order (_ : Txt K mg) : Sp := fun vs H Q _ => match vs with
  | [.int b, .int v, .ref a, .ref c] => ∃ fs ps : List Nat, H a = some (.lst (natL fs)) ∧ H c = some (.lst (natL ps)) ∧ 0 ≤ b ∧ 1 ≤ v ∧ v < 2 ^ 60 ∧ (∀ q ∈ fs, Rm.Pr q ∧ q < 2 ^ 60) ∧ fs.Nodup ∧ (∀ q ∈ ps, Rm.Pr q ∧ q < 2 ^ 60) ∧
      Q (.int (Rm.order b.toNat v.toNat fs ps : Nat)) H
  | _ => False
def t_order (w : World) (T : Txt K mg) : TS := tSeq (tAsg (tCall (sp_units T) [] E0 (tCons (tVar 1) (tCons (tVar 2) (tNil)))) (gName 4)) (tSeq (tFor (iList K (tVar 3)) (gName 5) (tWhile (tAnd (tTest (tOp rEq (tOp oMod (tVar 4) (tVar 5)) (tC (.int 0)))) (tTest (tOp rEq (tCall (sp_power T) [] E0 (tCons (tVar 0) (tCons (tOp oDiv (tVar 4) (tVar 5)) (tCons (tVar 1) (tNil))))) (tOp oMod (tC (.int 1)) (tVar 1))))) (tAsg (tOp oDiv (tVar 4) (tVar 5)) (gName 4)))) (tRet (tVar 4)))
theorem len_order (T : Txt K mg) : ∀ (vs : List V) (H : Hp) (Q : VK) (E : XK), sp_order T vs H Q E → vs.length = (["base", "value", "factors", "parts"] : List Str).length := by
  intro vs H Q E h
  unfold sp_order at h
  split at h
  all_goals first | rfl | exact h.elim
theorem rd_order (T : Txt K mg) (vs : List V) (H : Hp) (Q : VK) (E : XK) (h : sp_order T vs H Q E) : t_order w T { nx := fun _ H' => Q .non H', rt := Q } (start ["base", "value", "factors", "parts", "found", "prime"] vs) H := by
  match vs, h with
  | [.int b, .int v, .ref a, .ref c], h =>
  obtain ⟨fs, ps, ha, hc, hb, hv, hv2, hf, hn, hp, q⟩ := h
  obtain ⟨v, rfl⟩ := Int.eq_ofNat_of_zero_le (Int.le_trans (by decide) hv)
  obtain ⟨b, rfl⟩ := Int.eq_ofNat_of_zero_le hb
  simp only [Int.toNat_natCast] at q
  have hv' : 0 < v := by omega
  have up := Rm.units_pos (fun q hq => (hf q hq).1) hn hv'
  have ul : Rm.units v fs ≤ v := Rm.unitsTo_le v
  unfold t_order
  walk_at "st"
  repeat walk_at "s"
  refine ⟨fs, ha, hv, hv2, hf, ?_⟩
  simp only [Int.toNat_natCast]
  repeat walk_at "s"
  refine ⟨c, rfl, ⟨_, .of hc⟩, for_list (K := K) (a := c) (xs := natL ps) (fun i σ H' => H' = H ∧ ∃ x, σ = [some (.int b), some (.int v), some (.ref a), some (.ref c), some (.int (Rm.ordTo b v (Rm.units v fs) (ps.take i) : Nat)), x]) ⟨rfl, _, rfl⟩ (fun _ _ _ _ w => by rw [w.1]; exact .of hc) ?_ ?_⟩
  · rintro i x σ H' hx ⟨rfl, z, rfl⟩
    obtain ⟨n, hn', rfl⟩ := natL_get hx
    have hpn := (hp n (List.mem_of_getElem? hn')).1.1
    have hpb := (hp n (List.mem_of_getElem? hn')).2
    have step : Rm.ordTo b v (Rm.units v fs) (ps.take (i + 1)) = Rm.strip b v n (Rm.ordTo b v (Rm.units v fs) (ps.take i)) := foldl_succ hn'
    have le := Rm.ordTo_pos (b := b) (v := v) (parts := ps.take i) up
    rw [step]
    generalize Rm.ordTo b v (Rm.units v fs) (ps.take i) = f at le ⊢
    repeat walk_at "s"
    refine r_whileD (fun (g : Nat) σ H2 => H2 = H' ∧ 0 < g ∧ g ≤ v ∧ Rm.strip b v n g = Rm.strip b v n f ∧ σ = [some (.int b), some (.int v), some (.ref a), some (.ref c), some (.int (g : Nat)), some (.int n)]) (fun g => g)
      (fun g => decide (g % n = 0 ∧ b ^ (g / n) % v = 1 % v)) f ⟨rfl, le.1, by omega, rfl, rfl⟩ ?_ ?_ ?_
    · rintro g σ H2 ⟨rfl, g1, g2, g3, rfl⟩ Q' q'
      repeat walk_at "s"
      refine if_d (fun k => ?_) fun k => ?_
      · have e1 : (g : Int) / n = ((g / n : Nat) : Int) := by simp
        have e2 : (1 : Int) % v = ((1 % v : Nat) : Int) := by simp
        repeat walk_at "s"
        rw [e1]
        refine ⟨hb, Int.natCast_nonneg _, by omega, by omega, ?_⟩
        simp only [Int.toNat_natCast]
        repeat walk_at "s"
        rw [e2]
        have k' : g % n = 0 := by omega
        have e3 : decide (g % n = 0 ∧ b ^ (g / n) % v = 1 % v) = decide (((b ^ (g / n) % v : Nat) : Int) = ((1 % v : Nat) : Int)) := by
          apply decide_eq_decide.mpr
          constructor
          · intro z; rw [z.2]
          · intro z; exact ⟨k', by omega⟩
        rw [← e3]
        exact q'
      · have e3 : decide (g % n = 0 ∧ b ^ (g / n) % v = 1 % v) = false := by
          apply decide_eq_false
          intro z
          have := z.1
          omega
        rw [e3] at q'
        exact q'
    · rintro g σ H2 ⟨rfl, g1, g2, g3, rfl⟩ hk
      have hk := of_decide_eq_true hk
      rw [Rm.strip_yes ⟨hpn, g1, hk⟩] at g3
      have e1 : (g : Int) / n = ((g / n : Nat) : Int) := by simp
      repeat walk_at "s"
      rw [e1]
      exact ⟨g / n, ⟨rfl, Nat.div_pos (Nat.le_of_dvd g1 (Nat.dvd_of_mod_eq_zero hk.1)) (by omega), Nat.le_trans (Nat.div_le_self g n) g2, g3, rfl⟩, Nat.div_lt_self g1 hpn⟩
    · rintro g σ H2 ⟨rfl, g1, g2, g3, rfl⟩ hk
      have hk := of_decide_eq_false hk
      rw [Rm.strip_no (fun z => hk z.2.2)] at g3
      rw [← g3]
      exact ⟨rfl, _, rfl⟩
  · rintro σ H' ⟨rfl, z, rfl⟩
    rw [natL_length, List.take_length]
    repeat walk_at "s"
    exact q

theorem ok_order (T : Txt K mg) : FnOk P w K mg base CX0 2 T.a_order T.fd_order ["base", "value", "factors", "parts"] (sp_order T) :=
  T.F_order.ok sc_order (len_order T) fun cdv A outer s H vs Q E hr h => ⟨t_order w T, (pss_cons (ps_set (i := 4) sc_order.nd rfl (Or.inl rfl) (pe_call (ok_units T) (hr.mono (by decide)) (by rfl) T.m_units T.F_units.kp (b_units T) .nil pass0 (pa_cons (pv 1) (pa_cons (pv 2) pa_nil))))
      (pss_cons (ps_for PassesOwn.never rfl (pi_list (pv 3)) (pg_name (i := 5) sc_order.nd rfl (Or.inl rfl)) (pss_one (ps_while PassesOwn.never (PW.pt (pw_and (pt_cmpR op_eq (pe_op op_mod (pv 4) (pv 5)) pe_int (nomark _)) (pw_and1 (pt_cmpR op_eq (pe_call (ok_power T) (hr.mono (by decide)) (by rfl) T.m_power T.F_power.kp (b_power T) .nil pass0 (pa_cons (pv 0) (pa_cons (pe_op op_fdivW (pv 4) (pv 5)) (pa_cons (pv 1) pa_nil)))) (pe_op op_mod pe_int (pv 1)) (nomark _))))) (pss_one (ps_set (i := 4) sc_order.nd rfl (Or.inl rfl) (pe_op op_fdivW (pv 4) (pv 5)))))))
      (pss_one (ps_ret (pv 4))))), rd_order T vs H Q E h⟩
end
end CP

namespace CP
open PySem L2
section
variable {P : Program} {w : World} {K : PySem.W.Frag} {mg : Str → Option Value} {base : Heap}
def sp_ring_length (_ : Txt K mg) : Sp := fun vs H Q _ => match vs with
  | [.int r, .int c, .int p] => 1 ≤ r ∧ r < 2 ^ 100 ∧ 1 ≤ c ∧ c < 2 ^ 100 ∧ r * c ≤ 2 ^ 31 ∧ 0 ≤ p ∧ p < r * c ∧ ∀ H', Same H H' → Q (.int (Rm.ringLen r.toNat c.toNat p.toNat : Nat)) H'
  | _ => False
def t_ring_length (w : World) (T : Txt K mg) : TS := tSeq (tDrop (tCall (sp_check_rows T) [] E0 (tCons (tVar 0) (tCons (tVar 1) (tNil))))) (tSeq (tDrop (tCall (sp_check_place T) [] E0 (tCons (tVar 0) (tCons (tVar 1) (tCons (tVar 2) (tNil)))))) (tSeq (tAsg (tOp oSub (tOp oMul (tVar 0) (tVar 1)) (tC (.int 1))) (gName 3)) (tSeq (tIfS (tTest (tOp (rIn K false) (tVar 2) (tTup (tCons (tC (.int 0)) (tCons (tVar 3) (tNil)))))) (tRet (tC (.int 1))) (tNext)) (tSeq (tAsg (tCB (rSortedSet w) (tCons (tCB (rSetI K w) (tCons (tCall (sp_primes T) [] E0 (tCons (tVar 3) (tNil))) (tNil))) (tNil))) (gName 4)) (tRet (tCall (sp_order T) [] E0 (tCons (tVar 0) (tCons (tOp oDiv (tVar 3) (tCall (sp_divisor T) [] E0 (tCons (tVar 2) (tCons (tVar 3) (tNil))))) (tCons (tVar 4) (tCons (tCall (sp_parts_of T) [] E0 (tCons (tVar 4) (tNil))) (tNil)))))))))))
theorem len_ring_length (T : Txt K mg) : ∀ (vs : List V) (H : Hp) (Q : VK) (E : XK), sp_ring_length T vs H Q E → vs.length = (["rows", "columns", "place"] : List Str).length := by
  intro vs H Q E h
  unfold sp_ring_length at h
  split at h
  all_goals first | rfl | exact h.elim
theorem rd_ring_length (T : Txt K mg) (vs : List V) (H : Hp) (Q : VK) (E : XK) (h : sp_ring_length T vs H Q E) : t_ring_length w T { nx := fun _ H' => Q .non H', rt := Q } (start ["rows", "columns", "place", "last", "factors"] vs) H := by
  match vs, h with
  | [.int r, .int c, .int p], h =>
  obtain ⟨hr, hr2, hc, hc2, hm, hp, hp2, q⟩ := h
  obtain ⟨r, rfl⟩ := Int.eq_ofNat_of_zero_le (Int.le_trans (by decide) hr)
  obtain ⟨c, rfl⟩ := Int.eq_ofNat_of_zero_le (Int.le_trans (by decide) hc)
  obtain ⟨p, rfl⟩ := Int.eq_ofNat_of_zero_le hp
  simp only [Int.toNat_natCast] at q
  have hr1 : 0 < r := by omega
  have hc1 : 0 < c := by omega
  have hm1 : 0 < r * c := Nat.mul_pos hr1 hc1
  have e : (r : Int) * c - 1 = ((r * c - 1 : Nat) : Int) := by rw [← Int.natCast_mul]; omega
  have e0 : (r : Int) * c = ((r * c : Nat) : Int) := by rw [← Int.natCast_mul]
  rw [e0] at hm hp2
  unfold t_ring_length
  walk_at "st"
  repeat walk_at "s"
  refine ⟨hr, hc, fun H1 s1 => ?_⟩
  repeat walk_at "s"
  refine ⟨by omega, hr2, by omega, hc2, by omega, by rw [e0]; exact hp2, ?_⟩
  repeat walk_at "s"
  rename_i t0 H2 tn ts th
  refine r_inT (.of th) rfl rfl ?_
  rw [inV_two, e]
  refine ⟨_, rfl, if_d (fun k => ?_) fun k => ?_⟩
  · repeat walk_at "s"
    have := q H2 (s1.trans ts)
    unfold Rm.ringLen at this
    rw [if_pos (by omega)] at this
    exact this
  have := q
  unfold Rm.ringLen at this
  rw [if_neg (by omega)] at this
  have hl : 0 < r * c - 1 := by omega
  generalize r * c - 1 = l at *
  repeat walk_at "s"
  refine ⟨by omega, by omega, fun b H3 b0 s3 b1 => ?_⟩
  rw [Int.toNat_natCast] at b1
  repeat walk_at "s"
  refine r_sortN b1 (by have := pf_len (v := l) hl (by omega); omega) fun f H4 s4 f0 f1 => ?_
  have f2 : H4 f = some (.lst (natL (Rm.facts l))) := f1
  repeat walk_at "s"
  refine ⟨by omega, by omega, ?_⟩
  simp only [Int.toNat_natCast]
  have g1 : 0 < p.gcd l := Nat.gcd_pos_of_pos_right _ hl
  have g5 : p.gcd l ≤ l := Nat.le_of_dvd hl (Nat.gcd_dvd_right ..)
  have g2 : l / p.gcd l ≤ l := Nat.div_le_self ..
  have g3 : 0 < l / p.gcd l := Nat.div_pos (Nat.le_of_dvd hl (Nat.gcd_dvd_right ..)) g1
  have g4 : (l : Int) / (p.gcd l : Nat) = ((l / p.gcd l : Nat) : Int) := by simp
  repeat walk_at "s"
  have fl : ∀ q ∈ Rm.facts l, Rm.Pr q ∧ q < 2 ^ 60 := fun q hq => ⟨Rm.facts_pr hq, by have := Rm.facts_lt hl hq; omega⟩
  refine ⟨_, f2, fl, Rm.parts_bound hl (by omega), fun d H5 d0 s5 d1 => ?_⟩
  repeat walk_at "s"
  rw [g4]
  refine ⟨_, _, CP.Same.to s5 f2, d1, by omega, by omega, by omega, fl, Rm.facts_nodup _, fun q hq => ⟨Rm.parts_pr (fun q hq => (fl q hq).1) q hq, by have := Rm.parts_lt hl hq; omega⟩, ?_⟩
  repeat walk_at "s"
  simp only [Int.toNat_natCast]
  exact this _ ((((s1.trans ts).trans s3).trans s4).trans s5)

theorem ok_ring_length (T : Txt K mg) : FnOk P w K mg base CX0 4 T.a_ring_length T.fd_ring_length ["rows", "columns", "place"] (sp_ring_length T) :=
  T.F_ring_length.ok sc_ring_length (len_ring_length T) fun cdv A outer s H vs Q E hr h => ⟨t_ring_length w T, (pss_cons (ps_expr (pe_call (ok_check_rows T) (hr.mono (by decide)) (by rfl) T.m_check_rows T.F_check_rows.kp (b_check_rows T) .nil pass0 (pa_cons (pv 0) (pa_cons (pv 1) pa_nil))))
      (pss_cons (ps_expr (pe_call (ok_check_place T) (hr.mono (by decide)) (by rfl) T.m_check_place T.F_check_place.kp (b_check_place T) .nil pass0 (pa_cons (pv 0) (pa_cons (pv 1) (pa_cons (pv 2) pa_nil)))))
      (pss_cons (ps_set (i := 3) sc_ring_length.nd rfl (Or.inl rfl) (pe_op op_sub (pe_op op_mulW (pv 0) (pv 1)) pe_int))
      (pss_cons (ps_if (pt_cmpR op_in_seq (pv 2) (pe_tup (pa_cons pe_int (pa_cons (pv 3) pa_nil))) (by rfl)) (pss_one (ps_ret pe_int)) pss_nil)
      (pss_cons (ps_set (i := 4) sc_ring_length.nd rfl (Or.inl rfl) (pe_callB (cr_sortedSet rfl) (by rfl) T.n_sorted (by decide +kernel) (pa_cons (pe_callTy (cr_setI rfl) (by rfl) T.n_set (by decide +kernel) (pa_cons (pe_call (ok_primes T) (hr.mono (by decide)) (by rfl) T.m_primes T.F_primes.kp (b_primes T) .nil pass0 (pa_cons (pv 3) pa_nil)) pa_nil)) pa_nil)))
      (pss_one (ps_ret (pe_call (ok_order T) (hr.mono (by decide)) (by rfl) T.m_order T.F_order.kp (b_order T) .nil pass0 (pa_cons (pv 0) (pa_cons (pe_op op_fdivW (pv 3) (pe_call (ok_divisor T) (hr.mono (by decide)) (by rfl) T.m_divisor T.F_divisor.kp (b_divisor T) .nil pass0 (pa_cons (pv 2) (pa_cons (pv 3) pa_nil)))) (pa_cons (pv 4) (pa_cons (pe_call (ok_parts_of T) (hr.mono (by decide)) (by rfl) T.m_parts_of T.F_parts_of.kp (b_parts_of T) .nil pass0 (pa_cons (pv 4) pa_nil)) pa_nil)))))))))))), rd_ring_length T vs H Q E h⟩
end
end CP

namespace CP
open PySem L2
section
variable {P : Program} {w : World} {K : PySem.W.Frag} {mg : Str → Option Value} {base : Heap}
theorem cut_ints (ns : List Int) (lo hi : Option Int) : ∃ ms : List Int, cutV (ns.map V.int) lo hi = ms.map V.int := by
  unfold cutV
  rw [← List.map_drop, ← List.map_take]
  exact ⟨_, rfl⟩
/-- a purse: its first, second and third item -/
def Purse (H : Hp) (p : Addr) (x y z : Int) : Prop := H p = some (.lst [.int x, .int y, .int z]) ∧ 0 ≤ x ∧ x < 10 ^ 480 ∧ 0 ≤ y ∧ y < 2147483629 ∧ 0 ≤ z
theorem Purse.mono {H H' : Hp} {p : Addr} {x y z : Int} (h : Purse H p x y z) (s : Same H H') : Purse H' p x y z := ⟨CP.Same.to s h.1, h.2⟩
theorem Purse.sb {H H' : Hp} {p q : Addr} {x y z : Int} (h : Purse H p x y z) (s : SB q H H') (n : p ≠ q) : Purse H' p x y z := ⟨s _ _ n h.1, h.2⟩
theorem pow18 : CPw 10 18 := ⟨by decide, by decide, by decide +kernel⟩
theorem pow60 : CPw 10 60 := ⟨by decide, by decide, by decide +kernel⟩
theorem pow608 : CPw (10 ^ (60 : Int).toNat) 8 := ⟨by decide, by decide, by decide +kernel⟩
theorem pow480 : ((10 : Int) ^ (60 : Int).toNat) ^ (8 : Int).toNat = 10 ^ 480 := by decide +kernel
def sp_law_purse (_ : Txt K mg) : Sp := fun vs H Q _ => match vs with
  | [.ref a, .int i] => ∃ ns : List Int, SqL K H a (ns.map V.int) ∧ 0 ≤ i ∧ i < 2 ^ 40 ∧ ∀ p H' x y, H p = none → Same H H' → Purse H' p x y (1000 * i) → Q (.ref p) H'
  | _ => False
def t_law_purse (w : World) (T : Txt K mg) : TS := tSeq (tAsg (tCB (rSum K) (tCons (tSl (rSlL K) (tVar 0) (tPart (tVar 1)) (tPart (tOp oAdd (tVar 1) (tC (.int 1))))) (tNil))) (gName 2)) (tRet (tLst (tCons (tOp oMod (tCB oMax2 (tCons (tOp oSub (tVar 2) (tOp oPow (tC (.int 10)) (tC (.int 18)))) (tCons (tC (.int 0)) (tNil)))) (tOp oPow (tOp oPow (tC (.int 10)) (tC (.int 60))) (tC (.int 8)))) (tCons (tOp oMod (tVar 2) (tC (.int 2147483629))) (tCons (tOp oMul (tC (.int 1000)) (tVar 1)) (tNil))))))
theorem len_law_purse (T : Txt K mg) : ∀ (vs : List V) (H : Hp) (Q : VK) (E : XK), sp_law_purse T vs H Q E → vs.length = (["_law_script", "_law_at"] : List Str).length := by
  intro vs H Q E h
  unfold sp_law_purse at h
  split at h
  all_goals first | rfl | exact h.elim
theorem rd_law_purse (T : Txt K mg) (vs : List V) (H : Hp) (Q : VK) (E : XK) (h : sp_law_purse T vs H Q E) : t_law_purse w T { nx := fun _ H' => Q .non H', rt := Q } (start ["_law_script", "_law_at", "_law_cell"] vs) H := by
  match vs, h with
  | [.ref a, .int i], h =>
  obtain ⟨ns, ha, hi, hi2, q⟩ := h
  unfold t_law_purse
  walk_at "st"
  repeat walk_at "s"
  rename_i l H1 l0 s1 l1
  obtain ⟨ms, e⟩ := cut_ints ns (some i) (some (i + 1))
  rw [e] at l1
  refine r_sum (.of l1) ?_
  generalize ms.sum = c
  repeat walk_at "s"
  refine r_I pow18 ?_
  repeat walk_at "s"
  refine r_I pow60 ?_
  repeat walk_at "s"
  refine r_I pow608 ?_
  rw [pow480]
  refine r_I (by decide +kernel) ?_
  repeat walk_at "s"
  rename_i p H2 p0 s2 p1
  have t : (0 : Int) < 10 ^ 480 := by decide +kernel
  refine q p H2 _ _ (s1.free p0) (s1.trans s2) ⟨p1, Int.emod_nonneg _ (by omega), Int.emod_lt_of_pos _ t, by omega, by omega, by omega⟩

theorem ok_law_purse (T : Txt K mg) : FnOk P w K mg base CX0 1 T.a_law_purse T.fd_law_purse ["_law_script", "_law_at"] (sp_law_purse T) :=
  T.F_law_purse.ok sc_law_purse (len_law_purse T) fun cdv A outer s H vs Q E hr h => ⟨t_law_purse w T, (pss_cons (ps_set (i := 2) sc_law_purse.nd rfl (Or.inl rfl) (pe_callB (cr_sum rfl) (by rfl) T.n_sum (by decide +kernel) (pa_cons (pe_slice sl_list (pv 0) (po_some (pv 1)) (po_some (pe_op op_add (pv 1) pe_int))) pa_nil)))
      (pss_one (ps_ret (pe_lst (pa_cons (pe_op op_mod (pe_callB (call_maxA rfl) (by rfl) T.n_max (by decide +kernel) (pa_cons (pe_op op_sub (pv 2) (pe_op op_powW pe_int pe_int)) (pa_cons pe_int pa_nil))) (pe_op op_powW (pe_op op_powW pe_int pe_int) pe_int)) (pa_cons (pe_op op_mod (pv 2) pe_int) (pa_cons (pe_op op_mulW pe_int (pv 1)) pa_nil))))))), rd_law_purse T vs H Q E h⟩
end
end CP

namespace CP
open PySem L2
section
variable {P : Program} {w : World} {K : PySem.W.Frag} {mg : Str → Option Value} {base : Heap}
def mixedM (s t : Int) : Int := ((s * 69069 + 104729 * t * t + t) % 2147483647 * ((s * 69069 + 104729 * t * t + t) % 2147483647) + 40503) % 2147483629 * 48271 % 2147483587
theorem mixedM_lt (s t : Int) : 0 ≤ mixedM s t ∧ mixedM s t < 2147483587 := by
  unfold mixedM
  omega
def sp_law_mixed (_ : Txt K mg) : Sp := fun vs H Q _ => match vs with
  | [.int s, .int t] => 0 ≤ s ∧ s < 2 ^ 40 ∧ 0 ≤ t ∧ t < 2 ^ 60 ∧ Q (.int (mixedM s t)) H
  | _ => False
def t_law_mixed (w : World) (T : Txt K mg) : TS := tSeq (tAsg (tOp oMod (tOp oAdd (tOp oAdd (tOp oMul (tVar 0) (tC (.int 69069))) (tOp oMul (tOp oMul (tC (.int 104729)) (tVar 1)) (tVar 1))) (tVar 1)) (tC (.int 2147483647))) (gName 2)) (tSeq (tAsg (tOp oMod (tOp oAdd (tOp oMul (tVar 2) (tVar 2)) (tC (.int 40503))) (tC (.int 2147483629))) (gName 2)) (tRet (tOp oMod (tOp oMul (tVar 2) (tC (.int 48271))) (tC (.int 2147483587)))))
theorem len_law_mixed (T : Txt K mg) : ∀ (vs : List V) (H : Hp) (Q : VK) (E : XK), sp_law_mixed T vs H Q E → vs.length = (["_law_seed", "_law_step"] : List Str).length := by
  intro vs H Q E h
  unfold sp_law_mixed at h
  split at h
  all_goals first | rfl | exact h.elim
theorem rd_law_mixed (T : Txt K mg) (vs : List V) (H : Hp) (Q : VK) (E : XK) (h : sp_law_mixed T vs H Q E) : t_law_mixed w T { nx := fun _ H' => Q .non H', rt := Q } (start ["_law_seed", "_law_step", "_law_found"] vs) H := by
  match vs, h with
  | [.int s, .int t], h =>
  obtain ⟨hs, hs2, ht, ht2, q⟩ := h
  unfold t_law_mixed
  walk_at "st"
  repeat walk_at "s"
  exact q

theorem ok_law_mixed (T : Txt K mg) : FnOk P w K mg base CX0 1 T.a_law_mixed T.fd_law_mixed ["_law_seed", "_law_step"] (sp_law_mixed T) :=
  T.F_law_mixed.ok sc_law_mixed (len_law_mixed T) fun cdv A outer s H vs Q E hr h => ⟨t_law_mixed w T, (pss_cons (ps_set (i := 2) sc_law_mixed.nd rfl (Or.inl rfl) (pe_op op_mod (pe_op op_add (pe_op op_add (pe_op op_mulW (pv 0) pe_int) (pe_op op_mulW (pe_op op_mulW pe_int (pv 1)) (pv 1))) (pv 1)) pe_int))
      (pss_cons (ps_set (i := 2) sc_law_mixed.nd rfl (Or.inl rfl) (pe_op op_mod (pe_op op_add (pe_op op_mulW (pv 2) (pv 2)) pe_int) pe_int))
      (pss_one (ps_ret (pe_op op_mod (pe_op op_mulW (pv 2) pe_int) pe_int))))), rd_law_mixed T vs H Q E h⟩
end
end CP

namespace CP
open PySem L2
section
variable {P : Program} {w : World} {K : PySem.W.Frag} {mg : Str → Option Value} {base : Heap}
/-- a draw below m leaves a purse, its third item at most 60 higher -/
def sp_law_draw (_ : Txt K mg) : Sp := fun vs H Q _ => match vs with
  | [.ref p, .int m] => ∃ x y z, Purse H p x y z ∧ z < 2 ^ 58 ∧ 0 < m ∧ m < 2 ^ 200 ∧ ∀ d H' x' z', 0 ≤ d → d < m → SB p H H' → Purse H' p x' y z' → z' ≤ z + 60 → Q (.int d) H'
  | _ => False
theorem purse_bits {m : Int} (h : 0 < m) (h2 : m < 2 ^ 200) : 0 ≤ ((Builtin.Int.intBits m : Nat) : Int) ∧ ((Builtin.Int.intBits m : Nat) : Int) ≤ 200 := by
  have := PyProof.Rows.intBits_le (show m.natAbs < 2 ^ 200 by omega)
  omega
def t_law_draw (w : World) (T : Txt K mg) : TS := tSeq (tIfS (tTest (tOp oGt (tOp (rIxL K) (tVar 0) (tC (.int 0))) (tC (.int 0)))) (tSeq (tAsg (tOp oMod (tOp (rIxL K) (tVar 0) (tC (.int 0))) (tVar 1)) (gName 2)) (tSeq (tAsg (tOp oDiv (tOp (rIxL K) (tVar 0) (tC (.int 0))) (tVar 1)) (gSub (tVar 0) (tC (.int 0)) rSetL)) (tRet (tVar 2)))) (tNext)) (tSeq (tAsg (tC (.int 0)) (gName 3)) (tSeq (tFor (iRng1 (tCons (tOp oAdd (tC (.int 1)) (tOp oDiv (tBits (tVar 1)) (tC (.int 28)))) (tNil))) (gName 4) (tSeq (tAsg (tOp oAdd (tOp (rIxL K) (tVar 0) (tC (.int 2))) (tC (.int 1))) (gSub (tVar 0) (tC (.int 2)) rSetL)) (tAsg (tOp oAdd (tOp oMul (tVar 3) (tC (.int 2147483587))) (tCall (sp_law_mixed T) [] E0 (tCons (tOp (rIxL K) (tVar 0) (tC (.int 1))) (tCons (tOp (rIxL K) (tVar 0) (tC (.int 2))) (tNil))))) (gName 3)))) (tRet (tOp oMod (tVar 3) (tVar 1)))))
theorem len_law_draw (T : Txt K mg) : ∀ (vs : List V) (H : Hp) (Q : VK) (E : XK), sp_law_draw T vs H Q E → vs.length = (["_law_purse_here", "_law_many"] : List Str).length := by
  intro vs H Q E h
  unfold sp_law_draw at h
  split at h
  all_goals first | rfl | exact h.elim
theorem rd_law_draw (T : Txt K mg) (vs : List V) (H : Hp) (Q : VK) (E : XK) (h : sp_law_draw T vs H Q E) : t_law_draw w T { nx := fun _ H' => Q .non H', rt := Q } (start ["_law_purse_here", "_law_many", "_law_drawn", "_law_found", "_law_piece"] vs) H := by
  match vs, h with
  | [.ref p, .int m], h =>
  obtain ⟨x, y, z, ⟨hp, x0, x1, y0, y1, z0⟩, hz, hm, hm2, q⟩ := h
  unfold t_law_draw
  walk_at "st"
  repeat walk_at "s"
  refine r_ixL (.of hp) (v := .int x) (by rfl) ?_
  repeat walk_at "s"
  refine if_d (fun k => ?_) fun k => ?_
  · repeat walk_at "s"
    refine r_ixL (.of hp) (v := .int x) (by rfl) ?_
    repeat walk_at "s"
    refine r_ixL (.of hp) (v := .int x) (by rfl) ?_
    repeat walk_at "s"
    refine r_setL (j := 0) hp (by rfl) fun H1 s1 p1 => ?_
    repeat walk_at "s"
    have d0 : 0 ≤ x / m := Int.ediv_nonneg x0 (by omega)
    have d1 : x / m ≤ x := Int.ediv_le_self _ x0
    exact q _ H1 _ z (Int.emod_nonneg _ (by omega)) (Int.emod_lt_of_pos _ hm) s1 ⟨p1, d0, by omega, y0, y1, z0⟩ (by omega)
  · repeat walk_at "s"
    have hb := purse_bits hm hm2
    generalize hg : ((Builtin.Int.intBits m : Nat) : Int) = b at hb ⊢
    refine r_rng (by omega) (by omega) ?_
    generalize hn : (1 + b / 28).toNat = n
    have hn2 : n ≤ 8 := by omega
    refine for_range (fun i σ H' => SB p H H' ∧ H' p = some (.lst [.int x, .int y, .int (z + (i : Int))]) ∧ ∃ (f : Int) (o : Option V), 0 ≤ f ∧ f < ((2 ^ (32 * i) : Nat) : Int) ∧ σ = [some (.ref p), some (.int m), none, some (.int f), o]) ⟨fun _ _ _ w => w, by rw [show ((0 : Nat) : Int) = 0 from rfl, Int.add_zero]; exact hp, 0, _, by decide, by decide, rfl⟩ ?_ ?_
    · rintro i σ H2 hi ⟨s2, p2, f, o, f0, f1, rfl⟩
      have hw : 2 ^ (32 * i) ≤ 2 ^ 256 := Nat.pow_le_pow_right (by decide) (by omega)
      have hw2 : 2 ^ (32 * (i + 1)) = 2 ^ (32 * i) * 2 ^ 32 := by rw [← Nat.pow_add]; rfl
      rw [hw2]
      generalize 2 ^ (32 * i) = w at hw f1 ⊢
      repeat walk_at "s"
      refine r_ixL (.of p2) (v := .int (z + i)) (by rfl) ?_
      repeat walk_at "s"
      refine r_setL (j := 2) p2 (by rfl) fun H3 s3 p3 => ?_
      have p4 : H3 p = some (.lst [.int x, .int y, .int (z + i + 1)]) := p3
      repeat walk_at "s"
      refine r_ixL (.of p4) (v := .int y) (by rfl) ?_
      repeat walk_at "s"
      refine r_ixL (.of p4) (v := .int (z + i + 1)) (by rfl) ?_
      repeat walk_at "s"
      refine ⟨y0, by omega, by omega, by omega, ?_⟩
      have ml := mixedM_lt y (z + i + 1)
      generalize mixedM y (z + i + 1) = g at ml ⊢
      repeat walk_at "s"
      refine ⟨fun b o hb hb' => s3 b o hb (s2 b o hb hb'), ?_, _, _, ?_, ?_, rfl⟩
      · rw [show z + ((i + 1 : Nat) : Int) = z + i + 1 by omega]
        exact p4
      · omega
      · omega
    · rintro σ H2 ⟨s2, p2, f, o, f0, f1, rfl⟩
      repeat walk_at "s"
      exact q _ H2 x (z + n) (Int.emod_nonneg _ (by omega)) (Int.emod_lt_of_pos _ hm) s2 ⟨p2, x0, x1, y0, y1, by omega⟩ (by omega)

theorem ok_law_draw (T : Txt K mg) : FnOk P w K mg base CX0 2 T.a_law_draw T.fd_law_draw ["_law_purse_here", "_law_many"] (sp_law_draw T) :=
  T.F_law_draw.ok sc_law_draw (len_law_draw T) fun cdv A outer s H vs Q E hr h => ⟨t_law_draw w T, (pss_cons (ps_if (pt_cmpR op_gt (pe_ix ix_list (pv 0) pe_int (fun _ _ => rfl)) pe_int (nomark _)) (pss_cons (ps_set (i := 2) sc_law_draw.nd rfl (Or.inl rfl) (pe_op op_mod (pe_ix ix_list (pv 0) pe_int (fun _ _ => rfl)) (pv 1)))
      (pss_cons (ps_asg (pe_op op_fdivW (pe_ix ix_list (pv 0) pe_int (fun _ _ => rfl)) (pv 1)) (pg_sub (pv 0) pe_int set_list))
      (pss_one (ps_ret (pv 2))))) pss_nil)
      (pss_cons (ps_set (i := 3) sc_law_draw.nd rfl (Or.inl rfl) pe_int)
      (pss_cons (ps_for PassesOwn.never rfl (pi_range1 (by rfl) T.n_range (pa_cons (pe_op op_add pe_int (pe_op op_fdivW (pe_bits (pv 1)) pe_int)) pa_nil)) (pg_name (i := 4) sc_law_draw.nd rfl (Or.inl rfl)) (pss_cons (ps_asg (pe_op op_add (pe_ix ix_list (pv 0) pe_int (fun _ _ => rfl)) pe_int) (pg_sub (pv 0) pe_int set_list))
      (pss_one (ps_set (i := 3) sc_law_draw.nd rfl (Or.inl rfl) (pe_op op_add (pe_op op_mulW (pv 3) pe_int) (pe_call (ok_law_mixed T) (hr.mono (by decide)) (by rfl) T.m__law_mixed T.F_law_mixed.kp (b_law_mixed T) .nil pass0 (pa_cons (pe_ix ix_list (pv 0) pe_int (fun _ _ => rfl)) (pa_cons (pe_ix ix_list (pv 0) pe_int (fun _ _ => rfl)) pa_nil))))))))
      (pss_one (ps_ret (pe_op op_mod (pv 3) (pv 1))))))), rd_law_draw T vs H Q E h⟩
end
end CP

namespace CP
open PySem L2
section
variable {P : Program} {w : World} {K : PySem.W.Frag} {mg : Str → Option Value} {base : Heap}
def sp_law_next (_ : Txt K mg) : Sp := fun vs H Q _ => match vs with
  | [.int r, .int c, .int p] => 1 ≤ r ∧ r < 2 ^ 40 ∧ 1 ≤ c ∧ c < 2 ^ 40 ∧ 0 ≤ p ∧ Q (.int (Rm.next r.toNat c.toNat p.toNat : Nat)) H
  | _ => False
def t_law_next (w : World) (T : Txt K mg) : TS := tRet (tOp oAdd (tOp oMul (tOp oMod (tVar 2) (tVar 1)) (tVar 0)) (tOp oDiv (tVar 2) (tVar 1)))
theorem len_law_next (T : Txt K mg) : ∀ (vs : List V) (H : Hp) (Q : VK) (E : XK), sp_law_next T vs H Q E → vs.length = (["_law_high", "_law_wide", "_law_spot"] : List Str).length := by
  intro vs H Q E h
  unfold sp_law_next at h
  split at h
  all_goals first | rfl | exact h.elim
theorem rd_law_next (T : Txt K mg) (vs : List V) (H : Hp) (Q : VK) (E : XK) (h : sp_law_next T vs H Q E) : t_law_next w T { nx := fun _ H' => Q .non H', rt := Q } (start ["_law_high", "_law_wide", "_law_spot"] vs) H := by
  match vs, h with
  | [.int r, .int c, .int p], h =>
  obtain ⟨hr, hr2, hc, hc2, hp, q⟩ := h
  obtain ⟨r, rfl⟩ := Int.eq_ofNat_of_zero_le (Int.le_trans (by decide) hr)
  obtain ⟨c, rfl⟩ := Int.eq_ofNat_of_zero_le (Int.le_trans (by decide) hc)
  obtain ⟨p, rfl⟩ := Int.eq_ofNat_of_zero_le hp
  simp only [Int.toNat_natCast] at q
  have hm := Nat.mod_lt p (show c > 0 by omega)
  have e1 : (p : Int) % c = ((p % c : Nat) : Int) := by simp
  have e2 : (p : Int) / c = ((p / c : Nat) : Int) := by simp
  unfold t_law_next
  walk_at "st"
  repeat walk_at "s"
  rw [e1]
  repeat walk_at "s"
  have e3 : ((p % c : Nat) : Int) * r + ((p / c : Nat) : Int) = ((Rm.next r c p : Nat) : Int) := by unfold Rm.next; rw [Int.natCast_add, Int.natCast_mul]
  rw [e2, e3]
  exact q

theorem ok_law_next (T : Txt K mg) : FnOk P w K mg base CX0 1 T.a_law_next T.fd_law_next ["_law_high", "_law_wide", "_law_spot"] (sp_law_next T) :=
  T.F_law_next.ok sc_law_next (len_law_next T) fun cdv A outer s H vs Q E hr h => ⟨t_law_next w T, (pss_one (ps_ret (pe_op op_add (pe_op op_mulW (pe_op op_mod (pv 2) (pv 1)) (pv 0)) (pe_op op_fdivW (pv 2) (pv 1))))), rd_law_next T vs H Q E h⟩
end
end CP

namespace CP
open PySem L2
section
variable {P : Program} {w : World} {K : PySem.W.Frag} {mg : Str → Option Value} {base : Heap}
theorem turn_is (r c p t : Nat) : turnedM r c p t = Rm.turn r c p t := rfl
def sp_law_spot_right (_ : Txt K mg) : Sp := fun vs H Q _ => match vs with
  | [.int r, .int c, .int p] => 1 ≤ r ∧ r < 2 ^ 40 ∧ 1 ≤ c ∧ c < 2 ^ 40 ∧ 0 ≤ p ∧ p < r * c ∧ ∀ H', Same H H' → Q (.bl true) H'
  | _ => False
def t_law_spot_right (w : World) (T : Txt K mg) : TS := tSeq (tAsg (tVar 2) (gName 3)) (tSeq (tFor (iRng1 (tCons (tC (.int 13)) (tNil))) (gName 4) (tSeq (tIfS (tTest (tOp rNe (tCall (sp_turned T) [] E0 (tCons (tVar 0) (tCons (tVar 1) (tCons (tVar 2) (tCons (tVar 4) (tNil)))))) (tVar 3))) (tRet (tC (.bl false))) (tNext)) (tAsg (tCall (sp_law_next T) [] E0 (tCons (tVar 0) (tCons (tVar 1) (tCons (tVar 3) (tNil))))) (gName 3)))) (tSeq (tIfS (tTest (tOp rNe (tCall (sp_turned T) [.int 1] E0 (tCons (tVar 0) (tCons (tVar 1) (tCons (tVar 2) (tNil))))) (tCall (sp_law_next T) [] E0 (tCons (tVar 0) (tCons (tVar 1) (tCons (tVar 2) (tNil))))))) (tRet (tC (.bl false))) (tNext)) (tRet (tOp rEq (tCall (sp_turned T) [.int 1] E0 (tCons (tVar 1) (tCons (tVar 0) (tCons (tCall (sp_turned T) [.int 1] E0 (tCons (tVar 0) (tCons (tVar 1) (tCons (tVar 2) (tNil))))) (tNil))))) (tVar 2)))))
theorem len_law_spot_right (T : Txt K mg) : ∀ (vs : List V) (H : Hp) (Q : VK) (E : XK), sp_law_spot_right T vs H Q E → vs.length = (["_law_high", "_law_wide", "_law_spot"] : List Str).length := by
  intro vs H Q E h
  unfold sp_law_spot_right at h
  split at h
  all_goals first | rfl | exact h.elim
theorem rd_law_spot_right (T : Txt K mg) (vs : List V) (H : Hp) (Q : VK) (E : XK) (h : sp_law_spot_right T vs H Q E) : t_law_spot_right w T { nx := fun _ H' => Q .non H', rt := Q } (start ["_law_high", "_law_wide", "_law_spot", "_law_here", "_law_times"] vs) H := by
  match vs, h with
  | [.int r, .int c, .int p], h =>
  obtain ⟨hr, hr2, hc, hc2, hp, hp2, q⟩ := h
  obtain ⟨r, rfl⟩ := Int.eq_ofNat_of_zero_le (Int.le_trans (by decide) hr)
  obtain ⟨c, rfl⟩ := Int.eq_ofNat_of_zero_le (Int.le_trans (by decide) hc)
  obtain ⟨p, rfl⟩ := Int.eq_ofNat_of_zero_le hp
  have e0 : (r : Int) * c = ((r * c : Nat) : Int) := by rw [← Int.natCast_mul]
  have e1 : (c : Int) * r = ((r * c : Nat) : Int) := by rw [Int.mul_comm, ← Int.natCast_mul]
  have hp3 : p < r * c := by rw [e0] at hp2; omega
  have hr1 : 0 < r := by omega
  have hc1 : 0 < c := by omega
  unfold t_law_spot_right
  walk_at "st"
  repeat walk_at "s"
  refine for_range (fun i σ H' => Same H H' ∧ ∃ o, σ = [some (.int r), some (.int c), some (.int p), some (.int (Rm.turn r c p i : Nat)), o]) ⟨Same.refl _, _, by rw [Rm.turn_zero hp3]⟩ ?_ ?_
  · rintro i σ H1 hi ⟨s1, o, rfl⟩
    repeat walk_at "s"
    refine ⟨hr, hr2, hc, hc2, hp, hp2, by omega, fun H2 s2 => ?_⟩
    have ei : (0 + (i : Int)).toNat = i := by omega
    simp only [Int.toNat_natCast, ei, turn_is]
    repeat walk_at "s"
    refine if_nd (fun z => absurd rfl z) fun _ => ?_
    repeat walk_at "s"
    refine ⟨hr, hr2, hc, hc2, by omega, ?_⟩
    simp only [Int.toNat_natCast]
    rw [← Rm.turn_next hr1 hc1 hp3]
    repeat walk_at "s"
    exact ⟨s1.trans s2, _, rfl⟩
  · rintro σ H1 ⟨s1, o, rfl⟩
    repeat walk_at "s"
    refine ⟨hr, hr2, hc, hc2, hp, hp2, by decide, fun H2 s2 => ?_⟩
    repeat walk_at "s"
    refine ⟨hr, hr2, hc, hc2, hp, ?_⟩
    have en : turnedM r c p 1 = Rm.next r c p := by rw [turn_is, Rm.turn_next hr1 hc1 hp3, Rm.turn_zero hp3]
    have e11 : (1 : Int).toNat = 1 := rfl
    simp only [Int.toNat_natCast, e11, en]
    repeat walk_at "s"
    refine if_nd (fun z => absurd rfl z) fun _ => ?_
    repeat walk_at "s"
    refine ⟨hr, hr2, hc, hc2, hp, hp2, by decide, fun H3 s3 => ?_⟩
    simp only [Int.toNat_natCast, e11]
    have lt := Rm.turn_le (t := 1) hp3
    repeat walk_at "s"
    refine ⟨hc, hc2, hr, hr2, by omega, by rw [e1, turn_is]; omega, by decide, fun H4 s4 => ?_⟩
    simp only [Int.toNat_natCast, e11, turn_is, Rm.turn_back hr1 hc1 hp3]
    repeat walk_at "s"
    have := q H4 (((s1.trans s2).trans s3).trans s4)
    rw [decide_eq_true rfl]
    exact this

theorem ok_law_spot_right (T : Txt K mg) : FnOk P w K mg base CX0 5 T.a_law_spot_right T.fd_law_spot_right ["_law_high", "_law_wide", "_law_spot"] (sp_law_spot_right T) :=
  T.F_law_spot_right.ok sc_law_spot_right (len_law_spot_right T) fun cdv A outer s H vs Q E hr h => ⟨t_law_spot_right w T, (pss_cons (ps_set (i := 3) sc_law_spot_right.nd rfl (Or.inl rfl) (pv 2))
      (pss_cons (ps_for PassesOwn.never rfl (pi_range1 (by rfl) T.n_range (pa_cons pe_int pa_nil)) (pg_name (i := 4) sc_law_spot_right.nd rfl (Or.inl rfl)) (pss_cons (ps_if (pt_cmpR op_ne (pe_call (ok_turned T) (hr.mono (by decide)) (by rfl) T.m_turned T.F_turned.kp (bd_turned_4 T).choose_spec.2 (bd_turned_4 T).choose_spec.1 pass0 (pa_cons (pv 0) (pa_cons (pv 1) (pa_cons (pv 2) (pa_cons (pv 4) pa_nil))))) (pv 3) (nomark _)) (pss_one (ps_ret pe_bl)) pss_nil)
      (pss_one (ps_set (i := 3) sc_law_spot_right.nd rfl (Or.inl rfl) (pe_call (ok_law_next T) (hr.mono (by decide)) (by rfl) T.m__law_next T.F_law_next.kp (b_law_next T) .nil pass0 (pa_cons (pv 0) (pa_cons (pv 1) (pa_cons (pv 3) pa_nil))))))))
      (pss_cons (ps_if (pt_cmpR op_ne (pe_call (ok_turned T) (hr.mono (by decide)) (by rfl) T.m_turned T.F_turned.kp (bd_turned_3 T).choose_spec.2 (bd_turned_3 T).choose_spec.1 pass0 (pa_cons (pv 0) (pa_cons (pv 1) (pa_cons (pv 2) pa_nil)))) (pe_call (ok_law_next T) (hr.mono (by decide)) (by rfl) T.m__law_next T.F_law_next.kp (b_law_next T) .nil pass0 (pa_cons (pv 0) (pa_cons (pv 1) (pa_cons (pv 2) pa_nil)))) (nomark _)) (pss_one (ps_ret pe_bl)) pss_nil)
      (pss_one (ps_ret (pe_cmpR op_eq (pe_call (ok_turned T) (hr.mono (by decide)) (by rfl) T.m_turned T.F_turned.kp (bd_turned_3 T).choose_spec.2 (bd_turned_3 T).choose_spec.1 pass0 (pa_cons (pv 1) (pa_cons (pv 0) (pa_cons (pe_call (ok_turned T) (hr.mono (by decide)) (by rfl) T.m_turned T.F_turned.kp (bd_turned_3 T).choose_spec.2 (bd_turned_3 T).choose_spec.1 pass0 (pa_cons (pv 0) (pa_cons (pv 1) (pa_cons (pv 2) pa_nil)))) pa_nil)))) (pv 2) (nomark _))))))), rd_law_spot_right T vs H Q E h⟩
end
end CP

namespace CP
open PySem L2
section
variable {P : Program} {w : World} {K : PySem.W.Frag} {mg : Str → Option Value} {base : Heap}
theorem len_40 {l : List Nat} {u v : Nat} (h : ∀ q ∈ l, 2 ≤ q) (e : l.prod * u = v) (hu : 0 < u) (hv : v < 2 ^ 40) : l.length < 40 := by
  have h1 := Rm.two_pow_le h
  have h2 : 2 ^ l.length < 2 ^ 40 := by
    have : l.prod * 1 ≤ l.prod * u := Nat.mul_le_mul_left _ hu
    omega
  exact (Nat.pow_lt_pow_iff_right (by decide)).mp h2
def sp_law_primes (_ : Txt K mg) : Sp := fun vs H Q _ => match vs with
  | [.int m] => 1 ≤ m ∧ m < 2 ^ 40 ∧ ∀ p H' (l : List Nat), H p = none → Same H H' → H' p = some (.lst (natL l)) → (∀ x ∈ l, 2 ≤ x ∧ x ∣ m.toNat) → l.length < 64 → Q (.ref p) H'
  | _ => False
def t_law_primes (w : World) (T : Txt K mg) : TS := tSeq (tPar 1 2 (tCons (tLst (tNil)) (tCons (tC (.int 2)) (tNil)))) (tSeq (tFor (iRng1 (tCons (tC (.int 40000)) (tNil))) (gName 3) (tSeq (tIfS (tTest (tOp oGt (tOp oMul (tVar 2) (tVar 2)) (tVar 0))) (tBreak) (tNext)) (tIfS (tTest (tOp rEq (tOp oMod (tVar 0) (tVar 2)) (tC (.int 0)))) (tSeq (tAsg (tOp oDiv (tVar 0) (tVar 2)) (gName 0)) (tDrop (tBM K "list" rAppend (tVar 1) (tCons (tVar 2) (tNil))))) (tAsg (tOp oAdd (tVar 2) (tC (.int 1))) (gName 2))))) (tRet (tIf (tTest (tOp oGt (tVar 0) (tC (.int 1)))) (tOp rCat (tVar 1) (tLst (tCons (tVar 0) (tNil)))) (tVar 1))))
theorem len_law_primes (T : Txt K mg) : ∀ (vs : List V) (H : Hp) (Q : VK) (E : XK), sp_law_primes T vs H Q E → vs.length = (["_law_many"] : List Str).length := by
  intro vs H Q E h
  unfold sp_law_primes at h
  split at h
  all_goals first | rfl | exact h.elim
theorem rd_law_primes (T : Txt K mg) (vs : List V) (H : Hp) (Q : VK) (E : XK) (h : sp_law_primes T vs H Q E) : t_law_primes w T { nx := fun _ H' => Q .non H', rt := Q } (start ["_law_many", "_law_found", "_law_prime", "_law_turn"] vs) H := by
  match vs, h with
  | [.int v], h =>
  obtain ⟨hv, hv2, q⟩ := h
  obtain ⟨v, rfl⟩ := Int.eq_ofNat_of_zero_le (Int.le_trans (by decide) hv)
  simp only [Int.toNat_natCast] at q
  unfold t_law_primes
  walk_at "st"
  repeat walk_at "s"
  rename_i p H1 n1 s1 h1
  refine for_rangeP (fun i σ H' => Same H H' ∧ ∃ (l : List Nat) (u r : Nat) (o : Option V), H' p = some (.lst (natL l)) ∧ 2 ≤ r ∧ r ≤ i + 2 ∧ 0 < u ∧ l.prod * u = v ∧ (∀ q ∈ l, 2 ≤ q) ∧ σ = [some (.int u), some (.ref p), some (.int r), o])
    (fun σ H' => Same H H' ∧ ∃ (l : List Nat) (u r : Nat) (o : Option V), H' p = some (.lst (natL l)) ∧ 0 < u ∧ l.prod * u = v ∧ (∀ q ∈ l, 2 ≤ q) ∧ σ = [some (.int u), some (.ref p), some (.int r), o])
    ⟨s1, [], v, 2, _, h1, Nat.le_refl 2, by omega, by omega, by simp, by simp, rfl⟩ ?_ (fun σ H' ⟨s, l, u, r, o, a, b, c, d⟩ => ⟨s, l, u, r, o, a, d⟩) ?_
  · rintro i σ H' hi ⟨s, l, u, r, o, hl, hr, hr2, hu, hm, hq, rfl⟩ B hB
    have hi2 : i < 40000 := hi
    have huv : u ≤ v := by
      rw [← hm]
      have h1 := Rm.two_pow_le hq
      have h2 : 0 < 2 ^ l.length := Nat.pow_pos (by decide)
      exact Nat.le_mul_of_pos_left u (by omega)
    have hlen := len_40 hq hm hu (by omega)
    repeat walk_at "s"
    refine if_d (fun k => ?_) fun k => ?_
    · repeat walk_at "s"
      exact hB _ _ ⟨s, l, u, r, _, hl, hu, hm, hq, rfl⟩
    repeat walk_at "s"
    refine if_d (fun k2 => ?_) fun k2 => ?_
    · have hx : u % r = 0 := by omega
      have hd : u = r * (u / r) := (Nat.mul_div_cancel' (Nat.dvd_of_mod_eq_zero hx)).symm
      have hp : 0 < u / r := Nat.div_pos (Nat.le_of_dvd hu (Nat.dvd_of_mod_eq_zero hx)) (by omega)
      have e1 : (u : Int) / r = ((u / r : Nat) : Int) := by simp
      repeat walk_at "s"
      rw [e1]
      repeat walk_at "s"
      refine ⟨.inl ⟨rfl, _, .of hl⟩, ?_⟩
      repeat walk_at "s"
      refine r_app hl (by rw [natL_length]; exact Nat.lt_of_lt_of_le hlen (by decide)) fun H2 b2 h2 => ?_
      repeat walk_at "s"
      refine ⟨by walk_at "sm", l ++ [r], u / r, r, _, by rw [natL_app, natL_one]; exact h2, hr, by omega, hp, ?_, ?_, rfl⟩
      · rw [List.prod_append, List.prod_cons, List.prod_nil, Nat.mul_one, Nat.mul_assoc, ← hd]
        exact hm
      · intro q hq'
        rcases List.mem_append.mp hq' with hq' | hq'
        · exact hq q hq'
        · rw [List.mem_singleton.mp hq']; exact hr
    · repeat walk_at "s"
      exact ⟨s, l, u, r + 1, _, hl, by omega, by omega, hu, hm, hq, rfl⟩
  · rintro σ H' ⟨s, l, u, r, o, hl, hu, hm, hq, rfl⟩
    have hlen := len_40 hq hm hu (by omega)
    have hd : ∀ x ∈ l, 2 ≤ x ∧ x ∣ v := fun x hx => ⟨hq x hx, by rw [← hm]; exact Nat.dvd_trans (Rm.dvd_prod hx) (Nat.dvd_mul_right ..)⟩
    repeat walk_at "s"
    refine if_d (fun k => ?_) fun k => ?_
    · repeat walk_at "s"
      rename_i a Ha an as ah
      have sz : sizeLine = 16777216 := rfl
      refine r_cat (CP.Same.to as hl) ah (by rw [natL_length]; show l.length + 1 ≤ sizeLine; omega) fun b Hb bn bs bh => ?_
      refine q b Hb (l ++ [u]) ((s.trans as).free bn) ((s.trans as).trans bs) (by rw [natL_app, natL_one]; exact bh) (fun x hx => ?_) (by rw [List.length_append, List.length_singleton]; omega)
      rcases List.mem_append.mp hx with hx | hx
      · exact hd x hx
      · rw [List.mem_singleton.mp hx]
        exact ⟨by omega, by rw [← hm]; exact Nat.dvd_mul_left ..⟩
    · repeat walk_at "s"
      exact q p H' l n1 s hl hd (by omega)

theorem ok_law_primes (T : Txt K mg) : FnOk P w K mg base CX0 1 T.a_law_primes T.fd_law_primes ["_law_many"] (sp_law_primes T) :=
  T.F_law_primes.ok sc_law_primes (len_law_primes T) fun cdv A outer s H vs Q E hr h => ⟨t_law_primes w T, (pss_cons (ps_par (i := 1) (j := 2) rfl sc_law_primes.nd rfl rfl (by decide) rfl rfl (pa_cons (pe_lst pa_nil) (pa_cons pe_int pa_nil)) (by rfl))
      (pss_cons (ps_for PassesOwn.never rfl (pi_range1 (by rfl) T.n_range (pa_cons pe_int pa_nil)) (pg_name (i := 3) sc_law_primes.nd rfl (Or.inl rfl)) (pss_cons (ps_if (pt_cmpR op_gt (pe_op op_mulW (pv 2) (pv 2)) (pv 0) (nomark _)) (pss_one ps_break) pss_nil)
      (pss_one (ps_if (pt_cmpR op_eq (pe_op op_mod (pv 0) (pv 2)) pe_int (nomark _)) (pss_cons (ps_set (i := 0) sc_law_primes.nd rfl (Or.inl rfl) (pe_op op_fdivW (pv 0) (pv 2)))
      (pss_one (ps_expr (pe_bm PySem.F.plainAttrs_list PySem.F.slot_list_append PySem.F.type_list_append mt_append (pv 1) (pa_cons (pv 2) pa_nil))))) (pss_one (ps_set (i := 2) sc_law_primes.nd rfl (Or.inl rfl) (pe_op op_add (pv 2) pe_int)))))))
      (pss_one (ps_ret (pe_ifExp (pt_cmpR op_gt (pv 0) pe_int (nomark _)) (pe_op op_cat (pv 1) (pe_lst (pa_cons (pv 0) pa_nil))) (pv 1)))))), rd_law_primes T vs H Q E h⟩
end
end CP

namespace CP
open PySem L2
section
variable {P : Program} {w : World} {K : PySem.W.Frag} {mg : Str → Option Value} {base : Heap}
def sp_law_ring_right (_ : Txt K mg) : Sp := fun vs H Q _ => match vs with
  | [.int r, .int c, .int p] => 1 ≤ r ∧ r < 2 ^ 40 ∧ 1 ≤ c ∧ c < 2 ^ 40 ∧ r * c ≤ 2 ^ 31 ∧ 0 ≤ p ∧ p < r * c ∧ ∀ H', Same H H' → Q (.bl true) H'
  | _ => False
def t_law_ring_right (w : World) (T : Txt K mg) : TS := tSeq (tPar 3 4 (tCons (tCall (sp_ring_length T) [] E0 (tCons (tVar 0) (tCons (tVar 1) (tCons (tVar 2) (tNil))))) (tCons (tVar 2) (tNil)))) (tSeq (tIfS (tOr (tB (tCB (rIsi K) (tCons (tVar 3) (tCons (tC (.ty "bool")) (tNil))))) (tOr (tTest (tOp oLt (tVar 3) (tC (.int 1)))) (tTest (tOp oGt (tVar 3) (tOp oMul (tVar 0) (tVar 1)))))) (tRet (tC (.bl false))) (tNext)) (tSeq (tFor (iRng2 (tCons (tC (.int 1)) (tCons (tOp oAdd (tCB oMin2 (tCons (tVar 3) (tCons (tC (.int 400)) (tNil)))) (tC (.int 1))) (tNil)))) (gName 5) (tSeq (tAsg (tCall (sp_law_next T) [] E0 (tCons (tVar 0) (tCons (tVar 1) (tCons (tVar 4) (tNil))))) (gName 4)) (tIfS (tTest (tOp rNe (tOp rEq (tVar 4) (tVar 2)) (tOp rEq (tVar 5) (tVar 3)))) (tRet (tC (.bl false))) (tNext)))) (tSeq (tFor (iList K (tCB (rSortedSet w) (tCons (tCB (rSetI K w) (tCons (tCall (sp_law_primes T) [] E0 (tCons (tVar 3) (tNil))) (tNil))) (tNil)))) (gName 6) (tIfS (tTest (tOp rEq (tCall (sp_turned T) [] E0 (tCons (tVar 0) (tCons (tVar 1) (tCons (tVar 2) (tCons (tOp oDiv (tVar 3) (tVar 6)) (tNil)))))) (tVar 2))) (tRet (tC (.bl false))) (tNext))) (tRet (tOp rEq (tCall (sp_turned T) [] E0 (tCons (tVar 0) (tCons (tVar 1) (tCons (tVar 2) (tCons (tVar 3) (tNil)))))) (tVar 2))))))
theorem len_law_ring_right (T : Txt K mg) : ∀ (vs : List V) (H : Hp) (Q : VK) (E : XK), sp_law_ring_right T vs H Q E → vs.length = (["_law_high", "_law_wide", "_law_spot"] : List Str).length := by
  intro vs H Q E h
  unfold sp_law_ring_right at h
  split at h
  all_goals first | rfl | exact h.elim
theorem rd_law_ring_right (T : Txt K mg) (vs : List V) (H : Hp) (Q : VK) (E : XK) (h : sp_law_ring_right T vs H Q E) : t_law_ring_right w T { nx := fun _ H' => Q .non H', rt := Q } (start ["_law_high", "_law_wide", "_law_spot", "_law_length", "_law_here", "_law_times", "_law_prime"] vs) H := by
  match vs, h with
  | [.int r, .int c, .int p], h =>
  obtain ⟨hr, hr2, hc, hc2, hm, hp, hp2, q⟩ := h
  obtain ⟨r, rfl⟩ := Int.eq_ofNat_of_zero_le (Int.le_trans (by decide) hr)
  obtain ⟨c, rfl⟩ := Int.eq_ofNat_of_zero_le (Int.le_trans (by decide) hc)
  obtain ⟨p, rfl⟩ := Int.eq_ofNat_of_zero_le hp
  have e0 : (r : Int) * c = ((r * c : Nat) : Int) := by rw [← Int.natCast_mul]
  have hp3 : p < r * c := by rw [e0] at hp2; omega
  have hr1 : 0 < r := by omega
  have hc1 : 0 < c := by omega
  obtain ⟨l1, l2, l3⟩ := Rm.ring_spec hr1 hc1 hp3
  unfold t_law_ring_right
  walk_at "st"
  repeat walk_at "s"
  refine ⟨hr, by omega, hc, by omega, hm, hp, hp2, fun H1 s1 => ?_⟩
  simp only [Int.toNat_natCast]
  generalize hl : Rm.ringLen r c p = l at l1 l2 l3 ⊢
  have l4 : (l : Int) ≤ r * c := by rw [e0]; omega
  repeat walk_at "s"
  refine if_f ?_
  repeat walk_at "s"
  refine if_d (fun k => by omega) fun _ => ?_
  repeat walk_at "s"
  refine if_d (fun k => by omega) fun _ => ?_
  repeat walk_at "s"
  generalize hm2 : (if (400 : Int) < l then (400 : Int) else (l : Int)) = m
  have m1 : 1 ≤ m ∧ m ≤ 400 ∧ m ≤ l := by rw [← hm2]; split <;> omega
  repeat walk_at "s"
  have t0 : ∀ t : Nat, turnedM r c p t = Rm.turn r c p t := fun _ => rfl
  refine for_range (fun i σ H' => Same H H' ∧ ∃ o o6, σ = [some (.int r), some (.int c), some (.int p), some (.int (l : Nat)), some (.int (Rm.turn r c p i : Nat)), o, o6]) ⟨s1, _, _, by rw [Rm.turn_zero hp3]⟩ ?_ ?_
  · rintro i σ H2 hi ⟨s2, o, o6, rfl⟩
    repeat walk_at "s"
    refine ⟨hr, by omega, hc, by omega, by omega, ?_⟩
    simp only [Int.toNat_natCast]
    rw [← Rm.turn_next hr1 hc1 hp3]
    repeat walk_at "s"
    have e : (decide (((Rm.turn r c p (i + 1) : Nat) : Int) = (p : Int)) != decide (1 + (i : Int) = (l : Int))) = false := by
      have h1 := l3 (i + 1)
      have h2 : l ∣ i + 1 ↔ i + 1 = l := ⟨fun d => by have := Nat.le_of_dvd (by omega) d; omega, fun d => by rw [d]; exact Nat.dvd_refl l⟩
      by_cases k : i + 1 = l
      · rw [decide_eq_true (by rw [h1.mpr (h2.mpr k)]), decide_eq_true (by omega)]; rfl
      · have k2 : Rm.turn r c p (i + 1) ≠ p := fun z => k (h2.mp (h1.mp z))
        rw [decide_eq_false (by omega), decide_eq_false (by omega)]; rfl
    rw [e]
    refine if_f ?_
    repeat walk_at "s"
    exact ⟨s2, _, _, rfl⟩
  · rintro σ H2 ⟨s2, o, o6, rfl⟩
    repeat walk_at "s"
    refine ⟨by omega, by omega, fun a H3 ms a0 s3 a1 hms hml => ?_⟩
    simp only [Int.toNat_natCast] at hms
    repeat walk_at "s"
    refine r_sortN a1 hml fun f H4 s4 f0 f1 => ?_
    repeat walk_at "s"
    refine ⟨f, rfl, ⟨_, .of f1⟩, for_list (K := K) (a := f) (xs := natL (Rm.uniq ms)) (fun i σ H' => Same H4 H' ∧ ∃ x4 x5 x6, σ = [some (.int r), some (.int c), some (.int p), some (.int (l : Nat)), x4, x5, x6]) ⟨Same.refl _, _, _, _, rfl⟩ (fun _ _ _ _ w => .of (CP.Same.to w.1 f1)) ?_ ?_⟩
    · rintro i x σ H5 hx ⟨s5, x4, x5, x6, rfl⟩
      obtain ⟨n, hn, rfl⟩ := natL_get hx
      obtain ⟨n2, nd⟩ := hms n (Rm.mem_uniq.mp (List.mem_of_getElem? hn))
      have nl := Nat.le_of_dvd l1 nd
      have e1 : (l : Int) / n = ((l / n : Nat) : Int) := by simp
      have lt : l / n < l := Nat.div_lt_self l1 n2
      have lp : 0 < l / n := Nat.div_pos nl (by omega)
      repeat walk_at "s"
      rw [e1]
      refine ⟨hr, by omega, hc, by omega, hp, hp2, by omega, fun H6 s6 => ?_⟩
      simp only [Int.toNat_natCast, t0]
      repeat walk_at "s"
      refine if_d (fun k => ?_) fun _ => ?_
      · have k2 : Rm.turn r c p (l / n) = p := by omega
        have := Nat.le_of_dvd lp ((l3 _).mp k2)
        omega
      repeat walk_at "s"
      exact ⟨s5.trans s6, _, _, _, rfl⟩
    · rintro σ H5 ⟨s5, x4, x5, x6, rfl⟩
      repeat walk_at "s"
      refine ⟨hr, by omega, hc, by omega, hp, hp2, by omega, fun H6 s6 => ?_⟩
      simp only [Int.toNat_natCast, t0, (l3 l).mpr (Nat.dvd_refl l)]
      repeat walk_at "s"
      have := q H6 ((((s2.trans s3).trans s4).trans s5).trans s6)
      rw [decide_eq_true rfl]
      exact this

theorem ok_law_ring_right (T : Txt K mg) : FnOk P w K mg base CX0 5 T.a_law_ring_right T.fd_law_ring_right ["_law_high", "_law_wide", "_law_spot"] (sp_law_ring_right T) :=
  T.F_law_ring_right.ok sc_law_ring_right (len_law_ring_right T) fun cdv A outer s H vs Q E hr h => ⟨t_law_ring_right w T, (pss_cons (ps_par (i := 3) (j := 4) rfl sc_law_ring_right.nd rfl rfl (by decide) rfl rfl (pa_cons (pe_call (ok_ring_length T) (hr.mono (by decide)) (by rfl) T.m_ring_length T.F_ring_length.kp (b_ring_length T) .nil pass0 (pa_cons (pv 0) (pa_cons (pv 1) (pa_cons (pv 2) pa_nil)))) (pa_cons (pv 2) pa_nil)) (by rfl))
      (pss_cons (ps_if (PW.pt (pw_or (pt_val (pe_callB call_isi (by rfl) T.n_isinstance (by decide +kernel) (pa_cons (pv 3) (pa_cons (pe_bltn (v := .ty "bool") (by rfl) T.n_bool (by decide +kernel) rfl) pa_nil)))) (pw_or (pt_cmpR op_lt (pv 3) pe_int (nomark _)) (pw_or1 (pt_cmpR op_gt (pv 3) (pe_op op_mulW (pv 0) (pv 1)) (nomark _)))))) (pss_one (ps_ret pe_bl)) pss_nil)
      (pss_cons (ps_for PassesOwn.never rfl (pi_range2 (by rfl) T.n_range (pa_cons pe_int (pa_cons (pe_op op_add (pe_callB (call_minA rfl) (by rfl) T.n_min (by decide +kernel) (pa_cons (pv 3) (pa_cons pe_int pa_nil))) pe_int) pa_nil))) (pg_name (i := 5) sc_law_ring_right.nd rfl (Or.inl rfl)) (pss_cons (ps_set (i := 4) sc_law_ring_right.nd rfl (Or.inl rfl) (pe_call (ok_law_next T) (hr.mono (by decide)) (by rfl) T.m__law_next T.F_law_next.kp (b_law_next T) .nil pass0 (pa_cons (pv 0) (pa_cons (pv 1) (pa_cons (pv 4) pa_nil)))))
      (pss_one (ps_if (pt_cmpR op_ne (pe_cmpR op_eq (pv 4) (pv 2) (nomark _)) (pe_cmpR op_eq (pv 5) (pv 3) (nomark _)) (nomark _)) (pss_one (ps_ret pe_bl)) pss_nil))))
      (pss_cons (ps_for PassesOwn.never rfl (pi_list (pe_callB (cr_sortedSet rfl) (by rfl) T.n_sorted (by decide +kernel) (pa_cons (pe_callTy (cr_setI rfl) (by rfl) T.n_set (by decide +kernel) (pa_cons (pe_call (ok_law_primes T) (hr.mono (by decide)) (by rfl) T.m__law_primes T.F_law_primes.kp (b_law_primes T) .nil pass0 (pa_cons (pv 3) pa_nil)) pa_nil)) pa_nil))) (pg_name (i := 6) sc_law_ring_right.nd rfl (Or.inl rfl)) (pss_one (ps_if (pt_cmpR op_eq (pe_call (ok_turned T) (hr.mono (by decide)) (by rfl) T.m_turned T.F_turned.kp (bd_turned_4 T).choose_spec.2 (bd_turned_4 T).choose_spec.1 pass0 (pa_cons (pv 0) (pa_cons (pv 1) (pa_cons (pv 2) (pa_cons (pe_op op_fdivW (pv 3) (pv 6)) pa_nil))))) (pv 2) (nomark _)) (pss_one (ps_ret pe_bl)) pss_nil)))
      (pss_one (ps_ret (pe_cmpR op_eq (pe_call (ok_turned T) (hr.mono (by decide)) (by rfl) T.m_turned T.F_turned.kp (bd_turned_4 T).choose_spec.2 (bd_turned_4 T).choose_spec.1 pass0 (pa_cons (pv 0) (pa_cons (pv 1) (pa_cons (pv 2) (pa_cons (pv 3) pa_nil))))) (pv 2) (nomark _)))))))), rd_law_ring_right T vs H Q E h⟩
end
end CP

namespace CP
open PySem L2
section
variable {P : Program} {w : World} {K : PySem.W.Frag} {mg : Str → Option Value} {base : Heap}
def sp_law (_ : Txt K mg) : Sp := fun vs H Q _ => ∃ (a : Addr) (ns : List Int), vs = [.ref a] ∧ SqL K H a (ns.map V.int) ∧ ns.length ≤ 63 ∧ ∀ H', Q (.bl true) H'
def sp_top (K : PySem.W.Frag) : Sp := fun vs H Q _ => ∃ (a : Addr) (ns : List Int), vs = [.ref a] ∧ SqL K H a (ns.map V.int) ∧ ns.length ≤ 63 ∧ ∀ H', Q (.bl true) H'
theorem sp_law_top (T : Txt K mg) (vs : List V) (H : Hp) (Q : VK) (E : XK) (z : sp_top K vs H Q E) : sp_law T vs H Q E := z
theorem pow29 : CPw 10 29 := ⟨by decide, by decide, by decide +kernel⟩
theorem Purse.same {H H' : Hp} {p : Addr} {x y z : Int} (h : Purse H p x y z) (s : Same H H') : Purse H' p x y z := ⟨CP.Same.to s h.1, h.2⟩
theorem pow29v : (10 : Int) ^ (29 : Int).toNat = 10 ^ 29 := by decide +kernel
def t_law (w : World) (T : Txt K mg) : TS := tSeq (tFor (iRng1 (tCons (tCB oMax2 (tCons (tC (.int 1)) (tCons (tCB (rLenA K) (tCons (tSl (rSlL K) (tVar 0) tNoPart (tPart (tC (.int 16)))) (tNil))) (tNil)))) (tNil))) (gName 1) (tSeq (tAsg (tCall (sp_law_purse T) [] E0 (tCons (tVar 0) (tCons (tVar 1) (tNil)))) (gName 2)) (tSeq (tPar 3 4 (tCons (tOp oAdd (tC (.int 1)) (tCall (sp_law_draw T) [] E0 (tCons (tVar 2) (tCons (tC (.int 12)) (tNil))))) (tCons (tOp oAdd (tC (.int 1)) (tCall (sp_law_draw T) [] E0 (tCons (tVar 2) (tCons (tC (.int 12)) (tNil))))) (tNil)))) (tSeq (tFor (iRng1 (tCons (tOp oMul (tVar 3) (tVar 4)) (tNil))) (gName 5) (tIfS (tOr (tNot (tB (tCall (sp_law_spot_right T) [] E0 (tCons (tVar 3) (tCons (tVar 4) (tCons (tVar 5) (tNil))))))) (tNot (tB (tCall (sp_law_ring_right T) [] E0 (tCons (tVar 3) (tCons (tVar 4) (tCons (tVar 5) (tNil)))))))) (tRet (tC (.bl false))) (tNext))) (tSeq (tPar 3 4 (tCons (tOp oAdd (tC (.int 1)) (tCall (sp_law_draw T) [] E0 (tCons (tVar 2) (tCons (tOp (rIxL K) (tLst (tCons (tC (.int 300)) (tCons (tC (.int 30000)) (tNil)))) (tCall (sp_law_draw T) [] E0 (tCons (tVar 2) (tCons (tC (.int 2)) (tNil))))) (tNil))))) (tCons (tOp oAdd (tC (.int 1)) (tCall (sp_law_draw T) [] E0 (tCons (tVar 2) (tCons (tC (.int 30000)) (tNil))))) (tNil)))) (tFor (iList K (tLst (tCons (tC (.int 0)) (tCons (tOp oSub (tOp oMul (tVar 3) (tVar 4)) (tC (.int 1))) (tCons (tCall (sp_law_draw T) [] E0 (tCons (tVar 2) (tCons (tOp oMul (tVar 3) (tVar 4)) (tNil)))) (tCons (tCall (sp_law_draw T) [] E0 (tCons (tVar 2) (tCons (tOp oMul (tVar 3) (tVar 4)) (tNil)))) (tNil))))))) (gName 5) (tSeq (tPar 6 7 (tCons (tCall (sp_law_draw T) [] E0 (tCons (tVar 2) (tCons (tOp oPow (tC (.int 10)) (tC (.int 29))) (tNil)))) (tCons (tCall (sp_law_draw T) [] E0 (tCons (tVar 2) (tCons (tOp oPow (tC (.int 10)) (tC (.int 29))) (tNil)))) (tNil)))) (tSeq (tIfS (tOr (tNot (tB (tCall (sp_law_spot_right T) [] E0 (tCons (tVar 3) (tCons (tVar 4) (tCons (tVar 5) (tNil))))))) (tNot (tB (tCall (sp_law_ring_right T) [] E0 (tCons (tVar 3) (tCons (tVar 4) (tCons (tVar 5) (tNil)))))))) (tRet (tC (.bl false))) (tNext)) (tSeq (tIfS (tTest (tOp rNe (tCall (sp_turned T) [] E0 (tCons (tVar 3) (tCons (tVar 4) (tCons (tCall (sp_turned T) [] E0 (tCons (tVar 3) (tCons (tVar 4) (tCons (tVar 5) (tCons (tVar 6) (tNil)))))) (tCons (tVar 7) (tNil)))))) (tCall (sp_turned T) [] E0 (tCons (tVar 3) (tCons (tVar 4) (tCons (tVar 5) (tCons (tOp oAdd (tVar 6) (tVar 7)) (tNil)))))))) (tRet (tC (.bl false))) (tNext)) (tIfS (tTest (tOp rNe (tCall (sp_turned T) [] E0 (tCons (tVar 3) (tCons (tVar 4) (tCons (tVar 5) (tCons (tOp oMul (tVar 6) (tC (.int 2))) (tNil)))))) (tCall (sp_turned T) [] E0 (tCons (tVar 3) (tCons (tVar 4) (tCons (tCall (sp_turned T) [] E0 (tCons (tVar 3) (tCons (tVar 4) (tCons (tVar 5) (tCons (tVar 6) (tNil)))))) (tCons (tVar 6) (tNil)))))))) (tRet (tC (.bl false))) (tNext))))))))))) (tRet (tC (.bl true)))
theorem len_law (T : Txt K mg) : ∀ (vs : List V) (H : Hp) (Q : VK) (E : XK), sp_law T vs H Q E → vs.length = (["_law_script"] : List Str).length := by
  rintro vs H Q E ⟨a, ns, rfl, h⟩
  rfl
theorem rd_law (T : Txt K mg) (vs : List V) (H : Hp) (Q : VK) (E : XK) (h : sp_law T vs H Q E) : t_law w T { nx := fun _ H' => Q .non H', rt := Q } (start ["_law_script", "_law_cell", "_law_purse_here", "_law_high", "_law_wide", "_law_spot", "_law_one", "_law_other"] vs) H := by
  obtain ⟨a, ns, rfl, ha, hn, q⟩ := h
  unfold t_law
  walk_at "st"
  repeat walk_at "s"
  rename_i l0 H0 l1 s0 l2
  have hc := cutV_length (ns.map V.int) none (some 16)
  rw [List.length_map] at hc
  generalize (cutV (ns.map V.int) none (some 16)).length = k at hc ⊢
  have hj : -(2 ^ 62) ≤ (if (k : Int) > 1 then (k : Int) else 1) ∧ (if (k : Int) > 1 then (k : Int) else 1) < 2 ^ 62 ∧ (if (k : Int) > 1 then (k : Int) else 1) < 2 ^ 10 := by split <;> omega
  generalize (if (k : Int) > 1 then (k : Int) else 1) = j at hj ⊢
  refine r_rng hj.1 hj.2.1 ?_
  refine for_range (fun i σ H' => Same H H' ∧ ∃ x1 x2 x3 x4 x5 x6 x7, σ = [some (.ref a), x1, x2, x3, x4, x5, x6, x7]) ⟨s0, _, _, _, _, _, _, _, rfl⟩ ?_ ?_
  · rintro i σ H1 hi ⟨s1, x1, x2, x3, x4, x5, x6, x7, rfl⟩
    repeat walk_at "s"
    refine ⟨ns, L2.Same.seq s1 ha, by omega, by omega, fun p H2 x y p0 s2 hp => ?_⟩
    repeat walk_at "s"
    refine ⟨x, y, _, hp, by omega, by decide, by decide, fun d1 H3 u1 z1 a1 b1 t1 hp1 hz1 => ?_⟩
    repeat walk_at "s"
    refine ⟨u1, y, z1, hp1, by omega, by decide, by decide, fun d2 H4 u2 z2 a2 b2 t2 hp2 hz2 => ?_⟩
    repeat walk_at "s"
    have r0 : 1 ≤ 1 + d1 := by omega
    have r1 : 1 + d1 ≤ 12 := by omega
    have c0 : 1 ≤ 1 + d2 := by omega
    have c1 : 1 + d2 ≤ 12 := by omega
    generalize 1 + d1 = r at r0 r1 ⊢
    generalize 1 + d2 = c at c0 c1 ⊢
    have rc0 : 0 < r * c := Int.mul_pos (by omega) (by omega)
    have rc1 : r * c ≤ 12 * 12 := Int.mul_le_mul r1 c1 (by omega) (by decide)
    repeat walk_at "s"
    have S4 : Same H H4 := CP.Same.sb (s1.trans s2) (s1.free p0) (fun b o hb hb' => t2 b o hb (t1 b o hb hb'))
    refine for_range (fun k σ H' => Same H4 H' ∧ ∃ x5, σ = [some (.ref a), some (.int (0 + (i : Int))), some (.ref p), some (.int r), some (.int c), x5, x6, x7]) ⟨Same.refl _, _, rfl⟩ ?_ ?_
    · rintro k σ H5 hk ⟨s5, x5, rfl⟩
      repeat walk_at "s"
      refine ⟨r0, by omega, c0, by omega, by omega, by omega, fun H6 s6 => ?_⟩
      repeat walk_at "s"
      refine ⟨r0, by omega, c0, by omega, by omega, by omega, by omega, fun H7 s7 => ?_⟩
      repeat walk_at "s"
      exact ⟨(s5.trans s6).trans s7, _, rfl⟩
    · rintro σ H5 ⟨s5, x5, rfl⟩
      repeat walk_at "s"
      rename_i w H6 w0 w1 w2
      have hp3 := (hp2.same s5).same w1
      refine ⟨u2, y, z2, hp3, by omega, by decide, by decide, fun d3 H7 u3 z3 a3 b3 t3 hp4 hz3 => ?_⟩
      have w3 : H7 w = some (.lst [.int 300, .int 30000]) := t3 _ _ (fun e => by rw [e] at w0; have h5 := CP.Same.to s5 hp2.1; rw [h5] at w0; cases w0) w2
      obtain ⟨m, em, m1, m2⟩ : ∃ m : Int, atI [V.int 300, V.int 30000] d3 = some (V.int m) ∧ 0 < m ∧ m ≤ 30000 := by
        have : d3 = 0 ∨ d3 = 1 := by omega
        rcases this with rfl | rfl
        · exact ⟨300, rfl, by decide, by decide⟩
        · exact ⟨30000, rfl, by decide, by decide⟩
      refine r_ixL (.of w3) em ?_
      repeat walk_at "s"
      refine ⟨u3, y, z3, hp4, by omega, by omega, by omega, fun d4 H8 u4 z4 a4 b4 t4 hp5 hz4 => ?_⟩
      repeat walk_at "s"
      refine ⟨u4, y, z4, hp5, by omega, by omega, by omega, fun d5 H9 u5 z5 a5 b5 t5 hp6 hz5 => ?_⟩
      repeat walk_at "s"
      have S9 : Same H H9 := CP.Same.sb ((S4.trans s5).trans w1) (s1.free p0) (fun b o hb hb' => t5 b o hb (t4 b o hb (t3 b o hb hb')))
      have s1' := s1
      clear t1 t2 t3 t4 t5 s0 s1 s2 s5 w1 hp hp1 hp2 hp3 hp4 w2 w3 rc0 rc1
      have r0 : 1 ≤ 1 + d4 := by omega
      have r1 : 1 + d4 ≤ 30000 := by omega
      have c0 : 1 ≤ 1 + d5 := by omega
      have c1 : 1 + d5 ≤ 30000 := by omega
      generalize 1 + d4 = r at r0 r1 ⊢
      generalize 1 + d5 = c at c0 c1 ⊢
      have rc0 : 0 < r * c := Int.mul_pos (by omega) (by omega)
      have rc1 : r * c ≤ 30000 * 30000 := Int.mul_le_mul r1 c1 (by omega) (by decide)
      repeat walk_at "s"
      refine ⟨u5, y, z5, hp6, by omega, by omega, by omega, fun d6 H10 u6 z6 a6 b6 t6 hp7 hz6 => ?_⟩
      repeat walk_at "s"
      refine ⟨u6, y, z6, hp7, by omega, by omega, by omega, fun d7 H11 u7 z7 a7 b7 t7 hp8 hz7 => ?_⟩
      repeat walk_at "s"
      rename_i L HL L0 L1 L2
      refine ⟨L, rfl, ⟨_, .of L2⟩, for_list (K := K) (a := L) (xs := [.int 0, .int (r * c - 1), .int d6, .int d7]) (fun k σ H' => SB p HL H' ∧ (∃ x' z', Purse H' p x' y z' ∧ z' ≤ z7 + 200 * k) ∧ ∃ x5 x6 x7, σ = [some (.ref a), some (.int (0 + (i : Int))), some (.ref p), some (.int r), some (.int c), x5, x6, x7]) ⟨fun _ _ _ z => z, ⟨u7, z7, hp8.same L1, by omega⟩, _, _, _, rfl⟩ (fun _ _ _ _ w => .of (w.1 _ _ (fun e => by rw [e] at L0; have h5 := hp8.1; rw [h5] at L0; cases L0) L2)) ?_ ?_⟩
      · rintro k v σ H12 hk ⟨s12, ⟨x', z', hp9, hz9⟩, x5, x6, x7, rfl⟩
        have k4 : k < 4 := (List.getElem?_eq_some_iff.mp hk).1
        obtain ⟨g, rfl, g0, g1⟩ : ∃ g : Int, v = .int g ∧ 0 ≤ g ∧ g < r * c := by
          match k, hk with
          | 0, e => cases e; exact ⟨_, rfl, by omega, by omega⟩
          | 1, e => cases e; exact ⟨_, rfl, by omega, by omega⟩
          | 2, e => cases e; exact ⟨_, rfl, by omega, by omega⟩
          | 3, e => cases e; exact ⟨_, rfl, by omega, by omega⟩
        repeat walk_at "s"
        refine r_I pow29 ?_
        rw [pow29v]
        repeat walk_at "s"
        refine ⟨x', y, z', hp9, by omega, by omega, by omega, fun o1 H13 u8 z8 a8 b8 t8 hp10 hz8 => ?_⟩
        repeat walk_at "s"
        refine r_I pow29 ?_
        rw [pow29v]
        repeat walk_at "s"
        refine ⟨u8, y, z8, hp10, by omega, by omega, by omega, fun o2 H14 u9 z9 a9 b9 t9 hp11 hz9 => ?_⟩
        repeat walk_at "s"
        refine ⟨r0, by omega, c0, by omega, g0, g1, fun H15 s15 => ?_⟩
        repeat walk_at "s"
        refine ⟨r0, by omega, c0, by omega, by omega, g0, g1, fun H16 s16 => ?_⟩
        repeat walk_at "s"
        obtain ⟨r, rfl⟩ := Int.eq_ofNat_of_zero_le (Int.le_trans (by decide) r0)
        obtain ⟨c, rfl⟩ := Int.eq_ofNat_of_zero_le (Int.le_trans (by decide) c0)
        obtain ⟨g, rfl⟩ := Int.eq_ofNat_of_zero_le g0
        obtain ⟨o1, rfl⟩ := Int.eq_ofNat_of_zero_le a8
        obtain ⟨o2, rfl⟩ := Int.eq_ofNat_of_zero_le a9
        have e0 : (r : Int) * c = ((r * c : Nat) : Int) := by rw [← Int.natCast_mul]
        have hr1 : 0 < r := by omega
        have hc1 : 0 < c := by omega
        have hg : g < r * c := by rw [e0] at g1; omega
        have t0 : ∀ p t : Nat, turnedM r c p t = Rm.turn r c p t := fun _ _ => rfl
        have tl : ∀ t, ((Rm.turn r c g t : Nat) : Int) < (r : Int) * c := fun t => by have := Rm.turn_le (t := t) hg; rw [e0]; omega
        have ea : ((o1 : Int) + o2).toNat = o1 + o2 := by omega
        have em : ((o1 : Int) * 2).toNat = o1 + o1 := by omega
        refine ⟨r0, by omega, c0, by omega, g0, g1, a8, fun H17 s17 => ?_⟩
        simp only [Int.toNat_natCast, t0]
        repeat walk_at "s"
        refine ⟨r0, by omega, c0, by omega, by omega, tl _, a9, fun H18 s18 => ?_⟩
        simp only [Int.toNat_natCast, t0, Rm.turn_add hr1 hc1 hg]
        repeat walk_at "s"
        refine ⟨r0, by omega, c0, by omega, g0, g1, by omega, fun H19 s19 => ?_⟩
        simp only [Int.toNat_natCast, t0, ea]
        repeat walk_at "s"
        refine if_nd (fun z => absurd rfl z) fun _ => ?_
        repeat walk_at "s"
        refine ⟨r0, by omega, c0, by omega, g0, g1, by omega, fun H20 s20 => ?_⟩
        simp only [Int.toNat_natCast, t0, em]
        repeat walk_at "s"
        refine ⟨r0, by omega, c0, by omega, g0, g1, a8, fun H21 s21 => ?_⟩
        simp only [Int.toNat_natCast, t0]
        repeat walk_at "s"
        refine ⟨r0, by omega, c0, by omega, by omega, tl _, a8, fun H22 s22 => ?_⟩
        simp only [Int.toNat_natCast, t0, Rm.turn_add hr1 hc1 hg]
        repeat walk_at "s"
        refine if_nd (fun z => absurd rfl z) fun _ => ?_
        have S := (((((((s15.trans s16).trans s17).trans s18).trans s19).trans s20).trans s21).trans s22)
        repeat walk_at "s"
        exact ⟨(s12.trans (SB.trans t8 t9)).same S, ⟨u9, z9, hp11.same S, by omega⟩, _, _, _, rfl⟩
      · rintro σ H12 ⟨s12, ⟨x', z', hp9, hz9⟩, x5, x6, x7, rfl⟩
        have F : H p = none := s1'.free p0
        exact ⟨CP.Same.sb ((CP.Same.sb S9 F (SB.trans t6 t7)).trans L1) F s12, _, _, _, _, _, _, _, rfl⟩
  · rintro σ H1 ⟨s1, x1, x2, x3, x4, x5, x6, x7, rfl⟩
    repeat walk_at "s"
    exact q H1

theorem ok_law (T : Txt K mg) : FnOk P w K mg base CX0 6 T.a_law T.fd_law ["_law_script"] (sp_law T) :=
  T.F_law.ok sc_law (len_law T) fun cdv A outer s H vs Q E hr h => ⟨t_law w T, (pss_cons (ps_for PassesOwn.never rfl (pi_range1 (by rfl) T.n_range (pa_cons (pe_callB (call_maxA rfl) (by rfl) T.n_max (by decide +kernel) (pa_cons pe_int (pa_cons (pe_callB call_lenA (by rfl) T.n_len (by decide +kernel) (pa_cons (pe_slice sl_list (pv 0) po_none (po_some pe_int)) pa_nil)) pa_nil))) pa_nil)) (pg_name (i := 1) sc_law.nd rfl (Or.inl rfl)) (pss_cons (ps_set (i := 2) sc_law.nd rfl (Or.inl rfl) (pe_call (ok_law_purse T) (hr.mono (by decide)) (by rfl) T.m__law_purse T.F_law_purse.kp (b_law_purse T) .nil pass0 (pa_cons (pv 0) (pa_cons (pv 1) pa_nil))))
      (pss_cons (ps_par (i := 3) (j := 4) rfl sc_law.nd rfl rfl (by decide) rfl rfl (pa_cons (pe_op op_add pe_int (pe_call (ok_law_draw T) (hr.mono (by decide)) (by rfl) T.m__law_draw T.F_law_draw.kp (b_law_draw T) .nil pass0 (pa_cons (pv 2) (pa_cons pe_int pa_nil)))) (pa_cons (pe_op op_add pe_int (pe_call (ok_law_draw T) (hr.mono (by decide)) (by rfl) T.m__law_draw T.F_law_draw.kp (b_law_draw T) .nil pass0 (pa_cons (pv 2) (pa_cons pe_int pa_nil)))) pa_nil)) (by rfl))
      (pss_cons (ps_for PassesOwn.never rfl (pi_range1 (by rfl) T.n_range (pa_cons (pe_op op_mulW (pv 3) (pv 4)) pa_nil)) (pg_name (i := 5) sc_law.nd rfl (Or.inl rfl)) (pss_one (ps_if (PW.pt (pw_or (pt_not (pt_val (pe_call (ok_law_spot_right T) (hr.mono (by decide)) (by rfl) T.m__law_spot_right T.F_law_spot_right.kp (b_law_spot_right T) .nil pass0 (pa_cons (pv 3) (pa_cons (pv 4) (pa_cons (pv 5) pa_nil)))))) (pw_or1 (pt_not (pt_val (pe_call (ok_law_ring_right T) (hr.mono (by decide)) (by rfl) T.m__law_ring_right T.F_law_ring_right.kp (b_law_ring_right T) .nil pass0 (pa_cons (pv 3) (pa_cons (pv 4) (pa_cons (pv 5) pa_nil))))))))) (pss_one (ps_ret pe_bl)) pss_nil)))
      (pss_cons (ps_par (i := 3) (j := 4) rfl sc_law.nd rfl rfl (by decide) rfl rfl (pa_cons (pe_op op_add pe_int (pe_call (ok_law_draw T) (hr.mono (by decide)) (by rfl) T.m__law_draw T.F_law_draw.kp (b_law_draw T) .nil pass0 (pa_cons (pv 2) (pa_cons (pe_ix ix_list (pe_lst (pa_cons pe_int (pa_cons pe_int pa_nil))) (pe_call (ok_law_draw T) (hr.mono (by decide)) (by rfl) T.m__law_draw T.F_law_draw.kp (b_law_draw T) .nil pass0 (pa_cons (pv 2) (pa_cons pe_int pa_nil))) (fun _ _ => rfl)) pa_nil)))) (pa_cons (pe_op op_add pe_int (pe_call (ok_law_draw T) (hr.mono (by decide)) (by rfl) T.m__law_draw T.F_law_draw.kp (b_law_draw T) .nil pass0 (pa_cons (pv 2) (pa_cons pe_int pa_nil)))) pa_nil)) (by rfl))
      (pss_one (ps_for PassesOwn.never rfl (pi_list (pe_lst (pa_cons pe_int (pa_cons (pe_op op_sub (pe_op op_mulW (pv 3) (pv 4)) pe_int) (pa_cons (pe_call (ok_law_draw T) (hr.mono (by decide)) (by rfl) T.m__law_draw T.F_law_draw.kp (b_law_draw T) .nil pass0 (pa_cons (pv 2) (pa_cons (pe_op op_mulW (pv 3) (pv 4)) pa_nil))) (pa_cons (pe_call (ok_law_draw T) (hr.mono (by decide)) (by rfl) T.m__law_draw T.F_law_draw.kp (b_law_draw T) .nil pass0 (pa_cons (pv 2) (pa_cons (pe_op op_mulW (pv 3) (pv 4)) pa_nil))) pa_nil)))))) (pg_name (i := 5) sc_law.nd rfl (Or.inl rfl)) (pss_cons (ps_par (i := 6) (j := 7) rfl sc_law.nd rfl rfl (by decide) rfl rfl (pa_cons (pe_call (ok_law_draw T) (hr.mono (by decide)) (by rfl) T.m__law_draw T.F_law_draw.kp (b_law_draw T) .nil pass0 (pa_cons (pv 2) (pa_cons (pe_op op_powW pe_int pe_int) pa_nil))) (pa_cons (pe_call (ok_law_draw T) (hr.mono (by decide)) (by rfl) T.m__law_draw T.F_law_draw.kp (b_law_draw T) .nil pass0 (pa_cons (pv 2) (pa_cons (pe_op op_powW pe_int pe_int) pa_nil))) pa_nil)) (by rfl))
      (pss_cons (ps_if (PW.pt (pw_or (pt_not (pt_val (pe_call (ok_law_spot_right T) (hr.mono (by decide)) (by rfl) T.m__law_spot_right T.F_law_spot_right.kp (b_law_spot_right T) .nil pass0 (pa_cons (pv 3) (pa_cons (pv 4) (pa_cons (pv 5) pa_nil)))))) (pw_or1 (pt_not (pt_val (pe_call (ok_law_ring_right T) (hr.mono (by decide)) (by rfl) T.m__law_ring_right T.F_law_ring_right.kp (b_law_ring_right T) .nil pass0 (pa_cons (pv 3) (pa_cons (pv 4) (pa_cons (pv 5) pa_nil))))))))) (pss_one (ps_ret pe_bl)) pss_nil)
      (pss_cons (ps_if (pt_cmpR op_ne (pe_call (ok_turned T) (hr.mono (by decide)) (by rfl) T.m_turned T.F_turned.kp (bd_turned_4 T).choose_spec.2 (bd_turned_4 T).choose_spec.1 pass0 (pa_cons (pv 3) (pa_cons (pv 4) (pa_cons (pe_call (ok_turned T) (hr.mono (by decide)) (by rfl) T.m_turned T.F_turned.kp (bd_turned_4 T).choose_spec.2 (bd_turned_4 T).choose_spec.1 pass0 (pa_cons (pv 3) (pa_cons (pv 4) (pa_cons (pv 5) (pa_cons (pv 6) pa_nil))))) (pa_cons (pv 7) pa_nil))))) (pe_call (ok_turned T) (hr.mono (by decide)) (by rfl) T.m_turned T.F_turned.kp (bd_turned_4 T).choose_spec.2 (bd_turned_4 T).choose_spec.1 pass0 (pa_cons (pv 3) (pa_cons (pv 4) (pa_cons (pv 5) (pa_cons (pe_op op_add (pv 6) (pv 7)) pa_nil))))) (nomark _)) (pss_one (ps_ret pe_bl)) pss_nil)
      (pss_one (ps_if (pt_cmpR op_ne (pe_call (ok_turned T) (hr.mono (by decide)) (by rfl) T.m_turned T.F_turned.kp (bd_turned_4 T).choose_spec.2 (bd_turned_4 T).choose_spec.1 pass0 (pa_cons (pv 3) (pa_cons (pv 4) (pa_cons (pv 5) (pa_cons (pe_op op_mulW (pv 6) pe_int) pa_nil))))) (pe_call (ok_turned T) (hr.mono (by decide)) (by rfl) T.m_turned T.F_turned.kp (bd_turned_4 T).choose_spec.2 (bd_turned_4 T).choose_spec.1 pass0 (pa_cons (pv 3) (pa_cons (pv 4) (pa_cons (pe_call (ok_turned T) (hr.mono (by decide)) (by rfl) T.m_turned T.F_turned.kp (bd_turned_4 T).choose_spec.2 (bd_turned_4 T).choose_spec.1 pass0 (pa_cons (pv 3) (pa_cons (pv 4) (pa_cons (pv 5) (pa_cons (pv 6) pa_nil))))) (pa_cons (pv 6) pa_nil))))) (nomark _)) (pss_one (ps_ret pe_bl)) pss_nil))))))))))))
      (pss_one (ps_ret pe_bl))), rd_law T vs H Q E h⟩
end
end CP

namespace CP
open PySem L2
theorem dfl1 {K : PySem.W.Frag} {T : Addr} {oc : Value} {od : Option Addr} {its : Array Value} {n : Nat} {sl : Array (Option Value)} {dvs : List V} (hd : dvs ≠ []) (hl : K.lookup T = some ⟨oc, od, .seq its n, sl⟩) (hr : _root_.He.relAll dvs its.toList = true) : DflV K (.ref T) dvs := .inr ⟨hd, T, _, its.toList, n, rfl, hl, by simp, _root_.He.relAll_ok hr⟩
theorem all_mk {w : World} {l : PySem.W.OpenLaw} {K : PySem.W.Frag} {h : Heap} {mg : Str → Option Value} {fa : Addr} (X : K.In h) (G : h.Ns mainGlobals mg) (hfa : mg "law" = some (.ref fa))
    {fis_whole : Addr} {odis_whole anis_whole : Option Addr} {slis_whole : Array (Option Value)} {ocis_whole kVis_whole dcis_whole pmis_whole cdis_whole ctis_whole : Value}
    {fis_count : Addr} {odis_count anis_count : Option Addr} {slis_count : Array (Option Value)} {ocis_count kVis_count dcis_count pmis_count cdis_count ctis_count : Value}
    {fcheck_rows : Addr} {odcheck_rows ancheck_rows : Option Addr} {slcheck_rows : Array (Option Value)} {occheck_rows kVcheck_rows dccheck_rows pmcheck_rows cdcheck_rows ctcheck_rows : Value}
    {fcheck_place : Addr} {odcheck_place ancheck_place : Option Addr} {slcheck_place : Array (Option Value)} {occheck_place kVcheck_place dccheck_place pmcheck_place cdcheck_place ctcheck_place : Value}
    {fturned : Addr} {odturned anturned : Option Addr} {slturned : Array (Option Value)} {octurned kVturned dcturned pmturned cdturned ctturned : Value} {dVturned : Value}
    {fpower : Addr} {odpower anpower : Option Addr} {slpower : Array (Option Value)} {ocpower kVpower dcpower pmpower cdpower ctpower : Value}
    {fdivisor : Addr} {oddivisor andivisor : Option Addr} {sldivisor : Array (Option Value)} {ocdivisor kVdivisor dcdivisor pmdivisor cddivisor ctdivisor : Value}
    {fprimes : Addr} {odprimes anprimes : Option Addr} {slprimes : Array (Option Value)} {ocprimes kVprimes dcprimes pmprimes cdprimes ctprimes : Value}
    {funits : Addr} {odunits anunits : Option Addr} {slunits : Array (Option Value)} {ocunits kVunits dcunits pmunits cdunits ctunits : Value}
    {fparts_of : Addr} {odparts_of anparts_of : Option Addr} {slparts_of : Array (Option Value)} {ocparts_of kVparts_of dcparts_of pmparts_of cdparts_of ctparts_of : Value}
    {forder : Addr} {odorder anorder : Option Addr} {slorder : Array (Option Value)} {ocorder kVorder dcorder pmorder cdorder ctorder : Value}
    {fring_length : Addr} {odring_length anring_length : Option Addr} {slring_length : Array (Option Value)} {ocring_length kVring_length dcring_length pmring_length cdring_length ctring_length : Value}
    {flaw_purse : Addr} {odlaw_purse anlaw_purse : Option Addr} {sllaw_purse : Array (Option Value)} {oclaw_purse kVlaw_purse dclaw_purse pmlaw_purse cdlaw_purse ctlaw_purse : Value}
    {flaw_mixed : Addr} {odlaw_mixed anlaw_mixed : Option Addr} {sllaw_mixed : Array (Option Value)} {oclaw_mixed kVlaw_mixed dclaw_mixed pmlaw_mixed cdlaw_mixed ctlaw_mixed : Value}
    {flaw_draw : Addr} {odlaw_draw anlaw_draw : Option Addr} {sllaw_draw : Array (Option Value)} {oclaw_draw kVlaw_draw dclaw_draw pmlaw_draw cdlaw_draw ctlaw_draw : Value}
    {flaw_next : Addr} {odlaw_next anlaw_next : Option Addr} {sllaw_next : Array (Option Value)} {oclaw_next kVlaw_next dclaw_next pmlaw_next cdlaw_next ctlaw_next : Value}
    {flaw_spot_right : Addr} {odlaw_spot_right anlaw_spot_right : Option Addr} {sllaw_spot_right : Array (Option Value)} {oclaw_spot_right kVlaw_spot_right dclaw_spot_right pmlaw_spot_right cdlaw_spot_right ctlaw_spot_right : Value}
    {flaw_primes : Addr} {odlaw_primes anlaw_primes : Option Addr} {sllaw_primes : Array (Option Value)} {oclaw_primes kVlaw_primes dclaw_primes pmlaw_primes cdlaw_primes ctlaw_primes : Value}
    {flaw_ring_right : Addr} {odlaw_ring_right anlaw_ring_right : Option Addr} {sllaw_ring_right : Array (Option Value)} {oclaw_ring_right kVlaw_ring_right dclaw_ring_right pmlaw_ring_right cdlaw_ring_right ctlaw_ring_right : Value}
    {flaw : Addr} {odlaw anlaw : Option Addr} {sllaw : Array (Option Value)} {oclaw kVlaw dclaw pmlaw cdlaw ctlaw : Value}
    (ais_whole : PySem.W.nsIn K mainGlobals "is_whole" = some (some (.ref fis_whole)))
    (lis_whole : K.lookup fis_whole = some ⟨ocis_whole, odis_whole, .func (PySem.W.fnOf "is_whole" "is_whole" (defArgs s_is_whole) (defBody s_is_whole) (defScope s_is_whole) .none kVis_whole dcis_whole pmis_whole anis_whole cdis_whole ctis_whole), slis_whole⟩)
    (cis_whole : PySem.W.codeIn K cdis_whole "is_whole" = true) (kis_whole : PySem.W.keepIn K (.ref fis_whole) = true)
    (ais_count : PySem.W.nsIn K mainGlobals "is_count" = some (some (.ref fis_count)))
    (lis_count : K.lookup fis_count = some ⟨ocis_count, odis_count, .func (PySem.W.fnOf "is_count" "is_count" (defArgs s_is_count) (defBody s_is_count) (defScope s_is_count) .none kVis_count dcis_count pmis_count anis_count cdis_count ctis_count), slis_count⟩)
    (cis_count : PySem.W.codeIn K cdis_count "is_count" = true) (kis_count : PySem.W.keepIn K (.ref fis_count) = true)
    (acheck_rows : PySem.W.nsIn K mainGlobals "check_rows" = some (some (.ref fcheck_rows)))
    (lcheck_rows : K.lookup fcheck_rows = some ⟨occheck_rows, odcheck_rows, .func (PySem.W.fnOf "check_rows" "check_rows" (defArgs s_check_rows) (defBody s_check_rows) (defScope s_check_rows) .none kVcheck_rows dccheck_rows pmcheck_rows ancheck_rows cdcheck_rows ctcheck_rows), slcheck_rows⟩)
    (ccheck_rows : PySem.W.codeIn K cdcheck_rows "check_rows" = true) (kcheck_rows : PySem.W.keepIn K (.ref fcheck_rows) = true)
    (acheck_place : PySem.W.nsIn K mainGlobals "check_place" = some (some (.ref fcheck_place)))
    (lcheck_place : K.lookup fcheck_place = some ⟨occheck_place, odcheck_place, .func (PySem.W.fnOf "check_place" "check_place" (defArgs s_check_place) (defBody s_check_place) (defScope s_check_place) .none kVcheck_place dccheck_place pmcheck_place ancheck_place cdcheck_place ctcheck_place), slcheck_place⟩)
    (ccheck_place : PySem.W.codeIn K cdcheck_place "check_place" = true) (kcheck_place : PySem.W.keepIn K (.ref fcheck_place) = true)
    (aturned : PySem.W.nsIn K mainGlobals "turned" = some (some (.ref fturned)))
    (lturned : K.lookup fturned = some ⟨octurned, odturned, .func (PySem.W.fnOf "turned" "turned" (defArgs s_turned) (defBody s_turned) (defScope s_turned) dVturned kVturned dcturned pmturned anturned cdturned ctturned), slturned⟩) (dturned : DflV K dVturned [.int 1])
    (cturned : PySem.W.codeIn K cdturned "turned" = true) (kturned : PySem.W.keepIn K (.ref fturned) = true)
    (apower : PySem.W.nsIn K mainGlobals "power" = some (some (.ref fpower)))
    (lpower : K.lookup fpower = some ⟨ocpower, odpower, .func (PySem.W.fnOf "power" "power" (defArgs s_power) (defBody s_power) (defScope s_power) .none kVpower dcpower pmpower anpower cdpower ctpower), slpower⟩)
    (cpower : PySem.W.codeIn K cdpower "power" = true) (kpower : PySem.W.keepIn K (.ref fpower) = true)
    (adivisor : PySem.W.nsIn K mainGlobals "divisor" = some (some (.ref fdivisor)))
    (ldivisor : K.lookup fdivisor = some ⟨ocdivisor, oddivisor, .func (PySem.W.fnOf "divisor" "divisor" (defArgs s_divisor) (defBody s_divisor) (defScope s_divisor) .none kVdivisor dcdivisor pmdivisor andivisor cddivisor ctdivisor), sldivisor⟩)
    (cdivisor : PySem.W.codeIn K cddivisor "divisor" = true) (kdivisor : PySem.W.keepIn K (.ref fdivisor) = true)
    (aprimes : PySem.W.nsIn K mainGlobals "primes" = some (some (.ref fprimes)))
    (lprimes : K.lookup fprimes = some ⟨ocprimes, odprimes, .func (PySem.W.fnOf "primes" "primes" (defArgs s_primes) (defBody s_primes) (defScope s_primes) .none kVprimes dcprimes pmprimes anprimes cdprimes ctprimes), slprimes⟩)
    (cprimes : PySem.W.codeIn K cdprimes "primes" = true) (kprimes : PySem.W.keepIn K (.ref fprimes) = true)
    (aunits : PySem.W.nsIn K mainGlobals "units" = some (some (.ref funits)))
    (lunits : K.lookup funits = some ⟨ocunits, odunits, .func (PySem.W.fnOf "units" "units" (defArgs s_units) (defBody s_units) (defScope s_units) .none kVunits dcunits pmunits anunits cdunits ctunits), slunits⟩)
    (cunits : PySem.W.codeIn K cdunits "units" = true) (kunits : PySem.W.keepIn K (.ref funits) = true)
    (aparts_of : PySem.W.nsIn K mainGlobals "parts_of" = some (some (.ref fparts_of)))
    (lparts_of : K.lookup fparts_of = some ⟨ocparts_of, odparts_of, .func (PySem.W.fnOf "parts_of" "parts_of" (defArgs s_parts_of) (defBody s_parts_of) (defScope s_parts_of) .none kVparts_of dcparts_of pmparts_of anparts_of cdparts_of ctparts_of), slparts_of⟩)
    (cparts_of : PySem.W.codeIn K cdparts_of "parts_of" = true) (kparts_of : PySem.W.keepIn K (.ref fparts_of) = true)
    (aorder : PySem.W.nsIn K mainGlobals "order" = some (some (.ref forder)))
    (lorder : K.lookup forder = some ⟨ocorder, odorder, .func (PySem.W.fnOf "order" "order" (defArgs s_order) (defBody s_order) (defScope s_order) .none kVorder dcorder pmorder anorder cdorder ctorder), slorder⟩)
    (corder : PySem.W.codeIn K cdorder "order" = true) (korder : PySem.W.keepIn K (.ref forder) = true)
    (aring_length : PySem.W.nsIn K mainGlobals "ring_length" = some (some (.ref fring_length)))
    (lring_length : K.lookup fring_length = some ⟨ocring_length, odring_length, .func (PySem.W.fnOf "ring_length" "ring_length" (defArgs s_ring_length) (defBody s_ring_length) (defScope s_ring_length) .none kVring_length dcring_length pmring_length anring_length cdring_length ctring_length), slring_length⟩)
    (cring_length : PySem.W.codeIn K cdring_length "ring_length" = true) (kring_length : PySem.W.keepIn K (.ref fring_length) = true)
    (alaw_purse : PySem.W.nsIn K mainGlobals "_law_purse" = some (some (.ref flaw_purse)))
    (llaw_purse : K.lookup flaw_purse = some ⟨oclaw_purse, odlaw_purse, .func (PySem.W.fnOf "_law_purse" "_law_purse" (defArgs s_law_purse) (defBody s_law_purse) (defScope s_law_purse) .none kVlaw_purse dclaw_purse pmlaw_purse anlaw_purse cdlaw_purse ctlaw_purse), sllaw_purse⟩)
    (claw_purse : PySem.W.codeIn K cdlaw_purse "_law_purse" = true) (klaw_purse : PySem.W.keepIn K (.ref flaw_purse) = true)
    (alaw_mixed : PySem.W.nsIn K mainGlobals "_law_mixed" = some (some (.ref flaw_mixed)))
    (llaw_mixed : K.lookup flaw_mixed = some ⟨oclaw_mixed, odlaw_mixed, .func (PySem.W.fnOf "_law_mixed" "_law_mixed" (defArgs s_law_mixed) (defBody s_law_mixed) (defScope s_law_mixed) .none kVlaw_mixed dclaw_mixed pmlaw_mixed anlaw_mixed cdlaw_mixed ctlaw_mixed), sllaw_mixed⟩)
    (claw_mixed : PySem.W.codeIn K cdlaw_mixed "_law_mixed" = true) (klaw_mixed : PySem.W.keepIn K (.ref flaw_mixed) = true)
    (alaw_draw : PySem.W.nsIn K mainGlobals "_law_draw" = some (some (.ref flaw_draw)))
    (llaw_draw : K.lookup flaw_draw = some ⟨oclaw_draw, odlaw_draw, .func (PySem.W.fnOf "_law_draw" "_law_draw" (defArgs s_law_draw) (defBody s_law_draw) (defScope s_law_draw) .none kVlaw_draw dclaw_draw pmlaw_draw anlaw_draw cdlaw_draw ctlaw_draw), sllaw_draw⟩)
    (claw_draw : PySem.W.codeIn K cdlaw_draw "_law_draw" = true) (klaw_draw : PySem.W.keepIn K (.ref flaw_draw) = true)
    (alaw_next : PySem.W.nsIn K mainGlobals "_law_next" = some (some (.ref flaw_next)))
    (llaw_next : K.lookup flaw_next = some ⟨oclaw_next, odlaw_next, .func (PySem.W.fnOf "_law_next" "_law_next" (defArgs s_law_next) (defBody s_law_next) (defScope s_law_next) .none kVlaw_next dclaw_next pmlaw_next anlaw_next cdlaw_next ctlaw_next), sllaw_next⟩)
    (claw_next : PySem.W.codeIn K cdlaw_next "_law_next" = true) (klaw_next : PySem.W.keepIn K (.ref flaw_next) = true)
    (alaw_spot_right : PySem.W.nsIn K mainGlobals "_law_spot_right" = some (some (.ref flaw_spot_right)))
    (llaw_spot_right : K.lookup flaw_spot_right = some ⟨oclaw_spot_right, odlaw_spot_right, .func (PySem.W.fnOf "_law_spot_right" "_law_spot_right" (defArgs s_law_spot_right) (defBody s_law_spot_right) (defScope s_law_spot_right) .none kVlaw_spot_right dclaw_spot_right pmlaw_spot_right anlaw_spot_right cdlaw_spot_right ctlaw_spot_right), sllaw_spot_right⟩)
    (claw_spot_right : PySem.W.codeIn K cdlaw_spot_right "_law_spot_right" = true) (klaw_spot_right : PySem.W.keepIn K (.ref flaw_spot_right) = true)
    (alaw_primes : PySem.W.nsIn K mainGlobals "_law_primes" = some (some (.ref flaw_primes)))
    (llaw_primes : K.lookup flaw_primes = some ⟨oclaw_primes, odlaw_primes, .func (PySem.W.fnOf "_law_primes" "_law_primes" (defArgs s_law_primes) (defBody s_law_primes) (defScope s_law_primes) .none kVlaw_primes dclaw_primes pmlaw_primes anlaw_primes cdlaw_primes ctlaw_primes), sllaw_primes⟩)
    (claw_primes : PySem.W.codeIn K cdlaw_primes "_law_primes" = true) (klaw_primes : PySem.W.keepIn K (.ref flaw_primes) = true)
    (alaw_ring_right : PySem.W.nsIn K mainGlobals "_law_ring_right" = some (some (.ref flaw_ring_right)))
    (llaw_ring_right : K.lookup flaw_ring_right = some ⟨oclaw_ring_right, odlaw_ring_right, .func (PySem.W.fnOf "_law_ring_right" "_law_ring_right" (defArgs s_law_ring_right) (defBody s_law_ring_right) (defScope s_law_ring_right) .none kVlaw_ring_right dclaw_ring_right pmlaw_ring_right anlaw_ring_right cdlaw_ring_right ctlaw_ring_right), sllaw_ring_right⟩)
    (claw_ring_right : PySem.W.codeIn K cdlaw_ring_right "_law_ring_right" = true) (klaw_ring_right : PySem.W.keepIn K (.ref flaw_ring_right) = true)
    (alaw : PySem.W.nsIn K mainGlobals "law" = some (some (.ref flaw)))
    (llaw : K.lookup flaw = some ⟨oclaw, odlaw, .func (PySem.W.fnOf "law" "law" (defArgs s_law) (defBody s_law) (defScope s_law) .none kVlaw dclaw pmlaw anlaw cdlaw ctlaw), sllaw⟩)
    (claw : PySem.W.codeIn K cdlaw "law" = true) (klaw : PySem.W.keepIn K (.ref flaw) = true)
    (nbool : PySem.W.nsIn K mainGlobals "bool" = some none)
    (nint : PySem.W.nsIn K mainGlobals "int" = some none)
    (nisinstance : PySem.W.nsIn K mainGlobals "isinstance" = some none)
    (nlen : PySem.W.nsIn K mainGlobals "len" = some none)
    (nlist : PySem.W.nsIn K mainGlobals "list" = some none)
    (nmax : PySem.W.nsIn K mainGlobals "max" = some none)
    (nmin : PySem.W.nsIn K mainGlobals "min" = some none)
    (nrange : PySem.W.nsIn K mainGlobals "range" = some none)
    (nset : PySem.W.nsIn K mainGlobals "set" = some none)
    (nsorted : PySem.W.nsIn K mainGlobals "sorted" = some none)
    (nsum : PySem.W.nsIn K mainGlobals "sum" = some none)
    : ∃ fd : FuncData, (∀ (s : Shared) (v : Value), BindsTo s fd ⟨[v], []⟩ [("_law_script", v)]) ∧ ∀ base : Heap, K.In base → base.Ns mainGlobals mg → FnOk l.prog w K mg base CX0 6 fa fd ["_law_script"] (sp_top K) := by
  have e := hfa.symm.trans (PySem.W.mg_of X G alaw)
  cases e
  let T : Txt K mg := {
    a_is_whole := fis_whole, fd_is_whole := _,
    F_is_whole := fun_mk (st := s_is_whole) lis_whole cis_whole kis_whole,
    m_is_whole := PySem.W.mg_of X G ais_whole,
    a_is_count := fis_count, fd_is_count := _,
    F_is_count := fun_mk (st := s_is_count) lis_count cis_count kis_count,
    m_is_count := PySem.W.mg_of X G ais_count,
    a_check_rows := fcheck_rows, fd_check_rows := _,
    F_check_rows := fun_mk (st := s_check_rows) lcheck_rows ccheck_rows kcheck_rows,
    m_check_rows := PySem.W.mg_of X G acheck_rows,
    a_check_place := fcheck_place, fd_check_place := _,
    F_check_place := fun_mk (st := s_check_place) lcheck_place ccheck_place kcheck_place,
    m_check_place := PySem.W.mg_of X G acheck_place,
    a_turned := fturned, fd_turned := _,
    F_turned := ⟨⟨octurned, odturned, dVturned, kVturned, dcturned, pmturned, anturned, cdturned, ctturned, slturned, rfl, lturned, cturned, dturned, .inl rfl⟩, kturned⟩,
    m_turned := PySem.W.mg_of X G aturned,
    a_power := fpower, fd_power := _,
    F_power := fun_mk (st := s_power) lpower cpower kpower,
    m_power := PySem.W.mg_of X G apower,
    a_divisor := fdivisor, fd_divisor := _,
    F_divisor := fun_mk (st := s_divisor) ldivisor cdivisor kdivisor,
    m_divisor := PySem.W.mg_of X G adivisor,
    a_primes := fprimes, fd_primes := _,
    F_primes := fun_mk (st := s_primes) lprimes cprimes kprimes,
    m_primes := PySem.W.mg_of X G aprimes,
    a_units := funits, fd_units := _,
    F_units := fun_mk (st := s_units) lunits cunits kunits,
    m_units := PySem.W.mg_of X G aunits,
    a_parts_of := fparts_of, fd_parts_of := _,
    F_parts_of := fun_mk (st := s_parts_of) lparts_of cparts_of kparts_of,
    m_parts_of := PySem.W.mg_of X G aparts_of,
    a_order := forder, fd_order := _,
    F_order := fun_mk (st := s_order) lorder corder korder,
    m_order := PySem.W.mg_of X G aorder,
    a_ring_length := fring_length, fd_ring_length := _,
    F_ring_length := fun_mk (st := s_ring_length) lring_length cring_length kring_length,
    m_ring_length := PySem.W.mg_of X G aring_length,
    a_law_purse := flaw_purse, fd_law_purse := _,
    F_law_purse := fun_mk (st := s_law_purse) llaw_purse claw_purse klaw_purse,
    m__law_purse := PySem.W.mg_of X G alaw_purse,
    a_law_mixed := flaw_mixed, fd_law_mixed := _,
    F_law_mixed := fun_mk (st := s_law_mixed) llaw_mixed claw_mixed klaw_mixed,
    m__law_mixed := PySem.W.mg_of X G alaw_mixed,
    a_law_draw := flaw_draw, fd_law_draw := _,
    F_law_draw := fun_mk (st := s_law_draw) llaw_draw claw_draw klaw_draw,
    m__law_draw := PySem.W.mg_of X G alaw_draw,
    a_law_next := flaw_next, fd_law_next := _,
    F_law_next := fun_mk (st := s_law_next) llaw_next claw_next klaw_next,
    m__law_next := PySem.W.mg_of X G alaw_next,
    a_law_spot_right := flaw_spot_right, fd_law_spot_right := _,
    F_law_spot_right := fun_mk (st := s_law_spot_right) llaw_spot_right claw_spot_right klaw_spot_right,
    m__law_spot_right := PySem.W.mg_of X G alaw_spot_right,
    a_law_primes := flaw_primes, fd_law_primes := _,
    F_law_primes := fun_mk (st := s_law_primes) llaw_primes claw_primes klaw_primes,
    m__law_primes := PySem.W.mg_of X G alaw_primes,
    a_law_ring_right := flaw_ring_right, fd_law_ring_right := _,
    F_law_ring_right := fun_mk (st := s_law_ring_right) llaw_ring_right claw_ring_right klaw_ring_right,
    m__law_ring_right := PySem.W.mg_of X G alaw_ring_right,
    a_law := fa, fd_law := _,
    F_law := fun_mk (st := s_law) llaw claw klaw,
    m_law := PySem.W.mg_of X G alaw,
    n_bool := PySem.W.mg_none_of X G nbool,
    n_int := PySem.W.mg_none_of X G nint,
    n_isinstance := PySem.W.mg_none_of X G nisinstance,
    n_len := PySem.W.mg_none_of X G nlen,
    n_list := PySem.W.mg_none_of X G nlist,
    n_max := PySem.W.mg_none_of X G nmax,
    n_min := PySem.W.mg_none_of X G nmin,
    n_range := PySem.W.mg_none_of X G nrange,
    n_set := PySem.W.mg_none_of X G nset,
    n_sorted := PySem.W.mg_none_of X G nsorted,
    n_sum := PySem.W.mg_none_of X G nsum }
  exact ⟨PySem.W.fnOf "law" "law" (defArgs s_law) (defBody s_law) (defScope s_law) .none kVlaw dclaw pmlaw anlaw cdlaw ctlaw, fun s v => .of_eq rfl, fun base _ _ => (ok_law T).imp fun vs H Q E z => sp_law_top T vs H Q E z⟩
theorem walk {l : PySem.W.OpenLaw} {q : Program} {loose : List Str} {XP : (Str → Option Value) → Heap → Prop} {YP : World → Heap → Prop} {d : DefRec} {K : Params → PySem.W.Frag} (hn : l.most = some 63) (hdf : d.params.defaults = [])
    (hY : ∀ (w : World) (h : Heap), YP w h → (K w.params).In h)
    (F : ∀ (w : World) (mg : Str → Option Value) (fa : Addr) (h : Heap), (K w.params).In h → h.Ns mainGlobals mg → mg d.name = some (.ref fa) →
      ∃ fd : FuncData, (∀ (s : Shared) (u : Value), BindsTo s fd ⟨[u], []⟩ [("_law_script", u)]) ∧ ∀ base : Heap, (K w.params).In base → base.Ns mainGlobals mg → FnOk l.prog w (K w.params) mg base CX0 6 fa fd ["_law_script"] (sp_top (K w.params))) :
    PySem.W.WalkO q loose XP YP l.row.toRowW d [] (fun f vs => PySem.call f vs) :=
  L2.walk_of (n := 63) (k := 6) (x := "_law_script") (CX := fun _ => CX0) (sp := fun w => sp_top (K w.params)) hn (by decide) hdf ⟨rfl, by decide, by decide⟩ hY F (fun _ _ a ns hl _ hS => ⟨a, ns, rfl, hS, hl, fun _ => rfl⟩) fun _ _ _ _ _ z => z
end CP
open PySem PySem.W PyProof.Rows
set_option maxRecDepth 100000 in
set_option maxHeartbeats 0 in
theorem PySem.Challenge.cw_cellplaces_k71_whole_turns_holds : PySem.Challenge.rw_cellplaces_k71_whole_turns.Holds := by
  w_on; o_law; k_head; (case hw => w_witness2)
  k_fill
  refine CP.walk (l := PySem.Challenge.rw_cellplaces_k71_whole_turns) rfl rfl (fun w h Y => PySem.W.kIn_of Y) ?F
  case F =>
    intro w mg fa h KX G hmg
    refine' CP.all_mk KX G hmg ?ais_whole ?lis_whole ?cis_whole ?kis_whole ?ais_count ?lis_count ?cis_count ?kis_count ?acheck_rows ?lcheck_rows ?ccheck_rows ?kcheck_rows ?acheck_place ?lcheck_place ?ccheck_place ?kcheck_place ?aturned ?lturned ?dturned ?cturned ?kturned ?apower ?lpower ?cpower ?kpower ?adivisor ?ldivisor ?cdivisor ?kdivisor ?aprimes ?lprimes ?cprimes ?kprimes ?aunits ?lunits ?cunits ?kunits ?aparts_of ?lparts_of ?cparts_of ?kparts_of ?aorder ?lorder ?corder ?korder ?aring_length ?lring_length ?cring_length ?kring_length ?alaw_purse ?llaw_purse ?claw_purse ?klaw_purse ?alaw_mixed ?llaw_mixed ?claw_mixed ?klaw_mixed ?alaw_draw ?llaw_draw ?claw_draw ?klaw_draw ?alaw_next ?llaw_next ?claw_next ?klaw_next ?alaw_spot_right ?llaw_spot_right ?claw_spot_right ?klaw_spot_right ?alaw_primes ?llaw_primes ?claw_primes ?klaw_primes ?alaw_ring_right ?llaw_ring_right ?claw_ring_right ?klaw_ring_right ?alaw ?llaw ?claw ?klaw ?nbool ?nint ?nisinstance ?nlen ?nlist ?nmax ?nmin ?nrange ?nset ?nsorted ?nsum
    (case ais_whole => k_is)
    (case lis_whole => k_is)
    (case cis_whole => k_is)
    (case kis_whole => k_is)
    (case ais_count => k_is)
    (case lis_count => k_is)
    (case cis_count => k_is)
    (case kis_count => k_is)
    (case acheck_rows => k_is)
    (case lcheck_rows => k_is)
    (case ccheck_rows => k_is)
    (case kcheck_rows => k_is)
    (case acheck_place => k_is)
    (case lcheck_place => k_is)
    (case ccheck_place => k_is)
    (case kcheck_place => k_is)
    (case aturned => k_is)
    (case lturned => k_is)
    (case dturned => refine' CP.dfl1 (List.cons_ne_nil _ _) ?zzl ?zzr; (case zzl => k_is); (case zzr => rfl))
    (case cturned => k_is)
    (case kturned => k_is)
    (case apower => k_is)
    (case lpower => k_is)
    (case cpower => k_is)
    (case kpower => k_is)
    (case adivisor => k_is)
    (case ldivisor => k_is)
    (case cdivisor => k_is)
    (case kdivisor => k_is)
    (case aprimes => k_is)
    (case lprimes => k_is)
    (case cprimes => k_is)
    (case kprimes => k_is)
    (case aunits => k_is)
    (case lunits => k_is)
    (case cunits => k_is)
    (case kunits => k_is)
    (case aparts_of => k_is)
    (case lparts_of => k_is)
    (case cparts_of => k_is)
    (case kparts_of => k_is)
    (case aorder => k_is)
    (case lorder => k_is)
    (case corder => k_is)
    (case korder => k_is)
    (case aring_length => k_is)
    (case lring_length => k_is)
    (case cring_length => k_is)
    (case kring_length => k_is)
    (case alaw_purse => k_is)
    (case llaw_purse => k_is)
    (case claw_purse => k_is)
    (case klaw_purse => k_is)
    (case alaw_mixed => k_is)
    (case llaw_mixed => k_is)
    (case claw_mixed => k_is)
    (case klaw_mixed => k_is)
    (case alaw_draw => k_is)
    (case llaw_draw => k_is)
    (case claw_draw => k_is)
    (case klaw_draw => k_is)
    (case alaw_next => k_is)
    (case llaw_next => k_is)
    (case claw_next => k_is)
    (case klaw_next => k_is)
    (case alaw_spot_right => k_is)
    (case llaw_spot_right => k_is)
    (case claw_spot_right => k_is)
    (case klaw_spot_right => k_is)
    (case alaw_primes => k_is)
    (case llaw_primes => k_is)
    (case claw_primes => k_is)
    (case klaw_primes => k_is)
    (case alaw_ring_right => k_is)
    (case llaw_ring_right => k_is)
    (case claw_ring_right => k_is)
    (case klaw_ring_right => k_is)
    (case alaw => k_is)
    (case llaw => k_is)
    (case claw => k_is)
    (case klaw => k_is)
    (case nbool => k_is)
    (case nint => k_is)
    (case nisinstance => k_is)
    (case nlen => k_is)
    (case nlist => k_is)
    (case nmax => k_is)
    (case nmin => k_is)
    (case nrange => k_is)
    (case nset => k_is)
    (case nsorted => k_is)
    (case nsum => k_is)
